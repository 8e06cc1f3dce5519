import PyProof.Rows.All
import Wide.All
import OpenK.AllK
import Wide.FinOn
import Lean
import PySem.Challenge.RW_sz0073_01
open PySem PySem.W PyProof.Rows
set_option Elab.async false
set_option maxRecDepth 100000
set_option linter.unusedVariables false
namespace Mine
set_option maxHeartbeats 0 in
open_top hd for PySem.Challenge.rw_sz0073_01
end Mine
namespace Mine
open PySem PySem.W PySem.Calls PySem.Spec PyProof.Rows

abbrev Pg : Program := PySem.Challenge.rw_sz0073_01.prog
abbrev MM (w : World) : Model := model Pg w
noncomputable abbrev KK (w : World) : Frag := Mine.hd.heap_39 w.params
def NoE : Value → Shared → Prop := fun _ _ => False

abbrev Im := Addr → Option Obj
def vw (h : Heap) (Mu : List Addr) : Im := fun b => if b ∈ Mu then none else h.get? b
def Ext (h h' : Heap) : Prop := ∀ b o, h.get? b = some o → h'.get? b = some o
def Sub (I J : Im) : Prop := ∀ b o, I b = some o → J b = some o
theorem Ext.refl {h : Heap} : Ext h h := fun _ _ e => e
theorem Sub.refl {I : Im} : Sub I I := fun _ _ e => e
theorem vw_get {h : Heap} {Mu : List Addr} {b : Addr} {o : Obj} (e : vw h Mu b = some o) : h.get? b = some o := by
  unfold vw at e
  split at e
  · cases e
  · exact e
theorem vw_out {h : Heap} {Mu : List Addr} {b : Addr} {o : Obj} (e : vw h Mu b = some o) : b ∉ Mu := by
  unfold vw at e
  split at e
  · cases e
  · assumption
theorem vw_in {h : Heap} {Mu : List Addr} {b : Addr} {o : Obj} (e : h.get? b = some o) (n : b ∉ Mu) : vw h Mu b = some o := by
  unfold vw; rw [if_neg n]; exact e
theorem vw_ext {h h' : Heap} {Mu : List Addr} (x : Ext h h') : Sub (vw h Mu) (vw h' Mu) := fun _ _ e => vw_in (x _ _ (vw_get e)) (vw_out e)
theorem vw_less {h : Heap} {Mu Mu' : List Addr} (x : ∀ a ∈ Mu', a ∈ Mu) : Sub (vw h Mu) (vw h Mu') := fun _ _ e => vw_in (vw_get e) fun m => vw_out e (x _ m)

inductive D where
  | none
  | bool (b : Bool)
  | int (i : Int)
  | str (x : Str)
  | list (ds : List D)
  | tup (ds : List D)
  | node (k : Str) (ln : Int) (ps : List D)

mutual
inductive Rp (I : Im) : Value → D → Prop
  | none : Rp I Value.none D.none
  | bool (b : Bool) : Rp I (Value.bool b) (D.bool b)
  | int (i : Int) (t : Tok) : Rp I (Value.int i t) (D.int i)
  | str (x : Str) (t : Tok) : Rp I (Value.str x t) (D.str x)
  | list {a : Addr} {vs : List Value} {n : Nat} {ds : List D} : I a = some (listOf vs.toArray n) → Rps I vs ds → Rp I (Value.ref a) (D.list ds)
  | tup {a : Addr} {vs : List Value} {n : Nat} {ds : List D} : I a = some ({ cls := .type "tuple", data := .seq vs.toArray n } : Obj) → Rps I vs ds → Rp I (Value.ref a) (D.tup ds)
  | node {a dx : Addr} {es : List DictEntry} {n : Nat} {k : Str} {ln : Int} {ps : List D} {tk tl : Tok} {v : Value} :
      I a = some (instObj 31 dx) → I dx = some (dictOf es n) → getL "kind" es = some (some (.str k tk)) → getL "line" es = some (some (.int ln tl)) → getL "parts" es = some (some v) →
      Rp I v (D.list ps) → Rp I (Value.ref a) (D.node k ln ps)
inductive Rps (I : Im) : List Value → List D → Prop
  | nil : Rps I [] []
  | cons {v : Value} {vs : List Value} {d : D} {ds : List D} : Rp I v d → Rps I vs ds → Rps I (v :: vs) (d :: ds)
end
mutual
theorem Rp.mono {I J : Im} (hs : Sub I J) : ∀ {v : Value} {d : D}, Rp I v d → Rp J v d
  | _, _, .none => .none
  | _, _, .bool b => .bool b
  | _, _, .int i t => .int i t
  | _, _, .str x t => .str x t
  | _, _, .list h r => .list (hs _ _ h) (Rps.mono hs r)
  | _, _, .tup h r => .tup (hs _ _ h) (Rps.mono hs r)
  | _, _, .node h1 h2 h3 h4 h5 r => .node (hs _ _ h1) (hs _ _ h2) h3 h4 h5 (Rp.mono hs r)
theorem Rps.mono {I J : Im} (hs : Sub I J) : ∀ {vs : List Value} {ds : List D}, Rps I vs ds → Rps J vs ds
  | _, _, .nil => .nil
  | _, _, .cons h r => .cons (Rp.mono hs h) (Rps.mono hs r)
end
section
variable {I : Im} {v : Value} {d : D} {vs ws : List Value} {ds es : List D}
theorem Rps.length (h : Rps I vs ds) : vs.length = ds.length := by
  induction vs generalizing ds with
  | nil => cases h; rfl
  | cons v vs ih => cases h with | cons _ r => rw [List.length_cons, List.length_cons, ih r]
theorem Rps.append (h : Rps I vs ds) (k : Rps I ws es) : Rps I (vs ++ ws) (ds ++ es) := by
  induction vs generalizing ds with
  | nil => cases h; exact k
  | cons v vs ih => cases h with | cons h r => exact .cons h (ih r)
theorem Rps.one (h : Rp I v d) : Rps I [v] [d] := .cons h .nil
theorem Rps.reverse (h : Rps I vs ds) : Rps I vs.reverse ds.reverse := by
  induction vs generalizing ds with
  | nil => cases h; exact .nil
  | cons v vs ih => cases h with | cons h r => rw [List.reverse_cons, List.reverse_cons]; exact (ih r).append (.one h)
theorem Rps.get (h : Rps I vs ds) {k : Nat} {d : D} (hk : ds[k]? = some d) : ∃ v, vs[k]? = some v ∧ Rp I v d := by
  induction vs generalizing ds k with
  | nil => cases h; cases hk
  | cons v vs ih =>
    cases h with
    | cons h r =>
      cases k with
      | zero => cases hk; exact ⟨v, rfl, h⟩
      | succ k => exact ih r hk
theorem Rps.drop (h : Rps I vs ds) (k : Nat) : Rps I (vs.drop k) (ds.drop k) := by
  induction vs generalizing ds k with
  | nil => cases h; rw [List.drop_nil, List.drop_nil]; exact .nil
  | cons v vs ih =>
    cases h with
    | cons h r =>
      cases k with
      | zero => exact .cons h r
      | succ k => exact ih r k
theorem Rps.take (h : Rps I vs ds) (k : Nat) : Rps I (vs.take k) (ds.take k) := by
  induction vs generalizing ds k with
  | nil => cases h; rw [List.take_nil, List.take_nil]; exact .nil
  | cons v vs ih =>
    cases h with
    | cons h r =>
      cases k with
      | zero => exact .nil
      | succ k => exact .cons h (ih r k)
theorem Rps.right_snoc (h : Rps I vs (ds ++ [d])) : ∃ us v, vs = us ++ [v] ∧ Rps I us ds ∧ Rp I v d := by
  induction ds generalizing vs with
  | nil => cases h with | cons h r => cases r; exact ⟨[], _, rfl, .nil, h⟩
  | cons u ds ih =>
    cases h with
    | cons h r =>
      obtain ⟨us, v, rfl, hr, hd⟩ := ih r
      exact ⟨_ :: us, v, rfl, .cons h hr, hd⟩
end

/-- what stands of the text -/
structure Gl (w : World) (h : Heap) : Prop where
  X : (KK w).In h
  T : ∃ mg mb, TopRead Mine.hd.view_39 [] mg mb h
theorem Gl.keeps {w : World} {h h' : Heap} (g : Gl w h) (x : Ext h h') : Gl w h' := ⟨Frag.In.keeps g.X x, let ⟨mg, mb, t⟩ := g.T; ⟨mg, mb, t.keeps x⟩⟩

structure Aok (n : Nat) (A : Around) : Prop where
  hand : A.handled = none
  depth : A.depth + n < 900
  units : A.units + 100 * n < 9000
theorem Aok.less {n m : Nat} {A : Around} (a : Aok n A) (h : m ≤ n) : Aok m A := ⟨a.hand, by have := a.depth; omega, by have := a.units; omega⟩
theorem Aok.deeper {n : Nat} {A : Around} {env : Env} (a : Aok (n + 1) A) : Aok n (A.deeper env) := ⟨a.hand, by have := a.depth; show A.depth + 1 + n < 900; omega, by have := a.units; show A.units + 3 + 100 * n < 9000; omega⟩
theorem Aok.room {n : Nat} {A : Around} (a : Aok n A) : A.depth < recursionLimit := by have := a.depth; show A.depth < 1000; omega
theorem Aok.un {n : Nat} {A : Around} (a : Aok n A) : A.units + 400 < cLine := by have := a.units; show A.units + 400 < 9900; omega

/-- a name's value -/
def Rd (env : Env) (h : Heap) (x : Str) (v : Value) : Prop :=
  env.scope.kind = .function ∧ ((∃ m, h.Ns env.locals m ∧ m x = some v ∧ env.kindOf x = some .local) ∨
    (∃ c, env.kindOf x = some .cell ∧ env.cells.lookup x = some c ∧ h.IsCell c (some v)))
theorem Rd.keeps {env : Env} {h h' : Heap} {x : Str} {v : Value} (r : Rd env h x v) (k : Ext h h') : Rd env h' x v := by
  obtain ⟨a, b⟩ := r
  refine ⟨a, ?_⟩
  rcases b with ⟨m, h1, h2, h3⟩ | ⟨c, h1, h2, h3⟩
  · exact .inl ⟨m, h1.keeps k, h2, h3⟩
  · exact .inr ⟨c, h1, h2, h3.keeps k⟩
/-- a dict that is turned no more, its keys tuples of ints -/
def DctIs (I : Im) (w : World) (xs : List (List Int × D)) (v : Value) : Prop :=
  ∃ (a : Addr) (ys : List (List Int × Addr × Value)) (o : Obj) (es : Array DictEntry) (ep : Nat), v = .ref a ∧ I a = some o ∧ o.ExactDict ∧ o.data = .dict es ep ∧ es.toList = ys.map (entryOfKey (tupleKind (intKind Pg w))) ∧ (ys.map (·.1)).Nodup ∧
    (∀ y ∈ ys, Rp I (.ref y.2.1) (.tup (y.1.map .int))) ∧ ys.map (·.1) = xs.map (·.1) ∧ Rps I (ys.map (·.2.2)) (xs.map (·.2))
theorem DctIs.mono {I J : Im} {w : World} {xs : List (List Int × D)} {v : Value} (hs : Sub I J) (h : DctIs I w xs v) : DctIs J w xs v := by
  obtain ⟨a, ys, o, es, ep, h1, h2, h3, h4, h5, h6, h7, h8, h9⟩ := h
  exact ⟨a, ys, o, es, ep, h1, hs _ _ h2, h3, h4, h5, h6, fun y hy => Rp.mono hs (h7 y hy), h8, Rps.mono hs h9⟩
inductive GV where
  | im (x : D)
  | raw (u : Value)
  | dct (w : World) (xs : List (List Int × D))
def GV.Is (I : Im) : GV → Value → Prop
  | .im d, v => Rp I v d
  | .raw u, v => v = u
  | .dct w xs, v => DctIs I w xs v
theorem GV.Is.mono {I J : Im} (hs : Sub I J) {g : GV} {v : Value} (h : g.Is I v) : g.Is J v := by
  cases g with
  | im x => exact Rp.mono hs h
  | raw u => exact h
  | dct w xs => exact DctIs.mono hs h
abbrev Gm := List (Str × GV)
structure Rdy (env : Env) (Mu : List Addr) (γ : Gm) (h : Heap) : Prop where
  mok : ∀ a ∈ Mu, ∃ o, h.get? a = some o
  var : ∀ x g, γ.lookup x = some g → ∃ v, g.Is (vw h Mu) v ∧ Rd env h x v
theorem Rdy.keeps {env : Env} {Mu : List Addr} {γ : Gm} {h h' : Heap} (r : Rdy env Mu γ h) (k : Ext h h') : Rdy env Mu γ h' :=
  ⟨fun a m => let ⟨o, e⟩ := r.mok a m; ⟨o, k _ _ e⟩, fun x g e => let ⟨v, a, b⟩ := r.var x g e; ⟨v, a.mono (vw_ext k), b.keeps k⟩⟩

theorem keeps_ext {s s' : Shared} (k : Keeps s s') : Ext s.heap s'.heap := by
  obtain ⟨h', tk, rfl, e⟩ := k; exact e
theorem keeps_refl {s : Shared} : Keeps s s := ⟨s.heap, s.toks, rfl, fun _ _ e => e⟩
theorem keeps_trans {a b c : Shared} (x : Keeps a b) (y : Keeps b c) : Keeps a c := by
  obtain ⟨h, t, rfl, e⟩ := x
  obtain ⟨h', t', rfl, e'⟩ := y
  exact ⟨h', t', rfl, fun b o q => e' b o (e b o q)⟩
theorem keeps_tok {s : Shared} {t : Nat} : Keeps s { s with toks := t } := ⟨s.heap, t, rfl, fun _ _ e => e⟩
end Mine
namespace Mine
open PySem PySem.W PySem.Calls PySem.Spec PyProof.Rows

/-! the text's own facts -/
theorem node_get (w : World) (x : Str) (h : x = "kind" ∨ x = "line" ∨ x = "parts") : plainGet (KK w) 31 x = true ∧ hasDictIn (KK w) 31 = true ∧ findIn (KK w) (.ref 31) x = some none ∧ noGet (KK w) none = true := by
  rcases h with rfl | rfl | rfl <;> exact ⟨by kernel_rfl, by kernel_rfl, by kernel_rfl, by kernel_rfl⟩

theorem rd_eval {M : Model} {A : Around} {env : Env} {x : Str} {pos : Pos} {v : Value} {s : Shared} {Q : Value → Shared → Prop} {E : Value → Shared → Prop} (r : Rd env s.heap x v) (h : Q v s) (hd : (x == ("__debug__" : Str)) = false := by decide) :
    wpAny M A (eval (.Name x pos) env) Q E s := by
  obtain ⟨a, b⟩ := r
  rcases b with ⟨m, h1, h2, h3⟩ | ⟨c, h1, h2, h3⟩
  · exact wpAny_Name (wpAny_loadName_local a h3 h1 h2 h) hd
  · exact wpAny_Name (wpAny_loadName_cell a h1 h2 h3 h) hd

section
variable {w : World} {A : Around} {env : Env} {Mu : List Addr} {γ : Gm}
/-- an expression tells a datum, and turns nothing that stands -/
def Ev (w : World) (A : Around) (env : Env) (Mu : List Addr) (γ : Gm) (e : Expr) (d : D) : Prop :=
  ∀ s : Shared, Gl w s.heap → Rdy env Mu γ s.heap → wpAny (MM w) A (eval e env) (fun v s' => Keeps s s' ∧ Rp (vw s'.heap Mu) v d) NoE s
/-- a test -/
def EvT (w : World) (A : Around) (env : Env) (Mu : List Addr) (γ : Gm) (e : Expr) (b : Bool) : Prop :=
  ∀ s : Shared, Gl w s.heap → Rdy env Mu γ s.heap → wpAny (MM w) A (isTrue e env (eval e env)) (fun c s' => Keeps s s' ∧ c = b) NoE s

theorem Ev.use {e : Expr} {d : D} {s s₀ : Shared} {Q : Value → Shared → Prop} (E : Ev w A env Mu γ e d) (k : Keeps s₀ s) (g : Gl w s₀.heap) (r : Rdy env Mu γ s₀.heap) (h : ∀ v s', Keeps s₀ s' → Keeps s s' → Rp (vw s'.heap Mu) v d → Q v s') :
    wpAny (MM w) A (eval e env) Q NoE s :=
  wpAny_mono (E s (g.keeps (keeps_ext k)) (r.keeps (keeps_ext k))) (fun v s' ⟨a, b⟩ => h v s' (keeps_trans k a) a b) fun _ _ x => x
theorem EvT.use {e : Expr} {b : Bool} {s s₀ : Shared} {Q : Bool → Shared → Prop} (E : EvT w A env Mu γ e b) (k : Keeps s₀ s) (g : Gl w s₀.heap) (r : Rdy env Mu γ s₀.heap) (h : ∀ s', Keeps s₀ s' → Keeps s s' → Q b s') :
    wpAny (MM w) A (isTrue e env (eval e env)) Q NoE s :=
  wpAny_mono (E s (g.keeps (keeps_ext k)) (r.keeps (keeps_ext k))) (fun v s' ⟨a, b⟩ => b ▸ h s' (keeps_trans k a) a) fun _ _ x => x

theorem Ev.name {x : Str} {pos : Pos} {d : D} (e : γ.lookup x = some (.im d) := by rfl) (hd : (x == ("__debug__" : Str)) = false := by decide) : Ev w A env Mu γ (.Name x pos) d := fun s _ r =>
  let ⟨_, a, b⟩ := r.var x _ e
  rd_eval b ⟨keeps_refl, a⟩ hd
theorem Ev.str {x : Str} {k : Nat} {pos : Pos} : Ev w A env Mu γ (.Constant (.str x) k pos) (.str x) := fun s _ _ => Calls.Constant_str ⟨keeps_tok, .str x _⟩
theorem Ev.int {i : Int} {k : Nat} {pos : Pos} : Ev w A env Mu γ (.Constant (.int i) k pos) (.int i) := fun s _ _ => wpAny_Constant_int ⟨keeps_tok, .int i _⟩
theorem Ev.none {k : Nat} {pos : Pos} : Ev w A env Mu γ (.Constant .none k pos) .none := fun s _ _ => wpAny_Constant_none ⟨keeps_refl, .none⟩
theorem Ev.bool {b : Bool} {k : Nat} {pos : Pos} : Ev w A env Mu γ (.Constant (.bool b) k pos) (.bool b) := fun s _ _ => Constant_bool ⟨keeps_refl, .bool b⟩

theorem get_field {s : Shared} {a dx : Addr} {es : List DictEntry} {n : Nat} {x : Str} {v : Value} {ex : Bool} {Q : Value → Shared → Prop} (g : Gl w s.heap) (h1 : s.heap.get? a = some (instObj 31 dx)) (h2 : s.heap.get? dx = some (dictOf es n))
    (hx : x = "kind" ∨ x = "line" ∨ x = "parts") (hl : getL x es = some (some v)) (hv : handedIn v = true) (h : Q v { s with toks := s.toks + 1 }) : wpAny (MM w) A (getAttr (.ref a) x ex) Q NoE s := by
  obtain ⟨p1, p2, p3, p4⟩ := node_get w x hx
  have I : W.InstAt s.heap a (instObj 31 dx) 31 (some (dictOf es n)) := ⟨h1, rfl, rfl, h2⟩
  exact get_value g.X I (plainGet_of p1).1 (findObj_own p2 p3 p4 hl) hv h
theorem Rp.handed {I : Im} {v : Value} {d : D} (h : Rp I v d) : handedIn v = true := by cases h <;> rfl
theorem Ev.kind {x : Str} {xp pos : Pos} {k : Str} {ln : Int} {ps : List D} (h : Ev w A env Mu γ (.Name x xp) (.node k ln ps)) : Ev w A env Mu γ (.Attribute (.Name x xp) "kind" pos) (.str k) := fun s g r =>
  Attribute_Name_ (h.use keeps_refl g r fun v s' k' _ rp => by
    cases rp with
    | node h1 h2 h3 h4 h5 r' => exact get_field (g.keeps (keeps_ext k')) (vw_get h1) (vw_get h2) (.inl rfl) h3 rfl ⟨keeps_trans k' keeps_tok, .str _ _⟩)
theorem Ev.line {x : Str} {xp pos : Pos} {k : Str} {ln : Int} {ps : List D} (h : Ev w A env Mu γ (.Name x xp) (.node k ln ps)) : Ev w A env Mu γ (.Attribute (.Name x xp) "line" pos) (.int ln) := fun s g r =>
  Attribute_Name_ (h.use keeps_refl g r fun v s' k' _ rp => by
    cases rp with
    | node h1 h2 h3 h4 h5 r' => exact get_field (g.keeps (keeps_ext k')) (vw_get h1) (vw_get h2) (.inr (.inl rfl)) h4 rfl ⟨keeps_trans k' keeps_tok, .int _ _⟩)
theorem Ev.parts {x : Str} {xp pos : Pos} {k : Str} {ln : Int} {ps : List D} (h : Ev w A env Mu γ (.Name x xp) (.node k ln ps)) : Ev w A env Mu γ (.Attribute (.Name x xp) "parts" pos) (.list ps) := fun s g r =>
  Attribute_Name_ (h.use keeps_refl g r fun v s' k' _ rp => by
    cases rp with
    | node h1 h2 h3 h4 h5 r' => exact get_field (g.keeps (keeps_ext k')) (vw_get h1) (vw_get h2) (.inr (.inr rfl)) h5 r'.handed ⟨keeps_trans k' keeps_tok, r'⟩)
end
end Mine
namespace Mine
open PySem PySem.W PySem.Calls PySem.Spec PyProof.Rows
section
variable {w : World} {A : Around} {env : Env} {Mu : List Addr} {γ : Gm}

/-- a new list -/
def EvF (w : World) (A : Around) (env : Env) (Mu : List Addr) (γ : Gm) (e : Expr) (ds : List D) : Prop :=
  ∀ s : Shared, Gl w s.heap → Rdy env Mu γ s.heap → wpAny (MM w) A (eval e env)
    (fun v s' => Keeps s s' ∧ ∃ a vs n, v = .ref a ∧ s.heap.get? a = none ∧ s'.heap.get? a = some (listOf vs.toArray n) ∧ Rps (vw s'.heap (a :: Mu)) vs ds) NoE s
def EvS (w : World) (A : Around) (env : Env) (Mu : List Addr) (γ : Gm) (pos : Pos) (es : List Expr) (ds : List D) : Prop :=
  ∀ s : Shared, Gl w s.heap → Rdy env Mu γ s.heap → wpAny (MM w) A (spliced (backTo pos (starEach es env))) (fun vs s' => Keeps s s' ∧ Rps (vw s'.heap Mu) vs ds) NoE s
theorem fresh_out {env : Env} {Mu : List Addr} {γ : Gm} {h : Heap} {a : Addr} (r : Rdy env Mu γ h) (f : h.get? a = none) : a ∉ Mu := fun m => by
  obtain ⟨o, e⟩ := r.mok a m
  rw [f] at e; cases e
theorem EvF.ev {e : Expr} {ds : List D} (h : EvF w A env Mu γ e ds) : Ev w A env Mu γ e (.list ds) := fun s g r =>
  wpAny_mono (h s g r) (fun v s' ⟨k, a, vs, n, e, f, q, rp⟩ => ⟨k, by
    subst e
    exact .list (vw_in q (fresh_out r f)) (rp.mono (vw_less fun b m => .tail _ m))⟩) fun _ _ x => x
theorem EvS.nil {pos : Pos} : EvS w A env Mu γ pos [] [] := fun s g r => spliced_none ⟨keeps_refl, .nil⟩
theorem EvS.cons {pos : Pos} {e : Expr} {es : List Expr} {d : D} {ds : List D} (h : Ev w A env Mu γ e d) (t : EvS w A env Mu γ pos es ds)
    (hs : starEach (e :: es) env = (false, eval e env) :: starEach es env := by rfl) : EvS w A env Mu γ pos (e :: es) (d :: ds) := fun s g r =>
  spliced_more (h.use keeps_refl g r fun v s₁ k₁ _ rp => wpAny_mono (t s₁ (g.keeps (keeps_ext k₁)) (r.keeps (keeps_ext k₁))) (fun vs s₂ ⟨k₂, q⟩ => ⟨keeps_trans k₁ k₂, .cons (rp.mono (vw_ext (keeps_ext k₂))) q⟩) fun _ _ x => x) hs
theorem fresh_size {h : Heap} : h.get? h.objs.size = none := by
  cases q : h.get? h.objs.size with
  | none => rfl
  | some o => exact absurd (Heap.lt_size q) (Nat.lt_irrefl _)
theorem keeps_push {s : Shared} {o : Obj} : Keeps s { s with heap := s.heap.push o } := ⟨s.heap.push o, s.toks, rfl, fun b x e => Heap.get?_push_of_some _ e⟩
theorem vw_push {h : Heap} {Mu : List Addr} {o : Obj} : Sub (vw h Mu) (vw (h.push o) (h.objs.size :: Mu)) := fun b x e => by
  refine vw_in (Heap.get?_push_of_some _ (vw_get e)) fun m => ?_
  rcases List.mem_cons.mp m with rfl | m
  · have := vw_get e; rw [fresh_size] at this; cases this
  · exact vw_out e m
theorem EvF.list {pos : Pos} {es : List Expr} {ds : List D} (h : EvS w A env Mu γ pos es ds) (hz : ds.length ≤ sizeLine := by exact Nat.le_of_ble_eq_true rfl) : EvF w A env Mu γ (.List es pos) ds := fun s g r =>
  List_ (wpAny_mono (h s g r) (fun vs s₁ ⟨k, q⟩ => wpAny_newObj_type (T := "list") (data := .seq vs.toArray)
    ⟨keeps_trans k keeps_push, _, vs, 0, rfl, (by
      cases z : s.heap.get? s₁.heap.objs.size with
      | none => rfl
      | some o => have := (keeps_ext k) _ _ z; rw [fresh_size] at this; cases this), Heap.get?_push_size _ rfl, q.mono vw_push⟩ (by show vs.toArray.size ≤ sizeLine; rw [List.size_toArray, q.length]; exact hz)) fun _ _ x => x)
theorem Ev.list {pos : Pos} {es : List Expr} {ds : List D} (h : EvS w A env Mu γ pos es ds) (hz : ds.length ≤ sizeLine := by exact Nat.le_of_ble_eq_true rfl) : Ev w A env Mu γ (.List es pos) (.list ds) := (EvF.list h hz).ev
theorem Ev.tup {k : Nat} {pos : Pos} {es : List Expr} {ds : List D} (h : EvS w A env Mu γ pos es ds) (hz : ds.length ≤ sizeLine := by exact Nat.le_of_ble_eq_true rfl) : Ev w A env Mu γ (.Tuple es k pos) (.tup ds) := fun s g r =>
  Tuple_ (wpAny_mono (h s g r) (fun vs s₁ ⟨k, q⟩ => wpAny_newObj_type (T := "tuple") (data := .seq vs.toArray)
    ⟨keeps_trans k keeps_push, .tup (n := 0) (vw_in (Heap.get?_push_size _ rfl) fun m => by
      obtain ⟨o, e⟩ := (r.keeps (keeps_ext k)).mok _ m
      rw [fresh_size] at e; cases e) (q.mono (vw_ext fun _ _ e => Heap.get?_push_of_some _ e))⟩ (by show vs.toArray.size ≤ sizeLine; rw [List.size_toArray, q.length]; exact hz)) fun _ _ x => x)

/-! an item -/
theorem Ev.item {v i : Expr} {pos : Pos} {ds : List D} {k : Int} {d : D} (hv : Ev w A env Mu γ v (.list ds)) (hi : Ev w A env Mu γ i (.int k)) (h0 : 0 ≤ k) (hd : ds[k.toNat]? = some d) (h1 : k < 2 ^ 63 := by decide)
    (hs : ∀ o j, subscripted i false o j = operate [o, j] (getItem o j) := by intro _ _; rfl) : Ev w A env Mu γ (.Subscript v i pos) d := fun s g r =>
  Subscript_ (hv.use keeps_refl g r fun o s₁ k₁ _ ro => hi.use k₁ g r fun j s₂ k₂ k₁₂ rj => by
    cases rj with
    | int _ t =>
      cases ro with
      | @list a vs n ds hl hr =>
        obtain ⟨x, hx, rx⟩ := hr.get hd
        have hL : s₂.heap.IsList a vs.toArray := ⟨_, keeps_ext k₁₂ _ _ (vw_get hl), rfl, n, rfl⟩
        exact tail_any hL.typeIs slot_list_getitem.lookup (wpAny_getItem_list hL h0 h1 (by simpa using hx) ⟨k₂, rx.mono (vw_ext (keeps_ext k₁₂))⟩) (hs _ _))
theorem Ev.itemT {v i : Expr} {pos : Pos} {ds : List D} {k : Int} {d : D} (hv : Ev w A env Mu γ v (.tup ds)) (hi : Ev w A env Mu γ i (.int k)) (h0 : 0 ≤ k) (hd : ds[k.toNat]? = some d) (h1 : k < 2 ^ 63 := by decide)
    (hs : ∀ o j, subscripted i false o j = operate [o, j] (getItem o j) := by intro _ _; rfl) : Ev w A env Mu γ (.Subscript v i pos) d := fun s g r =>
  Subscript_ (hv.use keeps_refl g r fun o s₁ k₁ _ ro => hi.use k₁ g r fun j s₂ k₂ k₁₂ rj => by
    cases rj with
    | int _ t =>
      cases ro with
      | @tup a vs n ds hl hr =>
        obtain ⟨x, hx, rx⟩ := hr.get hd
        have hlt : k.toNat < vs.length := (List.getElem?_eq_some_iff.mp hx).1
        have hL : IsTup s₂.heap a vs.toArray := ⟨_, keeps_ext k₁₂ _ _ (vw_get hl), rfl, n, rfl⟩
        refine tail_any hL.typeIs slot_tuple_getitem.lookup (getItem_tuple hL (by omega) h1 (j := k.toNat) ?_ (by simpa using hx) ⟨k₂, rx.mono (vw_ext (keeps_ext k₁₂))⟩) (hs _ _)
        rw [List.size_toArray]
        exact seqIndex_at h0 (by omega))

/-! a slice -/
def EvPt (w : World) (A : Around) (env : Env) (Mu : List Addr) (γ : Gm) (p : Option Expr) (o : Option Int) : Prop :=
  ∀ s : Shared, Gl w s.heap → Rdy env Mu γ s.heap → wpAny (MM w) A (evalPart p env) (fun v s' => Keeps s s' ∧ IsPart v o) NoE s
theorem EvPt.none : EvPt w A env Mu γ none none := fun s g r => evalPart_none_step ⟨keeps_refl, .none⟩
theorem EvPt.some {e : Expr} {i : Int} (h : Ev w A env Mu γ e (.int i)) : EvPt w A env Mu γ (some e) (some i) := fun s g r =>
  evalPart_some_step (wpAny_mono (h s g r) (fun v s' ⟨k, q⟩ => ⟨k, by cases q with | int _ t => exact .int i t⟩) fun _ _ x => x)
def Picks (l u t : Option Int) (ds es : List D) : Prop := ∀ I vs, Rps I vs ds → ∃ us, slicePick vs.toArray l u t = us.toArray ∧ Rps I us es
theorem Picks.from {ds : List D} (a : Nat) : Picks (some a) none none ds (ds.drop a) := fun I vs h => ⟨vs.drop a, by rw [slicePick_from'], h.drop a⟩
theorem Picks.upto {ds : List D} (a : Nat) : Picks none (some a) none ds (ds.take a) := fun I vs h => ⟨vs.take a, by rw [slicePick_upto'], h.take a⟩
theorem Picks.run {ds : List D} (a b : Nat) (hb : b ≤ ds.length) (hab : a ≤ b) : Picks (some a) (some b) none ds ((ds.drop a).take (b - a)) := fun I vs h =>
  ⟨(vs.drop a).take (b - a), by rw [slicePick_run _ _ _ (by rw [List.size_toArray, h.length]; exact hb) hab], (h.drop a).take _⟩
theorem Picks.rev {ds : List D} : Picks none none (some (-1)) ds ds.reverse := fun I vs h => ⟨vs.reverse, by rw [krv_pick], h.reverse⟩
theorem EvF.slice {v : Expr} {lo hi st : Option Expr} {sp pos : Pos} {l u t : Option Int} {ds es : List D} (hv : Ev w A env Mu γ v (.list ds)) (h1 : EvPt w A env Mu γ lo l) (h2 : EvPt w A env Mu γ hi u) (h3 : EvPt w A env Mu γ st t)
    (hp : Picks l u t ds es) (ht : t ≠ some 0 := by decide) (hz : ds.length ≤ sizeLine := by exact Nat.le_of_ble_eq_true rfl)
    (hs : ∀ o j, ∃ ops, subscripted (.Slice lo hi st sp) false o j = operate ops (getItem o j) := by exact fun o j => ⟨_, rfl⟩) : EvF w A env Mu γ (.Subscript v (.Slice lo hi st sp) pos) es := fun s g r =>
  Subscript_ (hv.use keeps_refl g r fun o s₁ k₁ _ ro => wpAny_Slice (wpAny_mono (h1 s₁ (g.keeps (keeps_ext k₁)) (r.keeps (keeps_ext k₁))) (fun v1 s₂ ⟨k₂, p1⟩ =>
    wpAny_mono (h2 s₂ (g.keeps (keeps_ext (keeps_trans k₁ k₂))) (r.keeps (keeps_ext (keeps_trans k₁ k₂)))) (fun v2 s₃ ⟨k₃, p2⟩ =>
    wpAny_mono (h3 s₃ (g.keeps (keeps_ext (keeps_trans k₁ (keeps_trans k₂ k₃)))) (r.keeps (keeps_ext (keeps_trans k₁ (keeps_trans k₂ k₃))))) (fun v3 s₄ ⟨k₄, p3⟩ => by
      cases ro with
      | @list a vs n ds hl hr =>
        have k14 := keeps_trans k₂ (keeps_trans k₃ k₄)
        have kk : Keeps s₁ { s₄ with heap := s₄.heap.push { cls := .type "slice", data := .fields #[v1, v2, v3] } } := keeps_trans k14 keeps_push
        have hL : Heap.IsList (s₄.heap.push { cls := .type "slice", data := .fields #[v1, v2, v3] }) a vs.toArray := ⟨_, keeps_ext kk _ _ (vw_get hl), rfl, n, rfl⟩
        obtain ⟨us, e, ru⟩ := hp _ _ hr
        obtain ⟨ops, ho⟩ := hs (.ref a) (.ref s₄.heap.objs.size)
        refine tail_any (ops := ops) (Heap.IsList.typeIs (s := { s₄ with heap := s₄.heap.push { cls := .type "slice", data := .fields #[v1, v2, v3] } }) hL) slot_list_getitem.lookup
          (wpAny_getItem_list_slice hL (Heap.IsSliceOf.new ..) p1 p2 p3 ht ?_ (by rw [List.size_toArray, hr.length]; exact hz)) ho
        have k5 := keeps_trans k₁ kk
        refine ⟨keeps_trans k5 keeps_push, _, us, 0, rfl, ?_, ?_, ?_⟩
        · cases z : s.heap.get? (s₄.heap.push { cls := .type "slice", data := .fields #[v1, v2, v3] }).objs.size with
          | none => rfl
          | some o => have := (keeps_ext k5) _ _ z; rw [fresh_size] at this; cases this
        · rw [e]; exact Heap.get?_push_size _ rfl
        · exact (ru.mono (vw_ext (keeps_ext kk))).mono vw_push) fun _ _ x => x) fun _ _ x => x) fun _ _ x => x))
end
end Mine
namespace Mine
open PySem PySem.W PySem.Calls PySem.Spec PyProof.Rows

mutual
def D.py : D → PyData
  | .none => .none
  | .bool b => .bool b
  | .int i => .int i
  | .str x => .str x
  | .list ds => .list (D.pys ds)
  | .tup ds => .tuple (D.pys ds)
  | .node _ _ _ => .none
def D.pys : List D → List PyData
  | [] => []
  | d :: ds => D.py d :: D.pys ds
end
mutual
def D.flat : D → Bool
  | .none | .bool _ | .int _ => true
  | .str x => PyData.strOk x
  | .list ds => D.flats ds
  | .tup ds => D.flats ds
  | .node _ _ _ => false
def D.flats : List D → Bool
  | [] => true
  | d :: ds => D.flat d && D.flats ds
end
mutual
theorem Rp.reads {h : Heap} {Mu : List Addr} : ∀ {v : Value} {d : D}, Rp (vw h Mu) v d → d.flat = true → ∃ as, Reads h v d.py as
  | _, _, .none, _ => ⟨_, Reads.none⟩
  | _, _, .bool b, _ => ⟨_, Reads.bool b⟩
  | _, _, .int i t, _ => ⟨_, Reads.int i t⟩
  | _, _, .str x t, _ => ⟨_, Reads.str x t⟩
  | _, _, .list hm r, hk => by
    obtain ⟨as, q⟩ := Rps.reads r (by simpa [D.flat] using hk)
    rw [D.py]
    exact ⟨_, reads_list_at (vw_get hm) rfl rfl (by simpa [W.listOf] using q)⟩
  | _, _, .tup hm r, hk => by
    obtain ⟨as, q⟩ := Rps.reads r (by simpa [D.flat] using hk)
    rw [D.py]
    exact ⟨as, reads_tuple_at (vw_get hm) rfl rfl (by simpa using q)⟩
  | _, _, .node .., hk => by simp [D.flat] at hk
theorem Rps.reads {h : Heap} {Mu : List Addr} : ∀ {vs : List Value} {ds : List D}, Rps (vw h Mu) vs ds → D.flats ds = true → ∃ as, ReadsAll h vs (D.pys ds) as
  | _, _, .nil, _ => ⟨_, ReadsAll.nil⟩
  | _, _, .cons hd r, hk => by
    have hk' := Bool.and_eq_true_iff.mp (by simpa [D.flats] using hk)
    obtain ⟨as, q⟩ := Rp.reads hd hk'.1
    obtain ⟨bs, p⟩ := Rps.reads r hk'.2
    rw [D.pys]
    exact ⟨_, ReadsAll.cons q p⟩
end
mutual
theorem D.canLay : ∀ d : D, d.flat = true → d.py.canLay0 = true
  | .none, _ => rfl
  | .bool b, _ => rfl
  | .int i, _ => rfl
  | .str x, h => by simpa [D.flat, D.py, PyData.canLay0] using h
  | .list ds, h => by
    rw [D.py, PyData.canLay0]; exact D.canLays ds (by simpa [D.flat] using h)
  | .tup ds, h => by
    rw [D.py, PyData.canLay0]; exact D.canLays ds (by simpa [D.flat] using h)
  | .node _ _ _, h => by simp [D.flat] at h
theorem D.canLays : ∀ ds : List D, D.flats ds = true → PyData.canLayAll0 (D.pys ds) = true
  | [], _ => rfl
  | d :: ds, h => by
    have hk' := Bool.and_eq_true_iff.mp (by simpa [D.flats] using h)
    rw [D.pys, PyData.canLayAll0, D.canLay d hk'.1, D.canLays ds hk'.2]; rfl
end

section
variable {w : World} {A : Around} {env : Env} {Mu : List Addr} {γ : Gm}
/-- a comparison's answer -/
def Cmp (w : World) (A : Around) (Mu : List Addr) (op : CmpOp) (a b : D) (c : Bool) : Prop :=
  ∀ (s : Shared) (u v : Value), Rp (vw s.heap Mu) u a → Rp (vw s.heap Mu) v b → wpAny (MM w) A (compareOp op u v) (fun r s' => Keeps s s' ∧ r = .bool c) NoE s
theorem Ev.cmp {l r : Expr} {op : CmpOp} {pos : Pos} {a b : D} {c : Bool} (hl : Ev w A env Mu γ l a) (hr : Ev w A env Mu γ r b) (hc : Cmp w A Mu op a b c) (hm : behindInMarks op r = false := by with_unfolding_all rfl) :
    Ev w A env Mu γ (.Compare l [op] [r] pos) (.bool c) := fun s g q =>
  wpAny_Compare1 (hl.use keeps_refl g q fun u s₁ k₁ _ ru => hr.use k₁ g q fun v s₂ k₂ k₁₂ rv => wpAny_mono (hc s₂ u v (ru.mono (vw_ext (keeps_ext k₁₂))) rv)
    (fun r s₃ ⟨k₃, e⟩ => ⟨keeps_trans k₂ k₃, e ▸ .bool c⟩) fun _ _ x => x) hm
theorem EvT.cmp {l r : Expr} {op : CmpOp} {pos : Pos} {a b : D} {c : Bool} (hl : Ev w A env Mu γ l a) (hr : Ev w A env Mu γ r b) (hc : Cmp w A Mu op a b c) (hm : behindInMarks op r = false := by with_unfolding_all rfl) :
    EvT w A env Mu γ (.Compare l [op] [r] pos) c := fun s g q =>
  wpAny_isTrue_Compare1 (hl.use keeps_refl g q fun u s₁ k₁ _ ru => hr.use k₁ g q fun v s₂ k₂ k₁₂ rv => wpAny_mono (hc s₂ u v (ru.mono (vw_ext (keeps_ext k₁₂))) rv)
    (fun r s₃ ⟨k₃, e⟩ => by subst e; exact wpAny_truthy_bool ⟨keeps_trans k₂ k₃, rfl⟩) fun _ _ x => x) hm
theorem EvT.plain {e : Expr} {b : Bool} (h : Ev w A env Mu γ e (.bool b)) (he : isTrue e env (eval e env) = (do let v ← eval e env; standAt e.pos; holding [v] (truthy v)) := by rfl) : EvT w A env Mu γ e b := fun s g q =>
  isTrue_plain (h.use keeps_refl g q fun v s₁ k₁ _ rv => by cases rv; exact wpAny_truthy_bool ⟨k₁, rfl⟩) he
theorem EvT.and {x y : Expr} {pos : Pos} {b c : Bool} (h : EvT w A env Mu γ x b) (h2 : b = true → EvT w A env Mu γ y c) : EvT w A env Mu γ (.BoolOp .And [x, y] pos) (b && c) := fun s g q =>
  isTrue_and (h.use keeps_refl g q fun s₁ k₁ _ => by
    cases b with
    | false => simp only [Bool.false_eq_true, if_false]; exact ⟨k₁, rfl⟩
    | true =>
      simp only [if_true]
      exact isTrue_and ((h2 rfl).use k₁ g q fun s₂ k₂ _ => by
        cases c with
        | false => simp only [Bool.false_eq_true, if_false]; exact ⟨k₂, rfl⟩
        | true => simp only [if_true]; exact isTrue_and_nil ⟨k₂, rfl⟩))
theorem EvT.or {x y : Expr} {pos : Pos} {b c : Bool} (h : EvT w A env Mu γ x b) (h2 : b = false → EvT w A env Mu γ y c) : EvT w A env Mu γ (.BoolOp .Or [x, y] pos) (b || c) := fun s g q =>
  isTrue_or (h.use keeps_refl g q fun s₁ k₁ _ => by
    cases b with
    | true => simp only [if_true]; exact ⟨k₁, rfl⟩
    | false =>
      simp only [Bool.false_eq_true, if_false]
      exact isTrue_or ((h2 rfl).use k₁ g q fun s₂ k₂ _ => by
        cases c with
        | true => simp only [if_true]; exact ⟨k₂, rfl⟩
        | false => simp only [Bool.false_eq_true, if_false]; exact isTrue_or_nil ⟨k₂, rfl⟩))
theorem Ev.and {x y : Expr} {pos : Pos} {b c : Bool} (h : Ev w A env Mu γ x (.bool b)) (h2 : b = true → Ev w A env Mu γ y (.bool c)) : Ev w A env Mu γ (.BoolOp .And [x, y] pos) (.bool (b && c)) := fun s g q =>
  BoolOp_and (h.use keeps_refl g q fun v s₁ k₁ _ rv => by
    cases rv with
    | bool b =>
      refine wpAny_truthy_bool ?_
      cases b with
      | false => simp only [Bool.false_eq_true, if_false]; exact ⟨k₁, .bool _⟩
      | true => simp only [if_true]; exact BoolOp_one ((h2 rfl).use k₁ g q fun v s₂ k₂ _ rv => ⟨k₂, rv⟩))
theorem Ev.or {x y : Expr} {pos : Pos} {b c : Bool} (h : Ev w A env Mu γ x (.bool b)) (h2 : b = false → Ev w A env Mu γ y (.bool c)) : Ev w A env Mu γ (.BoolOp .Or [x, y] pos) (.bool (b || c)) := fun s g q =>
  BoolOp_or (h.use keeps_refl g q fun v s₁ k₁ _ rv => by
    cases rv with
    | bool b =>
      refine wpAny_truthy_bool ?_
      cases b with
      | true => simp only [if_true]; exact ⟨k₁, .bool _⟩
      | false => simp only [Bool.false_eq_true, if_false]; exact BoolOp_one ((h2 rfl).use k₁ g q fun v s₂ k₂ _ rv => ⟨k₂, rv⟩))
theorem Ev.ifexp {t x y : Expr} {pos : Pos} {b : Bool} {d : D} (ht : EvT w A env Mu γ t b) (hx : b = true → Ev w A env Mu γ x d) (hy : b = false → Ev w A env Mu γ y d) : Ev w A env Mu γ (.IfExp t x y pos) d := fun s g q =>
  IfExp_ (ht.use keeps_refl g q fun s₁ k₁ _ => by
    cases b with
    | true => simp only [if_true]; exact (hx rfl).use k₁ g q fun v s₂ k₂ _ rv => ⟨k₂, rv⟩
    | false => simp only [Bool.false_eq_true, if_false]; exact (hy rfl).use k₁ g q fun v s₂ k₂ _ rv => ⟨k₂, rv⟩)

theorem Cmp.eqS {x y : Str} : Cmp w A Mu .Eq (.str x) (.str y) (x == y) := fun s u v ru rv => by
  cases ru; cases rv; exact eq_str ⟨keeps_refl, rfl⟩
theorem Cmp.neS {x y : Str} : Cmp w A Mu .NotEq (.str x) (.str y) (x != y) := fun s u v ru rv => by
  cases ru; cases rv; exact ne_str ⟨keeps_refl, rfl⟩
theorem Cmp.eqI {x y : Int} : Cmp w A Mu .Eq (.int x) (.int y) (x == y) := fun s u v ru rv => by
  cases ru; cases rv; exact eq_int ⟨keeps_refl, rfl⟩
theorem Cmp.eqD {n : Nat} {a b : D} (hA : Aok n A) (ha : a.flat = true) (hb : b.flat = true) (da : a.py.depth ≤ 64) (db : b.py.depth ≤ 64) : Cmp w A Mu .Eq a b (PyData.eqv a.py b.py) := fun s u v ru rv => by
  obtain ⟨as, r1⟩ := ru.reads ha
  obtain ⟨bs, r2⟩ := rv.reads hb
  refine eq_dataH r1 r2 ?_ ?_ (by have := hA.un; omega) ⟨keeps_refl, rfl⟩ <;> unfold SeqAt.shaped
  · rw [D.canLay a ha, decide_eq_true da]; rfl
  · rw [D.canLay b hb, decide_eq_true db]; rfl
theorem Cmp.neD {n : Nat} {a b : D} (hA : Aok n A) (ha : a.flat = true) (hb : b.flat = true) (da : a.py.depth ≤ 64) (db : b.py.depth ≤ 64) : Cmp w A Mu .NotEq a b (!PyData.eqv a.py b.py) := fun s u v ru rv => by
  obtain ⟨as, r1⟩ := ru.reads ha
  obtain ⟨bs, r2⟩ := rv.reads hb
  refine ne_dataH r1 r2 ?_ ?_ (by have := hA.un; omega) ⟨keeps_refl, rfl⟩ <;> unfold SeqAt.shaped
  · rw [D.canLay a ha, decide_eq_true da]; rfl
  · rw [D.canLay b hb, decide_eq_true db]; rfl
/-- a str among strs -/
def SsOk (xs : List Str) : Prop := ∀ x ∈ xs, PyData.strOk x = true
theorem strs_any (x : Str) : ∀ ys : List Str, ((D.pys (ys.map D.str)).any fun y => PyData.eqv y (D.str x).py) = decide (x ∈ ys)
  | [] => by simp [D.pys]
  | y :: ys => by
    rw [List.map_cons, D.pys, List.any_cons, strs_any x ys, D.py, D.py, PyData.eqv]
    by_cases h : y = x
    · subst h; simp
    · have h' : x ≠ y := fun e => h e.symm
      rw [beq_eq_false_iff_ne.mpr h]
      simp [h']
theorem strs_flat : ∀ {ys : List Str}, SsOk ys → D.flats (ys.map D.str) = true
  | [], _ => rfl
  | y :: ys, h => by
    rw [List.map_cons, D.flats, D.flat, h y (.head _), strs_flat fun x m => h x (.tail _ m)]; rfl
theorem strs_depth : ∀ ys : List Str, PyData.depthAll (D.pys (ys.map D.str)) = 0
  | [] => rfl
  | y :: ys => by rw [List.map_cons, D.pys, PyData.depthAll, strs_depth ys, D.py]; rfl
theorem Cmp.inS {n : Nat} {x : Str} {ys : List Str} (hA : Aok n A) (hx : PyData.strOk x = true) (hy : SsOk ys) : Cmp w A Mu .In (.str x) (.list (ys.map .str)) (decide (x ∈ ys)) := fun s u v ru rv => by
  obtain ⟨as, r1⟩ := ru.reads (by simpa [D.flat] using hx)
  obtain ⟨bs, r2⟩ := rv.reads (by rw [D.flat]; exact strs_flat hy)
  rw [D.py] at r2
  refine SeqAt.in_list_reads r2 r1 (D.canLays _ (strs_flat hy)) (by simpa [D.py, PyData.canLay0] using hx) ?_ ?_
  · rw [strs_depth]; have := hA.un; omega
  · rw [strs_any]; exact ⟨keeps_refl, rfl⟩
theorem Cmp.notInS {n : Nat} {x : Str} {ys : List Str} (hA : Aok n A) (hx : PyData.strOk x = true) (hy : SsOk ys) : Cmp w A Mu .NotIn (.str x) (.list (ys.map .str)) (!decide (x ∈ ys)) := fun s u v ru rv => by
  obtain ⟨as, r1⟩ := ru.reads (by simpa [D.flat] using hx)
  obtain ⟨bs, r2⟩ := rv.reads (by rw [D.flat]; exact strs_flat hy)
  rw [D.py] at r2
  refine SeqAt.notIn_list_reads r2 r1 (D.canLays _ (strs_flat hy)) (by simpa [D.py, PyData.canLay0] using hx) ?_ ?_
  · rw [strs_depth]; have := hA.un; omega
  · rw [strs_any]; exact ⟨keeps_refl, rfl⟩

/-! binary -/
def Bin (w : World) (A : Around) (Mu : List Addr) (op : Operator) (a b d : D) : Prop :=
  ∀ (s : Shared) (u v : Value), (∀ a ∈ Mu, ∃ o, s.heap.get? a = some o) → Rp (vw s.heap Mu) u a → Rp (vw s.heap Mu) v b → wpAny (MM w) A (binaryOp op u v) (fun r s' => Keeps s s' ∧ Rp (vw s'.heap Mu) r d) NoE s
theorem Ev.bin {l r : Expr} {op : Operator} {pos : Pos} {a b d : D} (hl : Ev w A env Mu γ l a) (hr : Ev w A env Mu γ r b) (hc : Bin w A Mu op a b d) : Ev w A env Mu γ (.BinOp l op r pos) d := fun s g q =>
  wpAny_BinOp (hl.use keeps_refl g q fun u s₁ k₁ _ ru => hr.use k₁ g q fun v s₂ k₂ k₁₂ rv => wpAny_mono (hc s₂ u v (q.keeps (keeps_ext k₂)).mok (ru.mono (vw_ext (keeps_ext k₁₂))) rv)
    (fun r s₃ ⟨k₃, e⟩ => ⟨keeps_trans k₂ k₃, e⟩) fun _ _ x => x)
theorem Bin.addI {x y : Int} : Bin w A Mu .Add (.int x) (.int y) (.int (x + y)) := fun s u v _ ru rv => by
  cases ru; cases rv; exact add_int ⟨keeps_tok, .int _ _⟩
theorem Bin.modI {x y : Int} (h : y ≠ 0) : Bin w A Mu .Mod (.int x) (.int y) (.int (x.fmod y)) := fun s u v _ ru rv => by
  cases ru; cases rv; exact mod_int' h ⟨keeps_tok, .int _ _⟩
theorem Bin.divI {x y : Int} (h : y ≠ 0) (hp : Builtin.divisionGoesByPylong x y = false) : Bin w A Mu .FloorDiv (.int x) (.int y) (.int (x.fdiv y)) := fun s u v _ ru rv => by
  cases ru; cases rv; exact floordiv_int h ⟨keeps_tok, .int _ _⟩ (.inl hp)
end
end Mine
namespace Mine
open PySem PySem.W PySem.Calls PySem.Spec PyProof.Rows
namespace RT
theorem slot_next : Slot "reversed" "__next__" "reversed.__next__" :=
  .of (owner := "reversed") (n := "__next__") (by rw [typeLookup_type, builtinLookup_eq_fast]; kernel_rfl) (by decide +kernel) (by decide +kernel) (by decide +kernel)
    (by first | exact .inl (by decide +kernel) | exact .inr (by decide +kernel)) (by rw [isSubtype_type]; kernel_rfl)
theorem entry_next : entryFor table "reversed.__next__" = some Builtin.«reversed.__next__» := entryFor_of_tree (by kernel_rfl)
theorem args_next (a : Value) : argsOk "reversed.__next__" ⟨[a], []⟩ := by unfold argsOk; kernel_rfl
theorem slot_iter : Slot "reversed" "__iter__" "reversed.__iter__" :=
  .of (owner := "reversed") (n := "__iter__") (by rw [typeLookup_type, builtinLookup_eq_fast]; kernel_rfl) (by decide +kernel) (by decide +kernel) (by decide +kernel)
    (by first | exact .inl (by decide +kernel) | exact .inr (by decide +kernel)) (by rw [isSubtype_type]; kernel_rfl)
theorem args_iter (a : Value) : argsOk "reversed.__iter__" ⟨[a], []⟩ := by unfold argsOk; kernel_rfl
theorem entry_iter : entryFor table "reversed.__iter__" = some Builtin.«dict_keyiterator.__iter__» :=
  entryFor_alias (id' := "dict_keyiterator.__iter__") (by rw [fastTable_eq_tree]; kernel_rfl) (by first | rfl | decide +kernel | (unfold String.splitOn; simp +decide [String.splitOnAux])) (by decide +kernel) (by rw [fastTable_eq_tree]; kernel_rfl)
theorem slot_init : Slot "reversed" "__init__" "object.__init__" :=
  .of (owner := "object") (n := "__init__") (by rw [typeLookup_type, builtinLookup_eq_fast]; kernel_rfl) (by decide +kernel) (by decide +kernel) (by decide +kernel)
    (by first | exact .inl (by decide +kernel) | exact .inr (by decide +kernel)) (by rw [isSubtype_type]; kernel_rfl)
theorem called : TypeCalled "reversed" "reversed.__new__" "object.__init__" :=
  ⟨by decide +kernel, by decide +kernel, ⟨_, _, F.mro_reversed⟩, F.made_reversed, by decide +kernel, F.sub_reversed_self, slot_init⟩
theorem no_rev : typeLookup (.type "tuple") "__reversed__" = pure none := by rw [typeLookup_type, builtinLookup_eq_fast]; kernel_rfl
theorem sub_dict : isSubtype (.type "tuple") (.type "dict") = pure false := by rw [isSubtype_type]; kernel_rfl
end RT
end Mine
namespace Mine
open PySem PySem.W PySem.Calls PySem.Spec PyProof.Rows
namespace RT
def obj (t : Addr) (i : Int) : Obj := { cls := .type "reversed", data := .fields #[.ref t, rawInt i] }
def IsRevT (h : Heap) (a t : Addr) (i : Int) : Prop := ∃ o, h.get? a = some o ∧ o.cls = .type "reversed" ∧ o.data = .fields #[.ref t, rawInt i]
section
variable {prog : Program} {w : World} {A : Around} {E : Value → Shared → Prop} {s : Shared}
theorem IsRevT.typeIs {a t : Addr} {i : Int} (x : IsRevT s.heap a t i) : s.TypeIs (.ref a) "reversed" := let ⟨o, ho, hc, _⟩ := x; ⟨o, ho, hc⟩
theorem new_tuple (t : Addr) (items : Array Value) (hz : (items.size : Int) < 2 ^ 63) :
    Meets (Builtin.«reversed.__new__» ⟨[.type "reversed", .ref t], []⟩) (fun _ R s => IsTup s.heap t items ∧ ∀ tk, R (.ok (.ret (.ref s.heap.objs.size))) { s with heap := s.heap.push (obj t ((items.size : Int) - 1)), toks := tk }) :=
  .of_wp fun prog w A R s h => by
    obtain ⟨hT, h⟩ := h
    unfold Builtin.«reversed.__new__»
    refine wpAny_bind (wpAny_of_eq (newClass_reversed _) ?_)
    try dsimp only
    refine wpAny_bind (wpAny_of_eq (a := ()) (by first | rfl | kernel_rfl) ?_)
    refine wpAny_bind (wpAny_of_eq (a := ()) (by first | rfl | kernel_rfl) ?_)
    try dsimp only
    refine wpAny_bind (wpAny_specialOf hT.typeIs no_rev ?_)
    try dsimp only
    refine wpAny_bind ?_
    show wpAny _ _ (isInstance (.ref t) (.type "dict") >>= _) _ _ s
    refine wpAny_bind (wpAny_isInstance hT.typeIs sub_dict ?_)
    try dsimp only
    rw [if_neg Bool.false_ne_true]
    refine wpAny_bind (wpAny_specialOf hT.typeIs slot_tuple_getitem.lookup ?_)
    try dsimp only
    rw [if_pos (by decide +kernel)]
    refine wpAny_pure ?_
    simp only [Bool.not_true, Bool.false_eq_true, if_false]
    refine wpAny_bind (len_tuple hT hz ?_)
    refine wpAny_bind (wpAny_of_eq (a := some (items.size : Int)) rfl ?_)
    dsimp only
    refine wpAny_bind (m := newObj (.type "reversed") (.fields [Value.ref t, rawInt ((items.size : Int) - 1)].toArray)) (wpAny_newObj_type ?_)
    exact wpAny_pure ⟨_, rfl, h _⟩
theorem call_reversed {t : Addr} {items : Array Value} {Q : Value → Shared → Prop} (hT : IsTup s.heap t items) (hz : (items.size : Int) < 2 ^ 63) (h : ∀ tk, Q (.ref s.heap.objs.size) { s with heap := s.heap.push (obj t ((items.size : Int) - 1)), toks := tk }) :
    wpAny (model prog w) A (call (.type "reversed") [.ref t]) Q E s :=
  callType_new called (by decide) (F.typeCall_reversed_1 _) (F.newCall_reversed_1 _) (fun obj => F.args_object_init_2 obj _) F.entry_reversed_new (new_tuple t items hz) ⟨hT, fun tk => ⟨⟨_, Heap.get?_push_size _ rfl, rfl⟩, h tk⟩⟩
theorem next_item {it t : Addr} {i : Nat} {items : Array Value} {x : Value} {Q : Option Value → Shared → Prop} (hit : IsRevT s.heap it t (i : Int)) (hl : IsTup s.heap t items) (hx : items[i]? = some x) (hi : (i : Int) < 2 ^ 63)
    (hQ : ∀ h' tk, IsRevT h' it t ((i : Int) - 1) → Heap.SameBut it s.heap h' → Q (some x) { s with heap := h', toks := tk }) : wpAny (model prog w) A (pyNext (.ref it)) Q E s := by
  obtain ⟨o, ho, hc, hd⟩ := id hit
  unfold pyNext
  refine wpAny_bind (wpAny_attempt (wpAny_callSpecial?_slot (name := Str.ofString "__next__") hit.typeIs slot_next
    (wpAny_call_entry slot_next hit.typeIs entry_next ?_ (args_next _))))
  unfold Builtin.«reversed.__next__»
  refine wpAny_bind (wpAny_of_eq (a := (Value.ref it, [])) rfl ?_)
  try dsimp only
  refine wpAny_bind (wpAny_field ho hd (x := .ref t) rfl ?_)
  refine wpAny_bind (wpAny_field ho hd (x := rawInt (i : Int)) rfl ?_)
  show wpAny _ _ (if (i : Int) < 0 then _ else _) _ _ s
  rw [if_neg (by omega)]
  show wpAny _ _ (specialOf (.ref t) "__getitem__" >>= _) _ _ s
  refine wpAny_bind (wpAny_specialOf hl.typeIs slot_tuple_getitem.lookup ?_)
  simp only [Option.isNone_some, Bool.false_eq_true, if_false]
  refine wpAny_bind (wpAny_mkInt ?_)
  have hl' : i < items.size := (Array.getElem?_eq_some_iff.mp hx).1
  refine wpAny_bind (wpAny_attempt (getItem_tuple (s := { s with toks := s.toks + 1 }) hl (by omega) hi (seqIndex_at (by omega) (by omega)) (by simpa using hx) ?_))
  dsimp only
  refine wpAny_bind (wpAny_field (s := { s with toks := s.toks + 1 }) ho hd (x := rawInt (i : Int)) rfl ?_)
  show wpAny _ _ (setField (.ref it) 1 (rawInt ((i : Int) - 1)) >>= _) _ _ _
  refine wpAny_bind (wpAny_setField (s := { s with toks := s.toks + 1 }) ho hd (by simp) ?_)
  refine wpAny_pure ⟨x, rfl, wpAny_pure (hQ _ _ ?_ (Heap.SameBut.update ..))⟩
  exact ⟨_, Heap.get?_update_self _ ho (Obj.isFreed_of_fields (Obj.data_mapFields hd _)), (Obj.cls_mapFields ..).trans hc, by
    rw [Obj.data_mapFields hd]; simp⟩
theorem next_end {it t : Addr} {Q : Option Value → Shared → Prop} (hh : A.handled = none) (hit : IsRevT s.heap it t (-1))
    (hQ : ∀ h', Heap.ExtBut it s.heap h' → Q none { s with heap := h' }) : wpAny (model prog w) A (pyNext (.ref it)) Q E s := by
  obtain ⟨o, ho, hc, hd⟩ := id hit
  unfold pyNext
  refine wpAny_bind (wpAny_attempt (wpAny_callSpecial?_slot (name := Str.ofString "__next__") hit.typeIs slot_next
    (wpAny_call_entry slot_next hit.typeIs entry_next ?_ (args_next _))))
  unfold Builtin.«reversed.__next__»
  refine wpAny_bind (wpAny_of_eq (a := (Value.ref it, [])) rfl ?_)
  try dsimp only
  refine wpAny_bind (wpAny_field ho hd (x := .ref t) rfl ?_)
  refine wpAny_bind (wpAny_field ho hd (x := rawInt (-1)) rfl ?_)
  show wpAny _ _ (if (-1 : Int) < 0 then _ else _) _ _ s
  rw [if_pos (by decide)]
  refine wpAny_bind (wpAny_rule ?_)
  refine wpAny_bind ?_
  show wpAny _ _ (setField (.ref it) 1 (rawInt (-1)) >>= fun _ => setField (.ref it) 0 .none) _ _ s
  refine wpAny_bind (wpAny_setField ho hd (by simp) ?_)
  have ho2 := Heap.get?_update_self (Obj.mapFields fun vs => vs.setIfInBounds 1 (rawInt (-1))) ho (Obj.isFreed_of_fields (Obj.data_mapFields hd _))
  refine wpAny_setField (o := (Obj.mapFields (fun vs => vs.setIfInBounds 1 (rawInt (-1))) o)) (by first | exact ho2 | exact Heap.get?_update_self _ ho (Obj.isFreed_of_fields (Obj.data_mapFields hd _))) (Obj.data_mapFields hd _) (by simp) ?_
  refine wpAny_bind ?_
  show wpAny _ _ (newExc (.type "StopIteration") [] >>= _) _ _ _
  refine wpAny_bind ?_
  simp only [newExc, newTuple]
  refine wpAny_bind (wpAny_newObj_type ?_ (by size_fits))
  refine wpAny_bind (m := firstArgMember _ _) (wpAny_of_eq (a := Value.none) (by first | rfl | (simp only [firstArgMember]; rfl)) ?_)
  refine wpAny_newObj_type ?_ (by size_fits)
  simp only [raiseNew]
  refine wpAny_bind (wpAny_handled ?_)
  rw [show A.in1.handled = none from hh]
  refine wpAny_bind (wpAny_pure (wpAny_throw ?_))
  refine wpAny_bind (wpAny_isInstance (T := "StopIteration") (b := true) ⟨_, Heap.get?_push_size _ rfl, rfl⟩ isSubtype_stop ?_)
  exact wpAny_pure (hQ _ ((((Heap.SameBut.update ..).extBut.trans (Heap.SameBut.update ..).extBut).push _).push _))
theorem iter {it t : Addr} {i : Int} {Q : Value → Shared → Prop} (hit : IsRevT s.heap it t i) (h : Q (.ref it) s) : wpAny (model prog w) A (pyIter (.ref it)) Q E s := by
  refine wpAny_pyIter_slot hit.typeIs slot_iter (wpAny_call_entry slot_iter hit.typeIs entry_iter ?_ (args_iter _))
  show wpAny _ _ (ret (.ref it)) _ _ s
  exact wpAny_pure ⟨_, rfl, "reversed", _, hit.typeIs, slot_next.lookup, h⟩
end
end RT
end Mine
namespace Mine
open PySem PySem.W PySem.Calls PySem.Spec PyProof.Rows

theorem vw_same {h h' : Heap} {a : Addr} {Mu : List Addr} (hs : Heap.SameBut a h h') (m : a ∈ Mu) : vw h' Mu = vw h Mu := by
  funext b
  unfold vw
  split
  · rfl
  · rename_i nb
    exact hs.2 b fun e => nb (e ▸ m)
/-- where a name is kept -/
def Kd (env : Env) (x : Str) : Prop := env.kindOf x = some .local ∨ (env.kindOf x = some .cell ∧ ∃ c, env.cells.lookup x = some c)
/-- the kinds of iterators: over a list, a tuple, from behind -/
inductive ItK where
  | ls | tp | rl | rt
def ItK.cls : ItK → String
  | .ls => "list_iterator"
  | .tp => "tuple_iterator"
  | .rl => "list_reverseiterator"
  | .rt => "reversed"
def D.items : D → List D
  | .list ds | .tup ds => ds
  | _ => []
def ItK.pos (k : ItK) (d : D) (i : Nat) : Int := match k with
  | .ls | .tp => i
  | .rl | .rt => (d.items.length : Int) - 1 - i
def ItK.seq (k : ItK) (d : D) : List D := match k with
  | .ls | .tp => d.items
  | .rl | .rt => d.items.reverse
def ItK.ok (k : ItK) (d : D) : Bool := match k, d with
  | .ls, .list _ | .rl, .list _ | .tp, .tup _ | .rt, .tup _ => true
  | _, _ => false
/-- what is owned: a list that is turned, an iterator, another object -/
inductive OB where
  | ls (ds : List D)
  | it (k : ItK) (src : Value) (d : D) (i : Nat)
  | ob (o : Obj)
  | en (b : Addr) (i : Nat)
def OB.At (I : Im) (h : Heap) (a : Addr) : OB → Prop
  | .ls ds => ∃ vs n, h.get? a = some (W.listOf vs.toArray n) ∧ Rps I vs ds
  | .it k src d i => (∃ o, h.get? a = some o ∧ o.cls = .type k.cls ∧ o.data = .fields #[src, .int (k.pos d i) 0]) ∧ Rp I src d ∧ k.ok d = true
  | .ob o => h.get? a = some o
  | .en b i => ∃ old, IsEnum h a b i old
theorem OB.At.move {I J : Im} {h h' : Heap} {a : Addr} {b : OB} (x : b.At I h a) (hs : Sub I J) (k : ∀ o, h.get? a = some o → h'.get? a = some o) : b.At J h' a := by
  cases b with
  | ls ds => obtain ⟨vs, n, e, r⟩ := x; exact ⟨vs, n, k _ e, r.mono hs⟩
  | it kk src d i => obtain ⟨⟨o, e, q⟩, r, z⟩ := x; exact ⟨⟨o, k _ e, q⟩, r.mono hs, z⟩
  | ob o => exact k _ x
  | en b i => obtain ⟨old, e⟩ := x; exact ⟨old, k _ e⟩
theorem OB.At.there {I : Im} {h : Heap} {a : Addr} {b : OB} (x : b.At I h a) : ∃ o, h.get? a = some o := by
  cases b with
  | ls ds => obtain ⟨vs, n, e, r⟩ := x; exact ⟨_, e⟩
  | it kk src d i => obtain ⟨⟨o, e, q⟩, r, z⟩ := x; exact ⟨o, e⟩
  | ob o => exact ⟨o, x⟩
  | en b i => obtain ⟨old, e⟩ := x; exact ⟨_, e⟩
abbrev Ow := List (Addr × OB)
/-- a frame over the base heap -/
structure Fq (h₀ : Heap) (L : Addr) (h : Heap) (m : Str → Option Value) : Prop where
  ns : h.Ns L m
  keep : ∀ b o, h₀.get? b = some o → h.get? b = some o
  above : h₀.get? L = none
theorem Fq.change {h₀ h h' : Heap} {L a : Addr} {m : Str → Option Value} (F : Fq h₀ L h m) (hs : Heap.SameBut a h h') (h1 : a ≠ L) (h2 : h₀.get? a = none) : Fq h₀ L h' m :=
  ⟨F.ns.sameBut hs (Ne.symm h1), fun b o e => (hs.2 b fun q => by rw [q, h2] at e; cases e).trans (F.keep b o e), F.above⟩
theorem Fq.set {h₀ h h' : Heap} {L : Addr} {m m' : Str → Option Value} (F : Fq h₀ L h m) (hn : h'.Ns L m') (hs : Heap.SameBut L h h') : Fq h₀ L h' m' :=
  ⟨hn, fun b o e => (hs.2 b fun q => by rw [q, F.above] at e; cases e).trans (F.keep b o e), F.above⟩
structure Cq (h₀ : Heap) (L : Addr) (cs : List (Str × Addr)) (h : Heap) (cm : Str → Option Value) : Prop where
  cell : ∀ n c, cs.lookup n = some c → h.IsCell c (cm n)
  apart : cs.Pairwise fun x y => x.2 ≠ y.2
  above : ∀ n c, (n, c) ∈ cs → L ≠ c ∧ h₀.get? c = none
theorem Cq.keeps {h₀ h h' : Heap} {L : Addr} {cs : List (Str × Addr)} {cm : Str → Option Value} (X : Cq h₀ L cs h cm) (hk : ∀ b o, h.get? b = some o → h'.get? b = some o) : Cq h₀ L cs h' cm := ⟨fun n c e => (X.cell n c e).keeps hk, X.apart, X.above⟩
theorem Cq.sameBut {h₀ h h' : Heap} {L : Addr} {cs : List (Str × Addr)} {cm : Str → Option Value} (X : Cq h₀ L cs h cm) (hs : Heap.SameBut L h h') : Cq h₀ L cs h' cm := ⟨fun n c e => (X.cell n c e).sameBut hs (Ne.symm (X.above n c (mem_of_lookup e)).1), X.apart, X.above⟩
/-- a frame, its names' data, the objects that it owns -/
structure FS (h₀ : Heap) (env : Env) (Mu : List Addr) (γ : Gm) (own : Ow) (h : Heap) : Prop where
  ex : ∃ m cm, Fq h₀ env.locals h m ∧ Cq h₀ env.locals env.cells h cm ∧ ∀ x g, γ.lookup x = some g → ∃ v, g.Is (vw h Mu) v ∧ ((env.kindOf x = some .local ∧ m x = some v) ∨ (env.kindOf x = some .cell ∧ (∃ c, env.cells.lookup x = some c) ∧ cm x = some v))
  kind : env.scope.kind = .function
  loc : env.locals ∈ Mu
  cel : ∀ x c, env.cells.lookup x = some c → c ∈ Mu
  mok : ∀ a ∈ Mu, ∃ o, h.get? a = some o
  own : ∀ p ∈ own, p.2.At (vw h Mu) h p.1 ∧ p.1 ∈ Mu ∧ p.1 ≠ env.locals ∧ (∀ x c, env.cells.lookup x = some c → c ≠ p.1) ∧ h₀.get? p.1 = none
section
variable {h₀ h h' : Heap} {env : Env} {Mu : List Addr} {γ : Gm} {own : Ow}
theorem FS.keep (S : FS h₀ env Mu γ own h) : Ext h₀ h := let ⟨_, _, F, _⟩ := S.ex; F.keep
theorem FS.keeps (S : FS h₀ env Mu γ own h) (k : Ext h h') : FS h₀ env Mu γ own h' := by
  obtain ⟨m, cm, F, C, V⟩ := S.ex
  exact ⟨⟨m, cm, ⟨F.ns.keeps k, fun b o e => k _ _ (F.keep b o e), F.above⟩, C.keeps k, fun x g e => let ⟨v, a, b⟩ := V x g e; ⟨v, a.mono (vw_ext k), b⟩⟩, S.kind, S.loc, S.cel,
    fun a ha => let ⟨o, e⟩ := S.mok a ha; ⟨o, k _ _ e⟩, fun p hp => ⟨(S.own p hp).1.move (vw_ext k) fun o e => k _ _ e, (S.own p hp).2⟩⟩
theorem FS.rdy (S : FS h₀ env Mu γ own h) : Rdy env Mu γ h := by
  obtain ⟨m, cm, F, C, V⟩ := S.ex
  refine ⟨S.mok, fun x g e => ?_⟩
  obtain ⟨v, a, b⟩ := V x g e
  refine ⟨v, a, S.kind, ?_⟩
  rcases b with ⟨b1, b2⟩ | ⟨b1, ⟨c, b2⟩, b3⟩
  · exact .inl ⟨m, F.ns, b2, b1⟩
  · exact .inr ⟨c, b1, b2, b3 ▸ C.cell x c b2⟩
theorem FS.store {M : Model} {A : Around} {s : Shared} {x : Str} {g : GV} {v : Value} {E : Value → Shared → Prop} {Q : Unit → Shared → Prop} (S : FS h₀ env Mu γ own s.heap) (hk : Kd env x) (hg : g.Is (vw s.heap Mu) v)
    (k : ∀ h' tk, vw h' Mu = vw s.heap Mu → FS h₀ env Mu ((x, g) :: γ) own h' → Q () { s with heap := h', toks := tk }) : wpAny M A (storeName env x v) Q E s := by
  obtain ⟨m, cm, F, C, V⟩ := S.ex
  rcases hk with hk | ⟨hk, c, hc⟩
  · refine wpAny_storeName_local hk F.ns (fun h' hn hs => k h' _ (vw_same hs S.loc) ?_) (by rw [S.kind]; rfl)
    have ev := vw_same hs S.loc
    refine ⟨⟨_, cm, F.set hn hs, C.sameBut hs, fun y g' e => ?_⟩, S.kind, S.loc, S.cel, fun a ha => ?_, fun p hp => ?_⟩
    · rw [ev]
      rw [List.lookup_cons] at e
      by_cases hy : y = x
      · subst hy
        rw [beq_self_eq_true] at e
        cases e
        exact ⟨v, hg, .inl ⟨hk, if_pos rfl⟩⟩
      · rw [beq_eq_false_iff_ne.mpr hy] at e
        obtain ⟨u, a, b⟩ := V y g' e
        exact ⟨u, a, b.imp (fun z => ⟨z.1, (if_neg hy).trans z.2⟩) id⟩
    · by_cases e : a = env.locals
      · obtain ⟨o, _, _, ho, _⟩ := hn
        exact ⟨o, e ▸ ho⟩
      · obtain ⟨o, ho⟩ := S.mok a ha
        exact ⟨o, (hs.2 a e).trans ho⟩
    · obtain ⟨p1, p2, p3, p4⟩ := S.own p hp
      exact ⟨p1.move (ev ▸ Sub.refl) fun o e => (hs.2 _ p3).trans e, p2, p3, p4⟩
  · have cM := S.cel _ _ hc
    refine wpAny_storeName_cell S.kind hk hc (C.cell x c hc) fun h' hv hs => k h' _ (vw_same hs cM) ?_
    have ev := vw_same hs cM
    obtain ⟨hLc, hc0⟩ := C.above x c (mem_of_lookup hc)
    refine ⟨⟨m, fun y => if y = x then some v else cm y, ⟨F.ns.sameBut hs hLc, fun b o e => (hs.2 b fun q => by rw [q, hc0] at e; cases e).trans (F.keep b o e), F.above⟩, ⟨fun n c' e => ?_, C.apart, C.above⟩, fun y g' e => ?_⟩, S.kind, S.loc, S.cel, fun a ha => ?_, fun p hp => ?_⟩
    · by_cases hn : n = x
      · subst hn; rw [hc] at e; cases e; simpa using hv
      · have hcc : c' ≠ c := fun q => hn (name_of_addr C.apart (mem_of_lookup e) (q ▸ mem_of_lookup hc))
        simpa [hn] using (C.cell n c' e).sameBut hs hcc
    · rw [ev]
      rw [List.lookup_cons] at e
      by_cases hy : y = x
      · subst hy
        rw [beq_self_eq_true] at e
        cases e
        exact ⟨v, hg, .inr ⟨hk, ⟨c, hc⟩, if_pos rfl⟩⟩
      · rw [beq_eq_false_iff_ne.mpr hy] at e
        obtain ⟨u, a, b⟩ := V y g' e
        exact ⟨u, a, b.imp id fun z => ⟨z.1, z.2.1, (if_neg hy).trans z.2.2⟩⟩
    · by_cases e : a = c
      · obtain ⟨o, ho, _⟩ := hv
        exact ⟨o, e ▸ ho⟩
      · obtain ⟨o, ho⟩ := S.mok a ha
        exact ⟨o, (hs.2 a e).trans ho⟩
    · obtain ⟨p1, p2, p3, p4, p5⟩ := S.own p hp
      exact ⟨p1.move (ev ▸ Sub.refl) fun o q => (hs.2 _ fun e => p4 _ _ hc e.symm).trans q, p2, p3, p4, p5⟩
end

/-- where the walk of a def stands -/
structure ST (w : World) (s₀ : Shared) (env : Env) (Mu : List Addr) (γ : Gm) (own : Ow) (s : Shared) : Prop where
  same : ∃ h tk, s = { s₀ with heap := h, toks := tk }
  fs : FS s₀.heap env Mu γ own s.heap
  gl : Gl w s₀.heap
section
variable {w : World} {A : Around} {s₀ s s' : Shared} {env : Env} {Mu : List Addr} {γ : Gm} {own : Ow}
theorem ST.g (S : ST w s₀ env Mu γ own s) : Gl w s.heap := S.gl.keeps S.fs.keep
theorem ST.keeps (S : ST w s₀ env Mu γ own s) (k : Keeps s s') : ST w s₀ env Mu γ own s' := by
  obtain ⟨h, tk, e⟩ := S.same
  refine ⟨?_, S.fs.keeps (keeps_ext k), S.gl⟩
  obtain ⟨h', tk', rfl, _⟩ := k
  exact ⟨h', tk', by rw [e]⟩
theorem ST.out (S : ST w s₀ env Mu γ own s) : Keeps s₀ s := by
  obtain ⟨h, tk, e⟩ := S.same
  have k := S.fs.keep
  subst e
  exact ⟨h, tk, rfl, k⟩
theorem ST.ev {e : Expr} {d : D} {Q : Value → Shared → Prop} (S : ST w s₀ env Mu γ own s) (E : Ev w A env Mu γ e d) (k : ∀ v s', ST w s₀ env Mu γ own s' → Rp (vw s'.heap Mu) v d → Q v s') : wpAny (MM w) A (eval e env) Q NoE s :=
  wpAny_mono (E s S.g S.fs.rdy) (fun v s' ⟨a, b⟩ => k v s' (S.keeps a) b) fun _ _ x => x
theorem ST.tst {e : Expr} {b : Bool} {Q : Bool → Shared → Prop} (S : ST w s₀ env Mu γ own s) (E : EvT w A env Mu γ e b) (k : ∀ s', ST w s₀ env Mu γ own s' → Q b s') : wpAny (MM w) A (PySem.isTrue e env (eval e env)) Q NoE s :=
  wpAny_mono (E s S.g S.fs.rdy) (fun v s' ⟨a, b⟩ => b ▸ k s' (S.keeps a)) fun _ _ x => x
theorem ST.store {x : Str} {g : GV} {v : Value} {E : Value → Shared → Prop} {Q : Unit → Shared → Prop} (S : ST w s₀ env Mu γ own s) (hk : Kd env x) (hg : g.Is (vw s.heap Mu) v) (k : ∀ s', ST w s₀ env Mu ((x, g) :: γ) own s' → Q () s') : wpAny (MM w) A (storeName env x v) Q E s := by
  obtain ⟨h, tk, e⟩ := S.same
  refine S.fs.store hk hg fun h' tk' _ F => k _ ⟨⟨h', tk', by rw [e]⟩, F, S.gl⟩
theorem ST.storeV {x : Str} {g : GV} {v : Value} {E : Value → Shared → Prop} {Q : Unit → Shared → Prop} (S : ST w s₀ env Mu γ own s) (hk : Kd env x) (hg : g.Is (vw s.heap Mu) v) (k : ∀ s', vw s'.heap Mu = vw s.heap Mu → ST w s₀ env Mu ((x, g) :: γ) own s' → Q () s') : wpAny (MM w) A (storeName env x v) Q E s := by
  obtain ⟨h, tk, e⟩ := S.same
  refine S.fs.store hk hg fun h' tk' q F => k _ q ⟨⟨h', tk', by rw [e]⟩, F, S.gl⟩
theorem ST.assign {x : Str} {xp pos : Pos} {e : Expr} {d : D} {Q : Flow → Shared → Prop} (S : ST w s₀ env Mu γ own s) (E : Ev w A env Mu γ e d) (k : ∀ s', ST w s₀ env Mu ((x, .im d) :: γ) own s' → Q .next s') (hk : Kd env x := by first | exact .inl rfl | exact .inr ⟨rfl, _, rfl⟩)
    (hs : swapsWith e (some (.Name x xp)) pos.line env = pure false := by rfl) : wpAny (MM w) A (exec (.Assign [.Name x xp] e pos) env) Q NoE s :=
  wpAny_Assign_Name (S.ev E fun v s' S' r => S'.store (g := .im d) hk r fun s'' S'' => k s'' S'') hs
theorem ST.ret {e : Expr} {d : D} {pos : Pos} {Q : Flow → Shared → Prop} (S : ST w s₀ env Mu γ own s) (E : Ev w A env Mu γ e d) (k : ∀ v s', ST w s₀ env Mu γ own s' → Rp (vw s'.heap Mu) v d → Q (.ret v) s') : wpAny (MM w) A (exec (.Return (some e) pos) env) Q NoE s :=
  wpAny_Return_some (S.ev E k)
theorem ST.ifs {e : Expr} {b : Bool} {body orelse : List Stmt} {pos : Pos} {Q : Flow → Shared → Prop} (S : ST w s₀ env Mu γ own s) (E : EvT w A env Mu γ e b) (ht : b = true → ∀ s', ST w s₀ env Mu γ own s' → wpAny (MM w) A (execs body env) Q NoE s')
    (hf : b = false → ∀ s', ST w s₀ env Mu γ own s' → wpAny (MM w) A (execs orelse env) Q NoE s') : wpAny (MM w) A (exec (.If e body orelse pos) env) Q NoE s :=
  wpAny_If (S.tst E fun s' S' => by
    cases b with
    | true => simp only [if_true]; exact ht rfl s' S'
    | false => simp only [Bool.false_eq_true, if_false]; exact hf rfl s' S')
theorem ST.less {γ' : Gm} (S : ST w s₀ env Mu γ own s) (h : ∀ x g, γ'.lookup x = some g → γ.lookup x = some g) : ST w s₀ env Mu γ' own s :=
  ⟨S.same, ⟨let ⟨m, cm, F, C, V⟩ := S.fs.ex; ⟨m, cm, F, C, fun x g e => V x g (h x g e)⟩, S.fs.kind, S.fs.loc, S.fs.cel, S.fs.mok, S.fs.own⟩, S.gl⟩
end

def cellMu (L : Addr) (names : List (Str × NameKind)) : List Addr := L :: (cellsFrom (L + 1) names []).map fun p => ((cellsFrom (L + 1) names []).lookup p.1).getD L
theorem cellMu_in {L : Addr} {names : List (Str × NameKind)} {x : Str} {c : Addr} (h : (cellsFrom (L + 1) names []).lookup x = some c) : c ∈ cellMu L names :=
  .tail _ (List.mem_map.mpr ⟨(x, c), mem_of_lookup h, by rw [h]; rfl⟩)
theorem cellMu_is {L : Addr} {names : List (Str × NameKind)} {a : Addr} (h : a ∈ cellMu L names) : a = L ∨ ∃ x, (cellsFrom (L + 1) names []).lookup x = some a := by
  rcases List.mem_cons.mp h with e | h
  · exact .inl e
  · obtain ⟨p, _, rfl⟩ := List.mem_map.mp h
    cases q : (cellsFrom (L + 1) names []).lookup p.1 with
    | none => exact .inl rfl
    | some c => exact .inr ⟨p.1, q⟩
/-- the arguments -/
inductive Gs (I : Im) : List Value → List GV → Prop
  | nil : Gs I [] []
  | cons {v : Value} {vs : List Value} {g : GV} {gs : List GV} : g.Is I v → Gs I vs gs → Gs I (v :: vs) (g :: gs)
theorem Rps.gs {I : Im} : ∀ {vs : List Value} {ds : List D}, Rps I vs ds → Gs I vs (ds.map GV.im)
  | _, _, .nil => .nil
  | _, _, .cons h r => .cons h (Rps.gs r)
/-- entering a def: from s, which stands over s₀ -/
theorem enterC {w : World} {A : Around} {s s₀ : Shared} {n : Nat} {Mu : List Addr} {gs : List GV} {vs : List Value} {R : Result → Shared → Prop} {own : Ow} {f : Addr} {name qual : Str} {params : Arguments} {body : List Stmt} {scope : Scope} {dV kV doc pm cdv ct oc : Value} {an od : Option Addr} {osl : Array (Option Value)} {names : List Str}
    (hA : A.depth < recursionLimit) (hA' : Aok (n + 1) A) (g : Gl w s₀.heap) (same : ∃ h tk, s = { s₀ with heap := h, toks := tk }) (k₀ : Ext s₀.heap s.heap) (mok : ∀ a ∈ Mu, ∃ o, s.heap.get? a = some o)
    (hown : ∀ p ∈ own, p.2.At (vw s.heap Mu) s.heap p.1 ∧ p.1 ∈ Mu ∧ s₀.heap.get? p.1 = none) (rs : Gs (vw s.heap Mu) vs gs)
    (ho : (KK w).lookup f = some ⟨oc, od, .func (fnOf name qual params body scope dV kV doc pm an cdv ct), osl⟩) (hcd : codeIn (KK w) cdv qual = true)
    (hbind : bindArgs (fnOf name qual params body scope dV kV doc pm an cdv ct) ⟨vs, []⟩ = pure (names.zip vs)) (hlen : names.length = gs.length) (hnd : names.Nodup)
    (hkind : ∀ L, names.all (fun x => decide (scope.names.lookup x = some .local) || (decide (scope.names.lookup x = some .cell) && ((cellsFrom L scope.names []).lookup x).isSome)) = true)
    (hco : scope.isCoroutine = false) (hgen : scope.isGenerator = false) (hk : scope.kind = .function)
    (h : ∀ L s₁, Aok n (A.deeper (envOfC qual scope L f cdv)) → (∀ a ∈ Mu, a ∈ cellMu L scope.names ++ Mu) → (∀ a ∈ cellMu L scope.names, s.heap.get? a = none) → Ext s.heap s₁.heap ∨ True → ST w s₀ (envOfC qual scope L f cdv) (cellMu L scope.names ++ Mu) (names.zip gs) own s₁ →
      wpAny (MM w) (A.deeper (envOfC qual scope L f cdv)) (execs body (envOfC qual scope L f cdv)) (fun fl s' => R (.ok (.ret (match fl with | .ret v => v | _ => .none))) s') NoE s₁) :
    codeAny (MM w) A (.call (.ref f) ⟨vs, []⟩) R s := by
  have gs' := g.keeps k₀
  obtain ⟨mg, mb, T⟩ := gs'.T
  have hkind' : ∀ x ∈ names.zip vs, scope.names.lookup x.1 = some .local ∨ (scope.names.lookup x.1 = some .cell ∧ ((cellsFrom (s.heap.objs.size + 1) scope.names []).lookup x.1).isSome = true) := fun x hx => by
    have h1 : x.1 ∈ names := (List.of_mem_zip hx).1
    have h2 := List.all_eq_true.mp (hkind (s.heap.objs.size + 1)) x.1 h1
    simp only [Bool.or_eq_true, Bool.and_eq_true, decide_eq_true_eq] at h2
    exact h2
  refine codeAny_call_cells hA (gs'.X _ _ ho) rfl T.nolimit (codeRec_of gs'.X hcd) rfl hbind rfl hkind' (fun s₁ X => ?_) hco hgen hk
  have k := X.toInCall.keep
  have lk : ∀ x ∈ names, (envOfC qual scope s.heap.objs.size f cdv).kindOf x = some .local ∨ (envOfC qual scope s.heap.objs.size f cdv).kindOf x = some .cell := fun x hx => by
    have h2 := List.all_eq_true.mp (hkind (s.heap.objs.size + 1)) x hx
    simp only [Bool.or_eq_true, Bool.and_eq_true, decide_eq_true_eq] at h2
    exact h2.imp id fun z => z.1
  have lc : ∀ x ∈ names, (envOfC qual scope s.heap.objs.size f cdv).kindOf x = some .cell → ∃ c, (cellsFrom (s.heap.objs.size + 1) scope.names []).lookup x = some c := fun x hx e => by
    have h2 := List.all_eq_true.mp (hkind (s.heap.objs.size + 1)) x hx
    simp only [Bool.or_eq_true, Bool.and_eq_true, decide_eq_true_eq] at h2
    rcases h2 with h2 | h2
    · have : (envOfC qual scope s.heap.objs.size f cdv).kindOf x = some .local := h2
      rw [this] at e; cases e
    · exact Option.isSome_iff_exists.mp h2.2
  have notin : ∀ b ∈ cellMu s.heap.objs.size scope.names, s.heap.get? b = none := fun b m => by
    cases e : s.heap.get? b with
    | none => rfl
    | some o =>
      exfalso
      have lt := Heap.lt_size e
      rcases cellMu_is m with rfl | ⟨y, hy⟩
      · exact Nat.lt_irrefl _ lt
      · have := X.above y b (mem_of_lookup hy)
        exact Nat.lt_irrefl _ (Nat.lt_trans lt this)
  have fresh₀ : ∀ b, s.heap.get? b = none → s₀.heap.get? b = none := fun b e => by
    cases z : s₀.heap.get? b with
    | none => rfl
    | some o => rw [k₀ b o z] at e; cases e
  have sub : Sub (vw s.heap Mu) (vw s₁.heap (cellMu s.heap.objs.size scope.names ++ Mu)) := fun b o e => vw_in (k _ _ (vw_get e)) fun m => by
    rcases List.mem_append.mp m with m | m
    · have := notin b m; rw [vw_get e] at this; cases this
    · exact vw_out e m
  obtain ⟨hs, tks, es⟩ := same
  refine wpAny_mono (h s.heap.objs.size s₁ hA'.deeper (fun a m => List.mem_append_right _ m) notin (.inl k) ?_) (fun _ _ x => x) fun _ _ x => x.elim
  obtain ⟨h₁, tk₁, es₁⟩ := X.toInCall.same
  refine ⟨⟨h₁, tk₁, by rw [es₁, es]⟩, ⟨⟨_, _, ⟨X.toInCall.ns, fun b o e => k _ _ (k₀ b o e), fresh₀ _ (notin _ (.head _))⟩, ⟨X.cell, X.apart, fun n c hc => ⟨Nat.ne_of_lt (X.above n c hc), fresh₀ _ (by
    cases e : s.heap.get? c with
    | none => rfl
    | some o => exact absurd (Nat.lt_trans (Heap.lt_size e) (X.above n c hc)) (Nat.lt_irrefl _))⟩⟩, fun x gg e => ?_⟩, hk, List.mem_append_left _ (.head _), fun x c hc => List.mem_append_left _ (cellMu_in hc), fun a ha => ?_, fun p hp => ?_⟩, g⟩
  · -- the parameters
    have gen : ∀ (names : List Str) (ds : List GV) (vs : List Value) (m cm : Str → Option Value), (∀ x ∈ names, (envOfC qual scope s.heap.objs.size f cdv).kindOf x = some .local ∨ (envOfC qual scope s.heap.objs.size f cdv).kindOf x = some .cell) → names.Nodup → names.length = ds.length → Gs (vw s.heap Mu) vs ds →
        (names.zip ds).lookup x = some gg → ∃ v, gg.Is (vw s.heap Mu) v ∧ x ∈ names ∧ (((envOfC qual scope s.heap.objs.size f cdv).kindOf x = some .local ∧ bindL (envOfC qual scope s.heap.objs.size f cdv).kindOf (names.zip vs) m x = some v) ∨ ((envOfC qual scope s.heap.objs.size f cdv).kindOf x = some .cell ∧ bindC (envOfC qual scope s.heap.objs.size f cdv).kindOf (names.zip vs) cm x = some v)) := by
      have stay : ∀ (names : List Str) (vs : List Value) (m cm : Str → Option Value), x ∉ names → bindL (envOfC qual scope s.heap.objs.size f cdv).kindOf (names.zip vs) m x = m x ∧ bindC (envOfC qual scope s.heap.objs.size f cdv).kindOf (names.zip vs) cm x = cm x := by
        intro names
        induction names with
        | nil => intro vs m cm _; exact ⟨rfl, rfl⟩
        | cons y ys ih =>
          intro vs m cm hx
          cases vs with
          | nil => exact ⟨rfl, rfl⟩
          | cons v vs =>
            have hy : x ≠ y := fun z => hx (z ▸ .head _)
            have hys : x ∉ ys := fun z => hx (.tail _ z)
            rw [List.zip_cons_cons]
            unfold bindL bindC
            have q := ih vs (if (envOfC qual scope s.heap.objs.size f cdv).kindOf y = some .local then fun z => if z = y then some v else m z else m) (if (envOfC qual scope s.heap.objs.size f cdv).kindOf y = some .local then cm else fun z => if z = y then some v else cm z) hys
            rw [q.1, q.2]
            constructor <;> (split <;> simp [hy])
      intro names
      induction names with
      | nil => intro ds vs m cm _ _ _ _ e; cases e
      | cons y ys ih =>
        intro ds vs m cm hl hn hlen rs e
        cases ds with
        | nil => cases hlen
        | cons d ds =>
          cases rs with
          | @cons v vs _ _ r rs =>
            rw [List.zip_cons_cons, List.lookup_cons] at e
            have hn' := List.nodup_cons.mp hn
            rw [List.zip_cons_cons]
            unfold bindL bindC
            by_cases hx : x = y
            · subst hx
              rw [beq_self_eq_true] at e
              cases e
              refine ⟨v, r, .head _, ?_⟩
              have q := stay ys vs (if (envOfC qual scope s.heap.objs.size f cdv).kindOf x = some .local then fun z => if z = x then some v else m z else m) (if (envOfC qual scope s.heap.objs.size f cdv).kindOf x = some .local then cm else fun z => if z = x then some v else cm z) hn'.1
              rw [q.1, q.2]
              rcases hl x (.head _) with z | z
              · exact .inl ⟨z, by rw [if_pos z]; simp⟩
              · exact .inr ⟨z, by rw [z]; simp⟩
            · rw [beq_eq_false_iff_ne.mpr hx] at e
              obtain ⟨u, a, b, c⟩ := ih ds vs _ _ (fun z hz => hl z (.tail _ hz)) hn'.2 (Nat.succ.inj hlen) rs e
              exact ⟨u, a, .tail _ b, c⟩
    obtain ⟨v, a, b, c⟩ := gen names gs vs _ _ lk hnd hlen rs e
    exact ⟨v, a.mono sub, c.imp id fun z => ⟨z.1, lc x b z.1, z.2⟩⟩
  · rcases List.mem_append.mp ha with ha | ha
    · rcases cellMu_is ha with rfl | ⟨y, hy⟩
      · obtain ⟨o, _, _, e, _⟩ := X.toInCall.ns
        exact ⟨o, e⟩
      · obtain ⟨o, e, _⟩ := X.cell y a hy
        exact ⟨o, e⟩
    · obtain ⟨o, e⟩ := mok a ha
      exact ⟨o, k _ _ e⟩
  · obtain ⟨p1, p2, p3⟩ := hown p hp
    obtain ⟨po, pe⟩ := p1.there
    refine ⟨p1.move sub fun o e => k _ _ e, List.mem_append_right _ p2, fun e => ?_, fun x c hc e => ?_, p3⟩
    · have := notin p.1 (e ▸ List.Mem.head _)
      rw [pe] at this; cases this
    · have := notin p.1 (e ▸ cellMu_in hc)
      rw [pe] at this; cases this

structure EnvOk (env : Env) : Prop where
  kind : env.scope.kind = .function
  glob : env.globals = mainGlobals
  bult : env.builtins = builtinsNs
/-- entering a def that turns nothing -/
theorem enter {w : World} {A : Around} {s : Shared} {n : Nat} {Mu : List Addr} {ds : List D} {vs : List Value} {Q : Value → Shared → Prop} {f : Addr} {name qual : Str} {params : Arguments} {body : List Stmt} {scope : Scope} {dV kV doc pm cdv ct oc : Value} {an od : Option Addr} {osl : Array (Option Value)} {names : List Str}
    (hA : Aok (n + 1) A) (g : Gl w s.heap) (mok : ∀ a ∈ Mu, ∃ o, s.heap.get? a = some o) (rs : Rps (vw s.heap Mu) vs ds)
    (ho : (KK w).lookup f = some ⟨oc, od, .func (fnOf name qual params body scope dV kV doc pm an cdv ct), osl⟩) (hcd : codeIn (KK w) cdv qual = true)
    (hbind : bindArgs (fnOf name qual params body scope dV kV doc pm an cdv ct) ⟨vs, []⟩ = pure (names.zip vs)) (hlen : names.length = ds.length) (hnd : names.Nodup)
    (hkind : ∀ L, names.all (fun x => decide (scope.names.lookup x = some .local) || (decide (scope.names.lookup x = some .cell) && ((cellsFrom L scope.names []).lookup x).isSome)) = true)
    (hco : scope.isCoroutine = false) (hgen : scope.isGenerator = false) (hk : scope.kind = .function)
    (h : ∀ L s₁, EnvOk (envOfC qual scope L f cdv) → Aok n (A.deeper (envOfC qual scope L f cdv)) → (∀ a ∈ Mu, a ∈ cellMu L scope.names ++ Mu) → ST w s (envOfC qual scope L f cdv) (cellMu L scope.names ++ Mu) (names.zip (ds.map GV.im)) [] s₁ →
      wpAny (MM w) (A.deeper (envOfC qual scope L f cdv)) (execs body (envOfC qual scope L f cdv)) (fun fl s' => Q (match fl with | .ret v => v | _ => .none) s') NoE s₁) :
    wpAny (MM w) A (call (.ref f) vs) Q NoE s :=
  wpAny_call (enterC (own := []) hA.room hA g ⟨s.heap, s.toks, rfl⟩ Ext.refl mok (fun _ hp => nomatch hp) rs.gs ho hcd hbind (by rw [List.length_map]; exact hlen) hnd hkind hco hgen hk fun L s₁ a b _ _ S => h L s₁ ⟨hk, rfl, rfl⟩ a b S)
end Mine
namespace Mine
open PySem PySem.W PySem.Calls PySem.Spec PyProof.Rows

section
variable {w : World} {A : Around} {env : Env} {Mu : List Addr} {γ : Gm} {s : Shared}
theorem name_def {x : Str} {pos : Pos} {v : Value} {Q : Value → Shared → Prop} {E : Value → Shared → Prop} (eo : EnvOk env) (g : Gl w s.heap) (hx : nsIn (KK w) mainGlobals x = some (some v)) (hl : env.kindOf x = some .globalImplicit) (h : Q v s) (hd : (x == ("__debug__" : Str)) = false := by decide) :
    wpAny (MM w) A (eval (.Name x pos) env) Q E s := by
  obtain ⟨mg, mb, T⟩ := g.T
  exact Calls.Name_function_global eo.kind hl (Calls.loadGlobal_global (mg := mg) (by rw [eo.glob]; exact T.g) (mg_of g.X T.g hx) h) hd
theorem name_bi {x : Str} {pos : Pos} {v : Value} {Q : Value → Shared → Prop} {E : Value → Shared → Prop} (eo : EnvOk env) (g : Gl w s.heap) (hx : nsIn (KK w) mainGlobals x = some none) (hv : bootBuiltins x = some v) (hn : x ≠ "__name__") (hl : env.kindOf x = some .globalImplicit) (h : Q v s) (hd : (x == ("__debug__" : Str)) = false := by decide) :
    wpAny (MM w) A (eval (.Name x pos) env) Q E s := by
  obtain ⟨mg, mb, T⟩ := g.T
  exact Calls.Name_function_global eo.kind hl (Calls.loadGlobal_builtin (mg := mg) (mb := mb) (by rw [eo.glob]; exact T.g) (mg_none_of g.X T.g hx) (by rw [eo.bult]; exact T.b) ((T.builtins x hn).trans hv) h) hd

/-- what a call gives back -/
def Con (n : Nat) (w : World) (f : Addr) (args : List D) (d : D) : Prop :=
  ∀ (A : Around) (Mu : List Addr) (s : Shared) (vs : List Value), Aok n A → Gl w s.heap → (∀ a ∈ Mu, ∃ o, s.heap.get? a = some o) → Rps (vw s.heap Mu) vs args →
    wpAny (MM w) A (call (.ref f) vs) (fun v s' => Keeps s s' ∧ Rp (vw s'.heap Mu) v d) NoE s
def ConF (n : Nat) (w : World) (f : Addr) (args : List D) (ds : List D) : Prop :=
  ∀ (A : Around) (Mu : List Addr) (s : Shared) (vs : List Value), Aok n A → Gl w s.heap → (∀ a ∈ Mu, ∃ o, s.heap.get? a = some o) → Rps (vw s.heap Mu) vs args →
    wpAny (MM w) A (call (.ref f) vs) (fun v s' => Keeps s s' ∧ ∃ a us n, v = .ref a ∧ s.heap.get? a = none ∧ s'.heap.get? a = some (listOf us.toArray n) ∧ Rps (vw s'.heap (a :: Mu)) us ds) NoE s
theorem ConF.con {n : Nat} {f : Addr} {args ds : List D} (h : ConF n w f args ds) : Con n w f args (.list ds) := fun A Mu s vs hA g mok rs =>
  wpAny_mono (h A Mu s vs hA g mok rs) (fun v s' ⟨k, a, us, n, e, f, q, rp⟩ => ⟨k, by
    subst e
    exact .list (vw_in q fun m => by obtain ⟨o, z⟩ := mok a m; rw [f] at z; cases z) (rp.mono (vw_less fun b m => .tail _ m))⟩) fun _ _ x => x
theorem Con.less {n m : Nat} {f : Addr} {args : List D} {d : D} (h : Con n w f args d) (k : n ≤ m) : Con m w f args d := fun A Mu s vs hA => h A Mu s vs (hA.less k)
theorem ConF.less {n m : Nat} {f : Addr} {args ds : List D} (h : ConF n w f args ds) (k : n ≤ m) : ConF m w f args ds := fun A Mu s vs hA => h A Mu s vs (hA.less k)

theorem Ev.call {n : Nat} {x : Str} {f : Addr} {e : Expr} {args : List Expr} {ds : List D} {d : D} {fp pos : Pos} (C : Con n w f ds d) (hA : Aok n A) (eo : EnvOk env) (ha : EvS w A env Mu γ pos (e :: args) ds)
    (hx : nsIn (KK w) mainGlobals x = some (some (.ref f)) := by kernel_rfl) (hkp : keepIn (KK w) (.ref f) = true := by kernel_rfl) (hl : env.kindOf x = some .globalImplicit := by rfl)
    (he : starEach (e :: args) env = (false, eval e env) :: starEach args env := by rfl) (hp : (backTo pos (starEach args env)).any (·.1) = false := by rfl) (hd : (x == ("__debug__" : Str)) = false := by decide) :
    Ev w A env Mu γ (.Call (.Name x fp) (e :: args) [] pos) d := fun s g r =>
  Call_ (name_def eo g hx hl (callWith_K (h₀ := s.heap) g.X hkp (wpAny_mono (ha s g r) (fun vs s₁ ⟨k, rs⟩ => ⟨(g.keeps (keeps_ext k)).X, by
    show wpAny (MM w) A (PySem.call (.ref f) ([] ++ vs)) _ _ s₁
    rw [List.nil_append]
    exact wpAny_mono (C A Mu s₁ vs hA (g.keeps (keeps_ext k)) (r.keeps (keeps_ext k)).mok rs) (fun v s₂ ⟨k₂, q⟩ => ⟨keeps_trans k k₂, q⟩) fun _ _ x => x⟩) fun _ _ x => x) he hp) hd)
theorem EvF.call {n : Nat} {x : Str} {f : Addr} {e : Expr} {args : List Expr} {ds es : List D} {fp pos : Pos} (C : ConF n w f ds es) (hA : Aok n A) (eo : EnvOk env) (ha : EvS w A env Mu γ pos (e :: args) ds)
    (hx : nsIn (KK w) mainGlobals x = some (some (.ref f)) := by kernel_rfl) (hkp : keepIn (KK w) (.ref f) = true := by kernel_rfl) (hl : env.kindOf x = some .globalImplicit := by rfl)
    (he : starEach (e :: args) env = (false, eval e env) :: starEach args env := by rfl) (hp : (backTo pos (starEach args env)).any (·.1) = false := by rfl) (hd : (x == ("__debug__" : Str)) = false := by decide) :
    EvF w A env Mu γ (.Call (.Name x fp) (e :: args) [] pos) es := fun s g r =>
  Call_ (name_def eo g hx hl (callWith_K (h₀ := s.heap) g.X hkp (wpAny_mono (ha s g r) (fun vs s₁ ⟨k, rs⟩ => ⟨(g.keeps (keeps_ext k)).X, by
    show wpAny (MM w) A (PySem.call (.ref f) ([] ++ vs)) _ _ s₁
    rw [List.nil_append]
    exact wpAny_mono (C A Mu s₁ vs hA (g.keeps (keeps_ext k)) (r.keeps (keeps_ext k)).mok rs) (fun v s₂ ⟨k₂, a, us, m, e, f, q, rp⟩ => ⟨keeps_trans k k₂, a, us, m, e, (by
      cases z : s.heap.get? a with
      | none => rfl
      | some o => rw [(keeps_ext k) _ _ z] at f; cases f), q, rp⟩) fun _ _ x => x⟩) fun _ _ x => x) he hp) hd)

/-- a built-in's call -/
def CB (w : World) (A : Around) (Mu : List Addr) (f : Value) (args : List D) (d : D) : Prop :=
  ∀ (s : Shared) (vs : List Value), Gl w s.heap → (∀ a ∈ Mu, ∃ o, s.heap.get? a = some o) → Rps (vw s.heap Mu) vs args → wpAny (MM w) A (call f vs) (fun v s' => Keeps s s' ∧ Rp (vw s'.heap Mu) v d) NoE s
theorem Ev.bi {x : Str} {id : String} {e : Expr} {args : List Expr} {ds : List D} {d : D} {fp pos : Pos} (C : CB w A Mu (.builtin id) ds d) (eo : EnvOk env) (ha : EvS w A env Mu γ pos (e :: args) ds)
    (hx : nsIn (KK w) mainGlobals x = some Option.none := by kernel_rfl) (hv : bootBuiltins x = some (.builtin id) := by kernel_rfl) (hn : x ≠ "__name__" := by decide) (hl : env.kindOf x = some .globalImplicit := by rfl)
    (he : starEach (e :: args) env = (false, eval e env) :: starEach args env := by rfl) (hp : (backTo pos (starEach args env)).any (·.1) = false := by rfl) (hd : (x == ("__debug__" : Str)) = false := by decide) :
    Ev w A env Mu γ (.Call (.Name x fp) (e :: args) [] pos) d := fun s g r =>
  Call_ (name_bi eo g hx hv hn hl (PyProof.Rows.callWith_builtin1 (wpAny_mono (ha s g r) (fun vs s₁ ⟨k, rs⟩ =>
    wpAny_mono (C s₁ vs (g.keeps (keeps_ext k)) (r.keeps (keeps_ext k)).mok rs) (fun v s₂ ⟨k₂, q⟩ => ⟨keeps_trans k k₂, q⟩) fun _ _ x => x) fun _ _ x => x) he hp) hd)

theorem keeps_toks {s : Shared} {t : Nat} : Keeps s { s with toks := t } := ⟨s.heap, t, rfl, fun _ _ e => e⟩
theorem CB.len {ds : List D} (hz : ds.length < 2 ^ 62) : CB w A Mu (.builtin "len") [.list ds] (.int ds.length) := fun s vs g mok rs => by
  cases rs with
  | cons h t =>
    cases t
    cases h with
    | @list a us n _ hl hr =>
      have hL : s.heap.IsList a us.toArray := ⟨_, vw_get hl, rfl, n, rfl⟩
      refine call_len_list hL ?_ ?_
      · rw [List.size_toArray, hr.length]; omega
      · rw [List.size_toArray, hr.length]; exact ⟨keeps_toks, .int _ _⟩
theorem CB.abs {i : Int} : CB w A Mu (.builtin "abs") [.int i] (.int i.natAbs) := fun s vs g mok rs => by
  cases rs with
  | cons h t =>
    cases t
    cases h with
    | int i t =>
      refine call_abs_int fun u tk => ⟨keeps_toks, ?_⟩
      have : (if i < 0 then -i else i) = (i.natAbs : Int) := by split <;> omega
      rw [this]; exact .int _ _

def D.isNode : D → Bool
  | .node _ _ _ => true
  | _ => false
def D.isSeq : D → Bool
  | .list _ | .tup _ => true
  | _ => false
def D.typ : D → Value
  | .none => .type "NoneType"
  | .bool _ => .type "bool"
  | .int _ => .type "int"
  | .str _ => .type "str"
  | .list _ => .type "list"
  | .tup _ => .type "tuple"
  | .node _ _ _ => .ref 31
theorem Rp.kit {h : Heap} {v : Value} {d : D} (r : Rp (vw h Mu) v d) : ∃ H : Heap → Prop, KitX (KK w) v d.typ H ∧ ∀ h', Ext h h' → H h' := by
  cases r with
  | none => exact ⟨_, kitx_none, fun _ _ => trivial⟩
  | bool b => exact ⟨_, kitx_bool, fun _ _ => trivial⟩
  | int i t => exact ⟨_, kitx_int, fun _ _ => trivial⟩
  | str x t => exact ⟨_, kitx_str, fun _ _ => trivial⟩
  | list h1 _ => exact ⟨_, kitx_list, fun h' k => ⟨_, k _ _ (vw_get h1), rfl⟩⟩
  | tup h1 _ => exact ⟨_, kitx_tuple, fun h' k => ⟨_, k _ _ (vw_get h1), rfl⟩⟩
  | @node a dx es n _ _ _ _ _ _ h1 h2 =>
    exact ⟨_, kitx_own (ox := instObj 31 dx) (od := dictOf es n) (by kernel_rfl) (by kernel_rfl) (by kernel_rfl) (by kernel_rfl) (by kernel_rfl) (by kernel_rfl), fun h' k => ⟨k _ _ (vw_get h1), rfl, rfl, k _ _ (vw_get h2)⟩⟩
theorem kit_node (d : D) : kitOne (KK w) d.typ (.ref 31) = some d.isNode := by cases d <;> kernel_rfl
theorem kit_seq (d : D) : kitAny (KK w) d.typ [.type "list", .type "tuple"] = some d.isSeq := by cases d <;> kernel_rfl
theorem Rp.notLoader {I : Im} {v : Value} {d : D} (r : Rp I v d) : v ≠ .builtin "__main__.__loader__#opaque" := by cases r <;> (intro e; cases e)
theorem Ev.isNode {x : Str} {xp p1 p2 p3 : Pos} {d : D} (eo : EnvOk env) (h : Ev w A env Mu γ (.Name x xp) d) (h1 : env.kindOf "isinstance" = some .globalImplicit := by rfl) (h2 : env.kindOf "Node" = some .globalImplicit := by rfl) :
    Ev w A env Mu γ (.Call (.Name "isinstance" p1) [.Name x xp, .Name "Node" p2] [] p3) (.bool d.isNode) := fun s g r =>
  Call_ (name_bi eo g (by kernel_rfl) (v := .builtin "isinstance") (by kernel_rfl) (by decide) h1 (PyProof.Rows.callWith_builtin1 (spliced_more (h.use keeps_refl g r fun v s₁ k₁ _ rv =>
    spliced_more (name_def eo (g.keeps (keeps_ext k₁)) (by kernel_rfl) h2 (spliced_none (by
      obtain ⟨H, X, a⟩ := rv.kit (w := w)
      exact kia_one X (g.keeps (keeps_ext k₁)).X (a _ Ext.refl) (kit_node d) rv.notLoader fun tk => ⟨keeps_trans k₁ keeps_toks, .bool _⟩))))) rfl rfl))
theorem Ev.isSeq {x : Str} {xp p1 p2 p3 p4 p5 : Pos} {k : Nat} {d : D} (eo : EnvOk env) (h : Ev w A env Mu γ (.Name x xp) d) (h1 : env.kindOf "isinstance" = some .globalImplicit := by rfl) (h2 : env.kindOf "list" = some .globalImplicit := by rfl) (h3 : env.kindOf "tuple" = some .globalImplicit := by rfl) :
    Ev w A env Mu γ (.Call (.Name "isinstance" p1) [.Name x xp, .Tuple [.Name "list" p2, .Name "tuple" p3] k p4] [] p5) (.bool d.isSeq) := fun s g r =>
  Call_ (name_bi eo g (by kernel_rfl) (v := .builtin "isinstance") (by kernel_rfl) (by decide) h1 (PyProof.Rows.callWith_builtin1 (spliced_more (h.use keeps_refl g r fun v s₁ k₁ _ rv =>
    spliced_more (Tuple_ (spliced_more (name_bi eo (g.keeps (keeps_ext k₁)) (v := .type "list") (by kernel_rfl) (by kernel_rfl) (by decide) h2 (spliced_more (name_bi eo (g.keeps (keeps_ext k₁)) (v := .type "tuple") (by kernel_rfl) (by kernel_rfl) (by decide) h3 (spliced_none
      (wpAny_newObj_type (T := "tuple") (data := .seq [Value.type "list", Value.type "tuple"].toArray) (spliced_none (by
        obtain ⟨H, X, a⟩ := rv.kit (w := w)
        have kp : Keeps s₁ { s₁ with heap := s₁.heap.push { cls := .type "tuple", data := .seq [Value.type "list", Value.type "tuple"].toArray } } := keeps_push
        exact kia_tup X ((g.keeps (keeps_ext k₁)).keeps (keeps_ext kp)).X (a _ (keeps_ext kp)) (Heap.get?_push_size _ rfl) (kit_seq d) rv.notLoader fun tk => ⟨keeps_trans k₁ (keeps_trans kp keeps_toks), .bool _⟩)) (by show (2 : Nat) ≤ sizeLine; decide)))))))))) rfl rfl))
end
end Mine
namespace Mine
open PySem PySem.W PySem.Calls PySem.Spec PyProof.Rows

section
variable {h₀ h h' : Heap} {env : Env} {Mu : List Addr} {γ : Gm} {own : Ow}
theorem FS.upd {a : Addr} {b b' : OB} (S : FS h₀ env Mu γ ((a, b) :: own) h) (hs : Heap.SameBut a h h') (ho : b'.At (vw h Mu) h' a) (hn : ∀ p ∈ own, p.1 ≠ a) : FS h₀ env Mu γ ((a, b') :: own) h' := by
  obtain ⟨m, cm, F, C, V⟩ := S.ex
  obtain ⟨p1, p2, p3, p4, p5⟩ := S.own (a, b) (.head _)
  have ev := vw_same hs p2
  refine ⟨⟨m, cm, F.change hs p3 p5, ⟨fun n c e => (C.cell n c e).sameBut hs (p4 n c e), C.apart, C.above⟩, fun x g e => by rw [ev]; exact V x g e⟩, S.kind, S.loc, S.cel, fun c hc => ?_, fun p hp => ?_⟩
  · by_cases e : c = a
    · exact e ▸ ho.there
    · obtain ⟨o, q⟩ := S.mok c hc
      exact ⟨o, (hs.2 c e).trans q⟩
  · rcases List.mem_cons.mp hp with rfl | hp
    · exact ⟨by rw [ev]; exact ho, p2, p3, p4, p5⟩
    · obtain ⟨q1, q2⟩ := S.own p (.tail _ hp)
      exact ⟨q1.move (ev ▸ Sub.refl) fun o e => (hs.2 _ (hn p hp)).trans e, q2⟩
theorem FS.sub {own' : Ow} (S : FS h₀ env Mu γ own h) (hs : ∀ p ∈ own', p ∈ own) : FS h₀ env Mu γ own' h := ⟨S.ex, S.kind, S.loc, S.cel, S.mok, fun p hp => S.own p (hs p hp)⟩
/-- a new object that is to be turned: g is the heap before it -/
theorem FS.take {a : Addr} {b : OB} {g : Heap} (S₀ : FS h₀ env Mu γ own g) (k : Ext g h) (hg : g.get? a = none) (ho : b.At (vw h (a :: Mu)) h a) : FS h₀ env (a :: Mu) γ ((a, b) :: own) h := by
  obtain ⟨m, cm, F, C, V⟩ := S₀.ex
  have sub : Sub (vw g Mu) (vw h (a :: Mu)) := fun b x e => vw_in (k _ _ (vw_get e)) fun q => by
    rcases List.mem_cons.mp q with rfl | q
    · have := vw_get e; rw [hg] at this; cases this
    · exact vw_out e q
  refine ⟨⟨m, cm, ⟨F.ns.keeps k, fun b o e => k _ _ (F.keep b o e), F.above⟩, C.keeps k, fun x gg e => ?_⟩, S₀.kind, .tail _ S₀.loc, fun x c e => .tail _ (S₀.cel x c e), fun c hc => ?_, fun p hp => ?_⟩
  · obtain ⟨v, q, r⟩ := V x gg e
    exact ⟨v, q.mono sub, r⟩
  · rcases List.mem_cons.mp hc with rfl | hc
    · exact ho.there
    · obtain ⟨o, e⟩ := S₀.mok c hc
      exact ⟨o, k _ _ e⟩
  · rcases List.mem_cons.mp hp with rfl | hp
    · refine ⟨ho, .head _, fun e => ?_, fun x c e q => ?_, ?_⟩
      · obtain ⟨z, _, _, hz, _⟩ := F.ns
        have e' : a = env.locals := e
        rw [← e', hg] at hz; cases hz
      · obtain ⟨z, hz, _⟩ := C.cell x c e
        have q' : c = a := q
        rw [q', hg] at hz; cases hz
      · cases z : h₀.get? a with
        | none => rfl
        | some o => have := F.keep _ _ z; rw [hg] at this; cases this
    · obtain ⟨q1, q2, q3⟩ := S₀.own p hp
      exact ⟨q1.move sub fun o e => k _ _ e, .tail _ q2, q3⟩
/-- an object that is turned no more; what else stands may be turned in it -/
theorem FS.free {a : Addr} {b : OB} (S : FS h₀ env (a :: Mu) γ ((a, b) :: own) h) (k : Heap.ExtBut a h h') (hn : ∀ p ∈ own, p.1 ≠ a) (hL : env.locals ∈ Mu) (hC : ∀ x c, env.cells.lookup x = some c → c ∈ Mu) (ha : a ∉ Mu) (hM : ∀ p ∈ own, p.1 ∈ Mu) : FS h₀ env Mu γ own h' := by
  obtain ⟨m, cm, F, C, V⟩ := S.ex
  obtain ⟨p1, p2, p3, p4, p5⟩ := S.own (a, b) (.head _)
  have sub : Sub (vw h (a :: Mu)) (vw h' Mu) := fun c x e => vw_in (k _ _ (fun q => vw_out e (q ▸ .head _)) (vw_get e)) fun q => vw_out e (.tail _ q)
  refine ⟨⟨m, cm, ⟨?_, fun c o e => k _ _ ?_ (F.keep c o e), F.above⟩, ⟨fun n c e => ?_, C.apart, C.above⟩, fun x g e => ?_⟩, S.kind, hL, hC, fun c hc => ?_, fun p hp => ?_⟩
  · exact F.ns.extBut k fun e => p3 e.symm
  · rintro rfl
    have p5' : h₀.get? c = none := p5
    rw [p5'] at e; cases e
  · obtain ⟨o, ho, hd⟩ := C.cell n c e
    exact ⟨o, k _ _ (p4 n c e) ho, hd⟩
  · obtain ⟨v, q, r⟩ := V x g e
    exact ⟨v, q.mono sub, r⟩
  · obtain ⟨o, e⟩ := S.mok c (.tail _ hc)
    exact ⟨o, k _ _ (fun q => ha (q ▸ hc)) e⟩
  · obtain ⟨q1, q2, q3⟩ := S.own p (.tail _ hp)
    exact ⟨q1.move sub fun o e => k _ _ (hn p hp) e, hM p hp, q3⟩
end
section
variable {w : World} {A : Around} {s₀ s s' : Shared} {env : Env} {Mu : List Addr} {γ : Gm} {own : Ow}
theorem ST.sub {own' : Ow} (S : ST w s₀ env Mu γ own s) (hs : ∀ p ∈ own', p ∈ own) : ST w s₀ env Mu γ own' s := ⟨S.same, S.fs.sub hs, S.gl⟩
theorem ST.drop {x : Str} {g : GV} (S : ST w s₀ env Mu ((x, g) :: γ) own s) (h : γ.lookup x = none) : ST w s₀ env Mu γ own s := S.less fun y g' e => by
  have hy : y ≠ x := fun z => by rw [z, h] at e; cases e
  rw [List.lookup_cons, beq_eq_false_iff_ne.mpr hy]
  exact e
theorem ST.upd {a : Addr} {b b' : OB} {h' : Heap} {tk : Nat} (S : ST w s₀ env Mu γ ((a, b) :: own) s) (hs : Heap.SameBut a s.heap h') (ho : b'.At (vw s.heap Mu) h' a) (hn : ∀ p ∈ own, p.1 ≠ a) : ST w s₀ env Mu γ ((a, b') :: own) { s with heap := h', toks := tk } := by
  obtain ⟨h, t, e⟩ := S.same
  exact ⟨⟨h', tk, by rw [e]⟩, S.fs.upd hs ho hn, S.gl⟩
theorem ST.take {a : Addr} {b : OB} (S : ST w s₀ env Mu γ own s) (k : Keeps s s') (hg : s.heap.get? a = none) (ho : b.At (vw s'.heap (a :: Mu)) s'.heap a) : ST w s₀ env (a :: Mu) γ ((a, b) :: own) s' :=
  ⟨(S.keeps k).same, S.fs.take (keeps_ext k) hg ho, S.gl⟩
theorem ST.apart (S : ST w s₀ env Mu γ own s) {a : Addr} (hg : s.heap.get? a = none) : a ∉ Mu ∧ ∀ p ∈ own, p.1 ≠ a :=
  ⟨fun m => (by obtain ⟨o, e⟩ := S.fs.mok a m; rw [hg] at e; cases e), fun p hp e => (by obtain ⟨o, q⟩ := (S.fs.own p hp).1.there; rw [e, hg] at q; cases q)⟩
/-- a name that holds an object of one's own -/
theorem ST.raw {x : Str} {xp : Pos} {v : Value} {Q : Value → Shared → Prop} (S : ST w s₀ env Mu γ own s) (e : γ.lookup x = some (.raw v)) (h : Q v s) (hd : (x == ("__debug__" : Str)) = false := by decide) : wpAny (MM w) A (eval (.Name x xp) env) Q NoE s := by
  obtain ⟨u, a, b⟩ := S.fs.rdy.var x _ e
  cases a
  exact rd_eval b h hd
theorem ST.meth {x name : Str} {xp apos pos : Pos} {args : List Expr} {id : String} {a : Addr} {ds : List D} {Q : Value → Shared → Prop} (S : ST w s₀ env Mu γ own s) (e : γ.lookup x = some (.raw (.ref a))) (ha : (a, OB.ls ds) ∈ own)
    (slot : Slot "list" name id) (hty : typeOf (.builtin id) = pure (.type "method_descriptor")) (h : wpAny (MM w) A (callWith pos (.builtin id) [.ref a] (backTo pos (starEach args env)) []) Q NoE s)
    (hbase : attributeBase (.Name x xp) name env (eval (.Name x xp) env) = eval (.Name x xp) env := by rfl)
    (hfew : ((backTo pos (starEach args env)).all (fun x => !x.1) && (backToKw pos (keywordEach [] env)).all (fun x => x.1.isSome) && decide (args.length + ([] : List Keyword).length + (if ([] : List Keyword).isEmpty then 0 else 1) < 30)) = true := by rfl)
    (hline : (apos.endLine == pos.line) = true := by rfl) (hd : (x == ("__debug__" : Str)) = false := by decide) : wpAny (MM w) A (eval (.Call (.Attribute (.Name x xp) name apos) args [] pos) env) Q NoE s := by
  obtain ⟨vs, n, q, _⟩ := (S.fs.own _ ha).1
  exact wpAny_Call_method hbase hfew hline F.plainAttrs_list slot hty (S.raw e ⟨⟨_, q, rfl⟩, fun b z => by cases z; exact ⟨_, q, rfl⟩, h⟩ hd)
theorem ST.pop {x : Str} {xp apos pos : Pos} {a : Addr} {ds : List D} {d : D} {Q : Value → Shared → Prop} (S : ST w s₀ env Mu γ ((a, .ls (ds ++ [d])) :: own) s) (e : γ.lookup x = some (.raw (.ref a))) (hn : ∀ p ∈ own, p.1 ≠ a) (hz : ds.length < sizeLine)
    (k : ∀ v s', Rp (vw s'.heap Mu) v d → ST w s₀ env Mu γ ((a, .ls ds) :: own) s' → Q v s')
    (hbase : attributeBase (.Name x xp) "pop" env (eval (.Name x xp) env) = eval (.Name x xp) env := by rfl) (hline : (apos.endLine == pos.line) = true := by rfl) (hd : (x == ("__debug__" : Str)) = false := by decide) : wpAny (MM w) A (eval (.Call (.Attribute (.Name x xp) "pop" apos) [] [] pos) env) Q NoE s := by
  refine S.meth e (.head _) F.slot_list_pop F.type_list_pop (callWith_method0 ?_) hbase rfl hline hd
  obtain ⟨ws, n, ho, rs⟩ := (S.fs.own _ (.head _)).1
  have hM := (S.fs.own _ (.head _)).2.1
  obtain ⟨us, v, rfl, ru, rv⟩ := rs.right_snoc
  have hk : (us ++ [v]).toArray.size - 1 = us.length := by rw [List.size_toArray, List.length_append]; rfl
  have hl := ru.length
  refine call_meets F.slot_list_pop ⟨_, ho, rfl⟩ F.entry_list_pop (F.args_list_pop_1 _) (MeetsSeq.list_pop_last a _ n v (by rw [hk]; simp) (by rw [List.size_toArray, List.length_append, hl]; exact hz)) ⟨ho, ?_⟩
  have hs : Heap.SameBut a s.heap (s.heap.update a (Obj.mapSeq fun xs => xs.eraseIdxIfInBounds ((us ++ [v]).toArray.size - 1))) := Heap.SameBut.update ..
  have em : Obj.mapSeq (fun xs => xs.eraseIdxIfInBounds ((us ++ [v]).toArray.size - 1)) (W.listOf (us ++ [v]).toArray n) = W.listOf us.toArray (n + 1) := by
    rw [mapSeq_erase _ _ _ (by rw [hk, List.size_toArray, List.length_append]; exact Nat.lt_succ_self _), hk, List.toList_toArray, kl_eraseL us [] v, List.append_nil]
  refine k v _ (by show Rp (vw (s.heap.update a _) Mu) v d; rw [vw_same hs hM]; exact rv) (S.upd hs ⟨us, n + 1, by rw [Heap.get?_update_self _ ho (by rw [em]; rfl), em], ru⟩ hn)
theorem ST.append {x : Str} {xp apos pos epos : Pos} {a : Addr} {ds : List D} {e : Expr} {d : D} {Q : Flow → Shared → Prop} (S : ST w s₀ env Mu γ ((a, .ls ds) :: own) s) (hx : γ.lookup x = some (.raw (.ref a))) (E : Ev w A env Mu γ e d) (hn : ∀ p ∈ own, p.1 ≠ a) (hz : ds.length ≤ sizeLine)
    (k : ∀ s', ST w s₀ env Mu γ ((a, .ls (ds ++ [d])) :: own) s' → Q .next s')
    (hbase : attributeBase (.Name x xp) "append" env (eval (.Name x xp) env) = eval (.Name x xp) env := by rfl) (hline : (apos.endLine == pos.line) = true := by rfl) (hd : (x == ("__debug__" : Str)) = false := by decide)
    (hfew : ((backTo pos (starEach [e] env)).all (fun x => !x.1) && (backToKw pos (keywordEach [] env)).all (fun x => x.1.isSome) && decide (([e] : List Expr).length + ([] : List Keyword).length + (if ([] : List Keyword).isEmpty then 0 else 1) < 30)) = true := by rfl)
    (he : starEach (e :: []) env = (false, eval e env) :: starEach [] env := by rfl)
    (hi : interactive env = false := by rfl) (hs : swapsWith (.Call (.Attribute (.Name x xp) "append" apos) [e] [] pos) none epos.line env = pure false := by rfl) : wpAny (MM w) A (exec (.Expr (.Call (.Attribute (.Name x xp) "append" apos) [e] [] pos) epos) env) Q NoE s := by
  refine wpAny_Expr (S.meth hx (.head _) F.slot_list_append F.type_list_append ?_ hbase hfew hline hd) hi hs
  refine callWith_method1 (spliced_more (S.ev E fun v s' S' r => spliced_none ?_) he) he rfl
  obtain ⟨us, n, ho, rs⟩ := (S'.fs.own _ (.head _)).1
  exact append_at ho (fun h' hs hp => k _ (S'.upd hs ⟨us ++ [v], n + 1, by rw [hp]; simp, rs.append (.one r)⟩ hn)) (by rw [List.size_toArray, rs.length]; exact hz)
theorem ST.extend {x : Str} {xp apos pos epos : Pos} {a : Addr} {ds es : List D} {e : Expr} {Q : Flow → Shared → Prop} (S : ST w s₀ env Mu γ ((a, .ls ds) :: own) s) (hx : γ.lookup x = some (.raw (.ref a))) (E : Ev w A env Mu γ e (.list es)) (hn : ∀ p ∈ own, p.1 ≠ a) (hz : ds.length + es.length ≤ sizeLine)
    (k : ∀ s', ST w s₀ env Mu γ ((a, .ls (ds ++ es)) :: own) s' → Q .next s')
    (hbase : attributeBase (.Name x xp) "extend" env (eval (.Name x xp) env) = eval (.Name x xp) env := by rfl) (hline : (apos.endLine == pos.line) = true := by rfl) (hd : (x == ("__debug__" : Str)) = false := by decide)
    (hfew : ((backTo pos (starEach [e] env)).all (fun x => !x.1) && (backToKw pos (keywordEach [] env)).all (fun x => x.1.isSome) && decide (([e] : List Expr).length + ([] : List Keyword).length + (if ([] : List Keyword).isEmpty then 0 else 1) < 30)) = true := by rfl)
    (he : starEach (e :: []) env = (false, eval e env) :: starEach [] env := by rfl)
    (hi : interactive env = false := by rfl) (hs : swapsWith (.Call (.Attribute (.Name x xp) "extend" apos) [e] [] pos) none epos.line env = pure false := by rfl) : wpAny (MM w) A (exec (.Expr (.Call (.Attribute (.Name x xp) "extend" apos) [e] [] pos) epos) env) Q NoE s := by
  refine wpAny_Expr (S.meth hx (.head _) F.slot_list_extend F.type_list_extend ?_ hbase hfew hline hd) hi hs
  refine callWith_method1 (spliced_more (S.ev E fun v s' S' r => spliced_none ?_) he) he rfl
  obtain ⟨us, n, ho, rs⟩ := (S'.fs.own _ (.head _)).1
  cases r with
  | @list b ws m _ hb rw' =>
    have hz' : us.toArray.size + ws.toArray.size ≤ sizeLine := by rw [List.size_toArray, List.size_toArray, rs.length, rw'.length]; exact hz
    refine call_meets F.slot_list_extend ⟨_, ho, rfl⟩ F.entry_list_extend (F.args_list_extend_2 _ _) (AutoSeq1.list_extend_list_list_0 a us.toArray n b ws.toArray m (extend_door hz') (Nat.le_trans (Nat.le_add_right _ _) hz') (Nat.le_succ_of_le hz')) ⟨ho, vw_get hb, ?_⟩
    have hs : Heap.SameBut a s'.heap (s'.heap.update a (Obj.mapSeq fun x => x ++ ws.toArray)) := Heap.SameBut.update ..
    exact k _ (S'.upd hs ⟨us ++ ws, _, by rw [Heap.get?_update_self _ ho (by rw [mapSeq_app]; rfl), mapSeq_app]; exact congrArg (fun z => some (W.listOf z _)) (by simp), rs.append rw'⟩ hn)
end
end Mine
namespace Mine
open PySem PySem.W PySem.Calls PySem.Spec PyProof.Rows

section
variable {w : World} {A : Around} {s₀ s s' : Shared} {env : Env} {Mu : List Addr} {γ : Gm} {own : Ow}
theorem rps_of_list {I : Im} {v : Value} {ds : List D} (r : Rp I v (.list ds)) : ∃ a vs n, v = .ref a ∧ I a = some (W.listOf vs.toArray n) ∧ Rps I vs ds := by
  cases r with | list h q => exact ⟨_, _, _, rfl, h, q⟩
theorem rps_of_tup {I : Im} {v : Value} {ds : List D} (r : Rp I v (.tup ds)) : ∃ a vs n, v = .ref a ∧ I a = some ({ cls := .type "tuple", data := .seq vs.toArray n } : Obj) ∧ Rps I vs ds := by
  cases r with | tup h q => exact ⟨_, _, _, rfl, h, q⟩
theorem ST.next {a : Addr} {k : ItK} {src : Value} {d x : D} {i : Nat} {Q : Option Value → Shared → Prop} (S : ST w s₀ env Mu γ ((a, .it k src d i) :: own) s) (hx : (k.seq d)[i]? = some x) (hn : ∀ p ∈ own, p.1 ≠ a) (hz : d.items.length < 2 ^ 62)
    (h : ∀ v s', Rp (vw s'.heap Mu) v x → ST w s₀ env Mu γ ((a, .it k src d (i + 1)) :: own) s' → Q (some v) s') : wpAny (MM w) A (pyNext (.ref a)) Q NoE s := by
  obtain ⟨⟨⟨o, ho, hc, hd⟩, r, ok⟩, hM, _⟩ := S.fs.own _ (.head _)
  have fin : ∀ v h' tk, Heap.SameBut a s.heap h' → Rp (vw s.heap Mu) v x → (∃ o, h'.get? a = some o ∧ o.cls = .type k.cls ∧ o.data = .fields #[src, .int (k.pos d (i + 1)) 0]) → Q (some v) { s with heap := h', toks := tk } := fun v h' tk hs rv hp => by
    refine h v _ ?_ (S.upd hs ⟨hp, r, ok⟩ hn)
    show Rp (vw h' Mu) v x
    rw [vw_same hs hM]; exact rv
  cases k with
  | ls =>
    cases d with
    | list ds =>
      obtain ⟨l, vs, n, rfl, hl, rs⟩ := rps_of_list r
      obtain ⟨v, hv, rv⟩ := rs.get hx
      exact wpAny_pyNext_list_item (items := vs.toArray) ⟨o, ho, hc, hd⟩ ⟨_, vw_get hl, rfl, n, rfl⟩ (by simpa using hv) fun h' hit hs => fin v h' _ hs rv hit
    | _ => cases ok
  | tp =>
    cases d with
    | tup ds =>
      obtain ⟨l, vs, n, rfl, hl, rs⟩ := rps_of_tup r
      obtain ⟨v, hv, rv⟩ := rs.get hx
      exact wpAny_pyNext_tuple_item (items := vs.toArray) ⟨o, ho, hc, hd⟩ ⟨_, vw_get hl, rfl, n, rfl⟩ (by simpa using hv) fun h' hit hs => fin v h' _ hs rv hit
    | _ => cases ok
  | rl =>
    cases d with
    | list ds =>
      obtain ⟨l, vs, n, rfl, hl, rs⟩ := rps_of_list r
      have hi : i < ds.length := by have := (List.getElem?_eq_some_iff.mp hx).1; simpa [ItK.seq, D.items] using this
      have hx' : ds[ds.length - 1 - i]? = some x := by rw [← hx]; simp only [ItK.seq, D.items]; rw [List.getElem?_reverse hi]
      obtain ⟨v, hv, rv⟩ := rs.get hx'
      have e1 : ItK.rl.pos (.list ds) i = ((ds.length - 1 - i : Nat) : Int) := by simp only [ItK.pos, D.items]; omega
      rw [e1] at hd
      refine wpAny_pyNext_rev_item (items := vs.toArray) (i := ds.length - 1 - i) ⟨o, ho, hc, hd⟩ ⟨_, vw_get hl, rfl, n, rfl⟩ (by simpa using hv) fun h' hit hs => fin v h' _ hs rv ?_
      have e2 : ((ds.length - 1 - i : Nat) : Int) - 1 = ItK.rl.pos (.list ds) (i + 1) := by simp only [ItK.pos, D.items]; omega
      rw [e2] at hit
      exact hit
    | _ => cases ok
  | rt =>
    cases d with
    | tup ds =>
      obtain ⟨l, vs, n, rfl, hl, rs⟩ := rps_of_tup r
      have hi : i < ds.length := by have := (List.getElem?_eq_some_iff.mp hx).1; simpa [ItK.seq, D.items] using this
      have hx' : ds[ds.length - 1 - i]? = some x := by rw [← hx]; simp only [ItK.seq, D.items]; rw [List.getElem?_reverse hi]
      obtain ⟨v, hv, rv⟩ := rs.get hx'
      have e1 : ItK.rt.pos (.tup ds) i = ((ds.length - 1 - i : Nat) : Int) := by simp only [ItK.pos, D.items]; omega
      rw [e1] at hd
      have hz' : ds.length < 2 ^ 62 := hz
      refine RT.next_item (items := vs.toArray) (i := ds.length - 1 - i) ⟨o, ho, hc, hd⟩ ⟨_, vw_get hl, rfl, n, rfl⟩ (by simpa using hv) (by omega) fun h' tk hit hs => fin v h' _ hs rv ?_
      have e2 : ((ds.length - 1 - i : Nat) : Int) - 1 = ItK.rt.pos (.tup ds) (i + 1) := by simp only [ItK.pos, D.items]; omega
      rw [e2] at hit
      exact hit
    | _ => cases ok
theorem ST.stop {a : Addr} {k : ItK} {src : Value} {d : D} {Q : Option Value → Shared → Prop} (S : ST w s₀ env (a :: Mu) γ ((a, .it k src d (k.seq d).length) :: own) s) (hA : A.handled = none) (hn : ∀ p ∈ own, p.1 ≠ a) (hL : env.locals ∈ Mu) (hC : ∀ x c, env.cells.lookup x = some c → c ∈ Mu) (ha : a ∉ Mu) (hM : ∀ p ∈ own, p.1 ∈ Mu)
    (h : ∀ s', ST w s₀ env Mu γ own s' → Q none s') : wpAny (MM w) A (pyNext (.ref a)) Q NoE s := by
  obtain ⟨⟨⟨o, ho, hc, hd⟩, r, ok⟩, _⟩ := S.fs.own _ (.head _)
  have fin : ∀ h', Heap.ExtBut a s.heap h' → Q none { s with heap := h' } := fun h' k => h _ (by
    obtain ⟨hh, t, e⟩ := S.same
    exact ⟨⟨h', t, by rw [e]⟩, S.fs.free k hn hL hC ha hM, S.gl⟩)
  cases k with
  | ls =>
    cases d with
    | list ds =>
      obtain ⟨l, vs, n, rfl, hl, rs⟩ := rps_of_list r
      exact wpAny_pyNext_list_end (items := vs.toArray) hA ⟨o, ho, hc, hd⟩ ⟨_, vw_get hl, rfl, n, rfl⟩ (by simp [ItK.seq, D.items, rs.length]) fin
    | _ => cases ok
  | tp =>
    cases d with
    | tup ds =>
      obtain ⟨l, vs, n, rfl, hl, rs⟩ := rps_of_tup r
      exact wpAny_pyNext_tuple_end (items := vs.toArray) hA ⟨o, ho, hc, hd⟩ ⟨_, vw_get hl, rfl, n, rfl⟩ (by simp [ItK.seq, D.items, rs.length]) fin
    | _ => cases ok
  | rl =>
    cases d with
    | list ds =>
      obtain ⟨l, vs, n, rfl, hl, rs⟩ := rps_of_list r
      have e1 : ItK.rl.pos (.list ds) (ItK.rl.seq (.list ds)).length = -1 := by simp only [ItK.pos, ItK.seq, D.items, List.length_reverse]; omega
      rw [e1] at hd
      exact wpAny_pyNext_rev_end hA ⟨o, ho, hc, hd⟩ fin
    | _ => cases ok
  | rt =>
    cases d with
    | tup ds =>
      obtain ⟨l, vs, n, rfl, hl, rs⟩ := rps_of_tup r
      have e1 : ItK.rt.pos (.tup ds) (ItK.rt.seq (.tup ds)).length = -1 := by simp only [ItK.pos, ItK.seq, D.items, List.length_reverse]; omega
      rw [e1] at hd
      exact RT.next_end hA ⟨o, ho, hc, hd⟩ fin
    | _ => cases ok

end
end Mine
namespace Mine
open PySem PySem.W PySem.Calls PySem.Spec PyProof.Rows

section
variable {w : World} {A : Around} {s₀ s s' : Shared} {env : Env} {Mu : List Addr} {γ : Gm} {own : Ow}
end
end Mine
namespace Mine
open PySem PySem.W PySem.Calls PySem.Spec PyProof.Rows

section
variable {w : World} {A : Around} {s₀ s s' : Shared} {env : Env} {Mu : List Addr} {γ : Gm} {own : Ow}
theorem ST.evF {e : Expr} {ds : List D} {Q : Value → Shared → Prop} (S : ST w s₀ env Mu γ own s) (E : EvF w A env Mu γ e ds) (k : ∀ a s', a ∉ Mu → (∀ p ∈ own, p.1 ≠ a) → ST w s₀ env (a :: Mu) γ ((a, .ls ds) :: own) s' → Q (.ref a) s') : wpAny (MM w) A (PySem.eval e env) Q NoE s :=
  wpAny_mono (E s S.g S.fs.rdy) (fun v s' ⟨kk, a, vs, n, e, f, q, rs⟩ => by
    subst e
    have ap := S.apart f
    exact k a s' ap.1 ap.2 (S.take kk f ⟨vs, n, q, rs⟩)) fun _ _ x => x
/-- a list of one's own under a name -/
theorem ST.own1 {x : Str} {xp pos : Pos} {e : Expr} {ds : List D} {Q : Flow → Shared → Prop} (S : ST w s₀ env Mu γ own s) (E : EvF w A env Mu γ e ds) (k : ∀ a s', a ∉ Mu → (∀ p ∈ own, p.1 ≠ a) → ST w s₀ env (a :: Mu) ((x, .raw (.ref a)) :: γ) ((a, .ls ds) :: own) s' → Q .next s')
    (hk : Kd env x := by first | exact .inl rfl | exact .inr ⟨rfl, _, rfl⟩) (hs : swapsWith e (some (.Name x xp)) pos.line env = pure false := by rfl) : wpAny (MM w) A (exec (.Assign [.Name x xp] e pos) env) Q NoE s :=
  wpAny_Assign_Name (S.evF E fun a s' h1 h2 S' => S'.store (g := .raw (.ref a)) hk rfl fun s'' S'' => k a s'' h1 h2 S'') hs
theorem unpack2 {A : Around} {u v : Value} {t : Addr} {s : Shared} {E : Value → Shared → Prop} {Q : List Value → Shared → Prop} (hA : A.handled = none) (hT : IsTup s.heap t [u, v].toArray) (h : ∀ s', Keeps s s' → Q [u, v] s') : wpAny (MM w) A (unpackItems (.ref t) 2 none) Q E s :=
  unpackItems_tuple (items := [u, v].toArray) hA hT fun h' he => h _ ⟨h', _, rfl, fun c o q => he c o (Nat.ne_of_lt (Heap.lt_size q)) q⟩
theorem ST.own2 {x y : Str} {xp yp tp vp pos : Pos} {tk vk : Nat} {e1 e2 : Expr} {ds1 ds2 : List D} {Q : Flow → Shared → Prop} (S : ST w s₀ env Mu γ own s) (hA : A.handled = none) (E1 : ∀ Mu, EvF w A env Mu γ e1 ds1) (E2 : ∀ Mu, EvF w A env Mu γ e2 ds2)
    (k : ∀ a b s', a ≠ b → a ∉ Mu → b ∉ Mu → (∀ p ∈ own, p.1 ≠ a) → (∀ p ∈ own, p.1 ≠ b) → ST w s₀ env (b :: a :: Mu) ((x, .raw (.ref a)) :: (y, .raw (.ref b)) :: γ) ((b, .ls ds2) :: (a, .ls ds1) :: own) s' → Q .next s')
    (hk1 : Kd env x := by first | exact .inl rfl | exact .inr ⟨rfl, _, rfl⟩) (hk2 : Kd env y := by first | exact .inl rfl | exact .inr ⟨rfl, _, rfl⟩)
    (he1 : starEach [e1, e2] env = (false, eval e1 env) :: starEach [e2] env := by rfl) (he2 : starEach [e2] env = (false, eval e2 env) :: starEach [] env := by rfl)
    (hs : swapsWithSole [.Tuple [.Name x xp, .Name y yp] tk tp] (.Tuple [e1, e2] vk vp) pos.line env = pure false := by rfl) (hw : swappedStores [.Tuple [.Name x xp, .Name y yp] tk tp] (.Tuple [e1, e2] vk vp) env = pure (some [x, y]) := by rfl) :
    wpAny (MM w) A (exec (.Assign [.Tuple [.Name x xp, .Name y yp] tk tp] (.Tuple [e1, e2] vk vp) pos) env) Q NoE s := by
  refine Assign_Tuple_swapped (names := [x, y]) (Tuple_ ?_) hs hw
  refine spliced_more (e := e1) (rest := [e2]) ?_ he1
  refine S.evF (E1 Mu) fun a s₁ a1 a2 S₁ => ?_
  refine spliced_more (e := e2) (rest := []) ?_ he2
  refine S₁.evF (E2 _) fun b s₂ b1 b2 S₂ => ?_
  refine spliced_none ?_
  refine wpAny_newObj_type (T := "tuple") (data := .seq [Value.ref a, Value.ref b].toArray) ?_ (by show (2 : Nat) ≤ sizeLine; decide)
  have kp : Keeps s₂ { s₂ with heap := s₂.heap.push { cls := .type "tuple", data := .seq [Value.ref a, Value.ref b].toArray } } := keeps_push
  have S₃ := S₂.keeps kp
  have hT : IsTup (s₂.heap.push { cls := .type "tuple", data := .seq [Value.ref a, Value.ref b].toArray }) s₂.heap.objs.size [Value.ref a, Value.ref b].toArray := ⟨_, Heap.get?_push_size _ rfl, rfl, 0, rfl⟩
  show wpAny (MM w) A (unpackItems (Value.ref s₂.heap.objs.size) 2 none) _ _ _
  have hT' : IsTup ({ s₂ with heap := s₂.heap.push { cls := Value.type "tuple", data := Data.seq [Value.ref a, Value.ref b].toArray } } : Shared).heap s₂.heap.objs.size [Value.ref a, Value.ref b].toArray := hT
  revert S₃ hT'
  generalize ({ s₂ with heap := s₂.heap.push { cls := Value.type "tuple", data := Data.seq [Value.ref a, Value.ref b].toArray } } : Shared) = st
  intro S₃ hT'
  refine unpack2 (u := .ref a) (v := .ref b) hA hT' fun s₄ k' => ?_
  have S₄ := S₃.keeps k'
  show wpAny _ _ (assignInOrder [fun v => bindName env y v, fun v => bindName env x v] [Value.ref b, Value.ref a]) _ _ _
  refine assignInOrder_cons (wpAny_bindName (S₄.store (g := .raw (.ref b)) hk2 rfl fun s₅ S₅ => assignInOrder_cons (wpAny_bindName (S₅.store (g := .raw (.ref a)) hk1 rfl fun s₆ S₆ => assignInOrder_nil ?_))))
  exact k a b s₆ (fun e => b1 (e ▸ .head _)) a1 (fun m => b1 (.tail _ m)) a2 (fun p hp => b2 p (.tail _ hp)) S₆
theorem ST.while {test : Expr} {body : List Stmt} {pos : Pos} {Q : Flow → Shared → Prop} {σ : Type} (gam : σ → Gm) (ow : σ → Ow) (μ : σ → Nat) (c₀ : σ) (S : ST w s₀ env Mu (gam c₀) (ow c₀) s)
    (turn : ∀ c s', ST w s₀ env Mu (gam c) (ow c) s' → wpAny (MM w) A (PySem.isTrue test env (eval test env)) (fun b s₂ =>
      if b = true then wpAny (MM w) A (execs body env) (fun f s₃ => match f with | .next | .cont => ∃ c', μ c' < μ c ∧ ST w s₀ env Mu (gam c') (ow c') s₃ | .brk => Q .next s₃ | .ret v => Q (.ret v) s₃) NoE s₂
      else Q .next s₂) NoE s') : wpAny (MM w) A (exec (.While test body [] pos) env) Q NoE s := by
  refine wpAny_While (codeAny_whileLoop (fun n s' => ∃ c, μ c = n ∧ ST w s₀ env Mu (gam c) (ow c) s') ?_ (μ c₀) ⟨c₀, rfl, S⟩)
  rintro n s' ⟨c, rfl, S'⟩
  refine wpAny_mono (turn c s' S') (fun b s₂ h => ?_) fun _ _ x => x.elim
  cases b with
  | false => simp only [Bool.false_eq_true, if_false] at h ⊢; exact wpAny_execs_nil h
  | true =>
    simp only [if_true] at h ⊢
    refine wpAny_mono h (fun f s₃ h₃ => ?_) fun _ _ x => x.elim
    cases f with
    | next => obtain ⟨c', h1, h2⟩ := h₃; exact ⟨_, h1, c', rfl, h2⟩
    | cont => obtain ⟨c', h1, h2⟩ := h₃; exact ⟨_, h1, c', rfl, h2⟩
    | brk => exact h₃
    | ret v => exact h₃
theorem ST.lenGt {x : Str} {xp p1 p2 p3 p4 : Pos} {k : Nat} {a : Addr} {ds : List D} {Q : Bool → Shared → Prop} (S : ST w s₀ env Mu γ own s) (eo : EnvOk env) (hx : γ.lookup x = some (.raw (.ref a))) (ha : (a, OB.ls ds) ∈ own) (hz : ds.length < 2 ^ 62)
    (h : ∀ s', ST w s₀ env Mu γ own s' → Q (decide (0 < ds.length)) s') (hl : env.kindOf "len" = some .globalImplicit := by rfl) (hd : (x == ("__debug__" : Str)) = false := by decide) :
    wpAny (MM w) A (PySem.isTrue (.Compare (.Call (.Name "len" p1) [.Name x xp] [] p2) [.Gt] [.Constant (.int 0) k p3] p4) env (eval (.Compare (.Call (.Name "len" p1) [.Name x xp] [] p2) [.Gt] [.Constant (.int 0) k p3] p4) env)) Q NoE s := by
  obtain ⟨vs, n, ho, rs⟩ := (S.fs.own _ ha).1
  have hL : s.heap.IsList a vs.toArray := ⟨_, ho, rfl, n, rfl⟩
  refine wpAny_isTrue_Compare1 (Call_ (name_bi eo S.g (v := .builtin "len") (by kernel_rfl) (by kernel_rfl) (by decide) hl (PyProof.Rows.callWith_builtin1 (spliced_more (S.raw hx (spliced_none ?_) hd)) rfl rfl))) rfl
  refine call_len_list hL (by rw [List.size_toArray, rs.length]; omega) ?_
  refine wpAny_Constant_int (gt_int (wpAny_truthy_bool ?_))
  rw [List.size_toArray, rs.length]
  have e : decide ((0 : Int) < (ds.length : Int)) = decide (0 < ds.length) := by by_cases q : 0 < ds.length <;> simp [q] <;> omega
  rw [e]
  exact h _ (S.keeps ⟨s.heap, _, rfl, fun _ _ e => e⟩)
theorem ST.retOwn {x : Str} {xp pos : Pos} {v : Value} {Q : Flow → Shared → Prop} (S : ST w s₀ env Mu γ own s) (hx : γ.lookup x = some (.raw v)) (h : Q (.ret v) s) (hd : (x == ("__debug__" : Str)) = false := by decide) : wpAny (MM w) A (exec (.Return (some (.Name x xp)) pos) env) Q NoE s :=
  wpAny_Return_some (S.raw hx h hd)
theorem ST.fin {a : Addr} {ds : List D} {Mu₀ : List Addr} (S : ST w s₀ env Mu γ own s) (ha : (a, OB.ls ds) ∈ own) (hM : ∀ b ∈ Mu₀, b ∈ Mu) :
    Keeps s₀ s ∧ ∃ a' us n, Value.ref a = .ref a' ∧ s₀.heap.get? a' = none ∧ s.heap.get? a' = some (W.listOf us.toArray n) ∧ Rps (vw s.heap (a' :: Mu₀)) us ds := by
  obtain ⟨⟨vs, n, ho, rs⟩, h1, _, _, h2⟩ := S.fs.own _ ha
  exact ⟨S.out, a, vs, n, rfl, h2, ho, rs.mono (vw_less fun b m => by rcases List.mem_cons.mp m with rfl | m; exact h1; exact hM b m)⟩
end
end Mine
namespace Mine
open PySem PySem.W PySem.Calls PySem.Spec PyProof.Rows

section
variable {h₀ h h' : Heap} {env : Env} {Mu : List Addr} {γ : Gm} {own : Ow}
/-- objects of one's own are turned -/
theorem FS.turn {os os' : Ow} (S : FS h₀ env Mu γ (os ++ own) h) (k : ∀ c o, c ∉ os.map (·.1) → h.get? c = some o → h'.get? c = some o) (ho : ∀ p ∈ os', p.2.At (vw h' Mu) h' p.1) (hk : os'.map (·.1) = os.map (·.1)) (hd : ∀ p ∈ own, p.1 ∉ os.map (·.1)) :
    FS h₀ env Mu γ (os' ++ own) h' := by
  obtain ⟨m, cm, F, C, V⟩ := S.ex
  have key : ∀ c ∈ os.map (·.1), c ∈ Mu ∧ c ≠ env.locals ∧ (∀ x b, env.cells.lookup x = some b → b ≠ c) ∧ h₀.get? c = none := fun c hc => by
    obtain ⟨p, hp, rfl⟩ := List.mem_map.mp hc
    exact (S.own p (List.mem_append_left _ hp)).2
  have sub : Sub (vw h Mu) (vw h' Mu) := fun c o e => vw_in (k _ _ (fun m => vw_out e (key c m).1) (vw_get e)) (vw_out e)
  refine ⟨⟨m, cm, ⟨?_, fun c o e => k _ _ (fun m => by rw [(key c m).2.2.2] at e; cases e) (F.keep c o e), F.above⟩, ⟨fun n c e => ?_, C.apart, C.above⟩, fun x g e => ?_⟩, S.kind, S.loc, S.cel, fun c hc => ?_, fun p hp => ?_⟩
  · exact F.ns.at' fun o e => k _ _ (fun m => (key _ m).2.1 rfl) e
  · obtain ⟨o, q, r⟩ := C.cell n c e
    exact ⟨o, k _ _ (fun m => (key _ m).2.2.1 n c e rfl) q, r⟩
  · obtain ⟨v, a, b⟩ := V x g e
    exact ⟨v, a.mono sub, b⟩
  · by_cases hc' : c ∈ os.map (·.1)
    · rw [← hk] at hc'
      obtain ⟨p, hp, rfl⟩ := List.mem_map.mp hc'
      exact (ho p hp).there
    · obtain ⟨o, e⟩ := S.mok c hc
      exact ⟨o, k _ _ hc' e⟩
  · rcases List.mem_append.mp hp with hp | hp
    · have : p.1 ∈ os.map (·.1) := hk ▸ List.mem_map_of_mem hp
      exact ⟨ho p hp, key _ this⟩
    · obtain ⟨q1, q2⟩ := S.own p (List.mem_append_right _ hp)
      exact ⟨q1.move sub fun o e => k _ _ (hd p hp) e, q2⟩
/-- new objects that are to be turned -/
theorem FS.takes {os : Ow} {g : Heap} (S₀ : FS h₀ env Mu γ own g) (k : Ext g h) (hg : ∀ a ∈ os.map (·.1), g.get? a = none) (ho : ∀ p ∈ os, p.2.At (vw h (os.map (·.1) ++ Mu)) h p.1) : FS h₀ env (os.map (·.1) ++ Mu) γ (os ++ own) h := by
  obtain ⟨m, cm, F, C, V⟩ := S₀.ex
  have sub : Sub (vw g Mu) (vw h (os.map (·.1) ++ Mu)) := fun b x e => vw_in (k _ _ (vw_get e)) fun q => by
    rcases List.mem_append.mp q with q | q
    · have := vw_get e; rw [hg b q] at this; cases this
    · exact vw_out e q
  refine ⟨⟨m, cm, ⟨F.ns.keeps k, fun b o e => k _ _ (F.keep b o e), F.above⟩, C.keeps k, fun x gg e => ?_⟩, S₀.kind, List.mem_append_right _ S₀.loc, fun x c e => List.mem_append_right _ (S₀.cel x c e), fun c hc => ?_, fun p hp => ?_⟩
  · obtain ⟨v, q, r⟩ := V x gg e
    exact ⟨v, q.mono sub, r⟩
  · rcases List.mem_append.mp hc with hc | hc
    · obtain ⟨p, hp, rfl⟩ := List.mem_map.mp hc
      exact (ho p hp).there
    · obtain ⟨o, e⟩ := S₀.mok c hc
      exact ⟨o, k _ _ e⟩
  · rcases List.mem_append.mp hp with hp | hp
    · have hm : p.1 ∈ os.map (·.1) := List.mem_map_of_mem hp
      refine ⟨ho p hp, List.mem_append_left _ hm, fun e => ?_, fun x c e q => ?_, ?_⟩
      · obtain ⟨z, _, _, hz, _⟩ := F.ns
        rw [← e, hg _ hm] at hz; cases hz
      · obtain ⟨z, hz, _⟩ := C.cell x c e
        rw [q, hg _ hm] at hz; cases hz
      · cases z : h₀.get? p.1 with
        | none => rfl
        | some o => have := F.keep _ _ z; rw [hg _ hm] at this; cases this
    · obtain ⟨q1, q2, q3⟩ := S₀.own p hp
      exact ⟨q1.move sub fun o e => k _ _ e, List.mem_append_right _ q2, q3⟩
end

/-- an iterator: the objects it owns at each step, and what it gives -/
structure Itr (w : World) (A : Around) (target : Expr) (it : Value) (as : List Addr) (iw : Nat → Ow) (xs : List D) : Prop where
  keys : ∀ i, (iw i).map (·.1) = as
  next : ∀ {s₀ s : Shared} {env : Env} {Mu : List Addr} {γ : Gm} {own : Ow} {i : Nat} {x : D} {Q : Value → Shared → Prop}, ST w s₀ env Mu γ (iw i ++ own) s → (∀ p ∈ own, p.1 ∉ as) → xs[i]? = some x →
    (∀ v s', Rp (vw s'.heap Mu) v x → ST w s₀ env Mu γ (iw (i + 1) ++ own) s' → Q v s') →
    wpAny (MM w) A (pyNext it) (fun r s' => ∃ v, r = some v ∧ wpAny (MM w) A (letOwnedTupleGo target it v) (fun _ s'' => Q v s'') NoE s') NoE s
  stop : ∀ {s₀ s : Shared} {env : Env} {Mu : List Addr} {γ : Gm} {own : Ow} {Q : Option Value → Shared → Prop}, ST w s₀ env (as ++ Mu) γ (iw xs.length ++ own) s → (∀ p ∈ own, p.1 ∉ as) → env.locals ∈ Mu → (∀ x c, env.cells.lookup x = some c → c ∈ Mu) → (∀ a ∈ as, a ∉ Mu) → (∀ p ∈ own, p.1 ∈ Mu) →
    (∀ s', ST w s₀ env Mu γ own s' → Q none s') → wpAny (MM w) A (pyNext it) Q NoE s
  self : ∀ {s₀ s : Shared} {env : Env} {Mu : List Addr} {γ : Gm} {own : Ow} {Q : Value → Shared → Prop}, ST w s₀ env Mu γ (iw 0 ++ own) s → Q it s → wpAny (MM w) A (pyIter it) Q NoE s

section
variable {w : World} {A : Around} {env : Env} {Mu : List Addr} {γ : Gm}
/-- an expression whose iterator gives data -/
def EvI (w : World) (A : Around) (env : Env) (Mu : List Addr) (γ : Gm) (target e : Expr) (xs : List D) : Prop :=
  ∀ s : Shared, Gl w s.heap → Rdy env Mu γ s.heap → wpAny (MM w) A (eval e env) (fun x s₁ => wpAny (MM w) A (pyIter x) (fun it s₂ => Keeps s s₂ ∧ ∃ as iw, Itr w A target it as iw xs ∧ (∀ a ∈ as, s.heap.get? a = none) ∧ ∀ p ∈ iw 0, p.2.At (vw s₂.heap (as ++ Mu)) s₂.heap p.1) NoE s₁) NoE s

theorem letgo_at {target : Expr} {a : Addr} {k : ItK} {src v : Value} {o : Obj} {p : Int} {E : Value → Shared → Prop} {Q : Unit → Shared → Prop} {s : Shared} (ho : s.heap.get? a = some o) (hc : o.cls = .type k.cls) (hd : o.data = .fields #[src, .int p 0]) (h : Q () s) : wpAny (MM w) A (letOwnedTupleGo target (.ref a) v) Q E s := by
  have go : wpAny (MM w) A (do
      let (.ref r, .ref b) := (Value.ref a, v) | return
      let o ← load r
      match o.cls, o.data with
      | .type n, .fields vs =>
        if ["enumerate", "zip", "dict_itemiterator", "dict_reverseitemiterator", "odict_iterator", "itertools.zip_longest", "itertools.pairwise"].contains n && vs[0]? == some (rawInt b) then
          rule "for.unpacks-the-owned-tuple"
          updateField r 0 .none
      | _, _ => pure ()) Q E s := by
    cases v with
    | ref b =>
      refine wpAny_bind (wpAny_load ho ?_)
      rw [hc, hd]
      dsimp only
      rw [if_neg (by cases k <;> simp [ItK.cls])]
      exact wpAny_pure h
    | _ => exact wpAny_pure h
  cases target <;> first | exact wpAny_pure h | exact go
theorem Itr.plain {target : Expr} {a : Addr} {k : ItK} {src : Value} {d : D} (hA : A.handled = none) (ok : k.ok d = true) (hz : d.items.length < 2 ^ 62) : Itr w A target (.ref a) [a] (fun i => [(a, .it k src d i)]) (k.seq d) where
  keys := fun _ => rfl
  next := fun {s₀ s env Mu γ own i x Q} S hd hx h => by
    refine S.next (Q := fun r s' => ∃ v, r = some v ∧ wpAny (MM w) A (letOwnedTupleGo target (.ref a) v) (fun _ s'' => Q v s'') NoE s') hx (fun p hp e => hd p hp (e ▸ .head _)) hz fun v s' rv S' => ⟨v, rfl, ?_⟩
    obtain ⟨⟨⟨o, ho, hc, hd⟩, r, _⟩, _⟩ := S'.fs.own _ (.head _)
    exact letgo_at (k := k) ho hc hd (h v s' rv S')
  stop := fun {s₀ s env Mu γ own Q} S hd hL hC ha hM h => S.stop hA (fun p hp e => hd p hp (e ▸ .head _)) hL hC (ha a (.head _)) hM h
  self := fun {s₀ s env Mu γ own Q} S h => by
    obtain ⟨⟨⟨o, ho, hc, hd⟩, r, ok⟩, _⟩ := S.fs.own _ (.head _)
    cases k with
    | ls =>
      cases d with
      | list ds => obtain ⟨l, vs, n, rfl, hl, rs⟩ := rps_of_list r; exact wpAny_pyIter_listiter (i := 0) ⟨o, ho, hc, hd⟩ h
      | _ => cases ok
    | tp =>
      cases d with
      | tup ds => obtain ⟨l, vs, n, rfl, hl, rs⟩ := rps_of_tup r; exact wpAny_pyIter_tupleiter (i := 0) ⟨o, ho, hc, hd⟩ h
      | _ => cases ok
    | rl =>
      cases d with
      | list ds => obtain ⟨l, vs, n, rfl, hl, rs⟩ := rps_of_list r; exact wpAny_pyIter_revIter ⟨o, ho, hc, hd⟩ h
      | _ => cases ok
    | rt =>
      cases d with
      | tup ds => obtain ⟨l, vs, n, rfl, hl, rs⟩ := rps_of_tup r; exact RT.iter ⟨o, ho, hc, hd⟩ h
      | _ => cases ok
/-- a new iterator object -/
theorem plain_new {target : Expr} {s s₂ : Shared} {o : Obj} {k : ItK} {src : Value} {d : D} {t : Nat} (hA : A.handled = none) (ok : k.ok d = true) (hz : d.items.length < 2 ^ 62) (k₂ : Keeps s s₂) (r : Rp (vw s₂.heap Mu) src d) (hc : o.cls = .type k.cls) (hd : o.data = .fields #[src, .int (k.pos d 0) 0]) :
    Keeps s { s₂ with heap := s₂.heap.push o, toks := t } ∧ ∃ as iw, Itr w A target (.ref s₂.heap.objs.size) as iw (k.seq d) ∧ (∀ a ∈ as, s.heap.get? a = none) ∧ ∀ p ∈ iw 0, p.2.At (vw (s₂.heap.push o) (as ++ Mu)) (s₂.heap.push o) p.1 := by
  refine ⟨keeps_trans k₂ ⟨s₂.heap.push o, t, rfl, fun b x e => Heap.get?_push_of_some _ e⟩, _, _, Itr.plain (src := src) hA ok hz, fun a ha => ?_, fun p hp => ?_⟩
  · rw [List.mem_singleton.mp ha]
    cases z : s.heap.get? s₂.heap.objs.size with
    | none => rfl
    | some o => have := (keeps_ext k₂) _ _ z; rw [fresh_size] at this; cases this
  · rw [List.mem_singleton.mp hp]
    refine ⟨⟨o, Heap.get?_push_size _ ?_, hc, hd⟩, r.mono vw_push, ok⟩
    obtain ⟨c, dd, dt, sl⟩ := o
    have hd' : dt = _ := hd
    subst hd'
    rfl
theorem EvI.list {target e : Expr} {ds : List D} (hA : A.handled = none) (E : Ev w A env Mu γ e (.list ds)) (hz : ds.length < 2 ^ 62) : EvI w A env Mu γ target e ds := fun s g r =>
  E.use keeps_refl g r fun v s₂ k₂ _ rv => by
    obtain ⟨l, vs, n, rfl, hl, rs⟩ := rps_of_list rv
    exact wpAny_pyIter_list (items := vs.toArray) ⟨_, vw_get hl, rfl, n, rfl⟩ (plain_new (k := .ls) (d := .list ds) (o := { cls := .type "list_iterator", data := .fields #[.ref l, .int 0 0] }) (t := s₂.toks) hA rfl hz k₂ rv rfl rfl)
theorem EvI.rev {target : Expr} {x : Str} {xp p1 p2 : Pos} {d : D} (hA : A.handled = none) (eo : EnvOk env) (E : Ev w A env Mu γ (.Name x xp) d) (hq : d.isSeq = true) (hz : d.items.length < 2 ^ 62) (hl : env.kindOf "reversed" = some .globalImplicit := by rfl) :
    EvI w A env Mu γ target (.Call (.Name "reversed" p1) [.Name x xp] [] p2) d.items.reverse := fun s g r =>
  Call_ (name_bi eo g (v := .type "reversed") (by kernel_rfl) (by kernel_rfl) (by decide) hl (PyProof.Rows.callWith_type1 (spliced_more (E.use keeps_refl g r fun v s₂ k₂ _ rv => spliced_none (by
    cases d with
    | list ds =>
      obtain ⟨l, vs, n, rfl, hl, rs⟩ := rps_of_list rv
      refine call_reversed_list (items := vs.toArray) ⟨_, vw_get hl, rfl, n, rfl⟩ ?_
      have e1 : ((vs.toArray.size : Int) - 1) = ItK.rl.pos (.list ds) 0 := by simp [ItK.pos, D.items, rs.length]
      rw [e1]
      exact wpAny_pyIter_revIter ⟨_, Heap.get?_push_size _ rfl, rfl, rfl⟩ (plain_new (k := .rl) (d := .list ds) (t := s₂.toks) hA rfl hz k₂ rv rfl rfl)
    | tup ds =>
      obtain ⟨l, vs, n, rfl, hl, rs⟩ := rps_of_tup rv
      refine RT.call_reversed (items := vs.toArray) ⟨_, vw_get hl, rfl, n, rfl⟩ (by rw [List.size_toArray, rs.length]; simp [D.items] at hz; omega) fun tk => ?_
      have e1 : ((vs.toArray.size : Int) - 1) = ItK.rt.pos (.tup ds) 0 := by simp [ItK.pos, D.items, rs.length]
      rw [e1]
      exact RT.iter ⟨_, Heap.get?_push_size _ rfl, rfl, rfl⟩ (plain_new (k := .rt) (d := .tup ds) (t := tk) hA rfl hz k₂ rv rfl rfl)
    | _ => cases hq)) rfl) rfl rfl))
end
end Mine
namespace Mine
open PySem PySem.W PySem.Calls PySem.Spec PyProof.Rows

section
variable {w : World} {A : Around} {s₀ s s' : Shared} {env : Env} {Mu : List Addr} {γ : Gm} {own : Ow}
theorem ST.takes {os : Ow} (S : ST w s₀ env Mu γ own s) (k : Keeps s s') (hg : ∀ a ∈ os.map (·.1), s.heap.get? a = none) (ho : ∀ p ∈ os, p.2.At (vw s'.heap (os.map (·.1) ++ Mu)) s'.heap p.1) : ST w s₀ env (os.map (·.1) ++ Mu) γ (os ++ own) s' :=
  ⟨(S.keeps k).same, S.fs.takes (keeps_ext k) hg ho, S.gl⟩
/-- what a turn hands on -/
def LoopEnd (w : World) (s₀ : Shared) (env : Env) (Mu : List Addr) (γ : Gm) (own : Ow) (Q : Flow → Shared → Prop) (f : Flow) (s : Shared) : Prop := match f with
  | .next | .cont => ST w s₀ env Mu γ own s
  | .brk => Q .next s
  | .ret u => Q (.ret u) s
theorem ST.loop {target iter : Expr} {body : List Stmt} {pos : Pos} {Q : Flow → Shared → Prop} (xs : List D) (gam : Nat → Gm) (ow : Nat → Ow) (S : ST w s₀ env Mu (gam 0) (ow 0) s)
    (hit : EvI w A env Mu (gam 0) target iter xs)
    (hown : ∀ i, (ow i).map (·.1) = (ow 0).map (·.1))
    (turn : ∀ i x as (iw : Nat → Ow) v s', xs[i]? = some x → (∀ a ∈ as, a ∉ Mu) → (∀ p ∈ ow i, p.1 ∉ as) → (∀ p ∈ ow i, p.1 ∈ Mu) → (∀ i, ∀ p ∈ iw i, p.1 ∈ as) → ST w s₀ env (as ++ Mu) (gam i) (iw (i + 1) ++ ow i) s' → Rp (vw s'.heap (as ++ Mu)) v x →
      wpAny (MM w) A (PySem.assign target env v) (fun _ s₂ => wpAny (MM w) A (execs body env) (LoopEnd w s₀ env (as ++ Mu) (gam (i + 1)) (iw (i + 1) ++ ow (i + 1)) Q) NoE s₂) NoE s')
    (done : ∀ s', ST w s₀ env Mu (gam xs.length) (ow xs.length) s' → Q .next s')
    (hs : ∀ x, foldedSetIterable iter env x = pure x := by intro _; rfl) : wpAny (MM w) A (exec (.For target iter body [] pos) env) Q NoE s := by
  refine wpAny_For (wpAny_mono (hit s S.g S.fs.rdy) (fun x s₁ h₁ => wpAny_mono h₁ (fun it s₂ h₂ => ?_) fun _ _ x => x) fun _ _ x => x) hs
  obtain ⟨k₂, as, iw, I, hf, ho⟩ := h₂
  have ka := I.keys 0
  have S₂ : ST w s₀ env (as ++ Mu) (gam 0) (iw 0 ++ ow 0) s₂ := by
    have := S.takes (os := iw 0) k₂ (by rw [ka]; exact hf) (by rw [ka]; exact ho)
    rwa [ka] at this
  have ha : ∀ a ∈ as, a ∉ Mu := fun a m => (S.apart (hf a m)).1
  have hM0 : ∀ p ∈ ow 0, p.1 ∈ Mu := fun p hp => (S.fs.own p hp).2.1
  have hM : ∀ i, ∀ p ∈ ow i, p.1 ∈ Mu := fun i p hp => by
    have : p.1 ∈ (ow i).map (·.1) := List.mem_map_of_mem hp
    rw [hown i] at this
    obtain ⟨q, hq, e'⟩ := List.mem_map.mp this
    exact e' ▸ hM0 q hq
  have hn : ∀ i, ∀ p ∈ ow i, p.1 ∉ as := fun i p hp m => ha _ m (hM i p hp)
  have hi : ∀ i, ∀ p ∈ iw i, p.1 ∈ as := fun i p hp => I.keys i ▸ List.mem_map_of_mem hp
  refine codeAny_forLoop_any (fun n s' => ∃ i, i ≤ xs.length ∧ n = xs.length - i ∧ ST w s₀ env (as ++ Mu) (gam i) (iw i ++ ow i) s') ?_ xs.length ⟨0, Nat.zero_le _, rfl, S₂⟩
  rintro n s' ⟨i, hi', rfl, S'⟩
  by_cases hlt : i < xs.length
  · have hx : xs[i]? = some (xs[i]'hlt) := List.getElem?_eq_getElem hlt
    refine wpAny_mono (I.next S' (hn i) hx (fun v s₁ rv S₁ => turn i _ as iw v s₁ hx ha (hn i) (hM i) hi S₁ rv)) (fun r s₁ h => ?_) fun _ _ x => x.elim
    obtain ⟨v, rfl, h⟩ := h
    refine wpAny_mono h (fun _ s₂ h₂ => wpAny_mono h₂ (fun _ s₃ h₃ => wpAny_mono h₃ (fun f s₄ h₄ => ?_) fun _ _ x => x.elim) fun _ _ x => x.elim) fun _ _ x => x.elim
    cases f with
    | next => exact ⟨_, by omega, i + 1, hlt, rfl, h₄⟩
    | cont => exact ⟨_, by omega, i + 1, hlt, rfl, h₄⟩
    | brk => exact h₄
    | ret u => exact h₄
  · have hi' : i = xs.length := by omega
    subst hi'
    refine wpAny_mono (I.stop (Q := fun r s₁ => r = none ∧ ST w s₀ env Mu (gam xs.length) (ow xs.length) s₁) S' (hn _) S.fs.loc S.fs.cel ha (hM _) fun s₁ S₁ => ⟨rfl, S₁⟩) (fun r s₁ h => ?_) fun _ _ x => x.elim
    obtain ⟨rfl, S₁⟩ := h
    exact wpAny_execs_nil (done s₁ S₁)
/-- one name -/
theorem ST.loop1 {x : Str} {xp : Pos} {iter : Expr} {body : List Stmt} {pos : Pos} {Q : Flow → Shared → Prop} (xs : List D) (gam : Nat → Gm) (ow : Nat → Ow) (S : ST w s₀ env Mu (gam 0) (ow 0) s)
    (hit : EvI w A env Mu (gam 0) (.Name x xp) iter xs)
    (hown : ∀ i, (ow i).map (·.1) = (ow 0).map (·.1))
    (turn : ∀ i d Mu' (io : Ow) s', xs[i]? = some d → (∀ a ∈ Mu, a ∈ Mu') → (∀ p ∈ ow i, ∀ q ∈ io, q.1 ≠ p.1) → ST w s₀ env Mu' ((x, .im d) :: gam i) (io ++ ow i) s' →
      wpAny (MM w) A (execs body env) (LoopEnd w s₀ env Mu' (gam (i + 1)) (io ++ ow (i + 1)) Q) NoE s')
    (done : ∀ s', ST w s₀ env Mu (gam xs.length) (ow xs.length) s' → Q .next s')
    (hk : Kd env x := by first | exact .inl rfl | exact .inr ⟨rfl, _, rfl⟩)
    (hs : ∀ x, foldedSetIterable iter env x = pure x := by intro _; rfl) : wpAny (MM w) A (exec (.For (.Name x xp) iter body [] pos) env) Q NoE s :=
  S.loop xs gam ow hit hown (fun i d as iw v s₁ hx ha hn hM hi S₁ rv => wpAny_assign_Name (S₁.store (g := .im d) hk rv fun s₂ S₂ => turn i d _ _ s₂ hx (fun a m => List.mem_append_right _ m) (fun p hp q hq e => hn p hp (e ▸ hi _ q hq)) S₂)) done hs
def binds : List (Str × Pos) → List D → Gm → Gm
  | p :: ns, d :: ds, γ => binds ns ds ((p.1, .im d) :: γ)
  | _, _, γ => γ
theorem assignGo {Q : Unit → Shared → Prop} (ns : List (Str × Pos)) : ∀ (ds : List D) (vs : List Value) (γ : Gm) (s : Shared), ST w s₀ env Mu γ own s → Rps (vw s.heap Mu) vs ds → ns.length = ds.length → (∀ p ∈ ns, Kd env p.1) →
    (∀ s', ST w s₀ env Mu (binds ns ds γ) own s' → Q () s') → wpAny (MM w) A (assignInOrder (ns.map fun p => PySem.assign (.Name p.1 p.2) env) vs) Q NoE s := by
  induction ns with
  | nil =>
    intro ds vs γ s S rs hl hk h
    cases ds with
    | nil => exact assignInOrder_nil (h s S)
    | cons => cases hl
  | cons p ns ih =>
    intro ds vs γ s S rs hl hk h
    cases rs with
    | nil => cases hl
    | cons r rs =>
      refine assignInOrder_cons (wpAny_assign_Name (S.storeV (g := .im _) (hk p (.head _)) r fun s₂ e S₂ => ?_))
      exact ih _ _ _ s₂ S₂ (by rw [e]; exact rs) (Nat.succ.inj hl) (fun q hq => hk q (.tail _ hq)) h
theorem assignTup {elts : List Expr} {tp : Pos} {tk : Nat} {ds : List D} {v : Value} {Q : Unit → Shared → Prop} (ns : List (Str × Pos)) (S : ST w s₀ env Mu γ own s) (hA : A.handled = none) (r : Rp (vw s.heap Mu) v (.tup ds)) (hl : ns.length = ds.length) (hk : ∀ p ∈ ns, Kd env p.1)
    (he : assignEach elts env = ns.map fun p => (false, PySem.assign (.Name p.1 p.2) env))
    (h : ∀ s', ST w s₀ env Mu (binds ns ds γ) own s' → Q () s') : wpAny (MM w) A (PySem.assign (.Tuple elts tk tp) env v) Q NoE s := by
  obtain ⟨l, vs, n, rfl, hm, rs⟩ := rps_of_tup r
  have hT : IsTup s.heap l vs.toArray := ⟨_, vw_get hm, rfl, n, rfl⟩
  have q : ∀ ns : List (Str × Pos), (ns.map fun p => ((false, PySem.assign (.Name p.1 p.2) env) : Bool × (Value → Sem Unit))).findIdx? (·.1) = none := fun ns => by
    induction ns with
    | nil => rfl
    | cons p ns ih => rw [List.map_cons, List.findIdx?_cons]; simp [ih]
  refine assign_Tuple_tuple hA hT (by rw [he, List.length_map, List.size_toArray, rs.length]; exact hl) (by rw [he]; exact q ns) fun h' hx => ?_
  have kp : Keeps s { s with heap := h' } := ⟨h', _, rfl, fun c o q => hx c o (Nat.ne_of_lt (Heap.lt_size q)) q⟩
  rw [he, List.map_map]
  exact assignGo ns ds vs γ _ (S.keeps kp) (rs.mono (vw_ext (keeps_ext kp))) hl hk h
theorem assign2 {x y : Str} {xp yp tp : Pos} {tk : Nat} {d e : D} {v : Value} {Q : Unit → Shared → Prop} (S : ST w s₀ env Mu γ own s) (hA : A.handled = none) (r : Rp (vw s.heap Mu) v (.tup [d, e])) (hk1 : Kd env x) (hk2 : Kd env y)
    (h : ∀ s', ST w s₀ env Mu ((y, .im e) :: (x, .im d) :: γ) own s' → Q () s') :
    wpAny (MM w) A (PySem.assign (.Tuple [.Name x xp, .Name y yp] tk tp) env v) Q NoE s :=
  assignTup [(x, xp), (y, yp)] S hA r rfl (fun p hp => by
    rcases List.mem_cons.mp hp with rfl | hp
    · exact hk1
    · rw [List.mem_singleton.mp hp]; exact hk2) rfl h
/-- two names -/
theorem ST.loop2 {x y : Str} {xp yp tp : Pos} {tk : Nat} {iter : Expr} {body : List Stmt} {pos : Pos} {Q : Flow → Shared → Prop} (xs : List (D × D)) (gam : Nat → Gm) (ow : Nat → Ow) (S : ST w s₀ env Mu (gam 0) (ow 0) s) (hA : A.handled = none)
    (hit : EvI w A env Mu (gam 0) (.Tuple [.Name x xp, .Name y yp] tk tp) iter (xs.map fun p => .tup [p.1, p.2]))
    (hown : ∀ i, (ow i).map (·.1) = (ow 0).map (·.1))
    (turn : ∀ i d e Mu' (io : Ow) s', xs[i]? = some (d, e) → (∀ a ∈ Mu, a ∈ Mu') → (∀ p ∈ ow i, ∀ q ∈ io, q.1 ≠ p.1) → ST w s₀ env Mu' ((y, .im e) :: (x, .im d) :: gam i) (io ++ ow i) s' →
      wpAny (MM w) A (execs body env) (LoopEnd w s₀ env Mu' (gam (i + 1)) (io ++ ow (i + 1)) Q) NoE s')
    (done : ∀ s', ST w s₀ env Mu (gam xs.length) (ow xs.length) s' → Q .next s')
    (hk : Kd env x := by first | exact .inl rfl | exact .inr ⟨rfl, _, rfl⟩) (hk2 : Kd env y := by first | exact .inl rfl | exact .inr ⟨rfl, _, rfl⟩)
    (hs : ∀ x, foldedSetIterable iter env x = pure x := by intro _; rfl) : wpAny (MM w) A (exec (.For (.Tuple [.Name x xp, .Name y yp] tk tp) iter body [] pos) env) Q NoE s :=
  S.loop (xs.map fun p => .tup [p.1, p.2]) gam ow hit hown (fun i d as iw v s₁ hx ha hn hM hi S₁ rv => by
    rw [List.getElem?_map] at hx
    cases q : xs[i]? with
    | none => rw [q] at hx; cases hx
    | some p =>
      rw [q] at hx
      cases hx
      exact assign2 S₁ hA rv hk hk2 fun s₂ S₂ => turn i _ _ _ _ s₂ q (fun a m => List.mem_append_right _ m) (fun p hp q hq e => hn p hp (e ▸ hi _ q hq)) S₂) (by rw [List.length_map]; exact done) hs
end
end Mine
namespace Mine
open PySem PySem.W PySem.Calls PySem.Spec PyProof.Rows

def enD (ds : List D) : List (D × D) := ds.zipIdx.map fun p => (.int p.2, p.1)
def tups (xs : List (D × D)) : List D := xs.map fun p => .tup [p.1, p.2]
theorem enD_get (ds : List D) (i : Nat) : (tups (enD ds))[i]? = ds[i]?.map fun d => .tup [.int i, d] := by
  unfold tups enD
  rw [List.getElem?_map, List.getElem?_map, List.getElem?_zipIdx]
  cases ds[i]? with
  | none => rfl
  | some d => simp
section
variable {w : World} {A : Around} {env : Env} {Mu : List Addr} {γ : Gm}
theorem Itr.enum {elts : List Expr} {tk : Nat} {tp : Pos} {a b : Addr} {src : Value} {ds : List D} (hA : A.handled = none) (hab : a ≠ b) (hz : ds.length < 2 ^ 62) : Itr w A (.Tuple elts tk tp) (.ref a) [a, b] (fun i => [(a, .en b i), (b, .it .ls src (.list ds) i)]) (tups (enD ds)) where
  keys := fun _ => rfl
  next := fun {s₀ s env Mu γ own i x Q} S hd hx h => by
    have S' : ST w s₀ env Mu γ ([(a, OB.en b i), (b, .it .ls src (.list ds) i)] ++ own) s := S
    obtain ⟨old, he⟩ := (S'.fs.own (a, OB.en b i) (.head _)).1
    obtain ⟨⟨⟨o, ho, hc, hdt⟩, r, ok⟩, hbM, _⟩ := S'.fs.own (b, OB.it .ls src (.list ds) i) (.tail _ (.head _))
    have haM := (S'.fs.own (a, OB.en b i) (.head _)).2.1
    rw [enD_get] at hx
    obtain ⟨l, vs, n, e1, hl, rs⟩ := rps_of_list r
    subst e1
    cases hx' : ds[i]? with
    | none => rw [hx'] at hx; cases hx
    | some d =>
      rw [hx'] at hx
      have hxe : x = .tup [.int i, d] := (Option.some.inj hx).symm
      subst hxe
      obtain ⟨v, hv, rv⟩ := rs.get hx'
      refine wpAny_pyNext_enum_item (items := vs.toArray) (i := i) he ⟨o, ho, hc, hdt⟩ ⟨_, vw_get hl, rfl, n, rfl⟩ (by simpa using hv) hab fun h₁ he₁ hit₁ ht₁ hz₁ hk₁ => ⟨_, rfl, ?_⟩
      refine wpAny_letOwnedTupleGo_enum he₁ fun h₂ he₂ hs₂ => ?_
      have kk : ∀ c o, c ∉ [a, b] → s.heap.get? c = some o → h₂.get? c = some o := fun c o hc e => by
        have h1 : c ≠ a := fun q => hc (q ▸ .head _)
        have h2 : c ≠ b := fun q => hc (q ▸ .tail _ (.head _))
        exact hs₂.extBut c o h1 (hk₁ c o h1 h2 e)
      have sub : Sub (vw s.heap Mu) (vw h₂ Mu) := fun c o e => vw_in (kk c o (fun m => vw_out e (by
        rcases List.mem_cons.mp m with rfl | m
        · exact haM
        · rw [List.mem_singleton.mp m]; exact hbM)) (vw_get e)) (vw_out e)
      have hal : a < s.heap.objs.size := Heap.lt_size he
      have hM : s.heap.objs.size ∉ Mu := (S'.apart fresh_size).1
      have rt : Rp (vw h₂ Mu) (.ref s.heap.objs.size) (.tup [.int i, d]) :=
        .tup (n := 0) (vs := [.int i s.toks, v]) (vw_in (hs₂.extBut _ _ (Nat.ne_of_gt hal) ht₁) hM) (.cons (.int _ _) (.cons (rv.mono sub) .nil))
      refine h _ _ rt ?_
      obtain ⟨hh, t, e⟩ := S'.same
      refine ⟨⟨h₂, _, by rw [e]⟩, ?_, S'.gl⟩
      refine S'.fs.turn (os' := [(a, OB.en b (i + 1)), (b, .it .ls (.ref l) (.list ds) (i + 1))]) kk (fun p hp => ?_) rfl hd
      rcases List.mem_cons.mp hp with rfl | hp
      · exact ⟨_, he₂⟩
      · rw [List.mem_singleton.mp hp]
        obtain ⟨o', ho', hc', hd'⟩ := hit₁.extBut hs₂.extBut (Ne.symm hab)
        exact ⟨⟨o', ho', hc', hd'⟩, r.mono sub, ok⟩
  stop := fun {s₀ s env Mu γ own Q} S hd hL hC ha hM h => by
    have hn : (tups (enD ds)).length = ds.length := by simp [tups, enD]
    rw [hn] at S
    have S' : ST w s₀ env (a :: b :: Mu) γ ((a, OB.en b ds.length) :: (b, .it .ls src (.list ds) ds.length) :: own) s := S
    obtain ⟨old, he⟩ := (S'.fs.own (a, OB.en b ds.length) (.head _)).1
    obtain ⟨⟨⟨o, ho, hc, hdt⟩, r, ok⟩, hbM, _⟩ := S'.fs.own (b, OB.it .ls src (.list ds) ds.length) (.tail _ (.head _))
    obtain ⟨l, vs, n, e1, hl, rs⟩ := rps_of_list r
    subst e1
    refine wpAny_pyNext_enum_end (items := vs.toArray) (i := ds.length) hA he ⟨o, ho, hc, hdt⟩ ⟨_, vw_get hl, rfl, n, rfl⟩ (by simp [rs.length]) fun h' k => h _ ?_
    obtain ⟨hh, t, e⟩ := S'.same
    refine ⟨⟨h', t, by rw [e]⟩, ?_, S'.gl⟩
    have F1 := S'.fs.free (h' := s.heap) (fun _ _ _ e => e) (fun p hp e => by
      rcases List.mem_cons.mp hp with rfl | hp
      · exact hab e.symm
      · exact hd p hp (e ▸ .head _)) (.tail _ hL) (fun x c e => .tail _ (hC x c e)) (fun m => by
      rcases List.mem_cons.mp m with e | m
      · exact hab e
      · exact ha a (.head _) m) (fun p hp => by
      rcases List.mem_cons.mp hp with rfl | hp
      · exact .head _
      · exact .tail _ (hM p hp))
    exact F1.free k (fun p hp e => hd p hp (e ▸ .tail _ (.head _))) hL hC (ha b (.tail _ (.head _))) hM
  self := fun {s₀ s env Mu γ own Q} S h => by
    have S' : ST w s₀ env Mu γ ([(a, OB.en b 0), (b, .it .ls src (.list ds) 0)] ++ own) s := S
    obtain ⟨old, he⟩ := (S'.fs.own (a, OB.en b 0) (.head _)).1
    exact wpAny_pyIter_enum he h
theorem EvI.enum {elts : List Expr} {tk : Nat} {tp : Pos} {e : Expr} {p1 p2 : Pos} {ds : List D} (hA : A.handled = none) (eo : EnvOk env) (E : Ev w A env Mu γ e (.list ds)) (hz : ds.length < 2 ^ 62) (hl : env.kindOf "enumerate" = some .globalImplicit := by rfl)
    (he : starEach (e :: []) env = (false, eval e env) :: starEach [] env := by rfl) :
    EvI w A env Mu γ (.Tuple elts tk tp) (.Call (.Name "enumerate" p1) [e] [] p2) (tups (enD ds)) := fun s g r =>
  Call_ (name_bi eo g (v := .type "enumerate") (by kernel_rfl) (by kernel_rfl) (by decide) hl (PyProof.Rows.callWith_type1 (spliced_more (E.use keeps_refl g r fun v s₂ k₂ _ rv => spliced_none (by
    obtain ⟨l, vs, n, rfl, hl, rs⟩ := rps_of_list rv
    refine call_enumerate_list (items := vs.toArray) ⟨_, vw_get hl, rfl, n, rfl⟩ fun h₁ he₁ hit₁ hz₁ hk₁ => ?_
    refine wpAny_pyIter_enum he₁ ?_
    have kp : Keeps s₂ { s₂ with heap := h₁ } := ⟨h₁, _, rfl, hk₁⟩
    have fr : ∀ c, s₂.heap.objs.size ≤ c → s.heap.get? c = none := fun c hc => by
      cases z : s.heap.get? c with
      | none => rfl
      | some o => exact absurd (Heap.lt_size ((keeps_ext k₂) _ _ z)) (Nat.not_lt.mpr hc)
    refine ⟨keeps_trans k₂ kp, _, _, Itr.enum (src := .ref l) hA (Nat.ne_of_gt (Nat.lt_succ_self _)) hz, fun c hc => ?_, fun p hp => ?_⟩
    · rcases List.mem_cons.mp hc with rfl | hc
      · exact fr _ (Nat.le_succ _)
      · rw [List.mem_singleton.mp hc]; exact fr _ (Nat.le_refl _)
    · rcases List.mem_cons.mp hp with rfl | hp
      · exact ⟨_, he₁⟩
      · rw [List.mem_singleton.mp hp]
        obtain ⟨o, ho, hc, hd⟩ := hit₁
        refine ⟨⟨o, ho, hc, hd⟩, rv.mono fun c o e => vw_in (hk₁ _ _ (vw_get e)) fun m => ?_, rfl⟩
        have lt := Heap.lt_size (vw_get e)
        rcases List.mem_cons.mp m with rfl | m
        · exact absurd lt (Nat.not_lt.mpr (Nat.le_succ _))
        · rcases List.mem_cons.mp m with rfl | m
          · exact absurd lt (Nat.lt_irrefl _)
          · exact vw_out e m)) he) he rfl))
end
end Mine
namespace Mine
open PySem PySem.W PySem.Calls PySem.Spec PyProof.Rows

def rgD (a : Int) (n : Nat) : List D := (List.range n).map fun j => .int (a + (j : Nat))
def rgO (x left : Int) : Obj := { cls := .type "range_iterator", dict := none, data := .fields #[rawInt x, rawInt left, rawInt 1], slots := #[] }
section
variable {w : World} {A : Around} {env : Env} {Mu : List Addr} {γ : Gm}
theorem rgD_get (a : Int) (n i : Nat) : (rgD a n)[i]? = if i < n then some (.int (a + (i : Nat))) else none := by
  unfold rgD
  rw [List.getElem?_map]
  by_cases h : i < n
  · rw [List.getElem?_range h, if_pos h]; rfl
  · rw [if_neg h, List.getElem?_eq_none (by simpa using Nat.not_lt.mp h)]; rfl
theorem Itr.range {x : Str} {xp : Pos} {a : Addr} {p : Int} {n : Nat} (hA : A.handled = none) : Itr w A (.Name x xp) (.ref a) [a] (fun i => [(a, .ob (rgO (p + (i : Nat)) ((n : Int) - (i : Nat))))]) (rgD p n) where
  keys := fun _ => rfl
  next := fun {s₀ s env Mu γ own i x Q} S hd hx h => by
    have ho := (S.fs.own _ (.head _)).1
    have hM := (S.fs.own _ (.head _)).2.1
    rw [rgD_get] at hx
    by_cases hi : i < n
    · rw [if_pos hi] at hx
      cases hx
      refine wpAny_pyNext_range_item (x := p + (i : Nat)) (left := (n : Int) - (i : Nat)) (step := 1) ho (by omega) fun h₁ hit hs => ⟨_, rfl, wpAny_pure ?_⟩
      refine h _ _ (.int _ _) (S.upd (own := own) (b' := .ob (rgO (p + (i + 1 : Nat)) ((n : Int) - (i + 1 : Nat)))) hs ?_ fun q hq e => hd q hq (e ▸ .head _))
      have e1 : p + (i : Nat) + 1 = p + (i + 1 : Nat) := by omega
      have e2 : (n : Int) - (i : Nat) - 1 = (n : Int) - (i + 1 : Nat) := by omega
      rw [e1, e2] at hit
      exact hit
    · rw [if_neg hi] at hx; cases hx
  stop := fun {s₀ s env Mu γ own Q} S hd hL hC ha hM h => by
    have hn : (rgD p n).length = n := by simp [rgD]
    rw [hn] at S
    have ho := (S.fs.own _ (.head _)).1
    refine wpAny_pyNext_range_end (x := p + (n : Nat)) (left := (n : Int) - (n : Nat)) (step := 1) hA ho (by omega) fun h₁ k => h _ ?_
    obtain ⟨hh, t, e⟩ := S.same
    exact ⟨⟨h₁, t, by rw [e]⟩, S.fs.free (own := own) k (fun p hp e => hd p hp (e ▸ .head _)) hL hC (ha a (.head _)) hM, S.gl⟩
  self := fun {s₀ s env Mu γ own Q} S h => by
    have ho := (S.fs.own _ (.head _)).1
    exact wpAny_pyIter_rangeiter (x := p + (0 : Nat)) (left := (n : Int) - (0 : Nat)) (step := 1) ho h
theorem range_new {x : Str} {xp : Pos} {s s₂ : Shared} {p q : Int} {t u v : Tok} {tk : Nat} (hA : A.handled = none) (k₂ : Keeps s s₂) (h1 : -(2 ^ 62) ≤ p) (h2 : q < 2 ^ 62) (h3 : p ≤ q) :
    wpAny (MM w) A (pyIter (.ref s₂.heap.objs.size)) (fun it s₃ => Keeps s s₃ ∧ ∃ as iw, Itr w A (.Name x xp) it as iw (rgD p (q - p).toNat) ∧ (∀ a ∈ as, s.heap.get? a = none) ∧ ∀ z ∈ iw 0, z.2.At (vw s₃.heap (as ++ Mu)) s₃.heap z.1) NoE
      { s₂ with heap := s₂.heap.push { cls := .type "range", data := .fields #[.int p t, .int q u, .int 1 v] }, toks := tk } := by
  refine wpAny_pyIter_range (IsRange.new ..) (small_one h1 (by omega) (by omega) h2) ?_
  rw [rangeSize_one]
  have e : (if p < q then q - p else 0) = (((q - p).toNat : Nat) : Int) := by split <;> omega
  rw [e]
  refine ⟨keeps_trans (keeps_trans k₂ ⟨s₂.heap.push _, tk, rfl, fun b x e => Heap.get?_push_of_some _ e⟩) keeps_push, _, _, Itr.range hA, fun c hc => ?_, fun z hz => ?_⟩
  · rw [List.mem_singleton.mp hc]
    cases z : s.heap.get? (s₂.heap.push { cls := .type "range", data := .fields #[.int p t, .int q u, .int 1 v] }).objs.size with
    | none => rfl
    | some o =>
      have := Heap.lt_size ((keeps_ext k₂) _ _ z)
      rw [Heap.size_push] at this
      exact absurd this (Nat.not_lt.mpr (Nat.le_succ _))
  · rw [List.mem_singleton.mp hz]
    have q1 : p + (0 : Nat) = p := by omega
    have q2 : (((q - p).toNat : Nat) : Int) - (0 : Nat) = (((q - p).toNat : Nat) : Int) := by omega
    show Heap.get? _ _ = some (rgO (p + (0 : Nat)) ((((q - p).toNat : Nat) : Int) - (0 : Nat)))
    rw [q1, q2]
    exact Heap.get?_push_size _ rfl
theorem EvI.range1 {x : Str} {xp : Pos} {e : Expr} {p1 p2 : Pos} {q : Int} (hA : A.handled = none) (eo : EnvOk env) (E : Ev w A env Mu γ e (.int q)) (h2 : q < 2 ^ 62) (h3 : 0 ≤ q) (hl : env.kindOf "range" = some .globalImplicit := by rfl)
    (he : starEach (e :: []) env = (false, eval e env) :: starEach [] env := by rfl) :
    EvI w A env Mu γ (.Name x xp) (.Call (.Name "range" p1) [e] [] p2) (rgD 0 q.toNat) := fun s g r =>
  Call_ (name_bi eo g (v := .type "range") (by kernel_rfl) (by kernel_rfl) (by decide) hl (PyProof.Rows.callWith_type1 (spliced_more (E.use keeps_refl g r fun v s₂ k₂ _ rv => spliced_none (by
    cases rv with
    | int _ t =>
      have e : q.toNat = (q - 0).toNat := by omega
      rw [e]
      exact call_range_1 (range_new hA k₂ (by decide) h2 h3))) he) he rfl))
theorem EvI.range2 {x : Str} {xp : Pos} {e1 e2 : Expr} {p1 p2 : Pos} {p q : Int} (hA : A.handled = none) (eo : EnvOk env) (E1 : Ev w A env Mu γ e1 (.int p)) (E2 : Ev w A env Mu γ e2 (.int q)) (h1 : -(2 ^ 62) ≤ p) (h2 : q < 2 ^ 62) (h3 : p ≤ q) (hl : env.kindOf "range" = some .globalImplicit := by rfl)
    (he1 : starEach (e1 :: e2 :: []) env = (false, eval e1 env) :: starEach (e2 :: []) env := by rfl) (he2 : starEach (e2 :: []) env = (false, eval e2 env) :: starEach [] env := by rfl) (hp : (backTo p2 (starEach (e2 :: []) env)).any (·.1) = false := by rfl) :
    EvI w A env Mu γ (.Name x xp) (.Call (.Name "range" p1) [e1, e2] [] p2) (rgD p (q - p).toNat) := fun s g r =>
  Call_ (name_bi eo g (v := .type "range") (by kernel_rfl) (by kernel_rfl) (by decide) hl (PyProof.Rows.callWith_type1 (spliced_more (E1.use keeps_refl g r fun v s₂ k₂ _ rv => spliced_more (E2.use k₂ g r fun v' s₃ k₃ _ rv' => spliced_none (by
    cases rv with
    | int _ t =>
      cases rv' with
      | int _ t' => exact call_range_2 (range_new hA k₃ h1 h2 h3))) he2) he1) he1 hp))
end
end Mine
namespace Mine
open PySem PySem.W PySem.Calls PySem.Spec PyProof.Rows

theorem storeName_loc {env : Env} {x : Str} {v : Value} (h : env.kindOf x = some .local) (hk : env.scope.kind = .function) : storeName env x v = nsSet env.locals x v := by
  unfold storeName
  rw [h, hk]
  rfl
def tstS (ifs : List Expr) (env : Env) : Sem Bool := forIn ifs true fun c r => if r = true then do let ok ← PySem.isTrue c env (eval c env); pure (ForInStep.yield ok) else pure (ForInStep.yield r)
theorem compLoop_own {w : World} {A : Around} {R : Result → Shared → Prop} {s : Shared} {elt target iter : Expr} {ifs : List Expr} {scope : Scope} {pos : Pos} {it acc : Value} {env : Env} (I : Nat → Shared → Prop)
    (turn : ∀ n s, I n s → wpAny (MM w) A (pyNext it) (fun r s₁ => match r with
      | none => R (.ok .next) s₁
      | some v => wpAny (MM w) A (letOwnedTupleGo target it v) (fun _ s₂ => wpAny (MM w) A (assign target env v) (fun _ s₃ =>
          wpAny (MM w) A (tstS ifs env) (fun ok s₄ =>
            if ok = true then wpAny (MM w) A (eval elt env) (fun x s₅ =>
              wpAny (MM w) A (call (.builtin "list.append") [acc, x]) (fun _ s₆ => ∃ m, m < n ∧ I m s₆) NoE s₅) NoE s₄
            else ∃ m, m < n ∧ I m s₄) NoE s₃) NoE s₂) NoE s₁) NoE s)
    (n : Nat) (h : I n s) :
    codeAny (MM w) A (.compLoop (.ListComp elt [⟨target, iter, ifs, 0⟩] scope pos) 0 it acc env) R s := by
  refine codeAny_loop rfl I (fun n s hI => ?_) n h
  show wpAny _ A ((compTurn (.ListComp elt [⟨target, iter, ifs, 0⟩] scope pos) 0 it acc env).onRaise (fun x => do noteFrame x env; theTreesLotGoes x)) _ _ s
  refine wpAny_noted ?_
  rw [compTurn_list]
  refine wpAny_bind (wpAny_standAt (wpAny_bind (wpAny_mono (turn n s hI) (fun r s₁ h₁ => ?_) fun _ _ h' => h'.elim)))
  cases r with
  | none => exact wpAny_pure h₁
  | some v =>
    refine wpAny_bind (wpAny_mono h₁ (fun _ s₂ h₁ => ?_) fun _ _ h' => h'.elim)
    refine wpAny_bind (wpAny_mono h₁ (fun _ s₂ h₂ => wpAny_bind (wpAny_mono h₂ (fun ok s₃ h₃ => ?_) fun _ _ h' => h'.elim)) fun _ _ h' => h'.elim)
    cases ok with
    | false => exact wpAny_pure ⟨rfl, h₃⟩
    | true =>
      exact wpAny_bind (wpAny_bind (wpAny_mono h₃ (fun x s₄ h₄ => wpAny_bind (wpAny_mono h₄ (fun _ s₅ h₅ => wpAny_pure (wpAny_pure ⟨rfl, h₅⟩)) fun _ _ h' => h'.elim)) fun _ _ h' => h'.elim))
section
variable {w : World} {A : Around} {env : Env} {Mu : List Addr} {γ : Gm}
def EvTs (w : World) (A : Around) (env : Env) (Mu : List Addr) (γ : Gm) (ifs : List Expr) (b : Bool) : Prop :=
  ∀ s : Shared, Gl w s.heap → Rdy env Mu γ s.heap → wpAny (MM w) A (tstS ifs env) (fun c s' => Keeps s s' ∧ c = b) NoE s
theorem EvTs.nil : EvTs w A env Mu γ [] true := fun s g r => wpAny_pure ⟨keeps_refl, rfl⟩
theorem EvTs.one {c : Expr} {b : Bool} (E : EvT w A env Mu γ c b) : EvTs w A env Mu γ [c] b := fun s g r => by
  unfold tstS
  exact wpAny_tests_one (E s g r)
/-- the names that are closed over -/
def Cap (env : Env) (scope : Scope) (cl : List (Str × Addr)) (γ δ : Gm) : Prop :=
  ∀ p ∈ δ, γ.lookup p.1 = some p.2 ∧ env.kindOf p.1 = some .cell ∧ (compEnvC scope cl 0 env).kindOf p.1 = some .cell ∧ env.cells.lookup p.1 = cl.lookup p.1
theorem Cap.nil {scope : Scope} {cl : List (Str × Addr)} : Cap env scope cl γ [] := fun _ h => nomatch h
/-- a target's names get their data -/
def Asg (w : World) (A : Around) (env env' : Env) (target : Expr) (x : D) (β : Gm) : Prop :=
  ∀ {s₀ s : Shared} {Mu : List Addr} {own : Ow} {v : Value} {Q : Unit → Shared → Prop}, ST w s₀ env' Mu [] own s → Rp (vw s.heap Mu) v x → (∀ s', ST w s₀ env' Mu β own s' → Q () s') → wpAny (MM w) A (PySem.assign target env v) Q NoE s
theorem lookup_app {γ δ : Gm} {x : Str} {g : GV} (h : (γ ++ δ).lookup x = some g) : γ.lookup x = some g ∨ δ.lookup x = some g := by
  induction γ with
  | nil => exact .inr h
  | cons p γ ih =>
    obtain ⟨y, q⟩ := p
    rw [List.cons_append, List.lookup_cons] at h
    rw [List.lookup_cons]
    cases e : x == y with
    | true => rw [e] at h; exact .inl h
    | false => rw [e] at h; exact ih h
theorem comp_core {α : Type} (l : List α) (g : α → D) (f : α → Option D) (β : α → Gm) (δ : Gm) {elt target iter : Expr} {ifs : List Expr} {scope : Scope} {cl : List (Str × Addr)} {pos p : Pos} {use : Option (Value → Sem Unit)} {Q : Value → Shared → Prop} {s : Shared}
    (gl : Gl w s.heap) (r : Rdy env Mu γ s.heap)
    (hit : EvI w A env Mu γ target iter (l.map g)) (hclos : closureFor scope env = pure cl) (hcell : ∀ y ∈ scope.names, y.2 ≠ .cell) (hkind : scope.kind = .function)
    (hnames : ∀ y ∈ scope.names, y.2 = .local → scope.names.lookup y.1 = some .local) (hc : Cap env scope cl γ δ) (hz : l.length ≤ sizeLine)
    (asg : ∀ a ∈ l, ∀ C, Asg w A (compEnvC scope cl C env) (compEnvC scope [] C env) target (g a) (β a))
    (turn : ∀ a ∈ l, ∀ C Mu', ∃ b, EvTs w A (compEnvC scope cl C env) Mu' (β a ++ δ) ifs b ∧ (b = true → ∃ d, f a = some d ∧ Ev w A (compEnvC scope cl C env) Mu' (β a ++ δ) elt d) ∧ (b = false → f a = none))
    (fin : ∀ s' D C, (∀ b ∈ Mu, b ≠ C ∧ b ≠ D) → C ≠ D → s.heap.get? D = none → s.heap.get? C = none → ST w s (compEnvC scope [] C env) (C :: D :: Mu) [] [(D, .ls (l.filterMap f))] s' → compPost (MM w) A NoE use Q (.ref D) C (.ok .next) s')
    (hs : ∀ x, foldedSetIterable iter env x = pure x := by intro _; rfl) :
    wpAny (MM w) A (comprehension (.ListComp elt [⟨target, iter, ifs, 0⟩] scope pos) scope env p (newList []) false (eval iter env) use) Q NoE s := by
  refine wpAny_comprehension_free rfl hs hclos hkind hnames (wpAny_mono (hit s gl r) (fun xv s₁ h₁ => wpAny_mono h₁ (fun it s₂ h₂ => ?_) fun _ _ e => e) fun _ _ e => e)
  obtain ⟨k₂, as, iw, I, hf, ho⟩ := h₂
  refine wpAny_newObj_type (wpAny_newFunctionEnv hcell (by intro y hy; simp at hy) (fun h₁ hns₁ hsb₁ => ?_) hkind)
  dsimp only at hns₁ hsb₁ ⊢
  generalize hH2 : s₂.heap.push { cls := .type "list", dict := none, data := .seq ([] : List Value).toArray } = H2 at hns₁ hsb₁ ⊢
  have hC : H2.objs.size = s₂.heap.objs.size + 1 := by rw [← hH2, Heap.size_push]
  have hDC : s₂.heap.objs.size ≠ H2.objs.size := by rw [hC]; exact Nat.ne_of_lt (Nat.lt_succ_self _)
  have old : Ext s₂.heap h₁ := fun b o e => by
    have lt := Heap.lt_size e
    refine hsb₁.extBut b o (Nat.ne_of_lt (by rw [hC]; exact Nat.lt_succ_of_lt lt)) (Heap.get?_push_of_some _ (hH2 ▸ Heap.get?_push_of_some _ e))
  have hacc : h₁.get? s₂.heap.objs.size = some (W.listOf ([] : List Value).toArray 0) := hsb₁.extBut _ _ hDC (Heap.get?_push_of_some _ (hH2 ▸ Heap.get?_push_size _ rfl))
  have lt₂ : ∀ b o, s.heap.get? b = some o → b < s₂.heap.objs.size := fun b o e => Heap.lt_size (keeps_ext k₂ b o e)
  have hD₀ : s.heap.get? s₂.heap.objs.size = none := by
    cases z : s.heap.get? s₂.heap.objs.size with
    | none => rfl
    | some o => exact absurd (lt₂ _ _ z) (Nat.lt_irrefl _)
  have hC₀ : s.heap.get? H2.objs.size = none := by
    cases z : s.heap.get? H2.objs.size with
    | none => rfl
    | some o => have := lt₂ _ _ z; rw [hC] at this; exact absurd this (Nat.not_lt.mpr (Nat.le_succ _))
  have as₂ : ∀ a ∈ as, a < s₂.heap.objs.size := fun a ha => by
    rw [← I.keys 0] at ha
    obtain ⟨p, hp, rfl⟩ := List.mem_map.mp ha
    obtain ⟨o, e⟩ := (ho p hp).there
    exact Heap.lt_size e
  generalize hCe : H2.objs.size = C at *
  generalize hDe : s₂.heap.objs.size = D at *
  have hMu : ∀ b ∈ Mu, b < D := fun b hb => by
    obtain ⟨o, e⟩ := r.mok b hb
    exact lt₂ b o e
  have hasMu : ∀ a ∈ as, a ∉ Mu := fun a ha m => by
    obtain ⟨o, e⟩ := r.mok a m
    rw [hf a ha] at e; cases e
  have hDlt : D < C := by rw [hC]; exact Nat.lt_succ_self _
  have k₁ : Ext s.heap h₁ := fun b o e => old b o (keeps_ext k₂ b o e)
  have sub : Sub (vw s₂.heap (as ++ Mu)) (vw h₁ (as ++ C :: D :: Mu)) := fun b o e => by
    have lt : b < D := hDe ▸ Heap.lt_size (vw_get e)
    refine vw_in (old b o (vw_get e)) fun m => ?_
    rcases List.mem_append.mp m with m | m
    · exact vw_out e (List.mem_append_left _ m)
    · rcases List.mem_cons.mp m with rfl | m
      · exact absurd (Nat.lt_trans lt hDlt) (Nat.lt_irrefl _)
      · rcases List.mem_cons.mp m with rfl | m
        · exact absurd lt (Nat.lt_irrefl _)
        · exact vw_out e (List.mem_append_right _ m)
  -- the start
  have S₀ : ST w s (compEnvC scope [] C env) (as ++ C :: D :: Mu) [] (iw 0 ++ [(D, .ls [])]) { s₂ with heap := h₁, toks := s₂.toks + ([] : List (Str × Value)).length } := by
    obtain ⟨hh, tt, et, _⟩ := k₂
    refine ⟨⟨h₁, _, by rw [et]⟩, ⟨⟨_, fun _ => none, ⟨hns₁, k₁, hC₀⟩, ⟨(fun n c e => nomatch e), List.Pairwise.nil, (fun n c e => nomatch e)⟩, (fun x gg e => nomatch e)⟩, hkind, List.mem_append_right _ (.head _), (fun x c e => nomatch e), fun a ha => ?_, fun p hp => ?_⟩, gl⟩
    · rcases List.mem_append.mp ha with ha | ha
      · rw [← I.keys 0] at ha
        obtain ⟨p, hp, rfl⟩ := List.mem_map.mp ha
        obtain ⟨o, e⟩ := (ho p hp).there
        exact ⟨o, old _ _ e⟩
      · rcases List.mem_cons.mp ha with rfl | ha
        · obtain ⟨o, _, _, e, _⟩ := hns₁; exact ⟨o, e⟩
        · rcases List.mem_cons.mp ha with rfl | ha
          · exact ⟨_, hacc⟩
          · obtain ⟨o, e⟩ := r.mok a ha
            exact ⟨o, k₁ _ _ e⟩
    · rcases List.mem_append.mp hp with hp | hp
      · have hm : p.1 ∈ as := I.keys 0 ▸ List.mem_map_of_mem hp
        exact ⟨(ho p hp).move sub fun o e => old _ _ e, List.mem_append_left _ hm, Nat.ne_of_lt (Nat.lt_trans (as₂ _ hm) hDlt), (fun x c e => nomatch e), hf _ hm⟩
      · rw [List.mem_singleton.mp hp]
        exact ⟨⟨[], 0, hacc, .nil⟩, List.mem_append_right _ (.tail _ (.head _)), hDC, (fun x c e => nomatch e), hD₀⟩
  have hDas : D ∉ as := fun m => absurd (as₂ D m) (Nat.lt_irrefl _)
  have iwas : ∀ i, ∀ p ∈ iw i, p.1 ∈ as := fun i p hp => I.keys i ▸ List.mem_map_of_mem hp
  have hlen : ∀ i, ((l.take i).filterMap f).length ≤ sizeLine := fun i => Nat.le_trans (List.length_filterMap_le ..) (Nat.le_trans (by rw [List.length_take]; exact Nat.min_le_right _ _) hz)
  -- what the block sees
  have see : ∀ (β : Gm) s' own, ST w s (compEnvC scope [] C env) (as ++ C :: D :: Mu) β own s' → Rdy (compEnvC scope cl C env) (as ++ C :: D :: Mu) (β ++ δ) s'.heap := fun β s' own S => by
    refine ⟨S.fs.mok, fun x gg e => ?_⟩
    rcases lookup_app e with e | e
    · obtain ⟨v, h1, h2⟩ := S.fs.rdy.var x gg e
      refine ⟨v, h1, h2.1, ?_⟩
      rcases h2.2 with z | ⟨c, _, h3, _⟩
      · exact .inl z
      · exact nomatch h3
    · obtain ⟨h1, h2, h3, h4⟩ := hc _ (mem_of_lookup e)
      obtain ⟨v, q1, q2⟩ := r.var x gg h1
      have sub' : Sub (vw s.heap Mu) (vw s'.heap (as ++ C :: D :: Mu)) := fun b o e => by
        refine vw_in (S.fs.keep b o (vw_get e)) fun m => ?_
        rcases List.mem_append.mp m with m | m
        · have := vw_get e; rw [hf b m] at this; cases this
        · rcases List.mem_cons.mp m with rfl | m
          · have := vw_get e; rw [hC₀] at this; cases this
          · rcases List.mem_cons.mp m with rfl | m
            · have := vw_get e; rw [hD₀] at this; cases this
            · exact vw_out e m
      refine ⟨v, q1.mono sub', hkind, ?_⟩
      rcases q2.2 with ⟨m, _, _, z⟩ | ⟨c, _, z2, z3⟩
      · rw [h2] at z; cases z
      · exact .inr ⟨c, h3, h4 ▸ z2, z3.keeps S.fs.keep⟩
  have loop : codeAny (MM w) A (.compLoop (.ListComp elt [⟨target, iter, ifs, 0⟩] scope pos) 0 it (.ref D) (compEnvC scope cl C env)) (compPost (MM w) A NoE use Q (.ref D) C) { s₂ with heap := h₁, toks := s₂.toks + ([] : List (Str × Value)).length } := by
    refine compLoop_own (fun n s' => ∃ i, i ≤ l.length ∧ n = l.length - i ∧ ST w s (compEnvC scope [] C env) (as ++ C :: D :: Mu) [] (iw i ++ [(D, .ls ((l.take i).filterMap f))]) s') ?_ l.length ⟨0, Nat.zero_le _, rfl, S₀⟩
    rintro n s' ⟨i, hi, rfl, S'⟩
    by_cases hlt : i < l.length
    · have hx : l[i]? = some (l[i]'hlt) := List.getElem?_eq_getElem hlt
      have hmem : l[i]'hlt ∈ l := List.getElem_mem hlt
      have htk : l.take (i + 1) = l.take i ++ [l[i]'hlt] := by rw [List.take_add_one, hx]; rfl
      generalize l[i]'hlt = a at hx hmem htk
      refine wpAny_mono (I.next (Q := fun v s₂ => ST w s (compEnvC scope [] C env) (as ++ C :: D :: Mu) [] (iw (i + 1) ++ [(D, .ls ((l.take i).filterMap f))]) s₂ ∧ Rp (vw s₂.heap (as ++ C :: D :: Mu)) v (g a)) S' (fun p hp => by rw [List.mem_singleton.mp hp]; exact hDas) (by rw [List.getElem?_map, hx]; rfl) fun v s₁ rv S₁ => ⟨S₁, rv⟩) (fun rr s₁ h => ?_) fun _ _ x => x.elim
      obtain ⟨v, rfl, h⟩ := h
      refine wpAny_mono h (fun _ s₂' hh => ?_) fun _ _ x => x
      obtain ⟨S₂, rv⟩ := hh
      refine asg a hmem C S₂ rv fun s₃ S₃ => ?_
      obtain ⟨b, ht, hb1, hb2⟩ := turn a hmem C (as ++ C :: D :: Mu)
      refine wpAny_mono (ht s₃ S₃.g (see _ _ _ S₃)) (fun ok s₄ h4 => ?_) fun _ _ x => x
      obtain ⟨k4, rfl⟩ := h4
      have S₄ := S₃.keeps k4
      cases ok with
      | false =>
        simp only [Bool.false_eq_true, if_false]
        refine ⟨_, by omega, i + 1, hlt, rfl, ?_⟩
        rw [htk, List.filterMap_append, List.filterMap_cons, hb2 rfl, List.filterMap_nil, List.append_nil]
        exact S₄.less (fun x gg e => nomatch e)
      | true =>
        simp only [if_true]
        obtain ⟨d, hd, Ed⟩ := hb1 rfl
        refine wpAny_mono (Ed s₄ S₄.g (see _ _ _ S₄)) (fun x s₅ h5 => ?_) fun _ _ x => x
        obtain ⟨k5, rx⟩ := h5
        have S₅ := S₄.keeps k5
        have S₅' : ST w s (compEnvC scope [] C env) (as ++ C :: D :: Mu) [] ((D, .ls ((l.take i).filterMap f)) :: iw (i + 1)) s₅ := (S₅.less (γ' := []) (fun x gg e => nomatch e)).sub fun p hp => by
          rcases List.mem_cons.mp hp with rfl | hp
          · exact List.mem_append_right _ (.head _)
          · exact List.mem_append_left _ hp
        obtain ⟨us, nn, hou, rs⟩ := (S₅'.fs.own _ (.head _)).1
        refine append_at hou (fun h' hs' hp' => ⟨_, by omega, i + 1, hlt, rfl, ?_⟩) (by rw [List.size_toArray, rs.length]; exact hlen i)
        rw [htk, List.filterMap_append, List.filterMap_cons, hd, List.filterMap_nil]
        have := S₅'.upd (tk := s₅.toks) (b' := .ls ((l.take i).filterMap f ++ [d])) hs' ⟨us ++ [x], nn + 1, by rw [hp']; simp, rs.append (.one rx)⟩ fun p hp e => hDas (e ▸ iwas _ p hp)
        exact this.sub fun p hp => by
          rcases List.mem_append.mp hp with hp | hp
          · exact .tail _ hp
          · rw [List.mem_singleton.mp hp]; exact .head _
    · have hi' : i = l.length := by omega
      subst hi'
      rw [List.take_length] at S'
      have hln : (l.map g).length = l.length := List.length_map ..
      rw [← hln] at S'
      refine wpAny_mono (I.stop (Q := fun r s₁ => r = none ∧ ST w s (compEnvC scope [] C env) (C :: D :: Mu) [] [(D, .ls (l.filterMap f))] s₁) S' (fun p hp => by rw [List.mem_singleton.mp hp]; exact hDas) (.head _) ((fun x c e => nomatch e))
        (fun a ha m => ?_) (fun p hp => by rw [List.mem_singleton.mp hp]; exact .tail _ (.head _)) fun s₁ S₁ => ⟨rfl, S₁⟩) (fun rr s₁ h => ?_) fun _ _ x => x.elim
      · rcases List.mem_cons.mp m with rfl | m
        · exact absurd (Nat.lt_trans (as₂ _ ha) hDlt) (Nat.lt_irrefl _)
        · rcases List.mem_cons.mp m with rfl | m
          · exact hDas ha
          · exact hasMu a ha m
      · obtain ⟨rfl, S₁⟩ := h
        exact fin s₁ D C (fun b hb => ⟨Nat.ne_of_lt (Nat.lt_trans (hMu b hb) hDlt), Nat.ne_of_lt (hMu b hb)⟩) (Ne.symm hDC) hD₀ hC₀ S₁
  exact codeAny_compStart_list loop (wpAny_mono (I.self (Q := fun v s_ => v = it ∧ s_ = { s₂ with heap := h₁, toks := s₂.toks + ([] : List (Str × Value)).length }) S₀ ⟨rfl, rfl⟩) (fun v s_ ⟨e1, e2⟩ => by subst e1; subst e2; exact loop) fun _ _ x => x.elim)
end
end Mine
namespace Mine
open PySem PySem.W PySem.Calls PySem.Spec PyProof.Rows

section
variable {w : World} {A : Around} {env : Env} {Mu : List Addr} {γ : Gm}
theorem cstore {s₀ s : Shared} {own : Ow} {β : Gm} {scope : Scope} {cl : List (Str × Addr)} {C : Addr} {x : Str} {g : GV} {v : Value} {Q : Unit → Shared → Prop} (hk : scope.kind = .function) (hx : scope.names.lookup x = some .local) (S : ST w s₀ (compEnvC scope [] C env) Mu β own s) (hg : g.Is (vw s.heap Mu) v)
    (k : ∀ s', vw s'.heap Mu = vw s.heap Mu → ST w s₀ (compEnvC scope [] C env) Mu ((x, g) :: β) own s' → Q () s') : wpAny (MM w) A (storeName (compEnvC scope cl C env) x v) Q NoE s := by
  have l1 : (compEnvC scope cl C env).kindOf x = some .local := lookup_relabel_local hx
  have l2 : (compEnvC scope [] C env).kindOf x = some .local := lookup_relabel_local hx
  rw [storeName_loc l1 hk]
  show wpAny (MM w) A (nsSet (compEnvC scope [] C env).locals x v) Q NoE s
  rw [← storeName_loc l2 hk]
  exact S.storeV (.inl l2) hg k
theorem Asg.name {scope : Scope} {cl : List (Str × Addr)} {C : Addr} {x : Str} {xp : Pos} {d : D} (hk : scope.kind = .function) (hx : scope.names.lookup x = some .local) : Asg w A (compEnvC scope cl C env) (compEnvC scope [] C env) (.Name x xp) d [(x, .im d)] :=
  fun S r h => wpAny_assign_Name (cstore (g := .im d) hk hx S r fun s' _ S' => h s' S')
theorem Asg.tup {scope : Scope} {cl : List (Str × Addr)} {C : Addr} {x y : Str} {xp yp tp : Pos} {tk : Nat} {d e : D} (hA : A.handled = none) (hk : scope.kind = .function) (hx : scope.names.lookup x = some .local) (hy : scope.names.lookup y = some .local) :
    Asg w A (compEnvC scope cl C env) (compEnvC scope [] C env) (.Tuple [.Name x xp, .Name y yp] tk tp) (.tup [d, e]) [(y, .im e), (x, .im d)] := fun {s₀ s Mu own v Q} S r h => by
  obtain ⟨l, vs, n, rfl, hm, rs⟩ := rps_of_tup r
  have hT : IsTup s.heap l vs.toArray := ⟨_, vw_get hm, rfl, n, rfl⟩
  cases rs with
  | cons r1 rs =>
    cases rs with
    | cons r2 rs =>
      cases rs
      refine assign_Tuple_tuple hA hT rfl rfl fun h' hx' => ?_
      have kp : Keeps s { s with heap := h' } := ⟨h', _, rfl, fun c o q => hx' c o (Nat.ne_of_lt (Heap.lt_size q)) q⟩
      refine assignInOrder_cons (wpAny_assign_Name (cstore (g := .im d) hk hx (S.keeps kp) (r1.mono (vw_ext (keeps_ext kp))) fun s₁ e S₁ => ?_))
      refine assignInOrder_cons (wpAny_assign_Name (cstore (g := .im _) hk hy S₁ (by rw [e]; exact r2.mono (vw_ext (keeps_ext kp))) fun s₂ _ S₂ => assignInOrder_nil (h s₂ S₂)))
theorem EvF.comp {α : Type} (l : List α) (g : α → D) (f : α → Option D) (β : α → Gm) (δ : Gm) {elt target iter : Expr} {ifs : List Expr} {scope : Scope} {cl : List (Str × Addr)} {pos : Pos}
    (hit : EvI w A env Mu γ target iter (l.map g)) (hclos : closureFor scope env = pure cl) (hcell : ∀ y ∈ scope.names, y.2 ≠ .cell) (hkind : scope.kind = .function)
    (hnames : ∀ y ∈ scope.names, y.2 = .local → scope.names.lookup y.1 = some .local) (hc : Cap env scope cl γ δ) (hz : l.length ≤ sizeLine)
    (asg : ∀ a ∈ l, ∀ C, Asg w A (compEnvC scope cl C env) (compEnvC scope [] C env) target (g a) (β a))
    (turn : ∀ a ∈ l, ∀ C Mu', ∃ b, EvTs w A (compEnvC scope cl C env) Mu' (β a ++ δ) ifs b ∧ (b = true → ∃ d, f a = some d ∧ Ev w A (compEnvC scope cl C env) Mu' (β a ++ δ) elt d) ∧ (b = false → f a = none))
    (hs : ∀ x, foldedSetIterable iter env x = pure x := by intro _; rfl) :
    EvF w A env Mu γ (.ListComp elt [⟨target, iter, ifs, 0⟩] scope pos) (l.filterMap f) := fun s gl r => by
  rw [eval_ListComp]
  refine comp_core (use := Option.none) l g f β δ gl r hit hclos hcell hkind hnames hc hz asg turn (fun s' D C hMu hCD hD hC S => ?_) hs
  obtain ⟨m, cm, F, _, _⟩ := S.fs.ex
  obtain ⟨us, n, ho, rs⟩ := (S.fs.own _ (.head _)).1
  refine ⟨m, F.ns, fun h' hs' => ?_⟩
  have k := S.out
  have k' : Ext s.heap h' := fun b o e => hs'.extBut b o (fun q => by rw [q, hC] at e; cases e) (keeps_ext k b o e)
  obtain ⟨hh, tt, et, _⟩ := k
  refine ⟨⟨h', tt, by rw [et], k'⟩, D, us, n, rfl, hD, hs'.extBut _ _ (Ne.symm hCD) ho, ?_⟩
  have e1 : vw h' (C :: D :: Mu) = vw s'.heap (C :: D :: Mu) := vw_same hs' (.head _)
  exact rs.mono (e1 ▸ vw_less fun b m => .tail _ m)
/-- no test -/
theorem EvF.compMap {α : Type} (l : List α) (g h : α → D) (β : α → Gm) (δ : Gm) {elt target iter : Expr} {scope : Scope} {cl : List (Str × Addr)} {pos : Pos}
    (hit : EvI w A env Mu γ target iter (l.map g)) (hclos : closureFor scope env = pure cl) (hcell : ∀ y ∈ scope.names, y.2 ≠ .cell) (hkind : scope.kind = .function)
    (hnames : ∀ y ∈ scope.names, y.2 = .local → scope.names.lookup y.1 = some .local) (hc : Cap env scope cl γ δ) (hz : l.length ≤ sizeLine)
    (asg : ∀ a ∈ l, ∀ C, Asg w A (compEnvC scope cl C env) (compEnvC scope [] C env) target (g a) (β a))
    (turn : ∀ a ∈ l, ∀ C Mu', Ev w A (compEnvC scope cl C env) Mu' (β a ++ δ) elt (h a))
    (hs : ∀ x, foldedSetIterable iter env x = pure x := by intro _; rfl) :
    EvF w A env Mu γ (.ListComp elt [⟨target, iter, [], 0⟩] scope pos) (l.map h) := by
  have := EvF.comp (pos := pos) l g (fun a => some (h a)) β δ hit hclos hcell hkind hnames hc hz asg (fun a ha C Mu' => ⟨true, EvTs.nil, fun _ => ⟨_, rfl, turn a ha C Mu'⟩, nofun⟩) hs
  rwa [show (fun a => some (h a)) = some ∘ h from rfl, List.filterMap_eq_map] at this
/-- a test -/
theorem EvF.compIf {α : Type} (l : List α) (g h : α → D) (b : α → Bool) (β : α → Gm) (δ : Gm) {elt target iter c : Expr} {scope : Scope} {cl : List (Str × Addr)} {pos : Pos}
    (hit : EvI w A env Mu γ target iter (l.map g)) (hclos : closureFor scope env = pure cl) (hcell : ∀ y ∈ scope.names, y.2 ≠ .cell) (hkind : scope.kind = .function)
    (hnames : ∀ y ∈ scope.names, y.2 = .local → scope.names.lookup y.1 = some .local) (hc : Cap env scope cl γ δ) (hz : l.length ≤ sizeLine)
    (asg : ∀ a ∈ l, ∀ C, Asg w A (compEnvC scope cl C env) (compEnvC scope [] C env) target (g a) (β a))
    (test : ∀ a ∈ l, ∀ C Mu', EvT w A (compEnvC scope cl C env) Mu' (β a ++ δ) c (b a))
    (turn : ∀ a ∈ l, b a = true → ∀ C Mu', Ev w A (compEnvC scope cl C env) Mu' (β a ++ δ) elt (h a))
    (hs : ∀ x, foldedSetIterable iter env x = pure x := by intro _; rfl) :
    EvF w A env Mu γ (.ListComp elt [⟨target, iter, [c], 0⟩] scope pos) ((l.filter b).map h) := by
  have := EvF.comp (pos := pos) l g (fun a => if b a then some (h a) else Option.none) β δ hit hclos hcell hkind hnames hc hz asg
    (fun a ha C Mu' => ⟨b a, EvTs.one (test a ha C Mu'), fun e => ⟨_, if_pos e, turn a ha e C Mu'⟩, fun e => if_neg (by rw [e]; decide)⟩) hs
  have e : l.filterMap (fun a => if b a then some (h a) else Option.none) = (l.filter b).map h := by
    clear this hit hz asg test turn
    induction l with
    | nil => rfl
    | cons x xs ih =>
      rw [List.filterMap_cons, List.filter_cons]
      cases hb : b x <;> simp [ih]
  rwa [e] at this
/-- a comprehension under a name -/
theorem ST.assignComp {s₀ s : Shared} {own : Ow} {α : Type} (l : List α) (g : α → D) (f : α → Option D) (β : α → Gm) (δ : Gm) {elt target iter : Expr} {ifs : List Expr} {scope : Scope} {cl : List (Str × Addr)} {y : Str} {yp pos spos : Pos} {Q : Flow → Shared → Prop} (S : ST w s₀ env Mu γ own s)
    (hsw : swapsWith (.ListComp elt [⟨target, iter, ifs, 0⟩] scope pos) (some (.Name y yp)) spos.line env = pure true)
    (hit : EvI w A env Mu γ target iter (l.map g)) (hclos : closureFor scope env = pure cl) (hcell : ∀ y ∈ scope.names, y.2 ≠ .cell) (hkind : scope.kind = .function)
    (hnames : ∀ y ∈ scope.names, y.2 = .local → scope.names.lookup y.1 = some .local) (hc : Cap env scope cl γ δ) (hz : l.length ≤ sizeLine)
    (asg : ∀ a ∈ l, ∀ C, Asg w A (compEnvC scope cl C env) (compEnvC scope [] C env) target (g a) (β a))
    (turn : ∀ a ∈ l, ∀ C Mu', ∃ b, EvTs w A (compEnvC scope cl C env) Mu' (β a ++ δ) ifs b ∧ (b = true → ∃ d, f a = some d ∧ Ev w A (compEnvC scope cl C env) Mu' (β a ++ δ) elt d) ∧ (b = false → f a = Option.none))
    (k : ∀ s', ST w s₀ env Mu ((y, .im (.list (l.filterMap f))) :: γ) own s' → Q .next s')
    (hk : Kd env y := by first | exact .inl rfl | exact .inr ⟨rfl, _, rfl⟩)
    (hs : ∀ x, foldedSetIterable iter env x = pure x := by intro _; rfl) :
    wpAny (MM w) A (exec (.Assign [.Name y yp] (.ListComp elt [⟨target, iter, ifs, 0⟩] scope pos) spos) env) Q NoE s := by
  rw [exec_Assign_Name_used _ _ _ _ hsw]
  refine wpAny_bind (wpAny_standAt (wpAny_bind ?_))
  show wpAny _ A (do let _ ← comprehension (.ListComp elt [⟨target, iter, ifs, 0⟩] scope pos) scope env _ (newList []) false (PySem.eval iter env) (some (PySem.assign (.Name y yp) env))) _ _ s
  refine wpAny_bind (wpAny_mono (comp_core (use := some (PySem.assign (.Name y yp) env)) (Q := fun _ s' => Q .next s') l g f β δ S.g S.fs.rdy hit hclos hcell hkind hnames hc hz asg turn (fun s' D C hMu hCD hD hC S' => ?_) hs) (fun _ s' hq => wpAny_pure (wpAny_pure hq)) fun _ _ e => e)
  obtain ⟨m, cm, F, _, _⟩ := S'.fs.ex
  obtain ⟨us, n, ho, rs⟩ := (S'.fs.own _ (.head _)).1
  obtain ⟨o, hCo⟩ := S'.fs.mok C (.head _)
  have T := S.take (a := C) (b := .ob o) S'.out hC hCo
  have hCn := S.apart hC
  have rD : Rp (vw s'.heap (C :: Mu)) (.ref D) (.list (l.filterMap f)) := .list (vw_in ho fun m => by
    rcases List.mem_cons.mp m with e | m
    · exact hCD e.symm
    · exact (hMu _ m).2 rfl) (rs.mono (vw_less fun b m => by
      rcases List.mem_cons.mp m with rfl | m
      · exact .head _
      · exact .tail _ (.tail _ m)))
  show wpAny _ A (PySem.assign (.Name y yp) env (.ref D)) _ _ _
  refine wpAny_assign_Name (T.store (g := .im _) hk rD fun s₃ S₃ => ?_)
  have hC3 : s₃.heap.get? C = some o := (S₃.fs.own _ (.head _)).1
  refine ⟨m, F.ns.at' (fun o' e => (by
    have e' : s'.heap.get? C = some o' := e
    rw [hCo] at e'; cases e'; exact hC3)), fun h' hs' => k _ ?_⟩
  obtain ⟨hh, tt, et⟩ := S₃.same
  exact ⟨⟨h', tt, by rw [et]⟩, S₃.fs.free hs'.extBut hCn.2 S.fs.loc S.fs.cel hCn.1 (fun p hp => (S.fs.own p hp).2.1), S₃.gl⟩
theorem EnvOk.comp {scope : Scope} {cl : List (Str × Addr)} {C : Addr} (eo : EnvOk env) (hk : scope.kind = .function) : EnvOk (compEnvC scope cl C env) := ⟨hk, eo.glob, eo.bult⟩
end
end Mine
namespace Mine
open PySem PySem.W PySem.Calls PySem.Spec PyProof.Rows

mutual
/-- the nodes that a part holds, not those within them -/
def D.tops : D → List D
  | .node k ln ps => [.node k ln ps]
  | .list ds | .tup ds => D.topsL ds
  | _ => []
def D.topsL : List D → List D
  | [] => []
  | d :: ds => d.tops ++ D.topsL ds
end
mutual
def D.wt : D → Nat
  | .node _ _ ps => D.wtL ps + 1
  | .list ds | .tup ds => D.wtL ds + 1
  | _ => 1
def D.wtL : List D → Nat
  | [] => 0
  | d :: ds => d.wt + D.wtL ds
end
theorem topsL_app (a b : List D) : D.topsL (a ++ b) = D.topsL a ++ D.topsL b := by
  induction a with
  | nil => rfl
  | cons x xs ih => rw [List.cons_append, D.topsL, D.topsL, ih, List.append_assoc]
theorem wtL_app (a b : List D) : D.wtL (a ++ b) = D.wtL a + D.wtL b := by
  induction a with
  | nil => simp [D.wtL]
  | cons x xs ih => rw [List.cons_append, D.wtL, D.wtL, ih, Nat.add_assoc]
theorem wtL_rev (a : List D) : D.wtL a.reverse = D.wtL a := by
  induction a with
  | nil => rfl
  | cons x xs ih => rw [List.reverse_cons, wtL_app, ih, D.wtL, D.wtL, D.wtL]; omega
theorem wt_pos (d : D) : 0 < d.wt := by cases d <;> simp [D.wt]
theorem wtL_len (a : List D) : a.length ≤ D.wtL a := by
  induction a with
  | nil => exact Nat.le_refl _
  | cons x xs ih => rw [List.length_cons, D.wtL]; have := wt_pos x; omega
theorem wt_items (d : D) (h : d.isSeq = true) : d.wt = D.wtL d.items + 1 := by
  cases d with
  | list ds => rw [D.wt]; rfl
  | tup ds => rw [D.wt]; rfl
  | _ => cases h
theorem tops_items (d : D) (h : d.isSeq = true) : d.tops = D.topsL d.items := by
  cases d with
  | list ds => rw [D.tops]; rfl
  | tup ds => rw [D.tops]; rfl
  | _ => cases h
theorem tops_node (d : D) (h : d.isNode = true) : d.tops = [d] := by
  cases d with
  | node => rfl
  | _ => cases h
theorem tops_none (d : D) (h : d.isSeq = false) (h' : d.isNode = false) : d.tops = [] := by
  cases d with
  | list ds => cases h
  | tup ds => cases h
  | node => cases h'
  | _ => rfl
theorem Rps.one1 {I : Im} {vs : List Value} {d : D} (h : Rps I vs [d]) : ∃ v, vs = [v] ∧ Rp I v d := by
  cases h with | cons r t => cases t; exact ⟨_, rfl, r⟩
theorem Rps.two2 {I : Im} {vs : List Value} {d e : D} (h : Rps I vs [d, e]) : ∃ v u, vs = [v, u] ∧ Rp I v d ∧ Rp I u e := by
  cases h with | cons r t => obtain ⟨u, rfl, q⟩ := t.one1; exact ⟨_, _, rfl, r, q⟩
theorem Rps.three3 {I : Im} {vs : List Value} {d e f : D} (h : Rps I vs [d, e, f]) : ∃ v u t, vs = [v, u, t] ∧ Rp I v d ∧ Rp I u e ∧ Rp I t f := by
  cases h with | cons r t => obtain ⟨u, z, rfl, q, q'⟩ := t.two2; exact ⟨_, _, _, rfl, r, q, q'⟩
theorem Rps.four4 {I : Im} {vs : List Value} {d e f f' : D} (h : Rps I vs [d, e, f, f']) : ∃ v u t t', vs = [v, u, t, t'] ∧ Rp I v d ∧ Rp I u e ∧ Rp I t f ∧ Rp I t' f' := by
  cases h with | cons r t => obtain ⟨u, z, z', rfl, q, q', q''⟩ := t.three3; exact ⟨_, _, _, _, rfl, r, q, q', q''⟩

theorem ST.ownEq {w : World} {s₀ s : Shared} {env : Env} {Mu : List Addr} {γ : Gm} {own own' : Ow} (S : ST w s₀ env Mu γ own s) (h : own = own') : ST w s₀ env Mu γ own' s := h ▸ S
theorem lookup2 {x y z : Str} {g h i : GV} (e : List.lookup x [(y, g), (z, h)] = some i) : (x = y ∧ i = g) ∨ (x = z ∧ i = h) := by
  rw [List.lookup_cons] at e
  cases q : x == y with
  | true => rw [q] at e; cases e; exact .inl ⟨eq_of_beq q, rfl⟩
  | false =>
    rw [q, List.lookup_cons] at e
    cases q' : x == z with
    | true => rw [q'] at e; cases e; exact .inr ⟨eq_of_beq q', rfl⟩
    | false => rw [q'] at e; cases e
set_option maxHeartbeats 400000 in
theorem nodes_con (w : World) (d : D) (hz : d.wt ≤ 2 ^ 20) : ConF 1 w 42 [d] d.tops := by
  intro A Mu s vs hA g mok rs
  obtain ⟨v, rfl, r⟩ := rs.one1
  refine' enter (n := 0) (ds := [d]) (vs := [v]) (names := ["part"]) hA g mok (.cons r .nil) ?ho ?hcd ?hbind ?hlen ?hnd ?hkind ?hco ?hgen ?hk ?h
  case ho => exact rfl
  case hcd => kernel_rfl
  case hbind => exact rfl
  case hlen => rfl
  case hnd => decide
  case hkind => intro L; rfl
  case hco => rfl
  case hgen => rfl
  case hk => rfl
  case h =>
    intro L s₁ eo hA' sub S
    refine wpAny_execs_cons (S.own2 (ds1 := []) (ds2 := [d]) hA'.hand (fun Mu => EvF.list EvS.nil) (fun Mu => EvF.list (EvS.cons (Ev.name (d := d)) EvS.nil)) fun a b s₂ hab ha hb _ _ S₂ => ?_)
    refine wpAny_execs_cons (ST.while (σ := {c : List D × List D // c.1 ++ D.topsL c.2.reverse = d.tops ∧ c.1.length + D.wtL c.2 ≤ d.wt}) (fun _ => [("found", .raw (.ref a)), ("waiting", .raw (.ref b))]) (fun c => [(b, .ls c.1.2), (a, .ls c.1.1)]) (fun c => D.wtL c.1.2) ⟨([], [d]), by simp [D.topsL], by simp [D.wtL]⟩
      (S₂.less fun x g e => ?_) ?_)
    · rcases lookup2 e with ⟨rfl, rfl⟩ | ⟨rfl, rfl⟩ <;> rfl
    rintro ⟨⟨f, ws⟩, h1, h2⟩ s₃ S₃
    simp only at h1 h2 S₃ ⊢
    refine S₃.lenGt eo rfl (.head _) (by have := wtL_len ws; omega) fun s₄ S₄ => ?_
    by_cases hw : ws = []
    · subst hw
      simp only [List.length_nil, Nat.lt_irrefl, decide_false, Bool.false_eq_true, if_false]
      refine wpAny_execs_cons (S₄.retOwn rfl ?_)
      have q : f = d.tops := by simpa [D.topsL] using h1
      subst q
      exact S₄.fin (.tail _ (.head _)) fun b m => .tail _ (.tail _ (List.mem_append_right _ m))
    · have hpos : 0 < ws.length := List.length_pos_iff.mpr hw
      rw [decide_eq_true hpos]
      simp only [if_true]
      obtain ⟨ws', x, rfl⟩ : ∃ ws' x, ws = ws' ++ [x] := ⟨ws.dropLast, ws.getLast hw, (List.dropLast_concat_getLast hw).symm⟩
      rw [List.reverse_append, List.reverse_singleton, List.singleton_append, D.topsL] at h1
      rw [wtL_app] at h2
      have hwx : D.wtL [x] = x.wt := by simp [D.wtL]
      have hxp := wt_pos x
      have hl := wtL_len ws'
      refine wpAny_execs_cons (wpAny_Assign_Name (S₄.pop (ds := ws') (d := x) rfl (fun p hp => by rw [List.mem_singleton.mp hp]; exact hab) (by show ws'.length < 2 ^ 24; omega) fun v' s₅ rv S₅ => ?_) rfl)
      refine S₅.store (x := "here") (g := .im x) (.inl rfl) rv fun s₆ S₆ => ?_
      refine wpAny_execs_cons (S₆.ifs (EvT.plain (Ev.isNode eo (Ev.name (d := x)))) (fun hn s₇ S₇ => ?_) fun hn s₇ S₇ => ?_)
      · have S₇' : ST w s _ _ _ ((a, .ls f) :: [(b, .ls ws')]) s₇ := S₇.sub fun p hp => by
          rcases List.mem_cons.mp hp with rfl | hp
          · exact .tail _ (.head _)
          · rw [List.mem_singleton.mp hp]; exact .head _
        refine wpAny_execs_cons (S₇'.append (e := .Name "here" _) rfl (Ev.name (d := x)) (fun p hp => by rw [List.mem_singleton.mp hp]; exact Ne.symm hab) (by show f.length ≤ 2 ^ 24; omega) fun s₈ S₈ => wpAny_execs_nil (wpAny_execs_nil ?_))
        rw [tops_node x hn] at h1
        refine ⟨⟨(f ++ [x], ws'), by simpa using h1, by simp only [List.length_append, List.length_singleton]; omega⟩, by simp only [wtL_app, hwx]; omega, ?_⟩
        exact (S₈.drop rfl).sub fun p hp => by
          rcases List.mem_cons.mp hp with rfl | hp
          · exact .tail _ (.head _)
          · rw [List.mem_singleton.mp hp]; exact .head _
      · refine wpAny_execs_cons (S₇.ifs (EvT.plain (Ev.isSeq eo (Ev.name (d := x)))) (fun hq s₈ S₈ => ?_) fun hq s₈ S₈ => ?_)
        · have hwi := wt_items x hq
          have hli := wtL_len x.items
          rw [tops_items x hq] at h1
          refine wpAny_execs_cons ((S₈.ownEq (by rw [List.take_zero, List.append_nil])).loop1 (x := "one") x.items.reverse (fun _ => [("here", .im x), ("found", .raw (.ref a)), ("waiting", .raw (.ref b))]) (fun i => [(b, .ls (ws' ++ x.items.reverse.take i)), (a, .ls f)]) (EvI.rev hA'.hand eo (Ev.name (d := x)) hq (by omega)) (fun _ => rfl) ?_ ?_)
          · intro i dd Mu' io s₉ hx hsub hdis S₉
            have hi : i < x.items.reverse.length := (List.getElem?_eq_some_iff.mp hx).1
            have htk : x.items.reverse.take (i + 1) = x.items.reverse.take i ++ [dd] := by rw [List.take_add_one, hx]; rfl
            rw [List.length_reverse] at hi
            have S₉' := S₉.sub (own' := (b, .ls (ws' ++ x.items.reverse.take i)) :: (a, .ls f) :: io) fun p hp => by
              rcases List.mem_cons.mp hp with rfl | hp
              · exact List.mem_append_right _ (.head _)
              · rcases List.mem_cons.mp hp with rfl | hp
                · exact List.mem_append_right _ (.tail _ (.head _))
                · exact List.mem_append_left _ hp
            refine wpAny_execs_cons (S₉'.append (e := .Name "one" _) rfl (Ev.name (d := dd)) (fun p hp => ?_) (by simp only [List.length_append, List.length_take, List.length_reverse]; show _ ≤ 2 ^ 24; omega) fun s₁₀ S₁₀ => wpAny_execs_nil ?_)
            · rcases List.mem_cons.mp hp with rfl | hp
              · exact hab
              · exact hdis (b, _) (.head _) p hp
            · show ST _ _ _ _ _ _ _
              rw [htk, ← List.append_assoc]
              exact (S₁₀.drop rfl).sub fun p hp => by
                rcases List.mem_append.mp hp with hp | hp
                · exact .tail _ (.tail _ hp)
                · rcases List.mem_cons.mp hp with rfl | hp
                  · exact .head _
                  · rw [List.mem_singleton.mp hp]; exact .tail _ (.head _)
          · intro s₉ S₉
            rw [List.length_reverse, ← List.length_reverse (as := x.items), List.take_length] at S₉
            refine wpAny_execs_nil (wpAny_execs_nil (wpAny_execs_nil ⟨⟨(f, ws' ++ x.items.reverse), by simpa [topsL_app] using h1, by simp only [wtL_app, wtL_rev]; omega⟩, by simp only [wtL_app, wtL_rev, hwx]; omega, S₉.drop rfl⟩))
        · rw [tops_none x hq hn] at h1
          refine wpAny_execs_nil (wpAny_execs_nil (wpAny_execs_nil ⟨⟨(f, ws'), by simpa using h1, by simp only; omega⟩, by simp only [wtL_app, hwx]; omega, S₈.drop rfl⟩))
end Mine
namespace Mine
open PySem PySem.W PySem.Calls PySem.Spec PyProof.Rows

section
variable {w : World} {A : Around} {env : Env} {Mu : List Addr} {γ : Gm}
theorem Ev.neg {e : Expr} {i : Int} {pos : Pos} (E : Ev w A env Mu γ e (.int i)) : Ev w A env Mu γ (.UnaryOp .USub e pos) (.int (-i)) := fun s g r =>
  UnaryOp_ (E.use keeps_refl g r fun v s₁ k₁ _ rv => by
    cases rv with
    | int _ t => exact PyProof.Rows.neg_int ⟨keeps_trans k₁ keeps_toks, .int _ _⟩)
theorem EvF.addL {e1 e2 : Expr} {pos : Pos} {ds es : List D} (E1 : Ev w A env Mu γ e1 (.list ds)) (E2 : Ev w A env Mu γ e2 (.list es)) (hz : ds.length + es.length ≤ sizeLine) : EvF w A env Mu γ (.BinOp e1 .Add e2 pos) (ds ++ es) := fun s g r =>
  wpAny_BinOp (E1.use keeps_refl g r fun u s₁ k₁ _ r1 => E2.use k₁ g r fun v s₂ k₂ k₁₂ r2 => by
    obtain ⟨a, vs, n, rfl, ha, rs⟩ := rps_of_list r1
    obtain ⟨b, ws, m, rfl, hb, rs'⟩ := rps_of_list r2
    have ha' := keeps_ext k₁₂ _ _ (vw_get ha)
    refine P.add_list ha' (vw_get hb) ⟨keeps_trans k₂ keeps_push, _, vs ++ ws, 0, rfl, ?_, ?_, ?_⟩ (by rw [List.size_toArray, List.size_toArray, rs.length, rs'.length]; exact hz)
    · cases z : s.heap.get? s₂.heap.objs.size with
      | none => rfl
      | some o => have := (keeps_ext k₂) _ _ z; rw [fresh_size] at this; cases this
    · have e : vs.toArray ++ ws.toArray = (vs ++ ws).toArray := by simp
      rw [e]
      exact Heap.get?_push_size _ rfl
    · exact ((rs.mono (vw_ext (keeps_ext k₁₂))).append rs').mono vw_push)
theorem rps_bools {I : Im} {vs : List Value} {bs : List Bool} (h : Rps I vs (bs.map .bool)) : LSm.BoolsAre vs bs := by
  induction bs generalizing vs with
  | nil => cases h; exact .nil
  | cons b bs ih =>
    cases h with
    | cons r t => cases r; exact .cons b (ih t)
theorem CB.any {bs : List Bool} (hA : A.handled = Option.none) : CB w A Mu (.builtin "any") [.list (bs.map .bool)] (.bool (bs.any id)) := fun s vs g mok rs => by
  obtain ⟨v, rfl, r⟩ := rs.one1
  obtain ⟨l, vs, n, rfl, hl, rs⟩ := rps_of_list r
  have hb := rps_bools rs
  have hL : s.heap.IsList l vs.toArray := ⟨_, vw_get hl, rfl, n, rfl⟩
  have hlt : l < s.heap.objs.size := Heap.lt_size (vw_get hl)
  refine call_any_walk (wpAny_pyIter_list hL ?_)
  refine ⟨s.heap.objs.size, [s.heap.objs.size, l], [s.heap.objs.size], vs.toArray.size, _, _, fun i => (bs[i]?).getD false, rfl, Walks.list (A := A.in1) hA _ l (Nat.ne_of_lt hlt) vs.toArray,
    ⟨⟨_, Heap.get?_push_size _ rfl, rfl, rfl⟩, hL.push _⟩, fun i v s' Q' E' hP hQ => ?_, fun h' tk hk => ?_⟩
  · obtain ⟨b, e, rfl⟩ := hb.get i v (by simpa using hP)
    simp only [e, Option.getD_some] at hQ
    exact wpAny_truthy_bool hQ
  · have e : ((List.range vs.toArray.size).any fun i => (bs[i]?).getD false) = bs.any id := by
      rw [List.size_toArray, hb.length]; exact LSm.range_any bs
    rw [e]
    exact ⟨⟨h', tk, rfl, LSm.kept_iter hk⟩, .bool _⟩

/-! tuple targets -/
def bindsS : List Str → List D → Gm → Gm
  | x :: ns, d :: ds, γ => bindsS ns ds ((x, .im d) :: γ)
  | _, _, γ => γ
theorem bindGo {s₀ : Shared} {own : Ow} {Q : Unit → Shared → Prop} (ns : List Str) : ∀ (ds : List D) (vs : List Value) (γ : Gm) (s : Shared), ST w s₀ env Mu γ own s → Rps (vw s.heap Mu) vs ds → ns.length = ds.length → (∀ p ∈ ns, Kd env p) →
    (∀ s', ST w s₀ env Mu (bindsS ns ds γ) own s' → Q () s') → wpAny (MM w) A (assignInOrder (ns.map fun n => bindName env n) vs) Q NoE s := by
  induction ns with
  | nil =>
    intro ds vs γ s S rs hl hk h
    cases ds with
    | nil => exact assignInOrder_nil (h s S)
    | cons => cases hl
  | cons p ns ih =>
    intro ds vs γ s S rs hl hk h
    cases rs with
    | nil => cases hl
    | cons r rs =>
      refine assignInOrder_cons (wpAny_bindName (S.storeV (g := .im _) (hk p (.head _)) r fun s₂ e S₂ => ?_))
      exact ih _ _ _ s₂ S₂ (by rw [e]; exact rs) (Nat.succ.inj hl) (fun q hq => hk q (.tail _ hq)) h
theorem ST.assignSw {s₀ s : Shared} {own : Ow} {elts : List Expr} {tp pos : Pos} {tk : Nat} {value : Expr} {ds : List D} {Q : Flow → Shared → Prop} (names : List Str) (S : ST w s₀ env Mu γ own s) (hA : A.handled = Option.none) (E : Ev w A env Mu γ value (.tup ds)) (hl : names.length = ds.length) (hk : ∀ x ∈ names, Kd env x)
    (k : ∀ s', ST w s₀ env Mu (bindsS names.reverse ds.reverse γ) own s' → Q .next s')
    (hs : swapsWithSole [.Tuple elts tk tp] value pos.line env = pure false := by rfl) (hw : swappedStores [.Tuple elts tk tp] value env = pure (some names) := by rfl) :
    wpAny (MM w) A (exec (.Assign [.Tuple elts tk tp] value pos) env) Q NoE s := by
  refine Assign_Tuple_swapped (names := names) (S.ev E fun v s₁ S₁ r => ?_) hs hw
  obtain ⟨l, vs, n, rfl, hm, rs⟩ := rps_of_tup r
  have hT : IsTup s₁.heap l vs.toArray := ⟨_, vw_get hm, rfl, n, rfl⟩
  have e : names.length = vs.toArray.size := by rw [List.size_toArray, rs.length]; exact hl
  rw [e]
  refine unpackItems_tuple hA hT fun h' hx => ?_
  have kp : Keeps s₁ { s₁ with heap := h' } := ⟨h', _, rfl, fun c o q => hx c o (Nat.ne_of_lt (Heap.lt_size q)) q⟩
  refine bindGo names.reverse ds.reverse _ γ _ (S₁.keeps kp) ?_ (by simpa using hl) (fun x hx => hk x (List.mem_reverse.mp hx)) k
  rw [List.toList_toArray]
  exact (rs.mono (vw_ext (keeps_ext kp))).reverse
theorem ST.assignTupE {s₀ s : Shared} {own : Ow} {elts : List Expr} {tp pos : Pos} {tk : Nat} {value : Expr} {ds : List D} {Q : Flow → Shared → Prop} (ns : List (Str × Pos)) (S : ST w s₀ env Mu γ own s) (hA : A.handled = Option.none) (E : Ev w A env Mu γ value (.tup ds)) (hl : ns.length = ds.length) (hk : ∀ p ∈ ns, Kd env p.1)
    (he : assignEach elts env = ns.map fun p => (false, PySem.assign (.Name p.1 p.2) env))
    (k : ∀ s', ST w s₀ env Mu (binds ns ds γ) own s' → Q .next s')
    (hs : swapsWithSole [.Tuple elts tk tp] value pos.line env = pure false := by rfl) (hw : swappedStores [.Tuple elts tk tp] value env = pure Option.none := by rfl) :
    wpAny (MM w) A (exec (.Assign [.Tuple elts tk tp] value pos) env) Q NoE s :=
  Assign_Tuple (S.ev E fun v s₁ S₁ r => assignTup ns S₁ hA r hl hk he k) hs hw

/-! a heap without one object -/
def hide (h : Heap) (a : Addr) : Heap := ⟨h.objs.modify a fun o => { o with data := .freed }, h.life⟩
theorem hide_self (h : Heap) (a : Addr) : (hide h a).get? a = Option.none := by
  unfold hide Heap.get?
  rw [Array.getElem?_modify, if_pos rfl]
  cases h.objs[a]? <;> rfl
theorem hide_other (h : Heap) {a b : Addr} (n : b ≠ a) : (hide h a).get? b = h.get? b := by
  unfold hide Heap.get?
  rw [Array.getElem?_modify, if_neg (Ne.symm n)]
theorem hide_ext (h : Heap) (a : Addr) : Ext (hide h a) h := fun b o e => by
  by_cases n : b = a
  · subst n; rw [hide_self] at e; cases e
  · rwa [hide_other h n] at e
end
end Mine
namespace Mine
open PySem PySem.W PySem.Calls PySem.Spec PyProof.Rows

def once (ss : List Str) (x : Str) : List Str := if x ∈ ss then ss else ss ++ [x]
section
variable {w : World} {A : Around} {env : Env} {Mu : List Addr} {γ : Gm}
theorem own_rp {h : Heap} {Mu : List Addr} {a : Addr} {ds : List D} (o : (OB.ls ds).At (vw h Mu) h a) : Rp (vw h []) (.ref a) (.list ds) := by
  obtain ⟨vs, n, e, rs⟩ := o
  exact .list (vw_in e (by simp)) (rs.mono (vw_less fun b m => absurd m List.not_mem_nil))
theorem addOnce_call {s : Shared} {own : Ow} {s₀ : Shared} {n : Nat} {a : Addr} {ss : List Str} {nm : Str} {v : Value} {Q : Value → Shared → Prop} (S : ST w s₀ env Mu γ ((a, .ls (ss.map .str)) :: own) s) (hA : Aok (n + 1) A) (r : Rp (vw s.heap Mu) v (.str nm)) (hn : ∀ p ∈ own, p.1 ≠ a) (hok : PyData.strOk nm = true) (hoks : SsOk ss) (hz : ss.length ≤ sizeLine)
    (k : ∀ s', ST w s₀ env Mu γ ((a, .ls ((once ss nm).map .str)) :: own) s' → Q .none s') : wpAny (MM w) A (call (.ref 63) [.ref a, v]) Q NoE s := by
  have ha := S.fs.own _ (.head _)
  have done : ∀ (env' : Env) Mu' γ' s', (∀ b ∈ Mu, b ∈ Mu') → ST w { s with heap := hide s.heap a } env' Mu' γ' [(a, .ls ((once ss nm).map .str))] s' → Q .none s' := fun env' Mu' γ' s' hM S' => by
    refine k s' ?_
    obtain ⟨h1, t1, e1⟩ := S'.same
    obtain ⟨h0, t0, e0⟩ := S.same
    refine ⟨⟨h1, t1, by rw [e1, e0]⟩, ?_, S.gl⟩
    refine S.fs.turn (os := [(a, .ls (ss.map .str))]) (os' := [(a, .ls ((once ss nm).map .str))]) (fun c o hc e => S'.fs.keep c o ?_) (fun p hp => ?_) rfl (fun p hp m => hn p hp (List.mem_singleton.mp m))
    · show (hide s.heap a).get? c = some o
      rw [hide_other _ fun q => hc (by rw [q]; exact .head _)]; exact e
    · rw [List.mem_singleton.mp hp]
      obtain ⟨vs, m, e, rs⟩ := (S'.fs.own _ (.head _)).1
      exact ⟨vs, m, e, rs.mono (vw_less hM)⟩
  refine' wpAny_call (enterC (n := n) (s₀ := { s with heap := hide s.heap a }) (own := [(a, .ls (ss.map .str))]) (gs := [.raw (.ref a), .im (.str nm)]) (names := ["names", "name"]) hA.room hA ?gl ?same (hide_ext _ _) S.fs.mok ?hown (.cons rfl (.cons r .nil)) ?ho ?hcd ?hbind ?hlen ?hnd ?hkind ?hco ?hgen ?hk ?h)
  case ho => exact rfl
  case gl =>
    refine S.gl.keeps fun c o e => ?_
    show (hide s.heap a).get? c = some o
    rw [hide_other _ fun q => by have h5 := ha.2.2.2.2; rw [q] at e; exact absurd (h5.symm.trans e) nofun]
    exact S.fs.keep c o e
  case same => exact ⟨s.heap, s.toks, rfl⟩
  case hown =>
    intro p hp
    rw [List.mem_singleton.mp hp]
    exact ⟨ha.1, ha.2.1, hide_self _ _⟩
  case hcd => kernel_rfl
  case hbind => exact rfl
  case hlen => rfl
  case hnd => decide
  case hkind => intro L; rfl
  case hco => rfl
  case hgen => rfl
  case hk => rfl
  case h =>
    intro L s₁ hA' sub _ _ S₁
    refine wpAny_execs_cons (wpAny_If (wpAny_isTrue_Compare1 (S₁.ev (Ev.name (d := .str nm)) fun u s₂ S₂ ru => S₂.raw (x := "names") rfl ?_) rfl))
    refine wpAny_mono (Cmp.notInS (Mu := []) hA' hok hoks s₂ u (.ref a) (ru.mono (vw_less fun b m => absurd m List.not_mem_nil)) (own_rp (S₂.fs.own _ (.head _)).1)) (fun t s₃ ⟨k₃, e⟩ => ?_) fun _ _ x => x
    subst e
    have S₃ := S₂.keeps k₃
    refine wpAny_truthy_bool ?_
    by_cases hm : nm ∈ ss
    · rw [decide_eq_true hm]
      simp only [Bool.not_true, Bool.false_eq_true, if_false]
      refine wpAny_execs_nil (wpAny_execs_nil ?_)
      exact done _ _ _ _ sub (S₃.ownEq (by rw [once, if_pos hm]))
    · rw [decide_eq_false hm]
      simp only [Bool.not_false, if_true]
      refine wpAny_execs_cons (S₃.append (e := .Name "name" _) rfl (Ev.name (d := .str nm)) (fun p hp => nomatch hp) (by rw [List.length_map]; exact hz) fun s₄ S₄ => wpAny_execs_nil (wpAny_execs_nil ?_))
      exact done _ _ _ _ sub (S₄.ownEq (by rw [once, if_neg hm, List.map_append]; rfl))
theorem ST.addOnce {s s₀ : Shared} {own : Ow} {n : Nat} {a : Addr} {ss : List Str} {x nm : Str} {xp fp cp ep : Pos} {e : Expr} {Q : Flow → Shared → Prop} (S : ST w s₀ env Mu γ ((a, .ls (ss.map .str)) :: own) s) (hA : Aok (n + 1) A) (eo : EnvOk env) (hx : γ.lookup x = some (.raw (.ref a))) (E : Ev w A env Mu γ e (.str nm)) (hn : ∀ p ∈ own, p.1 ≠ a)
    (hok : PyData.strOk nm = true) (hoks : SsOk ss) (hz : ss.length ≤ sizeLine) (k : ∀ s', ST w s₀ env Mu γ ((a, .ls ((once ss nm).map .str)) :: own) s' → Q .next s')
    (hl : env.kindOf "add_once" = some .globalImplicit := by rfl) (hd : (x == ("__debug__" : Str)) = false := by decide)
    (he : starEach (.Name x xp :: [e]) env = (false, eval (.Name x xp) env) :: starEach [e] env := by rfl) (he' : starEach (e :: []) env = (false, eval e env) :: starEach [] env := by rfl) (hp : (backTo cp (starEach [e] env)).any (·.1) = false := by rfl)
    (hi : interactive env = false := by rfl) (hs : swapsWith (.Call (.Name "add_once" fp) [.Name x xp, e] [] cp) none ep.line env = pure false := by rfl) :
    wpAny (MM w) A (exec (.Expr (.Call (.Name "add_once" fp) [.Name x xp, e] [] cp) ep) env) Q NoE s := by
  refine wpAny_Expr (Call_ (name_def eo S.g (v := .ref 63) (by kernel_rfl) hl (callWith_K (h₀ := s.heap) S.g.X (by kernel_rfl) (spliced_more (S.raw hx (spliced_more (S.ev E fun v s₁ S₁ r => spliced_none ⟨S₁.g.X, ?_⟩) he') hd) he) he hp))) hi hs
  show wpAny (MM w) A (PySem.call (.ref 63) ([] ++ [.ref a, v])) _ _ s₁
  rw [List.nil_append]
  exact addOnce_call S₁ hA r hn hok hoks hz fun s' S' => k s' S'
end
end Mine
namespace Mine
open PySem PySem.W PySem.Calls PySem.Spec PyProof.Rows

section
variable {w : World} {A : Around} {s₀ s s' : Shared} {env : Env} {Mu : List Addr} {γ : Gm} {own : Ow}
theorem ST.retF {Mu₀ : List Addr} {e : Expr} {ds : List D} {pos : Pos} {Q : Flow → Shared → Prop} (S : ST w s₀ env Mu γ own s) (hM : ∀ b ∈ Mu₀, b ∈ Mu) (E : EvF w A env Mu γ e ds)
    (k : ∀ v s', (Keeps s₀ s' ∧ ∃ a us n, v = .ref a ∧ s₀.heap.get? a = none ∧ s'.heap.get? a = some (W.listOf us.toArray n) ∧ Rps (vw s'.heap (a :: Mu₀)) us ds) → Q (.ret v) s') : wpAny (MM w) A (exec (.Return (some e) pos) env) Q NoE s :=
  wpAny_Return_some (wpAny_mono (E s S.g S.fs.rdy) (fun v s' ⟨kk, a, us, n, h1, h2, h3, h4⟩ => k v s' ⟨(S.keeps kk).out, a, us, n, h1, (by
    cases z : s₀.heap.get? a with
    | none => rfl
    | some o => rw [S.fs.keep _ _ z] at h2; cases h2), h3, h4.mono (vw_less fun b m => by
      rcases List.mem_cons.mp m with rfl | m
      · exact .head _
      · exact .tail _ (hM b m))⟩) fun _ _ x => x)
theorem ST.retD {Mu₀ : List Addr} {e : Expr} {d : D} {pos : Pos} {Q : Flow → Shared → Prop} (S : ST w s₀ env Mu γ own s) (hM : ∀ b ∈ Mu₀, b ∈ Mu) (E : Ev w A env Mu γ e d)
    (k : ∀ v s', (Keeps s₀ s' ∧ Rp (vw s'.heap Mu₀) v d) → Q (.ret v) s') : wpAny (MM w) A (exec (.Return (some e) pos) env) Q NoE s :=
  S.ret E fun v s' S' r => k v s' ⟨S'.out, r.mono (vw_less hM)⟩
end

mutual
/-- the nodes of a body's own, in order -/
def D.pre : D → List D
  | .node k ln ps => .node k ln ps :: (if k = "Function" then [] else D.preL ps)
  | .list ds | .tup ds => D.preL ds
  | _ => []
def D.preL : List D → List D
  | [] => []
  | d :: ds => d.pre ++ D.preL ds
end
theorem preL_app (a b : List D) : D.preL (a ++ b) = D.preL a ++ D.preL b := by
  induction a with
  | nil => rfl
  | cons x xs ih => rw [List.cons_append, D.preL, D.preL, ih, List.append_assoc]
mutual
theorem pre_tops : ∀ d : D, D.preL d.tops = d.pre
  | .node k ln ps => by rw [D.tops, D.preL, D.preL, List.append_nil]
  | .list ds => by rw [D.tops, D.pre]; exact pre_topsL ds
  | .tup ds => by rw [D.tops, D.pre]; exact pre_topsL ds
  | .none | .bool _ | .int _ | .str _ => rfl
theorem pre_topsL : ∀ ds : List D, D.preL (D.topsL ds) = D.preL ds
  | [] => rfl
  | d :: ds => by rw [D.topsL, preL_app, pre_tops d, pre_topsL ds, D.preL]
end
mutual
theorem wt_tops : ∀ d : D, D.wtL d.tops ≤ d.wt
  | .node k ln ps => by rw [D.tops, D.wtL, D.wtL]; exact Nat.le_refl _
  | .list ds => by rw [D.tops, D.wt]; exact Nat.le_succ_of_le (wt_topsL ds)
  | .tup ds => by rw [D.tops, D.wt]; exact Nat.le_succ_of_le (wt_topsL ds)
  | .none | .bool _ | .int _ | .str _ => by simp [D.tops, D.wtL]
theorem wt_topsL : ∀ ds : List D, D.wtL (D.topsL ds) ≤ D.wtL ds
  | [] => Nat.le_refl _
  | d :: ds => by rw [D.topsL, wtL_app, D.wtL]; exact Nat.add_le_add (wt_tops d) (wt_topsL ds)
end
mutual
theorem pre_len : ∀ d : D, d.pre.length ≤ d.wt
  | .node k ln ps => by
    rw [D.pre, D.wt, List.length_cons]
    have := preL_len ps
    split
    · simp
    · omega
  | .list ds => by rw [D.pre, D.wt]; exact Nat.le_succ_of_le (preL_len ds)
  | .tup ds => by rw [D.pre, D.wt]; exact Nat.le_succ_of_le (preL_len ds)
  | .none | .bool _ | .int _ | .str _ => by simp [D.pre]
theorem preL_len : ∀ ds : List D, (D.preL ds).length ≤ D.wtL ds
  | [] => Nat.le_refl _
  | d :: ds => by rw [D.preL, List.length_append, D.wtL]; exact Nat.add_le_add (pre_len d) (preL_len ds)
end
mutual
theorem tops_nodes : ∀ d : D, ∀ x ∈ d.tops, x.isNode = true
  | .node k ln ps => fun x hx => by rw [D.tops, List.mem_singleton] at hx; rw [hx]; rfl
  | .list ds => fun x hx => by rw [D.tops] at hx; exact topsL_nodes ds x hx
  | .tup ds => fun x hx => by rw [D.tops] at hx; exact topsL_nodes ds x hx
  | .none | .bool _ | .int _ | .str _ => fun x hx => by simp [D.tops] at hx
theorem topsL_nodes : ∀ ds : List D, ∀ x ∈ D.topsL ds, x.isNode = true
  | [] => fun x hx => by simp [D.topsL] at hx
  | d :: ds => fun x hx => by
    rw [D.topsL] at hx
    rcases List.mem_append.mp hx with hx | hx
    · exact tops_nodes d x hx
    · exact topsL_nodes ds x hx
end
theorem inner_con (w : World) {k : Str} {ln : Int} {ps : List D} (hz : (D.list ps).wt ≤ 2 ^ 20) : ConF 2 w 49 [D.node k ln ps] (D.topsL ps) := by
  intro A Mu s vs hA g mok rs
  obtain ⟨v, rfl, r⟩ := rs.one1
  refine' enter (n := 1) (ds := [D.node k ln ps]) (vs := [v]) (names := ["node"]) hA g mok (.cons r .nil) ?ho ?hcd ?hbind ?hlen ?hnd ?hkind ?hco ?hgen ?hk ?h
  case ho => exact rfl
  case hcd => kernel_rfl
  case hbind => exact rfl
  case hlen => rfl
  case hnd => decide
  case hkind => intro L; rfl
  case hco => rfl
  case hgen => rfl
  case hk => rfl
  case h =>
    intro L s₁ eo hA' sub S
    exact wpAny_execs_cons (S.retF (fun b m => sub b m) (EvF.call (x := "nodes_of") (nodes_con w (.list ps) hz) hA' eo (EvS.cons (Ev.parts (Ev.name (d := .node k ln ps))) EvS.nil)) fun v s' h => h)


set_option maxHeartbeats 400000 in
theorem own_con (w : World) (d : D) (hz : d.wt ≤ 2 ^ 19) : ConF 3 w 56 [d] d.pre := by
  intro A Mu s vs hA g mok rs
  obtain ⟨v, rfl, r⟩ := rs.one1
  refine' enter (n := 2) (ds := [d]) (vs := [v]) (names := ["body"]) hA g mok (.cons r .nil) ?ho ?hcd ?hbind ?hlen ?hnd ?hkind ?hco ?hgen ?hk ?h
  case ho => exact rfl
  case hcd => kernel_rfl
  case hbind => exact rfl
  case hlen => rfl
  case hnd => decide
  case hkind => intro L; rfl
  case hco => rfl
  case hgen => rfl
  case hk => rfl
  case h =>
    intro L s₁ eo hA' sub S
    refine wpAny_execs_cons (S.own2 (x := "found") (y := "waiting") (ds1 := []) (ds2 := d.tops.reverse) hA'.hand (fun Mu => EvF.list EvS.nil) (fun Mu => EvF.slice (EvF.ev (EvF.call (x := "nodes_of") (ds := [d]) ((nodes_con w d (by omega)).less (by omega)) hA' eo (EvS.cons (Ev.name (d := d)) EvS.nil))) EvPt.none EvPt.none (EvPt.some (i := -1) (Ev.neg Ev.int)) Picks.rev (by decide) (by have := wt_tops d; have := wtL_len d.tops; show _ ≤ 2 ^ 24; omega)) fun a b s₂ hab ha hb _ _ S₂ => ?_)
    refine wpAny_execs_cons (ST.while (σ := {c : List D × List D // c.1 ++ D.preL c.2.reverse = d.pre ∧ c.1.length + D.wtL c.2 ≤ d.wt ∧ ∀ x ∈ c.2, x.isNode = true}) (fun _ => [("found", .raw (.ref a)), ("waiting", .raw (.ref b))]) (fun c => [(b, .ls c.1.2), (a, .ls c.1.1)]) (fun c => D.wtL c.1.2) ⟨([], d.tops.reverse), by simp [pre_tops], by simpa [wtL_rev] using wt_tops d, fun x hx => tops_nodes d x (List.mem_reverse.mp hx)⟩
      (S₂.less fun x g e => ?_) ?_)
    · rcases lookup2 e with ⟨rfl, rfl⟩ | ⟨rfl, rfl⟩ <;> rfl
    rintro ⟨⟨f, ws⟩, h1, h2, h3⟩ s₃ S₃
    simp only at h1 h2 h3 S₃ ⊢
    refine S₃.lenGt eo rfl (.head _) (by have := wtL_len ws; omega) fun s₄ S₄ => ?_
    by_cases hw : ws = []
    · subst hw
      simp only [List.length_nil, Nat.lt_irrefl, decide_false, Bool.false_eq_true, if_false]
      refine wpAny_execs_cons (S₄.retOwn rfl ?_)
      have q : f = d.pre := by simpa [D.preL] using h1
      subst q
      exact S₄.fin (.tail _ (.head _)) fun b m => .tail _ (.tail _ (List.mem_append_right _ m))
    · have hpos : 0 < ws.length := List.length_pos_iff.mpr hw
      rw [decide_eq_true hpos]
      simp only [if_true]
      obtain ⟨ws', x, rfl⟩ : ∃ ws' x, ws = ws' ++ [x] := ⟨ws.dropLast, ws.getLast hw, (List.dropLast_concat_getLast hw).symm⟩
      obtain ⟨kd, ln, ps, rfl⟩ : ∃ kd ln ps, x = .node kd ln ps := by
        have := h3 x (List.mem_append_right _ (.head _))
        cases x with
        | node kd ln ps => exact ⟨_, _, _, rfl⟩
        | _ => cases this
      rw [List.reverse_append, List.reverse_singleton, List.singleton_append, D.preL, D.pre] at h1
      rw [wtL_app] at h2
      have hwx : D.wtL [D.node kd ln ps] = D.wtL ps + 1 := by simp [D.wtL, D.wt]
      have hl := wtL_len ws'
      have hlp := wt_topsL ps
      have hlt := wtL_len (D.topsL ps)
      have h3' : ∀ x ∈ ws', x.isNode = true := fun x hx => h3 x (List.mem_append_left _ hx)
      refine wpAny_execs_cons (wpAny_Assign_Name (S₄.pop (ds := ws') (d := .node kd ln ps) rfl (fun p hp => by rw [List.mem_singleton.mp hp]; exact hab) (by show ws'.length < 2 ^ 24; omega) fun v' s₅ rv S₅ => ?_) rfl)
      refine S₅.store (x := "here") (g := .im (.node kd ln ps)) (.inl rfl) rv fun s₆ S₆ => ?_
      have S₆' : ST w s _ _ _ ((a, .ls f) :: [(b, .ls ws')]) s₆ := S₆.sub fun p hp => by
        rcases List.mem_cons.mp hp with rfl | hp
        · exact .tail _ (.head _)
        · rw [List.mem_singleton.mp hp]; exact .head _
      refine wpAny_execs_cons (S₆'.append (e := .Name "here" _) rfl (Ev.name (d := .node kd ln ps)) (fun p hp => by rw [List.mem_singleton.mp hp]; exact Ne.symm hab) (by show f.length ≤ 2 ^ 24; omega) fun s₇ S₇ => ?_)
      have S₇' : ST w s _ _ _ ((b, .ls ws') :: [(a, .ls (f ++ [.node kd ln ps]))]) s₇ := S₇.sub fun p hp => by
        rcases List.mem_cons.mp hp with rfl | hp
        · exact .tail _ (.head _)
        · rw [List.mem_singleton.mp hp]; exact .head _
      refine wpAny_execs_cons (S₇'.ifs (EvT.cmp (Ev.kind (Ev.name (d := .node kd ln ps))) Ev.str Cmp.neS) (fun hn s₈ S₈ => ?_) fun hn s₈ S₈ => ?_)
      · have hk' : ¬ kd = "Function" := by simpa using hn
        rw [if_neg hk'] at h1
        refine wpAny_execs_cons (S₈.extend (es := (D.topsL ps).reverse) rfl (EvF.ev (EvF.slice (EvF.ev (EvF.call (x := "inner_nodes") (ds := [.node kd ln ps]) (inner_con w (k := kd) (ln := ln) (ps := ps) (by rw [D.wt]; omega)) hA' eo (EvS.cons (Ev.name (d := .node kd ln ps)) EvS.nil))) EvPt.none EvPt.none (EvPt.some (i := -1) (Ev.neg Ev.int)) Picks.rev (by decide) (by show _ ≤ 2 ^ 24; omega))) (fun p hp => by rw [List.mem_singleton.mp hp]; exact hab) (by rw [List.length_reverse]; show _ ≤ 2 ^ 24; omega) fun s₉ S₉ => wpAny_execs_nil (wpAny_execs_nil ?_))
        exact ⟨⟨(f ++ [.node kd ln ps], ws' ++ (D.topsL ps).reverse), by simpa [preL_app, pre_topsL] using h1, by simp only [List.length_append, List.length_singleton, wtL_app, wtL_rev]; omega, fun x hx => by
          rcases List.mem_append.mp hx with hx | hx
          · exact h3' x hx
          · exact topsL_nodes ps x (List.mem_reverse.mp hx)⟩, by simp only [wtL_app, wtL_rev, hwx]; omega, S₉.drop rfl⟩
      · have hk' : kd = "Function" := by simpa using hn
        rw [if_pos hk'] at h1
        refine wpAny_execs_nil (wpAny_execs_nil ?_)
        exact ⟨⟨(f ++ [.node kd ln ps], ws'), by simpa using h1, by simp only [List.length_append, List.length_singleton]; omega, h3'⟩, by simp only [wtL_app, hwx]; omega, S₈.drop rfl⟩

end Mine
namespace Mine
open PySem PySem.W PySem.Calls PySem.Spec PyProof.Rows

/-- the names that a node declares -/
def D.vnames : D → List Str
  | .node k _ (.list prs :: _) => if k = "Var" then prs.filterMap (fun | .tup (.str x :: _) => Option.some x | _ => Option.none) else []
  | _ => []
mutual
theorem pre_nodes : ∀ d : D, ∀ x ∈ d.pre, x.isNode = true
  | .node k ln ps => fun x hx => by
    rw [D.pre] at hx
    rcases List.mem_cons.mp hx with rfl | hx
    · rfl
    · split at hx
      · cases hx
      · exact preL_nodes ps x hx
  | .list ds => fun x hx => by rw [D.pre] at hx; exact preL_nodes ds x hx
  | .tup ds => fun x hx => by rw [D.pre] at hx; exact preL_nodes ds x hx
  | .none | .bool _ | .int _ | .str _ => fun x hx => by simp [D.pre] at hx
theorem preL_nodes : ∀ ds : List D, ∀ x ∈ D.preL ds, x.isNode = true
  | [] => fun x hx => by simp [D.preL] at hx
  | d :: ds => fun x hx => by
    rw [D.preL] at hx
    rcases List.mem_append.mp hx with hx | hx
    · exact pre_nodes d x hx
    · exact preL_nodes ds x hx
end
theorem isNode_ex {x : D} (h : x.isNode = true) : ∃ k ln ps, x = .node k ln ps := by
  cases x with
  | node k ln ps => exact ⟨_, _, _, rfl⟩
  | _ => cases h
def VarOk (x : D) : Prop := ∀ k ln ps, x = .node k ln ps → k = "Var" → ∃ (prs : List (Str × D)) (rest : List D), ps = .list (prs.map fun p => .tup [.str p.1, p.2]) :: rest ∧ prs.length ≤ 2 ^ 20
def D.isDecl : D → Bool
  | .node k _ [_, _, _, _, .str how] => k == "Function" && how == "decl"
  | _ => false
def D.fname : D → Str
  | .node _ _ (.str nm :: _) => nm
  | _ => ""
def D.fline : D → Int
  | .node _ ln _ => ln
  | _ => 0
def FnOk (x : D) : Prop := ∃ k ln ps, x = .node k ln ps ∧ (k = "Function" → ∃ nm p1 p2 p3 how, ps = [.str nm, p1, p2, p3, .str how] ∧ PyData.strOk nm = true)
theorem vnames_var {ln : Int} {prs : List (Str × D)} {rest : List D} : (D.node "Var" ln (.list (prs.map fun p => .tup [.str p.1, p.2]) :: rest)).vnames = prs.map (·.1) := by
  rw [D.vnames, if_pos rfl, List.filterMap_map]
  induction prs with
  | nil => rfl
  | cons p ps ih => rw [List.filterMap_cons, List.map_cons, ← ih]; rfl
theorem vnames_not {k : Str} {ln : Int} {ps : List D} (h : k ≠ "Var") : (D.node k ln ps).vnames = [] := by
  cases ps with
  | nil => rfl
  | cons p ps => cases p <;> first | rfl | (rw [D.vnames, if_neg h])
theorem once_len (ss : List Str) (x : Str) : (once ss x).length ≤ ss.length + 1 := by unfold once; split <;> simp
theorem onces_len (xs : List Str) : ∀ ss : List Str, (xs.foldl once ss).length ≤ ss.length + xs.length := by
  induction xs with
  | nil => intro ss; exact Nat.le_refl _
  | cons x xs ih => intro ss; rw [List.foldl_cons, List.length_cons]; have := ih (once ss x); have := once_len ss x; omega
theorem once_ok {ss : List Str} {x : Str} (h : SsOk ss) (hx : PyData.strOk x = true) : SsOk (once ss x) := by
  unfold once
  split
  · exact h
  · intro y hy
    rcases List.mem_append.mp hy with hy | hy
    · exact h y hy
    · rw [List.mem_singleton.mp hy]; exact hx
theorem onces_ok (xs : List Str) : ∀ ss : List Str, SsOk ss → SsOk xs → SsOk (xs.foldl once ss) := by
  induction xs with
  | nil => intro ss h _; exact h
  | cons x xs ih => intro ss h k; rw [List.foldl_cons]; exact ih _ (once_ok h (k x (.head _))) fun y hy => k y (.tail _ hy)
theorem take_succ_of {α : Type} {l : List α} {i : Nat} {x : α} (h : l[i]? = some x) : l.take (i + 1) = l.take i ++ [x] := by rw [List.take_add_one, h]; rfl
theorem mem_of_get {α : Type} {l : List α} {i : Nat} {x : α} (h : l[i]? = some x) : x ∈ l := by
  obtain ⟨hi, e⟩ := List.getElem?_eq_some_iff.mp h
  exact e ▸ List.getElem_mem hi
theorem perm_own {io own : Ow} {p : Addr × OB} : ∀ q ∈ p :: (io ++ own), q ∈ io ++ p :: own := fun q hq => by
  rcases List.mem_cons.mp hq with rfl | hq
  · exact List.mem_append_right _ (.head _)
  · rcases List.mem_append.mp hq with hq | hq
    · exact List.mem_append_left _ hq
    · exact List.mem_append_right _ (.tail _ hq)
theorem perm_own' {io own : Ow} {p : Addr × OB} : ∀ q ∈ io ++ p :: own, q ∈ p :: (io ++ own) := fun q hq => by
  rcases List.mem_append.mp hq with hq | hq
  · exact .tail _ (List.mem_append_left _ hq)
  · rcases List.mem_cons.mp hq with rfl | hq
    · exact .head _
    · exact .tail _ (List.mem_append_right _ hq)

set_option maxHeartbeats 400000 in
theorem vars_con (w : World) (d : D) (hz : d.wt ≤ 2 ^ 19) (hv : ∀ x ∈ d.pre, VarOk x) (hl : (d.pre.flatMap D.vnames).length ≤ 2 ^ 20) (hok : SsOk (d.pre.flatMap D.vnames)) : ConF 4 w 70 [d] (((d.pre.flatMap D.vnames).foldl once []).map .str) := by
  intro A Mu s vs hA g mok rs
  obtain ⟨v, rfl, r⟩ := rs.one1
  refine' enter (n := 3) (ds := [d]) (vs := [v]) (names := ["body"]) hA g mok (.cons r .nil) ?ho ?hcd ?hbind ?hlen ?hnd ?hkind ?hco ?hgen ?hk ?h
  case ho => exact rfl
  case hcd => kernel_rfl
  case hbind => exact rfl
  case hlen => rfl
  case hnd => decide
  case hkind => intro L; rfl
  case hco => rfl
  case hgen => rfl
  case hk => rfl
  case h =>
    intro L s₁ eo hA' sub S
    refine wpAny_execs_cons (S.own1 (x := "found") (ds := []) (EvF.list EvS.nil) fun a s₂ ha _ S₂ => ?_)
    have hpl := pre_len d
    refine wpAny_execs_cons (S₂.loop1 (x := "node") d.pre (fun _ => [("found", .raw (.ref a)), ("body", .im d)]) (fun i => [(a, .ls ((((d.pre.take i).flatMap D.vnames).foldl once []).map .str))]) (EvI.list hA'.hand (EvF.ev (EvF.call (x := "own_nodes") (ds := [d]) (own_con w d hz) hA' eo (EvS.cons (Ev.name (d := d)) EvS.nil))) (by omega)) (fun _ => rfl) ?_ ?_)
    · intro i x Mu' io s₃ hx hsub hdis S₃
      obtain ⟨k, ln, ps, rfl⟩ := isNode_ex (pre_nodes d x (mem_of_get hx))
      have htk := take_succ_of hx
      have hmem := mem_of_get hx
      have sub1 : ∀ y ∈ (d.pre.take i).flatMap D.vnames, y ∈ d.pre.flatMap D.vnames := fun y hy => by
        obtain ⟨z, hz, hy⟩ := List.mem_flatMap.mp hy
        exact List.mem_flatMap.mpr ⟨z, List.mem_of_mem_take hz, hy⟩
      refine wpAny_execs_cons (S₃.ifs (EvT.cmp (Ev.kind (Ev.name (d := .node k ln ps))) Ev.str Cmp.eqS) (fun hn s₄ S₄ => ?_) fun hn s₄ S₄ => ?_)
      · have hk : k = "Var" := by simpa using hn
        subst hk
        obtain ⟨prs, rest, rfl, hpr⟩ := hv _ hmem _ _ _ rfl rfl
        have hsub : ((d.pre.take i).flatMap D.vnames).length + prs.length ≤ 2 ^ 20 := by
          have : ((d.pre.take (i + 1)).flatMap D.vnames).length ≤ (d.pre.flatMap D.vnames).length := by
            conv => rhs; rw [← List.take_append_drop (i + 1) d.pre, List.flatMap_append, List.length_append]
            exact Nat.le_add_right _ _
          rw [htk, List.flatMap_append, List.flatMap_singleton, vnames_var, List.length_append, List.length_map] at this
          omega
        have hacc : SsOk (((d.pre.take i).flatMap D.vnames).foldl once []) := onces_ok _ _ (fun _ h => nomatch h) fun y hy => hok y (sub1 y hy)
        have hps : ∀ p ∈ prs, PyData.strOk p.1 = true := fun p hp => hok _ (List.mem_flatMap.mpr ⟨_, hmem, by rw [vnames_var]; exact List.mem_map_of_mem hp⟩)
        refine wpAny_execs_cons ((S₄.ownEq (own' := io ++ [(a, .ls ((((prs.take 0).map (·.1)).foldl once (((d.pre.take i).flatMap D.vnames).foldl once [])).map .str))]) rfl).loop2 (x := "name") (y := "init") (prs.map fun p => (.str p.1, p.2)) (fun _ => [("node", .im (.node "Var" ln (.list (prs.map fun p => .tup [.str p.1, p.2]) :: rest))), ("found", .raw (.ref a)), ("body", .im d)]) (fun j => io ++ [(a, .ls ((((prs.take j).map (·.1)).foldl once (((d.pre.take i).flatMap D.vnames).foldl once [])).map .str))]) hA'.hand ?_ (fun _ => by rw [List.map_append, List.map_append]; rfl) ?_ ?_)
        · rw [List.map_map]
          refine EvI.list (ds := prs.map fun p => .tup [.str p.1, p.2]) hA'.hand ?_ (by rw [List.length_map]; omega)
          exact Ev.item (k := 0) (Ev.parts (Ev.name (d := .node "Var" ln (.list (prs.map fun p => .tup [.str p.1, p.2]) :: rest)))) Ev.int (by decide) rfl
        · intro j dd ee Mu2 io2 s₅ hx2 hsub2 hdis2 S₅
          rw [List.getElem?_map] at hx2
          obtain ⟨p, hp, hpe⟩ := Option.map_eq_some_iff.mp hx2
          cases hpe
          have S₅' := S₅.sub (own' := (a, .ls ((((prs.take j).map (·.1)).foldl once (((d.pre.take i).flatMap D.vnames).foldl once [])).map .str)) :: ((io2 ++ io) ++ [])) fun q hq => by
            have := perm_own q hq
            rwa [List.append_assoc] at this
          have hlen := onces_len ((prs.take j).map (·.1)) (((d.pre.take i).flatMap D.vnames).foldl once [])
          have hlen2 := onces_len ((d.pre.take i).flatMap D.vnames) []
          rw [List.length_map, List.length_take] at hlen
          simp only [List.length_nil] at hlen2
          refine wpAny_execs_cons (S₅'.addOnce (n := 2) (x := "found") (nm := p.1) hA' eo rfl (Ev.name (d := .str p.1)) (fun q hq => ?_) (hps p (mem_of_get hp)) (onces_ok _ _ hacc fun y hy => ?_) (by show _ ≤ 2 ^ 24; omega) fun s₆ S₆ => wpAny_execs_nil ?_)
          · rw [List.append_nil] at hq
            rcases List.mem_append.mp hq with hq | hq
            · exact hdis2 (a, _) (List.mem_append_right _ (.head _)) q hq
            · exact hdis (a, _) (.head _) q hq
          · obtain ⟨z, hz, rfl⟩ := List.mem_map.mp hy
            exact hps z (List.mem_of_mem_take hz)
          · show ST _ _ _ _ _ _ _
            rw [take_succ_of hp, List.map_append, List.foldl_append]
            refine ((S₆.drop rfl).drop rfl).sub fun q hq => ?_
            have := perm_own' q (by rw [List.append_assoc]; exact hq)
            exact this
        · intro s₅ S₅
          refine wpAny_execs_nil (wpAny_execs_nil ?_)
          show ST _ _ _ _ _ _ _
          rw [List.length_map, List.take_length] at S₅
          rw [htk, List.flatMap_append, List.flatMap_singleton, vnames_var, List.foldl_append]
          exact S₅.drop rfl
      · have hk : k ≠ "Var" := by simpa using hn
        refine wpAny_execs_nil (wpAny_execs_nil ?_)
        show ST _ _ _ _ _ _ _
        rw [htk, List.flatMap_append, List.flatMap_singleton, vnames_not hk, List.append_nil]
        exact S₄.drop rfl
    · intro s₃ S₃
      rw [List.take_length] at S₃
      exact wpAny_execs_cons (S₃.retOwn rfl (S₃.fin (.head _) fun b m => .tail _ (List.mem_append_right _ m)))

end Mine
namespace Mine
open PySem PySem.W PySem.Calls PySem.Spec PyProof.Rows


def NameOk (x : D) : Prop := ∀ k ln ps, x = .node k ln ps → k = "Name" → ∃ y rest, ps = .str y :: rest
def D.isName (nm : Str) : D → Bool
  | .node k _ (.str y :: _) => k == "Name" && y == nm
  | _ => false
theorem isName_not {nm k : Str} {ln : Int} {ps : List D} (h : k ≠ "Name") : (D.node k ln ps).isName nm = false := by
  cases ps with
  | nil => rfl
  | cons p ps =>
    cases p with
    | str y => rw [D.isName, beq_eq_false_iff_ne.mpr h]; rfl
    | _ => rfl
theorem isDecl_not {k : Str} {ln : Int} {ps : List D} (h : k ≠ "Function") : (D.node k ln ps).isDecl = false := by
  unfold D.isDecl
  split
  · rename_i e
    cases e
    rw [beq_eq_false_iff_ne.mpr h]; rfl
  · rfl
def DeclOk (x : D) : Prop := ∃ ln nm p1 p2 p3 how, x = .node "Function" ln [.str nm, p1, p2, p3, .str how] ∧ PyData.strOk nm = true
theorem decl_of {x : D} (h : FnOk x) (d : x.isDecl = true) : DeclOk x := by
  obtain ⟨k, ln, ps, rfl, hf⟩ := h
  by_cases hk : k = "Function"
  · obtain ⟨nm, p1, p2, p3, how, rfl, ok⟩ := hf hk
    subst hk
    exact ⟨ln, nm, p1, p2, p3, how, rfl, ok⟩
  · rw [isDecl_not hk] at d; cases d
def leftOf : List D → Nat → List D
  | _, 0 => []
  | [], _ => []
  | d :: ds, i + 1 => (if d.fname ∈ ds.map D.fname then [] else [d]) ++ leftOf ds i
/-- of one name the last -/
def lasts : List D → List D
  | [] => []
  | d :: ds => if d.fname ∈ ds.map D.fname then lasts ds else d :: lasts ds
theorem leftOf_step {fs : List D} : ∀ {i : Nat} {x : D}, fs[i]? = some x → leftOf fs (i + 1) = leftOf fs i ++ (if x.fname ∈ (fs.drop (i + 1)).map D.fname then [] else [x]) := by
  induction fs with
  | nil => intro i x h; cases h
  | cons d ds ih =>
    intro i x h
    cases i with
    | zero =>
      have : d = x := by simpa using h
      subst this
      rw [leftOf, leftOf]
      cases ds <;> simp [leftOf]
    | succ i =>
      rw [leftOf, leftOf, ih (by simpa using h), List.append_assoc, List.drop_succ_cons]
theorem leftOf_all (fs : List D) : leftOf fs fs.length = lasts fs := by
  induction fs with
  | nil => rfl
  | cons d ds ih => rw [List.length_cons, leftOf, lasts, ih]; split <;> rfl
theorem leftOf_len (fs : List D) : ∀ i, (leftOf fs i).length ≤ i := by
  induction fs with
  | nil => intro i; cases i <;> simp [leftOf]
  | cons d ds ih =>
    intro i
    cases i with
    | zero => simp [leftOf]
    | succ i => rw [leftOf, List.length_append]; have := ih i; split <;> simp <;> omega
structure BodyOk (ds : List D) : Prop where
  wt : D.wtL ds ≤ 2 ^ 18
  var : ∀ x ∈ D.preL ds, VarOk x
  nam : ∀ x ∈ D.preL ds, NameOk x
  fn : ∀ x ∈ ds, FnOk x
  len : ((D.preL ds).flatMap D.vnames).length ≤ 2 ^ 18
  ok : SsOk ((D.preL ds).flatMap D.vnames)
theorem BodyOk.w {ds : List D} (b : BodyOk ds) : (D.list ds).wt ≤ 2 ^ 19 := by have := b.wt; rw [D.wt]; omega
theorem pre_list (ds : List D) : (D.list ds).pre = D.preL ds := by rw [D.pre]
theorem SsOk.one {x : Str} (h : PyData.strOk x = true) : SsOk [x] := fun y hy => by rw [List.mem_singleton.mp hy]; exact h
theorem fnames_ok {ds : List D} (h : ∀ x ∈ ds, DeclOk x) : SsOk (ds.map D.fname) := fun y hy => by
  obtain ⟨x, hx, rfl⟩ := List.mem_map.mp hy
  obtain ⟨ln, nm, p1, p2, p3, how, rfl, ok⟩ := h x hx
  exact ok
theorem decls_ok {ds : List D} (b : BodyOk ds) : ∀ x ∈ ds.filter D.isDecl, DeclOk x := fun x hx => by
  obtain ⟨h1, h2⟩ := List.mem_filter.mp hx
  exact decl_of (b.fn x h1) h2
section
variable {w : World} {A : Around} {env : Env} {Mu : List Addr} {γ : Gm}
theorem EvT.eqv {e : Expr} {b c : Bool} (h : EvT w A env Mu γ e b) (q : b = c) : EvT w A env Mu γ e c := q ▸ h
theorem Ev.eqv {e : Expr} {b c : D} (h : Ev w A env Mu γ e b) (q : b = c) : Ev w A env Mu γ e c := q ▸ h
theorem EvT.andNo {x y : Expr} {pos : Pos} (h : EvT w A env Mu γ x false) : EvT w A env Mu γ (.BoolOp .And [x, y] pos) false := EvT.and (c := false) h nofun
theorem Ev.andNo {x y : Expr} {pos : Pos} (h : Ev w A env Mu γ x (.bool false)) : Ev w A env Mu γ (.BoolOp .And [x, y] pos) (.bool false) := Ev.and (c := false) h nofun
theorem Ev.fname0 {x : Str} {xp p1 p2 p3 : Pos} {k : Nat} {d : D} (h : DeclOk d) (E : Ev w A env Mu γ (.Name x xp) d) : Ev w A env Mu γ (.Subscript (.Attribute (.Name x xp) "parts" p1) (.Constant (.int 0) k p2) p3) (.str d.fname) := by
  obtain ⟨ln, nm, q1, q2, q3, how, rfl, ok⟩ := h
  exact Ev.item (k := 0) (Ev.parts E) Ev.int (by decide) rfl
end
theorem fdecls_con (w : World) (ds : List D) (b : BodyOk ds) : ConF 1 w 75 [D.list ds] (ds.filter D.isDecl) := by
  intro A Mu s vs hA g mok rs
  obtain ⟨v, rfl, r⟩ := rs.one1
  refine' enter (n := 0) (ds := [D.list ds]) (vs := [v]) (names := ["body"]) hA g mok (.cons r .nil) ?ho ?hcd ?hbind ?hlen ?hnd ?hkind ?hco ?hgen ?hk ?h
  case ho => exact rfl
  case hcd => kernel_rfl
  case hbind => exact rfl
  case hlen => rfl
  case hnd => decide
  case hkind => intro L; rfl
  case hco => rfl
  case hgen => rfl
  case hk => rfl
  case h =>
    intro L s₁ eo hA' sub S
    have hw := b.wt
    have hl := wtL_len ds
    refine wpAny_execs_cons (S.retF (fun b m => sub b m) (EvF.compIf (A := A.deeper _) ds id id D.isDecl (fun a => [("node", .im a)]) [] (EvI.list hA'.hand (Ev.name (d := .list (ds.map id)) (by rw [List.map_id]; rfl)) (by rw [List.length_map]; omega)) rfl (by decide) rfl (by decide) Cap.nil (by show _ ≤ 2 ^ 24; omega) (fun a ha C => Asg.name rfl rfl) (fun a ha C Mu' => ?_) (fun a ha _ C Mu' => Ev.name)) fun v s' h => by simpa using h)
    obtain ⟨k, ln, ps, rfl, hf⟩ := b.fn a ha
    by_cases hk : k = "Function"
    · obtain ⟨nm, p1, p2, p3, how, rfl, ok⟩ := hf hk
      exact EvT.and (EvT.cmp (Ev.kind (Ev.name (d := .node k ln [.str nm, p1, p2, p3, .str how]))) Ev.str Cmp.eqS) fun _ => EvT.cmp (Ev.item (k := 4) (Ev.parts (Ev.name (d := .node k ln [.str nm, p1, p2, p3, .str how]))) Ev.int (by decide) rfl) Ev.str Cmp.eqS
    · rw [isDecl_not hk]
      exact EvT.andNo ((EvT.cmp (Ev.kind (Ev.name (d := .node k ln ps))) Ev.str Cmp.eqS).eqv (beq_eq_false_iff_ne.mpr hk))

end Mine
namespace Mine
open PySem PySem.W PySem.Calls PySem.Spec PyProof.Rows

theorem last_con (w : World) (ds : List D) (b : BodyOk ds) : ConF 2 w 80 [D.list ds] (lasts (ds.filter D.isDecl)) := by
  intro A Mu s vs hA g mok rs
  obtain ⟨v, rfl, r⟩ := rs.one1
  refine' enter (n := 1) (ds := [D.list ds]) (vs := [v]) (names := ["body"]) hA g mok (.cons r .nil) ?ho ?hcd ?hbind ?hlen ?hnd ?hkind ?hco ?hgen ?hk ?h
  case ho => exact rfl
  case hcd => kernel_rfl
  case hbind => exact rfl
  case hlen => rfl
  case hnd => decide
  case hkind => intro L; rfl
  case hco => rfl
  case hgen => rfl
  case hk => rfl
  case h =>
    intro L s₁ eo hA' sub S
    have hw := b.wt
    have hl := wtL_len ds
    have hfl := List.length_filter_le D.isDecl ds
    have hdo := decls_ok b
    have C := fdecls_con w ds b
    generalize ds.filter D.isDecl = fs at hfl hdo C ⊢
    refine wpAny_execs_cons (S.assign (x := "found") (EvF.ev (EvF.call (x := "function_decls") (ds := [.list ds]) C hA' eo (EvS.cons (Ev.name (d := .list ds)) EvS.nil))) fun s₂ S₂ => ?_)
    refine wpAny_execs_cons (S₂.own1 (x := "left") (ds := []) (EvF.list EvS.nil) fun a s₃ ha _ S₃ => ?_)
    refine wpAny_execs_cons ((S₃.ownEq (own' := [(a, .ls (leftOf fs 0))]) (by cases fs <;> rfl)).loop2 (x := "at") (y := "node") (enD fs) (fun _ => [("left", .raw (.ref a)), ("found", .im (.list fs)), ("body", .im (.list ds))]) (fun i => [(a, .ls (leftOf fs i))]) hA'.hand (EvI.enum hA'.hand eo (Ev.name (d := .list fs)) (by omega)) (fun _ => rfl) ?_ ?_)
    · intro i dd x Mu' io s₄ hx hsub hdis S₄
      obtain ⟨hdd, hy⟩ : dd = .int i ∧ fs[i]? = some x := by
        unfold enD at hx
        rw [List.getElem?_map, List.getElem?_zipIdx] at hx
        cases q : fs[i]? with
        | none => rw [q] at hx; cases hx
        | some z => rw [q] at hx; simp at hx; exact ⟨hx.1.symm, by rw [hx.2]⟩
      subst hdd
      have hmem := mem_of_get hy
      have hd := hdo x hmem
      have hdrop : ∀ z ∈ fs.drop (i + 1), DeclOk z := fun z hz => hdo z (List.mem_of_mem_drop hz)
      have hxo : PyData.strOk x.fname = true := by obtain ⟨ln, nm, p1, p2, p3, how, rfl, ok⟩ := hd; exact ok
      have hlo := leftOf_len fs i
      have hil : i < fs.length := (List.getElem?_eq_some_iff.mp hy).1
      have hdl : (fs.drop (i + 1)).length ≤ fs.length := by rw [List.length_drop]; omega
      refine wpAny_execs_cons (S₄.ifs (b := !decide (x.fname ∈ (fs.drop (i + 1)).map D.fname)) (EvT.cmp (Ev.fname0 hd (Ev.name (d := x))) ((EvF.ev (EvF.compMap (fs.drop (i + 1)) id (fun z => .str z.fname) (fun z => [("other", .im z)]) [] (EvI.list hA'.hand (EvF.ev (EvF.slice (es := (fs.drop (i + 1)).map id) (Ev.name (d := .list fs)) (EvPt.some (i := ((i + 1 : Nat) : Int)) (Ev.bin (Ev.name (d := .int i)) Ev.int Bin.addI)) EvPt.none EvPt.none (by rw [List.map_id]; exact Picks.from (i + 1)) (by decide) (by show _ ≤ 2 ^ 24; omega))) (by rw [List.length_map]; omega)) rfl (by decide) rfl (by decide) Cap.nil (by show _ ≤ 2 ^ 24; omega) (fun z hz C => Asg.name rfl rfl) (fun z hz C Mu' => Ev.fname0 (hdrop z hz) (Ev.name (d := z))))).eqv (by rw [List.map_map]; rfl)) (Cmp.notInS hA' hxo (fnames_ok hdrop))) (fun hn s₅ S₅ => ?_) fun hn s₅ S₅ => ?_)
      · have hn' : ¬ x.fname ∈ (fs.drop (i + 1)).map D.fname := by simpa using hn
        have S₅' := S₅.sub (own' := (a, .ls (leftOf fs i)) :: (io ++ [])) perm_own
        refine wpAny_execs_cons (S₅'.append (e := .Name "node" _) rfl (Ev.name (d := x)) (fun q hq => ?_) (by show _ ≤ 2 ^ 24; omega) fun s₆ S₆ => wpAny_execs_nil (wpAny_execs_nil ?_))
        · rw [List.append_nil] at hq
          exact hdis (a, _) (.head _) q hq
        · show ST _ _ _ _ _ _ _
          rw [leftOf_step hy, if_neg hn']
          exact ((S₆.drop rfl).drop rfl).sub perm_own'
      · have hn' : x.fname ∈ (fs.drop (i + 1)).map D.fname := by simpa using hn
        refine wpAny_execs_nil (wpAny_execs_nil ?_)
        show ST _ _ _ _ _ _ _
        rw [leftOf_step hy, if_pos hn', List.append_nil]
        exact (S₅.drop rfl).drop rfl
    · intro s₄ S₄
      have e : (enD fs).length = fs.length := by simp [enD]
      rw [e, leftOf_all] at S₄
      exact wpAny_execs_cons (S₄.retOwn rfl (S₄.fin (.head _) fun b m => .tail _ (List.mem_append_right _ m)))

theorem named_con (w : World) (ds : List D) (nm : Str) (b : BodyOk ds) : Con 4 w 85 [D.list ds, D.str nm] (.bool ((D.preL ds).any (D.isName nm))) := by
  intro A Mu s vs hA g mok rs
  obtain ⟨v, u, rfl, r, r'⟩ := rs.two2
  refine' enter (n := 3) (ds := [D.list ds, D.str nm]) (vs := [v, u]) (names := ["body", "name"]) hA g mok (.cons r (.cons r' .nil)) ?ho ?hcd ?hbind ?hlen ?hnd ?hkind ?hco ?hgen ?hk ?h
  case ho => exact rfl
  case hcd => kernel_rfl
  case hbind => exact rfl
  case hlen => rfl
  case hnd => decide
  case hkind => intro L; rfl
  case hco => rfl
  case hgen => rfl
  case hk => rfl
  case h =>
    intro L s₁ eo hA' sub S
    have hw := b.wt
    have hl := preL_len ds
    refine wpAny_execs_cons (S.retD (fun b m => sub b m) ((Ev.bi (CB.any (bs := (D.preL ds).map (D.isName nm)) hA'.hand) eo (EvS.cons ((EvF.ev (EvF.compMap (D.preL ds) id (fun z => .bool (z.isName nm)) (fun z => [("node", .im z)]) [("name", .im (.str nm))] (EvI.list hA'.hand (EvF.ev (EvF.call (x := "own_nodes") (ds := [.list ds]) (es := (D.preL ds).map id) (by rw [List.map_id, ← pre_list]; exact own_con w (.list ds) b.w) hA' eo (EvS.cons (Ev.name (d := .list ds)) EvS.nil))) (by rw [List.length_map]; omega)) rfl (by decide) rfl (by decide) ?_ (by show _ ≤ 2 ^ 24; omega) (fun z hz C => Asg.name rfl rfl) (fun z hz C Mu' => ?_))).eqv (by rw [List.map_map]; rfl)) EvS.nil)).eqv (by rw [List.any_map]; rfl)) fun v s' h => h)
    · intro p hp
      rw [List.mem_singleton.mp hp]
      exact ⟨rfl, rfl, rfl, rfl⟩
    · obtain ⟨k, ln, ps, rfl⟩ := isNode_ex (preL_nodes ds z hz)
      by_cases hk : k = "Name"
      · obtain ⟨y, rest, rfl⟩ := b.nam _ hz k ln ps rfl hk
        exact Ev.and (Ev.cmp (Ev.kind (Ev.name (d := .node k ln (.str y :: rest)))) Ev.str Cmp.eqS) fun _ => Ev.cmp (Ev.item (k := 0) (Ev.parts (Ev.name (d := .node k ln (.str y :: rest)))) Ev.int (by decide) rfl) (Ev.name (d := .str nm)) Cmp.eqS
      · rw [isName_not hk]
        exact Ev.andNo ((Ev.cmp (Ev.kind (Ev.name (d := .node k ln ps))) Ev.str Cmp.eqS).eqv (congrArg _ (beq_eq_false_iff_ne.mpr hk)))

end Mine
namespace Mine
open PySem PySem.W PySem.Calls PySem.Spec PyProof.Rows

section
variable {w : World} {A : Around} {env : Env} {Mu : List Addr} {γ : Gm}
theorem ST.onceLoop {α : Type} {s s₀ : Shared} {own : Ow} {n : Nat} {a : Addr} {ss : List Str} {x y : Str} {xp yp fp cp ep pos : Pos} {iter e : Expr} {Q : Flow → Shared → Prop} (l : List α) (g : α → D) (nm : α → Str) (S : ST w s₀ env Mu γ ((a, .ls (ss.map .str)) :: own) s) (hA : Aok (n + 1) A) (eo : EnvOk env)
    (hit : EvI w A env Mu γ (.Name x xp) iter (l.map g)) (E : ∀ z ∈ l, ∀ Mu', Ev w A env Mu' ((x, .im (g z)) :: γ) e (.str (nm z))) (hn : ∀ p ∈ own, p.1 ≠ a) (hok : SsOk (l.map nm)) (hoks : SsOk ss) (hz : ss.length + l.length ≤ 2 ^ 20)
    (k : ∀ s', ST w s₀ env Mu γ ((a, .ls (((l.map nm).foldl once ss).map .str)) :: own) s' → Q .next s')
    (hy : ∀ g, List.lookup y ((x, g) :: γ) = some (.raw (.ref a)) := by intro _; rfl) (hxn : γ.lookup x = none := by rfl) (hk : Kd env x := by first | exact .inl rfl | exact .inr ⟨rfl, _, rfl⟩)
    (hl : env.kindOf "add_once" = some .globalImplicit := by rfl) (hd : (y == ("__debug__" : Str)) = false := by decide)
    (he : starEach (.Name y yp :: [e]) env = (false, eval (.Name y yp) env) :: starEach [e] env := by rfl) (he' : starEach (e :: []) env = (false, eval e env) :: starEach [] env := by rfl) (hp : (backTo cp (starEach [e] env)).any (·.1) = false := by rfl)
    (hi : interactive env = false := by rfl) (hs : swapsWith (.Call (.Name "add_once" fp) [.Name y yp, e] [] cp) none ep.line env = pure false := by rfl) (hf : ∀ x, foldedSetIterable iter env x = pure x := by intro _; rfl) :
    wpAny (MM w) A (exec (.For (.Name x xp) iter [.Expr (.Call (.Name "add_once" fp) [.Name y yp, e] [] cp) ep] [] pos) env) Q NoE s := by
  refine (S.ownEq (own' := (a, .ls ((((l.take 0).map nm).foldl once ss).map .str)) :: own) rfl).loop1 (x := x) (l.map g) (fun _ => γ) (fun i => (a, .ls ((((l.take i).map nm).foldl once ss).map .str)) :: own) hit (fun _ => rfl) ?_ ?_ hk hf
  · intro i d Mu' io s₁ hx hsub hdis S₁
    rw [List.getElem?_map] at hx
    obtain ⟨z, hz', rfl⟩ := Option.map_eq_some_iff.mp hx
    have hm := mem_of_get hz'
    have hlen := onces_len ((l.take i).map nm) ss
    rw [List.length_map, List.length_take] at hlen
    refine wpAny_execs_cons ((S₁.sub (own' := (a, .ls ((((l.take i).map nm).foldl once ss).map .str)) :: (io ++ own)) perm_own).addOnce hA eo (hy _) (E z hm _) (fun q hq => ?_) (hok _ (List.mem_map_of_mem hm)) (onces_ok _ _ hoks fun q hq => hok q ?_) (by show _ ≤ 2 ^ 24; omega) (fun s₂ S₂ => wpAny_execs_nil ?_) hl hd he he' hp hi hs)
    · rcases List.mem_append.mp hq with hq | hq
      · exact hdis (a, _) (.head _) q hq
      · exact hn q hq
    · obtain ⟨z', h1, rfl⟩ := List.mem_map.mp hq
      exact List.mem_map_of_mem (List.mem_of_mem_take h1)
    · show ST _ _ _ _ _ _ _
      rw [take_succ_of hz', List.map_append, List.foldl_append]
      exact (S₂.drop hxn).sub perm_own'
  · intro s₁ S₁
    rw [List.length_map, List.take_length] at S₁
    exact k s₁ S₁
theorem ST.ifOnce {s s₀ : Shared} {own : Ow} {n : Nat} {a : Addr} {ss : List Str} {x nm : Str} {b : Bool} {xp fp cp ep pos : Pos} {t e : Expr} {Q : Flow → Shared → Prop} (S : ST w s₀ env Mu γ ((a, .ls (ss.map .str)) :: own) s) (hA : Aok (n + 1) A) (eo : EnvOk env) (T : EvT w A env Mu γ t b) (hx : γ.lookup x = some (.raw (.ref a))) (E : Ev w A env Mu γ e (.str nm)) (hn : ∀ p ∈ own, p.1 ≠ a)
    (hok : PyData.strOk nm = true) (hoks : SsOk ss) (hz : ss.length ≤ sizeLine) (k : ∀ s', ST w s₀ env Mu γ ((a, .ls (((if b then [nm] else []).foldl once ss).map .str)) :: own) s' → Q .next s')
    (hl : env.kindOf "add_once" = some .globalImplicit := by rfl) (hd : (x == ("__debug__" : Str)) = false := by decide)
    (he : starEach (.Name x xp :: [e]) env = (false, eval (.Name x xp) env) :: starEach [e] env := by rfl) (he' : starEach (e :: []) env = (false, eval e env) :: starEach [] env := by rfl) (hp : (backTo cp (starEach [e] env)).any (·.1) = false := by rfl)
    (hi : interactive env = false := by rfl) (hs : swapsWith (.Call (.Name "add_once" fp) [.Name x xp, e] [] cp) none ep.line env = pure false := by rfl) :
    wpAny (MM w) A (exec (.If t [.Expr (.Call (.Name "add_once" fp) [.Name x xp, e] [] cp) ep] [] pos) env) Q NoE s :=
  S.ifs T (fun hb s₁ S₁ => wpAny_execs_cons (S₁.addOnce hA eo hx E hn hok hoks hz (fun s₂ S₂ => wpAny_execs_nil (k s₂ (by rw [if_pos hb]; exact S₂))) hl hd he he' hp hi hs)) fun hb s₁ S₁ => wpAny_execs_nil (k s₁ (by rw [if_neg (by rw [hb]; decide)]; exact S₁))
end
def needsD (ps : List Str) (ds : List D) : Bool :=
  if ("arguments" : Str) ∈ ps ∨ ("arguments" : Str) ∈ (ds.filter D.isDecl).map D.fname then false
  else (D.preL ds).any (D.isName "arguments") || decide (("arguments" : Str) ∈ (((D.preL ds).flatMap D.vnames).foldl once []))
theorem argsOk_str : PyData.strOk "arguments" = true := by decide +kernel
theorem nil_ok : SsOk [] := fun _ h => nomatch h
theorem needs_con (w : World) (ps : List Str) (ds : List D) (hps : SsOk ps) (b : BodyOk ds) : Con 5 w 90 [D.list (ps.map .str), D.list ds] (.bool (needsD ps ds)) := by
  intro A Mu s vs hA g mok rs
  obtain ⟨v, u, rfl, r, r'⟩ := rs.two2
  refine' enter (n := 4) (ds := [D.list (ps.map .str), D.list ds]) (vs := [v, u]) (names := ["params", "body"]) hA g mok (.cons r (.cons r' .nil)) ?ho ?hcd ?hbind ?hlen ?hnd ?hkind ?hco ?hgen ?hk ?h
  case ho => exact rfl
  case hcd => kernel_rfl
  case hbind => exact rfl
  case hlen => rfl
  case hnd => decide
  case hkind => intro L; rfl
  case hco => rfl
  case hgen => rfl
  case hk => rfl
  case h =>
    intro L s₁ eo hA' sub S
    have hw := b.wt
    have hl := wtL_len ds
    have hfl := List.length_filter_le D.isDecl ds
    have hdo := decls_ok b
    have hvo : SsOk (((D.preL ds).flatMap D.vnames).foldl once []) := onces_ok _ _ nil_ok b.ok
    have hv : ConF 4 w 70 [D.list ds] ((((D.preL ds).flatMap D.vnames).foldl once []).map .str) := by
      have := vars_con w (.list ds) b.w (by rw [pre_list]; exact b.var) (by rw [pre_list]; have := b.len; omega) (by rw [pre_list]; exact b.ok)
      rwa [pre_list] at this
    have hc := fdecls_con w ds b
    unfold needsD
    generalize ds.filter D.isDecl = fs at hfl hdo hc ⊢
    refine wpAny_execs_cons (S.ifs (b := decide (("arguments" : Str) ∈ ps) || decide (("arguments" : Str) ∈ fs.map D.fname)) (EvT.or (EvT.cmp Ev.str (Ev.name (d := .list (ps.map .str))) (Cmp.inS hA' argsOk_str hps)) fun _ => EvT.cmp Ev.str ((EvF.ev (EvF.compMap fs id (fun z => .str z.fname) (fun z => [("node", .im z)]) [] (EvI.list hA'.hand (EvF.ev (EvF.call (x := "function_decls") (ds := [.list ds]) (es := fs.map id) (by rw [List.map_id]; exact hc.less (by omega)) hA' eo (EvS.cons (Ev.name (d := .list ds)) EvS.nil))) (by rw [List.length_map]; omega)) rfl (by decide) rfl (by decide) Cap.nil (by show _ ≤ 2 ^ 24; omega) (fun z hz C => Asg.name rfl rfl) (fun z hz C Mu' => Ev.fname0 (hdo z hz) (Ev.name (d := z))))).eqv (by rw [List.map_map]; rfl)) (Cmp.inS hA' argsOk_str (fnames_ok hdo))) (fun hn s₂ S₂ => ?_) fun hn s₂ S₂ => ?_)
    · rw [if_pos (by simpa using hn)]
      exact wpAny_execs_cons (S₂.retD (fun b m => sub b m) Ev.bool fun v s' h => h)
    · rw [if_neg (by simpa using hn)]
      refine wpAny_execs_nil ?_
      exact wpAny_execs_cons (S₂.retD (fun b m => sub b m) (Ev.or (Ev.call (x := "named_in") (ds := [.list ds, .str "arguments"]) (named_con w ds "arguments" b) hA' eo (EvS.cons (Ev.name (d := .list ds)) (EvS.cons Ev.str EvS.nil))) fun _ => Ev.cmp Ev.str (EvF.ev (EvF.call (x := "var_names") (ds := [.list ds]) hv hA' eo (EvS.cons (Ev.name (d := .list ds)) EvS.nil))) (Cmp.inS hA' argsOk_str hvo)) fun v s' h => h)

def bindD (ps : List Str) (ds : List D) : List Str :=
  (((D.preL ds).flatMap D.vnames).foldl once []).foldl once ((if needsD ps ds then [("arguments" : Str)] else []).foldl once (((ds.filter D.isDecl).map D.fname).foldl once (ps.foldl once [])))
theorem bind_con (w : World) (ps : List Str) (ds : List D) (hps : SsOk ps) (hpl : ps.length ≤ 2 ^ 16) (b : BodyOk ds) : ConF 6 w 97 [D.list (ps.map .str), D.list ds] ((bindD ps ds).map .str) := by
  intro A Mu s vs hA g mok rs
  obtain ⟨v, u, rfl, r, r'⟩ := rs.two2
  refine' enter (n := 5) (ds := [D.list (ps.map .str), D.list ds]) (vs := [v, u]) (names := ["params", "body"]) hA g mok (.cons r (.cons r' .nil)) ?ho ?hcd ?hbind ?hlen ?hnd ?hkind ?hco ?hgen ?hk ?h
  case ho => exact rfl
  case hcd => kernel_rfl
  case hbind => exact rfl
  case hlen => rfl
  case hnd => decide
  case hkind => intro L; rfl
  case hco => rfl
  case hgen => rfl
  case hk => rfl
  case h =>
    intro L s₁ eo hA' sub S
    have hw := b.wt
    have hl := wtL_len ds
    have hvl := b.len
    have hfl := List.length_filter_le D.isDecl ds
    have hdo := decls_ok b
    have hvo : SsOk (((D.preL ds).flatMap D.vnames).foldl once []) := onces_ok _ _ nil_ok b.ok
    have hvl2 := onces_len ((D.preL ds).flatMap D.vnames) []
    have hv : ConF 4 w 70 [D.list ds] ((((D.preL ds).flatMap D.vnames).foldl once []).map .str) := by
      have := vars_con w (.list ds) b.w (by rw [pre_list]; exact b.var) (by rw [pre_list]; have := b.len; omega) (by rw [pre_list]; exact b.ok)
      rwa [pre_list] at this
    have hc := fdecls_con w ds b
    have hn := needs_con w ps ds hps b
    unfold bindD
    generalize needsD ps ds = nd at hn ⊢
    generalize ds.filter D.isDecl = fs at hfl hdo hc ⊢
    generalize (((D.preL ds).flatMap D.vnames).foldl once []) = vs at hvo hv hvl2 ⊢
    simp only [List.length_nil] at hvl2
    have ok1 : SsOk (ps.foldl once []) := onces_ok _ _ nil_ok hps
    have ok2 : SsOk ((fs.map D.fname).foldl once (ps.foldl once [])) := onces_ok _ _ ok1 (fnames_ok hdo)
    have l1 := onces_len ps []
    have l2 := onces_len (fs.map D.fname) (ps.foldl once [])
    simp only [List.length_nil, List.length_map] at l1 l2
    refine wpAny_execs_cons (S.own1 (x := "found") (ds := []) (EvF.list EvS.nil) fun a s₂ ha _ S₂ => ?_)
    refine wpAny_execs_cons (ST.onceLoop (y := "found") (ss := []) ps D.str id S₂ hA' eo (EvI.list hA'.hand (Ev.name (d := .list (ps.map .str))) (by rw [List.length_map]; omega)) (fun z hz Mu' => Ev.name) (fun p hp => nomatch hp) (by rw [List.map_id]; exact hps) nil_ok (by simp only [List.length_nil]; omega) fun s₃ S₃ => ?_)
    rw [List.map_id] at S₃
    refine wpAny_execs_cons (ST.onceLoop (y := "found") fs id D.fname S₃ hA' eo (EvI.list hA'.hand (EvF.ev (EvF.call (x := "function_decls") (ds := [.list ds]) (es := fs.map id) (by rw [List.map_id]; exact hc.less (by omega)) hA' eo (EvS.cons (Ev.name (d := .list ds)) EvS.nil))) (by rw [List.length_map]; omega)) (fun z hz Mu' => Ev.fname0 (hdo z hz) (Ev.name (d := z))) (fun p hp => nomatch hp) (fnames_ok hdo) ok1 (by omega) fun s₄ S₄ => ?_)
    refine wpAny_execs_cons (ST.ifOnce (x := "found") (b := nd) (ss := (fs.map D.fname).foldl once (ps.foldl once [])) S₄ hA' eo (EvT.plain (Ev.call (x := "needs_arguments") (ds := [.list (ps.map .str), .list ds]) hn hA' eo (EvS.cons (Ev.name (d := .list (ps.map .str))) (EvS.cons (Ev.name (d := .list ds)) EvS.nil)))) rfl Ev.str (fun p hp => nomatch hp) argsOk_str ok2 (by show _ ≤ 2 ^ 24; omega) fun s₅ S₅ => ?_)
    have ok3 : SsOk ((if nd = true then [("arguments" : Str)] else []).foldl once ((fs.map D.fname).foldl once (ps.foldl once []))) := onces_ok _ _ ok2 (by split; exact SsOk.one argsOk_str; exact nil_ok)
    have l3 := onces_len (if nd = true then [("arguments" : Str)] else []) ((fs.map D.fname).foldl once (ps.foldl once []))
    have l4 : (if nd = true then [("arguments" : Str)] else []).length ≤ 1 := by split <;> simp
    refine wpAny_execs_cons (ST.onceLoop (y := "found") vs D.str id S₅ hA' eo (EvI.list hA'.hand (EvF.ev (EvF.call (x := "var_names") (ds := [.list ds]) (hv.less (by omega)) hA' eo (EvS.cons (Ev.name (d := .list ds)) EvS.nil))) (by rw [List.length_map]; omega)) (fun z hz Mu' => Ev.name) (fun p hp => nomatch hp) (by rw [List.map_id]; exact hvo) ok3 (by omega) fun s₆ S₆ => ?_)
    rw [List.map_id] at S₆
    exact wpAny_execs_cons (S₆.retOwn rfl (S₆.fin (.head _) fun b m => .tail _ (List.mem_append_right _ m)))

end Mine
namespace Mine
open PySem PySem.W PySem.Calls PySem.Spec PyProof.Rows

def rest2 (h : Heap) (a b : Addr) : List (Addr × Obj) := (List.range h.objs.size).filterMap fun c => if c = a ∨ c = b then none else (h.get? c).map fun o => (c, o)
theorem mem_rest2 {h : Heap} {a b c : Addr} {o : Obj} : (c, o) ∈ rest2 h a b ↔ c ≠ a ∧ c ≠ b ∧ h.get? c = some o := by
  unfold rest2
  rw [List.mem_filterMap]
  constructor
  · rintro ⟨d, _, hd⟩
    split at hd
    · cases hd
    · rename_i hn
      obtain ⟨o', e, q⟩ := Option.map_eq_some_iff.mp hd
      cases q
      exact ⟨fun z => hn (.inl z), fun z => hn (.inr z), e⟩
  · rintro ⟨h1, h2, h3⟩
    exact ⟨c, List.mem_range.mpr (Heap.lt_size h3), by rw [if_neg (by rintro (z | z); exact h1 z; exact h2 z), h3]; rfl⟩
section
variable {h₀ h h' : Heap} {env : Env} {Mu : List Addr} {γ : Gm} {own : Ow}
theorem FS.turnL {os os' : Ow} {m cm : Str → Option Value} (S : FS h₀ env Mu γ (os ++ own) h) (F : Fq h₀ env.locals h m) (C : Cq h₀ env.locals env.cells h cm) (V : ∀ x g, γ.lookup x = some g → ∃ v, g.Is (vw h Mu) v ∧ ((env.kindOf x = some .local ∧ m x = some v) ∨ (env.kindOf x = some .cell ∧ (∃ c, env.cells.lookup x = some c) ∧ cm x = some v))) (k : ∀ c o, c ∉ os.map (·.1) → c ≠ env.locals → h.get? c = some o → h'.get? c = some o) (hL : h'.Ns env.locals m) (ho : ∀ p ∈ os', p.2.At (vw h' Mu) h' p.1) (hk : os'.map (·.1) = os.map (·.1)) (hd : ∀ p ∈ own, p.1 ∉ os.map (·.1)) :
    FS h₀ env Mu γ (os' ++ own) h' := by
  have key : ∀ c ∈ os.map (·.1), c ∈ Mu ∧ c ≠ env.locals ∧ (∀ x b, env.cells.lookup x = some b → b ≠ c) ∧ h₀.get? c = none := fun c hc => by
    obtain ⟨p, hp, rfl⟩ := List.mem_map.mp hc
    exact (S.own p (List.mem_append_left _ hp)).2
  have sub : Sub (vw h Mu) (vw h' Mu) := fun c o e => vw_in (k _ _ (fun m => vw_out e (key c m).1) (fun q => vw_out e (q ▸ S.loc)) (vw_get e)) (vw_out e)
  refine ⟨⟨m, cm, ⟨hL, fun c o e => k _ _ (fun m => by rw [(key c m).2.2.2] at e; cases e) (fun q => by rw [q, F.above] at e; cases e) (F.keep c o e), F.above⟩, ⟨fun n c e => ?_, C.apart, C.above⟩, fun x g e => ?_⟩, S.kind, S.loc, S.cel, fun c hc => ?_, fun p hp => ?_⟩
  · obtain ⟨o, q, r⟩ := C.cell n c e
    exact ⟨o, k _ _ (fun m => (key _ m).2.2.1 n c e rfl) (Ne.symm (C.above n c (mem_of_lookup e)).1) q, r⟩
  · obtain ⟨v, a, b⟩ := V x g e
    exact ⟨v, a.mono sub, b⟩
  · by_cases hc' : c ∈ os.map (·.1)
    · rw [← hk] at hc'
      obtain ⟨p, hp, rfl⟩ := List.mem_map.mp hc'
      exact (ho p hp).there
    · by_cases hl : c = env.locals
      · obtain ⟨o, _, _, e, _⟩ := hL
        exact ⟨o, hl ▸ e⟩
      · obtain ⟨o, e⟩ := S.mok c hc
        exact ⟨o, k _ _ hc' hl e⟩
  · rcases List.mem_append.mp hp with hp | hp
    · have : p.1 ∈ os.map (·.1) := hk ▸ List.mem_map_of_mem hp
      exact ⟨ho p hp, key _ this⟩
    · obtain ⟨q1, q2⟩ := S.own p (List.mem_append_right _ hp)
      exact ⟨q1.move sub fun o e => k _ _ (hd p hp) q2.2.1 e, q2⟩
end
section
variable {w : World} {A : Around} {s₀ s s' : Shared} {env : Env} {Mu : List Addr} {γ : Gm} {own : Ow}
theorem node_set (w : World) (x : Str) (h : x = "kind" ∨ x = "line" ∨ x = "parts" ∨ x = "scope") : takerIn (KK w) 31 x = some none := by
  rcases h with rfl | rfl | rfl | rfl <;> kernel_rfl
theorem node_setter (w : World) : findIn (KK w) (.ref 31) "__setattr__" = some (some (.builtin "object.__setattr__")) ∧ plainOver (KK w) 31 = true ∧ (clsIn (KK w) 31).any (·.hasDict) = true := ⟨by kernel_rfl, by kernel_rfl, by kernel_rfl⟩
theorem ST.setA {x dx : Addr} {es : List DictEntry} {n : Nat} {nm : Str} {v : Value} {Q : Unit → Shared → Prop} (S : ST w s₀ env Mu γ ((dx, .ob (dictOf es n)) :: (x, .ob (instObj 31 dx)) :: own) s) (hx : nm = "kind" ∨ nm = "line" ∨ nm = "parts" ∨ nm = "scope") (hl : (getL nm es).isSome = true) (hne : ∀ p ∈ (x, OB.ob (instObj 31 dx)) :: own, p.1 ≠ dx)
    (hz : ∀ t, (putL nm (PyData.keyHash w.params nm) (.str nm t) v es).length ≤ 1000)
    (k : ∀ t s', ST w s₀ env Mu γ ((dx, .ob (dictOf (putL nm (PyData.keyHash w.params nm) (.str nm t) v es) (putN nm es n))) :: (x, .ob (instObj 31 dx)) :: own) s' → Q () s') : wpAny (MM w) A (setAttr (.ref x) nm v) Q NoE s := by
  obtain ⟨p1, p2, p3⟩ := node_setter w
  have hdx : s.heap.get? dx = some (dictOf es n) := (S.fs.own _ (.head _)).1
  have hix : s.heap.get? x = some (instObj 31 dx) := (S.fs.own _ (.tail _ (.head _))).1
  have hdL := (S.fs.own _ (.head _)).2.2.1
  obtain ⟨m, cm, F, C, V⟩ := S.fs.ex
  have I : W.InstAt s.heap x (instObj 31 dx) 31 (some (dictOf es n)) := ⟨hix, rfl, rfl, hdx⟩
  have emp : ∀ b, (⟨#[], s.heap.life⟩ : Heap).get? b = none := fun b => by unfold Heap.get?; simp
  have F0 : Fr ⟨#[], s.heap.life⟩ env.locals s.heap m := ⟨F.ns, fun b o e => (by rw [emp] at e; cases e), Nat.zero_le _⟩
  refine set_plain (K := KK w) S.g.X I p1 ?_
  refine osa_dict (K := KK w) (s := { s with toks := s.toks + 1 }) (h₀ := ⟨#[], s.heap.life⟩) (L := env.locals) (m := m) (pre := []) (post := rest2 s.heap dx env.locals) F0 (fun p hp => ?_) S.g.X I rfl p2 (node_set w nm hx) p3 (by rw [lookIn_dict]; exact hl) (fun p hp => nomatch hp) (fun p hp => (mem_rest2.mp hp).1) (putName_dict ..) rfl (hz _) fun h' F' N' => ?_
  · rcases List.mem_cons.mp hp with rfl | hp
    · exact ⟨hdx, hdL, emp _⟩
    · obtain ⟨a1, a2, a3⟩ := mem_rest2.mp hp
      exact ⟨a3, a2, emp _⟩
  · refine k (s.toks + 1) _ ?_
    obtain ⟨hh, tt, et⟩ := S.same
    refine ⟨⟨h', _, by rw [et]⟩, ?_, S.gl⟩
    refine S.fs.turnL (os := [(dx, .ob (dictOf es n))]) (os' := [(dx, .ob _)]) F C V (fun c o h1 h2 e => ?_) F'.ns (fun p hp => ?_) rfl fun p hp q => hne p hp (List.mem_singleton.mp q)
    · exact (N' (c, o) (.tail _ (mem_rest2.mpr ⟨fun q => h1 (by rw [q]; exact .head _), h2, e⟩))).1
    · rw [List.mem_singleton.mp hp]
      exact (N' _ (.head _)).1
end
theorem Aok.under {n : Nat} {A : Around} {C : Addr} {rest : List Value} (a : Aok (n + 1) A) : Aok n (A.under (.builtin "type.__call__" ⟨.ref C :: rest, []⟩)) := by
  have e1 : (Code.builtin "type.__call__" ⟨.ref C :: rest, []⟩).weight = 1 := by kernel_rfl
  have e2 : (Code.builtin "type.__call__" ⟨.ref C :: rest, []⟩).cUnits = 1 := by kernel_rfl
  refine ⟨a.hand, ?_, ?_⟩
  · have := a.depth
    show A.depth + (Code.builtin "type.__call__" ⟨.ref C :: rest, []⟩).weight + n < 900
    rw [e1]; omega
  · have := a.units
    show A.units + (Code.builtin "type.__call__" ⟨.ref C :: rest, []⟩).cUnits + 100 * n < 9000
    rw [e2]; omega
section
variable {w : World} {A : Around} {env : Env} {Mu : List Addr} {γ : Gm}
theorem node_call {s : Shared} {n : Nat} {u v t : Value} {k : Str} {ln : Int} {ps : List D} {Q : Value → Shared → Prop} (hA : Aok (n + 2) A) (g : Gl w s.heap) (mok : ∀ a ∈ Mu, ∃ o, s.heap.get? a = some o) (r1 : Rp (vw s.heap Mu) u (.str k)) (r2 : Rp (vw s.heap Mu) v (.int ln)) (r3 : Rp (vw s.heap Mu) t (.list ps))
    (h : ∀ v s', Keeps s s' → Rp (vw s'.heap Mu) v (.node k ln ps) → Q v s') : wpAny (MM w) A (call (.ref 31) [u, v, t]) Q NoE s := by
  refine wpAny_call ?_
  obtain ⟨hh, gg, dd, tt, os⟩ := s
  refine make_core (makes_of g.X (by kernel_rfl)) (looks_findIn g.X (r := some (.ref 28)) (by kernel_rfl)) (fun self => bind_fn g.X self (by kernel_rfl)) (.inl rfl) ?_
  have kp : Ext hh ((hh.push emptyDict).push (instObj 31 hh.objs.size)) := fun b o e => Heap.get?_push_of_some _ (Heap.get?_push_of_some _ e)
  have hx : ((hh.push emptyDict).push (instObj 31 hh.objs.size)).get? (hh.objs.size + 1) = some (instObj 31 hh.objs.size) := by
    have := Heap.get?_push_size (hh.push emptyDict) (o := instObj 31 hh.objs.size) rfl
    rwa [Heap.size_push] at this
  have hd : ((hh.push emptyDict).push (instObj 31 hh.objs.size)).get? hh.objs.size = some (dictOf [] 0) := Heap.get?_push_of_some _ (Heap.get?_push_size _ rfl)
  have f0 : hh.get? hh.objs.size = none := fresh_size
  have f1 : hh.get? (hh.objs.size + 1) = none := by
    cases z : hh.get? (hh.objs.size + 1) with
    | none => rfl
    | some o => exact absurd (Heap.lt_size z) (Nat.not_lt.mpr (Nat.le_succ _))
  generalize hDx : hh.objs.size = dx at *
  generalize hX : dx + 1 = x at *
  have hne : x ≠ dx := by omega
  have sub : Sub (vw hh Mu) (vw ((hh.push emptyDict).push (instObj 31 dx)) (dx :: x :: Mu)) := fun b o e => vw_in (kp b o (vw_get e)) fun m => by
    rcases List.mem_cons.mp m with rfl | m
    · have := vw_get e; rw [f0] at this; cases this
    · rcases List.mem_cons.mp m with rfl | m
      · have := vw_get e; rw [f1] at this; cases this
      · exact vw_out e m
  refine' enterC (n := n) (s₀ := ⟨hh, gg, dd, tt, os⟩) (Mu := dx :: x :: Mu) (own := [(dx, .ob (dictOf [] 0)), (x, .ob (instObj 31 dx))]) (gs := [.raw (.ref x), .raw u, .raw v, .raw t]) (names := ["self", "kind", "line", "parts"]) hA.under.room hA.under g ⟨_, tt, rfl⟩ kp ?mok ?hown (.cons rfl (.cons rfl (.cons rfl (.cons rfl .nil)))) ?ho ?hcd ?hbind ?hlen ?hnd ?hkind ?hco ?hgen ?hk ?body
  case ho => exact rfl
  case mok =>
    intro b hb
    rcases List.mem_cons.mp hb with rfl | hb
    · exact ⟨_, hd⟩
    · rcases List.mem_cons.mp hb with rfl | hb
      · exact ⟨_, hx⟩
      · obtain ⟨o, e⟩ := mok b hb
        exact ⟨o, kp _ _ e⟩
  case hown =>
    intro p hp
    rcases List.mem_cons.mp hp with rfl | hp
    · exact ⟨hd, .head _, f0⟩
    · rw [List.mem_singleton.mp hp]
      exact ⟨hx, .tail _ (.head _), f1⟩
  case hcd => kernel_rfl
  case hbind => exact rfl
  case hlen => rfl
  case hnd => decide
  case hkind => intro L; rfl
  case hco => rfl
  case hgen => rfl
  case hk => rfl
  case body =>
    intro L s₁ hA' sub1 _ _ S₁
    have hn' : ∀ p ∈ (x, OB.ob (instObj 31 dx)) :: [], p.1 ≠ dx := fun p hp => by rw [List.mem_singleton.mp hp]; exact hne
    refine wpAny_execs_cons (plainObj_wpAny_Assign_Attribute (S₁.raw (x := "kind") rfl (S₁.raw (x := "self") rfl ?_)))
    refine S₁.setA (.inl rfl) rfl hn' (fun _ => by simp [putL]) fun t1 s₂ S₂ => ?_
    refine wpAny_execs_cons (plainObj_wpAny_Assign_Attribute (S₂.raw (x := "line") rfl (S₂.raw (x := "self") rfl ?_)))
    refine S₂.setA (.inr (.inl rfl)) rfl hn' (fun _ => Nat.le_of_ble_eq_true rfl) fun t2 s₃ S₃ => ?_
    refine wpAny_execs_cons (plainObj_wpAny_Assign_Attribute (S₃.raw (x := "parts") rfl (S₃.raw (x := "self") rfl ?_)))
    refine S₃.setA (.inr (.inr (.inl rfl))) rfl hn' (fun _ => Nat.le_of_ble_eq_true rfl) fun t3 s₄ S₄ => ?_
    refine wpAny_execs_cons (plainObj_wpAny_Assign_Attribute (wpAny_Constant_none (S₄.raw (x := "self") rfl ?_)))
    refine S₄.setA (.inr (.inr (.inr rfl))) rfl hn' (fun _ => Nat.le_of_ble_eq_true rfl) fun t4 s₅ S₅ => wpAny_execs_nil ?_
    refine ⟨rfl, h (.ref x) s₅ S₅.out ?_⟩
    have e := S₅.fs.keep
    have notM : ∀ b, hh.get? b = none → b ∉ Mu := fun b hb m => by
      obtain ⟨o, q⟩ := mok b m
      have q' : hh.get? b = some o := q
      rw [hb] at q'; cases q'
    cases r1 with
    | str _ tk =>
      cases r2 with
      | int _ tl =>
        exact .node (vw_in (S₅.fs.own _ (.tail _ (.head _))).1 (notM _ f1)) (vw_in (S₅.fs.own _ (.head _)).1 (notM _ f0)) rfl rfl rfl (r3.mono (vw_ext e))
theorem Ev.node {n : Nat} {e1 e2 e3 : Expr} {fp pos : Pos} {k : Str} {ln : Int} {ps : List D} (hA : Aok (n + 2) A) (eo : EnvOk env) (E1 : Ev w A env Mu γ e1 (.str k)) (E2 : Ev w A env Mu γ e2 (.int ln)) (E3 : Ev w A env Mu γ e3 (.list ps)) (hl : env.kindOf "Node" = some .globalImplicit := by rfl)
    (h1 : starEach (e1 :: [e2, e3]) env = (false, eval e1 env) :: starEach [e2, e3] env := by rfl) (h2 : starEach (e2 :: [e3]) env = (false, eval e2 env) :: starEach [e3] env := by rfl) (h3 : starEach (e3 :: []) env = (false, eval e3 env) :: starEach [] env := by rfl) (hp : (backTo pos (starEach [e2, e3] env)).any (·.1) = false := by rfl) :
    Ev w A env Mu γ (.Call (.Name "Node" fp) [e1, e2, e3] [] pos) (.node k ln ps) := fun s g r =>
  Call_ (name_def eo g (v := .ref 31) (by kernel_rfl) hl (callWith_K (h₀ := s.heap) g.X (by kernel_rfl) (wpAny_mono ((EvS.cons E1 (EvS.cons E2 (EvS.cons E3 EvS.nil h3) h2) h1) s g r) (fun vs s₁ ⟨k₁, rs⟩ => ⟨(g.keeps (keeps_ext k₁)).X, by
    obtain ⟨u, v, t, rfl, r1, r2, r3⟩ := rs.three3
    exact node_call hA (g.keeps (keeps_ext k₁)) (r.keeps (keeps_ext k₁)).mok r1 r2 r3 fun v' s' k₂ q => ⟨keeps_trans k₁ k₂, q⟩⟩) fun _ _ x => x) h1 hp))
end
end Mine
namespace Mine
open PySem PySem.W PySem.Calls PySem.Spec PyProof.Rows

def thisD : D := .node "This" 1 []
/-- what stands around a node -/
def wths (nd : D) : List D :=
  [nd, .node "Block" 1 [.list [nd]], .node "While" 1 [thisD, nd], .node "If" 1 [thisD, nd, .none], .node "Labelled" 1 [.str "a", nd], .node "Try" 1 [.list [], .str "b", .list [nd], .none], .node "Try" 1 [.list [nd], .none, .none, .list []],
    .node "Switch" 1 [thisD, .list [.tup [.none, .list [nd]]]], .node "DoWhile" 1 [nd, thisD], .node "For" 1 [.none, .none, .none, nd]]
def wth (nd : D) (f : Nat) : D := (wths nd)[f]?.getD .none
theorem wth_get (nd : D) {f : Nat} (h : f < 10) : (wths nd)[f]? = some (wth nd f) := by
  unfold wth
  cases q : (wths nd)[f]? with
  | some x => rfl
  | none => exact absurd (List.getElem?_eq_none_iff.mp q) (Nat.not_le.mpr h)
theorem within_con (w : World) (nd : D) (f : Nat) (hf : f < 10) : Con 3 w 104 [nd, D.int f] (wth nd f) := by
  intro A Mu s vs hA g mok rs
  obtain ⟨v, u, rfl, r, r'⟩ := rs.two2
  refine' enter (n := 2) (ds := [nd, D.int f]) (vs := [v, u]) (names := ["node", "form"]) hA g mok (.cons r (.cons r' .nil)) ?ho ?hcd ?hbind ?hlen ?hnd ?hkind ?hco ?hgen ?hk ?h
  case ho => exact rfl
  case hcd => kernel_rfl
  case hbind => exact rfl
  case hlen => rfl
  case hnd => decide
  case hkind => intro L; rfl
  case hco => rfl
  case hgen => rfl
  case hk => rfl
  case h =>
    intro L s₁ eo hA' sub S
    refine wpAny_execs_cons (S.assign (x := "this") (d := thisD) (Ev.node hA' eo Ev.str Ev.int (Ev.list EvS.nil)) fun s₂ S₂ => ?_)
    exact wpAny_execs_cons (S₂.retD (fun b m => sub b m) (Ev.item (ds := wths nd) (k := (f : Int)) (Ev.list (EvS.cons Ev.name (EvS.cons (Ev.node hA' eo Ev.str Ev.int (Ev.list (EvS.cons (Ev.list (EvS.cons Ev.name EvS.nil)) EvS.nil))) (EvS.cons (Ev.node hA' eo Ev.str Ev.int (Ev.list (EvS.cons Ev.name (EvS.cons Ev.name EvS.nil)))) (EvS.cons (Ev.node hA' eo Ev.str Ev.int (Ev.list (EvS.cons Ev.name (EvS.cons Ev.name (EvS.cons Ev.none EvS.nil))))) (EvS.cons (Ev.node hA' eo Ev.str Ev.int (Ev.list (EvS.cons Ev.str (EvS.cons Ev.name EvS.nil)))) (EvS.cons (Ev.node hA' eo Ev.str Ev.int (Ev.list (EvS.cons (Ev.list EvS.nil) (EvS.cons Ev.str (EvS.cons (Ev.list (EvS.cons Ev.name EvS.nil)) (EvS.cons Ev.none EvS.nil)))))) (EvS.cons (Ev.node hA' eo Ev.str Ev.int (Ev.list (EvS.cons (Ev.list (EvS.cons Ev.name EvS.nil)) (EvS.cons Ev.none (EvS.cons Ev.none (EvS.cons (Ev.list EvS.nil) EvS.nil)))))) (EvS.cons (Ev.node hA' eo Ev.str Ev.int (Ev.list (EvS.cons Ev.name (EvS.cons (Ev.list (EvS.cons (Ev.tup (EvS.cons Ev.none (EvS.cons (Ev.list (EvS.cons Ev.name EvS.nil)) EvS.nil))) EvS.nil)) EvS.nil)))) (EvS.cons (Ev.node hA' eo Ev.str Ev.int (Ev.list (EvS.cons Ev.name (EvS.cons Ev.name EvS.nil)))) (EvS.cons (Ev.node hA' eo Ev.str Ev.int (Ev.list (EvS.cons Ev.none (EvS.cons Ev.none (EvS.cons Ev.none (EvS.cons Ev.name EvS.nil)))))) EvS.nil))))))))))) Ev.name (by omega) (wth_get nd hf) (by omega)) fun v s' h => h)

end Mine
namespace Mine
open PySem PySem.W PySem.Calls PySem.Spec PyProof.Rows

def nameAt (c : Nat) : Str := (["a", "b", "arguments", "c"] : List Str)[c / 5 % 4]?.getD ""
structure Stm where
  node : D
  held : List Str
  decls : List Str
  used : Bool
def fnOfS (nm : Str) (top : Bool) (ln : Int) : D := .node "Function" ln [.str nm, .list [.str "b"], .list [.node "Var" ln [.list [.tup [.str "c", .none]]], .node "Expr" ln [.node "Name" ln [.str "arguments"]]], .bool false, .str (if top then "decl" else "expr")]
def bareG (k : Nat) (nm : Str) (top : Bool) (ln : Int) : Stm :=
  if k = 0 then ⟨.node "Var" ln [.list [.tup [.str nm, .none]]], [nm], [], false⟩
  else if k = 1 then ⟨.node "Expr" ln [.node "Name" ln [.str nm]], [], [], nm == "arguments"⟩
  else if k = 2 then (if top then ⟨fnOfS nm top ln, [], [nm], false⟩ else ⟨.node "Expr" ln [fnOfS nm top ln], [], [], false⟩)
  else if k = 3 then ⟨.node "Var" ln [.list [.tup [.str "a", .node "Name" ln [.str nm]], .tup [.str nm, .none]]], ["a", nm], [], nm == "arguments"⟩
  else ⟨.node "ForIn" ln [.node "Var" ln [.list [.tup [.str nm, .none]]], .node "Name" ln [.str "arguments"], .node "Empty" ln []], [nm], [], true⟩
def fullG (k : Nat) (nm : Str) (f1 f2 : Nat) (ln : Int) : D := wth (wth (bareG k nm (f1 == 0 && f2 == 0) ln).node f1) f2
def stmG (k : Nat) (nm : Str) (f1 f2 : Nat) (ln : Int) : D :=
  .tup [fullG k nm f1 f2 ln, .list ((bareG k nm (f1 == 0 && f2 == 0) ln).held.map .str), .list ((bareG k nm (f1 == 0 && f2 == 0) ln).decls.map .str), .bool (bareG k nm (f1 == 0 && f2 == 0) ln).used]
def stmD (c : Nat) (ln : Int) : D := stmG (c % 5) (nameAt c) (c / 20 % 10) (c / 200 % 10) ln
theorem forms_eq (f1 f2 : Nat) : PyData.eqv (D.list [.int (f1 : Int), .int (f2 : Int)]).py (D.list [.int 0, .int 0]).py = (f1 == 0 && f2 == 0) := by
  rw [D.py, D.py, D.pys, D.pys, D.pys, D.pys, D.pys, D.pys]
  show PyData.eqv (.list [.int (f1 : Int), .int (f2 : Int)]) (.list [.int 0, .int 0]) = _
  have h : ∀ f : Nat, ((f : Int) == 0) = (f == 0) := fun f => by rw [Bool.eq_iff_iff]; simp
  simp only [PyData.eqv, PyData.eqvAll, h, Bool.and_true]
theorem fmodN (c k : Nat) : (c : Int).fmod (k : Int) = ((c % k : Nat) : Int) := by
  rw [Int.fmod_eq_emod_of_nonneg _ (by omega)]; rfl
theorem fdivN (c k : Nat) : (c : Int).fdiv (k : Int) = ((c / k : Nat) : Int) := by
  rw [Int.fdiv_eq_ediv_of_nonneg _ (by omega)]; rfl
def AllIn (γ : Gm) : Gm → Prop
  | [] => True
  | p :: r => γ.lookup p.1 = some p.2 ∧ AllIn γ r
theorem AllIn.mem {γ : Gm} : ∀ {r : Gm}, AllIn γ r → ∀ p ∈ r, γ.lookup p.1 = some p.2
  | p :: r, ⟨h, t⟩, q, hq => by
    rcases List.mem_cons.mp hq with rfl | hq
    · exact h
    · exact t.mem q hq
section
variable {w : World} {A : Around} {s₀ s s' : Shared} {env : Env} {Mu : List Addr} {γ : Gm} {own : Ow}
theorem ST.pick {γ' : Gm} (S : ST w s₀ env Mu γ own s) (h : AllIn γ γ') : ST w s₀ env Mu γ' own s := S.less fun x g e => h.mem _ (mem_of_lookup e)
theorem ST.mid {st : Stmt} {rest : List Stmt} {Q : Flow → Shared → Prop} (γ' : Gm) (S : ST w s₀ env Mu γ own s) (h1 : wpAny (MM w) A (exec st env) (fun f s' => f = .next ∧ ST w s₀ env Mu γ' own s') NoE s) (h2 : ∀ s', ST w s₀ env Mu γ' own s' → wpAny (MM w) A (execs rest env) Q NoE s') : wpAny (MM w) A (execs (st :: rest) env) Q NoE s :=
  wpAny_execs_cons (wpAny_mono h1 (fun f s' ⟨e, S'⟩ => by subst e; exact h2 s' S') fun _ _ x => x)
theorem Ev.modN {e : Expr} {i : Int} {kk : Nat} {p1 p2 : Pos} (c k : Nat) (E : Ev w A env Mu γ e (.int (c : Int))) (hi : i = ((k : Nat) : Int) := by rfl) (hk : i ≠ 0 := by decide) : Ev w A env Mu γ (.BinOp e .Mod (.Constant (.int i) kk p1) p2) (.int ((c % k : Nat) : Int)) := by
  subst hi; rw [← fmodN]; exact Ev.bin E Ev.int (Bin.modI hk)
theorem Ev.divN {e : Expr} {i : Int} {kk : Nat} {p1 p2 : Pos} (c k : Nat) (E : Ev w A env Mu γ e (.int (c : Int))) (hi : i = ((k : Nat) : Int) := by rfl) (hk : i ≠ 0 := by decide) (hs : i.natAbs < 1073741824 := by decide) : Ev w A env Mu γ (.BinOp e .FloorDiv (.Constant (.int i) kk p1) p2) (.int ((c / k : Nat) : Int)) := by
  subst hi; rw [← fdivN]; exact Ev.bin E Ev.int (Bin.divI hk (PyProof.noPylong_small hs))
theorem beqI (a b : Nat) : ((a : Int) == (b : Int)) = decide (a = b) := by
  by_cases h : a = b
  · subst h; simp
  · rw [decide_eq_false h, beq_eq_false_iff_ne]; omega
/-- cell % 5 == k -/
theorem EvT.isK {e : Expr} {i j : Int} {kk kk' : Nat} {p1 p2 p3 p4 : Pos} (c k : Nat) (E : Ev w A env Mu γ e (.int (c : Int))) (hi : i = ((5 : Nat) : Int) := by rfl) (hj : j = ((k : Nat) : Int) := by rfl) : EvT w A env Mu γ (.Compare (.BinOp e .Mod (.Constant (.int i) kk p1) p2) [.Eq] [.Constant (.int j) kk' p3] p4) (decide (c % 5 = k)) := by
  subst hj; rw [← beqI]; exact EvT.cmp (Ev.modN c 5 E hi (by rw [hi]; decide)) Ev.int Cmp.eqI
end
set_option maxHeartbeats 8000000 in
theorem stm_con (w : World) (c : Nat) (ln : Int) : Con 4 w 111 [D.int c, D.int ln] (stmD c ln) := by
  intro A Mu s vs hA g mok rs
  obtain ⟨v, u, rfl, r, r'⟩ := rs.two2
  refine' enter (n := 3) (ds := [D.int c, D.int ln]) (vs := [v, u]) (names := ["cell", "line"]) hA g mok (.cons r (.cons r' .nil)) ?ho ?hcd ?hbind ?hlen ?hnd ?hkind ?hco ?hgen ?hk ?h
  case ho => exact rfl
  case hcd => kernel_rfl
  case hbind => exact rfl
  case hlen => rfl
  case hnd => decide
  case hkind => intro L; rfl
  case hco => rfl
  case hgen => rfl
  case hk => rfl
  case h =>
    intro L s₁ eo hA' sub S
    have hnm : (["a", "b", "arguments", "c"] : List Str)[c / 5 % 4]? = some (nameAt c) := by
      unfold nameAt
      have : c / 5 % 4 < 4 := Nat.mod_lt _ (by decide)
      cases q : (["a", "b", "arguments", "c"] : List Str)[c / 5 % 4]? with
      | some x => rfl
      | none => exact absurd (List.getElem?_eq_none_iff.mp q) (Nat.not_le.mpr this)
    have hf1 : c / 20 % 10 < 10 := Nat.mod_lt _ (by decide)
    have hf2 : c / 200 % 10 < 10 := Nat.mod_lt _ (by decide)
    unfold stmD
    refine wpAny_execs_cons (S.assignSw ["name", "forms"] (ds := [.str (nameAt c), .list [.int ((c / 20 % 10 : Nat) : Int), .int ((c / 200 % 10 : Nat) : Int)]]) hA'.hand ?E rfl (fun x hx => by simp only [List.mem_cons, List.not_mem_nil, or_false] at hx; rcases hx with rfl | rfl <;> exact .inl rfl) fun s₂ S₂ => ?_)
    case E =>
      refine Ev.tup (EvS.cons (Ev.item (ds := [.str "a", .str "b", .str "arguments", .str "c"]) (k := ((c / 5 % 4 : Nat) : Int)) (Ev.list (EvS.cons Ev.str (EvS.cons Ev.str (EvS.cons Ev.str (EvS.cons Ev.str EvS.nil))))) (Ev.modN (c / 5) 4 (Ev.divN c 5 Ev.name)) (by omega) ?g1 (by omega)) (EvS.cons (Ev.list (EvS.cons (Ev.modN (c / 20) 10 (Ev.divN c 20 Ev.name)) (EvS.cons (Ev.modN (c / 200) 10 (Ev.divN c 200 Ev.name)) EvS.nil))) EvS.nil))
      have := congrArg (Option.map D.str) hnm
      rw [← List.getElem?_map] at this
      exact this
    clear hnm
    generalize nameAt c = nm at *
    generalize c / 20 % 10 = f1 at *
    generalize c / 200 % 10 = f2 at *
    have S₂' := S₂.pick (γ' := [("name", .im (.str nm)), ("forms", .im (.list [.int (f1 : Int), .int (f2 : Int)])), ("cell", .im (.int c)), ("line", .im (.int ln))]) ⟨rfl, rfl, rfl, rfl, trivial⟩
    refine wpAny_execs_cons (S₂'.assignTupE [("use", _), ("held", _), ("decls", _), ("is_used", _)] (ds := [.node "Name" ln [.str nm], .list [], .list [], .bool false]) hA'.hand ?E2 rfl (fun x hx => by simp only [List.mem_cons, List.not_mem_nil, or_false] at hx; rcases hx with rfl | rfl | rfl | rfl <;> exact .inl rfl) rfl fun s₃ S₃ => ?_)
    case E2 => exact Ev.tup (EvS.cons (Ev.node hA' eo Ev.str Ev.name (Ev.list (EvS.cons Ev.name EvS.nil))) (EvS.cons (Ev.list EvS.nil) (EvS.cons (Ev.list EvS.nil) (EvS.cons Ev.bool EvS.nil))))
    have S₃' := S₃.pick (γ' := [("use", .im (.node "Name" ln [.str nm])), ("held", .im (.list [])), ("decls", .im (.list [])), ("is_used", .im (.bool false)), ("name", .im (.str nm)), ("forms", .im (.list [.int (f1 : Int), .int (f2 : Int)])), ("cell", .im (.int c)), ("line", .im (.int ln))]) ⟨rfl, rfl, rfl, rfl, rfl, rfl, rfl, rfl, trivial⟩
    clear S₂ S₂' S₃
    unfold stmG fullG
    have two : ∀ x ∈ (["node", "held"] : List Str), x = "node" ∨ x = "held" := fun x hx => by simpa using hx
    refine S₃'.mid [("node", .im (bareG (c % 5) nm (f1 == 0 && f2 == 0) ln).node), ("held", .im (.list ((bareG (c % 5) nm (f1 == 0 && f2 == 0) ln).held.map .str))), ("decls", .im (.list ((bareG (c % 5) nm (f1 == 0 && f2 == 0) ln).decls.map .str))), ("is_used", .im (.bool (bareG (c % 5) nm (f1 == 0 && f2 == 0) ln).used)), ("forms", .im (.list [.int (f1 : Int), .int (f2 : Int)]))] ?ifs fun s₄ S₄ => ?tail
    case tail =>
      generalize (bareG (c % 5) nm (f1 == 0 && f2 == 0) ln).node = nd at *
      generalize (bareG (c % 5) nm (f1 == 0 && f2 == 0) ln).held.map D.str = hl at *
      generalize (bareG (c % 5) nm (f1 == 0 && f2 == 0) ln).decls.map D.str = dl at *
      generalize (bareG (c % 5) nm (f1 == 0 && f2 == 0) ln).used = us at *
      refine wpAny_execs_cons (S₄.loop1 (x := "form") [.int (f1 : Int), .int (f2 : Int)] (fun i => [("node", .im ([nd, wth nd f1, wth (wth nd f1) f2][i]?.getD .none)), ("held", .im (.list hl)), ("decls", .im (.list dl)), ("is_used", .im (.bool us)), ("forms", .im (.list [.int (f1 : Int), .int (f2 : Int)]))]) (fun _ => []) (EvI.list hA'.hand Ev.name (by show (2 : Nat) < 2 ^ 62; decide)) (fun _ => rfl) ?_ ?_)
      · intro i d Mu' io s₅ hx hsub hdis S₅
        match i, hx with
        | 0, hx =>
          cases hx
          refine wpAny_execs_cons (S₅.assign (x := "node") (d := wth nd f1) (Ev.call (x := "_law_within") (ds := [nd, .int (f1 : Int)]) (within_con w nd f1 hf1) hA' eo (EvS.cons (Ev.name (d := nd)) (EvS.cons (Ev.name (d := .int (f1 : Int))) EvS.nil))) fun s₆ S₆ => wpAny_execs_nil ?_)
          show ST _ _ _ _ _ _ _
          exact S₆.pick ⟨rfl, rfl, rfl, rfl, rfl, trivial⟩
        | 1, hx =>
          cases hx
          refine wpAny_execs_cons (S₅.assign (x := "node") (d := wth (wth nd f1) f2) (Ev.call (x := "_law_within") (ds := [wth nd f1, .int (f2 : Int)]) (within_con w (wth nd f1) f2 hf2) hA' eo (EvS.cons (Ev.name (d := wth nd f1)) (EvS.cons (Ev.name (d := .int (f2 : Int))) EvS.nil))) fun s₆ S₆ => wpAny_execs_nil ?_)
          show ST _ _ _ _ _ _ _
          exact S₆.pick ⟨rfl, rfl, rfl, rfl, rfl, trivial⟩
        | i + 2, hx => cases hx
      · intro s₅ S₅
        exact wpAny_execs_cons (S₅.retD (fun b m => sub b m) (Ev.tup (EvS.cons (Ev.name (d := wth (wth nd f1) f2)) (EvS.cons Ev.name (EvS.cons Ev.name (EvS.cons Ev.name EvS.nil))))) fun v s' h => h)
    refine S₃'.ifs (EvT.isK c 0 Ev.name) (fun hk s₄ S₄ => ?_) fun hk s₄ S₄ => ?_
    · have hk' : c % 5 = 0 := of_decide_eq_true hk
      have hb : bareG (c % 5) nm (f1 == 0 && f2 == 0) ln = ⟨.node "Var" ln [.list [.tup [.str nm, .none]]], [nm], [], false⟩ := by unfold bareG; rw [if_pos hk']
      rw [hb]
      refine wpAny_execs_cons (S₄.assignSw ["node", "held"] (ds := [.node "Var" ln [.list [.tup [.str nm, .none]]], .list [.str nm]]) hA'.hand ?E3 rfl (fun x hx => by rcases two x hx with rfl | rfl <;> exact .inl rfl) fun s₅ S₅ => wpAny_execs_nil ⟨rfl, S₅.pick ⟨rfl, rfl, rfl, rfl, rfl, trivial⟩⟩)
      exact Ev.tup (EvS.cons (Ev.node hA' eo Ev.str Ev.name (Ev.list (EvS.cons (Ev.list (EvS.cons (Ev.tup (EvS.cons Ev.name (EvS.cons Ev.none EvS.nil))) EvS.nil)) EvS.nil))) (EvS.cons (Ev.list (EvS.cons Ev.name EvS.nil)) EvS.nil))
    have h0 : ¬ c % 5 = 0 := of_decide_eq_false hk
    refine wpAny_execs_cons (S₄.ifs (EvT.isK c 1 Ev.name) (fun hk s₅ S₅ => ?_) fun hk s₅ S₅ => ?_)
    · have hk' : c % 5 = 1 := of_decide_eq_true hk
      have hb : bareG (c % 5) nm (f1 == 0 && f2 == 0) ln = ⟨.node "Expr" ln [.node "Name" ln [.str nm]], [], [], nm == "arguments"⟩ := by unfold bareG; rw [if_neg h0, if_pos hk']
      rw [hb]
      refine wpAny_execs_cons (S₅.assignSw ["node", "is_used"] (ds := [.node "Expr" ln [.node "Name" ln [.str nm]], .bool (nm == "arguments")]) hA'.hand ?E4 rfl (fun x hx => by simp only [List.mem_cons, List.not_mem_nil, or_false] at hx; rcases hx with rfl | rfl <;> exact .inl rfl) fun s₆ S₆ => wpAny_execs_nil (wpAny_execs_nil ⟨rfl, S₆.pick ⟨rfl, rfl, rfl, rfl, rfl, trivial⟩⟩))
      exact Ev.tup (EvS.cons (Ev.node hA' eo Ev.str Ev.name (Ev.list (EvS.cons Ev.name EvS.nil))) (EvS.cons (Ev.cmp Ev.name Ev.str Cmp.eqS) EvS.nil))
    have h1 : ¬ c % 5 = 1 := of_decide_eq_false hk
    refine wpAny_execs_cons (S₅.ifs (EvT.isK c 2 Ev.name) (fun hk s₆ S₆ => ?_) fun hk s₆ S₆ => ?_)
    · have hk' : c % 5 = 2 := of_decide_eq_true hk
      refine wpAny_execs_cons (S₆.assign (x := "body") (d := .list [.node "Var" ln [.list [.tup [.str "c", .none]]], .node "Expr" ln [.node "Name" ln [.str "arguments"]]]) (Ev.list (EvS.cons (Ev.node hA' eo Ev.str Ev.name (Ev.list (EvS.cons (Ev.list (EvS.cons (Ev.tup (EvS.cons Ev.str (EvS.cons Ev.none EvS.nil))) EvS.nil)) EvS.nil))) (EvS.cons (Ev.node hA' eo Ev.str Ev.name (Ev.list (EvS.cons (Ev.node hA' eo Ev.str Ev.name (Ev.list (EvS.cons Ev.str EvS.nil))) EvS.nil))) EvS.nil))) fun s₇ S₇ => ?_)
      have fq : ∀ Mu, Cmp w _ Mu .Eq (.list [.int (f1 : Int), .int (f2 : Int)]) (.list [.int 0, .int 0]) (f1 == 0 && f2 == 0) := fun Mu => by
        rw [← forms_eq]
        exact Cmp.eqD hA' rfl rfl (Nat.le_of_ble_eq_true rfl) (Nat.le_of_ble_eq_true rfl)
      refine wpAny_execs_cons (S₇.assign (x := "node") (d := fnOfS nm (f1 == 0 && f2 == 0) ln) ?E5 fun s₈ S₈ => ?_)
      case E5 =>
        refine Ev.node hA' eo Ev.str Ev.name (Ev.list (EvS.cons Ev.name (EvS.cons (Ev.list (EvS.cons Ev.str EvS.nil)) (EvS.cons Ev.name (EvS.cons Ev.bool (EvS.cons ?E6 EvS.nil))))))
        exact Ev.ifexp (EvT.cmp Ev.name (Ev.list (EvS.cons Ev.int (EvS.cons Ev.int EvS.nil))) (fq _)) (fun e => Ev.eqv Ev.str (by rw [e]; rfl)) (fun e => Ev.eqv Ev.str (by rw [e]; rfl))
      refine wpAny_execs_cons (S₈.ifs (b := f1 == 0 && f2 == 0) (EvT.cmp Ev.name (Ev.list (EvS.cons Ev.int (EvS.cons Ev.int EvS.nil))) (fq _)) (fun e s₉ S₉ => ?_) fun e s₉ S₉ => ?_)
      · have hb : bareG (c % 5) nm (f1 == 0 && f2 == 0) ln = ⟨fnOfS nm (f1 == 0 && f2 == 0) ln, [], [nm], false⟩ := by unfold bareG; rw [if_neg h0, if_neg h1, if_pos hk', if_pos e]
        rw [hb]
        exact wpAny_execs_cons (S₉.assign (x := "decls") (d := .list [.str nm]) (Ev.list (EvS.cons Ev.name EvS.nil)) fun s₁₀ S₁₀ => wpAny_execs_nil (wpAny_execs_nil (wpAny_execs_nil (wpAny_execs_nil ⟨rfl, S₁₀.pick ⟨rfl, rfl, rfl, rfl, rfl, trivial⟩⟩))))
      · have hb : bareG (c % 5) nm (f1 == 0 && f2 == 0) ln = ⟨.node "Expr" ln [fnOfS nm (f1 == 0 && f2 == 0) ln], [], [], false⟩ := by unfold bareG; rw [if_neg h0, if_neg h1, if_pos hk', if_neg (by rw [e]; decide)]
        rw [hb]
        exact wpAny_execs_cons (S₉.assign (x := "node") (d := .node "Expr" ln [fnOfS nm (f1 == 0 && f2 == 0) ln]) (Ev.node hA' eo Ev.str Ev.name (Ev.list (EvS.cons Ev.name EvS.nil))) fun s₁₀ S₁₀ => wpAny_execs_nil (wpAny_execs_nil (wpAny_execs_nil (wpAny_execs_nil ⟨rfl, S₁₀.pick ⟨rfl, rfl, rfl, rfl, rfl, trivial⟩⟩))))
    have h2 : ¬ c % 5 = 2 := of_decide_eq_false hk
    refine wpAny_execs_cons (S₆.ifs (EvT.isK c 3 Ev.name) (fun hk s₇ S₇ => ?_) fun hk s₇ S₇ => ?_)
    · have hk' : c % 5 = 3 := of_decide_eq_true hk
      have hb : bareG (c % 5) nm (f1 == 0 && f2 == 0) ln = ⟨.node "Var" ln [.list [.tup [.str "a", .node "Name" ln [.str nm]], .tup [.str nm, .none]]], ["a", nm], [], nm == "arguments"⟩ := by unfold bareG; rw [if_neg h0, if_neg h1, if_neg h2, if_pos hk']
      rw [hb]
      refine wpAny_execs_cons (S₇.assignSw ["node", "held", "is_used"] (ds := [.node "Var" ln [.list [.tup [.str "a", .node "Name" ln [.str nm]], .tup [.str nm, .none]]], .list [.str "a", .str nm], .bool (nm == "arguments")]) hA'.hand ?E7 rfl (fun x hx => by simp only [List.mem_cons, List.not_mem_nil, or_false] at hx; rcases hx with rfl | rfl | rfl <;> exact .inl rfl) fun s₈ S₈ => wpAny_execs_nil (wpAny_execs_nil (wpAny_execs_nil (wpAny_execs_nil ⟨rfl, S₈.pick ⟨rfl, rfl, rfl, rfl, rfl, trivial⟩⟩))))
      exact Ev.tup (EvS.cons (Ev.node hA' eo Ev.str Ev.name (Ev.list (EvS.cons (Ev.list (EvS.cons (Ev.tup (EvS.cons Ev.str (EvS.cons Ev.name EvS.nil))) (EvS.cons (Ev.tup (EvS.cons Ev.name (EvS.cons Ev.none EvS.nil))) EvS.nil))) EvS.nil))) (EvS.cons (Ev.list (EvS.cons Ev.str (EvS.cons Ev.name EvS.nil))) (EvS.cons (Ev.cmp Ev.name Ev.str Cmp.eqS) EvS.nil)))
    have h3 : ¬ c % 5 = 3 := of_decide_eq_false hk
    have hb : bareG (c % 5) nm (f1 == 0 && f2 == 0) ln = ⟨.node "ForIn" ln [.node "Var" ln [.list [.tup [.str nm, .none]]], .node "Name" ln [.str "arguments"], .node "Empty" ln []], [nm], [], true⟩ := by unfold bareG; rw [if_neg h0, if_neg h1, if_neg h2, if_neg h3]
    rw [hb]
    refine wpAny_execs_cons (S₇.assign (x := "first") (d := .node "Var" ln [.list [.tup [.str nm, .none]]]) (Ev.node hA' eo Ev.str Ev.name (Ev.list (EvS.cons (Ev.list (EvS.cons (Ev.tup (EvS.cons Ev.name (EvS.cons Ev.none EvS.nil))) EvS.nil)) EvS.nil))) fun s₈ S₈ => ?_)
    refine wpAny_execs_cons (S₈.assignSw ["node", "held", "is_used"] (ds := [.node "ForIn" ln [.node "Var" ln [.list [.tup [.str nm, .none]]], .node "Name" ln [.str "arguments"], .node "Empty" ln []], .list [.str nm], .bool true]) hA'.hand ?E8 rfl (fun x hx => by simp only [List.mem_cons, List.not_mem_nil, or_false] at hx; rcases hx with rfl | rfl | rfl <;> exact .inl rfl) fun s₉ S₉ => wpAny_execs_nil (wpAny_execs_nil (wpAny_execs_nil (wpAny_execs_nil ⟨rfl, S₉.pick ⟨rfl, rfl, rfl, rfl, rfl, trivial⟩⟩))))
    exact Ev.tup (EvS.cons (Ev.node hA' eo Ev.str Ev.name (Ev.list (EvS.cons Ev.name (EvS.cons (Ev.node hA' eo Ev.str Ev.name (Ev.list (EvS.cons Ev.str EvS.nil))) (EvS.cons (Ev.node hA' eo Ev.str Ev.name (Ev.list EvS.nil)) EvS.nil))))) (EvS.cons (Ev.list (EvS.cons Ev.name EvS.nil)) (EvS.cons Ev.bool EvS.nil)))

end Mine
namespace Mine
open PySem PySem.W PySem.Calls PySem.Spec PyProof.Rows

theorem draw2L {w : World} {A : Around} {E : Value → Shared → Prop} {l it : Addr} {u v : Value} {s : Shared} {Q : List Value → Shared → Prop} (hne : l ≠ it) (hit : s.heap.IsListIter it l 0) (hl : s.heap.IsList l [u, v].toArray)
    (hQ : ∀ h', h'.IsListIter it l 2 → Heap.SameBut it s.heap h' → Q [u, v] { s with heap := h' }) : wpAny (MM w) A (draw (.ref it) 2) Q E s := by
  show wpAny _ _ (pyNext (.ref it) >>= _) Q E s
  refine wpAny_bind (wpAny_pyNext_list_item hit hl (x := u) rfl fun h₁ hit₁ hs₁ => ?_)
  refine wpAny_bind (wpAny_holding ?_)
  show wpAny _ _ (pyNext (.ref it) >>= _) _ E _
  refine wpAny_bind (wpAny_pyNext_list_item hit₁ (hl.extBut hs₁.extBut hne) (x := v) rfl fun h₂ hit₂ hs₂ => ?_)
  refine wpAny_bind (wpAny_holding ?_)
  show wpAny _ _ (pure []) _ E _
  exact wpAny_pure (wpAny_pure (wpAny_pure (hQ h₂ hit₂ (hs₁.trans hs₂))))
theorem unpack2L {w : World} {A : Around} {E : Value → Shared → Prop} {l : Addr} {u v : Value} {s : Shared} {Q : List Value → Shared → Prop} (hh : A.handled = none) (hl : s.heap.IsList l [u, v].toArray)
    (hQ : ∀ s', Keeps s s' → Q [u, v] s') : wpAny (MM w) A (unpackItems (.ref l) 2 none) Q E s := by
  have hlt : l ≠ s.heap.objs.size := by obtain ⟨o, ho, _⟩ := hl; exact Nat.ne_of_lt (Heap.lt_size ho)
  unfold unpackItems
  refine wpAny_bind ?_
  · unfold notIterableAtAll
    refine wpAny_bind (wpAny_specialOf hl.typeIs slot_list_iter.lookup ?_)
    refine wpAny_pure ?_
    simp only [Bool.false_eq_true, if_false]
    refine wpAny_bind (wpAny_holding (wpAny_pyIter_list hl ?_))
    have hl₀ := hl.push { cls := .type "list_iterator", data := .fields #[.ref l, .int 0 0] }
    refine wpAny_bind (wpAny_holding (draw2L hlt ⟨_, Heap.get?_push_size _ rfl, rfl, rfl⟩ hl₀ fun h₁ hit₁ hs₁ => ?_))
    rw [if_neg (show ¬ [u, v].length < 2 by simp)]
    refine wpAny_bind (wpAny_holding (wpAny_pyNext_list_end hh hit₁ (hl₀.extBut hs₁.extBut hlt) rfl fun h₂ he₂ => ?_))
    simp only [Option.isSome_none, Bool.false_eq_true, if_false]
    refine wpAny_pure (hQ _ ⟨h₂, _, rfl, fun b o e => ?_⟩)
    have hb : b ≠ s.heap.objs.size := Nat.ne_of_lt (Heap.lt_size e)
    exact he₂ b o hb (hs₁.extBut b o hb (Heap.get?_push_of_some _ e))
/-- of each name the first -/
def lonce (xs : List Str) : List Str := (xs.zipIdx.filter fun p => !decide (p.1 ∈ xs.take p.2)).map (·.1)
theorem tups_enD (xs : List Str) : tups (enD (xs.map D.str)) = xs.zipIdx.map fun p => .tup [.int p.2, .str p.1] := by
  apply List.ext_getElem?
  intro i
  rw [enD_get, List.getElem?_map, List.getElem?_map, List.getElem?_zipIdx]
  cases xs[i]? with
  | none => rfl
  | some x => simp
theorem zip_ok {xs : List Str} (h : SsOk xs) : ∀ p ∈ xs.zipIdx, PyData.strOk p.1 = true := fun p hp => h _ (by
  obtain ⟨i, hi, e⟩ := List.getElem_of_mem hp
  rw [List.getElem_zipIdx] at e
  rw [← e]
  exact List.getElem_mem _)
theorem take_ok {xs : List Str} (h : SsOk xs) (n : Nat) : SsOk (xs.take n) := fun x hx => h x (List.mem_of_mem_take hx)
theorem once_con (w : World) (xs : List Str) (hx : SsOk xs) (hz : xs.length ≤ 2 ^ 20) : ConF 1 w 116 [D.list (xs.map .str)] ((lonce xs).map .str) := by
  intro A Mu s vs hA g mok rs
  obtain ⟨v, rfl, r⟩ := rs.one1
  refine' enter (n := 0) (ds := [D.list (xs.map .str)]) (vs := [v]) (names := ["names"]) hA g mok (.cons r .nil) ?ho ?hcd ?hbind ?hlen ?hnd ?hkind ?hco ?hgen ?hk ?h
  case ho => exact rfl
  case hcd => kernel_rfl
  case hbind => exact rfl
  case hlen => rfl
  case hnd => decide
  case hkind => intro L; rfl
  case hco => rfl
  case hgen => rfl
  case hk => rfl
  case h =>
    intro L s₁ eo hA' sub S
    unfold lonce
    rw [List.map_map]
    refine wpAny_execs_cons (S.retF (fun b m => sub b m) (EvF.compIf xs.zipIdx (fun p => .tup [.int p.2, .str p.1]) (fun p => .str p.1) (fun p => !decide (p.1 ∈ xs.take p.2)) (fun p => [("name", .im (.str p.1)), ("at", .im (.int p.2))]) [("names", .im (.list (xs.map .str)))] ?hit rfl (by decide) rfl (by decide) ?cap (by rw [List.length_zipIdx]; show _ ≤ 2 ^ 24; omega) (fun p hp C => Asg.tup hA'.hand rfl rfl rfl) (fun p hp C Mu' => ?test) (fun p hp _ C Mu' => Ev.name)) fun v s' h => h)
    case hit =>
      rw [← tups_enD]
      exact EvI.enum hA'.hand eo (Ev.name (d := .list (xs.map .str))) (by rw [List.length_map]; omega)
    case cap =>
      intro p hp
      rw [List.mem_singleton.mp hp]
      exact ⟨rfl, rfl, rfl, rfl⟩
    case test =>
      exact EvT.cmp (Ev.name (d := .str p.1)) (EvF.ev (EvF.slice (es := (xs.take p.2).map .str) (Ev.name (d := .list (xs.map .str))) EvPt.none (EvPt.some (i := ((p.2 : Nat) : Int)) (Ev.name)) EvPt.none (by rw [List.map_take]; exact Picks.upto p.2) (by decide) (by rw [List.length_map]; show _ ≤ 2 ^ 24; omega))) (Cmp.notInS hA' (zip_ok hx p hp) (take_ok hx _))

def pairD (p : Int × Str) : D := .tup [.int p.1, .str p.2]
def boundG (ps : List Str) (decls : List (Int × Str)) (held : List Str) (used : Bool) : List Str :=
  lonce (ps ++ decls.map (·.2) ++ (if (used || decide (("arguments" : Str) ∈ held)) && !decide (("arguments" : Str) ∈ ps ++ decls.map (·.2)) then [("arguments" : Str)] else []) ++ held)
theorem SsOk.append {xs ys : List Str} (h : SsOk xs) (k : SsOk ys) : SsOk (xs ++ ys) := fun x hx => (List.mem_append.mp hx).elim (h x) (k x)
theorem bound_con (w : World) (ps : List Str) (ds : List (Int × Str)) (held : List Str) (used : Bool) (h1 : SsOk ps) (h2 : SsOk (ds.map (·.2))) (h3 : SsOk held) (hz : ps.length + ds.length + held.length ≤ 2 ^ 18) : ConF 3 w 121 [D.list (ps.map .str), D.list (ds.map pairD), D.list (held.map .str), D.bool used] ((boundG ps ds held used).map .str) := by
  intro A Mu s vs hA g mok rs
  obtain ⟨v, u, t, t', rfl, r, r', r'', r3⟩ := rs.four4
  refine' enter (n := 2) (ds := [D.list (ps.map .str), D.list (ds.map pairD), D.list (held.map .str), D.bool used]) (vs := [v, u, t, t']) (names := ["params", "decls", "held", "is_used"]) hA g mok (.cons r (.cons r' (.cons r'' (.cons r3 .nil)))) ?ho ?hcd ?hbind ?hlen ?hnd ?hkind ?hco ?hgen ?hk ?h
  case ho => exact rfl
  case hcd => kernel_rfl
  case hbind => exact rfl
  case hlen => rfl
  case hnd => decide
  case hkind => intro L; rfl
  case hco => rfl
  case hgen => rfl
  case hk => rfl
  case h =>
    intro L s₁ eo hA' sub S
    have hN : SsOk (ps ++ ds.map (·.2)) := h1.append h2
    refine wpAny_execs_cons (S.assign (x := "names") (d := .list ((ps ++ ds.map (·.2)).map .str)) ?E1 fun s₂ S₂ => ?_)
    case E1 =>
      refine Ev.eqv (EvF.ev (EvF.addL (es := ds.map fun p => .str p.2) (Ev.name (d := .list (ps.map .str))) (EvF.ev (EvF.compMap ds pairD (fun p => .str p.2) (fun p => [("name", .im (.str p.2)), ("line", .im (.int p.1))]) [] (EvI.list hA'.hand (Ev.name (d := .list (ds.map pairD))) (by rw [List.length_map]; omega)) rfl (by decide) rfl (by decide) Cap.nil (by show _ ≤ 2 ^ 24; omega) (fun p hp C => Asg.tup hA'.hand rfl rfl rfl) (fun p hp C Mu' => Ev.name))) (by rw [List.length_map, List.length_map]; show _ ≤ 2 ^ 24; omega))) ?_
      rw [List.map_append, List.map_map]; rfl
    unfold boundG
    refine wpAny_execs_cons (S₂.assign (x := "is_needed") (d := .bool ((used || decide (("arguments" : Str) ∈ held)) && !decide (("arguments" : Str) ∈ ps ++ ds.map (·.2)))) (Ev.and (Ev.or Ev.name fun _ => Ev.cmp Ev.str (Ev.name (d := .list (held.map .str))) (Cmp.inS hA' argsOk_str h3)) fun _ => Ev.cmp Ev.str (Ev.name (d := .list ((ps ++ ds.map (·.2)).map .str))) (Cmp.notInS hA' argsOk_str hN)) fun s₃ S₃ => ?_)
    generalize ((used || decide (("arguments" : Str) ∈ held)) && !decide (("arguments" : Str) ∈ ps ++ ds.map (·.2))) = nd at *
    have hl : (if nd = true then [("arguments" : Str)] else []).length ≤ 1 := by split <;> simp
    have hk : SsOk (ps ++ ds.map (·.2) ++ (if nd = true then [("arguments" : Str)] else []) ++ held) := (hN.append (by split; exact SsOk.one argsOk_str; exact nil_ok)).append h3
    have C1 := once_con w _ hk (by simp only [List.length_append, List.length_map]; omega)
    refine wpAny_execs_cons (S₃.retF (fun b m => sub b m) (EvF.call (x := "_law_once") (C1.less (by omega)) hA' eo (EvS.cons ?E2 EvS.nil)) fun v s' h => h)
    refine Ev.eqv (EvF.ev (EvF.addL (ds := (ps ++ ds.map (·.2)).map .str ++ (if nd = true then [D.str "arguments"] else [])) (es := held.map .str) (EvF.ev (EvF.addL ?a ?b ?c)) ?d ?e)) ?f
    case a => exact Ev.name
    case b =>
      cases nd with
      | true => exact Ev.ifexp (b := true) (EvT.plain Ev.name) (fun _ => Ev.list (EvS.cons Ev.str EvS.nil)) nofun
      | false => exact Ev.ifexp (b := false) (EvT.plain Ev.name) nofun (fun _ => Ev.list EvS.nil)
    case c => cases nd <;> simp only [List.length_append, List.length_map, List.length_singleton, List.length_nil, if_true, Bool.false_eq_true, if_false] <;> (show _ ≤ 2 ^ 24; omega)
    case d => exact Ev.name
    case e => cases nd <;> simp only [List.length_append, List.length_map, List.length_singleton, List.length_nil, if_true, Bool.false_eq_true, if_false] <;> (show _ ≤ 2 ^ 24; omega)
    case f => cases nd <;> simp

end Mine
namespace Mine
open PySem PySem.W PySem.Calls PySem.Spec PyProof.Rows

structure Tl where
  vars : List Str
  decls : List (Int × Str)
  last : List (Int × Str)
  named : Bool
  bound : List Str
def Tl.ds (t : Tl) : List D := [.list (t.vars.map .str), .list (t.decls.map pairD), .list (t.last.map pairD), .bool t.named, .list (t.bound.map .str)]
def Tl.d (t : Tl) : D := .list t.ds
structure Tl.Ok (t : Tl) : Prop where
  vars : SsOk t.vars
  decls : SsOk (t.decls.map (·.2))
  last : SsOk (t.last.map (·.2))
  zv : t.vars.length ≤ 2 ^ 15
  zd : t.decls.length ≤ 2 ^ 15
  zl : t.last.length ≤ 2 ^ 15
def prD (x : D) : Int × Str := (x.fline, x.fname)
def toldT (ps : List Str) (ds : List D) : Tl :=
  ⟨((D.preL ds).flatMap D.vnames).foldl once [], (ds.filter D.isDecl).map prD, (lasts (ds.filter D.isDecl)).map prD, (D.preL ds).any (D.isName "arguments"), bindD ps ds⟩
def joinG (ps : List Str) (a b : Tl) : Tl :=
  ⟨a.vars ++ b.vars.filter (fun x => !decide (x ∈ a.vars)), a.decls ++ b.decls, a.last.filter (fun p => !decide (p.2 ∈ b.decls.map (·.2))) ++ b.last, a.named || b.named,
    boundG ps (a.decls ++ b.decls) (a.vars ++ b.vars.filter (fun x => !decide (x ∈ a.vars))) (a.named || b.named)⟩
theorem lasts_sub (fs : List D) : ∀ x ∈ lasts fs, x ∈ fs := by
  induction fs with
  | nil => intro x h; exact h
  | cons d ds ih =>
    intro x h
    rw [lasts] at h
    split at h
    · exact .tail _ (ih x h)
    · rcases List.mem_cons.mp h with rfl | h
      · exact .head _
      · exact .tail _ (ih x h)
theorem lasts_len (fs : List D) : (lasts fs).length ≤ fs.length := by rw [← leftOf_all]; exact leftOf_len fs _
section
variable {w : World} {A : Around} {s₀ s s' : Shared} {env : Env} {Mu : List Addr} {γ : Gm} {own : Ow}
theorem Ev.fline0 {x : Str} {xp p1 : Pos} {d : D} (h : DeclOk d) (E : Ev w A env Mu γ (.Name x xp) d) : Ev w A env Mu γ (.Attribute (.Name x xp) "line" p1) (.int d.fline) := by
  obtain ⟨ln, nm, q1, q2, q3, how, rfl, ok⟩ := h
  exact Ev.line E
theorem ST.assignL2 {x y : Str} {xp yp tp pos : Pos} {tk : Nat} {e : Expr} {d1 d2 : D} {Q : Flow → Shared → Prop} (S : ST w s₀ env Mu γ own s) (hA : A.handled = none) (E : Ev w A env Mu γ e (.list [d1, d2])) (hk1 : Kd env x) (hk2 : Kd env y) (k : ∀ s', ST w s₀ env Mu ((y, .im d2) :: (x, .im d1) :: γ) own s' → Q .next s')
    (hs : swapsWithSole [.Tuple [.Name x xp, .Name y yp] tk tp] e pos.line env = pure false := by rfl) (hw : swappedStores [.Tuple [.Name x xp, .Name y yp] tk tp] e env = pure none := by rfl) :
    wpAny (MM w) A (exec (.Assign [.Tuple [.Name x xp, .Name y yp] tk tp] e pos) env) Q NoE s := by
  refine Assign_Tuple (S.ev E fun v s₁ S₁ r => ?_) hs hw
  obtain ⟨l, vs, n, rfl, hm, rs⟩ := rps_of_list r
  obtain ⟨u, t, rfl, r1, r2⟩ := rs.two2
  have hL : s₁.heap.IsList l [u, t].toArray := ⟨_, vw_get hm, rfl, n, rfl⟩
  rw [assign_Tuple]
  refine wpAny_bind (wpAny_standAt ?_)
  unfold unpack
  refine wpAny_bind (wpAny_holding ?_)
  show wpAny (MM w) A (unpackItems (.ref l) 2 none) _ NoE s₁
  refine unpack2L hA hL fun s₂ k₂ => ?_
  have S₂ := S₁.keeps k₂
  show wpAny (MM w) A (assignInOrder [PySem.assign (.Name x xp) env, PySem.assign (.Name y yp) env] [u, t]) _ NoE s₂
  exact assignInOrder_cons (wpAny_assign_Name (S₂.storeV (g := .im d1) hk1 (r1.mono (vw_ext (keeps_ext k₂))) fun s₃ e₃ S₃ => assignInOrder_cons (wpAny_assign_Name (S₃.store (g := .im d2) hk2 (by rw [e₃]; exact r2.mono (vw_ext (keeps_ext k₂))) fun s₄ S₄ => assignInOrder_nil (k s₄ S₄)))))
end
set_option maxHeartbeats 2000000 in
theorem told_con (w : World) (ps : List Str) (ds : List D) (hps : SsOk ps) (hpl : ps.length ≤ 2 ^ 16) (b : BodyOk ds) : Con 7 w 126 [D.list (ps.map .str), D.list ds] (toldT ps ds).d := by
  intro A Mu s vs hA g mok rs
  obtain ⟨v, u, rfl, r, r'⟩ := rs.two2
  refine' enter (n := 6) (ds := [D.list (ps.map .str), D.list ds]) (vs := [v, u]) (names := ["params", "body"]) hA g mok (.cons r (.cons r' .nil)) ?ho ?hcd ?hbind ?hlen ?hnd ?hkind ?hco ?hgen ?hk ?h
  case ho => exact rfl
  case hcd => kernel_rfl
  case hbind => exact rfl
  case hlen => rfl
  case hnd => decide
  case hkind => intro L; rfl
  case hco => rfl
  case hgen => rfl
  case hk => rfl
  case h =>
    intro L s₁ eo hA' sub S
    have hw := b.wt
    have hl := wtL_len ds
    have hfl := List.length_filter_le D.isDecl ds
    have hll := lasts_len (ds.filter D.isDecl)
    have hdo := decls_ok b
    have hlo : ∀ x ∈ lasts (ds.filter D.isDecl), DeclOk x := fun x hx => hdo x (lasts_sub _ x hx)
    have hv : ConF 4 w 70 [D.list ds] ((((D.preL ds).flatMap D.vnames).foldl once []).map .str) := by
      have := vars_con w (.list ds) b.w (by rw [pre_list]; exact b.var) (by rw [pre_list]; have := b.len; omega) (by rw [pre_list]; exact b.ok)
      rwa [pre_list] at this
    have hc := fdecls_con w ds b
    have hc2 := last_con w ds b
    have hb := bind_con w ps ds hps hpl b
    have hnm := named_con w ds "arguments" b
    unfold toldT
    generalize bindD ps ds = bd at *
    generalize ((D.preL ds).any (D.isName "arguments")) = nd at *
    generalize (((D.preL ds).flatMap D.vnames).foldl once []) = vs at *
    generalize lasts (ds.filter D.isDecl) = ls at *
    generalize ds.filter D.isDecl = fs at *
    have hz : ∀ z ∈ [fs, ls], z.length ≤ 2 ^ 18 := fun z hz => by
      rcases List.mem_cons.mp hz with rfl | hz
      · omega
      · rw [List.mem_singleton.mp hz]; omega
    have hq : ∀ z ∈ [fs, ls], ∀ x ∈ z, DeclOk x := fun z hz => by
      rcases List.mem_cons.mp hz with rfl | hz
      · exact hdo
      · rw [List.mem_singleton.mp hz]; exact hlo
    refine wpAny_execs_cons (S.assignL2 (x := "decls") (y := "last") (d1 := .list ((fs.map prD).map pairD)) (d2 := .list ((ls.map prD).map pairD)) hA'.hand (EvF.ev (EvF.compMap [fs, ls] D.list (fun z => .list ((z.map prD).map pairD)) (fun z => [("found", .im (.list z))]) [] (EvI.list hA'.hand (Ev.list (EvS.cons (EvF.ev (EvF.call (x := "function_decls") (ds := [.list ds]) (hc.less (by omega)) hA' eo (EvS.cons (Ev.name (d := .list ds)) EvS.nil))) (EvS.cons (EvF.ev (EvF.call (x := "last_decls") (ds := [.list ds]) (hc2.less (by omega)) hA' eo (EvS.cons (Ev.name (d := .list ds)) EvS.nil))) EvS.nil))) (by show (2 : Nat) < 2 ^ 62; decide)) rfl (by decide) rfl (by decide) Cap.nil (by show (2 : Nat) ≤ 2 ^ 24; decide) (fun z hz C => Asg.name rfl rfl) (fun z hz' C Mu' => ?elt))) (.inl rfl) (.inl rfl) fun s₂ S₂ => ?_)
    case elt =>
      have hz1 := hz z hz'
      rw [List.map_map]
      exact EvF.ev (EvF.compMap z id (pairD ∘ prD) (fun x => [("one", .im x)]) [] (EvI.list hA'.hand (Ev.name (d := .list (z.map id)) (by rw [List.map_id]; rfl)) (by rw [List.length_map]; omega)) rfl (by decide) rfl (by decide) Cap.nil (by show _ ≤ 2 ^ 24; omega) (fun x hx C => Asg.name rfl rfl) (fun x hx C Mu' => Ev.tup (EvS.cons (Ev.fline0 (hq z hz' x hx) (Ev.name (d := x))) (EvS.cons (Ev.fname0 (hq z hz' x hx) (Ev.name (d := x))) EvS.nil))))
    exact wpAny_execs_cons (S₂.retD (fun b m => sub b m) (Ev.list (EvS.cons (EvF.ev (EvF.call (x := "var_names") (ds := [.list ds]) (hv.less (by omega)) hA' eo (EvS.cons (Ev.name (d := .list ds)) EvS.nil))) (EvS.cons Ev.name (EvS.cons Ev.name (EvS.cons (Ev.call (x := "named_in") (ds := [.list ds, .str "arguments"]) (hnm.less (by omega)) hA' eo (EvS.cons (Ev.name (d := .list ds)) (EvS.cons Ev.str EvS.nil))) (EvS.cons (EvF.ev (EvF.call (x := "binding_names") (ds := [.list (ps.map .str), .list ds]) hb hA' eo (EvS.cons (Ev.name (d := .list (ps.map .str))) (EvS.cons (Ev.name (d := .list ds)) EvS.nil)))) EvS.nil)))))) fun v s' h => h)

set_option maxHeartbeats 2000000 in
theorem join_con (w : World) (ps : List Str) (a b : Tl) (hps : SsOk ps) (hpl : ps.length ≤ 2 ^ 16) (ha : a.Ok) (hb : b.Ok) : Con 4 w 131 [D.list (ps.map .str), a.d, b.d] (joinG ps a b).d := by
  intro A Mu s vs hA g mok rs
  obtain ⟨v, u, t, rfl, r, r', r''⟩ := rs.three3
  refine' enter (n := 3) (ds := [D.list (ps.map .str), a.d, b.d]) (vs := [v, u, t]) (names := ["params", "one", "other"]) hA g mok (.cons r (.cons r' (.cons r'' .nil))) ?ho ?hcd ?hbind ?hlen ?hnd ?hkind ?hco ?hgen ?hk ?h
  case ho => exact rfl
  case hcd => kernel_rfl
  case hbind => exact rfl
  case hlen => rfl
  case hnd => decide
  case hkind => intro L; rfl
  case hco => rfl
  case hgen => rfl
  case hk => rfl
  case h =>
    intro L s₁ eo hA' sub S
    have za := ha.zv
    have zb := hb.zv
    have zad := ha.zd
    have zbd := hb.zd
    have zal := ha.zl
    have zbl := hb.zl
    have zf := List.length_filter_le (fun x => !decide (x ∈ a.vars)) b.vars
    have zf2 := List.length_filter_le (fun p : Int × Str => !decide (p.2 ∈ b.decls.map (·.2))) a.last
    have okh : SsOk (a.vars ++ b.vars.filter (fun x => !decide (x ∈ a.vars))) := ha.vars.append fun x hx => hb.vars x (List.mem_filter.mp hx).1
    have okd : SsOk ((a.decls ++ b.decls).map (·.2)) := by rw [List.map_append]; exact ha.decls.append hb.decls
    refine wpAny_execs_cons (S.assignSw ["held", "decls"] (ds := [.list ((a.vars ++ b.vars.filter (fun x => !decide (x ∈ a.vars))).map .str), .list ((a.decls ++ b.decls).map pairD)]) hA'.hand ?E1 rfl (fun x hx => by simp only [List.mem_cons, List.not_mem_nil, or_false] at hx; rcases hx with rfl | rfl <;> exact .inl rfl) fun s₂ S₂ => ?_)
    case E1 =>
      refine Ev.tup (EvS.cons (Ev.eqv (EvF.ev (EvF.addL (ds := a.vars.map .str) (es := (b.vars.filter (fun x => !decide (x ∈ a.vars))).map .str) (Ev.item (ds := a.ds) (k := 0) (Ev.name (d := a.d)) Ev.int (by decide) rfl) (EvF.ev (EvF.compIf b.vars D.str D.str (fun x => !decide (x ∈ a.vars)) (fun x => [("name", .im (.str x))]) [("one", .im a.d)] (EvI.list hA'.hand (Ev.item (ds := b.ds) (k := 0) (Ev.name (d := b.d)) Ev.int (by decide) rfl) (by rw [List.length_map]; omega)) rfl (by decide) rfl (by decide) ?cap (by show _ ≤ 2 ^ 24; omega) (fun z hz C => Asg.name rfl rfl) (fun z hz C Mu' => ?tst) (fun z hz _ C Mu' => Ev.name))) ?len)) (by rw [List.map_append])) (EvS.cons (Ev.eqv (EvF.ev (EvF.addL (ds := a.decls.map pairD) (es := b.decls.map pairD) (Ev.item (ds := a.ds) (k := 1) (Ev.name (d := a.d)) Ev.int (by decide) rfl) (Ev.item (ds := b.ds) (k := 1) (Ev.name (d := b.d)) Ev.int (by decide) rfl) ?len2)) (by rw [List.map_append])) EvS.nil))
      case cap =>
        intro p hp
        rw [List.mem_singleton.mp hp]
        exact ⟨rfl, rfl, rfl, rfl⟩
      case tst => exact EvT.cmp (Ev.name (d := .str z)) (Ev.item (ds := a.ds) (k := 0) (Ev.name (d := a.d)) Ev.int (by decide) rfl) (Cmp.notInS hA' (hb.vars z hz) ha.vars)
      case len => rw [List.length_map, List.length_map]; show _ ≤ 2 ^ 24; omega
      case len2 => rw [List.length_map, List.length_map]; show _ ≤ 2 ^ 24; omega
    have S₂' := S₂.pick (γ' := [("held", .im (.list ((a.vars ++ b.vars.filter (fun x => !decide (x ∈ a.vars))).map .str))), ("decls", .im (.list ((a.decls ++ b.decls).map pairD))), ("params", .im (.list (ps.map .str))), ("one", .im a.d), ("other", .im b.d)]) ⟨rfl, rfl, rfl, rfl, rfl, trivial⟩
    refine wpAny_execs_cons (S₂'.assign (x := "last") (d := .list ((a.last.filter (fun p => !decide (p.2 ∈ b.decls.map (·.2))) ++ b.last).map pairD)) ?E2 fun s₃ S₃ => ?_)
    case E2 =>
      refine Ev.eqv (EvF.ev (EvF.addL (ds := (a.last.filter (fun p => !decide (p.2 ∈ b.decls.map (·.2)))).map pairD) (es := b.last.map pairD) (EvF.ev (EvF.compIf a.last pairD pairD (fun p => !decide (p.2 ∈ b.decls.map (·.2))) (fun x => [("pair", .im (pairD x))]) [("other", .im b.d)] (EvI.list hA'.hand (Ev.item (ds := a.ds) (k := 2) (Ev.name (d := a.d)) Ev.int (by decide) rfl) (by rw [List.length_map]; omega)) rfl (by decide) rfl (by decide) ?cap2 (by show _ ≤ 2 ^ 24; omega) (fun z hz C => Asg.name rfl rfl) (fun z hz C Mu' => ?tst2) (fun z hz _ C Mu' => Ev.name))) (Ev.item (ds := b.ds) (k := 2) (Ev.name (d := b.d)) Ev.int (by decide) rfl) ?len3)) (by rw [List.map_append])
      case cap2 =>
        intro p hp
        rw [List.mem_singleton.mp hp]
        exact ⟨rfl, rfl, rfl, rfl⟩
      case tst2 =>
        refine EvT.cmp (Ev.itemT (ds := [.int z.1, .str z.2]) (k := 1) (d := .str z.2) (Ev.name (d := pairD z)) Ev.int (by decide) rfl) (Ev.eqv (EvF.ev (EvF.compMap b.decls pairD (fun p => .str p.2) (fun p => [("name", .im (.str p.2)), ("line", .im (.int p.1))]) [] (EvI.list hA'.hand (Ev.item (ds := b.ds) (k := 1) (Ev.name (d := b.d)) Ev.int (by decide) rfl) (by rw [List.length_map]; omega)) rfl (by decide) rfl (by decide) Cap.nil (by show _ ≤ 2 ^ 24; omega) (fun p hp C => Asg.tup hA'.hand rfl rfl rfl) (fun p hp C Mu' => Ev.name))) (by rw [show b.decls.map (fun p => D.str p.2) = (b.decls.map (·.2)).map D.str by rw [List.map_map]; rfl])) (Cmp.notInS hA' (ha.last _ (List.mem_map_of_mem hz)) hb.decls)
      case len3 => rw [List.length_map, List.length_map]; show _ ≤ 2 ^ 24; omega
    refine wpAny_execs_cons (S₃.retD (fun b m => sub b m) (Ev.list (EvS.cons Ev.name (EvS.cons Ev.name (EvS.cons Ev.name (EvS.cons (Ev.or (Ev.item (ds := a.ds) (k := 3) (Ev.name (d := a.d)) Ev.int (by decide) rfl) fun _ => Ev.item (ds := b.ds) (k := 3) (Ev.name (d := b.d)) Ev.int (by decide) rfl) (EvS.cons (EvF.ev (EvF.call (x := "_law_bound") (bound_con w ps (a.decls ++ b.decls) (a.vars ++ b.vars.filter (fun x => !decide (x ∈ a.vars))) (a.named || b.named) hps okd okh (by simp only [List.length_append]; omega)) hA' eo (EvS.cons Ev.name (EvS.cons Ev.name (EvS.cons Ev.name (EvS.cons (Ev.or (Ev.item (ds := a.ds) (k := 3) (Ev.name (d := a.d)) Ev.int (by decide) rfl) fun _ => Ev.item (ds := b.ds) (k := 3) (Ev.name (d := b.d)) Ev.int (by decide) rfl) EvS.nil)))))) EvS.nil)))))) fun v s' h => h)

end Mine
namespace Mine
open PySem PySem.W PySem.Calls PySem.Spec PyProof.Rows

theorem keys_list_miss : typeLookup (.type "list") "keys" = pure none := by rw [typeLookup_type, builtinLookup_eq_fast]; kernel_rfl
theorem noKeys {w : World} {A : Around} {E : Value → Shared → Prop} {s : Shared} {a : Addr} {xs : Array Value} {k : Nat} {Q : Option Value → Shared → Prop} (hx : s.heap.get? a = some (W.listOf xs k)) (hA : A.handled = none)
    (h : ∀ s', Keeps s s' → Q none s') : wpAny (MM w) A (getAttr? (.ref a) "keys") Q E s := by
  obtain ⟨hp, g, d, tk, os⟩ := s
  have hT : ∀ tk', (⟨hp, g, d, tk', os⟩ : Shared).TypeIs (.ref a) "list" := fun _ => ⟨_, hx, rfl⟩
  have f1 := sub_AttributeError
  have f3 := F.slot_list_getattribute.lookup
  have f4 := F.slot_list_getattribute.bind (.ref a)
  have f5 := am_list_getattr_none
  have hmiss := keys_list_miss
  unfold getAttr? getAttrBy? getAttrBy
  repeat (any_goals (first | assumption | exact hT _ | ((with_reducible show wpAny _ _ (call (Value.builtin "list.__getattribute__") _ _) _ _ _); refine call_meets F.slot_list_getattribute (hT _) am_entry_list_getattribute (F.args_list_getattribute_2 _ _) (meets_getattribute_miss_list a xs k _ "keys" _ hmiss (by decide) (by decide)) ⟨hx, hA, fun h' tk' e hx' => ?_⟩) | wp_step))
  obtain ⟨t', u', he⟩ := hx'.there
  show wpAny _ _ (getattributeRaised _ _ _ _ _ _ _) _ _ _
  unfold getattributeRaised
  repeat (any_goals (first | assumption | wp_step))
  exact h _ ⟨h', _, rfl, hx'.keeps⟩
end Mine
namespace Mine
open PySem PySem.W PySem.Calls PySem.Spec PyProof.Rows

theorem items_are {w : World} {I : Im} : ∀ {vs : List Value} {ks : List Int}, Rps I vs (ks.map .int) → ItemsAre (intKind Pg w) ks vs
  | _, [], .nil => .nil
  | _, k :: ks, .cons r rs => by
    cases r with
    | int _ t => exact .cons (by show Value.isInt k (.int k t) = true; simp [Value.isInt]) (items_are rs)
theorem tup_key {w : World} {h : Heap} {Mu : List Addr} {a : Addr} {ks : List Int} (r : Rp (vw h Mu) (.ref a) (.tup (ks.map .int))) : (tupleKind (intKind Pg w)).is h ks a := by
  obtain ⟨l, vs, n, e, hl, rs⟩ := rps_of_tup r
  cases e
  exact ⟨_, _, n, vw_get hl, rfl, rfl, by simpa using items_are rs⟩
theorem DctIs.at {w : World} {h : Heap} {Mu : List Addr} {xs : List (List Int × D)} {v : Value} (d : DctIs (vw h Mu) w xs v) :
    ∃ a ys, v = .ref a ∧ h.DictOfH (tupleKind (intKind Pg w)) a ys ∧ ys.map (·.1) = xs.map (·.1) ∧ Rps (vw h Mu) (ys.map (·.2.2)) (xs.map (·.2)) := by
  obtain ⟨a, ys, o, es, ep, h1, h2, h3, h4, h5, h6, h7, h8, h9⟩ := d
  exact ⟨a, ys, h1, ⟨o, es, ep, vw_get h2, h3, h4, h5, fun y hy => tup_key (h7 y hy), h6⟩, h8, h9⟩
theorem at_key {I : Im} : ∀ {ys : List (List Int × Addr × Value)} {xs : List (List Int × D)} {k : List Int} {d : D}, ys.map (·.1) = xs.map (·.1) → Rps I (ys.map (·.2.2)) (xs.map (·.2)) → xs.lookup k = some d → ∃ p, atKey ys k = some p ∧ Rp I p.2 d
  | [], [], _, _, _, _, h => nomatch h
  | y :: ys, (x, d') :: xs, k, d, h1, h2, h3 => by
    have e1 : y.1 = x := (List.cons.inj h1).1
    have e2 : ys.map (·.1) = xs.map (·.1) := (List.cons.inj h1).2
    have h2' : Rps I (y.2.2 :: ys.map (·.2.2)) (d' :: xs.map (·.2)) := h2
    cases h2' with
    | cons r rs =>
      rw [List.lookup_cons] at h3
      by_cases hk : k = x
      · subst hk
        rw [beq_self_eq_true] at h3
        cases h3
        exact ⟨y.2, by unfold atKey; rw [List.find?_cons, decide_eq_true e1]; rfl, r⟩
      · rw [beq_eq_false_iff_ne.mpr hk] at h3
        obtain ⟨p, h4, h5⟩ := at_key e2 rs h3
        refine ⟨p, ?_, h5⟩
        unfold atKey at h4 ⊢
        rw [List.find?_cons, decide_eq_false (by rw [e1]; exact Ne.symm hk)]
        exact h4
section
variable {w : World} {A : Around} {env : Env} {Mu : List Addr} {γ : Gm}
theorem Ev.told {n : Nat} {x : Str} {xp pos p2 : Pos} {tk : Nat} {es : List Expr} {xs : List (List Int × D)} {ks : List Int} {d : D} (hA : Aok n A) (hx : γ.lookup x = some (.dct w xs)) (E : Ev w A env Mu γ (.Tuple es tk p2) (.tup (ks.map .int))) (hd : xs.lookup ks = some d)
    (hs : ∀ o j, subscripted (.Tuple es tk p2) false o j = operate [o, j] (getItem o j) := by intro _ _; rfl) (hdb : (x == ("__debug__" : Str)) = false := by decide) : Ev w A env Mu γ (.Subscript (.Name x xp) (.Tuple es tk p2) pos) d := fun s g r => by
  obtain ⟨v, h1, h2⟩ := r.var x _ hx
  refine Subscript_ (rd_eval h2 (E.use keeps_refl g r fun j s₂ k₂ _ rj => ?_) hdb)
  obtain ⟨a, ys, rfl, hD, h8, h9⟩ := DctIs.at (DctIs.mono (vw_ext (keeps_ext k₂)) h1)
  obtain ⟨p, hp, rp⟩ := at_key h8 h9 hd
  obtain ⟨l, vs, m, rfl, hl, rs⟩ := rps_of_tup rj
  have hT : s₂.TypeIs (.ref a) "dict" := by obtain ⟨o, es, ep, ho, hc, _⟩ := hD; exact ⟨o, ho, hc.1⟩
  refine tail_any hT slot_dict_getitem.lookup (wpAny_getItem_heap (knd := tupleKind (intKind Pg w)) (show A.units + 1 < cLine by have := hA.un; omega) (tup_key rj) hD hp ⟨keeps_trans k₂ keeps_toks, rp⟩) (hs _ _)
end
theorem plain_dul : plainId "dict.update.loop" = true := by decide +kernel
theorem entry_dul : entryFor table "dict.update.loop" = some Builtin.«dict.update.loop» := entryFor_of_tree (by kernel_rfl)
def pairT (p : List Int × D) : D := .tup [.tup (p.1.map .int), p.2]
/-- the dict while it is filled -/
structure Fill (w : World) (I : Im) (h₀ : Heap) (d it l : Addr) (xs : List (List Int × D)) (i : Nat) (h : Heap) : Prop where
  keep : Ext h₀ h
  dict : ∃ ys, h.DictOfH (tupleKind (intKind Pg w)) d ys ∧ ys.map (·.1) = (xs.take i).map (·.1) ∧ (∀ y ∈ ys, Rp I (.ref y.2.1) (.tup (y.1.map .int))) ∧ Rps I (ys.map (·.2.2)) ((xs.take i).map (·.2))
  iter : h.IsListIter it l i
theorem atKey_none {ys : List (List Int × Addr × Value)} {k : List Int} (h : k ∉ ys.map (·.1)) : atKey ys k = none := by
  unfold atKey
  rw [List.find?_eq_none.mpr]
  · rfl
  · intro x hx e
    exact h (List.mem_map.mpr ⟨x, hx, of_decide_eq_true e⟩)
theorem dict_loop {w : World} {A : Around} {R : Result → Shared → Prop} {h₀ : Heap} {Mu : List Addr} {d it l : Addr} {vs : List Value} {xs : List (List Int × D)} (hA : A.handled = none) (hu : A.units + 10 < cLine) (hl : h₀.IsList l vs.toArray) (rs : Rps (vw h₀ Mu) vs (xs.map pairT)) (hd : h₀.get? d = none) (hi : h₀.get? it = none) (hdi : d ≠ it)
    (hn : (xs.map (·.1)).Nodup) (hz : xs.length ≤ 2 ^ 20) : ∀ (k i : Nat) (s : Shared), xs.length - i = k → i ≤ xs.length → Fill w (vw h₀ Mu) h₀ d it l xs i s.heap →
    (∀ h' tk, Ext h₀ h' → (∃ ys, h'.DictOfH (tupleKind (intKind Pg w)) d ys ∧ ys.map (·.1) = xs.map (·.1) ∧ (∀ y ∈ ys, Rp (vw h₀ Mu) (.ref y.2.1) (.tup (y.1.map .int))) ∧ Rps (vw h₀ Mu) (ys.map (·.2.2)) (xs.map (·.2))) → R (.ok (.ret .none)) { s with heap := h', toks := tk }) →
    codeAny (MM w) A (.builtin "dict.update.loop" ⟨[.ref d, .ref it, rawInt i, .none], []⟩) R s := by
  have hlk : ∀ {h : Heap}, Ext h₀ h → h.IsList l vs.toArray := fun k => by obtain ⟨o, ho, q⟩ := hl; exact ⟨o, k _ _ ho, q⟩
  have hlen : vs.length = xs.length := by rw [rs.length, List.length_map]
  intro k
  induction k with
  | zero =>
    intro i s hk hi' F hR
    have hin : i = xs.length := by omega
    subst hin
    refine codeAny_builtin entry_dul ?_
    rw [Around.under_plainId plain_dul _]
    show wpAny _ A.in1 (pyNext (.ref it) >>= _) _ _ s
    refine wpAny_bind (wpAny_pyNext_list_end (A := A.in1) hA F.iter (hlk F.keep) (by simp [hlen]) fun h' k' => ?_)
    show wpAny _ A.in1 (Builtin.Dict.addKeywords d [] >>= _) _ _ _
    refine wpAny_bind (wpAny_pure (wpAny_pure ?_))
    have ex : Ext h₀ h' := fun b o e => k' b o (fun q => by rw [q, hi] at e; cases e) (F.keep b o e)
    refine hR h' _ ex ?_
    obtain ⟨ys, ⟨o, es, ep, q1, q2, q3, q4, q5, q6⟩, h1, h2, h3⟩ := F.dict
    rw [List.take_length] at h1 h3
    exact ⟨ys, ⟨o, es, ep, k' d o hdi q1, q2, q3, q4, fun y hy => tup_key (Rp.mono (vw_ext ex) (h2 y hy)), q6⟩, h1, h2, h3⟩
  | succ k ih =>
    intro i s hk hi' F hR
    have hlt : i < xs.length := by omega
    have hx : xs[i]? = some (xs[i]'hlt) := List.getElem?_eq_getElem hlt
    have htk : xs.take (i + 1) = xs.take i ++ [xs[i]'hlt] := by rw [List.take_add_one, hx]; rfl
    generalize xs[i]'hlt = p at hx htk
    obtain ⟨t, ht, rt⟩ := rs.get (k := i) (d := pairT p) (by rw [List.getElem?_map, hx]; rfl)
    obtain ⟨ta, us, m, e1, hta, rus⟩ := rps_of_tup rt
    subst e1
    obtain ⟨ku, vu, e2, rk, rv⟩ := rus.two2
    subst e2
    obtain ⟨ka, kvs, mk, e3, hka, rkv⟩ := rps_of_tup rk
    subst e3
    refine codeAny_builtin entry_dul ?_
    rw [Around.under_plainId plain_dul _]
    show wpAny _ A.in1 (pyNext (.ref it) >>= _) _ _ s
    refine wpAny_bind (wpAny_pyNext_list_item (A := A.in1) F.iter (hlk F.keep) (x := .ref ta) (by simpa using ht) fun h₁ hit₁ hs₁ => ?_)
    have ex₁ : Ext h₀ h₁ := fun b o e => hs₁.extBut b o (fun q => by rw [q, hi] at e; cases e) (F.keep b o e)
    have hTt : h₁.get? ta = some { cls := .type "tuple", data := .seq [Value.ref ka, vu].toArray m } := ex₁ _ _ (vw_get hta)
    have pi : ∀ (A' : Around) (E' : Value → Shared → Prop) (Q' : List Value → Shared → Prop), Q' [.ref ka, vu] { s with heap := h₁ } → wpAny (MM w) A' (Builtin.Dict.pairItems (.ref ta)) Q' E' { s with heap := h₁ } := fun A' E' Q' q => by
      unfold Builtin.Dict.pairItems
      refine wpAny_bind (wpAny_typeOf (T := "tuple") ⟨_, hTt, rfl⟩ ?_)
      rw [if_pos (by decide)]
      exact wpAny_bind (wpAny_seqItems hTt rfl (wpAny_pure q))
    refine wpAny_bind (wpAny_holding ?_)
    refine wpAny_bind (wpAny_tryCatch (pi _ _ _ ?_))
    dsimp only
    obtain ⟨ys, hD, q1, q2, q3⟩ := F.dict
    have hD₁ : h₁.DictOfH (tupleKind (intKind Pg w)) d ys := by
      obtain ⟨o, es, ep, r1, r2, r3, r4, r5, r6⟩ := hD
      exact ⟨o, es, ep, hs₁.extBut d o hdi r1, r2, r3, r4, fun y hy => tup_key (Rp.mono (vw_ext ex₁) (q2 y hy)), r6⟩
    have hfresh : p.1 ∉ ys.map (·.1) := by
      rw [q1]
      have h5 : ((xs.take (i + 1)).map (·.1)).Nodup := hn.sublist ((List.take_sublist _ _).map _)
      rw [htk, List.map_append, List.nodup_append] at h5
      exact fun m => h5.2.2 _ m _ (.head _) rfl
    have hyl : ys.length ≤ sizeLine := by
      have : ys.length = (xs.take i).length := by rw [← List.length_map (f := (·.1)) (as := ys), q1, List.length_map]
      rw [this, List.length_take]; show _ ≤ 2 ^ 24; omega
    refine wpAny_holding (wpAny_dictSet_heap (s := { s with heap := h₁ }) (knd := tupleKind (intKind Pg w)) (hsz := hyl) (show A.units + 1 < cLine by omega) (tup_key (Rp.mono (vw_ext ex₁) rk)) hD₁ fun h₂ hD₂ hs₂ => ?_)
    rw [storedH_new (atKey_none hfresh)] at hD₂
    have ex₂ : Ext h₀ h₂ := fun b o e => hs₂.extBut b o (fun q => by rw [q, hd] at e; cases e) (ex₁ b o e)
    refine wpAny_pure ⟨plainId_quiet plain_dul _, ?_⟩
    refine ih (i + 1) _ (by omega) hlt ⟨ex₂, ⟨_, hD₂, by rw [List.map_append, q1, htk, List.map_append]; rfl, fun y hy => ?_, by rw [List.map_append, htk, List.map_append]; exact q3.append (.one rv)⟩, hit₁.extBut hs₂.extBut (Ne.symm hdi)⟩ fun h' tk a b => ?_
    · rcases List.mem_append.mp hy with hy | hy
      · exact q2 y hy
      · rw [List.mem_singleton.mp hy]; exact rk
    · exact hR h' tk a b
end Mine
namespace Mine
open PySem PySem.W PySem.Calls PySem.Spec PyProof.Rows

theorem dict_call {w : World} {A : Around} {s : Shared} {Mu : List Addr} {v : Value} {xs : List (List Int × D)} {n : Nat} {Q : Value → Shared → Prop} (hA : Aok n A) (mok : ∀ a ∈ Mu, ∃ o, s.heap.get? a = some o) (r : Rp (vw s.heap Mu) v (.list (xs.map pairT))) (hn : (xs.map (·.1)).Nodup) (hz : xs.length ≤ 2 ^ 20)
    (h : ∀ v s', Keeps s s' → DctIs (vw s'.heap Mu) w xs v → Q v s') : wpAny (MM w) A (call (.type "dict") [v]) Q NoE s := by
  obtain ⟨l, vs, nn, rfl, hl, rs⟩ := rps_of_list r
  have hlo := vw_get hl
  have hL : s.heap.IsList l vs.toArray := ⟨_, hlo, rfl, nn, rfl⟩
  refine callType_codes (Q₁ := fun obj s₁ => obj = .ref s.heap.objs.size ∧ s₁ = { s with heap := s.heap.push { cls := .type "dict", data := .dict #[] } }) F.kt_called_dict (F.kt_typeCall_dict_1 _) F.entry_dict_init (kt_code_dict_new _ ⟨rfl, rfl⟩) ?_
  rintro obj s₁ ⟨rfl, rfl⟩
  have hnew : (s.heap.push { cls := .type "dict", data := .dict #[] }).DictOfH (tupleKind (intKind Pg w)) s.heap.objs.size [] := Heap.DictOfH.new s.heap
  have hT : ({ s with heap := s.heap.push { cls := .type "dict", data := .dict #[] } } : Shared).TypeIs (.ref s.heap.objs.size) "dict" := ⟨_, Heap.get?_push_size _ rfl, rfl⟩
  refine ⟨hT, F.args_dict_init_2 _ _, ?_⟩
  unfold Builtin.«dict.__init__»
  refine wpAny_bind ?_
  unfold Builtin.Dict.selfAndRest
  refine wpAny_bind (wpAny_notOrdered_dict hT ?_)
  show wpAny _ _ (pure (s.heap.objs.size, [Value.ref l])) _ _ _
  refine wpAny_pure ?_
  show wpAny _ _ (Builtin.Dict.updateFrom "dict.__init__" s.heap.objs.size (.ref l) [] .none) _ _ _
  unfold Builtin.Dict.updateFrom
  have hlo₁ : (s.heap.push { cls := .type "dict", data := .dict #[] }).get? l = some (W.listOf vs.toArray nn) := Heap.get?_push_of_some _ hlo
  refine wpAny_bind (wpAny_typeOf (T := "list") ⟨_, hlo₁, rfl⟩ ?_)
  rw [if_pos (by decide)]
  refine wpAny_bind (noKeys (A := A.in1.in1) (s := { s with heap := s.heap.push { cls := .type "dict", data := .dict #[] } }) hlo₁ hA.hand fun s₂ k₂ => ?_)
  simp only [Option.isNone_none, if_true]
  have k02 : Keeps s s₂ := keeps_trans keeps_push k₂
  have hd₂ := (keeps_ext k₂) _ _ (Heap.get?_push_size s.heap (o := { cls := .type "dict", data := .dict #[] }) rfl)
  have hL₂ : s₂.heap.IsList l vs.toArray := ⟨_, keeps_ext k02 _ _ hlo, rfl, nn, rfl⟩
  have hlt : s.heap.objs.size < s₂.heap.objs.size := Heap.lt_size hd₂
  have fr : ∀ c, s.heap.objs.size ≤ c → s.heap.get? c = none := fun c hc => by
    cases z : s.heap.get? c with
    | none => rfl
    | some o => exact absurd (Heap.lt_size z) (Nat.not_lt.mpr hc)
  refine wpAny_bind (wpAny_rule (wpAny_bind (wpAny_pyIter_list hL₂ ?_)))
  refine wpAny_pure (a := Fin.again (.builtin "dict.update.loop" ⟨[.ref s.heap.objs.size, .ref s₂.heap.objs.size, rawInt (0 : Nat), .none], []⟩)) ⟨plainId_quiet plain_dul _, ?_⟩
  have hu := hA.un
  have F0 : Fill w (vw s.heap Mu) s.heap s.heap.objs.size s₂.heap.objs.size l xs 0 (s₂.heap.push { cls := .type "list_iterator", data := .fields #[.ref l, .int 0 0] }) :=
    ⟨fun b o e => Heap.get?_push_of_some _ (keeps_ext k02 b o e), ⟨[], ⟨_, _, _, Heap.get?_push_of_some _ hd₂, ⟨rfl, rfl, rfl⟩, rfl, rfl, (fun y hy => nomatch hy), .nil⟩, rfl, (fun y hy => nomatch hy), .nil⟩, ⟨_, Heap.get?_push_size _ rfl, rfl, rfl⟩⟩
  refine dict_loop (A := A.in1) (h₀ := s.heap) (Mu := Mu) (l := l) (vs := vs) (xs := xs) hA.hand (show A.units + 1 + 10 < cLine by omega) hL rs (fr _ (Nat.le_refl _)) (fr _ (Nat.le_of_lt hlt)) (Nat.ne_of_lt hlt) hn hz xs.length 0 _ rfl (Nat.zero_le _) F0 fun h' tk ex hD => ?_
  obtain ⟨h2, t2, e2, _⟩ := k02
  refine ⟨rfl, h _ _ ⟨h', tk, by rw [e2], ex⟩ ?_⟩
  obtain ⟨ys, ⟨o, es, ep, q1, q2, q3, q4, q5, q6⟩, h1, h2, h3⟩ := hD
  refine ⟨_, ys, o, es, ep, rfl, vw_in q1 fun m => ?_, q2, q3, q4, q6, fun y hy => Rp.mono (vw_ext ex) (h2 y hy), h1, h3.mono (vw_ext ex)⟩
  obtain ⟨o', z⟩ := mok _ m
  rw [fr _ (Nat.le_refl _)] at z; cases z
end Mine
namespace Mine
open PySem PySem.W PySem.Calls PySem.Spec PyProof.Rows

section
variable {w : World} {A : Around} {s₀ s s' : Shared} {env : Env} {Mu : List Addr} {γ : Gm} {own : Ow}
theorem ST.assignDict {n : Nat} {y : Str} {yp fp cp pos : Pos} {e : Expr} {xs : List (List Int × D)} {Q : Flow → Shared → Prop} (S : ST w s₀ env Mu γ own s) (hA : Aok n A) (eo : EnvOk env) (E : Ev w A env Mu γ e (.list (xs.map pairT))) (hn : (xs.map (·.1)).Nodup) (hz : xs.length ≤ 2 ^ 20) (k : ∀ s', ST w s₀ env Mu ((y, .dct w xs) :: γ) own s' → Q .next s')
    (hk : Kd env y := by first | exact .inl rfl | exact .inr ⟨rfl, _, rfl⟩) (hl : env.kindOf "dict" = some .globalImplicit := by rfl) (he : starEach (e :: []) env = (false, eval e env) :: starEach [] env := by rfl)
    (hs : swapsWith (.Call (.Name "dict" fp) [e] [] cp) (some (.Name y yp)) pos.line env = pure false := by rfl) : wpAny (MM w) A (exec (.Assign [.Name y yp] (.Call (.Name "dict" fp) [e] [] cp) pos) env) Q NoE s := by
  refine wpAny_Assign_Name (Call_ (name_bi eo S.g (v := .type "dict") (by kernel_rfl) (by kernel_rfl) (by decide) hl (PyProof.Rows.callWith_type1 (spliced_more (S.ev E fun v s₁ S₁ r => spliced_none ?_) he) he rfl))) hs
  exact dict_call hA S₁.fs.mok r hn hz fun v' s₂ k₂ d => (S₁.keeps k₂).store (g := .dct w xs) hk d fun s₃ S₃ => k s₃ S₃
end
structure Tl.Fl (t : Tl) : Prop extends Tl.Ok t where
  bound : SsOk t.bound
theorem pairs_flat {ps : List (Int × Str)} (h : SsOk (ps.map (·.2))) : D.flats (ps.map pairD) = true := by
  induction ps with
  | nil => rfl
  | cons p ps ih =>
    rw [List.map_cons, D.flats, ih fun x hx => h x (.tail _ hx)]
    simp [pairD, D.flat, D.flats, h p.2 (.head _)]
theorem Tl.flat {t : Tl} (f : t.Fl) : t.d.flat = true := by
  simp [Tl.d, Tl.ds, D.flat, D.flats, strs_flat f.vars, pairs_flat f.decls, pairs_flat f.last, strs_flat f.bound]
theorem pairs_depth (ps : List (Int × Str)) : PyData.depthAll (D.pys (ps.map pairD)) ≤ 1 := by
  induction ps with
  | nil => exact Nat.zero_le _
  | cons p ps ih =>
    rw [List.map_cons, D.pys, PyData.depthAll]
    simp only [pairD, D.py, D.pys, PyData.depth, PyData.depthAll]
    omega
theorem Tl.depth (t : Tl) : t.d.py.depth ≤ 64 := by
  have h1 := strs_depth t.vars
  have h2 := pairs_depth t.decls
  have h3 := pairs_depth t.last
  have h4 := strs_depth t.bound
  simp only [Tl.d, Tl.ds, D.py, D.pys, PyData.depth, PyData.depthAll]
  omega
theorem Tl.same {t : Tl} (f : t.Fl) : PyData.eqv t.d.py t.d.py = true := SeqAt.eqv_refl _ (D.canLay _ (Tl.flat f))
def cellsOf (script : List Int) : List Nat := (script.take 4).map Int.natAbs ++ ([2, 993, 2, 1] : List Nat).drop (script.take 4).length
def psOf (c : Nat) : List Str := (([[], ["b"], ["arguments", "c"]] : List (List Str))[c % 3]?).getD []
end Mine
namespace Mine
open PySem PySem.W PySem.Calls PySem.Spec PyProof.Rows

def cj (script : List Int) (j : Nat) : Nat := (cellsOf script)[j]?.getD 0
def rowB (script : List Int) (j : Nat) : Stm := bareG (cj script j % 5) (nameAt (cj script j)) (cj script j / 20 % 10 == 0 && cj script j / 200 % 10 == 0) ((j : Int) + 1)
def rowG (script : List Int) (j : Nat) : D := stmD (cj script j) ((j : Int) + 1)
def nodeG (script : List Int) (j : Nat) : D := fullG (cj script j % 5) (nameAt (cj script j)) (cj script j / 20 % 10) (cj script j / 200 % 10) ((j : Int) + 1)
def pieces : List (Nat × Nat) := [(0, 1), (1, 2), (2, 3), (0, 2), (1, 3), (0, 3)]
theorem cells_len (script : List Int) : (cellsOf script).length = 4 := by
  unfold cellsOf
  rw [List.length_append, List.length_map, List.length_drop, List.length_take]
  simp only [List.length_cons, List.length_nil]
  omega
theorem cells_get (script : List Int) {j : Nat} (h : j < 4) : (cellsOf script)[j]? = some (cj script j) := by
  unfold cj
  cases q : (cellsOf script)[j]? with
  | some x => rfl
  | none => have := List.getElem?_eq_none_iff.mp q; rw [cells_len] at this; omega
theorem ps_get (c : Nat) : ([D.list [], .list [.str "b"], .list [.str "arguments", .str "c"]] : List D)[c % 3]? = some (.list ((psOf c).map .str)) := by
  unfold psOf
  have h : c % 3 < 3 := Nat.mod_lt _ (by decide)
  generalize c % 3 = m at h ⊢
  match m, h with
  | 0, _ => rfl
  | 1, _ => rfl
  | 2, _ => rfl
theorem ps_len (c : Nat) : (psOf c).length ≤ 2 := by
  unfold psOf
  have h : c % 3 < 3 := Nat.mod_lt _ (by decide)
  generalize c % 3 = m at h ⊢
  match m, h with
  | 0, _ => decide
  | 1, _ => decide
  | 2, _ => decide
theorem rgD_zero (n : Nat) : rgD 0 n = (List.range n).map fun j => .int (j : Nat) := by
  unfold rgD
  congr 1
  funext j
  rw [Int.zero_add]
def cellsD (script : List Int) : D := .list ((cellsOf script).map fun c : Nat => .int (c : Int))
def piecesD : D := .list (pieces.map fun p => .tup [.int (p.1 : Nat), .int (p.2 : Nat)])
section
variable {w : World} {A : Around} {env : Env} {Mu : List Addr} {γ : Gm}
theorem cells_ev {n : Nat} {script : List Int} (hA : Aok n A) (eo : EnvOk env) (hs : γ.lookup ("script" : Str) = some (.im (.list (script.map .int)))) (hz : script.length ≤ 2 ^ 20)
    {p0 p1 p2 p3 p4 p5 p6 p7 p8 q0 q1 q2 q3 q4 q5 q6 q7 q8 q9 r0 r1 r2 r3 : Pos} {k1 k2 k3 k4 k5 k6 : Nat} (scope : Scope) (hsc : scope = { kind := .function, names := [(".0", .local), ("cell", .local), ("abs", .globalImplicit)], isGenerator := false, isCoroutine := false }) (hl : env.kindOf "len" = some .globalImplicit) :
    Ev w A env Mu γ (.BinOp (.ListComp (.Call (.Name "abs" p0) [.Name "cell" p1] [] p2) [⟨.Name "cell" p3, .Subscript (.Name "script" p4) (.Slice none (some (.Constant (.int 4) k1 p5)) none p6) p7, [], 0⟩] scope p8) .Add
      (.Subscript (.List [.Constant (.int 2) k2 q0, .Constant (.int 993) k3 q1, .Constant (.int 2) k4 q2, .Constant (.int 1) k5 q3] q4) (.Slice (some (.Call (.Name "len" q5) [.Subscript (.Name "script" q6) (.Slice none (some (.Constant (.int 4) k6 q7)) none q8) q9] [] r0)) none none r1) r2) r3) (cellsD script) := by
  subst hsc
  have sl : ∀ {a b c d e : Pos} {k : Nat}, EvF w A env Mu γ (.Subscript (.Name "script" a) (.Slice none (some (.Constant (.int 4) k b)) none c) d) ((script.take 4).map .int) := fun {a b c d e k} => EvF.slice (Ev.name hs) EvPt.none (EvPt.some (i := ((4 : Nat) : Int)) Ev.int) EvPt.none (by rw [List.map_take]; exact Picks.upto 4) (by decide) (by rw [List.length_map]; show _ ≤ 2 ^ 24; omega)
  have hl4 : (script.take 4).length ≤ 4 := by rw [List.length_take]; omega
  refine Ev.eqv (EvF.ev (EvF.addL (ds := (script.take 4).map fun i => .int ((i.natAbs : Nat) : Int)) (es := ([.int 2, .int 993, .int 2, .int 1] : List D).drop ((script.take 4).map D.int).length) (EvF.ev (EvF.compMap (script.take 4) .int (fun i => .int ((i.natAbs : Nat) : Int)) (fun i => [("cell", .im (.int i))]) [] (EvI.list hA.hand (EvF.ev (sl (e := p0))) (by rw [List.length_map]; omega)) rfl (by decide) rfl (by decide) Cap.nil (by show _ ≤ 2 ^ 24; omega) (fun a ha C => Asg.name rfl rfl) (fun a ha C Mu' => Ev.bi CB.abs (eo.comp rfl) (EvS.cons Ev.name EvS.nil)))) (EvF.ev (EvF.slice (Ev.list (EvS.cons Ev.int (EvS.cons Ev.int (EvS.cons Ev.int (EvS.cons Ev.int EvS.nil))))) (EvPt.some (Ev.bi (CB.len (ds := (script.take 4).map .int) (by rw [List.length_map]; omega)) eo (EvS.cons (EvF.ev (sl (e := p0))) EvS.nil) (hl := hl))) EvPt.none EvPt.none (Picks.from _) (by decide) (by decide))) (by rw [List.length_map, List.length_drop]; show _ ≤ 2 ^ 24; simp only [List.length_cons, List.length_nil]; omega))) ?_
  unfold cellsD cellsOf
  rw [List.length_map, List.map_append, List.map_map, List.map_drop]
  rfl
end
end Mine
namespace Mine
open PySem PySem.W PySem.Calls PySem.Spec PyProof.Rows

/-! the judgements in structures: the elaborator does not unfold them -/
structure EX (w : World) (A : Around) (env : Env) (Mu : List Addr) (γ : Gm) (e : Expr) (d : D) : Prop where h : Ev w A env Mu γ e d
structure ES (w : World) (A : Around) (env : Env) (Mu : List Addr) (γ : Gm) (pos : Pos) (es : List Expr) (ds : List D) : Prop where h : EvS w A env Mu γ pos es ds
structure EI (w : World) (A : Around) (env : Env) (Mu : List Addr) (γ : Gm) (target e : Expr) (ds : List D) : Prop where h : EvI w A env Mu γ target e ds
structure ET (w : World) (A : Around) (env : Env) (Mu : List Addr) (γ : Gm) (e : Expr) (b : Bool) : Prop where h : EvT w A env Mu γ e b
section
variable {w : World} {A : Around} {env : Env} {Mu : List Addr} {γ : Gm}
theorem EX.name {x : Str} {pos : Pos} {d : D} (e : γ.lookup x = some (.im d) := by rfl) (hd : (x == ("__debug__" : Str)) = false := by decide) : EX w A env Mu γ (.Name x pos) d := ⟨Ev.name e hd⟩
theorem EX.str {x : Str} {k : Nat} {pos : Pos} : EX w A env Mu γ (.Constant (.str x) k pos) (.str x) := ⟨Ev.str⟩
theorem EX.int {i : Int} {k : Nat} {pos : Pos} : EX w A env Mu γ (.Constant (.int i) k pos) (.int i) := ⟨Ev.int⟩
theorem EX.bool {b : Bool} {k : Nat} {pos : Pos} : EX w A env Mu γ (.Constant (.bool b) k pos) (.bool b) := ⟨Ev.bool⟩
theorem ES.nil {pos : Pos} : ES w A env Mu γ pos [] [] := ⟨EvS.nil⟩
theorem ES.cons {pos : Pos} {e : Expr} {es : List Expr} {d : D} {ds : List D} (h : EX w A env Mu γ e d) (t : ES w A env Mu γ pos es ds)
    (hs : starEach (e :: es) env = (false, eval e env) :: starEach es env := by rfl) : ES w A env Mu γ pos (e :: es) (d :: ds) := ⟨EvS.cons h.h t.h hs⟩
theorem EX.list {pos : Pos} {es : List Expr} {ds : List D} (h : ES w A env Mu γ pos es ds) (hz : ds.length ≤ sizeLine := by exact Nat.le_of_ble_eq_true rfl) : EX w A env Mu γ (.List es pos) (.list ds) := ⟨Ev.list h.h hz⟩
theorem EX.tup {k : Nat} {pos : Pos} {es : List Expr} {ds : List D} (h : ES w A env Mu γ pos es ds) (hz : ds.length ≤ sizeLine := by exact Nat.le_of_ble_eq_true rfl) : EX w A env Mu γ (.Tuple es k pos) (.tup ds) := ⟨Ev.tup h.h hz⟩
theorem EX.item {v i : Expr} {pos : Pos} {ds : List D} {k : Int} {d : D} (hv : EX w A env Mu γ v (.list ds)) (hi : EX w A env Mu γ i (.int k)) (h0 : 0 ≤ k) (hd : ds[k.toNat]? = some d) (h1 : k < 2 ^ 63 := by decide)
    (hs : ∀ o j, subscripted i false o j = operate [o, j] (getItem o j) := by intro _ _; rfl) : EX w A env Mu γ (.Subscript v i pos) d := ⟨Ev.item hv.h hi.h h0 hd h1 hs⟩
theorem EX.itemT {v i : Expr} {pos : Pos} {ds : List D} {k : Int} {d : D} (hv : EX w A env Mu γ v (.tup ds)) (hi : EX w A env Mu γ i (.int k)) (h0 : 0 ≤ k) (hd : ds[k.toNat]? = some d) (h1 : k < 2 ^ 63 := by decide)
    (hs : ∀ o j, subscripted i false o j = operate [o, j] (getItem o j) := by intro _ _; rfl) : EX w A env Mu γ (.Subscript v i pos) d := ⟨Ev.itemT hv.h hi.h h0 hd h1 hs⟩
theorem EX.modN {e : Expr} {i : Int} {kk : Nat} {p1 p2 : Pos} (c k : Nat) (E : EX w A env Mu γ e (.int (c : Int))) (hi : i = ((k : Nat) : Int) := by rfl) (hk : i ≠ 0 := by decide) : EX w A env Mu γ (.BinOp e .Mod (.Constant (.int i) kk p1) p2) (.int ((c % k : Nat) : Int)) := ⟨Ev.modN c k E.h hi hk⟩
theorem EX.add {l r : Expr} {pos : Pos} {x y : Int} (hl : EX w A env Mu γ l (.int x)) (hr : EX w A env Mu γ r (.int y)) : EX w A env Mu γ (.BinOp l .Add r pos) (.int (x + y)) := ⟨Ev.bin hl.h hr.h Bin.addI⟩
theorem EX.eqv {e : Expr} {b c : D} (h : EX w A env Mu γ e b) (q : b = c) : EX w A env Mu γ e c := q ▸ h
theorem EX.call {n : Nat} {x : Str} {f : Addr} {e : Expr} {args : List Expr} {ds : List D} {d : D} {fp pos : Pos} (C : Con n w f ds d) (hA : Aok n A) (eo : EnvOk env) (ha : ES w A env Mu γ pos (e :: args) ds)
    (hl : env.kindOf x = some .globalImplicit)
    (hx : nsIn (KK w) mainGlobals x = some (some (.ref f)) := by kernel_rfl) (hkp : keepIn (KK w) (.ref f) = true := by kernel_rfl)
    (he : starEach (e :: args) env = (false, eval e env) :: starEach args env := by rfl) (hp : (backTo pos (starEach args env)).any (·.1) = false := by rfl) (hd : (x == ("__debug__" : Str)) = false := by decide) :
    EX w A env Mu γ (.Call (.Name x fp) (e :: args) [] pos) d := ⟨Ev.call C hA eo ha.h hx hkp hl he hp hd⟩
theorem EX.told {n : Nat} {x : Str} {xp pos p2 : Pos} {tk : Nat} {es : List Expr} {xs : List (List Int × D)} {ks : List Int} {d : D} (hA : Aok n A) (hx : γ.lookup x = some (.dct w xs)) (E : EX w A env Mu γ (.Tuple es tk p2) (.tup (ks.map .int))) (hd : xs.lookup ks = some d)
    (hs : ∀ o j, subscripted (.Tuple es tk p2) false o j = operate [o, j] (getItem o j) := by intro _ _; rfl) (hdb : (x == ("__debug__" : Str)) = false := by decide) : EX w A env Mu γ (.Subscript (.Name x xp) (.Tuple es tk p2) pos) d := ⟨Ev.told hA hx E.h hd hs hdb⟩
theorem EX.slice {v a b : Expr} {sp pos : Pos} {l u : Int} {ds es : List D} (hv : EX w A env Mu γ v (.list ds)) (h1 : EX w A env Mu γ a (.int l)) (h2 : EX w A env Mu γ b (.int u))
    (hp : Picks (some l) (some u) none ds es) (hz : ds.length ≤ sizeLine)
    (hs : ∀ o j, ∃ ops, subscripted (.Slice (some a) (some b) none sp) false o j = operate ops (getItem o j) := by exact fun o j => ⟨_, rfl⟩) : EX w A env Mu γ (.Subscript v (.Slice (some a) (some b) none sp) pos) (.list es) :=
  ⟨EvF.ev (EvF.slice hv.h (EvPt.some h1.h) (EvPt.some h2.h) EvPt.none hp (by decide) hz hs)⟩
theorem EX.comp {α : Type} (l : List α) (g h : α → D) (β : α → Gm) (δ : Gm) {elt target iter : Expr} {scope : Scope} {cl : List (Str × Addr)} {pos : Pos}
    (hit : EI w A env Mu γ target iter (l.map g)) (hclos : closureFor scope env = pure cl) (hcell : ∀ y ∈ scope.names, y.2 ≠ .cell) (hkind : scope.kind = .function)
    (hnames : ∀ y ∈ scope.names, y.2 = .local → scope.names.lookup y.1 = some .local) (hc : Cap env scope cl γ δ) (hz : l.length ≤ sizeLine)
    (asg : ∀ a ∈ l, ∀ C, Asg w A (compEnvC scope cl C env) (compEnvC scope [] C env) target (g a) (β a))
    (turn : ∀ a ∈ l, ∀ C Mu', EX w A (compEnvC scope cl C env) Mu' (β a ++ δ) elt (h a))
    (hs : ∀ x, foldedSetIterable iter env x = pure x := by intro _; rfl) :
    EX w A env Mu γ (.ListComp elt [⟨target, iter, [], 0⟩] scope pos) (.list (l.map h)) := ⟨EvF.ev (EvF.compMap l g h β δ hit.h hclos hcell hkind hnames hc hz asg (fun a ha C Mu' => (turn a ha C Mu').h) hs)⟩
theorem EI.list {target e : Expr} {ds : List D} (hA : A.handled = none) (E : EX w A env Mu γ e (.list ds)) (hz : ds.length < 2 ^ 62) : EI w A env Mu γ target e ds := ⟨EvI.list hA E.h hz⟩
theorem EI.enum {elts : List Expr} {tk : Nat} {tp : Pos} {e : Expr} {p1 p2 : Pos} {ds : List D} (hA : A.handled = none) (eo : EnvOk env) (E : EX w A env Mu γ e (.list ds)) (hz : ds.length < 2 ^ 62) (hl : env.kindOf "enumerate" = some .globalImplicit)
    (he : starEach (e :: []) env = (false, eval e env) :: starEach [] env := by rfl) : EI w A env Mu γ (.Tuple elts tk tp) (.Call (.Name "enumerate" p1) [e] [] p2) (tups (enD ds)) := ⟨EvI.enum hA eo E.h hz hl he⟩
theorem EI.range1 {x : Str} {xp : Pos} {e : Expr} {p1 p2 : Pos} {q : Int} (hA : A.handled = none) (eo : EnvOk env) (E : EX w A env Mu γ e (.int q)) (h2 : q < 2 ^ 62) (h3 : 0 ≤ q) (hl : env.kindOf "range" = some .globalImplicit)
    (he : starEach (e :: []) env = (false, eval e env) :: starEach [] env := by rfl) :
    EI w A env Mu γ (.Name x xp) (.Call (.Name "range" p1) [e] [] p2) (rgD 0 q.toNat) := ⟨EvI.range1 hA eo E.h h2 h3 hl he⟩
theorem EI.range2 {x : Str} {xp : Pos} {e1 e2 : Expr} {p1 p2 : Pos} {p q : Int} (hA : A.handled = none) (eo : EnvOk env) (E1 : EX w A env Mu γ e1 (.int p)) (E2 : EX w A env Mu γ e2 (.int q)) (h1 : -(2 ^ 62) ≤ p) (h2 : q < 2 ^ 62) (h3 : p ≤ q) (hl : env.kindOf "range" = some .globalImplicit)
    (he1 : starEach (e1 :: e2 :: []) env = (false, eval e1 env) :: starEach (e2 :: []) env := by rfl) (he2 : starEach (e2 :: []) env = (false, eval e2 env) :: starEach [] env := by rfl) (hp : (backTo p2 (starEach (e2 :: []) env)).any (·.1) = false := by rfl) :
    EI w A env Mu γ (.Name x xp) (.Call (.Name "range" p1) [e1, e2] [] p2) (rgD p (q - p).toNat) := ⟨EvI.range2 hA eo E1.h E2.h h1 h2 h3 hl he1 he2 hp⟩
theorem ET.cmp {l r : Expr} {op : CmpOp} {pos : Pos} {a b : D} {c : Bool} (hl : EX w A env Mu γ l a) (hr : EX w A env Mu γ r b) (hc : Cmp w A Mu op a b c) (hm : behindInMarks op r = false := by with_unfolding_all rfl) :
    ET w A env Mu γ (.Compare l [op] [r] pos) c := ⟨EvT.cmp hl.h hr.h hc hm⟩
theorem ET.eqv {e : Expr} {b c : Bool} (h : ET w A env Mu γ e b) (q : b = c) : ET w A env Mu γ e c := q ▸ h
end
/-- a run of statements: a goal that the elaborator does not unfold -/
structure XS (w : World) (A : Around) (ss : List Stmt) (env : Env) (Q : Flow → Shared → Prop) (s : Shared) : Prop where
  h : wpAny (MM w) A (execs ss env) Q NoE s
section
variable {w : World} {A : Around} {s₀ s s' : Shared} {env : Env} {Mu : List Addr} {γ : Gm} {own : Ow} {rest : List Stmt} {Q : Flow → Shared → Prop}
theorem XS.nil (h : Q .next s) : XS w A [] env Q s := ⟨wpAny_execs_nil h⟩
theorem XS.assign {x : Str} {xp pos : Pos} {e : Expr} {d : D} (S : ST w s₀ env Mu γ own s) (E : EX w A env Mu γ e d) (k : ∀ s', ST w s₀ env Mu ((x, .im d) :: γ) own s' → XS w A rest env Q s') (hk : Kd env x) (hs : swapsWith e (some (.Name x xp)) pos.line env = pure false) : XS w A (.Assign [.Name x xp] e pos :: rest) env Q s :=
  ⟨wpAny_execs_cons (S.assign E.h (fun s' S' => (k s' S').h) hk hs)⟩
theorem XS.assignDict {n : Nat} {y : Str} {yp fp cp pos : Pos} {e : Expr} {xs : List (List Int × D)} (S : ST w s₀ env Mu γ own s) (hA : Aok n A) (eo : EnvOk env) (E : EX w A env Mu γ e (.list (xs.map pairT))) (hn : (xs.map (·.1)).Nodup) (hz : xs.length ≤ 2 ^ 20) (k : ∀ s', ST w s₀ env Mu ((y, .dct w xs) :: γ) own s' → XS w A rest env Q s')
    (hk : Kd env y) (hl : env.kindOf "dict" = some .globalImplicit) (he : starEach (e :: []) env = (false, eval e env) :: starEach [] env)
    (hs : swapsWith (.Call (.Name "dict" fp) [e] [] cp) (some (.Name y yp)) pos.line env = pure false) : XS w A (.Assign [.Name y yp] (.Call (.Name "dict" fp) [e] [] cp) pos :: rest) env Q s :=
  ⟨wpAny_execs_cons (S.assignDict hA eo E.h hn hz (fun s' S' => (k s' S').h) hk hl he hs)⟩
theorem XS.assignTup {elts : List Expr} {tp pos : Pos} {tk : Nat} {value : Expr} {ds : List D} (ns : List (Str × Pos)) (S : ST w s₀ env Mu γ own s) (hA : A.handled = none) (E : EX w A env Mu γ value (.tup ds)) (hl : ns.length = ds.length) (hk : ∀ p ∈ ns, Kd env p.1)
    (he : assignEach elts env = ns.map fun p => (false, PySem.assign (.Name p.1 p.2) env))
    (k : ∀ s', ST w s₀ env Mu (binds ns ds γ) own s' → XS w A rest env Q s')
    (hs : swapsWithSole [.Tuple elts tk tp] value pos.line env = pure false) (hw : swappedStores [.Tuple elts tk tp] value env = pure none) : XS w A (.Assign [.Tuple elts tk tp] value pos :: rest) env Q s :=
  ⟨wpAny_execs_cons (S.assignTupE ns hA E.h hl hk he (fun s' S' => (k s' S').h) hs hw)⟩
theorem XS.ifNot {e : Expr} {body : List Stmt} {pos : Pos} (S : ST w s₀ env Mu γ own s) (E : ET w A env Mu γ e false) (k : ∀ s', ST w s₀ env Mu γ own s' → XS w A rest env Q s') : XS w A (.If e body [] pos :: rest) env Q s :=
  ⟨wpAny_execs_cons (S.ifs E.h nofun fun _ s' S' => wpAny_execs_nil (k s' S').h)⟩
theorem XS.retD {Mu₀ : List Addr} {e : Expr} {d : D} {pos : Pos} (S : ST w s₀ env Mu γ own s) (hM : ∀ b ∈ Mu₀, b ∈ Mu) (E : EX w A env Mu γ e d) (k : ∀ v s', (Keeps s₀ s' ∧ Rp (vw s'.heap Mu₀) v d) → Q (.ret v) s') : XS w A (.Return (some e) pos :: rest) env Q s :=
  ⟨wpAny_execs_cons (S.retD hM E.h k)⟩
theorem XS.comp {α : Type} (l : List α) (g : α → D) (f : α → D) (β : α → Gm) (δ : Gm) {elt target iter : Expr} {scope : Scope} {cl : List (Str × Addr)} {y : Str} {yp pos spos : Pos} (S : ST w s₀ env Mu γ own s)
    (hsw : swapsWith (.ListComp elt [⟨target, iter, [], 0⟩] scope pos) (some (.Name y yp)) spos.line env = pure true)
    (hit : EI w A env Mu γ target iter (l.map g)) (hclos : closureFor scope env = pure cl) (hcell : ∀ y ∈ scope.names, y.2 ≠ .cell) (hkind : scope.kind = .function)
    (hnames : ∀ y ∈ scope.names, y.2 = .local → scope.names.lookup y.1 = some .local) (hc : Cap env scope cl γ δ) (hz : l.length ≤ sizeLine)
    (asg : ∀ a ∈ l, ∀ C, Asg w A (compEnvC scope cl C env) (compEnvC scope [] C env) target (g a) (β a))
    (turn : ∀ a ∈ l, ∀ C Mu', EX w A (compEnvC scope cl C env) Mu' (β a ++ δ) elt (f a))
    (k : ∀ s', ST w s₀ env Mu ((y, .im (.list (l.map f))) :: γ) own s' → XS w A rest env Q s')
    (hk : Kd env y) (hs : ∀ x, foldedSetIterable iter env x = pure x) : XS w A (.Assign [.Name y yp] (.ListComp elt [⟨target, iter, [], 0⟩] scope pos) spos :: rest) env Q s :=
  ⟨wpAny_execs_cons (S.assignComp l g (fun a => some (f a)) β δ hsw hit.h hclos hcell hkind hnames hc hz asg (fun a ha C Mu' => ⟨true, EvTs.nil, fun _ => ⟨_, rfl, (turn a ha C Mu').h⟩, nofun⟩) (fun s' S' => (k s' (by rwa [show (fun a => some (f a)) = some ∘ f from rfl, List.filterMap_eq_map] at S')).h) hk hs)⟩
theorem XS.loop1 {x : Str} {xp : Pos} {iter : Expr} {body : List Stmt} {pos : Pos} (xs : List D) (S : ST w s₀ env Mu γ own s)
    (hit : EI w A env Mu γ (.Name x xp) iter xs)
    (turn : ∀ d ∈ xs, ∀ Mu' (io : Ow) s', (∀ a ∈ Mu, a ∈ Mu') → ST w s₀ env Mu' ((x, .im d) :: γ) (io ++ own) s' → XS w A body env (LoopEnd w s₀ env Mu' γ (io ++ own) (fun f s' => match f with | .next => XS w A rest env Q s' | f => Q f s')) s')
    (k : ∀ s', ST w s₀ env Mu γ own s' → XS w A rest env Q s') (hk : Kd env x) (hs : ∀ x, foldedSetIterable iter env x = pure x) : XS w A (.For (.Name x xp) iter body [] pos :: rest) env Q s :=
  ⟨wpAny_execs_cons (wpAny_mono (S.loop1 (Q := fun f s' => match f with | .next => XS w A rest env Q s' | f => Q f s') xs (fun _ => γ) (fun _ => own) hit.h (fun _ => rfl) (fun i d Mu' io s' hx hsub _ S' => (turn d (mem_of_get hx) Mu' io s' hsub S').h) k hk hs) (fun f s' h => by cases f <;> first | exact h.h | exact h) fun _ _ x => x)⟩
theorem XS.loop2 {x y : Str} {xp yp tp : Pos} {tk : Nat} {iter : Expr} {body : List Stmt} {pos : Pos} (xs : List (D × D)) (S : ST w s₀ env Mu γ own s) (hA : A.handled = none)
    (hit : EI w A env Mu γ (.Tuple [.Name x xp, .Name y yp] tk tp) iter (xs.map fun p => .tup [p.1, p.2]))
    (turn : ∀ (i : Nat) (d e : D), xs[i]? = some (d, e) → ∀ Mu' (io : Ow) s', (∀ a ∈ Mu, a ∈ Mu') → ST w s₀ env Mu' ((y, .im e) :: (x, .im d) :: γ) (io ++ own) s' → XS w A body env (LoopEnd w s₀ env Mu' γ (io ++ own) (fun f s' => match f with | .next => XS w A rest env Q s' | f => Q f s')) s')
    (k : ∀ s', ST w s₀ env Mu γ own s' → XS w A rest env Q s') (hk : Kd env x) (hk2 : Kd env y) (hs : ∀ x, foldedSetIterable iter env x = pure x) : XS w A (.For (.Tuple [.Name x xp, .Name y yp] tk tp) iter body [] pos :: rest) env Q s :=
  ⟨wpAny_execs_cons (wpAny_mono (S.loop2 (Q := fun f s' => match f with | .next => XS w A rest env Q s' | f => Q f s') xs (fun _ => γ) (fun _ => own) hA hit.h (fun _ => rfl) (fun i d e Mu' io s' hx hsub _ S' => (turn i d e hx Mu' io s' hsub S').h) k hk hk2 hs) (fun f s' h => by cases f <;> first | exact h.h | exact h) fun _ _ x => x)⟩
end
end Mine
namespace Mine
open PySem PySem.W PySem.Calls PySem.Spec PyProof.Rows

theorem pieces_cases {p : Nat × Nat} (h : p ∈ pieces) : p = (0, 1) ∨ p = (1, 2) ∨ p = (2, 3) ∨ p = (0, 2) ∨ p = (1, 3) ∨ p = (0, 3) := by
  simpa [pieces] using h
def toldY (tl : Nat → Nat → Tl) : List (List Int × D) := pieces.map fun p => ([((p.1 : Nat) : Int), ((p.2 : Nat) : Int)], (tl p.1 p.2).d)
theorem told_get {tl : Nat → Nat → Tl} {b e : Nat} (h : (b, e) ∈ pieces) : (toldY tl).lookup [((b : Nat) : Int), ((e : Nat) : Int)] = some (tl b e).d := by
  rcases pieces_cases h with h | h | h | h | h | h <;> (cases h; rfl)
theorem told_nodup (tl : Nat → Nat → Tl) : ((toldY tl).map (·.1)).Nodup := by
  have : (toldY tl).map (·.1) = pieces.map fun p => [((p.1 : Nat) : Int), ((p.2 : Nat) : Int)] := by unfold toldY; rw [List.map_map]; rfl
  rw [this]
  decide
def rowsY (rg : Nat → D) : List D := (List.range 3).map rg
theorem rows_get {rg : Nat → D} {i : Nat} {d : D} (h : (rowsY rg)[i]? = some d) : i < 3 ∧ d = rg i := by
  unfold rowsY at h
  rw [List.getElem?_map] at h
  by_cases hi : i < 3
  · rw [List.getElem?_range hi] at h
    exact ⟨hi, (Option.some.inj h).symm⟩
  · rw [List.getElem?_eq_none (by simpa using Nat.not_lt.mp hi)] at h; cases h
def bodyY (nd : Nat → D) (b e : Nat) : List D := (((List.range 3).drop b).take (e - b)).map nd
theorem body_slice (rg : Nat → D) (b e : Nat) (he : e ≤ 3) (hb : b ≤ e) : Picks (some (b : Int)) (some (e : Int)) none (rowsY rg) ((((List.range 3).drop b).take (e - b)).map rg) := by
  have := Picks.run (ds := rowsY rg) b e (by unfold rowsY; rw [List.length_map, List.length_range]; exact he) hb
  rwa [show ((rowsY rg).drop b).take (e - b) = (((List.range 3).drop b).take (e - b)).map rg by unfold rowsY; rw [List.map_take, List.map_drop]] at this
def declsY (dl : Nat → List Str) (j : Nat) : List (Int × Str) := (dl j).map fun n => ((j : Int) + 1, n)
theorem pieces_len : pieces.length = 6 := rfl
theorem rows_len (rg : Nat → D) : (rowsY rg).length = 3 := by unfold rowsY; rw [List.length_map, List.length_range]
structure LawY (w : World) (script : List Int) (cs : List D) (c : Nat → Nat) (ps : List Str) (rg nd : Nat → D) (hl dl : Nat → List Str) (us : Nat → Bool) (tl : Nat → Nat → Tl) : Prop where
  cD : cellsD script = .list cs
  cL : ∀ j, j < 4 → cs[j]? = some (.int ((c j : Nat) : Int))
  psL : ([D.list [], .list [.str "b"], .list [.str "arguments", .str "c"]] : List D)[c 3 % 3]? = some (.list (ps.map .str))
  psOk : SsOk ps
  psZ : ps.length ≤ 2
  stm : ∀ j, j < 3 → Con 4 w 111 [.int ((c j : Nat) : Int), .int ((j : Int) + 1)] (rg j)
  rgE : ∀ j, rg j = .tup [nd j, .list ((hl j).map .str), .list ((dl j).map .str), .bool (us j)]
  told : ∀ p ∈ pieces, Con 7 w 126 [.list (ps.map .str), .list (bodyY nd p.1 p.2)] (tl p.1 p.2).d
  fl : ∀ p ∈ pieces, (tl p.1 p.2).Fl
  row : ∀ j, j < 3 → tl j (j + 1) = ⟨lonce (hl j), declsY dl j, declsY dl j, us j, boundG ps (declsY dl j) (hl j) (us j)⟩
  join : ∀ p ∈ pieces, ∀ c, p.1 < c → c < p.2 → tl p.1 p.2 = joinG ps (tl p.1 c) (tl c p.2)
  held : ∀ j, j < 3 → SsOk (hl j) ∧ (hl j).length ≤ 2
  decls : ∀ j, j < 3 → SsOk (dl j) ∧ (dl j).length ≤ 2
theorem enD_get2 {ds : List D} {i : Nat} {d e : D} (h : (enD ds)[i]? = some (d, e)) : d = .int (i : Nat) ∧ ds[i]? = some e := by
  unfold enD at h
  rw [List.getElem?_map, List.getElem?_zipIdx] at h
  cases q : ds[i]? with
  | none => rw [q] at h; cases h
  | some x =>
    rw [q] at h
    simp only [Option.map_some, Option.some.injEq, Prod.mk.injEq, Nat.zero_add] at h
    exact ⟨h.1.symm, by rw [h.2]⟩
theorem pieces_one {i : Nat} (h : i < 3) : (i, i + 1) ∈ pieces := by
  match i, h with
  | 0, _ => decide
  | 1, _ => decide
  | 2, _ => decide
theorem pieces_lt {p : Nat × Nat} (h : p ∈ pieces) : p.1 + 1 ≤ p.2 ∧ p.2 ≤ 3 := by
  rcases pieces_cases h with h | h | h | h | h | h <;> (subst h; decide)
theorem pieces_cut {p : Nat × Nat} (h : p ∈ pieces) {c : Nat} (h1 : p.1 < c) (h2 : c < p.2) : (p.1, c) ∈ pieces ∧ (c, p.2) ∈ pieces := by
  have hc : c = 1 ∨ c = 2 := by have := pieces_lt h; omega
  obtain ⟨a, b⟩ := p
  dsimp only at h1 h2 ⊢
  rcases pieces_cases h with e | e | e | e | e | e <;> (cases e; rcases hc with rfl | rfl <;> first | exact ⟨by decide, by decide⟩ | omega)
theorem pieces_get {i : Nat} {d e : D} (h : (pieces.map fun p => ((.int (p.1 : Nat), .int (p.2 : Nat)) : D × D))[i]? = some (d, e)) : ∃ p ∈ pieces, d = .int (p.1 : Nat) ∧ e = .int (p.2 : Nat) := by
  obtain ⟨p, hp, q⟩ := List.mem_map.mp (List.mem_of_getElem? h)
  cases q
  exact ⟨p, hp, rfl, rfl⟩
theorem rgD_mem {a b : Nat} {d : D} (h : d ∈ rgD ((a : Nat) + 1) (((b : Nat) : Int) - ((a : Nat) + 1)).toNat) : ∃ c : Nat, d = .int (c : Nat) ∧ a < c ∧ c < b := by
  unfold rgD at h
  obtain ⟨j, hj, rfl⟩ := List.mem_map.mp h
  have := List.mem_range.mp hj
  exact ⟨a + 1 + j, by congr 1, by omega, by omega⟩
theorem declsY_snd (dl : Nat → List Str) (j : Nat) : (declsY dl j).map (·.2) = dl j := by
  unfold declsY
  rw [List.map_map]
  exact List.map_id' _

/-- what is asked of law's frame -/
structure LawEnv (cc cp ca cr : Addr) (env : Env) : Prop where
  cells : env.kindOf ("cells" : Str) = some .cell
  params : env.kindOf ("params" : Str) = some .cell
  at_ : env.kindOf ("at" : Str) = some .cell
  rows : env.kindOf ("rows" : Str) = some .cell
  ccells : env.cells.lookup ("cells" : Str) = some cc
  cparams : env.cells.lookup ("params" : Str) = some cp
  cat : env.cells.lookup ("at" : Str) = some ca
  crows : env.cells.lookup ("rows" : Str) = some cr
  loc : ∀ x ∈ (["pieces", "begin", "end", "row", "told", "node", "held", "names", "is_used", "decls", "cut"] : List Str), env.kindOf x = some .local
  glo : ∀ x ∈ (["len", "range", "dict", "enumerate", "_law_once", "_law_bound", "_law_joined"] : List Str), env.kindOf x = some .globalImplicit
section
variable {env : Env} {cc cp ca cr : Addr}
theorem LawEnv.kd1 (L : LawEnv cc cp ca cr env) : Kd env "cells" := .inr ⟨L.cells, _, L.ccells⟩
theorem LawEnv.kd2 (L : LawEnv cc cp ca cr env) : Kd env "params" := .inr ⟨L.params, _, L.cparams⟩
theorem LawEnv.kd3 (L : LawEnv cc cp ca cr env) : Kd env "at" := .inr ⟨L.at_, _, L.cat⟩
theorem LawEnv.kd4 (L : LawEnv cc cp ca cr env) : Kd env "rows" := .inr ⟨L.rows, _, L.crows⟩
theorem LawEnv.lo (L : LawEnv cc cp ca cr env) {x : Str} (h : x ∈ (["pieces", "begin", "end", "row", "told", "node", "held", "names", "is_used", "decls", "cut"] : List Str)) : Kd env x := .inl (L.loc x h)
theorem relabel_cell {names : List (Str × NameKind)} {x : Str} (h : names.lookup x = some .free) (hk : env.scope.kind = .function) (hx : env.kindOf x = some .cell) :
    (names.map fun (n, k) => if (k == NameKind.free && env.scope.kind == .function && env.kindOf n == some .cell) then (n, NameKind.cell) else (n, k)).lookup x = some .cell := by
  induction names with
  | nil => cases h
  | cons p r ih =>
    obtain ⟨n, k⟩ := p
    rw [List.lookup_cons] at h
    show List.lookup x ((if (k == NameKind.free && env.scope.kind == .function && env.kindOf n == some .cell) = true then (n, NameKind.cell) else (n, k)) :: _) = _
    cases e : x == n with
    | true =>
      rw [e] at h
      cases h
      have : x = n := eq_of_beq e
      subst this
      rw [if_pos (by rw [hk, hx]; rfl), List.lookup_cons, e]
    | false =>
      rw [e] at h
      by_cases hc : (k == NameKind.free && env.scope.kind == .function && env.kindOf n == some .cell) = true
      · rw [if_pos hc, List.lookup_cons, e]; exact ih h
      · rw [if_neg hc, List.lookup_cons, e]; exact ih h
theorem cap1 {γ δ : Gm} {scope : Scope} {cl : List (Str × Addr)} {x : Str} {g : GV} {c : Addr} (eo : EnvOk env) (h1 : γ.lookup x = some g) (h2 : scope.names.lookup x = some .free) (h3 : env.kindOf x = some .cell) (h4 : env.cells.lookup x = some c) (h5 : cl.lookup x = some c) (t : Cap env scope cl γ δ) : Cap env scope cl γ ((x, g) :: δ) := fun p hp => by
  rcases List.mem_cons.mp hp with rfl | hp
  · exact ⟨h1, h3, relabel_cell h2 eo.kind h3, h4.trans h5.symm⟩
  · exact t p hp
theorem cellOf_is {x : Str} {c : Addr} (h : env.cells.lookup x = some c) : cellOf env x = pure c := by
  unfold cellOf
  rw [h]
theorem swaps_cell {elt : Expr} {cs : List Comprehension} {scope : Scope} {pos tp : Pos} {t : Str} {line : Nat} (h : env.kindOf t = some .cell) : swapsWith (.ListComp elt cs scope pos) (some (.Name t tp)) line env = pure false := by
  unfold swapsWith
  show pure (env.blockKind == .function && env.kindOf t == some .local && _ && _) = _
  rw [h, show ((some NameKind.cell : Option NameKind) == some .local) = false from rfl, Bool.and_false, Bool.false_and, Bool.false_and]
theorem swaps_loc {elt : Expr} {cs : List Comprehension} {scope : Scope} {pos tp : Pos} {t : Str} {line : Nat} (eo : EnvOk env) (h : env.kindOf t = some .local) (h2 : (tp.line == pos.line && !(scope.names.any fun (n, k) => n == t && (k == .local || k == .cell))) = true) : swapsWith (.ListComp elt cs scope pos) (some (.Name t tp)) line env = pure true := by
  have hb : env.blockKind = .function := by unfold Env.blockKind; rw [eo.kind]; rfl
  unfold swapsWith
  show pure (env.blockKind == .function && env.kindOf t == some .local && tp.line == pos.line && !(scope.names.any fun (n, k) => n == t && (k == .local || k == .cell))) = _
  rw [h, hb, Bool.and_assoc, h2]
  rfl
end
section
variable {w : World} {A : Around} {s₀ s : Shared} {env : Env} {Mu Mu₀ : List Addr} {γ : Gm} {own : Ow} {ss : List Stmt} {Q : Flow → Shared → Prop} {n : Nat}
theorem XS.gen (P : Env → Prop) (h : P env) (eo : EnvOk env) (hA : Aok n A) (sub : ∀ a ∈ Mu₀, a ∈ Mu) (S : ST w s₀ env Mu γ own s)
    (k : ∀ env A Mu, P env → EnvOk env → Aok n A → (∀ a ∈ Mu₀, a ∈ Mu) → ST w s₀ env Mu γ own s → XS w A ss env Q s) : wpAny (MM w) A (execs ss env) Q NoE s :=
  (k env A Mu h eo hA sub S).h
end
set_option maxHeartbeats 8000000 in
theorem law_con (w : World) (script : List Int) (hz : script.length ≤ 2 ^ 20) {cs : List D} {c : Nat → Nat} {ps : List Str} {rg nd : Nat → D} {hl dl : Nat → List Str} {us : Nat → Bool} {tl : Nat → Nat → Tl} (K : LawY w script cs c ps rg nd hl dl us tl) : Con 9 w 136 [D.list (script.map .int)] (.bool true) := by
  intro A Mu s vs hA g mok rs
  obtain ⟨v, rfl, r⟩ := rs.one1
  refine' enter (n := 8) (ds := [D.list (script.map .int)]) (vs := [v]) (names := ["script"]) hA g mok (.cons r .nil) ?ho ?hcd ?hbind ?hlen ?hnd ?hkind ?hco ?hgen ?hk ?h
  case ho => exact rfl
  case hcd => kernel_rfl
  case hbind => exact rfl
  case hlen => rfl
  case hnd => decide
  case hkind => intro L; rfl
  case hco => rfl
  case hgen => rfl
  case hk => rfl
  case h =>
    intro L s₁ eo hA' sub S
    refine XS.gen (LawEnv (L + 1) (L + 2) (L + 3) (L + 4)) ?P eo hA' sub S ?k
    case P =>
      refine ⟨rfl, rfl, rfl, rfl, rfl, rfl, rfl, rfl, fun x hx => ?_, fun x hx => ?_⟩
      · simp only [List.mem_cons, List.not_mem_nil, or_false] at hx
        rcases hx with rfl | rfl | rfl | rfl | rfl | rfl | rfl | rfl | rfl | rfl | rfl <;> rfl
      · simp only [List.mem_cons, List.not_mem_nil, or_false] at hx
        rcases hx with rfl | rfl | rfl | rfl | rfl | rfl | rfl <;> rfl
    clear S sub hA' eo
    generalize L + 1 = cc
    generalize L + 2 = cp
    generalize L + 3 = ca
    generalize L + 4 = cr
    intro env A' Mu' LE eo hA' sub S
    have hps := K.psOk
    have hpl := K.psZ
    have hpp : ps.length ≤ 2 ^ 16 := by omega
    refine XS.assign (x := "cells") (d := .list cs) S (EX.mk (Ev.eqv (cells_ev hA' eo rfl hz _ rfl (LE.glo _ (by decide))) K.cD)) (fun s₂ S₂ => ?_) LE.kd1 rfl
    refine XS.assign (x := "params") (d := .list (ps.map .str)) S₂ ?E0 (fun s₃ S₃ => ?_) LE.kd2 rfl
    case E0 =>
      have h3 := K.cL 3 (by decide)
      have h4 := K.psL
      clear K
      generalize c 3 = c3 at h3 h4
      exact EX.item (ds := [D.list [], .list [.str "b"], .list [.str "arguments", .str "c"]]) (k := ((c3 % 3 : Nat) : Int)) (EX.list (ES.cons (EX.list ES.nil) (ES.cons (EX.list (ES.cons EX.str ES.nil)) (ES.cons (EX.list (ES.cons EX.str (ES.cons EX.str ES.nil))) ES.nil)))) (EX.modN c3 3 (EX.item (ds := cs) (k := ((3 : Nat) : Int)) (EX.name (d := .list cs)) EX.int (by decide) h3)) (by omega) h4 (by omega)
    refine XS.assign (x := "rows") (d := .list (rowsY rg)) S₃ ?E2 (fun s₄ S₄ => ?_) LE.kd4 (swaps_cell LE.rows)
    case E2 =>
      refine EX.comp (cl := [("cells", cc)]) (List.range 3) (fun j => .int ((j : Nat) : Int)) rg (fun j => [("at", .im (.int ((j : Nat) : Int)))]) [("cells", .im (.list cs))] ?hit ?clos (by decide) rfl (by decide) (cap1 eo rfl rfl LE.cells LE.ccells rfl Cap.nil) (by decide) (fun a ha C => Asg.name rfl rfl) (fun j hj C Mu' => ?elt)
      case hit =>
        rw [← rgD_zero]
        exact EI.range1 (q := 3) hA'.hand eo EX.int (by decide) (by decide) (LE.glo _ (by decide))
      case clos =>
        have := cellOf_is LE.ccells
        unfold closureFor
        simp [this]
        try rfl
      case elt =>
        have hj3 : j < 3 := List.mem_range.mp hj
        exact EX.call (x := "_law_statement") (ds := [.int ((c j : Nat) : Int), .int ((j : Int) + 1)]) ((K.stm j hj3).less (by omega)) hA' (eo.comp rfl) (ES.cons (EX.item (ds := cs) (k := ((j : Nat) : Int)) (EX.name (d := .list cs)) (EX.name (d := .int ((j : Nat) : Int))) (by omega) (K.cL j (by omega)) (by omega)) (ES.cons (EX.add (EX.name (d := .int ((j : Nat) : Int))) EX.int) ES.nil)) rfl
    refine XS.assign (x := "pieces") (d := piecesD) S₄ (EX.list (ES.cons (EX.tup (ES.cons EX.int (ES.cons EX.int ES.nil))) (ES.cons (EX.tup (ES.cons EX.int (ES.cons EX.int ES.nil))) (ES.cons (EX.tup (ES.cons EX.int (ES.cons EX.int ES.nil))) (ES.cons (EX.tup (ES.cons EX.int (ES.cons EX.int ES.nil))) (ES.cons (EX.tup (ES.cons EX.int (ES.cons EX.int ES.nil))) (ES.cons (EX.tup (ES.cons EX.int (ES.cons EX.int ES.nil))) ES.nil))))))) (fun s₅ S₅ => ?_) (LE.lo (by decide)) rfl
    have S₅' := S₅.pick (γ' := [("pieces", .im piecesD), ("rows", .im (.list (rowsY rg))), ("params", .im (.list (ps.map .str)))]) ⟨rfl, rfl, rfl, trivial⟩
    clear S₂ S₃ S₄ S₅
    refine XS.assignDict (y := "told") (xs := toldY tl) S₅' hA' eo ?E1 (told_nodup tl) (by unfold toldY; rw [List.length_map, pieces_len]; decide) (fun s₆ S₆ => ?_) (LE.lo (by decide)) (LE.glo _ (by decide)) rfl rfl
    case E1 =>
      refine EX.eqv (EX.comp (cl := [("rows", cr), ("params", cp)]) pieces (fun p => .tup [.int (p.1 : Nat), .int (p.2 : Nat)]) (fun p => .tup [.tup [.int (p.1 : Nat), .int (p.2 : Nat)], (tl p.1 p.2).d]) (fun p => [("end", .im (.int (p.2 : Nat))), ("begin", .im (.int (p.1 : Nat)))]) [("params", .im (.list (ps.map .str))), ("rows", .im (.list (rowsY rg)))]
        (EI.list hA'.hand (EX.name (d := piecesD)) (by rw [List.length_map, pieces_len]; decide)) ?clos (by decide) rfl (by decide) (cap1 eo rfl rfl LE.params LE.cparams rfl (cap1 eo rfl rfl LE.rows LE.crows rfl Cap.nil)) (by rw [pieces_len]; decide) (fun p hp C => Asg.tup hA'.hand rfl rfl rfl) (fun p hp C Mu' => ?elt)) ?eq
      case clos =>
        have h1 := cellOf_is LE.crows
        have h2 := cellOf_is LE.cparams
        unfold closureFor
        simp [h1, h2]
        try rfl
      case eq =>
        unfold toldY
        rw [List.map_map]
        rfl
      case elt =>
        have hT := (K.told p hp).less (Nat.le_add_right 7 1)
        have hb : p.1 ≤ p.2 ∧ p.2 ≤ 3 := by rcases pieces_cases hp with h | h | h | h | h | h <;> (subst h; decide)
        have hS := body_slice rg p.1 p.2 hb.2 hb.1
        have hE := K.rgE
        clear K
        unfold bodyY at hT
        generalize hj : ((List.range 3).drop p.1).take (p.2 - p.1) = js at hT hS
        have hjl : js.length ≤ 3 := by rw [← hj, List.length_take, List.length_drop, List.length_range]; omega
        clear hj
        refine EX.tup (ES.cons (EX.tup (ES.cons EX.name (ES.cons EX.name ES.nil))) (ES.cons (EX.call (x := "_law_told") (ds := [.list (ps.map .str), .list (js.map nd)]) hT hA' (eo.comp rfl) (ES.cons (EX.name (d := .list (ps.map .str))) (ES.cons ?inn ES.nil)) rfl) ES.nil))
        refine EX.comp (cl := []) js rg nd (fun j => [("row", .im (rg j))]) [] (EI.list hA'.hand (EX.slice (ds := rowsY rg) (EX.name (d := .list (rowsY rg))) (EX.name (d := .int (p.1 : Nat))) (EX.name (d := .int (p.2 : Nat))) hS (by rw [rows_len]; decide)) (by rw [List.length_map]; omega)) rfl (by decide) rfl (by decide) Cap.nil (by show _ ≤ 2 ^ 24; omega) (fun a ha C => Asg.name rfl rfl) (fun j hj C Mu' => ?it)
        exact EX.itemT (k := 0) (ds := [nd j, .list ((hl j).map .str), .list ((dl j).map .str), .bool (us j)]) (EX.eqv (EX.name (d := rg j)) (hE j)) EX.int (by decide) rfl
    refine XS.loop2 (x := "at") (y := "row") (enD (rowsY rg)) S₆ hA'.hand (EI.enum hA'.hand eo (EX.name (d := .list (rowsY rg))) (by rw [rows_len]; decide) (LE.glo _ (by decide))) (fun i d e hi Mu₁ io s₇ hsub S₇ => ?turn1) (fun s₈ S₈ => ?_) LE.kd3 (LE.lo (by decide)) (fun _ => rfl)
    case turn1 =>
      obtain ⟨rfl, hg⟩ := enD_get2 hi
      obtain ⟨h3, rfl⟩ := rows_get hg
      have hp := pieces_one h3
      have hgt : (toldY tl).lookup [((i : Nat) : Int), ((i : Nat) : Int) + 1] = some (tl i (i + 1)).d := told_get hp
      have hfl : (tl i (i + 1)).Fl := K.fl _ hp
      have hh := K.held i h3
      have hd := K.decls i h3
      have hds := declsY_snd dl i
      have hdz : (declsY dl i).length = (dl i).length := List.length_map _
      have hdq : (dl i).map (fun x => D.tup [.int ((i : Nat) + 1), .str x]) = (declsY dl i).map pairD := by unfold declsY; rw [List.map_map]; rfl
      have hB := bound_con w ps (declsY dl i) (hl i) (us i) hps (by rw [hds]; exact hd.1) hh.1 (by omega)
      have hO := once_con w (hl i) hh.1 (by omega)
      rw [K.row i h3] at hgt hfl
      rw [K.rgE i] at S₇
      clear K hds hi hg
      generalize declsY dl i = ds at *
      generalize hl i = hls at *
      generalize us i = use at *
      generalize dl i = dls at *
      refine XS.assignTup [("node", _), ("held", _), ("names", _), ("is_used", _)] S₇ hA'.hand (EX.name (d := .tup [nd i, .list (hls.map .str), .list (dls.map .str), .bool use])) rfl ?hk rfl (fun s₈ S₈ => ?_) rfl rfl
      case hk =>
        intro p hp
        simp only [List.mem_cons, List.not_mem_nil, or_false] at hp
        rcases hp with rfl | rfl | rfl | rfl <;> exact LE.lo (by decide)
      have S₉ := S₈.pick (γ' := [("is_used", .im (.bool use)), ("names", .im (.list (dls.map .str))), ("held", .im (.list (hls.map .str))), ("at", .im (.int (i : Nat))), ("told", .dct w (toldY tl)), ("pieces", .im piecesD), ("rows", .im (.list (rowsY rg))), ("params", .im (.list (ps.map .str)))]) ⟨rfl, rfl, rfl, rfl, rfl, rfl, rfl, rfl, trivial⟩
      clear S₇ S₈
      refine XS.comp (cl := [("at", ca)]) dls D.str (fun x => D.tup [.int ((i : Nat) + 1), .str x]) (fun x => [("name", .im (.str x))]) [("at", .im (.int (i : Nat)))] S₉ (swaps_loc eo (LE.loc _ (by decide)) rfl) (EI.list hA'.hand (EX.name (d := .list (dls.map .str))) (by rw [List.length_map]; omega)) ?clos (by decide) rfl (by decide) (cap1 eo rfl rfl LE.at_ LE.cat rfl Cap.nil) (by show _ ≤ 2 ^ 24; omega) (fun a ha C => Asg.name rfl rfl) (fun x hx C Mu' => EX.tup (ES.cons (EX.add (EX.name (d := .int (i : Nat))) EX.int) (ES.cons EX.name ES.nil))) (fun s₁₀ S₁₀ => ?_) (LE.lo (by decide)) (fun _ => rfl)
      case clos =>
        have := cellOf_is LE.cat
        unfold closureFor
        simp [this]
        try rfl
      rw [hdq] at S₁₀
      refine XS.ifNot S₁₀ (ET.eqv (ET.cmp (a := Tl.d ⟨lonce hls, ds, ds, use, boundG ps ds hls use⟩) (b := Tl.d ⟨lonce hls, ds, ds, use, boundG ps ds hls use⟩) (EX.told hA' rfl (ks := [((i : Nat) : Int), ((i : Nat) : Int) + 1]) (EX.tup (ES.cons (EX.name (d := .int (i : Nat))) (ES.cons (EX.add (EX.name (d := .int (i : Nat))) EX.int) ES.nil))) hgt) ?lst (Cmp.neD hA' (Tl.flat hfl) (Tl.flat hfl) (Tl.depth _) (Tl.depth _))) (by rw [Tl.same hfl]; rfl)) (fun s₁₁ S₁₁ => XS.nil ?_)
      case lst =>
        exact EX.list (ES.cons (EX.call (x := "_law_once") (ds := [.list (hls.map .str)]) (hO.con.less (by omega)) hA' eo (ES.cons (EX.name (d := .list (hls.map .str))) ES.nil) (LE.glo _ (by decide))) (ES.cons (EX.name (d := .list (ds.map pairD))) (ES.cons (EX.name (d := .list (ds.map pairD))) (ES.cons (EX.name (d := .bool use)) (ES.cons (EX.call (x := "_law_bound") (ds := [.list (ps.map .str), .list (ds.map pairD), .list (hls.map .str), .bool use]) (hB.con.less (by omega)) hA' eo (ES.cons (EX.name (d := .list (ps.map .str))) (ES.cons (EX.name (d := .list (ds.map pairD))) (ES.cons (EX.name (d := .list (hls.map .str))) (ES.cons (EX.name (d := .bool use)) ES.nil)))) (LE.glo _ (by decide))) ES.nil)))))
      exact S₁₁.pick ⟨rfl, rfl, rfl, rfl, trivial⟩
    refine XS.loop2 (x := "begin") (y := "end") (pieces.map fun p => (.int (p.1 : Nat), .int (p.2 : Nat))) S₈ hA'.hand ?hit2 (fun i d e hi Mu₁ io s₉ hsub S₉ => ?turn2) (fun s₁₀ S₁₀ => ?_) (LE.lo (by decide)) (LE.lo (by decide)) (fun _ => rfl)
    case hit2 =>
      rw [List.map_map]
      exact EI.list hA'.hand (EX.name (d := piecesD)) (by rw [List.length_map, pieces_len]; decide)
    case turn2 =>
      obtain ⟨p, hp, rfl, rfl⟩ := pieces_get hi
      have hlt := pieces_lt hp
      clear hi
      refine XS.loop1 (x := "cut") (rgD ((p.1 : Nat) + 1) (((p.2 : Nat) : Int) - ((p.1 : Nat) + 1)).toNat) S₉ (EI.range2 hA'.hand eo (EX.add (EX.name (d := .int (p.1 : Nat))) EX.int) (EX.name (d := .int (p.2 : Nat))) (by omega) (by omega) (by omega) (LE.glo _ (by decide))) (fun d hd Mu₂ io₂ s₁₀ hsub₂ S₁₀ => ?turn3) (fun s₁₁ S₁₁ => XS.nil ?_) (LE.lo (by decide)) (fun _ => rfl)
      case turn3 =>
        obtain ⟨cut, rfl, h1, h2⟩ := rgD_mem hd
        obtain ⟨m1, m2⟩ := pieces_cut hp h1 h2
        have C := join_con w ps (tl p.1 cut) (tl cut p.2) hps hpp (K.fl _ m1).toOk (K.fl _ m2).toOk
        rw [← K.join p hp cut h1 h2] at C
        have hfl : (tl p.1 p.2).Fl := K.fl p hp
        have g0 : (toldY tl).lookup [((p.1 : Nat) : Int), ((p.2 : Nat) : Int)] = some (tl p.1 p.2).d := told_get hp
        have g1 := told_get (tl := tl) m1
        have g2 := told_get (tl := tl) m2
        clear K hd
        generalize (tl p.1 p.2) = t0 at *
        generalize (tl p.1 cut) = t1 at *
        generalize (tl cut p.2) = t2 at *
        refine XS.ifNot S₁₀ (ET.eqv (ET.cmp (a := t0.d) (b := t0.d) (EX.told hA' rfl (ks := [((p.1 : Nat) : Int), ((p.2 : Nat) : Int)]) (EX.tup (ES.cons (EX.name (d := .int (p.1 : Nat))) (ES.cons (EX.name (d := .int (p.2 : Nat))) ES.nil))) g0) (EX.call (x := "_law_joined") (ds := [.list (ps.map .str), t1.d, t2.d]) (C.less (by omega)) hA' eo (ES.cons (EX.name (d := .list (ps.map .str))) (ES.cons (EX.told hA' rfl (ks := [((p.1 : Nat) : Int), ((cut : Nat) : Int)]) (EX.tup (ES.cons (EX.name (d := .int (p.1 : Nat))) (ES.cons (EX.name (d := .int (cut : Nat))) ES.nil))) g1) (ES.cons (EX.told hA' rfl (ks := [((cut : Nat) : Int), ((p.2 : Nat) : Int)]) (EX.tup (ES.cons (EX.name (d := .int (cut : Nat))) (ES.cons (EX.name (d := .int (p.2 : Nat))) ES.nil))) g2) ES.nil))) (LE.glo _ (by decide))) (Cmp.neD hA' (Tl.flat hfl) (Tl.flat hfl) (Tl.depth _) (Tl.depth _))) (by rw [Tl.same hfl]; rfl)) (fun s₁₁ S₁₁ => XS.nil ?_)
        exact S₁₁.pick ⟨rfl, rfl, rfl, rfl, rfl, rfl, trivial⟩
      exact S₁₁.pick ⟨rfl, rfl, rfl, rfl, trivial⟩
    exact XS.retD S₁₀ sub EX.bool (fun v s' h => h)

end Mine
namespace Mine
open PySem PySem.W PySem.Calls PySem.Spec PyProof.Rows

/-! names, each once -/
theorem snoc_ind {α : Type} {P : List α → Prop} (h0 : P []) (h1 : ∀ xs x, P xs → P (xs ++ [x])) : ∀ xs, P xs := by
  have : ∀ l : List α, P l.reverse := by
    intro l
    induction l with
    | nil => exact h0
    | cons x l ih => rw [List.reverse_cons]; exact h1 _ _ ih
  intro xs
  have := this xs.reverse
  rwa [List.reverse_reverse] at this
theorem mem_once {ss : List Str} {x y : Str} : y ∈ once ss x ↔ y ∈ ss ∨ y = x := by
  unfold once
  split
  · rename_i h
    exact ⟨.inl, fun q => q.elim id fun e => e ▸ h⟩
  · simp
theorem mem_onces (xs : List Str) : ∀ (ss : List Str) (y : Str), y ∈ xs.foldl once ss ↔ y ∈ ss ∨ y ∈ xs := by
  induction xs with
  | nil => intro ss y; simp
  | cons x xs ih => intro ss y; rw [List.foldl_cons, ih, mem_once, List.mem_cons, or_assoc]
theorem mem_onces0 (xs : List Str) (y : Str) : y ∈ xs.foldl once [] ↔ y ∈ xs := (mem_onces xs [] y).trans ⟨fun q => q.elim (fun z => nomatch z) id, .inr⟩
theorem once_pos {ss : List Str} {x : Str} (h : x ∈ ss) : once ss x = ss := if_pos h
theorem once_neg {ss : List Str} {x : Str} (h : x ∉ ss) : once ss x = ss ++ [x] := if_neg h
theorem lonce_snoc (xs : List Str) (x : Str) : lonce (xs ++ [x]) = if x ∈ xs then lonce xs else lonce xs ++ [x] := by
  unfold lonce
  rw [List.zipIdx_append, List.filter_append, List.map_append]
  have h1 : (xs.zipIdx.filter fun p => !decide (p.1 ∈ (xs ++ [x]).take p.2)) = xs.zipIdx.filter fun p => !decide (p.1 ∈ xs.take p.2) := by
    refine List.filter_congr fun p hp => ?_
    obtain ⟨i, hi, e⟩ := List.getElem_of_mem hp
    rw [List.getElem_zipIdx] at e
    rw [List.length_zipIdx] at hi
    subst e
    dsimp only
    rw [List.take_append_of_le_length (by omega)]
  rw [h1]
  by_cases h : x ∈ xs
  · simp [h]
  · simp [h]
theorem lonce_eq (xs : List Str) : lonce xs = xs.foldl once [] := by
  refine snoc_ind (P := fun xs => lonce xs = xs.foldl once []) rfl (fun xs x ih => ?_) xs
  rw [lonce_snoc, List.foldl_append, ih]
  show _ = once (xs.foldl once []) x
  by_cases h : x ∈ xs
  · rw [if_pos h, once_pos ((mem_onces0 xs x).mpr h)]
  · rw [if_neg h, once_neg fun q => h ((mem_onces0 xs x).mp q)]
theorem onces_onces (xs acc : List Str) : (xs.foldl once []).foldl once acc = xs.foldl once acc := by
  refine snoc_ind (P := fun xs => (xs.foldl once []).foldl once acc = xs.foldl once acc) rfl (fun xs x ih => ?_) xs
  rw [List.foldl_append, List.foldl_append]
  show List.foldl once acc (once (xs.foldl once []) x) = once (xs.foldl once acc) x
  by_cases h : x ∈ xs
  · rw [once_pos ((mem_onces0 xs x).mpr h), ih, once_pos ((mem_onces xs acc x).mpr (.inr h))]
  · rw [once_neg fun q => h ((mem_onces0 xs x).mp q), List.foldl_append, ih]; rfl
theorem onces_filter (ys acc : List Str) : ys.foldl once acc = acc ++ (ys.foldl once []).filter (fun x => !decide (x ∈ acc)) := by
  refine snoc_ind (P := fun ys => ys.foldl once acc = acc ++ (ys.foldl once []).filter (fun x => !decide (x ∈ acc))) (by simp) (fun ys y ih => ?_) ys
  rw [List.foldl_append, List.foldl_append]
  show once (ys.foldl once acc) y = acc ++ (once (ys.foldl once []) y).filter _
  have h2 := mem_onces ys acc y
  by_cases h : y ∈ ys
  · rw [once_pos (h2.mpr (.inr h)), once_pos ((mem_onces0 ys y).mpr h), ih]
  · rw [once_neg (ss := List.foldl once [] ys) fun q => h ((mem_onces0 ys y).mp q), List.filter_append, ← List.append_assoc, ← ih]
    by_cases k : y ∈ acc
    · rw [once_pos (h2.mpr (.inl k))]; simp [k]
    · rw [once_neg fun q => (h2.mp q).elim k h]; simp [k]

/-! functions, of one name the last -/
theorem lasts_app (fa fb : List D) : lasts (fa ++ fb) = (lasts fa).filter (fun d => !decide (d.fname ∈ fb.map D.fname)) ++ lasts fb := by
  induction fa with
  | nil => rfl
  | cons d fa ih =>
    rw [List.cons_append, lasts, lasts, List.map_append]
    by_cases h : d.fname ∈ fa.map D.fname
    · rw [if_pos (List.mem_append_left _ h), if_pos h, ih]
    · rw [if_neg h, List.filter_cons]
      by_cases k : d.fname ∈ fb.map D.fname
      · rw [if_pos (List.mem_append_right _ k), ih, decide_eq_true k]; rfl
      · rw [if_neg fun q => (List.mem_append.mp q).elim h k, ih, decide_eq_false k]; rfl
theorem prD_snd (fs : List D) : (fs.map prD).map (·.2) = fs.map D.fname := by rw [List.map_map]; rfl

/-! a body -/
theorem bindD_eq (ps : List Str) (ds : List D) : bindD ps ds = boundG ps ((ds.filter D.isDecl).map prD) (((D.preL ds).flatMap D.vnames).foldl once []) ((D.preL ds).any (D.isName "arguments")) := by
  have hn : needsD ps ds = (((D.preL ds).any (D.isName "arguments") || decide (("arguments" : Str) ∈ ((D.preL ds).flatMap D.vnames).foldl once [])) && !decide (("arguments" : Str) ∈ ps ++ (ds.filter D.isDecl).map D.fname)) := by
    unfold needsD
    by_cases h : ("arguments" : Str) ∈ ps ++ (ds.filter D.isDecl).map D.fname
    · rw [if_pos (List.mem_append.mp h), decide_eq_true h, Bool.not_true, Bool.and_false]
    · rw [if_neg (fun q => h (List.mem_append.mpr q)), decide_eq_false h, Bool.not_false, Bool.and_true]
  unfold bindD boundG
  rw [lonce_eq, List.foldl_append, List.foldl_append, List.foldl_append, prD_snd, hn]
theorem boundG_once (ps : List Str) (decls : List (Int × Str)) (held : List Str) (used : Bool) : boundG ps decls (held.foldl once []) used = boundG ps decls held used := by
  unfold boundG
  have : decide (("arguments" : Str) ∈ held.foldl once []) = decide (("arguments" : Str) ∈ held) := decide_eq_decide.mpr (mem_onces0 held _)
  rw [this, lonce_eq, lonce_eq, List.foldl_append, List.foldl_append, onces_onces, List.foldl_append, List.foldl_append, List.foldl_append, List.foldl_append]
theorem toldT_app (ps : List Str) (a b : List D) : toldT ps (a ++ b) = joinG ps (toldT ps a) (toldT ps b) := by
  have e1 : ((D.preL (a ++ b)).flatMap D.vnames).foldl once [] = (toldT ps a).vars ++ (toldT ps b).vars.filter (fun x => !decide (x ∈ (toldT ps a).vars)) := by
    rw [preL_app, List.flatMap_append, List.foldl_append]
    exact onces_filter _ _
  have e2 : ((a ++ b).filter D.isDecl).map prD = (toldT ps a).decls ++ (toldT ps b).decls := by rw [List.filter_append, List.map_append]; rfl
  have e3 : (lasts ((a ++ b).filter D.isDecl)).map prD = (toldT ps a).last.filter (fun p => !decide (p.2 ∈ (toldT ps b).decls.map (·.2))) ++ (toldT ps b).last := by
    rw [List.filter_append, lasts_app, List.map_append]
    congr 1
    show _ = ((lasts (a.filter D.isDecl)).map prD).filter _
    rw [List.filter_map]
    congr 1
    refine List.filter_congr fun d _ => ?_
    show _ = !decide (d.fname ∈ (((b.filter D.isDecl).map prD).map (·.2)))
    rw [prD_snd]
  have e4 : (D.preL (a ++ b)).any (D.isName "arguments") = ((toldT ps a).named || (toldT ps b).named) := by rw [preL_app, List.any_append]; rfl
  unfold joinG
  rw [← e1, ← e2, ← e3, ← e4, ← bindD_eq]
  rfl

/-! what a node's own nodes declare and use -/
structure WOk (d : D) (held : List Str) (used : Bool) (n : Nat) : Prop where
  wt : d.wt ≤ n
  var : ∀ x ∈ d.pre, VarOk x
  nam : ∀ x ∈ d.pre, NameOk x
  vn : d.pre.flatMap D.vnames = held
  any : d.pre.any (D.isName "arguments") = used
structure WLk (ds : List D) (held : List Str) (used : Bool) (n : Nat) : Prop where
  wt : D.wtL ds ≤ n
  var : ∀ x ∈ D.preL ds, VarOk x
  nam : ∀ x ∈ D.preL ds, NameOk x
  vn : (D.preL ds).flatMap D.vnames = held
  any : (D.preL ds).any (D.isName "arguments") = used
theorem WLk.nil : WLk [] [] false 0 := ⟨Nat.le_refl _, (fun _ h => nomatch h), (fun _ h => nomatch h), rfl, rfl⟩
theorem WLk.cons {d : D} {ds : List D} {h h' : List Str} {u u' : Bool} {n n' : Nat} (a : WOk d h u n) (b : WLk ds h' u' n') : WLk (d :: ds) (h ++ h') (u || u') (n + n') := by
  refine ⟨?_, fun x hx => ?_, fun x hx => ?_, ?_, ?_⟩
  · rw [D.wtL]; exact Nat.add_le_add a.wt b.wt
  · rw [D.preL] at hx; exact (List.mem_append.mp hx).elim (a.var x) (b.var x)
  · rw [D.preL] at hx; exact (List.mem_append.mp hx).elim (a.nam x) (b.nam x)
  · rw [D.preL, List.flatMap_append, a.vn, b.vn]
  · rw [D.preL, List.any_append, a.any, b.any]
theorem WLk.eqv {ds : List D} {h h' : List Str} {u u' : Bool} {n n' : Nat} (a : WLk ds h u n) (e : h = h') (e2 : u = u') (e3 : n ≤ n') : WLk ds h' u' n' := by
  subst e; subst e2; exact ⟨Nat.le_trans a.wt e3, a.var, a.nam, a.vn, a.any⟩
theorem WOk.eqv {d : D} {h h' : List Str} {u u' : Bool} {n n' : Nat} (a : WOk d h u n) (e : h = h') (e2 : u = u') (e3 : n ≤ n') : WOk d h' u' n' := by
  subst e; subst e2; exact ⟨Nat.le_trans a.wt e3, a.var, a.nam, a.vn, a.any⟩
theorem WOk.list {ds : List D} {h : List Str} {u : Bool} {n : Nat} (a : WLk ds h u n) : WOk (.list ds) h u (n + 1) := by
  refine ⟨?_, ?_, ?_, ?_, ?_⟩
  · rw [D.wt]; exact Nat.succ_le_succ a.wt
  · rw [D.pre]; exact a.var
  · rw [D.pre]; exact a.nam
  · rw [D.pre]; exact a.vn
  · rw [D.pre]; exact a.any
theorem WOk.tup {ds : List D} {h : List Str} {u : Bool} {n : Nat} (a : WLk ds h u n) : WOk (.tup ds) h u (n + 1) := by
  refine ⟨?_, ?_, ?_, ?_, ?_⟩
  · rw [D.wt]; exact Nat.succ_le_succ a.wt
  · rw [D.pre]; exact a.var
  · rw [D.pre]; exact a.nam
  · rw [D.pre]; exact a.vn
  · rw [D.pre]; exact a.any
theorem WOk.str {x : Str} : WOk (.str x) [] false 1 := ⟨Nat.le_refl _, (fun _ h => nomatch h), (fun _ h => nomatch h), rfl, rfl⟩
theorem WOk.none : WOk .none [] false 1 := ⟨Nat.le_refl _, (fun _ h => nomatch h), (fun _ h => nomatch h), rfl, rfl⟩
/-- a node of no name of its own -/
theorem WOk.node {k : Str} {ln : Int} {ps : List D} {h : List Str} {u : Bool} {n : Nat} (a : WLk ps h u n) (h1 : k ≠ "Var" := by decide) (h2 : k ≠ "Name" := by decide) (h3 : k ≠ "Function" := by decide) : WOk (.node k ln ps) h u (n + 1) := by
  have e : (D.node k ln ps).pre = .node k ln ps :: D.preL ps := by rw [D.pre, if_neg h3]
  refine ⟨?_, fun x hx => ?_, fun x hx => ?_, ?_, ?_⟩
  · rw [D.wt]; exact Nat.succ_le_succ a.wt
  · rw [e] at hx
    rcases List.mem_cons.mp hx with rfl | hx
    · intro k' ln' ps' q z; cases q; exact absurd z h1
    · exact a.var x hx
  · rw [e] at hx
    rcases List.mem_cons.mp hx with rfl | hx
    · intro k' ln' ps' q z; cases q; exact absurd z h2
    · exact a.nam x hx
  · rw [e, List.flatMap_cons, vnames_not h1, a.vn]; rfl
  · rw [e, List.any_cons, isName_not h2, a.any]; rfl
theorem WOk.vars {ln : Int} {prs : List (Str × D)} {h : List Str} {u : Bool} {n : Nat} (a : WLk (prs.map fun p => .tup [.str p.1, p.2]) h u n) (hz : prs.length ≤ 2 ^ 20) : WOk (.node "Var" ln [.list (prs.map fun p => .tup [.str p.1, p.2])]) (prs.map (·.1) ++ h) u (n + 2) := by
  have b := (WLk.cons (WOk.list a) WLk.nil)
  have e : (D.node "Var" ln [.list (prs.map fun p => .tup [.str p.1, p.2])]).pre = .node "Var" ln [.list (prs.map fun p => .tup [.str p.1, p.2])] :: D.preL [.list (prs.map fun p => .tup [.str p.1, p.2])] := by rw [D.pre, if_neg (by decide)]
  refine ⟨?_, fun x hx => ?_, fun x hx => ?_, ?_, ?_⟩
  · rw [D.wt]; have := b.wt; omega
  · rw [e] at hx
    rcases List.mem_cons.mp hx with rfl | hx
    · intro k' ln' ps' q z; cases q; exact ⟨prs, [], rfl, hz⟩
    · exact b.var x hx
  · rw [e] at hx
    rcases List.mem_cons.mp hx with rfl | hx
    · intro k' ln' ps' q z; cases q; exact absurd z (by decide)
    · exact b.nam x hx
  · rw [e, List.flatMap_cons, vnames_var, b.vn, List.append_nil]
  · rw [e, List.any_cons, isName_not (by decide), b.any, Bool.or_false, Bool.false_or]
theorem WOk.name {ln : Int} {nm : Str} : WOk (.node "Name" ln [.str nm]) [] (nm == "arguments") 2 := by
  have e : (D.node "Name" ln [.str nm]).pre = [.node "Name" ln [.str nm]] := by rw [D.pre, if_neg (by decide)]; rfl
  refine ⟨Nat.le_refl _, fun x hx => ?_, fun x hx => ?_, ?_, ?_⟩
  · rw [e, List.mem_singleton] at hx
    subst hx
    intro k' ln' ps' q z; cases q; exact absurd z (by decide)
  · rw [e, List.mem_singleton] at hx
    subst hx
    intro k' ln' ps' q z; cases q; exact ⟨nm, [], rfl⟩
  · rw [e]; rfl
  · rw [e, List.any_cons, D.isName]; simp
theorem WOk.fn {ln : Int} {ps : List D} : WOk (.node "Function" ln ps) [] false (D.wtL ps + 1) := by
  have e : (D.node "Function" ln ps).pre = [.node "Function" ln ps] := by rw [D.pre, if_pos rfl]
  refine ⟨by rw [D.wt]; exact Nat.le_refl _, fun x hx => ?_, fun x hx => ?_, ?_, ?_⟩
  · rw [e, List.mem_singleton] at hx
    subst hx
    intro k' ln' ps' q z; cases q; exact absurd z (by decide)
  · rw [e, List.mem_singleton] at hx
    subst hx
    intro k' ln' ps' q z; cases q; exact absurd z (by decide)
  · rw [e, List.flatMap_cons, vnames_not (by decide)]; rfl
  · rw [e, List.any_cons, isName_not (by decide)]; rfl
end Mine
namespace Mine
open PySem PySem.W PySem.Calls PySem.Spec PyProof.Rows

theorem this_ok : WOk thisD [] false 1 := WOk.node WLk.nil
/-- what stands around a node declares and uses nothing -/
theorem wth_ok {nd : D} {h : List Str} {u : Bool} {n : Nat} (a : WOk nd h u n) {f : Nat} (hf : f < 10) : WOk (wth nd f) h u (n + 20) := by
  match f, hf with
  | 0, _ => exact a.eqv rfl rfl (by omega)
  | 1, _ => exact (WOk.node (WLk.cons (WOk.list (WLk.cons a WLk.nil)) WLk.nil)).eqv (by simp) (by simp) (by omega)
  | 2, _ => exact (WOk.node (WLk.cons this_ok (WLk.cons a WLk.nil))).eqv (by simp) (by simp) (by omega)
  | 3, _ => exact (WOk.node (WLk.cons this_ok (WLk.cons a (WLk.cons WOk.none WLk.nil)))).eqv (by simp) (by simp) (by omega)
  | 4, _ => exact (WOk.node (WLk.cons WOk.str (WLk.cons a WLk.nil))).eqv (by simp) (by simp) (by omega)
  | 5, _ => exact (WOk.node (WLk.cons (WOk.list WLk.nil) (WLk.cons WOk.str (WLk.cons (WOk.list (WLk.cons a WLk.nil)) (WLk.cons WOk.none WLk.nil))))).eqv (by simp) (by simp) (by omega)
  | 6, _ => exact (WOk.node (WLk.cons (WOk.list (WLk.cons a WLk.nil)) (WLk.cons WOk.none (WLk.cons WOk.none (WLk.cons (WOk.list WLk.nil) WLk.nil))))).eqv (by simp) (by simp) (by omega)
  | 7, _ => exact (WOk.node (WLk.cons this_ok (WLk.cons (WOk.list (WLk.cons (WOk.tup (WLk.cons WOk.none (WLk.cons (WOk.list (WLk.cons a WLk.nil)) WLk.nil))) WLk.nil)) WLk.nil))).eqv (by simp) (by simp) (by omega)
  | 8, _ => exact (WOk.node (WLk.cons a (WLk.cons this_ok WLk.nil))).eqv (by simp) (by simp) (by omega)
  | 9, _ => exact (WOk.node (WLk.cons WOk.none (WLk.cons WOk.none (WLk.cons WOk.none (WLk.cons a WLk.nil))))).eqv (by simp) (by simp) (by omega)
/-- a node that is no function -/
def Plain (d : D) : Prop := ∃ k ln ps, d = .node k ln ps ∧ k ≠ "Function"
theorem wth_plain {nd : D} {f : Nat} (hf : f < 10) (h0 : f ≠ 0 ∨ Plain nd) : Plain (wth nd f) := by
  match f, hf with
  | 0, _ => exact h0.elim (fun h => absurd rfl h) id
  | 1, _ => exact ⟨_, _, _, rfl, by decide⟩
  | 2, _ => exact ⟨_, _, _, rfl, by decide⟩
  | 3, _ => exact ⟨_, _, _, rfl, by decide⟩
  | 4, _ => exact ⟨_, _, _, rfl, by decide⟩
  | 5, _ => exact ⟨_, _, _, rfl, by decide⟩
  | 6, _ => exact ⟨_, _, _, rfl, by decide⟩
  | 7, _ => exact ⟨_, _, _, rfl, by decide⟩
  | 8, _ => exact ⟨_, _, _, rfl, by decide⟩
  | 9, _ => exact ⟨_, _, _, rfl, by decide⟩
/-- a statement as it was built -/
structure StG (d : D) (b : Stm) (ln : Int) : Prop where
  w : WOk d b.held b.used 100
  fn : FnOk d
  dec : (d.isDecl = false ∧ b.decls = []) ∨ (d.isDecl = true ∧ b.decls = [d.fname] ∧ d.fline = ln)
  held : SsOk b.held
  zh : b.held.length ≤ 2
  decls : SsOk b.decls
  zd : b.decls.length ≤ 1
theorem StG.plain {d : D} {b : Stm} {ln : Int} (w : WOk d b.held b.used 100) (p : Plain d) (hd : b.decls = []) (h : SsOk b.held) (z : b.held.length ≤ 2) : StG d b ln := by
  obtain ⟨k, l, ps, rfl, hk⟩ := p
  exact ⟨w, ⟨k, l, ps, rfl, fun e => absurd e hk⟩, .inl ⟨isDecl_not hk, hd⟩, h, z, by rw [hd]; exact nil_ok, by rw [hd]; exact Nat.zero_le _⟩
theorem str_a : PyData.strOk "a" = true := by decide +kernel
theorem str_b : PyData.strOk "b" = true := by decide +kernel
theorem str_c : PyData.strOk "c" = true := by decide +kernel
/-- the bare statement -/
theorem bare_ok {k : Nat} {nm : Str} {top : Bool} {ln : Int} (hn : PyData.strOk nm = true) : WOk (bareG k nm top ln).node (bareG k nm top ln).held (bareG k nm top ln).used 40 ∧ SsOk (bareG k nm top ln).held ∧ (bareG k nm top ln).held.length ≤ 2 ∧
    ((Plain (bareG k nm top ln).node ∧ (bareG k nm top ln).decls = []) ∨ (top = true ∧ (bareG k nm top ln).node = fnOfS nm true ln ∧ (bareG k nm top ln).decls = [nm])) := by
  have vr : ∀ x, WOk (.node "Var" ln [.list [.tup [.str x, .none]]]) [x] false 10 := fun x => (WOk.vars (prs := [(x, .none)]) (WLk.cons (WOk.tup (WLk.cons WOk.str (WLk.cons WOk.none WLk.nil))) WLk.nil) (by show 1 ≤ 2 ^ 20; decide)).eqv (by simp) (by simp) (by omega)
  have fo : ∀ t, WOk (fnOfS nm t ln) [] false 30 := fun t => WOk.fn.eqv rfl rfl (by cases t <;> (show _ ≤ 30; simp [D.wtL, D.wt]))
  unfold bareG
  split
  · exact ⟨(vr nm).eqv rfl rfl (by omega), SsOk.one hn, by show 1 ≤ 2; decide, .inl ⟨⟨_, _, _, rfl, by decide⟩, rfl⟩⟩
  · split
    · exact ⟨(WOk.node (WLk.cons WOk.name WLk.nil)).eqv (by simp) (by simp) (by omega), nil_ok, Nat.zero_le _, .inl ⟨⟨_, _, _, rfl, by decide⟩, rfl⟩⟩
    · split
      · split
        · rename_i ht
          subst ht
          exact ⟨(fo true).eqv rfl rfl (by omega), nil_ok, Nat.zero_le _, .inr ⟨rfl, rfl, rfl⟩⟩
        · exact ⟨(WOk.node (WLk.cons (fo top) WLk.nil)).eqv (by simp) (by simp) (by omega), nil_ok, Nat.zero_le _, .inl ⟨⟨_, _, _, rfl, by decide⟩, rfl⟩⟩
      · split
        · refine ⟨(WOk.vars (prs := [("a", .node "Name" ln [.str nm]), (nm, .none)]) (WLk.cons (WOk.tup (WLk.cons WOk.str (WLk.cons WOk.name WLk.nil))) (WLk.cons (WOk.tup (WLk.cons WOk.str (WLk.cons WOk.none WLk.nil))) WLk.nil)) (by show 2 ≤ 2 ^ 20; decide)).eqv (by simp) (by simp) (by omega), ?_, by show 2 ≤ 2; decide, .inl ⟨⟨_, _, _, rfl, by decide⟩, rfl⟩⟩
          intro x hx
          rcases List.mem_cons.mp hx with rfl | hx
          · exact str_a
          · rw [List.mem_singleton.mp hx]; exact hn
        · exact ⟨(WOk.node (WLk.cons (vr nm) (WLk.cons WOk.name (WLk.cons (WOk.node WLk.nil) WLk.nil)))).eqv (by simp) (by simp) (by omega), SsOk.one hn, by show 1 ≤ 2; decide, .inl ⟨⟨_, _, _, rfl, by decide⟩, rfl⟩⟩
theorem full_ok {k : Nat} {nm : Str} {f1 f2 : Nat} {ln : Int} (hn : PyData.strOk nm = true) (h1 : f1 < 10) (h2 : f2 < 10) : StG (fullG k nm f1 f2 ln) (bareG k nm (f1 == 0 && f2 == 0) ln) ln := by
  obtain ⟨w, hh, hz, hd⟩ := bare_ok (k := k) (nm := nm) (top := f1 == 0 && f2 == 0) (ln := ln) hn
  have w2 := (wth_ok (wth_ok w h1) h2).eqv (n' := 100) rfl rfl (by omega)
  rcases hd with ⟨p, hd⟩ | ⟨ht, hnode, hd⟩
  · exact StG.plain w2 (wth_plain h2 (.inr (wth_plain h1 (.inr p)))) hd hh hz
  · rw [Bool.and_eq_true, beq_iff_eq, beq_iff_eq] at ht
    obtain ⟨rfl, rfl⟩ := ht
    have e : fullG k nm 0 0 ln = fnOfS nm true ln := hnode
    refine ⟨w2, ?_, .inr ?_, hh, hz, ?_, ?_⟩
    · rw [e]
      exact ⟨_, _, _, rfl, fun _ => ⟨_, _, _, _, _, rfl, hn⟩⟩
    · rw [e]
      exact ⟨rfl, hd, rfl⟩
    · rw [hd]; exact SsOk.one hn
    · rw [hd]; exact Nat.le_refl _

/-! bodies of such statements -/
def BG (ds : List D) : Prop := ∀ d ∈ ds, ∃ b ln, StG d b ln
theorem BG.wlk {ds : List D} (g : BG ds) : ∃ h u, WLk ds h u (100 * ds.length) ∧ SsOk h ∧ h.length ≤ 2 * ds.length := by
  induction ds with
  | nil => exact ⟨[], false, WLk.nil, nil_ok, Nat.le_refl _⟩
  | cons d ds ih =>
    obtain ⟨h, u, w, ok, z⟩ := ih fun x hx => g x (.tail _ hx)
    obtain ⟨b, ln, s⟩ := g d (.head _)
    refine ⟨_, _, (WLk.cons s.w w).eqv rfl rfl (by rw [List.length_cons]; omega), s.held.append ok, ?_⟩
    rw [List.length_append, List.length_cons]
    have := s.zh
    omega
theorem BG.ok {ds : List D} (g : BG ds) (hz : ds.length ≤ 3) : BodyOk ds := by
  obtain ⟨h, u, w, ok, z⟩ := g.wlk
  refine ⟨Nat.le_trans w.wt (by omega), w.var, w.nam, fun x hx => let ⟨b, ln, s⟩ := g x hx; s.fn, ?_, ?_⟩
  · rw [w.vn]; omega
  · rw [w.vn]; exact ok
theorem BG.fl {ds : List D} {ps : List Str} (g : BG ds) (hz : ds.length ≤ 3) (hps : SsOk ps) : (toldT ps ds).Fl := by
  obtain ⟨h, u, w, ok, z⟩ := g.wlk
  have b := g.ok hz
  have hdo := decls_ok b
  have hfl := List.length_filter_le D.isDecl ds
  have hll := lasts_len (ds.filter D.isDecl)
  have hv : SsOk (((D.preL ds).flatMap D.vnames).foldl once []) := by rw [w.vn]; exact onces_ok _ _ nil_ok ok
  have hvl : (((D.preL ds).flatMap D.vnames).foldl once []).length ≤ 6 := by
    rw [w.vn]
    have := onces_len h []
    rw [List.length_nil] at this
    omega
  have hds : SsOk ((ds.filter D.isDecl).map D.fname) := fnames_ok hdo
  refine ⟨⟨hv, ?_, ?_, ?_, ?_, ?_⟩, ?_⟩
  · show SsOk (((ds.filter D.isDecl).map prD).map (·.2))
    rw [prD_snd]; exact hds
  · show SsOk (((lasts (ds.filter D.isDecl)).map prD).map (·.2))
    rw [prD_snd]; exact fnames_ok fun x hx => hdo x (lasts_sub _ x hx)
  · show (((D.preL ds).flatMap D.vnames).foldl once []).length ≤ _
    omega
  · show ((ds.filter D.isDecl).map prD).length ≤ _
    rw [List.length_map]; omega
  · show ((lasts (ds.filter D.isDecl)).map prD).length ≤ _
    rw [List.length_map]; omega
  · show SsOk (bindD ps ds)
    unfold bindD
    refine onces_ok _ _ (onces_ok _ _ (onces_ok _ _ (onces_ok _ _ nil_ok hps) hds) ?_) hv
    split
    · exact SsOk.one argsOk_str
    · exact nil_ok
/-- a body of one statement: as it was built, whatever stands around it -/
theorem StG.row {d : D} {b : Stm} {ln : Int} (s : StG d b ln) (ps : List Str) : toldT ps [d] = ⟨lonce b.held, b.decls.map fun n => (ln, n), b.decls.map fun n => (ln, n), b.used, boundG ps (b.decls.map fun n => (ln, n)) b.held b.used⟩ := by
  have w := (WLk.cons s.w WLk.nil)
  rw [List.append_nil, Bool.or_false] at w
  have e : (([d] : List D).filter D.isDecl).map prD = (b.decls.map fun n => (ln, n)) ∧ (lasts (([d] : List D).filter D.isDecl)).map prD = (b.decls.map fun n => (ln, n)) := by
    rcases s.dec with ⟨h1, h2⟩ | ⟨h1, h2, h3⟩
    · rw [List.filter_cons, h1, h2]; exact ⟨rfl, rfl⟩
    · rw [List.filter_cons, h1, h2, ← h3]; exact ⟨rfl, rfl⟩
  unfold toldT
  rw [bindD_eq, e.1, e.2, w.vn, w.any, boundG_once, lonce_eq]
end Mine
namespace Mine
open PySem PySem.W PySem.Calls PySem.Spec PyProof.Rows

theorem nameAt_ok (c : Nat) : PyData.strOk (nameAt c) = true := by
  unfold nameAt
  have h : c / 5 % 4 < 4 := Nat.mod_lt _ (by decide)
  generalize c / 5 % 4 = m at h
  match m, h with
  | 0, _ => exact str_a
  | 1, _ => exact str_b
  | 2, _ => exact argsOk_str
  | 3, _ => exact str_c
theorem ps_ok (c : Nat) : SsOk (psOf c) := by
  unfold psOf
  have h : c % 3 < 3 := Nat.mod_lt _ (by decide)
  generalize c % 3 = m at h
  match m, h with
  | 0, _ => exact nil_ok
  | 1, _ => exact SsOk.one str_b
  | 2, _ =>
    intro x hx
    rcases List.mem_cons.mp hx with rfl | hx
    · exact argsOk_str
    · rw [List.mem_singleton.mp hx]; exact str_c
theorem stg_ok (script : List Int) (j : Nat) : StG (nodeG script j) (rowB script j) ((j : Int) + 1) := full_ok (nameAt_ok _) (Nat.mod_lt _ (by decide)) (Nat.mod_lt _ (by decide))
theorem body_bg (script : List Int) (b e : Nat) : BG (bodyY (nodeG script) b e) := fun d hd => by
  unfold bodyY at hd
  obtain ⟨j, _, rfl⟩ := List.mem_map.mp hd
  exact ⟨_, _, stg_ok script j⟩
theorem body_len (nd : Nat → D) (b e : Nat) : (bodyY nd b e).length ≤ 3 := by
  unfold bodyY
  rw [List.length_map, List.length_take, List.length_drop, List.length_range]
  omega
theorem body_one (nd : Nat → D) {j : Nat} (h : j < 3) : bodyY nd j (j + 1) = [nd j] := by
  match j, h with
  | 0, _ => rfl
  | 1, _ => rfl
  | 2, _ => rfl
theorem body_cut (nd : Nat → D) {p : Nat × Nat} (h : p ∈ pieces) {c : Nat} (h1 : p.1 < c) (h2 : c < p.2) : bodyY nd p.1 p.2 = bodyY nd p.1 c ++ bodyY nd c p.2 := by
  have hc : c = 1 ∨ c = 2 := by have := pieces_lt h; omega
  obtain ⟨a, b⟩ := p
  dsimp only at h1 h2 ⊢
  rcases pieces_cases h with e | e | e | e | e | e <;> (cases e; rcases hc with rfl | rfl <;> first | rfl | omega)
theorem law_ok (w : World) (script : List Int) : LawY w script ((cellsOf script).map fun c : Nat => .int (c : Int)) (cj script) (psOf (cj script 3)) (rowG script) (nodeG script) (fun j => (rowB script j).held) (fun j => (rowB script j).decls) (fun j => (rowB script j).used) (fun b e => toldT (psOf (cj script 3)) (bodyY (nodeG script) b e)) where
  cD := rfl
  cL := fun j hj => by rw [List.getElem?_map, cells_get script hj]; rfl
  psL := ps_get _
  psOk := ps_ok _
  psZ := ps_len _
  stm := fun j _ => stm_con w (cj script j) ((j : Int) + 1)
  rgE := fun j => rfl
  told := fun p _ => told_con w _ _ (ps_ok _) (by have := ps_len (cj script 3); omega) ((body_bg script p.1 p.2).ok (body_len _ _ _))
  fl := fun p _ => (body_bg script p.1 p.2).fl (body_len _ _ _) (ps_ok _)
  row := fun j hj => by
    show toldT _ (bodyY (nodeG script) j (j + 1)) = _
    rw [body_one _ hj]
    exact (stg_ok script j).row _
  join := fun p hp c h1 h2 => by
    show toldT _ (bodyY (nodeG script) p.1 p.2) = _
    rw [body_cut _ hp h1 h2]
    exact toldT_app _ _ _
  held := fun j _ => ⟨(stg_ok script j).held, (stg_ok script j).zh⟩
  decls := fun j _ => ⟨(stg_ok script j).decls, by have := (stg_ok script j).zd; omega⟩
theorem law_true (w : World) (script : List Int) (hz : script.length ≤ 2 ^ 20) : Con 9 w 136 [.list (script.map .int)] (.bool true) := law_con w script hz (law_ok w script)
end Mine
namespace Mine
open PySem PySem.W PySem.Calls PySem.Spec PyProof.Rows
theorem loose_nil : looseW Mine.hd.view_39 [] = [] := by kernel_rfl
theorem law_at (w : World) : nsIn (KK w) mainGlobals "law" = some (some (.ref 136)) := by kernel_rfl
theorem well_ints {P : Params} {h : Heap} {I : Im} : ∀ {is : List Int} {vs : List Value}, WellAll P h vs (ofPys (is.map PyData.int)) → Rps I vs (is.map .int)
  | [], _, r => by
    rw [List.map_nil, ofPys] at r
    cases r; exact .nil
  | i :: is, _, r => by
    rw [List.map_cons, ofPys, ofPy] at r
    cases r with
    | cons a b =>
      cases a
      exact .cons (.int i _) (well_ints b)
theorem well_list {P : Params} {h : Heap} {is : List Int} {v : Value} (r : Well P h v (ofPy (.list (is.map .int)))) : Rp (vw h []) v (.list (is.map .int)) := by
  rw [ofPy] at r
  cases r with
  | list ho rs => exact .list (vw_in ho (fun m => nomatch m)) (well_ints rs)
theorem caller_ok : Aok 9 callerA := ⟨rfl, by show 1 + claimMargin + 9 < 900; decide, by show 4 + 100 * 9 < 9000; decide⟩
theorem law_call {w : World} {s : Shared} {mg mb : Str → Option Value} {fa : Addr} {v : Value} {is : List Int} (K : (KK w).In s.heap) (T : TopRead Mine.hd.view_39 (looseW Mine.hd.view_39 []) mg mb s.heap) (hm : mg "law" = some (.ref fa)) (r : Well w.params s.heap v (ofPy (.list (is.map .int)))) (hz : is.length ≤ 2 ^ 20)
    {Q E : Value → Shared → Prop} (k : ∀ s', Keeps s s' → Q (.bool true) s') : wpAny (MM w) callerA (call (.ref fa) [v]) Q E s := by
  rw [loose_nil] at T
  have e := (mg_of K T.g (law_at w)).symm.trans hm
  cases e
  refine wpAny_mono (law_true w is hz callerA [] s [v] caller_ok ⟨K, mg, mb, T⟩ (fun _ h => nomatch h) (.cons (well_list r) .nil)) (fun u s' h => ?_) fun _ _ h => h.elim
  obtain ⟨kp, rp⟩ := h
  cases rp
  exact k s' kp
end Mine
set_option maxHeartbeats 8000000 in
theorem Mine.law_holds : PySem.Challenge.rw_sz0073_01.Holds := by
  refine Mine.hd ?_
  intro w s₀ s₁ mg mb G Y fa o pm cd doc dV kV ho hd hcd hD hmg hg args vals as hpre hlay hrd hwl hlo
  have KX := kIn_of Y
  have T := Ground.open G fun T _ _ _ _ => topRead_of T
  have hm : mg ("law" : Str) = some (.ref fa) := hmg
  clear hcd hD hd ho G Y hmg
  wrow_args hpre hlay hrd hwl hlo
  all_goals rename Well _ _ _ _ => hw
  all_goals refine Mine.law_call KX T hm hw (by omega) fun s' kp => ?_
  all_goals refine GoodW.toG ⟨.inl ⟨.bool true, .bool true, [], rfl, raisesW_false ?_, .bool true, ?_, fun _ => ⟨List.nodup_nil, fun _ h => nomatch h⟩⟩, Mine.keeps_ext kp, ?_, ?_⟩
  all_goals first | wrow_none_raised | wrow_post | (obtain ⟨_, _, e, _⟩ := kp; rw [e]; done) | (obtain ⟨_, _, e, _⟩ := kp; rw [e]; exact hg)
theorem PySem.Challenge.cw_sz0073_01_holds : PySem.Challenge.rw_sz0073_01.Holds := by
  exact Mine.law_holds
