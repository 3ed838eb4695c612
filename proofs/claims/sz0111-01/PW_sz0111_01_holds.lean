import PyProof.Rows.All
import Wide.All
import OpenK.AllK
import Wide.FinOn
import Lean
import PySem.Challenge.RW_sz0111_01
open PySem PySem.W PyProof.Rows
set_option Elab.async false
set_option linter.all false
set_option maxRecDepth 100000
set_option maxHeartbeats 8000000
namespace Mine
open_top hd for PySem.Challenge.rw_sz0111_01
end Mine
set_option tactic.hygienic false
-- Lg1
section
open PySem PySem.W PyProof.Rows PySem.Calls PySem.Spec
namespace Mine

noncomputable abbrev NoE : Value → Shared → Prop := fun _ _ => False

/-- all of a heap stands in the other -/
noncomputable def Kp (h h' : Heap) : Prop := ∀ b o, h.get? b = some o → h'.get? b = some o
theorem Kp.refl (h : Heap) : Kp h h := fun _ _ e => e
theorem Kp.trans {a b c : Heap} (x : Kp a b) (y : Kp b c) : Kp a c := fun p o e => y p o (x p o e)
theorem Kp.push (h : Heap) (o : Obj) : Kp h (h.push o) := fun _ _ e => Heap.get?_push_of_some o e

noncomputable abbrev tupO (vs : List Value) (n : Nat) : Obj := { cls := .type "tuple", data := .seq vs.toArray n }

mutual
inductive HR (h : Heap) : Value → PyData → Prop
  | none : HR h .none .none
  | bool (b : Bool) : HR h (.bool b) (.bool b)
  | int (i : Int) (t : Tok) : HR h (.int i t) (.int i)
  | tup {a : Addr} {vs : List Value} {n : Nat} {ds : List PyData} : h.get? a = some (tupO vs n) → HA h vs ds → HR h (.ref a) (.tuple ds)
  | list {a : Addr} {vs : List Value} {n : Nat} {ds : List PyData} : h.get? a = some (listOf vs.toArray n) → HA h vs ds → HR h (.ref a) (.list ds)
inductive HA (h : Heap) : List Value → List PyData → Prop
  | nil : HA h [] []
  | cons {v : Value} {vs : List Value} {d : PyData} {ds : List PyData} : HR h v d → HA h vs ds → HA h (v :: vs) (d :: ds)
end

mutual
noncomputable def noL : PyData → Bool
  | .list _ => false
  | .tuple ds => noLs ds
  | _ => true
noncomputable def noLs : List PyData → Bool
  | [] => true
  | d :: ds => noL d && noLs ds
end


theorem HR.mono {h h' : Heap} (k : ∀ a o vs n, h.get? a = some o → o.data = .seq vs n → h'.get? a = some o) {v : Value} {d : PyData} (r : HR h v d) : HR h' v d :=
  HR.rec (motive_1 := fun v d _ => HR h' v d) (motive_2 := fun vs ds _ => HA h' vs ds) .none .bool .int (fun e _ x => .tup (k _ _ _ _ e rfl) x) (fun e _ x => .list (k _ _ _ _ e rfl) x) .nil (fun _ _ a b => .cons a b) r
theorem HA.mono {h h' : Heap} (k : ∀ a o vs n, h.get? a = some o → o.data = .seq vs n → h'.get? a = some o) {vs : List Value} {ds : List PyData} (r : HA h vs ds) : HA h' vs ds :=
  HA.rec (motive_1 := fun v d _ => HR h' v d) (motive_2 := fun vs ds _ => HA h' vs ds) .none .bool .int (fun e _ x => .tup (k _ _ _ _ e rfl) x) (fun e _ x => .list (k _ _ _ _ e rfl) x) .nil (fun _ _ a b => .cons a b) r
theorem noLs_cons {d : PyData} {ds : List PyData} (n : noLs (d :: ds) = true) : noL d = true ∧ noLs ds = true := Bool.and_eq_true_iff.mp (show (noL _ && noLs _) = true by simpa [noLs] using n)
theorem noL_tup {ds : List PyData} (n : noL (.tuple ds) = true) : noLs ds = true := by simpa [noL] using n
theorem noL_list {ds : List PyData} (n : noL (.list ds) = true) {P : Prop} : P := by simp [noL] at n
theorem HR.monoT {h h' : Heap} (k : ∀ a vs n, h.get? a = some (tupO vs n) → h'.get? a = some (tupO vs n)) {v : Value} {d : PyData} (n : noL d = true) (r : HR h v d) : HR h' v d :=
  HR.rec (motive_1 := fun v d _ => noL d = true → HR h' v d) (motive_2 := fun vs ds _ => noLs ds = true → HA h' vs ds) (fun _ => .none) (fun b _ => .bool b) (fun i t _ => .int i t) (fun e _ x n => .tup (k _ _ _ e) (x (noL_tup n))) (fun _ _ _ n => noL_list n)
    (fun _ => .nil) (fun _ _ a b n => .cons (a (noLs_cons n).1) (b (noLs_cons n).2)) r n
theorem HA.monoT {h h' : Heap} (k : ∀ a vs n, h.get? a = some (tupO vs n) → h'.get? a = some (tupO vs n)) {vs : List Value} {ds : List PyData} (n : noLs ds = true) (r : HA h vs ds) : HA h' vs ds :=
  HA.rec (motive_1 := fun v d _ => noL d = true → HR h' v d) (motive_2 := fun vs ds _ => noLs ds = true → HA h' vs ds) (fun _ => .none) (fun b _ => .bool b) (fun i t _ => .int i t) (fun e _ x n => .tup (k _ _ _ e) (x (noL_tup n))) (fun _ _ _ n => noL_list n)
    (fun _ => .nil) (fun _ _ a b n => .cons (a (noLs_cons n).1) (b (noLs_cons n).2)) r n
theorem HR.kp {h h' : Heap} (k : Kp h h') {v : Value} {d : PyData} (r : HR h v d) : HR h' v d := r.mono fun a o _ _ e _ => k a o e
theorem HA.kp {h h' : Heap} (k : Kp h h') {v : List Value} {d : List PyData} (r : HA h v d) : HA h' v d := r.mono fun a o _ _ e _ => k a o e

theorem HR.reads {h : Heap} {v : Value} {d : PyData} (r : HR h v d) : ∃ as, Reads h v d as :=
  HR.rec (motive_1 := fun v d _ => ∃ as, Reads h v d as) (motive_2 := fun vs ds _ => ∃ as, ReadsAll h vs ds as) ⟨_, .none⟩ (fun b => ⟨_, .bool b⟩) (fun i t => ⟨_, .int i t⟩)
    (fun e _ x => x.elim fun _ q => ⟨_, reads_tuple_at e rfl rfl (by simpa using q)⟩) (fun e _ x => x.elim fun _ q => ⟨_, reads_list_at e rfl rfl (by simpa using q)⟩) ⟨_, .nil⟩ (fun _ _ x y => x.elim fun _ q => y.elim fun _ p => ⟨_, .cons q p⟩) r
theorem HA.inv {h : Heap} {vs : List Value} {d : PyData} {ds : List PyData} (r : HA h vs (d :: ds)) : ∃ v us, vs = v :: us ∧ HR h v d ∧ HA h us ds := by
  cases r
  exact ⟨_, _, rfl, ‹_›, ‹_›⟩
theorem HA.inv0 {h : Heap} {vs : List Value} (r : HA h vs []) : vs = [] := by
  cases r
  rfl
theorem HA.length {h : Heap} {v : List Value} {d : List PyData} (r : HA h v d) : v.length = d.length := by
  induction d generalizing v with
  | nil => rw [r.inv0]; rfl
  | cons d ds ih =>
    focus ((refine let G9 : Prop := _; (?_ : G9)); (obtain ⟨u, us, rfl, _, b⟩ := r.inv); all_goals (unfold G9; clear G9))
    rw [List.length_cons, List.length_cons, ih b]
theorem HA.get {h : Heap} {v : List Value} {d : List PyData} (r : HA h v d) {k : Nat} {x : PyData} (e : d[k]? = some x) : ∃ u, v[k]? = some u ∧ HR h u x := by
  induction d generalizing v k with
  | nil => cases e
  | cons d ds ih =>
    focus ((refine let G9 : Prop := _; (?_ : G9)); (obtain ⟨u, us, rfl, a, b⟩ := r.inv); all_goals (unfold G9; clear G9))
    cases k with
    | zero => cases e; exact ⟨u, rfl, a⟩
    | succ k => exact ih b (k := k) e
theorem HA.append {h : Heap} {v : List Value} {d : List PyData} (r : HA h v d) {v' : List Value} {d' : List PyData} (r' : HA h v' d') : HA h (v ++ v') (d ++ d') := by
  induction d generalizing v with
  | nil => rw [r.inv0]; exact r'
  | cons d ds ih =>
    focus ((refine let G9 : Prop := _; (?_ : G9)); (obtain ⟨u, us, rfl, a, b⟩ := r.inv); all_goals (unfold G9; clear G9))
    exact .cons a (ih b)
theorem HA.take {h : Heap} {v : List Value} {d : List PyData} (r : HA h v d) (n : Nat) : HA h (v.take n) (d.take n) := by
  induction d generalizing v n with
  | nil => rw [r.inv0, List.take_nil, List.take_nil]; exact .nil
  | cons d ds ih =>
    focus ((refine let G9 : Prop := _; (?_ : G9)); (obtain ⟨u, us, rfl, a, b⟩ := r.inv); all_goals (unfold G9; clear G9))
    cases n with
    | zero => exact .nil
    | succ n => exact .cons a (ih b n)
theorem HA.drop {h : Heap} {v : List Value} {d : List PyData} (r : HA h v d) (n : Nat) : HA h (v.drop n) (d.drop n) := by
  induction d generalizing v n with
  | nil => rw [r.inv0, List.drop_nil, List.drop_nil]; exact .nil
  | cons d ds ih =>
    focus ((refine let G9 : Prop := _; (?_ : G9)); (obtain ⟨u, us, rfl, a, b⟩ := r.inv); all_goals (unfold G9; clear G9))
    cases n with
    | zero => exact .cons a b
    | succ n => exact ih b n

/-- what is said of a run that makes things alone -/
structure Grew (s s' : Shared) : Prop where
  eq : ∃ h' tk, s' = { s with heap := h', toks := tk }
  kp : Kp s.heap s'.heap
theorem Grew.refl (s : Shared) : Grew s s := ⟨⟨s.heap, s.toks, rfl⟩, .refl _⟩
theorem Grew.tok (s : Shared) (t : Nat) : Grew s { s with toks := t } := ⟨⟨s.heap, t, rfl⟩, .refl _⟩
theorem Grew.mk' {s : Shared} {h' : Heap} {tk : Nat} (k : Kp s.heap h') : Grew s { s with heap := h', toks := tk } := ⟨⟨_, _, rfl⟩, k⟩
theorem Grew.mk'' {s : Shared} {h' : Heap} (k : Kp s.heap h') : Grew s { s with heap := h' } := ⟨⟨_, _, rfl⟩, k⟩
theorem Grew.trans {a b c : Shared} (x : Grew a b) (y : Grew b c) : Grew a c := by
  focus ((refine let G9 : Prop := _; (?_ : G9)); (obtain ⟨⟨h1, t1, rfl⟩, k1⟩ := x); all_goals (unfold G9; clear G9))
  focus ((refine let G9 : Prop := _; (?_ : G9)); (obtain ⟨⟨h2, t2, rfl⟩, k2⟩ := y); all_goals (unfold G9; clear G9))
  exact ⟨⟨h2, t2, rfl⟩, k1.trans k2⟩

inductive Ent where
  | val (d : PyData)
  | own (ds : List PyData)
  | raw (v : Value)
noncomputable abbrev Ev := List (Str × Ent)

noncomputable def EntIs (h₀ h : Heap) (v : Value) : Ent → Prop
  | .val d => HR h v d ∧ (noL d = true ∨ HR h₀ v d)
  | .own ds => ∃ a vs n, v = .ref a ∧ h.get? a = some (listOf (List.toArray vs) n) ∧ HA h vs ds ∧ noLs ds = true ∧ h₀.get? a = none
  | .raw u => v = u
noncomputable def EnvR (h₀ h : Heap) (m : Str → Option Value) (ρ : Ev) : Prop := ∀ x e, ρ.lookup x = some e → ∃ v, m x = some v ∧ EntIs h₀ h v e
theorem EntIs.kp {h₀ h h' : Heap} (k : Kp h h') {v : Value} {e : Ent} (x : EntIs h₀ h v e) : EntIs h₀ h' v e := by
  cases e with
  | val d => exact ⟨x.1.kp k, x.2⟩
  | raw u => exact x
  | own ds => exact x.elim fun a x => x.elim fun vs x => x.elim fun n x => ⟨a, vs, n, x.1, k _ _ x.2.1, x.2.2.1.kp k, x.2.2.2⟩
theorem EnvR.kp {h₀ h h' : Heap} {m : Str → Option Value} {ρ : Ev} (k : Kp h h') (R : EnvR h₀ h m ρ) : EnvR h₀ h' m ρ := fun x e q => (R x e q).elim fun v y => ⟨v, y.1, y.2.kp k⟩
theorem EnvR.less {h₀ h : Heap} {m : Str → Option Value} {ρ ρ' : Ev} (R : EnvR h₀ h m ρ) (k : ∀ p ∈ ρ', ρ.lookup p.1 = some p.2) : EnvR h₀ h m ρ' := by
  intro x e q
  refine R x e ?_
  have hm : (x, e) ∈ ρ' := by
    clear k R
    induction ρ' with
    | nil => cases q
    | cons p r ih =>
      focus ((refine let G9 : Prop := _; (?_ : G9)); (obtain ⟨y, f⟩ := p); all_goals (unfold G9; clear G9))
      rw [List.lookup_cons] at q
      cases hb : x == y with
      | true => rw [hb] at q; cases q; rw [eq_of_beq hb]; exact .head _
      | false => rw [hb] at q; exact .tail _ (ih q)
  exact k _ hm

/-- a frame: its names, its cells; what stood before stands -/
structure Frm (env : Env) (h₀ h : Heap) (m : Str → Option Value) : Prop where
  ns : ∃ ml, h.Ns env.locals ml ∧ ∀ x, env.kindOf x = some .local → ml x = m x
  keep : Kp h₀ h
  above : h₀.get? env.locals = none
  cell : ∀ n c, env.cells.lookup n = some c → h.IsCell c (m n)
theorem Frm.kept {env : Env} {h₀ h h' : Heap} {m : Str → Option Value} (F : Frm env h₀ h m) (k : Kp h h') : Frm env h₀ h' m :=
  ⟨let ⟨ml, a, b⟩ := F.ns; ⟨ml, a.keeps k, b⟩, F.keep.trans k, F.above, fun n c e => (F.cell n c e).keeps k⟩

/-- an expression's value -/
noncomputable def EvD (M : Model) (A : Around) (env : Env) (h₀ : Heap) (ρ : Ev) (t : Sem Value) (d : PyData) : Prop :=
  ∀ (m : Str → Option Value) (s : Shared), Frm env h₀ s.heap m → EnvR h₀ s.heap m ρ → wpAny M A t (fun v s' => Grew s s' ∧ HR s'.heap v d) NoE s
/-- a list that is new -/
noncomputable def EvF (M : Model) (A : Around) (env : Env) (h₀ : Heap) (ρ : Ev) (t : Sem Value) (ds : List PyData) : Prop :=
  ∀ (m : Str → Option Value) (s : Shared), Frm env h₀ s.heap m → EnvR h₀ s.heap m ρ → wpAny M A t (fun v s' => Grew s s' ∧ ∃ a vs n, v = .ref a ∧ s'.heap.get? a = some (listOf (List.toArray vs) n) ∧ HA s'.heap vs ds ∧ s.heap.get? a = none) NoE s
noncomputable def EvB (M : Model) (A : Around) (env : Env) (h₀ : Heap) (ρ : Ev) (t : Sem Bool) (b : Bool) : Prop :=
  ∀ (m : Str → Option Value) (s : Shared), Frm env h₀ s.heap m → EnvR h₀ s.heap m ρ → wpAny M A t (fun v s' => Grew s s' ∧ v = b) NoE s
noncomputable def EvL (M : Model) (A : Around) (env : Env) (h₀ : Heap) (ρ : Ev) (t : Sem (List Value)) (ds : List PyData) : Prop :=
  ∀ (m : Str → Option Value) (s : Shared), Frm env h₀ s.heap m → EnvR h₀ s.heap m ρ → wpAny M A t (fun v s' => Grew s s' ∧ HA s'.heap v ds) NoE s

section
variable {prog : Program} {w : World} {A : Around} {env : Env} {h₀ : Heap} {ρ : Ev}

theorem Grew.fr {s s' : Shared} {m : Str → Option Value} (G : Grew s s') (F : Frm env h₀ s.heap m) : Frm env h₀ s'.heap m := F.kept G.kp
theorem Grew.envr {s s' : Shared} {m : Str → Option Value} (G : Grew s s') (R : EnvR h₀ s.heap m ρ) : EnvR h₀ s'.heap m ρ := R.kp G.kp

theorem EvF.d {M : Model} {t : Sem Value} {ds : List PyData} (H : EvF M A env h₀ ρ t ds) : EvD M A env h₀ ρ t (.list ds) := fun m s F R =>
  wpAny_mono (H m s F R) (fun v s' q => ⟨q.1, q.2.elim fun a q => q.elim fun vs q => q.elim fun n q => q.1 ▸ .list q.2.1 q.2.2.1⟩) fun _ _ x => x

theorem wmono {α : Type} {M : Model} {A : Around} {t : Sem α} {Q Q' : α → Shared → Prop} {s : Shared} (h : wpAny M A t Q NoE s) (k : ∀ v s', Q v s' → Q' v s') : wpAny M A t Q' NoE s := wpAny_mono h k fun _ _ x => x
theorem wmono2 {α : Type} {M : Model} {A : Around} {t : Sem α} {P R Q : α → Shared → Prop} {s : Shared} (h : wpAny M A t (fun v s' => P v s' ∧ R v s') NoE s) (k : ∀ v s', P v s' → R v s' → Q v s') : wpAny M A t Q NoE s := wpAny_mono h (fun v s' q => k v s' q.1 q.2) fun _ _ x => x

-- names, literals
theorem d_name {M : Model} {x : Str} {pos : Pos} {d : PyData} (hl : ρ.lookup x = some (.val d)) (hk : env.scope.kind = .function) (hx : env.kindOf x = some .local) (hd : (x == ("__debug__" : Str)) = false := by decide) :
    EvD M A env h₀ ρ (eval (.Name x pos) env) d := fun m s F R => by
  focus ((refine let G9 : Prop := _; (?_ : G9)); (obtain ⟨v, hv, q⟩ := R x _ hl); all_goals (unfold G9; clear G9))
  focus ((refine let G9 : Prop := _; (?_ : G9)); (obtain ⟨ml, hn, he⟩ := F.ns); all_goals (unfold G9; clear G9))
  exact wpAny_Name (wpAny_loadName_local hk hx hn ((he x hx).trans hv) ⟨.refl _, q.1⟩) hd
theorem d_cell {M : Model} {x : Str} {pos : Pos} {d : PyData} {c : Addr} (hl : ρ.lookup x = some (.val d)) (hk : env.scope.kind = .function) (hx : env.kindOf x = some .cell) (hc : env.cells.lookup x = some c) (hd : (x == ("__debug__" : Str)) = false := by decide) :
    EvD M A env h₀ ρ (eval (.Name x pos) env) d := fun m s F R => by
  focus ((refine let G9 : Prop := _; (?_ : G9)); (obtain ⟨v, hv, q⟩ := R x _ hl); all_goals (unfold G9; clear G9))
  exact wpAny_Name (wpAny_loadName_cell hk hx hc (hv ▸ F.cell x c hc) ⟨.refl _, q.1⟩) hd
theorem d_own {M : Model} {x : Str} {pos : Pos} {ds : List PyData} (hl : ρ.lookup x = some (.own ds)) (hk : env.scope.kind = .function) (hx : env.kindOf x = some .local) (hd : (x == ("__debug__" : Str)) = false := by decide) :
    EvD M A env h₀ ρ (eval (.Name x pos) env) (.list ds) := fun m s F R => by
  focus ((refine let G9 : Prop := _; (?_ : G9)); (obtain ⟨v, hv, a, vs, n, rfl, ho, r, _⟩ := R x _ hl); all_goals (unfold G9; clear G9))
  focus ((refine let G9 : Prop := _; (?_ : G9)); (obtain ⟨ml, hn, he⟩ := F.ns); all_goals (unfold G9; clear G9))
  exact wpAny_Name (wpAny_loadName_local hk hx hn ((he x hx).trans hv) ⟨.refl _, .list ho r⟩) hd
theorem d_int {M : Model} {i : Int} {k : Nat} {pos : Pos} : EvD M A env h₀ ρ (eval (.Constant (.int i) k pos) env) (.int i) := fun m s F R =>
  wpAny_Constant_int ⟨.tok _ _, .int _ _⟩
theorem d_none {M : Model} {k : Nat} {pos : Pos} : EvD M A env h₀ ρ (eval (.Constant .none k pos) env) .none := fun m s F R =>
  wpAny_Constant_none ⟨.refl _, .none⟩

-- two values
theorem d_bin {M : Model} {l r : Expr} {op : Operator} {pos : Pos} {x y d : PyData} (hl : EvD M A env h₀ ρ (eval l env) x) (hr : EvD M A env h₀ ρ (eval r env) y)
    (ho : ∀ (s : Shared) (v u : Value), HR s.heap v x → HR s.heap u y → wpAny M A (binaryOp op v u) (fun z s' => Grew s s' ∧ HR s'.heap z d) NoE s) :
    EvD M A env h₀ ρ (eval (.BinOp l op r pos) env) d := fun m s F R => by
  refine wpAny_BinOp (wmono2 (hl m s F R) fun v s1 G1 r1 => wmono (hr m s1 (G1.fr F) (G1.envr R)) fun u s2 q9 => ?_)
  have G2 := q9.1
  have r2 := q9.2
  exact wmono2 (ho s2 v u (r1.kp G2.kp) r2) fun z s3 G3 r3 => ⟨(G1.trans G2).trans G3, r3⟩
theorem f_bin {M : Model} {l r : Expr} {op : Operator} {pos : Pos} {x y : PyData} {ds : List PyData} (hl : EvD M A env h₀ ρ (eval l env) x) (hr : EvD M A env h₀ ρ (eval r env) y)
    (ho : ∀ (s : Shared) (v u : Value), HR s.heap v x → HR s.heap u y → wpAny M A (binaryOp op v u) (fun z s' => Grew s s' ∧ ∃ a vs n, z = .ref a ∧ s'.heap.get? a = some (listOf (List.toArray vs) n) ∧ HA s'.heap vs ds ∧ s.heap.get? a = none) NoE s) :
    EvF M A env h₀ ρ (eval (.BinOp l op r pos) env) ds := fun m s F R => by
  try (refine (let Q9 : _ → Shared → Prop := _; (?_ : wpAny _ _ _ Q9 _ _)))
  refine wpAny_BinOp (wmono2 (hl m s F R) fun v s1 G1 r1 => wmono (hr m s1 (G1.fr F) (G1.envr R)) fun u s2 q9 => ?_)
  have G2 := q9.1
  have r2 := q9.2
  try (refine (let Q9 : _ → Shared → Prop := _; (?_ : wpAny _ _ _ Q9 _ _)))
  refine wmono (ho s2 v u (r1.kp G2.kp) r2) fun z s3 ⟨G3, a, vs, n, e, o, r3, f⟩ => ⟨(G1.trans G2).trans G3, a, vs, n, e, o, r3, ?_⟩
  cases hq : s.heap.get? a with
  | none => rfl
  | some o' => rw [(G1.trans G2).kp _ _ hq] at f; cases f

theorem HR.int_inv {h : Heap} {v : Value} {i : Int} (r : HR h v (.int i)) : ∃ t, v = .int i t := by cases r; exact ⟨_, rfl⟩
theorem HR.bool_inv {h : Heap} {v : Value} {i : Bool} (r : HR h v (.bool i)) : v = .bool i := by cases r; rfl
theorem HR.none_inv {h : Heap} {v : Value} (r : HR h v .none) : v = .none := by cases r; rfl
theorem HR.tup_inv {h : Heap} {v : Value} {ds : List PyData} (r : HR h v (.tuple ds)) : ∃ a vs n, v = .ref a ∧ h.get? a = some (tupO vs n) ∧ HA h vs ds := by cases r; exact ⟨_, _, _, rfl, ‹_›, ‹_›⟩
theorem HR.list_inv {h : Heap} {v : Value} {ds : List PyData} (r : HR h v (.list ds)) : ∃ a vs n, v = .ref a ∧ h.get? a = some (listOf (List.toArray vs) n) ∧ HA h vs ds := by cases r; exact ⟨_, _, _, rfl, ‹_›, ‹_›⟩

theorem d_bin_int {l r : Expr} {op : Operator} {pos : Pos} {x y z : Int} (hl : EvD (model prog w) A env h₀ ρ (eval l env) (.int x)) (hr : EvD (model prog w) A env h₀ ρ (eval r env) (.int y))
    (ho : ∀ (s : Shared) (t u : Tok) (Q : Value → Shared → Prop), (∀ k, Q (.int z k) { s with toks := k + 1 }) → wpAny (model prog w) A (binaryOp op (.int x t) (.int y u)) Q NoE s) :
    EvD (model prog w) A env h₀ ρ (eval (.BinOp l op r pos) env) (.int z) := d_bin hl hr fun s v u r1 r2 => by
  focus ((refine let G9 : Prop := _; (?_ : G9)); (obtain ⟨t, rfl⟩ := r1.int_inv); all_goals (unfold G9; clear G9))
  focus ((refine let G9 : Prop := _; (?_ : G9)); (obtain ⟨t', rfl⟩ := r2.int_inv); all_goals (unfold G9; clear G9))
  exact ho s t t' _ fun k => ⟨.tok _ _, .int _ _⟩

theorem d_add {l r : Expr} {pos : Pos} {x y : Int} (hl : EvD (model prog w) A env h₀ ρ (eval l env) (.int x)) (hr : EvD (model prog w) A env h₀ ρ (eval r env) (.int y)) :
    EvD (model prog w) A env h₀ ρ (eval (.BinOp l .Add r pos) env) (.int (x + y)) := d_bin_int hl hr fun s t u Q h => add_int (h _)
theorem d_sub {l r : Expr} {pos : Pos} {x y : Int} (hl : EvD (model prog w) A env h₀ ρ (eval l env) (.int x)) (hr : EvD (model prog w) A env h₀ ρ (eval r env) (.int y)) :
    EvD (model prog w) A env h₀ ρ (eval (.BinOp l .Sub r pos) env) (.int (x - y)) := d_bin_int hl hr fun s t u Q h => sub_int (h _)
theorem d_and {l r : Expr} {pos : Pos} {x y : Int} (hl : EvD (model prog w) A env h₀ ρ (eval l env) (.int x)) (hr : EvD (model prog w) A env h₀ ρ (eval r env) (.int y)) :
    EvD (model prog w) A env h₀ ρ (eval (.BinOp l .BitAnd r pos) env) (.int (Builtin.bitAnd x y)) := d_bin_int hl hr fun s t u Q h => and_int (h _)
theorem d_or {l r : Expr} {pos : Pos} {x y : Int} (hl : EvD (model prog w) A env h₀ ρ (eval l env) (.int x)) (hr : EvD (model prog w) A env h₀ ρ (eval r env) (.int y)) :
    EvD (model prog w) A env h₀ ρ (eval (.BinOp l .BitOr r pos) env) (.int (Builtin.bitOr x y)) := d_bin_int hl hr fun s t u Q h => or_int (h _)
theorem d_shl {l r : Expr} {pos : Pos} {x y : Int} (hl : EvD (model prog w) A env h₀ ρ (eval l env) (.int x)) (hr : EvD (model prog w) A env h₀ ρ (eval r env) (.int y))
    (hn : 0 ≤ y) (hn2 : y ≤ 1000000) (ha : x.natAbs < 2 ^ 64) :
    EvD (model prog w) A env h₀ ρ (eval (.BinOp l .LShift r pos) env) (.int (x * 2 ^ y.toNat)) := d_bin_int hl hr fun s t u Q h => lshift_int_small hn hn2 ha (h _)
theorem d_shr {l r : Expr} {pos : Pos} {x y : Int} (hl : EvD (model prog w) A env h₀ ρ (eval l env) (.int x)) (hr : EvD (model prog w) A env h₀ ρ (eval r env) (.int y))
    (hn : 0 ≤ y) : EvD (model prog w) A env h₀ ρ (eval (.BinOp l .RShift r pos) env) (.int (x.fdiv (2 ^ y.toNat))) := d_bin_int hl hr fun s t u Q h => rshift_int hn (h _)
theorem d_mod {l r : Expr} {pos : Pos} {x y : Int} (hl : EvD (model prog w) A env h₀ ρ (eval l env) (.int x)) (hr : EvD (model prog w) A env h₀ ρ (eval r env) (.int y))
    (hn : y ≠ 0) : EvD (model prog w) A env h₀ ρ (eval (.BinOp l .Mod r pos) env) (.int (x.fmod y)) := d_bin_int hl hr fun s t u Q h => mod_int' hn (h _)
theorem d_div {l r : Expr} {pos : Pos} {x y : Int} (hl : EvD (model prog w) A env h₀ ρ (eval l env) (.int x)) (hr : EvD (model prog w) A env h₀ ρ (eval r env) (.int y))
    (hn : y ≠ 0) (hp : Builtin.divisionGoesByPylong x y = false) : EvD (model prog w) A env h₀ ρ (eval (.BinOp l .FloorDiv r pos) env) (.int (x.fdiv y)) := d_bin_int hl hr fun s t u Q h => floordiv_int hn (h _) (.inl hp)
end
end Mine
end
-- Lg2
section
open PySem PySem.W PyProof.Rows PySem.Calls PySem.Spec
namespace Mine

-- equality of data
noncomputable def eqOk : Nat → PyData → Bool
  | 0, d => match d with
    | .none => true
    | .int _ => true
    | _ => false
  | n + 1, d => match d with
    | .none => true
    | .int _ => true
    | .tuple ds => ds.all (eqOk n)
    | .list ds => ds.all (eqOk n)
    | _ => false
inductive EqOk : Nat → PyData → Prop
  | none (n : Nat) : EqOk n .none
  | int (n : Nat) (i : Int) : EqOk n (.int i)
  | tup (n : Nat) (ds : List PyData) : (∀ d ∈ ds, eqOk n d = true) → EqOk (n + 1) (.tuple ds)
  | list (n : Nat) (ds : List PyData) : (∀ d ∈ ds, eqOk n d = true) → EqOk (n + 1) (.list ds)
theorem eqOk_inv {n : Nat} {d : PyData} (h : eqOk n d = true) : EqOk n d := by
  cases n with
  | zero =>
    cases d with
    | none => exact .none _
    | int i => exact .int _ i
    | _ => exact Bool.noConfusion (show false = true from h)
  | succ n =>
    cases d with
    | none => exact .none _
    | int i => exact .int _ i
    | tuple ds => exact .tup n ds (List.all_eq_true.mp h)
    | list ds => exact .list n ds (List.all_eq_true.mp h)
    | _ => exact Bool.noConfusion (show false = true from h)
theorem eqOk_lay (n : Nat) (d : PyData) (h : eqOk n d = true) : d.canLay0 = true ∧ d.depth ≤ n := by
  have all : ∀ (n : Nat), (∀ d, eqOk n d = true → d.canLay0 = true ∧ d.depth ≤ n) → ∀ ds : List PyData, (∀ d ∈ ds, eqOk n d = true) → PyData.canLayAll0 ds = true ∧ PyData.depthAll ds ≤ n := by
    intro n ih ds
    induction ds with
    | nil => intro _; exact ⟨rfl, Nat.zero_le _⟩
    | cons d ds hi =>
      intro h
      have h1 := ih d (h d (.head _))
      have h2 := hi fun e he => h e (.tail _ he)
      exact ⟨Bool.and_eq_true_iff.mpr ⟨h1.1, h2.1⟩, Nat.max_le.mpr ⟨h1.2, h2.2⟩⟩
  induction n generalizing d with
  | zero =>
    cases eqOk_inv h with
    | none => exact ⟨rfl, Nat.le_refl _⟩
    | int _ i => exact ⟨rfl, Nat.le_refl _⟩
  | succ n ih =>
    cases eqOk_inv h with
    | none => exact ⟨rfl, Nat.zero_le _⟩
    | int _ i => exact ⟨rfl, Nat.zero_le _⟩
    | tup _ ds q =>
      have q := all n ih ds q
      exact ⟨q.1, Nat.succ_le_succ q.2⟩
    | list _ ds q =>
      have q := all n ih ds q
      exact ⟨q.1, Nat.succ_le_succ q.2⟩
theorem eqOk_eqv (n : Nat) (d e : PyData) (k : Nat) (h1 : eqOk n d = true) (h2 : eqOk k e = true) : PyData.eqv d e = true ↔ d = e := by
  have all : ∀ (n : Nat), (∀ d e k, eqOk n d = true → eqOk k e = true → (PyData.eqv d e = true ↔ d = e)) → ∀ (k : Nat) (ds es : List PyData), (∀ d ∈ ds, eqOk n d = true) → (∀ d ∈ es, eqOk k d = true) →
      (PyData.eqvAll ds es = true ↔ ds = es) := by
    intro n ih k ds
    induction ds with
    | nil =>
      intro es _ _
      cases es with
      | nil => exact ⟨fun _ => rfl, fun _ => rfl⟩
      | cons e es => exact ⟨fun x => Bool.noConfusion (show false = true from x), fun x => absurd x.symm (List.cons_ne_nil _ _)⟩
    | cons d ds hi =>
      intro es h1 h2
      cases es with
      | nil => exact ⟨fun x => Bool.noConfusion (show false = true from x), fun x => absurd x (List.cons_ne_nil _ _)⟩
      | cons e es =>
        have q1 := ih d e k (h1 d (.head _)) (h2 e (.head _))
        have q2 := hi es (fun x hx => h1 x (.tail _ hx)) fun x hx => h2 x (.tail _ hx)
        exact ⟨fun x => List.cons_eq_cons.mpr ⟨q1.mp (Bool.and_eq_true_iff.mp x).1, q2.mp (Bool.and_eq_true_iff.mp x).2⟩, fun x => Bool.and_eq_true_iff.mpr ⟨q1.mpr (List.cons.inj x).1, q2.mpr (List.cons.inj x).2⟩⟩
  have no : ∀ {d e : PyData}, PyData.eqv d e = false → d ≠ e → (PyData.eqv d e = true ↔ d = e) := fun a b => ⟨fun x => absurd (a.symm.trans x) Bool.false_ne_true, fun x => absurd x b⟩
  induction n generalizing d e k with
  | zero =>
    cases eqOk_inv h1 with
    | none =>
      cases eqOk_inv h2 with
      | none => exact ⟨fun _ => rfl, fun _ => rfl⟩
      | _ => exact no rfl (fun x => PyData.noConfusion x)
    | int _ i =>
      cases eqOk_inv h2 with
      | int _ j => simp [PyData.eqv]
      | _ => exact no rfl (fun x => PyData.noConfusion x)
  | succ n ih =>
    cases eqOk_inv h1 with
    | none =>
      cases eqOk_inv h2 with
      | none => exact ⟨fun _ => rfl, fun _ => rfl⟩
      | _ => exact no rfl (fun x => PyData.noConfusion x)
    | int _ i =>
      cases eqOk_inv h2 with
      | int _ j => simp [PyData.eqv]
      | _ => exact no rfl (fun x => PyData.noConfusion x)
    | tup _ ds q =>
      cases eqOk_inv h2 with
      | tup k es p =>
        have q := all n ih k ds es q p
        exact ⟨fun x => congrArg _ (q.mp x), fun x => q.mpr (PyData.tuple.inj x)⟩
      | _ => exact no rfl (fun x => PyData.noConfusion x)
    | list _ ds q =>
      cases eqOk_inv h2 with
      | list k es p =>
        have q := all n ih k ds es q p
        exact ⟨fun x => congrArg _ (q.mp x), fun x => q.mpr (PyData.list.inj x)⟩
      | _ => exact no rfl (fun x => PyData.noConfusion x)
theorem eqOk_shaped {d : PyData} (h : eqOk 8 d = true) : SeqAt.shaped d = true := by
  focus ((refine let G9 : Prop := _; (?_ : G9)); (obtain ⟨a, b⟩ := eqOk_lay 8 d h); all_goals (unfold G9; clear G9))
  unfold SeqAt.shaped
  rw [a, Bool.true_and]
  exact decide_eq_true (Nat.le_trans b (by decide))
theorem eqOk_val {d e : PyData} {b : Bool} (hd : eqOk 8 d = true) (he : eqOk 8 e = true) (hb : b = true ↔ d = e) : PyData.eqv d e = b := by
  have q := eqOk_eqv 8 d e 8 hd he
  cases b with
  | true => exact q.mpr (hb.mp rfl)
  | false => exact Bool.eq_false_iff.mpr fun x => by have := hb.mpr (q.mp x); cases this

section
variable {prog : Program} {w : World} {A : Around} {env : Env} {h₀ : Heap} {ρ : Ev}

noncomputable def Ops2 (prog : Program) (w : World) (A : Around) (f : Value → Value → Sem Value) (x y d : PyData) : Prop :=
  ∀ (s : Shared) (v u : Value), HR s.heap v x → HR s.heap u y → wpAny (model prog w) A (f v u) (fun z s' => Grew s s' ∧ HR s'.heap z d) NoE s

theorem d_cmp {l r : Expr} {op : CmpOp} {pos : Pos} {x y d : PyData} (hl : EvD (model prog w) A env h₀ ρ (eval l env) x) (hr : EvD (model prog w) A env h₀ ρ (eval r env) y)
    (ho : Ops2 prog w A (compareOp op) x y d) (hm : behindInMarks op r = false := by with_unfolding_all rfl) :
    EvD (model prog w) A env h₀ ρ (eval (.Compare l [op] [r] pos) env) d := fun m s F R => by
  refine wpAny_Compare1 (wmono2 (hl m s F R) fun v s1 G1 r1 => wmono (hr m s1 (G1.fr F) (G1.envr R)) fun u s2 q9 => ?_) hm
  have G2 := q9.1
  have r2 := q9.2
  exact wmono2 (ho s2 v u (r1.kp G2.kp) r2) fun z s3 G3 r3 => ⟨(G1.trans G2).trans G3, r3⟩
theorem b_cmp {l r : Expr} {op : CmpOp} {pos : Pos} {whole : Sem Value} {x y : PyData} {b : Bool} (hl : EvD (model prog w) A env h₀ ρ (eval l env) x) (hr : EvD (model prog w) A env h₀ ρ (eval r env) y)
    (ho : Ops2 prog w A (compareOp op) x y (.bool b)) (hm : behindInMarks op r = false := by with_unfolding_all rfl) :
    EvB (model prog w) A env h₀ ρ (isTrue (.Compare l [op] [r] pos) env whole) b := fun m s F R => by
  refine wpAny_isTrue_Compare1 (wmono2 (hl m s F R) fun v s1 G1 r1 => wmono (hr m s1 (G1.fr F) (G1.envr R)) fun u s2 q9 => ?_) hm
  have G2 := q9.1
  have r2 := q9.2
  refine wmono (ho s2 v u (r1.kp G2.kp) r2) fun z s3 q9 => ?_
  have G3 := q9.1
  have r3 := q9.2
  rw [r3.bool_inv]
  exact wpAny_truthy_bool ⟨(G1.trans G2).trans G3, rfl⟩

theorem o_int {f : Value → Value → Sem Value} {x y : Int} {d : PyData}
    (ho : ∀ (s : Shared) (t u : Tok), wpAny (model prog w) A (f (.int x t) (.int y u)) (fun z s' => Grew s s' ∧ HR s'.heap z d) NoE s) : Ops2 prog w A f (.int x) (.int y) d := fun s v u r1 r2 => by
  focus ((refine let G9 : Prop := _; (?_ : G9)); (obtain ⟨t, rfl⟩ := r1.int_inv); all_goals (unfold G9; clear G9))
  focus ((refine let G9 : Prop := _; (?_ : G9)); (obtain ⟨t', rfl⟩ := r2.int_inv); all_goals (unfold G9; clear G9))
  exact ho s t t'
theorem o_lt {x y : Int} : Ops2 prog w A (compareOp .Lt) (.int x) (.int y) (.bool (decide (x < y))) := o_int fun s t u => lt_int ⟨.refl _, .bool _⟩
theorem o_le {x y : Int} : Ops2 prog w A (compareOp .LtE) (.int x) (.int y) (.bool (decide (x ≤ y))) := o_int fun s t u => le_int ⟨.refl _, .bool _⟩
theorem o_gt {x y : Int} : Ops2 prog w A (compareOp .Gt) (.int x) (.int y) (.bool (decide (y < x))) := o_int fun s t u => gt_int ⟨.refl _, .bool _⟩
theorem o_eqi {x y : Int} : Ops2 prog w A (compareOp .Eq) (.int x) (.int y) (.bool (x == y)) := o_int fun s t u => eq_int ⟨.refl _, .bool _⟩
theorem o_eq {x y : PyData} {b : Bool} (hx : eqOk 8 x = true) (hy : eqOk 8 y = true) (hb : b = true ↔ x = y) (hu : A.units + 64 < cLine) : Ops2 prog w A (compareOp .Eq) x y (.bool b) := fun s v u r1 r2 => by
  focus ((refine let G9 : Prop := _; (?_ : G9)); (obtain ⟨as, q1⟩ := r1.reads); all_goals (unfold G9; clear G9))
  focus ((refine let G9 : Prop := _; (?_ : G9)); (obtain ⟨bs, q2⟩ := r2.reads); all_goals (unfold G9; clear G9))
  exact eq_dataH q1 q2 (eqOk_shaped hx) (eqOk_shaped hy) hu (by rw [eqOk_val hx hy hb]; exact ⟨.refl _, .bool _⟩)
theorem o_ne {x y : PyData} {b : Bool} (hx : eqOk 8 x = true) (hy : eqOk 8 y = true) (hb : b = true ↔ x = y) (hu : A.units + 64 < cLine) : Ops2 prog w A (compareOp .NotEq) x y (.bool (!b)) := fun s v u r1 r2 => by
  focus ((refine let G9 : Prop := _; (?_ : G9)); (obtain ⟨as, q1⟩ := r1.reads); all_goals (unfold G9; clear G9))
  focus ((refine let G9 : Prop := _; (?_ : G9)); (obtain ⟨bs, q2⟩ := r2.reads); all_goals (unfold G9; clear G9))
  exact ne_dataH q1 q2 (eqOk_shaped hx) (eqOk_shaped hy) hu (by rw [eqOk_val hx hy hb]; exact ⟨.refl _, .bool _⟩)
theorem o_isNone : Ops2 prog w A (compareOp .Is) .none .none (.bool true) := fun s v u r1 r2 => by
  rw [r1.none_inv, r2.none_inv]; exact is_none ⟨.refl _, .bool _⟩
theorem o_isNot {x : PyData} (hx : ∀ (h : Heap) v, HR h v x → v ≠ .none) : Ops2 prog w A (compareOp .Is) x .none (.bool false) := fun s v u r1 r2 => by
  rw [r2.none_inv]
  refine is_none ?_
  have : (v == Value.none) = false := beq_eq_false_iff_ne.mpr (hx _ _ r1)
  rw [this]
  exact ⟨.refl _, .bool _⟩
theorem o_notNone : Ops2 prog w A (compareOp .IsNot) .none .none (.bool false) := fun s v u r1 r2 => by
  rw [r1.none_inv, r2.none_inv]; exact isNot_none ⟨.refl _, .bool _⟩
theorem o_notIs {x : PyData} (hx : ∀ (h : Heap) v, HR h v x → v ≠ .none) : Ops2 prog w A (compareOp .IsNot) x .none (.bool true) := fun s v u r1 r2 => by
  rw [r2.none_inv]
  refine isNot_none ?_
  have : (v == Value.none) = false := beq_eq_false_iff_ne.mpr (hx _ _ r1)
  rw [this]
  exact ⟨.refl _, .bool _⟩
theorem tup_not_none {ds : List PyData} (h : Heap) (v : Value) (r : HR h v (.tuple ds)) : v ≠ .none := by
  focus ((refine let G9 : Prop := _; (?_ : G9)); (obtain ⟨a, vs, n, rfl, _⟩ := r.tup_inv); all_goals (unfold G9; clear G9))
  intro x; cases x
theorem int_not_none {i : Int} (h : Heap) (v : Value) (r : HR h v (.int i)) : v ≠ .none := by
  focus ((refine let G9 : Prop := _; (?_ : G9)); (obtain ⟨t, rfl⟩ := r.int_inv); all_goals (unfold G9; clear G9))
  intro x; cases x

-- truth, and, or, not
theorem b_value {e : Expr} {whole : Sem Value} {b : Bool} (h : EvD (model prog w) A env h₀ ρ whole (.bool b))
    (he : isTrue e env whole = (do let v ← whole; standAt e.pos; holding [v] (truthy v)) := by rfl) : EvB (model prog w) A env h₀ ρ (isTrue e env whole) b := fun m s F R => by
  refine wpAny_isTrue_value (wmono (h m s F R) fun v s1 q9 => ?_) he
  have G1 := q9.1
  have r1 := q9.2
  rw [r1.bool_inv]
  exact wpAny_truthy_bool ⟨G1, rfl⟩
theorem b_not {x : Expr} {pos : Pos} {whole : Sem Value} {b : Bool} (h : EvB (model prog w) A env h₀ ρ (isTrue x env (eval x env)) b) : EvB (model prog w) A env h₀ ρ (isTrue (.UnaryOp .Not x pos) env whole) (!b) := fun m s F R =>
  wpAny_isTrue_Not (wmono2 (h m s F R) fun v s1 G1 r1 => ⟨G1, by rw [r1]⟩)
theorem b_and {x y : Expr} {pos : Pos} {whole : Sem Value} {b c : Bool} (h : EvB (model prog w) A env h₀ ρ (isTrue x env (eval x env)) b) (k : b = true → EvB (model prog w) A env h₀ ρ (isTrue y env (eval y env)) c) :
    EvB (model prog w) A env h₀ ρ (isTrue (.BoolOp .And [x, y] pos) env whole) (b && c) := fun m s F R => by
  refine wpAny_isTrue_BoolOp (wpAny_allTrue_And_cons (wmono (h m s F R) fun v s1 q9 => ?_))
  have G1 := q9.1
  have r1 := q9.2
  subst r1
  cases v with
  | false => exact ⟨G1, rfl⟩
  | true =>
    refine wpAny_allTrue_And_cons (wmono (k rfl m s1 (G1.fr F) (G1.envr R)) fun v s2 q9 => ?_)
    have G2 := q9.1
    have r2 := q9.2
    subst r2
    cases v with
    | false => exact ⟨G1.trans G2, rfl⟩
    | true => exact wpAny_allTrue_And_nil ⟨G1.trans G2, rfl⟩
theorem b_or {x y : Expr} {pos : Pos} {whole : Sem Value} {b c : Bool} (h : EvB (model prog w) A env h₀ ρ (isTrue x env (eval x env)) b) (k : b = false → EvB (model prog w) A env h₀ ρ (isTrue y env (eval y env)) c) :
    EvB (model prog w) A env h₀ ρ (isTrue (.BoolOp .Or [x, y] pos) env whole) (b || c) := fun m s F R => by
  refine wpAny_isTrue_BoolOp (wpAny_allTrue_Or_cons (wmono (h m s F R) fun v s1 q9 => ?_))
  have G1 := q9.1
  have r1 := q9.2
  subst r1
  cases v with
  | true => exact ⟨G1, rfl⟩
  | false =>
    refine wpAny_allTrue_Or_cons (wmono (k rfl m s1 (G1.fr F) (G1.envr R)) fun v s2 q9 => ?_)
    have G2 := q9.1
    have r2 := q9.2
    subst r2
    cases v with
    | true => exact ⟨G1.trans G2, rfl⟩
    | false => exact wpAny_allTrue_Or_nil ⟨G1.trans G2, rfl⟩
theorem d_and2 {x y : Expr} {pos : Pos} {b c : Bool} (h : EvD (model prog w) A env h₀ ρ (eval x env) (.bool b)) (k : b = true → EvD (model prog w) A env h₀ ρ (eval y env) (.bool c)) :
    EvD (model prog w) A env h₀ ρ (eval (.BoolOp .And [x, y] pos) env) (.bool (b && c)) := fun m s F R => by
  refine wpAny_And2 (wmono (h m s F R) fun v s1 q9 => ?_)
  have G1 := q9.1
  have r1 := q9.2
  rw [r1.bool_inv]
  refine wpAny_truthy_bool ?_
  cases b with
  | false => exact ⟨G1, .bool _⟩
  | true => exact wmono2 (k rfl m s1 (G1.fr F) (G1.envr R)) fun u s2 G2 r2 => ⟨G1.trans G2, r2⟩
theorem d_ifexp {t x y : Expr} {pos : Pos} {b : Bool} {d : PyData} (h : EvB (model prog w) A env h₀ ρ (isTrue t env (eval t env)) b) (k1 : b = true → EvD (model prog w) A env h₀ ρ (eval x env) d) (k2 : b = false → EvD (model prog w) A env h₀ ρ (eval y env) d) :
    EvD (model prog w) A env h₀ ρ (eval (.IfExp t x y pos) env) d := fun m s F R => by
  refine wpAny_IfExp (wmono (h m s F R) fun v s1 q9 => ?_)
  have G1 := q9.1
  have r1 := q9.2
  subst r1
  cases v with
  | true => exact wmono2 (k1 rfl m s1 (G1.fr F) (G1.envr R)) fun u s2 G2 r2 => ⟨G1.trans G2, r2⟩
  | false => exact wmono2 (k2 rfl m s1 (G1.fr F) (G1.envr R)) fun u s2 G2 r2 => ⟨G1.trans G2, r2⟩
theorem d_neg {e : Expr} {pos : Pos} {i : Int} (h : EvD (model prog w) A env h₀ ρ (eval e env) (.int i)) : EvD (model prog w) A env h₀ ρ (eval (.UnaryOp .USub e pos) env) (.int (-i)) := fun m s F R => by
  refine wpAny_UnaryOp (wmono (h m s F R) fun v s1 q9 => ?_)
  have G1 := q9.1
  have r1 := q9.2
  focus ((refine let G9 : Prop := _; (?_ : G9)); (obtain ⟨t, rfl⟩ := r1.int_inv); all_goals (unfold G9; clear G9))
  exact neg_int ⟨G1.trans (.tok _ _), .int _ _⟩

-- displays
theorem l_nil {pos : Pos} : EvL (model prog w) A env h₀ ρ (spliced (backTo pos (starEach [] env))) [] := fun m s F R => wpAny_items_nil ⟨.refl _, .nil⟩
theorem l_cons {pos : Pos} {e : Expr} {rest : List Expr} {d : PyData} {ds : List PyData} (h : EvD (model prog w) A env h₀ ρ (eval e env) d) (k : EvL (model prog w) A env h₀ ρ (spliced (backTo pos (starEach rest env))) ds)
    (he : starEach (e :: rest) env = (false, eval e env) :: starEach rest env := by rfl) : EvL (model prog w) A env h₀ ρ (spliced (backTo pos (starEach (e :: rest) env))) (d :: ds) := fun m s F R =>
  wpAny_items_cons (wmono2 (h m s F R) fun v s1 G1 r1 => wmono2 (k m s1 (G1.fr F) (G1.envr R)) fun vs s2 G2 r2 => ⟨G1.trans G2, .cons (r1.kp G2.kp) r2⟩) he
theorem d_tuple {elts : List Expr} {k : Nat} {pos : Pos} {ds : List PyData} (h : EvL (model prog w) A env h₀ ρ (spliced (backTo pos (starEach elts env))) ds) (hz : ds.length ≤ 1000) :
    EvD (model prog w) A env h₀ ρ (eval (.Tuple elts k pos) env) (.tuple ds) := fun m s F R => by
  refine wpAny_Tuple (wmono2 (h m s F R) fun vs s1 G1 r1 => ⟨?_, G1.trans (.mk'' (.push _ _)), .tup (n := 0) (Heap.get?_push_size _ rfl) (r1.kp (.push _ _))⟩)
  rw [r1.length, sizeLine_eq]; (first | lia | omega)
theorem f_list {elts : List Expr} {pos : Pos} {ds : List PyData} (h : EvL (model prog w) A env h₀ ρ (spliced (backTo pos (starEach elts env))) ds) (hz : ds.length ≤ 1000) :
    EvF (model prog w) A env h₀ ρ (eval (.List elts pos) env) ds := fun m s F R => by
  refine wpAny_List (wmono2 (h m s F R) fun vs s1 G1 r1 => ⟨?_, G1.trans (.mk'' (.push _ _)), _, vs, 0, rfl, Heap.get?_push_size _ rfl, r1.kp (.push _ _), ?_⟩)
  · rw [r1.length, sizeLine_eq]; (first | lia | omega)
  · cases hq : s.heap.get? s1.heap.objs.size with
    | none => rfl
    | some o => exact absurd (Heap.lt_size (G1.kp _ _ hq)) (Nat.lt_irrefl _)

-- an item
theorem d_sub_tup {value slice : Expr} {pos : Pos} {ds : List PyData} {k : Int} {j : Nat} {d : PyData} (hv : EvD (model prog w) A env h₀ ρ (eval value env) (.tuple ds)) (hi : EvD (model prog w) A env h₀ ρ (eval slice env) (.int k))
    (hk : -100000 ≤ k ∧ k ≤ 100000) (hj : seqIndex? k ds.length = some j) (hd : ds[j]? = some d)
    (hs : ∀ (t : Addr) (u : Tok), subscripted slice false (.ref t) (.int k u) = operate [.ref t, .int k u] (getItem (.ref t) (.int k u)) := by intro _ _; with_unfolding_all rfl) :
    EvD (model prog w) A env h₀ ρ (eval (.Subscript value slice pos) env) d := fun m s F R => by
  refine Subscript_ (wmono2 (hv m s F R) fun v s1 G1 r1 => wmono (hi m s1 (G1.fr F) (G1.envr R)) fun u s2 q9 => ?_)
  have G2 := q9.1
  have r2 := q9.2
  focus ((refine let G9 : Prop := _; (?_ : G9)); (obtain ⟨a, vs, n, rfl, ho, ra⟩ := (r1.kp G2.kp).tup_inv); all_goals (unfold G9; clear G9))
  focus ((refine let G9 : Prop := _; (?_ : G9)); (obtain ⟨t, rfl⟩ := r2.int_inv); all_goals (unfold G9; clear G9))
  focus ((refine let G9 : Prop := _; (?_ : G9)); (obtain ⟨x, hx, rx⟩ := ra.get hd); all_goals (unfold G9; clear G9))
  have ht : IsTup s2.heap a vs.toArray := ⟨_, ho, rfl, n, rfl⟩
  exact subscriptTail_builtinR (x := x) ht.typeIs slot_tuple_getitem.lookup (getItem_tuple ht (by (first | lia | omega)) (by (first | lia | omega)) (by rw [List.size_toArray, ra.length]; exact hj) (by simpa using hx) ⟨rfl, G1.trans G2, rx⟩) (hs a t)
theorem d_sub_list {value slice : Expr} {pos : Pos} {ds : List PyData} {k : Int} {d : PyData} (hv : EvD (model prog w) A env h₀ ρ (eval value env) (.list ds)) (hi : EvD (model prog w) A env h₀ ρ (eval slice env) (.int k))
    (h0 : 0 ≤ k) (hk : k ≤ 100000) (hd : ds[k.toNat]? = some d)
    (hs : ∀ (t : Addr) (u : Tok), subscripted slice false (.ref t) (.int k u) = operate [.ref t, .int k u] (getItem (.ref t) (.int k u)) := by intro _ _; with_unfolding_all rfl) :
    EvD (model prog w) A env h₀ ρ (eval (.Subscript value slice pos) env) d := fun m s F R => by
  refine Subscript_ (wmono2 (hv m s F R) fun v s1 G1 r1 => wmono (hi m s1 (G1.fr F) (G1.envr R)) fun u s2 q9 => ?_)
  have G2 := q9.1
  have r2 := q9.2
  focus ((refine let G9 : Prop := _; (?_ : G9)); (obtain ⟨a, vs, n, rfl, ho, ra⟩ := (r1.kp G2.kp).list_inv); all_goals (unfold G9; clear G9))
  focus ((refine let G9 : Prop := _; (?_ : G9)); (obtain ⟨t, rfl⟩ := r2.int_inv); all_goals (unfold G9; clear G9))
  focus ((refine let G9 : Prop := _; (?_ : G9)); (obtain ⟨x, hx, rx⟩ := ra.get hd); all_goals (unfold G9; clear G9))
  have hl : s2.heap.IsList a vs.toArray := ⟨_, ho, rfl, n, rfl⟩
  exact subscriptTail_builtinR (x := x) hl.typeIs slot_list_getitem.lookup (wpAny_getItem_list hl h0 (by (first | lia | omega)) (by simpa using hx) ⟨rfl, G1.trans G2, rx⟩) (hs a t)
theorem d_sub_back {value slice : Expr} {pos : Pos} {ds : List PyData} {k : Int} {d : PyData} (hv : EvD (model prog w) A env h₀ ρ (eval value env) (.list ds)) (hi : EvD (model prog w) A env h₀ ρ (eval slice env) (.int k))
    (h0 : k < 0) (hk : -100000 ≤ k) (h1 : -(ds.length : Int) ≤ k) (hd : ds[(k + (ds.length : Int)).toNat]? = some d)
    (hs : ∀ (t : Addr) (u : Tok), subscripted slice false (.ref t) (.int k u) = operate [.ref t, .int k u] (getItem (.ref t) (.int k u)) := by intro _ _; with_unfolding_all rfl) :
    EvD (model prog w) A env h₀ ρ (eval (.Subscript value slice pos) env) d := fun m s F R => by
  refine Subscript_ (wmono2 (hv m s F R) fun v s1 G1 r1 => wmono (hi m s1 (G1.fr F) (G1.envr R)) fun u s2 q9 => ?_)
  have G2 := q9.1
  have r2 := q9.2
  focus ((refine let G9 : Prop := _; (?_ : G9)); (obtain ⟨a, vs, n, rfl, ho, ra⟩ := (r1.kp G2.kp).list_inv); all_goals (unfold G9; clear G9))
  focus ((refine let G9 : Prop := _; (?_ : G9)); (obtain ⟨t, rfl⟩ := r2.int_inv); all_goals (unfold G9; clear G9))
  focus ((refine let G9 : Prop := _; (?_ : G9)); (obtain ⟨x, hx, rx⟩ := ra.get hd); all_goals (unfold G9; clear G9))
  have hl : s2.heap.IsList a vs.toArray := ⟨_, ho, rfl, n, rfl⟩
  exact subscriptTail_builtinR (x := x) hl.typeIs slot_list_getitem.lookup (wpAny_getItem_list_neg hl h0 (by rw [List.size_toArray, ra.length]; exact h1) (by (first | lia | omega)) (by rw [List.size_toArray, ra.length]; simpa using hx) ⟨rfl, G1.trans G2, rx⟩) (hs a t)
end
end Mine
end
-- Lg3
section
open PySem PySem.W PyProof.Rows PySem.Calls PySem.Spec
namespace Mine

theorem memLookup {α : Type} {x : Str} {e : α} : ∀ {r : List (Str × α)}, r.lookup x = some e → (x, e) ∈ r
  | [], q => nomatch q
  | (y, f) :: r, q => by
    rw [List.lookup_cons] at q
    cases hb : x == y with
    | true => rw [hb] at q; cases q; rw [eq_of_beq hb]; exact .head _
    | false => rw [hb] at q; exact .tail _ (memLookup q)
theorem noLs_snoc {d : PyData} (hd : noL d = true) : ∀ {ds : List PyData}, noLs ds = true → noLs (ds ++ [d]) = true
  | [], _ => by simp [noLs, hd]
  | z :: r, h => by
    have q := Bool.and_eq_true_iff.mp (show (noL z && noLs r) = true by simpa [noLs] using h)
    simp [noLs, q.1, noLs_snoc hd q.2]

-- a change at one place that holds no sequence
noncomputable def NotSeq (h : Heap) (X : Addr) : Prop := ∀ o xs n, h.get? X = some o → o.data ≠ .seq xs n
section
variable {h h' : Heap} {X : Addr}
theorem HR.but (hx : NotSeq h X) (hs : Heap.ExtBut X h h') {v : Value} {d : PyData} (r : HR h v d) : HR h' v d :=
  r.mono fun a o vs n e hd => hs a o (by rintro rfl; exact hx _ _ _ e hd) e
theorem HA.but (hx : NotSeq h X) (hs : Heap.ExtBut X h h') {v : List Value} {d : List PyData} (r : HA h v d) : HA h' v d :=
  r.mono fun a o vs n e hd => hs a o (by rintro rfl; exact hx _ _ _ e hd) e
theorem EntIs.but {h₀ : Heap} (hx : NotSeq h X) (hs : Heap.ExtBut X h h') {v : Value} {e : Ent} (x : EntIs h₀ h v e) : EntIs h₀ h' v e := by
  cases e with
  | val d => exact ⟨x.1.but hx hs, x.2⟩
  | raw u => exact x
  | own ds => exact x.elim fun a x => x.elim fun vs x => x.elim fun n x => ⟨a, vs, n, x.1, hs a _ (by rintro rfl; exact hx _ _ _ x.2.1 rfl) x.2.1, x.2.2.1.but hx hs, x.2.2.2⟩
theorem EnvR.but {h₀ : Heap} {m : Str → Option Value} {ρ : Ev} (hx : NotSeq h X) (hs : Heap.ExtBut X h h') (R : EnvR h₀ h m ρ) : EnvR h₀ h' m ρ := fun x e q => (R x e q).elim fun v y => ⟨v, y.1, y.2.but hx hs⟩
theorem NotSeq.ns {m : Str → Option Value} (N : h.Ns X m) : NotSeq h X := fun o xs n e hd => by
  focus ((refine let G9 : Prop := _; (?_ : G9)); (obtain ⟨o', es, ep, e', hd', _⟩ := N); all_goals (unfold G9; clear G9))
  rw [e] at e'
  cases e'
  rw [hd] at hd'
  cases hd'
theorem NotSeq.cell {v : Option Value} (N : h.IsCell X v) : NotSeq h X := fun o xs n e hd => by
  focus ((refine let G9 : Prop := _; (?_ : G9)); (obtain ⟨o', e', hd'⟩ := N); all_goals (unfold G9; clear G9))
  rw [e] at e'
  cases e'
  rw [hd] at hd'
  cases hd'
end

-- statements
inductive Out where
  | ret (d : PyData)
  | retF (ds : List PyData)
  | next (ρ : Ev)

noncomputable def Owned (m : Str → Option Value) (ρ : Ev) (b : Addr) : Prop := ∃ x ds, ρ.lookup x = some (.own ds) ∧ m x = some (.ref b)

structure Nx (env : Env) (h₀ : Heap) (ρ ρ' : Ev) (m m' : Str → Option Value) (h h' : Heap) : Prop where
  fr : Frm env h₀ h' m'
  er : EnvR h₀ h' m' ρ'
  keep : ∀ b o, h.get? b = some o → b ≠ env.locals → (∀ n, env.cells.lookup n ≠ some b) → ¬ Owned m ρ b → h'.get? b = some o
  own : ∀ b, Owned m' ρ' b → Owned m ρ b ∨ h.get? b = none

noncomputable def Same (s s' : Shared) : Prop := ∃ h' tk, s' = { s with heap := h', toks := tk }
theorem Same.refl (s : Shared) : Same s s := ⟨s.heap, s.toks, rfl⟩
theorem Same.trans {a b c : Shared} (x : Same a b) (y : Same b c) : Same a c := by
  focus ((refine let G9 : Prop := _; (?_ : G9)); (obtain ⟨h1, t1, rfl⟩ := x); all_goals (unfold G9; clear G9))
  focus ((refine let G9 : Prop := _; (?_ : G9)); (obtain ⟨h2, t2, rfl⟩ := y); all_goals (unfold G9; clear G9))
  exact ⟨h2, t2, rfl⟩
theorem Grew.same {a b : Shared} (x : Grew a b) : Same a b := x.eq

noncomputable def OutIs (env : Env) (h₀ : Heap) (ρ : Ev) (m : Str → Option Value) (s : Shared) (o : Out) (fl : Flow) (s' : Shared) : Prop :=
  match o with
  | .ret d => ∃ v, fl = .ret v ∧ Same s s' ∧ Kp h₀ s'.heap ∧ HR s'.heap v d
  | .retF ds => ∃ a vs n, fl = .ret (.ref a) ∧ Same s s' ∧ Kp h₀ s'.heap ∧ s'.heap.get? a = some (listOf (List.toArray vs) n) ∧ HA s'.heap vs ds ∧ h₀.get? a = none
  | .next ρ' => fl = .next ∧ Same s s' ∧ ∃ m', Nx env h₀ ρ ρ' m m' s.heap s'.heap

noncomputable def Xs (M : Model) (A : Around) (env : Env) (h₀ : Heap) (ρ : Ev) (t : Sem Flow) (o : Out) : Prop :=
  ∀ (m : Str → Option Value) (s : Shared), Frm env h₀ s.heap m → EnvR h₀ s.heap m ρ → wpAny M A t (OutIs env h₀ ρ m s o) NoE s

section
variable {env : Env} {h₀ : Heap}
theorem Frm.at_locals {h : Heap} {m : Str → Option Value} (F : Frm env h₀ h m) : ∃ o, h.get? env.locals = some o := by
  focus ((refine let G9 : Prop := _; (?_ : G9)); (obtain ⟨ml, ⟨o, _, _, e, _⟩, _⟩ := F.ns); all_goals (unfold G9; clear G9))
  exact ⟨o, e⟩
theorem Frm.at_cell {h : Heap} {m : Str → Option Value} (F : Frm env h₀ h m) {n : Str} {c : Addr} (hc : env.cells.lookup n = some c) : ∃ o, h.get? c = some o := by
  focus ((refine let G9 : Prop := _; (?_ : G9)); (obtain ⟨o, e, _⟩ := F.cell n c hc); all_goals (unfold G9; clear G9))
  exact ⟨o, e⟩
theorem Nx.trans {h h1 h2 : Heap} {ρ ρ1 ρ2 : Ev} {m m1 m2 : Str → Option Value} (x : Nx env h₀ ρ ρ1 m m1 h h1) (y : Nx env h₀ ρ1 ρ2 m1 m2 h1 h2) : Nx env h₀ ρ ρ2 m m2 h h2 := by
  refine ⟨y.fr, y.er, fun b o e hb hc hn => y.keep b o (x.keep b o e hb hc hn) hb hc fun q => ?_, fun b q => ?_⟩
  · rcases x.own b q with q | q
    · exact hn q
    · rw [q] at e; cases e
  · rcases y.own b q with q | q
    · exact x.own b q
    · by_cases ho : Owned m ρ b
      · exact .inl ho
      · by_cases hb : b = env.locals
        · focus ((refine let G9 : Prop := _; (?_ : G9)); (obtain ⟨o, e⟩ := x.fr.at_locals); all_goals (unfold G9; clear G9))
          rw [hb, e] at q; cases q
        · by_cases hc : ∃ n, env.cells.lookup n = some b
          · focus ((refine let G9 : Prop := _; (?_ : G9)); (obtain ⟨n, hc⟩ := hc); all_goals (unfold G9; clear G9))
            focus ((refine let G9 : Prop := _; (?_ : G9)); (obtain ⟨o, e⟩ := x.fr.at_cell hc); all_goals (unfold G9; clear G9))
            rw [e] at q; cases q
          · cases hq : h.get? b with
            | none => exact .inr rfl
            | some o => rw [x.keep b o hq hb (fun n q => hc ⟨n, q⟩) ho] at q; cases q
theorem OutIs.before {ρ ρ1 : Ev} {m m1 : Str → Option Value} {s s1 : Shared} {o : Out} {fl : Flow} {s' : Shared} (e : Same s s1) (x : Nx env h₀ ρ ρ1 m m1 s.heap s1.heap) (h : OutIs env h₀ ρ1 m1 s1 o fl s') : OutIs env h₀ ρ m s o fl s' := by
  cases o with
  | ret d =>
    focus ((refine let G9 : Prop := _; (?_ : G9)); (obtain ⟨v, a, b, c, d⟩ := h); all_goals (unfold G9; clear G9))
    exact ⟨v, a, e.trans b, c, d⟩
  | retF ds =>
    focus ((refine let G9 : Prop := _; (?_ : G9)); (obtain ⟨a, vs, n, b, c, d⟩ := h); all_goals (unfold G9; clear G9))
    exact ⟨a, vs, n, b, e.trans c, d⟩
  | next ρ' =>
    focus ((refine let G9 : Prop := _; (?_ : G9)); (obtain ⟨a, b, m', y⟩ := h); all_goals (unfold G9; clear G9))
    exact ⟨a, e.trans b, m', x.trans y⟩
theorem Nx.grew {ρ : Ev} {m : Str → Option Value} {s s1 : Shared} (G : Grew s s1) (F : Frm env h₀ s.heap m) (R : EnvR h₀ s.heap m ρ) : Nx env h₀ ρ ρ m m s.heap s1.heap :=
  ⟨G.fr F, G.envr R, fun b o e _ _ _ => G.kp b o e, fun _ q => .inl q⟩
theorem Owned.list {h : Heap} {m : Str → Option Value} {ρ : Ev} {b : Addr} (R : EnvR h₀ h m ρ) (q : Owned m ρ b) : (∃ vs n, h.get? b = some (listOf (List.toArray vs) n)) ∧ h₀.get? b = none := by
  focus ((refine let G9 : Prop := _; (?_ : G9)); (obtain ⟨x, ds, hl, hm⟩ := q); all_goals (unfold G9; clear G9))
  focus ((refine let G9 : Prop := _; (?_ : G9)); (obtain ⟨v, hv, a, vs, n, rfl, ho, _, _, hq⟩ := R x _ hl); all_goals (unfold G9; clear G9))
  rw [hm] at hv
  cases hv
  exact ⟨⟨vs, n, ho⟩, hq⟩
/-- a tuple stands through all -/
theorem Nx.tup {h h1 : Heap} {ρ ρ1 : Ev} {m m1 : Str → Option Value} (F : Frm env h₀ h m) (R : EnvR h₀ h m ρ) (x : Nx env h₀ ρ ρ1 m m1 h h1) : ∀ a vs n, h.get? a = some (tupO vs n) → h1.get? a = some (tupO vs n) := fun a vs n e => by
  refine x.keep a _ e ?_ ?_ ?_
  · rintro rfl
    focus ((refine let G9 : Prop := _; (?_ : G9)); (obtain ⟨ml, N, _⟩ := F.ns); all_goals (unfold G9; clear G9))
    exact NotSeq.ns N _ _ _ e rfl
  · intro k hc
    exact NotSeq.cell (F.cell k a hc) _ _ _ e rfl
  · intro q
    focus ((refine let G9 : Prop := _; (?_ : G9)); (obtain ⟨⟨us, k, e'⟩, _⟩ := q.list R); all_goals (unfold G9; clear G9))
    rw [e] at e'
    simp at e'
end

section
variable {prog : Program} {w : World} {A : Around} {env : Env} {h₀ : Heap} {ρ : Ev}

theorem x_seq {st : Stmt} {rest : List Stmt} {ρ1 : Ev} {o : Out} (h : Xs (model prog w) A env h₀ ρ (exec st env) (.next ρ1)) (k : Xs (model prog w) A env h₀ ρ1 (execs rest env) o) :
    Xs (model prog w) A env h₀ ρ (execs (st :: rest) env) o := fun m s F R => by
  refine wpAny_execs_cons (wmono (h m s F R) fun fl s1 q => ?_)
  focus ((refine let G9 : Prop := _; (?_ : G9)); (obtain ⟨rfl, e, m1, x⟩ := q); all_goals (unfold G9; clear G9))
  exact wmono (k m1 s1 x.fr x.er) fun fl s2 q => q.before e x
theorem Nx.less {h : Heap} {m : Str → Option Value} {ρ ρ' : Ev} (F : Frm env h₀ h m) (R : EnvR h₀ h m ρ) (k : ∀ p ∈ ρ', ρ.lookup p.1 = some p.2) : Nx env h₀ ρ ρ' m m h h :=
  ⟨F, R.less k, fun _ _ e _ _ _ => e, fun b ⟨x, ds, q, hm⟩ => .inl ⟨x, ds, k _ (memLookup q), hm⟩⟩
theorem x_nil {ρ' : Ev} (h : ∀ p ∈ ρ', ρ.lookup p.1 = some p.2) : Xs (model prog w) A env h₀ ρ (execs [] env) (.next ρ') := fun m s F R =>
  wpAny_execs_nil ⟨rfl, .refl _, m, .less F R h⟩
theorem x_ret {e : Expr} {pos : Pos} {rest : List Stmt} {d : PyData} (h : EvD (model prog w) A env h₀ ρ (eval e env) d) : Xs (model prog w) A env h₀ ρ (execs (.Return (some e) pos :: rest) env) (.ret d) := fun m s F R =>
  wpAny_execs_cons (wpAny_Return_some (wmono2 (h m s F R) fun v s1 G r => ⟨v, rfl, G.same, (G.fr F).keep, r⟩))
theorem x_retF {e : Expr} {pos : Pos} {rest : List Stmt} {ds : List PyData} (h : EvF (model prog w) A env h₀ ρ (eval e env) ds) : Xs (model prog w) A env h₀ ρ (execs (.Return (some e) pos :: rest) env) (.retF ds) := fun m s F R =>
  wpAny_execs_cons (wpAny_Return_some (wmono (h m s F R) fun v s1 ⟨G, a, vs, n, e, o, r, q⟩ => ⟨a, vs, n, by rw [e], G.same, (G.fr F).keep, o, r, by
    cases hq : h₀.get? a with
    | none => rfl
    | some o => rw [F.keep _ _ hq] at q; cases q⟩))
theorem x_retO {x : Str} {p pos : Pos} {rest : List Stmt} {ds : List PyData} (hl : ρ.lookup x = some (.own ds)) (hk : env.scope.kind = .function) (hx : env.kindOf x = some .local) (hd : (x == ("__debug__" : Str)) = false := by decide) :
    Xs (model prog w) A env h₀ ρ (execs (.Return (some (.Name x p)) pos :: rest) env) (.retF ds) := fun m s F R => by
  focus ((refine let G9 : Prop := _; (?_ : G9)); (obtain ⟨v, hv, a, vs, n, rfl, ho, r, _, q⟩ := R x _ hl); all_goals (unfold G9; clear G9))
  focus ((refine let G9 : Prop := _; (?_ : G9)); (obtain ⟨ml, hn, he⟩ := F.ns); all_goals (unfold G9; clear G9))
  exact wpAny_execs_cons (wpAny_Return_some (wpAny_Name (wpAny_loadName_local hk hx hn ((he x hx).trans hv) ⟨a, vs, n, rfl, .refl _, F.keep, ho, r, q⟩) hd))

noncomputable def updM (m : Str → Option Value) (x : Str) (v : Value) : Str → Option Value := fun y => if y = x then some v else m y

theorem lookup_cons_self {α : Type} {x : Str} {e : α} {r : List (Str × α)} : ((x, e) :: r).lookup x = some e := by simp
theorem lookup_cons_ne {α : Type} {x y : Str} {e : α} {r : List (Str × α)} (h : y ≠ x) : ((x, e) :: r).lookup y = r.lookup y := by
  rw [List.lookup_cons]
  have : (y == x) = false := beq_eq_false_iff_ne.mpr h
  rw [this]

/-- where a name is stored: among the names or in a cell -/
inductive Spot (env : Env) (h₀ : Heap) (x : Str) : Prop
  | loc (hx : env.kindOf x = some .local) (hc : env.cells.lookup x = none)
  | cell (c : Addr) (hx : env.kindOf x = some .cell) (hc : env.cells.lookup x = some c) (hf : h₀.get? c = none) (ha : ∀ n, env.cells.lookup n = some c → n = x)

/-- a name stored -/
theorem st_ {x : Str} {v : Value} {e : Ent} {m : Str → Option Value} {s : Shared} {Q : Unit → Shared → Prop} (S : Spot env h₀ x) (hk : env.scope.kind = .function) (F : Frm env h₀ s.heap m) (R : EnvR h₀ s.heap m ρ)
    (he : EntIs h₀ s.heap v e) (ho : ∀ b ds, e = .own ds → v = .ref b → Owned m ρ b ∨ s.heap.get? b = none)
    (h : ∀ h' tk, Nx env h₀ ρ ((x, e) :: ρ) m (updM m x v) s.heap h' → Q () { s with heap := h', toks := tk }) : wpAny (model prog w) A (storeName env x v) Q NoE s := by
  focus ((refine let G9 : Prop := _; (?_ : G9)); (obtain ⟨ml, hn, hm⟩ := F.ns); all_goals (unfold G9; clear G9))
  have own' : ∀ b, Owned (updM m x v) ((x, e) :: ρ) b → Owned m ρ b ∨ s.heap.get? b = none := fun b q => by
    focus ((refine let G9 : Prop := _; (?_ : G9)); (obtain ⟨y, ds, q, hm⟩ := q); all_goals (unfold G9; clear G9))
    by_cases hy : y = x
    · subst hy
      rw [lookup_cons_self] at q
      cases q
      have : v = .ref b := by simpa [updM] using hm
      exact ho b ds rfl this
    · rw [lookup_cons_ne hy] at q
      exact .inl ⟨y, ds, q, by simpa [updM, hy] using hm⟩
  have env' : ∀ (X : Addr) (h' : Heap), NotSeq s.heap X → Heap.ExtBut X s.heap h' → EnvR h₀ h' (updM m x v) ((x, e) :: ρ) := fun X h' hX hs y f q => by
    by_cases hy : y = x
    · subst hy
      rw [lookup_cons_self] at q
      cases q
      exact ⟨v, if_pos rfl, he.but hX hs⟩
    · rw [lookup_cons_ne hy] at q
      focus ((refine let G9 : Prop := _; (?_ : G9)); (obtain ⟨u, hu, r⟩ := R y f q); all_goals (unfold G9; clear G9))
      exact ⟨u, (if_neg hy).trans hu, r.but hX hs⟩
  cases S with
  | loc hx hc =>
    refine wpAny_storeName_local hx hn (fun h' hn' hs => h h' _ ⟨⟨⟨_, hn', fun y hy => ?_⟩, fun b o q => ?_, F.above, fun n c hnc => ?_⟩, env' _ _ (.ns hn) hs.extBut, fun b o q hb _ _ => (hs.2 b hb).trans q, own'⟩) (by rw [hk]; rfl)
    · by_cases hyx : y = x
      · simp [updM, hyx]
      · simp [updM, hyx, hm y hy]
    · exact (hs.2 b (by intro h9; (first | rw [h9, F.above] at q | rw [← h9, F.above] at q); cases q)).trans (F.keep b o q)
    · have hne : n ≠ x := by rintro rfl; rw [hc] at hnc; cases hnc
      have hcl : c ≠ env.locals := by
        rintro rfl
        focus ((refine let G9 : Prop := _; (?_ : G9)); (obtain ⟨o, eo, hd⟩ := F.cell n _ hnc); all_goals (unfold G9; clear G9))
        focus ((refine let G9 : Prop := _; (?_ : G9)); (obtain ⟨o', es, ep, eo', hd', _⟩ := hn); all_goals (unfold G9; clear G9))
        rw [eo] at eo'
        cases eo'
        rw [hd] at hd'
        cases hd'
      have : updM m x v n = m n := if_neg hne
      rw [this]
      exact (F.cell n c hnc).sameBut hs hcl
  | cell c hx hc hf ha =>
    have hcl : c ≠ env.locals := by
      rintro rfl
      focus ((refine let G9 : Prop := _; (?_ : G9)); (obtain ⟨o, eo, hd⟩ := F.cell x _ hc); all_goals (unfold G9; clear G9))
      focus ((refine let G9 : Prop := _; (?_ : G9)); (obtain ⟨o', es, ep, eo', hd', _⟩ := hn); all_goals (unfold G9; clear G9))
      rw [eo] at eo'
      cases eo'
      rw [hd] at hd'
      cases hd'
    refine wpAny_storeName_cell hk hx hc (F.cell x c hc) fun h' hc' hs => h h' _ ⟨⟨⟨ml, hn.sameBut hs hcl.symm, fun y hy => ?_⟩, fun b o q => ?_, F.above, fun n c' hnc => ?_⟩, env' _ _ (.cell (F.cell x c hc)) hs.extBut, fun b o q _ hb _ => (hs.2 b fun q' => hb x (q' ▸ hc)).trans q, own'⟩
    · have hyx : y ≠ x := by rintro rfl; rw [hx] at hy; cases hy
      rw [hm y hy]
      exact (if_neg hyx).symm
    · exact (hs.2 b (by intro h9; (first | rw [h9, hf] at q | rw [← h9, hf] at q); cases q)).trans (F.keep b o q)
    · by_cases hnx : n = x
      · subst hnx
        rw [hc] at hnc
        cases hnc
        have : updM m n v n = some v := if_pos rfl
        rw [this]
        exact hc'
      · have : updM m x v n = m n := if_neg hnx
        rw [this]
        exact (F.cell n c' hnc).sameBut hs fun q => hnx (ha n (q ▸ hnc))

theorem x_assign {x : Str} {e : Expr} {p pos : Pos} {d : PyData} (h : EvD (model prog w) A env h₀ ρ (eval e env) d) (hd : noL d = true) (S : Spot env h₀ x) (hk : env.scope.kind = .function)
    (hs : swapsWith e (some (.Name x p)) pos.line env = pure false := by rfl) :
    Xs (model prog w) A env h₀ ρ (exec (.Assign [.Name x p] e pos) env) (.next ((x, .val d) :: ρ)) := fun m s F R => by
  refine wpAny_Assign_Name (wmono (h m s F R) fun v s1 q9 => ?_) hs
  have G := q9.1
  have r := q9.2
  exact st_ (e := .val d) S hk (G.fr F) (G.envr R) ⟨r, .inl hd⟩ (fun _ _ x => nomatch x) fun h' tk X => ⟨rfl, G.same.trans ⟨h', _, rfl⟩, _, (Nx.grew G F R).trans X⟩
theorem x_assignF {x : Str} {e : Expr} {p pos : Pos} {ds : List PyData} (h : EvF (model prog w) A env h₀ ρ (eval e env) ds) (hd : noLs ds = true) (hx : env.kindOf x = some .local) (hxc : env.cells.lookup x = none) (hk : env.scope.kind = .function)
    (hs : swapsWith e (some (.Name x p)) pos.line env = pure false := by rfl) :
    Xs (model prog w) A env h₀ ρ (exec (.Assign [.Name x p] e pos) env) (.next ((x, .own ds) :: ρ)) := fun m s F R => by
  refine wpAny_Assign_Name (wmono (h m s F R) fun v s1 ⟨G, a, vs, n, ev, o, r, q⟩ => ?_) hs
  subst ev
  have q0 : h₀.get? a = none := by
    cases hq : h₀.get? a with
    | none => rfl
    | some o => rw [F.keep _ _ hq] at q; cases q
  focus ((refine let G9 : Prop := _; (?_ : G9)); (obtain ⟨ml, hn, hm⟩ := (G.fr F).ns); all_goals (unfold G9; clear G9))
  have own' : ∀ b, Owned (updM m x (.ref a)) ((x, .own ds) :: ρ) b → Owned m ρ b ∨ s.heap.get? b = none := fun b qb => by
    focus ((refine let G9 : Prop := _; (?_ : G9)); (obtain ⟨y, es, qy, hm⟩ := qb); all_goals (unfold G9; clear G9))
    by_cases hy : y = x
    · subst hy
      have e : Value.ref a = .ref b := by simpa [updM] using hm
      cases e
      exact .inr q
    · rw [lookup_cons_ne hy] at qy
      exact .inl ⟨y, es, qy, by simpa [updM, hy] using hm⟩
  refine wpAny_storeName_local hx hn (fun h' hn' hsb => ⟨rfl, G.same.trans ⟨h', _, rfl⟩, updM m x (.ref a), ⟨⟨_, hn', fun y hy => ?_⟩, fun b o q => ?_, F.above, fun n c hnc => ?_⟩, fun y f qy => ?_, fun b o q hb _ _ => (hsb.2 b hb).trans (G.kp _ _ q), own'⟩) (by rw [hk]; rfl)
  · by_cases hyx : y = x
    · simp [updM, hyx]
    · simp [updM, hyx, hm y hy]
  · exact (hsb.2 b (by intro h9; (first | rw [h9, F.above] at q | rw [← h9, F.above] at q); cases q)).trans ((G.fr F).keep b o q)
  · have hne : n ≠ x := by rintro rfl; rw [hxc] at hnc; cases hnc
    have hcl : c ≠ env.locals := by
      rintro rfl
      focus ((refine let G9 : Prop := _; (?_ : G9)); (obtain ⟨o, eo, hd⟩ := (G.fr F).cell n _ hnc); all_goals (unfold G9; clear G9))
      focus ((refine let G9 : Prop := _; (?_ : G9)); (obtain ⟨o', es, ep, eo', hd', _⟩ := hn); all_goals (unfold G9; clear G9))
      rw [eo] at eo'
      cases eo'
      rw [hd] at hd'
      cases hd'
    have : updM m x (.ref a) n = m n := if_neg hne
    rw [this]
    exact ((G.fr F).cell n c hnc).sameBut hsb hcl
  · by_cases hy : y = x
    · subst hy
      rw [lookup_cons_self] at qy
      cases qy
      exact ⟨_, if_pos rfl, EntIs.but (.ns hn) hsb.extBut (⟨a, vs, n, rfl, o, r, hd, q0⟩ : EntIs h₀ s1.heap (.ref a) (.own ds))⟩
    · rw [lookup_cons_ne hy] at qy
      focus ((refine let G9 : Prop := _; (?_ : G9)); (obtain ⟨u, hu, r⟩ := R y f qy); all_goals (unfold G9; clear G9))
      exact ⟨u, (if_neg hy).trans hu, (r.kp G.kp).but (.ns hn) hsb.extBut⟩

-- two names at once
theorem extBut_kp {h h' : Heap} (e : Heap.ExtBut h.objs.size h h') : Kp h h' := fun b o q => e b o (Nat.ne_of_lt (Heap.lt_size q)) q
theorem IsTup.of {h : Heap} {a : Addr} {vs : List Value} {n : Nat} (ho : h.get? a = some (tupO vs n)) : IsTup h a vs.toArray := ⟨_, ho, rfl, n, rfl⟩

theorem x_assign2 {x y : Str} {e : Expr} {k : Nat} {p q r pos : Pos} {d f : PyData} (hh : A.handled = none) (h : EvD (model prog w) A env h₀ ρ (eval e env) (.tuple [d, f])) (hd : noL d = true) (hf : noL f = true)
    (hx : Spot env h₀ x) (hy : Spot env h₀ y) (hk : env.scope.kind = .function)
    (hs : swapsWithSole [.Tuple [.Name x p, .Name y q] k r] e pos.line env = pure false := by rfl)
    (hw : swappedStores [.Tuple [.Name x p, .Name y q] k r] e env = pure (some [x, y]) := by rfl) :
    Xs (model prog w) A env h₀ ρ (exec (.Assign [.Tuple [.Name x p, .Name y q] k r] e pos) env) (.next ((x, .val d) :: (y, .val f) :: ρ)) := fun m s F R => by
  try (refine (let Q9 : _ → Shared → Prop := _; (?_ : wpAny _ _ _ Q9 _ _)))
  refine Assign_Tuple_swapped (wmono (h m s F R) fun v s1 q9 => ?_) hs hw
  have G := q9.1
  have rv := q9.2
  focus ((refine let G9 : Prop := _; (?_ : G9)); (obtain ⟨a, vs, n, rfl, ho, ra⟩ := rv.tup_inv); all_goals (unfold G9; clear G9))
  cases ra with
  | cons r1 ra =>
    cases ra with
    | cons r2 ra =>
      cases ra
      try (refine (let Q9 : _ → Shared → Prop := _; (?_ : wpAny _ _ _ Q9 _ _)))
      refine unpackItems_tuple (items := List.toArray [_, _]) hh (IsTup.of ho) fun h' he => ?_
      have G2 : Grew s1 { s1 with heap := h' } := .mk'' (extBut_kp he)
      have G3 := G.trans G2
      show wpAny _ _ (assignInOrder [bindName env y, bindName env x] [_, _]) _ _ _
      try (refine (let Q9 : _ → Shared → Prop := _; (?_ : wpAny _ _ _ Q9 _ _)))
      refine assignInOrder_cons (bindName_ (st_ (e := .val f) hy hk (G3.fr F) (G3.envr R) ⟨r2.kp G2.kp, .inl hf⟩ (fun _ _ x => nomatch x) fun h2 t2 X2 => ?_))
      have r1' := HR.monoT (X2.tup (G3.fr F) (G3.envr R)) hd (r1.kp G2.kp)
      try (refine (let Q9 : _ → Shared → Prop := _; (?_ : wpAny _ _ _ Q9 _ _)))
      refine assignInOrder_cons (bindName_ (st_ (e := .val d) hx hk X2.fr X2.er ⟨r1', .inl hd⟩ (fun _ _ x => nomatch x) fun h3 t3 X3 => assignInOrder_nil ?_))
      exact ⟨rfl, G3.same.trans ⟨h3, _, rfl⟩, _, (Nx.grew G3 F R).trans (X2.trans X3)⟩

-- an int's name changed in place
theorem x_augAdd {x : Str} {e : Expr} {p pos : Pos} {i j : Int} (hl : ρ.lookup x = some (.val (.int i))) (h : EvD (model prog w) A env h₀ ρ (eval e env) (.int j)) (hx : env.kindOf x = some .local) (hxc : env.cells.lookup x = none) (hk : env.scope.kind = .function) :
    Xs (model prog w) A env h₀ ρ (exec (.AugAssign (.Name x p) .Add e pos) env) (.next ((x, .val (.int (i + j))) :: ρ)) := fun m s F R => by
  focus ((refine let G9 : Prop := _; (?_ : G9)); (obtain ⟨v, hv, r, _⟩ := R x _ hl); all_goals (unfold G9; clear G9))
  focus ((refine let G9 : Prop := _; (?_ : G9)); (obtain ⟨ml, hn, hm⟩ := F.ns); all_goals (unfold G9; clear G9))
  focus ((refine let G9 : Prop := _; (?_ : G9)); (obtain ⟨t, rfl⟩ := r.int_inv); all_goals (unfold G9; clear G9))
  refine wpAny_AugAssign_Name (wpAny_loadName_local hk hx hn ((hm x hx).trans hv) (wmono (h m s F R) fun u s1 q9 => ?_))
  have G := q9.1
  have ru := q9.2
  focus ((refine let G9 : Prop := _; (?_ : G9)); (obtain ⟨t', rfl⟩ := ru.int_inv); all_goals (unfold G9; clear G9))
  refine iadd_int ?_
  have G2 : Grew s { s1 with toks := s1.toks + 1 } := G.trans (.tok _ _)
  exact st_ (e := .val (.int (i + j))) (.loc hx hxc) hk (G2.fr F) (G2.envr R) ⟨.int _ _, .inl rfl⟩ (fun _ _ x => nomatch x) fun h' tk X => ⟨rfl, G2.same.trans ⟨h', _, rfl⟩, _, (Nx.grew G2 F R).trans X⟩

-- append
theorem x_append {x : Str} {e : Expr} {p ap cp pos : Pos} {ds : List PyData} {d : PyData} (hl : ρ.lookup x = some (.own ds)) (ho : (ρ.all fun q => match q.2 with | .own _ => q.1 == x | _ => true) = true)
    (h : EvD (model prog w) A env h₀ ρ (eval e env) d) (hd : noL d = true) (hz : ds.length ≤ 1000)
    (hk : env.scope.kind = .function) (hx : env.kindOf x = some .local) (hdb : (x == ("__debug__" : Str)) = false := by decide)
    (hi : interactive env = false := by rfl) (hs : swapsWith (.Call (.Attribute (.Name x p) (Str.ofString "append") ap) [e] [] cp) none pos.line env = pure false := by rfl)
    (he : starEach [e] env = (false, eval e env) :: starEach [] env := by rfl)
    {pl : Sem Bool} (hcall : eval (.Call (.Attribute (.Name x p) (Str.ofString "append") ap) [e] [] cp) env = (do
      let ov ← eval (.Name x p) env
      standAt ap.atName
      let (f, first) ← holding [ov] (getMethod ov (Str.ofString "append") pl)
      callWith cp f first (backTo cp (starEach [e] env)) []) := by rfl) :
    Xs (model prog w) A env h₀ ρ (exec (.Expr (.Call (.Attribute (.Name x p) (Str.ofString "append") ap) [e] [] cp) pos) env) (.next ((x, .own (ds ++ [d])) :: ρ)) := fun m s F R => by
  focus ((refine let G9 : Prop := _; (?_ : G9)); (obtain ⟨v, hv, a, vs, n, rfl, hoa, ra, hds, hq⟩ := R x _ hl); all_goals (unfold G9; clear G9))
  focus ((refine let G9 : Prop := _; (?_ : G9)); (obtain ⟨ml, hn, hm⟩ := F.ns); all_goals (unfold G9; clear G9))
  refine wpAny_Expr ?_ hi hs
  refine MethodCall_ ?_ hcall
  refine wpAny_Name (wpAny_loadName_local hk hx hn ((hm x hx).trans hv) ?_) hdb
  refine getMethod_builtin ⟨_, hoa, rfl⟩ PySem.F.plainAttrs_list PySem.F.slot_list_append PySem.F.type_list_append (fun a e => by cases e; exact ⟨_, hoa, rfl⟩) ?_
  dsimp only
  refine callWith_builtin ?_ ?_
  · rw [he]; rfl
  rw [he]
  show wpAny _ _ (evalArgs _ true ((false, eval e env) :: backTo cp (starEach [] env)) []) _ _ _
  refine evalArgs_plain (spliced_cons (wmono (h m s F R) fun u s1 q9 => ?_))
  have G := q9.1
  have ru := q9.2
  refine spliced_nil ?_
  show wpAny _ _ (call (.builtin "list.append") ([.ref a] ++ [u])) _ _ _
  have ho1 := G.kp _ _ hoa
  refine append_at ho1 (fun h' hsb ho' => ?_) (by rw [List.size_toArray, ra.length, sizeLine_eq]; (first | lia | omega))
  dsimp only
  focus ((refine let G9 : Prop := _; (?_ : G9)); (obtain ⟨ml1, hn1, hm1⟩ := (G.fr F).ns); all_goals (unfold G9; clear G9))
  have hL : a ≠ env.locals := by rintro rfl; exact NotSeq.ns hn1 _ _ _ ho1 rfl
  have hC : ∀ k c, env.cells.lookup k = some c → c ≠ a := by rintro k c hc rfl; exact NotSeq.cell ((G.fr F).cell k c hc) _ _ _ ho1 rfl
  have tupK : ∀ b vs n, s1.heap.get? b = some (tupO vs n) → h'.get? b = some (tupO vs n) := fun b us k q => by
    refine (hsb.2 b ?_).trans q
    intro h9
    first | rw [h9, ho1] at q | rw [← h9, ho1] at q
    simp at q
  have F' : Frm env h₀ h' m := ⟨⟨ml1, hn1.sameBut hsb hL.symm, hm1⟩, fun b o q => (hsb.2 b (fun qb => by rw [qb, hq] at q; cases q)).trans ((G.fr F).keep b o q), F.above, fun k c hc => ((G.fr F).cell k c hc).sameBut hsb (hC k c hc)⟩
  refine ⟨rfl, G.same.trans ⟨h', _, rfl⟩, m, F', fun y f qy => ?_, fun b o q hb _ hno => ?_, fun b qb => ?_⟩
  · by_cases hy : y = x
    · subst hy
      rw [lookup_cons_self] at qy
      cases qy
      refine ⟨_, hv, a, vs ++ [u], n + 1, rfl, ?_, ?_, ?_, hq⟩
      · rw [ho']; simp
      · exact ((ra.kp G.kp).append (.cons ru .nil)).monoT tupK (noLs_snoc hd hds)
      · exact noLs_snoc hd hds
    · rw [lookup_cons_ne hy] at qy
      focus ((refine let G9 : Prop := _; (?_ : G9)); (obtain ⟨u', hu', r⟩ := R y f qy); all_goals (unfold G9; clear G9))
      cases f with
      | own es =>
        exfalso
        have hmem : (y, Ent.own es) ∈ ρ := memLookup qy
        have := List.all_eq_true.mp ho _ hmem
        exact hy (eq_of_beq this)
      | raw u => exact ⟨u', hu', r⟩
      | val g =>
        refine ⟨u', hu', ?_, r.2⟩
        rcases r.2 with q | q
        · exact (r.1.kp G.kp).monoT tupK q
        · exact q.kp F'.keep
  · refine (hsb.2 b ?_).trans (G.kp b o q)
    rintro rfl
    exact hno ⟨x, ds, hl, hv⟩
  · focus ((refine let G9 : Prop := _; (?_ : G9)); (obtain ⟨y, es, qy, hm⟩ := qb); all_goals (unfold G9; clear G9))
    by_cases hy : y = x
    · subst hy
      exact .inl ⟨y, ds, hl, hm⟩
    · rw [lookup_cons_ne hy] at qy
      exact .inl ⟨y, es, qy, hm⟩
end
end Mine
end
-- Lg4
section
open PySem PySem.W PyProof.Rows PySem.Calls PySem.Spec
namespace Mine

theorem not_size {h : Heap} : h.get? h.objs.size = none := by
  cases q : h.get? h.objs.size with
  | none => rfl
  | some o => exact absurd (Heap.lt_size q) (Nat.lt_irrefl _)
/-- what stands at the top -/
structure Gd (w : World) (mg mb : Str → Option Value) (h : Heap) : Prop where
  K : (hd.heap_39 w.params).In h
  T : TopRead hd.view_39 (looseW hd.view_39 []) mg mb h
theorem Gd.kp {w : World} {mg mb : Str → Option Value} {h h' : Heap} (k : Kp h h') (G : Gd w mg mb h) : Gd w mg mb h' := ⟨fun a o e => k _ _ (G.K a o e), G.T.keeps k⟩

noncomputable def Room (A : Around) (n : Nat) : Prop := A.depth + n < recursionLimit ∧ A.units + 10 * n + 200 < cLine ∧ A.handled = none
theorem Room.deeper {A : Around} {n : Nat} (R : Room A (n + 1)) (env : Env) : Room (A.deeper env) n := by
  focus ((refine let G9 : Prop := _; (?_ : G9)); (obtain ⟨a, b, c⟩ := R); all_goals (unfold G9; clear G9))
  refine ⟨?_, ?_, c⟩
  · show A.depth + 1 + n < _; (first | lia | omega)
  · show A.units + 3 + 10 * n + 200 < _; (first | lia | omega)
theorem Room.less {A : Around} {n k : Nat} (R : Room A n) (h : k ≤ n) : Room A k := by
  focus ((refine let G9 : Prop := _; (?_ : G9)); (obtain ⟨a, b, c⟩ := R); all_goals (unfold G9; clear G9))
  exact ⟨by (first | lia | omega), by (first | lia | omega), c⟩
theorem Room.units {A : Around} {n : Nat} (R : Room A n) : A.units + 64 < cLine := by
  focus ((refine let G9 : Prop := _; (?_ : G9)); (obtain ⟨a, b, c⟩ := R); all_goals (unfold G9; clear G9))
  (first | lia | omega)

/-- the contract of a def -/
noncomputable def Fn (prog : Program) (w : World) (mg mb : Str → Option Value) (name : Str) (args : List PyData) (d : PyData) (k : Nat) : Prop :=
  ∀ (A : Around) (s : Shared) (fa : Addr) (vals : List Value), Room A k → Gd w mg mb s.heap → mg name = some (.ref fa) → HA s.heap vals args →
    wpAny (model prog w) A (call (.ref fa) vals) (fun v s' => Grew s s' ∧ HR s'.heap v d) NoE s
noncomputable def FnF (prog : Program) (w : World) (mg mb : Str → Option Value) (name : Str) (args : List PyData) (ds : List PyData) (k : Nat) : Prop :=
  ∀ (A : Around) (s : Shared) (fa : Addr) (vals : List Value), Room A k → Gd w mg mb s.heap → mg name = some (.ref fa) → HA s.heap vals args →
    wpAny (model prog w) A (call (.ref fa) vals) (fun v s' => Grew s s' ∧ ∃ a vs n, v = .ref a ∧ s'.heap.get? a = some (listOf (List.toArray vs) n) ∧ HA s'.heap vs ds ∧ s.heap.get? a = none) NoE s

section
variable {prog : Program} {w : World} {mg mb : Str → Option Value} {A : Around} {env : Env} {h₀ : Heap} {ρ : Ev}

theorem name_at {x : Str} {fa : Addr} {h : Heap} {v : Value} (G : Gd w mg mb h) (e : nsIn (hd.heap_39 w.params) mainGlobals x = some (some v)) (hm : mg x = some (.ref fa)) : v = .ref fa := by
  have := mg_of G.K G.T.g e
  rw [hm] at this
  exact (Option.some.inj this).symm

theorem Fn.in1 {name : Str} {k : Nat} {f : Addr} {d1 : PyData} {d : PyData} (e : nsIn (hd.heap_39 w.params) mainGlobals name = some (some (.ref f)))
    (h : ∀ (A : Around) (s : Shared) (v1 : Value), Room A k → Gd w mg mb s.heap → HR s.heap v1 d1 → wpAny (model prog w) A (call (.ref f) [v1]) (fun v s' => Grew s s' ∧ HR s'.heap v d) NoE s) : Fn prog w mg mb name [d1] d k := by
  intro A s fa vals R G hm ha
  focus ((refine let G9 : Prop := _; (?_ : G9)); (obtain ⟨v1, u1, rfl, r1, a1⟩ := HA.inv ha); all_goals (unfold G9; clear G9))
  cases HA.inv0 a1
  cases name_at G e hm
  exact h A s v1 R G r1
theorem Fn.in2 {name : Str} {k : Nat} {f : Addr} {d1 d2 : PyData} {d : PyData} (e : nsIn (hd.heap_39 w.params) mainGlobals name = some (some (.ref f)))
    (h : ∀ (A : Around) (s : Shared) (v1 v2 : Value), Room A k → Gd w mg mb s.heap → HR s.heap v1 d1 → HR s.heap v2 d2 → wpAny (model prog w) A (call (.ref f) [v1, v2]) (fun v s' => Grew s s' ∧ HR s'.heap v d) NoE s) : Fn prog w mg mb name [d1, d2] d k := by
  intro A s fa vals R G hm ha
  focus ((refine let G9 : Prop := _; (?_ : G9)); (obtain ⟨v1, u1, rfl, r1, a1⟩ := HA.inv ha); all_goals (unfold G9; clear G9))
  focus ((refine let G9 : Prop := _; (?_ : G9)); (obtain ⟨v2, u2, rfl, r2, a2⟩ := HA.inv a1); all_goals (unfold G9; clear G9))
  cases HA.inv0 a2
  cases name_at G e hm
  exact h A s v1 v2 R G r1 r2
theorem Fn.in3 {name : Str} {k : Nat} {f : Addr} {d1 d2 d3 : PyData} {d : PyData} (e : nsIn (hd.heap_39 w.params) mainGlobals name = some (some (.ref f)))
    (h : ∀ (A : Around) (s : Shared) (v1 v2 v3 : Value), Room A k → Gd w mg mb s.heap → HR s.heap v1 d1 → HR s.heap v2 d2 → HR s.heap v3 d3 → wpAny (model prog w) A (call (.ref f) [v1, v2, v3]) (fun v s' => Grew s s' ∧ HR s'.heap v d) NoE s) : Fn prog w mg mb name [d1, d2, d3] d k := by
  intro A s fa vals R G hm ha
  focus ((refine let G9 : Prop := _; (?_ : G9)); (obtain ⟨v1, u1, rfl, r1, a1⟩ := HA.inv ha); all_goals (unfold G9; clear G9))
  focus ((refine let G9 : Prop := _; (?_ : G9)); (obtain ⟨v2, u2, rfl, r2, a2⟩ := HA.inv a1); all_goals (unfold G9; clear G9))
  focus ((refine let G9 : Prop := _; (?_ : G9)); (obtain ⟨v3, u3, rfl, r3, a3⟩ := HA.inv a2); all_goals (unfold G9; clear G9))
  cases HA.inv0 a3
  cases name_at G e hm
  exact h A s v1 v2 v3 R G r1 r2 r3
theorem Fn.in4 {name : Str} {k : Nat} {f : Addr} {d1 d2 d3 d4 : PyData} {d : PyData} (e : nsIn (hd.heap_39 w.params) mainGlobals name = some (some (.ref f)))
    (h : ∀ (A : Around) (s : Shared) (v1 v2 v3 v4 : Value), Room A k → Gd w mg mb s.heap → HR s.heap v1 d1 → HR s.heap v2 d2 → HR s.heap v3 d3 → HR s.heap v4 d4 → wpAny (model prog w) A (call (.ref f) [v1, v2, v3, v4]) (fun v s' => Grew s s' ∧ HR s'.heap v d) NoE s) : Fn prog w mg mb name [d1, d2, d3, d4] d k := by
  intro A s fa vals R G hm ha
  focus ((refine let G9 : Prop := _; (?_ : G9)); (obtain ⟨v1, u1, rfl, r1, a1⟩ := HA.inv ha); all_goals (unfold G9; clear G9))
  focus ((refine let G9 : Prop := _; (?_ : G9)); (obtain ⟨v2, u2, rfl, r2, a2⟩ := HA.inv a1); all_goals (unfold G9; clear G9))
  focus ((refine let G9 : Prop := _; (?_ : G9)); (obtain ⟨v3, u3, rfl, r3, a3⟩ := HA.inv a2); all_goals (unfold G9; clear G9))
  focus ((refine let G9 : Prop := _; (?_ : G9)); (obtain ⟨v4, u4, rfl, r4, a4⟩ := HA.inv a3); all_goals (unfold G9; clear G9))
  cases HA.inv0 a4
  cases name_at G e hm
  exact h A s v1 v2 v3 v4 R G r1 r2 r3 r4
theorem FnF.in2 {name : Str} {k : Nat} {f : Addr} {d1 d2 : PyData} {d : List PyData} (e : nsIn (hd.heap_39 w.params) mainGlobals name = some (some (.ref f)))
    (h : ∀ (A : Around) (s : Shared) (v1 v2 : Value), Room A k → Gd w mg mb s.heap → HR s.heap v1 d1 → HR s.heap v2 d2 → wpAny (model prog w) A (call (.ref f) [v1, v2]) (fun v s' => Grew s s' ∧ ∃ a vs n, v = .ref a ∧ s'.heap.get? a = some (listOf (List.toArray vs) n) ∧ HA s'.heap vs d ∧ s.heap.get? a = none) NoE s) : FnF prog w mg mb name [d1, d2] d k := by
  intro A s fa vals R G hm ha
  focus ((refine let G9 : Prop := _; (?_ : G9)); (obtain ⟨v1, u1, rfl, r1, a1⟩ := HA.inv ha); all_goals (unfold G9; clear G9))
  focus ((refine let G9 : Prop := _; (?_ : G9)); (obtain ⟨v2, u2, rfl, r2, a2⟩ := HA.inv a1); all_goals (unfold G9; clear G9))
  cases HA.inv0 a2
  cases name_at G e hm
  exact h A s v1 v2 R G r1 r2
theorem FnF.in3 {name : Str} {k : Nat} {f : Addr} {d1 d2 d3 : PyData} {d : List PyData} (e : nsIn (hd.heap_39 w.params) mainGlobals name = some (some (.ref f)))
    (h : ∀ (A : Around) (s : Shared) (v1 v2 v3 : Value), Room A k → Gd w mg mb s.heap → HR s.heap v1 d1 → HR s.heap v2 d2 → HR s.heap v3 d3 → wpAny (model prog w) A (call (.ref f) [v1, v2, v3]) (fun v s' => Grew s s' ∧ ∃ a vs n, v = .ref a ∧ s'.heap.get? a = some (listOf (List.toArray vs) n) ∧ HA s'.heap vs d ∧ s.heap.get? a = none) NoE s) : FnF prog w mg mb name [d1, d2, d3] d k := by
  intro A s fa vals R G hm ha
  focus ((refine let G9 : Prop := _; (?_ : G9)); (obtain ⟨v1, u1, rfl, r1, a1⟩ := HA.inv ha); all_goals (unfold G9; clear G9))
  focus ((refine let G9 : Prop := _; (?_ : G9)); (obtain ⟨v2, u2, rfl, r2, a2⟩ := HA.inv a1); all_goals (unfold G9; clear G9))
  focus ((refine let G9 : Prop := _; (?_ : G9)); (obtain ⟨v3, u3, rfl, r3, a3⟩ := HA.inv a2); all_goals (unfold G9; clear G9))
  cases HA.inv0 a3
  cases name_at G e hm
  exact h A s v1 v2 v3 R G r1 r2 r3
theorem FnF.in5 {name : Str} {k : Nat} {f : Addr} {d1 d2 d3 d4 d5 : PyData} {d : List PyData} (e : nsIn (hd.heap_39 w.params) mainGlobals name = some (some (.ref f)))
    (h : ∀ (A : Around) (s : Shared) (v1 v2 v3 v4 v5 : Value), Room A k → Gd w mg mb s.heap → HR s.heap v1 d1 → HR s.heap v2 d2 → HR s.heap v3 d3 → HR s.heap v4 d4 → HR s.heap v5 d5 → wpAny (model prog w) A (call (.ref f) [v1, v2, v3, v4, v5]) (fun v s' => Grew s s' ∧ ∃ a vs n, v = .ref a ∧ s'.heap.get? a = some (listOf (List.toArray vs) n) ∧ HA s'.heap vs d ∧ s.heap.get? a = none) NoE s) : FnF prog w mg mb name [d1, d2, d3, d4, d5] d k := by
  intro A s fa vals R G hm ha
  focus ((refine let G9 : Prop := _; (?_ : G9)); (obtain ⟨v1, u1, rfl, r1, a1⟩ := HA.inv ha); all_goals (unfold G9; clear G9))
  focus ((refine let G9 : Prop := _; (?_ : G9)); (obtain ⟨v2, u2, rfl, r2, a2⟩ := HA.inv a1); all_goals (unfold G9; clear G9))
  focus ((refine let G9 : Prop := _; (?_ : G9)); (obtain ⟨v3, u3, rfl, r3, a3⟩ := HA.inv a2); all_goals (unfold G9; clear G9))
  focus ((refine let G9 : Prop := _; (?_ : G9)); (obtain ⟨v4, u4, rfl, r4, a4⟩ := HA.inv a3); all_goals (unfold G9; clear G9))
  focus ((refine let G9 : Prop := _; (?_ : G9)); (obtain ⟨v5, u5, rfl, r5, a5⟩ := HA.inv a4); all_goals (unfold G9; clear G9))
  cases HA.inv0 a5
  cases name_at G e hm
  exact h A s v1 v2 v3 v4 v5 R G r1 r2 r3 r4 r5
theorem enter {s : Shared} {fa : Addr} {vals : List Value} {name qual : Str} {params : Arguments} {body : List Stmt} {scope : Scope} {dV kV doc pm cdv ct oc : Value} {an od : Option Addr} {osl : Array (Option Value)} {binds : List (Str × Value)} {d : PyData} {n : Nat}
    (R : Room A (n + 1)) (G : Gd w mg mb s.heap) (ho : (hd.heap_39 w.params).lookup fa = some ⟨oc, od, .func (fnOf name qual params body scope dV kV doc pm an cdv ct), osl⟩) (hcd : codeIn (hd.heap_39 w.params) cdv qual = true)
    (hbind : bindArgs (fnOf name qual params body scope dV kV doc pm an cdv ct) ⟨vals, []⟩ = pure binds) (hloc : (binds.all fun x => decide (scope.names.lookup x.1 = some .local)) = true)
    (hE : EnvR s.heap s.heap (fun y => binds.reverse.lookup y) ρ)
    (hco : scope.isCoroutine = false) (hgen : scope.isGenerator = false) (hk : scope.kind = .function) (hcell : ∀ x ∈ scope.names, x.2 ≠ .cell)
    (h : ∀ L, Room (A.deeper (envOf qual scope L fa cdv)) n → Xs (model prog w) (A.deeper (envOf qual scope L fa cdv)) (envOf qual scope L fa cdv) s.heap ρ (execs body (envOf qual scope L fa cdv)) (.ret d)) :
    wpAny (model prog w) A (call (.ref fa) vals) (fun v s' => Grew s s' ∧ HR s'.heap v d) NoE s := by
  refine wpAny_call ?_
  refine codeAny_call_def (fd := fnOf name qual params body scope dV kV doc pm an cdv ct) (body := body) (binds := binds) (by have := R.1; (first | lia | omega)) (G.K _ _ ho) rfl G.T.nolimit (codeRec_of G.K hcd) rfl (BindsTo.of_eq hbind) hcell (locs hloc) (fun h₁ hns hk₁ => ?_) hco hgen hk
  have X := h s.heap.objs.size (R.deeper _) (fun y => binds.reverse.lookup y) { s with heap := h₁, toks := s.toks + binds.length } ⟨⟨_, hns, fun _ _ => rfl⟩, hk₁, not_size, fun n c hc => by cases hc⟩ (hE.kp hk₁)
  refine wpAny_mono X (fun fl s' q => ?_) fun _ _ x => x.elim
  focus ((refine let G9 : Prop := _; (?_ : G9)); (obtain ⟨v, rfl, e, k, r⟩ := q); all_goals (unfold G9; clear G9))
  exact ⟨⟨by obtain ⟨h', tk, rfl⟩ := e; exact ⟨h', tk, rfl⟩, k⟩, r⟩
theorem enterF {s : Shared} {fa : Addr} {vals : List Value} {name qual : Str} {params : Arguments} {body : List Stmt} {scope : Scope} {dV kV doc pm cdv ct oc : Value} {an od : Option Addr} {osl : Array (Option Value)} {binds : List (Str × Value)} {ds : List PyData} {n : Nat}
    (R : Room A (n + 1)) (G : Gd w mg mb s.heap) (ho : (hd.heap_39 w.params).lookup fa = some ⟨oc, od, .func (fnOf name qual params body scope dV kV doc pm an cdv ct), osl⟩) (hcd : codeIn (hd.heap_39 w.params) cdv qual = true)
    (hbind : bindArgs (fnOf name qual params body scope dV kV doc pm an cdv ct) ⟨vals, []⟩ = pure binds) (hloc : (binds.all fun x => decide (scope.names.lookup x.1 = some .local)) = true)
    (hE : EnvR s.heap s.heap (fun y => binds.reverse.lookup y) ρ)
    (hco : scope.isCoroutine = false) (hgen : scope.isGenerator = false) (hk : scope.kind = .function) (hcell : ∀ x ∈ scope.names, x.2 ≠ .cell)
    (h : ∀ L, Room (A.deeper (envOf qual scope L fa cdv)) n → Xs (model prog w) (A.deeper (envOf qual scope L fa cdv)) (envOf qual scope L fa cdv) s.heap ρ (execs body (envOf qual scope L fa cdv)) (.retF ds)) :
    wpAny (model prog w) A (call (.ref fa) vals) (fun v s' => Grew s s' ∧ ∃ a vs n, v = .ref a ∧ s'.heap.get? a = some (listOf (List.toArray vs) n) ∧ HA s'.heap vs ds ∧ s.heap.get? a = none) NoE s := by
  try (refine (let Q9 : _ → Shared → Prop := _; (?_ : wpAny _ _ _ Q9 _ _)))
  refine wpAny_call ?_
  try (refine (let Q9 : _ → Shared → Prop := _; (?_ : wpAny _ _ _ Q9 _ _)))
  refine codeAny_call_def (fd := fnOf name qual params body scope dV kV doc pm an cdv ct) (body := body) (binds := binds) (by have := R.1; (first | lia | omega)) (G.K _ _ ho) rfl G.T.nolimit (codeRec_of G.K hcd) rfl (BindsTo.of_eq hbind) hcell (locs hloc) (fun h₁ hns hk₁ => ?_) hco hgen hk
  have X := h s.heap.objs.size (R.deeper _) (fun y => binds.reverse.lookup y) { s with heap := h₁, toks := s.toks + binds.length } ⟨⟨_, hns, fun _ _ => rfl⟩, hk₁, not_size, fun n c hc => by cases hc⟩ (hE.kp hk₁)
  try (refine (let Q9 : _ → Shared → Prop := _; (?_ : wpAny _ _ _ Q9 _ _)))
  refine wpAny_mono X (fun fl s' q => ?_) fun _ _ x => x.elim
  focus ((refine let G9 : Prop := _; (?_ : G9)); (obtain ⟨a, vs, n, rfl, e, k, r, r2, r3⟩ := q); all_goals (unfold G9; clear G9))
  exact ⟨⟨by obtain ⟨h', tk, rfl⟩ := e; exact ⟨h', tk, rfl⟩, k⟩, a, vs, n, rfl, r, r2, r3⟩

/-- the names at the start of a def some of whose names are cells -/
noncomputable def startM (cs : List (Str × Addr)) (k : Str → Option NameKind) (binds : List (Str × Value)) : Str → Option Value := fun y => if (cs.lookup y).isSome then bindC k binds (fun _ => none) y else bindL k binds (fun _ => none) y
theorem start_frm {s : Shared} {env : Env} {binds : List (Str × Value)} {s₁ : Shared} (X : InCallC s env.locals (bindL env.kindOf binds fun _ => none) env.cells (bindC env.kindOf binds fun _ => none) s₁)
    (hl : ∀ x, env.kindOf x = some .local → env.cells.lookup x = none) : Frm env s.heap s₁.heap (startM env.cells env.kindOf binds) := by
  refine ⟨⟨_, X.toInCall.ns, fun x hx => ?_⟩, X.toInCall.keep, (by
    cases q : s.heap.get? env.locals with
    | none => rfl
    | some o => exact absurd (Heap.lt_size q) (Nat.not_lt.mpr X.toInCall.fresh)), fun n c hc => ?_⟩
  · unfold startM
    rw [hl x hx]
    rfl
  · have := X.cell n c hc
    unfold startM
    rw [hc]
    exact this
theorem enterFC {s : Shared} {fa : Addr} {vals : List Value} {name qual : Str} {params : Arguments} {body : List Stmt} {scope : Scope} {dV kV doc pm cdv ct oc : Value} {an od : Option Addr} {osl : Array (Option Value)} {binds : List (Str × Value)} {ds : List PyData} {n : Nat}
    (R : Room A (n + 1)) (G : Gd w mg mb s.heap) (ho : (hd.heap_39 w.params).lookup fa = some ⟨oc, od, .func (fnOf name qual params body scope dV kV doc pm an cdv ct), osl⟩) (hcd : codeIn (hd.heap_39 w.params) cdv qual = true)
    (hbind : bindArgs (fnOf name qual params body scope dV kV doc pm an cdv ct) ⟨vals, []⟩ = pure binds) (hkind : (binds.all fun y => scope.names.lookup y.1 == some .local || scope.names.lookup y.1 == some .cell) = true)
    (hE : ∀ L, EnvR s.heap s.heap (startM (envOfC qual scope L fa cdv).cells (envOfC qual scope L fa cdv).kindOf binds) ρ)
    (hl : ∀ L x, (envOfC qual scope L fa cdv).kindOf x = some .local → (envOfC qual scope L fa cdv).cells.lookup x = none)
    (hco : scope.isCoroutine = false) (hgen : scope.isGenerator = false) (hk : scope.kind = .function)
    (h : ∀ L, (∀ n c, (envOfC qual scope L fa cdv).cells.lookup n = some c → s.heap.get? c = none) → Room (A.deeper (envOfC qual scope L fa cdv)) n → Xs (model prog w) (A.deeper (envOfC qual scope L fa cdv)) (envOfC qual scope L fa cdv) s.heap ρ (execs body (envOfC qual scope L fa cdv)) (.retF ds)) :
    wpAny (model prog w) A (call (.ref fa) vals) (fun v s' => Grew s s' ∧ ∃ a vs n, v = .ref a ∧ s'.heap.get? a = some (listOf (List.toArray vs) n) ∧ HA s'.heap vs ds ∧ s.heap.get? a = none) NoE s := by
  try (refine (let Q9 : _ → Shared → Prop := _; (?_ : wpAny _ _ _ Q9 _ _)))
  refine wpAny_call ?_
  try (refine (let Q9 : _ → Shared → Prop := _; (?_ : wpAny _ _ _ Q9 _ _)))
  refine codeAny_call_cells (fd := fnOf name qual params body scope dV kV doc pm an cdv ct) (body := body) (by have := R.1; (first | lia | omega)) (G.K _ _ ho) rfl G.T.nolimit (codeRec_of G.K hcd) rfl hbind rfl (kindsX hkind _) (fun s₁ X => ?_) hco hgen hk
  have F := start_frm (env := envOfC qual scope s.heap.objs.size fa cdv) X (hl _)
  have hfr : ∀ n c, (envOfC qual scope s.heap.objs.size fa cdv).cells.lookup n = some c → s.heap.get? c = none := fun n c hc => by
    have hb : s.heap.objs.size < c := X.above n c (PySem.mem_of_lookup hc)
    cases q : s.heap.get? c with
    | none => rfl
    | some o => exact absurd (Heap.lt_size q) (Nat.not_lt.mpr (Nat.le_of_lt hb))
  have Y := h s.heap.objs.size hfr (R.deeper _) _ s₁ F ((hE _).kp F.keep)
  focus ((refine let G9 : Prop := _; (?_ : G9)); (obtain ⟨h₁, tk, rfl⟩ := X.toInCall.same); all_goals (unfold G9; clear G9))
  try (refine (let Q9 : _ → Shared → Prop := _; (?_ : wpAny _ _ _ Q9 _ _)))
  refine wpAny_mono Y (fun fl s' q => ?_) fun _ _ x => x.elim
  focus ((refine let G9 : Prop := _; (?_ : G9)); (obtain ⟨a, vs, n, rfl, e, k, r, r2, r3⟩ := q); all_goals (unfold G9; clear G9))
  exact ⟨⟨by obtain ⟨h', tk, rfl⟩ := e; exact ⟨h', tk, rfl⟩, k⟩, a, vs, n, rfl, r, r2, r3⟩

-- the environment at the start of a def
theorem envR_nil {h₀ h : Heap} {m : Str → Option Value} : EnvR h₀ h m [] := fun _ _ q => nomatch q
theorem envR_cons {h : Heap} {m : Str → Option Value} {x : Str} {d : PyData} {v : Value} {ρ : Ev} (hm : m x = some v) (r : HR h v d) (R : EnvR h h m ρ) : EnvR h h m ((x, .val d) :: ρ) := fun y e q => by
  by_cases hy : y = x
  · subst hy
    rw [lookup_cons_self] at q
    cases q
    exact ⟨v, hm, r, .inr r⟩
  · rw [lookup_cons_ne hy] at q
    exact R y e q

theorem d_call {x : Str} {p pos : Pos} {e1 : Expr} {es : List Expr} {fa : Addr} {args : List PyData} {d : PyData} {k : Nat} {n : Nat}
    (G : Gd w mg mb h₀) (R : Room A n) (hkn : k ≤ n) (f : Fn prog w mg mb x args d k) (hl : EvL (model prog w) A env h₀ ρ (spliced (backTo pos (starEach (e1 :: es) env))) args)
    (e : nsIn (hd.heap_39 w.params) mainGlobals x = some (some (.ref fa))) (hkeep : keepIn (hd.heap_39 w.params) (.ref fa) = true)
    (hk : env.scope.kind = .function) (hx : env.kindOf x = some .globalImplicit) (hg : env.globals = mainGlobals) (hd : (x == ("__debug__" : Str)) = false := by decide)
    (he : starEach (e1 :: es) env = (false, eval e1 env) :: starEach es env := by rfl) (hplain : (backTo pos (starEach es env)).any (·.1) = false := by rfl)
    (hc : eval (.Call (.Name x p) (e1 :: es) [] pos) env = (do callWith pos (← eval (.Name x p) env) [] (backTo pos (starEach (e1 :: es) env)) (backToKw pos (keywordEach [] env))) := by rfl) :
    EvD (model prog w) A env h₀ ρ (eval (.Call (.Name x p) (e1 :: es) [] pos) env) d := fun m s F Rv => by
  refine Call_ ?_ hc
  have Gs : Gd w mg mb s.heap := G.kp F.keep
  refine Name_function_global hk hx (loadGlobal_global (by rw [hg]; exact Gs.T.g) (mg_of G.K G.T.g e) ?_) hd
  refine callWith_K (h₀ := h₀) G.K hkeep (wmono2 (hl m s F Rv) fun vs s1 G1 ra => ⟨(Gs.kp G1.kp).K, ?_⟩) he hplain
  exact wmono2 (f A s1 fa vs (R.less hkn) (Gs.kp G1.kp) (mg_of G.K G.T.g e) ra) fun v s2 G2 r => ⟨G1.trans G2, r⟩
theorem f_call {x : Str} {p pos : Pos} {e1 : Expr} {es : List Expr} {fa : Addr} {args : List PyData} {ds : List PyData} {k : Nat} {n : Nat}
    (G : Gd w mg mb h₀) (R : Room A n) (hkn : k ≤ n) (f : FnF prog w mg mb x args ds k) (hl : EvL (model prog w) A env h₀ ρ (spliced (backTo pos (starEach (e1 :: es) env))) args)
    (e : nsIn (hd.heap_39 w.params) mainGlobals x = some (some (.ref fa))) (hkeep : keepIn (hd.heap_39 w.params) (.ref fa) = true)
    (hk : env.scope.kind = .function) (hx : env.kindOf x = some .globalImplicit) (hg : env.globals = mainGlobals) (hd : (x == ("__debug__" : Str)) = false := by decide)
    (he : starEach (e1 :: es) env = (false, eval e1 env) :: starEach es env := by rfl) (hplain : (backTo pos (starEach es env)).any (·.1) = false := by rfl)
    (hc : eval (.Call (.Name x p) (e1 :: es) [] pos) env = (do callWith pos (← eval (.Name x p) env) [] (backTo pos (starEach (e1 :: es) env)) (backToKw pos (keywordEach [] env))) := by rfl) :
    EvF (model prog w) A env h₀ ρ (eval (.Call (.Name x p) (e1 :: es) [] pos) env) ds := fun m s F Rv => by
  refine Call_ ?_ hc
  have Gs : Gd w mg mb s.heap := G.kp F.keep
  refine Name_function_global hk hx (loadGlobal_global (by rw [hg]; exact Gs.T.g) (mg_of G.K G.T.g e) ?_) hd
  refine callWith_K (h₀ := h₀) G.K hkeep (wmono2 (hl m s F Rv) fun vs s1 G1 ra => ⟨(Gs.kp G1.kp).K, ?_⟩) he hplain
  refine wmono (f A s1 fa vs (R.less hkn) (Gs.kp G1.kp) (mg_of G.K G.T.g e) ra) fun v s2 ⟨G2, a, vs, n, ev, o, r, q⟩ => ⟨G1.trans G2, a, vs, n, ev, o, r, ?_⟩
  cases hq : s.heap.get? a with
  | none => rfl
  | some o' => rw [G1.kp _ _ hq] at q; cases q

-- if
theorem x_if {t : Expr} {a b rest : List Stmt} {pos : Pos} {β : Bool} {ρ1 : Ev} {o : Out} (h : EvB (model prog w) A env h₀ ρ (isTrue t env (eval t env)) β)
    (ha : β = true → Xs (model prog w) A env h₀ ρ (execs a env) (.next ρ1)) (hb : β = false → Xs (model prog w) A env h₀ ρ (execs b env) (.next ρ1)) (k : Xs (model prog w) A env h₀ ρ1 (execs rest env) o) :
    Xs (model prog w) A env h₀ ρ (execs (.If t a b pos :: rest) env) o := x_seq (fun m s F R => by
  refine wpAny_If (wmono (h m s F R) fun v s1 q9 => ?_)
  have G := q9.1
  have r := q9.2
  subst r
  cases v with
  | true => exact wmono (ha rfl m s1 (G.fr F) (G.envr R)) fun fl s2 q => q.before G.same (.grew G F R)
  | false => exact wmono (hb rfl m s1 (G.fr F) (G.envr R)) fun fl s2 q => q.before G.same (.grew G F R)) k
theorem OutIs.stop {m : Str → Option Value} {s s' : Shared} {o : Out} {fl : Flow} (hn : ∀ ρ', o ≠ .next ρ') (h : OutIs env h₀ ρ m s o fl s') : ∃ v, fl = .ret v := by
  cases o with
  | ret d => obtain ⟨v, e, _⟩ := h; exact ⟨v, e⟩
  | retF d => obtain ⟨a, vs, n, e, _⟩ := h; exact ⟨_, e⟩
  | next ρ' => exact absurd rfl (hn ρ')
theorem x_ifT {t : Expr} {a b rest : List Stmt} {pos : Pos} {o : Out} (h : EvB (model prog w) A env h₀ ρ (isTrue t env (eval t env)) true)
    (ha : Xs (model prog w) A env h₀ ρ (execs a env) o) (hn : ∀ ρ', o ≠ .next ρ') :
    Xs (model prog w) A env h₀ ρ (execs (.If t a b pos :: rest) env) o := fun m s F R => by
  refine wpAny_execs_cons (wpAny_If (wmono (h m s F R) fun v s1 q9 => ?_))
  have G := q9.1
  have r := q9.2
  subst r
  refine wmono (ha m s1 (G.fr F) (G.envr R)) fun fl s2 q => ?_
  have q' := q.before G.same (.grew G F R)
  focus ((refine let G9 : Prop := _; (?_ : G9)); (obtain ⟨v, rfl⟩ := q'.stop hn); all_goals (unfold G9; clear G9))
  exact q'
theorem x_ifF {t : Expr} {a rest : List Stmt} {pos : Pos} {o : Out} (h : EvB (model prog w) A env h₀ ρ (isTrue t env (eval t env)) false)
    (k : Xs (model prog w) A env h₀ ρ (execs rest env) o) :
    Xs (model prog w) A env h₀ ρ (execs (.If t a [] pos :: rest) env) o := fun m s F R => by
  refine wpAny_execs_cons (wpAny_If (wmono (h m s F R) fun v s1 q9 => ?_))
  have G := q9.1
  have r := q9.2
  subst r
  refine wpAny_execs_nil ?_
  exact wmono (k m s1 (G.fr F) (G.envr R)) fun fl s2 q => q.before G.same (.grew G F R)
end
end Mine
end
-- Lg5
section
open PySem PySem.W PyProof.Rows PySem.Calls PySem.Spec
namespace Mine

/-- tuples stand -/
noncomputable def Kt (h h' : Heap) : Prop := ∀ a vs n, h.get? a = some (tupO vs n) → h'.get? a = some (tupO vs n)
theorem Kp.kt {h h' : Heap} (k : Kp h h') : Kt h h' := fun a _ _ e => k a _ e
theorem Kt.trans {a b c : Heap} (x : Kt a b) (y : Kt b c) : Kt a c := fun p _ _ e => y p _ _ (x p _ _ e)

/-- what a loop goes over -/
inductive IsSrc (m : Str → Option Value) (ρ : Ev) (h : Heap) : Value → List PyData → Prop
  | list {a : Addr} {vs : List Value} {n : Nat} {ds : List PyData} : h.get? a = some (listOf vs.toArray n) → HA h vs ds → ¬ Owned m ρ a → IsSrc m ρ h (.ref a) ds
  | tup {a : Addr} {vs : List Value} {n : Nat} {ds : List PyData} : h.get? a = some (tupO vs n) → HA h vs ds → ¬ Owned m ρ a → IsSrc m ρ h (.ref a) ds
  | range {r : Addr} {a b : Int} {t u v : Tok} {n : Nat} {ds : List PyData} : IsRange h r a b 1 t u v → Builtin.Range.small a b 1 = true → Builtin.Range.rangeSize a b 1 = ((n : Nat) : Int) → ds = (List.range n).map (fun (i : Nat) => .int (a + (i : Int))) → IsSrc m ρ h (.ref r) ds
noncomputable def EvSrc (M : Model) (A : Around) (env : Env) (h₀ : Heap) (ρ : Ev) (t : Sem Value) (ds : List PyData) : Prop :=
  ∀ (m : Str → Option Value) (s : Shared), Frm env h₀ s.heap m → EnvR h₀ s.heap m ρ → wpAny M A t (fun v s' => Grew s s' ∧ IsSrc m ρ s'.heap v ds) NoE s

structure Src (prog : Program) (w : World) (A : Around) (m : Str → Option Value) (ρ : Ev) (h : Heap) (ds : List PyData) (I : Addr) (fp : List Addr) (P : Nat → Value → Prop) (St : Nat → Heap → Prop) : Prop where
  walk : Walks prog w A I fp [I] ds.length P St
  fresh : h.get? I = none
  foot : ∀ b ∈ fp, b = I ∨ ((∃ o, h.get? b = some o ∧ ∀ v, o.data ≠ .cell v ∧ ∀ es ep, o.data ≠ .dict es ep) ∧ ¬ Owned m ρ b)
  iter : ∀ i h', St i h' → ∃ o xs, h'.get? I = some o ∧ o.data = .fields xs
  item : ∀ (i : Nat) v, P i v → ∀ d, ds[i]? = some d → noL d = true → ∀ h', Kt h h' → HR h' v d

section
variable {prog : Program} {w : World} {A : Around} {env : Env} {h₀ : Heap} {ρ : Ev}


set_option tactic.hygienic true in
theorem src_iter {m : Str → Option Value} {s : Shared} {v : Value} {ds : List PyData} {Q : Value → Shared → Prop} (hh : A.handled = none) (S : IsSrc m ρ s.heap v ds)
    (h : ∀ I fp P St h', Src prog w A m ρ s.heap ds I fp P St → Kp s.heap h' → (∀ b ∈ fp, b < h'.objs.size) → h'.objs.size = s.heap.objs.size + 1 → St 0 h' → Q (.ref I) { s with heap := h' }) : wpAny (model prog w) A (pyIter v) Q NoE s := by
  cases S with
  | list ho ra hn =>
    rename_i a vs n
    have hl : s.heap.IsList a vs.toArray := ⟨_, ho, rfl, n, rfl⟩
    have hne : a ≠ s.heap.objs.size := Nat.ne_of_lt (Heap.lt_size ho)
    refine wpAny_pyIter_list hl (h s.heap.objs.size [s.heap.objs.size, a] (fun i v => vs.toArray[i]? = some v) (fun i h => h.IsListIter s.heap.objs.size a i ∧ h.IsList a vs.toArray) _ ⟨by
        have W := Walks.list (prog := prog) (w := w) hh s.heap.objs.size a hne vs.toArray
        have e : vs.toArray.size = ds.length := by simp [ra.length]
        rw [e] at W
        exact W, not_size, fun b hb => ?_, fun i h' st => ?_, fun i v hP d hd hf h' k => ?_⟩ (.push _ _) (fun b hb => ?_) (Heap.size_push _ _) ⟨⟨_, Heap.get?_push_size _ rfl, rfl, rfl⟩, hl.push _⟩)
    · simp only [List.mem_cons, List.not_mem_nil, or_false] at hb
      rcases hb with rfl | rfl
      · exact .inl rfl
      · exact .inr ⟨⟨_, ho, fun v => ⟨(fun x => nomatch x), (fun _ _ x => nomatch x)⟩⟩, hn⟩
    · focus ((refine let G9 : Prop := _; (?_ : G9)); (obtain ⟨o, e, _, hd⟩ := st.1); all_goals (unfold G9; clear G9))
      exact ⟨o, _, e, hd⟩
    · focus ((refine let G9 : Prop := _; (?_ : G9)); (obtain ⟨u, hu, r⟩ := ra.get hd); all_goals (unfold G9; clear G9))
      have hP' : vs[i]? = some v := by simpa using hP
      rw [hu] at hP'
      cases hP'
      exact r.monoT k hf
    · rw [Heap.size_push]
      simp only [List.mem_cons, List.not_mem_nil, or_false] at hb
      rcases hb with rfl | rfl
      · exact Nat.lt_succ_self _
      · exact Nat.lt_succ_of_lt (Heap.lt_size ho)
  | tup ho ra hn =>
    rename_i a vs n
    have hl : s.heap.IsTuple a vs.toArray := ⟨_, ho, rfl, n, rfl⟩
    have hne : a ≠ s.heap.objs.size := Nat.ne_of_lt (Heap.lt_size ho)
    refine wpAny_pyIter_tuple hl (h s.heap.objs.size [s.heap.objs.size, a] (fun i v => vs.toArray[i]? = some v) (fun i h => h.IsTupleIter s.heap.objs.size a i ∧ h.IsTuple a vs.toArray) _ ⟨by
        have W := Walks.tuple (prog := prog) (w := w) hh s.heap.objs.size a hne vs.toArray
        have e : vs.toArray.size = ds.length := by simp [ra.length]
        rw [e] at W
        exact W, not_size, fun b hb => ?_, fun i h' st => ?_, fun i v hP d hd hf h' k => ?_⟩ (.push _ _) (fun b hb => ?_) (Heap.size_push _ _) ⟨⟨_, Heap.get?_push_size _ rfl, rfl, rfl⟩, hl.push _⟩)
    · simp only [List.mem_cons, List.not_mem_nil, or_false] at hb
      rcases hb with rfl | rfl
      · exact .inl rfl
      · exact .inr ⟨⟨_, ho, fun v => ⟨(fun x => nomatch x), (fun _ _ x => nomatch x)⟩⟩, hn⟩
    · focus ((refine let G9 : Prop := _; (?_ : G9)); (obtain ⟨o, e, _, hd⟩ := st.1); all_goals (unfold G9; clear G9))
      exact ⟨o, _, e, hd⟩
    · focus ((refine let G9 : Prop := _; (?_ : G9)); (obtain ⟨u, hu, r⟩ := ra.get hd); all_goals (unfold G9; clear G9))
      have hP' : vs[i]? = some v := by simpa using hP
      rw [hu] at hP'
      cases hP'
      exact r.monoT k hf
    · rw [Heap.size_push]
      simp only [List.mem_cons, List.not_mem_nil, or_false] at hb
      rcases hb with rfl | rfl
      · exact Nat.lt_succ_self _
      · exact Nat.lt_succ_of_lt (Heap.lt_size ho)
  | range hr hs hz hd =>
    rename_i r a b t u v n
    subst hd
    refine wpAny_pyIter_range hr hs (h _ _ _ _ _ ⟨by
        have W := LCg.range_walks (prog := prog) (w := w) (I := s.heap.objs.size) hh a n
        rw [List.length_map, List.length_range]
        exact W, not_size, fun b hb => ?_, fun i h' st => ⟨_, _, st, rfl⟩, fun i v hP d hd hf h' k => ?_⟩ (.push _ _) (fun b hb => ?_) (Heap.size_push _ _) ?_)
    · simp only [List.mem_cons, List.not_mem_nil, or_false] at hb
      exact .inl hb
    · focus ((refine let G9 : Prop := _; (?_ : G9)); (obtain ⟨t, rfl⟩ := hP); all_goals (unfold G9; clear G9))
      rw [List.getElem?_map] at hd
      by_cases hi : i < n
      · rw [List.getElem?_range hi] at hd
        cases hd
        exact .int _ _
      · rw [List.getElem?_eq_none (by simpa using hi)] at hd
        cases hd
    · simp only [List.mem_cons, List.not_mem_nil, or_false] at hb
      rw [Heap.size_push, hb]
      exact Nat.lt_succ_self _
    · show IsRangeIter _ _ _ _ _
      rw [hz]
      simpa using Heap.get?_push_size _ rfl

inductive ForI (env : Env) (h₀ : Heap) (ρ : Ev) (ρs : Nat → Ev) (m : Str → Option Value) (s1 : Shared) (ds : List PyData) (St : Nat → Heap → Prop) (k : Nat) (s' : Shared) : Prop
  | mk (i : Nat) (m' : Str → Option Value) (h' : Heap) (tk : Tok) : s' = { s1 with heap := h', toks := tk } → i ≤ ds.length → k = ds.length + 1 - i → Nx env h₀ ρ (ρs i) m m' s1.heap h' → St i h' → Kt s1.heap h' → ForI env h₀ ρ ρs m s1 ds St k s'
/-- a for over what is told -/
theorem x_for {x : Str} {iter : Expr} {body : List Stmt} {p pos : Pos} {ds : List PyData} (ρs : Nat → Ev) (hh : A.handled = none) (hi : EvSrc (model prog w) A env h₀ ρ (eval iter env) ds) (hds : ∀ d ∈ ds, noL d = true) (h0 : ∀ q ∈ ρs 0, ρ.lookup q.1 = some q.2)
    (S : Spot env h₀ x) (hk : env.scope.kind = .function)
    (hb : ∀ i d, ds[i]? = some d → Xs (model prog w) A env h₀ ((x, .val d) :: ρs i) (execs body env) (.next (ρs (i + 1))))
    (hs : ∀ x, foldedSetIterable iter env x = pure x := by intro _; rfl) (ht : ∀ it v, letOwnedTupleGo (.Name x p) it v = pure () := by intro _ _; rfl) :
    Xs (model prog w) A env h₀ ρ (exec (.For (.Name x p) iter body [] pos) env) (.next (ρs ds.length)) := fun m s F R => by
  try (refine (let Q9 : _ → Shared → Prop := _; (?_ : wpAny _ _ _ Q9 _ _)))
  refine wpAny_For (wmono2 (hi m s F R) fun v s1 G S1 => src_iter hh S1 fun I fp P St h2 X K2 hfp hsz hst => ?_) hs
  have F1 := G.fr F
  have R1 := G.envr R
  have Ks1 : Same s s1 := G.same
  try (refine (let Q9 : _ → Shared → Prop := _; (?_ : wpAny _ _ _ Q9 _ _)))
  refine codeAny_forLoop (ForI env h₀ ρ ρs m s1 ds St) ?_ (ds.length + 1)
    ⟨0, m, h2, s1.toks, rfl, Nat.zero_le _, rfl, ⟨F1.kept K2, (R1.kp K2).less h0, fun b o e _ _ _ => K2 b o e, fun b ⟨y, es, q, hm⟩ => .inl ⟨y, es, h0 _ (memLookup q), hm⟩⟩, hst, K2.kt⟩ (ht _)
  intro k s' q9
  focus ((refine let G9 : Prop := _; (?_ : G9)); (obtain ⟨i, m', h', tk, rfl, hi', rfl, N, hst', hkt⟩ := q9); all_goals (unfold G9; clear G9))
  -- a change of the iterator alone
  have bump : ∀ (j : Nat) (g : Heap), St j g → ∀ (g' : Heap), Nx env h₀ ρ (ρs j) m m' s1.heap g → (∀ b o, b ∉ [I] → g.get? b = some o → g'.get? b = some o) → Nx env h₀ ρ (ρs j) m m' s1.heap g' := by
    intro j g st g' N hk'
    focus ((refine let G9 : Prop := _; (?_ : G9)); (obtain ⟨o, xs, eI, dI⟩ := X.iter j g st); all_goals (unfold G9; clear G9))
    have hns : NotSeq g I := fun o' ys n e hd => by rw [eI] at e; cases e; rw [dI] at hd; cases hd
    have hsb : Heap.ExtBut I g g' := fun b o hb e => hk' b o (by simpa using hb) e
    have hL : env.locals ≠ I := by
      intro h9
      focus ((refine let G9 : Prop := _; (?_ : G9)); (obtain ⟨ml, ⟨o', es, ep, e, hd, _⟩, _⟩ := N.fr.ns); all_goals (unfold G9; clear G9))
      first | rw [h9, eI] at e | rw [← h9, eI] at e
      cases e; rw [dI] at hd; cases hd
    have hC : ∀ n c, env.cells.lookup n = some c → c ≠ I := by
      intro n c hc h9
      focus ((refine let G9 : Prop := _; (?_ : G9)); (obtain ⟨o', e, hd⟩ := N.fr.cell n _ hc); all_goals (unfold G9; clear G9))
      first | rw [h9, eI] at e | rw [← h9, eI] at e
      cases e; rw [dI] at hd; cases hd
    have hI1 : ∀ b o, s1.heap.get? b = some o → b ≠ I := by
      intro b o e h9
      first | rw [h9, X.fresh] at e | rw [← h9, X.fresh] at e
      cases e
    refine ⟨⟨?_, fun b o e => hsb b o (hI1 b o (F1.keep b o e)) (N.fr.keep b o e), N.fr.above, fun n c hc => ?_⟩, N.er.but hns hsb, fun b o e hb hc ho => hsb b o (hI1 b o e) (N.keep b o e hb hc ho), N.own⟩
    · focus ((refine let G9 : Prop := _; (?_ : G9)); (obtain ⟨ml, hn, hm⟩ := N.fr.ns); all_goals (unfold G9; clear G9))
      exact ⟨ml, hn.at' fun o e => hsb _ o hL e, hm⟩
    · focus ((refine let G9 : Prop := _; (?_ : G9)); (obtain ⟨o', e, hd⟩ := N.fr.cell n c hc); all_goals (unfold G9; clear G9))
      exact ⟨o', hsb c o' (hC n c hc) e, hd⟩
  by_cases hlt : i < ds.length
  · try (refine (let Q9 : _ → Shared → Prop := _; (?_ : wpAny _ _ _ Q9 _ _)))
    refine X.walk.item i _ _ _ hlt hst' fun v h3 tk3 hP hst3 hk3 => ?_
    have N3 := bump i h' hst' h3 N hk3
    have hkt3 : Kt s1.heap h3 := fun a vs n e => hk3 a _ (by
      intro hm
      rw [List.mem_singleton.mp hm, X.fresh] at e; cases e) (hkt a vs n e)
    focus ((refine let G9 : Prop := _; (?_ : G9)); (obtain ⟨d, hd⟩ : ∃ d, ds[i]? = some d := ⟨_, List.getElem?_eq_getElem hlt⟩); all_goals (unfold G9; clear G9))
    have hnd := hds d (List.mem_of_getElem? hd)
    have rv := X.item i v hP d hd hnd h3 hkt3
    -- what the loop goes over stays through a step of the frame
    have foot : ∀ {j ρ1 ρ2 m1 m2 g g'}, (∀ b, Owned m1 ρ1 b → Owned m ρ b ∨ s1.heap.get? b = none) → St j g → Nx env h₀ ρ ρ1 m m1 s1.heap g → Nx env h₀ ρ1 ρ2 m1 m2 g g' → St j g' := by
      intro j ρ1 ρ2 m1 m2 g g' hw st Na Nb
      try (refine (let Q9 : _ → Shared → Prop := _; (?_ : wpAny _ _ _ Q9 _ _)))
      refine X.walk.frame j g g' st fun b hb o e => Nb.keep b o e ?_ ?_ ?_
      · rintro rfl
        focus ((refine let G9 : Prop := _; (?_ : G9)); (obtain ⟨ml, ⟨o', es, ep, e', hd', _⟩, _⟩ := Na.fr.ns); all_goals (unfold G9; clear G9))
        rcases X.foot _ hb with q | ⟨⟨o2, q, hq⟩, hno⟩
        · focus ((refine let G9 : Prop := _; (?_ : G9)); (obtain ⟨oI, xs, eI, dI⟩ := X.iter j g st); all_goals (unfold G9; clear G9))
          rw [q] at e'
          rw [eI] at e'; cases e'; rw [dI] at hd'; cases hd'
        · focus ((refine let G9 : Prop := _; (?_ : G9)); (obtain ⟨ml2, ⟨o3, es3, ep3, e3, hd3, _⟩, _⟩ := F1.ns); all_goals (unfold G9; clear G9))
          rw [q] at e3; cases e3
          exact (hq none).2 _ _ hd3
      · intro n hc
        rcases X.foot _ hb with q | ⟨⟨o2, q, hq⟩, hno⟩
        · focus ((refine let G9 : Prop := _; (?_ : G9)); (obtain ⟨oI, xs, eI, dI⟩ := X.iter j g st); all_goals (unfold G9; clear G9))
          focus ((refine let G9 : Prop := _; (?_ : G9)); (obtain ⟨o', e', hd'⟩ := Na.fr.cell n b hc); all_goals (unfold G9; clear G9))
          rw [q, eI] at e'; cases e'; rw [dI] at hd'; cases hd'
        · focus ((refine let G9 : Prop := _; (?_ : G9)); (obtain ⟨o', e', hd'⟩ := F1.cell n b hc); all_goals (unfold G9; clear G9))
          rw [q] at e'; cases e'
          exact (hq _).1 hd'
      · intro ho
        rcases X.foot _ hb with q | ⟨⟨o2, q, hq⟩, hno⟩
        · focus ((refine let G9 : Prop := _; (?_ : G9)); (obtain ⟨oI, xs, eI, dI⟩ := X.iter j g st); all_goals (unfold G9; clear G9))
          focus ((refine let G9 : Prop := _; (?_ : G9)); (obtain ⟨⟨us, n, e'⟩, _⟩ := ho.list Na.er); all_goals (unfold G9; clear G9))
          rw [q, eI] at e'
          cases e'
          cases dI
        · rcases hw b ho with q' | q'
          · exact hno q'
          · rw [q] at q'; cases q'
    try (refine (let Q9 : _ → Shared → Prop := _; (?_ : wpAny _ _ _ Q9 _ _)))
    refine wpAny_assign_Name (wpAny_mono (st_ (s := { s1 with heap := h3, toks := tk3 }) (e := .val d) S hk N3.fr N3.er ⟨rv, .inl hnd⟩ (fun _ _ x => nomatch x) fun h4 tk4 N4 => ?_) (fun _ _ x => x) fun _ _ x => x.elim)
    have N34 := N3.trans N4
    have st4 := foot N3.own hst3 N3 N4
    try (refine (let Q9 : _ → Shared → Prop := _; (?_ : wpAny _ _ _ Q9 _ _)))
    refine wpAny_mono (hb i d hd _ { s1 with heap := h4, toks := tk4 } N34.fr N34.er) (fun fl s5 q => ?_) fun _ _ x => x.elim
    focus ((refine let G9 : Prop := _; (?_ : G9)); (obtain ⟨rfl, ⟨h5, tk5, rfl⟩, m5, N5⟩ := q); all_goals (unfold G9; clear G9))
    refine ⟨ds.length + 1 - (i + 1), by (first | lia | omega), i + 1, m5, h5, tk5, rfl, hlt, rfl, N34.trans N5, foot N34.own st4 N34 N5, ?_⟩
    exact (hkt3.trans (N4.tup N3.fr N3.er)).trans (N5.tup N34.fr N34.er)
  · obtain rfl : i = ds.length := Nat.le_antisymm hi' (Nat.not_lt.mp hlt)
    try (refine (let Q9 : _ → Shared → Prop := _; (?_ : wpAny _ _ _ Q9 _ _)))
    refine X.walk.done _ _ _ hst' fun h3 tk3 hk3 => ?_
    have N3 := bump ds.length h' hst' h3 N hk3
    refine wpAny_execs_nil ⟨rfl, Ks1.trans ⟨h3, tk3, rfl⟩, m', (Nx.grew G F R).trans N3⟩

/-- a while, by a state of its own, and what stands behind it -/
theorem x_while {σ : Type} {test : Expr} {body rest : List Stmt} {pos : Pos} {o : Out} (I : σ → Prop) (ρs : σ → Ev) (c : σ → Bool) (f : σ → σ) (μ : σ → Nat)
    (ht : ∀ x, I x → EvB (model prog w) A env h₀ (ρs x) (isTrue test env (eval test env)) (c x))
    (hb : ∀ x, I x → c x = true → Xs (model prog w) A env h₀ (ρs x) (execs body env) (.next (ρs (f x))))
    (hI : ∀ x, I x → c x = true → I (f x) ∧ μ (f x) < μ x)
    (he : ∀ x, I x → c x = false → Xs (model prog w) A env h₀ (ρs x) (execs rest env) o) (x₀ : σ) (h0 : I x₀) (hρ : ∀ q ∈ ρs x₀, ρ.lookup q.1 = some q.2) :
    Xs (model prog w) A env h₀ ρ (execs (.While test body [] pos :: rest) env) o := fun m s F R => by
  refine wpAny_execs_cons (wpAny_While ?_)
  refine codeAny_whileLoop (fun k s' => ∃ x m', k = μ x ∧ I x ∧ Same s s' ∧ Nx env h₀ ρ (ρs x) m m' s.heap s'.heap) ?_ (μ x₀) ⟨x₀, m, rfl, h0, .refl _, .less F R hρ⟩
  intro k s' q9
  focus ((refine let G9 : Prop := _; (?_ : G9)); (obtain ⟨x, m', rfl, hx, e, N⟩ := q9); all_goals (unfold G9; clear G9))
  refine wpAny_mono (ht x hx m' s' N.fr N.er) (fun b s2 q9 => ?_) fun _ _ x => x.elim
  have G2 := q9.1
  have q := q9.2
  have N2 := N.trans (.grew G2 N.fr N.er)
  subst q
  cases hc : c x with
  | true =>
    simp only [if_true]
    refine wpAny_mono (hb x hx hc m' s2 N2.fr N2.er) (fun fl s3 q => ?_) fun _ _ x => x.elim
    focus ((refine let G9 : Prop := _; (?_ : G9)); (obtain ⟨rfl, e3, m3, N3⟩ := q); all_goals (unfold G9; clear G9))
    focus ((refine let G9 : Prop := _; (?_ : G9)); (obtain ⟨a, b⟩ := hI x hx hc); all_goals (unfold G9; clear G9))
    exact ⟨_, b, f x, m3, rfl, a, (e.trans G2.same).trans e3, N2.trans N3⟩
  | false =>
    simp only [Bool.false_eq_true, if_false]
    refine wpAny_execs_nil ?_
    exact wmono (he x hx hc m' s2 N2.fr N2.er) fun fl s3 q => q.before (e.trans G2.same) N2
end
end Mine
end
-- Lg6
section
open PySem PySem.W PyProof.Rows PySem.Calls PySem.Spec
namespace Mine

section
variable {prog : Program} {w : World} {A : Around} {env : Env} {h₀ : Heap} {ρ : Ev}

theorem noLs_of : ∀ {ds : List PyData}, (∀ d ∈ ds, noL d = true) → noLs ds = true
  | [], _ => rfl
  | d :: ds, h => by simp [noLs, h d (.head _), noLs_of fun e he => h e (.tail _ he)]
theorem of_noLs : ∀ {ds : List PyData}, noLs ds = true → ∀ d ∈ ds, noL d = true
  | [], _, _, h => nomatch h
  | d :: ds, h, e, he => by
    have q := Bool.and_eq_true_iff.mp (show (noL d && noLs ds) = true by simpa [noLs] using h)
    rcases List.mem_cons.mp he with rfl | he
    · exact q.1
    · exact of_noLs q.2 e he

noncomputable def tests (ifs : List Expr) (cenv : Env) : Sem Bool := forIn ifs true fun c r => if r = true then do let ok ← isTrue c cenv (eval c cenv); pure (ForInStep.yield ok) else pure (ForInStep.yield r)
theorem t_none {h₁ : Heap} {ρ : Ev} : EvB (model prog w) A env h₁ ρ (tests [] env) true := fun m s F R => wpAny_tests_nil ⟨.refl _, rfl⟩
theorem t_one {h₁ : Heap} {ρ : Ev} {c : Expr} {b : Bool} (h : EvB (model prog w) A env h₁ ρ (isTrue c env (eval c env)) b) : EvB (model prog w) A env h₁ ρ (tests [c] env) b := fun m s F R => wpAny_tests_one (h m s F R)

inductive CompI (s1 : Shared) (ds : List PyData) (p : PyData → Bool) (f : PyData → PyData) (St : Nat → Heap → Prop) (C D : Addr) (k : Nat) (s' : Shared) : Prop
  | mk (i : Nat) (h' : Heap) (tk : Tok) (m' : Str → Option Value) (vs : List Value) (n : Nat) : s' = { s1 with heap := h', toks := tk } → i ≤ ds.length → k = ds.length + 1 - i → Kp s1.heap h' → St i h' → h'.Ns C m' →
    h'.get? D = some (listOf (List.toArray vs) n) → HA h' vs (((ds.take i).filter p).map f) → CompI s1 ds p f St C D k s'
set_option maxHeartbeats 1000000 in
theorem comp_core {use : Option (Value → Sem Unit)} {Q : Value → Shared → Prop} {m : Str → Option Value} {s : Shared} (F : Frm env h₀ s.heap m) (R : EnvR h₀ s.heap m ρ) {elt iter : Expr} {x : Str} {px : Pos} {ifs : List Expr} {scope : Scope} {cl : List (Str × Addr)} {pos : Pos} {ds : List PyData} (p : PyData → Bool) (f : PyData → PyData)
    (hh : A.handled = none) (hi : EvSrc (model prog w) A env h₀ ρ (eval iter env) ds) (hds : ∀ d ∈ ds, noL d = true) (hz : ds.length ≤ 1000) (hfl : ∀ d ∈ ds, noL (f d) = true)
    (hclos : closureFor scope env = pure cl) (hcl : ∀ n c, cl.lookup n = some c → env.cells.lookup n = some c ∧ n ≠ x)
    (hcell : ∀ y ∈ scope.names, y.2 ≠ .cell) (hkind : scope.kind = .function) (hnames : ∀ y ∈ scope.names, y.2 = .local → scope.names.lookup y.1 = some .local) (hx : scope.names.lookup x = some .local)
    (hclloc : ∀ C y, (compEnvC scope cl C env).kindOf y = some .local → cl.lookup y = none) (ρ' : Ev) (hρ' : ∀ q ∈ ρ', ρ.lookup q.1 = some q.2 ∧ (cl.lookup q.1).isSome = true ∧ ((∃ d, q.2 = .val d ∧ noL d = true) ∨ ∃ u, q.2 = .raw u))
    (htest : ∀ C h₁ d, d ∈ ds → Kp h₀ h₁ → EvB (model prog w) A (compEnvC scope cl C env) h₁ ((x, .val d) :: ρ') (tests ifs (compEnvC scope cl C env)) (p d))
    (helt : ∀ C h₁ d, d ∈ ds → p d = true → Kp h₀ h₁ → EvD (model prog w) A (compEnvC scope cl C env) h₁ ((x, .val d) :: ρ') (eval elt (compEnvC scope cl C env)) (f d))
    (hs : ∀ x, foldedSetIterable iter env x = pure x)
    (hend : ∀ (C D : Addr) (s' : Shared) (vs : List Value) (n : Nat) (m' : Str → Option Value), Grew s s' → s'.heap.Ns C m' → s.heap.get? C = none → s.heap.get? D = none → C ≠ D → s'.heap.get? D = some (listOf (List.toArray vs) n) → HA s'.heap vs ((ds.filter p).map f) →
      ∀ fl, compPost (model prog w) A NoE use Q (.ref D) C (.ok fl) s') :
    wpAny (model prog w) A (comprehension (.ListComp elt [⟨.Name x px, iter, ifs, 0⟩] scope pos) scope env (firstIterPos [⟨.Name x px, iter, ifs, 0⟩] pos) (newList []) (firstAsync [⟨.Name x px, iter, ifs, 0⟩]) (firstIter [⟨.Name x px, iter, ifs, 0⟩] env) use) Q NoE s := by
  refine wpAny_comprehension_free (use := use) rfl hs hclos hkind hnames (wmono2 (hi m s F R) fun v s1 G S1 => src_iter hh S1 fun I fp P St h2 X K2 hfp hsz hst => ?_)
  have F1 := G.fr F
  have R1 := G.envr R
  refine wpAny_newObj_type (wpAny_newFunctionEnv hcell (by intro y hy; simp at hy) (fun h₁ hns₁ hsb₁ => ?_) hkind)
  dsimp only at hns₁ hsb₁ ⊢
  generalize hH2 : h2.push { cls := .type "list", dict := none, data := .seq ([] : List Value).toArray } = H2 at hns₁ hsb₁ ⊢
  have hC : H2.objs.size = h2.objs.size + 1 := by rw [← hH2, Heap.size_push]
  generalize hDd : h2.objs.size = D at *
  generalize hCc : H2.objs.size = C at *
  have hDC : D ≠ C := by rw [hC]; exact Nat.ne_of_lt (Nat.lt_succ_self _)
  have hs1 : ∀ b o, s1.heap.get? b = some o → b ≠ I ∧ b ≠ D ∧ b ≠ C := fun b o e => by
    have h1 := Heap.lt_size e
    refine ⟨?_, ?_, ?_⟩
    · intro h9
      first | rw [h9, X.fresh] at e | rw [← h9, X.fresh] at e
      cases e
    · exact Nat.ne_of_lt (by rw [hsz]; exact Nat.lt_succ_of_lt h1)
    · exact Nat.ne_of_lt (by rw [hC, hsz]; exact Nat.lt_succ_of_lt (Nat.lt_succ_of_lt h1))
  have hIlt : I < D := hfp I (X.walk.sub I (List.mem_singleton.mpr rfl))
  have hID : I ≠ D := Nat.ne_of_lt hIlt
  have hIC : I ≠ C := Nat.ne_of_lt (by rw [hC]; exact Nat.lt_succ_of_lt hIlt)
  have hfpn : ∀ b ∈ fp, b ≠ D ∧ b ≠ C := fun b hb => ⟨Nat.ne_of_lt (hfp b hb), Nat.ne_of_lt (by rw [hC]; exact Nat.lt_succ_of_lt (hfp b hb))⟩
  have old : ∀ b o, h2.get? b = some o → h₁.get? b = some o := fun b o e => hsb₁.extBut b o (by
    have := Heap.lt_size e
    rw [hDd] at this
    exact Nat.ne_of_lt (by rw [hC]; exact Nat.lt_succ_of_lt this)) (Heap.get?_push_of_some _ (hH2 ▸ Heap.get?_push_of_some _ e))
  have hacc : h₁.get? D = some (listOf ([] : List Value).toArray 0) := hsb₁.extBut _ _ hDC (Heap.get?_push_of_some _ (by rw [← hH2, ← hDd]; exact Heap.get?_push_size _ rfl))
  have hst₁ : St 0 h₁ := X.walk.frame _ _ _ hst fun b _ o e => old b o e
  have hCabove : s1.heap.get? C = none := by
    cases q : s1.heap.get? C with
    | none => rfl
    | some o => exact absurd rfl (hs1 C o q).2.2
  have D0 : s.heap.get? D = none := by
    cases q : s.heap.get? D with
    | none => rfl
    | some o => exact absurd rfl (hs1 D o (G.kp _ _ q)).2.1
  have C0 : s.heap.get? C = none := by
    cases q : s.heap.get? C with
    | none => rfl
    | some o => exact absurd rfl (hs1 C o (G.kp _ _ q)).2.2
  have loop : ∀ s₃ : Shared, s₃ = { s1 with heap := h₁, toks := s1.toks + ([] : List (Str × Value)).length } →
      codeAny (model prog w) A (.compLoop (.ListComp elt [⟨.Name x px, iter, ifs, 0⟩] scope pos) 0 (.ref I) (.ref D) (compEnvC scope cl C env))
        (compPost (model prog w) A NoE use Q (.ref D) C) s₃ := by
    rintro s₃ rfl
    refine codeAny_compLoop_tests (CompI s1 ds p f St C D) ?_ (ds.length + 1)
      ⟨0, h₁, _, _, [], 0, rfl, Nat.zero_le _, rfl, K2.trans old, hst₁, hns₁, hacc, .nil⟩
    intro k s' q9
    focus ((refine let G9 : Prop := _; (?_ : G9)); (obtain ⟨i, h', tk, m', vs, n, rfl, hi', rfl, kp, hst', hns', hD', hA⟩ := q9); all_goals (unfold G9; clear G9))
    by_cases hlt : i < ds.length
    · refine X.walk.item i _ _ _ hlt hst' fun v h3 tk3 hP hst3 hk3 => ?_
      have hk3' : Heap.ExtBut I h' h3 := fun b o hb e => hk3 b o (by simpa using hb) e
      focus ((refine let G9 : Prop := _; (?_ : G9)); (obtain ⟨d, hd⟩ : ∃ d, ds[i]? = some d := ⟨_, List.getElem?_eq_getElem hlt⟩); all_goals (unfold G9; clear G9))
      have hdm := List.mem_of_getElem? hd
      have hnd := hds d hdm
      have kp3 : Kp s1.heap h3 := fun b o e => hk3' b o (hs1 b o e).1 (kp b o e)
      have rv := X.item i v hP d hd hnd h3 kp3.kt
      focus ((refine let G9 : Prop := _; (?_ : G9)); (obtain ⟨oI, xI, eI, dI⟩ := X.iter _ _ hst'); all_goals (unfold G9; clear G9))
      have nsI : NotSeq h' I := fun o' ys n e hd => by rw [eI] at e; cases e; rw [dI] at hd; cases hd
      refine wpAny_assign_Name (wpAny_storeName_local (lookup_relabel_local hx) (hns'.at' fun o e => hk3' _ o hIC.symm e) (fun h4 hn4 hs4 => ?_) (by simp [compEnvC, relabel, hkind]))
      have kp4 : Kp s1.heap h4 := fun b o e => hs4.extBut b o (hs1 b o e).2.2 (kp3 b o e)
      have nsC : NotSeq h3 C := .ns (hns'.at' fun o e => hk3' _ o hIC.symm e)
      have hD4 : h4.get? D = some (listOf (List.toArray vs) n) := hs4.extBut _ _ hDC (hk3' _ _ hID.symm hD')
      have hA4 := (hA.but nsI hk3').but nsC hs4.extBut
      have hst4 : St (i + 1) h4 := X.walk.frame _ _ _ hst3 fun b hb o e => hs4.extBut b o (hfpn b hb).2 e
      have F4 : Frm (compEnvC scope cl C env) s1.heap h4 (fun y => if y = x then some v else if (cl.lookup y).isSome then m y else m' y) := by
        refine ⟨⟨_, hn4, fun y hy => ?_⟩, kp4, hCabove, fun n c hnc => ?_⟩
        · by_cases hyx : y = x
          · simp [hyx]
          · simp only [if_neg hyx]
            rw [hclloc C y hy]
            rfl
        · focus ((refine let G9 : Prop := _; (?_ : G9)); (obtain ⟨e1, e2⟩ := hcl n c hnc); all_goals (unfold G9; clear G9))
          have hnc' : cl.lookup n = some c := hnc
          simp only [if_neg e2, hnc', Option.isSome_some, if_true]
          exact (F1.cell n c e1).keeps kp4
      have R4 : EnvR s1.heap h4 (fun y => if y = x then some v else if (cl.lookup y).isSome then m y else m' y) ((x, .val d) :: ρ') := fun y e q => by
        by_cases hyx : y = x
        · subst hyx
          rw [lookup_cons_self] at q
          cases q
          exact ⟨v, by simp, rv.but nsC hs4.extBut, .inl hnd⟩
        · rw [lookup_cons_ne hyx] at q
          focus ((refine let G9 : Prop := _; (?_ : G9)); (obtain ⟨e1, e2, hq⟩ := hρ' _ (memLookup q)); all_goals (unfold G9; clear G9))
          focus ((refine let G9 : Prop := _; (?_ : G9)); (obtain ⟨u, hu, r⟩ := R1 y _ e1); all_goals (unfold G9; clear G9))
          have hu' : (fun y => if y = x then some v else if (cl.lookup y).isSome then m y else m' y) y = some u := by
            simp only [if_neg hyx]
            rw [if_pos e2]
            exact hu
          refine ⟨u, hu', ?_⟩
          rcases hq with ⟨d', rfl, e3⟩ | ⟨u', rfl⟩
          · exact ⟨r.1.kp kp4, .inl e3⟩
          · exact r
      have kp0 : Kp h₀ s1.heap := F1.keep
      refine wpAny_mono (htest C s1.heap d hdm kp0 _ { s1 with heap := h4, toks := tk3 + 1 } F4 R4) (fun ok s5 q9 => ?_) fun _ _ x => x.elim
      have G5 := q9.1
      have e5 := q9.2
      focus ((refine let G9 : Prop := _; (?_ : G9)); (obtain ⟨⟨h5, tk5, rfl⟩, k5⟩ := G5); all_goals (unfold G9; clear G9))
      have k5 : Kp h4 h5 := k5
      have hst5 : St (i + 1) h5 := X.walk.frame _ _ _ hst4 fun b hb o e => k5 b o e
      have htake : ds.take (i + 1) = ds.take i ++ [d] := by rw [List.take_add_one, hd]; rfl
      subst e5
      cases hpd : p d with
      | false =>
        simp only [Bool.false_eq_true, if_false]
        refine ⟨ds.length + 1 - (i + 1), by (first | lia | omega), i + 1, h5, tk5, _, vs, n, rfl, hlt, rfl, kp4.trans k5, hst5, hn4.keeps k5, k5 _ _ hD4, ?_⟩
        have : (((ds.take (i + 1)).filter p).map f) = ((ds.take i).filter p).map f := by rw [htake, List.filter_append]; simp [hpd]
        rw [this]
        exact hA4.kp k5
      | true =>
        simp only [if_true]
        refine wpAny_mono (helt C s1.heap d hdm hpd kp0 _ { s1 with heap := h5, toks := tk5 } (F4.kept k5) (R4.kp k5)) (fun y s6 q9 => ?_) fun _ _ x => x.elim
        have G6 := q9.1
        have r6 := q9.2
        focus ((refine let G9 : Prop := _; (?_ : G9)); (obtain ⟨⟨h6, tk6, rfl⟩, k6⟩ := G6); all_goals (unfold G9; clear G9))
        have k6 : Kp h5 h6 := k6
        have r6 : HR h6 y (f d) := r6
        have k46 := k5.trans k6
        have hD6 := k46 _ _ hD4
        refine append_at (s := { s1 with heap := h6, toks := tk6 }) hD6 (fun h7 hs7 hD7 => ?_) (by
          have e1 := hA.length
          rw [List.length_map] at e1
          have e2 : ((ds.take i).filter p).length ≤ (ds.take i).length := List.length_filter_le _ _
          rw [List.length_take] at e2
          rw [List.size_toArray, sizeLine_eq]; (first | lia | omega))
        have tup7 : Kt h6 h7 := fun b us k q => by
          refine (hs7.2 b ?_).trans q
          intro h9
          first | rw [h9, hD6] at q | rw [← h9, hD6] at q
          simp at q
        refine ⟨ds.length + 1 - (i + 1), by (first | lia | omega), i + 1, h7, tk6, _, vs ++ [y], n + 1, rfl, hlt, rfl, fun b o e => hs7.extBut b o (hs1 b o e).2.1 (k46 b o (kp4 b o e)),
          X.walk.frame _ _ _ hst5 fun b hb o e => hs7.extBut b o (hfpn b hb).1 (k6 b o e), ((hn4.keeps k46).sameBut hs7 hDC.symm), ?_, ?_⟩
        · rw [hD7]; simp
        · have : (((ds.take (i + 1)).filter p).map f) = ((ds.take i).filter p).map f ++ [f d] := by rw [htake, List.filter_append]; simp [hpd]
          rw [this]
          refine HA.monoT tup7 (noLs_of fun e he => ?_) ((hA4.kp k46).append (.cons r6 .nil))
          rcases List.mem_append.mp he with he | he
          · focus ((refine let G9 : Prop := _; (?_ : G9)); (obtain ⟨z, hz, rfl⟩ := List.mem_map.mp he); all_goals (unfold G9; clear G9))
            exact hfl z (List.mem_of_mem_take (List.mem_filter.mp hz).1)
          · rw [List.mem_singleton.mp he]
            exact hfl d hdm
    · obtain rfl : i = ds.length := Nat.le_antisymm hi' (Nat.not_lt.mp hlt)
      rw [List.take_length] at hA
      refine X.walk.done _ _ _ hst' fun h3 tk3 hk3 => ?_
      have hk3' : Heap.ExtBut I h' h3 := fun b o hb e => hk3 b o (by simpa using hb) e
      focus ((refine let G9 : Prop := _; (?_ : G9)); (obtain ⟨oI, xI, eI, dI⟩ := X.iter _ _ hst'); all_goals (unfold G9; clear G9))
      have nsI : NotSeq h' I := fun o' ys n e hd => by rw [eI] at e; cases e; rw [dI] at hd; cases hd
      have hnC := hns'.at' fun o e => hk3' _ o hIC.symm e
      refine hend C D _ vs n m' ⟨?_, ?_⟩ hnC C0 D0 hDC.symm (hk3' _ _ hID.symm hD') (hA.but nsI hk3') _
      · focus ((refine let G9 : Prop := _; (?_ : G9)); (obtain ⟨hh1, t1, e1⟩ := G.eq); all_goals (unfold G9; clear G9))
        exact ⟨h3, tk3, by rw [e1]⟩
      · exact fun b o e => hk3' b o (hs1 b o (G.kp b o e)).1 (kp b o (G.kp b o e))
  exact codeAny_compStart_list (loop _ rfl) (X.walk.self 0 _ _ _ hst₁ (loop _ rfl))
theorem f_comp {elt iter : Expr} {x : Str} {px : Pos} {ifs : List Expr} {scope : Scope} {cl : List (Str × Addr)} {pos : Pos} {ds : List PyData} (p : PyData → Bool) (f : PyData → PyData)
    (hh : A.handled = none) (hi : EvSrc (model prog w) A env h₀ ρ (eval iter env) ds) (hds : ∀ d ∈ ds, noL d = true) (hz : ds.length ≤ 1000) (hfl : ∀ d ∈ ds, noL (f d) = true)
    (hclos : closureFor scope env = pure cl) (hcl : ∀ n c, cl.lookup n = some c → env.cells.lookup n = some c ∧ n ≠ x)
    (hcell : ∀ y ∈ scope.names, y.2 ≠ .cell) (hkind : scope.kind = .function) (hnames : ∀ y ∈ scope.names, y.2 = .local → scope.names.lookup y.1 = some .local) (hx : scope.names.lookup x = some .local)
    (hclloc : ∀ C y, (compEnvC scope cl C env).kindOf y = some .local → cl.lookup y = none) (ρ' : Ev) (hρ' : ∀ q ∈ ρ', ρ.lookup q.1 = some q.2 ∧ (cl.lookup q.1).isSome = true ∧ ((∃ d, q.2 = .val d ∧ noL d = true) ∨ ∃ u, q.2 = .raw u))
    (htest : ∀ C h₁ d, d ∈ ds → Kp h₀ h₁ → EvB (model prog w) A (compEnvC scope cl C env) h₁ ((x, .val d) :: ρ') (tests ifs (compEnvC scope cl C env)) (p d))
    (helt : ∀ C h₁ d, d ∈ ds → p d = true → Kp h₀ h₁ → EvD (model prog w) A (compEnvC scope cl C env) h₁ ((x, .val d) :: ρ') (eval elt (compEnvC scope cl C env)) (f d))
    (hs : ∀ x, foldedSetIterable iter env x = pure x := by intro _; rfl) :
    EvF (model prog w) A env h₀ ρ (eval (.ListComp elt [⟨.Name x px, iter, ifs, 0⟩] scope pos) env) ((ds.filter p).map f) := fun m s F R => by
  rw [eval_ListComp]
  refine comp_core (use := none) F R p f hh hi hds hz hfl hclos hcl hcell hkind hnames hx hclloc ρ' hρ' htest helt hs fun C D s' vs n m' G hn hC hD hCD hoD hA fl => ?_
  refine ⟨m', hn, fun h4 hs4 => ⟨⟨?_, ?_⟩, D, vs, n, rfl, hs4.extBut _ _ hCD.symm hoD, hA.but (.ns hn) hs4.extBut, hD⟩⟩
  · focus ((refine let G9 : Prop := _; (?_ : G9)); (obtain ⟨hh1, t1, e1⟩ := G.eq); all_goals (unfold G9; clear G9))
    exact ⟨h4, t1, by rw [e1]⟩
  · exact fun b o e => hs4.extBut b o (by intro h9; (first | rw [h9, hC] at e | rw [← h9, hC] at e); cases e) (G.kp b o e)
end
end Mine
end
-- Lg6b
section
open PySem PySem.W PyProof.Rows PySem.Calls PySem.Spec
namespace Mine
section
variable {prog : Program} {w : World} {A : Around} {env : Env} {h₀ : Heap} {ρ : Ev}

/-- a change at a place that is no part of the frame -/
theorem Nx.but {ρ' : Ev} {m m' : Str → Option Value} {h g g' : Heap} {C : Addr} (N : Nx env h₀ ρ ρ' m m' h g) (F : Frm env h₀ h m) (hns : NotSeq g C) (hsb : Heap.ExtBut C g g') (hC : h.get? C = none) : Nx env h₀ ρ ρ' m m' h g' := by
  have hI1 : ∀ b o, h.get? b = some o → b ≠ C := by
    intro b o e h9
    first | rw [h9, hC] at e | rw [← h9, hC] at e
    cases e
  have hL : env.locals ≠ C := by
    focus ((refine let G9 : Prop := _; (?_ : G9)); (obtain ⟨o, e⟩ := F.at_locals); all_goals (unfold G9; clear G9))
    exact hI1 _ _ e
  have hCc : ∀ n c, env.cells.lookup n = some c → c ≠ C := fun n c hc => by
    focus ((refine let G9 : Prop := _; (?_ : G9)); (obtain ⟨o, e⟩ := F.at_cell hc); all_goals (unfold G9; clear G9))
    exact hI1 _ _ e
  refine ⟨⟨?_, fun b o e => hsb b o (hI1 b o (F.keep b o e)) (N.fr.keep b o e), N.fr.above, fun n c hc => ?_⟩, N.er.but hns hsb, fun b o e hb hc ho => hsb b o (hI1 b o e) (N.keep b o e hb hc ho), N.own⟩
  · focus ((refine let G9 : Prop := _; (?_ : G9)); (obtain ⟨ml, hn, hm⟩ := N.fr.ns); all_goals (unfold G9; clear G9))
    exact ⟨ml, hn.at' fun o e => hsb _ o hL e, hm⟩
  · focus ((refine let G9 : Prop := _; (?_ : G9)); (obtain ⟨o', e, hd⟩ := N.fr.cell n c hc); all_goals (unfold G9; clear G9))
    exact ⟨o', hsb c o' (hCc n c hc) e, hd⟩

/-- a new list stored under a name -/
theorem st_own {x : Str} {a : Addr} {vs : List Value} {n : Nat} {ds : List PyData} {m : Str → Option Value} {s s1 : Shared} {Q : Unit → Shared → Prop} (F : Frm env h₀ s.heap m) (R : EnvR h₀ s.heap m ρ) (G : Grew s s1)
    (o : s1.heap.get? a = some (listOf (List.toArray vs) n)) (r : HA s1.heap vs ds) (q : s.heap.get? a = none) (hd : noLs ds = true) (hx : env.kindOf x = some .local) (hxc : env.cells.lookup x = none) (hk : env.scope.kind = .function)
    (h : ∀ h' tk, Heap.SameBut env.locals s1.heap h' → Nx env h₀ ρ ((x, .own ds) :: ρ) m (updM m x (.ref a)) s.heap h' → Q () { s1 with heap := h', toks := tk }) : wpAny (model prog w) A (storeName env x (.ref a)) Q NoE s1 := by
  have q0 : h₀.get? a = none := by
    cases hq : h₀.get? a with
    | none => rfl
    | some o => rw [F.keep _ _ hq] at q; cases q
  focus ((refine let G9 : Prop := _; (?_ : G9)); (obtain ⟨ml, hn, hm⟩ := (G.fr F).ns); all_goals (unfold G9; clear G9))
  have own' : ∀ b, Owned (updM m x (.ref a)) ((x, .own ds) :: ρ) b → Owned m ρ b ∨ s.heap.get? b = none := fun b qb => by
    focus ((refine let G9 : Prop := _; (?_ : G9)); (obtain ⟨y, es, qy, hm⟩ := qb); all_goals (unfold G9; clear G9))
    by_cases hy : y = x
    · subst hy
      have e : Value.ref a = .ref b := by simpa [updM] using hm
      cases e
      exact .inr q
    · rw [lookup_cons_ne hy] at qy
      exact .inl ⟨y, es, qy, by simpa [updM, hy] using hm⟩
  refine wpAny_storeName_local hx hn (fun h' hn' hsb => h h' _ hsb ⟨⟨⟨_, hn', fun y hy => ?_⟩, fun b o q => ?_, F.above, fun n c hnc => ?_⟩, fun y f qy => ?_, fun b o q hb _ _ => (hsb.2 b hb).trans (G.kp _ _ q), own'⟩) (by rw [hk]; rfl)
  · by_cases hyx : y = x
    · simp [updM, hyx]
    · simp [updM, hyx, hm y hy]
  · exact (hsb.2 b (by intro h9; (first | rw [h9, F.above] at q | rw [← h9, F.above] at q); cases q)).trans ((G.fr F).keep b o q)
  · have hne : n ≠ x := by rintro rfl; rw [hxc] at hnc; cases hnc
    have hcl : c ≠ env.locals := by
      rintro rfl
      focus ((refine let G9 : Prop := _; (?_ : G9)); (obtain ⟨o, eo, hd⟩ := (G.fr F).cell n _ hnc); all_goals (unfold G9; clear G9))
      focus ((refine let G9 : Prop := _; (?_ : G9)); (obtain ⟨o', es, ep, eo', hd', _⟩ := hn); all_goals (unfold G9; clear G9))
      rw [eo] at eo'
      cases eo'
      rw [hd] at hd'
      cases hd'
    have : updM m x (.ref a) n = m n := if_neg hne
    rw [this]
    exact ((G.fr F).cell n c hnc).sameBut hsb hcl
  · by_cases hy : y = x
    · subst hy
      rw [lookup_cons_self] at qy
      cases qy
      exact ⟨_, if_pos rfl, EntIs.but (.ns hn) hsb.extBut (⟨a, vs, _, rfl, o, r, hd, q0⟩ : EntIs h₀ s1.heap (.ref a) (.own ds))⟩
    · rw [lookup_cons_ne hy] at qy
      focus ((refine let G9 : Prop := _; (?_ : G9)); (obtain ⟨u, hu, r⟩ := R y f qy); all_goals (unfold G9; clear G9))
      exact ⟨u, (if_neg hy).trans hu, (r.kp G.kp).but (.ns hn) hsb.extBut⟩

theorem x_comp {y : Str} {py spos : Pos} {elt iter : Expr} {x : Str} {px : Pos} {ifs : List Expr} {scope : Scope} {cl : List (Str × Addr)} {pos : Pos} {ds : List PyData} (p : PyData → Bool) (f : PyData → PyData)
    (hh : A.handled = none) (hi : EvSrc (model prog w) A env h₀ ρ (eval iter env) ds) (hds : ∀ d ∈ ds, noL d = true) (hz : ds.length ≤ 1000) (hfl : ∀ d ∈ ds, noL (f d) = true)
    (hclos : closureFor scope env = pure cl) (hcl : ∀ n c, cl.lookup n = some c → env.cells.lookup n = some c ∧ n ≠ x)
    (hcell : ∀ y ∈ scope.names, y.2 ≠ .cell) (hkind : scope.kind = .function) (hnames : ∀ y ∈ scope.names, y.2 = .local → scope.names.lookup y.1 = some .local) (hx : scope.names.lookup x = some .local)
    (hclloc : ∀ C y, (compEnvC scope cl C env).kindOf y = some .local → cl.lookup y = none) (ρ' : Ev) (hρ' : ∀ q ∈ ρ', ρ.lookup q.1 = some q.2 ∧ (cl.lookup q.1).isSome = true ∧ ((∃ d, q.2 = .val d ∧ noL d = true) ∨ ∃ u, q.2 = .raw u))
    (htest : ∀ C h₁ d, d ∈ ds → Kp h₀ h₁ → EvB (model prog w) A (compEnvC scope cl C env) h₁ ((x, .val d) :: ρ') (tests ifs (compEnvC scope cl C env)) (p d))
    (helt : ∀ C h₁ d, d ∈ ds → p d = true → Kp h₀ h₁ → EvD (model prog w) A (compEnvC scope cl C env) h₁ ((x, .val d) :: ρ') (eval elt (compEnvC scope cl C env)) (f d))
    (hy : env.kindOf y = some .local) (hyc : env.cells.lookup y = none) (hk : env.scope.kind = .function)
    (hs : ∀ x, foldedSetIterable iter env x = pure x := by intro _; rfl) (hsw : swapsWith (.ListComp elt [⟨.Name x px, iter, ifs, 0⟩] scope pos) (some (.Name y py)) spos.line env = pure true := by rfl) :
    Xs (model prog w) A env h₀ ρ (exec (.Assign [.Name y py] (.ListComp elt [⟨.Name x px, iter, ifs, 0⟩] scope pos) spos) env) (.next ((y, .own ((ds.filter p).map f)) :: ρ)) := fun m s F R => by
  rw [exec_Assign_Name_used _ _ _ _ hsw]
  refine wpAny_bind (wpAny_standAt (wpAny_bind ?_))
  show wpAny _ A (do let _ ← comprehension (.ListComp elt [⟨.Name x px, iter, ifs, 0⟩] scope pos) scope env _ (newList []) false (eval iter env) (some (assign (.Name y py) env))) _ _ s
  refine wpAny_bind (wpAny_mono (comp_core (Q := fun _ s' => OutIs env h₀ ρ m s (.next ((y, .own ((ds.filter p).map f)) :: ρ)) .next s') (use := some (assign (.Name y py) env)) F R p f hh hi hds hz hfl hclos hcl hcell hkind hnames hx hclloc ρ' hρ' htest helt hs fun C D s1 vs n m' G hn hC hD hCD hoD hA fl => ?_) (fun _ s' hq => wpAny_pure (wpAny_pure hq)) fun _ _ x => x)
  show wpAny (model prog w) A (assign (.Name y py) env (.ref D)) (fun _ s'' => ∃ m, s''.heap.Ns C m ∧ ∀ h', Heap.SameBut C s''.heap h' → _) NoE s1
  have hnl : noLs ((ds.filter p).map f) = true := noLs_of fun d hd => by
    focus ((refine let G9 : Prop := _; (?_ : G9)); (obtain ⟨z, hz, rfl⟩ := List.mem_map.mp hd); all_goals (unfold G9; clear G9))
    exact hfl z (List.mem_filter.mp hz).1
  have hCL : C ≠ env.locals := by
    intro h9
    focus ((refine let G9 : Prop := _; (?_ : G9)); (obtain ⟨o, e⟩ := F.at_locals); all_goals (unfold G9; clear G9))
    first | rw [h9, hC] at e | rw [← h9, hC] at e
    cases e
  refine wpAny_assign_Name (st_own F R G hoD hA hD hnl hy hyc hk fun h' tk hsb X => ?_)
  have hn' := hn.sameBut hsb hCL
  exact ⟨m', hn', fun h2 hs2 => ⟨rfl, G.same.trans ⟨h2, _, rfl⟩, _, X.but F (.ns hn') hs2.extBut hC⟩⟩
end
end Mine
end
-- Srt
section
open PySem PySem.W PyProof.Rows PySem.Calls PySem.Spec
namespace Mine
-- the library's sort, its answers given by numbers
section
variable {key : Nat → Int} {p : Array Nat}
noncomputable def Kx (key : Nat → Int) (p : Array Nat) (k : Nat) : Int := match p[k]? with
  | some i => key i
  | none => 0
noncomputable def SrtTo (key : Nat → Int) (p : Array Nat) (k : Nat) : Prop := ∀ i j, i ≤ j → j < k → Kx key p i ≤ Kx key p j
noncomputable def NonI (key : Nat → Int) (p : Array Nat) (k : Nat) : Prop := ∀ i j, i ≤ j → j < k → Kx key p j ≤ Kx key p i
theorem Kx_congr {xs ys : Array Nat} {i j : Nat} (h : xs[i]? = ys[j]?) : Kx key xs i = Kx key ys j := by unfold Kx; rw [h]
theorem Kx_bubble {xs : Array Nat} {src d : Nat} (hs : src < xs.size) (hd : d ≤ src) (k : Nat) :
    Kx key (bubble xs src d) k = if k = src - d then Kx key xs src else if src - d < k ∧ k ≤ src then Kx key xs (k - 1) else Kx key xs k := by
  have e := getElem?_bubble hs d hd k
  by_cases h1 : k = src - d
  · rw [if_pos h1] at e ⊢; exact Kx_congr e
  · rw [if_neg h1] at e ⊢
    by_cases h2 : src - d < k ∧ k ≤ src
    · rw [if_pos h2] at e ⊢; exact Kx_congr e
    · rw [if_neg h2] at e ⊢; exact Kx_congr e
theorem Kx_mirror {xs : Array Nat} {i j : Nat} (hj : j ≤ xs.size) (k : Nat) :
    Kx key (kas_rev xs i j) k = if i ≤ k ∧ k < j then Kx key xs (i + j - 1 - k) else Kx key xs k := by
  unfold kas_rev
  have e := getElem?_mirror_all (i := i) hj k
  by_cases h1 : i ≤ k ∧ k < j
  · rw [if_pos h1] at e ⊢; exact Kx_congr e
  · rw [if_neg h1] at e ⊢; exact Kx_congr e
theorem Kx_mirror_equal {xs : Array Nat} {i j : Nat} (hj : j ≤ xs.size) (heq : ∀ k, i ≤ k → k < j → Kx key xs k = Kx key xs (j - 1)) (k : Nat) :
    Kx key (kas_rev xs i j) k = Kx key xs k := by
  rw [Kx_mirror hj]
  split
  · rw [heq _ (by omega) (by omega), heq k (by omega) (by omega)]
  · rfl

variable {cmp : Nat → Nat → (Bool → Shared → Prop) → Shared → Prop} {s : Shared} {N : Nat}
structure Bs (N : Nat) (p : Array Nat) : Prop where
  perm : p.Perm (List.toArray (List.range N))
theorem Bs.size (B : Bs N p) : p.size = N := by rw [B.perm.size_eq]; simp
theorem Bs.at (B : Bs N p) {i : Nat} (hi : i < N) : p.getD i 0 < N ∧ Kx key p i = key (p.getD i 0) := by
  have hi' : i < p.size := by rw [B.size]; exact hi
  have e : p[i]? = some p[i] := getElem?_pos _ i hi'
  have e2 : p.getD i 0 = p[i] := by simp [Array.getD, hi']
  refine ⟨?_, ?_⟩
  · have hm : p[i] ∈ (List.toArray (List.range N)).toList := (Array.perm_iff_toList_perm.mp B.perm).mem_iff.mp (by simp)
    rw [e2]
    simpa using hm
  · unfold Kx
    rw [e, e2]
theorem Bs.rev (B : Bs N p) (i j : Nat) : Bs N (kas_rev p i j) := ⟨(mirror_perm _ _ _ _).trans B.perm⟩
theorem Bs.bub (B : Bs N p) (i j : Nat) : Bs N (bubble p i j) := ⟨(bubble_perm _ _ _).trans B.perm⟩

noncomputable def Asks (key : Nat → Int) (N : Nat) (cmp : Nat → Nat → (Bool → Shared → Prop) → Shared → Prop) (s : Shared) : Prop := ∀ i j C, i < N → j < N → C (decide (key i < key j)) s → cmp i j C s

theorem ask_ {α : Type} {i j : Nat} {k : Bool → KasT α} {Q : α → Shared → Prop} (H : Asks key N cmp s) (B : Bs N p) (hi : i < N) (hj : j < N) (h : (k (decide (Kx key p i < Kx key p j))).kasWp cmp Q s) :
    (KasT.ask (p.getD i 0) (p.getD j 0) k).kasWp cmp Q s := by
  focus ((refine let G9 : Prop := _; (?_ : G9)); (obtain ⟨a1, a2⟩ := B.at (key := key) hi); all_goals (unfold G9; clear G9))
  focus ((refine let G9 : Prop := _; (?_ : G9)); (obtain ⟨b1, b2⟩ := B.at (key := key) hj); all_goals (unfold G9; clear G9))
  rw [a2, b2] at h
  exact H _ _ _ a1 b1 h

theorem asc_ (H : Asks key N cmp s) (B : Bs N p) {nrem : Nat} {Q : Nat → Shared → Prop} (hn : nrem ≤ N) : ∀ (f a : Nat), f = nrem - a → 1 ≤ a → a ≤ nrem → SrtTo key p a →
    (∀ m, a ≤ m → m ≤ nrem → SrtTo key p m → (m = nrem ∨ Kx key p m < Kx key p (m - 1)) → Q m s) → (kas_asc p f a).kasWp cmp Q s
  | 0, a, hf, h1, ha, hs, h => h a (Nat.le_refl _) ha hs (.inl (by (first | lia | omega)))
  | f + 1, a, hf, h1, ha, hs, h => by
    show (KasT.ask (p.getD a 0) (p.getD (a - 1) 0) _).kasWp cmp Q s
    refine ask_ H B (by (first | lia | omega)) (by (first | lia | omega)) ?_
    by_cases hless : Kx key p a < Kx key p (a - 1)
    · simp only [hless, decide_true, if_true]
      exact h a (Nat.le_refl _) ha hs (.inr hless)
    · simp only [hless, decide_false, Bool.false_eq_true, if_false]
      refine asc_ H B hn f (a + 1) (by (first | lia | omega)) (by (first | lia | omega)) (by (first | lia | omega)) (fun i j hij hj => ?_) fun m hm1 hm2 => h m (by (first | lia | omega)) hm2
      by_cases hjx : j < a
      · exact hs i j hij hjx
      · have hj' : j = a := by (first | lia | omega)
        subst hj'
        by_cases hi' : i = j
        · subst hi'; exact Int.le_refl _
        · exact Int.le_trans (hs i (j - 1) (by (first | lia | omega)) (by (first | lia | omega))) (Int.not_lt.mp hless)

theorem tail3_ (H : Asks key N cmp s) {n nrem : Nat} {Q : Nat × Array Nat → Shared → Prop} (B : Bs N p) (hn : nrem ≤ N) (h1 : 1 ≤ n) (hnn : n ≤ nrem) (hs : NonI key p n)
    (h : ∀ m p', Bs N p' → 1 ≤ m → m ≤ nrem → SrtTo key p' m → Q (m, p') s) : (kas_tail3 n nrem p).kasWp cmp Q s := by
  unfold kas_tail3
  rw [KasT.kasWp_bind]
  have hsz : n ≤ p.size := by rw [B.size]; omega
  refine asc_ H (B.rev _ _) hn _ _ rfl h1 hnn ?_ fun m hm1 hm2 hsm _ => h m _ (B.rev _ _) (by omega) hm2 hsm
  intro i j hij hj
  rw [Kx_mirror hsz, Kx_mirror hsz, if_pos (by omega), if_pos (by omega)]
  exact hs _ _ (by omega) (by omega)

theorem desc_ (H : Asks key N cmp s) {nrem : Nat} {Q : Array Nat × Nat × Nat → Shared → Prop} (hn : nrem ≤ N) : ∀ (f : Nat) (p : Array Nat) (x q : Nat), Bs N p → f = nrem - x → 1 ≤ x → x ≤ nrem → NonI key p x → q + 1 ≤ x →
    (∀ i, x - (q + 1) ≤ i → i < x → Kx key p i = Kx key p (x - 1)) →
    (∀ m q' p', Bs N p' → x ≤ m → m ≤ nrem → NonI key p' m → q' + 1 ≤ m → (∀ i, m - (q' + 1) ≤ i → i < m → Kx key p' i = Kx key p' (m - 1)) → Q (p', m, q') s) → (kas_desc f p x q).kasWp cmp Q s
  | 0, p, x, q, B, hf, h1, hx, hs, hq, he, h => h x q p B (Nat.le_refl _) hx hs hq he
  | f + 1, p, x, q, B, hf, h1, hx, hs, hq, he, h => by
    have hsz : x ≤ p.size := by rw [B.size]; (first | lia | omega)
    show (KasT.ask (p.getD x 0) (p.getD (x - 1) 0) _).kasWp cmp Q s
    refine ask_ H B (by (first | lia | omega)) (by (first | lia | omega)) ?_
    by_cases hless : Kx key p x < Kx key p (x - 1)
    · simp only [hless, decide_true, if_true]
      have step1 : ∀ xs : Array Nat, (∀ k, Kx key xs k = Kx key p k) → NonI key xs (x + 1) := by
        intro xs hk i j hij hj
        rw [hk, hk]
        by_cases hjx : j < x
        · exact hs i j hij hjx
        · have hj' : j = x := by (first | lia | omega)
          subst hj'
          by_cases hi' : i = j
          · subst hi'; exact Int.le_refl _
          · exact Int.le_trans (Int.le_of_lt hless) (hs i (j - 1) (by (first | lia | omega)) (by (first | lia | omega)))
      by_cases hneq : q > 0
      · rw [if_pos hneq]
        exact desc_ H hn f _ (x + 1) 0 (B.rev _ _) (by (first | lia | omega)) (by (first | lia | omega)) (by (first | lia | omega)) (step1 _ (Kx_mirror_equal hsz he)) (by (first | lia | omega)) (fun i h1 h2 => by congr 1; (first | lia | omega)) fun m q' p' B' hm => h m q' p' B' (by (first | lia | omega))
      · rw [if_neg hneq]
        exact desc_ H hn f _ (x + 1) 0 B (by (first | lia | omega)) (by (first | lia | omega)) (by (first | lia | omega)) (step1 _ (fun _ => rfl)) (by (first | lia | omega)) (fun i h1 h2 => by congr 1; (first | lia | omega)) fun m q' p' B' hm => h m q' p' B' (by (first | lia | omega))
    · simp only [hless, decide_false, Bool.false_eq_true, if_false]
      refine ask_ H B (by (first | lia | omega)) (by (first | lia | omega)) ?_
      by_cases hlarger : Kx key p (x - 1) < Kx key p x
      · simp only [hlarger, decide_true, if_true]
        exact h x q p B (Nat.le_refl _) (by (first | lia | omega)) hs hq he
      · simp only [hlarger, decide_false, Bool.false_eq_true, if_false]
        have heqx : Kx key p x = Kx key p (x - 1) := by (first | lia | omega)
        refine desc_ H hn f _ (x + 1) (q + 1) B (by (first | lia | omega)) (by (first | lia | omega)) (by (first | lia | omega)) (fun i j hij hj => ?_) (by (first | lia | omega)) (fun i h1 h2 => ?_) fun m q' p' B' hm => h m q' p' B' (by (first | lia | omega))
        · by_cases hjx : j < x
          · exact hs i j hij hjx
          · have hj' : j = x := by (first | lia | omega)
            subst hj'
            by_cases hi' : i = j
            · subst hi'; exact Int.le_refl _
            · rw [heqx]; exact hs i (j - 1) (by (first | lia | omega)) (by (first | lia | omega))
        · rw [show x + 1 - 1 = x by (first | lia | omega)]
          by_cases hix : i = x
          · subst hix; rfl
          · rw [heqx]; exact he i (by (first | lia | omega)) (by (first | lia | omega))

theorem descPart_ (H : Asks key N cmp s) {n nrem : Nat} {Q : Nat × Array Nat → Shared → Prop} (B : Bs N p) (hn : nrem ≤ N) (hnn : n + 1 ≤ nrem) (hs : NonI key p (n + 1))
    (h : ∀ m p', Bs N p' → 1 ≤ m → m ≤ nrem → SrtTo key p' m → Q (m, p') s) : (kas_descPart n nrem p).kasWp cmp Q s := by
  unfold kas_descPart
  rw [KasT.kasWp_bind]
  refine desc_ H hn _ p (n + 1) 0 B rfl (by (first | lia | omega)) hnn hs (by (first | lia | omega)) (fun i h1 h2 => by congr 1; (first | lia | omega)) fun m q p' B' hm1 hm2 hs' hq he => ?_
  dsimp only
  have hsz : m ≤ p'.size := by rw [B'.size]; (first | lia | omega)
  by_cases hneq : q > 0
  · rw [if_pos hneq]
    refine tail3_ H (B'.rev _ _) hn (by (first | lia | omega)) hm2 ?_ h
    intro i j hij hj
    rw [Kx_mirror_equal hsz he, Kx_mirror_equal hsz he]
    exact hs' i j hij hj
  · rw [if_neg hneq]
    exact tail3_ H B' hn (by (first | lia | omega)) hm2 hs' h

theorem count_ (H : Asks key N cmp s) {nrem : Nat} {Q : Nat × Array Nat → Shared → Prop} (B : Bs N p) (hn : nrem ≤ N) (h1 : 1 ≤ nrem)
    (h : ∀ m p', Bs N p' → 1 ≤ m → m ≤ nrem → SrtTo key p' m → Q (m, p') s) : (kas_count nrem p).kasWp cmp Q s := by
  unfold kas_count
  rw [KasT.kasWp_bind]
  refine asc_ H B hn _ _ rfl (Nat.le_refl 1) h1 (fun i j hij hj => by have : i = j := by (first | lia | omega)
                                                                      subst this; exact Int.le_refl _) fun n hn1 hn2 hsn hor => ?_
  by_cases hnn : n = nrem
  · rw [if_pos (by simpa using hnn)]
    exact h n p B hn1 hn2 hsn
  · rw [if_neg (by simpa using hnn)]
    have hlt : Kx key p n < Kx key p (n - 1) := hor.resolve_left hnn
    by_cases hgt : n > 1
    · rw [if_pos hgt]
      refine ask_ H B (by (first | lia | omega)) (by (first | lia | omega)) ?_
      by_cases hrose : Kx key p 0 < Kx key p (n - 1)
      · simp only [hrose, decide_true, if_true]
        exact h n p B hn1 hn2 hsn
      · simp only [hrose, decide_false, Bool.false_eq_true, if_false]
        have hsz : n ≤ p.size := by rw [B.size]; (first | lia | omega)
        have hall : ∀ k, 0 ≤ k → k < n → Kx key p k = Kx key p (n - 1) := by
          intro k _ hk
          have a1 := hsn 0 k (by (first | lia | omega)) hk
          have a2 := hsn k (n - 1) (by (first | lia | omega)) (by (first | lia | omega))
          (first | lia | omega)
        refine descPart_ H (B.rev _ _) hn (by (first | lia | omega)) ?_ h
        intro i j hij hj
        rw [Kx_mirror_equal hsz hall, Kx_mirror_equal hsz hall]
        by_cases hjn : j < n
        · rw [hall i (by (first | lia | omega)) (by (first | lia | omega)), hall j (by (first | lia | omega)) hjn]; exact Int.le_refl _
        · have hj' : j = n := by (first | lia | omega)
          subst hj'
          by_cases hi' : i = j
          · subst hi'; exact Int.le_refl _
          · rw [hall i (by (first | lia | omega)) (by (first | lia | omega))]; exact Int.le_of_lt hlt
    · rw [if_neg hgt]
      have hn1' : n = 1 := by (first | lia | omega)
      subst hn1'
      refine descPart_ H B hn (by (first | lia | omega)) ?_ h
      intro i j hij hj
      by_cases hi' : i = j
      · subst hi'; exact Int.le_refl _
      · have hi0 : i = 0 := by (first | lia | omega)
        have hj1 : j = 1 := by (first | lia | omega)
        subst hi0; subst hj1
        exact Int.le_of_lt hlt

theorem mid_lo {l r : Nat} (h : l < r) : l ≤ (l + r) / 2 := by (first | lia | omega)
theorem mid_hi {l r : Nat} (h : l < r) : (l + r) / 2 < r := by (first | lia | omega)
theorem place_ (H : Asks key N cmp s) {k : Nat} {Q : Nat → Shared → Prop} (B : Bs N p) (hk : k < N) (hs : SrtTo key p k)
    (h : ∀ l, l ≤ k → (∀ i, i < l → Kx key p i ≤ Kx key p k) → (∀ i, l ≤ i → i < k → Kx key p k < Kx key p i) → Q l s) :
    ∀ (f l r : Nat), l ≤ r → r ≤ k → r - l ≤ f → (∀ i, i < l → Kx key p i ≤ Kx key p k) → (∀ i, r ≤ i → i < k → Kx key p k < Kx key p i) → (kas_place p k f l r).kasWp cmp Q s
  | 0, l, r, hlr, hrk, hf, hlo, hhi => by
    have : l = r := by (first | lia | omega)
    subst this
    exact h l hrk hlo hhi
  | f + 1, l, r, hlr, hrk, hf, hlo, hhi => by
    unfold kas_place
    by_cases hge : l ≥ r
    · rw [if_pos hge]
      have : l = r := by (first | lia | omega)
      subst this
      exact h l hrk hlo hhi
    · rw [if_neg hge]
      have hlr' : l < r := Nat.lt_of_not_le hge
      have hm1 : l ≤ (l + r) / 2 := mid_lo hlr'
      have hm2 : (l + r) / 2 < r := mid_hi hlr'
      generalize (l + r) / 2 = m at *
      refine ask_ H B hk (by (first | lia | omega)) ?_
      by_cases hless : Kx key p k < Kx key p m
      · simp only [hless, decide_true, if_true]
        exact place_ H B hk hs h f l m hm1 (by (first | lia | omega)) (by (first | lia | omega)) hlo fun i h1 h2 => Int.lt_of_lt_of_le hless (hs _ _ h1 h2)
      · simp only [hless, decide_false, Bool.false_eq_true, if_false]
        exact place_ H B hk hs h f (m + 1) r hm2 hrk (by (first | lia | omega)) (fun i h1 => Int.le_trans (hs i m (Nat.le_of_lt_succ h1) (Nat.lt_of_lt_of_le hm2 hrk)) (Int.not_lt.mp hless)) hhi

theorem bin_ (H : Asks key N cmp s) {Q : Array Nat → Shared → Prop} (h : ∀ p', Bs N p' → SrtTo key p' N → Q p' s) : ∀ (f : Nat) (p : Array Nat) (k : Nat), Bs N p → 1 ≤ k → k + f = N → SrtTo key p k → (kas_bin f p k).kasWp cmp Q s
  | 0, p, k, B, h1, hf, hs => h p B (by rw [← hf]; exact hs)
  | f + 1, p, k, B, h1, hf, hs => by
    show ((kas_place p k k 0 k).bind _).kasWp cmp Q s
    rw [KasT.kasWp_bind]
    refine place_ H B (by (first | lia | omega)) hs (fun l hlk hlo hhi => ?_) k 0 k (by (first | lia | omega)) (by (first | lia | omega)) (by (first | lia | omega)) (fun i hi => by (first | lia | omega)) (fun i h1 h2 => by (first | lia | omega))
    refine bin_ H h f _ (k + 1) (B.bub _ _) (by (first | lia | omega)) (by (first | lia | omega)) ?_
    have hks : k < p.size := by rw [B.size]; (first | lia | omega)
    intro i j hij hj
    rw [Kx_bubble hks (by (first | lia | omega)), Kx_bubble hks (by (first | lia | omega)), show k - (k - l) = l by (first | lia | omega)]
    repeat' split
    all_goals first
      | (exfalso; (first | lia | omega))
      | exact Int.le_refl _
      | exact hlo _ (by (first | lia | omega))
      | exact Int.le_of_lt (hhi _ (by (first | lia | omega)) (by (first | lia | omega)))
      | exact hs _ _ (by (first | lia | omega)) (by (first | lia | omega))

theorem sort_ (H : Asks key N cmp s) {Q : Array Nat → Shared → Prop} (h1 : 1 ≤ N) (h : ∀ p', Bs N p' → SrtTo key p' N → Q p' s) : (kas_sort N).kasWp cmp Q s := by
  unfold kas_sort
  rw [KasT.kasWp_bind]
  refine count_ H ⟨Array.Perm.refl _⟩ (Nat.le_refl _) h1 fun m p' B hm1 hm2 hs => ?_
  dsimp only
  by_cases hlt : m < N
  · rw [if_pos hlt]
    have e : max m 1 = m := by (first | lia | omega)
    rw [e]
    exact bin_ H h _ _ _ B hm1 (by (first | lia | omega)) hs
  · rw [if_neg hlt]
    have : m = N := by (first | lia | omega)
    subst this
    exact h p' B hs
end
end Mine
end
-- Lg7
section
open PySem PySem.W PyProof.Rows PySem.Calls PySem.Spec
namespace Mine

-- sorted, of pairs of ints
noncomputable def prD (q : Int × Int) : PyData := .tuple [.int q.1, .int q.2]
noncomputable def prK (q : Int × Int) : Int := q.1 * 1000 + q.2
noncomputable def PrOk (q : Int × Int) : Prop := 0 ≤ q.2 ∧ q.2 < 1000

section
variable {prog : Program} {w : World} {A : Around} {s : Shared}

theorem lt_pair {x y : Addr} {a1 a2 b1 b2 : Int} {t1 t2 u1 u2 : Tok} {n k : Nat} {C : Bool → Shared → Prop} (hx : s.heap.get? x = some (tupO [.int a1 t1, .int b1 u1] n)) (hy : s.heap.get? y = some (tupO [.int a2 t2, .int b2 u2] k))
    (h : C (decide (a1 < a2 ∨ (a1 = a2 ∧ b1 < b2))) s) : wpAny (model prog w) A (keyLt' (tuples' true) (.ref x) (.ref y)) C NoE s := by
  refine kat_lt hx rfl hy rfl ?_
  show KatLex prog w A true (decide (2 < 2)) C [(.int a1 t1, .int a2 t2), (.int b1 u1, .int b2 u2)] 0 s
  refine kat_cons (wpAny_eqBool_int ?_)
  by_cases e1 : a1 = a2
  · subst e1
    rw [beq_self_eq_true]
    refine kat_yes (kat_cons (wpAny_eqBool_int ?_))
    by_cases e2 : b1 = b2
    · subst e2
      rw [beq_self_eq_true]
      refine kat_yes (kat_nil ?_)
      have : decide (a1 < a1 ∨ (a1 = a1 ∧ b1 < b1)) = decide (2 < 2) := by simp
      rw [← this]
      exact h
    · rw [beq_eq_false_iff_ne.mpr e2]
      refine kat_no ?_
      show wpAny _ _ (oneLt' false _ _) _ _ _
      refine kat_one _ _ (lt_int ?_)
      show C _ s
      have : decide (a1 < a1 ∨ (a1 = a1 ∧ b1 < b2)) = decide (b1 < b2) := by simp
      rw [← this]
      exact h
  · rw [beq_eq_false_iff_ne.mpr e1]
    refine kat_no ?_
    show wpAny _ _ (oneLt' true _ _) _ _ _
    refine oneLt_int ?_
    have : decide (a1 < a2 ∨ (a1 = a2 ∧ b1 < b2)) = decide (a1 < a2) := by simp [e1]
    rw [← this]
    exact h

theorem pr_inv {h : Heap} {v : Value} {q : Int × Int} (r : HR h v (prD q)) : ∃ a t u n, v = .ref a ∧ h.get? a = some (tupO [.int q.1 t, .int q.2 u] n) := by
  focus ((refine let G9 : Prop := _; (?_ : G9)); (obtain ⟨a, vs, n, rfl, ho, ra⟩ := r.tup_inv); all_goals (unfold G9; clear G9))
  cases ra with
  | cons r1 ra =>
    cases ra with
    | cons r2 ra =>
      cases ra
      focus ((refine let G9 : Prop := _; (?_ : G9)); (obtain ⟨t, rfl⟩ := r1.int_inv); all_goals (unfold G9; clear G9))
      focus ((refine let G9 : Prop := _; (?_ : G9)); (obtain ⟨u, rfl⟩ := r2.int_inv); all_goals (unfold G9; clear G9))
      exact ⟨a, t, u, n, rfl, ho⟩
theorem pr_tups {h : Heap} : ∀ {vs : List Value} {ps : List (Int × Int)}, HA h vs (ps.map prD) → ∃ fs, KatTups h vs fs ∧ fs.length = ps.length ∧ ∀ v ∈ fs, ∃ i t, v = .int i t
  | _, [], x => by cases x.inv0; exact ⟨[], .nil, rfl, fun _ h => nomatch h⟩
  | _, q :: ps, x => by
    focus ((refine let G9 : Prop := _; (?_ : G9)); (obtain ⟨v, us, rfl, r, ra⟩ := HA.inv (ds := ps.map prD) x); all_goals (unfold G9; clear G9))
    focus ((refine let G9 : Prop := _; (?_ : G9)); (obtain ⟨a, t, u, n, rfl, ho⟩ := pr_inv r); all_goals (unfold G9; clear G9))
    focus ((refine let G9 : Prop := _; (?_ : G9)); (obtain ⟨fs, k, hl, hi⟩ := pr_tups ra); all_goals (unfold G9; clear G9))
    refine ⟨.int q.1 t :: fs, .cons ho rfl rfl rfl k, by simp [hl], fun v hv => ?_⟩
    rcases List.mem_cons.mp hv with rfl | hv
    · exact ⟨_, _, rfl⟩
    · exact hi v hv

theorem HA.getD {h : Heap} {vs : List Value} {ps : List (Int × Int)} (ra : HA h vs (ps.map prD)) {i : Nat} (hi : i < ps.length) : HR h (vs.getD i Value.none) (prD (ps.getD i (0, 0))) := by
  focus ((refine let G9 : Prop := _; (?_ : G9)); (obtain ⟨u, hu, r⟩ := ra.get (k := i) (x := prD (ps.getD i (0, 0))) (by simp [hi])); all_goals (unfold G9; clear G9))
  have : vs.getD i Value.none = u := by simp [List.getD, hu]
  rw [this]
  exact r

theorem pr_asks {κ : SortKind} {vs : List Value} {ps : List (Int × Int)} (ra : HA s.heap vs (ps.map prD)) (hp : ∀ q ∈ ps, PrOk q) : Asks (fun i => prK (ps.getD i (0, 0))) ps.length (kas_ask prog w A (tuples' true) vs) s := fun i j C hi hj h => by
  focus ((refine let G9 : Prop := _; (?_ : G9)); (obtain ⟨a, t, u, n, ea, ho⟩ := pr_inv (ra.getD hi)); all_goals (unfold G9; clear G9))
  focus ((refine let G9 : Prop := _; (?_ : G9)); (obtain ⟨b, t', u', n', eb, ho'⟩ := pr_inv (ra.getD hj)); all_goals (unfold G9; clear G9))
  unfold kas_ask
  rw [ea, eb]
  refine lt_pair ho ho' ?_
  have hi' : ps.getD i (0, 0) ∈ ps := by simp [List.getD, hi]
  have hj' : ps.getD j (0, 0) ∈ ps := by simp [List.getD, hj]
  have h : C (decide (prK (ps.getD i (0, 0)) < prK (ps.getD j (0, 0)))) s := h
  generalize ps.getD i (0, 0) = q at *
  generalize ps.getD j (0, 0) = q' at *
  focus ((refine let G9 : Prop := _; (?_ : G9)); (obtain ⟨h1, h2⟩ := hp q hi'); all_goals (unfold G9; clear G9))
  focus ((refine let G9 : Prop := _; (?_ : G9)); (obtain ⟨h3, h4⟩ := hp q' hj'); all_goals (unfold G9; clear G9))
  have : decide (q.1 < q'.1 ∨ (q.1 = q'.1 ∧ q.2 < q'.2)) = decide (prK q < prK q') := by
    rw [decide_eq_decide]
    unfold prK
    (first | lia | omega)
  rw [this]
  exact h

theorem perm_range {α : Type} (l : List α) (d : α) : (List.range l.length).map (fun i => l.getD i d) = l := by
  refine List.ext_getElem (by simp) fun i h1 h2 => ?_
  simp [List.getD, h2]
theorem sorted_unique {α : Type} {le : α → α → Prop} : ∀ {l l' : List α}, (∀ a ∈ l, ∀ b ∈ l, le a b → le b a → a = b) → l.Perm l' → l.Pairwise le → l'.Pairwise le → l = l'
  | [], l', _, p, _, _ => (List.Perm.nil_eq p)
  | a :: l, [], _, p, _, _ => by simpa using p.length_eq
  | a :: l, b :: l', anti, p, s, s' => by
    focus ((refine let G9 : Prop := _; (?_ : G9)); (obtain ⟨s1, s2⟩ := List.pairwise_cons.mp s); all_goals (unfold G9; clear G9))
    focus ((refine let G9 : Prop := _; (?_ : G9)); (obtain ⟨s1', s2'⟩ := List.pairwise_cons.mp s'); all_goals (unfold G9; clear G9))
    have hab : a = b := by
      have ha : a ∈ b :: l' := p.mem_iff.mp (.head _)
      have hb : b ∈ a :: l := p.mem_iff.mpr (.head _)
      rcases List.mem_cons.mp ha with e | ha
      · exact e
      rcases List.mem_cons.mp hb with e | hb
      · exact e.symm
      exact anti _ (.head _) _ (.tail _ hb) (s1 b hb) (s1' a ha)
    subst hab
    rw [sorted_unique (fun x hx y hy => anti x (.tail _ hx) y (.tail _ hy)) (List.perm_cons a |>.mp p) s2 s2']

/-- list.sort, the heap told -/
theorem sort_list {a : Addr} {vs : List Value} {ps : List (Int × Int)} {n : Nat} {P : PySem.Fin → Shared → Prop} (ho : s.heap.get? a = some (seqObj "list" vs.toArray n)) (ra : HA s.heap vs (ps.map prD)) (hp : ∀ q ∈ ps, PrOk q) (h64 : ps.length < 64)
    (h : ∀ (ws : List Value) (ps' : List (Int × Int)) (h' : Heap) (c : Nat), ps'.Perm ps → ps'.Pairwise (fun x y => prK x ≤ prK y) → (∀ b o, b ≠ a → s.heap.get? b = some o → h'.get? b = some o) → h'.get? a = some (listOf ws.toArray c) → HA h' ws (ps'.map prD) → P (.done (.ret .none)) { s with heap := h' }) :
    wpAny (model prog w) A (Builtin.«list.sort» ⟨[.ref a], []⟩) P NoE s := by
  have hlen : vs.length = ps.length := by rw [ra.length, List.length_map]
  have ha : a < s.heap.objs.size := Heap.lt_size ho
  have s1 := Heap.SameBut.update s.heap a (Obj.mapSeq fun _ => (#[] : Array Value))
  focus ((refine let G9 : Prop := _; (?_ : G9)); (obtain ⟨e1, ho1⟩ : ∃ e1, (s.heap.update a (Obj.mapSeq fun _ => (#[] : Array Value))).get? a = some (seqObj "list" #[] e1) := ⟨_, get?_update_seq ho fun _ => #[]⟩); all_goals (unfold G9; clear G9))
  rw [list_sort_plain]
  refine wpAny_bind (listItems_at ho rfl ?_)
  refine wpAny_bind (listUpdate_at ho rfl ?_ (by rw [List.size_toArray, sizeLine_eq]; (first | lia | omega)) (Nat.zero_le _))
  refine wpAny_bind (seqEpoch_at ho1 rfl ?_)
  refine wpAny_bind (wpAny_newTuple ?_ (by show vs.length ≤ _; rw [sizeLine_eq]; (first | lia | omega)))
  refine wpAny_bind (wpAny_newList ?_ (Nat.zero_le _))
  refine wpAny_holding ?_
  show wpAny (model prog w) A _ P _ { s with heap := ((s.heap.update a (Obj.mapSeq fun _ => (#[] : Array Value))).push (seqObj "tuple" vs.toArray 0)).push (seqObj "list" #[] 0) }
  generalize hH : ((s.heap.update a (Obj.mapSeq fun _ => (#[] : Array Value))).push (seqObj "tuple" vs.toArray 0)).push (seqObj "list" #[] 0) = H
  have keep : ∀ b o, b ≠ a → s.heap.get? b = some o → H.get? b = some o := fun b o hb q => by
    rw [← hH]
    exact Heap.get?_push_of_some _ (Heap.get?_push_of_some _ ((s1.2 b hb).trans q))
  have hoH : H.get? a = some (seqObj "list" #[] e1) := by
    rw [← hH]
    exact Heap.get?_push_of_some _ (Heap.get?_push_of_some _ ho1)
  have kt : Kt s.heap H := fun b us k q => keep b _ (by
    intro h9
    first | rw [h9, ho] at q | rw [← h9, ho] at q
    simp at q) q
  have noP : ∀ l : List (Int × Int), noLs (l.map prD) = true := fun l => noLs_of fun d hd => by
    focus ((refine let G9 : Prop := _; (?_ : G9)); (obtain ⟨q, _, rfl⟩ := List.mem_map.mp hd); all_goals (unfold G9; clear G9))
    rfl
  have raH := HA.monoT kt (noP _) ra
  dsimp only
  -- the end
  have fin : ∀ (st' : SortSt) (ws : List Value) (ps' : List (Int × Int)), (arrOf st').map (·.2) = List.toArray ws → failedOf st' = none → ps'.Perm ps → ps'.Pairwise (fun x y => prK x ≤ prK y) → HA H ws (ps'.map prD) →
      wpAny (model prog w) A (do
        let touched := (← seqEpoch a) != e1
        Builtin.List.listUpdate (.ref a) fun _ => (arrOf st').map (·.2)
        if let some e := failedOf st' then rule "list.sort.comparison-raised"; throw e
        if touched then rule "list.sort.modified"; raiseError "ValueError" "list modified during sort"
        ret .none) P NoE { s with heap := H } := by
    intro st' ws ps' hout hf h1 h2 h3
    have hsz : ws.length = ps.length := by rw [h3.length, List.length_map, h1.length_eq]
    have s2 := Heap.SameBut.update H a (Obj.mapSeq fun _ => List.toArray ws)
    focus ((refine let G9 : Prop := _; (?_ : G9)); (obtain ⟨c2, hc2⟩ : ∃ c2, (H.update a (Obj.mapSeq fun _ => List.toArray ws)).get? a = some (seqObj "list" (List.toArray ws) c2) := ⟨_, get?_update_seq hoH fun _ => List.toArray ws⟩); all_goals (unfold G9; clear G9))
    rw [hout]
    refine wpAny_bind (seqEpoch_at hoH rfl ?_)
    refine wpAny_bind (listUpdate_at hoH rfl ?_ (Nat.zero_le _) (by rw [List.size_toArray, sizeLine_eq]; (first | lia | omega)))
    rw [hf]
    simp only [bne_self_eq_false, Bool.false_eq_true, if_false]
    refine wpAny_pure (h ws ps' _ c2 h1 h2 (fun b o hb q => (s2.2 b hb).trans (keep b o hb q)) hc2 (HA.monoT (fun b us k q => (s2.2 b ?_).trans q) (noP _) h3))
    intro h9
    first | rw [h9, hoH] at q | rw [← h9, hoH] at q
    simp at q
  by_cases h2 : vs.toArray.size < 2
  · rw [if_pos h2, if_pos h2]
    refine wpAny_bind (wpAny_pure ?_)
    rw [StateT.run_pure]
    refine wpAny_bind (wpAny_pure ?_)
    dsimp only
    refine fin (SortSt.mk' general' (vs.toArray.zip vs.toArray) #[] 7 none) vs ps ?_ rfl (.refl _) ?_ raH
    · show (vs.toArray.zip vs.toArray).map (·.2) = _
      apply Array.toList_inj.mp
      simp [List.map_snd_zip]
    · rw [List.size_toArray, hlen] at h2
      match ps, h2 with
      | [], _ => exact .nil
      | [q], _ => exact List.pairwise_singleton _ _
  · rw [if_neg h2, if_neg h2]
    rw [List.size_toArray] at h2
    focus ((refine let G9 : Prop := _; (?_ : G9)); (obtain ⟨fs, kt', hfl, hfi⟩ := pr_tups raH); all_goals (unfold G9; clear G9))
    refine wpAny_bind (kat_kind (s := { s with heap := H }) kt' (by (first | lia | omega)) (T := .type "int") (fun v hv => by
      focus ((refine let G9 : Prop := _; (?_ : G9)); (obtain ⟨i, t, rfl⟩ := hfi v hv); all_goals (unfold G9; clear G9))
      exact Looks.of_pure rfl) (by decide) ?_)
    have hT : (Value.type "int" != Value.type "tuple") = true := by decide
    rw [hT]
    have key := fun i => prK (ps.getD i (0, 0))
    refine wpAny_bind (wpAny_mono (kat_run (Q := fun st' s' => s' = { s with heap := H } ∧ ∃ p : Array Nat, arrOf st' = p.map (kas_item (vs.toArray.zip vs.toArray)) ∧ failedOf st' = none ∧ Bs ps.length p ∧ SrtTo (fun i => prK (ps.getD i (0, 0))) p ps.length)
      (G := fun p s' => s' = { s with heap := H } ∧ Bs ps.length p ∧ SrtTo (fun i => prK (ps.getD i (0, 0))) p ps.length) rfl (by (first | lia | omega)) (by (first | lia | omega)) (fun p' st' s' a1 a2 a3 a4 => ⟨a4.1, p', a2, a3, a4.2.1, a4.2.2⟩) ?_) ?_ fun _ _ e => e)
    · rw [hlen]
      exact sort_ (pr_asks (κ := tuples' true) (s := { s with heap := H }) raH hp) (by (first | lia | omega)) fun p' B hs => ⟨rfl, B, hs⟩
    · rintro ⟨⟨⟩, st'⟩ s' ⟨rfl, p, har, hf, B, hs⟩
      dsimp only
      have hidx : p.toList.Perm (List.range ps.length) := by
        have := Array.perm_iff_toList_perm.mp B.perm
        simpa using this
      refine fin st' (p.toList.map fun i => vs.getD i Value.none) (p.toList.map fun i => ps.getD i (0, 0)) (kat_snds rfl har) hf ?_ ?_ ?_
      · have := hidx.map (fun i => ps.getD i (0, 0))
        rwa [perm_range] at this
      · rw [List.pairwise_map, List.pairwise_iff_getElem]
        intro i j hi hj hij
        have hj' : j < ps.length := by have := B.size; simp at hj; (first | lia | omega)
        have q := hs i j (Nat.le_of_lt hij) hj'
        rw [(B.at (key := fun i => prK (ps.getD i (0, 0))) (by (first | lia | omega))).2, (B.at (key := fun i => prK (ps.getD i (0, 0))) hj').2] at q
        have e1 : p.getD i 0 = p.toList[i] := by have := B.size; simp [Array.getD, show i < p.size by (first | lia | omega)]
        have e2 : p.getD j 0 = p.toList[j] := by have := B.size; simp [Array.getD, show j < p.size by (first | lia | omega)]
        rw [e1, e2] at q
        exact q
      · have hin : ∀ i ∈ p.toList, i < ps.length := fun i hi => by
          have := hidx.mem_iff.mp hi
          simpa using this
        clear har hs hidx B hf
        generalize p.toList = l at hin
        induction l with
        | nil => exact .nil
        | cons i l ih => exact .cons (raH.getD (hin i (.head _))) (ih fun j hj => hin j (.tail _ hj))

theorem sorted_call {l : Addr} {vs : List Value} {n : Nat} {ps out : List (Int × Int)} (ho : s.heap.get? l = some (listOf vs.toArray n)) (ra : HA s.heap vs (ps.map prD)) (hp : ∀ q ∈ ps, PrOk q) (h64 : ps.length < 64)
    (hperm : out.Perm ps) (hsort : out.Pairwise (fun x y => prK x ≤ prK y)) :
    wpAny (model prog w) A (call (.builtin "sorted") [.ref l]) (fun v s' => Grew s s' ∧ ∃ a vs n, v = .ref a ∧ s'.heap.get? a = some (listOf (List.toArray vs) n) ∧ HA s'.heap vs (out.map prD) ∧ s.heap.get? a = none) NoE s := by
  have hlen : vs.length = ps.length := by rw [ra.length, List.length_map]
  have hl : s.heap.IsList l vs.toArray := ⟨_, ho, rfl, n, rfl⟩
  try (refine (let Q9 : _ → Shared → Prop := _; (?_ : wpAny _ _ _ Q9 _ _)))
  refine Calls.call_function_entry kind_sorted plain_sorted entry_sorted (args_sorted1 _) ?_
  unfold Builtin.«sorted»
  try (refine (let Q9 : _ → Shared → Prop := _; (?_ : wpAny _ _ _ Q9 _ _)))
  refine wpAny_bind (m := checkCount "sorted" 1 1 _) (wpAny_pure ?_)
  try (refine (let Q9 : _ → Shared → Prop := _; (?_ : wpAny _ _ _ Q9 _ _)))
  refine wpAny_bind (collect_list hl ?_ (by rw [sizeLine_eq]; (first | lia | omega)))
  try (refine (let Q9 : _ → Shared → Prop := _; (?_ : wpAny _ _ _ Q9 _ _)))
  refine wpAny_bind (wpAny_newList ?_ (by rw [sizeLine_eq]; (first | lia | omega)))
  have hsz : ((s.heap.push (seqObj "list" #[] 0)).update s.heap.objs.size (Obj.mapSeq (· ++ vs.toArray))).objs.size = s.heap.objs.size + 1 := by
    rw [Heap.size_update, size_push']
  have hoL : (((s.heap.push (seqObj "list" #[] 0)).update s.heap.objs.size (Obj.mapSeq (· ++ vs.toArray))).push (seqObj "list" vs.toArray 0)).get? (s.heap.objs.size + 1) = some (seqObj "list" vs.toArray 0) := by
    rw [← hsz]; exact Heap.get?_push_size _ rfl
  have keep : Kp s.heap (((s.heap.push (seqObj "list" #[] 0)).update s.heap.objs.size (Obj.mapSeq (· ++ vs.toArray))).push (seqObj "list" vs.toArray 0)) := fun b o q => by
    have hlt : b < s.heap.objs.size := Heap.lt_size q
    rw [Heap.get?_push_ne _ _ _ (by rw [hsz]; exact Nat.ne_of_lt (Nat.lt_succ_of_lt hlt)), Heap.get?_update_ne _ _ _ _ (Nat.ne_of_lt hlt), Heap.get?_push_ne _ _ _ (Nat.ne_of_lt hlt)]
    exact q
  have fresh : s.heap.get? (s.heap.objs.size + 1) = none := by
    cases q : s.heap.get? (s.heap.objs.size + 1) with
    | none => rfl
    | some o => exact absurd (Heap.lt_size q) (Nat.not_lt.mpr (Nat.le_succ _))
  show wpAny _ _ _ _ _ { s with heap := ((s.heap.push (seqObj "list" #[] 0)).update s.heap.objs.size (Obj.mapSeq (· ++ vs.toArray))).push (seqObj "list" vs.toArray 0) }
  rw [hsz]
  try (refine (let Q9 : _ → Shared → Prop := _; (?_ : wpAny _ _ _ Q9 _ _)))
  refine wpAny_bind (wpAny_holding (wpAny_call_entry slot_list_sort ⟨_, hoL, rfl⟩ entry_list_sort ?_ (args_list_sort _)))
  try (refine (let Q9 : _ → Shared → Prop := _; (?_ : wpAny _ _ _ Q9 _ _)))
  refine sort_list (s := { s with heap := ((s.heap.push (seqObj "list" #[] 0)).update s.heap.objs.size (Obj.mapSeq (· ++ vs.toArray))).push (seqObj "list" vs.toArray 0) }) hoL (ra.kp keep) hp h64 fun ws ps' h' c h1 h2 h3 h4 h5 => ?_
  refine ⟨_, rfl, wpAny_pure ⟨_, rfl, ⟨⟨h', s.toks, rfl⟩, fun b o q => h3 b o (Nat.ne_of_lt (Nat.lt_succ_of_lt (Heap.lt_size q))) (keep b o q)⟩, _, ws, c, rfl, h4, ?_, fresh⟩⟩
  have hin : ∀ q ∈ ps', PrOk q := fun q hq => hp q (h1.mem_iff.mp hq)
  have e : ps' = out := by
    try (refine (let Q9 : _ → Shared → Prop := _; (?_ : wpAny _ _ _ Q9 _ _)))
    refine sorted_unique (le := fun x y => prK x ≤ prK y) (fun a ha b hb h1 h2 => ?_) (h1.trans hperm.symm) h2 hsort
    focus ((refine let G9 : Prop := _; (?_ : G9)); (obtain ⟨a1, a2⟩ := a); all_goals (unfold G9; clear G9))
    focus ((refine let G9 : Prop := _; (?_ : G9)); (obtain ⟨b1, b2⟩ := b); all_goals (unfold G9; clear G9))
    focus ((refine let G9 : Prop := _; (?_ : G9)); (obtain ⟨ha1, ha2⟩ := hin _ ha); all_goals (unfold G9; clear G9))
    focus ((refine let G9 : Prop := _; (?_ : G9)); (obtain ⟨hb1, hb2⟩ := hin _ hb); all_goals (unfold G9; clear G9))
    simp only [prK] at h1 h2
    simp only at ha1 ha2 hb1 hb2
    have e1 : a1 = b1 := by (first | lia | omega)
    have e2 : a2 = b2 := by (first | lia | omega)
    subst e1 e2
    rfl
  rw [← e]
  exact h5
end
end Mine
end
-- Lg8
section
open PySem PySem.W PyProof.Rows PySem.Calls PySem.Spec
namespace Mine
theorem HA.replicate {h : Heap} {v : Value} {d : PyData} (r : HR h v d) : ∀ n, HA h (List.replicate n v) (List.replicate n d)
  | 0 => .nil
  | n + 1 => .cons r (HA.replicate r n)
section
variable {prog : Program} {w : World} {mg mb : Str → Option Value} {A : Around} {env : Env} {h₀ : Heap} {ρ : Ev}

theorem fresh_back {s s1 : Shared} {a : Addr} (G : Grew s s1) (q : s1.heap.get? a = none) : s.heap.get? a = none := by
  cases hq : s.heap.get? a with
  | none => rfl
  | some o => rw [G.kp _ _ hq] at q; cases q

/-- a builtin's call -/
noncomputable def Bi (prog : Program) (w : World) (A : Around) (f : Value) (args : List PyData) (d : PyData) : Prop :=
  ∀ (s : Shared) (vals : List Value), HA s.heap vals args → wpAny (model prog w) A (call f vals) (fun v s' => Grew s s' ∧ HR s'.heap v d) NoE s
noncomputable def BiF (prog : Program) (w : World) (A : Around) (f : Value) (args : List PyData) (ds : List PyData) : Prop :=
  ∀ (s : Shared) (vals : List Value), HA s.heap vals args → wpAny (model prog w) A (call f vals) (fun v s' => Grew s s' ∧ ∃ a vs n, v = .ref a ∧ s'.heap.get? a = some (listOf (List.toArray vs) n) ∧ HA s'.heap vs ds ∧ s.heap.get? a = none) NoE s

theorem bi_at {x : Str} {p pos : Pos} {e1 : Expr} {es : List Expr} {args : List PyData} {f : Value} {Q : Value → Shared → Prop}
    (G : Gd w mg mb h₀) (hl : EvL (model prog w) A env h₀ ρ (spliced (backTo pos (starEach (e1 :: es) env))) args)
    (e : nsIn (hd.heap_39 w.params) mainGlobals x = some none) (hv : bootBuiltins x = some f) (hf : (∃ id, f = .builtin id) ∨ ∃ T, f = .type T) (hn : x ≠ "__name__")
    (hk : env.scope.kind = .function) (hx : env.kindOf x = some .globalImplicit) (hg : env.globals = mainGlobals) (hb : env.builtins = builtinsNs) (hd : (x == ("__debug__" : Str)) = false)
    (he : starEach (e1 :: es) env = (false, eval e1 env) :: starEach es env) (hplain : (backTo pos (starEach es env)).any (·.1) = false)
    (hc : eval (.Call (.Name x p) (e1 :: es) [] pos) env = (do callWith pos (← eval (.Name x p) env) [] (backTo pos (starEach (e1 :: es) env)) (backToKw pos (keywordEach [] env))))
    {m : Str → Option Value} {s : Shared} (F : Frm env h₀ s.heap m) (R : EnvR h₀ s.heap m ρ)
    (h : ∀ s1 vals, Grew s s1 → HA s1.heap vals args → wpAny (model prog w) A (call f vals) Q NoE s1) :
    wpAny (model prog w) A (eval (.Call (.Name x p) (e1 :: es) [] pos) env) Q NoE s := by
  refine Call_ ?_ hc
  have Gs : Gd w mg mb s.heap := G.kp F.keep
  refine Name_function_global hk hx (loadGlobal_builtin (by rw [hg]; exact Gs.T.g) (mg_none_of G.K G.T.g e) (by rw [hb]; exact Gs.T.b) ((G.T.builtins x hn).trans hv) ?_) hd
  have X : wpAny (model prog w) A (spliced (backTo pos (starEach (e1 :: es) env))) (fun vs s' => wpAny (model prog w) A (call f vs) Q NoE s') NoE s := wmono2 (hl m s F R) fun vs s1 G1 ra => h s1 vs G1 ra
  rw [he] at X ⊢
  show wpAny _ _ (callWith pos f [] ((false, eval e1 env) :: backTo pos (starEach es env)) []) _ _ _
  rcases hf with ⟨id, rfl⟩ | ⟨T, rfl⟩
  · refine callWith_builtin ?_ (evalArgs_plain X)
    simpa using hplain
  · refine PySem.callWith_type ?_ (evalArgs_plain X)
    simpa using hplain

theorem d_builtin {x : Str} {p pos : Pos} {e1 : Expr} {es : List Expr} {args : List PyData} {d : PyData} {f : Value}
    (G : Gd w mg mb h₀) (hl : EvL (model prog w) A env h₀ ρ (spliced (backTo pos (starEach (e1 :: es) env))) args) (ho : Bi prog w A f args d)
    (e : nsIn (hd.heap_39 w.params) mainGlobals x = some none) (hv : bootBuiltins x = some f) (hf : (∃ id, f = .builtin id) ∨ ∃ T, f = .type T) (hk : env.scope.kind = .function) (hx : env.kindOf x = some .globalImplicit) (hg : env.globals = mainGlobals) (hb : env.builtins = builtinsNs) (hn : x ≠ "__name__" := by decide) (hd : (x == ("__debug__" : Str)) = false := by decide)
    (he : starEach (e1 :: es) env = (false, eval e1 env) :: starEach es env := by rfl) (hplain : (backTo pos (starEach es env)).any (·.1) = false := by rfl)
    (hc : eval (.Call (.Name x p) (e1 :: es) [] pos) env = (do callWith pos (← eval (.Name x p) env) [] (backTo pos (starEach (e1 :: es) env)) (backToKw pos (keywordEach [] env))) := by rfl) :
    EvD (model prog w) A env h₀ ρ (eval (.Call (.Name x p) (e1 :: es) [] pos) env) d := fun m s F R =>
  bi_at G hl e hv hf hn hk hx hg hb hd he hplain hc F R fun s1 vals G1 ra => wmono2 (ho s1 vals ra) fun v s2 G2 r => ⟨G1.trans G2, r⟩
theorem f_builtin {x : Str} {p pos : Pos} {e1 : Expr} {es : List Expr} {args : List PyData} {ds : List PyData} {f : Value}
    (G : Gd w mg mb h₀) (hl : EvL (model prog w) A env h₀ ρ (spliced (backTo pos (starEach (e1 :: es) env))) args) (ho : BiF prog w A f args ds)
    (e : nsIn (hd.heap_39 w.params) mainGlobals x = some none) (hv : bootBuiltins x = some f) (hf : (∃ id, f = .builtin id) ∨ ∃ T, f = .type T) (hk : env.scope.kind = .function) (hx : env.kindOf x = some .globalImplicit) (hg : env.globals = mainGlobals) (hb : env.builtins = builtinsNs) (hn : x ≠ "__name__" := by decide) (hd : (x == ("__debug__" : Str)) = false := by decide)
    (he : starEach (e1 :: es) env = (false, eval e1 env) :: starEach es env := by rfl) (hplain : (backTo pos (starEach es env)).any (·.1) = false := by rfl)
    (hc : eval (.Call (.Name x p) (e1 :: es) [] pos) env = (do callWith pos (← eval (.Name x p) env) [] (backTo pos (starEach (e1 :: es) env)) (backToKw pos (keywordEach [] env))) := by rfl) :
    EvF (model prog w) A env h₀ ρ (eval (.Call (.Name x p) (e1 :: es) [] pos) env) ds := fun m s F R =>
  bi_at G hl e hv hf hn hk hx hg hb hd he hplain hc F R fun s1 vals G1 ra => wmono (ho s1 vals ra) fun v s2 ⟨G2, a, vs, n, ev, o, r, q⟩ => ⟨G1.trans G2, a, vs, n, ev, o, r, fresh_back G1 q⟩

theorem d_len {p pos : Pos} {e1 : Expr} {ds : List PyData} (G : Gd w mg mb h₀) (h : EvD (model prog w) A env h₀ ρ (eval e1 env) (.list ds)) (hz : ds.length ≤ 100000)
    (e : nsIn (hd.heap_39 w.params) mainGlobals (Str.ofString "len") = some none) (hk : env.scope.kind = .function) (hx : env.kindOf (Str.ofString "len") = some .globalImplicit) (hg : env.globals = mainGlobals) (hb : env.builtins = builtinsNs)
    (he : starEach [e1] env = (false, eval e1 env) :: starEach [] env := by rfl)
    (hc : eval (.Call (.Name (Str.ofString "len") p) [e1] [] pos) env = (do callWith pos (← eval (.Name (Str.ofString "len") p) env) [] (backTo pos (starEach [e1] env)) (backToKw pos (keywordEach [] env))) := by rfl) :
    EvD (model prog w) A env h₀ ρ (eval (.Call (.Name (Str.ofString "len") p) [e1] [] pos) env) (.int ds.length) :=
  d_builtin G (l_cons h l_nil he) (fun s vals ra => by
    cases ra with
    | cons r1 ra =>
      cases ra
      focus ((refine let G9 : Prop := _; (?_ : G9)); (obtain ⟨a, vs, n, rfl, ho, r⟩ := r1.list_inv); all_goals (unfold G9; clear G9))
      refine call_len_list ⟨_, ho, rfl, n, rfl⟩ (by rw [List.size_toArray, r.length]; (first | lia | omega)) ⟨.tok _ _, ?_⟩
      rw [List.size_toArray, r.length]
      exact .int _ _) e boot_len (.inl ⟨_, rfl⟩) hk hx hg hb (by decide) (by decide) he (by rfl) hc
theorem d_min {p pos : Pos} {e1 e2 : Expr} {x y : Int} (G : Gd w mg mb h₀) (hh : A.handled = none) (h1 : EvD (model prog w) A env h₀ ρ (eval e1 env) (.int x)) (h2 : EvD (model prog w) A env h₀ ρ (eval e2 env) (.int y))
    (e : nsIn (hd.heap_39 w.params) mainGlobals (Str.ofString "min") = some none) (hk : env.scope.kind = .function) (hx : env.kindOf (Str.ofString "min") = some .globalImplicit) (hg : env.globals = mainGlobals) (hb : env.builtins = builtinsNs)
    (he : starEach [e1, e2] env = (false, eval e1 env) :: starEach [e2] env := by rfl) (he2 : starEach [e2] env = (false, eval e2 env) :: starEach [] env := by rfl)
    (hc : eval (.Call (.Name (Str.ofString "min") p) [e1, e2] [] pos) env = (do callWith pos (← eval (.Name (Str.ofString "min") p) env) [] (backTo pos (starEach [e1, e2] env)) (backToKw pos (keywordEach [] env))) := by rfl) :
    EvD (model prog w) A env h₀ ρ (eval (.Call (.Name (Str.ofString "min") p) [e1, e2] [] pos) env) (.int (if y < x then y else x)) :=
  d_builtin G (l_cons h1 (l_cons h2 l_nil he2) he) (fun s vals ra => by
    cases ra with
    | cons r1 ra =>
      cases ra with
      | cons r2 ra =>
        cases ra
        focus ((refine let G9 : Prop := _; (?_ : G9)); (obtain ⟨t, rfl⟩ := r1.int_inv); all_goals (unfold G9; clear G9))
        focus ((refine let G9 : Prop := _; (?_ : G9)); (obtain ⟨u, rfl⟩ := r2.int_inv); all_goals (unfold G9; clear G9))
        refine min_two_ints hh fun h' tk k => ⟨.mk' k, ?_⟩
        split <;> exact .int _ _) e boot_min (.inl ⟨_, rfl⟩) hk hx hg hb (by decide) (by decide) he (by rw [he2]; rfl) hc
theorem d_abs {p pos : Pos} {e1 : Expr} {x : Int} (G : Gd w mg mb h₀) (h : EvD (model prog w) A env h₀ ρ (eval e1 env) (.int x))
    (e : nsIn (hd.heap_39 w.params) mainGlobals (Str.ofString "abs") = some none) (hk : env.scope.kind = .function) (hx : env.kindOf (Str.ofString "abs") = some .globalImplicit) (hg : env.globals = mainGlobals) (hb : env.builtins = builtinsNs)
    (he : starEach [e1] env = (false, eval e1 env) :: starEach [] env := by rfl)
    (hc : eval (.Call (.Name (Str.ofString "abs") p) [e1] [] pos) env = (do callWith pos (← eval (.Name (Str.ofString "abs") p) env) [] (backTo pos (starEach [e1] env)) (backToKw pos (keywordEach [] env))) := by rfl) :
    EvD (model prog w) A env h₀ ρ (eval (.Call (.Name (Str.ofString "abs") p) [e1] [] pos) env) (.int (if x < 0 then -x else x)) :=
  d_builtin G (l_cons h l_nil he) (fun s vals ra => by
    cases ra with
    | cons r1 ra =>
      cases ra
      focus ((refine let G9 : Prop := _; (?_ : G9)); (obtain ⟨t, rfl⟩ := r1.int_inv); all_goals (unfold G9; clear G9))
      exact call_abs_int fun u tk => ⟨.tok _ _, .int _ _⟩) e boot_abs (.inl ⟨_, rfl⟩) hk hx hg hb (by decide) (by decide) he (by rfl) hc
theorem d_toint {p pos : Pos} {e1 : Expr} {x : Int} (G : Gd w mg mb h₀) (h : EvD (model prog w) A env h₀ ρ (eval e1 env) (.int x))
    (e : nsIn (hd.heap_39 w.params) mainGlobals (Str.ofString "int") = some none) (hk : env.scope.kind = .function) (hx : env.kindOf (Str.ofString "int") = some .globalImplicit) (hg : env.globals = mainGlobals) (hb : env.builtins = builtinsNs)
    (he : starEach [e1] env = (false, eval e1 env) :: starEach [] env := by rfl)
    (hc : eval (.Call (.Name (Str.ofString "int") p) [e1] [] pos) env = (do callWith pos (← eval (.Name (Str.ofString "int") p) env) [] (backTo pos (starEach [e1] env)) (backToKw pos (keywordEach [] env))) := by rfl) :
    EvD (model prog w) A env h₀ ρ (eval (.Call (.Name (Str.ofString "int") p) [e1] [] pos) env) (.int x) :=
  d_builtin G (l_cons h l_nil he) (fun s vals ra => by
    cases ra with
    | cons r1 ra =>
      cases ra
      focus ((refine let G9 : Prop := _; (?_ : G9)); (obtain ⟨t, rfl⟩ := r1.int_inv); all_goals (unfold G9; clear G9))
      exact PySem.call_int_int ⟨.refl _, .int _ _⟩) e PyProof.Rows.boot_int (.inr ⟨_, rfl⟩) hk hx hg hb (by decide) (by decide) he (by rfl) hc
theorem f_sorted {p pos : Pos} {e1 : Expr} {ps out : List (Int × Int)} (G : Gd w mg mb h₀) (h : EvD (model prog w) A env h₀ ρ (eval e1 env) (.list (ps.map prD)))
    (hp : ∀ q ∈ ps, PrOk q) (h64 : ps.length < 64) (hperm : out.Perm ps) (hsort : out.Pairwise (fun x y => prK x ≤ prK y))
    (e : nsIn (hd.heap_39 w.params) mainGlobals (Str.ofString "sorted") = some none) (hk : env.scope.kind = .function) (hx : env.kindOf (Str.ofString "sorted") = some .globalImplicit) (hg : env.globals = mainGlobals) (hb : env.builtins = builtinsNs)
    (he : starEach [e1] env = (false, eval e1 env) :: starEach [] env := by rfl)
    (hc : eval (.Call (.Name (Str.ofString "sorted") p) [e1] [] pos) env = (do callWith pos (← eval (.Name (Str.ofString "sorted") p) env) [] (backTo pos (starEach [e1] env)) (backToKw pos (keywordEach [] env))) := by rfl) :
    EvF (model prog w) A env h₀ ρ (eval (.Call (.Name (Str.ofString "sorted") p) [e1] [] pos) env) (out.map prD) :=
  f_builtin G (l_cons h l_nil he) (fun s vals ra => by
    cases ra with
    | cons r1 ra =>
      cases ra
      focus ((refine let G9 : Prop := _; (?_ : G9)); (obtain ⟨a, vs, n, rfl, ho, r⟩ := r1.list_inv); all_goals (unfold G9; clear G9))
      exact sorted_call ho r hp h64 hperm hsort) e boot_sorted (.inl ⟨_, rfl⟩) hk hx hg hb (by decide) (by decide) he (by rfl) hc

/-- two lists, one behind the other -/
theorem f_cat {l r : Expr} {pos : Pos} {ds es : List PyData} (hl : EvD (model prog w) A env h₀ ρ (eval l env) (.list ds)) (hr : EvD (model prog w) A env h₀ ρ (eval r env) (.list es)) (hz : ds.length + es.length ≤ 1000) :
    EvF (model prog w) A env h₀ ρ (eval (.BinOp l .Add r pos) env) (ds ++ es) := f_bin hl hr fun s v u r1 r2 => by
  focus ((refine let G9 : Prop := _; (?_ : G9)); (obtain ⟨a, vs, n, rfl, ho, ra⟩ := r1.list_inv); all_goals (unfold G9; clear G9))
  focus ((refine let G9 : Prop := _; (?_ : G9)); (obtain ⟨b, us, k, rfl, ho2, rb⟩ := r2.list_inv); all_goals (unfold G9; clear G9))
  refine PySem.P.add_list ho ho2 ⟨.mk'' (.push _ _), _, vs ++ us, 0, rfl, ?_, (ra.append rb).kp (.push _ _), not_size⟩ (by rw [List.size_toArray, List.size_toArray, ra.length, rb.length, sizeLine_eq]; (first | lia | omega))
  have := Heap.get?_push_size s.heap (o := { cls := .type "list", data := .seq (vs.toArray ++ us.toArray) }) rfl
  rw [this]
  simp
theorem mul_at {s : Shared} {a : Addr} {vs : List Value} {n : Nat} {x : Int} {t : Tok} {Q : Value → Shared → Prop} (ho : s.heap.get? a = some (listOf vs.toArray n)) (hx : 0 ≤ x) (hx2 : x ≤ 1000) (hsz : vs.toArray.size * x.toNat ≤ 2 ^ 24)
    (h : Q (.ref s.heap.objs.size) { s with heap := s.heap.push { cls := Value.type "list", data := Data.seq (List.replicate x.toNat vs).flatten.toArray } }) : wpAny (model prog w) A (binaryOp .Mult (.ref a) (.int x t)) Q NoE s := by
  refine wpAny_binaryOp_repeat_ref (T := "list") (U := "int") (by decide) ⟨_, ho, rfl⟩ (fun s' => typeIs_int s' x t) noFill_list_mul PySem.F.fills_int_mul PySem.F.slot_int_rmul repeat_list PySem.F.slot_int_index.lookup
    (call_meets PySem.F.slot_int_rmul (typeIs_int s x t) PySem.F.entry_int_rmul (PySem.F.args_int_rmul_2 _ _) (lm_int_rmul_list_any x t a vs.toArray n _ _)
      ⟨ho, rfl, ⟨_, ho, rfl⟩, call_meets PySem.F.slot_list_mul ⟨_, ho, rfl⟩ PySem.F.entry_list_mul (PySem.F.args_list_mul_2 _ _)
        (lm_list_mul_any a vs.toArray n _ _ x t (by simp [Builtin.List.listFitsIndex]; (first | lia | omega)) (by (first | lia | omega)) (by simp [Builtin.List.listTooLong, sizeLine]; simpa using hsz))
        ⟨ho, ?_⟩⟩)
  rw [listMul_foldl_if]
  exact h
set_option tactic.hygienic true in
/-- a list of one, many times -/
theorem f_many {l r : Expr} {pos : Pos} {d : PyData} {k : Nat} (hl : EvD (model prog w) A env h₀ ρ (eval l env) (.list [d])) (hr : EvD (model prog w) A env h₀ ρ (eval r env) (.int k)) (hz : k ≤ 1000) :
    EvF (model prog w) A env h₀ ρ (eval (.BinOp l .Mult r pos) env) (List.replicate k d) := f_bin hl hr fun s v u r1 r2 => by
  focus ((refine let G9 : Prop := _; (?_ : G9)); (obtain ⟨a, vs, n, rfl, ho, ra⟩ := r1.list_inv); all_goals (unfold G9; clear G9))
  focus ((refine let G9 : Prop := _; (?_ : G9)); (obtain ⟨t, rfl⟩ := r2.int_inv); all_goals (unfold G9; clear G9))
  cases ra with
  | cons rd ra =>
    cases ra
    rename_i v
    have e : (List.replicate (Int.toNat (k : Int)) [v]).flatten = List.replicate k v := by
      rw [Int.toNat_natCast]
      clear hz hr r2
      induction k with
      | zero => rfl
      | succ k ih => rw [List.replicate_succ, List.flatten_cons, ih]; rfl
    have hsz' : [v].toArray.size * (k : Int).toNat ≤ 2 ^ 24 := by
      rw [Int.toNat_natCast]
      show 1 * k ≤ _
      (first | lia | omega)
    refine mul_at ho (by (first | lia | omega)) (by (first | lia | omega)) hsz' ?_
    rw [e]
    exact ⟨.mk'' (.push _ _), _, List.replicate k v, 0, rfl, Heap.get?_push_size s.heap rfl, HA.replicate (rd.kp (.push _ _)) k, not_size⟩

-- slices
theorem clip_nat {a n : Nat} (h : a ≤ n) : max 0 (min (a : Int) (n : Int)) = a := by (first | lia | omega)
theorem clip_min (b n : Nat) : max 0 (min (b : Int) (n : Int)) = ((min b n : Nat) : Int) := by (first | lia | omega)
theorem f_slice {value lo hi : Expr} {p pos : Pos} {ds : List PyData} {a b : Nat} (hv : EvD (model prog w) A env h₀ ρ (eval value env) (.list ds)) (hl : EvD (model prog w) A env h₀ ρ (eval lo env) (.int a)) (hr : EvD (model prog w) A env h₀ ρ (eval hi env) (.int b))
    (hab : a ≤ b) (hb : b ≤ ds.length) (hz : ds.length ≤ 1000) (ht : ∀ o r, letTemporaryGo value o r = pure () := by intro _ _; rfl) :
    EvF (model prog w) A env h₀ ρ (eval (.Subscript value (.Slice (some lo) (some hi) none p) pos) env) ((ds.drop a).take (b - a)) := fun m s F R => by
  try (refine (let Q9 : _ → Shared → Prop := _; (?_ : wpAny _ _ _ Q9 _ _)))
  refine wpAny_Subscript_list_slice (wmono2 (hv m s F R) fun v s1 G1 r1 => wmono2 (hl m s1 (G1.fr F) (G1.envr R)) fun u s2 G2 r2 => wmono (hr m s2 ((G1.trans G2).fr F) ((G1.trans G2).envr R)) fun z s3 q9 => ?_) ht
  have G3 := q9.1
  have r3 := q9.2
  focus ((refine let G9 : Prop := _; (?_ : G9)); (obtain ⟨l, vs, n, rfl, ho, ra⟩ := (r1.kp (G2.trans G3).kp).list_inv); all_goals (unfold G9; clear G9))
  focus ((refine let G9 : Prop := _; (?_ : G9)); (obtain ⟨t, rfl⟩ := r2.int_inv); all_goals (unfold G9; clear G9))
  focus ((refine let G9 : Prop := _; (?_ : G9)); (obtain ⟨t', rfl⟩ := r3.int_inv); all_goals (unfold G9; clear G9))
  have hlen := ra.length
  have e := kmk_pick_nat vs.toArray (lo := some (a : Int)) (hi := some (b : Int)) (a := a) (b := b) (by
    rw [List.size_toArray, hlen]
    simp only [sliceBounds, Option.getD_none, show (1 : Int) > 0 by decide, if_true]
    rw [if_neg (by (first | lia | omega)), if_neg (by (first | lia | omega))]
    simp only [Prod.mk.injEq, and_true]
    exact ⟨clip_nat (Nat.le_trans hab hb), clip_nat hb⟩)
  refine ⟨l, vs.toArray, some a, some b, rfl, ⟨_, ho, rfl, n, rfl⟩, by rw [List.size_toArray, hlen, sizeLine_eq]; (first | lia | omega), .int _ _, .int _ _, (G1.trans (G2.trans G3)).trans (.mk'' ((Kp.push _ _).trans (.push _ _))), _, (vs.drop a).take (b - a), 0, rfl, ?_,
    ((ra.drop a).take _).kp ((Kp.push _ _).trans (.push _ _)), ?_⟩
  · rw [e]
    have := Heap.get?_push_size (s3.heap.push { cls := .type "slice", data := .fields #[.int a t, .int b t', .none] }) (o := { cls := .type "list", data := .seq (List.take (b - a) (List.drop a vs)).toArray }) rfl
    rw [Heap.size_push] at this
    exact this
  · try (refine (let Q9 : _ → Shared → Prop := _; (?_ : wpAny _ _ _ Q9 _ _)))
    refine fresh_back (G1.trans (G2.trans G3)) ?_
    cases q : s3.heap.get? (s3.heap.objs.size + 1) with
    | none => rfl
    | some o => exact absurd (Heap.lt_size q) (Nat.not_lt.mpr (Nat.le_succ _))
theorem f_slice_to {value hi : Expr} {p pos : Pos} {ds : List PyData} {b : Nat} (hv : EvD (model prog w) A env h₀ ρ (eval value env) (.list ds)) (hr : EvD (model prog w) A env h₀ ρ (eval hi env) (.int b))
    (hz : ds.length ≤ 1000) (ht : ∀ o r, letTemporaryGo value o r = pure () := by intro _ _; rfl) :
    EvF (model prog w) A env h₀ ρ (eval (.Subscript value (.Slice none (some hi) none p) pos) env) (ds.take b) := fun m s F R => by
  try (refine (let Q9 : _ → Shared → Prop := _; (?_ : wpAny _ _ _ Q9 _ _)))
  refine wpAny_Subscript_list_slice (wmono (hv m s F R) fun v s1 q9 => ?_) ht
  have G1 := q9.1
  have r1 := q9.2
  rw [evalPart_none]
  try (refine (let Q9 : _ → Shared → Prop := _; (?_ : wpAny _ _ _ Q9 _ _)))
  refine wpAny_pure (wmono (hr m s1 (G1.fr F) (G1.envr R)) fun z s3 q9 => ?_)
  have G3 := q9.1
  have r3 := q9.2
  focus ((refine let G9 : Prop := _; (?_ : G9)); (obtain ⟨l, vs, n, rfl, ho, ra⟩ := (r1.kp G3.kp).list_inv); all_goals (unfold G9; clear G9))
  focus ((refine let G9 : Prop := _; (?_ : G9)); (obtain ⟨t', rfl⟩ := r3.int_inv); all_goals (unfold G9; clear G9))
  have hlen := ra.length
  have e := kmk_pick_nat vs.toArray (lo := none) (hi := some (b : Int)) (a := 0) (b := min b ds.length) (by
    rw [List.size_toArray, hlen]
    simp only [sliceBounds, Option.getD_none, show (1 : Int) > 0 by decide, if_true]
    rw [if_neg (by (first | lia | omega))]
    simp only [Prod.mk.injEq, and_true]
    exact ⟨rfl, clip_min _ _⟩)
  refine ⟨l, vs.toArray, none, some b, rfl, ⟨_, ho, rfl, n, rfl⟩, by rw [List.size_toArray, hlen, sizeLine_eq]; (first | lia | omega), .none, .int _ _, (G1.trans G3).trans (.mk'' ((Kp.push _ _).trans (.push _ _))), _, vs.take b, 0, rfl, ?_,
    (ra.take _).kp ((Kp.push _ _).trans (.push _ _)), ?_⟩
  · rw [e]
    have := Heap.get?_push_size (s3.heap.push { cls := .type "slice", data := .fields #[.none, .int b t', .none] }) (o := { cls := .type "list", data := .seq (List.take (min b ds.length - 0) (List.drop 0 vs)).toArray }) rfl
    rw [Heap.size_push] at this
    try (refine (let Q9 : _ → Shared → Prop := _; (?_ : wpAny _ _ _ Q9 _ _)))
    refine this.trans ?_
    have e2 : List.take (min b ds.length - 0) (List.drop 0 vs) = vs.take b := by
      rw [List.drop_zero, Nat.sub_zero, ← hlen, kmk_take_min]
    rw [e2]
  · try (refine (let Q9 : _ → Shared → Prop := _; (?_ : wpAny _ _ _ Q9 _ _)))
    refine fresh_back (G1.trans G3) ?_
    cases q : s3.heap.get? (s3.heap.objs.size + 1) with
    | none => rfl
    | some o => exact absurd (Heap.lt_size q) (Nat.not_lt.mpr (Nat.le_succ _))

-- what loops go over
theorem EvF.src {t : Sem Value} {ds : List PyData} (H : EvF (model prog w) A env h₀ ρ t ds) : EvSrc (model prog w) A env h₀ ρ t ds := fun m s F R =>
  wmono (H m s F R) fun v s' ⟨G, a, vs, n, e, o, r, q⟩ => ⟨G, e ▸ .list o r fun ow => by
    focus ((refine let G9 : Prop := _; (?_ : G9)); (obtain ⟨⟨us, k, e'⟩, _⟩ := ow.list R); all_goals (unfold G9; clear G9))
    rw [q] at e'
    cases e'⟩
theorem EvD.src {t : Sem Value} {ds : List PyData} (H : EvD (model prog w) A env h₀ ρ t (.tuple ds)) : EvSrc (model prog w) A env h₀ ρ t ds := fun m s F R =>
  wmono2 (H m s F R) fun v s' G r => by
    focus ((refine let G9 : Prop := _; (?_ : G9)); (obtain ⟨a, vs, n, rfl, ho, ra⟩ := r.tup_inv); all_goals (unfold G9; clear G9))
    refine ⟨G, .tup ho ra fun ow => ?_⟩
    focus ((refine let G9 : Prop := _; (?_ : G9)); (obtain ⟨⟨us, k, e'⟩, _⟩ := ow.list R); all_goals (unfold G9; clear G9))
    rw [G.kp _ _ e'] at ho
    simp at ho
theorem s_base {x : Str} {pos : Pos} {ds : List PyData} (hl : ρ.lookup x = some (.val (.list ds))) (hk : env.scope.kind = .function) (hx : env.kindOf x = some .local) (hd : (x == ("__debug__" : Str)) = false := by decide) :
    EvSrc (model prog w) A env h₀ ρ (eval (.Name x pos) env) ds := fun m s F R => by
  focus ((refine let G9 : Prop := _; (?_ : G9)); (obtain ⟨v, hv, r, q⟩ := R x _ hl); all_goals (unfold G9; clear G9))
  focus ((refine let G9 : Prop := _; (?_ : G9)); (obtain ⟨ml, hn, he⟩ := F.ns); all_goals (unfold G9; clear G9))
  refine wpAny_Name (wpAny_loadName_local hk hx hn ((he x hx).trans hv) ⟨.refl _, ?_⟩) hd
  rcases q with q | q
  · simp [noL] at q
  · focus ((refine let G9 : Prop := _; (?_ : G9)); (obtain ⟨a, vs, n, rfl, ho, ra⟩ := q.list_inv); all_goals (unfold G9; clear G9))
    refine .list (F.keep _ _ ho) (ra.kp F.keep) fun ow => ?_
    focus ((refine let G9 : Prop := _; (?_ : G9)); (obtain ⟨_, e'⟩ := ow.list R); all_goals (unfold G9; clear G9))
    rw [e'] at ho
    cases ho
noncomputable def rangeD (a : Int) (n : Nat) : List PyData := (List.range n).map fun (i : Nat) => .int (a + (i : Int))
theorem s_range {p pos : Pos} {e1 : Expr} {n : Nat} (G : Gd w mg mb h₀) (h : EvD (model prog w) A env h₀ ρ (eval e1 env) (.int n)) (hz : n ≤ 1000)
    (e : nsIn (hd.heap_39 w.params) mainGlobals (Str.ofString "range") = some none) (hk : env.scope.kind = .function) (hx : env.kindOf (Str.ofString "range") = some .globalImplicit) (hg : env.globals = mainGlobals) (hb : env.builtins = builtinsNs)
    (he : starEach [e1] env = (false, eval e1 env) :: starEach [] env := by rfl)
    (hc : eval (.Call (.Name (Str.ofString "range") p) [e1] [] pos) env = (do callWith pos (← eval (.Name (Str.ofString "range") p) env) [] (backTo pos (starEach [e1] env)) (backToKw pos (keywordEach [] env))) := by rfl) :
    EvSrc (model prog w) A env h₀ ρ (eval (.Call (.Name (Str.ofString "range") p) [e1] [] pos) env) (rangeD 0 n) := fun m s F R =>
  bi_at G (l_cons h l_nil he) e boot_range (.inr ⟨_, rfl⟩) (by decide) hk hx hg hb (by decide) he (by rfl) hc F R fun s1 vals G1 ra => by
    cases ra with
    | cons r1 ra =>
      cases ra
      focus ((refine let G9 : Prop := _; (?_ : G9)); (obtain ⟨t, rfl⟩ := r1.int_inv); all_goals (unfold G9; clear G9))
      refine call_range_1 ⟨G1.trans (.mk' (.push _ _)), .range (IsRange.new ..) (small_one (by decide) (by decide) (by (first | lia | omega)) (by (first | lia | omega))) ?_ rfl⟩
      rw [rangeSize_one]
      split <;> (first | lia | omega)
end
end Mine
end
-- Pl1
section
open PySem PySem.W PyProof.Rows PySem.Calls PySem.Spec
namespace Mine
-- prefixes as paths of bits
noncomputable abbrev Path := List Bool
noncomputable def bv : Path → Nat → Nat
  | [], a => a
  | x :: r, a => bv r (2 * a + x.toNat)
noncomputable def adr (b : Nat) (p : Path) : Nat := bv p 0 * 2 ^ (b - p.length)
noncomputable def encD (b : Nat) (p : Path) : PyData := .tuple [.int (adr b p), .int p.length]
noncomputable def paths : Nat → List Path
  | 0 => [[]]
  | n + 1 => [] :: ((paths n).map (false :: ·) ++ (paths n).map (true :: ·))
theorem mem_paths : ∀ {n : Nat} {p : Path}, p.length ≤ n → p ∈ paths n
  | 0, [], _ => .head _
  | 0, _ :: _, h => by simp at h
  | n + 1, [], _ => .head _
  | n + 1, x :: r, h => by
    have := mem_paths (n := n) (p := r) (by simpa using h)
    cases x <;> simp [paths, this]
noncomputable def maskN (l b : Nat) : Nat := (2 ^ l - 1) * 2 ^ (b - l)

noncomputable def chk1 (b : Nat) : Bool := (paths b).all fun p => (paths b).all fun q => decide (p.length ≤ q.length → (Builtin.bitAnd (adr b q) (maskN p.length b) == (adr b p : Int)) = p.isPrefixOf q)
theorem chk1_3 : chk1 3 = true := by decide +kernel
theorem chk1_4 : chk1 4 = true := by decide +kernel
noncomputable def chk2 (b : Nat) : Bool := (paths b).all fun p => decide (p ≠ [] → Builtin.bitAnd (adr b p) (maskN (p.length - 1) b) = (adr b p.dropLast : Int))
theorem chk2_3 : chk2 3 = true := by decide +kernel
theorem chk2_4 : chk2 4 = true := by decide +kernel
noncomputable def chk3 (b : Nat) : Bool := (paths b).all fun p => decide (p.length < b → adr b (p ++ [false]) = adr b p ∧ Builtin.bitOr (adr b p) (2 ^ (b - (p.length + 1)) : Nat) = (adr b (p ++ [true]) : Int))
theorem chk3_3 : chk3 3 = true := by decide +kernel
theorem chk3_4 : chk3 4 = true := by decide +kernel
/-- addresses and lengths tell paths apart; their order -/
noncomputable def chk5 (b : Nat) : Bool := (paths b).all fun p => (paths b).all fun q => decide (adr b p = adr b q → p.length = q.length → p = q)
theorem chk5_3 : chk5 3 = true := by decide +kernel
theorem chk5_4 : chk5 4 = true := by decide +kernel

noncomputable def Bits (b : Nat) : Prop := b = 3 ∨ b = 4
theorem cov_eq {b : Nat} (hb : Bits b) {p q : Path} (hp : p.length ≤ b) (hq : q.length ≤ b) (h : p.length ≤ q.length) : (Builtin.bitAnd (adr b q) (maskN p.length b) == (adr b p : Int)) = p.isPrefixOf q := by
  have : chk1 b = true := by rcases hb with rfl | rfl; exact chk1_3; exact chk1_4
  exact of_decide_eq_true (List.all_eq_true.mp (List.all_eq_true.mp this p (mem_paths hp)) q (mem_paths hq)) h
theorem par_eq {b : Nat} (hb : Bits b) {p : Path} (hp : p.length ≤ b) (h : p ≠ []) : Builtin.bitAnd (adr b p) (maskN (p.length - 1) b) = (adr b p.dropLast : Int) := by
  have : chk2 b = true := by rcases hb with rfl | rfl; exact chk2_3; exact chk2_4
  exact of_decide_eq_true (List.all_eq_true.mp this p (mem_paths hp)) h
theorem half_eq {b : Nat} (hb : Bits b) {p : Path} (h : p.length < b) : adr b (p ++ [false]) = adr b p ∧ Builtin.bitOr (adr b p) (2 ^ (b - (p.length + 1)) : Nat) = (adr b (p ++ [true]) : Int) := by
  have : chk3 b = true := by rcases hb with rfl | rfl; exact chk3_3; exact chk3_4
  exact of_decide_eq_true (List.all_eq_true.mp this p (mem_paths (Nat.le_of_lt h))) h
theorem adr_inj {b : Nat} (hb : Bits b) {p q : Path} (hp : p.length ≤ b) (hq : q.length ≤ b) (h : adr b p = adr b q) (h2 : p.length = q.length) : p = q := by
  have : chk5 b = true := by rcases hb with rfl | rfl; exact chk5_3; exact chk5_4
  exact of_decide_eq_true (List.all_eq_true.mp (List.all_eq_true.mp this p (mem_paths hp)) q (mem_paths hq)) h h2
end Mine
end
-- F1
section
open PySem PySem.W PyProof.Rows PySem.Calls PySem.Spec
namespace Mine
theorem fillX : PySem.Challenge.rw_sz0111_01.Holds → (hd.heap_39 = hd.heap_39) := by
  k_fill
  intros; rfl
theorem d_cast {M : Model} {A : Around} {env : Env} {h₀ : Heap} {ρ : Ev} {t : Sem Value} {d d' : PyData} (h : EvD M A env h₀ ρ t d') (e : d' = d) : EvD M A env h₀ ρ t d := e ▸ h
theorem b_cast {M : Model} {A : Around} {env : Env} {h₀ : Heap} {ρ : Ev} {t : Sem Bool} {d d' : Bool} (h : EvB M A env h₀ ρ t d') (e : d' = d) : EvB M A env h₀ ρ t d := e ▸ h
section
variable {prog : Program} {w : World} {mg mb : Str → Option Value}

theorem pow4 {k : Nat} (h : k ≤ 4) : 1 ≤ 2 ^ k ∧ 2 ^ k ≤ 16 := by
  rcases (by (first | lia | omega) : k = 0 ∨ k = 1 ∨ k = 2 ∨ k = 3 ∨ k = 4) with rfl | rfl | rfl | rfl | rfl <;> decide
theorem powc (k : Nat) : ((2 ^ k : Nat) : Int) = (2 : Int) ^ k := by
  induction k with
  | zero => rfl
  | succ k ih => rw [Nat.pow_succ, Int.pow_succ, Int.natCast_mul, ih]; rfl
theorem powi {i : Int} {k : Nat} (h : i.toNat = k) : (2 : Int) ^ i.toNat = ((2 ^ k : Nat) : Int) := by rw [h, powc]
theorem len_le {b : Nat} (hb : Bits b) : b ≤ 4 := by rcases hb with rfl | rfl <;> decide

theorem fn_mask_of {l b : Nat} (h1 : l ≤ b) (h2 : b ≤ 4) : Fn prog w mg mb (Str.ofString "mask_of") [.int l, .int b] (.int (maskN l b)) 1 := by
  refine Fn.in2 (by k_is) fun A s v1 v2 R G r1 r2 => ?_
  refine enter R G (by k_is) (by k_is) rfl rfl (envR_cons (x := Str.ofString "length") rfl r1 (envR_cons (x := Str.ofString "bits") rfl r2 envR_nil)) rfl rfl rfl (by decide) fun L R => ?_
  refine x_ret (d_cast (d_shl (d_sub (d_shl d_int (d_name rfl rfl rfl) (by (first | lia | omega)) (by (first | lia | omega)) (by decide)) d_int) (d_sub (d_name rfl rfl rfl) (d_name rfl rfl rfl)) (by (first | lia | omega)) (by (first | lia | omega)) ?_) ?_)
  · have := pow4 (k := l) (by (first | lia | omega))
    rw [powi (k := l) (by (first | lia | omega))]
    (first | lia | omega)
  · have := pow4 (k := l) (by (first | lia | omega))
    rw [powi (k := l) (by (first | lia | omega)), powi (k := b - l) (by (first | lia | omega)), Int.one_mul]
    unfold maskN
    rw [Int.natCast_mul, Int.natCast_sub this.1]
    rfl
theorem fn_prefix_at {a : Int} {l b : Nat} (h1 : l ≤ b) (h2 : b ≤ 4) : Fn prog w mg mb (Str.ofString "prefix_at") [.int a, .int l, .int b] (.tuple [.int (Builtin.bitAnd a (maskN l b)), .int l]) 2 := by
  refine Fn.in3 (by k_is) fun A s v1 v2 v3 R G r1 r2 r3 => ?_
  refine enter R G (by k_is) (by k_is) rfl rfl (envR_cons (x := Str.ofString "address") rfl r1 (envR_cons (x := Str.ofString "length") rfl r2 (envR_cons (x := Str.ofString "bits") rfl r3 envR_nil))) rfl rfl rfl (by decide) fun L R => ?_
  refine x_ret (d_tuple (l_cons (d_and (d_name rfl rfl rfl) (d_call G R (by decide) (fn_mask_of h1 h2) (l_cons (d_name rfl rfl rfl) (l_cons (d_name rfl rfl rfl) l_nil)) (by k_is) (by k_is) rfl rfl rfl)) (l_cons (d_name rfl rfl rfl) l_nil)) (Nat.le_of_ble_eq_true rfl))
theorem fn_holds_address {pa a : Int} {l b : Nat} (h1 : l ≤ b) (h2 : b ≤ 4) : Fn prog w mg mb (Str.ofString "holds_address") [.tuple [.int pa, .int l], .int a, .int b] (.bool (Builtin.bitAnd a (maskN l b) == pa)) 2 := by
  refine Fn.in3 (by k_is) fun A s v1 v2 v3 R G r1 r2 r3 => ?_
  refine enter R G (by k_is) (by k_is) rfl rfl (envR_cons (x := Str.ofString "prefix") rfl r1 (envR_cons (x := Str.ofString "address") rfl r2 (envR_cons (x := Str.ofString "bits") rfl r3 envR_nil))) rfl rfl rfl (by decide) fun L R => ?_
  refine x_ret (d_cmp (d_and (d_name rfl rfl rfl) (d_call G R (by decide) (fn_mask_of h1 h2) (l_cons (d_sub_tup (d_name rfl rfl rfl) d_int (by decide) rfl rfl) (l_cons (d_name rfl rfl rfl) l_nil)) (by k_is) (by k_is) rfl rfl rfl)) (d_sub_tup (d_name rfl rfl rfl) d_int (by decide) rfl rfl) o_eqi)
theorem fn_covers {p q : Path} {b : Nat} (hb : Bits b) (hp : p.length ≤ b) (hq : q.length ≤ b) : Fn prog w mg mb (Str.ofString "covers") [encD b p, encD b q, .int b] (.bool (p.isPrefixOf q)) 3 := by
  refine Fn.in3 (by k_is) fun A s v1 v2 v3 R G r1 r2 r3 => ?_
  refine enter R G (by k_is) (by k_is) rfl rfl (envR_cons (x := Str.ofString "one") rfl r1 (envR_cons (x := Str.ofString "other") rfl r2 (envR_cons (x := Str.ofString "bits") rfl r3 envR_nil))) rfl rfl rfl (by decide) fun L R => ?_
  refine x_ret (d_cast (d_and2 (c := (Builtin.bitAnd (adr b q) (maskN p.length b) == (adr b p : Int))) (d_cmp (d_sub_tup (d_name rfl rfl rfl) d_int (by decide) rfl rfl) (d_sub_tup (d_name rfl rfl rfl) d_int (by decide) rfl rfl) o_le) fun h =>
    d_call G R (by decide) (fn_holds_address hp (len_le hb)) (l_cons (d_name rfl rfl rfl) (l_cons (d_sub_tup (d_name rfl rfl rfl) d_int (by decide) rfl rfl) (l_cons (d_name rfl rfl rfl) l_nil))) (by k_is) (by k_is) rfl rfl rfl) ?_)
  congr 1
  by_cases h : p.length ≤ q.length
  · rw [cov_eq hb hp hq h, decide_eq_true (by (first | lia | omega)), Bool.true_and]
  · rw [decide_eq_false (by (first | lia | omega)), Bool.false_and]
    refine (Bool.eq_false_iff.mpr fun h' => h ?_).symm
    exact (List.isPrefixOf_iff_prefix.mp h').length_le
theorem fn_parent_of {p : Path} {b : Nat} (hb : Bits b) (hp : p.length ≤ b) (h : p ≠ []) : Fn prog w mg mb (Str.ofString "parent_of") [encD b p, .int b] (encD b p.dropLast) 3 := by
  refine Fn.in2 (by k_is) fun A s v1 v2 R G r1 r2 => ?_
  refine enter R G (by k_is) (by k_is) rfl rfl (envR_cons (x := Str.ofString "prefix") rfl r1 (envR_cons (x := Str.ofString "bits") rfl r2 envR_nil)) rfl rfl rfl (by decide) fun L R => ?_
  have hl : 0 < p.length := List.length_pos_iff.mpr h
  refine x_ifF (b_cast (b_cmp (d_sub_tup (d_name rfl rfl rfl) d_int (by decide) rfl rfl) d_int o_eqi) ?_) ?_
  · exact beq_eq_false_iff_ne.mpr (by omega)
  · refine x_ret (d_cast (d_call G R (by decide) (fn_prefix_at (a := adr b p) (l := p.length - 1) (by omega) (len_le hb)) (l_cons (d_sub_tup (d_name rfl rfl rfl) d_int (by decide) rfl rfl) (l_cons (d_cast (d_sub (d_sub_tup (d_name rfl rfl rfl) d_int (by decide) rfl rfl) d_int) ?_) (l_cons (d_name rfl rfl rfl) l_nil))) (by k_is) (by k_is) rfl rfl rfl) ?_)
    · congr 1; omega
    · unfold encD
      rw [par_eq hb hp h, List.length_dropLast]
theorem fn_halves_of {p : Path} {b : Nat} (hb : Bits b) (h : p.length < b) : Fn prog w mg mb (Str.ofString "halves_of") [encD b p, .int b] (.tuple [encD b (p ++ [false]), encD b (p ++ [true])]) 3 := by
  refine Fn.in2 (by k_is) fun A s v1 v2 R G r1 r2 => ?_
  refine enter R G (by k_is) (by k_is) rfl rfl (envR_cons (x := Str.ofString "prefix") rfl r1 (envR_cons (x := Str.ofString "bits") rfl r2 envR_nil)) rfl rfl rfl (by decide) fun L R => ?_
  have h4 := len_le hb
  refine x_ifF (b_cast (b_cmp (d_sub_tup (d_name rfl rfl rfl) d_int (by decide) rfl rfl) (d_name rfl rfl rfl) o_eqi) ?_) ?_
  · exact beq_eq_false_iff_ne.mpr (by (first | lia | omega))
  refine x_seq (x_assign (d := .int (p.length + 1 : Nat)) (d_cast (d_add (d_sub_tup (d_name rfl rfl rfl) d_int (by decide) rfl rfl) d_int) rfl) rfl (.loc rfl rfl) rfl) ?_
  refine x_ret (d_cast (d_tuple (l_cons (d_tuple (l_cons (d_sub_tup (d_name rfl rfl rfl) d_int (by decide) rfl rfl) (l_cons (d_name rfl rfl rfl) l_nil)) (Nat.le_of_ble_eq_true rfl))
    (l_cons (d_tuple (l_cons (d_or (d_sub_tup (d_name rfl rfl rfl) d_int (by decide) rfl rfl) (d_shl d_int (d_sub (d_name rfl rfl rfl) (d_name rfl rfl rfl)) (by (first | lia | omega)) (by (first | lia | omega)) (by decide))) (l_cons (d_name rfl rfl rfl) l_nil)) (Nat.le_of_ble_eq_true rfl)) l_nil)) (Nat.le_of_ble_eq_true rfl)) ?_)
  focus ((refine let G9 : Prop := _; (?_ : G9)); (obtain ⟨e1, e2⟩ := half_eq hb h); all_goals (unfold G9; clear G9))
  unfold encD
  rw [powi (k := b - (p.length + 1)) (by (first | lia | omega)), Int.one_mul, e2, ← e1]
  simp
end
end Mine
end
-- F2
section
open PySem PySem.W PyProof.Rows PySem.Calls PySem.Spec
namespace Mine
theorem less_nil {ρ : Ev} : ∀ q ∈ ([] : Ev), ρ.lookup q.1 = some q.2 := fun _ h => nomatch h
theorem less_cons {ρ r : Ev} {x : Str} {e : Ent} (h : ρ.lookup x = some e) (k : ∀ q ∈ r, ρ.lookup q.1 = some q.2) : ∀ q ∈ (x, e) :: r, ρ.lookup q.1 = some q.2 := fun q hq => by
  rcases List.mem_cons.mp hq with rfl | hq
  · exact h
  · exact k q hq
-- bits of addresses
noncomputable def chk6 (b : Nat) : Bool := (paths b).all fun p => (List.range b).all fun i => decide (i < p.length → Builtin.bitAnd (Int.fdiv (adr b p) (2 ^ ((b : Int) - 1 - (i : Int)).toNat)) 1 = ((p.getD i false).toNat : Int))
theorem chk6_3 : chk6 3 = true := by decide +kernel
theorem chk6_4 : chk6 4 = true := by decide +kernel
noncomputable def chk7 (b : Nat) : Bool := (paths b).all fun p => (List.range (b + 1)).all fun l => decide (l ≤ p.length → Int.fdiv (adr b p) (2 ^ ((b : Int) - (l : Int)).toNat) * 2 ^ ((b : Int) - (l : Int)).toNat = (adr b (p.take l) : Int) ∧ Int.natAbs (Int.fdiv (adr b p) (2 ^ ((b : Int) - (l : Int)).toNat)) < 2 ^ 64)
theorem chk7_3 : chk7 3 = true := by decide +kernel
theorem chk7_4 : chk7 4 = true := by decide +kernel
theorem bit_eqI {b : Nat} (hb : Bits b) {p : Path} (hp : p.length ≤ b) {i : Nat} (h : i < p.length) : Builtin.bitAnd (Int.fdiv (adr b p) (2 ^ ((b : Int) - 1 - (i : Int)).toNat)) 1 = ((p.getD i false).toNat : Int) := by
  have : chk6 b = true := by rcases hb with rfl | rfl; exact chk6_3; exact chk6_4
  exact of_decide_eq_true (List.all_eq_true.mp (List.all_eq_true.mp this p (mem_paths hp)) i (by simp; (first | lia | omega))) h
theorem first_eqI {b : Nat} (hb : Bits b) {p : Path} (hp : p.length ≤ b) {l : Nat} (h : l ≤ p.length) : Int.fdiv (adr b p) (2 ^ ((b : Int) - (l : Int)).toNat) * 2 ^ ((b : Int) - (l : Int)).toNat = (adr b (p.take l) : Int) ∧ Int.natAbs (Int.fdiv (adr b p) (2 ^ ((b : Int) - (l : Int)).toNat)) < 2 ^ 64 := by
  have : chk7 b = true := by rcases hb with rfl | rfl; exact chk7_3; exact chk7_4
  exact of_decide_eq_true (List.all_eq_true.mp (List.all_eq_true.mp this p (mem_paths hp)) l (by simp; (first | lia | omega))) h

-- trees
noncomputable def cpl : Path → Path → Nat
  | x :: p, y :: q => if x = y then cpl p q + 1 else 0
  | _, _ => 0
theorem cpl_le : ∀ p q : Path, cpl p q ≤ p.length ∧ cpl p q ≤ q.length
  | [], q => by simp [cpl]
  | x :: p, [] => by simp [cpl]
  | x :: p, y :: q => by
    have := cpl_le p q
    unfold cpl
    split <;> simp <;> omega
theorem cpl_lt : ∀ (p q : Path) (i : Nat), i < cpl p q → p.getD i false = q.getD i false
  | [], q, i, h => by simp [cpl] at h
  | x :: p, [], i, h => by simp [cpl] at h
  | x :: p, y :: q, i, h => by
    unfold cpl at h
    split at h
    · cases i with
      | zero => simpa
      | succ i => simpa using cpl_lt p q i (by (first | lia | omega))
    · (first | lia | omega)
set_option tactic.hygienic true in
theorem cpl_at : ∀ (p q : Path), cpl p q < p.length → cpl p q < q.length → p.getD (cpl p q) false ≠ q.getD (cpl p q) false
  | [], q, h, _ => by simp at h
  | x :: p, [], _, h => by simp at h
  | x :: p, y :: q, h, h' => by
    unfold cpl at h h' ⊢
    split at h
    · rename_i e
      simp only [e, if_true] at h' ⊢
      simpa using cpl_at p q (by simpa using h) (by simpa using h')
    · rename_i e
      simpa [e] using e

inductive PT where
  | nil
  | node (p : Path) (v : Option Nat) (l r : PT)
noncomputable def wD : Option Nat → PyData
  | none => .none
  | some k => .int k
noncomputable def encT (b : Nat) : PT → PyData
  | .nil => .none
  | .node p v l r => .tuple [encD b p, wD v, encT b l, encT b r]
noncomputable def withC : PT → Bool → PT → PT
  | .node p v _ r, false, t => .node p v t r
  | .node p v l _, true, t => .node p v l t
  | .nil, _, _ => .nil
noncomputable def kid : Bool → PT → PT → PT
  | false, l, _ => l
  | true, _, r => r
noncomputable def forkT (q : Path) (m : Nat) (one : PT) (p : Path) (other : PT) : PT := withC (withC (.node (q.take m) none .nil .nil) (q.getD m false) one) (p.getD m false) other
noncomputable def putT : PT → Path → Nat → PT
  | .nil, p, w => .node p (some w) .nil .nil
  | .node q v l r, p, w =>
    if cpl q p = q.length ∧ cpl q p = p.length then .node q (some w) l r
    else if cpl q p = q.length then (if p.getD (cpl q p) false then .node q v l (putT r p w) else .node q v (putT l p w) r)
    else if cpl q p = p.length then withC (.node p (some w) .nil .nil) (q.getD (cpl q p) false) (.node q v l r)
    else forkT q (cpl q p) (.node q v l r) p (.node p (some w) .nil .nil)
noncomputable def TOk (b : Nat) : PT → Prop
  | .nil => True
  | .node p _ l r => p.length ≤ b ∧ TOk b l ∧ TOk b r
noncomputable def dep : PT → Nat
  | .nil => 0
  | .node _ _ l r => max (dep l) (dep r) + 1
noncomputable def upd (acc : Option (Path × Nat)) (p : Path) : Option Nat → Option (Path × Nat)
  | none => acc
  | some w => some (p, w)
noncomputable def lookT (b : Nat) : PT → Path → Option (Path × Nat) → Option (Path × Nat)
  | .nil, _, acc => acc
  | .node p v l r, q, acc => if q.take p.length = p then (if p.length = b then upd acc p v else if q.getD p.length false then lookT b r q (upd acc p v) else lookT b l q (upd acc p v)) else acc
theorem lookT_node {b : Nat} {p : Path} {v : Option Nat} {l r : PT} {q : Path} {acc : Option (Path × Nat)} : lookT b (.node p v l r) q acc = (if q.take p.length = p then (if p.length = b then upd acc p v else if q.getD p.length false then lookT b r q (upd acc p v) else lookT b l q (upd acc p v)) else acc) := rfl
noncomputable def encF (b : Nat) : Option (Path × Nat) → PyData
  | none => .none
  | some (p, w) => .tuple [encD b p, .int w]
theorem noL_encD {b : Nat} {p : Path} : noL (encD b p) = true := rfl
theorem noL_wD {v : Option Nat} : noL (wD v) = true := by cases v <;> rfl
theorem noL_encT {b : Nat} : ∀ {T : PT}, noL (encT b T) = true
  | .nil => rfl
  | .node p v l r => by simp [encT, noL, noLs, noL_encD, noL_wD, noL_encT]
theorem noL_encF {b : Nat} : ∀ {T : Option (Path × Nat)}, noL (encF b T) = true
  | none => rfl
  | some (p, w) => by simp [encF, noL, noLs, noL_encD]

section
variable {prog : Program} {w : World} {mg mb : Str → Option Value}
theorem fn_first_bits {p : Path} {l b : Nat} (hb : Bits b) (hp : p.length ≤ b) (h : l ≤ p.length) : Fn prog w mg mb (Str.ofString "first_bits") [.int (adr b p), .int l, .int b] (.int (adr b (p.take l))) 1 := by
  refine Fn.in3 (by k_is) fun A s v1 v2 v3 R G r1 r2 r3 => ?_
  refine enter R G (by k_is) (by k_is) rfl rfl (envR_cons (x := Str.ofString "address") rfl r1 (envR_cons (x := Str.ofString "length") rfl r2 (envR_cons (x := Str.ofString "bits") rfl r3 envR_nil))) rfl rfl rfl (by decide) fun L R => ?_
  focus ((refine let G9 : Prop := _; (?_ : G9)); (obtain ⟨e1, e2⟩ := first_eqI hb hp h); all_goals (unfold G9; clear G9))
  refine x_ret (d_cast (d_shl (d_shr (d_name rfl rfl rfl) (d_sub (d_name rfl rfl rfl) (d_name rfl rfl rfl)) (by (first | lia | omega))) (d_sub (d_name rfl rfl rfl) (d_name rfl rfl rfl)) (by (first | lia | omega)) (by have := len_le hb; (first | lia | omega)) e2) ?_)
  rw [e1]
theorem fn_bit_of {p : Path} {i b : Nat} (hb : Bits b) (hp : p.length ≤ b) (h : i < p.length) : Fn prog w mg mb (Str.ofString "bit_of") [.int (adr b p), .int i, .int b] (.int (p.getD i false).toNat) 1 := by
  refine Fn.in3 (by k_is) fun A s v1 v2 v3 R G r1 r2 r3 => ?_
  refine enter R G (by k_is) (by k_is) rfl rfl (envR_cons (x := Str.ofString "address") rfl r1 (envR_cons (x := Str.ofString "place") rfl r2 (envR_cons (x := Str.ofString "bits") rfl r3 envR_nil))) rfl rfl rfl (by decide) fun L R => ?_
  refine x_ret (d_cast (d_and (d_shr (d_name rfl rfl rfl) (d_sub (d_sub (d_name rfl rfl rfl) d_int) (d_name rfl rfl rfl)) (by (first | lia | omega))) d_int) ?_)
  rw [bit_eqI hb hp h]
theorem fn_shared_length {p q : Path} {b : Nat} (hb : Bits b) (hp : p.length ≤ b) (hq : q.length ≤ b) : Fn prog w mg mb (Str.ofString "shared_length") [encD b p, encD b q, .int b] (.int (cpl p q)) 2 := by
  refine Fn.in3 (by k_is) fun A s v1 v2 v3 R G r1 r2 r3 => ?_
  refine enter R G (by k_is) (by k_is) rfl rfl (envR_cons (x := Str.ofString "one") rfl r1 (envR_cons (x := Str.ofString "other") rfl r2 (envR_cons (x := Str.ofString "bits") rfl r3 envR_nil))) rfl rfl rfl (by decide) fun L R => ?_
  focus ((refine let G9 : Prop := _; (?_ : G9)); (obtain ⟨c1, c2⟩ := cpl_le p q); all_goals (unfold G9; clear G9))
  refine x_seq (x_assign2 (d := .int (min p.length q.length : Nat)) (f := .int (0 : Nat)) R.2.2 (d_cast (d_tuple (l_cons (d_min G R.2.2 (d_sub_tup (d_name rfl rfl rfl) d_int (by decide) rfl rfl) (d_sub_tup (d_name rfl rfl rfl) d_int (by decide) rfl rfl) (by k_is) rfl rfl rfl rfl) (l_cons d_int l_nil)) (Nat.le_of_ble_eq_true rfl)) ?_) rfl rfl (.loc rfl rfl) (.loc rfl rfl) rfl) ?_
  · congr 3
    split <;> omega
  refine x_while (σ := Nat) (fun i => i ≤ cpl p q) (fun i => [(Str.ofString "many", .val (.int i)), (Str.ofString "most", .val (.int (min p.length q.length : Nat))), (Str.ofString "one", .val (encD b p)), (Str.ofString "other", .val (encD b q)), (Str.ofString "bits", .val (.int b))])
    (fun i => decide (i < cpl p q)) (fun i => i + 1) (fun i => cpl p q - i) (fun i hi => ?_) (fun i hi hc => ?_) (fun i hi hc => ?_) (fun i hi hc => ?_) 0 (Nat.zero_le _) (by repeat (first | exact less_nil | refine less_cons rfl ?_))
  · refine b_cast (b_and (c := (((p.getD i false).toNat : Int) == (q.getD i false).toNat)) (b_cmp (d_name rfl rfl rfl) (d_name rfl rfl rfl) o_lt) fun hlt => ?_) ?_
    · have hlt := of_decide_eq_true hlt
      refine b_cmp (d_call G R (by decide) (fn_bit_of (i := i) hb hp (by omega)) (l_cons (d_sub_tup (d_name rfl rfl rfl) d_int (by decide) rfl rfl) (l_cons (d_name rfl rfl rfl) (l_cons (d_name rfl rfl rfl) l_nil))) (by k_is) (by k_is) rfl rfl rfl)
        (d_call G R (by decide) (fn_bit_of (i := i) hb hq (by omega)) (l_cons (d_sub_tup (d_name rfl rfl rfl) d_int (by decide) rfl rfl) (l_cons (d_name rfl rfl rfl) (l_cons (d_name rfl rfl rfl) l_nil))) (by k_is) (by k_is) rfl rfl rfl) o_eqi
    · by_cases hlt : i < cpl p q
      · rw [decide_eq_true hlt, decide_eq_true (by omega), cpl_lt p q i hlt]
        simp
      · obtain rfl : i = cpl p q := by omega
        rw [decide_eq_false hlt]
        by_cases hm : ((cpl p q : Nat) : Int) < ((min p.length q.length : Nat) : Int)
        · have := cpl_at p q (by omega) (by omega)
          rw [decide_eq_true hm, Bool.true_and, beq_eq_false_iff_ne]
          intro e
          apply this
          have e : (p.getD (cpl p q) false).toNat = (q.getD (cpl p q) false).toNat := by omega
          revert e
          cases p.getD (cpl p q) false <;> cases q.getD (cpl p q) false <;> simp
        · rw [decide_eq_false hm, Bool.false_and]
  · refine x_seq (x_augAdd (i := i) (j := 1) rfl d_int rfl rfl rfl) (x_nil (by repeat (first | exact less_nil | refine less_cons rfl ?_)))
  · have := of_decide_eq_true hc
    omega
  · have := of_decide_eq_false hc
    obtain rfl : i = cpl p q := by omega
    exact x_ret (d_name rfl rfl rfl)
theorem fn_with_child {q : Path} {v : Option Nat} {l r t : PT} {c : Bool} {b : Nat} : Fn prog w mg mb (Str.ofString "with_child") [encT b (.node q v l r), .int c.toNat, encT b t] (encT b (withC (.node q v l r) c t)) 1 := by
  refine Fn.in3 (by k_is) fun A s v1 v2 v3 R G r1 r2 r3 => ?_
  refine enter R G (by k_is) (by k_is) rfl rfl (envR_cons (x := Str.ofString "node") rfl r1 (envR_cons (x := Str.ofString "place") rfl r2 (envR_cons (x := Str.ofString "child") rfl r3 envR_nil))) rfl rfl rfl (by decide) fun L R => ?_
  cases c with
  | false =>
    refine x_ifT (b_cast (b_cmp (d_name rfl rfl rfl) d_int o_eqi) rfl) ?_ (fun _ x => nomatch x)
    exact x_ret (d_tuple (l_cons (d_sub_tup (d_name rfl rfl rfl) d_int (by decide) rfl rfl) (l_cons (d_sub_tup (d_name rfl rfl rfl) d_int (by decide) rfl rfl) (l_cons (d_name rfl rfl rfl) (l_cons (d_sub_tup (d_name rfl rfl rfl) d_int (by decide) rfl rfl) l_nil)))) (Nat.le_of_ble_eq_true rfl))
  | true =>
    refine x_ifF (b_cast (b_cmp (d_name rfl rfl rfl) d_int o_eqi) rfl) ?_
    exact x_ret (d_tuple (l_cons (d_sub_tup (d_name rfl rfl rfl) d_int (by decide) rfl rfl) (l_cons (d_sub_tup (d_name rfl rfl rfl) d_int (by decide) rfl rfl) (l_cons (d_sub_tup (d_name rfl rfl rfl) d_int (by decide) rfl rfl) (l_cons (d_name rfl rfl rfl) l_nil)))) (Nat.le_of_ble_eq_true rfl))
theorem withC_node {q : Path} {v : Option Nat} {l r t : PT} {c : Bool} : ∃ l' r', withC (.node q v l r) c t = .node q v l' r' := by cases c <;> exact ⟨_, _, rfl⟩
theorem fn_fork {q p : Path} {v u : Option Nat} {l r l' r' : PT} {m b : Nat} (hb : Bits b) (hq : q.length ≤ b) (hp : p.length ≤ b) (h1 : m < q.length) (h2 : m < p.length) :
    Fn prog w mg mb (Str.ofString "fork") [encT b (.node q v l r), encT b (.node p u l' r'), .int m, .int b] (encT b (forkT q m (.node q v l r) p (.node p u l' r'))) 2 := by
  refine Fn.in4 (by k_is) fun A s v1 v2 v3 v4 R G r1 r2 r3 r4 => ?_
  refine enter R G (by k_is) (by k_is) rfl rfl (envR_cons (x := Str.ofString "one") rfl r1 (envR_cons (x := Str.ofString "other") rfl r2 (envR_cons (x := Str.ofString "length") rfl r3 (envR_cons (x := Str.ofString "bits") rfl r4 envR_nil)))) rfl rfl rfl (by decide) fun L R => ?_
  refine x_seq (x_assign (d := encT b (.node (q.take m) none .nil .nil)) (d_cast (d_tuple (l_cons (d_tuple (l_cons (d_call G R (by decide) (fn_first_bits (l := m) hb hq (by (first | lia | omega))) (l_cons (d_sub_tup (d_sub_tup (d_name rfl rfl rfl) d_int (by decide) rfl rfl) d_int (by decide) rfl rfl) (l_cons (d_name rfl rfl rfl) (l_cons (d_name rfl rfl rfl) l_nil))) (by k_is) (by k_is) rfl rfl rfl) (l_cons (d_name rfl rfl rfl) l_nil)) (Nat.le_of_ble_eq_true rfl))
    (l_cons d_none (l_cons d_none (l_cons d_none l_nil)))) (Nat.le_of_ble_eq_true rfl)) ?_) noL_encT (.loc rfl rfl) rfl) ?_
  · have : (q.take m).length = m := by rw [List.length_take]; (first | lia | omega)
    simp only [encT, encD, this, wD]
  refine x_seq (x_assign (d := encT b (withC (.node (q.take m) none .nil .nil) (q.getD m false) (.node q v l r))) (d_call G R (by decide) fn_with_child (l_cons (d_name rfl rfl rfl) (l_cons (d_call G R (by decide) (fn_bit_of hb hq h1) (l_cons (d_sub_tup (d_sub_tup (d_name rfl rfl rfl) d_int (by decide) rfl rfl) d_int (by decide) rfl rfl) (l_cons (d_name rfl rfl rfl) (l_cons (d_name rfl rfl rfl) l_nil))) (by k_is) (by k_is) rfl rfl rfl) (l_cons (d_name rfl rfl rfl) l_nil))) (by k_is) (by k_is) rfl rfl rfl) noL_encT (.loc rfl rfl) rfl) ?_
  unfold forkT
  focus ((refine let G9 : Prop := _; (?_ : G9)); (obtain ⟨l2, r2, e2⟩ := withC_node (q := q.take m) (v := none) (l := .nil) (r := .nil) (t := .node q v l r) (c := q.getD m false)); all_goals (unfold G9; clear G9))
  rw [e2]
  exact x_ret (d_call G R (by decide) fn_with_child (l_cons (d_name rfl rfl rfl) (l_cons (d_call G R (by decide) (fn_bit_of hb hp h2) (l_cons (d_sub_tup (d_sub_tup (d_name rfl rfl rfl) d_int (by decide) rfl rfl) d_int (by decide) rfl rfl) (l_cons (d_name rfl rfl rfl) (l_cons (d_name rfl rfl rfl) l_nil))) (by k_is) (by k_is) rfl rfl rfl) (l_cons (d_name rfl rfl rfl) l_nil))) (by k_is) (by k_is) rfl rfl rfl)
theorem sub_kid {b : Nat} {A : Around} {env : Env} {h₀ : Heap} {ρ : Ev} {value slice : Expr} {pos : Pos} {q : Path} {v : Option Nat} {l r : PT} {c : Bool}
    (hv : EvD (model prog w) A env h₀ ρ (eval value env) (encT b (.node q v l r))) (hi : EvD (model prog w) A env h₀ ρ (eval slice env) (.int (2 + (c.toNat : Int))))
    (hs : ∀ (t : Addr) (k : Int) (u : Tok), subscripted slice false (.ref t) (.int k u) = operate [.ref t, .int k u] (getItem (.ref t) (.int k u)) := by intro _ _ _; with_unfolding_all rfl) :
    EvD (model prog w) A env h₀ ρ (eval (.Subscript value slice pos) env) (encT b (kid c l r)) := by
  cases c with
  | false => exact d_sub_tup hv hi (by decide) rfl rfl (fun t u => hs t _ u)
  | true => exact d_sub_tup hv hi (by decide) rfl rfl (fun t u => hs t _ u)
theorem fn_tree_put {b : Nat} (hb : Bits b) {p : Path} (hp : p.length ≤ b) {wt : Nat} : ∀ {T : PT}, TOk b T → Fn prog w mg mb (Str.ofString "tree_put") [encT b T, encD b p, .int wt, .int b] (encT b (putT T p wt)) (3 + dep T)
  | .nil, _ => by
    refine Fn.in4 (by k_is) fun A s v1 v2 v3 v4 R G r1 r2 r3 r4 => ?_
    refine enter R G (by k_is) (by k_is) rfl rfl (envR_cons (x := Str.ofString "tree") rfl r1 (envR_cons (x := Str.ofString "prefix") rfl r2 (envR_cons (x := Str.ofString "worth") rfl r3 (envR_cons (x := Str.ofString "bits") rfl r4 envR_nil)))) rfl rfl rfl (by decide) fun L R => ?_
    refine x_seq (x_assign (d := encT b (.node p (some wt) .nil .nil)) (d_tuple (l_cons (d_name rfl rfl rfl) (l_cons (d_name rfl rfl rfl) (l_cons d_none (l_cons d_none l_nil)))) (Nat.le_of_ble_eq_true rfl)) noL_encT (.loc rfl rfl) rfl) ?_
    refine x_ifT (b_cmp (d_name rfl rfl rfl) d_none o_isNone) (x_ret (d_name rfl rfl rfl)) (fun _ x => nomatch x)
  | .node q v l r, ok => by
    refine Fn.in4 (by k_is) fun A s v1 v2 v3 v4 R G r1 r2 r3 r4 => ?_
    refine enter R G (by k_is) (by k_is) rfl rfl (envR_cons (x := Str.ofString "tree") rfl r1 (envR_cons (x := Str.ofString "prefix") rfl r2 (envR_cons (x := Str.ofString "worth") rfl r3 (envR_cons (x := Str.ofString "bits") rfl r4 envR_nil)))) rfl rfl rfl (by decide) fun L R => ?_
    focus ((refine let G9 : Prop := _; (?_ : G9)); (obtain ⟨hq, okl, okr⟩ := ok); all_goals (unfold G9; clear G9))
    focus ((refine let G9 : Prop := _; (?_ : G9)); (obtain ⟨c1, c2⟩ := cpl_le q p); all_goals (unfold G9; clear G9))
    have R : Room (A.deeper _) (2 + (max (dep l) (dep r) + 1)) := R.less (by show 2 + (max (dep l) (dep r) + 1) ≤ 3 + max (dep l) (dep r); (first | lia | omega))
    refine x_seq (x_assign (d := encT b (.node p (some wt) .nil .nil)) (d_tuple (l_cons (d_name rfl rfl rfl) (l_cons (d_name rfl rfl rfl) (l_cons d_none (l_cons d_none l_nil)))) (Nat.le_of_ble_eq_true rfl)) noL_encT (.loc rfl rfl) rfl) ?_
    refine x_ifF (b_cmp (d_name rfl rfl rfl) d_none (o_isNot tup_not_none)) ?_
    refine x_seq (x_assign2 (d := encD b q) (f := .int (cpl q p)) R.2.2 (d_tuple (l_cons (d_sub_tup (d_name rfl rfl rfl) d_int (by decide) rfl rfl) (l_cons (d_call G R (by (first | lia | omega)) (fn_shared_length hb hq hp) (l_cons (d_sub_tup (d_name rfl rfl rfl) d_int (by decide) rfl rfl) (l_cons (d_name rfl rfl rfl) (l_cons (d_name rfl rfl rfl) l_nil))) (by k_is) (by k_is) rfl rfl rfl) l_nil)) (Nat.le_of_ble_eq_true rfl)) rfl rfl (.loc rfl rfl) (.loc rfl rfl) rfl) ?_
    unfold putT
    by_cases h1 : cpl q p = q.length
    · by_cases h2 : cpl q p = p.length
      · rw [if_pos ⟨h1, h2⟩]
        refine x_ifT (b_cast (b_and (c := true) (b_cmp (d_name rfl rfl rfl) (d_sub_tup (d_name rfl rfl rfl) d_int (by decide) rfl rfl) o_eqi) fun _ => b_cast (b_cmp (d_name rfl rfl rfl) (d_sub_tup (d_name rfl rfl rfl) d_int (by decide) rfl rfl) o_eqi) (by rw [h2]; simp)) (by rw [h1]; simp)) ?_ (fun _ x => nomatch x)
        exact x_ret (d_tuple (l_cons (d_name rfl rfl rfl) (l_cons (d_name rfl rfl rfl) (l_cons (d_sub_tup (d_name rfl rfl rfl) d_int (by decide) rfl rfl) (l_cons (d_sub_tup (d_name rfl rfl rfl) d_int (by decide) rfl rfl) l_nil)))) (Nat.le_of_ble_eq_true rfl))
      · rw [if_neg (fun x => h2 x.2), if_pos h1]
        refine x_ifF (b_cast (b_and (c := false) (b_cmp (d_name rfl rfl rfl) (d_sub_tup (d_name rfl rfl rfl) d_int (by decide) rfl rfl) o_eqi) fun _ => b_cast (b_cmp (d_name rfl rfl rfl) (d_sub_tup (d_name rfl rfl rfl) d_int (by decide) rfl rfl) o_eqi) (by rw [beq_eq_false_iff_ne]; (first | lia | omega))) (by simp)) ?_
        refine x_ifT (b_cast (b_cmp (d_name rfl rfl rfl) (d_sub_tup (d_name rfl rfl rfl) d_int (by decide) rfl rfl) o_eqi) (by rw [h1]; simp)) ?_ (fun _ x => nomatch x)
        refine x_seq (x_assign (d := .int (p.getD (cpl q p) false).toNat) (d_call G R (by (first | lia | omega)) (fn_bit_of hb hp (by (first | lia | omega))) (l_cons (d_sub_tup (d_name rfl rfl rfl) d_int (by decide) rfl rfl) (l_cons (d_name rfl rfl rfl) (l_cons (d_name rfl rfl rfl) l_nil))) (by k_is) (by k_is) rfl rfl rfl) rfl (.loc rfl rfl) rfl) ?_
        have put : ∀ c, Fn prog w mg mb (Str.ofString "tree_put") [encT b (kid c l r), encD b p, .int wt, .int b] (encT b (putT (kid c l r) p wt)) (3 + dep (kid c l r)) := fun c => by
          cases c with
          | false => exact fn_tree_put hb hp okl
          | true => exact fn_tree_put hb hp okr
        have hdep : dep (kid (p.getD (cpl q p) false) l r) ≤ max (dep l) (dep r) := by cases p.getD (cpl q p) false <;> simp [kid] <;> (first | lia | omega)
        refine x_ret (d_cast (d_call G R (by (first | lia | omega)) fn_with_child (l_cons (d_name rfl rfl rfl) (l_cons (d_name rfl rfl rfl) (l_cons (d_call G R (by (first | lia | omega)) (put (p.getD (cpl q p) false)) (l_cons (sub_kid (d_name rfl rfl rfl) (d_add d_int (d_name rfl rfl rfl))) (l_cons (d_name rfl rfl rfl) (l_cons (d_name rfl rfl rfl) (l_cons (d_name rfl rfl rfl) l_nil)))) (by k_is) (by k_is) rfl rfl rfl) l_nil))) (by k_is) (by k_is) rfl rfl rfl) ?_)
        cases p.getD (cpl q p) false <;> rfl
    · rw [if_neg (fun x => h1 x.1), if_neg h1]
      refine x_ifF (b_cast (b_and (c := false) (b_cmp (d_name rfl rfl rfl) (d_sub_tup (d_name rfl rfl rfl) d_int (by decide) rfl rfl) o_eqi) fun x => by rw [beq_eq_false_iff_ne.mpr (by (first | lia | omega))] at x; cases x) (by simp)) ?_
      refine x_ifF (b_cast (b_cmp (d_name rfl rfl rfl) (d_sub_tup (d_name rfl rfl rfl) d_int (by decide) rfl rfl) o_eqi) (by rw [beq_eq_false_iff_ne]; (first | lia | omega))) ?_
      by_cases h2 : cpl q p = p.length
      · rw [if_pos h2]
        refine x_ifT (b_cast (b_cmp (d_name rfl rfl rfl) (d_sub_tup (d_name rfl rfl rfl) d_int (by decide) rfl rfl) o_eqi) (by rw [h2]; simp)) ?_ (fun _ x => nomatch x)
        exact x_ret (d_call G R (by (first | lia | omega)) fn_with_child (l_cons (d_name rfl rfl rfl) (l_cons (d_call G R (by (first | lia | omega)) (fn_bit_of hb hq (by (first | lia | omega))) (l_cons (d_sub_tup (d_name rfl rfl rfl) d_int (by decide) rfl rfl) (l_cons (d_name rfl rfl rfl) (l_cons (d_name rfl rfl rfl) l_nil))) (by k_is) (by k_is) rfl rfl rfl) (l_cons (d_name rfl rfl rfl) l_nil))) (by k_is) (by k_is) rfl rfl rfl)
      · rw [if_neg h2]
        refine x_ifF (b_cast (b_cmp (d_name rfl rfl rfl) (d_sub_tup (d_name rfl rfl rfl) d_int (by decide) rfl rfl) o_eqi) (by rw [beq_eq_false_iff_ne]; (first | lia | omega))) ?_
        exact x_ret (d_call G R (by (first | lia | omega)) (fn_fork hb hq hp (by (first | lia | omega)) (by (first | lia | omega))) (l_cons (d_name rfl rfl rfl) (l_cons (d_name rfl rfl rfl) (l_cons (d_name rfl rfl rfl) (l_cons (d_name rfl rfl rfl) l_nil)))) (by k_is) (by k_is) rfl rfl rfl)
noncomputable def szT : PT → Nat
  | .nil => 0
  | .node _ _ l r => szT l + szT r + 1
theorem enc_adr {b : Nat} (hb : Bits b) {p q : Path} (hq : q.length = b) (hp : p.length ≤ b) : ((adr b (q.take p.length) : Int) == (adr b p : Int)) = decide (q.take p.length = p) := by
  by_cases h : q.take p.length = p
  · rw [h]; simp
  · rw [decide_eq_false h, beq_eq_false_iff_ne]
    intro e
    exact h (adr_inj hb (by rw [List.length_take]; (first | lia | omega)) hp (by (first | lia | omega)) (by rw [List.length_take]; (first | lia | omega)))
theorem fn_tree_look {b : Nat} (hb : Bits b) {q : Path} (hq : q.length = b) {T : PT} (ok : TOk b T) : Fn prog w mg mb (Str.ofString "tree_look") [encT b T, .int (adr b q), .int b] (encF b (lookT b T q none)) 2 := by
  refine Fn.in3 (by k_is) fun A s v1 v2 v3 R G r1 r2 r3 => ?_
  refine enter R G (by k_is) (by k_is) rfl rfl (envR_cons (x := Str.ofString "tree") rfl r1 (envR_cons (x := Str.ofString "address") rfl r2 (envR_cons (x := Str.ofString "bits") rfl r3 envR_nil))) rfl rfl rfl (by decide) fun L R => ?_
  refine x_seq (x_assign2 (d := encF b none) (f := encT b T) R.2.2 (d_tuple (l_cons d_none (l_cons (d_name rfl rfl rfl) l_nil)) (Nat.le_of_ble_eq_true rfl)) noL_encF noL_encT (.loc rfl rfl) (.loc rfl rfl) rfl) ?_
  refine x_while (σ := PT × Option (Path × Nat)) (fun x => TOk b x.1 ∧ lookT b x.1 q x.2 = lookT b T q none) (fun x => [(Str.ofString "found", .val (encF b x.2)), (Str.ofString "node", .val (encT b x.1)), (Str.ofString "address", .val (.int (adr b q))), (Str.ofString "bits", .val (.int b))])
    (fun x => match x.1 with | .nil => false | .node p _ _ _ => decide (q.take p.length = p)) (fun x => match x.1 with | .nil => x | .node p v l r => (if p.length = b then .nil else kid (q.getD p.length false) l r, upd x.2 p v)) (fun x => szT x.1) (fun x hx => ?_) (fun x hx hc => ?_) (fun x hx hc => ?_) (fun x hx hc => ?_) (T, none) ⟨ok, rfl⟩ (by repeat (first | exact less_nil | refine less_cons rfl ?_))
  · focus ((refine let G9 : Prop := _; (?_ : G9)); (obtain ⟨n, acc⟩ := x); all_goals (unfold G9; clear G9))
    cases n with
    | nil => exact b_cast (b_and (c := false) (b_cmp (d_name rfl rfl rfl) d_none o_notNone) fun x => nomatch x) rfl
    | node p v l r =>
      refine b_cast (b_and (c := decide (q.take p.length = p)) (b_cmp (d_name rfl rfl rfl) d_none (o_notIs tup_not_none)) fun _ => ?_) (by simp)
      have hp : p.length ≤ b := hx.1.1
      refine b_cast (b_cmp (d_call G R (by (first | lia | omega)) (fn_first_bits (l := p.length) hb (by (first | lia | omega)) (by (first | lia | omega))) (l_cons (d_name rfl rfl rfl) (l_cons (d_sub_tup (d_sub_tup (d_name rfl rfl rfl) d_int (by decide) rfl rfl) d_int (by decide) rfl rfl) (l_cons (d_name rfl rfl rfl) l_nil))) (by k_is) (by k_is) rfl rfl rfl) (d_sub_tup (d_sub_tup (d_name rfl rfl rfl) d_int (by decide) rfl rfl) d_int (by decide) rfl rfl) o_eqi) ?_
      exact enc_adr hb hq hp
  · focus ((refine let G9 : Prop := _; (?_ : G9)); (obtain ⟨n, acc⟩ := x); all_goals (unfold G9; clear G9))
    cases n with
    | nil => cases hc
    | node p v l r =>
      have hp : p.length ≤ b := hx.1.1
      refine x_if (β := v.isSome) (ρ1 := [(Str.ofString "found", .val (encF b (upd acc p v))), (Str.ofString "node", .val (encT b (.node p v l r))), (Str.ofString "address", .val (.int (adr b q))), (Str.ofString "bits", .val (.int b))]) ?_ (fun hv => ?_) (fun hv => ?_) ?_
      · cases v with
        | none => exact b_cmp (d_sub_tup (d_name rfl rfl rfl) d_int (by decide) rfl rfl) d_none o_notNone
        | some k => exact b_cmp (d_sub_tup (d_name rfl rfl rfl) d_int (by decide) rfl rfl) d_none (o_notIs int_not_none)
      · cases v with
        | none => cases hv
        | some k => exact x_seq (x_assign (d := encF b (some (p, k))) (d_tuple (l_cons (d_sub_tup (d_name rfl rfl rfl) d_int (by decide) rfl rfl) (l_cons (d_sub_tup (d_name rfl rfl rfl) d_int (by decide) rfl rfl) l_nil)) (Nat.le_of_ble_eq_true rfl)) noL_encF (.loc rfl rfl) rfl) (x_nil (by repeat (first | exact less_nil | refine less_cons rfl ?_)))
      · cases v with
        | none => exact x_nil (by repeat (first | exact less_nil | refine less_cons rfl ?_))
        | some k => cases hv
      · refine x_seq (x_assign (d := encT b (if p.length = b then .nil else kid (q.getD p.length false) l r)) (d_ifexp (b_cmp (d_sub_tup (d_sub_tup (d_name rfl rfl rfl) d_int (by decide) rfl rfl) d_int (by decide) rfl rfl) (d_name rfl rfl rfl) o_eqi) (fun h => ?_) (fun h => ?_)) noL_encT (.loc rfl rfl) rfl) (x_nil (by repeat (first | exact less_nil | refine less_cons rfl ?_)))
        · have h : p.length = b := by have := eq_of_beq h; (first | lia | omega)
          rw [if_pos h]
          exact d_none
        · have h : p.length ≠ b := by have := ne_of_beq_false h; (first | lia | omega)
          rw [if_neg h]
          exact sub_kid (d_name rfl rfl rfl) (d_add d_int (d_call G R (by (first | lia | omega)) (fn_bit_of hb (by (first | lia | omega)) (by (first | lia | omega))) (l_cons (d_name rfl rfl rfl) (l_cons (d_sub_tup (d_sub_tup (d_name rfl rfl rfl) d_int (by decide) rfl rfl) d_int (by decide) rfl rfl) (l_cons (d_name rfl rfl rfl) l_nil))) (by k_is) (by k_is) rfl rfl rfl))
  · focus ((refine let G9 : Prop := _; (?_ : G9)); (obtain ⟨n, acc⟩ := x); all_goals (unfold G9; clear G9))
    cases n with
    | nil => cases hc
    | node p v l r =>
      focus ((refine let G9 : Prop := _; (?_ : G9)); (obtain ⟨⟨hp, okl, okr⟩, e⟩ := hx); all_goals (unfold G9; clear G9))
      have hc := of_decide_eq_true hc
      rw [← e, lookT_node, if_pos hc]
      by_cases hl : p.length = b
      · simp [hl, szT, TOk, lookT]
      · simp only [hl, if_false]
        cases q.getD p.length false with
        | false => exact ⟨⟨okl, rfl⟩, by show szT l < szT l + szT r + 1; (first | lia | omega)⟩
        | true => exact ⟨⟨okr, rfl⟩, by show szT r < szT l + szT r + 1; (first | lia | omega)⟩
  · focus ((refine let G9 : Prop := _; (?_ : G9)); (obtain ⟨n, acc⟩ := x); all_goals (unfold G9; clear G9))
    have e : lookT b T q none = acc := by
      rw [← hx.2]
      cases n with
      | nil => rfl
      | node p v l r =>
        have hc := of_decide_eq_false hc
        rw [lookT_node, if_neg hc]
    rw [e]
    exact x_ret (d_name rfl rfl rfl)
end
end Mine
end
-- Pl2
section
open PySem PySem.W PyProof.Rows PySem.Calls PySem.Spec
namespace Mine
-- the paths below one half
noncomputable def tl (c : Bool) (X : List Path) : List Path := X.filterMap fun | [] => none | x :: r => if x = c then some r else none
theorem tl_append {c : Bool} {X Y : List Path} : tl c (X ++ Y) = tl c X ++ tl c Y := by simp [tl]
theorem tl_map {c : Bool} : ∀ {X : List Path}, tl c (X.map (c :: ·)) = X
  | [] => rfl
  | x :: X => by
    have := tl_map (c := c) (X := X)
    simp only [tl, List.map_cons, List.filterMap_cons, if_true] at this ⊢
    rw [this]
theorem tl_map_ne {c e : Bool} (h : e ≠ c) : ∀ {X : List Path}, tl c (X.map (e :: ·)) = []
  | [] => rfl
  | x :: X => by
    have := tl_map_ne h (X := X)
    simp only [tl, List.map_cons, List.filterMap_cons, if_neg h] at this ⊢
    rw [this]
theorem tl_le {c : Bool} {n : Nat} {X : List Path} (h : ∀ p ∈ X, p.length ≤ n + 1) : ∀ p ∈ tl c X, p.length ≤ n := fun p hp => by
  focus ((refine let G9 : Prop := _; (?_ : G9)); (obtain ⟨q, hq, e⟩ := List.mem_filterMap.mp hp); all_goals (unfold G9; clear G9))
  cases q with
  | nil => cases e
  | cons x r =>
    dsimp only at e
    split at e
    · cases e
      have := h _ hq
      simpa using this
    · cases e
theorem tl_zero {X : List Path} (h : ∀ p ∈ X, p.length ≤ 0) : ∀ p ∈ X, p = [] := fun p hp => List.length_eq_zero_iff.mp (Nat.le_zero.mp (h p hp))

noncomputable def joinH (A B : List Path) : List Path := if A = [[]] ∧ B = [[]] then [[]] else A.map (false :: ·) ++ B.map (true :: ·)
noncomputable def canon : Nat → List Path → List Path
  | 0, X => if [] ∈ X then [[]] else []
  | n + 1, X => if [] ∈ X then [[]] else joinH (canon n (tl false X)) (canon n (tl true X))
set_option tactic.hygienic true in
theorem joinH_nil {A B : List Path} (h : [] ∈ joinH A B) : joinH A B = [[]] := by
  unfold joinH at h ⊢
  split
  · rfl
  · rename_i q
    rw [if_neg q] at h
    simp at h
set_option tactic.hygienic true in
theorem canon_nil : ∀ {n : Nat} {X : List Path}, [] ∈ canon n X → canon n X = [[]]
  | 0, X, h => by
    unfold canon at h ⊢
    split
    · rfl
    · rename_i q
      rw [if_neg q] at h
      cases h
  | n + 1, X, h => by
    unfold canon at h ⊢
    split
    · rfl
    · rename_i q
      rw [if_neg q] at h
      exact joinH_nil h
theorem canon_of {n : Nat} {X : List Path} (h : [] ∈ X) : canon n X = [[]] := by
  cases n <;> simp [canon, h]

-- in order
noncomputable def sortP : Nat → List Path → List Path
  | 0, X => X
  | n + 1, X => X.filter (·.isEmpty) ++ ((sortP n (tl false X)).map (false :: ·) ++ (sortP n (tl true X)).map (true :: ·))
theorem sortP_succ {n : Nat} {X : List Path} : sortP (n + 1) X = X.filter (·.isEmpty) ++ ((sortP n (tl false X)).map (false :: ·) ++ (sortP n (tl true X)).map (true :: ·)) := rfl
theorem sortP_perm : ∀ {n : Nat} {X : List Path}, (sortP n X).Perm X
  | 0, X => .refl _
  | n + 1, X => by
    unfold sortP
    refine (List.Perm.append_left _ (List.Perm.append (sortP_perm.map _) (sortP_perm.map _))).trans ?_
    induction X with
    | nil => exact .refl _
    | cons p X ih =>
      cases p with
      | nil => simpa [tl] using ih
      | cons x r =>
        cases x with
        | false =>
          simp only [tl, List.filter_cons, List.isEmpty_cons, Bool.false_eq_true, if_false, List.filterMap_cons, if_true, List.map_cons, reduceCtorEq] at ih ⊢
          exact List.perm_middle.trans (ih.cons _)
        | true =>
          simp only [tl, List.filter_cons, List.isEmpty_cons, Bool.false_eq_true, if_false, List.filterMap_cons, if_true, List.map_cons, reduceCtorEq] at ih ⊢
          rw [← List.append_assoc]
          refine List.perm_middle.trans (List.Perm.cons _ ?_)
          rw [List.append_assoc]
          exact ih
noncomputable def ple : Path → Path → Bool
  | [], _ => true
  | _ :: _, [] => false
  | x :: p, y :: q => if x = y then ple p q else !x
theorem sortP_sorted : ∀ {n : Nat} {X : List Path}, (∀ p ∈ X, p.length ≤ n) → (sortP n X).Pairwise (fun p q => ple p q = true)
  | 0, X, h => by
    have h0 := tl_zero h
    unfold sortP
    rw [List.pairwise_iff_forall_sublist]
    intro a b hs
    rw [h0 a (hs.subset (.head _))]
    rfl
  | n + 1, X, h => by
    unfold sortP
    rw [List.pairwise_append, List.pairwise_append]
    refine ⟨?_, ⟨?_, ?_, ?_⟩, ?_⟩
    · rw [List.pairwise_iff_forall_sublist]
      intro a b hs
      have : a ∈ X.filter (·.isEmpty) := hs.subset (.head _)
      have := (List.mem_filter.mp this).2
      rw [List.isEmpty_iff.mp this]
      rfl
    · rw [List.pairwise_map]
      exact (sortP_sorted (tl_le h)).imp fun {a b} e => by simpa [ple] using e
    · rw [List.pairwise_map]
      exact (sortP_sorted (tl_le h)).imp fun {a b} e => by simpa [ple] using e
    · intro a ha b hb
      focus ((refine let G9 : Prop := _; (?_ : G9)); (obtain ⟨a', _, rfl⟩ := List.mem_map.mp ha); all_goals (unfold G9; clear G9))
      focus ((refine let G9 : Prop := _; (?_ : G9)); (obtain ⟨b', _, rfl⟩ := List.mem_map.mp hb); all_goals (unfold G9; clear G9))
      rfl
    · intro a ha b hb
      have := (List.mem_filter.mp ha).2
      rw [List.isEmpty_iff.mp this]
      rfl
theorem sortP_le {n : Nat} {X : List Path} {k : Nat} (h : ∀ p ∈ X, p.length ≤ k) : ∀ p ∈ sortP n X, p.length ≤ k := fun p hp => h p (sortP_perm.mem_iff.mp hp)

-- what no other covers
noncomputable def unc1 (F : List Path) (p : Path) : List Path := match F.getLast? with
  | none => F ++ [p]
  | some q => if q.isPrefixOf p then F else F ++ [p]
noncomputable def unc (Y : List Path) : List Path := Y.foldl unc1 []
theorem unc_half {c : Bool} {G : List Path} (hG : ∀ g, G.getLast? = some g → ∀ y : Path, g.isPrefixOf (c :: y) = false) : ∀ {Y H : List Path}, (Y.map (c :: ·)).foldl unc1 (G ++ H.map (c :: ·)) = G ++ (Y.foldl unc1 H).map (c :: ·)
  | [], H => rfl
  | y :: Y, H => by
    rw [List.map_cons, List.foldl_cons, List.foldl_cons]
    have e : unc1 (G ++ H.map (c :: ·)) (c :: y) = G ++ (unc1 H y).map (c :: ·) := by
      unfold unc1
      rcases List.eq_nil_or_concat H with rfl | ⟨H', z, rfl⟩
      · simp only [List.map_nil, List.append_nil, List.getLast?_nil, List.nil_append, List.map_cons]
        cases hg : G.getLast? with
        | none => rfl
        | some g => simp [hG g hg y]
      · simp only [List.map_append, List.map_cons, List.map_nil, ← List.append_assoc, List.concat_eq_append, List.getLast?_append, List.getLast?_singleton, Option.some_or]
        simp only [List.isPrefixOf, beq_self_eq_true, Bool.true_and]
        split <;> simp
    rw [e]
    exact unc_half hG
theorem unc_covered : ∀ {Y : List Path}, Y.foldl unc1 [[]] = [[]]
  | [] => rfl
  | y :: Y => by
    rw [List.foldl_cons]
    have : unc1 [[]] y = [[]] := by simp [unc1]
    rw [this]
    exact unc_covered
theorem unc_zero : ∀ {X : List Path}, (∀ p ∈ X, p = []) → X ≠ [] → unc X = [[]]
  | [], _, h => absurd rfl h
  | p :: X, h, _ => by
    rw [h p (.head _)]
    exact unc_covered
theorem unc_top {n : Nat} {X : List Path} (h : [] ∈ X) (hn : ∀ p ∈ X, p.length ≤ n) : unc (sortP n X) = [[]] := by
  cases n with
  | zero => exact unc_zero (tl_zero hn) (List.ne_nil_of_mem h)
  | succ n =>
    unfold sortP
    have hm : [] ∈ X.filter (·.isEmpty) := List.mem_filter.mpr ⟨h, rfl⟩
    cases hf : X.filter (·.isEmpty) with
    | nil => rw [hf] at hm; cases hm
    | cons p F =>
      have hp : p = [] := by
        have : p ∈ X.filter (·.isEmpty) := by rw [hf]; exact .head _
        exact List.isEmpty_iff.mp (List.mem_filter.mp this).2
      rw [hp]
      exact unc_covered
theorem unc_halves {n : Nat} {X : List Path} (h : [] ∉ X) : unc (sortP (n + 1) X) = (unc (sortP n (tl false X))).map (false :: ·) ++ (unc (sortP n (tl true X))).map (true :: ·) := by
  rw [sortP_succ]
  have hf : X.filter (·.isEmpty) = [] := by
    rw [List.filter_eq_nil_iff]
    intro p hp he
    rw [List.isEmpty_iff.mp he] at hp
    exact h hp
  rw [hf, List.nil_append]
  unfold unc
  rw [List.foldl_append]
  have e1 := unc_half (c := false) (G := []) (by intro g e; cases e) (Y := sortP n (tl false X)) (H := [])
  simp only [List.nil_append, List.map_nil] at e1
  rw [e1]
  have e2 := unc_half (c := true) (G := ((sortP n (tl false X)).foldl unc1 []).map (false :: ·)) (fun g e y => ?_) (Y := sortP n (tl true X)) (H := [])
  · rwa [List.map_nil, List.append_nil] at e2
  · have hm := List.mem_of_getLast? e
    focus ((refine let G9 : Prop := _; (?_ : G9)); (obtain ⟨g', _, rfl⟩ := List.mem_map.mp hm); all_goals (unfold G9; clear G9))
    rfl
-- the stack
noncomputable def mg1 : List Path → Option (List Path)
  | p :: q :: S => if q = p.dropLast ++ [false] ∧ p = p.dropLast ++ [true] then some (p.dropLast :: S) else none
  | _ => none
noncomputable def mgN : Nat → List Path → List Path
  | 0, S => S
  | n + 1, S => match mg1 S with | some S' => mgN n S' | none => S
noncomputable def psh (S : List Path) (p : Path) : List Path := mgN (S.length + 1) (p :: S)
theorem mg1_two {p q : Path} {S : List Path} : mg1 (p :: q :: S) = if q = p.dropLast ++ [false] ∧ p = p.dropLast ++ [true] then some (p.dropLast :: S) else none := rfl
theorem psh_false {S : List Path} {π : Path} : psh S (π ++ [false]) = (π ++ [false]) :: S := by
  unfold psh mgN
  have : mg1 ((π ++ [false]) :: S) = none := by
    cases S with
    | nil => rfl
    | cons q S => simp [mg1]
  rw [this]
theorem psh_not {S : List Path} {π : Path} (h : ∀ t, S.head? = some t → t ≠ π ++ [false]) : psh S (π ++ [true]) = (π ++ [true]) :: S := by
  unfold psh mgN
  have : mg1 ((π ++ [true]) :: S) = none := by
    cases S with
    | nil => rfl
    | cons q S => simp [mg1, h q rfl]
  rw [this]
theorem psh_join {S : List Path} {π : Path} : psh ((π ++ [false]) :: S) (π ++ [true]) = psh S π := by
  unfold psh
  rw [mgN.eq_2]
  have : mg1 ((π ++ [true]) :: (π ++ [false]) :: S) = some (π :: S) := by simp [mg1]
  rw [this]
  rfl
set_option tactic.hygienic true in
theorem stack_eq : ∀ {n : Nat} {X : List Path} (hn : ∀ p ∈ X, p.length ≤ n) {π : Path} {S : List Path}, (∀ t, S.head? = some t → ¬ π <+: t) →
    ((unc (sortP n X)).map (π ++ ·)).foldl psh S = if canon n X = [[]] then psh S π else ((canon n X).map (π ++ ·)).reverse ++ S
  | 0, X, hn, π, S, hS => by
    by_cases h : [] ∈ X
    · rw [unc_top h hn, canon_of h, if_pos rfl]
      simp
    · have : X = [] := by
        cases X with
        | nil => rfl
        | cons p X => exact absurd (tl_zero hn p (.head _) ▸ List.Mem.head _) h
      subst this
      simp [sortP, unc, canon]
  | n + 1, X, hn, π, S, hS => by
    by_cases h : [] ∈ X
    · rw [unc_top h hn, canon_of h, if_pos rfl]
      simp
    · rw [unc_halves h, List.map_append, List.map_map, List.map_map, List.foldl_append]
      have e0 : ∀ Z : List Path, Z.map ((π ++ ·) ∘ (false :: ·)) = Z.map ((π ++ [false]) ++ ·) := fun Z => by congr 1; funext x; simp
      have e1 : ∀ Z : List Path, Z.map ((π ++ ·) ∘ (true :: ·)) = Z.map ((π ++ [true]) ++ ·) := fun Z => by congr 1; funext x; simp
      rw [e0, e1, stack_eq (tl_le hn) (π := π ++ [false]) (fun t ht hp => hS t ht ((List.prefix_append _ _).trans hp))]
      have hR : (if canon n (tl false X) = [[]] then psh S (π ++ [false]) else ((canon n (tl false X)).map ((π ++ [false]) ++ ·)).reverse ++ S) = ((canon n (tl false X)).map ((π ++ [false]) ++ ·)).reverse ++ S := by
        split
        · rename_i e
          rw [e, psh_false]
          simp
        · rfl
      rw [hR]
      generalize hC0 : canon n (tl false X) = C0 at *
      have hC0' : [] ∈ C0 → C0 = [[]] := fun q => by rw [← hC0] at q ⊢; exact canon_nil q
      have top : ∀ t, ((C0.map ((π ++ [false]) ++ ·)).reverse ++ S).head? = some t → (S.head? = some t ∧ C0 = []) ∨ ∃ z ∈ C0, t = (π ++ [false]) ++ z := fun t ht => by
        rcases List.eq_nil_or_concat C0 with rfl | ⟨C, z, rfl⟩
        · exact .inl ⟨by simpa using ht, rfl⟩
        · refine .inr ⟨z, by simp, ?_⟩
          simp at ht
          simp [ht]
      rw [stack_eq (tl_le hn) (π := π ++ [true]) (fun t ht hp => ?_)]
      · generalize hC1 : canon n (tl true X) = C1 at *
        have ec : canon (n + 1) X = joinH C0 C1 := by unfold canon; rw [if_neg h, hC0, hC1]
        rw [ec]
        have nj : ¬ (C0.map (false :: ·) ++ C1.map (true :: ·) = [[]]) := by
          intro q
          have : ([] : Path) ∈ C0.map (false :: ·) ++ C1.map (true :: ·) := by rw [q]; exact .head _
          simp at this
        by_cases h1 : C1 = [[]]
        · by_cases h0 : C0 = [[]]
          · have ej : joinH C0 C1 = [[]] := if_pos ⟨h0, h1⟩
            rw [ej, if_pos rfl, if_pos h1, h0]
            simp only [List.map_cons, List.map_nil, List.append_nil, List.reverse_cons, List.reverse_nil, List.nil_append, List.cons_append]
            exact psh_join
          · have ej : joinH C0 C1 = C0.map (false :: ·) ++ C1.map (true :: ·) := if_neg fun q => h0 q.1
            rw [ej, if_neg nj, if_pos h1, psh_not]
            · simp [h1, Function.comp_def]
            · intro t ht e
              rcases top t ht with ⟨q, _⟩ | ⟨z, hz, rfl⟩
              · exact hS t q (e ▸ List.prefix_append _ _)
              · have : z = [] := by simpa using e
                exact h0 (hC0' (this ▸ hz))
        · have ej : joinH C0 C1 = C0.map (false :: ·) ++ C1.map (true :: ·) := if_neg fun q => h1 q.2
          rw [ej, if_neg nj, if_neg h1]
          simp [Function.comp_def]
      · rcases top t ht with ⟨q, _⟩ | ⟨z, hz, rfl⟩
        · exact hS t q ((List.prefix_append _ _).trans hp)
        · focus ((refine let G9 : Prop := _; (?_ : G9)); (obtain ⟨w, e⟩ := hp); all_goals (unfold G9; clear G9))
          simp at e
noncomputable def aggP (Y : List Path) : List Path := ((unc Y).foldl psh []).reverse
set_option tactic.hygienic true in
theorem agg_eq {n : Nat} {X : List Path} (hn : ∀ p ∈ X, p.length ≤ n) : aggP (sortP n X) = canon n X := by
  have := stack_eq hn (π := []) (S := []) (by intro t h; cases h)
  simp only [List.nil_append, List.map_id', List.append_nil] at this
  unfold aggP
  rw [this]
  split
  · rename_i e
    rw [e]
    rfl
  · simp
-- weights
noncomputable def wt (b : Nat) : List Path → Nat
  | [] => 0
  | p :: X => 2 ^ (b - p.length) + wt b X
theorem wt_append {b : Nat} : ∀ {X Y : List Path}, wt b (X ++ Y) = wt b X + wt b Y
  | [], Y => by simp [wt]
  | p :: X, Y => by simp [wt, wt_append]; (first | lia | omega)
theorem wt_half {b : Nat} {c : Bool} : ∀ {X : List Path}, wt (b + 1) (X.map (c :: ·)) = wt b X
  | [] => rfl
  | p :: X => by simp [wt, wt_half]
theorem wt_unc : ∀ {n : Nat} {X : List Path}, (∀ p ∈ X, p.length ≤ n) → wt n (unc (sortP n X)) ≤ 2 ^ n
  | 0, X, hn => by
    by_cases h : [] ∈ X
    · rw [unc_top h hn]; simp [wt]
    · have : X = [] := by
        cases X with
        | nil => rfl
        | cons p X => exact absurd (tl_zero hn p (.head _) ▸ List.Mem.head _) h
      subst this
      simp [sortP, unc, wt]
  | n + 1, X, hn => by
    by_cases h : [] ∈ X
    · rw [unc_top h hn]; simp [wt]
    · rw [unc_halves h, wt_append, wt_half, wt_half]
      have h0 := wt_unc (n := n) (tl_le (c := false) hn)
      have h1 := wt_unc (n := n) (tl_le (c := true) hn)
      rw [Nat.pow_succ]
      (first | lia | omega)
theorem wt_len {b : Nat} : ∀ {X : List Path}, X.length ≤ wt b X
  | [] => Nat.le_refl _
  | p :: X => by
    have := wt_len (b := b) (X := X)
    have : 1 ≤ 2 ^ (b - p.length) := Nat.one_le_two_pow
    simp only [List.length_cons, wt]
    (first | lia | omega)
theorem mg1_wt {b : Nat} {S S' : List Path} (h : mg1 S = some S') (hb : ∀ p ∈ S, p.length ≤ b) : wt b S' = wt b S ∧ S'.length + 1 = S.length ∧ ∀ p ∈ S', p.length ≤ b := by
  match S, h with
  | p :: q :: S, h =>
    rw [mg1_two] at h
    by_cases e : q = p.dropLast ++ [false] ∧ p = p.dropLast ++ [true]
    · rw [if_pos e] at h
      obtain rfl := Option.some.inj h
      have hp := hb p (.head _)
      have lp : p.length = p.dropLast.length + 1 := by
        have := congrArg List.length e.2
        rw [List.length_append] at this
        exact this
      have lq : q.length = p.dropLast.length + 1 := by rw [e.1]; simp
      refine ⟨?_, rfl, fun r hr => ?_⟩
      · simp only [wt, lp, lq]
        have : b - p.dropLast.length = b - (p.dropLast.length + 1) + 1 := by (first | lia | omega)
        rw [this, Nat.pow_succ]
        have e3 : (p.dropLast.length + 1) - 1 = p.dropLast.length := rfl
        (first | lia | omega)
      · rcases List.mem_cons.mp hr with rfl | hr
        · (first | lia | omega)
        · exact hb r (.tail _ (.tail _ hr))
    · rw [if_neg e] at h
      cases h
theorem mgN_wt {b : Nat} : ∀ {n : Nat} {S : List Path}, (∀ p ∈ S, p.length ≤ b) → wt b (mgN n S) = wt b S ∧ ∀ p ∈ mgN n S, p.length ≤ b
  | 0, S, h => ⟨rfl, h⟩
  | n + 1, S, h => by
    unfold mgN
    cases e : mg1 S with
    | none => exact ⟨rfl, h⟩
    | some S' =>
      focus ((refine let G9 : Prop := _; (?_ : G9)); (obtain ⟨a, _, c⟩ := mg1_wt e h); all_goals (unfold G9; clear G9))
      focus ((refine let G9 : Prop := _; (?_ : G9)); (obtain ⟨a2, c2⟩ := mgN_wt (n := n) c); all_goals (unfold G9; clear G9))
      exact ⟨a2.trans a, c2⟩
end Mine
end
-- F3
section
open PySem PySem.W PyProof.Rows PySem.Calls PySem.Spec
namespace Mine
noncomputable def encL (b : Nat) (X : List Path) : List PyData := X.map (encD b)
noncomputable def prOf (b : Nat) (p : Path) : Int × Int := (adr b p, p.length)
theorem encL_pr {b : Nat} {X : List Path} : (X.map (prOf b)).map prD = encL b X := by rw [List.map_map]; rfl
theorem encL_append {b : Nat} {X Y : List Path} : encL b (X ++ Y) = encL b X ++ encL b Y := List.map_append
theorem encL_length {b : Nat} {X : List Path} : (encL b X).length = X.length := List.length_map _
theorem noLs_encL {b : Nat} {X : List Path} : noLs (encL b X) = true := noLs_of fun d hd => by
  focus ((refine let G9 : Prop := _; (?_ : G9)); (obtain ⟨p, _, rfl⟩ := List.mem_map.mp hd); all_goals (unfold G9; clear G9))
  rfl
theorem eqOk_encL {b : Nat} {X : List Path} : eqOk 8 (.list (encL b X)) = true := by
  show (encL b X).all (eqOk 7) = true
  rw [List.all_eq_true]
  intro d hd
  focus ((refine let G9 : Prop := _; (?_ : G9)); (obtain ⟨p, _, rfl⟩ := List.mem_map.mp hd); all_goals (unfold G9; clear G9))
  rfl
theorem encD_inj {b : Nat} (hb : Bits b) {p q : Path} (hp : p.length ≤ b) (hq : q.length ≤ b) (h : encD b p = encD b q) : p = q := by
  unfold encD at h
  simp only [PyData.tuple.injEq, List.cons.injEq, PyData.int.injEq, and_true] at h
  exact adr_inj hb hp hq (by (first | lia | omega)) (by (first | lia | omega))
theorem encD_iff {b : Nat} (hb : Bits b) {p q : Path} (hp : p.length ≤ b) (hq : q.length ≤ b) : encD b p = encD b q ↔ p = q := ⟨encD_inj hb hp hq, fun h => h ▸ rfl⟩
theorem encL_nil {b : Nat} {X : List Path} : encL b X = [] ↔ X = [] := by simp [encL]
noncomputable def chk8 (b : Nat) : Bool := (paths b).all fun p => (paths b).all fun q => decide (ple p q = true → prK (prOf b p) ≤ prK (prOf b q))
theorem chk8_3 : chk8 3 = true := by decide +kernel
theorem chk8_4 : chk8 4 = true := by decide +kernel
theorem ple_key {b : Nat} (hb : Bits b) {p q : Path} (hp : p.length ≤ b) (hq : q.length ≤ b) (h : ple p q = true) : prK (prOf b p) ≤ prK (prOf b q) := by
  have : chk8 b = true := by rcases hb with rfl | rfl; exact chk8_3; exact chk8_4
  exact of_decide_eq_true (List.all_eq_true.mp (List.all_eq_true.mp this p (mem_paths hp)) q (mem_paths hq)) h
theorem pr_ok {b : Nat} (hb : Bits b) {X : List Path} (h : ∀ p ∈ X, p.length ≤ b) : ∀ q ∈ X.map (prOf b), PrOk q := fun q hq => by
  focus ((refine let G9 : Prop := _; (?_ : G9)); (obtain ⟨p, hp, rfl⟩ := List.mem_map.mp hq); all_goals (unfold G9; clear G9))
  have := h p hp
  have := len_le hb
  constructor <;> simp [prOf] <;> (first | lia | omega)
theorem pr_sorted {b : Nat} (hb : Bits b) {Y : List Path} (h : ∀ p ∈ Y, p.length ≤ b) (hs : Y.Pairwise fun p q => ple p q = true) : (Y.map (prOf b)).Pairwise fun x y => prK x ≤ prK y := by
  rw [List.pairwise_map]
  refine List.Pairwise.imp_of_mem (fun {a c} ha hc e => ple_key hb (h a ha) (h c hc) e) hs
theorem f_cast {M : Model} {A : Around} {env : Env} {h₀ : Heap} {ρ : Ev} {t : Sem Value} {d d' : List PyData} (h : EvF M A env h₀ ρ t d') (e : d' = d) : EvF M A env h₀ ρ t d := e ▸ h
theorem src_cast {M : Model} {A : Around} {env : Env} {h₀ : Heap} {ρ : Ev} {t : Sem Value} {d d' : List PyData} (h : EvSrc M A env h₀ ρ t d') (e : d' = d) : EvSrc M A env h₀ ρ t d := e ▸ h
theorem encL_get {b : Nat} {Y : List Path} {i : Nat} {d : PyData} (h : (encL b Y)[i]? = some d) : ∃ p, Y[i]? = some p ∧ d = encD b p := by
  unfold encL at h
  rw [List.getElem?_map] at h
  cases e : Y[i]? with
  | none => rw [e] at h; cases h
  | some p => rw [e] at h; cases h; exact ⟨p, rfl, rfl⟩
theorem fold_take {α β : Type} {f : β → α → β} {Y : List α} {i : Nat} {p : α} {z : β} (h : Y[i]? = some p) : (Y.take (i + 1)).foldl f z = f ((Y.take i).foldl f z) p := by
  rw [List.take_add_one, h, Option.toList_some, List.foldl_append]; rfl
theorem unc1_or {F : List Path} {p : Path} : unc1 F p = if (decide (F = []) || !((F.getLast?.getD []).isPrefixOf p)) then F ++ [p] else F := by
  unfold unc1
  cases e : F.getLast? with
  | none => rw [List.getLast?_eq_none_iff] at e; subst e; simp
  | some q =>
    have hF : F ≠ [] := by rintro rfl; cases e
    simp only [hF, decide_false, Bool.false_or, Option.getD_some]
    cases q.isPrefixOf p <;> simp
theorem unc1_len {F : List Path} {p : Path} : (unc1 F p).length ≤ F.length + 1 := by
  rw [unc1_or]
  split <;> simp
theorem unc_len : ∀ {Y F : List Path}, (Y.foldl unc1 F).length ≤ F.length + Y.length
  | [], F => by simp
  | y :: Y, F => by
    have := unc_len (Y := Y) (F := unc1 F y)
    have := unc1_len (F := F) (p := y)
    simp only [List.foldl_cons, List.length_cons]
    (first | lia | omega)
theorem unc_le {k : Nat} : ∀ {Y F : List Path}, (∀ p ∈ Y, p.length ≤ k) → (∀ p ∈ F, p.length ≤ k) → ∀ p ∈ Y.foldl unc1 F, p.length ≤ k
  | [], F, _, h => h
  | y :: Y, F, hY, h => by
    refine unc_le (Y := Y) (F := unc1 F y) (fun p hp => hY p (.tail _ hp)) (fun p hp => ?_)
    have key : p ∈ F ++ [y] := by
      rw [unc1_or] at hp
      split at hp
      · exact hp
      · exact List.mem_append_left _ hp
    rcases List.mem_append.mp key with q | q
    · exact h p q
    · rw [List.mem_singleton.mp q]; exact hY y (.head _)
theorem encL_last {b : Nat} {F : List Path} (h : F ≠ []) : (encL b F)[(-1 + ((encL b F).length : Int)).toNat]? = some (encD b (F.getLast?.getD [])) := by
  focus ((refine let G9 : Prop := _; (?_ : G9)); (obtain ⟨F', z, rfl⟩ : ∃ F' z, F = F' ++ [z] := ⟨_, _, (List.dropLast_concat_getLast h).symm⟩); all_goals (unfold G9; clear G9))
  have e : (-1 + ((encL b (F' ++ [z])).length : Int)).toNat = F'.length := by rw [encL_length]; simp; (first | lia | omega)
  rw [e]
  unfold encL
  rw [List.getElem?_map, List.getElem?_append_right (Nat.le_refl _)]
  simp
theorem last_le {k : Nat} {F : List Path} (h : ∀ p ∈ F, p.length ≤ k) : (F.getLast?.getD []).length ≤ k := by
  cases e : F.getLast? with
  | none => simp
  | some q => exact h q (List.mem_of_getLast? e)
section
variable {prog : Program} {w : World} {mg mb : Str → Option Value}
theorem fn_uncovered {X : List Path} {b : Nat} (hb : Bits b) (hX : ∀ p ∈ X, p.length ≤ b) (h64 : X.length < 64) : FnF prog w mg mb (Str.ofString "uncovered") [.list (encL b X), .int b] (encL b (unc (sortP b X))) 4 := by
  refine FnF.in2 (by k_is) fun A s v1 v2 R G r1 r2 => ?_
  refine enterF R G (by k_is) (by k_is) rfl rfl (envR_cons (x := Str.ofString "some") rfl r1 (envR_cons (x := Str.ofString "bits") rfl r2 envR_nil)) rfl rfl rfl (by decide) fun L R => ?_
  have hperm : (sortP b X).Perm X := sortP_perm
  have hY : ∀ p ∈ sortP b X, p.length ≤ b := sortP_le hX
  have hs := sortP_sorted (n := b) hX
  generalize sortP b X = Y at *
  have hlen : Y.length < 64 := hperm.length_eq ▸ h64
  refine x_seq (x_assignF (f_list l_nil (Nat.zero_le _)) rfl rfl rfl rfl) ?_
  refine x_seq (x_for (ds := encL b Y) (fun i => [(Str.ofString "found", .own (encL b ((Y.take i).foldl unc1 []))), (Str.ofString "bits", .val (.int b))]) R.2.2
    (src_cast (EvF.src (f_sorted (ps := X.map (prOf b)) (out := Y.map (prOf b)) G (d_cast (d_name rfl rfl rfl) (by rw [encL_pr])) (pr_ok hb hX) (by simpa using h64) (hperm.map _) (pr_sorted hb hY hs) (by k_is) rfl rfl rfl rfl)) encL_pr)
    (of_noLs noLs_encL) (by repeat (first | exact less_nil | refine less_cons rfl ?_)) (.loc rfl rfl) rfl (fun i d hd => ?_)) ?_
  · focus ((refine let G9 : Prop := _; (?_ : G9)); (obtain ⟨p, hp, rfl⟩ := encL_get hd); all_goals (unfold G9; clear G9))
    have hpb := hY p (List.mem_of_getElem? hp)
    rw [fold_take hp]
    have hF : ∀ q ∈ (Y.take i).foldl unc1 [], q.length ≤ b := unc_le (fun q hq => hY q (List.mem_of_mem_take hq)) (fun _ h => nomatch h)
    have hFl : ((Y.take i).foldl unc1 []).length ≤ 64 := by
      have := unc_len (Y := Y.take i) (F := [])
      have := List.length_take_le i Y
      simp at *
      (first | lia | omega)
    generalize (Y.take i).foldl unc1 [] = F at *
    refine x_if (β := decide (F = []) || !((F.getLast?.getD []).isPrefixOf p)) (ρ1 := [(Str.ofString "found", .own (encL b (unc1 F p))), (Str.ofString "bits", .val (.int b))])
      (b_or (b_cmp (d_own rfl rfl rfl) (EvF.d (f_list l_nil (Nat.zero_le _))) (o_eq eqOk_encL rfl ?_ R.units)) fun h => b_not (b_value (d_call G R (by decide) (fn_covers (p := F.getLast?.getD []) hb ?_ hpb) (l_cons (d_sub_back (d_own rfl rfl rfl) (d_neg d_int) (by decide) (by decide) ?_ ?_) (l_cons (d_name rfl rfl rfl) (l_cons (d_name rfl rfl rfl) l_nil))) (by k_is) (by k_is) rfl rfl rfl))) (fun h => ?_) (fun h => ?_) (x_nil (by repeat (first | exact less_nil | refine less_cons rfl ?_)))
    · rw [decide_eq_true_iff, PyData.list.injEq, encL_nil]
    · exact last_le hF
    · have hF : F ≠ [] := of_decide_eq_false h
      have := List.length_pos_iff.mpr hF
      rw [encL_length]
      (first | lia | omega)
    · exact encL_last (of_decide_eq_false h)
    · rw [unc1_or, if_pos h, encL_append]
      exact x_seq (x_append rfl rfl (d_name rfl rfl rfl) rfl (by rw [encL_length]; (first | lia | omega)) rfl rfl) (x_nil (by repeat (first | exact less_nil | refine less_cons rfl ?_)))
    · rw [unc1_or, if_neg (by rw [h]; decide)]
      exact x_nil (by repeat (first | exact less_nil | refine less_cons rfl ?_))
  · rw [encL_length, List.take_length]
    exact x_retO rfl rfl rfl
theorem mgN_none {n : Nat} {S : List Path} (h : mg1 S = none) : mgN n S = S := by
  cases n with
  | zero => rfl
  | succ n => unfold mgN; rw [h]
theorem wt_pos {b : Nat} {p : Path} : 1 ≤ 2 ^ (b - p.length) := Nat.one_le_two_pow
theorem psh_wt {b : Nat} {S : List Path} {p : Path} (h : ∀ q ∈ S, q.length ≤ b) (hp : p.length ≤ b) : wt b (psh S p) = 2 ^ (b - p.length) + wt b S ∧ ∀ q ∈ psh S p, q.length ≤ b :=
  mgN_wt (S := p :: S) fun q hq => by
    rcases List.mem_cons.mp hq with rfl | hq
    · exact hp
    · exact h q hq
theorem fold_wt {b : Nat} : ∀ {Z S : List Path}, (∀ q ∈ S, q.length ≤ b) → (∀ q ∈ Z, q.length ≤ b) → wt b (Z.foldl psh S) = wt b Z + wt b S ∧ ∀ q ∈ Z.foldl psh S, q.length ≤ b
  | [], S, h, _ => ⟨by simp [wt], h⟩
  | p :: Z, S, h, hZ => by
    focus ((refine let G9 : Prop := _; (?_ : G9)); (obtain ⟨e, h'⟩ := psh_wt h (hZ p (.head _))); all_goals (unfold G9; clear G9))
    focus ((refine let G9 : Prop := _; (?_ : G9)); (obtain ⟨e2, h2⟩ := fold_wt (Z := Z) h' fun q hq => hZ q (.tail _ hq)); all_goals (unfold G9; clear G9))
    exact ⟨by rw [List.foldl_cons, e2, e]; simp [wt]; (first | lia | omega), h2⟩
theorem wt_take {b : Nat} {Z : List Path} {i : Nat} {p : Path} (h : Z[i]? = some p) : 2 ^ (b - p.length) + wt b (Z.take i) ≤ wt b Z := by
  have e : Z = Z.take i ++ Z.drop i := (List.take_append_drop i Z).symm
  have hd : Z.drop i = p :: Z.drop (i + 1) := by
    focus ((refine let G9 : Prop := _; (?_ : G9)); (obtain ⟨hi, rfl⟩ := List.getElem?_eq_some_iff.mp h); all_goals (unfold G9; clear G9))
    exact List.drop_eq_getElem_cons hi
  have : wt b Z = wt b (Z.take i) + wt b (Z.drop i) := by rw [← wt_append, ← e]
  rw [this, hd]
  simp only [wt]
  (first | lia | omega)
theorem encL_back1 {b : Nat} {S : List Path} {p : Path} : (encL b (p :: S).reverse)[(-1 + ((encL b (p :: S).reverse).length : Int)).toNat]? = some (encD b p) := by
  have := encL_last (b := b) (F := (p :: S).reverse) (by simp)
  simpa using this
theorem encL_back2 {b : Nat} {S : List Path} {p q : Path} : (encL b (p :: q :: S).reverse)[(-2 + ((encL b (p :: q :: S).reverse).length : Int)).toNat]? = some (encD b q) := by
  have e : (-2 + ((encL b (p :: q :: S).reverse).length : Int)).toNat = S.length := by rw [encL_length]; simp; (first | lia | omega)
  rw [e]
  unfold encL
  rw [List.getElem?_map, List.reverse_cons, List.reverse_cons, List.append_assoc, List.getElem?_append_right (by simp)]
  simp
theorem enc_join {b : Nat} {t u x : Path} {T : List Path} : (encL b (t :: u :: T).reverse).take T.length ++ [encD b x] = encL b (x :: T).reverse := by
  have e : encL b (t :: u :: T).reverse = encL b T.reverse ++ [encD b u, encD b t] := by simp [encL]
  rw [e, List.take_left' (by simp [encL])]
  simp [encL]
theorem fn_aggregated {X : List Path} {b : Nat} (hb : Bits b) (hX : ∀ p ∈ X, p.length ≤ b) (h64 : X.length < 64) : FnF prog w mg mb (Str.ofString "aggregated") [.list (encL b X), .int b] (encL b (canon b X)) 5 := by
  rw [← agg_eq hX]
  refine FnF.in2 (by k_is) fun A s v1 v2 R G r1 r2 => ?_
  refine enterF R G (by k_is) (by k_is) rfl rfl (envR_cons (x := Str.ofString "some") rfl r1 (envR_cons (x := Str.ofString "bits") rfl r2 envR_nil)) rfl rfl rfl (by decide) fun L R => ?_
  have hb4 := len_le hb
  have hw : wt b (unc (sortP b X)) ≤ 2 ^ b := wt_unc hX
  have hZ : ∀ p ∈ unc (sortP b X), p.length ≤ b := unc_le (sortP_le hX) fun _ h => nomatch h
  have hun := fn_uncovered (prog := prog) (w := w) (mg := mg) (mb := mb) hb hX h64
  unfold aggP
  generalize unc (sortP b X) = Z at *
  have p16 : 2 ^ b ≤ 16 := (pow4 hb4).2
  refine x_seq (x_assignF (f_list l_nil (Nat.zero_le _)) rfl rfl rfl rfl) ?_
  refine x_seq (x_for (ds := encL b Z) (fun i => [(Str.ofString "found", .own (encL b ((Z.take i).foldl psh []).reverse)), (Str.ofString "bits", .val (.int b))]) R.2.2
    (EvF.src (f_call G R (by decide) hun (l_cons (d_name rfl rfl rfl) (l_cons (d_name rfl rfl rfl) l_nil)) (by k_is) (by k_is) rfl rfl rfl))
    (of_noLs noLs_encL) (by repeat (first | exact less_nil | refine less_cons rfl ?_)) (.loc rfl rfl) rfl (fun i d hd => ?_)) ?_
  · focus ((refine let G9 : Prop := _; (?_ : G9)); (obtain ⟨p, hp, rfl⟩ := encL_get hd); all_goals (unfold G9; clear G9))
    have hpb := hZ p (List.mem_of_getElem? hp)
    rw [fold_take hp]
    focus ((refine let G9 : Prop := _; (?_ : G9)); (obtain ⟨e1, e2⟩ := fold_wt (b := b) (Z := Z.take i) (S := []) (fun _ h => nomatch h) (fun q hq => hZ q (List.mem_of_mem_take hq))); all_goals (unfold G9; clear G9))
    have e3 := wt_take (b := b) hp
    have e4 : wt b ([] : List Path) = 0 := rfl
    generalize (Z.take i).foldl psh [] = S at *
    have e5 := wt_pos (b := b) (p := p)
    have hS16 : S.length ≤ 16 := Nat.le_trans (wt_len (b := b)) (by (first | lia | omega))
    refine x_seq (x_append rfl rfl (d_name rfl rfl rfl) rfl (by rw [encL_length, List.length_reverse]; (first | lia | omega)) rfl rfl) ?_
    refine x_while (σ := List Path) (fun T => (∀ q ∈ T, q.length ≤ b) ∧ wt b T ≤ 2 ^ b ∧ mgN T.length T = psh S p) (fun T => [(Str.ofString "found", .own (encL b T.reverse)), (Str.ofString "bits", .val (.int b))])
      (fun T => (mg1 T).isSome) (fun T => (mg1 T).getD T) (fun T => T.length) (fun T hT => ?_) (fun T hT hc => ?_) (fun T hT hc => ?_) (fun T hT hc => ?_) (p :: S) ⟨?_, ?_, rfl⟩ ?_
    · focus ((refine let G9 : Prop := _; (?_ : G9)); (obtain ⟨hT1, hT2, hT3⟩ := hT); all_goals (unfold G9; clear G9))
      have hT16 : T.length ≤ 16 := Nat.le_trans (wt_len (b := b)) (by (first | lia | omega))
      match T, hT1, hT2, hT3, hT16 with
      | [], _, _, _, _ => exact b_cast (b_and (c := false) (b_cmp (d_len G (d_own rfl rfl rfl) (Nat.zero_le _) (by k_is) rfl rfl rfl rfl) d_int o_gt) fun h => nomatch h) rfl
      | [t], _, _, _, _ => exact b_cast (b_and (c := false) (b_cmp (d_len G (d_own rfl rfl rfl) (Nat.le_of_ble_eq_true rfl) (by k_is) rfl rfl rfl rfl) d_int o_gt) fun h => nomatch h) rfl
      | t :: u :: T, hT1, hT2, hT3, hT16 =>
        have ht := hT1 t (.head _)
        have hu := hT1 u (.tail _ (.head _))
        have hne : t ≠ [] := by
          rintro rfl
          have := wt_pos (b := b) (p := u)
          simp only [wt, List.length_nil, Nat.sub_zero] at hT2
          (first | lia | omega)
        have hl : 0 < t.length := List.length_pos_iff.mpr hne
        have hdl : t.dropLast.length < b := by rw [List.length_dropLast]; (first | lia | omega)
        refine b_cast (b_and (c := decide (u = t.dropLast ++ [false] ∧ t = t.dropLast ++ [true])) (b_cmp (d_len G (d_own rfl rfl rfl) (by rw [encL_length, List.length_reverse]; (first | lia | omega)) (by k_is) rfl rfl rfl rfl) d_int o_gt) fun _ => ?_) ?_
        · refine b_cmp (d_call G R (by decide) (fn_halves_of hb hdl) (l_cons (d_call G R (by decide) (fn_parent_of hb ht hne) (l_cons (d_sub_back (d_own rfl rfl rfl) (d_neg d_int) (by decide) (by decide) (by rw [encL_length]; simp; (first | lia | omega)) encL_back1) (l_cons (d_name rfl rfl rfl) l_nil)) (by k_is) (by k_is) rfl rfl rfl) (l_cons (d_name rfl rfl rfl) l_nil)) (by k_is) (by k_is) rfl rfl rfl)
            (d_tuple (l_cons (d_sub_back (d_own rfl rfl rfl) (d_neg d_int) (by decide) (by decide) (by rw [encL_length]; simp; (first | lia | omega)) encL_back2) (l_cons (d_sub_back (d_own rfl rfl rfl) (d_neg d_int) (by decide) (by decide) (by rw [encL_length]; simp; (first | lia | omega)) encL_back1) l_nil)) (Nat.le_of_ble_eq_true rfl)) (o_eq rfl rfl ?_ R.units)
          rw [decide_eq_true_iff, PyData.tuple.injEq, List.cons.injEq, List.cons.injEq, encD_iff hb (by simp; (first | lia | omega)) hu, encD_iff hb (by simp; (first | lia | omega)) ht]
          constructor
          · exact fun ⟨h1, h2⟩ => ⟨h1.symm, h2.symm, rfl⟩
          · exact fun ⟨h1, h2, _⟩ => ⟨h1.symm, h2.symm⟩
        · rw [mg1_two]
          have : decide ((1 : Int) < ((encL b (t :: u :: T).reverse).length : Int)) = true := decide_eq_true (by rw [encL_length]; simp; (first | lia | omega))
          rw [this, Bool.true_and]
          by_cases h : u = t.dropLast ++ [false] ∧ t = t.dropLast ++ [true]
          · rw [decide_eq_true h, if_pos h]; rfl
          · rw [decide_eq_false h, if_neg h]; rfl
    · focus ((refine let G9 : Prop := _; (?_ : G9)); (obtain ⟨hT1, hT2, hT3⟩ := hT); all_goals (unfold G9; clear G9))
      have hT16 : T.length ≤ 16 := Nat.le_trans (wt_len (b := b)) (by (first | lia | omega))
      match T, hT1, hT2, hT3, hT16, hc with
      | t :: u :: T, hT1, hT2, hT3, hT16, hc =>
        rw [mg1_two] at hc ⊢
        by_cases h : u = t.dropLast ++ [false] ∧ t = t.dropLast ++ [true]
        · have ht := hT1 t (.head _)
          have hne : t ≠ [] := by rw [h.2]; simp
          rw [if_pos h, Option.getD_some]
          refine x_seq (x_assign (d := encD b t.dropLast) (d_call G R (by decide) (fn_parent_of hb ht hne) (l_cons (d_sub_back (d_own rfl rfl rfl) (d_neg d_int) (by decide) (by decide) (by rw [encL_length]; simp; (first | lia | omega)) encL_back1) (l_cons (d_name rfl rfl rfl) l_nil)) (by k_is) (by k_is) rfl rfl rfl) rfl (.loc rfl rfl) rfl) ?_
          refine x_seq (x_assignF (ds := encL b (t.dropLast :: T).reverse) (f_cast (f_cat (EvF.d (f_slice_to (b := T.length) (d_own rfl rfl rfl) (d_cast (d_sub (d_len G (d_own rfl rfl rfl) (by rw [encL_length, List.length_reverse]; (first | lia | omega)) (by k_is) rfl rfl rfl rfl) d_int) ?_) (by rw [encL_length, List.length_reverse]; (first | lia | omega)))) (EvF.d (f_list (l_cons (d_name rfl rfl rfl) l_nil) (Nat.le_of_ble_eq_true rfl))) ?_) ?_) noLs_encL rfl rfl rfl) (x_nil (by repeat (first | exact less_nil | refine less_cons rfl ?_)))
          · congr 1
            rw [encL_length, List.length_reverse, List.length_cons, List.length_cons]
            (first | lia | omega)
          · rw [List.length_take]
            simp
            have : T.length ≤ 16 := by simp at hT16; (first | lia | omega)
            (first | lia | omega)
          · exact enc_join
        · rw [if_neg h] at hc
          cases hc
    · focus ((refine let G9 : Prop := _; (?_ : G9)); (obtain ⟨hT1, hT2, hT3⟩ := hT); all_goals (unfold G9; clear G9))
      focus ((refine let G9 : Prop := _; (?_ : G9)); (obtain ⟨T', hT'⟩ := Option.isSome_iff_exists.mp hc); all_goals (unfold G9; clear G9))
      focus ((refine let G9 : Prop := _; (?_ : G9)); (obtain ⟨a1, a2, a3⟩ := mg1_wt hT' hT1); all_goals (unfold G9; clear G9))
      rw [hT', Option.getD_some]
      refine ⟨⟨a3, by (first | lia | omega), ?_⟩, by (first | lia | omega)⟩
      rw [← hT3, ← a2, mgN.eq_2, hT']
    · focus ((refine let G9 : Prop := _; (?_ : G9)); (obtain ⟨hT1, hT2, hT3⟩ := hT); all_goals (unfold G9; clear G9))
      have : mg1 T = none := Option.isNone_iff_eq_none.mp (by cases h : mg1 T with | none => rfl | some _ => rw [h] at hc; cases hc)
      rw [mgN_none this] at hT3
      subst hT3
      exact x_nil (by repeat (first | exact less_nil | refine less_cons rfl ?_))
    · intro q hq
      rcases List.mem_cons.mp hq with rfl | hq
      · exact hpb
      · exact e2 q hq
    · simp only [wt]; (first | lia | omega)
    · exact less_cons (by rw [List.reverse_cons, encL_append]; rfl) (less_cons rfl less_nil)
  · rw [encL_length, List.take_length]
    exact x_retO rfl rfl rfl
end
end Mine
end
-- F4
section
open PySem PySem.W PyProof.Rows PySem.Calls PySem.Spec
namespace Mine
noncomputable def minusP : Path → List Path
  | [] => []
  | false :: r => (minusP r).map (false :: ·) ++ [[true]]
  | true :: r => [false] :: (minusP r).map (true :: ·)
noncomputable def rawR : Path → List Path
  | [] => []
  | c :: s => ((!c) :: s).reverse :: rawR s
theorem rawR_snoc {c : Bool} : ∀ {s : Path}, rawR (s ++ [c]) = (rawR s).map (c :: ·) ++ [[!c]]
  | [] => rfl
  | x :: s => by simp [rawR, rawR_snoc]
theorem raw_perm : ∀ {r : Path}, (rawR r.reverse).Perm (minusP r)
  | [] => .refl _
  | false :: r => by
    rw [List.reverse_cons, rawR_snoc]
    exact (raw_perm.map _).append (.refl _)
  | true :: r => by
    rw [List.reverse_cons, rawR_snoc]
    refine List.perm_append_comm.trans ?_
    exact (raw_perm.map _).cons _
theorem minus_sorted : ∀ {r : Path}, (minusP r).Pairwise fun p q => ple p q = true
  | [] => .nil
  | false :: r => by
    unfold minusP
    rw [List.pairwise_append, List.pairwise_map]
    refine ⟨minus_sorted.imp fun {a b} e => by simpa [ple] using e, List.pairwise_singleton _ _, fun a ha b hb => ?_⟩
    focus ((refine let G9 : Prop := _; (?_ : G9)); (obtain ⟨a', _, rfl⟩ := List.mem_map.mp ha); all_goals (unfold G9; clear G9))
    rw [List.mem_singleton.mp hb]
    rfl
  | true :: r => by
    unfold minusP
    rw [List.pairwise_cons, List.pairwise_map]
    refine ⟨fun a ha => ?_, minus_sorted.imp fun {a b} e => by simpa [ple] using e⟩
    focus ((refine let G9 : Prop := _; (?_ : G9)); (obtain ⟨a', _, rfl⟩ := List.mem_map.mp ha); all_goals (unfold G9; clear G9))
    rfl
theorem ple_under : ∀ {π p q : Path}, ple p q = true → ple (π ++ p) (π ++ q) = true
  | [], _, _, h => h
  | x :: π, p, q, h => by simpa [ple] using ple_under (π := π) h
theorem minus_len : ∀ {r : Path}, (minusP r).length = r.length
  | [] => rfl
  | false :: r => by simp [minusP, minus_len]
  | true :: r => by simp [minusP, minus_len]
theorem minus_le : ∀ {r : Path}, ∀ p ∈ minusP r, p.length ≤ r.length
  | [], _, h => nomatch h
  | false :: r, p, h => by
    rcases List.mem_append.mp h with h | h
    · focus ((refine let G9 : Prop := _; (?_ : G9)); (obtain ⟨a, ha, rfl⟩ := List.mem_map.mp h); all_goals (unfold G9; clear G9))
      have := minus_le a ha
      simp; omega
    · rw [List.mem_singleton.mp h]; simp
  | true :: r, p, h => by
    rcases List.mem_cons.mp h with rfl | h
    · simp
    · focus ((refine let G9 : Prop := _; (?_ : G9)); (obtain ⟨a, ha, rfl⟩ := List.mem_map.mp h); all_goals (unfold G9; clear G9))
      have := minus_le a ha
      simp; omega
theorem one_cell {env : Env} {y : Str} {c : Addr} (hc : env.cells = [(y, c)]) (hk : env.kindOf y = some .cell) : ∀ x, env.kindOf x = some .local → env.cells.lookup x = none := fun x hx => by
  rw [hc]
  have : x ≠ y := by rintro rfl; rw [hk] at hx; cases hx
  rw [lookup_cons_ne this]
  rfl
theorem one_spot {env : Env} {h₀ : Heap} {y : Str} {c : Addr} (hc : env.cells = [(y, c)]) (hk : env.kindOf y = some .cell) (hf : ∀ n c, env.cells.lookup n = some c → h₀.get? c = none) : Spot env h₀ y := by
  have e : env.cells.lookup y = some c := by rw [hc, lookup_cons_self]
  refine .cell c hk e (hf y c e) fun n hn => ?_
  rw [hc] at hn
  by_cases h : n = y
  · exact h
  · rw [lookup_cons_ne h] at hn
    cases hn
theorem one_lookup {y n : Str} {c d : Addr} (h : List.lookup n [(y, c)] = some d) : n = y ∧ d = c := by
  by_cases e : n = y
  · subst e
    rw [lookup_cons_self] at h
    exact ⟨rfl, (Option.some.inj h).symm⟩
  · rw [lookup_cons_ne e] at h
    cases h
theorem eqv_dec {d e : PyData} (hd : eqOk 8 d = true) (he : eqOk 8 e = true) : PyData.eqv d e = true ↔ d = e := eqOk_eqv 8 d e 8 hd he
theorem half_pick {b : Nat} (hb : Bits b) {u : Path} {x : Bool} (h : u.length < b) : ([encD b (u ++ [false]), encD b (u ++ [true])].filter fun d => !(PyData.eqv d (encD b (u ++ [x])))).map id = [encD b (u ++ [!x])] := by
  have e : ∀ z : Bool, PyData.eqv (encD b (u ++ [z])) (encD b (u ++ [x])) = decide (z = x) := fun z => by
    have := eqv_dec (d := encD b (u ++ [z])) (e := encD b (u ++ [x])) rfl rfl
    rw [encD_iff hb (by simp; (first | lia | omega)) (by simp; (first | lia | omega))] at this
    by_cases hz : z = x
    · rw [decide_eq_true hz]; exact this.mpr (by rw [hz])
    · rw [decide_eq_false hz, Bool.eq_false_iff]
      intro q
      have := this.mp q
      simp at this
      exact hz this
  simp only [List.filter_cons, e, List.filter_nil, List.map_id]
  cases x <;> simp
section
variable {prog : Program} {w : World} {mg mb : Str → Option Value}
theorem fn_minus_prefix {π r : Path} {b : Nat} (hb : Bits b) (hr : (π ++ r).length ≤ b) : FnF prog w mg mb (Str.ofString "minus_prefix") [encD b π, encD b (π ++ r), .int b] (encL b ((minusP r).map (π ++ ·))) 5 := by
  refine FnF.in3 (by k_is) fun A s v1 v2 v3 R G r1 r2 r3 => ?_
  refine enterFC R G (by k_is) (by k_is) rfl rfl (fun L => envR_cons (x := Str.ofString "whole") rfl r1 (envR_cons (x := Str.ofString "part") rfl r2 (envR_cons (x := Str.ofString "bits") rfl r3 envR_nil))) ?_ rfl rfl rfl fun L hfr R => ?_
  · exact fun L => one_cell rfl rfl
  have sp : Spot _ _ (Str.ofString "part") := one_spot rfl rfl hfr
  have hlen : π.length + r.length ≤ b := by rw [List.length_append] at hr; exact hr
  have hb4 := len_le hb
  refine x_seq (x_assignF (f_list l_nil (Nat.zero_le _)) rfl rfl rfl rfl) ?_
  refine x_while (σ := Path × List Path) (fun x => (x.2 ++ rawR x.1).Perm (minusP r) ∧ π.length + x.1.length ≤ b) (fun x => [(Str.ofString "part", .val (encD b (π ++ x.1.reverse))), (Str.ofString "found", .own (encL b (x.2.map (π ++ ·)))), (Str.ofString "whole", .val (encD b π)), (Str.ofString "bits", .val (.int b))])
    (fun x => !decide (x.1 = [])) (fun x => match x.1 with | [] => x | c :: s => (s, x.2 ++ [((!c) :: s).reverse])) (fun x => x.1.length) (fun x hx => ?_) (fun x hx hc => ?_) (fun x hx hc => ?_) (fun x hx hc => ?_) (r.reverse, []) ⟨raw_perm, by simpa using hlen⟩ ?_
  · refine b_cmp (d_cell rfl rfl rfl rfl) (d_name rfl rfl rfl) (o_ne rfl rfl ?_ R.units)
    rw [decide_eq_true_iff, encD_iff hb (by simp; (first | lia | omega)) (by (first | lia | omega))]
    simp
  · focus ((refine let G9 : Prop := _; (?_ : G9)); (obtain ⟨s, F⟩ := x); all_goals (unfold G9; clear G9))
    cases s with
    | nil => cases hc
    | cons c s =>
      focus ((refine let G9 : Prop := _; (?_ : G9)); (obtain ⟨hp, hs⟩ := hx); all_goals (unfold G9; clear G9))
      simp only [List.length_cons] at hs
      have hu : (π ++ s.reverse).length < b := by simp; (first | lia | omega)
      have e1 : π ++ (c :: s).reverse = (π ++ s.reverse) ++ [c] := by simp
      have hF : F.length ≤ 64 := by
        have := hp.length_eq
        rw [minus_len] at this
        simp at this
        (first | lia | omega)
      simp only [e1]
      refine x_seq (x_assign (d := encD b (π ++ s.reverse)) (d_cast (d_call G R (by decide) (fn_parent_of (p := (π ++ s.reverse) ++ [c]) hb (by simp; simp at hu; (first | lia | omega)) (by simp)) (l_cons (d_cell rfl rfl rfl rfl) (l_cons (d_name rfl rfl rfl) l_nil)) (by k_is) (by k_is) rfl rfl rfl) (by rw [List.dropLast_concat])) rfl (.loc rfl rfl) rfl) ?_
      refine x_seq (x_append (d := encD b ((π ++ s.reverse) ++ [!c])) rfl rfl (d_sub_list (d_cast (EvF.d (f_comp (p := fun d => !(PyData.eqv d (encD b ((π ++ s.reverse) ++ [c])))) (f := id) (cl := [(Str.ofString "part", _)]) R.2.2 (EvD.src (d_call G R (by decide) (fn_halves_of hb hu) (l_cons (d_name rfl rfl rfl) (l_cons (d_name rfl rfl rfl) l_nil)) (by k_is) (by k_is) rfl rfl rfl)) ?_ (Nat.le_of_ble_eq_true rfl) ?_ rfl ?_ (by decide) rfl (by decide) rfl ?_ [(Str.ofString "part", .val (encD b ((π ++ s.reverse) ++ [c])))] ?_ (fun C h₁ d hd hk => ?_) (fun C h₁ d hd hpd hk => ?_))) (congrArg PyData.list (half_pick hb hu))) d_int (by decide) (by decide) rfl) rfl (by rw [encL_length, List.length_map]; (first | lia | omega)) rfl rfl) ?_
      · intro d hd
        simp only [List.mem_cons, List.not_mem_nil, or_false] at hd
        rcases hd with rfl | rfl <;> rfl
      · intro d hd
        simp only [List.mem_cons, List.not_mem_nil, or_false] at hd
        rcases hd with rfl | rfl <;> rfl
      · intro n c h
        focus ((refine let G9 : Prop := _; (?_ : G9)); (obtain ⟨rfl, rfl⟩ := one_lookup h); all_goals (unfold G9; clear G9))
        exact ⟨rfl, by decide⟩
      · intro C y h
        by_cases e : y = Str.ofString "part"
        · subst e
          exact absurd (show some NameKind.cell = some NameKind.local from h) (by decide)
        · rw [lookup_cons_ne e]
          rfl
      · intro q hq
        rcases List.mem_singleton.mp hq with rfl
        exact ⟨rfl, rfl, .inl ⟨_, rfl, rfl⟩⟩
      · refine t_one (b_cmp (d_name rfl rfl rfl) (d_cell rfl rfl rfl rfl) (o_ne ?_ rfl (eqv_dec ?_ rfl) R.units)) <;>
        · simp only [List.mem_cons, List.not_mem_nil, or_false] at hd
          rcases hd with rfl | rfl <;> rfl
      · exact d_name rfl rfl rfl
      · refine x_seq (x_assign (d := encD b (π ++ s.reverse)) (d_name rfl rfl rfl) rfl sp rfl) (x_nil (less_cons rfl (less_cons ?_ (by repeat (first | exact less_nil | refine less_cons rfl ?_)))))
        have : encL b ((F ++ [((!c) :: s).reverse]).map (π ++ ·)) = encL b (F.map (π ++ ·)) ++ [encD b ((π ++ s.reverse) ++ [!c])] := by simp [encL]
        rw [this]
        rfl
  · focus ((refine let G9 : Prop := _; (?_ : G9)); (obtain ⟨s, F⟩ := x); all_goals (unfold G9; clear G9))
    cases s with
    | nil => cases hc
    | cons c s =>
      focus ((refine let G9 : Prop := _; (?_ : G9)); (obtain ⟨hp, hs⟩ := hx); all_goals (unfold G9; clear G9))
      simp only [List.length_cons] at hs
      refine ⟨⟨?_, by show π.length + s.length ≤ b; (first | lia | omega)⟩, Nat.lt_succ_self _⟩
      simpa [rawR] using hp
  · focus ((refine let G9 : Prop := _; (?_ : G9)); (obtain ⟨s, F⟩ := x); all_goals (unfold G9; clear G9))
    obtain rfl : s = [] := by simpa using hc
    focus ((refine let G9 : Prop := _; (?_ : G9)); (obtain ⟨hp, hs⟩ := hx); all_goals (unfold G9; clear G9))
    have hp : F.Perm (minusP r) := by simpa [rawR] using hp
    have hle : ∀ p ∈ (minusP r).map (π ++ ·), p.length ≤ b := fun p hp => by
      focus ((refine let G9 : Prop := _; (?_ : G9)); (obtain ⟨q, hq, rfl⟩ := List.mem_map.mp hp); all_goals (unfold G9; clear G9))
      have := minus_le q hq
      simp; (first | lia | omega)
    have hle2 : ∀ p ∈ F.map (π ++ ·), p.length ≤ b := fun p hp' => hle p ((hp.map _).mem_iff.mp hp')
    refine x_retF (f_cast (f_sorted (ps := (F.map (π ++ ·)).map (prOf b)) (out := ((minusP r).map (π ++ ·)).map (prOf b)) G (d_cast (d_own rfl rfl rfl) (by rw [encL_pr])) (pr_ok hb hle2) ?_ ((hp.symm.map _).map _) (pr_sorted hb hle ?_) (by k_is) rfl rfl rfl rfl) encL_pr)
    · rw [List.length_map, List.length_map, hp.length_eq, minus_len]
      (first | lia | omega)
    · rw [List.pairwise_map]
      exact minus_sorted.imp fun {a c} e => ple_under e
  · refine less_cons ?_ (less_cons ?_ (by repeat (first | exact less_nil | refine less_cons rfl ?_)))
    · rw [List.reverse_reverse]; rfl
    · rfl
end
end Mine
end
-- Pl3
section
open PySem PySem.W PyProof.Rows PySem.Calls PySem.Spec
namespace Mine
noncomputable def fulls : Nat → List Path
  | 0 => [[]]
  | n + 1 => (fulls n).map (false :: ·) ++ (fulls n).map (true :: ·)
theorem mem_fulls : ∀ {n : Nat} {p : Path}, p ∈ fulls n ↔ p.length = n
  | 0, p => by simp [fulls]
  | n + 1, [] => by simp [fulls]
  | n + 1, c :: r => by
    have := mem_fulls (n := n) (p := r)
    cases c <;> simp [fulls, this]
theorem fulls_len : ∀ {n : Nat}, (fulls n).length = 2 ^ n
  | 0 => rfl
  | n + 1 => by simp [fulls, fulls_len, Nat.pow_succ]; (first | lia | omega)
noncomputable def lb : Nat → (Path → Bool) → Bool → List Path
  | 0, d, u => if d [] = u then [[]] else []
  | n + 1, d, u => joinH (lb n (fun r => d (false :: r)) u) (lb n (fun r => d (true :: r)) u)
theorem joinH_all {A B : List Path} : joinH A B = [[]] ↔ A = [[]] ∧ B = [[]] := by
  constructor
  · intro h
    unfold joinH at h
    split at h
    · assumption
    · have : ([] : Path) ∈ A.map (false :: ·) ++ B.map (true :: ·) := by rw [h]; exact .head _
      simp at this
  · intro h
    unfold joinH
    rw [if_pos h]
theorem joinH_mem {A B : List Path} : [] ∈ joinH A B ↔ joinH A B = [[]] := ⟨joinH_nil, fun h => by rw [h]; exact .head _⟩
set_option tactic.hygienic true in
theorem joinH_not {A B : List Path} (h : joinH A B ≠ [[]]) : joinH A B = A.map (false :: ·) ++ B.map (true :: ·) := by
  unfold joinH at h ⊢
  split
  · rename_i q
    rw [if_pos q] at h
    exact absurd rfl h
  · rfl
theorem lb_mem : ∀ {n : Nat} {d : Path → Bool} {u : Bool}, [] ∈ lb n d u ↔ lb n d u = [[]]
  | 0, d, u => by unfold lb; split <;> simp
  | n + 1, d, u => joinH_mem
theorem lb_all : ∀ {n : Nat} {d : Path → Bool} {u : Bool}, lb n d u = [[]] ↔ ∀ r : Path, r.length = n → d r = u
  | 0, d, u => by
    unfold lb
    constructor
    · intro h r hr
      rw [List.length_eq_zero_iff.mp hr]
      split at h
      · assumption
      · cases h
    · intro h
      rw [if_pos (h [] rfl)]
  | n + 1, d, u => by
    unfold lb
    rw [joinH_all, lb_all, lb_all]
    constructor
    · rintro ⟨h0, h1⟩ r hr
      match r, hr with
      | false :: r, hr => exact h0 r (by simpa using hr)
      | true :: r, hr => exact h1 r (by simpa using hr)
    · intro h
      exact ⟨fun r hr => h (false :: r) (by simp [hr]), fun r hr => h (true :: r) (by simp [hr])⟩
theorem lb_none : ∀ {n : Nat} {d : Path → Bool} {u : Bool}, (∀ r : Path, r.length = n → d r ≠ u) → lb n d u = []
  | 0, d, u, h => by unfold lb; rw [if_neg (h [] rfl)]
  | n + 1, d, u, h => by
    unfold lb
    rw [lb_none (fun r hr => h (false :: r) (by simp [hr])), lb_none (fun r hr => h (true :: r) (by simp [hr]))]
    rfl
theorem lb_le : ∀ {n : Nat} {d : Path → Bool} {u : Bool}, ∀ p ∈ lb n d u, p.length ≤ n
  | 0, d, u, p, h => by
    unfold lb at h
    split at h
    · rw [List.mem_singleton.mp h]; exact Nat.le_refl _
    · cases h
  | n + 1, d, u, p, h => by
    unfold lb joinH at h
    split at h
    · rw [List.mem_singleton.mp h]; exact Nat.zero_le _
    · rcases List.mem_append.mp h with h | h <;>
      · focus ((refine let G9 : Prop := _; (?_ : G9)); (obtain ⟨q, hq, rfl⟩ := List.mem_map.mp h); all_goals (unfold G9; clear G9))
        have := lb_le q hq
        simp; omega
theorem lb_wt : ∀ {n : Nat} {d : Path → Bool} {u : Bool}, wt n (lb n d u) ≤ 2 ^ n
  | 0, d, u => by unfold lb; split <;> simp [wt]
  | n + 1, d, u => by
    have h0 := lb_wt (n := n) (d := fun r => d (false :: r)) (u := u)
    have h1 := lb_wt (n := n) (d := fun r => d (true :: r)) (u := u)
    unfold lb joinH
    split
    · simp [wt]
    · rw [wt_append, wt_half, wt_half, Nat.pow_succ]
      (first | lia | omega)
theorem lb_len {n : Nat} {d : Path → Bool} {u : Bool} : (lb n d u).length ≤ 2 ^ n := Nat.le_trans wt_len lb_wt

noncomputable def setD (d : Path → Bool) (p : Path) (x : Bool) : Path → Bool := fun q => if p.isPrefixOf q then x else d q
theorem setD_nil {d : Path → Bool} {x : Bool} {q : Path} : setD d [] x q = x := by simp [setD]
theorem setD_same {d : Path → Bool} {c : Bool} {r : Path} {x : Bool} : (fun q => setD d (c :: r) x (c :: q)) = setD (fun q => d (c :: q)) r x := by
  funext q
  simp [setD]
theorem setD_other {d : Path → Bool} {c e : Bool} (h : c ≠ e) {r : Path} {x : Bool} : (fun q => setD d (c :: r) x (e :: q)) = fun q => d (e :: q) := by
  funext q
  simp [setD, h]

theorem canon_lb : ∀ {n : Nat} {d : Path → Bool} {u : Bool}, canon n (lb n d u) = lb n d u
  | 0, d, u => by unfold lb; split <;> simp [canon]
  | n + 1, d, u => by
    by_cases h : lb (n + 1) d u = [[]]
    · rw [h]; exact canon_of (.head _)
    · have hm : [] ∉ lb (n + 1) d u := fun q => h (lb_mem.mp q)
      rw [show canon (n + 1) (lb (n + 1) d u) = joinH (canon n (tl false (lb (n + 1) d u))) (canon n (tl true (lb (n + 1) d u))) from if_neg hm]
      have e : lb (n + 1) d u = (lb n (fun r => d (false :: r)) u).map (false :: ·) ++ (lb n (fun r => d (true :: r)) u).map (true :: ·) := joinH_not h
      rw [e, tl_append, tl_append, tl_map, tl_map, tl_map_ne (by decide), tl_map_ne (by decide), List.append_nil, List.nil_append, canon_lb, canon_lb]
      rw [← e]
      rfl
/-- a prefix put among the blocks -/
theorem canon_put : ∀ {n : Nat} {d : Path → Bool} {u : Bool} {p : Path}, p.length ≤ n → canon n (lb n d u ++ [p]) = lb n (setD d p u) u
  | n, d, u, [], _ => by
    rw [canon_of (by simp)]
    exact (lb_all.mpr fun r _ => setD_nil).symm
  | n + 1, d, u, c :: r, hp => by
    have hr : r.length ≤ n := by simpa using hp
    by_cases h : lb (n + 1) d u = [[]]
    · rw [h, canon_of (by simp)]
      refine (lb_all.mpr fun q hq => ?_).symm
      have := lb_all.mp h q hq
      unfold setD
      split
      · rfl
      · exact this
    · have hm : [] ∉ lb (n + 1) d u ++ [c :: r] := fun q => by
        rcases List.mem_append.mp q with q | q
        · exact h (lb_mem.mp q)
        · simp at q
      rw [show canon (n + 1) (lb (n + 1) d u ++ [c :: r]) = joinH (canon n (tl false (lb (n + 1) d u ++ [c :: r]))) (canon n (tl true (lb (n + 1) d u ++ [c :: r]))) from if_neg hm]
      have e : lb (n + 1) d u = (lb n (fun r => d (false :: r)) u).map (false :: ·) ++ (lb n (fun r => d (true :: r)) u).map (true :: ·) := joinH_not h
      rw [e]
      simp only [tl_append, tl_map, tl_map_ne (show true ≠ false by decide), tl_map_ne (show false ≠ true by decide), List.append_nil, List.nil_append]
      cases c with
      | false =>
        rw [show tl false [false :: r] = [r] from rfl, show tl true [false :: r] = [] from rfl, List.append_nil, canon_put hr, canon_lb]
        show _ = joinH (lb n (fun q => setD d (false :: r) u (false :: q)) u) (lb n (fun q => setD d (false :: r) u (true :: q)) u)
        rw [setD_same, setD_other (by decide)]
      | true =>
        rw [show tl true [true :: r] = [r] from rfl, show tl false [true :: r] = [] from rfl, List.append_nil, canon_put hr, canon_lb]
        show _ = joinH (lb n (fun q => setD d (true :: r) u (false :: q)) u) (lb n (fun q => setD d (true :: r) u (true :: q)) u)
        rw [setD_same, setD_other (by decide)]
/-- both kinds of blocks make all -/
theorem canon_both : ∀ {n : Nat} {d : Path → Bool}, canon n (lb n d false ++ lb n d true) = [[]]
  | 0, d => by
    refine canon_of ?_
    unfold lb
    cases d [] <;> simp
  | n + 1, d => by
    by_cases h : [] ∈ lb (n + 1) d false ++ lb (n + 1) d true
    · exact canon_of h
    · have h0 : lb (n + 1) d false ≠ [[]] := fun q => h (by rw [q]; simp)
      have h1 : lb (n + 1) d true ≠ [[]] := fun q => h (by rw [q]; simp)
      rw [show canon (n + 1) (lb (n + 1) d false ++ lb (n + 1) d true) = joinH (canon n (tl false (lb (n + 1) d false ++ lb (n + 1) d true))) (canon n (tl true (lb (n + 1) d false ++ lb (n + 1) d true))) from if_neg h]
      have e0 : lb (n + 1) d false = (lb n (fun r => d (false :: r)) false).map (false :: ·) ++ (lb n (fun r => d (true :: r)) false).map (true :: ·) := joinH_not h0
      have e1 : lb (n + 1) d true = (lb n (fun r => d (false :: r)) true).map (false :: ·) ++ (lb n (fun r => d (true :: r)) true).map (true :: ·) := joinH_not h1
      rw [e0, e1]
      simp only [tl_append, tl_map, tl_map_ne (show true ≠ false by decide), tl_map_ne (show false ≠ true by decide), List.append_nil, List.nil_append]
      rw [canon_both, canon_both]
      rfl
-- without
noncomputable def wo1 (p one : Path) : List Path := if one.isPrefixOf p then (minusP (p.drop one.length)).map (one ++ ·) else if p.isPrefixOf one then [] else [one]
noncomputable def wo (L : List Path) (p : Path) : List Path := L.flatMap (wo1 p)
theorem wo1_same {c : Bool} {r q : Path} : wo1 (c :: r) (c :: q) = (wo1 r q).map (c :: ·) := by
  unfold wo1
  simp only [List.isPrefixOf, beq_self_eq_true, Bool.true_and, List.length_cons, List.drop_succ_cons]
  split
  · simp [Function.comp_def]
  · split <;> simp
theorem wo1_other {c e : Bool} (h : c ≠ e) {r q : Path} : wo1 (c :: r) (e :: q) = [e :: q] := by
  unfold wo1
  have h1 : (e == c) = false := beq_eq_false_iff_ne.mpr h.symm
  have h2 : (c == e) = false := beq_eq_false_iff_ne.mpr h
  simp [List.isPrefixOf, h1, h2]
theorem wo_same {c : Bool} {r : Path} : ∀ {L : List Path}, wo (L.map (c :: ·)) (c :: r) = (wo L r).map (c :: ·)
  | [] => rfl
  | q :: L => by
    have := wo_same (c := c) (r := r) (L := L)
    unfold wo at this ⊢
    rw [List.map_cons, List.flatMap_cons, this, wo1_same, List.flatMap_cons, List.map_append]
theorem wo_other {c e : Bool} (h : c ≠ e) {r : Path} : ∀ {L : List Path}, wo (L.map (e :: ·)) (c :: r) = L.map (e :: ·)
  | [] => rfl
  | q :: L => by
    have := wo_other h (r := r) (L := L)
    unfold wo at this ⊢
    rw [List.map_cons, List.flatMap_cons, this, wo1_other h]
    rfl
theorem wo_append {L L' : List Path} {p : Path} : wo (L ++ L') p = wo L p ++ wo L' p := List.flatMap_append
theorem wo_root {p : Path} : wo [[]] p = minusP p := by simp [wo, wo1]
theorem setD_ne {n : Nat} {d : Path → Bool} {u : Bool} {r : Path} (hr : r.length ≤ n) : lb n (setD d r (!u)) u ≠ [[]] := fun h => by
  have := lb_all.mp h (r ++ List.replicate (n - r.length) false) (by simp; (first | lia | omega))
  unfold setD at this
  rw [if_pos (List.isPrefixOf_iff_prefix.mpr (List.prefix_append _ _))] at this
  cases u <;> cases this
theorem wo_put : ∀ {n : Nat} {d : Path → Bool} {u : Bool} {p : Path}, p.length ≤ n → wo (lb n d u) p = lb n (setD d p (!u)) u
  | n, d, u, [], _ => by
    rw [lb_none (d := setD d [] (!u)) (fun r _ => by rw [setD_nil]; cases u <;> decide)]
    unfold wo
    rw [List.flatMap_eq_nil_iff]
    intro q _
    unfold wo1
    cases q with
    | nil => rfl
    | cons c q => rfl
  | n + 1, d, u, c :: r, hp => by
    have hr : r.length ≤ n := by simpa using hp
    have ih0 := wo_put (n := n) (d := fun q => d (false :: q)) (u := u) hr
    have ih1 := wo_put (n := n) (d := fun q => d (true :: q)) (u := u) hr
    have key : wo (lb (n + 1) d u) (c :: r) = (match c with | false => (wo (lb n (fun q => d (false :: q)) u) r).map (false :: ·) ++ (lb n (fun q => d (true :: q)) u).map (true :: ·) | true => (lb n (fun q => d (false :: q)) u).map (false :: ·) ++ (wo (lb n (fun q => d (true :: q)) u) r).map (true :: ·)) := by
      by_cases h : lb (n + 1) d u = [[]]
      · rw [h, wo_root]
        focus ((refine let G9 : Prop := _; (?_ : G9)); (obtain ⟨h0, h1⟩ := joinH_all.mp (show joinH _ _ = [[]] from h)); all_goals (unfold G9; clear G9))
        rw [h0, h1, wo_root]
        cases c <;> rfl
      · have e : lb (n + 1) d u = (lb n (fun r => d (false :: r)) u).map (false :: ·) ++ (lb n (fun r => d (true :: r)) u).map (true :: ·) := joinH_not h
        rw [e, wo_append]
        cases c with
        | false => rw [wo_same, wo_other (by decide)]
        | true => rw [wo_same, wo_other (by decide)]
    rw [key]
    cases c with
    | false =>
      have e : lb (n + 1) (setD d (false :: r) (!u)) u = joinH (lb n (setD (fun q => d (false :: q)) r (!u)) u) (lb n (fun q => d (true :: q)) u) := by
        show joinH (lb n (fun q => setD d (false :: r) (!u) (false :: q)) u) (lb n (fun q => setD d (false :: r) (!u) (true :: q)) u) = _
        rw [setD_same, setD_other (by decide)]
      rw [e, joinH_not (fun h => setD_ne hr (joinH_all.mp h).1), ih0]
    | true =>
      have e : lb (n + 1) (setD d (true :: r) (!u)) u = joinH (lb n (fun q => d (false :: q)) u) (lb n (setD (fun q => d (true :: q)) r (!u)) u) := by
        show joinH (lb n (fun q => setD d (true :: r) (!u) (false :: q)) u) (lb n (fun q => setD d (true :: r) (!u) (true :: q)) u) = _
        rw [setD_same, setD_other (by decide)]
      rw [e, joinH_not (fun h => setD_ne hr (joinH_all.mp h).2), ih1]
-- how many
noncomputable def lv (n : Nat) (d : Path → Bool) : Nat := (lb n d false).length + (lb n d true).length
theorem lv_one {n : Nat} {d : Path → Bool} {u : Bool} (h : ∀ r : Path, r.length = n → d r = u) : lv n d = 1 := by
  have h1 := lb_all.mpr h
  have h2 := lb_none (n := n) (d := d) (u := !u) (fun r hr => by rw [h r hr]; cases u <;> decide)
  unfold lv
  cases u with
  | false => rw [h1]; simp at h2; rw [h2]; rfl
  | true => rw [h1]; simp at h2; rw [h2]; rfl
theorem lv_pos : ∀ {n : Nat} {d : Path → Bool}, 1 ≤ lv n d
  | 0, d => by unfold lv lb; cases d [] <;> simp
  | n + 1, d => by
    have h0 := lv_pos (n := n) (d := fun r => d (false :: r))
    unfold lv at h0 ⊢
    have key : ∀ u, (lb n (fun r => d (false :: r)) u).length ≤ (lb (n + 1) d u).length ∨ 1 ≤ (lb (n + 1) d u).length := fun u => by
      show _ ≤ (joinH _ _).length ∨ 1 ≤ (joinH _ _).length
      unfold joinH
      split
      · exact .inr (Nat.le_refl _)
      · exact .inl (by simp)
    have := key false
    have := key true
    (first | lia | omega)
theorem lv_half {n : Nat} {d : Path → Bool} (h : lb (n + 1) d false ≠ [[]]) (h' : lb (n + 1) d true ≠ [[]]) : lv (n + 1) d = lv n (fun r => d (false :: r)) + lv n (fun r => d (true :: r)) := by
  unfold lv
  rw [show lb (n + 1) d false = _ from joinH_not h, show lb (n + 1) d true = _ from joinH_not h']
  simp
  (first | lia | omega)
theorem lv_put : ∀ {n : Nat} {d : Path → Bool} {p : Path} {x : Bool}, p.length ≤ n → lv n (setD d p x) ≤ lv n d + p.length
  | n, d, [], x, _ => by
    rw [lv_one (u := x) (fun r _ => setD_nil)]
    exact Nat.le_trans lv_pos (Nat.le_add_right _ _)
  | n + 1, d, c :: r, x, hp => by
    have hr : r.length ≤ n := by simpa using hp
    have ih0 := lv_put (n := n) (d := fun q => d (false :: q)) (x := x) hr
    have ih1 := lv_put (n := n) (d := fun q => d (true :: q)) (x := x) hr
    have uni : ∀ {e : Path → Bool} {u : Bool}, lb (n + 1) e u = [[]] → lv (n + 1) e = 1 ∧ lv n (fun q => e (false :: q)) = 1 ∧ lv n (fun q => e (true :: q)) = 1 := fun {e u} h => by
      have h := lb_all.mp h
      exact ⟨lv_one h, lv_one fun q hq => h _ (by simp [hq]), lv_one fun q hq => h _ (by simp [hq])⟩
    have pos := lv_pos (n := n + 1) (d := d)
    have sum : lv n (fun q => d (false :: q)) + lv n (fun q => d (true :: q)) ≤ lv (n + 1) d + 1 := by
      by_cases h : lb (n + 1) d false = [[]]
      · obtain ⟨a, b, c⟩ := uni h; (first | lia | omega)
      · by_cases h' : lb (n + 1) d true = [[]]
        · obtain ⟨a, b, c⟩ := uni h'; (first | lia | omega)
        · rw [lv_half h h']; (first | lia | omega)
    rw [List.length_cons]
    by_cases h : lb (n + 1) (setD d (c :: r) x) false = [[]]
    · rw [(uni h).1]; (first | lia | omega)
    · by_cases h' : lb (n + 1) (setD d (c :: r) x) true = [[]]
      · rw [(uni h').1]; (first | lia | omega)
      · rw [lv_half h h']
        cases c with
        | false =>
          have e2 : lv n (fun q => setD d (false :: r) x (true :: q)) = lv n (fun q => d (true :: q)) := by rw [setD_other (by decide)]
          rw [setD_same]
          have e3 := Nat.le_of_eq e2
          refine Nat.le_trans (Nat.add_le_add ih0 e3) ?_
          (first | lia | omega)
        | true =>
          have e2 : lv n (fun q => setD d (true :: r) x (false :: q)) = lv n (fun q => d (false :: q)) := by rw [setD_other (by decide)]
          rw [setD_same]
          have e3 := Nat.le_of_eq e2
          refine Nat.le_trans (Nat.add_le_add e3 ih1) ?_
          (first | lia | omega)
end Mine
end
-- F5
section
open PySem PySem.W PyProof.Rows PySem.Calls PySem.Spec
namespace Mine
theorem wo1_len {b : Nat} {p one : Path} (hp : p.length ≤ b) : (wo1 p one).length ≤ b + 1 := by
  unfold wo1
  split
  · rw [List.length_map, minus_len, List.length_drop]; omega
  · split <;> simp
theorem wo_len {b : Nat} {p : Path} (hp : p.length ≤ b) : ∀ {L : List Path}, (wo L p).length ≤ L.length * (b + 1)
  | [] => Nat.zero_le _
  | q :: L => by
    have := wo_len hp (L := L)
    have := wo1_len (one := q) hp
    unfold wo at *
    rw [List.flatMap_cons, List.length_append, List.length_cons, Nat.succ_mul]
    (first | lia | omega)
theorem wo_take {L : List Path} {p q : Path} {i : Nat} (h : L[i]? = some q) : wo (L.take (i + 1)) p = wo (L.take i) p ++ wo1 p q := by
  rw [List.take_add_one, h, Option.toList_some, wo_append]
  simp [wo]
-- the table as a list
noncomputable def DL (b : Nat) (d : Path → Bool) : List PyData := (fulls b).map fun q => .int (d q).toNat
theorem DL_len {b : Nat} {d : Path → Bool} : (DL b d).length = 2 ^ b := by unfold DL; rw [List.length_map, fulls_len]
noncomputable def chk9 (b : Nat) : Bool := (paths b).all fun p => decide (adr b p + 2 ^ (b - p.length) ≤ 2 ^ b ∧ ((fulls b).drop (adr b p)).take (2 ^ (b - p.length)) = (fulls (b - p.length)).map (p ++ ·))
theorem chk9_3 : chk9 3 = true := by decide +kernel
theorem chk9_4 : chk9 4 = true := by decide +kernel
theorem DL_part {b : Nat} (hb : Bits b) {d : Path → Bool} {π : Path} {n : Nat} (h : π.length + n = b) : adr b π + 2 ^ n ≤ 2 ^ b ∧ ((DL b d).drop (adr b π)).take (2 ^ n) = (fulls n).map fun r => .int (d (π ++ r)).toNat := by
  have : chk9 b = true := by rcases hb with rfl | rfl; exact chk9_3; exact chk9_4
  have q := of_decide_eq_true (List.all_eq_true.mp this π (mem_paths (by (first | lia | omega))))
  have e : b - π.length = n := by (first | lia | omega)
  rw [e] at q
  refine ⟨q.1, ?_⟩
  unfold DL
  rw [← List.map_drop, ← List.map_take, q.2, List.map_map]
  rfl
theorem DL_noL {b : Nat} {d : Path → Bool} : ∀ x ∈ DL b d, noL x = true := fun x hx => by
  focus ((refine let G9 : Prop := _; (?_ : G9)); (obtain ⟨q, _, rfl⟩ := List.mem_map.mp hx); all_goals (unfold G9; clear G9))
  rfl
theorem bool_eqv {a c : Bool} : PyData.eqv (.int (a.toNat : Int)) (.int (c.toNat : Int)) = decide (a = c) := by cases a <;> cases c <;> rfl
theorem pick_eq {n : Nat} {d : Path → Bool} {u : Bool} : (((fulls n).map fun r => PyData.int (d r).toNat).filter fun x => PyData.eqv x (.int u.toNat)).map id = ((fulls n).filter fun r => decide (d r = u)).map fun r => PyData.int (d r).toNat := by
  rw [List.map_id]
  generalize fulls n = L
  induction L with
  | nil => rfl
  | cons r L ih =>
    simp only [List.map_cons, List.filter_cons, bool_eqv]
    split
    · rw [ih]; rfl
    · exact ih
theorem filter_full {n : Nat} {d : Path → Bool} {u : Bool} : ((fulls n).filter fun r => decide (d r = u)).length = 2 ^ n ↔ lb n d u = [[]] := by
  rw [lb_all, ← fulls_len, List.length_filter_eq_length_iff]
  simp only [mem_fulls, decide_eq_true_eq]
theorem filter_none {n : Nat} {d : Path → Bool} {u : Bool} (h : (fulls n).filter (fun r => decide (d r = u)) = []) : lb n d u = [] := by
  refine lb_none fun r hr => ?_
  rw [List.filter_eq_nil_iff] at h
  simpa using h r (mem_fulls.mpr hr)
theorem x_cast_own {M : Model} {A : Around} {env : Env} {h₀ : Heap} {ρ ρ' : Ev} {t : Sem Flow} {x : Str} {d d' : List PyData} (h : Xs M A env h₀ ρ t (.next ((x, .own d') :: ρ'))) (e : d' = d) : Xs M A env h₀ ρ t (.next ((x, .own d) :: ρ')) := e ▸ h
section
theorem eqOk_ints {α : Type} {f : α → Int} {K : List α} : eqOk 8 (.list (K.map fun r => .int (f r))) = true := by
  show (K.map fun r => PyData.int (f r)).all (eqOk 7) = true
  rw [List.all_eq_true]
  intro d hd
  focus ((refine let G9 : Prop := _; (?_ : G9)); (obtain ⟨p, _, rfl⟩ := List.mem_map.mp hd); all_goals (unfold G9; clear G9))
  rfl
theorem noLs_ints {α : Type} {f : α → Int} {K : List α} : noLs (K.map fun r => .int (f r)) = true := noLs_of fun d hd => by
  focus ((refine let G9 : Prop := _; (?_ : G9)); (obtain ⟨p, _, rfl⟩ := List.mem_map.mp hd); all_goals (unfold G9; clear G9))
  rfl
noncomputable def chk10 (b : Nat) : Bool := (paths b).all fun p => decide (p.length < b → adr b (p ++ [true]) = adr b p + 2 ^ (b - p.length) / 2 ∧ adr b (p ++ [false]) = adr b p)
theorem chk10_3 : chk10 3 = true := by decide +kernel
theorem chk10_4 : chk10 4 = true := by decide +kernel
theorem adr_half {b : Nat} (hb : Bits b) {p : Path} (h : p.length < b) : adr b (p ++ [true]) = adr b p + 2 ^ (b - p.length) / 2 ∧ adr b (p ++ [false]) = adr b p := by
  have : chk10 b = true := by rcases hb with rfl | rfl; exact chk10_3; exact chk10_4
  exact of_decide_eq_true (List.all_eq_true.mp this p (mem_paths (by (first | lia | omega)))) h
end
section
variable {prog : Program} {w : World} {mg mb : Str → Option Value}
theorem fn_law_without {Z : List Path} {p : Path} {b : Nat} (hb : Bits b) (hZ : ∀ q ∈ Z, q.length ≤ b) (hp : p.length ≤ b) (hz : Z.length ≤ 64) : FnF prog w mg mb (Str.ofString "_law_without") [.list (encL b Z), encD b p, .int b] (encL b (wo Z p)) 6 := by
  refine FnF.in3 (by k_is) fun A s v1 v2 v3 R G r1 r2 r3 => ?_
  refine enterF R G (by k_is) (by k_is) rfl rfl (envR_cons (x := Str.ofString "lot") rfl r1 (envR_cons (x := Str.ofString "prefix") rfl r2 (envR_cons (x := Str.ofString "bits") rfl r3 envR_nil))) rfl rfl rfl (by decide) fun L R => ?_
  have hb4 := len_le hb
  refine x_seq (x_assignF (f_list l_nil (Nat.zero_le _)) rfl rfl rfl rfl) ?_
  refine x_seq (x_for (ds := encL b Z) (fun i => [(Str.ofString "found", .own (encL b (wo (Z.take i) p))), (Str.ofString "prefix", .val (encD b p)), (Str.ofString "bits", .val (.int b))]) R.2.2 (s_base rfl rfl rfl)
    (of_noLs noLs_encL) (by repeat (first | exact less_nil | refine less_cons rfl ?_)) (.loc rfl rfl) rfl (fun i d hd => ?_)) ?_
  · focus ((refine let G9 : Prop := _; (?_ : G9)); (obtain ⟨q, hq, rfl⟩ := encL_get hd); all_goals (unfold G9; clear G9))
    have hqb := hZ q (List.mem_of_getElem? hq)
    rw [wo_take hq]
    have hF : (wo (Z.take i) p).length ≤ 320 := by
      have h1 := wo_len hp (L := Z.take i)
      have h2 := List.length_take_le' i Z
      have h3 : (Z.take i).length * (b + 1) ≤ 64 * 5 := Nat.mul_le_mul (by (first | lia | omega)) (by (first | lia | omega))
      (first | lia | omega)
    generalize wo (Z.take i) p = F at *
    refine x_if (β := q.isPrefixOf p) (ρ1 := [(Str.ofString "found", .own (encL b (F ++ wo1 p q))), (Str.ofString "prefix", .val (encD b p)), (Str.ofString "bits", .val (.int b))])
      (b_value (d_call G R (by decide) (fn_covers hb hqb hp) (l_cons (d_name rfl rfl rfl) (l_cons (d_name rfl rfl rfl) (l_cons (d_name rfl rfl rfl) l_nil))) (by k_is) (by k_is) rfl rfl rfl)) (fun h => ?_) (fun h => ?_) (x_nil (by repeat (first | exact less_nil | refine less_cons rfl ?_)))
    · focus ((refine let G9 : Prop := _; (?_ : G9)); (obtain ⟨r, rfl⟩ := List.isPrefixOf_iff_prefix.mp h); all_goals (unfold G9; clear G9))
      have e : wo1 (q ++ r) q = (minusP r).map (q ++ ·) := by unfold wo1; rw [if_pos h, List.drop_left]
      rw [e, encL_append]
      refine x_seq (x_assignF (f_cat (d_own rfl rfl rfl) (EvF.d (f_call G R (by decide) (fn_minus_prefix hb hp) (l_cons (d_name rfl rfl rfl) (l_cons (d_name rfl rfl rfl) (l_cons (d_name rfl rfl rfl) l_nil))) (by k_is) (by k_is) rfl rfl rfl)) ?_) ?_ rfl rfl rfl) (x_nil (by repeat (first | exact less_nil | refine less_cons rfl ?_)))
      · rw [encL_length, encL_length, List.length_map, minus_len]
        rw [List.length_append] at hp
        (first | lia | omega)
      · rw [← encL_append]; exact noLs_encL
    · refine x_if (β := !(p.isPrefixOf q)) (ρ1 := [(Str.ofString "found", .own (encL b (F ++ wo1 p q))), (Str.ofString "prefix", .val (encD b p)), (Str.ofString "bits", .val (.int b))])
        (b_not (b_value (d_call G R (by decide) (fn_covers hb hp hqb) (l_cons (d_name rfl rfl rfl) (l_cons (d_name rfl rfl rfl) (l_cons (d_name rfl rfl rfl) l_nil))) (by k_is) (by k_is) rfl rfl rfl))) (fun h2 => ?_) (fun h2 => ?_) (x_nil (by repeat (first | exact less_nil | refine less_cons rfl ?_)))
      · have e : wo1 p q = [q] := by unfold wo1; rw [if_neg (by rw [h]; decide), if_neg (by intro x; rw [x] at h2; cases h2)]
        rw [e, encL_append]
        exact x_seq (x_append rfl rfl (d_name rfl rfl rfl) rfl (by rw [encL_length]; (first | lia | omega)) rfl rfl) (x_nil (by repeat (first | exact less_nil | refine less_cons rfl ?_)))
      · have e : wo1 p q = [] := by unfold wo1; rw [if_neg (by rw [h]; decide), if_pos (by cases x : p.isPrefixOf q with | true => rfl | false => rw [x] at h2; cases h2)]
        rw [e, List.append_nil]
        exact x_nil (by repeat (first | exact less_nil | refine less_cons rfl ?_))
  · rw [encL_length, List.take_length]
    exact x_retO rfl rfl rfl
theorem fn_law_blocks {b : Nat} (hb : Bits b) {d : Path → Bool} {u : Bool} : ∀ (n : Nat) (π : Path), π.length + n = b → FnF prog w mg mb (Str.ofString "_law_blocks") [.list (DL b d), .int u.toNat, .int (adr b π), .int π.length, .int b] (encL b ((lb n (fun r => d (π ++ r)) u).map (π ++ ·))) (n + 1) := by
  intro n
  induction n using Nat.strongRecOn with
  | ind n ih =>
  intro π hπ
  refine FnF.in5 (by k_is) fun A s v1 v2 v3 v4 v5 R G r1 r2 r3 r4 r5 => ?_
  refine enterFC R G (by k_is) (by k_is) rfl rfl (fun L => envR_cons (x := Str.ofString "due") rfl r1 (envR_cons (x := Str.ofString "wanted") rfl r2 (envR_cons (x := Str.ofString "address") rfl r3 (envR_cons (x := Str.ofString "length") rfl r4 (envR_cons (x := Str.ofString "bits") rfl r5 envR_nil))))) ?_ rfl rfl rfl fun L hfr R => ?_
  · exact fun L => one_cell rfl rfl
  have hb4 := len_le hb
  focus ((refine let G9 : Prop := _; (?_ : G9)); (obtain ⟨hfit, hpart⟩ := DL_part hb (d := d) hπ); all_goals (unfold G9; clear G9))
  have hn16 := (pow4 (k := n) (by (first | lia | omega))).2
  have hb16 := (pow4 (k := b) (by (first | lia | omega))).2
  have hDL := DL_len (b := b) (d := d)
  have ih' : ∀ m, m < n → ∀ π : Path, π.length + m = b → FnF prog w mg mb (Str.ofString "_law_blocks") [.list (DL b d), .int u.toNat, .int (adr b π), .int π.length, .int b] (encL b ((lb m (fun r => d (π ++ r)) u).map (π ++ ·))) (m + 1) := ih
  clear ih
  refine x_seq (x_assign (d := .int ((2 ^ n : Nat) : Int)) (d_cast (d_shl d_int (d_sub (d_name rfl rfl rfl) (d_name rfl rfl rfl)) (by (first | lia | omega)) (by (first | lia | omega)) (by decide)) ?_) rfl (.loc rfl rfl) rfl) ?_
  · rw [powi (k := n) (by (first | lia | omega)), Int.one_mul]
  refine x_seq (x_cast_own (x_comp (ds := (fulls n).map fun r => .int (d (π ++ r)).toNat) (p := fun x => PyData.eqv x (.int u.toNat)) (f := id) (cl := [(Str.ofString "wanted", _)]) R.2.2 (src_cast (EvF.src (f_slice (a := adr b π) (b := adr b π + 2 ^ n) (d_name rfl rfl rfl) (d_name rfl rfl rfl) (d_cast (d_add (d_name rfl rfl rfl) (d_name rfl rfl rfl)) (by rw [Int.natCast_add])) (Nat.le_add_right _ _) (by (first | lia | omega)) (by (first | lia | omega)))) ?_) ?_ ?_ ?_ rfl ?_ (by decide) rfl (by decide) rfl ?_ [(Str.ofString "wanted", .val (.int u.toNat))] ?_ (fun C h₁ d hd hk => ?_) (fun C h₁ d hd hpd hk => ?_) rfl rfl rfl) (pick_eq (d := fun r => d (π ++ r)))) ?_
  · rw [Nat.add_sub_cancel_left]; exact hpart
  · exact of_noLs noLs_ints
  · rw [List.length_map, fulls_len]; (first | lia | omega)
  · exact of_noLs noLs_ints
  · intro n c h
    focus ((refine let G9 : Prop := _; (?_ : G9)); (obtain ⟨rfl, rfl⟩ := one_lookup h); all_goals (unfold G9; clear G9))
    exact ⟨rfl, by decide⟩
  · intro C y h
    by_cases e : y = Str.ofString "wanted"
    · subst e
      exact absurd (show some NameKind.cell = some NameKind.local from h) (by decide)
    · rw [lookup_cons_ne e]
      rfl
  · intro q hq
    rcases List.mem_singleton.mp hq with rfl
    exact ⟨rfl, rfl, .inl ⟨_, rfl, rfl⟩⟩
  · refine t_one (b_cmp (d_name rfl rfl rfl) (d_cell rfl rfl rfl rfl) (o_eq ?_ rfl (eqv_dec ?_ rfl) R.units)) <;>
    · focus ((refine let G9 : Prop := _; (?_ : G9)); (obtain ⟨p, _, rfl⟩ := List.mem_map.mp hd); all_goals (unfold G9; clear G9))
      rfl
  · exact d_name rfl rfl rfl
  have hfull := filter_full (n := n) (d := fun r => d (π ++ r)) (u := u)
  have hnone := filter_none (n := n) (d := fun r => d (π ++ r)) (u := u)
  have hKlen : ((fulls n).filter fun r => decide (d (π ++ r) = u)).length ≤ 2 ^ n := by
    have := List.length_filter_le (fun r => decide (d (π ++ r) = u)) (fulls n)
    rw [fulls_len] at this
    exact this
  have hz : n = 0 → ((fulls n).filter fun r => decide (d (π ++ r) = u)) ≠ [] → ((fulls n).filter fun r => decide (d (π ++ r) = u)).length = 2 ^ n := by
    rintro rfl h
    have := List.length_pos_iff.mpr h
    simp at hKlen ⊢
    (first | lia | omega)
  generalize ((fulls n).filter fun r => decide (d (π ++ r) = u)) = K at *
  by_cases h1 : lb n (fun r => d (π ++ r)) u = [[]]
  · refine x_ifT (b_cast (b_cmp (d_len G (d_own rfl rfl rfl) (by rw [List.length_map]; (first | lia | omega)) (by k_is) rfl rfl rfl rfl) (d_name rfl rfl rfl) o_eqi) ?_) (x_retF (f_cast (f_list (l_cons (d_tuple (l_cons (d_name rfl rfl rfl) (l_cons (d_name rfl rfl rfl) l_nil)) (Nat.le_of_ble_eq_true rfl)) l_nil) (Nat.le_of_ble_eq_true rfl)) ?_)) (fun _ x => nomatch x)
    · rw [List.length_map, hfull.mpr h1, beq_self_eq_true]
    · rw [h1]
      simp [encL, encD]
  have hK1 : K.length ≠ 2 ^ n := fun q => h1 (hfull.mp q)
  refine x_ifF (b_cast (b_cmp (d_len G (d_own rfl rfl rfl) (by rw [List.length_map]; (first | lia | omega)) (by k_is) rfl rfl rfl rfl) (d_name rfl rfl rfl) o_eqi) ?_) ?_
  · rw [List.length_map, beq_eq_false_iff_ne]
    (first | lia | omega)
  by_cases h2 : K = []
  · refine x_ifT (b_cmp (d_own rfl rfl rfl) (EvF.d (f_list l_nil (Nat.zero_le _))) (o_eq eqOk_ints rfl ?_ R.units)) (x_retF (f_cast (f_list l_nil (Nat.zero_le _)) ?_)) (fun _ x => nomatch x)
    · simp [h2]
    · rw [hnone h2]; rfl
  refine x_ifF (b_cmp (d_own rfl rfl rfl) (EvF.d (f_list l_nil (Nat.zero_le _))) (o_eq eqOk_ints rfl ?_ R.units)) ?_
  · simp [h2]
  cases n with
  | zero => exact absurd (hz rfl h2) hK1
  | succ m =>
  focus ((refine let G9 : Prop := _; (?_ : G9)); (obtain ⟨a1, a2⟩ := adr_half hb (p := π) (by (first | lia | omega))); all_goals (unfold G9; clear G9))
  have e : b - π.length = m + 1 := by (first | lia | omega)
  rw [e] at a1
  have l1 := lb_len (n := m) (d := fun r => d ((π ++ [true]) ++ r)) (u := u)
  have l2 := lb_len (n := m) (d := fun r => d ((π ++ [false]) ++ r)) (u := u)
  have hm16 := (pow4 (k := m) (by (first | lia | omega))).2
  refine x_seq (x_assignF (ds := encL b ((lb m (fun r => d ((π ++ [true]) ++ r)) u).map ((π ++ [true]) ++ ·))) (f_call G R (by (first | lia | omega)) (ih' m (Nat.lt_succ_self _) (π ++ [true]) (by simp; (first | lia | omega))) (l_cons (d_name rfl rfl rfl) (l_cons (d_cell rfl rfl rfl rfl) (l_cons (d_cast (d_add (d_name rfl rfl rfl) (d_div (d_name rfl rfl rfl) d_int (by decide) ?_)) ?_) (l_cons (d_cast (d_add (d_name rfl rfl rfl) d_int) ?_) (l_cons (d_name rfl rfl rfl) l_nil))))) (by k_is) (by k_is) rfl rfl rfl) noLs_encL rfl rfl rfl) ?_
  · rcases (by (first | lia | omega) : m = 0 ∨ m = 1 ∨ m = 2 ∨ m = 3) with rfl | rfl | rfl | rfl <;> rfl
  · rw [a1]
    rcases (by (first | lia | omega) : m = 0 ∨ m = 1 ∨ m = 2 ∨ m = 3) with rfl | rfl | rfl | rfl <;> simp <;> rfl
  · simp
  refine x_retF (f_cast (f_cat (EvF.d (f_call G R (by (first | lia | omega)) (ih' m (Nat.lt_succ_self _) (π ++ [false]) (by simp; (first | lia | omega))) (l_cons (d_name rfl rfl rfl) (l_cons (d_cell rfl rfl rfl rfl) (l_cons (d_cast (d_name rfl rfl rfl) (by rw [a2])) (l_cons (d_cast (d_add (d_name rfl rfl rfl) d_int) ?_) (l_cons (d_name rfl rfl rfl) l_nil))))) (by k_is) (by k_is) rfl rfl rfl)) (d_own rfl rfl rfl) ?_) ?_)
  · simp
  · rw [encL_length, encL_length, List.length_map, List.length_map]
    (first | lia | omega)
  · rw [show lb (m + 1) (fun r => d (π ++ r)) u = _ from joinH_not h1]
    simp [encL, Function.comp_def]
end
end Mine
end
-- Pl4
section
open PySem PySem.W PyProof.Rows PySem.Calls PySem.Spec
namespace Mine
theorem pre_getD {p q : Path} (h : p <+: q) {i : Nat} (hi : i < p.length) : q.getD i false = p.getD i false := by
  focus ((refine let G9 : Prop := _; (?_ : G9)); (obtain ⟨r, rfl⟩ := h); all_goals (unfold G9; clear G9))
  simp [List.getD, List.getElem?_append_left hi]
theorem pre_take {p q : Path} : q.take p.length = p ↔ p.isPrefixOf q = true := by
  rw [List.isPrefixOf_iff_prefix, List.prefix_iff_eq_take]
  exact eq_comm
set_option tactic.hygienic true in
theorem cpl_take : ∀ {p q : Path}, p.take (cpl p q) = q.take (cpl p q)
  | [], q => by simp [cpl]
  | x :: p, [] => by simp [cpl]
  | x :: p, y :: q => by
    unfold cpl
    split
    · rename_i e
      simp [e, cpl_take (p := p) (q := q)]
    · simp
theorem cpl_full {p q : Path} (h : cpl p q = p.length) : p <+: q := by
  have := cpl_take (p := p) (q := q)
  rw [h, List.take_length] at this
  rw [this]
  exact List.take_prefix _ _
theorem cpl_ge : ∀ {π p q : Path}, π <+: p → π <+: q → π.length ≤ cpl p q
  | [], _, _, _, _ => Nat.zero_le _
  | x :: π, p, q, h1, h2 => by
    focus ((refine let G9 : Prop := _; (?_ : G9)); (obtain ⟨r, rfl⟩ := h1); all_goals (unfold G9; clear G9))
    focus ((refine let G9 : Prop := _; (?_ : G9)); (obtain ⟨s, rfl⟩ := h2); all_goals (unfold G9; clear G9))
    have := cpl_ge (π := π) (List.prefix_append π r) (List.prefix_append π s)
    simp only [List.cons_append, cpl, if_true, List.length_cons]
    (first | lia | omega)
noncomputable def Und : Path → PT → Prop
  | _, .nil => True
  | π, .node q _ l r => π <+: q ∧ Und (q ++ [false]) l ∧ Und (q ++ [true]) r
theorem und_nil {k : Nat} {π : Path} : ∀ {T : PT}, TOk k T → Und π T → k < π.length → T = .nil
  | .nil, _, _, _ => rfl
  | .node q v l r, h1, h2, h => by
    have := h2.1.length_le
    have := h1.1
    (first | lia | omega)
theorem tok_withC {k : Nat} {T t : PT} {c : Bool} (h : TOk k T) (h' : TOk k t) : TOk k (withC T c t) := by
  cases T with
  | nil => trivial
  | node q v l r => cases c with
    | false => exact ⟨h.1, h', h.2.2⟩
    | true => exact ⟨h.1, h.2.1, h'⟩
theorem tok_put {k : Nat} {p : Path} {w : Nat} (hp : p.length ≤ k) : ∀ {T : PT}, TOk k T → TOk k (putT T p w)
  | .nil, _ => ⟨hp, trivial, trivial⟩
  | .node q v l r, h => by
    focus ((refine let G9 : Prop := _; (?_ : G9)); (obtain ⟨a, b, c⟩ := id h); all_goals (unfold G9; clear G9))
    unfold putT
    split
    · exact ⟨a, b, c⟩
    · split
      · split
        · exact ⟨a, b, tok_put hp c⟩
        · exact ⟨a, tok_put hp b, c⟩
      · split
        · exact tok_withC ⟨hp, trivial, trivial⟩ h
        · refine tok_withC (tok_withC ⟨?_, trivial, trivial⟩ h) ⟨hp, trivial, trivial⟩
          rw [List.length_take]; (first | lia | omega)
theorem dep_put {p : Path} {w : Nat} : ∀ {T : PT}, dep (putT T p w) ≤ dep T + 1
  | .nil => by simp [putT, dep]
  | .node q v l r => by
    have h1 := dep_put (p := p) (w := w) (T := l)
    have h2 := dep_put (p := p) (w := w) (T := r)
    unfold putT
    split
    · simp [dep]
    · split
      · split
        · simp only [dep]; omega
        · simp only [dep]; omega
      · split
        · cases q.getD (cpl q p) false <;> simp [withC, dep]
        · unfold forkT
          cases q.getD (cpl q p) false <;> cases p.getD (cpl q p) false <;> simp [withC, dep] <;> omega
theorem snoc_take {q : Path} {m : Nat} (h : m < q.length) : q.take m ++ [q.getD m false] <+: q := by
  have : q.take m ++ [q.getD m false] = q.take (m + 1) := by
    rw [List.take_add_one]
    simp [List.getD, h]
  rw [this]
  exact List.take_prefix _ _
set_option tactic.hygienic true in
theorem und_put {p : Path} {w : Nat} : ∀ {T : PT} {π : Path}, TOk p.length T → Und π T → π <+: p → Und π (putT T p w)
  | .nil, π, _, _, h => ⟨h, trivial, trivial⟩
  | .node q v l r, π, ht, hu, h => by
    focus ((refine let G9 : Prop := _; (?_ : G9)); (obtain ⟨a, b, c⟩ := id hu); all_goals (unfold G9; clear G9))
    focus ((refine let G9 : Prop := _; (?_ : G9)); (obtain ⟨c1, c2⟩ := cpl_le q p); all_goals (unfold G9; clear G9))
    unfold putT
    split
    · exact ⟨a, b, c⟩
    · rename_i n1
      split
      · rename_i e
        have hqp := cpl_full e
        have hlt : q.length < p.length := by (first | lia | omega)
        have sn := snoc_take (q := p) (m := q.length) hlt
        rw [pre_take.mpr (List.isPrefixOf_iff_prefix.mpr hqp)] at sn
        rw [e]
        split
        · rename_i e2
          rw [e2] at sn
          exact ⟨a, b, und_put ht.2.2 c sn⟩
        · rename_i e2
          rw [Bool.not_eq_true] at e2
          rw [e2] at sn
          exact ⟨a, und_put ht.2.1 b sn, c⟩
      · rename_i n2
        split
        · have := ht.1; (first | lia | omega)
        · rename_i n3
          have hπ : π <+: q.take (cpl q p) := by
            have := cpl_ge a h
            have := List.prefix_iff_eq_take.mp a
            rw [this]
            exact List.take_prefix_take_left (by (first | lia | omega))
          have s1 := snoc_take (q := q) (m := cpl q p) (by (first | lia | omega))
          have s2 := snoc_take (q := p) (m := cpl q p) (by (first | lia | omega))
          rw [← cpl_take] at s2
          have ne := cpl_at q p (by (first | lia | omega)) (by (first | lia | omega))
          unfold forkT
          have hT : ∀ c', q.getD (cpl q p) false = c' → Und (q.take (cpl q p) ++ [c']) (.node q v l r) := fun c' e => ⟨e ▸ s1, b, ‹_›⟩
          have hL : ∀ c', p.getD (cpl q p) false = c' → Und (q.take (cpl q p) ++ [c']) (.node p (some w) .nil .nil) := fun c' e => ⟨e ▸ s2, trivial, trivial⟩
          cases e1 : q.getD (cpl q p) false <;> cases e2 : p.getD (cpl q p) false
          · rw [e1, e2] at ne; exact absurd rfl ne
          · exact ⟨hπ, hT _ e1, hL _ e2⟩
          · exact ⟨hπ, hL _ e2, hT _ e1⟩
          · rw [e1, e2] at ne; exact absurd rfl ne
theorem look_leaf {b : Nat} {p q : Path} {w : Nat} {acc : Option (Path × Nat)} : lookT b (.node p (some w) .nil .nil) q acc = if p.isPrefixOf q then some (p, w) else acc := by
  rw [lookT_node]
  by_cases h : q.take p.length = p
  · rw [if_pos h, if_pos (pre_take.mp h)]
    simp [lookT, upd]
  · rw [if_neg h, if_neg (fun x => h (pre_take.mpr x))]
theorem look_in {b : Nat} {o q : Path} {v : Option Nat} {l r : PT} {acc : Option (Path × Nat)} (h : q.take o.length = o) (hb : o.length ≠ b) : lookT b (.node o v l r) q acc = lookT b (kid (q.getD o.length false) l r) q (upd acc o v) := by
  rw [lookT_node, if_pos h, if_neg hb]
  cases q.getD o.length false <;> rfl
theorem look_out {b : Nat} {o q : Path} {v : Option Nat} {l r : PT} {acc : Option (Path × Nat)} (h : ¬ q.take o.length = o) : lookT b (.node o v l r) q acc = acc := by
  rw [lookT_node, if_neg h]
theorem look_put {b : Nat} {p q : Path} {w : Nat} (hq : q.length = b) (hp : p.length ≤ b) : ∀ {T : PT} {π : Path} {acc : Option (Path × Nat)}, TOk p.length T → Und π T → lookT b (putT T p w) q acc = if p.isPrefixOf q then some (p, w) else lookT b T q acc
  | .nil, π, acc, _, _ => look_leaf
  | .node o v l r, π, acc, ht, hu => by
    focus ((refine let G9 : Prop := _; (?_ : G9)); (obtain ⟨a, hl, hr⟩ := id hu); all_goals (unfold G9; clear G9))
    focus ((refine let G9 : Prop := _; (?_ : G9)); (obtain ⟨ta, tl', tr⟩ := id ht); all_goals (unfold G9; clear G9))
    focus ((refine let G9 : Prop := _; (?_ : G9)); (obtain ⟨c1, c2⟩ := cpl_le o p); all_goals (unfold G9; clear G9))
    unfold putT
    by_cases h1 : cpl o p = o.length
    · have hop := cpl_full h1
      by_cases h2 : cpl o p = p.length
      · rw [if_pos ⟨h1, h2⟩]
        have e : o = p := hop.eq_of_length (by (first | lia | omega))
        subst e
        rw [und_nil tl' hl (by simp), und_nil tr hr (by simp), look_leaf, lookT_node]
        by_cases h : q.take o.length = o
        · rw [if_pos (pre_take.mp h), if_pos (pre_take.mp h)]
        · rw [if_neg (fun x => h (pre_take.mpr x)), if_neg (fun x => h (pre_take.mpr x)), if_neg h]
      · rw [if_neg (fun x => h2 x.2), if_pos h1, h1]
        have hlt : o.length < p.length := by (first | lia | omega)
        by_cases h : q.take o.length = o
        · by_cases hb : p.getD o.length false = true
          · rw [if_pos hb, look_in h (by (first | lia | omega)), look_in h (by (first | lia | omega))]
            cases hqb : q.getD o.length false with
            | true => exact look_put hq hp tr hr
            | false =>
              rw [if_neg (fun x => ?_)]
              · rfl
              · have := (pre_getD (List.isPrefixOf_iff_prefix.mp x) hlt).trans hb
                rw [hqb] at this
                cases this
          · rw [if_neg hb, look_in h (by (first | lia | omega)), look_in h (by (first | lia | omega))]
            cases hqb : q.getD o.length false with
            | false => exact look_put hq hp tl' hl
            | true =>
              rw [if_neg (fun x => ?_)]
              · rfl
              · exact hb ((pre_getD (List.isPrefixOf_iff_prefix.mp x) hlt).symm.trans hqb)
        · have hn : ¬ p.isPrefixOf q = true := fun x => h (pre_take.mpr (List.isPrefixOf_iff_prefix.mpr (hop.trans (List.isPrefixOf_iff_prefix.mp x))))
          rw [if_neg hn]
          split
          · rw [look_out h, look_out h]
          · rw [look_out h, look_out h]
    · rw [if_neg (fun x => h1 x.1), if_neg h1]
      by_cases h2 : cpl o p = p.length
      · (first | lia | omega)
      · rw [if_neg h2]
        have ne := cpl_at o p (by (first | lia | omega)) (by (first | lia | omega))
        have hlen : (o.take (cpl o p)).length = cpl o p := by rw [List.length_take]; (first | lia | omega)
        have pn : ∀ z : Path, z <+: q → cpl o p ≤ z.length → z.take (cpl o p) = o.take (cpl o p) → q.take (cpl o p) = o.take (cpl o p) := fun z hz hl e => by
          rw [← e]
          focus ((refine let G9 : Prop := _; (?_ : G9)); (obtain ⟨t, rfl⟩ := hz); all_goals (unfold G9; clear G9))
          rw [List.take_append_of_le_length hl]
        -- the node above
        have key : ∀ (c0 c1 : Bool), o.getD (cpl o p) false = c0 → p.getD (cpl o p) false = c1 → ∀ L R : PT, kid c0 L R = .node o v l r → kid c1 L R = .node p (some w) .nil .nil →
            lookT b (.node (o.take (cpl o p)) none L R) q acc = if p.isPrefixOf q then some (p, w) else lookT b (.node o v l r) q acc := by
          intro c0 c1' e0 e1 L R k0 k1
          by_cases h : q.take (cpl o p) = o.take (cpl o p)
          · rw [look_in (by rw [hlen]; exact h) (by rw [hlen]; (first | lia | omega)), hlen]
            show lookT b (kid (q.getD (cpl o p) false) L R) q acc = _
            by_cases hb : q.getD (cpl o p) false = c0
            · rw [hb, k0, if_neg (fun x => ?_)]
              have := pre_getD (List.isPrefixOf_iff_prefix.mp x) (i := cpl o p) (by (first | lia | omega))
              rw [hb, ← e0] at this
              exact ne this
            · have hb' : q.getD (cpl o p) false = c1' := by
                rw [e0, e1] at ne
                revert hb ne
                cases q.getD (cpl o p) false <;> cases c0 <;> cases c1' <;> simp
              rw [hb', k1, look_leaf]
              have : lookT b (.node o v l r) q acc = acc := by
                rw [look_out (fun x => ?_)]
                have := pre_getD (List.isPrefixOf_iff_prefix.mp (pre_take.mp x)) (i := cpl o p) (by (first | lia | omega))
                exact hb (this.trans e0)
              rw [this]
          · rw [look_out (by rw [hlen]; exact h), if_neg (fun x => h (pn p (List.isPrefixOf_iff_prefix.mp x) c2 cpl_take.symm)), look_out (fun x => h (pn o (List.isPrefixOf_iff_prefix.mp (pre_take.mp x)) c1 rfl))]
        unfold forkT
        cases e0 : o.getD (cpl o p) false <;> cases e1 : p.getD (cpl o p) false
        · rw [e0, e1] at ne; exact absurd rfl ne
        · exact key _ _ e0 e1 _ _ rfl rfl
        · exact key _ _ e0 e1 _ _ rfl rfl
        · rw [e0, e1] at ne; exact absurd rfl ne
end Mine
end
-- Lg9
section
open PySem PySem.W PyProof.Rows PySem.Calls PySem.Spec
namespace Mine

-- a dict whose keys may be tuples: its entries told
noncomputable def RawD (h : Heap) (d : Addr) (es : Array DictEntry) (ep : Nat) : Prop := ∃ o, h.get? d = some o ∧ o.ExactDict ∧ o.data = .dict es ep
theorem RawD.typeIs {s : Shared} {d : Addr} {es : Array DictEntry} {ep : Nat} (x : RawD s.heap d es ep) : s.TypeIs (.ref d) "dict" := let ⟨o, ho, hc, _⟩ := x; ⟨o, ho, hc.1⟩
theorem RawD.at' {h h' : Heap} {d : Addr} {es : Array DictEntry} {ep : Nat} (x : RawD h d es ep) (e : ∀ o, h.get? d = some o → h'.get? d = some o) : RawD h' d es ep := let ⟨o, ho, r⟩ := x; ⟨o, e _ ho, r⟩
section
variable {prog : Program} {w : World} {A : Around} {E : Value → Shared → Prop} {s : Shared}

theorem raw_iter {d : Addr} {es : Array DictEntry} {ep : Nat} {Q : Value → Shared → Prop} (hd : (d == sysModules) = false) (hm : RawD s.heap d es ep)
    (hQ : Q (.ref s.heap.objs.size) { s with heap := s.heap.push { cls := .type "dict_keyiterator", data := .fields #[.ref d, .int 0 0, .int es.size 0, .int ep 0] } }) :
    wpAny (model prog w) A (pyIter (.ref d)) Q E s := by
  focus ((refine let G9 : Prop := _; (?_ : G9)); (obtain ⟨o, ho, hc, hdat⟩ := id hm); all_goals (unfold G9; clear G9))
  have hT := hm.typeIs
  refine wpAny_pyIter_slot hT PySem.F.slot_dict_iter (wpAny_call_entry PySem.F.slot_dict_iter hT PySem.F.entry_dict_iter ?_ (PySem.F.args_dict_iter_1 _))
  unfold Builtin.«dict.__iter__»
  refine wpAny_bind ?_
  unfold Builtin.Dict.dictSlotNone
  refine wpAny_bind (wpAny_notOrdered_dict hT ?_)
  show wpAny _ _ (pure (Value.ref d)) _ _ s
  refine wpAny_pure ?_
  show wpAny _ _ (Builtin.Dict.showsAll d >>= _) _ _ s
  unfold Builtin.Dict.showsAll
  rw [if_neg (by rw [hd]; exact Bool.false_ne_true)]
  refine wpAny_bind (wpAny_pure ?_)
  refine wpAny_bind (wpAny_dictEntries ho hdat ?_)
  refine wpAny_bind (wpAny_dictEpoch ho hdat ?_)
  refine wpAny_bind (wpAny_newObj_type (wpAny_pure ⟨_, rfl, "dict_keyiterator", _, ⟨_, Heap.get?_push_size _ rfl, rfl⟩, PySem.F.slot_dict_keyiterator_next.lookup, ?_⟩))
  simpa [rawInt] using hQ

theorem raw_next {it d : Addr} {i ep : Nat} {es : Array DictEntry} {Q : Option Value → Shared → Prop} (hit : s.heap.IsKeyIter it d i es.size ep) (hm : RawD s.heap d es ep) (hlt : i < es.size)
    (hQ : ∀ h', h'.IsKeyIter it d (i + 1) es.size ep → Heap.SameBut it s.heap h' → Q (some (es[i].key)) { s with heap := h' }) :
    wpAny (model prog w) A (pyNext (.ref it)) Q E s := by
  focus ((refine let G9 : Prop := _; (?_ : G9)); (obtain ⟨o, ho, hc, hd⟩ := id hit); all_goals (unfold G9; clear G9))
  focus ((refine let G9 : Prop := _; (?_ : G9)); (obtain ⟨od, hod, hcd, hdd⟩ := id hm); all_goals (unfold G9; clear G9))
  unfold pyNext
  refine wpAny_bind (wpAny_attempt (wpAny_callSpecial?_slot (name := Str.ofString "__next__") hit.typeIs PySem.F.slot_dict_keyiterator_next
    (wpAny_call_entry PySem.F.slot_dict_keyiterator_next hit.typeIs PySem.F.entry_dict_keyiterator_next ?_ (PySem.F.args_dict_keyiterator_next_1 _))))
  refine wpAny_bind (wpAny_pure (wpAny_bind (wpAny_bind ?_)))
  first | refine wpAny_bind (wpAny_typeNameOfWhole_keyiter hit.typeIs (wpAny_pure ?_)) | refine wpAny_bind (wpAny_typeNameOf_keyiter hit.typeIs (wpAny_pure ?_))
  refine wpAny_bind (wpAny_fieldsOf ho hd ?_)
  have hown : Builtin.Dict_items.ownsTuple "dict_keyiterator" = false := by decide
  rw [if_neg (show ¬ (Builtin.Dict_items.ownsTuple "dict_keyiterator" = true) by rw [hown]; exact Bool.false_ne_true)]
  show wpAny _ _ (if (Value.ref d == Value.none) = true then _ else _) _ _ s
  rw [if_neg (show ¬ ((Value.ref d == Value.none) = true) from Bool.false_ne_true)]
  refine wpAny_bind (wpAny_pure (wpAny_bind (wpAny_dictEntries hod hdd ?_)))
  rw [if_neg (by simp)]
  refine wpAny_bind (wpAny_pure (wpAny_bind (wpAny_dictEpoch hod hdd ?_)))
  rw [if_neg (by simp)]
  refine wpAny_pure ?_
  dsimp only
  rw [if_neg (show ¬ ((i : Int) < 0) by (first | lia | omega)), Int.toNat_natCast, Array.getElem?_eq_getElem hlt]
  dsimp only
  refine wpAny_bind ?_
  first | refine wpAny_bind (wpAny_typeNameOfWhole_keyiter hit.typeIs (wpAny_pure ?_)) | refine wpAny_bind (wpAny_typeNameOf_keyiter hit.typeIs (wpAny_pure ?_))
  refine wpAny_bind (wpAny_isOneOf_keyiter hit.typeIs ?_)
  show wpAny _ _ (setField (.ref it) 1 (rawInt ((i : Int) + 1)) >>= _) _ _ s
  refine wpAny_bind (wpAny_setField ho hd (by simp) ?_)
  have hit' : (s.heap.update it (Obj.mapFields (·.setIfInBounds 1 (rawInt ((i : Int) + 1))))).IsKeyIter it d (i + 1) es.size ep :=
    ⟨_, Heap.get?_update_self _ ho (Obj.isFreed_of_fields (Obj.data_mapFields hd _)), (Obj.cls_mapFields ..).trans hc, by rw [Obj.data_mapFields hd]; simp [rawInt]⟩
  refine wpAny_bind (wpAny_holding ?_)
  refine wpAny_bind (wpAny_isOneOf_keyiter (s := { s with heap := s.heap.update it (Obj.mapFields (·.setIfInBounds 1 (rawInt ((i : Int) + 1)))) }) hit'.typeIs ?_)
  show wpAny _ _ (pure es[i].key) _ _ _
  exact wpAny_pure (wpAny_pure ⟨_, rfl, wpAny_pure (hQ _ hit' (Heap.SameBut.update ..))⟩)

theorem raw_end {it d : Addr} {ep : Nat} {es : Array DictEntry} {Q : Option Value → Shared → Prop} (hh : A.handled = none) (hit : s.heap.IsKeyIter it d es.size es.size ep) (hm : RawD s.heap d es ep)
    (hQ : ∀ h', Heap.ExtBut it s.heap h' → Q none { s with heap := h' }) : wpAny (model prog w) A (pyNext (.ref it)) Q E s := by
  focus ((refine let G9 : Prop := _; (?_ : G9)); (obtain ⟨o, ho, hc, hd⟩ := id hit); all_goals (unfold G9; clear G9))
  focus ((refine let G9 : Prop := _; (?_ : G9)); (obtain ⟨od, hod, hcd, hdd⟩ := id hm); all_goals (unfold G9; clear G9))
  unfold pyNext
  refine wpAny_bind (wpAny_attempt (wpAny_callSpecial?_slot (name := Str.ofString "__next__") hit.typeIs PySem.F.slot_dict_keyiterator_next
    (wpAny_call_entry PySem.F.slot_dict_keyiterator_next hit.typeIs PySem.F.entry_dict_keyiterator_next ?_ (PySem.F.args_dict_keyiterator_next_1 _))))
  refine wpAny_bind (wpAny_pure (wpAny_bind (wpAny_bind ?_)))
  first | refine wpAny_bind (wpAny_typeNameOfWhole_keyiter hit.typeIs (wpAny_pure ?_)) | refine wpAny_bind (wpAny_typeNameOf_keyiter hit.typeIs (wpAny_pure ?_))
  refine wpAny_bind (wpAny_fieldsOf ho hd ?_)
  have hown : Builtin.Dict_items.ownsTuple "dict_keyiterator" = false := by decide
  rw [if_neg (show ¬ (Builtin.Dict_items.ownsTuple "dict_keyiterator" = true) by rw [hown]; exact Bool.false_ne_true)]
  show wpAny _ _ (if (Value.ref d == Value.none) = true then _ else _) _ _ s
  rw [if_neg (show ¬ ((Value.ref d == Value.none) = true) from Bool.false_ne_true)]
  refine wpAny_bind (wpAny_pure (wpAny_bind (wpAny_dictEntries hod hdd ?_)))
  rw [if_neg (by simp)]
  refine wpAny_bind (wpAny_pure (wpAny_bind (wpAny_dictEpoch hod hdd ?_)))
  rw [if_neg (by simp)]
  refine wpAny_pure ?_
  dsimp only
  rw [if_neg (show ¬ (((es.size : Nat) : Int) < 0) by (first | lia | omega)), Int.toNat_natCast, Array.getElem?_eq_none (Nat.le_refl es.size)]
  dsimp only
  refine wpAny_bind ?_
  first | refine wpAny_bind (wpAny_typeNameOfWhole_keyiter hit.typeIs (wpAny_pure ?_)) | refine wpAny_bind (wpAny_typeNameOf_keyiter hit.typeIs (wpAny_pure ?_))
  show wpAny _ _ (setField (.ref it) 0 .none >>= _) _ _ s
  refine wpAny_bind (wpAny_setField ho hd (by simp) ?_)
  show wpAny _ _ (newExc (.type "StopIteration") [] >>= _) _ _ _
  refine wpAny_bind ?_
  simp only [newExc, newTuple]
  refine wpAny_bind (wpAny_newObj_type ?_ (by size_fits))
  refine wpAny_bind (m := firstArgMember _ _) (wpAny_of_eq (a := Value.none) (by first | rfl | (simp only [firstArgMember]; rfl)) ?_)
  refine wpAny_newObj_type ?_ (by size_fits)
  simp only [raiseNew]
  refine wpAny_bind (wpAny_handled ?_)
  rw [show A.in1.handled = none from hh]
  refine wpAny_bind (wpAny_pure (wpAny_throw ?_))
  refine wpAny_bind (wpAny_isInstance (T := "StopIteration") (b := true) ⟨_, Heap.get?_push_size _ rfl, rfl⟩ isSubtype_stop ?_)
  exact wpAny_pure (hQ _ (((Heap.SameBut.update ..).extBut.push _).push _))

theorem raw_walks (hh : A.handled = none) (I d : Addr) (hne : d ≠ I) (es : Array DictEntry) (ep : Nat) :
    Walks prog w A I [I, d] [I] es.size (fun i v => ∃ e, es[i]? = some e ∧ v = e.key) (fun i h => h.IsKeyIter I d i es.size ep ∧ RawD h d es ep) where
  sub := fun b hb => by simp at hb; simp [hb]
  frame := fun _ _ _ st hk => ⟨st.1.at fun o e => hk I (by simp) o e, st.2.at' fun o e => hk d (by simp) o e⟩
  item := fun i s Q E hi st hQ => by
    refine raw_next st.1 st.2 hi fun h' hit' hs' => ?_
    exact hQ _ h' s.toks ⟨_, Array.getElem?_eq_getElem hi, rfl⟩ ⟨hit', st.2.at' fun o e => hs'.extBut d o hne e⟩ fun b o hb e => hs'.extBut b o (fun h => hb (by simp [h])) e
  done := fun s Q E st hQ => raw_end hh st.1 st.2 fun h' he' => hQ h' s.toks fun b o hb e => he' b o (fun h => hb (by simp [h])) e
  self := fun _ _ _ _ st hQ => wpAny_pyIter_keyiter st.1 hQ

theorem raw_src {d : Addr} {es : Array DictEntry} {ep : Nat} (lo : (d == sysModules) = false) : KdlSrc prog w "dict" d d es.size (fun i v => ∃ e, es[i]? = some e ∧ v = e.key) (fun h => RawD h d es ep) where
  type := fun _ hm => hm.typeIs
  there := fun _ hm => ⟨let ⟨_, ho, _⟩ := hm; Heap.lt_size ho, let ⟨_, ho, _⟩ := hm; Heap.lt_size ho⟩
  keep := fun _ _ hm hk => hm.at' fun o e => hk d (.inl rfl) o e
  notList := by decide
  notTuple := by decide
  hint := fun _ _ _ _ hm hq => kdl_hint_dict hm.typeIs hq
  iter := fun _ _ hh hm => ⟨_, _, (fun _ _ hq => raw_iter lo hm hq), raw_walks hh _ d (Nat.ne_of_lt (let ⟨_, ho, _⟩ := hm; Heap.lt_size ho)) es ep, ⟨⟨_, Heap.get?_push_size _ rfl, rfl, rfl⟩, hm.at' fun o e => Heap.get?_push_of_some _ e⟩⟩

inductive ColI (s : Shared) (es : Array DictEntry) (r : Result) (s' : Shared) : Prop
  | mk (h' : Heap) (tk : Tok) (acc' : Array Value) (c' : Nat) : r = .ok (.ret (.ref s.heap.objs.size)) → s' = { s with heap := h', toks := tk } → Kp s.heap h' →
    h'.get? s.heap.objs.size = some { cls := .type "list", dict := none, data := .seq acc' c', slots := #[] } → acc'.toList = es.toList.map (·.key) → ColI s es r s'
theorem raw_collect {d : Addr} {es : Array DictEntry} {ep : Nat} {Q : List Value → Shared → Prop} (hh : A.handled = none) (lo : (d == sysModules) = false) (hm : RawD s.heap d es ep) (hn : es.size ≤ sizeLine)
    (h : ∀ h' tk, Kp s.heap h' → Q (es.toList.map (·.key)) { s with heap := h', toks := tk }) : wpAny (model prog w) A (collect (.ref d)) Q E s := by
  have hlt : d < s.heap.objs.size := let ⟨_, ho, _⟩ := hm; Heap.lt_size ho
  unfold collect
  refine wpAny_bind (wpAny_runValue (codeAny_builtin PySem.F.entry_proto_collect ?_))
  rw [Around.under_plainId PySem.F.plain_proto_collect _]
  show wpAny _ A.in1 (newList [] >>= fun l => again (.builtin "list.__iadd__" ⟨[l, .ref d], []⟩)) _ _ s
  refine wpAny_bind (wpAny_newObj_type ?_)
  refine wpAny_pure ⟨plainId_quiet PySem.F.plain_list_iadd _, codeAny_builtin PySem.F.entry_list_iadd ?_⟩
  rw [Around.under_plainId PySem.F.plain_list_iadd _]
  show wpAny _ A.in1 (Builtin.List.listExtendWith (.ref s.heap.objs.size) (.ref d) (.ref s.heap.objs.size)) _ _ _
  have hm' : RawD (s.heap.push { cls := .type "list", data := .seq ([] : List Value).toArray }) d es ep := hm.at' fun o e => Heap.get?_push_of_some _ e
  have X := kdl_extend (R := ColI s es)
    (A := A) (s := { s with heap := s.heap.push { cls := .type "list", data := .seq ([] : List Value).toArray } }) (raw_src (prog := prog) (w := w) lo) hh hm' s.heap.objs.size (Nat.ne_of_gt hlt) (Nat.ne_of_gt hlt) (.ref s.heap.objs.size) _ (Heap.get?_push_size _ rfl) (fun h' tk acc' c' hk hS hacc => ?_) hn
  · have fin : ∀ (r : Result) (s' : Shared), ColI s es r s' → r = Except.ok (Flow.ret (.ref s.heap.objs.size)) ∧ wpAny (model prog w) A (do
              let o ← load s.heap.objs.size
              match o.data with
              | .seq xs _ => pure xs.toList
              | _ => unsupported "internal:collect") Q E s' := by
      intro r s' q9
      focus ((refine let G9 : Prop := _; (?_ : G9)); (obtain ⟨h', tk, acc', c', rfl, rfl, k, hS, e⟩ := q9); all_goals (unfold G9; clear G9))
      refine ⟨rfl, ?_⟩
      refine wpAny_bind (wpAny_load hS ?_)
      show wpAny _ _ (pure acc'.toList) _ _ _
      rw [e]
      exact wpAny_pure (h h' tk k)
    refine wpAny_mono X (fun fn s' q => ?_) (fun e s' q => ?_)
    · cases fn with
      | done f =>
        focus ((refine let G9 : Prop := _; (?_ : G9)); (obtain ⟨e, z⟩ := fin _ _ q); all_goals (unfold G9; clear G9))
        cases e
        exact z
      | again c =>
        refine ⟨q.1, codeAny_mono q.2 fun r s'' q => ?_⟩
        focus ((refine let G9 : Prop := _; (?_ : G9)); (obtain ⟨rfl, z⟩ := fin _ _ q); all_goals (unfold G9; clear G9))
        exact z
    · focus ((refine let G9 : Prop := _; (?_ : G9)); (obtain ⟨_, _, _, _, e, _⟩ := q); all_goals (unfold G9; clear G9))
      cases e
  · refine ⟨h', tk, acc', c', rfl, rfl, fun b o q => hk b o (Nat.ne_of_lt (Heap.lt_size q)) (Heap.get?_push_of_some _ q), hS, ?_⟩
    refine List.ext_getElem? fun i => ?_
    rw [List.getElem?_map, Array.getElem?_toList, Array.getElem?_toList]
    cases q : acc'[i]? with
    | some v =>
      focus ((refine let G9 : Prop := _; (?_ : G9)); (obtain ⟨e, he, rfl⟩ := hacc.2 i v q); all_goals (unfold G9; clear G9))
      rw [he]; rfl
    | none =>
      have : es[i]? = none := by
        rw [Array.getElem?_eq_none_iff] at q ⊢
        rw [← hacc.1]
        exact q
      rw [this]; rfl
end
section
variable {prog : Program} {w : World} {A : Around} {s : Shared}
/-- sorted of a dict's keys, pairs of ints -/
theorem sorted_dict {d : Addr} {es : Array DictEntry} {ep : Nat} {ps out : List (Int × Int)} (hh : A.handled = none) (lo : (d == sysModules) = false) (hm : RawD s.heap d es ep) (ra : HA s.heap (es.toList.map (·.key)) (ps.map prD)) (hp : ∀ q ∈ ps, PrOk q) (h64 : ps.length < 64)
    (hperm : out.Perm ps) (hsort : out.Pairwise (fun x y => prK x ≤ prK y)) :
    wpAny (model prog w) A (call (.builtin "sorted") [.ref d]) (fun v s' => Grew s s' ∧ ∃ a vs n, v = .ref a ∧ s'.heap.get? a = some (listOf (List.toArray vs) n) ∧ HA s'.heap vs (out.map prD) ∧ s.heap.get? a = none) NoE s := by
  have hlen : (es.toList.map (·.key)).length = ps.length := by rw [ra.length, List.length_map]
  have hsz : es.size = ps.length := by rw [← hlen, List.length_map, Array.length_toList]
  try (refine (let Q9 : _ → Shared → Prop := _; (?_ : wpAny _ _ _ Q9 _ _)))
  refine Calls.call_function_entry kind_sorted plain_sorted entry_sorted (args_sorted1 _) ?_
  unfold Builtin.«sorted»
  try (refine (let Q9 : _ → Shared → Prop := _; (?_ : wpAny _ _ _ Q9 _ _)))
  refine wpAny_bind (m := checkCount "sorted" 1 1 _) (wpAny_pure ?_)
  try (refine (let Q9 : _ → Shared → Prop := _; (?_ : wpAny _ _ _ Q9 _ _)))
  refine wpAny_bind (raw_collect (A := A.in1) hh lo hm (by rw [hsz, sizeLine_eq]; (first | lia | omega)) fun h1 tk1 k1 => ?_)
  generalize es.toList.map (·.key) = vs at *
  try (refine (let Q9 : _ → Shared → Prop := _; (?_ : wpAny _ _ _ Q9 _ _)))
  refine wpAny_bind (wpAny_newList ?_ (by rw [sizeLine_eq]; (first | lia | omega)))
  have hoL : (h1.push (seqObj "list" vs.toArray 0)).get? h1.objs.size = some (seqObj "list" vs.toArray 0) := Heap.get?_push_size _ rfl
  have keep : Kp s.heap (h1.push (seqObj "list" vs.toArray 0)) := k1.trans (.push _ _)
  have hbelow : ∀ b o, s.heap.get? b = some o → b < h1.objs.size := fun b o q => Heap.lt_size (k1 b o q)
  have fresh : s.heap.get? h1.objs.size = none := by
    cases q : s.heap.get? h1.objs.size with
    | none => rfl
    | some o => exact absurd (hbelow _ _ q) (Nat.lt_irrefl _)
  show wpAny _ _ _ _ _ { s with heap := h1.push (seqObj "list" vs.toArray 0), toks := tk1 }
  try (refine (let Q9 : _ → Shared → Prop := _; (?_ : wpAny _ _ _ Q9 _ _)))
  refine wpAny_bind (wpAny_holding (wpAny_call_entry slot_list_sort ⟨_, hoL, rfl⟩ entry_list_sort ?_ (args_list_sort _)))
  try (refine (let Q9 : _ → Shared → Prop := _; (?_ : wpAny _ _ _ Q9 _ _)))
  refine sort_list (s := { s with heap := h1.push (seqObj "list" vs.toArray 0), toks := tk1 }) hoL (ra.kp keep) hp h64 fun ws ps' h' c h1' h2 h3 h4 h5 => ?_
  refine ⟨_, rfl, wpAny_pure ⟨_, rfl, ⟨⟨h', tk1, rfl⟩, fun b o q => h3 b o (Nat.ne_of_lt (hbelow b o q)) (keep b o q)⟩, _, ws, c, rfl, h4, ?_, fresh⟩⟩
  have hin : ∀ q ∈ ps', PrOk q := fun q hq => hp q (h1'.mem_iff.mp hq)
  have e : ps' = out := by
    try (refine (let Q9 : _ → Shared → Prop := _; (?_ : wpAny _ _ _ Q9 _ _)))
    refine sorted_unique (le := fun x y => prK x ≤ prK y) (fun a ha b hb h1 h2 => ?_) (h1'.trans hperm.symm) h2 hsort
    focus ((refine let G9 : Prop := _; (?_ : G9)); (obtain ⟨a1, a2⟩ := a); all_goals (unfold G9; clear G9))
    focus ((refine let G9 : Prop := _; (?_ : G9)); (obtain ⟨b1, b2⟩ := b); all_goals (unfold G9; clear G9))
    focus ((refine let G9 : Prop := _; (?_ : G9)); (obtain ⟨ha1, ha2⟩ := hin _ ha); all_goals (unfold G9; clear G9))
    focus ((refine let G9 : Prop := _; (?_ : G9)); (obtain ⟨hb1, hb2⟩ := hin _ hb); all_goals (unfold G9; clear G9))
    simp only [prK] at h1 h2
    simp only at ha1 ha2 hb1 hb2
    have e1 : a1 = b1 := by (first | lia | omega)
    have e2 : a2 = b2 := by (first | lia | omega)
    subst e1 e2
    rfl
  rw [← e]
  exact h5
end
end Mine
end
-- Lg10
section
open PySem PySem.W PyProof.Rows PySem.Calls PySem.Spec
namespace Mine
section
variable {prog : Program} {w : World} {A : Around} {E : Value → Shared → Prop} {s : Shared}
/-- an item of a list stored -/
theorem set_at {l : Addr} {vs : List Value} {n : Nat} {k : Int} {v : Value} {t : Tok} {Q : Unit → Shared → Prop} (ho : s.heap.get? l = some (listOf vs.toArray n)) (h0 : 0 ≤ k) (hk : k < vs.length) (hfit : k < 2 ^ 63)
    (hQ : ∀ h' n', h'.get? l = some (listOf (vs.set k.toNat v).toArray n') → Heap.SameBut l s.heap h' → Q () { s with heap := h' }) :
    wpAny (model prog w) A (setItem (.ref l) (.int k t) v) Q E s := by
  have hl : s.heap.IsList l vs.toArray := ⟨_, ho, rfl, n, rfl⟩
  unfold setItem
  try with_reducible refine wpAny_holding ?_
  first | refine wpAny_bind (wpAny_pure ?_) | skip
  try (refine (let Q9 : _ → Shared → Prop := _; (?_ : wpAny _ _ _ Q9 _ _)))
  refine wpAny_bind (wpAny_sequenceKey hl.typeIs (by decide) ?_)
  try (refine (let Q9 : _ → Shared → Prop := _; (?_ : wpAny _ _ _ Q9 _ _)))
  refine wpAny_bind (wpAny_callSpecial?_slot (name := Str.ofString "__setitem__") hl.typeIs slot_list_setitem
    (wpAny_call_entry slot_list_setitem hl.typeIs entry_list_setitem ?_ (args_list_setitem _ _ _)))
  show wpAny _ _ (Builtin.List.listSubscript? (.int k t) >>= _) _ _ s
  try (refine (let Q9 : _ → Shared → Prop := _; (?_ : wpAny _ _ _ Q9 _ _)))
  refine wpAny_bind (wpAny_listSubscript_int (fitsIndex_of h0 hfit) ?_)
  clear hfit
  focus ((refine let G9 : Prop := _; (?_ : G9)); (obtain ⟨j, rfl⟩ := Int.eq_ofNat_of_zero_le h0); all_goals (unfold G9; clear G9))
  have hj : j < vs.length := by (first | lia | omega)
  have hx' : vs.toArray[j]? = some (vs[j]) := by simp [hj]
  show wpAny _ _ ((seqItemAt l j >>= fun r => pure (r.map (j, ·))) >>= _) _ _ s
  try (refine (let Q9 : _ → Shared → Prop := _; (?_ : wpAny _ _ _ Q9 _ _)))
  refine wpAny_bind (wpAny_bind (wpAny_seqItemAt ho rfl (wpAny_pure ?_)))
  rw [hx']
  show wpAny _ _ (setSeqItemAt l j v >>= _) _ _ s
  have hfin := get?_update_seq (g := (·.setIfInBounds j v)) ho
  have hsz : vs.toArray.setIfInBounds j v = (vs.set j v).toArray := by simp
  try (refine (let Q9 : _ → Shared → Prop := _; (?_ : wpAny _ _ _ Q9 _ _)))
  refine wpAny_bind (wpAny_setSeqItemAt ho rfl ?_)
  have hfin' : ∃ n', (s.heap.update l (Obj.mapSeq (·.setIfInBounds j v))).get? l = some (listOf (vs.set j v).toArray n') := ⟨_, by rw [hfin, hsz]⟩
  focus ((refine let G9 : Prop := _; (?_ : G9)); (obtain ⟨n', hfin'⟩ := hfin'); all_goals (unfold G9; clear G9))
  first
    | exact wpAny_bind (wpAny_pure (wpAny_pure ⟨.none, rfl, wpAny_pure (hQ _ _ hfin' (Heap.SameBut.update ..))⟩))
    | exact wpAny_pure ⟨.none, rfl, wpAny_pure (hQ _ _ hfin' (Heap.SameBut.update ..))⟩
end
-- the class FibTree
section
variable {w : World}
theorem c_name : nsIn (hd.heap_39 w.params) mainGlobals (Str.ofString "FibTree") = some (some (.ref 183)) := by k_is
theorem c_makes : makesIn (hd.heap_39 w.params) 183 = true := by k_is
theorem c_init : findIn (hd.heap_39 w.params) (.ref 183) "__init__" = some (some (.ref 145)) := by k_is
theorem c_initF : isFn (hd.heap_39 w.params) (.ref 145) = true := by k_is
theorem c_get : plainGet (hd.heap_39 w.params) 183 (Str.ofString "put") = true := by k_is
theorem c_put : findIn (hd.heap_39 w.params) (.ref 183) (Str.ofString "put") = some (some (.ref 152)) := by k_is
theorem c_putF : isFn (hd.heap_39 w.params) (.ref 152) = true := by k_is
theorem c_look : findIn (hd.heap_39 w.params) (.ref 183) (Str.ofString "look") = some (some (.ref 166)) := by k_is
theorem c_lookF : isFn (hd.heap_39 w.params) (.ref 166) = true := by k_is
theorem c_dict : hasDictIn (hd.heap_39 w.params) 183 = true := by k_is
theorem c_tree : findIn (hd.heap_39 w.params) (.ref 183) (Str.ofString "tree") = some none := by k_is
theorem c_bits : findIn (hd.heap_39 w.params) (.ref 183) (Str.ofString "bits") = some none := by k_is
theorem c_set : findIn (hd.heap_39 w.params) (.ref 183) "__setattr__" = some (some (.builtin "object.__setattr__")) := by k_is
theorem c_over : plainOver (hd.heap_39 w.params) 183 = true := by k_is
theorem c_tTree : takerIn (hd.heap_39 w.params) 183 (Str.ofString "tree") = some none := by k_is
theorem c_tBits : takerIn (hd.heap_39 w.params) 183 (Str.ofString "bits") = some none := by k_is
theorem c_keep : keepIn (hd.heap_39 w.params) (.ref 183) = true := by k_is
theorem c_keepP : keepIn (hd.heap_39 w.params) (.ref 152) = true := by k_is
theorem c_keepL : keepIn (hd.heap_39 w.params) (.ref 166) = true := by k_is
theorem c_noGet : noGet (hd.heap_39 w.params) none = true := by k_is
end

noncomputable def fld (w : World) (x : Str) (t : Tok) (v : Value) : DictEntry := ⟨PyData.keyHash w.params x, .str x t, v⟩
/-- a FibTree at a place -/
structure TreeAt (w : World) (h : Heap) (X D : Addr) (b : Nat) (T : PT) : Prop where
  obj : h.get? X = some (instObj 183 D)
  dict : ∃ t1 t2 tb n tv, h.get? D = some (dictOf [fld w (Str.ofString "bits") t1 (.int b tb), fld w (Str.ofString "tree") t2 tv] n) ∧ HR h tv (encT b T)
theorem TreeAt.kp {w : World} {h h' : Heap} {X D : Addr} {b : Nat} {T : PT} (k : Kp h h') (t : TreeAt w h X D b T) : TreeAt w h' X D b T := by
  focus ((refine let G9 : Prop := _; (?_ : G9)); (obtain ⟨t1, t2, tb, n, tv, e, r⟩ := t.dict); all_goals (unfold G9; clear G9))
  exact ⟨k _ _ t.obj, t1, t2, tb, n, tv, k _ _ e, r.kp k⟩
theorem TreeAt.kt {w : World} {h h' : Heap} {X D : Addr} {b : Nat} {T : PT} (k : Kt h h') (k1 : ∀ o, h.get? X = some o → h'.get? X = some o) (k2 : ∀ o, h.get? D = some o → h'.get? D = some o) (t : TreeAt w h X D b T) : TreeAt w h' X D b T := by
  focus ((refine let G9 : Prop := _; (?_ : G9)); (obtain ⟨t1, t2, tb, n, tv, e, r⟩ := t.dict); all_goals (unfold G9; clear G9))
  exact ⟨k1 _ t.obj, t1, t2, tb, n, tv, k2 _ e, r.monoT k noL_encT⟩
theorem TreeAt.inst {w : World} {h : Heap} {X D : Addr} {b : Nat} {T : PT} (t : TreeAt w h X D b T) : ∃ es n, PySem.W.InstAt h X (instObj 183 D) 183 (some (dictOf es n)) ∧ ∃ t1 t2 tb tv, es = [fld w (Str.ofString "bits") t1 (.int b tb), fld w (Str.ofString "tree") t2 tv] ∧ HR h tv (encT b T) ∧ h.get? D = some (dictOf es n) := by
  focus ((refine let G9 : Prop := _; (?_ : G9)); (obtain ⟨t1, t2, tb, n, tv, e, r⟩ := t.dict); all_goals (unfold G9; clear G9))
  exact ⟨_, n, ⟨t.obj, rfl, rfl, e⟩, t1, t2, tb, tv, rfl, r, e⟩
section
variable {prog : Program} {w : World} {mg mb : Str → Option Value} {A : Around} {env : Env} {h₀ : Heap} {ρ : Ev}
theorem encT_handed {h : Heap} {v : Value} {b : Nat} {T : PT} (r : HR h v (encT b T)) : handedIn v = true := by
  cases T with
  | nil => rw [r.none_inv]; rfl
  | node p u l q => obtain ⟨a, vs, n, rfl, _⟩ := r.tup_inv; rfl
/-- a field read -/
theorem d_tree {x : Str} {p pos : Pos} {X D : Addr} {b : Nat} {T : PT} (G : Gd w mg mb h₀) (hT : TreeAt w h₀ X D b T) (hl : ρ.lookup x = some (.raw (.ref X))) (hk : env.scope.kind = .function) (hx : env.kindOf x = some .local) (hd' : (x == ("__debug__" : Str)) = false := by decide) :
    EvD (model prog w) A env h₀ ρ (eval (.Attribute (.Name x p) (Str.ofString "tree") pos) env) (encT b T) := fun m s F R => by
  focus ((refine let G9 : Prop := _; (?_ : G9)); (obtain ⟨v, hv, rfl⟩ := R x _ hl); all_goals (unfold G9; clear G9))
  focus ((refine let G9 : Prop := _; (?_ : G9)); (obtain ⟨ml, hn, hm⟩ := F.ns); all_goals (unfold G9; clear G9))
  have T1 := hT.kp F.keep
  focus ((refine let G9 : Prop := _; (?_ : G9)); (obtain ⟨es, n, I, t1, t2, tb, tv, rfl, r, _⟩ := T1.inst); all_goals (unfold G9; clear G9))
  refine Attribute_name (wpAny_Name (wpAny_loadName_local hk hx hn ((hm x hx).trans hv) ?_) hd')
  exact get_value (G.kp F.keep).K I (plainGet_of c_get).1 (findObj_own c_dict c_tree c_noGet (by rfl)) (encT_handed r) ⟨.tok _ _, r⟩
theorem d_bits {x : Str} {p pos : Pos} {X D : Addr} {b : Nat} {T : PT} (G : Gd w mg mb h₀) (hT : TreeAt w h₀ X D b T) (hl : ρ.lookup x = some (.raw (.ref X))) (hk : env.scope.kind = .function) (hx : env.kindOf x = some .local) (hd' : (x == ("__debug__" : Str)) = false := by decide) :
    EvD (model prog w) A env h₀ ρ (eval (.Attribute (.Name x p) (Str.ofString "bits") pos) env) (.int b) := fun m s F R => by
  focus ((refine let G9 : Prop := _; (?_ : G9)); (obtain ⟨v, hv, rfl⟩ := R x _ hl); all_goals (unfold G9; clear G9))
  focus ((refine let G9 : Prop := _; (?_ : G9)); (obtain ⟨ml, hn, hm⟩ := F.ns); all_goals (unfold G9; clear G9))
  have T1 := hT.kp F.keep
  focus ((refine let G9 : Prop := _; (?_ : G9)); (obtain ⟨es, n, I, t1, t2, tb, tv, rfl, r, _⟩ := T1.inst); all_goals (unfold G9; clear G9))
  refine Attribute_name (wpAny_Name (wpAny_loadName_local hk hx hn ((hm x hx).trans hv) ?_) hd')
  exact get_value (v := .int b tb) (G.kp F.keep).K I (plainGet_of c_get).1 (findObj_own c_dict c_bits c_noGet (by rfl)) rfl ⟨.tok _ _, .int _ _⟩
set_option tactic.hygienic true in
/-- a field stored in an object's own dict -/
theorem osa_exact {s : Shared} {x dx : Addr} {name : Str} {tk : Tok} {v : Value} {es : List DictEntry} {n : Nat} {R : Result → Shared → Prop} (X : (hd.heap_39 w.params).In s.heap)
    (I : PySem.W.InstAt s.heap x (instObj 183 dx) 183 (some (dictOf es n))) (hD : s.heap.get? dx = some (dictOf es n)) (ht : takerIn (hd.heap_39 w.params) 183 name = some none) (hl : (getL name es).isSome = true)
    (hz : (putL name (PyData.keyHash w.params name) (.str name s.toks) v es).length ≤ 1000)
    (h : ∀ h', Heap.SameBut dx s.heap h' → h'.get? dx = some (dictOf (putL name (PyData.keyHash w.params name) (.str name s.toks) v es) (putN name es n)) → R (.ok (.ret .none)) { s with heap := h', toks := s.toks + 1 }) :
    codeAny (model prog w) A (.call (.builtin "object.__setattr__") ⟨[.ref x, .str name tk, v], []⟩) R s := by
  refine osa_open X I c_over ht fun b => ?_
  focus ((refine let G9 : Prop := _; (?_ : G9)); (obtain ⟨cd, hc, hd'⟩ := any_some (show (clsIn (hd.heap_39 w.params) 183).any (·.hasDict) = true from c_dict)); all_goals (unfold G9; clear G9))
  focus ((refine let G9 : Prop := _; (?_ : G9)); (obtain ⟨hx, hcl, hn, -⟩ := I); all_goals (unfold G9; clear G9))
  have e : Obj.putName name (PyData.keyHash w.params name) (.str name s.toks) v (dictOf es n) = dictOf (putL name (PyData.keyHash w.params name) (.str name s.toks) v es) (putN name es n) := by rw [putName_dict]
  have hU : (s.heap.update dx (Obj.putName name (PyData.keyHash w.params name) (.str name s.toks) v)).get? dx = some (dictOf (putL name (PyData.keyHash w.params name) (.str name s.toks) v es) (putN name es n)) := by
    rw [Heap.get?_update_self _ hD (by rw [e]; rfl), e]
  refine wpAny_bind (wpAny_pure (wpAny_bind (wpAny_bind (wpAny_loadPart hx (wpAny_bind ((looks_clsIn X hc).here ?_))))))
  rw [hd']
  refine wpAny_pure (a := some dx) (wpAny_bind (wpAny_pure (wpAny_bind ?_)))
  unfold nsSet
  refine wpAny_bind (wpAny_bind (wpAny_askSetting (wpAny_pure (wpAny_bind (wpAny_mkText (wpAny_bind (wpAny_loadPart hD ?_)))))))
  dsimp only
  have c : (!es.toArray.any (·.key.isStr name) && es.toArray.any (·.refKey)) = false := by
    rw [← Array.any_toList, ← Array.any_toList]
    unfold getL at hl
    split at hl
    · rename_i en he
      rw [List.any_eq_true.mpr ⟨en, List.mem_of_find?_eq_some he, List.find?_some he⟩]; rfl
    · split at hl
      · cases hl
      · rename_i z; rw [Bool.not_eq_true] at z; rw [z, Bool.and_false]
  rw [aRefKeyMayBeTheName_at, c]
  refine wpAny_updatePart hD ?_
  refine wpAny_bind (wpAny_lookBehind hU (by exact pastItsLine_dict (by rw [List.size_toArray, sizeLine_eq]; (first | lia | omega))) ?_)
  exact wpAny_pure (h _ (Heap.SameBut.update ..) hU)
theorem osa_at {s : Shared} {E : Value → Shared → Prop} {x dx : Addr} {name : Str} {v : Value} {es : List DictEntry} {n : Nat} {Q : Unit → Shared → Prop} (X : (hd.heap_39 w.params).In s.heap)
    (I : PySem.W.InstAt s.heap x (instObj 183 dx) 183 (some (dictOf es n))) (hD : s.heap.get? dx = some (dictOf es n)) (ht : takerIn (hd.heap_39 w.params) 183 name = some none) (hl : (getL name es).isSome = true)
    (hz : (putL name (PyData.keyHash w.params name) (.str name (s.toks + 1)) v es).length ≤ 1000)
    (h : ∀ h', Heap.SameBut dx s.heap h' → h'.get? dx = some (dictOf (putL name (PyData.keyHash w.params name) (.str name (s.toks + 1)) v es) (putN name es n)) → Q () { s with heap := h', toks := s.toks + 2 }) :
    wpAny (model prog w) A (setAttr (.ref x) name v) Q E s :=
  set_plain X I c_set (osa_exact (s := { s with toks := s.toks + 1 }) X I hD ht hl hz h)

/-- a def's call, the end in one's own words -/
theorem enterRaw {s : Shared} {fa : Addr} {vals : List Value} {name qual : Str} {params : Arguments} {body : List Stmt} {scope : Scope} {dV kV doc pm cdv ct oc : Value} {an od : Option Addr} {osl : Array (Option Value)} {binds : List (Str × Value)} {n : Nat} {R' : Result → Shared → Prop}
    (R : Room A (n + 1)) (G : Gd w mg mb s.heap) (ho : (hd.heap_39 w.params).lookup fa = some ⟨oc, od, .func (fnOf name qual params body scope dV kV doc pm an cdv ct), osl⟩) (hcd : codeIn (hd.heap_39 w.params) cdv qual = true)
    (hbind : bindArgs (fnOf name qual params body scope dV kV doc pm an cdv ct) ⟨vals, []⟩ = pure binds) (hloc : (binds.all fun x => decide (scope.names.lookup x.1 = some .local)) = true)
    (hco : scope.isCoroutine = false) (hgen : scope.isGenerator = false) (hk : scope.kind = .function) (hcell : ∀ x ∈ scope.names, x.2 ≠ .cell)
    (h : ∀ L s₁, Room (A.deeper (envOf qual scope L fa cdv)) n → Kp s.heap s₁.heap → Same s s₁ → Frm (envOf qual scope L fa cdv) s.heap s₁.heap (fun y => binds.reverse.lookup y) →
      wpAny (model prog w) (A.deeper (envOf qual scope L fa cdv)) (execs body (envOf qual scope L fa cdv)) (fun f s' => R' (.ok (.ret (match f with | .ret v => v | _ => .none))) s') NoE s₁) :
    codeAny (model prog w) A (.call (.ref fa) ⟨vals, []⟩) R' s := by
  refine codeAny_call_def (fd := fnOf name qual params body scope dV kV doc pm an cdv ct) (body := body) (binds := binds) (by have := R.1; (first | lia | omega)) (G.K _ _ ho) rfl G.T.nolimit (codeRec_of G.K hcd) rfl (BindsTo.of_eq hbind) hcell (locs hloc) (fun h₁ hns hk₁ => ?_) hco hgen hk
  exact wpAny_mono (h s.heap.objs.size { s with heap := h₁, toks := s.toks + binds.length } (R.deeper _) hk₁ ⟨_, _, rfl⟩ ⟨⟨_, hns, fun _ _ => rfl⟩, hk₁, not_size, fun n c hc => by cases hc⟩) (fun _ _ x => x) fun _ _ x => x.elim
theorem frm_name {m : Str → Option Value} {s : Shared} {x : Str} {p : Pos} {v : Value} {Q : Value → Shared → Prop} (F : Frm env h₀ s.heap m) (hv : m x = some v) (hk : env.scope.kind = .function) (hx : env.kindOf x = some .local) (h : Q v s) (hd' : (x == ("__debug__" : Str)) = false := by decide) :
    wpAny (model prog w) A (eval (.Name x p) env) Q NoE s := by
  focus ((refine let G9 : Prop := _; (?_ : G9)); (obtain ⟨ml, hn, hm⟩ := F.ns); all_goals (unfold G9; clear G9))
  exact wpAny_Name (wpAny_loadName_local hk hx hn ((hm x hx).trans hv) h) hd'

theorem fib_put {s : Shared} {X D : Addr} {b : Nat} {T : PT} {p : Path} {wt : Nat} {vp vw : Value} (R : Room A (5 + dep T)) (G : Gd w mg mb s.heap) (hb : Bits b) (hp : p.length ≤ b) (ok : TOk b T) (hT : TreeAt w s.heap X D b T) (rp : HR s.heap vp (encD b p)) (rw' : HR s.heap vw (.int wt)) :
    wpAny (model prog w) A (call (.ref 152) [.ref X, vp, vw]) (fun v s' => v = .none ∧ Same s s' ∧ TreeAt w s'.heap X D b (putT T p wt) ∧ ∀ a o, a ≠ D → s.heap.get? a = some o → s'.heap.get? a = some o) NoE s := by
  refine wpAny_call ?_
  refine enterRaw (n := 4 + dep T) (R.less (by (first | lia | omega))) G (by k_is) (by k_is) rfl rfl rfl rfl rfl (by decide) fun L s₁ R k₁ e₁ F => ?_
  have Rv : EnvR s.heap s₁.heap (fun y => List.lookup y [(Str.ofString "worth", vw), (Str.ofString "prefix", vp), (Str.ofString "self", .ref X)]) [(Str.ofString "self", .raw (.ref X)), (Str.ofString "prefix", .val (encD b p)), (Str.ofString "worth", .val (.int wt))] := by
    intro x e q
    rcases List.mem_cons.mp (memLookup q) with h | h
    · cases h; exact ⟨_, rfl, rfl⟩
    · rcases List.mem_cons.mp h with h | h
      · cases h; exact ⟨_, rfl, rp.kp k₁, .inl rfl⟩
      · cases List.mem_singleton.mp h; exact ⟨_, rfl, rw'.kp k₁, .inl rfl⟩
  refine wpAny_execs_cons (plainObj_wpAny_Assign_Attribute ?_)
  refine wmono ((d_call G R (by (first | lia | omega)) (fn_tree_put hb hp ok) (l_cons (d_tree G hT rfl rfl rfl) (l_cons (d_name rfl rfl rfl) (l_cons (d_name rfl rfl rfl) (l_cons (d_bits G hT rfl rfl rfl) l_nil)))) (by k_is) (by k_is) rfl rfl rfl) _ s₁ F Rv) fun v s2 q9 => ?_
  have G2 := q9.1
  have r2 := q9.2
  have k2 := k₁.trans G2.kp
  have T2 := hT.kp k2
  refine frm_name (G2.fr F) rfl rfl rfl ?_
  focus ((refine let G9 : Prop := _; (?_ : G9)); (obtain ⟨es, n, I, t1, t2, tb, tv, rfl, r, eD⟩ := T2.inst); all_goals (unfold G9; clear G9))
  refine osa_at (G.kp k2).K I eD c_tTree (by rfl) (by exact Nat.le_of_ble_eq_true rfl) fun h' hsb hD' => ?_
  refine wpAny_execs_nil ⟨rfl, (e₁.trans G2.same).trans ⟨h', _, rfl⟩, ⟨?_, t1, t2, tb, _, v, hD', ?_⟩, fun a o ha e => (hsb.2 a ha).trans (k2 _ _ e)⟩
  · refine (hsb.2 X ?_).trans T2.obj
    rintro rfl
    have := T2.obj
    rw [eD] at this
    simp at this
  · refine r2.monoT (fun a us k e => (hsb.2 a ?_).trans e) noL_encT
    intro h9
    first | rw [h9, eD] at e | rw [← h9, eD] at e
    simp at e
end
end Mine
end
-- Lg11
section
open PySem PySem.W PyProof.Rows PySem.Calls PySem.Spec
namespace Mine
section
variable {prog : Program} {w : World} {mg mb : Str → Option Value} {A : Around} {env : Env} {h₀ : Heap} {ρ : Ev}
theorem fib_look {s : Shared} {X D : Addr} {b : Nat} {T : PT} {q : Path} {vq : Value} (R : Room A 4) (G : Gd w mg mb s.heap) (hb : Bits b) (hq : q.length = b) (ok : TOk b T) (hT : TreeAt w s.heap X D b T) (rq : HR s.heap vq (.int (adr b q))) :
    wpAny (model prog w) A (call (.ref 166) [.ref X, vq]) (fun v s' => Grew s s' ∧ HR s'.heap v (encF b (lookT b T q none))) NoE s := by
  try (refine (let Q9 : _ → Shared → Prop := _; (?_ : wpAny _ _ _ Q9 _ _)))
  refine wpAny_call ?_
  try (refine (let Q9 : _ → Shared → Prop := _; (?_ : wpAny _ _ _ Q9 _ _)))
  refine enterRaw (n := 3) R G (by k_is) (by k_is) rfl rfl rfl rfl rfl (by decide) fun L s₁ R k₁ e₁ F => ?_
  have Rv : EnvR s.heap s₁.heap (fun y => List.lookup y [(Str.ofString "address", vq), (Str.ofString "self", .ref X)]) [(Str.ofString "self", .raw (.ref X)), (Str.ofString "address", .val (.int (adr b q)))] := by
    intro x e h
    rcases List.mem_cons.mp (memLookup h) with h | h
    · cases h; exact ⟨_, rfl, rfl⟩
    · cases List.mem_singleton.mp h; exact ⟨_, rfl, rq.kp k₁, .inl rfl⟩
  try (refine (let Q9 : _ → Shared → Prop := _; (?_ : wpAny _ _ _ Q9 _ _)))
  refine wpAny_execs_cons (wpAny_Return_some ?_)
  try (refine (let Q9 : _ → Shared → Prop := _; (?_ : wpAny _ _ _ Q9 _ _)))
  refine wmono ((d_call G R (by (first | lia | omega)) (fn_tree_look hb hq ok) (l_cons (d_tree G hT rfl rfl rfl) (l_cons (d_name rfl rfl rfl) (l_cons (d_bits G hT rfl rfl rfl) l_nil))) (by k_is) (by k_is) rfl rfl rfl) _ s₁ F Rv) fun v s2 q9 => ?_
  have G2 := q9.1
  have r2 := q9.2
  refine ⟨⟨?_, k₁.trans G2.kp⟩, r2⟩
  focus ((refine let G9 : Prop := _; (?_ : G9)); (obtain ⟨h', tk, e⟩ := e₁.trans G2.same); all_goals (unfold G9; clear G9))
  exact ⟨h', tk, e⟩
theorem d_look {x : Str} {p ap cp : Pos} {e1 : Expr} {X D c : Addr} {b n : Nat} {T : PT} {q : Path} (G : Gd w mg mb h₀) (R : Room A n) (hn4 : 4 ≤ n) (hb : Bits b) (hq : q.length = b) (ok : TOk b T) (hT : TreeAt w h₀ X D b T) (hl : ρ.lookup x = some (.raw (.ref X)))
    (h : EvD (model prog w) A env h₀ ρ (eval e1 env) (.int (adr b q))) (hk : env.scope.kind = .function) (hx : env.kindOf x = some .cell) (hc : env.cells.lookup x = some c) (hd' : (x == ("__debug__" : Str)) = false := by decide)
    (he : starEach [e1] env = (false, eval e1 env) :: starEach [] env := by rfl) {pl : Sem Bool}
    (hcall : eval (.Call (.Attribute (.Name x p) (Str.ofString "look") ap) [e1] [] cp) env = (do
      let ov ← eval (.Name x p) env
      standAt ap.atName
      let (f, first) ← holding [ov] (getMethod ov (Str.ofString "look") pl)
      callWith cp f first (backTo cp (starEach [e1] env)) []) := by rfl) :
    EvD (model prog w) A env h₀ ρ (eval (.Call (.Attribute (.Name x p) (Str.ofString "look") ap) [e1] [] cp) env) (encF b (lookT b T q none)) := fun m s F Rv => by
  focus ((refine let G9 : Prop := _; (?_ : G9)); (obtain ⟨v, hv, rfl⟩ := Rv x _ hl); all_goals (unfold G9; clear G9))
  try (refine (let Q9 : _ → Shared → Prop := _; (?_ : wpAny _ _ _ Q9 _ _)))
  refine MethodCall_ ?_ hcall
  try (refine (let Q9 : _ → Shared → Prop := _; (?_ : wpAny _ _ _ Q9 _ _)))
  refine wpAny_Name (wpAny_loadName_cell hk hx hc (hv ▸ F.cell x c hc) ?_) hd'
  have Gs := G.kp F.keep
  have T1 := hT.kp F.keep
  focus ((refine let G9 : Prop := _; (?_ : G9)); (obtain ⟨es, nn, I, t1, t2, tb, tv, rfl, r, _⟩ := T1.inst); all_goals (unfold G9; clear G9))
  try (refine (let Q9 : _ → Shared → Prop := _; (?_ : wpAny _ _ _ Q9 _ _)))
  refine method_fn Gs.K I (plainGet_of c_get).1 (plainGet_of c_get).2 c_look (beq_iff_eq.mp c_lookF) (by rfl) ?_
  try (refine (let Q9 : _ → Shared → Prop := _; (?_ : wpAny _ _ _ Q9 _ _)))
  refine callWith_K (h₀ := h₀) G.K c_keepL ?_ he rfl
  try (refine (let Q9 : _ → Shared → Prop := _; (?_ : wpAny _ _ _ Q9 _ _)))
  refine wmono2 ((l_cons h l_nil he) m s F Rv) fun vs s1 G1 ra => ⟨(Gs.kp G1.kp).K, ?_⟩
  cases ra with
  | cons r1 ra =>
    cases ra
    exact wmono2 (fib_look (R.less hn4) (Gs.kp G1.kp) hb hq ok (T1.kp G1.kp) r1) fun u s2 G2 r2 => ⟨G1.trans G2, r2⟩

theorem fib_new {s : Shared} {b : Nat} {t : Tok} (R : Room A 4) (G : Gd w mg mb s.heap) :
    wpAny (model prog w) A (call (.ref 183) [.int b t]) (fun v s' => ∃ X D, v = .ref X ∧ Grew s s' ∧ TreeAt w s'.heap X D b .nil ∧ s.heap.get? X = none ∧ s.heap.get? D = none) NoE s := by
  have hX := G.K
  focus ((refine let G9 : Prop := _; (?_ : G9)); (obtain ⟨h, g, d, tk, os⟩ := s); all_goals (unfold G9; clear G9))
  try (refine (let Q9 : _ → Shared → Prop := _; (?_ : wpAny _ _ _ Q9 _ _)))
  refine wpAny_call ?_
  try (refine (let Q9 : _ → Shared → Prop := _; (?_ : wpAny _ _ _ Q9 _ _)))
  refine make_core (makes_of hX c_makes) (looks_findIn hX c_init) (fun self => bind_fn hX self (beq_iff_eq.mp c_initF)) (.inl rfl) ?_
  have k0 : Kp h ((h.push emptyDict).push (instObj 183 h.objs.size)) := (Kp.push _ _).trans (.push _ _)
  have hD0 : ((h.push emptyDict).push (instObj 183 h.objs.size)).get? h.objs.size = some (dictOf [] 0) := Heap.get?_push_of_some _ (Heap.get?_push_size _ rfl)
  have hX0 : ((h.push emptyDict).push (instObj 183 h.objs.size)).get? (h.objs.size + 1) = some (instObj 183 h.objs.size) := by
    have := Heap.get?_push_size (h.push emptyDict) (o := instObj 183 h.objs.size) rfl
    rwa [Heap.size_push] at this
  have R' : Room (A.under (.builtin "type.__call__" ⟨.ref 183 :: [.int b t], []⟩)) 2 := by
    focus ((refine let G9 : Prop := _; (?_ : G9)); (obtain ⟨a1, a2, a3⟩ := R); all_goals (unfold G9; clear G9))
    refine ⟨?_, ?_, a3⟩
    · show A.depth + Code.weight _ + 2 < _
      have : Code.weight (.builtin "type.__call__" ⟨.ref 183 :: [.int b t], []⟩) ≤ 1 := Nat.le_of_ble_eq_true (by kernel_rfl)
      (first | lia | omega)
    · show A.units + Code.cUnits _ + 10 * 2 + 200 < _
      have : Code.cUnits (.builtin "type.__call__" ⟨.ref 183 :: [.int b t], []⟩) ≤ 10 := Nat.le_of_ble_eq_true (by kernel_rfl)
      (first | lia | omega)
  generalize hH : (h.push emptyDict).push (instObj 183 h.objs.size) = H at *
  have fX : h.get? (h.objs.size + 1) = none := by
    cases q : h.get? (h.objs.size + 1) with
    | none => rfl
    | some o => exact absurd (Heap.lt_size q) (Nat.not_lt.mpr (Nat.le_succ _))
  have fD : h.get? h.objs.size = none := not_size
  have hne : h.objs.size + 1 ≠ h.objs.size := Nat.succ_ne_self _
  generalize h.objs.size + 1 = X at *
  generalize h.objs.size = D at *
  try (refine (let Q9 : _ → Shared → Prop := _; (?_ : wpAny _ _ _ Q9 _ _)))
  refine enterRaw (s := ⟨H, g, d, tk, os⟩) (n := 1) R' (G.kp k0) (by k_is) (by k_is) rfl rfl rfl rfl rfl (by decide) fun L s₁ R k₁ e₁ F => ?_
  have Rv : EnvR H s₁.heap (fun y => List.lookup y [(Str.ofString "bits", .int b t), (Str.ofString "self", .ref X)]) [(Str.ofString "self", .raw (.ref X)), (Str.ofString "bits", .val (.int b))] := by
    intro x e h
    rcases List.mem_cons.mp (memLookup h) with h | h
    · cases h; exact ⟨_, rfl, rfl⟩
    · cases List.mem_singleton.mp h; exact ⟨_, rfl, .int _ _, .inl rfl⟩
  try (refine (let Q9 : _ → Shared → Prop := _; (?_ : wpAny _ _ _ Q9 _ _)))
  refine wpAny_execs_cons (plainObj_wpAny_Assign_Attribute ?_)
  try (refine (let Q9 : _ → Shared → Prop := _; (?_ : wpAny _ _ _ Q9 _ _)))
  refine frm_name F rfl rfl rfl ?_
  try (refine (let Q9 : _ → Shared → Prop := _; (?_ : wpAny _ _ _ Q9 _ _)))
  refine frm_name F rfl rfl rfl ?_
  have I1 : PySem.W.InstAt s₁.heap X (instObj 183 D) 183 (some (dictOf [] 0)) := ⟨k₁ _ _ hX0, rfl, rfl, k₁ _ _ hD0⟩
  try (refine (let Q9 : _ → Shared → Prop := _; (?_ : wpAny _ _ _ Q9 _ _)))
  refine osa_at (G.kp (k0.trans k₁)).K I1 (k₁ _ _ hD0) c_tBits (by rfl) (by exact Nat.le_of_ble_eq_true rfl) fun h2 hsb2 hD2 => ?_
  have hX2 : h2.get? X = some (instObj 183 D) := (hsb2.2 X hne).trans (k₁ _ _ hX0)
  have kh2 : Kp h h2 := fun a o e => (hsb2.2 a (by intro h9; (first | rw [h9, fD] at e | rw [← h9, fD] at e); cases e)).trans (k₁ _ _ (k0 _ _ e))
  have F2 : ∃ ml, h2.Ns L ml ∧ ml (Str.ofString "self") = some (.ref X) := by
    focus ((refine let G9 : Prop := _; (?_ : G9)); (obtain ⟨ml, hn, hm⟩ := F.ns); all_goals (unfold G9; clear G9))
    refine ⟨ml, hn.sameBut hsb2 ?_, hm _ rfl⟩
    rintro rfl
    focus ((refine let G9 : Prop := _; (?_ : G9)); (obtain ⟨o, es, ep, e, hd, _⟩ := hn); all_goals (unfold G9; clear G9))
    have := F.above
    change H.get? _ = none at this
    rw [hD0] at this
    cases this
  focus ((refine let G9 : Prop := _; (?_ : G9)); (obtain ⟨ml, hn2, hm2⟩ := F2); all_goals (unfold G9; clear G9))
  try (refine (let Q9 : _ → Shared → Prop := _; (?_ : wpAny _ _ _ Q9 _ _)))
  refine wpAny_execs_cons (plainObj_wpAny_Assign_Attribute (wpAny_Constant_none ?_))
  try (refine (let Q9 : _ → Shared → Prop := _; (?_ : wpAny _ _ _ Q9 _ _)))
  refine wpAny_Name (wpAny_loadName_local rfl rfl hn2 hm2 ?_) (by decide)
  have I2 : PySem.W.InstAt h2 X (instObj 183 D) 183 (some (dictOf [fld w (Str.ofString "bits") (s₁.toks + 1) (.int b t)] 1)) := ⟨hX2, rfl, rfl, hD2⟩
  try (refine (let Q9 : _ → Shared → Prop := _; (?_ : wpAny _ _ _ Q9 _ _)))
  refine osa_at (s := { s₁ with heap := h2, toks := s₁.toks + 2 }) (G.kp kh2).K I2 hD2 c_tTree (by rfl) (by exact Nat.le_of_ble_eq_true rfl) fun h3 hsb3 hD3 => ?_
  refine wpAny_execs_nil ⟨rfl, X, D, rfl, ⟨?_, fun a o e => (hsb3.2 a (by rintro rfl; change h.get? _ = some o at e; rw [fD] at e; cases e)).trans (kh2 a o e)⟩, ⟨(hsb3.2 X hne).trans hX2, _, _, _, _, .none, hD3, .none⟩, fX, fD⟩
  focus ((refine let G9 : Prop := _; (?_ : G9)); (obtain ⟨h', tk', e⟩ := e₁); all_goals (unfold G9; clear G9))
  subst e
  exact ⟨h3, _, rfl⟩
end
end Mine
end
-- Lg12
section
open PySem PySem.W PyProof.Rows PySem.Calls PySem.Spec
namespace Mine
-- a heap with a hole
noncomputable def hole (h : Heap) (a : Addr) : Heap := h.update a fun o => { o with data := .freed }
theorem hole_ne {h : Heap} {a b : Addr} (hb : b ≠ a) : (hole h a).get? b = h.get? b := Heap.get?_update_ne _ _ _ _ hb
theorem hole_self {h : Heap} {a : Addr} : (hole h a).get? a = none := by
  cases q : (hole h a).get? a with
  | none => rfl
  | some o =>
    exfalso
    have := (Heap.get?_eq_some _ _ _).mp q
    focus ((refine let G9 : Prop := _; (?_ : G9)); (obtain ⟨e, hf⟩ := this); all_goals (unfold G9; clear G9))
    unfold hole at e
    rw [Heap.objs_update_self] at e
    cases he : h.objs[a]? with
    | none => rw [he] at e; cases e
    | some o' =>
      rw [he] at e
      cases e
      cases hf
theorem hole_kp {h : Heap} {a : Addr} : Kp (hole h a) h := fun b o e => by
  by_cases hb : b = a
  · subst hb; rw [hole_self] at e; cases e
  · rwa [hole_ne hb] at e
theorem hole_up {h g : Heap} {a : Addr} (k : Kp g h) (ha : g.get? a = none) : Kp g (hole h a) := fun b o e => by
  have hb : b ≠ a := by intro h9; (first | rw [h9, ha] at e | rw [← h9, ha] at e); cases e
  rw [hole_ne hb]
  exact k b o e
theorem HR.hole {h : Heap} {a : Addr} (hn : NotSeq h a) {v : Value} {d : PyData} (r : HR h v d) : HR (hole h a) v d := r.mono fun b o vs n e hd => by
  rw [hole_ne]
  · exact e
  · rintro rfl; exact hn _ _ _ e hd
theorem NotSeq.hole {h : Heap} {a b : Addr} (hn : NotSeq h b) : NotSeq (hole h a) b := fun o xs n e => hn o xs n (hole_kp _ _ e)

/-- entries that say nothing of lists -/
noncomputable def flat (ρ : Ev) : Bool := ρ.all fun q => match q.2 with | .val d => noL d | .own _ => false | .raw _ => true
theorem flat_at {ρ : Ev} (hf : flat ρ = true) {x : Str} {e : Ent} (h : ρ.lookup x = some e) : (∃ d, e = .val d ∧ noL d = true) ∨ ∃ v, e = .raw v := by
  have := List.all_eq_true.mp hf _ (memLookup h)
  cases e with
  | val d => exact .inl ⟨d, rfl, this⟩
  | own ds => cases this
  | raw v => exact .inr ⟨v, rfl⟩
section
variable {env : Env} {ρ : Ev}
/-- a point of a frame, without a base -/
structure Pt (env : Env) (ρ : Ev) (h : Heap) (m : Str → Option Value) : Prop where
  ns : ∃ ml, h.Ns env.locals ml ∧ ∀ x, env.kindOf x = some .local → ml x = m x
  cell : ∀ n c, env.cells.lookup n = some c → h.IsCell c (m n)
  er : EnvR h h m ρ
theorem Pt.fr {h h₀ : Heap} {m : Str → Option Value} (P : Pt env ρ h m) (k : Kp h₀ h) (hL : h₀.get? env.locals = none) : Frm env h₀ h m := ⟨P.ns, k, hL, P.cell⟩
theorem Pt.envr {h h₀ : Heap} {m : Str → Option Value} (P : Pt env ρ h m) (hf : flat ρ = true) : EnvR h₀ h m ρ := fun x e q => by
  focus ((refine let G9 : Prop := _; (?_ : G9)); (obtain ⟨v, hv, r⟩ := P.er x e q); all_goals (unfold G9; clear G9))
  refine ⟨v, hv, ?_⟩
  rcases flat_at hf q with ⟨d, rfl, hn⟩ | ⟨u, rfl⟩
  · exact ⟨r.1, .inl hn⟩
  · exact r
theorem Pt.of {h h₀ : Heap} {m : Str → Option Value} (F : Frm env h₀ h m) (R : EnvR h₀ h m ρ) (hf : flat ρ = true) : Pt env ρ h m := ⟨F.ns, F.cell, fun x e q => by
  focus ((refine let G9 : Prop := _; (?_ : G9)); (obtain ⟨v, hv, r⟩ := R x e q); all_goals (unfold G9; clear G9))
  refine ⟨v, hv, ?_⟩
  rcases flat_at hf q with ⟨d, rfl, hn⟩ | ⟨u, rfl⟩
  · exact ⟨r.1, .inl hn⟩
  · exact r⟩
/-- a change of the heap that is no change of the frame's own -/
theorem Pt.step {h h' : Heap} {m : Str → Option Value} (P : Pt env ρ h m) (hf : flat ρ = true) (hL : ∀ o, h.get? env.locals = some o → h'.get? env.locals = some o) (hC : ∀ n c, env.cells.lookup n = some c → ∀ o, h.get? c = some o → h'.get? c = some o) (kt : Kt h h') : Pt env ρ h' m := by
  refine ⟨let ⟨ml, hn, hm⟩ := P.ns; ⟨ml, hn.at' hL, hm⟩, fun n c hc => ?_, fun x e q => ?_⟩
  · focus ((refine let G9 : Prop := _; (?_ : G9)); (obtain ⟨o, e, hd⟩ := P.cell n c hc); all_goals (unfold G9; clear G9))
    exact ⟨o, hC n c hc o e, hd⟩
  · focus ((refine let G9 : Prop := _; (?_ : G9)); (obtain ⟨v, hv, r⟩ := P.er x e q); all_goals (unfold G9; clear G9))
    refine ⟨v, hv, ?_⟩
    rcases flat_at hf q with ⟨d, rfl, hn⟩ | ⟨u, rfl⟩
    · exact ⟨r.1.monoT kt hn, .inl hn⟩
    · exact r
theorem Pt.notL {h : Heap} {m : Str → Option Value} (P : Pt env ρ h m) : NotSeq h env.locals := let ⟨_, hn, _⟩ := P.ns; .ns hn
theorem Pt.notC {h : Heap} {m : Str → Option Value} (P : Pt env ρ h m) {n : Str} {c : Addr} (hc : env.cells.lookup n = some c) : NotSeq h c := .cell (P.cell n c hc)
theorem no_owned {m : Str → Option Value} (hf : flat ρ = true) {b : Addr} : ¬ Owned m ρ b := fun ⟨x, ds, q, _⟩ => by
  rcases flat_at hf q with ⟨d, e, _⟩ | ⟨u, e⟩ <;> cases e
end
section
variable {prog : Program} {w : World} {mg mb : Str → Option Value} {A : Around} {env : Env} {h₀ : Heap} {ρ : Ev}
theorem run_x {t : Sem Flow} {o : Out} {m : Str → Option Value} {s : Shared} (h : Xs (model prog w) A env h₀ ρ t o) (F : Frm env h₀ s.heap m) (R : EnvR h₀ s.heap m ρ) : wpAny (model prog w) A t (OutIs env h₀ ρ m s o) NoE s := h m s F R
/-- a name whose value stands in the base -/
theorem d_raw {x : Str} {p : Pos} {v : Value} {d : PyData} (hl : ρ.lookup x = some (.raw v)) (hr : HR h₀ v d) (hk : env.scope.kind = .function) (hx : env.kindOf x = some .local) (hd' : (x == ("__debug__" : Str)) = false := by decide) :
    EvD (model prog w) A env h₀ ρ (eval (.Name x p) env) d := fun m s F R => by
  focus ((refine let G9 : Prop := _; (?_ : G9)); (obtain ⟨u, hv, rfl⟩ := R x _ hl); all_goals (unfold G9; clear G9))
  exact frm_name F hv hk hx ⟨.refl _, hr.kp F.keep⟩ hd'

theorem d_mul {l r : Expr} {pos : Pos} {x y : Int} (hxy : IntMulOk x y) (hl : EvD (model prog w) A env h₀ ρ (eval l env) (.int x)) (hr : EvD (model prog w) A env h₀ ρ (eval r env) (.int y)) :
    EvD (model prog w) A env h₀ ρ (eval (.BinOp l .Mult r pos) env) (.int (x * y)) := d_bin_int hl hr fun s t u Q h => mul_int (h _) hxy
/-- the pool of draws -/
noncomputable def PoolAt (h : Heap) (P : Addr) (ns : List Int) (k : Nat) : Prop := ∃ I n vs nI t, h.get? P = some (listOf [.ref I, .int k t].toArray n) ∧ h.get? I = some (listOf (List.toArray vs) nI) ∧ HA h vs (ns.map .int) ∧ I ≠ P
theorem ints_noL {ns : List Int} : noLs (ns.map PyData.int) = true := noLs_of fun d hd => by
  focus ((refine let G9 : Prop := _; (?_ : G9)); (obtain ⟨i, _, rfl⟩ := List.mem_map.mp hd); all_goals (unfold G9; clear G9))
  rfl
theorem PoolAt.read {h : Heap} {P : Addr} {ns : List Int} {k : Nat} (x : PoolAt h P ns k) : HR h (.ref P) (.list [.list (ns.map .int), .int k]) := by
  focus ((refine let G9 : Prop := _; (?_ : G9)); (obtain ⟨I, n, vs, nI, t, e1, e2, r, _⟩ := x); all_goals (unfold G9; clear G9))
  exact .list e1 (.cons (.list e2 r) (.cons (.int _ _) .nil))
theorem PoolAt.at' {h h' : Heap} {P : Addr} {ns : List Int} {k : Nat} (kp : ∀ a o, h.get? a = some o → (∃ xs n, o.data = .seq xs n) → h'.get? a = some o) (x : PoolAt h P ns k) : PoolAt h' P ns k := by
  focus ((refine let G9 : Prop := _; (?_ : G9)); (obtain ⟨I, n, vs, nI, t, e1, e2, r, hne⟩ := x); all_goals (unfold G9; clear G9))
  exact ⟨I, n, vs, nI, t, kp _ _ e1 ⟨_, _, rfl⟩, kp _ _ e2 ⟨_, _, rfl⟩, r.mono fun a o us n e hd => kp a o e ⟨_, _, hd⟩, hne⟩
theorem fmod_range (x : Int) {y : Int} (hy : 0 < y) : 0 ≤ x.fmod y ∧ x.fmod y < y := ⟨Int.fmod_nonneg_of_pos _ hy, Int.fmod_lt_of_pos _ hy⟩
theorem pylong_small : ∀ k : Nat, k ≤ 40 → Builtin.divisionGoesByPylong (k : Int) 4 = false := by decide
theorem law_draw {s : Shared} {P : Addr} {ns : List Int} {k : Nat} {many : Int} {t : Tok} {fa : Addr} (R : Room A 3) (G : Gd w mg mb (hole s.heap P)) (hm : mg (Str.ofString "_law_draw") = some (.ref fa)) (hP : PoolAt s.heap P ns k) (hk : k ≤ 40) (hmany : 0 < many) (hlen : ns.length ≤ 1000) :
    wpAny (model prog w) A (call (.ref fa) [.ref P, .int many t]) (fun v s' => ∃ (r : Int) (t' : Tok), v = .int r t' ∧ 0 ≤ r ∧ r < many ∧ Same s s' ∧ PoolAt s'.heap P ns (k + 1) ∧ ∀ a o, a ≠ P → s.heap.get? a = some o → s'.heap.get? a = some o) NoE s := by
  obtain rfl := Value.ref.inj (name_at G (by k_is) hm)
  have G' : Gd w mg mb s.heap := G.kp hole_kp
  try (refine (let Q9 : _ → Shared → Prop := _; (?_ : wpAny _ _ _ Q9 _ _)))
  refine wpAny_call ?_
  try (refine (let Q9 : _ → Shared → Prop := _; (?_ : wpAny _ _ _ Q9 _ _)))
  refine enterRaw (n := 2) R G' (by k_is) (by k_is) rfl rfl rfl rfl rfl (by decide) fun L s₁ R k₁ e₁ F => ?_
  have hPL : P ≠ L := by
    rintro rfl
    have this : s.heap.get? P = none := F.above
    focus ((refine let G9 : Prop := _; (?_ : G9)); (obtain ⟨I, n, vs, nI, t, e, _⟩ := hP); all_goals (unfold G9; clear G9))
    rw [this] at e
    cases e
  have Rv : EnvR s.heap s₁.heap (fun y => List.lookup y [(Str.ofString "many", .int many t), (Str.ofString "pool", .ref P)]) [(Str.ofString "pool", .raw (.ref P)), (Str.ofString "many", .val (.int many))] := by
    intro x e h
    rcases List.mem_cons.mp (memLookup h) with h | h
    · cases h; exact ⟨_, rfl, rfl⟩
    · cases List.mem_singleton.mp h; exact ⟨_, rfl, .int _ _, .inl rfl⟩
  try (refine (let Q9 : _ → Shared → Prop := _; (?_ : wpAny _ _ _ Q9 _ _)))
  refine wpAny_execs_cons (wmono (run_x (x_assign (d := .int k) (d_sub_list (d_raw rfl hP.read rfl rfl) d_int (by decide) (by decide) rfl) rfl (.loc rfl rfl) rfl) F Rv) fun fl s2 q => ?_)
  focus ((refine let G9 : Prop := _; (?_ : G9)); (obtain ⟨rfl, e₂, m2, N2⟩ := q); all_goals (unfold G9; clear G9))
  have keep2 : Kp s.heap s2.heap := N2.fr.keep
  -- the store
  try (refine (let Q9 : _ → Shared → Prop := _; (?_ : wpAny _ _ _ Q9 _ _)))
  refine wpAny_execs_cons (wpAny_Assign_Subscript ?_)
  try (refine (let Q9 : _ → Shared → Prop := _; (?_ : wpAny _ _ _ Q9 _ _)))
  refine wmono ((d_add (d_name rfl rfl rfl) d_int) m2 s2 N2.fr N2.er) fun v s3 q9 => ?_
  have G3 := q9.1
  have r3 := q9.2
  focus ((refine let G9 : Prop := _; (?_ : G9)); (obtain ⟨t3, rfl⟩ := r3.int_inv); all_goals (unfold G9; clear G9))
  focus ((refine let G9 : Prop := _; (?_ : G9)); (obtain ⟨u, hu, rfl⟩ := N2.er (Str.ofString "pool") _ rfl); all_goals (unfold G9; clear G9))
  try (refine (let Q9 : _ → Shared → Prop := _; (?_ : wpAny _ _ _ Q9 _ _)))
  refine frm_name (G3.fr N2.fr) hu rfl rfl ?_
  try (refine (let Q9 : _ → Shared → Prop := _; (?_ : wpAny _ _ _ Q9 _ _)))
  refine wpAny_Constant_int ?_
  focus ((refine let G9 : Prop := _; (?_ : G9)); (obtain ⟨I, n, vs, nI, tk, eP, eI, rI, hne⟩ := hP); all_goals (unfold G9; clear G9))
  have k3 : Kp s.heap s3.heap := keep2.trans G3.kp
  try (refine (let Q9 : _ → Shared → Prop := _; (?_ : wpAny _ _ _ Q9 _ _)))
  refine set_at (s := { s3 with toks := s3.toks + 1 }) (vs := [.ref I, .int k tk]) (k3 _ _ eP) (by decide) (by show (1 : Int) < ((2 : Nat) : Int); decide) (by decide) fun h4 n4 e4 hsb => ?_
  have P2 : Pt _ _ s3.heap m2 := Pt.of (G3.fr N2.fr) (G3.envr N2.er) (by rfl)
  have hsb' : ∀ a o, a ≠ P → s3.heap.get? a = some o → h4.get? a = some o := fun a o ha e => (hsb.2 a ha).trans e
  have kt4 : Kt s3.heap h4 := fun a us n e => hsb' a _ (by
    intro h9
    first | rw [h9, k3 _ _ eP] at e | rw [← h9, k3 _ _ eP] at e
    simp at e) e
  have P4 := P2.step (by rfl) (fun o e => hsb' _ o hPL.symm e) (fun n c hc => by cases hc) kt4
  have kh4 : Kp (hole s.heap P) h4 := fun a o e => by
    have ha : a ≠ P := by intro h9; (first | rw [h9, hole_self] at e | rw [← h9, hole_self] at e); cases e
    rw [hole_ne ha] at e
    exact hsb' a o ha (k3 a o e)
  have hP4 : PoolAt h4 P ns (k + 1) := by
    refine ⟨I, n4, vs, nI, t3, ?_, hsb' _ _ hne (k3 _ _ eI), (rI.kp k3).monoT kt4 ints_noL, hne⟩
    simpa using e4
  have F4 := P4.fr (h₀ := hole h4 L) hole_kp hole_self
  have G4 : Gd w mg mb (hole h4 L) := G.kp (hole_up kh4 (by
    rw [hole_ne hPL.symm]
    exact F.above))
  have hP4' : HR (hole h4 L) (.ref P) (.list [.list (ns.map .int), .int (k + 1 : Nat)]) := hP4.read.hole P4.notL
  have hL0 : s.heap.get? L = none := F.above
  have fin : ∀ (s5 : Shared) (v : Value) (r : Int), Same { s3 with heap := h4, toks := s3.toks + 1 } s5 → Kp (hole h4 L) s5.heap → HR s5.heap v (.int r) → 0 ≤ r → r < many →
      ∃ (r : Int) (t' : Tok), v = .int r t' ∧ 0 ≤ r ∧ r < many ∧ Same s s5 ∧ PoolAt s5.heap P ns (k + 1) ∧ ∀ a o, a ≠ P → s.heap.get? a = some o → s5.heap.get? a = some o := by
    intro s5 v r G5 kp5 r5 h1 h2
    focus ((refine let G9 : Prop := _; (?_ : G9)); (obtain ⟨t5, rfl⟩ := r5.int_inv); all_goals (unfold G9; clear G9))
    have k5 : ∀ a o, a ≠ L → h4.get? a = some o → s5.heap.get? a = some o := fun a o ha e => kp5 a o (by rw [hole_ne ha]; exact e)
    refine ⟨r, t5, rfl, h1, h2, (((e₁.trans e₂).trans G3.same).trans ⟨h4, _, rfl⟩).trans G5, hP4.at' fun a o e hd => k5 a o ?_ e, fun a o ha e => k5 a o ?_ (hsb' a o ha (k3 a o e))⟩
    · rintro rfl
      focus ((refine let G9 : Prop := _; (?_ : G9)); (obtain ⟨xs, n, hd⟩ := hd); all_goals (unfold G9; clear G9))
      exact P4.notL _ _ _ e hd
    · intro h9
      first | rw [h9, hL0] at e | rw [← h9, hL0] at e
      cases e
  by_cases hlt : k < ns.length
  · try (refine (let Q9 : _ → Shared → Prop := _; (?_ : wpAny _ _ _ Q9 _ _)))
    refine wmono (run_x (x_ifT (o := .ret (.int ((if ns[k] < 0 then -ns[k] else ns[k]).fmod many))) (b_cast (b_cmp (d_name rfl rfl rfl) (d_len G4 (d_sub_list (d_raw rfl hP4' rfl rfl) d_int (by decide) (by decide) rfl) (by rw [List.length_map]; (first | lia | omega)) (by k_is) rfl rfl rfl rfl) o_lt) (decide_eq_true (by rw [List.length_map]; (first | lia | omega))))
      (x_ret (d_mod (d_abs G4 (d_sub_list (d_sub_list (d_raw rfl hP4' rfl rfl) d_int (by decide) (by decide) rfl) (d_name rfl rfl rfl) (by (first | lia | omega)) (by (first | lia | omega)) (by rw [Int.toNat_natCast, List.getElem?_map, List.getElem?_eq_getElem hlt]; rfl)) (by k_is) rfl rfl rfl rfl) (d_name rfl rfl rfl) (by (first | lia | omega)))) (fun _ x => nomatch x)) (s := { s3 with heap := h4, toks := s3.toks + 1 }) F4 (P4.envr (by rfl))) fun fl s5 q => ?_
    focus ((refine let G9 : Prop := _; (?_ : G9)); (obtain ⟨v, rfl, e5, kp5, r5⟩ := q); all_goals (unfold G9; clear G9))
    focus ((refine let G9 : Prop := _; (?_ : G9)); (obtain ⟨f1, f2⟩ := fmod_range (if ns[k] < 0 then -ns[k] else ns[k]) hmany); all_goals (unfold G9; clear G9))
    exact fin s5 v _ e5 kp5 r5 f1 f2
  · try (refine (let Q9 : _ → Shared → Prop := _; (?_ : wpAny _ _ _ Q9 _ _)))
    refine wmono (run_x (x_ifF (o := .ret (.int ((7 * (k : Int) + (k : Int).fdiv 4).fmod many))) (b_cast (b_cmp (d_name rfl rfl rfl) (d_len G4 (d_sub_list (d_raw rfl hP4' rfl rfl) d_int (by decide) (by decide) rfl) (by rw [List.length_map]; (first | lia | omega)) (by k_is) rfl rfl rfl rfl) o_lt) (decide_eq_false (by rw [List.length_map]; (first | lia | omega))))
      (x_ret (d_mod (d_add (d_mul (by mul_fits) d_int (d_name rfl rfl rfl)) (d_div (d_name rfl rfl rfl) d_int (by decide) (pylong_small k hk))) (d_name rfl rfl rfl) (by (first | lia | omega))))) (s := { s3 with heap := h4, toks := s3.toks + 1 }) F4 (P4.envr (by rfl))) fun fl s5 q => ?_
    focus ((refine let G9 : Prop := _; (?_ : G9)); (obtain ⟨v, rfl, e5, kp5, r5⟩ := q); all_goals (unfold G9; clear G9))
    focus ((refine let G9 : Prop := _; (?_ : G9)); (obtain ⟨f1, f2⟩ := fmod_range (7 * (k : Int) + (k : Int).fdiv 4) hmany); all_goals (unfold G9; clear G9))
    exact fin s5 v _ e5 kp5 r5 f1 f2
end
end Mine
end
-- Lg13
section
open PySem PySem.W PyProof.Rows PySem.Calls PySem.Spec
namespace Mine
/-- the frame of a def with one cell -/
structure Lf (env : Env) (hc : Heap) (y : Str) (c : Addr) : Prop where
  kind : env.scope.kind = .function
  cells : env.cells = [(y, c)]
  isCell : env.kindOf y = some .cell
  loc : hc.get? env.locals = none
  cel : hc.get? c = none
  ne : env.locals ≠ c
noncomputable def hb (env : Env) (c : Addr) (h : Heap) : Heap := hole (hole h env.locals) c
noncomputable def Kb (env : Env) (c : Addr) (h h' : Heap) : Prop := ∀ b o, b ≠ env.locals → b ≠ c → h.get? b = some o → h'.get? b = some o
section
variable {env : Env} {hc : Heap} {y : Str} {c : Addr} {ρ ρ' : Ev}
theorem Kb.trans {h1 h2 h3 : Heap} (a : Kb env c h1 h2) (b : Kb env c h2 h3) : Kb env c h1 h3 := fun x o h h' e => b x o h h' (a x o h h' e)
theorem Kp.kb {h h' : Heap} (k : Kp h h') : Kb env c h h' := fun b o _ _ e => k b o e
theorem hb_kp {h : Heap} : Kp (hb env c h) h := hole_kp.trans hole_kp
theorem hb_get {h : Heap} {b : Addr} (h1 : b ≠ env.locals) (h2 : b ≠ c) : (hb env c h).get? b = h.get? b := (hole_ne h2).trans (hole_ne h1)
theorem hb_L {h : Heap} (hne : env.locals ≠ c) : (hb env c h).get? env.locals = none := (hole_ne hne).trans hole_self
theorem hb_C {h : Heap} : (hb env c h).get? c = none := hole_self
theorem Lf.up {h : Heap} (F : Lf env hc y c) (k : Kp hc h) : Kp hc (hb env c h) := hole_up (hole_up k F.loc) F.cel
theorem Lf.cell (F : Lf env hc y c) {n : Str} {d : Addr} (h : env.cells.lookup n = some d) : n = y ∧ d = c := by
  rw [F.cells] at h
  by_cases e : n = y
  · subst e
    rw [lookup_cons_self] at h
    exact ⟨rfl, (Option.some.inj h).symm⟩
  · rw [lookup_cons_ne e] at h
    cases h
theorem Lf.at' (F : Lf env hc y c) : env.cells.lookup y = some c := by rw [F.cells, lookup_cons_self]
theorem Lf.noCell (F : Lf env hc y c) {x : Str} (h : x ≠ y) : env.cells.lookup x = none := by rw [F.cells, lookup_cons_ne h]; rfl

structure LP (env : Env) (hc : Heap) (ρ : Ev) (s₀ s : Shared) (m : Str → Option Value) : Prop where
  same : Same s₀ s
  pt : Pt env ρ s.heap m
  kp : Kp hc s.heap
variable {s₀ s s' : Shared} {m m' : Str → Option Value}
theorem LP.frm (P : LP env hc ρ s₀ s m) (F : Lf env hc y c) : Frm env (hb env c s.heap) s.heap m := P.pt.fr hb_kp (hb_L F.ne)
theorem LP.envr (P : LP env hc ρ s₀ s m) (hf : flat ρ = true) : EnvR (hb env c s.heap) s.heap m ρ := P.pt.envr hf
theorem LP.read (P : LP env hc ρ s₀ s m) (F : Lf env hc y c) {v : Value} {d : PyData} (r : HR s.heap v d) : HR (hb env c s.heap) v d := (r.hole P.pt.notL).hole (P.pt.notC F.at').hole
theorem LP.grew (P : LP env hc ρ s₀ s m) (hf : flat ρ = true) (G : Grew s s') : LP env hc ρ s₀ s' m :=
  ⟨P.same.trans G.same, P.pt.step hf (fun o e => G.kp _ _ e) (fun n d _ o e => G.kp _ _ e) G.kp.kt, P.kp.trans G.kp⟩
theorem LP.less (P : LP env hc ρ s₀ s m) (h : ∀ q ∈ ρ', ρ.lookup q.1 = some q.2) : LP env hc ρ' s₀ s m := ⟨P.same, ⟨P.pt.ns, P.pt.cell, P.pt.er.less h⟩, P.kp⟩
theorem LP.nx (P : LP env hc ρ s₀ s m) (F : Lf env hc y c) (hf : flat ρ = true) (hf' : flat ρ' = true) (e : Same s s') (N : Nx env (hb env c s.heap) ρ ρ' m m' s.heap s'.heap) : LP env hc ρ' s₀ s' m' ∧ Kb env c s.heap s'.heap :=
  ⟨⟨P.same.trans e, .of N.fr N.er hf', (F.up P.kp).trans N.fr.keep⟩, fun b o h1 h2 e => N.keep b o e h1 (fun n hn => by obtain ⟨_, rfl⟩ := F.cell hn; exact h2 rfl) (no_owned hf)⟩
/-- a change at places outside the frame -/
theorem LP.mut (P : LP env hc ρ s₀ s m) (hf : flat ρ = true) (F : Lf env hc y c) (e : Same s s') (M : Addr → Prop) (hM : ∀ b, M b → hc.get? b = none ∧ b ≠ env.locals ∧ b ≠ c) (hT : ∀ b, M b → ∀ vs n, s.heap.get? b ≠ some (tupO vs n))
    (k : ∀ b o, ¬ M b → s.heap.get? b = some o → s'.heap.get? b = some o) : LP env hc ρ s₀ s' m := by
  refine ⟨P.same.trans e, P.pt.step hf (fun o e => k _ o (fun h => (hM _ h).2.1 rfl) e) (fun n d hd o e => ?_) (fun a vs n e => k a _ (fun h => hT a h _ _ e) e), fun b o e => k b o (fun h => ?_) (P.kp b o e)⟩
  · focus ((refine let G9 : Prop := _; (?_ : G9)); (obtain ⟨_, rfl⟩ := F.cell hd); all_goals (unfold G9; clear G9))
    exact k _ o (fun h => (hM _ h).2.2 rfl) e
  · have := (hM b h).1
    rw [e] at this
    cases this
end
section
variable {prog : Program} {w : World} {mg mb : Str → Option Value} {A : Around} {env : Env} {hc : Heap} {y : Str} {c : Addr} {ρ : Ev} {s₀ s : Shared} {m : Str → Option Value}
theorem LP.gd (P : LP env hc ρ s₀ s m) (F : Lf env hc y c) (G : Gd w mg mb hc) : Gd w mg mb (hb env c s.heap) := G.kp (F.up P.kp)
theorem LP.gd' (P : LP env hc ρ s₀ s m) (G : Gd w mg mb hc) : Gd w mg mb s.heap := G.kp P.kp
theorem LP.store {x : Str} {v : Value} {Q : Unit → Shared → Prop} (P : LP env hc ρ s₀ s m) (F : Lf env hc y c) (hf : flat ρ = true) (hx : env.kindOf x = some .local ∨ x = y)
    (h : ∀ s' m', LP env hc ((x, .raw v) :: ρ) s₀ s' m' → Kb env c s.heap s'.heap → Q () s') : wpAny (model prog w) A (storeName env x v) Q NoE s := by
  have hS : Spot env (hb env c s.heap) x := by
    rcases hx with hx | rfl
    · refine .loc hx (F.noCell ?_)
      rintro rfl
      rw [F.isCell] at hx
      cases hx
    · exact .cell c F.isCell F.at' hb_C fun n hn => (F.cell hn).1
  refine st_ (e := .raw v) hS F.kind (P.frm F) (P.envr hf) rfl (fun _ _ e => nomatch e) fun h' tk N => ?_
  obtain ⟨a, b⟩ := P.nx (s' := { s with heap := h', toks := tk }) F hf (by unfold flat at hf ⊢; rw [List.all_cons, hf]; rfl) ⟨h', tk, rfl⟩ N
  exact h _ _ a b
/-- a name's value -/
theorem LP.name {x : Str} {p : Pos} {v : Value} {Q : Value → Shared → Prop} (P : LP env hc ρ s₀ s m) (F : Lf env hc y c) (hl : ρ.lookup x = some (.raw v)) (hx : env.kindOf x = some .local) (h : Q v s) (hd' : (x == ("__debug__" : Str)) = false := by decide) :
    wpAny (model prog w) A (eval (.Name x p) env) Q NoE s := by
  focus ((refine let G9 : Prop := _; (?_ : G9)); (obtain ⟨u, hu, rfl⟩ := P.pt.er x _ hl); all_goals (unfold G9; clear G9))
  exact frm_name (P.frm F) hu F.kind hx h hd'

/-- a loop's turns -/
theorem for_core {target : Expr} {body : List Stmt} {n : Nat} {Pv : Nat → Value → Prop} {St : Nat → Heap → Prop} {I : Addr} {fp : List Addr} {R : Result → Shared → Prop} (W : Walks prog w A I fp [I] n Pv St) (Inv : Nat → Shared → Prop) {s : Shared}
    (ht : ∀ v, letOwnedTupleGo target (.ref I) v = pure ()) (h0 : St 0 s.heap) (hI : Inv 0 s) (hfield : ∀ i h, St i h → ∃ o xs, h.get? I = some o ∧ o.data = .fields xs)
    (hstab : ∀ i s s', Inv i s → Same s s' → (∃ o xs, s.heap.get? I = some o ∧ o.data = .fields xs) → (∀ b o, b ≠ I → s.heap.get? b = some o → s'.heap.get? b = some o) → Inv i s')
    (hbody : ∀ i v s, i < n → Pv i v → Inv i s → wpAny (model prog w) A (assign target env v) (fun _ s₂ => wpAny (model prog w) A (execs body env) (fun f s₃ => f = .next ∧ Inv (i + 1) s₃ ∧ (∀ b ∈ fp, ∀ o, s.heap.get? b = some o → s₃.heap.get? b = some o)) NoE s₂) NoE s)
    (hend : ∀ s', Inv n s' → R (.ok .next) s') : codeAny (model prog w) A (.forLoop target (.ref I) body [] env) R s := by
  refine codeAny_forLoop (fun k s' => ∃ i, i ≤ n ∧ k = n + 1 - i ∧ St i s'.heap ∧ Inv i s') ?_ (n + 1) ⟨0, Nat.zero_le _, rfl, h0, hI⟩ ht
  intro k s' q9
  focus ((refine let G9 : Prop := _; (?_ : G9)); (obtain ⟨i, hi, rfl, hst, hinv⟩ := q9); all_goals (unfold G9; clear G9))
  by_cases hlt : i < n
  · refine W.item i _ _ _ hlt hst fun v h3 tk3 hP hst3 hk3 => ?_
    have hinv3 : Inv i { s' with heap := h3, toks := tk3 } := hstab i _ _ hinv ⟨h3, tk3, rfl⟩ (hfield _ _ hst) fun b o hb e => hk3 b o (by simpa using hb) e
    refine wpAny_mono (hbody i v _ hlt hP hinv3) (fun _ s4 h4 => wpAny_mono h4 (fun f s5 h5 => ?_) fun _ _ x => x.elim) fun _ _ x => x.elim
    focus ((refine let G9 : Prop := _; (?_ : G9)); (obtain ⟨rfl, h5, k5⟩ := h5); all_goals (unfold G9; clear G9))
    exact ⟨n + 1 - (i + 1), by (first | lia | omega), i + 1, hlt, rfl, W.frame _ _ _ hst3 k5, h5⟩
  · obtain rfl : i = n := by (first | lia | omega)
    refine W.done _ _ _ hst fun h3 tk3 hk3 => ?_
    exact wpAny_execs_nil (hend _ (hstab i _ _ hinv ⟨h3, tk3, rfl⟩ (hfield _ _ hst) fun b o hb e => hk3 b o (by simpa using hb) e))
/-- two names stored at once -/
theorem LP.two {x z : Str} {v u : Value} {Q : Unit → Shared → Prop} (P : LP env hc ρ s₀ s m) (F : Lf env hc y c) (hf : flat ρ = true) (hx : env.kindOf x = some .local ∨ x = y) (hz : env.kindOf z = some .local ∨ z = y)
    (h : ∀ s' m', LP env hc ((z, .raw u) :: (x, .raw v) :: ρ) s₀ s' m' → Kb env c s.heap s'.heap → Q () s') : wpAny (model prog w) A (assignInOrder [bindName env x, bindName env z] [v, u]) Q NoE s := by
  refine assignInOrder_cons (bindName_ (P.store F hf hx fun s1 m1 P1 k1 => ?_))
  have hf1 : flat ((x, .raw v) :: ρ) = true := by unfold flat at hf ⊢; rw [List.all_cons, hf]; rfl
  refine assignInOrder_cons (bindName_ (P1.store F hf1 hz fun s2 m2 P2 k2 => assignInOrder_nil ?_))
  exact h s2 m2 P2 (k1.trans k2)
end
end Mine
end
-- Lg14
section
open PySem PySem.W PyProof.Rows PySem.Calls PySem.Spec
namespace Mine
-- the words
noncomputable def kp (b : Nat) (p : Path) : Int × Int := ((p.length : Int), (adr b p : Int))
noncomputable def KeyIs (h : Heap) (b : Nat) (x : List Int × Addr × Value) : Prop := ∃ (p : Path) (u : Bool), p.length ≤ b ∧ x.1 = [(p.length : Int), (adr b p : Int)] ∧ HR h (.ref x.2.1) (prD (kp b p)) ∧ HR h x.2.2 (.int u.toNat)
theorem KeyIs.kt {h h' : Heap} {b : Nat} {x : List Int × Addr × Value} (k : Kt h h') (q : KeyIs h b x) : KeyIs h' b x := by
  focus ((refine let G9 : Prop := _; (?_ : G9)); (obtain ⟨p, u, a, b, c, d⟩ := q); all_goals (unfold G9; clear G9))
  exact ⟨p, u, a, b, c.monoT k rfl, d.monoT k rfl⟩
section
variable {prog : Program} {w : World}
theorem key_is {h : Heap} {a : Addr} {i j : Int} (r : HR h (.ref a) (prD (i, j))) : IsTupleKey (intKind prog w) h [i, j] a := by
  focus ((refine let G9 : Prop := _; (?_ : G9)); (obtain ⟨a', t, u, n, e, ho⟩ := pr_inv r); all_goals (unfold G9; clear G9))
  cases e
  refine ⟨_, _, n, ho, rfl, rfl, .cons ?_ (.cons ?_ .nil)⟩
  · show Value.isInt i (.int i t) = true
    simp [Value.isInt]
  · show Value.isInt j (.int j u) = true
    simp [Value.isInt]
noncomputable def Words (prog : Program) (w : World) (h : Heap) (W : Addr) (b k : Nat) (xs : List (List Int × Addr × Value)) : Prop :=
  (W == sysModules) = false ∧ h.DictOfH (tupleKind (intKind prog w)) W xs ∧ xs.length ≤ k ∧ ∀ x ∈ xs, KeyIs h b x
theorem Words.keep {h h' : Heap} {W : Addr} {b k : Nat} {xs : List (List Int × Addr × Value)} (hW : ∀ o, h.get? W = some o → h'.get? W = some o) (kt : Kt h h') (x : Words prog w h W b k xs) : Words prog w h' W b k xs := by
  focus ((refine let G9 : Prop := _; (?_ : G9)); (obtain ⟨lo, ⟨o, es, ep, e1, e2, e3, e4, e5, e6⟩, hk, hx⟩ := x); all_goals (unfold G9; clear G9))
  refine ⟨lo, ⟨o, es, ep, hW _ e1, e2, e3, e4, fun x hxm => ?_, e6⟩, hk, fun x hxm => (hx x hxm).kt kt⟩
  focus ((refine let G9 : Prop := _; (?_ : G9)); (obtain ⟨p, u, _, e, r, _⟩ := (hx x hxm).kt kt); all_goals (unfold G9; clear G9))
  rw [e]
  exact key_is r
theorem Words.notSeq {h : Heap} {W : Addr} {b k : Nat} {xs : List (List Int × Addr × Value)} (x : Words prog w h W b k xs) : NotSeq h W := fun o ys n e hd => by
  focus ((refine let G9 : Prop := _; (?_ : G9)); (obtain ⟨lo, ⟨o', es, ep, e1, e2, e3, _⟩, _⟩ := x); all_goals (unfold G9; clear G9))
  rw [e] at e1
  cases e1
  rw [hd] at e3
  cases e3
theorem storedH_len {xs : List (List Int × Addr × Value)} {k : List Int} {a : Addr} {v : Value} : (storedH xs k a v).length ≤ xs.length + 1 := by
  unfold storedH
  split
  · simp
  · simp
theorem mem_storedH2 {xs : List (List Int × Addr × Value)} {k : List Int} {a : Addr} {v : Value} {x : List Int × Addr × Value} (h : x ∈ storedH xs k a v) : x ∈ xs ∨ (x.1 = k ∧ x.2.1 = a ∧ x.2.2 = v) ∨ ∃ y ∈ xs, x.1 = y.1 ∧ x.2.1 = y.2.1 ∧ x.2.2 = v := by
  unfold storedH at h
  split at h
  · focus ((refine let G9 : Prop := _; (?_ : G9)); (obtain ⟨y, hy, rfl⟩ := List.mem_map.mp h); all_goals (unfold G9; clear G9))
    unfold putAt
    split
    · exact .inr (.inr ⟨y, hy, rfl, rfl, rfl⟩)
    · exact .inl hy
  · rcases List.mem_append.mp h with h | h
    · exact .inl h
    · rw [List.mem_singleton] at h
      subst h
      exact .inr (.inl ⟨rfl, rfl, rfl⟩)
theorem Words.new {h : Heap} {b : Nat} (lo : (h.objs.size == sysModules) = false) : Words prog w (h.push { cls := .type "dict", data := .dict #[] }) h.objs.size b 0 [] := ⟨lo, Heap.DictOfH.new h, Nat.le_refl _, fun _ h => nomatch h⟩
theorem words_set {A : Around} {s : Shared} {W a : Addr} {b k : Nat} {xs : List (List Int × Addr × Value)} {p : Path} {u : Bool} {v : Value} {Q : Unit → Shared → Prop} (hu : A.units + 64 < cLine) (hW : Words prog w s.heap W b k xs) (hk : k ≤ 100) (hp : p.length ≤ b) (ra : HR s.heap (.ref a) (prD (kp b p))) (rv : HR s.heap v (.int u.toNat))
    (hQ : ∀ h' tk xs', Words prog w h' W b (k + 1) xs' → Heap.SameBut W s.heap h' → Q () { s with heap := h', toks := tk }) : wpAny (model prog w) A (setItem (.ref W) (.ref a) v) Q NoE s := by
  have hns := hW.notSeq
  focus ((refine let G9 : Prop := _; (?_ : G9)); (obtain ⟨lo, hd', hlen, hx⟩ := hW); all_goals (unfold G9; clear G9))
  refine wpAny_setItem_heap (knd := tupleKind (intKind prog w)) (by show A.units + 1 < cLine; (first | lia | omega)) (show IsTupleKey (intKind prog w) s.heap [_, _] a from key_is ra) hd' (fun h' hm hsb => hQ h' _ _ ⟨lo, hm, Nat.le_trans storedH_len (by (first | lia | omega)), fun x hxm => ?_⟩ hsb) (by rw [sizeLine_eq]; (first | lia | omega))
  have kt : Kt s.heap h' := fun a vs n e => (hsb.2 a (fun h9 => hns _ _ _ (h9 ▸ e) rfl)).trans e
  rcases mem_storedH2 hxm with h | ⟨h1, h2, h3⟩ | ⟨y, hy, h1, h2, h3⟩
  · exact (hx x h).kt kt
  · exact ⟨p, u, hp, h1, by rw [h2]; exact ra.monoT kt rfl, by rw [h3]; exact rv.monoT kt rfl⟩
  · focus ((refine let G9 : Prop := _; (?_ : G9)); (obtain ⟨p', u', a1, a2, a3, _⟩ := (hx y hy).kt kt); all_goals (unfold G9; clear G9))
    exact ⟨p', u, a1, by rw [h1]; exact a2, by rw [h2]; exact a3, by rw [h3]; exact rv.monoT kt rfl⟩
/-- a word's worth -/
noncomputable def WordIs (b : Nat) (h : Heap) (xs : List (List Int × Addr × Value)) (p : Path) (u : Bool) : Prop := ∃ q, atKey xs [(p.length : Int), (adr b p : Int)] = some q ∧ HR h q.2 (.int u.toNat)
theorem word_get {A : Around} {s : Shared} {W a : Addr} {b k : Nat} {xs : List (List Int × Addr × Value)} {p : Path} {u : Bool} {Q : Value → Shared → Prop} (hu : A.units + 64 < cLine) (hW : Words prog w s.heap W b k xs) (ra : HR s.heap (.ref a) (prD (kp b p))) (hw : WordIs b s.heap xs p u)
    (h : ∀ v tk, HR s.heap v (.int u.toNat) → Q v { s with toks := tk }) : wpAny (model prog w) A (getItem (.ref W) (.ref a)) Q NoE s := by
  focus ((refine let G9 : Prop := _; (?_ : G9)); (obtain ⟨lo, hd', hlen, hx⟩ := hW); all_goals (unfold G9; clear G9))
  focus ((refine let G9 : Prop := _; (?_ : G9)); (obtain ⟨q, hq, rq⟩ := hw); all_goals (unfold G9; clear G9))
  exact wpAny_getItem_heap (knd := tupleKind (intKind prog w)) (by show A.units + 1 < cLine; (first | lia | omega)) (show IsTupleKey (intKind prog w) s.heap [_, _] a from key_is ra) hd' hq (h _ _ rq)
theorem atKey_mem {xs : List (List Int × Addr × Value)} {x : List Int × Addr × Value} (h : x ∈ xs) : ∃ y ∈ xs, y.1 = x.1 ∧ atKey xs x.1 = some y.2 := by
  unfold atKey
  cases e : xs.find? fun z => decide (z.1 = x.1) with
  | none =>
    have := List.find?_eq_none.mp e x h
    simp at this
  | some y => exact ⟨y, List.mem_of_find?_eq_some e, by have := List.find?_some e; simpa using this, rfl⟩
/-- the words' keys in order -/
structure Ordered (prog : Program) (w : World) (h : Heap) (b : Nat) (xs : List (List Int × Addr × Value)) (ks : List Path) : Prop where
  le : ∀ p ∈ ks, p.length ≤ b
  up : ks.Pairwise fun p q => p.length ≤ q.length
  has : ∀ p ∈ ks, ∃ u, WordIs b h xs p u
  few : ks.length = xs.length
  pairs : ∃ ps : List (Int × Int), HA h (xs.map fun x => Value.ref x.2.1) (ps.map prD) ∧ (ks.map (kp b)).Perm ps ∧ (ks.map (kp b)).Pairwise (fun x y => prK x ≤ prK y) ∧ ∀ q ∈ ps, PrOk q
theorem adr_small {b : Nat} (hb : Bits b) : ∀ {p : Path}, p.length ≤ b → adr b p < 16 := by
  have key : ∀ b, Bits b → ((paths b).all fun p => decide (adr b p < 16)) = true := by
    rintro b (rfl | rfl)
    · decide +kernel
    · decide +kernel
  intro p hp
  exact of_decide_eq_true (List.all_eq_true.mp (key b hb) p (mem_paths hp))
theorem keys_of {h : Heap} {b : Nat} : ∀ {xs : List (List Int × Addr × Value)}, (∀ x ∈ xs, KeyIs h b x) → ∃ ks : List Path, (∀ p ∈ ks, p.length ≤ b ∧ ∃ x ∈ xs, x.1 = [(p.length : Int), (adr b p : Int)]) ∧ ks.length = xs.length ∧ HA h (xs.map fun x => Value.ref x.2.1) ((ks.map (kp b)).map prD)
  | [], _ => ⟨[], (fun _ h => nomatch h), rfl, .nil⟩
  | x :: xs, hx => by
    focus ((refine let G9 : Prop := _; (?_ : G9)); (obtain ⟨ks, h1, h2, h3⟩ := keys_of (xs := xs) fun y hy => hx y (.tail _ hy)); all_goals (unfold G9; clear G9))
    focus ((refine let G9 : Prop := _; (?_ : G9)); (obtain ⟨p, u, hp, e, r, _⟩ := hx x (.head _)); all_goals (unfold G9; clear G9))
    refine ⟨p :: ks, fun q hq => ?_, by simp [h2], .cons r h3⟩
    rcases List.mem_cons.mp hq with rfl | hq
    · exact ⟨hp, x, .head _, e⟩
    · focus ((refine let G9 : Prop := _; (?_ : G9)); (obtain ⟨a, y, hy, e⟩ := h1 q hq); all_goals (unfold G9; clear G9))
      exact ⟨a, y, .tail _ hy, e⟩
theorem Words.ordered {h : Heap} {W : Addr} {b k : Nat} {xs : List (List Int × Addr × Value)} (hb : Bits b) (hW : Words prog w h W b k xs) : ∃ ks, Ordered prog w h b xs ks := by
  focus ((refine let G9 : Prop := _; (?_ : G9)); (obtain ⟨lo, hd', hlen, hx⟩ := hW); all_goals (unfold G9; clear G9))
  focus ((refine let G9 : Prop := _; (?_ : G9)); (obtain ⟨ks, h1, h2, h3⟩ := keys_of hx); all_goals (unfold G9; clear G9))
  have perm := List.mergeSort_perm ks fun p q => decide (prK (kp b p) ≤ prK (kp b q))
  have srt := List.pairwise_mergeSort (le := fun p q => decide (prK (kp b p) ≤ prK (kp b q))) (fun a b c h h' => by simp at *; (first | lia | omega)) (fun a b => by simp; (first | lia | omega)) ks
  generalize ks.mergeSort (fun p q => decide (prK (kp b p) ≤ prK (kp b q))) = ks' at *
  have hle : ∀ p ∈ ks', p.length ≤ b := fun p hp => (h1 p (perm.mem_iff.mp hp)).1
  refine ⟨ks', hle, ?_, fun p hp => ?_, by rw [perm.length_eq, h2], ks.map (kp b), h3, perm.map _, ?_, fun q hq => ?_⟩
  · refine List.Pairwise.imp_of_mem (fun {p q} hp hq e => ?_) srt
    have e := of_decide_eq_true e
    have a1 := adr_small hb (hle p hp)
    have a2 := adr_small hb (hle q hq)
    unfold prK kp at e
    simp only at e
    (first | lia | omega)
  · focus ((refine let G9 : Prop := _; (?_ : G9)); (obtain ⟨_, x, hx', e⟩ := h1 p (perm.mem_iff.mp hp)); all_goals (unfold G9; clear G9))
    focus ((refine let G9 : Prop := _; (?_ : G9)); (obtain ⟨y, hy, e2, e3⟩ := atKey_mem hx'); all_goals (unfold G9; clear G9))
    focus ((refine let G9 : Prop := _; (?_ : G9)); (obtain ⟨_, u, _, _, _, r⟩ := hx y hy); all_goals (unfold G9; clear G9))
    rw [e] at e3
    exact ⟨u, y.2, e3, r⟩
  · rw [List.pairwise_map]
    exact srt.imp fun e => of_decide_eq_true e
  · focus ((refine let G9 : Prop := _; (?_ : G9)); (obtain ⟨p, hp, rfl⟩ := List.mem_map.mp hq); all_goals (unfold G9; clear G9))
    have := adr_small hb (h1 p hp).1
    constructor <;> simp [kp] <;> (first | lia | omega)
end
section
variable {prog : Program} {w : World} {mg mb : Str → Option Value} {A : Around} {env : Env} {hc : Heap} {y : Str} {c : Addr} {ρ : Ev} {s₀ s : Shared} {m : Str → Option Value}
theorem run_f {h₀ : Heap} {t : Sem Value} {ds : List PyData} (F : Frm env h₀ s.heap m) (R : EnvR h₀ s.heap m ρ) (h : EvF (model prog w) A env h₀ ρ t ds) : wpAny (model prog w) A t (fun v s' => Grew s s' ∧ ∃ a vs n, v = .ref a ∧ s'.heap.get? a = some (listOf (List.toArray vs) n) ∧ HA s'.heap vs ds ∧ s.heap.get? a = none) NoE s := h m s F R
theorem run_d {h₀ : Heap} {t : Sem Value} {d : PyData} (F : Frm env h₀ s.heap m) (R : EnvR h₀ s.heap m ρ) (h : EvD (model prog w) A env h₀ ρ t d) : wpAny (model prog w) A t (fun v s' => Grew s s' ∧ HR s'.heap v d) NoE s := h m s F R
/-- a draw -/
theorem draw_call {p q pos : Pos} {e : Expr} {Pa : Addr} {ns : List Int} {k : Nat} {many : Int} {Q : Value → Shared → Prop} (P : LP env hc ρ s₀ s m) (F : Lf env hc y c) (hf : flat ρ = true) (G : Gd w mg mb hc) (R : Room A 3) (hP : PoolAt s.heap Pa ns k) (hk : k ≤ 40) (hPc : hc.get? Pa = none)
    (hl : ρ.lookup (Str.ofString "pool") = some (.raw (.ref Pa))) (hx : env.kindOf (Str.ofString "pool") = some .local) (he : EvD (model prog w) A env (hb env c s.heap) ρ (eval e env) (.int many)) (hmany : 0 < many) (hlen : ns.length ≤ 1000)
    (hxd : env.kindOf (Str.ofString "_law_draw") = some .globalImplicit) (hg : env.globals = mainGlobals)
    (hs1 : starEach [.Name (Str.ofString "pool") q, e] env = (false, eval (.Name (Str.ofString "pool") q) env) :: starEach [e] env) (hs2 : starEach [e] env = (false, eval e env) :: starEach [] env)
    (hcall : eval (.Call (.Name (Str.ofString "_law_draw") p) [.Name (Str.ofString "pool") q, e] [] pos) env = (do callWith pos (← eval (.Name (Str.ofString "_law_draw") p) env) [] (backTo pos (starEach [.Name (Str.ofString "pool") q, e] env)) (backToKw pos (keywordEach [] env))))
    (h : ∀ (r : Int) (t : Tok) (s' : Shared), 0 ≤ r → r < many → LP env hc ρ s₀ s' m → PoolAt s'.heap Pa ns (k + 1) → (∀ a o, a ≠ Pa → s.heap.get? a = some o → s'.heap.get? a = some o) → Q (.int r t) s') :
    wpAny (model prog w) A (eval (.Call (.Name (Str.ofString "_law_draw") p) [.Name (Str.ofString "pool") q, e] [] pos) env) Q NoE s := by
  refine Call_ ?_ hcall
  have Gb := P.gd F G
  have Gs := P.gd' G
  refine Name_function_global F.kind hxd (loadGlobal_global (by rw [hg]; exact Gs.T.g) (mg_of G.K G.T.g (by k_is)) ?_) (by decide)
  refine callWith_K (h₀ := hc) G.K (by k_is) (wpAny_items_cons (P.name F hl hx (wpAny_items_cons (wmono2 (run_d (P.frm F) (P.envr hf) he) fun v s1 G1 r1 => wpAny_items_nil ⟨(Gs.kp G1.kp).K, ?_⟩) hs2)) hs1) hs1 (by rw [hs2]; rfl)
  focus ((refine let G9 : Prop := _; (?_ : G9)); (obtain ⟨t1, rfl⟩ := r1.int_inv); all_goals (unfold G9; clear G9))
  have P1 := P.grew hf G1
  have hP1 := hP.at' fun a o e _ => G1.kp a o e
  refine wmono (law_draw R (G.kp (hole_up P1.kp hPc)) (mg_of G.K G.T.g (by k_is)) hP1 hk hmany hlen) fun v s2 q => ?_
  focus ((refine let G9 : Prop := _; (?_ : G9)); (obtain ⟨r, t2, rfl, h1, h2, e2, hP2, k2⟩ := q); all_goals (unfold G9; clear G9))
  focus ((refine let G9 : Prop := _; (?_ : G9)); (obtain ⟨I, nn, vs, nI, tt, eP, _⟩ := hP1); all_goals (unfold G9; clear G9))
  refine h r t2 s2 h1 h2 (P1.mut hf F e2 (· = Pa) (fun b hb => ?_) (fun b hb vs n e => ?_) (fun b o hb e => k2 b o hb e)) hP2 fun a o ha e => k2 a o ha (G1.kp _ _ e)
  · rw [hb]
    refine ⟨hPc, fun h9 => P1.pt.notL _ _ _ (h9 ▸ eP) rfl, fun h9 => P1.pt.notC F.at' _ _ _ (h9 ▸ eP) rfl⟩
  · rw [hb, eP] at e
    simp at e
end
end Mine
end
-- Lg15
section
open PySem PySem.W PyProof.Rows PySem.Calls PySem.Spec
namespace Mine
section
variable {prog : Program} {w : World} {mg mb : Str → Option Value} {A : Around} {env : Env} {hc : Heap} {y : Str} {c : Addr} {ρ : Ev} {s₀ s : Shared} {m : Str → Option Value}
theorem asg2 {x z : Str} {e : Expr} {k : Nat} {p q r pos : Pos} {Q : Flow → Shared → Prop} (hh : A.handled = none) (F : Lf env hc y c) (hf : flat ρ = true) (hx : env.kindOf x = some .local ∨ x = y) (hz : env.kindOf z = some .local ∨ z = y)
    (hs : swapsWithSole [.Tuple [.Name x p, .Name z q] k r] e pos.line env = pure false) (hw : swappedStores [.Tuple [.Name x p, .Name z q] k r] e env = pure (some [x, z]))
    (h : wpAny (model prog w) A (eval e env) (fun v s1 => ∃ a v1 v2 n m1, v = .ref a ∧ s1.heap.get? a = some (tupO [v1, v2] n) ∧ LP env hc ρ s₀ s1 m1 ∧ ∀ s' m', LP env hc ((x, .raw v1) :: (z, .raw v2) :: ρ) s₀ s' m' → Kb env c s1.heap s'.heap → Q .next s') NoE s) :
    wpAny (model prog w) A (exec (.Assign [.Tuple [.Name x p, .Name z q] k r] e pos) env) Q NoE s := by
  refine Assign_Tuple_swapped (wmono h fun v s1 hv => ?_) hs hw
  focus ((refine let G9 : Prop := _; (?_ : G9)); (obtain ⟨a, v1, v2, n, m1, rfl, ho, P1, hQ⟩ := hv); all_goals (unfold G9; clear G9))
  refine unpackItems_tuple (items := List.toArray [v1, v2]) hh (IsTup.of ho) fun h' he => ?_
  have G2 : Grew s1 { s1 with heap := h' } := .mk'' (extBut_kp he)
  show wpAny _ _ (assignInOrder [bindName env z, bindName env x] [v2, v1]) _ _ _
  exact (P1.grew hf G2).two F hf hz hx fun s' m' P' k' => hQ s' m' P' (G2.kp.kb.trans k')
theorem LP.apart {b : Addr} {o : Obj} (P : LP env hc ρ s₀ s m) (F : Lf env hc y c) (e : s.heap.get? b = some o) (h : (∃ xs, o.data = .fields xs) ∨ ∃ xs n, o.data = .seq xs n) : b ≠ env.locals ∧ b ≠ c := by
  constructor
  · intro h9
    focus ((refine let G9 : Prop := _; (?_ : G9)); (obtain ⟨ml, ⟨o', es, ep, e', hd', _⟩, _⟩ := P.pt.ns); all_goals (unfold G9; clear G9))
    first | rw [h9, e] at e' | rw [← h9, e] at e'
    cases e'
    rcases h with ⟨xs, h⟩ | ⟨xs, n, h⟩ <;> rw [h] at hd' <;> cases hd'
  · intro h9
    focus ((refine let G9 : Prop := _; (?_ : G9)); (obtain ⟨o', e', hd'⟩ := P.pt.cell _ _ F.at'); all_goals (unfold G9; clear G9))
    first | rw [h9, e] at e' | rw [← h9, e] at e'
    cases e'
    rcases h with ⟨xs, h⟩ | ⟨xs, n, h⟩ <;> rw [h] at hd' <;> cases hd'
/-- the iterator alone moves -/
theorem LP.iter {s' : Shared} {I : Addr} (P : LP env hc ρ s₀ s m) (F : Lf env hc y c) (hf : flat ρ = true) (e : Same s s') (hI : hc.get? I = none) (hfd : ∃ o xs, s.heap.get? I = some o ∧ o.data = .fields xs) (k : ∀ b o, b ≠ I → s.heap.get? b = some o → s'.heap.get? b = some o) : LP env hc ρ s₀ s' m := by
  focus ((refine let G9 : Prop := _; (?_ : G9)); (obtain ⟨o, xs, eI, dI⟩ := hfd); all_goals (unfold G9; clear G9))
  focus ((refine let G9 : Prop := _; (?_ : G9)); (obtain ⟨h1, h2⟩ := P.apart F eI (.inl ⟨xs, dI⟩)); all_goals (unfold G9; clear G9))
  refine P.mut hf F e (· = I) (fun b hb => ?_) (fun b hb vs n e => ?_) fun b o hb e => k b o hb e
  · rw [hb]; exact ⟨hI, h1, h2⟩
  · rw [hb, eI] at e
    cases e
    cases dI

noncomputable def Range (s : Shared) (a : Int) (n : Nat) (v : Value) (s1 : Shared) : Prop := Grew s s1 ∧ ∃ r b t u w', v = .ref r ∧ IsRange s1.heap r a b 1 t u w' ∧ Builtin.Range.small a b 1 = true ∧ Builtin.Range.rangeSize a b 1 = ((n : Nat) : Int)
theorem go_range1 {p pos : Pos} {e1 : Expr} {n : Nat} {h₀ : Heap} (F : Frm env h₀ s.heap m) (R : EnvR h₀ s.heap m ρ) (G : Gd w mg mb h₀) (h : EvD (model prog w) A env h₀ ρ (eval e1 env) (.int n)) (hz : n ≤ 1000)
    (hk : env.scope.kind = .function) (hx : env.kindOf (Str.ofString "range") = some .globalImplicit) (hg : env.globals = mainGlobals) (hbb : env.builtins = builtinsNs)
    (he : starEach [e1] env = (false, eval e1 env) :: starEach [] env)
    (hc : eval (.Call (.Name (Str.ofString "range") p) [e1] [] pos) env = (do callWith pos (← eval (.Name (Str.ofString "range") p) env) [] (backTo pos (starEach [e1] env)) (backToKw pos (keywordEach [] env)))) :
    wpAny (model prog w) A (eval (.Call (.Name (Str.ofString "range") p) [e1] [] pos) env) (Range s 0 n) NoE s :=
  bi_at G (l_cons h l_nil he) (by k_is) boot_range (.inr ⟨_, rfl⟩) (by decide) hk hx hg hbb (by decide) he (by rfl) hc F R fun s1 vals G1 ra => by
    cases ra with
    | cons r1 ra =>
      cases ra
      focus ((refine let G9 : Prop := _; (?_ : G9)); (obtain ⟨t, rfl⟩ := r1.int_inv); all_goals (unfold G9; clear G9))
      refine call_range_1 ⟨G1.trans (.mk' (.push _ _)), _, _, _, _, _, rfl, IsRange.new .., small_one (by decide) (by decide) (by (first | lia | omega)) (by (first | lia | omega)), ?_⟩
      rw [rangeSize_one]
      split <;> (first | lia | omega)
theorem go_range2 {p pos : Pos} {e1 e2 : Expr} {a b : Int} {n : Nat} {h₀ : Heap} (F : Frm env h₀ s.heap m) (R : EnvR h₀ s.heap m ρ) (G : Gd w mg mb h₀) (h : EvD (model prog w) A env h₀ ρ (eval e1 env) (.int a)) (h2 : EvD (model prog w) A env h₀ ρ (eval e2 env) (.int b)) (hab : b = a + n) (ha : -1000 ≤ a ∧ a ≤ 1000) (hz : n ≤ 1000)
    (hk : env.scope.kind = .function) (hx : env.kindOf (Str.ofString "range") = some .globalImplicit) (hg : env.globals = mainGlobals) (hbb : env.builtins = builtinsNs)
    (he : starEach [e1, e2] env = (false, eval e1 env) :: starEach [e2] env) (he2 : starEach [e2] env = (false, eval e2 env) :: starEach [] env)
    (hc : eval (.Call (.Name (Str.ofString "range") p) [e1, e2] [] pos) env = (do callWith pos (← eval (.Name (Str.ofString "range") p) env) [] (backTo pos (starEach [e1, e2] env)) (backToKw pos (keywordEach [] env)))) :
    wpAny (model prog w) A (eval (.Call (.Name (Str.ofString "range") p) [e1, e2] [] pos) env) (Range s a n) NoE s :=
  bi_at G (l_cons h (l_cons h2 l_nil he2) he) (by k_is) boot_range (.inr ⟨_, rfl⟩) (by decide) hk hx hg hbb (by decide) he (by rw [he2]; rfl) hc F R fun s1 vals G1 ra => by
    cases ra with
    | cons r1 ra =>
      cases ra with
      | cons r2 ra =>
        cases ra
        focus ((refine let G9 : Prop := _; (?_ : G9)); (obtain ⟨t, rfl⟩ := r1.int_inv); all_goals (unfold G9; clear G9))
        focus ((refine let G9 : Prop := _; (?_ : G9)); (obtain ⟨u, rfl⟩ := r2.int_inv); all_goals (unfold G9; clear G9))
        refine call_range_2 ⟨G1.trans (.mk' (.push _ _)), _, _, _, _, _, rfl, IsRange.new .., small_one (by (first | lia | omega)) (by (first | lia | omega)) (by (first | lia | omega)) (by (first | lia | omega)), ?_⟩
        rw [rangeSize_one]
        split <;> (first | lia | omega)

/-- the iterator of a loop alone has moved -/
noncomputable def Moved1 (hc : Heap) (s s' : Shared) : Prop := ∃ I, Same s s' ∧ hc.get? I = none ∧ (∃ o xs, s.heap.get? I = some o ∧ o.data = .fields xs) ∧ ∀ b o, b ≠ I → s.heap.get? b = some o → s'.heap.get? b = some o
/-- a loop over a range whose turns change what Mut says -/
theorem for_range {x : Str} {iter : Expr} {body : List Stmt} {p pos : Pos} {a : Int} {n : Nat} {Q : Flow → Shared → Prop} (hh : A.handled = none) (F : Lf env hc y c) (hf : flat ρ = true) (P : LP env hc ρ s₀ s m) (hr : wpAny (model prog w) A (eval iter env) (Range s a n) NoE s)
    (Mut : Addr → Prop) (hM : ∀ b, Mut b → ∃ o, s.heap.get? b = some o) (Inv : Nat → Shared → Prop) (h0 : ∀ s', Grew s s' → Inv 0 s') (hstab : ∀ i s1 s', Inv i s1 → Moved1 s.heap s1 s' → Inv i s')
    (hbody : ∀ (i : Nat) (t : Tok) (s1 : Shared), i < n → Inv i s1 → wpAny (model prog w) A (storeName env x (.int (a + (i : Int)) t)) (fun _ s2 => wpAny (model prog w) A (execs body env) (fun f s3 => f = .next ∧ Inv (i + 1) s3 ∧ ∀ b o, ¬ Mut b → b ≠ env.locals → b ≠ c → s1.heap.get? b = some o → s3.heap.get? b = some o) NoE s2) NoE s1)
    (hend : ∀ s', Inv n s' → Q .next s')
    (hs : ∀ x, foldedSetIterable iter env x = pure x) (ht : ∀ it v, letOwnedTupleGo (.Name x p) it v = pure ()) : wpAny (model prog w) A (exec (.For (.Name x p) iter body [] pos) env) Q NoE s := by
  refine wpAny_For (wmono hr fun v s1 hv => ?_) hs
  focus ((refine let G9 : Prop := _; (?_ : G9)); (obtain ⟨G1, r, b, t, u, w', rfl, hr, hsm, hn⟩ := hv); all_goals (unfold G9; clear G9))
  have P1 := P.grew hf G1
  refine wpAny_pyIter_range hr hsm ?_
  have hfresh : s1.heap.get? s1.heap.objs.size = none := not_size
  have hcI : hc.get? s1.heap.objs.size = none := by
    cases q : hc.get? s1.heap.objs.size with
    | none => rfl
    | some o => rw [P1.kp _ _ q] at hfresh; cases hfresh
  have hsI : s.heap.get? s1.heap.objs.size = none := fresh_back G1 hfresh
  have G2 : Grew s1 { s1 with heap := s1.heap.push { cls := .type "range_iterator", data := .fields #[.int a t, .int (Builtin.Range.rangeSize a b 1) 0, .int 1 0] } } := .mk'' (.push _ _)
  have hIL : s1.heap.objs.size ≠ env.locals := fun e => by
    focus ((refine let G9 : Prop := _; (?_ : G9)); (obtain ⟨ml, ⟨o, _, _, eo, _⟩, _⟩ := P1.pt.ns); all_goals (unfold G9; clear G9))
    rw [← e, hfresh] at eo
    cases eo
  have hIc : s1.heap.objs.size ≠ c := fun e => by
    focus ((refine let G9 : Prop := _; (?_ : G9)); (obtain ⟨o, eo, _⟩ := P1.pt.cell _ _ F.at'); all_goals (unfold G9; clear G9))
    rw [← e, hfresh] at eo
    cases eo
  have W := LCg.range_walks (prog := prog) (w := w) (I := s1.heap.objs.size) hh a n
  refine for_core W Inv (ht _) ?_ (h0 _ (G1.trans (.mk'' (.push _ _)))) (fun i h st => ⟨_, _, st, rfl⟩) (fun i s2 s3 hi e hfd k => hstab i s2 s3 hi ⟨_, e, hsI, hfd, k⟩) (fun i v s2 hi hP hinv => ?_) hend
  · show IsRangeIter _ _ _ _ _
    rw [hn]
    simpa using Heap.get?_push_size _ rfl
  · focus ((refine let G9 : Prop := _; (?_ : G9)); (obtain ⟨t', rfl⟩ := hP); all_goals (unfold G9; clear G9))
    refine wpAny_assign_Name (wmono (hbody i t' s2 hi hinv) fun _ s3 h3 => wmono h3 fun f s4 h4 => ?_)
    focus ((refine let G9 : Prop := _; (?_ : G9)); (obtain ⟨rfl, h5, h6⟩ := h4); all_goals (unfold G9; clear G9))
    refine ⟨rfl, h5, fun b hb o e => h6 b o (fun hm => ?_) ?_ ?_ e⟩
    · rw [List.mem_singleton.mp hb] at hm
      focus ((refine let G9 : Prop := _; (?_ : G9)); (obtain ⟨o', e'⟩ := hM _ hm); all_goals (unfold G9; clear G9))
      rw [hsI] at e'
      cases e'
    · rw [List.mem_singleton.mp hb]
      exact hIL
    · rw [List.mem_singleton.mp hb]
      exact hIc
end
end Mine
end
-- Lg16
section
open PySem PySem.W PyProof.Rows PySem.Calls PySem.Spec
namespace Mine
section
variable {prog : Program} {w : World} {mg mb : Str → Option Value} {A : Around} {env : Env} {hc : Heap} {y : Str} {c : Addr} {ρ : Ev} {s₀ s : Shared} {m : Str → Option Value}
theorem for_core2 {target : Expr} {body : List Stmt} {n : Nat} {Pv : Nat → Value → Prop} {St : Nat → Heap → Prop} {I : Addr} {fp : List Addr} {R : Result → Shared → Prop} (W : Walks prog w A I fp [I] n Pv St) (Inv : Nat → Shared → Prop) {s : Shared}
    (h0 : St 0 s.heap) (hI : Inv 0 s) (hfield : ∀ i h, St i h → ∃ o xs, h.get? I = some o ∧ o.data = .fields xs)
    (hstab : ∀ i s s', Inv i s → Same s s' → (∃ o xs, s.heap.get? I = some o ∧ o.data = .fields xs) → (∀ b o, b ≠ I → s.heap.get? b = some o → s'.heap.get? b = some o) → Inv i s')
    (hgo : ∀ i v (s : Shared) (Q : Unit → Shared → Prop), i < n → Pv i v → Inv i s → St (i + 1) s.heap → Q () s → wpAny (model prog w) A (letOwnedTupleGo target (.ref I) v) Q NoE s)
    (hbody : ∀ i v s, i < n → Pv i v → Inv i s → wpAny (model prog w) A (assign target env v) (fun _ s₂ => wpAny (model prog w) A (execs body env) (fun f s₃ => f = .next ∧ Inv (i + 1) s₃ ∧ (∀ b ∈ fp, ∀ o, s.heap.get? b = some o → s₃.heap.get? b = some o)) NoE s₂) NoE s)
    (hend : ∀ s', Inv n s' → R (.ok .next) s') : codeAny (model prog w) A (.forLoop target (.ref I) body [] env) R s := by
  refine codeAny_forLoop_any (fun k s' => ∃ i, i ≤ n ∧ k = n + 1 - i ∧ St i s'.heap ∧ Inv i s') ?_ (n + 1) ⟨0, Nat.zero_le _, rfl, h0, hI⟩
  intro k s' q9
  focus ((refine let G9 : Prop := _; (?_ : G9)); (obtain ⟨i, hi, rfl, hst, hinv⟩ := q9); all_goals (unfold G9; clear G9))
  by_cases hlt : i < n
  · refine W.item i _ _ _ hlt hst fun v h3 tk3 hP hst3 hk3 => ?_
    have hinv3 : Inv i { s' with heap := h3, toks := tk3 } := hstab i _ _ hinv ⟨h3, tk3, rfl⟩ (hfield _ _ hst) fun b o hb e => hk3 b o (by simpa using hb) e
    refine wpAny_mono (hgo i v _ (fun _ s4 => s4 = { s' with heap := h3, toks := tk3 }) hlt hP hinv3 hst3 rfl) (fun _ s4 e4 => ?_) fun _ _ x => x.elim
    subst e4
    refine wpAny_mono (hbody i v _ hlt hP hinv3) (fun _ s4 h4 => wpAny_mono h4 (fun f s5 h5 => ?_) fun _ _ x => x.elim) fun _ _ x => x.elim
    focus ((refine let G9 : Prop := _; (?_ : G9)); (obtain ⟨rfl, h5, k5⟩ := h5); all_goals (unfold G9; clear G9))
    exact ⟨n + 1 - (i + 1), by omega, i + 1, hlt, rfl, W.frame _ _ _ hst3 k5, h5⟩
  · obtain rfl : i = n := by omega
    refine W.done _ _ _ hst fun h3 tk3 hk3 => ?_
    exact wpAny_execs_nil (hend _ (hstab i _ _ hinv ⟨h3, tk3, rfl⟩ (hfield _ _ hst) fun b o hb e => hk3 b o (by simpa using hb) e))
/-- a loop over a new list of tuples -/
theorem for_tuples {elts : List Expr} {k : Nat} {tp : Pos} {iter : Expr} {body : List Stmt} {pos : Pos} {ds : List PyData} {Q : Flow → Shared → Prop} (hh : A.handled = none) (F : Lf env hc y c) (hf : flat ρ = true) (P : LP env hc ρ s₀ s m)
    (hl : wpAny (model prog w) A (eval iter env) (fun v s1 => Grew s s1 ∧ ∃ a vs n, v = .ref a ∧ s1.heap.get? a = some (listOf (List.toArray vs) n) ∧ HA s1.heap vs ds ∧ s.heap.get? a = none) NoE s)
    (Mut : Addr → Prop) (hM : ∀ b, Mut b → ∃ o, s.heap.get? b = some o) (Inv : List Value → Nat → Shared → Prop) (h0 : ∀ vs s', Grew s s' → HA s'.heap vs ds → Inv vs 0 s') (hstab : ∀ vs i s1 s', Inv vs i s1 → Moved1 s.heap s1 s' → Inv vs i s')
    (href : ∀ (vs : List Value) (i : Nat) (v : Value) (s1 : Shared), vs[i]? = some v → Inv vs i s1 → ∃ a, v = .ref a)
    (hbody : ∀ (vs : List Value) (i : Nat) (v : Value) (s1 : Shared), vs[i]? = some v → Inv vs i s1 → wpAny (model prog w) A (assign (.Tuple elts k tp) env v) (fun _ s2 => wpAny (model prog w) A (execs body env) (fun f s3 => f = .next ∧ Inv vs (i + 1) s3 ∧ ∀ b o, ¬ Mut b → b ≠ env.locals → b ≠ c → s1.heap.get? b = some o → s3.heap.get? b = some o) NoE s2) NoE s1)
    (hend : ∀ vs s', Inv vs ds.length s' → Q .next s')
    (hs : ∀ x, foldedSetIterable iter env x = pure x) : wpAny (model prog w) A (exec (.For (.Tuple elts k tp) iter body [] pos) env) Q NoE s := by
  refine wpAny_For (wmono hl fun v s1 hv => ?_) hs
  focus ((refine let G9 : Prop := _; (?_ : G9)); (obtain ⟨G1, a, vs, n, rfl, ho, ra, fa⟩ := hv); all_goals (unfold G9; clear G9))
  have P1 := P.grew hf G1
  have hli : s1.heap.IsList a vs.toArray := ⟨_, ho, rfl, n, rfl⟩
  refine wpAny_pyIter_list hli ?_
  have hfresh : s1.heap.get? s1.heap.objs.size = none := not_size
  have hcI : hc.get? s1.heap.objs.size = none := by
    cases q : hc.get? s1.heap.objs.size with
    | none => rfl
    | some o => rw [P1.kp _ _ q] at hfresh; cases hfresh
  have hsI : s.heap.get? s1.heap.objs.size = none := fresh_back G1 hfresh
  have hIL : s1.heap.objs.size ≠ env.locals := fun e => by
    focus ((refine let G9 : Prop := _; (?_ : G9)); (obtain ⟨ml, ⟨o, _, _, eo, _⟩, _⟩ := P1.pt.ns); all_goals (unfold G9; clear G9))
    rw [← e, hfresh] at eo
    cases eo
  have hIc : s1.heap.objs.size ≠ c := fun e => by
    focus ((refine let G9 : Prop := _; (?_ : G9)); (obtain ⟨o, eo, _⟩ := P1.pt.cell _ _ F.at'); all_goals (unfold G9; clear G9))
    rw [← e, hfresh] at eo
    cases eo
  focus ((refine let G9 : Prop := _; (?_ : G9)); (obtain ⟨haL, hac⟩ := P1.apart F ho (.inr ⟨_, _, rfl⟩)); all_goals (unfold G9; clear G9))
  have hne : a ≠ s1.heap.objs.size := Nat.ne_of_lt (Heap.lt_size ho)
  have W := Walks.list (prog := prog) (w := w) hh s1.heap.objs.size a hne vs.toArray
  have esz : vs.toArray.size = ds.length := by simp [ra.length]
  refine for_core2 W (Inv vs) ⟨⟨_, Heap.get?_push_size _ rfl, rfl, rfl⟩, hli.push _⟩ (h0 vs _ (G1.trans (.mk'' (.push _ _))) (ra.kp (.push _ _))) (fun i h st => ?_) (fun i s2 s3 hi e hfd k => hstab vs i s2 s3 hi ⟨_, e, hsI, hfd, k⟩) (fun i v s2 Q hi hP hinv st hQ => ?_) (fun i v s2 hi hP hinv => ?_) (fun s' h => hend vs s' (esz ▸ h))
  · focus ((refine let G9 : Prop := _; (?_ : G9)); (obtain ⟨o, e, _, hd⟩ := st.1); all_goals (unfold G9; clear G9))
    exact ⟨o, _, e, hd⟩
  · focus ((refine let G9 : Prop := _; (?_ : G9)); (obtain ⟨T, rfl⟩ := href vs i v s2 (by simpa using hP) hinv); all_goals (unfold G9; clear G9))
    exact wpAny_letOwnedTupleGo_listiter st.1 hQ
  · refine wmono (hbody vs i v s2 (by simpa using hP) hinv) fun _ s3 h3 => wmono h3 fun f s4 h4 => ?_
    focus ((refine let G9 : Prop := _; (?_ : G9)); (obtain ⟨rfl, h5, h6⟩ := h4); all_goals (unfold G9; clear G9))
    refine ⟨rfl, h5, fun b hb o e => ?_⟩
    simp only [List.mem_cons, List.not_mem_nil, or_false] at hb
    rcases hb with rfl | rfl
    · refine h6 _ o (fun hm => ?_) hIL hIc e
      focus ((refine let G9 : Prop := _; (?_ : G9)); (obtain ⟨o', e'⟩ := hM _ hm); all_goals (unfold G9; clear G9))
      rw [hsI] at e'
      cases e'
    · refine h6 _ o (fun hm => ?_) haL hac e
      focus ((refine let G9 : Prop := _; (?_ : G9)); (obtain ⟨o', e'⟩ := hM _ hm); all_goals (unfold G9; clear G9))
      rw [fa] at e'
      cases e'
end
end Mine
end
-- Lg17
section
open PySem PySem.W PyProof.Rows PySem.Calls PySem.Spec
namespace Mine
section
variable {prog : Program} {w : World} {mg mb : Str → Option Value} {A : Around}
theorem LP.seq {env : Env} {hc : Heap} {y : Str} {c : Addr} {ρ : Ev} {s₀ s s' : Shared} {m : Str → Option Value} (P : LP env hc ρ s₀ s m) (F : Lf env hc y c) (k : Kb env c s.heap s'.heap) : ∀ a o, s.heap.get? a = some o → (∃ xs n, o.data = .seq xs n) → s'.heap.get? a = some o := fun a o e hd => k a o (P.apart F e (.inr hd)).1 (P.apart F e (.inr hd)).2 e
theorem LP.kt {env : Env} {hc : Heap} {y : Str} {c : Addr} {ρ : Ev} {s₀ s s' : Shared} {m : Str → Option Value} (P : LP env hc ρ s₀ s m) (F : Lf env hc y c) (k : Kb env c s.heap s'.heap) : Kt s.heap s'.heap := fun a vs n e => P.seq F k a _ e ⟨_, _, rfl⟩
theorem Words.step {env : Env} {hc : Heap} {y : Str} {c : Addr} {ρ : Ev} {s₀ s s' : Shared} {m : Str → Option Value} {W : Addr} {b kk : Nat} {xs : List (List Int × Addr × Value)} (X : Words prog w s.heap W b kk xs) (P : LP env hc ρ s₀ s m) (F : Lf env hc y c) (h1 : W ≠ env.locals) (h2 : W ≠ c) (k : Kb env c s.heap s'.heap) : Words prog w s'.heap W b kk xs := X.keep (fun o e => k W o h1 h2 e) (P.kt F k)
theorem Moved1.other {hc : Heap} {s s' : Shared} (M : Moved1 hc s s') : ∀ a o, s.heap.get? a = some o → (∀ xs, o.data ≠ .fields xs) → s'.heap.get? a = some o := fun a o e hd => by
  focus ((refine let G9 : Prop := _; (?_ : G9)); (obtain ⟨I, _, _, ⟨o', xs, e', hd'⟩, k⟩ := M); all_goals (unfold G9; clear G9))
  refine k a o ?_ e
  intro h9
  first | rw [h9, e] at e' | rw [← h9, e] at e'
  cases e'
  exact hd xs hd'
theorem Moved1.seq {hc : Heap} {s s' : Shared} (M : Moved1 hc s s') : ∀ a o, s.heap.get? a = some o → (∃ xs n, o.data = .seq xs n) → s'.heap.get? a = some o := fun a o e ⟨xs, n, hd⟩ => M.other a o e fun ys h => by rw [hd] at h; cases h
theorem Moved1.kt {hc : Heap} {s s' : Shared} (M : Moved1 hc s s') : Kt s.heap s'.heap := fun a vs n e => M.seq a _ e ⟨_, _, rfl⟩
theorem LP.moved {env : Env} {hc : Heap} {y : Str} {c : Addr} {ρ : Ev} {s₀ s s' : Shared} {m : Str → Option Value} (P : LP env hc ρ s₀ s m) (F : Lf env hc y c) (hf : flat ρ = true) {g : Heap} (hg : Kp hc g) (M : Moved1 g s s') : LP env hc ρ s₀ s' m := by
  focus ((refine let G9 : Prop := _; (?_ : G9)); (obtain ⟨I, e, hI, hfd, k⟩ := M); all_goals (unfold G9; clear G9))
  refine P.iter F hf e ?_ hfd k
  cases q : hc.get? I with
  | none => rfl
  | some o => rw [hg _ _ q] at hI; cases hI
theorem Moved1.old {g : Heap} {s s' : Shared} (M : Moved1 g s s') : ∀ a o o', g.get? a = some o' → s.heap.get? a = some o → s'.heap.get? a = some o := fun a o o' e e' => by
  focus ((refine let G9 : Prop := _; (?_ : G9)); (obtain ⟨I, _, hI, _, k⟩ := M); all_goals (unfold G9; clear G9))
  refine k a o ?_ e'
  intro h9
  first | rw [h9, hI] at e | rw [← h9, hI] at e
  cases e
theorem Words.moved {hc : Heap} {s s' : Shared} {W : Addr} {b kk : Nat} {xs : List (List Int × Addr × Value)} (X : Words prog w s.heap W b kk xs) (M : Moved1 hc s s') : Words prog w s'.heap W b kk xs := by
  refine X.keep (fun o e => M.other W o e ?_) M.kt
  focus ((refine let G9 : Prop := _; (?_ : G9)); (obtain ⟨lo, ⟨o', es, ep, e', _, hd, _⟩, _⟩ := X); all_goals (unfold G9; clear G9))
  rw [e] at e'
  cases e'
  intro ys h
  rw [hd] at h
  cases h
theorem Words.ne {h : Heap} {W P : Addr} {b kk : Nat} {xs : List (List Int × Addr × Value)} {vs : Array Value} {n : Nat} (X : Words prog w h W b kk xs) (e : h.get? P = some (listOf vs n)) : W ≠ P := by
  rintro rfl
  exact X.notSeq _ _ _ e rfl
theorem TreeAt.step {env : Env} {hc : Heap} {y : Str} {c : Addr} {ρ : Ev} {s₀ s s' : Shared} {m : Str → Option Value} {X Xd : Addr} {b : Nat} {T : PT} (t : TreeAt w s.heap X Xd b T) (P : LP env hc ρ s₀ s m) (F : Lf env hc y c) (hX : X ≠ env.locals ∧ X ≠ c) (hXd : Xd ≠ env.locals ∧ Xd ≠ c) (k : Kb env c s.heap s'.heap) : TreeAt w s'.heap X Xd b T :=
  t.kt (P.kt F k) (fun o e => k _ o hX.1 hX.2 e) (fun o e => k _ o hXd.1 hXd.2 e)
theorem LP.new {env : Env} {hc : Heap} {y : Str} {c : Addr} {ρ : Ev} {s₀ s : Shared} {m : Str → Option Value} {b : Addr} (P : LP env hc ρ s₀ s m) (F : Lf env hc y c) (e : s.heap.get? b = none) : (b ≠ env.locals ∧ b ≠ c) ∧ hc.get? b = none := by
  refine ⟨⟨?_, ?_⟩, ?_⟩
  · rintro rfl
    focus ((refine let G9 : Prop := _; (?_ : G9)); (obtain ⟨ml, ⟨o, _, _, eo, _⟩, _⟩ := P.pt.ns); all_goals (unfold G9; clear G9))
    rw [e] at eo
    cases eo
  · rintro rfl
    focus ((refine let G9 : Prop := _; (?_ : G9)); (obtain ⟨o, eo, _⟩ := P.pt.cell _ _ F.at'); all_goals (unfold G9; clear G9))
    rw [e] at eo
    cases eo
  · cases q : hc.get? b with
    | none => rfl
    | some o => rw [P.kp _ _ q] at e; cases e
theorem TreeAt.moved {hc : Heap} {s s' : Shared} {X Xd : Addr} {b : Nat} {T : PT} (t : TreeAt w s.heap X Xd b T) (M : Moved1 hc s s') : TreeAt w s'.heap X Xd b T := by
  focus ((refine let G9 : Prop := _; (?_ : G9)); (obtain ⟨t1, t2, tb, n, tv, e, r⟩ := id t.dict); all_goals (unfold G9; clear G9))
  refine t.kt M.kt (fun o e' => M.other _ o e' ?_) (fun o e' => M.other _ o e' ?_)
  · rw [t.obj] at e'
    cases e'
    intro ys h
    cases h
  · rw [e] at e'
    cases e'
    intro ys h
    cases h
/-- the two lots -/
noncomputable def LotsG (h : Heap) (O D : Addr) (b : Nat) (L0 L1 : List Path) : Prop := ∃ A0 A1 n vs0 n0 vs1 n1, h.get? O = some (listOf (List.toArray [.ref A0, .ref A1]) n) ∧ h.get? A0 = some (listOf (List.toArray vs0) n0) ∧ HA h vs0 (encL b L0) ∧ h.get? A1 = some (listOf (List.toArray vs1) n1) ∧ HA h vs1 (encL b L1) ∧ (A0 ≠ O ∧ A1 ≠ O) ∧ A0 ≠ D ∧ A1 ≠ D
theorem LotsG.at' {h h' : Heap} {O D : Addr} {b : Nat} {L0 L1 : List Path} (kp : ∀ a o, h.get? a = some o → (∃ xs n, o.data = .seq xs n) → h'.get? a = some o) (x : LotsG h O D b L0 L1) : LotsG h' O D b L0 L1 := by
  focus ((refine let G9 : Prop := _; (?_ : G9)); (obtain ⟨A0, A1, n, vs0, n0, vs1, n1, e, e0, r0, e1, r1, hne⟩ := x); all_goals (unfold G9; clear G9))
  exact ⟨A0, A1, n, vs0, n0, vs1, n1, kp _ _ e ⟨_, _, rfl⟩, kp _ _ e0 ⟨_, _, rfl⟩, r0.mono fun a o us n e hd => kp a o e ⟨_, _, hd⟩, kp _ _ e1 ⟨_, _, rfl⟩, r1.mono fun a o us n e hd => kp a o e ⟨_, _, hd⟩, hne⟩
theorem LotsG.read {h : Heap} {O D : Addr} {b : Nat} {L0 L1 : List Path} (x : LotsG h O D b L0 L1) : HR h (.ref O) (.list [.list (encL b L0), .list (encL b L1)]) := by
  focus ((refine let G9 : Prop := _; (?_ : G9)); (obtain ⟨A0, A1, n, vs0, n0, vs1, n1, e, e0, r0, e1, r1, hne⟩ := x); all_goals (unfold G9; clear G9))
  exact .list e (.cons (.list e0 r0) (.cons (.list e1 r1) .nil))
theorem LotsG.obj {h : Heap} {O D : Addr} {b : Nat} {L0 L1 : List Path} (x : LotsG h O D b L0 L1) : ∃ vs n, h.get? O = some (listOf (List.toArray vs) n) := by
  focus ((refine let G9 : Prop := _; (?_ : G9)); (obtain ⟨_, _, n, _, _, _, _, e, _⟩ := x); all_goals (unfold G9; clear G9))
  exact ⟨_, n, e⟩
variable {env : Env} {hc : Heap} {y : Str} {c : Addr} {ρ : Ev} {s₀ s : Shared} {m : Str → Option Value}
theorem not_tup {h : Heap} {O : Addr} {vs : List Value} {n : Nat} (e : h.get? O = some (listOf (List.toArray vs) n)) : ∀ us k, h.get? O ≠ some (tupO us k) := fun us k e' => by
  rw [e] at e'
  simp at e'
/-- a lot stored -/
theorem lot_set {e1 e2 : Expr} {p p2 pos : Pos} {O D : Addr} {b : Nat} {L0 L1 Ln : List Path} {u : Bool} {Q : Flow → Shared → Prop} (P : LP env hc ρ s₀ s m) (F : Lf env hc y c) (hf : flat ρ = true) (hl : ρ.lookup (Str.ofString "lots") = some (.raw (.ref O))) (hx : env.kindOf (Str.ofString "lots") = some .local)
    (X : LotsG s.heap O D b L0 L1) (hO : hc.get? O = none) (hD : ∃ o, s.heap.get? D = some o) (hval : EvF (model prog w) A env (hb env c s.heap) ρ (eval e2 env) (encL b Ln)) (hidx : ∀ s', LP env hc ρ s₀ s' m → EvD (model prog w) A env (hb env c s'.heap) ρ (eval e1 env) (.int u.toNat))
    (hQ : ∀ s', LP env hc ρ s₀ s' m → LotsG s'.heap O D b (if u then L0 else Ln) (if u then Ln else L1) → (∀ a o, a ≠ O → s.heap.get? a = some o → s'.heap.get? a = some o) → Q .next s')
    (hs : swapsWith e2 (some (.Subscript (.Name (Str.ofString "lots") p) e1 p2)) pos.line env = pure false) : wpAny (model prog w) A (exec (.Assign [.Subscript (.Name (Str.ofString "lots") p) e1 p2] e2 pos) env) Q NoE s := by
  refine wpAny_Assign_Subscript (wmono (hval m s (P.frm F) (P.envr hf)) fun v s1 q => ?_) hs
  focus ((refine let G9 : Prop := _; (?_ : G9)); (obtain ⟨G1, a, vs, n, rfl, ea, ra, fa⟩ := q); all_goals (unfold G9; clear G9))
  have P1 := P.grew hf G1
  refine P1.name F hl hx ?_
  refine wmono (hidx s1 P1 m s1 (P1.frm F) (P1.envr hf)) fun iv s2 q9 => ?_
  have G2 := q9.1
  have ri := q9.2
  focus ((refine let G9 : Prop := _; (?_ : G9)); (obtain ⟨ti, rfl⟩ := ri.int_inv); all_goals (unfold G9; clear G9))
  have P2 := P1.grew hf G2
  have G12 := G1.trans G2
  have X2 := X.at' fun a o e _ => G12.kp a o e
  focus ((refine let G9 : Prop := _; (?_ : G9)); (obtain ⟨A0, A1, nO, vs0, n0, vs1, n1, eO, e0, r0, e1', r1, hne, hD0, hD1⟩ := X2); all_goals (unfold G9; clear G9))
  focus ((refine let G9 : Prop := _; (?_ : G9)); (obtain ⟨hOL, hOC⟩ := P2.apart F eO (.inr ⟨_, _, rfl⟩)); all_goals (unfold G9; clear G9))
  have haO : a ≠ O := by
    intro h9
    focus ((refine let G9 : Prop := _; (?_ : G9)); (obtain ⟨us, k, e⟩ := X.obj); all_goals (unfold G9; clear G9))
    first | rw [h9, fa] at e | rw [← h9, fa] at e
    cases e
  have haD : a ≠ D := by
    intro h9
    focus ((refine let G9 : Prop := _; (?_ : G9)); (obtain ⟨o, e⟩ := hD); all_goals (unfold G9; clear G9))
    first | rw [h9, fa] at e | rw [← h9, fa] at e
    cases e
  refine set_at eO (by (first | lia | omega)) (by show (u.toNat : Int) < ((2 : Nat) : Int); cases u <;> decide) (by cases u <;> decide) fun h' n' eO' hsb => ?_
  have kk : ∀ a o, a ≠ O → s2.heap.get? a = some o → h'.get? a = some o := fun a o ha e => (hsb.2 a ha).trans e
  have kt : Kt s2.heap h' := fun a us k e => kk a _ (fun h9 => not_tup eO _ _ (h9 ▸ e)) e
  refine hQ { s2 with heap := h' } (P2.mut hf F ⟨h', _, rfl⟩ (· = O) (fun b hb => by rw [hb]; exact ⟨hO, hOL, hOC⟩) (fun b hb => by rw [hb]; exact not_tup eO) fun b o hb e => kk b o hb e) ?_ fun a o ha e => kk a o ha (G12.kp a o e)
  have ea2 := kk _ _ haO (G2.kp _ _ ea)
  have ra2 := (ra.kp G2.kp).monoT kt noLs_encL
  cases u with
  | false =>
    exact ⟨a, A1, n', vs, n, vs1, n1, eO', ea2, ra2, kk _ _ hne.2 e1', r1.monoT kt noLs_encL, ⟨haO, hne.2⟩, haD, hD1⟩
  | true =>
    exact ⟨A0, a, n', vs0, n0, vs, n, eO', kk _ _ hne.1 e0, r0.monoT kt noLs_encL, ea2, ra2, ⟨hne.1, haO⟩, hD0, haD⟩
/-- a route put -/
theorem put_stmt {p ap cp q1 q2 pos : Pos} {X Xd : Addr} {b wt : Nat} {T : PT} {pp : Path} {vp vw : Value} {Q : Flow → Shared → Prop} (P : LP env hc ρ s₀ s m) (F : Lf env hc (Str.ofString "tree") c) (hf : flat ρ = true) (G : Gd w mg mb hc) (R : Room A (5 + dep T)) (hb' : Bits b) (hp : pp.length ≤ b) (ok : TOk b T) (hT : TreeAt w s.heap X Xd b T)
    (hXd : (Xd ≠ env.locals ∧ Xd ≠ c) ∧ hc.get? Xd = none) (hl : ρ.lookup (Str.ofString "tree") = some (.raw (.ref X))) (hlp : ρ.lookup (Str.ofString "prefix") = some (.raw vp)) (hlw : ρ.lookup (Str.ofString "word") = some (.raw vw)) (hxp : env.kindOf (Str.ofString "prefix") = some .local) (hxw : env.kindOf (Str.ofString "word") = some .local)
    (rp : HR s.heap vp (encD b pp)) (rw' : HR s.heap vw (.int wt))
    (hQ : ∀ s', LP env hc ρ s₀ s' m → TreeAt w s'.heap X Xd b (putT T pp wt) → (∀ a o, a ≠ Xd → s.heap.get? a = some o → s'.heap.get? a = some o) → Q .next s')
    (hi : interactive env = false) (hs : swapsWith (.Call (.Attribute (.Name (Str.ofString "tree") p) (Str.ofString "put") ap) [.Name (Str.ofString "prefix") q1, .Name (Str.ofString "word") q2] [] cp) none pos.line env = pure false)
    (he1 : starEach [.Name (Str.ofString "prefix") q1, .Name (Str.ofString "word") q2] env = (false, eval (.Name (Str.ofString "prefix") q1) env) :: starEach [.Name (Str.ofString "word") q2] env) (he2 : starEach [.Name (Str.ofString "word") q2] env = (false, eval (.Name (Str.ofString "word") q2) env) :: starEach [] env)
    {pl : Sem Bool} (hcall : eval (.Call (.Attribute (.Name (Str.ofString "tree") p) (Str.ofString "put") ap) [.Name (Str.ofString "prefix") q1, .Name (Str.ofString "word") q2] [] cp) env = (do
      let ov ← eval (.Name (Str.ofString "tree") p) env
      standAt ap.atName
      let (f, first) ← holding [ov] (getMethod ov (Str.ofString "put") pl)
      callWith cp f first (backTo cp (starEach [.Name (Str.ofString "prefix") q1, .Name (Str.ofString "word") q2] env)) [])) :
    wpAny (model prog w) A (exec (.Expr (.Call (.Attribute (.Name (Str.ofString "tree") p) (Str.ofString "put") ap) [.Name (Str.ofString "prefix") q1, .Name (Str.ofString "word") q2] [] cp) pos) env) Q NoE s := by
  refine wpAny_Expr ?_ hi hs
  refine MethodCall_ ?_ hcall
  focus ((refine let G9 : Prop := _; (?_ : G9)); (obtain ⟨v, hv, rfl⟩ := P.pt.er _ _ hl); all_goals (unfold G9; clear G9))
  refine wpAny_Name (wpAny_loadName_cell F.kind F.isCell F.at' (hv ▸ P.pt.cell _ c F.at') ?_) (by decide)
  have Gs := P.gd' G
  focus ((refine let G9 : Prop := _; (?_ : G9)); (obtain ⟨es, nn, I, t1, t2, tb, tv, rfl, r, _⟩ := hT.inst); all_goals (unfold G9; clear G9))
  refine method_fn Gs.K I (plainGet_of c_get).1 (plainGet_of c_get).2 c_put (beq_iff_eq.mp c_putF) (by rfl) ?_
  refine callWith_K (h₀ := hc) G.K c_keepP (wpAny_items_cons (P.name F hlp hxp (wpAny_items_cons (P.name F hlw hxw (wpAny_items_nil ⟨Gs.K, ?_⟩)) he2)) he1) he1 (by rw [he2]; rfl)
  refine wmono (fib_put R Gs hb' hp ok hT rp rw') fun v s1 q => ?_
  focus ((refine let G9 : Prop := _; (?_ : G9)); (obtain ⟨rfl, e1, T1, k1⟩ := q); all_goals (unfold G9; clear G9))
  refine hQ s1 (P.mut hf F e1 (· = Xd) (fun b hb => by rw [hb]; exact ⟨hXd.2, hXd.1⟩) (fun b hb us k e => ?_) fun b o hb e => k1 b o hb e) T1 k1
  focus ((refine let G9 : Prop := _; (?_ : G9)); (obtain ⟨_, _, _, _, _, e', _⟩ := hT.dict); all_goals (unfold G9; clear G9))
  rw [hb, e'] at e
  simp at e
/-- a builtin of one argument -/
theorem bi_raw {x : Str} {p pos : Pos} {e1 : Expr} {f : Value} {Q : Value → Shared → Prop} (Gs : Gd w mg mb s.heap) (e : nsIn (hd.heap_39 w.params) mainGlobals x = some none) (hv : bootBuiltins x = some f) (hf : ∃ id, f = .builtin id) (hn : x ≠ "__name__")
    (hk : env.scope.kind = .function) (hx : env.kindOf x = some .globalImplicit) (hg : env.globals = mainGlobals) (hbb : env.builtins = builtinsNs) (hd : (x == ("__debug__" : Str)) = false)
    (he : starEach [e1] env = (false, eval e1 env) :: starEach [] env)
    (hc' : eval (.Call (.Name x p) [e1] [] pos) env = (do callWith pos (← eval (.Name x p) env) [] (backTo pos (starEach [e1] env)) (backToKw pos (keywordEach [] env))))
    (h : wpAny (model prog w) A (eval e1 env) (fun v s1 => wpAny (model prog w) A (call f [v]) Q NoE s1) NoE s) :
    wpAny (model prog w) A (eval (.Call (.Name x p) [e1] [] pos) env) Q NoE s := by
  refine Call_ ?_ hc'
  refine Name_function_global hk hx (loadGlobal_builtin (by rw [hg]; exact Gs.T.g) (mg_none_of Gs.K Gs.T.g e) (by rw [hbb]; exact Gs.T.b) ((Gs.T.builtins x hn).trans hv) ?_) hd
  have X : wpAny (model prog w) A (spliced (backTo pos (starEach [e1] env))) (fun vs s' => wpAny (model prog w) A (call f vs) Q NoE s') NoE s := wpAny_items_cons (wmono h fun v s1 q => wpAny_items_nil q) he
  rw [he] at X ⊢
  show wpAny _ _ (callWith pos f [] ((false, eval e1 env) :: backTo pos (starEach [] env)) []) _ _ _
  focus ((refine let G9 : Prop := _; (?_ : G9)); (obtain ⟨id, rfl⟩ := hf); all_goals (unfold G9; clear G9))
  exact callWith_builtin (by rfl) (evalArgs_plain X)
theorem sorted_words {W : Addr} {b kk : Nat} {xs : List (List Int × Addr × Value)} {ks : List Path} (hh : A.handled = none) (X : Words prog w s.heap W b kk xs) (hkk : kk ≤ 50) (hks : Ordered prog w s.heap b xs ks) :
    wpAny (model prog w) A (call (.builtin "sorted") [.ref W]) (fun v s' => Grew s s' ∧ ∃ a vs n, v = .ref a ∧ s'.heap.get? a = some (listOf (List.toArray vs) n) ∧ HA s'.heap vs ((ks.map (kp b)).map prD) ∧ s.heap.get? a = none) NoE s := by
  focus ((refine let G9 : Prop := _; (?_ : G9)); (obtain ⟨lo, ⟨o, es, ep, e1, e2, e3, e4, _, _⟩, hlen, hx⟩ := X); all_goals (unfold G9; clear G9))
  focus ((refine let G9 : Prop := _; (?_ : G9)); (obtain ⟨ps, h1, h2, h3, h4⟩ := hks.pairs); all_goals (unfold G9; clear G9))
  refine sorted_dict (es := es) (ep := ep) hh lo ⟨o, e1, e2, e3⟩ (ps := ps) ?_ h4 ?_ h2 h3
  · have : es.toList.map (·.key) = xs.map fun x => Value.ref x.2.1 := by rw [e4, List.map_map]; rfl
    rw [this]
    exact h1
  · have := h1.length
    simp only [List.length_map] at this
    (first | lia | omega)
theorem WordIs.any {h h' : Heap} {b : Nat} {xs : List (List Int × Addr × Value)} {p : Path} {u : Bool} (x : WordIs b h xs p u) : WordIs b h' xs p u := by
  focus ((refine let G9 : Prop := _; (?_ : G9)); (obtain ⟨q, e, r⟩ := x); all_goals (unfold G9; clear G9))
  focus ((refine let G9 : Prop := _; (?_ : G9)); (obtain ⟨t, e'⟩ := r.int_inv); all_goals (unfold G9; clear G9))
  exact ⟨q, e, by rw [e']; exact .int _ _⟩
end
end Mine
end
-- Lg18
section
open PySem PySem.W PyProof.Rows PySem.Calls PySem.Spec
namespace Mine
noncomputable def DueP (h : Heap) (D : Addr) (ds : List PyData) : Prop := ∃ vs n, h.get? D = some (listOf (List.toArray vs) n) ∧ HA h vs ds
theorem DueP.at' {h h' : Heap} {D : Addr} {ds : List PyData} (kp : ∀ a o, h.get? a = some o → (∃ xs n, o.data = .seq xs n) → h'.get? a = some o) (x : DueP h D ds) : DueP h' D ds := by
  focus ((refine let G9 : Prop := _; (?_ : G9)); (obtain ⟨vs, n, e, r⟩ := x); all_goals (unfold G9; clear G9))
  exact ⟨vs, n, kp _ _ e ⟨_, _, rfl⟩, r.mono fun a o us n e hd => kp a o e ⟨_, _, hd⟩⟩
theorem DueP.read {h : Heap} {D : Addr} {ds : List PyData} (x : DueP h D ds) : HR h (.ref D) (.list ds) := let ⟨_, _, e, r⟩ := x; .list e r
theorem HA.set {h : Heap} {vs : List Value} {ds : List PyData} {v : Value} {d : PyData} (r : HA h vs ds) (x : HR h v d) (k : Nat) : HA h (vs.set k v) (ds.set k d) := by
  induction ds generalizing vs k with
  | nil => rw [r.inv0]; exact .nil
  | cons e ds ih =>
    focus ((refine let G9 : Prop := _; (?_ : G9)); (obtain ⟨u, us, rfl, a, b⟩ := r.inv); all_goals (unfold G9; clear G9))
    cases k with
    | zero => exact .cons x b
    | succ k => exact .cons a (ih b k)
noncomputable def fillD (ds : List PyData) (a : Nat) (x : PyData) : Nat → List PyData
  | 0 => ds
  | i + 1 => (fillD ds a x i).set (a + i) x
theorem fillD_len {ds : List PyData} {a : Nat} {x : PyData} : ∀ {i : Nat}, (fillD ds a x i).length = ds.length
  | 0 => rfl
  | i + 1 => by rw [fillD, List.length_set, fillD_len]
theorem fillD_get {ds : List PyData} {a : Nat} {x : PyData} : ∀ {i k : Nat}, k < ds.length → (fillD ds a x i)[k]? = if a ≤ k ∧ k < a + i then some x else ds[k]?
  | 0, k, hk => by
    rw [if_neg (by (first | lia | omega))]
    rfl
  | i + 1, k, hk => by
    rw [fillD, List.getElem?_set, fillD_len, fillD_get hk]
    by_cases h : a + i = k
    · subst h
      rw [if_pos rfl, if_pos hk, if_pos ⟨by (first | lia | omega), by (first | lia | omega)⟩]
    · rw [if_neg h]
      by_cases h2 : a ≤ k ∧ k < a + i
      · rw [if_pos h2, if_pos ⟨by (first | lia | omega), by (first | lia | omega)⟩]
      · rw [if_neg h2, if_neg (by (first | lia | omega))]
noncomputable def chk11 (b : Nat) : Bool := (paths b).all fun p => (List.range (2 ^ b)).all fun k => decide (p.isPrefixOf ((fulls b).getD k []) = decide (adr b p ≤ k ∧ k < adr b p + 2 ^ (b - p.length)))
theorem chk11_3 : chk11 3 = true := by decide +kernel
theorem chk11_4 : chk11 4 = true := by decide +kernel
theorem DL_noLs {b : Nat} {d : Path → Bool} : noLs (DL b d) = true := noLs_of DL_noL
theorem DL_fill {b : Nat} (hb : Bits b) {d : Path → Bool} {p : Path} {u : Bool} (hp : p.length ≤ b) : fillD (DL b d) (adr b p) (.int u.toNat) (2 ^ (b - p.length)) = DL b (setD d p u) := by
  have hc : chk11 b = true := by rcases hb with rfl | rfl; exact chk11_3; exact chk11_4
  refine List.ext_getElem? fun k => ?_
  by_cases hk : k < 2 ^ b
  · rw [fillD_get (by rw [DL_len]; exact hk)]
    have q := of_decide_eq_true (List.all_eq_true.mp (List.all_eq_true.mp hc p (mem_paths hp)) k (by simpa using hk))
    have hg : (fulls b)[k]? = some ((fulls b).getD k []) := by
      rw [List.getD, List.getElem?_eq_getElem (by rw [fulls_len]; exact hk)]
      rfl
    unfold DL
    rw [List.getElem?_map, List.getElem?_map, hg]
    simp only [Option.map_some, setD]
    rw [q]
    by_cases h : adr b p ≤ k ∧ k < adr b p + 2 ^ (b - p.length)
    · rw [if_pos h, decide_eq_true h, if_pos rfl]
    · rw [if_neg h, decide_eq_false h]
      rfl
  · rw [List.getElem?_eq_none (by rw [fillD_len, DL_len]; (first | lia | omega)), List.getElem?_eq_none (by rw [DL_len]; (first | lia | omega))]
section
variable {prog : Program} {w : World} {mg mb : Str → Option Value} {A : Around} {env : Env} {hc : Heap} {y : Str} {c : Addr} {ρ : Ev} {s₀ s : Shared} {m : Str → Option Value}
theorem due_set {e1 e2 : Expr} {p p2 pos : Pos} {D : Addr} {ds : List PyData} {k : Nat} {d : PyData} {Q : Flow → Shared → Prop} (P : LP env hc ρ s₀ s m) (F : Lf env hc y c) (hf : flat ρ = true) (hl : ρ.lookup (Str.ofString "due") = some (.raw (.ref D))) (hx : env.kindOf (Str.ofString "due") = some .local)
    (X : DueP s.heap D ds) (hds : noLs ds = true) (hd : noL d = true) (hD : hc.get? D = none) (hk : k < ds.length) (hz : ds.length ≤ 1000) (hval : EvD (model prog w) A env (hb env c s.heap) ρ (eval e2 env) d) (hidx : ∀ s', LP env hc ρ s₀ s' m → EvD (model prog w) A env (hb env c s'.heap) ρ (eval e1 env) (.int k))
    (hQ : ∀ s', LP env hc ρ s₀ s' m → DueP s'.heap D (ds.set k d) → (∀ a o, a ≠ D → s.heap.get? a = some o → s'.heap.get? a = some o) → Q .next s')
    (hs : swapsWith e2 (some (.Subscript (.Name (Str.ofString "due") p) e1 p2)) pos.line env = pure false) : wpAny (model prog w) A (exec (.Assign [.Subscript (.Name (Str.ofString "due") p) e1 p2] e2 pos) env) Q NoE s := by
  refine wpAny_Assign_Subscript (wmono (hval m s (P.frm F) (P.envr hf)) fun v s1 q => ?_) hs
  focus ((refine let G9 : Prop := _; (?_ : G9)); (obtain ⟨G1, rv⟩ := q); all_goals (unfold G9; clear G9))
  have P1 := P.grew hf G1
  refine P1.name F hl hx ?_
  refine wmono (hidx s1 P1 m s1 (P1.frm F) (P1.envr hf)) fun iv s2 q9 => ?_
  have G2 := q9.1
  have ri := q9.2
  focus ((refine let G9 : Prop := _; (?_ : G9)); (obtain ⟨ti, rfl⟩ := ri.int_inv); all_goals (unfold G9; clear G9))
  have P2 := P1.grew hf G2
  have G12 := G1.trans G2
  focus ((refine let G9 : Prop := _; (?_ : G9)); (obtain ⟨vs, n, eD, rD⟩ := X.at' fun a o e _ => G12.kp a o e); all_goals (unfold G9; clear G9))
  focus ((refine let G9 : Prop := _; (?_ : G9)); (obtain ⟨hDL, hDC⟩ := P2.apart F eD (.inr ⟨_, _, rfl⟩)); all_goals (unfold G9; clear G9))
  have hlen := rD.length
  refine set_at eD (by (first | lia | omega)) (by (first | lia | omega)) (by (first | lia | omega)) fun h' n' eD' hsb => ?_
  have kk : ∀ a o, a ≠ D → s2.heap.get? a = some o → h'.get? a = some o := fun a o ha e => (hsb.2 a ha).trans e
  have kt : Kt s2.heap h' := fun a us k e => kk a _ (fun h9 => not_tup eD _ _ (h9 ▸ e)) e
  refine hQ { s2 with heap := h' } (P2.mut hf F ⟨h', _, rfl⟩ (· = D) (fun b hb => by subst hb; exact ⟨hD, hDL, hDC⟩) (fun b hb => by subst hb; exact not_tup eD) fun b o hb e => kk b o hb e) ?_ fun a o ha e => kk a o ha (G12.kp a o e)
  rw [Int.toNat_natCast] at eD'
  exact ⟨_, n', eD', (rD.monoT kt hds).set ((rv.kp G2.kp).monoT kt hd) k⟩
end
-- the pure state of the main loop
noncomputable def valF : Option (Path × Nat) → Nat
  | none => 0
  | some (_, v) => v
structure Good (b : Nat) (T : PT) (d : Path → Bool) (mo : Nat) (i : Nat) (rest : List Path) : Prop where
  look : ∀ q : Path, q.length = b → valF (lookT b T q none) = (d q).toNat
  ok : TOk b T
  up : ∀ p ∈ rest, TOk p.length T
  und : Und [] T
  dep : dep T ≤ i
  most : lv b d ≤ mo
theorem good_zero {b : Nat} {rest : List Path} : Good b .nil (fun _ => false) 1 0 rest := ⟨fun q _ => rfl, trivial, fun _ _ => trivial, trivial, Nat.le_refl _, by rw [lv_one (u := false) fun _ _ => rfl]; exact Nat.le_refl _⟩
theorem good_step {b : Nat} {T : PT} {d : Path → Bool} {mo i : Nat} {p : Path} {rest : List Path} {u : Bool} (hp : p.length ≤ b) (g : Good b T d mo i (p :: rest)) (hup : ∀ q ∈ rest, p.length ≤ q.length) : Good b (putT T p u.toNat) (setD d p u) (mo + p.length) (i + 1) rest := by
  have ok := g.up p (.head _)
  refine ⟨fun q hq => ?_, tok_put hp g.ok, fun q hq => tok_put (hup q hq) (g.up q (.tail _ hq)), und_put ok g.und (List.nil_prefix), Nat.le_trans dep_put (Nat.succ_le_succ g.dep), Nat.le_trans (lv_put hp) (Nat.add_le_add_right g.most _)⟩
  rw [look_put hq hp ok g.und]
  unfold setD
  by_cases h : p.isPrefixOf q = true
  · rw [if_pos h, if_pos h]; rfl
  · rw [if_neg h, if_neg h]; exact g.look q hq
end Mine
end
-- F6
section
open PySem PySem.W PyProof.Rows PySem.Calls PySem.Spec
namespace Mine
section
variable {prog : Program} {w : World} {mg mb : Str → Option Value} {A : Around}
theorem enterC {s : Shared} {fa : Addr} {vals : List Value} {name qual : Str} {params : Arguments} {body : List Stmt} {scope : Scope} {dV kV doc pm cdv ct oc : Value} {an od : Option Addr} {osl : Array (Option Value)} {binds : List (Str × Value)} {d : PyData} {n : Nat}
    (R : Room A (n + 1)) (G : Gd w mg mb s.heap) (ho : (hd.heap_39 w.params).lookup fa = some ⟨oc, od, .func (fnOf name qual params body scope dV kV doc pm an cdv ct), osl⟩) (hcd : codeIn (hd.heap_39 w.params) cdv qual = true)
    (hbind : bindArgs (fnOf name qual params body scope dV kV doc pm an cdv ct) ⟨vals, []⟩ = pure binds) (hkind : (binds.all fun y => scope.names.lookup y.1 == some .local || scope.names.lookup y.1 == some .cell) = true)
    (hl : ∀ L x, (envOfC qual scope L fa cdv).kindOf x = some .local → (envOfC qual scope L fa cdv).cells.lookup x = none)
    (hco : scope.isCoroutine = false) (hgen : scope.isGenerator = false) (hk : scope.kind = .function)
    (h : ∀ L s₁, (∀ n c, (envOfC qual scope L fa cdv).cells.lookup n = some c → s.heap.get? c = none ∧ L ≠ c) → Room (A.deeper (envOfC qual scope L fa cdv)) n →
      Frm (envOfC qual scope L fa cdv) s.heap s₁.heap (startM (envOfC qual scope L fa cdv).cells (envOfC qual scope L fa cdv).kindOf binds) →
      wpAny (model prog w) (A.deeper (envOfC qual scope L fa cdv)) (execs body (envOfC qual scope L fa cdv)) (fun fl s' => ∃ v, fl = .ret v ∧ Same s₁ s' ∧ Kp s.heap s'.heap ∧ HR s'.heap v d) NoE s₁) :
    wpAny (model prog w) A (call (.ref fa) vals) (fun v s' => Grew s s' ∧ HR s'.heap v d) NoE s := by
  refine wpAny_call ?_
  refine codeAny_call_cells (fd := fnOf name qual params body scope dV kV doc pm an cdv ct) (body := body) (by have := R.1; (first | lia | omega)) (G.K _ _ ho) rfl G.T.nolimit (codeRec_of G.K hcd) rfl hbind rfl (kindsX hkind _) (fun s₁ X => ?_) hco hgen hk
  have F := start_frm (env := envOfC qual scope s.heap.objs.size fa cdv) X (hl _)
  have hfr : ∀ n c, (envOfC qual scope s.heap.objs.size fa cdv).cells.lookup n = some c → s.heap.get? c = none ∧ s.heap.objs.size ≠ c := fun n c hc => by
    have hb : s.heap.objs.size < c := X.above n c (PySem.mem_of_lookup hc)
    refine ⟨?_, Nat.ne_of_lt hb⟩
    cases q : s.heap.get? c with
    | none => rfl
    | some o => exact absurd (Heap.lt_size q) (Nat.not_lt.mpr (Nat.le_of_lt hb))
  have Y := h s.heap.objs.size s₁ hfr (R.deeper _) F
  focus ((refine let G9 : Prop := _; (?_ : G9)); (obtain ⟨h₁, tk, rfl⟩ := X.toInCall.same); all_goals (unfold G9; clear G9))
  refine wpAny_mono Y (fun fl s' q => ?_) fun _ _ x => x.elim
  focus ((refine let G9 : Prop := _; (?_ : G9)); (obtain ⟨v, rfl, e, k, r⟩ := q); all_goals (unfold G9; clear G9))
  exact ⟨⟨by obtain ⟨h', tk, rfl⟩ := e; exact ⟨h', tk, rfl⟩, k⟩, r⟩
theorem filt {α : Type} {l : List α} : (l.filter fun _ => true) = l := List.filter_eq_self.mpr fun _ _ => rfl
theorem filter_true {α : Type} {l : List α} : (l.filter fun _ => true).map id = l := by simp
theorem pool_of {h : Heap} {a : Addr} {vs : List Value} {n : Nat} {ns : List Int} (o : h.get? a = some (listOf (List.toArray vs) n)) (r : HA h vs [.list (ns.map .int), .int 0]) : PoolAt h a ns 0 := by
  cases r with
  | cons r1 r =>
    cases r with
    | cons r2 r =>
      cases r
      focus ((refine let G9 : Prop := _; (?_ : G9)); (obtain ⟨I, us, k, rfl, oI, rI⟩ := r1.list_inv); all_goals (unfold G9; clear G9))
      focus ((refine let G9 : Prop := _; (?_ : G9)); (obtain ⟨t, rfl⟩ := r2.int_inv); all_goals (unfold G9; clear G9))
      refine ⟨I, n, us, k, t, o, oI, rI, ?_⟩
      rintro rfl
      rw [o] at oI
      simp at oI
      rw [← oI.1] at rI
      cases ns with
      | nil => cases rI
      | cons i ns =>
        cases rI with
        | cons q _ => obtain ⟨t, e⟩ := q.int_inv; cases e
theorem path_of {b l : Nat} {x : Int} (hb : Bits b) (hl : l ≤ b) (h0 : 0 ≤ x) (hx : x < 2 ^ l) : ∃ p : Path, p.length = l ∧ (adr b p : Int) = x * 2 ^ (b - l) := by
  have key : ((List.range 5).all fun l => (List.range (2 ^ l)).all fun x => (paths 4).any fun p => p.length == l && bv p 0 == x) = true := by decide +kernel
  have hb4 := len_le hb
  focus ((refine let G9 : Prop := _; (?_ : G9)); (obtain ⟨n, rfl⟩ := Int.eq_ofNat_of_zero_le h0); all_goals (unfold G9; clear G9))
  have hx' : n < 2 ^ l := by
    have := hx
    rw [← powc] at this
    (first | lia | omega)
  have k1 := List.all_eq_true.mp (List.all_eq_true.mp key l (by simp; (first | lia | omega))) n (by simpa using hx')
  focus ((refine let G9 : Prop := _; (?_ : G9)); (obtain ⟨p, _, hp⟩ := List.any_eq_true.mp k1); all_goals (unfold G9; clear G9))
  have hp := Bool.and_eq_true_iff.mp hp
  have e1 : p.length = l := eq_of_beq hp.1
  have e2 : bv p 0 = n := eq_of_beq hp.2
  refine ⟨p, e1, ?_⟩
  unfold adr
  rw [e1, e2, Int.natCast_mul, powc]
theorem tok_any {α : Type} {M : Model} {A : Around} {t : Sem α} {Q : α → Shared → Prop} {s : Shared} {tk : Nat} (h : ∀ sJ, Grew s sJ → wpAny M A t Q NoE sJ) : wpAny M A t Q NoE { s with toks := tk } := h _ (Grew.tok s tk)
theorem mod2 (x : Int) : ∃ u : Bool, x.fmod 2 = u.toNat := by
  focus ((refine let G9 : Prop := _; (?_ : G9)); (obtain ⟨a, b⟩ := fmod_range x (y := 2) (by decide)); all_goals (unfold G9; clear G9))
  rcases (by (first | lia | omega) : x.fmod 2 = 0 ∨ x.fmod 2 = 1) with h | h
  · exact ⟨false, h⟩
  · exact ⟨true, h⟩
theorem DL_zero {b : Nat} : List.replicate (2 ^ b) (PyData.int 0) = DL b fun _ => false := by
  unfold DL
  rw [List.map_const', fulls_len]
  rfl
theorem lb_all0 {b : Nat} : lb b (fun _ => false) false = [[]] ∧ lb b (fun _ => false) true = [] := ⟨lb_all.mpr fun _ _ => rfl, lb_none fun _ _ h => by cases h⟩
theorem item_at {h : Heap} {vs : List Value} {ks : List Path} {b i : Nat} {v : Value} (r : HA h vs ((ks.map (kp b)).map prD)) (hv : vs[i]? = some v) : ∃ p, ks[i]? = some p ∧ HR h v (prD (kp b p)) := by
  have hlen := r.length
  simp only [List.length_map] at hlen
  have hi : i < ks.length := by
    rw [← hlen]
    exact (List.getElem?_eq_some_iff.mp hv).1
  focus ((refine let G9 : Prop := _; (?_ : G9)); (obtain ⟨u, hu, ru⟩ := r.get (k := i) (x := prD (kp b ks[i])) (by simp [hi])); all_goals (unfold G9; clear G9))
  rw [hv] at hu
  cases hu
  exact ⟨ks[i], by simp [hi], ru⟩
theorem drop_at {ks : List Path} {i : Nat} {p : Path} (h : ks[i]? = some p) : ks.drop i = p :: ks.drop (i + 1) := by
  focus ((refine let G9 : Prop := _; (?_ : G9)); (obtain ⟨hi, rfl⟩ := List.getElem?_eq_some_iff.mp h); all_goals (unfold G9; clear G9))
  exact List.drop_eq_getElem_cons hi
theorem later {ks : List Path} {i : Nat} {p : Path} (h : ks[i]? = some p) (hs : ks.Pairwise fun p q => p.length ≤ q.length) : ∀ q ∈ ks.drop (i + 1), p.length ≤ q.length := by
  have : (ks.drop i).Pairwise fun p q => p.length ≤ q.length := hs.sublist (List.drop_sublist _ _)
  rw [drop_at h] at this
  exact (List.pairwise_cons.mp this).1
theorem DueP.kt {h h' : Heap} {D : Addr} {ds : List PyData} (x : DueP h D ds) (n : noLs ds = true) (k : ∀ o, h.get? D = some o → h'.get? D = some o) (kt : Kt h h') : DueP h' D ds := by
  focus ((refine let G9 : Prop := _; (?_ : G9)); (obtain ⟨vs, k', e, r⟩ := x); all_goals (unfold G9; clear G9))
  exact ⟨vs, k', k _ e, r.monoT kt n⟩
theorem LotsG.kt {h h' : Heap} {O D : Addr} {b : Nat} {L0 L1 : List Path} (x : LotsG h O D b L0 L1) (hOD : D ≠ O) (k : ∀ a o, a ≠ D → h.get? a = some o → (∃ xs n, o.data = .seq xs n) → h'.get? a = some o) (kt : Kt h h') : LotsG h' O D b L0 L1 := by
  focus ((refine let G9 : Prop := _; (?_ : G9)); (obtain ⟨A0, A1, n, vs0, n0, vs1, n1, e, e0, r0, e1, r1, hne, hD0, hD1⟩ := x); all_goals (unfold G9; clear G9))
  exact ⟨A0, A1, n, vs0, n0, vs1, n1, k _ _ hOD.symm e ⟨_, _, rfl⟩, k _ _ hD0 e0 ⟨_, _, rfl⟩, r0.monoT kt noLs_encL, k _ _ hD1 e1 ⟨_, _, rfl⟩, r1.monoT kt noLs_encL, hne, hD0, hD1⟩
theorem noLs_pr {ps : List (Int × Int)} : noLs (ps.map prD) = true := noLs_of fun d hd => by
  focus ((refine let G9 : Prop := _; (?_ : G9)); (obtain ⟨q, _, rfl⟩ := List.mem_map.mp hd); all_goals (unfold G9; clear G9))
  rfl
theorem TreeAt.ne {h : Heap} {X Xd O : Addr} {b : Nat} {T : PT} (t : TreeAt w h X Xd b T) {vs : List Value} {n : Nat} (e : h.get? O = some (listOf (List.toArray vs) n)) : X ≠ O ∧ Xd ≠ O := by
  constructor
  · rintro rfl
    rw [t.obj] at e
    cases e
  · rintro rfl
    focus ((refine let G9 : Prop := _; (?_ : G9)); (obtain ⟨_, _, _, _, _, e', _⟩ := t.dict); all_goals (unfold G9; clear G9))
    rw [e'] at e
    simp at e
theorem TreeAt.base {env : Env} {hc : Heap} {y : Str} {c : Addr} {ρ : Ev} {s₀ s : Shared} {m : Str → Option Value} {X Xd : Addr} {b : Nat} {T : PT} (t : TreeAt w s.heap X Xd b T) (P : LP env hc ρ s₀ s m) (F : Lf env hc y c) (hX : X ≠ env.locals ∧ X ≠ c) (hXd : Xd ≠ env.locals ∧ Xd ≠ c) : TreeAt w (hb env c s.heap) X Xd b T :=
  t.kt (fun a vs n e => by rw [hb_get (P.apart F e (.inr ⟨_, _, rfl⟩)).1 (P.apart F e (.inr ⟨_, _, rfl⟩)).2]; exact e) (fun o e => by rw [hb_get hX.1 hX.2]; exact e) (fun o e => by rw [hb_get hXd.1 hXd.2]; exact e)
theorem s_raw {env : Env} {h₀ : Heap} {ρ : Ev} {x : Str} {p : Pos} {v : Value} {ds : List PyData} (hf : flat ρ = true) (hl : ρ.lookup x = some (.raw v)) (hr : HR h₀ v (.list ds)) (hk : env.scope.kind = .function) (hx : env.kindOf x = some .local) (hd' : (x == ("__debug__" : Str)) = false := by decide) :
    EvSrc (model prog w) A env h₀ ρ (eval (.Name x p) env) ds := fun m s F R => by
  focus ((refine let G9 : Prop := _; (?_ : G9)); (obtain ⟨u, hv, rfl⟩ := R x _ hl); all_goals (unfold G9; clear G9))
  focus ((refine let G9 : Prop := _; (?_ : G9)); (obtain ⟨a, vs, n, rfl, e, ra⟩ := hr.list_inv); all_goals (unfold G9; clear G9))
  exact frm_name F hv hk hx ⟨.refl _, .list (F.keep _ _ e) (ra.kp F.keep) (no_owned hf)⟩ hd'
noncomputable def chk12 (b : Nat) : Bool := (List.range (2 ^ b)).all fun j => decide (adr b ((fulls b).getD j []) = j ∧ ((fulls b).getD j []).length = b)
theorem chk12_3 : chk12 3 = true := by decide +kernel
theorem chk12_4 : chk12 4 = true := by decide +kernel
theorem full_at {b j : Nat} (hb : Bits b) (hj : j < 2 ^ b) : adr b ((fulls b).getD j []) = j ∧ ((fulls b).getD j []).length = b := by
  have hc : chk12 b = true := by rcases hb with rfl | rfl; exact chk12_3; exact chk12_4
  exact of_decide_eq_true (List.all_eq_true.mp hc j (by simpa using hj))
noncomputable def lookD (b : Nat) (T : PT) : PyData → PyData
  | .int i => encF b (lookT b T ((fulls b).getD i.toNat []) none)
  | _ => .none
theorem noL_lookD {b : Nat} {T : PT} {x : PyData} : noL (lookD b T x) = true := by
  cases x <;> first | exact noL_encF | rfl
noncomputable def rowD : PyData → PyData
  | .tuple [_, x] => x
  | _ => .int 0
theorem rows_eq {b : Nat} (hb : Bits b) {T : PT} {d : Path → Bool} (h : ∀ q : Path, q.length = b → valF (lookT b T q none) = (d q).toNat) : ((rangeD 0 (2 ^ b)).map (lookD b T)).map rowD = DL b d := by
  refine List.ext_getElem? fun k => ?_
  unfold rangeD DL
  rw [List.getElem?_map, List.getElem?_map, List.getElem?_map, List.getElem?_map]
  by_cases hk : k < 2 ^ b
  · focus ((refine let G9 : Prop := _; (?_ : G9)); (obtain ⟨f1, f2⟩ := full_at hb hk); all_goals (unfold G9; clear G9))
    have hg : (fulls b)[k]? = some ((fulls b).getD k []) := by
      rw [List.getD, List.getElem?_eq_getElem (by rw [fulls_len]; exact hk)]
      rfl
    rw [List.getElem?_range hk, hg]
    have e : (0 + (k : Int)).toNat = k := by (first | lia | omega)
    simp only [Option.map_some]
    have := h _ f2
    show some (rowD (encF b (lookT b T ((fulls b).getD (0 + (k : Int)).toNat []) none))) = _
    rw [e]
    congr 1
    cases q : lookT b T ((fulls b).getD k []) none with
    | none =>
      rw [q] at this
      show PyData.int 0 = PyData.int _
      rw [← this]
      rfl
    | some r =>
      rw [q] at this
      show PyData.int _ = PyData.int _
      rw [← this]
      rfl
  · rw [List.getElem?_eq_none (by simpa using hk), List.getElem?_eq_none (by rw [fulls_len]; (first | lia | omega))]
    rfl
noncomputable abbrev rho1 (b : Nat) (tb : Tok) (W P : Addr) : Ev := [(Str.ofString "bits", .raw (.int (b : Int) tb)), (Str.ofString "words", .raw (.ref W)), (Str.ofString "pool", .raw (.ref P))]
noncomputable abbrev rho2 (X O D : Addr) (k : Int) (tm : Tok) (b : Nat) (tb : Tok) (W : Addr) : Ev := [(Str.ofString "tree", .raw (.ref X)), (Str.ofString "lots", .raw (.ref O)), (Str.ofString "due", .raw (.ref D)), (Str.ofString "most", .raw (.int k tm)), (Str.ofString "bits", .raw (.int (b : Int) tb)), (Str.ofString "words", .raw (.ref W))]
inductive DrawI (prog : Program) (w : World) (env : Env) (hc : Heap) (s₁ : Shared) (ns : List Int) (b : Nat) (tb : Tok) (W P : Addr) (i : Nat) (s' : Shared) : Prop
  | mk (m : Str → Option Value) (xs : List (List Int × Addr × Value)) : LP env hc (rho1 b tb W P) s₁ s' m → PoolAt s'.heap P ns (1 + 3 * i) → Words prog w s'.heap W b i xs → DrawI prog w env hc s₁ ns b tb W P i s'
inductive MainI (prog : Program) (w : World) (env : Env) (hc : Heap) (s₁ : Shared) (X Xd O D : Addr) (b : Nat) (tb : Tok) (W : Addr) (xs : List (List Int × Addr × Value)) (ks : List Path) (vs : List Value) (i : Nat) (sA : Shared) : Prop
  | mk (m : Str → Option Value) (T : PT) (d : Path → Bool) (mo : Nat) (tm : Tok) : LP env hc (rho2 X O D (mo : Int) tm b tb W) s₁ sA m → TreeAt w sA.heap X Xd b T → LotsG sA.heap O D b (lb b d false) (lb b d true) → DueP sA.heap D (DL b d) → Words prog w sA.heap W b 5 xs →
    HA sA.heap vs ((ks.map (kp b)).map prD) → Good b T d mo i (ks.drop i) → MainI prog w env hc s₁ X Xd O D b tb W xs ks vs i sA
theorem fn_law {ns : List Int} (hlen : ns.length ≤ 63) : Fn prog w mg mb (Str.ofString "law") [.list (ns.map .int)] (.bool true) 40 := by
  refine Fn.in1 (by k_is) fun A s vscript R G r1 => ?_
  refine enterC R G (by k_is) (by k_is) rfl rfl ?_ rfl rfl rfl fun L s₁ hfr R F => ?_
  · exact fun L => one_cell rfl rfl
  refine (let env9 : Env := _; let A9 : Around := _; let M9 : Model := _; let Q9 : Flow → Shared → Prop := _; (?_ : wpAny M9 A9 (execs _ env9) Q9 NoE s₁))
  replace R : Room A9 39 := R
  replace F : Frm env9 s.heap s₁.heap _ := F
  have Fl : Lf env9 s.heap (Str.ofString "tree") _ := ⟨rfl, rfl, rfl, F.above, (hfr (Str.ofString "tree") _ rfl).1, (hfr (Str.ofString "tree") _ rfl).2⟩
  have P0 : LP env9 s.heap [(Str.ofString "script", .raw vscript)] s₁ s₁ _ := ⟨.refl _, ⟨F.ns, F.cell, fun x e q => by cases List.mem_singleton.mp (memLookup q); exact ⟨_, rfl, rfl⟩⟩, F.keep⟩
  have hfl : ∀ (ds : List PyData), (∀ d ∈ ds, noL d = true) → ∀ d ∈ ds, noL (id d) = true := fun ds h => h
  -- the pool
  try (refine (let Q9 : _ → Shared → Prop := _; (?_ : wpAny _ _ _ Q9 _ _)))
  refine wpAny_execs_cons (wpAny_Assign_Name ?_ rfl)
  try (refine (let Q9 : _ → Shared → Prop := _; (?_ : wpAny _ _ _ Q9 _ _)))
  refine wmono (run_f (P0.frm Fl) (P0.envr rfl) (f_list (l_cons (EvF.d (f_cast (f_comp (p := fun _ => true) (f := id) (cl := []) (ds := (ns.take 16).map .int) R.2.2
      (src_cast (EvF.src (f_slice_to (b := 16) (d_raw rfl (P0.read Fl (r1.kp F.keep)) rfl rfl) d_int (by rw [List.length_map]; (first | lia | omega)))) (by rw [List.map_take])) (of_noLs ints_noL) (by rw [List.length_map, List.length_take]; (first | lia | omega)) (of_noLs ints_noL) rfl (fun _ _ h => by cases h) (by decide) rfl (by decide) rfl (fun _ _ _ => rfl) [] (fun _ h => by cases h)
      (fun C h₁ d hd hk => t_none) (fun C h₁ d hd _ hk => ?_)) filter_true)) (l_cons d_int l_nil)) (Nat.le_of_ble_eq_true rfl))) fun v s2 q => ?_
  · focus ((refine let G9 : Prop := _; (?_ : G9)); (obtain ⟨i, _, rfl⟩ := List.mem_map.mp hd); all_goals (unfold G9; clear G9))
    exact d_toint ((P0.gd Fl G).kp hk) (d_name rfl rfl rfl) (by k_is) rfl rfl rfl rfl
  focus ((refine let G9 : Prop := _; (?_ : G9)); (obtain ⟨G2, P, vs, n2, rfl, oP, rP, fP⟩ := q); all_goals (unfold G9; clear G9))
  have hpool := pool_of oP rP
  have P2 := P0.grew rfl G2
  try (refine (let Q9 : _ → Shared → Prop := _; (?_ : wpAny _ _ _ Q9 _ _)))
  refine P2.store Fl rfl (.inl rfl) fun s3 m3 P3 k3 => ?_
  have hPc : s.heap.get? P = none := by
    cases q : s.heap.get? P with
    | none => rfl
    | some o => rw [F.keep _ _ q] at fP; cases fP
  have hpool3 := hpool.at' (P2.seq Fl k3)
  have hn16 : (ns.take 16).length ≤ 1000 := by rw [List.length_take]; (first | lia | omega)
  generalize hns' : ns.take 16 = ns' at *
  clear k3 hpool rP
  -- the width, the words
  have P3' := (P3.less (ρ' := [(Str.ofString "pool", .raw (.ref P))]) (by repeat (first | exact less_nil | refine less_cons rfl ?_))).grew rfl (Grew.tok s3 (s3.toks + 1))
  try (refine (let Q9 : _ → Shared → Prop := _; (?_ : wpAny _ _ _ Q9 _ _)))
  refine wpAny_execs_cons (asg2 (hc := s.heap) (s₀ := s₁) (ρ := [(Str.ofString "pool", .raw (.ref P))]) R.2.2 Fl rfl (.inl rfl) (.inl rfl) rfl rfl ?_)
  try (refine (let Q9 : _ → Shared → Prop := _; (?_ : wpAny _ _ _ Q9 _ _)))
  refine wpAny_Tuple (wpAny_items_cons (wpAny_BinOp (wpAny_Constant_int (draw_call P3' Fl rfl G (R.less (by decide)) hpool3 (by decide) hPc rfl rfl d_int (by decide) hn16 rfl rfl rfl rfl rfl fun r t s4 h1 h2 P4 hpool4 k4 => ?_))) rfl)
  try (refine (let Q9 : _ → Shared → Prop := _; (?_ : wpAny _ _ _ Q9 _ _)))
  refine add_int ?_
  try (refine (let Q9 : _ → Shared → Prop := _; (?_ : wpAny _ _ _ Q9 _ _)))
  refine wpAny_items_cons (wpAny_Dict_empty ?_) rfl
  try (refine (let Q9 : _ → Shared → Prop := _; (?_ : wpAny _ _ _ Q9 _ _)))
  refine wpAny_items_nil ⟨by rw [sizeLine_eq]; exact Nat.le_of_ble_eq_true rfl, ?_⟩
  dsimp only
  obtain ⟨b, hb, hbr⟩ : ∃ b : Nat, Bits b ∧ (3 + r : Int) = b := by
    rcases (by (first | lia | omega) : r = 0 ∨ r = 1) with rfl | rfl
    · exact ⟨3, .inl rfl, rfl⟩
    · exact ⟨4, .inr rfl, rfl⟩
  rw [hbr]
  have hb4 := len_le hb
  have hW0 : (s4.heap.objs.size == sysModules) = false := beq_eq_false_iff_ne.mpr (Nat.ne_of_gt (modules_low (P4.gd' G).T.nolimit))
  have hwords := Words.new (prog := prog) (w := w) (h := s4.heap) (b := b) hW0
  generalize hH : s4.heap.push { cls := .type "dict", data := .dict #[] } = H at *
  have kH : Kp s4.heap H := by rw [← hH]; exact .push _ _
  have hWf : s4.heap.get? s4.heap.objs.size = none := not_size
  have hWc : s.heap.get? s4.heap.objs.size = none := by
    cases q : s.heap.get? s4.heap.objs.size with
    | none => rfl
    | some o => rw [P4.kp _ _ q] at hWf; cases hWf
  have hWL : s4.heap.objs.size ≠ L := fun e => by
    focus ((refine let G9 : Prop := _; (?_ : G9)); (obtain ⟨ml, ⟨o, _, _, eo, _⟩, _⟩ := P4.pt.ns); all_goals (unfold G9; clear G9))
    rw [e] at hWf
    have eo : s4.heap.get? L = some o := eo
    rw [hWf] at eo
    cases eo
  have hWC : s4.heap.objs.size ≠ L + 1 := fun e => by
    focus ((refine let G9 : Prop := _; (?_ : G9)); (obtain ⟨o, eo, _⟩ := P4.pt.cell _ _ Fl.at'); all_goals (unfold G9; clear G9))
    rw [← e, hWf] at eo
    cases eo
  generalize s4.heap.objs.size = W at *
  generalize hH2 : H.push { cls := .type "tuple", data := .seq (List.toArray [.int (b : Int) s4.toks, .ref W]) } = H2 at *
  have kH2 : Kp H H2 := by rw [← hH2]; exact .push _ _
  have P5 : LP _ s.heap _ s₁ { s4 with heap := H2, toks := s4.toks + 1 } _ := P4.grew rfl (.mk' (kH.trans kH2))
  have hpool5 : PoolAt H2 P ns' 1 := hpool4.at' fun a o e _ => (kH.trans kH2) a o e
  have hwords5 : Words prog w H2 W b 0 [] := hwords.keep (fun o e => kH2 _ _ e) kH2.kt
  refine ⟨_, .int (b : Int) s4.toks, .ref W, 0, _, rfl, by rw [← hH2]; exact Heap.get?_push_size _ rfl, P5, fun s6 m6 P6 k6 => ?_⟩
  have hpool6 := hpool5.at' (P5.seq Fl k6)
  have hwords6 := hwords5.step P5 Fl hWL hWC k6
  replace P6 := P6.less (ρ' := (rho1 b s4.toks W P)) (by repeat (first | exact less_nil | refine less_cons rfl ?_))
  clear k6 hpool5 hwords5 P5 kH2 hH2 kH hH P4 hpool4 k4 P3' hpool3 P3 P2 P0
  generalize s4.toks = tb at *
  clear hwords hbr h1 h2 hW0 hWf
  have hPex : ∃ vs n, s6.heap.get? P = some (listOf (List.toArray vs) n) := by
    focus ((refine let G9 : Prop := _; (?_ : G9)); (obtain ⟨I, n, vs, nI, tt, e, _⟩ := hpool6); all_goals (unfold G9; clear G9))
    exact ⟨_, _, e⟩
  have hWP : W ≠ P := by
    focus ((refine let G9 : Prop := _; (?_ : G9)); (obtain ⟨vs, n, e⟩ := hPex); all_goals (unfold G9; clear G9))
    exact hwords6.ne e
  -- the draws
  try (refine (let Q9 : _ → Shared → Prop := _; (?_ : wpAny _ _ _ Q9 _ _)))
  refine wpAny_execs_cons (for_range (a := 0) (n := 5) R.2.2 Fl rfl P6 (go_range1 (P6.frm Fl) (P6.envr rfl) (P6.gd Fl G) d_int (by decide) rfl rfl rfl rfl rfl rfl) (fun a => a = P ∨ a = W) ?_
    (DrawI prog w env9 s.heap s₁ ns' b tb W P) (fun s' G' => ⟨m6, [], P6.grew rfl G', hpool6.at' fun a o e _ => G'.kp a o e, hwords6.keep (fun o e => G'.kp _ _ e) G'.kp.kt⟩)
    (fun i sA sB hA M => ?_) (fun i t sA hi hA => ?_) (fun s7 hA => ?_) (fun _ => rfl) (fun _ _ => rfl))
  · intro a h9
    rcases h9 with h9 | h9 <;> rw [h9]
    · focus ((refine let G9 : Prop := _; (?_ : G9)); (obtain ⟨vs, n, e⟩ := hPex); all_goals (unfold G9; clear G9))
      exact ⟨_, e⟩
    · focus ((refine let G9 : Prop := _; (?_ : G9)); (obtain ⟨_, ⟨o, _, _, e, _⟩, _⟩ := hwords6); all_goals (unfold G9; clear G9))
      exact ⟨o, e⟩
  · focus ((refine let G9 : Prop := _; (?_ : G9)); (obtain ⟨m, xs, PA, poolA, wordsA⟩ := hA); all_goals (unfold G9; clear G9))
    exact ⟨m, xs, PA.moved Fl rfl P6.kp M, poolA.at' M.seq, wordsA.moved M⟩
  · focus ((refine let G9 : Prop := _; (?_ : G9)); (obtain ⟨mA, xs, PA, poolA, wordsA⟩ := hA); all_goals (unfold G9; clear G9))
    -- a list at P: draws keep the rest
    have lst : ∀ (s : Shared) {k : Nat}, PoolAt s.heap P ns' k → ∀ (s' : Shared), (∀ a o, a ≠ P → s.heap.get? a = some o → s'.heap.get? a = some o) → Kt s.heap s'.heap := fun s k hp s' kk a vs n e => kk a _ (by
      intro h9
      focus ((refine let G9 : Prop := _; (?_ : G9)); (obtain ⟨_, _, _, _, _, e', _⟩ := hp); all_goals (unfold G9; clear G9))
      rw [← h9, e] at e'
      simp at e') e
    try (refine (let Q9 : _ → Shared → Prop := _; (?_ : wpAny _ _ _ Q9 _ _)))
    refine PA.store Fl rfl (.inl rfl) fun sB mB PB kB => ?_
    have poolB := poolA.at' (PA.seq Fl kB)
    have wordsB := wordsA.step PA Fl hWL hWC kB
    try (refine (let Q9 : _ → Shared → Prop := _; (?_ : wpAny _ _ _ Q9 _ _)))
    refine wpAny_execs_cons (wpAny_Assign_Name (draw_call PB Fl rfl G (R.less (by decide)) poolB (by (first | lia | omega)) hPc rfl rfl (d_add (d_raw rfl (.int _ _) rfl rfl) d_int) (by (first | lia | omega)) hn16 rfl rfl rfl rfl rfl fun l tl sC h1 h2 PC poolC kC => ?_) rfl)
    have wordsC := wordsB.keep (fun o e => kC _ _ hWP e) (lst _ poolB _ kC)
    try (refine (let Q9 : _ → Shared → Prop := _; (?_ : wpAny _ _ _ Q9 _ _)))
    refine PC.store Fl rfl (.inl rfl) fun sD mD PD kD => ?_
    have poolD := poolC.at' (PC.seq Fl kD)
    have wordsD := wordsC.step PC Fl hWL hWC kD
    focus ((refine let G9 : Prop := _; (?_ : G9)); (obtain ⟨ln, rfl⟩ := Int.eq_ofNat_of_zero_le h1); all_goals (unfold G9; clear G9))
    have hln : ln ≤ b := by (first | lia | omega)
    have hln16 := pow4 (k := ln) (by (first | lia | omega))
    have e2 : (1 : Int) * 2 ^ (ln : Int).toNat = ((2 ^ ln : Nat) : Int) := by rw [Int.one_mul, powi (k := ln) rfl]
    try (refine (let Q9 : _ → Shared → Prop := _; (?_ : wpAny _ _ _ Q9 _ _)))
    refine wpAny_execs_cons (wpAny_Assign_Name (wpAny_BinOp (draw_call (many := ((2 ^ ln : Nat) : Int)) PD Fl rfl G (R.less (by decide)) poolD (by (first | lia | omega)) hPc rfl rfl (d_cast (d_shl d_int (d_raw rfl (.int _ _) rfl rfl) (by (first | lia | omega)) (by (first | lia | omega)) (by decide)) (congrArg PyData.int e2)) (by (first | lia | omega)) hn16 rfl rfl rfl rfl rfl fun x tx sE h3 h4 PE poolE kE => ?_)) rfl)
    have wordsE := wordsD.keep (fun o e => kE _ _ hWP e) (lst _ poolD _ kE)
    try (refine (let Q9 : _ → Shared → Prop := _; (?_ : wpAny _ _ _ Q9 _ _)))
    refine wmono (run_d (PE.frm Fl) (PE.envr rfl) (d_sub (d_raw rfl (.int _ _) rfl rfl) (d_raw rfl (.int _ _) rfl rfl))) fun v sF q9 => ?_
    have GF := q9.1
    have rF := q9.2
    focus ((refine let G9 : Prop := _; (?_ : G9)); (obtain ⟨tF, rfl⟩ := rF.int_inv); all_goals (unfold G9; clear G9))
    try (refine (let Q9 : _ → Shared → Prop := _; (?_ : wpAny _ _ _ Q9 _ _)))
    refine lshift_int_small (by (first | lia | omega)) (by (first | lia | omega)) (by (first | lia | omega)) ?_
    obtain ⟨p, hp, ha⟩ := path_of (b := b) (l := ln) (x := x) hb hln h3 (by rw [← powc]; exact h4)
    have ha' : x * 2 ^ ((b : Int) - (ln : Int)).toNat = (adr b p : Int) := by rw [ha, show ((b : Int) - (ln : Int)).toNat = b - ln by (first | lia | omega)]
    rw [ha']
    have PF := PE.grew rfl (GF.trans (Grew.tok sF (sF.toks + 1)))
    have poolF := poolE.at' fun a o e _ => GF.kp a o e
    have wordsF := wordsE.keep (fun o e => GF.kp _ _ e) GF.kp.kt
    try (refine (let Q9 : _ → Shared → Prop := _; (?_ : wpAny _ _ _ Q9 _ _)))
    refine PF.store Fl rfl (.inl rfl) fun sG mG PG kG => ?_
    have poolG := poolF.at' (PF.seq Fl kG)
    have wordsG := Words.step (s := { sF with toks := sF.toks + 1 }) wordsF PF Fl hWL hWC kG
    try (refine (let Q9 : _ → Shared → Prop := _; (?_ : wpAny _ _ _ Q9 _ _)))
    refine wpAny_execs_cons (wpAny_Assign_Subscript (wpAny_BinOp (wpAny_BinOp (wmono (run_d (PG.frm Fl) (PG.envr rfl) (d_add d_int (d_raw rfl (.int _ _) rfl rfl))) fun v sH q9 => ?_))))
    have GH := q9.1
    have rH := q9.2
    focus ((refine let G9 : Prop := _; (?_ : G9)); (obtain ⟨tH, rfl⟩ := rH.int_inv); all_goals (unfold G9; clear G9))
    have PH := PG.grew rfl GH
    have poolH := poolG.at' fun a o e _ => GH.kp a o e
    have wordsH := wordsG.keep (fun o e => GH.kp _ _ e) GH.kp.kt
    try (refine (let Q9 : _ → Shared → Prop := _; (?_ : wpAny _ _ _ Q9 _ _)))
    refine draw_call PH Fl rfl G (R.less (by decide)) poolH (by (first | lia | omega)) hPc rfl rfl d_int (by decide) hn16 rfl rfl rfl rfl rfl fun z tz sI h5 h6 PI poolI kI => ?_
    have wordsI := wordsH.keep (fun o e => kI _ _ hWP e) (lst _ poolH _ kI)
    try (refine (let Q9 : _ → Shared → Prop := _; (?_ : wpAny _ _ _ Q9 _ _)))
    refine add_int (wpAny_Constant_int (mod_int' (by decide) ?_))
    focus ((refine let G9 : Prop := _; (?_ : G9)); (obtain ⟨u, hu⟩ := mod2 (1 + (0 + (i : Int)) + z)); all_goals (unfold G9; clear G9))
    rw [hu]
    try (refine (let Q9 : _ → Shared → Prop := _; (?_ : wpAny _ _ _ Q9 _ _)))
    refine tok_any (s := sI) fun sJ GJ => ?_
    have PJ := PI.grew rfl GJ
    have poolJ := poolI.at' fun a o e _ => GJ.kp a o e
    have wordsJ := wordsI.keep (fun o e => GJ.kp _ _ e) GJ.kp.kt
    try (refine (let Q9 : _ → Shared → Prop := _; (?_ : wpAny _ _ _ Q9 _ _)))
    refine PJ.name Fl rfl rfl ?_
    try (refine (let Q9 : _ → Shared → Prop := _; (?_ : wpAny _ _ _ Q9 _ _)))
    refine wmono (run_d (PJ.frm Fl) (PJ.envr rfl) (d_tuple (l_cons (d_raw rfl (.int _ _) rfl rfl) (l_cons (d_raw rfl (.int _ _) rfl rfl) l_nil)) (Nat.le_of_ble_eq_true rfl))) fun v sK q9 => ?_
    have GK := q9.1
    have rK := q9.2
    have PK := PJ.grew rfl GK
    have poolK := poolJ.at' fun a o e _ => GK.kp a o e
    have wordsK := wordsJ.keep (fun o e => GK.kp _ _ e) GK.kp.kt
    focus ((refine let G9 : Prop := _; (?_ : G9)); (obtain ⟨ka, kvs, kn, rfl, _, _⟩ := rK.tup_inv); all_goals (unfold G9; clear G9))
    try (refine (let Q9 : _ → Shared → Prop := _; (?_ : wpAny _ _ _ Q9 _ _)))
    refine words_set (p := p) (u := u) R.units wordsK (by (first | lia | omega)) (by (first | lia | omega)) (by rw [← hp] at rK; exact rK) (.int _ _) fun h' tk' xs' hW' hsb => ?_
    have kL : ∀ a o, a ≠ W → sK.heap.get? a = some o → h'.get? a = some o := fun a o ha e => (hsb.2 a ha).trans e
    have hWKs := wordsK.notSeq
    refine wpAny_execs_nil ⟨rfl, ⟨_, xs', (PK.mut (s' := { sK with heap := h', toks := tk' }) rfl Fl ⟨h', tk', rfl⟩ (· = W) (fun a ha => by rw [ha]; exact ⟨hWc, hWL, hWC⟩) (fun a ha vs n e => by rw [ha] at e; exact hWKs _ _ _ e rfl) (fun a o ha e => kL a o ha e)).less (by repeat (first | exact less_nil | refine less_cons rfl ?_)), poolK.at' fun a o e ⟨ys, n, hd⟩ => kL a o (by rintro rfl; exact hWKs _ _ _ e hd) e, hW'⟩, fun a o hM hL hC e => ?_⟩
    have hP' : a ≠ P := fun h => hM (.inl h)
    have hW'' : a ≠ W := fun h => hM (.inr h)
    exact kL a o hW'' (GK.kp _ _ (GJ.kp _ _ (kI a o hP' (GH.kp _ _ (kG a o hL hC (GF.kp _ _ (kE a o hP' (kD a o hL hC (kC a o hP' (kB a o hL hC e))))))))))
  focus ((refine let G9 : Prop := _; (?_ : G9)); (obtain ⟨m7, xs, P7, -, words7⟩ := hA); all_goals (unfold G9; clear G9))
  clear hpool6 hwords6 P6 hPex
  have p16 := pow4 (k := b) hb4
  -- the tree, the lots, the table
  try (refine (let Q9 : _ → Shared → Prop := _; (?_ : wpAny _ _ _ Q9 _ _)))
  refine wpAny_execs_cons (Assign_Tuple (wpAny_Tuple (wpAny_items_cons (Call_ ?_ rfl) rfl)) rfl rfl)
  have G7 := P7.gd' G
  try (refine (let Q9 : _ → Shared → Prop := _; (?_ : wpAny _ _ _ Q9 _ _)))
  refine Name_function_global rfl rfl (loadGlobal_global G7.T.g (mg_of G7.K G7.T.g c_name) ?_) (by decide)
  try (refine (let Q9 : _ → Shared → Prop := _; (?_ : wpAny _ _ _ Q9 _ _)))
  refine callWith_K (h₀ := s.heap) G.K c_keep (wpAny_items_cons (P7.name Fl rfl rfl (wpAny_items_nil ⟨G7.K, ?_⟩)) rfl) rfl rfl
  try (refine (let Q9 : _ → Shared → Prop := _; (?_ : wpAny _ _ _ Q9 _ _)))
  refine wmono (fib_new (b := b) (R.less (by decide)) G7) fun v s8 q => ?_
  focus ((refine let G9 : Prop := _; (?_ : G9)); (obtain ⟨X, Xd, rfl, G8, T8, fX, fXd⟩ := q); all_goals (unfold G9; clear G9))
  have P8 := P7.grew rfl G8
  try (refine (let Q9 : _ → Shared → Prop := _; (?_ : wpAny _ _ _ Q9 _ _)))
  refine wpAny_items_cons (wmono (run_f (P8.frm Fl) (P8.envr rfl) (f_list (l_cons (EvF.d (f_list (l_cons (d_tuple (l_cons d_int (l_cons d_int l_nil)) (Nat.le_of_ble_eq_true rfl)) l_nil) (Nat.le_of_ble_eq_true rfl))) (l_cons (EvF.d (f_list l_nil (Nat.zero_le _))) l_nil)) (Nat.le_of_ble_eq_true rfl))) fun v s9 q => ?_) rfl
  focus ((refine let G9 : Prop := _; (?_ : G9)); (obtain ⟨G9, O, vsO, nO, rfl, eO, rO, fO⟩ := q); all_goals (unfold G9; clear G9))
  have P9 := P8.grew rfl G9
  try (refine (let Q9 : _ → Shared → Prop := _; (?_ : wpAny _ _ _ Q9 _ _)))
  refine wpAny_items_cons (wmono (run_f (P9.frm Fl) (P9.envr rfl) (f_many (k := 2 ^ b) (EvF.d (f_list (l_cons d_int l_nil) (Nat.le_of_ble_eq_true rfl))) (d_cast (d_shl d_int (d_raw rfl (.int _ _) rfl rfl) (by (first | lia | omega)) (by (first | lia | omega)) (by decide)) (by rw [powi (k := b) (by (first | lia | omega)), Int.one_mul])) (by (first | lia | omega)))) fun v s10 q => ?_) rfl
  focus ((refine let G9 : Prop := _; (?_ : G9)); (obtain ⟨G10, D, vsD, nD, rfl, eD, rD, fD⟩ := q); all_goals (unfold G9; clear G9))
  have P10 := P9.grew rfl G10
  try (refine (let Q9 : _ → Shared → Prop := _; (?_ : wpAny _ _ _ Q9 _ _)))
  refine wpAny_items_cons (wpAny_Constant_int ?_) rfl
  try (refine (let Q9 : _ → Shared → Prop := _; (?_ : wpAny _ _ _ Q9 _ _)))
  refine wpAny_items_nil ⟨by rw [sizeLine_eq]; exact Nat.le_of_ble_eq_true rfl, ?_⟩
  dsimp only
  have lots9 : LotsG s9.heap O D b (lb b (fun _ => false) false) (lb b (fun _ => false) true) := by
    cases rO with
    | cons ra rO =>
      cases rO with
      | cons rb rO =>
        cases rO
        focus ((refine let G9 : Prop := _; (?_ : G9)); (obtain ⟨A0, us, k0, rfl, e0, ra⟩ := ra.list_inv); all_goals (unfold G9; clear G9))
        focus ((refine let G9 : Prop := _; (?_ : G9)); (obtain ⟨A1, us1, k1, rfl, e1, rb⟩ := rb.list_inv); all_goals (unfold G9; clear G9))
        refine ⟨A0, A1, nO, us, k0, us1, k1, eO, e0, ?_, e1, ?_, ⟨?_, ?_⟩, ?_, ?_⟩
        · rw [lb_all0.1]
          simpa [encL, encD, adr, bv] using ra
        · rw [lb_all0.2]
          exact rb
        · intro h9
          rw [h9, eO] at e0
          simp at e0
          have := ra.length
          rw [← e0.1] at this
          simp at this
        · intro h9
          rw [h9, eO] at e1
          simp at e1
          have := rb.length
          rw [← e1.1] at this
          simp at this
        · intro h9
          rw [h9, fD] at e0
          cases e0
        · intro h9
          rw [h9, fD] at e1
          cases e1
  have due10 : DueP s10.heap D (DL b fun _ => false) := ⟨vsD, nD, eD, by rw [← DL_zero]; exact rD⟩
  have hWXd : W ≠ Xd := by
    intro h9
    focus ((refine let G9 : Prop := _; (?_ : G9)); (obtain ⟨_, ⟨o, _, _, e, _⟩, _⟩ := words7); all_goals (unfold G9; clear G9))
    rw [h9, fXd] at e
    cases e
  have hXn := (P7.new Fl fX)
  have hXdn := (P7.new Fl fXd)
  have hOn := (P8.new Fl fO)
  have hDn := (P9.new Fl fD)
  have hDO : D ≠ O := by intro h9; rw [← h9, fD] at eO; cases eO
  have G8_10 : Grew s8 s10 := G9.trans G10
  try (refine (let Q9 : _ → Shared → Prop := _; (?_ : wpAny _ _ _ Q9 _ _)))
  refine assign_Tuple_tuple (items := List.toArray [.ref X, .ref O, .ref D, .int 1 s10.toks]) R.2.2 ⟨_, Heap.get?_push_size _ rfl, rfl, 0, rfl⟩ rfl rfl fun h' he => ?_
  have G11 : Grew s10 { s10 with heap := h', toks := s10.toks + 1 } := .mk' ((Kp.push _ _).trans (extBut_kp he))
  have P11 := P10.grew rfl G11
  show wpAny _ _ (assignInOrder [_, _, _, _] [.ref X, .ref O, .ref D, .int 1 s10.toks]) _ _ _
  try (refine (let Q9 : _ → Shared → Prop := _; (?_ : wpAny _ _ _ Q9 _ _)))
  refine assignInOrder_cons (wpAny_assign_Name (P11.store Fl rfl (.inr rfl) fun s12 m12 P12 k12 => ?_))
  try (refine (let Q9 : _ → Shared → Prop := _; (?_ : wpAny _ _ _ Q9 _ _)))
  refine assignInOrder_cons (wpAny_assign_Name (P12.store Fl rfl (.inl rfl) fun s13 m13 P13 k13 => ?_))
  try (refine (let Q9 : _ → Shared → Prop := _; (?_ : wpAny _ _ _ Q9 _ _)))
  refine assignInOrder_cons (wpAny_assign_Name (P13.store Fl rfl (.inl rfl) fun s14 m14 P14 k14 => ?_))
  try (refine (let Q9 : _ → Shared → Prop := _; (?_ : wpAny _ _ _ Q9 _ _)))
  refine assignInOrder_cons (wpAny_assign_Name (P14.store Fl rfl (.inl rfl) fun s15 m15 P15 k15 => assignInOrder_nil ?_))
  have kAll : Kb _ _ s10.heap s15.heap := G11.kp.kb.trans (k12.trans (k13.trans (k14.trans k15)))
  have T15 := (T8.kp G8_10.kp).step P10 Fl hXn.1 hXdn.1 kAll
  have lots15 := (lots9.at' fun a o e _ => G10.kp a o e).at' (P10.seq Fl kAll)
  have due15 := due10.at' (P10.seq Fl kAll)
  have words15 := (words7.keep (fun o e => (G8.trans G8_10).kp _ _ e) (G8.trans G8_10).kp.kt).step P10 Fl hWL hWC kAll
  replace P15 := P15.less (ρ' := (rho2 X O D 1 s10.toks b tb W)) (by repeat (first | exact less_nil | refine less_cons rfl ?_))
  clear kAll k12 k13 k14 k15 P14 P13 P12 P11 G11 he due10 lots9 G8_10 words7 eD rD eO rO G10 G9 P10 P9 P8 G8 T8 P7 G7
  focus ((refine let G9 : Prop := _; (?_ : G9)); (obtain ⟨ks, hks⟩ := words15.ordered hb); all_goals (unfold G9; clear G9))
  have hk5 : ks.length ≤ 5 := by rw [hks.few]; exact words15.2.2.1
  generalize s10.toks = tm0 at *
  -- the main loop
  try (refine (let Q9 : _ → Shared → Prop := _; (?_ : wpAny _ _ _ Q9 _ _)))
  refine wpAny_execs_cons (for_tuples (ds := (ks.map (kp b)).map prD) R.2.2 Fl rfl P15 (bi_raw (P15.gd' G) (by k_is) boot_sorted ⟨_, rfl⟩ (by decide) rfl rfl rfl rfl (by decide) rfl rfl (P15.name Fl rfl rfl (sorted_words R.2.2 words15 (by decide) hks))) (fun a => a = Xd ∨ a = O ∨ a = D) ?_
    (MainI prog w env9 s.heap s₁ X Xd O D b tb W xs ks)
    (fun vs sA GA hvs => ⟨m15, .nil, _, 1, _, P15.grew rfl GA, T15.kp GA.kp, lots15.at' fun a o e _ => GA.kp a o e, due15.at' fun a o e _ => GA.kp a o e, words15.keep (fun o e => GA.kp _ _ e) GA.kp.kt, hvs, good_zero⟩)
    (fun vs i sA sB hA M => ?_) (fun vs i v sA hv hA => ?_) (fun vs i v sA hv hA => ?_) (fun vs sE hA => ?_) (fun _ => rfl))
  · intro a h9
    rcases h9 with h9 | h9 | h9 <;> rw [h9]
    · focus ((refine let G9 : Prop := _; (?_ : G9)); (obtain ⟨_, _, _, _, _, e, _⟩ := T15.dict); all_goals (unfold G9; clear G9))
      exact ⟨_, e⟩
    · focus ((refine let G9 : Prop := _; (?_ : G9)); (obtain ⟨us, n, e⟩ := lots15.obj); all_goals (unfold G9; clear G9))
      exact ⟨_, e⟩
    · focus ((refine let G9 : Prop := _; (?_ : G9)); (obtain ⟨us, n, e, _⟩ := due15); all_goals (unfold G9; clear G9))
      exact ⟨_, e⟩
  · focus ((refine let G9 : Prop := _; (?_ : G9)); (obtain ⟨m, T, d, mo, tm, PA, TA, lotsA, dueA, wordsA, hvs, g⟩ := hA); all_goals (unfold G9; clear G9))
    exact ⟨m, T, d, mo, tm, PA.moved Fl rfl P15.kp M, TA.moved M, lotsA.at' M.seq, dueA.at' M.seq, wordsA.moved M, hvs.mono fun a o us n e hd => M.seq a o e ⟨_, _, hd⟩, g⟩
  · focus ((refine let G9 : Prop := _; (?_ : G9)); (obtain ⟨m, T, d, mo, tm, PA, TA, lotsA, dueA, wordsA, hvs, g⟩ := hA); all_goals (unfold G9; clear G9))
    focus ((refine let G9 : Prop := _; (?_ : G9)); (obtain ⟨p, _, r⟩ := item_at hvs hv); all_goals (unfold G9; clear G9))
    focus ((refine let G9 : Prop := _; (?_ : G9)); (obtain ⟨a, _, _, _, rfl, _⟩ := pr_inv r); all_goals (unfold G9; clear G9))
    exact ⟨a, rfl⟩
  · focus ((refine let G9 : Prop := _; (?_ : G9)); (obtain ⟨m, T, d, mo, tm, PA, TA, lotsA, dueA, wordsA, hvs, g⟩ := hA); all_goals (unfold G9; clear G9))
    focus ((refine let G9 : Prop := _; (?_ : G9)); (obtain ⟨p, hpk, rv⟩ := item_at hvs hv); all_goals (unfold G9; clear G9))
    have hpm : p ∈ ks := List.mem_of_getElem? hpk
    have hpb := hks.le p hpm
    have hik : i < ks.length := (List.getElem?_eq_some_iff.mp hpk).1
    focus ((refine let G9 : Prop := _; (?_ : G9)); (obtain ⟨u, hu⟩ := hks.has p hpm); all_goals (unfold G9; clear G9))
    rw [drop_at hpk] at g
    have gstep := good_step (u := u) hpb g (later hpk hks.up)
    have ha16 := adr_small hb hpb
    focus ((refine let G9 : Prop := _; (?_ : G9)); (obtain ⟨va, tl, ta, nv, rfl, eva⟩ := pr_inv rv); all_goals (unfold G9; clear G9))
    try (refine (let Q9 : _ → Shared → Prop := _; (?_ : wpAny _ _ _ Q9 _ _)))
    refine assign_Tuple_tuple (items := List.toArray [_, _]) R.2.2 ⟨_, eva, rfl, nv, rfl⟩ rfl rfl fun h' he => ?_
    have GB : Grew sA { sA with heap := h' } := .mk'' (extBut_kp he)
    have PB := PA.grew rfl GB
    show wpAny _ _ (assignInOrder [_, _] [.int (p.length : Int) tl, .int (adr b p : Int) ta]) _ _ _
    try (refine (let Q9 : _ → Shared → Prop := _; (?_ : wpAny _ _ _ Q9 _ _)))
    refine assignInOrder_cons (wpAny_assign_Name (PB.store Fl rfl (.inl rfl) fun sC mC PC kC => ?_))
    try (refine (let Q9 : _ → Shared → Prop := _; (?_ : wpAny _ _ _ Q9 _ _)))
    refine assignInOrder_cons (wpAny_assign_Name (PC.store Fl rfl (.inl rfl) fun sD mD PD kD => assignInOrder_nil ?_))
    have kBD := kC.trans kD
    have TD := (TA.kp GB.kp).step PB Fl hXn.1 hXdn.1 kBD
    have lotsD := (lotsA.at' fun a o e _ => GB.kp a o e).at' (PB.seq Fl kBD)
    have dueD := (dueA.at' fun a o e _ => GB.kp a o e).at' (PB.seq Fl kBD)
    have wordsD := Words.step (s := { sA with heap := h' }) (wordsA.keep (fun o e => GB.kp _ _ e) GB.kp.kt) PB Fl hWL hWC kBD
    have hvsD : HA sD.heap vs ((ks.map (kp b)).map prD) := (hvs.kp GB.kp).mono fun a o us n e hd => PB.seq Fl kBD a o e ⟨_, _, hd⟩
    have keepD : ∀ a o, a ≠ L → a ≠ L + 1 → sA.heap.get? a = some o → sD.heap.get? a = some o := fun a o h1 h2 e => kBD a o h1 h2 (GB.kp a o e)
    -- prefix and word
    try (refine (let Q9 : _ → Shared → Prop := _; (?_ : wpAny _ _ _ Q9 _ _)))
    refine wpAny_execs_cons (asg2 (hc := s.heap) (s₀ := s₁) (ρ := ((Str.ofString "address", .raw (.int (adr b p : Int) ta)) :: (Str.ofString "length", .raw (.int (p.length : Int) tl)) :: rho2 X O D (mo : Int) tm b tb W)) R.2.2 Fl rfl (.inl rfl) (.inl rfl) rfl rfl ?_)
    try (refine (let Q9 : _ → Shared → Prop := _; (?_ : wpAny _ _ _ Q9 _ _)))
    refine wpAny_Tuple (wpAny_items_cons (wmono (run_d (PD.frm Fl) (PD.envr rfl) (d_tuple (l_cons (d_raw rfl (.int _ _) rfl rfl) (l_cons (d_raw rfl (.int _ _) rfl rfl) l_nil)) (Nat.le_of_ble_eq_true rfl))) fun vp sE q9 => ?_) rfl)
    have GE := q9.1
    have rp := q9.2
    have PE := PD.grew rfl GE
    have wordsE := wordsD.keep (fun o e => GE.kp _ _ e) GE.kp.kt
    try (refine (let Q9 : _ → Shared → Prop := _; (?_ : wpAny _ _ _ Q9 _ _)))
    refine wpAny_items_cons (Subscript_ (PE.name Fl rfl rfl (wmono (run_d (PE.frm Fl) (PE.envr rfl) (d_tuple (l_cons (d_raw rfl (.int _ _) rfl rfl) (l_cons (d_raw rfl (.int _ _) rfl rfl) l_nil)) (Nat.le_of_ble_eq_true rfl))) fun vk sF q9 => ?_))) rfl
    have GF := q9.1
    have rk := q9.2
    have PF := PE.grew rfl GF
    have wordsF := wordsE.keep (fun o e => GF.kp _ _ e) GF.kp.kt
    focus ((refine let G9 : Prop := _; (?_ : G9)); (obtain ⟨ka, _, _, rfl, _, _⟩ := rk.tup_inv); all_goals (unfold G9; clear G9))
    try (refine (let Q9 : _ → Shared → Prop := _; (?_ : wpAny _ _ _ Q9 _ _)))
    refine tail_any wordsF.2.1.typeIs slot_dict_getitem.lookup (word_get R.units wordsF rk hu.any fun vw tkw rw0 => ?_) rfl
    focus ((refine let G9 : Prop := _; (?_ : G9)); (obtain ⟨tw, rfl⟩ := rw0.int_inv); all_goals (unfold G9; clear G9))
    try (refine (let Q9 : _ → Shared → Prop := _; (?_ : wpAny _ _ _ Q9 _ _)))
    refine wpAny_items_nil ⟨by rw [sizeLine_eq]; exact Nat.le_of_ble_eq_true rfl, ?_⟩
    have GP : Grew sD { sF with heap := sF.heap.push (tupO [vp, .int (u.toNat : Int) tw] 0), toks := tkw } := (GE.trans GF).trans (.mk' (.push _ _))
    have PP := PD.grew rfl GP
    refine ⟨_, vp, .int (u.toNat : Int) tw, 0, mD, rfl, Heap.get?_push_size _ rfl, PP, fun sG mG PG kG => ?_⟩
    have TG := (TD.kp GP.kp).step PP Fl hXn.1 hXdn.1 kG
    have lotsG := (lotsD.at' fun a o e _ => GP.kp a o e).at' (PP.seq Fl kG)
    have dueG := (dueD.at' fun a o e _ => GP.kp a o e).at' (PP.seq Fl kG)
    have wordsG := Words.step (s := { sF with heap := sF.heap.push (tupO [vp, .int (u.toNat : Int) tw] 0), toks := tkw }) (wordsD.keep (fun o e => GP.kp _ _ e) GP.kp.kt) PP Fl hWL hWC kG
    have hvsG : HA sG.heap vs ((ks.map (kp b)).map prD) := (hvsD.kp GP.kp).mono fun a o us n e hd => PP.seq Fl kG a o e ⟨_, _, hd⟩
    have rpG : HR sG.heap vp (encD b p) := (rp.kp ((GF.trans (.mk' (tk := tkw) (.push sF.heap (tupO [vp, .int (u.toNat : Int) tw] 0)))).kp)).monoT (PP.kt Fl kG) rfl
    have keepG : ∀ a o, a ≠ L → a ≠ L + 1 → sA.heap.get? a = some o → sG.heap.get? a = some o := fun a o h1 h2 e => kG a o h1 h2 (GP.kp _ _ (keepD a o h1 h2 e))
    clear wordsF wordsE PE PF PD PC PB GE GF GP PP kG kD kC kBD TD lotsD dueD wordsD hvsD keepD rp rk rw0 GB he TA lotsA dueA wordsA hvs PA
    -- the route put
    try (refine (let Q9 : _ → Shared → Prop := _; (?_ : wpAny _ _ _ Q9 _ _)))
    refine wpAny_execs_cons (put_stmt PG Fl rfl G (R.less (by have := g.dep; (first | lia | omega))) hb hpb g.ok TG hXdn rfl rfl rfl rfl rfl rpG (.int _ _) (fun sH PH TH kH => ?_) rfl rfl rfl rfl rfl)
    have xdne : ∀ a o, sG.heap.get? a = some o → (∃ xs n, o.data = .seq xs n) → sH.heap.get? a = some o := fun a o e ⟨xs, n, hd⟩ => kH a o (by
      intro h9
      focus ((refine let G9 : Prop := _; (?_ : G9)); (obtain ⟨_, _, _, _, _, e', _⟩ := TG.dict); all_goals (unfold G9; clear G9))
      rw [← h9, e] at e'
      cases e'
      cases hd) e
    have ktH : Kt sG.heap sH.heap := fun a us n e => xdne a _ e ⟨_, _, rfl⟩
    have lotsH := lotsG.at' xdne
    have dueH := dueG.at' xdne
    have wordsH := wordsG.keep (fun o e => kH _ _ hWXd e) ktH
    have hvsH : HA sH.heap vs ((ks.map (kp b)).map prD) := hvsG.mono fun a o us n e hd => xdne a o e ⟨_, _, hd⟩
    have rpH := rpG.monoT ktH rfl
    -- the lots
    have hle : ∀ v : Bool, ∀ q ∈ lb b d v, q.length ≤ b := fun v => lb_le
    have hl16 : ∀ v : Bool, (lb b d v).length ≤ 16 := fun v => Nat.le_trans lb_len p16.2
    have hDex : ∀ s : Shared, ∀ ds, DueP s.heap D ds → ∃ o, s.heap.get? D = some o := fun s ds ⟨_, _, e, _⟩ => ⟨_, e⟩
    try (refine (let Q9 : _ → Shared → Prop := _; (?_ : wpAny _ _ _ Q9 _ _)))
    refine wpAny_execs_cons (lot_set (u := u) (Ln := lb b (setD d p u) u) PH Fl rfl rfl rfl lotsH hOn.2 (hDex _ _ dueH)
      (f_cast (f_call (PH.gd Fl G) R (by decide) (fn_aggregated (X := lb b d u ++ [p]) hb (fun q hq => by
          rcases List.mem_append.mp hq with hq | hq
          · exact hle u q hq
          · rw [List.mem_singleton.mp hq]; exact hpb) (by have := hl16 u; rw [List.length_append]; simp; (first | lia | omega)))
        (l_cons (d_cast (EvF.d (f_cat (ds := encL b (lb b d u)) (d_sub_list (d_raw rfl (PH.read Fl lotsH.read) rfl rfl) (d_raw rfl (.int _ _) rfl rfl) (by (first | lia | omega)) (by cases u <;> decide) (by cases u <;> rfl)) (EvF.d (f_list (l_cons (d_raw rfl (PH.read Fl rpH) rfl rfl) l_nil) (Nat.le_of_ble_eq_true rfl))) (by rw [encL_length]; have := hl16 u; simp; (first | lia | omega)))) (by rw [encL_append]; rfl)) (l_cons (d_raw rfl (.int _ _) rfl rfl) l_nil)) (by k_is) (by k_is) rfl rfl rfl) (by rw [canon_put hpb]))
      (fun s' P' => d_raw rfl (.int _ _) rfl rfl) (fun sI PI lotsI kI => ?_) rfl)
    focus ((refine let G9 : Prop := _; (?_ : G9)); (obtain ⟨usO, nO', eO'⟩ := lotsH.obj); all_goals (unfold G9; clear G9))
    have ktI : Kt sH.heap sI.heap := fun a us n e => kI a _ (fun h9 => not_tup eO' _ _ (h9 ▸ e)) e
    have TI := TH.kt ktI (fun o e => kI _ o (TH.ne eO').1 e) (fun o e => kI _ o (TH.ne eO').2 e)
    have dueI := dueH.kt DL_noLs (fun o e => kI _ o hDO e) ktI
    have wordsI := wordsH.keep (fun o e => kI _ o (wordsH.ne eO') e) ktI
    have hvsI := hvsH.monoT ktI noLs_pr
    have rpI := rpH.monoT ktI rfl
    have lotsI' : LotsG sI.heap O D b (if u then lb b d (!u) else lb b (setD d p u) u) (if u then lb b (setD d p u) u else lb b d (!u)) := by cases u <;> exact lotsI
    try (refine (let Q9 : _ → Shared → Prop := _; (?_ : wpAny _ _ _ Q9 _ _)))
    refine wpAny_execs_cons (lot_set (u := !u) (Ln := lb b (setD d p u) (!u)) PI Fl rfl rfl rfl lotsI' hOn.2 (hDex _ _ dueI)
      (f_cast (f_call (PI.gd Fl G) R (by decide) (fn_law_without (Z := lb b d (!u)) hb (hle (!u)) hpb (by have := hl16 (!u); (first | lia | omega)))
        (l_cons (d_sub_list (d_raw rfl (PI.read Fl lotsI'.read) rfl rfl) (d_sub d_int (d_raw rfl (.int _ _) rfl rfl)) (by cases u <;> decide) (by cases u <;> decide) (by cases u <;> rfl)) (l_cons (d_raw rfl (PI.read Fl rpI) rfl rfl) (l_cons (d_raw rfl (.int _ _) rfl rfl) l_nil))) (by k_is) (by k_is) rfl rfl rfl) (by rw [wo_put hpb, Bool.not_not]))
      (fun s' P' => d_cast (d_sub d_int (d_raw rfl (.int _ _) rfl rfl)) (by cases u <;> rfl)) (fun sJ PJ lotsJ kJ => ?_) rfl)
    focus ((refine let G9 : Prop := _; (?_ : G9)); (obtain ⟨usO2, nO2, eO2⟩ := lotsI.obj); all_goals (unfold G9; clear G9))
    have ktJ : Kt sI.heap sJ.heap := fun a us n e => kJ a _ (fun h9 => not_tup eO2 _ _ (h9 ▸ e)) e
    have TJ := TI.kt ktJ (fun o e => kJ _ o (TI.ne eO2).1 e) (fun o e => kJ _ o (TI.ne eO2).2 e)
    have dueJ := dueI.kt DL_noLs (fun o e => kJ _ o hDO e) ktJ
    have wordsJ := wordsI.keep (fun o e => kJ _ o (wordsI.ne eO2) e) ktJ
    have hvsJ := hvsI.monoT ktJ noLs_pr
    have rpJ := rpI.monoT ktJ rfl
    have lotsJ' : LotsG sJ.heap O D b (lb b (setD d p u) false) (lb b (setD d p u) true) := by cases u <;> exact lotsJ
    have keepJ : ∀ a o, a ≠ Xd → a ≠ O → a ≠ L → a ≠ L + 1 → sA.heap.get? a = some o → sJ.heap.get? a = some o := fun a o h1 h2 h3 h4 e => kJ a o h2 (kI a o h2 (kH a o h1 (keepG a o h3 h4 e)))
    clear lotsJ lotsI lotsI' ktI ktJ rpI rpH hvsI hvsH wordsI wordsH dueI dueH TI TH PI PH kI kJ kH keepG xdne ktH lotsH eO' eO2 TG lotsG dueG wordsG hvsG rpG PG
    -- the table
    have hsz := (DL_part hb (d := d) (π := p) (n := b - p.length) (by (first | lia | omega))).1
    have e2p : (1 : Int) * 2 ^ ((b : Int) - (p.length : Int)).toNat = ((2 ^ (b - p.length) : Nat) : Int) := by rw [Int.one_mul, powi (k := b - p.length) (by (first | lia | omega))]
    have hDL := DL_len (b := b) (d := d)
    try (refine (let Q9 : _ → Shared → Prop := _; (?_ : wpAny _ _ _ Q9 _ _)))
    refine wpAny_execs_cons (for_range (a := (adr b p : Int)) (n := 2 ^ (b - p.length)) R.2.2 Fl rfl PJ (go_range2 (PJ.frm Fl) (PJ.envr rfl) (PJ.gd Fl G) (d_raw rfl (.int _ _) rfl rfl) (d_add (d_raw rfl (.int _ _) rfl rfl) (d_cast (d_shl d_int (d_sub (d_raw rfl (.int _ _) rfl rfl) (d_raw rfl (.int _ _) rfl rfl)) (by (first | lia | omega)) (by (first | lia | omega)) (by decide)) (congrArg PyData.int e2p))) rfl (by (first | lia | omega)) (by (first | lia | omega)) rfl rfl rfl rfl rfl rfl rfl)
      (fun a => a = D) (fun a ha => by rw [ha]; exact hDex _ _ dueJ)
      (fun j s' => ∃ m, LP _ s.heap ((Str.ofString "prefix", .raw vp) :: (Str.ofString "word", .raw (.int (u.toNat : Int) tw)) :: (Str.ofString "address", .raw (.int (adr b p : Int) ta)) :: (Str.ofString "length", .raw (.int (p.length : Int) tl)) :: rho2 X O D (mo : Int) tm b tb W) s₁ s' m ∧
        DueP s'.heap D (fillD (DL b d) (adr b p) (.int u.toNat) j) ∧ ∀ a o, a ≠ D → a ≠ L → a ≠ L + 1 → sJ.heap.get? a = some o → s'.heap.get? a = some o)
      (fun s' G' => ⟨mG, PJ.grew rfl G', dueJ.at' fun a o e _ => G'.kp a o e, fun a o _ _ _ e => G'.kp a o e⟩) (fun j sK sM hK M => ?_) (fun j tj sK hj hK => ?_) (fun sN hN => ?_) (fun _ => rfl) (fun _ _ => rfl))
    · focus ((refine let G9 : Prop := _; (?_ : G9)); (obtain ⟨m', PK, dueK, kK⟩ := hK); all_goals (unfold G9; clear G9))
      exact ⟨m', PK.moved Fl rfl PJ.kp M, dueK.at' M.seq, fun a o h1 h2 h3 e => M.old a o o e (kK a o h1 h2 h3 e)⟩
    · focus ((refine let G9 : Prop := _; (?_ : G9)); (obtain ⟨m', PK, dueK, kK⟩ := hK); all_goals (unfold G9; clear G9))
      try (refine (let Q9 : _ → Shared → Prop := _; (?_ : wpAny _ _ _ Q9 _ _)))
      refine PK.store Fl rfl (.inl rfl) fun sM mM PM kM => ?_
      have dueM := dueK.at' (PK.seq Fl kM)
      have hfl : noLs (fillD (DL b d) (adr b p) (.int u.toNat) j) = true := by
        have : ∀ i, ∀ q ∈ fillD (DL b d) (adr b p) (.int u.toNat) i, noL q = true := by
          intro i
          induction i with
          | zero => exact DL_noL
          | succ i ih =>
            intro q hq
            rcases List.mem_or_eq_of_mem_set hq with h | h
            · exact ih q h
            · rw [h]; rfl
        exact noLs_of (this j)
      try (refine (let Q9 : _ → Shared → Prop := _; (?_ : wpAny _ _ _ Q9 _ _)))
      refine wpAny_execs_cons (due_set (k := adr b p + j) (d := .int u.toNat) PM Fl rfl rfl rfl dueM hfl rfl hDn.2 (by rw [fillD_len, hDL]; (first | lia | omega)) (by rw [fillD_len, hDL]; (first | lia | omega)) (d_raw rfl (.int _ _) rfl rfl) (fun s' P' => d_cast (d_raw rfl (.int _ _) rfl rfl) (by rw [Int.natCast_add])) (fun sR PR dueR kR => ?_) rfl)
      refine wpAny_execs_nil ⟨rfl, ⟨mM, PR.less (by repeat (first | exact less_nil | refine less_cons rfl ?_)), dueR, fun a o h1 h2 h3 e => kR a o h1 (kM a o h2 h3 (kK a o h1 h2 h3 e))⟩, fun a o h1 h2 h3 e => kR a o h1 (kM a o h2 h3 e)⟩
    focus ((refine let G9 : Prop := _; (?_ : G9)); (obtain ⟨mN, PN, dueN, kN⟩ := hN); all_goals (unfold G9; clear G9))
    rw [DL_fill hb hpb] at dueN
    focus ((refine let G9 : Prop := _; (?_ : G9)); (obtain ⟨usD, nD', eD', _⟩ := id dueJ); all_goals (unfold G9; clear G9))
    have seqN : ∀ a o, a ≠ D → sJ.heap.get? a = some o → (∃ xs n, o.data = .seq xs n) → sN.heap.get? a = some o := fun a o ha e hd => kN a o ha (PJ.apart Fl e (.inr hd)).1 (PJ.apart Fl e (.inr hd)).2 e
    have ktN : Kt sJ.heap sN.heap := fun a us n e => seqN a _ (fun h9 => not_tup eD' _ _ (h9 ▸ e)) e ⟨_, _, rfl⟩
    have TN := TJ.kt ktN (fun o e => kN _ o (TJ.ne eD').1 hXn.1.1 hXn.1.2 e) (fun o e => kN _ o (TJ.ne eD').2 hXdn.1.1 hXdn.1.2 e)
    have lotsN := lotsJ'.kt hDO seqN ktN
    have wordsN := wordsJ.keep (fun o e => kN _ o (wordsJ.ne eD') hWL hWC e) ktN
    have hvsN := hvsJ.monoT ktN noLs_pr
    have keepN : ∀ a o, ¬ (a = Xd ∨ a = O ∨ a = D) → a ≠ L → a ≠ L + 1 → sA.heap.get? a = some o → sN.heap.get? a = some o := fun a o hM h3 h4 e => kN a o (fun h => hM (.inr (.inr h))) h3 h4 (keepJ a o (fun h => hM (.inl h)) (fun h => hM (.inr (.inl h))) h3 h4 e)
    clear seqN ktN eD' hvsJ wordsJ lotsJ' TJ dueJ kN PJ keepJ rpJ
    -- most
    try (refine (let Q9 : _ → Shared → Prop := _; (?_ : wpAny _ _ _ Q9 _ _)))
    refine wpAny_execs_cons (wpAny_Assign_Name (wmono (run_d (PN.frm Fl) (PN.envr rfl) (d_add (d_raw rfl (.int _ _) rfl rfl) (d_raw rfl (.int _ _) rfl rfl))) fun v sQ q9 => ?_) rfl)
    have GQ := q9.1
    have rQ := q9.2
    focus ((refine let G9 : Prop := _; (?_ : G9)); (obtain ⟨tm', rfl⟩ := rQ.int_inv); all_goals (unfold G9; clear G9))
    try (refine (let Q9 : _ → Shared → Prop := _; (?_ : wpAny _ _ _ Q9 _ _)))
    refine (PN.grew rfl GQ).store Fl rfl (.inl rfl) fun sR mR PR kR => ?_
    rw [← Int.natCast_add] at PR
    replace PR := PR.less (ρ' := (rho2 X O D ((mo + p.length : Nat) : Int) tm' b tb W)) (by repeat (first | exact less_nil | refine less_cons rfl ?_))
    have PQ := PN.grew rfl GQ
    have TR := (TN.kp GQ.kp).step PQ Fl hXn.1 hXdn.1 kR
    have lotsR := (lotsN.at' fun a o e _ => GQ.kp a o e).at' (PQ.seq Fl kR)
    have dueR := (dueN.at' fun a o e _ => GQ.kp a o e).at' (PQ.seq Fl kR)
    have wordsR := Words.step (s := sQ) (wordsN.keep (fun o e => GQ.kp _ _ e) GQ.kp.kt) PQ Fl hWL hWC kR
    have hvsR : HA sR.heap vs ((ks.map (kp b)).map prD) := (hvsN.kp GQ.kp).mono fun a o us n e hd => PQ.seq Fl kR a o e ⟨_, _, hd⟩
    have keepR : ∀ a o, ¬ (a = Xd ∨ a = O ∨ a = D) → a ≠ L → a ≠ L + 1 → sA.heap.get? a = some o → sR.heap.get? a = some o := fun a o hM h3 h4 e => kR a o h3 h4 (GQ.kp _ _ (keepN a o hM h3 h4 e))
    clear PQ kR hvsN wordsN dueN lotsN TN PN keepN GQ rQ g hle hl16 hDex
    generalize putT T p u.toNat = T' at *
    generalize setD d p u = d' at *
    generalize mo + p.length = mo' at *
    -- both lots against the table
    have hl16 : ∀ v : Bool, (lb b d' v).length ≤ 16 := fun v => Nat.le_trans lb_len p16.2
    try (refine (let Q9 : _ → Shared → Prop := _; (?_ : wpAny _ _ _ Q9 _ _)))
    refine wpAny_execs_cons (wmono (run_x (x_for (ds := [.int (false.toNat : Int), .int (true.toNat : Int)]) (fun _ => (rho2 X O D (mo' : Int) tm' b tb W)) R.2.2
      (EvD.src (d_tuple (l_cons d_int (l_cons d_int l_nil)) (Nat.le_of_ble_eq_true rfl))) (by decide) (by repeat (first | exact less_nil | refine less_cons rfl ?_)) (.loc rfl rfl) rfl (fun j dd hdd => ?_)) (PR.frm Fl) (PR.envr rfl)) fun fl sS q => ?_)
    · obtain ⟨v, rfl⟩ : ∃ v : Bool, dd = .int (v.toNat : Int) := by
        rcases List.mem_of_getElem? hdd with _ | ⟨_, h⟩
        · exact ⟨false, rfl⟩
        · rcases h with _ | ⟨_, h⟩
          · exact ⟨true, rfl⟩
          · cases h
      refine x_ifF (b_cast (b_cmp (d_sub_list (d := .list (encL b (lb b d' v))) (d_raw rfl (PR.read Fl lotsR.read) rfl rfl) (d_name rfl rfl rfl) (by cases v <;> decide) (by cases v <;> decide) (by cases v <;> rfl))
        (EvF.d (f_call (PR.gd Fl G) R (by (first | lia | omega)) (fn_law_blocks hb (d := d') (u := v) b [] (by simp)) (l_cons (d_raw rfl (PR.read Fl dueR.read) rfl rfl) (l_cons (d_name rfl rfl rfl) (l_cons (d_cast d_int (by simp [adr, bv])) (l_cons d_int (l_cons (d_raw rfl (.int _ _) rfl rfl) l_nil))))) (by k_is) (by k_is) rfl rfl rfl)) (o_ne (b := true) eqOk_encL eqOk_encL (by simp) R.units)) rfl) (x_nil (by repeat (first | exact less_nil | refine less_cons rfl ?_)))
    focus ((refine let G9 : Prop := _; (?_ : G9)); (obtain ⟨rfl, eS, mS, NS⟩ := q); all_goals (unfold G9; clear G9))
    focus ((refine let G9 : Prop := _; (?_ : G9)); (obtain ⟨PS, kS⟩ := PR.nx Fl rfl rfl eS NS); all_goals (unfold G9; clear G9))
    have TS := TR.step PR Fl hXn.1 hXdn.1 kS
    have lotsS := lotsR.at' (PR.seq Fl kS)
    have dueS := dueR.at' (PR.seq Fl kS)
    have wordsS := wordsR.step PR Fl hWL hWC kS
    have hvsS : HA sS.heap vs ((ks.map (kp b)).map prD) := hvsR.mono fun a o us n e hd => PR.seq Fl kS a o e ⟨_, _, hd⟩
    have keepS : ∀ a o, ¬ (a = Xd ∨ a = O ∨ a = D) → a ≠ L → a ≠ L + 1 → sA.heap.get? a = some o → sS.heap.get? a = some o := fun a o hM h3 h4 e => kS a o h3 h4 (keepR a o hM h3 h4 e)
    clear keepR hvsR wordsR dueR lotsR TR kS NS eS PR
    have TSb := TS.base PS Fl hXn.1 hXdn.1
    -- all looked up
    try (refine (let Q9 : _ → Shared → Prop := _; (?_ : wpAny _ _ _ Q9 _ _)))
    refine wpAny_execs_cons (wmono (run_x (x_comp (p := fun _ => true) (f := lookD b T') (cl := [(Str.ofString "tree", L + 1)]) (ds := rangeD 0 (2 ^ b)) R.2.2
      (s_range (PS.gd Fl G) (d_cast (d_shl d_int (d_raw rfl (.int _ _) rfl rfl) (by (first | lia | omega)) (by (first | lia | omega)) (by decide)) (by rw [powi (k := b) (by (first | lia | omega)), Int.one_mul])) (by (first | lia | omega)) (by k_is) rfl rfl rfl rfl) (of_noLs noLs_ints) (by unfold rangeD; simp; (first | lia | omega)) (fun _ _ => noL_lookD) rfl
      (fun n c h => by obtain ⟨rfl, rfl⟩ := one_lookup h; exact ⟨rfl, by decide⟩) (by decide) rfl (by decide) rfl
      (fun C y h => by
        by_cases e : y = Str.ofString "tree"
        · subst e
          exact absurd (show some NameKind.cell = some NameKind.local from h) (by decide)
        · rw [lookup_cons_ne e]
          rfl) [(Str.ofString "tree", .raw (.ref X))] (fun q hq => by rcases List.mem_singleton.mp hq with rfl; exact ⟨rfl, rfl, .inr ⟨_, rfl⟩⟩)
      (fun C h₁ d hd hk => t_none) (fun C h₁ x hx _ hk => ?_) rfl rfl rfl) (PS.frm Fl) (PS.envr rfl)) fun fl sV q => ?_)
    · focus ((refine let G9 : Prop := _; (?_ : G9)); (obtain ⟨j, hj, rfl⟩ := List.mem_map.mp hx); all_goals (unfold G9; clear G9))
      focus ((refine let G9 : Prop := _; (?_ : G9)); (obtain ⟨f1, f2⟩ := full_at hb (List.mem_range.mp hj)); all_goals (unfold G9; clear G9))
      have e : (0 + (j : Int)).toNat = j := by (first | lia | omega)
      show EvD _ _ _ _ _ _ (encF b (lookT b T' ((fulls b).getD (0 + (j : Int)).toNat []) none))
      rw [e]
      exact d_look ((PS.gd Fl G).kp hk) R (by decide) hb f2 gstep.ok (TSb.kp hk) rfl (d_cast (d_name rfl rfl rfl) (by rw [f1, Int.zero_add])) rfl rfl rfl
    focus ((refine let G9 : Prop := _; (?_ : G9)); (obtain ⟨rfl, eV, mV, NV⟩ := q); all_goals (unfold G9; clear G9))
    focus ((refine let G9 : Prop := _; (?_ : G9)); (obtain ⟨_, hvl, al, vsl, nl, rfl, el, rl, _, _⟩ := NV.er (Str.ofString "looks") _ rfl); all_goals (unfold G9; clear G9))
    focus ((refine let G9 : Prop := _; (?_ : G9)); (obtain ⟨PV0, kV⟩ := PS.nx (s' := sV) Fl rfl rfl eV (NV.trans (.less (ρ' := (rho2 X O D (mo' : Int) tm' b tb W)) NV.fr NV.er (by repeat (first | exact less_nil | refine less_cons rfl ?_))))); all_goals (unfold G9; clear G9))
    have PV : LP _ s.heap ((Str.ofString "looks", .raw (.ref al)) :: rho2 X O D (mo' : Int) tm' b tb W) s₁ sV mV := ⟨PV0.same, ⟨PV0.pt.ns, PV0.pt.cell, fun x e q => by
      by_cases hx : x = Str.ofString "looks"
      · subst hx
        rw [lookup_cons_self] at q
        cases q
        exact ⟨_, hvl, rfl⟩
      · rw [lookup_cons_ne hx] at q
        exact PV0.pt.er x e q⟩, PV0.kp⟩
    have hlooks : HR sV.heap (.ref al) (.list ((rangeD 0 (2 ^ b)).map (lookD b T'))) := by
      have e : ((rangeD 0 (2 ^ b)).filter fun _ => true).map (lookD b T') = (rangeD 0 (2 ^ b)).map (lookD b T') := by rw [filt]
      rw [e] at rl
      exact .list el rl
    have TV := TS.step PS Fl hXn.1 hXdn.1 kV
    have lotsV := lotsS.at' (PS.seq Fl kV)
    have dueV := dueS.at' (PS.seq Fl kV)
    have wordsV := wordsS.step PS Fl hWL hWC kV
    have hvsV : HA sV.heap vs ((ks.map (kp b)).map prD) := hvsS.mono fun a o us n e hd => PS.seq Fl kV a o e ⟨_, _, hd⟩
    have keepV : ∀ a o, ¬ (a = Xd ∨ a = O ∨ a = D) → a ≠ L → a ≠ L + 1 → sA.heap.get? a = some o → sV.heap.get? a = some o := fun a o hM h3 h4 e => kV a o h3 h4 (keepS a o hM h3 h4 e)
    clear keepS hvsS wordsS dueS lotsS TS TSb kV NV eV PS PV0 rl el hvl
    have hrows := rows_eq hb gstep.look
    have hmost := gstep.most
    try (refine (let Q9 : _ → Shared → Prop := _; (?_ : wpAny _ _ _ Q9 _ _)))
    refine wmono (run_x (x_ifF (b_cast (b_or (b := false) (c := false) (b_cast (b_cmp (EvF.d (f_cast (f_comp (p := fun _ => true) (f := rowD) (cl := []) (ds := (rangeD 0 (2 ^ b)).map (lookD b T')) R.2.2 (s_raw rfl rfl (PV.read Fl hlooks) rfl rfl) (fun x hx => by obtain ⟨y, _, rfl⟩ := List.mem_map.mp hx; exact noL_lookD) (by unfold rangeD; simp; (first | lia | omega)) (fun x hx => ?_) rfl (fun _ _ h => by cases h) (by decide) rfl (by decide) rfl (fun _ _ _ => rfl) [] (fun _ h => by cases h) (fun C h₁ x hx hk => t_none) (fun C h₁ x hx _ hk => ?_)) (by rw [filt]; exact hrows))) (d_raw rfl (PV.read Fl dueV.read) rfl rfl) (o_ne (b := true) eqOk_ints eqOk_ints ⟨fun _ => rfl, fun _ => rfl⟩ R.units)) rfl)
      fun _ => b_cast (b_cmp (d_len (PV.gd Fl G) (EvF.d (f_cat (d_sub_list (d_raw rfl (PV.read Fl lotsV.read) rfl rfl) d_int (by decide) (by decide) rfl) (d_sub_list (d_raw rfl (PV.read Fl lotsV.read) rfl rfl) d_int (by decide) (by decide) rfl) ?_)) ?_ (by k_is) rfl rfl rfl rfl) (d_raw rfl (.int _ _) rfl rfl) o_gt) ?_) rfl) (x_nil (ρ' := (rho2 X O D (mo' : Int) tm' b tb W)) (by repeat (first | exact less_nil | refine less_cons rfl ?_)))) (PV.frm Fl) (PV.envr rfl)) fun fl sZ q => ?_
    · focus ((refine let G9 : Prop := _; (?_ : G9)); (obtain ⟨y, hy, rfl⟩ := List.mem_map.mp hx); all_goals (unfold G9; clear G9))
      focus ((refine let G9 : Prop := _; (?_ : G9)); (obtain ⟨j, _, rfl⟩ := List.mem_map.mp hy); all_goals (unfold G9; clear G9))
      show noL (rowD (encF b _)) = true
      cases lookT b T' ((fulls b).getD (0 + (j : Int)).toNat []) none <;> rfl
    · focus ((refine let G9 : Prop := _; (?_ : G9)); (obtain ⟨y, hy, rfl⟩ := List.mem_map.mp hx); all_goals (unfold G9; clear G9))
      focus ((refine let G9 : Prop := _; (?_ : G9)); (obtain ⟨j, _, rfl⟩ := List.mem_map.mp hy); all_goals (unfold G9; clear G9))
      show EvD _ _ _ _ _ _ (rowD (encF b (lookT b T' ((fulls b).getD (0 + (j : Int)).toNat []) none)))
      have e : lookD b T' (.int (0 + (j : Int))) = encF b (lookT b T' ((fulls b).getD (0 + (j : Int)).toNat []) none) := rfl
      simp only [e]
      cases lookT b T' ((fulls b).getD (0 + (j : Int)).toNat []) none with
      | none => exact d_ifexp (b := true) (b_cmp (d_name rfl rfl rfl) d_none o_isNone) (fun _ => d_int) (fun h => nomatch h)
      | some r => exact d_ifexp (b := false) (b_cmp (d_name rfl rfl rfl) d_none (o_isNot tup_not_none)) (fun h => nomatch h) (fun _ => d_sub_tup (d_name rfl rfl rfl) d_int (by decide) rfl rfl)
    · rw [encL_length, encL_length]
      have := hl16 false
      have := hl16 true
      (first | lia | omega)
    · rw [List.length_append, encL_length, encL_length]
      have := hl16 false
      have := hl16 true
      (first | lia | omega)
    · rw [List.length_append, encL_length, encL_length]
      exact decide_eq_false (by unfold lv at hmost; (first | lia | omega))
    · focus ((refine let G9 : Prop := _; (?_ : G9)); (obtain ⟨rfl, eZ, mZ, NZ⟩ := q); all_goals (unfold G9; clear G9))
      focus ((refine let G9 : Prop := _; (?_ : G9)); (obtain ⟨PZ, kZ⟩ := PV.nx (s' := sZ) (ρ' := (rho2 X O D (mo' : Int) tm' b tb W)) Fl rfl rfl eZ NZ); all_goals (unfold G9; clear G9))
      exact ⟨rfl, ⟨mZ, T', d', mo', tm', PZ, TV.step PV Fl hXn.1 hXdn.1 kZ, lotsV.at' (PV.seq Fl kZ), dueV.at' (PV.seq Fl kZ), wordsV.step PV Fl hWL hWC kZ, hvsV.mono fun a o us n e hd => PV.seq Fl kZ a o e ⟨_, _, hd⟩, gstep⟩, fun a o hM h3 h4 e => kZ a o h3 h4 (keepV a o hM h3 h4 e)⟩
  · focus ((refine let G9 : Prop := _; (?_ : G9)); (obtain ⟨m, T, d, mo, tm, PE, TE, lotsE, dueE, wordsE, hvsE, g⟩ := hA); all_goals (unfold G9; clear G9))
    have hle : ∀ v : Bool, ∀ q ∈ lb b d v, q.length ≤ b := fun v => lb_le
    have hl16 : ∀ v : Bool, (lb b d v).length ≤ 16 := fun v => Nat.le_trans lb_len p16.2
    have h0 := hl16 false
    have h1 := hl16 true
    try (refine (let Q9 : _ → Shared → Prop := _; (?_ : wpAny _ _ _ Q9 _ _)))
    refine wmono (run_x (x_ret (d := .bool true) (d_cmp (EvF.d (f_cast (f_call (PE.gd Fl G) R (by decide) (fn_aggregated (X := lb b d false ++ lb b d true) hb (fun q hq => by
        rcases List.mem_append.mp hq with hq | hq
        · exact hle _ q hq
        · exact hle _ q hq) (by rw [List.length_append]; (first | lia | omega))) (l_cons (d_cast (EvF.d (f_cat (d_sub_list (d_raw rfl (PE.read Fl lotsE.read) rfl rfl) d_int (by decide) (by decide) rfl) (d_sub_list (d_raw rfl (PE.read Fl lotsE.read) rfl rfl) d_int (by decide) (by decide) rfl) (by rw [encL_length, encL_length]; (first | lia | omega)))) (by rw [encL_append])) (l_cons (d_raw rfl (.int _ _) rfl rfl) l_nil)) (by k_is) (by k_is) rfl rfl rfl) (by rw [canon_both])))
      (EvF.d (f_list (l_cons (d_tuple (l_cons d_int (l_cons d_int l_nil)) (Nat.le_of_ble_eq_true rfl)) l_nil) (Nat.le_of_ble_eq_true rfl))) (o_eq (b := true) eqOk_encL rfl ⟨fun _ => by simp [encL, encD, adr, bv], fun _ => rfl⟩ R.units))) (PE.frm Fl) (PE.envr rfl)) fun fl sZ q => ?_
    focus ((refine let G9 : Prop := _; (?_ : G9)); (obtain ⟨v, rfl, eZ, kZ, rZ⟩ := q); all_goals (unfold G9; clear G9))
    exact ⟨v, rfl, PE.same.trans eZ, (Fl.up PE.kp).trans kZ, rZ⟩
end
end Mine
end
-- F7
section
open PySem PySem.W PyProof.Rows PySem.Calls PySem.Spec
namespace Mine
theorem well_ints {P : Params} {h : Heap} (ns : List Int) : ∀ {vs : List Value} {ds : List WData}, ds = ofPys (ns.map .int) → WellAll P h vs ds → HA h vs (ns.map .int) := by
  induction ns with
  | nil =>
    intro vs ds e r
    cases r with
    | nil => exact .nil
    | cons a b => cases e
  | cons i ns ih =>
    intro vs ds e r
    cases r with
    | nil => cases e
    | cons a b =>
      focus ((refine let G9 : Prop := _; (?_ : G9)); (obtain ⟨e1, e2⟩ := List.cons.inj (show _ :: _ = WData.int i :: ofPys (ns.map .int) from e)); all_goals (unfold G9; clear G9))
      rw [e1] at a
      cases a
      exact .cons (.int i _) (ih e2 b)
theorem well_list {P : Params} {h : Heap} {v : Value} {ns : List Int} (x : Well P h v (.list (ofPys (ns.map .int)))) : HR h v (.list (ns.map .int)) := by
  cases x with
  | list o r => exact .list o (well_ints ns rfl r)
theorem room_top : Room callerA 40 := by
  refine ⟨?_, ?_, rfl⟩ <;> decide +kernel
theorem good_end {c : ClaimW} {cl : Str → Option Addr} {mean : ExcName → Option Value} {args : List WData} {s s' : Shared} {v : Value} (g : Grew s s') (r : HR s'.heap v (.bool true)) (hg : s.gens = #[]) (hn : ∀ cls, c.raises args cls = false) (hp : c.post args (.bool true) args = true) :
    GoodWG c cl mean args s (.ok (.ret v)) s' := by
  obtain rfl := r.bool_inv
  focus ((refine let G9 : Prop := _; (?_ : G9)); (obtain ⟨⟨h', tk, rfl⟩, k⟩ := g); all_goals (unfold G9; clear G9))
  exact ⟨.inl ⟨_, _, [], rfl, hn, .bool true, hp, unshared_nil⟩, .of_keep k, rfl, .of_eq hg⟩
end Mine
set_option tactic.hygienic true in
theorem PySem.Challenge.cw_sz0111_01_holds : PySem.Challenge.rw_sz0111_01.Holds := by
  refine Mine.hd ?_
  k_fill
  intro w s₀ s₁ mg mb G Y fa o pm cd doc dV kV ho hdd hcd hD hmg hg args vals as hpre hlay hrd hwl hlo
  have KX := kIn_of Y
  refine Ground.open G ?_
  intro T B D TE TW
  try (refine guard_noD D (by decide +kernel) ?_; clear D)
  wrow_args hpre hlay hrd hwl hlo
  rename_i ns _ _ _ _ _ _ _ a vs _ _ _ w1 _ _ _ hcond hcond'
  have hlen : ns.length ≤ 63 := by (first | lia | omega)
  refine wpAny_mono (Mine.fn_law hlen callerA s₁ fa [.ref a] Mine.room_top ⟨KX, topRead_of T⟩ hmg (.cons (Mine.well_list w1) .nil)) (fun v s' g => ?_) (fun _ _ g => g.elim)
  refine Mine.good_end g.1 g.2 hg (raisesW_false ?_) ?_
  · wrow_none_raised
  · wrow_post
end
