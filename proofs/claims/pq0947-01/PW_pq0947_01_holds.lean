import PyProof.Rows.All
import Wide.All
import OpenK.AllK
import Wide.FinOn
import PyProof.AttrMissHeap
import KE.KDictOf
import Lean
import PySem.Challenge.RW_pq0947_01
open PySem PySem.W PyProof.Rows PySem.Calls
set_option Elab.async false
set_option maxRecDepth 100000
set_option linter.all false
set_option genSizeOf false
set_option genInjectivity false
set_option bootstrap.genMatcherCode false
namespace Mine
noncomputable section
noncomputable section
noncomputable abbrev pw : Program := PySem.Challenge.pw_pq0947_01
noncomputable def stmtAt (i : Nat) : Stmt := (pw.main.body[i]?).getD (.Pass ⟨0, 0, 0, 0⟩)
noncomputable def sBody : Stmt → List Stmt | .FunctionDef _ _ b _ _ _ _ _ _ _ => b | .ClassDef _ _ _ b _ _ _ _ _ _ _ => b | _ => []
noncomputable def sArgs : Stmt → Arguments | .FunctionDef _ a _ _ _ _ _ _ _ _ => a | _ => default
noncomputable def sScope : Stmt → Scope | .FunctionDef _ _ _ _ _ _ sc _ _ _ => sc | .ClassDef _ _ _ _ _ _ sc _ _ _ _ => sc | _ => default
noncomputable def sName : Stmt → Str | .FunctionDef n _ _ _ _ _ _ _ _ _ => n | _ => default
noncomputable def dBody (i : Nat) : List Stmt := sBody (stmtAt i)
noncomputable def dArgs (i : Nat) : Arguments := sArgs (stmtAt i)
noncomputable def dNs (i : Nat) : List Str := (dArgs i).args.map (·.arg)
noncomputable def dScope (i : Nat) : Scope := sScope (stmtAt i)
noncomputable def dName (i : Nat) : Str := sName (stmtAt i)
noncomputable def kBody (i : Nat) : List Stmt := sBody (stmtAt i)
noncomputable def mAt (i j : Nat) : Stmt := ((kBody i)[j]?).getD (.Pass ⟨0, 0, 0, 0⟩)
noncomputable def mBody (i j : Nat) : List Stmt := sBody (mAt i j)
noncomputable def mArgs (i j : Nat) : Arguments := sArgs (mAt i j)
noncomputable def mScope (i j : Nat) : Scope := sScope (mAt i j)
end
theorem ff {C : Prop} (h : false = true) : C := by exact absurd h Bool.false_ne_true
theorem nn {α : Type} {a : α} {C : Prop} (h : none = some a) : C := by cases h
theorem ex1 {α : Type} {A B : α → Prop} {p : α} (a : A p) (b : B p) : ∃ p, A p ∧ B p := ⟨p, a, b⟩
theorem ex2 {α β : Type} {A B : α → β → Prop} {p : α} {s : β} (a : A p s) (b : B p s) : ∃ p s, A p s ∧ B p s := ⟨p, s, a, b⟩
@[elab_as_elim] theorem rwr {α : Sort u} {b : α} {C : α → Prop} {a : α} (h : a = b) (k : C b) : C a := h ▸ k
theorem cmin (a n : Nat) : min (a : Int) n = ((min a n : Nat) : Int) := by
  rcases Nat.le_total a n with h | h
  · rw [Nat.min_eq_left h, Int.min_eq_left (Int.ofNat_le.mpr h)]
  · rw [Nat.min_eq_right h, Int.min_eq_right (Int.ofNat_le.mpr h)]
theorem wp_p {M : Model} {A : Around} {α : Type} {Q : α → Shared → Prop} {E : Value → Shared → Prop} {s : Shared} {c : Prop} [Decidable c] {x y : Sem α} (h : c) (k : wpAny M A x Q E s) : wpAny M A (if c then x else y) Q E s := by rwa [if_pos h]
theorem wp_n {M : Model} {A : Around} {α : Type} {Q : α → Shared → Prop} {E : Value → Shared → Prop} {s : Shared} {c : Prop} [Decidable c] {x y : Sem α} (h : ¬ c) (k : wpAny M A y Q E s) : wpAny M A (if c then x else y) Q E s := by rwa [if_neg h]
noncomputable def S (l : List Nat) : Str := ⟨l.toArray⟩
theorem S_inj {a b : List Nat} : S a = S b ↔ a = b := by simp [S]
theorem S_beq (a b : List Nat) : (S a == S b) = (a == b) := by
  rw [Bool.eq_iff_iff, beq_iff_eq, beq_iff_eq, S_inj]
theorem S_app (a b : List Nat) : S a ++ S b = S (a ++ b) := by
  show (⟨a.toArray ++ b.toArray⟩ : Str) = _
  simp [S]
theorem S_len (a : List Nat) : (S a).length = a.length := by show a.toArray.size = _; simp
inductive PV where
  | none
  | bool (b : Bool)
  | int (i : Int)
  | str (s : List Nat)
  | bytes (b : List UInt8)
  | tup (l : List PV)
  | ref (n : Nat)
  | rng (a c : Int) (n : Nat)
  | stat (v : Value)
inductive Cell where
  | lst (l : List PV)
  | obj (c : Addr) (j : Nat)
  | ns (fs : List (Str × PV))
  | raw (P : Obj → Prop)
noncomputable abbrev Sto := List Cell
noncomputable abbrev Vm := List (Str × PV)
structure Stat where
  prog : Program
  w : World
  B : Heap
  mg : Str → Option Value
  mb : Str → Option Value
structure Stat.OK (X : Stat) : Prop where
  g : X.B.Ns mainGlobals X.mg
  b : X.B.Ns builtinsNs X.mb
  nolimit : X.B.NoLimit
  builtins : ∀ x : Str, x ≠ "__name__" → X.mb x = bootBuiltins x
inductive Rep (h : Heap) (ι : Nat → Addr) (k : Nat) : PV → Value → Prop
  | none : Rep h ι k .none .none
  | bool (b : Bool) : Rep h ι k (.bool b) (.bool b)
  | int (i : Int) (t : Tok) : Rep h ι k (.int i) (.int i t)
  | str (s : List Nat) (t : Tok) : Rep h ι k (.str s) (.str (S s) t)
  | bytes (b : List UInt8) (t : Tok) : Rep h ι k (.bytes b) (.bytes b.toArray t)
  | tup {l : List PV} {a : Addr} {vs : List Value} : h.IsTuple a vs.toArray → l.length = vs.length →
      (∀ (i : Nat) (p : PV) (v : Value), l[i]? = some p → vs[i]? = some v → Rep h ι k p v) → Rep h ι k (.tup l) (.ref a)
  | ref {n : Nat} : n < k → Rep h ι k (.ref n) (.ref (ι n))
  | rng {a c : Int} {n : Nat} {r : Addr} {b : Int} {t u v : Tok} : IsRange h r a b c t u v → Builtin.Range.small a b c = true → Builtin.Range.rangeSize a b c = (n : Int) → Rep h ι k (.rng a c n) (.ref r)
  | stat (v : Value) : Rep h ι k (.stat v) v
noncomputable def Reps (h : Heap) (ι : Nat → Addr) (k : Nat) (l : List PV) (vs : List Value) : Prop := l.length = vs.length ∧ ∀ (i : Nat) (p : PV) (v : Value), l[i]? = some p → vs[i]? = some v → Rep h ι k p v
noncomputable def RepI (h : Heap) (ι : Nat → Addr) (k : Nat) (p : PV) (v : Value) : Prop := match p with
  | .none => v = .none
  | .bool b => v = .bool b
  | .int i => ∃ t, v = .int i t
  | .str s => ∃ t, v = .str (S s) t
  | .bytes b => ∃ t, v = .bytes b.toArray t
  | .tup l => ∃ (a : Addr) (vs : List Value), v = .ref a ∧ h.IsTuple a vs.toArray ∧ Reps h ι k l vs
  | .ref n => v = .ref (ι n) ∧ n < k
  | .rng a c n => ∃ (r : Addr) (b : Int) (t u w : Tok), v = .ref r ∧ IsRange h r a b c t u w ∧ Builtin.Range.small a b c = true ∧ Builtin.Range.rangeSize a b c = (n : Int)
  | .stat w => v = w
section
variable {h : Heap} {ι : Nat → Addr} {k : Nat} {v : Value}
theorem Rep.inv {p : PV} (r : Rep h ι k p v) : RepI h ι k p v := by
  cases r with
  | none => exact rfl
  | bool b => exact rfl
  | int i t => exact ⟨t, rfl⟩
  | str s t => exact ⟨t, rfl⟩
  | bytes b t => exact ⟨t, rfl⟩
  | tup a b c => exact ⟨_, _, rfl, a, b, c⟩
  | ref hn => exact ⟨rfl, hn⟩
  | rng a b c => exact ⟨_, _, _, _, _, rfl, a, b, c⟩
  | stat v => exact rfl
theorem Rep.none_inv (r : Rep h ι k .none v) : v = .none := r.inv
theorem Rep.bool_inv {b : Bool} (r : Rep h ι k (.bool b) v) : v = .bool b := r.inv
theorem Rep.int_inv {i : Int} (r : Rep h ι k (.int i) v) : ∃ t, v = .int i t := r.inv
theorem Rep.str_inv {s : List Nat} (r : Rep h ι k (.str s) v) : ∃ t, v = .str (S s) t := r.inv
theorem Rep.bytes_inv {b : List UInt8} (r : Rep h ι k (.bytes b) v) : ∃ t, v = .bytes b.toArray t := r.inv
theorem Rep.tup_inv {l : List PV} (r : Rep h ι k (.tup l) v) : ∃ (a : Addr) (vs : List Value), v = .ref a ∧ h.IsTuple a vs.toArray ∧ l.length = vs.length ∧ ∀ (i : Nat) (p : PV) (v : Value), l[i]? = some p → vs[i]? = some v → Rep h ι k p v := r.inv
theorem Rep.ref_inv {n : Nat} (r : Rep h ι k (.ref n) v) : v = .ref (ι n) ∧ n < k := r.inv
theorem Rep.rng_inv {a c : Int} {n : Nat} (r : Rep h ι k (.rng a c n) v) : ∃ (r : Addr) (b : Int) (t u w : Tok), v = .ref r ∧ IsRange h r a b c t u w ∧ Builtin.Range.small a b c = true ∧ Builtin.Range.rangeSize a b c = (n : Int) := r.inv
theorem Rep.stat_inv {w : Value} (r : Rep h ι k (.stat w) v) : v = w := r.inv
end
noncomputable def SoftA (h : Heap) (a : Addr) : Prop := (∀ vs : List Value, ¬ h.IsTuple a vs.toArray) ∧ ∀ (x y z : Int) (t u v : Tok), ¬ IsRange h a x y z t u v
noncomputable def CellIs (h : Heap) (ι : Nat → Addr) (k : Nat) (a : Addr) : Cell → Prop
  | .lst l => ∃ (vs : List Value) (n : Nat), h.get? a = some (listOf vs.toArray n) ∧ Reps h ι k l vs
  | .obj c j => h.get? a = some { cls := .ref c, dict := some (ι j), data := .plain } ∧ j < k
  | .ns fs => ∃ (es : List DictEntry) (n : Nat), h.get? a = some (dictOf es n) ∧ es.length = fs.length ∧ ∀ (i : Nat) (e : DictEntry) (x : Str) (p : PV), es[i]? = some e → fs[i]? = some (x, p) → (∃ t, e.key = .str x t) ∧ Rep h ι k p e.val
  | .raw P => ∃ o, h.get? a = some o ∧ o.cls = .type "dict" ∧ P o
theorem CellIs.live {h : Heap} {ι : Nat → Addr} {k : Nat} {a : Addr} {c : Cell} (x : CellIs h ι k a c) : ∃ o, h.get? a = some o := by
  cases c with
  | lst l => obtain ⟨vs, n, e, _⟩ := x; exact ⟨_, e⟩
  | obj c j => exact ⟨_, x.1⟩
  | ns fs => obtain ⟨es, n, e, _⟩ := x; exact ⟨_, e⟩
  | raw P => obtain ⟨o, e, _⟩ := x; exact ⟨o, e⟩
theorem CellIs.soft {h : Heap} {ι : Nat → Addr} {k : Nat} {a : Addr} {c : Cell} (x : CellIs h ι k a c) : SoftA h a := by
  have k : ∃ o, h.get? a = some o ∧ (o.cls = .type "list" ∨ (∃ c, o.cls = .ref c) ∨ o.cls = .type "dict" ∨ ∃ es n, o.data = .dict es n) := by
    cases c with
    | lst l => obtain ⟨vs, n, e, _⟩ := x; exact ⟨_, e, .inl rfl⟩
    | obj c j => exact ⟨_, x.1, .inr (.inl ⟨_, rfl⟩)⟩
    | ns fs => obtain ⟨es, n, e, _⟩ := x; exact ⟨_, e, .inr (.inr (.inl rfl))⟩
    | raw P => obtain ⟨o, e, hc, _⟩ := x; exact ⟨o, e, .inr (.inr (.inl hc))⟩
  obtain ⟨o, e, hk⟩ := k
  refine ⟨fun vs q => ?_, fun x y z t u v q => ?_⟩
  · obtain ⟨o', q, hc', n, q2⟩ := q
    rw [q] at e; cases e
    rcases hk with hk | ⟨c, hk⟩ | hk | ⟨es, m, hk⟩
    · rw [hk] at hc'; exact absurd (Value.type.inj hc') (by decide)
    · rw [hk] at hc'; cases hc'
    · rw [hk] at hc'; exact absurd (Value.type.inj hc') (by decide)
    · rw [hk] at q2; cases q2
  · unfold IsRange at q; rw [q] at e; cases e
    rcases hk with hk | ⟨c, hk⟩ | hk | ⟨es, m, hk⟩
    · exact absurd (Value.type.inj hk) (by decide)
    · cases hk
    · exact absurd (Value.type.inj hk) (by decide)
    · cases hk
theorem CellIs.mono {h h' : Heap} {ι ι' : Nat → Addr} {k k' : Nat} {a a' : Addr} {c : Cell} (x : CellIs h ι k a c) (ha : a' = a) (kp : ∀ o, h.get? a = some o → h'.get? a = some o) (hr : ∀ p v, Rep h ι k p v → Rep h' ι' k' p v) (hi : ∀ j, j < k → ι' j = ι j) (hk : k ≤ k') : CellIs h' ι' k' a' c := by
  subst ha
  cases c with
  | lst l => obtain ⟨vs, n, e, r⟩ := x; exact (ex2 (p := vs) (s := n) (kp _ e) ⟨r.1, fun i p v a b => hr _ _ (r.2 i p v a b)⟩)
  | obj c j => obtain ⟨e, hj⟩ := x; exact ⟨by rw [hi j hj]; exact kp _ e, Nat.lt_of_lt_of_le hj hk⟩
  | ns fs => obtain ⟨es, n, e, hl, f⟩ := x; exact (ex2 (p := es) (s := n) (kp _ e) ⟨hl, fun i e y p a b => ⟨(f i e y p a b).1, hr _ _ (f i e y p a b).2⟩⟩)
  | raw P => obtain ⟨o, e, r⟩ := x; exact ⟨o, kp _ e, r⟩
structure SR (B : Heap) (ι : Nat → Addr) (σ : Sto) (h : Heap) : Prop where
  base : ∀ b o, B.get? b = some o → h.get? b = some o
  cell : ∀ (n : Nat) (c : Cell), σ[n]? = some c → CellIs h ι σ.length (ι n) c
  inj : ∀ i j, i < σ.length → j < σ.length → ι i = ι j → i = j
  fresh : ∀ n, n < σ.length → B.get? (ι n) = none
structure Chg (D : List Addr) (B : Heap) (ι : Nat → Addr) (σ : Sto) (h : Heap) (ι' : Nat → Addr) (σ' : Sto) (h' : Heap) : Prop where
  sr : SR B ι' σ' h'
  ext : ∀ n, n < σ.length → ι' n = ι n
  len : σ.length ≤ σ'.length
  new : ∀ n, σ.length ≤ n → n < σ'.length → h.get? (ι' n) = none ∧ ι' n ∉ D
  kept : ∀ b o, h.get? b = some o → (∀ n, n < σ.length → ι n ≠ b) → b ∉ D → h'.get? b = some o
noncomputable abbrev Step (B : Heap) (ι : Nat → Addr) (σ : Sto) (h : Heap) (ι' : Nat → Addr) (σ' : Sto) (h' : Heap) : Prop := Chg [] B ι σ h ι' σ' h'
noncomputable def Soft (D : List Addr) (h : Heap) : Prop := ∀ a ∈ D, (∀ vs : List Value, ¬ h.IsTuple a vs.toArray) ∧ ∀ (x y z : Int) (t u v : Tok), ¬ IsRange h a x y z t u v
theorem soft_nil {h : Heap} : Soft [] h := fun _ h => nomatch h
noncomputable def VarAt (h : Heap) (env : Env) (x : Str) (v : Value) : Prop :=
  match env.kindOf x with
  | some .local => ∃ mv, h.Ns env.locals mv ∧ mv x = some v
  | some .cell => ∃ c, env.cells.lookup x = some c ∧ h.IsCell c (some v)
  | some .free => ∃ c, env.cells.lookup x = some c ∧ h.IsCell c (some v)
  | _ => False
noncomputable def Own (env : Env) : List Addr := env.locals :: env.cells.map (·.2)
structure VR (B : Heap) (ι : Nat → Addr) (σ : Sto) (env : Env) (m : Vm) (h : Heap) : Prop where
  kind : env.scope.kind = .function
  glob : env.globals = mainGlobals
  bi : env.builtins = builtinsNs
  ns : ∃ mv, h.Ns env.locals mv
  cell : ∀ x, env.kindOf x = some .cell → ∃ c, env.cells.lookup x = some c
  cells : ∀ a ∈ env.cells.map (·.2), ∃ v, h.IsCell a v
  var : ∀ x p, m.lookup x = some p → ∃ v, VarAt h env x v ∧ Rep h ι σ.length p v
  apart : ∀ a ∈ Own env, (∀ n, n < σ.length → ι n ≠ a) ∧ B.get? a = none ∧ ∃ o, h.get? a = some o
  nodup : (Own env).Nodup
noncomputable def Good (d : Nat) (A : Around) : Prop := A.handled = none ∧ A.depth + d + 2 < recursionLimit ∧ A.units + 16 * d + 16 < cLine
theorem isTuple_up {h h' : Heap} {a : Addr} {vs : Array Value} (x : h.IsTuple a vs) (k : ∀ o, h.get? a = some o → h'.get? a = some o) : h'.IsTuple a vs := let ⟨o, e, r⟩ := x; ⟨o, k o e, r⟩
section
variable {B h h' h'' : Heap} {ι ι' ι'' : Nat → Addr} {σ σ' σ'' : Sto} {env : Env} {m : Vm} {p : PV} {v : Value}
theorem SR.lst (S : SR B ι σ h) (n : Nat) (l : List PV) (hl : σ[n]? = some (.lst l)) : ∃ (vs : List Value) (k : Nat), h.get? (ι n) = some (listOf vs.toArray k) ∧ Reps h ι σ.length l vs := S.cell n _ hl
theorem SR.at (S : SR B ι σ h) {n : Nat} (hn : n < σ.length) : CellIs h ι σ.length (ι n) σ[n] := S.cell n σ[n] (by simp [hn])
theorem SR.live_at (S : SR B ι σ h) {n : Nat} (hn : n < σ.length) : ∃ o, h.get? (ι n) = some o := (S.at hn).live
theorem SR.soft_at (S : SR B ι σ h) {n : Nat} (hn : n < σ.length) : SoftA h (ι n) := (S.at hn).soft
theorem Rep.chg {D : List Addr} (hD : Soft D h) (S : SR B ι σ h) (T : Chg D B ι σ h ι' σ' h') (r : Rep h ι σ.length p v) : Rep h' ι' σ'.length p v := by
  induction r with
  | none => exact .none
  | bool b => exact .bool b
  | int i t => exact .int i t
  | str s t => exact .str s t
  | bytes b t => exact .bytes b t
  | @tup l a vs ha hl _ ih =>
    refine .tup (isTuple_up ha fun o e => T.kept _ _ e (fun n hn => ?_) fun hd => (hD a hd).1 vs ha) hl ih
    exact fun q => (S.soft_at hn).1 vs (q ▸ ha)
  | @ref n hn => rw [← T.ext n hn]; exact .ref (Nat.lt_of_lt_of_le hn T.len)
  | @rng a c n r b t u v hr h1 h2 =>
    refine .rng (T.kept _ _ hr (fun n hn => ?_) fun hd => (hD r hd).2 _ _ _ _ _ _ hr) h1 h2
    exact fun q => (S.soft_at hn).2 _ _ _ _ _ _ (q ▸ hr)
  | stat v => exact .stat v
theorem Rep.step (S : SR B ι σ h) (T : Step B ι σ h ι' σ' h') (r : Rep h ι σ.length p v) : Rep h' ι' σ'.length p v := r.chg soft_nil S T
theorem Reps.chg {D : List Addr} {l : List PV} {vs : List Value} (hD : Soft D h) (S : SR B ι σ h) (T : Chg D B ι σ h ι' σ' h') (r : Reps h ι σ.length l vs) : Reps h' ι' σ'.length l vs := ⟨r.1, fun i p v a b => (r.2 i p v a b).chg hD S T⟩
theorem Reps.step {l : List PV} {vs : List Value} (S : SR B ι σ h) (T : Step B ι σ h ι' σ' h') (r : Reps h ι σ.length l vs) : Reps h' ι' σ'.length l vs := r.chg soft_nil S T
theorem Reps.nil {k : Nat} : Reps h ι k [] [] := ⟨rfl, fun _ _ _ e => nomatch e⟩
theorem Reps.cons {k : Nat} {l : List PV} {vs : List Value} (a : Rep h ι k p v) (b : Reps h ι k l vs) : Reps h ι k (p :: l) (v :: vs) :=
  ⟨by rw [List.length_cons, List.length_cons, b.1], fun i q u x y => by
    cases i with
    | zero => cases x; cases y; exact a
    | succ i => exact b.2 i q u x y⟩
theorem Reps.of_nil {k : Nat} {vs : List Value} (r : Reps h ι k [] vs) : vs = [] := List.eq_nil_of_length_eq_zero r.1.symm
theorem Reps.uncons {k : Nat} {l : List PV} {vs : List Value} (r : Reps h ι k (p :: l) vs) : ∃ v us, vs = v :: us ∧ Rep h ι k p v ∧ Reps h ι k l us := by
  cases vs with
  | nil => exact absurd r.1 (Nat.succ_ne_zero _)
  | cons v us => exact ⟨v, us, rfl, r.2 0 p v rfl rfl, Nat.succ.inj r.1, fun i => r.2 (i + 1)⟩
theorem Reps.one {k : Nat} {vs : List Value} (r : Reps h ι k [p] vs) : ∃ v, vs = [v] ∧ Rep h ι k p v := by
  obtain ⟨v, us, rfl, a, b⟩ := r.uncons
  exact ⟨v, by rw [b.of_nil], a⟩
theorem Reps.two {k : Nat} {q : PV} {vs : List Value} (r : Reps h ι k [p, q] vs) : ∃ v u, vs = [v, u] ∧ Rep h ι k p v ∧ Rep h ι k q u := by
  obtain ⟨v, us, rfl, a, b⟩ := r.uncons
  obtain ⟨u, rfl, c⟩ := b.one
  exact ⟨v, u, rfl, a, c⟩
theorem Reps.three {k : Nat} {q o : PV} {vs : List Value} (r : Reps h ι k [p, q, o] vs) : ∃ v u w, vs = [v, u, w] ∧ Rep h ι k p v ∧ Rep h ι k q u ∧ Rep h ι k o w := by
  obtain ⟨v, us, rfl, a, b⟩ := r.uncons
  obtain ⟨u, w, rfl, c, e⟩ := b.two
  exact ⟨v, u, w, rfl, a, c, e⟩
theorem Reps.app {k : Nat} {l l' : List PV} {vs vs' : List Value} (a : Reps h ι k l vs) (b : Reps h ι k l' vs') : Reps h ι k (l ++ l') (vs ++ vs') := by
  refine ⟨by rw [List.length_append, List.length_append, a.1, b.1], fun i p v x y => ?_⟩
  by_cases hi : i < l.length
  · rw [List.getElem?_append_left hi] at x
    rw [List.getElem?_append_left (a.1 ▸ hi)] at y
    exact a.2 i p v x y
  · rw [List.getElem?_append_right (Nat.not_lt.mp hi)] at x
    rw [List.getElem?_append_right (a.1 ▸ Nat.not_lt.mp hi), ← a.1] at y
    exact b.2 _ p v x y
theorem Chg.refl {D : List Addr} (S : SR B ι σ h) : Chg D B ι σ h ι σ h := ⟨S, fun _ _ => rfl, Nat.le_refl _, fun _ a b => absurd b (Nat.not_lt.mpr a), fun _ _ e _ _ => e⟩
theorem Step.refl (S : SR B ι σ h) : Step B ι σ h ι σ h := Chg.refl S
theorem Chg.trans {D : List Addr} (T : Chg D B ι σ h ι' σ' h') (U : Chg D B ι' σ' h' ι'' σ'' h'') : Chg D B ι σ h ι'' σ'' h'' where
  sr := U.sr
  ext n hn := (U.ext n (Nat.lt_of_lt_of_le hn T.len)).trans (T.ext n hn)
  len := Nat.le_trans T.len U.len
  new n a b := by
    by_cases hn : n < σ'.length
    · rw [U.ext n hn]; exact T.new n a hn
    · obtain ⟨u1, u2⟩ := U.new n (Nat.not_lt.mp hn) b
      refine ⟨?_, u2⟩
      cases e : h.get? (ι'' n) with
      | none => rfl
      | some o =>
        have e' := T.kept _ o e (fun j hj q => ?_) u2
        · rw [u1] at e'; cases e'
        · have hj' := Nat.lt_of_lt_of_le hj T.len
          have q2 : ι'' j = ι'' n := ((U.ext j hj').trans (T.ext j hj)).trans q
          have := U.sr.inj j n (Nat.lt_of_lt_of_le hj' U.len) b q2
          lia
  kept b o e hb hd := U.kept b o (T.kept b o e hb hd) (fun n hn => by
    by_cases hs : n < σ.length
    · rw [T.ext n hs]; exact hb n hs
    · rintro rfl
      rw [(T.new n (Nat.not_lt.mp hs) hn).1] at e
      exact nn e) hd
theorem Chg.more {D D' : List Addr} (T : Chg D B ι σ h ι' σ' h') (hd : ∀ a ∈ D, a ∈ D' ∨ h.get? a = none) (hn : ∀ a ∈ D', a ∈ D ∨ (∃ o, h.get? a = some o) ∨ ∀ n, n < σ'.length → ι' n ≠ a) : Chg D' B ι σ h ι' σ' h' :=
  { T with
    kept := fun b o e hb hn => T.kept b o e hb fun hm => (hd b hm).elim hn fun q => by rw [q] at e; exact nn e
    new := fun n a b => ⟨(T.new n a b).1, fun q => (hn _ q).elim (T.new n a b).2 fun q => q.elim (fun ⟨o, e⟩ => by rw [(T.new n a b).1] at e; exact nn e) fun w => w n b rfl⟩ }
theorem Step.on' {D : List Addr} (T : Step B ι σ h ι' σ' h') (hl : ∀ a ∈ D, ∃ o, h.get? a = some o) : Chg D B ι σ h ι' σ' h' := T.more (fun _ hm => nomatch hm) fun a ha => .inr (.inl (hl a ha))
theorem Chg.ns {D : List Addr} {a : Addr} {mv : Str → Option Value} (T : Chg D B ι σ h ι' σ' h') (hn : h.Ns a mv) (ha : ∀ n, n < σ.length → ι n ≠ a) (hd : a ∉ D) : h'.Ns a mv := by
  obtain ⟨o, es, ep, e, r⟩ := hn
  exact ⟨o, es, ep, T.kept a o e ha hd, r⟩
theorem Chg.isCell {D : List Addr} {a : Addr} {cv : Option Value} (T : Chg D B ι σ h ι' σ' h') (hn : h.IsCell a cv) (ha : ∀ n, n < σ.length → ι n ≠ a) (hd : a ∉ D) : h'.IsCell a cv := by
  obtain ⟨o, e, r⟩ := hn
  exact (ex1 (p := o) (T.kept a o e ha hd) r)
theorem lookup_mem {x : Str} {c : Addr} : ∀ {l : List (Str × Addr)}, l.lookup x = some c → c ∈ l.map (·.2)
  | (y, d) :: r, e => by
    rw [List.lookup_cons] at e
    cases hxy : x == y with
    | true => simp only [hxy] at e; cases e; exact List.mem_cons_self
    | false => simp only [hxy] at e; exact List.mem_cons_of_mem _ (lookup_mem e)
theorem VarAt.chg {D : List Addr} (V : VR B ι σ env m h) (T : Chg D B ι σ h ι' σ' h') (hd : ∀ a ∈ D, a ∉ Own env) {x : Str} (a : VarAt h env x v) : VarAt h' env x v := by
  unfold VarAt at a ⊢
  split at a
  · obtain ⟨mv, hn, e⟩ := a
    exact (ex1 (p := mv) (T.ns hn (V.apart _ List.mem_cons_self).1 fun q => hd _ q List.mem_cons_self) e)
  · obtain ⟨c, hl, hc⟩ := a
    exact ⟨c, hl, T.isCell hc (V.apart _ (List.mem_cons_of_mem _ (lookup_mem hl))).1 fun q => hd _ q (List.mem_cons_of_mem _ (lookup_mem hl))⟩
  · obtain ⟨c, hl, hc⟩ := a
    exact ⟨c, hl, T.isCell hc (V.apart _ (List.mem_cons_of_mem _ (lookup_mem hl))).1 fun q => hd _ q (List.mem_cons_of_mem _ (lookup_mem hl))⟩
  · exact a.elim
theorem apart_chg {D : List Addr} {l : List Addr} {P : Addr → Prop} (hd : ∀ a ∈ l, a ∉ D) (V : ∀ a ∈ l, (∀ n, n < σ.length → ι n ≠ a) ∧ P a ∧ ∃ o, h.get? a = some o) (T : Chg D B ι σ h ι' σ' h') : ∀ a ∈ l, (∀ n, n < σ'.length → ι' n ≠ a) ∧ P a ∧ ∃ o, h'.get? a = some o := fun a ha => by
  obtain ⟨h1, h2, o, h3⟩ := V a ha
  refine ⟨fun n hn => ?_, h2, o, T.kept a o h3 h1 (hd a ha)⟩
  by_cases hs : n < σ.length
  · rw [T.ext n hs]; exact h1 n hs
  · have := (T.new n (Nat.not_lt.mp hs) hn).1
    intro e
    rw [e, h3] at this
    cases this
theorem VR.chg {D : List Addr} (hD : Soft D h) (S : SR B ι σ h) (V : VR B ι σ env m h) (T : Chg D B ι σ h ι' σ' h') (hd : ∀ a ∈ D, a ∉ Own env) : VR B ι' σ' env m h' where
  kind := V.kind
  glob := V.glob
  bi := V.bi
  ns := let ⟨mv, hn⟩ := V.ns; ⟨mv, T.ns hn (V.apart _ List.mem_cons_self).1 fun q => hd _ q List.mem_cons_self⟩
  cell := V.cell
  cells a ha := let ⟨cv, hc⟩ := V.cells a ha; ⟨cv, T.isCell hc (V.apart _ (List.mem_cons_of_mem _ ha)).1 fun q => hd _ q (List.mem_cons_of_mem _ ha)⟩
  var x p e := let ⟨v, a, r⟩ := V.var x p e; (ex1 (p := v) (a.chg V T hd) (r.chg hD S T))
  apart := apart_chg (fun a ha q => hd a q ha) V.apart T
  nodup := V.nodup
theorem VR.live (V : VR B ι σ env m h) : ∀ a ∈ Own env, ∃ o, h.get? a = some o := fun a ha => (V.apart a ha).2.2
theorem Step.on (V : VR B ι σ env m h) (T : Step B ι σ h ι' σ' h') : Chg (Own env) B ι σ h ι' σ' h' := T.on' V.live
theorem VR.step (S : SR B ι σ h) (V : VR B ι σ env m h) (T : Step B ι σ h ι' σ' h') : VR B ι' σ' env m h' := V.chg soft_nil S T fun _ h => nomatch h
end
noncomputable def Ev (X : Stat) (d : Nat) (sc : Scope) (m : Vm) (σ : Sto) (e : Expr) (p : PV) (σ' : Sto) : Prop :=
  ∀ (A : Around) (env : Env) (s : Shared) (ι : Nat → Addr) (Q : Value → Shared → Prop) (E : Value → Shared → Prop), Good d A → env.scope = sc → SR X.B ι σ s.heap → VR X.B ι σ env m s.heap →
    (∀ v h' tk ι', Step X.B ι σ s.heap ι' σ' h' → Rep h' ι' σ'.length p v → Q v { s with heap := h', toks := tk }) → wpAny (model X.prog X.w) A (eval e env) Q E s
noncomputable def Evs (X : Stat) (d : Nat) (sc : Scope) (m : Vm) (σ : Sto) (es : List Expr) (ps : List PV) (σ' : Sto) : Prop :=
  ∀ (A : Around) (env : Env) (s : Shared) (ι : Nat → Addr) (pos : Pos) (Q : List Value → Shared → Prop) (E : Value → Shared → Prop), Good d A → env.scope = sc → SR X.B ι σ s.heap → VR X.B ι σ env m s.heap →
    (∀ vs h' tk ι', Step X.B ι σ s.heap ι' σ' h' → Reps h' ι' σ'.length ps vs → Q vs { s with heap := h', toks := tk }) → wpAny (model X.prog X.w) A (spliced (backTo pos (starEach es env))) Q E s
noncomputable def Tst (X : Stat) (d : Nat) (sc : Scope) (m : Vm) (σ : Sto) (e : Expr) (b : Bool) (σ' : Sto) : Prop :=
  ∀ (A : Around) (env : Env) (s : Shared) (ι : Nat → Addr) (Q : Bool → Shared → Prop) (E : Value → Shared → Prop), Good d A → env.scope = sc → SR X.B ι σ s.heap → VR X.B ι σ env m s.heap →
    (∀ h' tk ι', Step X.B ι σ s.heap ι' σ' h' → Q b { s with heap := h', toks := tk }) → wpAny (model X.prog X.w) A (isTrue e env (eval e env)) Q E s
noncomputable def Op2 (X : Stat) (d : Nat) (σ : Sto) (t : Value → Value → Sem Value) (p q : PV) (r : PV) (σ' : Sto) : Prop :=
  ∀ (A : Around) (s : Shared) (ι : Nat → Addr) (v u : Value) (Q : Value → Shared → Prop) (E : Value → Shared → Prop), Good d A → SR X.B ι σ s.heap → Rep s.heap ι σ.length p v → Rep s.heap ι σ.length q u →
    (∀ v h' tk ι', Step X.B ι σ s.heap ι' σ' h' → Rep h' ι' σ'.length r v → Q v { s with heap := h', toks := tk }) → wpAny (model X.prog X.w) A (t v u) Q E s
noncomputable def Op1 (X : Stat) (d : Nat) (σ : Sto) (t : Value → Sem Value) (p : PV) (r : PV) (σ' : Sto) : Prop :=
  ∀ (A : Around) (s : Shared) (ι : Nat → Addr) (v : Value) (Q : Value → Shared → Prop) (E : Value → Shared → Prop), Good d A → SR X.B ι σ s.heap → Rep s.heap ι σ.length p v →
    (∀ v h' tk ι', Step X.B ι σ s.heap ι' σ' h' → Rep h' ι' σ'.length r v → Q v { s with heap := h', toks := tk }) → wpAny (model X.prog X.w) A (t v) Q E s
noncomputable def CallV (X : Stat) (d : Nat) (σ : Sto) (f : Value) (ps : List PV) (r : PV) (σ' : Sto) : Prop :=
  ∀ (A : Around) (s : Shared) (ι : Nat → Addr) (vs : List Value) (Q : Value → Shared → Prop) (E : Value → Shared → Prop), Good d A → SR X.B ι σ s.heap → Reps s.heap ι σ.length ps vs →
    (∀ v h' tk ι', Step X.B ι σ s.heap ι' σ' h' → Rep h' ι' σ'.length r v → Q v { s with heap := h', toks := tk }) → wpAny (model X.prog X.w) A (call f vs) Q E s
noncomputable def Tru (X : Stat) (d : Nat) (σ : Sto) (p : PV) (b : Bool) : Prop :=
  ∀ (A : Around) (s : Shared) (ι : Nat → Addr) (v : Value) (Q : Bool → Shared → Prop) (E : Value → Shared → Prop), Good d A → SR X.B ι σ s.heap → Rep s.heap ι σ.length p v →
    (∀ tk, Q b { s with toks := tk }) → wpAny (model X.prog X.w) A (truthy v) Q E s
inductive AF where
  | next | brk | cont
  | ret (p : PV)
noncomputable def FlowIs (h : Heap) (ι : Nat → Addr) (k : Nat) : AF → Flow → Prop
  | .next, .next => True
  | .brk, .brk => True
  | .cont, .cont => True
  | .ret p, .ret v => Rep h ι k p v
  | _, _ => False
noncomputable abbrev Turn (B : Heap) (env : Env) (ι : Nat → Addr) (σ : Sto) (h : Heap) (ι' : Nat → Addr) (σ' : Sto) (h' : Heap) : Prop := Chg (Own env) B ι σ h ι' σ' h'
noncomputable def Ex (X : Stat) (d : Nat) (sc : Scope) (m : Vm) (σ : Sto) (st : Stmt) (f : AF) (m' : Vm) (σ' : Sto) : Prop :=
  ∀ (A : Around) (env : Env) (s : Shared) (ι : Nat → Addr) (Q : Flow → Shared → Prop) (E : Value → Shared → Prop), Good d A → env.scope = sc → SR X.B ι σ s.heap → VR X.B ι σ env m s.heap →
    (∀ fl h' tk ι', Turn X.B env ι σ s.heap ι' σ' h' → VR X.B ι' σ' env m' h' → FlowIs h' ι' σ'.length f fl → Q fl { s with heap := h', toks := tk }) → wpAny (model X.prog X.w) A (exec st env) Q E s
noncomputable def Exs (X : Stat) (d : Nat) (sc : Scope) (m : Vm) (σ : Sto) (sts : List Stmt) (f : AF) (m' : Vm) (σ' : Sto) : Prop :=
  ∀ (A : Around) (env : Env) (s : Shared) (ι : Nat → Addr) (Q : Flow → Shared → Prop) (E : Value → Shared → Prop), Good d A → env.scope = sc → SR X.B ι σ s.heap → VR X.B ι σ env m s.heap →
    (∀ fl h' tk ι', Turn X.B env ι σ s.heap ι' σ' h' → VR X.B ι' σ' env m' h' → FlowIs h' ι' σ'.length f fl → Q fl { s with heap := h', toks := tk }) → wpAny (model X.prog X.w) A (execs sts env) Q E s
section
variable {X : Stat} {d : Nat} {sc : Scope} {m : Vm} {σ σ₁ σ₂ σ₃ : Sto} {p q r : PV} {pos : Pos}
theorem ev_int {i : Int} {k : Nat} : Ev X d sc m σ (.Constant (.int i) k pos) (.int i) σ := fun _ _ _ _ _ _ _ _ S _ h => wpAny_Constant_int (h _ _ _ _ (Step.refl S) (.int _ _))
theorem ev_str {x : List Nat} {k : Nat} : Ev X d sc m σ (.Constant (.str (S x)) k pos) (.str x) σ := fun _ _ _ _ _ _ _ _ S _ h => wpAny_Constant_str (h _ _ _ _ (Step.refl S) (.str _ _))
theorem ev_none {k : Nat} : Ev X d sc m σ (.Constant .none k pos) .none σ := fun _ _ s _ _ _ _ _ S _ h => wpAny_Constant_none (h _ s.heap s.toks _ (Step.refl S) .none)
theorem ev_bool {b : Bool} {k : Nat} : Ev X d sc m σ (.Constant (.bool b) k pos) (.bool b) σ := fun _ _ s _ _ _ _ _ S _ h => wpAny_Constant_bool (h _ s.heap s.toks _ (Step.refl S) (.bool _))
theorem ev_var {x : Str} (e : m.lookup x = some p) (hd : (x == ("__debug__" : Str)) = false := by decide) (hc : (x == ("__classdict__" : Str)) = false := by decide) : Ev X d sc m σ (.Name x pos) p σ := by
  intro A env s ι Q E g hs S V h
  obtain ⟨v, a, r⟩ := V.var x p e
  refine wpAny_Name ?_ hd
  have fin : Q v s := h v s.heap s.toks ι (Step.refl S) r
  unfold VarAt at a
  split at a
  · rename_i hk
    obtain ⟨mv, hn, e⟩ := a
    exact wpAny_loadName_local V.kind hk hn e fin
  · rename_i hk
    obtain ⟨c, hl, hcell⟩ := a
    exact wpAny_loadName_cell V.kind hk hl hcell fin
  · rename_i hk
    obtain ⟨c, hl, hcell⟩ := a
    exact wpAny_loadName_free V.kind hk hl hcell fin hc
  · exact a.elim
theorem ev_glob {x : Str} {v : Value} (hX : X.OK) (hk : sc.names.lookup x = some .globalImplicit) (e : X.mg x = some v) (hr : ∀ (h : Heap) ι k, (∀ b o, X.B.get? b = some o → h.get? b = some o) → Rep h ι k p v)
    (hd : (x == ("__debug__" : Str)) = false := by decide) : Ev X d sc m σ (.Name x pos) p σ := by
  intro A env s ι Q E g hs S V h
  refine Name_function_global V.kind (by unfold Env.kindOf; refine rwr hs ?_; exact hk) (loadGlobal_global (mg := X.mg) ?_ e (h v s.heap s.toks ι (Step.refl S) (hr _ _ _ S.base))) hd
  rw [V.glob]
  exact hX.g.keeps S.base
theorem ev_bi {x : Str} {v : Value} (hX : X.OK) (hk : sc.names.lookup x = some .globalImplicit) (e : X.mg x = none) (hv : bootBuiltins x = some v) (hn : x ≠ "__name__") (hd : (x == ("__debug__" : Str)) = false := by decide) :
    Ev X d sc m σ (.Name x pos) (.stat v) σ := by
  intro A env s ι Q E g hs S V h
  refine Name_function_global V.kind (by unfold Env.kindOf; refine rwr hs ?_; exact hk) (loadGlobal_builtin (mg := X.mg) (mb := X.mb) ?_ e ?_ ((hX.builtins x hn).trans hv) (h v s.heap s.toks ι (Step.refl S) (.stat v))) hd
  · rw [V.glob]; exact hX.g.keeps S.base
  · rw [V.bi]; exact hX.b.keeps S.base
theorem ev_bin {l r' : Expr} {op : Operator} (h1 : Ev X d sc m σ l p σ₁) (h2 : Ev X d sc m σ₁ r' q σ₂) (h3 : Op2 X d σ₂ (binaryOp op) p q r σ₃) : Ev X d sc m σ (.BinOp l op r' pos) r σ₃ := by
  intro A env s ι Q E g hs S V h
  refine wpAny_BinOp (h1 A env s ι _ E g hs S V fun v h' tk ι' T R => ?_)
  refine h2 A env _ ι' _ E g hs T.sr (V.step S T) fun u h'' tk' ι'' T' R' => ?_
  refine h3 A _ ι'' v u _ E g T'.sr (R.step T.sr T') R' fun w h3 tk3 ι3 T3 R3 => ?_
  exact h w h3 tk3 ι3 ((T.trans T').trans T3) R3
theorem ev_cmp {l r' : Expr} {op : CmpOp} (h1 : Ev X d sc m σ l p σ₁) (h2 : Ev X d sc m σ₁ r' q σ₂) (h3 : Op2 X d σ₂ (compareOp op) p q r σ₃) (hb : behindInMarks op r' = false := by rfl) : Ev X d sc m σ (.Compare l [op] [r'] pos) r σ₃ := by
  intro A env s ι Q E g hs S V h
  refine wpAny_Compare1 (h1 A env s ι _ E g hs S V fun v h' tk ι' T R => ?_) hb
  refine h2 A env _ ι' _ E g hs T.sr (V.step S T) fun u h'' tk' ι'' T' R' => ?_
  refine h3 A _ ι'' v u _ E g T'.sr (R.step T.sr T') R' fun w h3 tk3 ι3 T3 R3 => ?_
  exact h w h3 tk3 ι3 ((T.trans T').trans T3) R3
theorem ev_un {e : Expr} {op : UnaryOp} (h1 : Ev X d sc m σ e p σ₁) (h3 : Op1 X d σ₁ (unaryOp op) p r σ₂) : Ev X d sc m σ (.UnaryOp op e pos) r σ₂ := by
  intro A env s ι Q E g hs S V h
  refine wpAny_UnaryOp (h1 A env s ι _ E g hs S V fun v h' tk ι' T R => ?_)
  exact h3 A _ ι' v _ E g T.sr R fun w h3 tk3 ι3 T3 R3 => h w h3 tk3 ι3 (T.trans T3) R3
theorem tst_ev {e : Expr} {b : Bool} (h1 : Ev X d sc m σ e p σ₁) (h2 : Tru X d σ₁ p b)
    (hw : ∀ (env : Env) (whole : Sem Value), isTrue e env whole = (do let v ← whole; standAt e.pos; holding [v] (truthy v)) := by intro _ _; rfl) : Tst X d sc m σ e b σ₁ := by
  intro A env s ι Q E g hs S V h
  refine wpAny_isTrue_value (h1 A env s ι _ E g hs S V fun v h' tk ι' T R => ?_) (hw _ _)
  exact h2 A _ ι' v _ E g T.sr R fun tk => h h' tk ι' T
theorem tst_cmp {l r' : Expr} {op : CmpOp} {b : Bool} (h1 : Ev X d sc m σ l p σ₁) (h2 : Ev X d sc m σ₁ r' q σ₂) (h3 : Op2 X d σ₂ (compareOp op) p q (.bool b) σ₃) (hb : behindInMarks op r' = false := by rfl) : Tst X d sc m σ (.Compare l [op] [r'] pos) b σ₃ := by
  intro A env s ι Q E g hs S V h
  refine wpAny_isTrue_Compare1 (h1 A env s ι _ E g hs S V fun v h' tk ι' T R => ?_) hb
  refine h2 A env _ ι' _ E g hs T.sr (V.step S T) fun u h'' tk' ι'' T' R' => ?_
  refine h3 A _ ι'' v u _ E g T'.sr (R.step T.sr T') R' fun w h3 tk3 ι3 T3 R3 => ?_
  obtain rfl := R3.bool_inv
  exact wpAny_truthy_bool (h h3 tk3 ι3 ((T.trans T').trans T3))
theorem tst_not {e : Expr} {b : Bool} (h1 : Tst X d sc m σ e b σ₁) : Tst X d sc m σ (.UnaryOp .Not e pos) (!b) σ₁ := by
  intro A env s ι Q E g hs S V h
  exact wpAny_isTrue_Not (h1 A env s ι _ E g hs S V fun h' tk ι' T => h h' tk ι' T)
noncomputable def All (X : Stat) (d : Nat) (sc : Scope) (m : Vm) (σ : Sto) (op : BoolOp) (es : List Expr) (b : Bool) (σ' : Sto) : Prop :=
  ∀ (A : Around) (env : Env) (s : Shared) (ι : Nat → Addr) (Q : Bool → Shared → Prop) (E : Value → Shared → Prop), Good d A → env.scope = sc → SR X.B ι σ s.heap → VR X.B ι σ env m s.heap →
    (∀ h' tk ι', Step X.B ι σ s.heap ι' σ' h' → Q b { s with heap := h', toks := tk }) → wpAny (model X.prog X.w) A (allTrue op es env) Q E s
theorem tst_bool {op : BoolOp} {es : List Expr} {b : Bool} (h : All X d sc m σ op es b σ₁) : Tst X d sc m σ (.BoolOp op es pos) b σ₁ := fun A env s ι Q E g hs S V k => wpAny_isTrue_BoolOp (h A env s ι Q E g hs S V k)
theorem all_and_nil : All X d sc m σ .And [] true σ := fun _ _ s ι _ _ _ _ S _ k => wpAny_allTrue_And_nil (k s.heap s.toks ι (Step.refl S))
theorem all_or_nil : All X d sc m σ .Or [] false σ := fun _ _ s ι _ _ _ _ S _ k => wpAny_allTrue_Or_nil (k s.heap s.toks ι (Step.refl S))
theorem all_and_t {e : Expr} {es : List Expr} {b : Bool} (h1 : Tst X d sc m σ e true σ₁) (h2 : All X d sc m σ₁ .And es b σ₂) : All X d sc m σ .And (e :: es) b σ₂ := by
  intro A env s ι Q E g hs S V h
  refine wpAny_allTrue_And_cons (h1 A env s ι _ E g hs S V fun h' tk ι' T => ?_)
  exact h2 A env _ ι' Q E g hs T.sr (V.step S T) fun h'' tk' ι'' T' => h h'' tk' ι'' (T.trans T')
theorem all_and_f {e : Expr} {es : List Expr} (h1 : Tst X d sc m σ e false σ₁) : All X d sc m σ .And (e :: es) false σ₁ := by
  intro A env s ι Q E g hs S V h
  refine wpAny_allTrue_And_cons (h1 A env s ι _ E g hs S V fun h' tk ι' T => ?_)
  exact h h' tk ι' T
theorem all_or_f {e : Expr} {es : List Expr} {b : Bool} (h1 : Tst X d sc m σ e false σ₁) (h2 : All X d sc m σ₁ .Or es b σ₂) : All X d sc m σ .Or (e :: es) b σ₂ := by
  intro A env s ι Q E g hs S V h
  refine wpAny_allTrue_Or_cons (h1 A env s ι _ E g hs S V fun h' tk ι' T => ?_)
  exact h2 A env _ ι' Q E g hs T.sr (V.step S T) fun h'' tk' ι'' T' => h h'' tk' ι'' (T.trans T')
theorem all_or_t {e : Expr} {es : List Expr} (h1 : Tst X d sc m σ e true σ₁) : All X d sc m σ .Or (e :: es) true σ₁ := by
  intro A env s ι Q E g hs S V h
  refine wpAny_allTrue_Or_cons (h1 A env s ι _ E g hs S V fun h' tk ι' T => ?_)
  exact h h' tk ι' T
theorem ev_ifT {t a b : Expr} (h1 : Tst X d sc m σ t true σ₁) (h2 : Ev X d sc m σ₁ a p σ₂) : Ev X d sc m σ (.IfExp t a b pos) p σ₂ := by
  intro A env s ι Q E g hs S V h
  refine wpAny_IfExp (h1 A env s ι _ E g hs S V fun h' tk ι' T => ?_)
  exact h2 A env _ ι' Q E g hs T.sr (V.step S T) fun v h'' tk' ι'' T' R => h v h'' tk' ι'' (T.trans T') R
theorem ev_ifF {t a b : Expr} (h1 : Tst X d sc m σ t false σ₁) (h2 : Ev X d sc m σ₁ b p σ₂) : Ev X d sc m σ (.IfExp t a b pos) p σ₂ := by
  intro A env s ι Q E g hs S V h
  refine wpAny_IfExp (h1 A env s ι _ E g hs S V fun h' tk ι' T => ?_)
  exact h2 A env _ ι' Q E g hs T.sr (V.step S T) fun v h'' tk' ι'' T' R => h v h'' tk' ι'' (T.trans T') R
theorem tru_bool {b : Bool} : Tru X d σ (.bool b) b := fun A s ι v Q E g S R h => by obtain rfl := R.bool_inv; exact wpAny_truthy_bool (h s.toks)
theorem evs_nil : Evs X d sc m σ [] [] σ := fun _ _ s ι _ _ _ _ _ S _ h => wpAny_items_nil (h [] s.heap s.toks ι (Step.refl S) .nil)
theorem evs_cons {e : Expr} {es : List Expr} {ps : List PV} (h1 : Ev X d sc m σ e p σ₁) (h2 : Evs X d sc m σ₁ es ps σ₂) (hs : ∀ env : Env, starEach (e :: es) env = (false, eval e env) :: starEach es env := by intro _; rfl) :
    Evs X d sc m σ (e :: es) (p :: ps) σ₂ := by
  intro A env s ι pos Q E g he S V h
  refine wpAny_items_cons (h1 A env s ι _ E g he S V fun v h' tk ι' T R => ?_) (hs env)
  exact h2 A env _ ι' pos _ E g he T.sr (V.step S T) fun vs h'' tk' ι'' T' R' => h _ h'' tk' ι'' (T.trans T') (.cons (R.step T.sr T') R')
theorem get_push {h : Heap} {o : Obj} (hf : o.data ≠ .freed := by intro h; cases h) : (h.push o).get? h.objs.size = some o := by
  obtain ⟨objs, l⟩ := h
  obtain ⟨c, dd, da, sl⟩ := o
  show (match (objs.push _)[objs.size]? with | some ⟨_, _, .freed, _⟩ => none | o => o) = _
  rw [Array.getElem?_push_size]
  cases da <;> first | rfl | exact absurd rfl hf
theorem Rep.grow {h h' : Heap} {ι ι' : Nat → Addr} {k k' : Nat} {p : PV} {v : Value} (r : Rep h ι k p v) (kp : ∀ b o, h.get? b = some o → h'.get? b = some o) (ki : ∀ n, n < k → ι' n = ι n) (hk : k ≤ k') : Rep h' ι' k' p v := by
  induction r with
  | none => exact .none
  | bool b => exact .bool b
  | int i t => exact .int i t
  | str s t => exact .str s t
  | bytes b t => exact .bytes b t
  | tup ha hl _ ih => exact .tup (isTuple_up ha fun o e => kp _ _ e) hl ih
  | @ref n hn => rw [← ki n hn]; exact .ref (Nat.lt_of_lt_of_le hn hk)
  | rng hr h1 h2 => exact .rng (kp _ _ hr) h1 h2
  | stat v => exact .stat v
theorem Step.push {B h : Heap} {ι : Nat → Addr} (S : SR B ι σ h) (o : Obj) : Step B ι σ h ι σ (h.push o) := by
  have k : ∀ b o', h.get? b = some o' → (h.push o).get? b = some o' := fun b o' e => Heap.get?_push_of_some _ e
  refine ⟨⟨fun b o' e => k _ _ (S.base b o' e), fun n l e => ?_, S.inj, S.fresh⟩, fun _ _ => rfl, Nat.le_refl _, fun n a b => absurd b (Nat.not_lt.mpr a), fun b o' e _ _ => k _ _ e⟩
  exact (S.cell n l e).mono rfl (fun o e => k _ o e) (fun p v r => r.grow k (fun _ _ => rfl) (Nat.le_refl _)) (fun _ _ => rfl) (Nat.le_refl _)
theorem ev_tup {es : List Expr} {k : Nat} {ps : List PV} (h1 : Evs X d sc m σ es ps σ₁) (hl : ps.length ≤ 16777216) : Ev X d sc m σ (.Tuple es k pos) (.tup ps) σ₁ := by
  intro A env s ι Q E g hs S V h
  refine wpAny_Tuple (h1 A env s ι pos _ E g hs S V fun vs h' tk ι' T R => ⟨by rw [← R.1, sizeLine_eq]; exact hl, ?_⟩)
  have U := Step.push T.sr { cls := .type "tuple", data := .seq vs.toArray }
  exact h _ _ tk ι' (T.trans U) (.tup (ex1 get_push ⟨rfl, 0, rfl⟩) R.1 (fun i p v a b => (R.2 i p v a b).step T.sr U))
theorem Step.pushCell {B h : Heap} {ι : Nat → Addr} (S : SR B ι σ h) {l : Cell} {ob : Obj} (R : ∀ (ι' : Nat → Addr) (k' : Nat), (∀ n, n < σ.length → ι' n = ι n) → σ.length ≤ k' → CellIs (h.push ob) ι' k' h.objs.size l) :
    Step B ι σ h (fun n => if n = σ.length then h.objs.size else ι n) (σ ++ [l]) (h.push ob) := by
  have kp : ∀ b o', h.get? b = some o' → (h.push ob).get? b = some o' := fun b o' e => Heap.get?_push_of_some _ e
  have ne : ∀ n, n < σ.length → (if n = σ.length then h.objs.size else ι n) = ι n := fun n hn => if_neg (Nat.ne_of_lt hn)
  have old : ∀ n, n < σ.length → ι n < h.objs.size := fun n hn => by obtain ⟨o, e⟩ := S.live_at hn; exact Heap.lt_size e
  have rr : ∀ p v, Rep h ι σ.length p v → Rep (h.push ob) (fun n => if n = σ.length then h.objs.size else ι n) (σ ++ [l]).length p v := fun p v r => r.grow kp (fun n hn => ne n hn) (by simp)
  have len : (σ ++ [l]).length = σ.length + 1 := by simp
  refine ⟨⟨fun b o' e => kp _ _ (S.base b o' e), fun n l' e => ?_, fun i j hi hj e => ?_, fun n hn => ?_⟩, ne, by refine rwr len ?_; lia, fun n a b => ?_, fun b o' e _ _ => kp _ _ e⟩
  · by_cases hn : n < σ.length
    · rw [List.getElem?_append_left hn] at e
      exact (S.cell n l' e).mono (ne n hn) (fun o e => kp _ o e) rr ne (by refine rwr len ?_; exact Nat.le_succ _)
    · have hn' : n = σ.length := by
        have := List.getElem?_eq_some_iff.mp e
        have h1 := this.1
        have _ := this.2
        rw [len] at h1
        lia
      subst hn'
      rw [List.getElem?_concat_length] at e
      cases e
      refine rwr (if_pos rfl) ?_
      exact R _ _ ne (by refine rwr len ?_; exact Nat.le_succ _)
  · rw [len] at hi hj
    by_cases h1 : i = σ.length <;> by_cases h2 : j = σ.length
    · refine rwr h1 ?_; rw [h2]
    · have h3 := old j (by lia)
      have e' : (if i = σ.length then h.objs.size else ι i) = (if j = σ.length then h.objs.size else ι j) := e
      rw [if_pos h1, if_neg h2] at e'
      exact absurd e' (Nat.ne_of_gt h3)
    · have h3 := old i (by lia)
      have e' : (if i = σ.length then h.objs.size else ι i) = (if j = σ.length then h.objs.size else ι j) := e
      rw [if_neg h1, if_pos h2] at e'
      exact absurd e' (Nat.ne_of_lt h3)
    · simp only [h1, h2, if_false] at e
      exact S.inj i j (by lia) (by lia) e
  · rw [len] at hn
    by_cases h1 : n = σ.length
    · simp only [h1, if_true]
      cases e : B.get? h.objs.size with
      | none => rfl
      | some o => exact absurd (Heap.lt_size (S.base _ o e)) (Nat.lt_irrefl _)
    · simp only [h1, if_false]; exact S.fresh n (by lia)
  · rw [len] at b
    have : n = σ.length := by lia
    simp only [this, if_true]
    refine ⟨?_, fun h => nomatch h⟩
    cases e : h.get? h.objs.size with
    | none => rfl
    | some o => exact absurd (Heap.lt_size e) (Nat.lt_irrefl _)
theorem Step.pushList {B h : Heap} {ι : Nat → Addr} (S : SR B ι σ h) {l : List PV} {vs : List Value} {k : Nat} (R : Reps h ι σ.length l vs) :
    Step B ι σ h (fun n => if n = σ.length then h.objs.size else ι n) (σ ++ [.lst l]) (h.push (listOf vs.toArray k)) :=
  Step.pushCell S fun ι' k' hi hk => (ex2 (p := vs) (s := k) get_push ⟨R.1, fun i p v a b => (R.2 i p v a b).grow (fun _ _ e => Heap.get?_push_of_some _ e) hi hk⟩)
theorem ev_list {es : List Expr} {ps : List PV} (h1 : Evs X d sc m σ es ps σ₁) (hl : ps.length ≤ 16777216) : Ev X d sc m σ (.List es pos) (.ref σ₁.length) (σ₁ ++ [.lst ps]) := by
  intro A env s ι Q E g hs S V h
  refine wpAny_List (h1 A env s ι pos _ E g hs S V fun vs h' tk ι' T R => ⟨by rw [← R.1, sizeLine_eq]; exact hl, ?_⟩)
  have U := Step.pushList (k := 0) T.sr R
  refine h _ _ tk _ (T.trans U) ?_
  have : Rep (h'.push (listOf vs.toArray 0)) (fun n => if n = σ₁.length then h'.objs.size else ι' n) (σ₁ ++ [Cell.lst ps]).length (.ref σ₁.length) (.ref ((fun n => if n = σ₁.length then h'.objs.size else ι' n) σ₁.length)) := .ref (by simp)
  simpa using this
end
noncomputable def put (m : Vm) (x : Str) (p : PV) : Vm := match m with
  | [] => [(x, p)]
  | (y, q) :: r => if (y == x) = true then (x, p) :: r else (y, q) :: put r x p
theorem lookup_put (x : Str) (p : PV) (y : Str) : ∀ m : Vm, (put m x p).lookup y = if (y == x) = true then some p else m.lookup y
  | [] => by
    unfold put
    rw [List.lookup_cons]
    cases h : y == x <;> simp
  | (z, q) :: r => by
    unfold put
    have ih := lookup_put x p y r
    by_cases hzx : (z == x) = true
    · rw [if_pos hzx, List.lookup_cons, List.lookup_cons]
      have : z = x := eq_of_beq hzx
      subst this
      cases h : y == z <;> simp
    · rw [if_neg hzx, List.lookup_cons, List.lookup_cons, ih]
      cases h : y == z with
      | false => rfl
      | true =>
        have : y = z := eq_of_beq h
        subst this
        exact (if_neg hzx).symm
theorem ns_uniq {h : Heap} {a : Addr} {m m' : Str → Option Value} (x : h.Ns a m) (y : h.Ns a m') : m = m' := by
  obtain ⟨o, es, ep, e, hd, _, f⟩ := x
  obtain ⟨o', es', ep', e', hd', _, f'⟩ := y
  rw [e] at e'
  cases e'
  rw [hd] at hd'
  cases hd'
  funext z
  rw [← f z, ← f' z]
section
variable {X : Stat} {d : Nat} {sc : Scope} {m m₁ m₂ : Vm} {σ σ₁ σ₂ σ₃ : Sto} {p q r : PV} {pos : Pos} {B h h' : Heap} {ι ι' : Nat → Addr} {env : Env}
theorem VR.soft (V : VR B ι σ env m h) : Soft (Own env) h := fun a ha => by
  have k : ∃ o, h.get? a = some o ∧ ((∃ es n, o.data = .dict es n) ∨ ∃ v, o.data = .cell v) := by
    rcases List.mem_cons.mp ha with rfl | hm
    · obtain ⟨mv, o, es, ep, e, hd, _⟩ := V.ns
      exact ⟨o, e, .inl ⟨es, ep, hd⟩⟩
    · obtain ⟨v, o, e, hd⟩ := V.cells a hm
      exact ⟨o, e, .inr ⟨v, hd⟩⟩
  obtain ⟨o, e, hk⟩ := k
  refine ⟨fun vs q => ?_, fun x y z t u v q => ?_⟩
  · obtain ⟨o', q, _, n, q2⟩ := q
    rw [q] at e
    cases e
    rw [q2] at hk
    rcases hk with ⟨es, n', hd⟩ | ⟨v, hd⟩ <;> cases hd
  · have q' := q
    unfold IsRange at q'
    rw [q'] at e
    cases e
    rcases hk with ⟨es, n', hd⟩ | ⟨v, hd⟩ <;> cases hd
theorem chg_same {a : Addr} {D : List Addr} (S : SR B ι σ h) (hD : Soft D h) (ha : a ∈ D) (hn : ∀ n, n < σ.length → ι n ≠ a) (hB : B.get? a = none) (hs : Heap.SameBut a h h') : Chg D B ι σ h ι σ h' := by
  have kp : ∀ b o, h.get? b = some o → b ≠ a → h'.get? b = some o := fun b o e hb => (hs.2 b hb).trans e
  have T0 : ∀ p v, Rep h ι σ.length p v → Rep h' ι σ.length p v := by
    intro p v r
    induction r with
    | none => exact .none
    | bool b => exact .bool b
    | int i t => exact .int i t
    | str s t => exact .str s t
    | bytes b t => exact .bytes b t
    | @tup l b vs hb hl _ ih => exact .tup (isTuple_up hb fun o e => kp _ _ e fun q => (hD a ha).1 vs (q ▸ hb)) hl ih
    | ref hn => exact .ref hn
    | @rng a' c n r b t u v hr h1 h2 =>
      refine .rng (kp _ _ hr fun q => ?_) h1 h2
      subst q
      exact (hD _ ha).2 _ _ _ _ _ _ hr
    | stat v => exact .stat v
  refine ⟨⟨fun b o e => kp b o (S.base b o e) fun q => ?_, fun n l e => ?_, S.inj, S.fresh⟩, fun _ _ => rfl, Nat.le_refl _, fun n a b => absurd b (Nat.not_lt.mpr a), fun b o e _ hb => kp b o e fun q => hb (q ▸ ha)⟩
  · subst q
    rw [hB] at e
    exact nn e
  · have hl : n < σ.length := (List.getElem?_eq_some_iff.mp e).1
    exact (S.cell n l e).mono rfl (fun o e1 => kp _ _ e1 (hn n hl)) T0 (fun _ _ => rfl) (Nat.le_refl _)
theorem apart_same {a : Addr} {l : List Addr} (V : ∀ b ∈ l, (∀ n, n < σ.length → ι n ≠ b) ∧ B.get? b = none ∧ ∃ o, h.get? b = some o) (hx : ∃ o, h'.get? a = some o) (hs : Heap.SameBut a h h') :
    ∀ b ∈ l, (∀ n, n < σ.length → ι n ≠ b) ∧ B.get? b = none ∧ ∃ o, h'.get? b = some o := fun b hb => by
  obtain ⟨h1, h2, o, h3⟩ := V b hb
  refine ⟨h1, h2, ?_⟩
  by_cases e : b = a
  · subst e; exact hx
  · exact ⟨o, (hs.2 b e).trans h3⟩
theorem cell_ne (hn : (Own env).Nodup) {x y : Str} {c c' : Addr} (e : env.cells.lookup x = some c) (e' : env.cells.lookup y = some c') (hxy : x ≠ y) : c ≠ c' := by
  have hn' : (env.cells.map (·.2)).Nodup := (List.nodup_cons.mp hn).2
  revert e e' hn'
  induction env.cells with
  | nil => intro e; exact nn e
  | cons z r ih =>
    obtain ⟨z, a⟩ := z
    intro e e' hn'
    rw [List.map_cons, List.nodup_cons] at hn'
    rw [List.lookup_cons] at e e'
    cases h1 : x == z <;> cases h2 : y == z <;> simp only [h1, h2] at e e'
    · exact ih e e' hn'.2
    · cases e'
      rintro rfl
      exact hn'.1 (lookup_mem e)
    · cases e
      rintro rfl
      exact hn'.1 (lookup_mem e')
    · exact absurd ((eq_of_beq h1).trans (eq_of_beq h2).symm) hxy
theorem store_rule {A : Around} {s : Shared} {E : Value → Shared → Prop} {Q : Unit → Shared → Prop} {x : Str} {v : Value} (S : SR X.B ι σ s.heap) (V : VR X.B ι σ env m s.heap) (R : Rep s.heap ι σ.length p v)
    (hk : env.kindOf x = some .local ∨ env.kindOf x = some .cell)
    (k : ∀ h' tk, Turn X.B env ι σ s.heap ι σ h' → VR X.B ι σ env (put m x p) h' → Q () { s with heap := h', toks := tk }) : wpAny (model X.prog X.w) A (storeName env x v) Q E s := by
  have hloc : env.locals ∉ env.cells.map (·.2) := (List.nodup_cons.mp V.nodup).1
  rcases hk with hk | hk
  · obtain ⟨mv, hn⟩ := V.ns
    refine wpAny_storeName_local hk hn (fun h' hn' hs => ?_) (by rw [V.kind]; rfl)
    have A0 := V.apart env.locals List.mem_cons_self
    have T : Turn X.B env ι σ s.heap ι σ h' := chg_same S V.soft List.mem_cons_self A0.1 A0.2.1 hs
    refine k h' _ T ⟨V.kind, V.glob, V.bi, ⟨_, hn'⟩, V.cell, fun a ha => ?_, fun y q e => ?_, apart_same V.apart (let ⟨o, _, _, e, _⟩ := hn'; ⟨o, e⟩) hs, V.nodup⟩
    · obtain ⟨cv, o, e, hd⟩ := V.cells a ha
      exact ⟨cv, o, (hs.2 a fun q => hloc (q ▸ ha)).trans e, hd⟩
    · rw [lookup_put] at e
      by_cases hy : (y == x) = true
      · rw [if_pos hy] at e
        cases e
        have : y = x := eq_of_beq hy
        subst this
        refine (ex1 (p := v) ?_ (R.chg V.soft S T))
        unfold VarAt
        refine rwr hk ?_
        exact (ex1 hn' (by simp))
      · rw [if_neg hy] at e
        obtain ⟨u, a, r⟩ := V.var y q e
        have hne : y ≠ x := fun q => hy (by refine rwr q ?_; exact beq_self_eq_true x)
        refine (ex1 (p := u) ?_ (r.chg V.soft S T))
        unfold VarAt at a ⊢
        split at a
        · obtain ⟨mv', hn2, e2⟩ := a
          refine (ex1 hn' ?_)
          have : mv' = mv := ns_uniq hn2 hn
          subst this
          simp only [if_neg hne]
          exact e2
        · obtain ⟨c, hl, o, e2, hd⟩ := a
          exact ⟨c, hl, o, (hs.2 c fun q => hloc (q ▸ lookup_mem hl)).trans e2, hd⟩
        · obtain ⟨c, hl, o, e2, hd⟩ := a
          exact ⟨c, hl, o, (hs.2 c fun q => hloc (q ▸ lookup_mem hl)).trans e2, hd⟩
        · exact a.elim
  · obtain ⟨c, hc⟩ := V.cell x hk
    have hm : c ∈ env.cells.map (·.2) := lookup_mem hc
    obtain ⟨cv, hcell⟩ := V.cells c hm
    refine wpAny_storeName_cell V.kind hk hc hcell fun h' hc' hs => ?_
    have A0 := V.apart c (List.mem_cons_of_mem _ hm)
    have T : Turn X.B env ι σ s.heap ι σ h' := chg_same S V.soft (List.mem_cons_of_mem _ hm) A0.1 A0.2.1 hs
    have hcl : env.locals ≠ c := fun q => hloc (q ▸ hm)
    refine k h' _ T ⟨V.kind, V.glob, V.bi, ?_, V.cell, fun a ha => ?_, fun y q e => ?_, apart_same V.apart (let ⟨o, e, _⟩ := hc'; ⟨o, e⟩) hs, V.nodup⟩
    · obtain ⟨mv, hn⟩ := V.ns
      exact ⟨mv, hn.sameBut hs hcl⟩
    · by_cases hac : a = c
      · subst hac; exact ⟨_, hc'⟩
      · obtain ⟨cv, o, e, hd⟩ := V.cells a ha
        exact ⟨cv, o, (hs.2 a hac).trans e, hd⟩
    · rw [lookup_put] at e
      by_cases hy : (y == x) = true
      · rw [if_pos hy] at e
        cases e
        have : y = x := eq_of_beq hy
        subst this
        refine (ex1 (p := v) ?_ (R.chg V.soft S T))
        unfold VarAt
        refine rwr hk ?_
        exact (ex1 (p := c) hc hc')
      · rw [if_neg hy] at e
        obtain ⟨u, a, r⟩ := V.var y q e
        have hne : y ≠ x := fun q => hy (by refine rwr q ?_; exact beq_self_eq_true x)
        refine (ex1 (p := u) ?_ (r.chg V.soft S T))
        unfold VarAt at a ⊢
        split at a
        · obtain ⟨mv', hn2, e2⟩ := a
          exact (ex1 (p := mv') (hn2.sameBut hs hcl) e2)
        · obtain ⟨c', hl, o, e2, hd⟩ := a
          exact ⟨c', hl, o, (hs.2 c' (cell_ne V.nodup hl hc hne)).trans e2, hd⟩
        · obtain ⟨c', hl, o, e2, hd⟩ := a
          exact ⟨c', hl, o, (hs.2 c' (cell_ne V.nodup hl hc hne)).trans e2, hd⟩
        · exact a.elim
theorem exs_nil : Exs X d sc m σ [] .next m σ := fun _ _ s ι _ _ _ _ S V k => wpAny_execs_nil (k .next s.heap s.toks ι (Chg.refl S) V trivial)
theorem exs_cons {st : Stmt} {sts : List Stmt} {f : AF} (h1 : Ex X d sc m σ st .next m₁ σ₁) (h2 : Exs X d sc m₁ σ₁ sts f m₂ σ₂) : Exs X d sc m σ (st :: sts) f m₂ σ₂ := by
  intro A env s ι Q E g hs S V k
  refine wpAny_execs_cons (h1 A env s ι _ E g hs S V fun fl h' tk ι' T V' F => ?_)
  cases fl with
  | next => exact h2 A env _ ι' Q E g hs T.sr V' fun fl h'' tk' ι'' T' V'' F' => k fl h'' tk' ι'' (T.trans T') V'' F'
  | _ => exact F.elim
noncomputable def AF.stops : AF → Prop
  | .next => False
  | _ => True
theorem exs_stop {st : Stmt} {sts : List Stmt} {f : AF} (h1 : Ex X d sc m σ st f m₁ σ₁) (hf : f.stops) : Exs X d sc m σ (st :: sts) f m₁ σ₁ := by
  intro A env s ι Q E g hs S V k
  refine wpAny_execs_cons (h1 A env s ι _ E g hs S V fun fl h' tk ι' T V' F => ?_)
  cases fl with
  | next => cases f <;> first | exact hf.elim | exact F.elim
  | _ => exact k _ h' tk ι' T V' F
theorem ex_ret {e : Expr} (h1 : Ev X d sc m σ e p σ₁) : Ex X d sc m σ (.Return (some e) pos) (.ret p) m σ₁ := by
  intro A env s ι Q E g hs S V k
  exact wpAny_Return_some (h1 A env s ι _ E g hs S V fun v h' tk ι' T R => k _ h' tk ι' (T.on V) (V.step S T) R)
theorem ex_assign {x : Str} {px : Pos} {e : Expr} (h1 : Ev X d sc m σ e p σ₁) (hk : sc.names.lookup x = some .local ∨ sc.names.lookup x = some .cell)
    (hsw : ∀ env : Env, env.scope = sc → swapsWith e (some (.Name x px)) pos.line env = pure false := by intro _ _; rfl) : Ex X d sc m σ (.Assign [.Name x px] e pos) .next (put m x p) σ₁ := by
  intro A env s ι Q E g hs S V k
  refine wpAny_Assign_Name (h1 A env s ι _ E g hs S V fun v h' tk ι' T R => ?_) (hsw env hs)
  refine store_rule (s := { s with heap := h', toks := tk }) T.sr (V.step S T) R (by unfold Env.kindOf; refine rwr hs ?_; exact hk) fun h'' tk' T' V' => ?_
  exact k .next h'' tk' ι' ((T.on V).trans T') V' trivial
theorem ex_ifT {t : Expr} {a b : List Stmt} {f : AF} (h1 : Tst X d sc m σ t true σ₁) (h2 : Exs X d sc m σ₁ a f m₁ σ₂) : Ex X d sc m σ (.If t a b pos) f m₁ σ₂ := by
  intro A env s ι Q E g hs S V k
  refine wpAny_If (h1 A env s ι _ E g hs S V fun h' tk ι' T => ?_)
  exact h2 A env _ ι' Q E g hs T.sr (V.step S T) fun fl h'' tk' ι'' T' V' F => k fl h'' tk' ι'' ((T.on V).trans T') V' F
theorem ex_ifF {t : Expr} {a b : List Stmt} {f : AF} (h1 : Tst X d sc m σ t false σ₁) (h2 : Exs X d sc m σ₁ b f m₁ σ₂) : Ex X d sc m σ (.If t a b pos) f m₁ σ₂ := by
  intro A env s ι Q E g hs S V k
  refine wpAny_If (h1 A env s ι _ E g hs S V fun h' tk ι' T => ?_)
  exact h2 A env _ ι' Q E g hs T.sr (V.step S T) fun fl h'' tk' ι'' T' V' F => k fl h'' tk' ι'' ((T.on V).trans T') V' F
theorem ex_pass : Ex X d sc m σ (.Pass pos) .next m σ := fun _ _ s ι _ _ _ _ S V k => wpAny_Pass (k .next s.heap s.toks ι (Chg.refl S) V trivial)
theorem ex_break : Ex X d sc m σ (.Break pos) .brk m σ := fun _ _ s ι _ _ _ _ S V k => wpAny_Break (k .brk s.heap s.toks ι (Chg.refl S) V trivial)
theorem ex_continue : Ex X d sc m σ (.Continue pos) .cont m σ := fun _ _ s ι _ _ _ _ S V k => wpAny_Continue (k .cont s.heap s.toks ι (Chg.refl S) V trivial)
theorem ex_expr {e : Expr} (h1 : Ev X d sc m σ e .none σ₁) (hi : ∀ env : Env, swapsWith e none pos.line env = pure false := by intro _; rfl) : Ex X d sc m σ (.Expr e pos) .next m σ₁ := by
  intro A env s ι Q E g hs S V k
  refine wpAny_Expr ?_ ?_ (hi env)
  · refine h1 A env s ι _ E g hs S V fun v h' tk ι' T R => ?_
    obtain rfl := R.none_inv
    exact k .next h' tk ι' (T.on V) (V.step S T) trivial
  · unfold interactive
    rw [V.kind]
    rfl
end
section
variable {X : Stat} {d : Nat} {sc : Scope} {m m₁ m₂ : Vm} {σ σ₁ σ₂ σ₃ : Sto} {p q r : PV} {pos : Pos} {B h h' : Heap} {ι ι' : Nat → Addr} {env : Env}
noncomputable def WL (X : Stat) (d : Nat) (sc : Scope) (t : Expr) (body : List Stmt) (m : Vm) (σ : Sto) (f : AF) (m' : Vm) (σ' : Sto) : Prop :=
  ∀ (A : Around) (env : Env) (s : Shared) (ι : Nat → Addr) (R : Result → Shared → Prop), Good d A → env.scope = sc → SR X.B ι σ s.heap → VR X.B ι σ env m s.heap →
    (∀ fl h' tk ι', Turn X.B env ι σ s.heap ι' σ' h' → VR X.B ι' σ' env m' h' → FlowIs h' ι' σ'.length f fl → R (.ok fl) { s with heap := h', toks := tk }) → codeAny (model X.prog X.w) A (.whileLoop t body [] env) R s
theorem while1 {prog : Program} {w : World} {A : Around} {R : Result → Shared → Prop} {s : Shared} {test : Expr} {body orelse : List Stmt} {env : Env}
    (turn : wpAny (model prog w) A (isTrue test env (eval test env)) (fun b s₂ =>
        if b = true then wpAny (model prog w) A (execs body env) (fun f s₃ => match f with
            | .next | .cont => codeAny (model prog w) A (.whileLoop test body orelse env) R s₃
            | .brk => R (.ok .next) s₃
            | .ret v => R (.ok (.ret v)) s₃) (notedBy (model prog w) A env fun e s' => R (.error e) s') s₂
        else wpAny (model prog w) A (execs orelse env) (fun f s₃ => R (.ok f) s₃) (notedBy (model prog w) A env fun e s' => R (.error e) s') s₂)
        (notedBy (model prog w) A env fun e s' => R (.error e) s') s) : codeAny (model prog w) A (.whileLoop test body orelse env) R s := by
  refine codeAny_of_tree ?_
  show wpAny _ A ((whileTurn test body orelse env).onRaise (fun x => do noteFrame x env; theTreesLotGoes x)) _ _ s
  refine wpAny_noted ?_
  simp only [whileTurn]
  refine wpAny_bind (wpAny_mono turn (fun b s₂ h₂ => ?_) fun _ _ h' => h')
  cases b with
  | false =>
    simp only [Bool.false_eq_true, if_false] at h₂ ⊢
    exact wpAny_bind (wpAny_mono h₂ (fun f s₃ h₃ => wpAny_pure h₃) fun _ _ h' => h')
  | true =>
    simp only [if_true] at h₂ ⊢
    refine wpAny_bind (wpAny_mono h₂ (fun f s₃ h₃ => ?_) fun _ _ h' => h')
    cases f with
    | next => exact wpAny_pure ⟨rfl, h₃⟩
    | cont => exact wpAny_pure ⟨rfl, h₃⟩
    | brk => exact wpAny_pure h₃
    | ret v => exact wpAny_pure h₃
theorem wl_done {t : Expr} {body : List Stmt} (h1 : Tst X d sc m σ t false σ₁) : WL X d sc t body m σ .next m σ₁ := by
  intro A env s ι R g hs S V k
  refine while1 (h1 A env s ι _ _ g hs S V fun h' tk ι' T => ?_)
  simp only [Bool.false_eq_true, if_false]
  exact wpAny_execs_nil (k .next h' tk ι' (T.on V) (V.step S T) trivial)
noncomputable def AF.on : AF → Prop
  | .next => True
  | .cont => True
  | _ => False
theorem wl_turn {t : Expr} {body : List Stmt} {f f' : AF} (h1 : Tst X d sc m σ t true σ₁) (h2 : Exs X d sc m σ₁ body f m₁ σ₂) (hf : f.on) (h3 : WL X d sc t body m₁ σ₂ f' m₂ σ₃) : WL X d sc t body m σ f' m₂ σ₃ := by
  intro A env s ι R g hs S V k
  refine while1 (h1 A env s ι _ _ g hs S V fun h' tk ι' T => ?_)
  simp only [if_true]
  refine h2 A env _ ι' _ _ g hs T.sr (V.step S T) fun fl h'' tk' ι'' T' V' F => ?_
  have go := h3 A env { s with heap := h'', toks := tk' } ι'' R g hs T'.sr V' fun fl h3 tk3 ι3 T3 V3 F3 => k fl h3 tk3 ι3 (((T.on V).trans T').trans T3) V3 F3
  cases f <;> cases fl <;> first | exact hf.elim | exact F.elim | exact go
theorem wl_brk {t : Expr} {body : List Stmt} (h1 : Tst X d sc m σ t true σ₁) (h2 : Exs X d sc m σ₁ body .brk m₁ σ₂) : WL X d sc t body m σ .next m₁ σ₂ := by
  intro A env s ι R g hs S V k
  refine while1 (h1 A env s ι _ _ g hs S V fun h' tk ι' T => ?_)
  simp only [if_true]
  refine h2 A env _ ι' _ _ g hs T.sr (V.step S T) fun fl h'' tk' ι'' T' V' F => ?_
  cases fl <;> first | exact F.elim | exact k _ h'' tk' ι'' ((T.on V).trans T') V' trivial
theorem wl_ret {t : Expr} {body : List Stmt} (h1 : Tst X d sc m σ t true σ₁) (h2 : Exs X d sc m σ₁ body (.ret p) m₁ σ₂) : WL X d sc t body m σ (.ret p) m₁ σ₂ := by
  intro A env s ι R g hs S V k
  refine while1 (h1 A env s ι _ _ g hs S V fun h' tk ι' T => ?_)
  simp only [if_true]
  refine h2 A env _ ι' _ _ g hs T.sr (V.step S T) fun fl h'' tk' ι'' T' V' F => ?_
  cases fl <;> first | exact F.elim | exact k _ h'' tk' ι'' ((T.on V).trans T') V' F
theorem ex_while {t : Expr} {body : List Stmt} {f : AF} (h : WL X d sc t body m σ f m₁ σ₁) : Ex X d sc m σ (.While t body [] pos) f m₁ σ₁ := by
  intro A env s ι Q E g hs S V k
  refine wpAny_While (h A env s ι _ g hs S V fun fl h' tk ι' T V' F => ?_)
  exact k fl h' tk ι' T V' F
inductive AI where
  | fix (items : List PV)
  | tfix (items : List PV)
  | lst (n i : Nat)
noncomputable def NoVal (h : Heap) (I : Addr) : Prop := ∃ o T, h.get? I = some o ∧ o.cls = .type T ∧ T ≠ "tuple" ∧ T ≠ "range"
theorem NoVal.soft {D : List Addr} (x : ∀ a ∈ D, NoVal h a) : Soft D h := fun b hb => by
  obtain ⟨o, T, e, hc, h1, h2⟩ := x b hb
  refine ⟨fun vs q => ?_, fun x y z t u v q => ?_⟩
  · obtain ⟨o', q, hc', _⟩ := q
    rw [e] at q; cases q; rw [hc] at hc'; cases hc'; exact h1 rfl
  · unfold IsRange at q; rw [e] at q; cases q; cases hc; exact h2 rfl
theorem NoVal.live {a : Addr} (x : NoVal h a) : ∃ o, h.get? a = some o := let ⟨o, _, e, _⟩ := x; ⟨o, e⟩
inductive ItF (X : Stat) (h : Heap) (fp wr : List Addr) (I : Addr) (items : List PV) : Prop
  | mk (n i : Nat) (P : Nat → Value → Prop) (St : Nat → Heap → Prop) (W : ∀ A : Around, A.handled = none → Walks X.prog X.w A I fp wr n P St) (st : St i h) (hn : i + items.length = n) (hc : ∀ j h, St j h → ∀ a ∈ wr, NoVal h a)
      (hp : ∀ j v p, P (i + j) v → items[j]? = some p → ∀ (h : Heap) (ι : Nat → Addr) (k : Nat), Rep h ι k p v)
inductive ItT (X : Stat) (h : Heap) (fp wr : List Addr) (I : Addr) (items : List PV) : Prop
  | mk (n i : Nat) (P : Nat → Array Value → Prop) (St : Nat → Heap → Prop) (Mid : Nat → Addr → Heap → Prop) (W : ∀ A : Around, A.handled = none → WalksT X.prog X.w A I fp wr n P St Mid) (st : St i h) (hn : i + items.length = n)
      (hc : ∀ j h, St j h → ∀ a ∈ wr, NoVal h a) (hm : ∀ j T h, Mid j T h → ∀ a ∈ wr, NoVal h a)
      (hp : ∀ j vs p, P (i + j) vs → items[j]? = some p → ∃ ps, p = .tup ps ∧ ∀ (h : Heap) (ι : Nat → Addr) (k : Nat), Reps h ι k ps vs.toList)
noncomputable def ItR (X : Stat) (h : Heap) (ι : Nat → Addr) (fp wr : List Addr) (I : Addr) : AI → Prop
  | .fix items => ItF X h fp wr I items
  | .tfix items => ItT X h fp wr I items
  | .lst n i => fp = [I] ∧ wr = [I] ∧ h.IsListIter I (ι n) i
noncomputable def AIn (σ : Sto) : AI → Prop
  | .lst n _ => n < σ.length
  | _ => True
structure Itr (X : Stat) (h : Heap) (ι : Nat → Addr) (σ : Sto) (env : Env) (fp wr : List Addr) (I : Addr) (a : AI) : Prop where
  sub : ∀ b ∈ wr, b ∈ fp
  it : ItR X h ι fp wr I a
  apart : ∀ b ∈ fp, (∀ n, n < σ.length → ι n ≠ b) ∧ (b ∈ wr → X.B.get? b = none) ∧ ∃ o, h.get? b = some o
  own : ∀ b ∈ fp, b ∉ Own env
  in_ : AIn σ a
theorem Itr.noVal {fp wr : List Addr} {I : Addr} {a : AI} (x : Itr X h ι σ env fp wr I a) : ∀ b ∈ wr, NoVal h b := by
  cases a with
  | fix items => obtain ⟨n, i, P, St, W, st, hn, hc, hp⟩ := x.it; exact hc i h st
  | tfix items => obtain ⟨n, i, P, St, Mid, W, st, hn, hc, _⟩ := x.it; exact hc i h st
  | lst n i =>
    obtain ⟨_, hw, o, e, hc, _⟩ := x.it
    subst hw
    intro b hb
    rw [List.mem_singleton.mp hb]
    exact (ex2 (p := o) (s := _) e ⟨hc, by decide, by decide⟩)
theorem Itr.soft {fp wr : List Addr} {I : Addr} {a : AI} (x : Itr X h ι σ env fp wr I a) : Soft wr h := NoVal.soft x.noVal
theorem Heap.IsListIter.up {h h' : Heap} {a l : Addr} {i : Nat} (x : h.IsListIter a l i) (e : ∀ o, h.get? a = some o → h'.get? a = some o) : h'.IsListIter a l i := let ⟨o, ho, r⟩ := x; ⟨o, e _ ho, r⟩
theorem Itr.chg {D : List Addr} {fp wr : List Addr} {I : Addr} {a : AI} (x : Itr X h ι σ env fp wr I a) (T : Chg D X.B ι σ h ι' σ₁ h') (hD : ∀ b ∈ fp, b ∉ D) : Itr X h' ι' σ₁ env fp wr I a := by
  have kp : ∀ b ∈ fp, ∀ o, h.get? b = some o → h'.get? b = some o := fun b hb o e => T.kept b o e (x.apart b hb).1 (hD b hb)
  refine ⟨x.sub, ?_, apart_chg hD x.apart T, x.own, ?_⟩
  · cases a with
    | fix items =>
      obtain ⟨n, i, P, St, W, st, hn, hc, hp⟩ := x.it
      exact ⟨n, i, P, St, W, (W { handled := none } rfl).frame i h h' st kp, hn, hc, hp⟩
    | tfix items =>
      obtain ⟨n, i, P, St, Mid, W, st, hn, hc, hm, hp⟩ := x.it
      exact ⟨n, i, P, St, Mid, W, (W { handled := none } rfl).frame i h h' st kp, hn, hc, hm, hp⟩
    | lst n i =>
      obtain ⟨e, ew, it⟩ := x.it
      have hn : n < σ.length := x.in_
      refine ⟨e, ew, ?_⟩
      rw [T.ext n hn]
      exact Heap.IsListIter.up it (kp I (by rw [e]; exact List.mem_singleton.mpr rfl))
  · cases a with
    | fix items => trivial
    | tfix items => trivial
    | lst n i => exact Nat.lt_of_lt_of_le x.in_ T.len
theorem chg_off {D : List Addr} (S : SR B ι σ h) (hD : Soft D h) (hn : ∀ a ∈ D, ∀ n, n < σ.length → ι n ≠ a) (hB : ∀ a ∈ D, B.get? a = none) (kp : ∀ b o, b ∉ D → h.get? b = some o → h'.get? b = some o) : Chg D B ι σ h ι σ h' := by
  have T0 : ∀ p v, Rep h ι σ.length p v → Rep h' ι σ.length p v := by
    intro p v r
    induction r with
    | none => exact .none
    | bool b => exact .bool b
    | int i t => exact .int i t
    | str s t => exact .str s t
    | bytes b t => exact .bytes b t
    | @tup l b vs hb hl _ ih => exact .tup (isTuple_up hb fun o e => kp _ _ (fun q => (hD b q).1 vs hb) e) hl ih
    | ref hn => exact .ref hn
    | @rng a' c n r b t u v hr h1 h2 => exact .rng (kp _ _ (fun q => (hD _ q).2 _ _ _ _ _ _ hr) hr) h1 h2
    | stat v => exact .stat v
  refine ⟨⟨fun b o e => kp b o (fun q => ?_) (S.base b o e), fun n l e => ?_, S.inj, S.fresh⟩, fun _ _ => rfl, Nat.le_refl _, fun n a b => absurd b (Nat.not_lt.mpr a), fun b o e _ hb => kp b o hb e⟩
  · rw [hB b q] at e
    exact nn e
  · have hl : n < σ.length := (List.getElem?_eq_some_iff.mp e).1
    exact (S.cell n l e).mono rfl (fun o e1 => kp _ _ (fun q => hn _ q n hl rfl) e1) T0 (fun _ _ => rfl) (Nat.le_refl _)
theorem Itr.off {fp wr : List Addr} {I : Addr} {a : AI} (x : Itr X h ι σ env fp wr I a) (S : SR X.B ι σ h) (kp : ∀ b o, b ∉ wr → h.get? b = some o → h'.get? b = some o) : Chg wr X.B ι σ h ι σ h' :=
  chg_off S x.soft (fun a ha => (x.apart a (x.sub a ha)).1) (fun a ha => (x.apart a (x.sub a ha)).2.1 ha) kp
theorem apart_it {fp wr : List Addr} {P : Addr → Prop} (V : ∀ b ∈ fp, (∀ n, n < σ.length → ι n ≠ b) ∧ P b ∧ ∃ o, h.get? b = some o) (T : Chg wr B ι σ h ι σ h') (hI : ∀ b ∈ wr, ∃ o, h'.get? b = some o) :
    ∀ b ∈ fp, (∀ n, n < σ.length → ι n ≠ b) ∧ P b ∧ ∃ o, h'.get? b = some o := fun b hb => by
  obtain ⟨h1, h2, o, h3⟩ := V b hb
  refine ⟨h1, h2, ?_⟩
  by_cases e : b ∈ wr
  · exact hI b e
  · exact ⟨o, T.kept b o h3 h1 e⟩
theorem isList_of {l : Addr} {vs : List Value} {n : Nat} (e : h.get? l = some (listOf vs.toArray n)) : h.IsList l vs.toArray := (ex1 e ⟨rfl, n, rfl⟩)
noncomputable def Nxt (σ : Sto) : AI → Option (PV × AI) → Prop
  | .fix [], r => r = none
  | .fix (p :: t), r => r = some (p, .fix t)
  | .tfix [], r => r = none
  | .tfix (p :: t), r => r = some (p, .tfix t)
  | .lst n i, r => ∃ l, σ[n]? = some (.lst l) ∧ ((l.length ≤ i ∧ r = none) ∨ ∃ p, l[i]? = some p ∧ r = some (p, .lst n (i + 1)))
noncomputable def NoGo (t : Expr) (a : AI) : Prop := match a with
  | .fix _ => t.ctorIdx = 23
  | .tfix _ => t.ctorIdx = 25
  | .lst .. => t.ctorIdx = 23 ∨ t.ctorIdx = 25
theorem letGo_name {M : Model} {A : Around} {s : Shared} {E : Value → Shared → Prop} {Q : Unit → Shared → Prop} {x : Str} {px : Pos} {it v : Value} (k : Q () s) : wpAny M A (letOwnedTupleGo (.Name x px) it v) Q E s := wpAny_pure k
@[elab_as_elim] theorem is_name {C : Expr → Prop} {t : Expr} (h : t.ctorIdx = 23) (f : ∀ x p, C (.Name x p)) : C t := Expr.Name.elim (motive_1 := C) t h f
@[elab_as_elim] theorem is_tup {C : Expr → Prop} {t : Expr} (h : t.ctorIdx = 25) (f : ∀ l n p, C (.Tuple l n p)) : C t := Expr.Tuple.elim (motive_1 := C) t h f
theorem letGo_lst {M : Model} {A : Around} {s : Shared} {E : Value → Shared → Prop} {Q : Unit → Shared → Prop} {l : List Expr} {n : Nat} {px : Pos} {I la : Addr} {i : Nat} {v : Value} (it : s.heap.IsListIter I la i) (k : Q () s) : wpAny M A (letOwnedTupleGo (.Tuple l n px) (.ref I) v) Q E s := by
  obtain ⟨o, e, hc, hd⟩ := it
  unfold letOwnedTupleGo
  cases v <;> first | exact wpAny_pure k | skip
  refine wpAny_bind (wpAny_load e ?_)
  simp only [hc, hd]
  exact wpAny_pure k
theorem Itr.take {A : Around} {s : Shared} {E : Value → Shared → Prop} {Q : Value → Shared → Prop} {N' : Shared → Prop} {fp wr : List Addr} {I : Addr} {a a' : AI} {t : Expr} (x : Itr X s.heap ι σ env fp wr I a) (S : SR X.B ι σ s.heap) (hh : A.handled = none)
    (N : Nxt σ a (some (p, a'))) (hg : NoGo t a)
    (k : ∀ v h' tk, Chg wr X.B ι σ s.heap ι σ h' → Itr X h' ι σ env fp wr I a' → Rep h' ι σ.length p v → Q v { s with heap := h', toks := tk }) :
    wpAny (model X.prog X.w) A (pyNext (.ref I)) (fun r s₁ => match r with | none => N' s₁ | some v => wpAny (model X.prog X.w) A (letOwnedTupleGo t (.ref I) v) (fun _ s₂ => Q v s₂) E s₁) E s := by
  cases a with
  | fix items =>
    cases items with
    | nil => cases N
    | cons q items =>
      cases N
      obtain ⟨n, i, P, St, W, st, hn, hc, hp⟩ := x.it
      rw [List.length_cons] at hn
      refine (W A hh).item i s _ E (by lia) st fun v h' tk hv st' kp => ?_
      have T := x.off S kp
      have hI : ∀ b ∈ wr, ∃ o, h'.get? b = some o := fun b hb => (hc _ _ st' b hb).live
      have fin := k v h' tk T ⟨x.sub, ⟨n, i + 1, P, St, W, st', by lia, hc, fun j v q hv hq => hp (j + 1) v q (by rw [show i + (j + 1) = i + 1 + j by lia]; exact hv) hq⟩, apart_it x.apart T hI, x.own, trivial⟩ (hp 0 v p hv rfl _ _ _)
      exact is_name (C := fun t => wpAny _ _ (letOwnedTupleGo t _ _) _ _ _) hg fun _ _ => letGo_name fin
  | tfix items =>
    cases items with
    | nil => cases N
    | cons q items =>
      cases N
      obtain ⟨n, i, P, St, Mid, W, st, hn, hc, hm, hp⟩ := x.it
      rw [List.length_cons] at hn
      refine is_tup (t := t) hg fun _ _ _ => ?_
      refine (W A hh).item i s _ E (by lia) st fun T vals h' tk hv hT hIs hMid kp => ?_
      refine (W A hh).go _ _ _ i T { s with heap := h', toks := tk } _ E hMid fun h'' st' kp' => ?_
      have hTw := (W A hh).apart i T h' hMid
      have T1 := x.off S kp
      have s1 : Soft wr h' := NoVal.soft (hm _ _ _ hMid)
      have T2 : Chg wr X.B ι σ h' ι σ h'' := chg_off T1.sr s1 (fun a ha => (x.apart a (x.sub a ha)).1) (fun a ha => (x.apart a (x.sub a ha)).2.1 ha) kp'
      have T12 := T1.trans T2
      have hI : ∀ b ∈ wr, ∃ o, h''.get? b = some o := fun b hb => (hc _ _ st' b hb).live
      obtain ⟨ps, rfl, hr⟩ := hp 0 vals p hv rfl
      refine k (.ref T) h'' tk T12 ⟨x.sub, ⟨n, i + 1, P, St, Mid, W, st', by lia, hc, hm, fun j v q hv hq => hp (j + 1) v q (by rw [show i + (j + 1) = i + 1 + j by lia]; exact hv) hq⟩, apart_it x.apart T12 hI, x.own, trivial⟩ ?_
      obtain ⟨o, e, hcl, n', hd⟩ := hIs
      exact .tup (vs := vals.toList) (ex1 (p := o) (kp' _ _ hTw e) ⟨hcl, n', by simpa using hd⟩) (hr h'' ι σ.length).1 (hr h'' ι σ.length).2
  | lst n i =>
    obtain ⟨l, hl, ⟨_, e⟩ | ⟨q, hq, e⟩⟩ := N
    · cases e
    cases e
    obtain ⟨hf, hw, it⟩ := x.it
    subst hw
    obtain ⟨vs, kk, e, R⟩ := S.lst n l hl
    have hil : i < l.length := (List.getElem?_eq_some_iff.mp hq).1
    have hiv : i < vs.length := R.1 ▸ hil
    refine wpAny_pyNext_list_item (x := vs[i]) it (isList_of e) (by simp [hiv]) fun h' it' hs => ?_
    have kp : ∀ b o, b ∉ [I] → s.heap.get? b = some o → h'.get? b = some o := fun b o hb e => (hs.2 b fun q => hb (List.mem_singleton.mpr q)).trans e
    have T := x.off S kp
    have hI : ∀ b ∈ [I], ∃ o, h'.get? b = some o := fun b hb => by rw [List.mem_singleton.mp hb]; exact let ⟨o, e, _⟩ := it'; ⟨o, e⟩
    have fin := k vs[i] h' s.toks T ⟨x.sub, ⟨hf, rfl, it'⟩, apart_it x.apart T hI, x.own, x.in_⟩ ((R.2 i p vs[i] hq (by simp [hiv])).chg x.soft S T)
    rcases hg with hg | hg
    · exact is_name (C := fun t => wpAny _ _ (letOwnedTupleGo t _ _) _ _ _) hg fun _ _ => letGo_name fin
    · exact is_tup (C := fun t => wpAny _ _ (letOwnedTupleGo t _ _) _ _ _) hg fun _ _ _ => letGo_lst it' fin
theorem Itr.ends {A : Around} {s : Shared} {E : Value → Shared → Prop} {Q : Option Value → Shared → Prop} {fp wr : List Addr} {I : Addr} {a : AI} (x : Itr X s.heap ι σ env fp wr I a) (S : SR X.B ι σ s.heap) (hh : A.handled = none) (N : Nxt σ a none)
    (k : ∀ h' tk, Chg wr X.B ι σ s.heap ι σ h' → Q none { s with heap := h', toks := tk }) : wpAny (model X.prog X.w) A (pyNext (.ref I)) Q E s := by
  cases a with
  | fix items =>
    cases items with
    | cons q t => exact nn N
    | nil =>
      obtain ⟨n, i, P, St, W, st, hn, hc, hp⟩ := x.it
      have : i = n := by rw [List.length_nil] at hn; omega
      subst this
      exact (W A hh).done s Q E st fun h' tk kp => k h' tk (x.off S kp)
  | tfix items =>
    cases items with
    | cons q t => exact nn N
    | nil =>
      obtain ⟨n, i, P, St, Mid, W, st, hn, hc, hp⟩ := x.it
      have : i = n := by rw [List.length_nil] at hn; omega
      subst this
      exact (W A hh).done s Q E st fun h' tk kp => k h' tk (x.off S kp)
  | lst n i =>
    obtain ⟨l, hl, ⟨hi, _⟩ | ⟨q, hq, e⟩⟩ := N
    · obtain ⟨hf, hw, it⟩ := x.it
      subst hw
      obtain ⟨vs, kk, e, R⟩ := S.lst n l hl
      refine wpAny_pyNext_list_end hh it (isList_of e) (by simp; rw [← R.1]; exact hi) fun h' kp => ?_
      exact k h' s.toks (x.off S fun b o hb e => kp b o (fun q => hb (List.mem_singleton.mpr q)) e)
    · exact nn e
theorem Itr.self {A : Around} {s : Shared} {E : Value → Shared → Prop} {Q : Value → Shared → Prop} {fp wr : List Addr} {I : Addr} {a : AI} (x : Itr X s.heap ι σ env fp wr I a) (hh : A.handled = none) (k : Q (.ref I) s) : wpAny (model X.prog X.w) A (pyIter (.ref I)) Q E s := by
  cases a with
  | fix items => obtain ⟨n, i, P, St, W, st, _⟩ := x.it; exact (W A hh).self i s Q E st k
  | tfix items => obtain ⟨n, i, P, St, Mid, W, st, _⟩ := x.it; exact (W A hh).self i s Q E st k
  | lst n i => obtain ⟨_, _, it⟩ := x.it; exact wpAny_pyIter_listiter it k
noncomputable def Asg (X : Stat) (d : Nat) (sc : Scope) (m : Vm) (t : Expr) (p : PV) (m' : Vm) : Prop :=
  ∀ (A : Around) (env : Env) (s : Shared) (ι : Nat → Addr) (σ : Sto) (v : Value) (Q : Unit → Shared → Prop) (E : Value → Shared → Prop), Good d A → env.scope = sc → SR X.B ι σ s.heap → VR X.B ι σ env m s.heap → Rep s.heap ι σ.length p v →
    (∀ h' tk, Turn X.B env ι σ s.heap ι σ h' → VR X.B ι σ env m' h' → Q () { s with heap := h', toks := tk }) → wpAny (model X.prog X.w) A (assign t env v) Q E s
theorem asg_name {x : Str} {px : Pos} (hk : sc.names.lookup x = some .local ∨ sc.names.lookup x = some .cell) : Asg X d sc m (.Name x px) p (put m x p) := by
  intro A env s ι σ v Q E g hs S V R k
  exact wpAny_assign_Name (store_rule S V R (by unfold Env.kindOf; rw [hs]; exact hk) k)
noncomputable def FL (X : Stat) (d : Nat) (sc : Scope) (t : Expr) (body : List Stmt) (a : AI) (m : Vm) (σ : Sto) (f : AF) (m' : Vm) (σ' : Sto) : Prop :=
  ∀ (A : Around) (env : Env) (s : Shared) (ι : Nat → Addr) (fp wr : List Addr) (I : Addr) (R : Result → Shared → Prop), Good d A → env.scope = sc → SR X.B ι σ s.heap → VR X.B ι σ env m s.heap → Itr X s.heap ι σ env fp wr I a →
    (∀ fl h' tk ι', Chg (wr ++ Own env) X.B ι σ s.heap ι' σ' h' → VR X.B ι' σ' env m' h' → FlowIs h' ι' σ'.length f fl → R (.ok fl) { s with heap := h', toks := tk }) → codeAny (model X.prog X.w) A (.forLoop t (.ref I) body [] env) R s
theorem for1 {prog : Program} {w : World} {A : Around} {R : Result → Shared → Prop} {s : Shared} {target : Expr} {it : Value} {body orelse : List Stmt} {env : Env}
    (turn : wpAny (model prog w) A (pyNext it) (fun r s₁ => match r with
      | none => wpAny (model prog w) A (execs orelse env) (fun f s₃ => R (.ok f) s₃) (notedBy (model prog w) A env fun e s' => R (.error e) s') s₁
      | some v => wpAny (model prog w) A (letOwnedTupleGo target it v) (fun _ s₁' => wpAny (model prog w) A (assign target env v) (fun _ s₂ => wpAny (model prog w) A (execs body env) (fun f s₃ => match f with
          | .next | .cont => codeAny (model prog w) A (.forLoop target it body orelse env) R s₃
          | .brk => R (.ok .next) s₃
          | .ret v => R (.ok (.ret v)) s₃) (notedBy (model prog w) A env fun e s' => R (.error e) s') s₂) (notedBy (model prog w) A env fun e s' => R (.error e) s') s₁') (notedBy (model prog w) A env fun e s' => R (.error e) s') s₁) (notedBy (model prog w) A env fun e s' => R (.error e) s') s) :
    codeAny (model prog w) A (.forLoop target it body orelse env) R s := by
  refine codeAny_of_tree ?_
  show wpAny _ A ((forTurn target it body orelse env).onRaise (fun x => do noteFrame x env; theTreesLotGoes x)) _ _ s
  refine wpAny_noted ?_
  simp only [forTurn]
  refine wpAny_bind (wpAny_standAt (wpAny_bind (wpAny_onRaise (wpAny_mono turn (fun r s₁ h₁ => ?_) fun _ _ h' => wpAny_standAt h'))))
  cases r with
  | none => exact wpAny_pure ⟨rfl, codeAny_block h₁⟩
  | some v =>
    refine wpAny_bind (wpAny_mono h₁ (fun _ s₁' h₁' => ?_) fun _ _ h' => h')
    refine wpAny_bind (wpAny_mono h₁' (fun _ s₂ h₂ => wpAny_bind (wpAny_mono h₂ (fun f s₃ h₃ => ?_) fun _ _ h' => h')) fun _ _ h' => h')
    cases f with
    | next => exact wpAny_pure ⟨rfl, h₃⟩
    | cont => exact wpAny_pure ⟨rfl, h₃⟩
    | brk => exact wpAny_pure h₃
    | ret v => exact wpAny_pure h₃
theorem Chg.both {D W : List Addr} (T : Chg W B ι σ h ι' σ₁ h') (hl : ∀ a ∈ D, ∃ o, h.get? a = some o) : Chg (W ++ D) B ι σ h ι' σ₁ h' :=
  T.more (fun a ha => .inl (List.mem_append_left _ ha)) fun a ha => (List.mem_append.mp ha).elim .inl fun q => .inr (.inl (hl a q))
theorem Chg.over {D W : List Addr} (T : Chg D B ι σ h ι' σ₁ h') (hl : ∀ a ∈ W, ∃ o, h.get? a = some o) : Chg (W ++ D) B ι σ h ι' σ₁ h' :=
  T.more (fun a ha => .inl (List.mem_append_right _ ha)) fun a ha => (List.mem_append.mp ha).elim (fun e => .inr (.inl (hl a e))) .inl
theorem fl_done {t : Expr} {body : List Stmt} {a : AI} (N : Nxt σ a none) : FL X d sc t body a m σ .next m σ := by
  intro A env s ι fp wr I R g hs S V x k
  refine for1 (x.ends S g.1 N fun h' tk T => ?_)
  exact wpAny_execs_nil (k .next h' tk ι (T.both V.live) (V.chg x.soft S T fun a ha => x.own a (x.sub a ha)) trivial)
theorem fl_step {t : Expr} {body : List Stmt} {a a' : AI} {f : AF} (N : Nxt σ a (some (p, a'))) (hg : NoGo t a) (h1 : Asg X d sc m t p m₁) (h2 : Exs X d sc m₁ σ body f m₂ σ₂)
    {A : Around} {s : Shared} {fp wr : List Addr} {I : Addr} {R : Result → Shared → Prop} (g : Good d A) (hs : env.scope = sc) (S : SR X.B ι σ s.heap) (V : VR X.B ι σ env m s.heap) (x : Itr X s.heap ι σ env fp wr I a)
    (k : ∀ fl h' tk ι', Chg (wr ++ Own env) X.B ι σ s.heap ι' σ₂ h' → VR X.B ι' σ₂ env m₂ h' → Itr X h' ι' σ₂ env fp wr I a' → FlowIs h' ι' σ₂.length f fl → (match fl with
          | .next | .cont => codeAny (model X.prog X.w) A (.forLoop t (.ref I) body [] env) R { s with heap := h', toks := tk }
          | .brk => R (.ok .next) { s with heap := h', toks := tk }
          | .ret v => R (.ok (.ret v)) { s with heap := h', toks := tk })) : codeAny (model X.prog X.w) A (.forLoop t (.ref I) body [] env) R s := by
  refine for1 (x.take S g.1 N hg fun v h' tk T x' r => ?_)
  have V' := V.chg x.soft S T fun a ha => x.own a (x.sub a ha)
  refine h1 A env { s with heap := h', toks := tk } ι σ v _ _ g hs T.sr V' r fun h1' tk1 T1 V1 => ?_
  refine h2 A env { s with heap := h1', toks := tk1 } ι _ _ g hs T1.sr V1 fun fl h2' tk2 ι2 T2 V2 F2 => ?_
  have T12 := T1.trans T2
  have fin := k fl h2' tk2 ι2 ((T.both V.live).trans (T12.over fun a ha => (x'.apart a (x'.sub a ha)).2.2)) V2 (x'.chg T12 x.own) F2
  cases fl <;> exact fin
theorem fl_turn {t : Expr} {body : List Stmt} {a a' : AI} {f f' : AF} {m₃ : Vm} (N : Nxt σ a (some (p, a'))) (hg : NoGo t a) (h1 : Asg X d sc m t p m₁) (h2 : Exs X d sc m₁ σ body f m₂ σ₂) (hf : f.on)
    (h3 : FL X d sc t body a' m₂ σ₂ f' m₃ σ₃) : FL X d sc t body a m σ f' m₃ σ₃ := by
  intro A env s ι fp wr I R g hs S V x k
  refine fl_step N hg h1 h2 g hs S V x fun fl h' tk ι' T V' x' F => ?_
  have go := h3 A env { s with heap := h', toks := tk } ι' fp wr I R g hs T.sr V' x' fun fl h3 tk3 ι3 T3 V3 F3 => k fl h3 tk3 ι3 (T.trans T3) V3 F3
  cases f <;> cases fl <;> first | exact hf.elim | exact F.elim | exact go
theorem fl_brk {t : Expr} {body : List Stmt} {a a' : AI} (N : Nxt σ a (some (p, a'))) (hg : NoGo t a) (h1 : Asg X d sc m t p m₁) (h2 : Exs X d sc m₁ σ body .brk m₂ σ₂) : FL X d sc t body a m σ .next m₂ σ₂ := by
  intro A env s ι fp wr I R g hs S V x k
  refine fl_step N hg h1 h2 g hs S V x fun fl h' tk ι' T V' x' F => ?_
  cases fl <;> first | exact F.elim | exact k .next h' tk ι' T V' trivial
theorem fl_ret {t : Expr} {body : List Stmt} {a a' : AI} {q : PV} (N : Nxt σ a (some (p, a'))) (hg : NoGo t a) (h1 : Asg X d sc m t p m₁) (h2 : Exs X d sc m₁ σ body (.ret q) m₂ σ₂) : FL X d sc t body a m σ (.ret q) m₂ σ₂ := by
  intro A env s ι fp wr I R g hs S V x k
  refine fl_step N hg h1 h2 g hs S V x fun fl h' tk ι' T V' x' F => ?_
  cases fl <;> first | exact F.elim | exact k _ h' tk ι' T V' F
noncomputable def Src (X : Stat) (d : Nat) (sc : Scope) (m : Vm) (σ : Sto) (e : Expr) (a : AI) (σ' : Sto) : Prop :=
  ∀ (A : Around) (env : Env) (s : Shared) (ι : Nat → Addr) (Q : Value → Shared → Prop) (E : Value → Shared → Prop), Good d A → env.scope = sc → SR X.B ι σ s.heap → VR X.B ι σ env m s.heap →
    (∀ I fp wr h' tk ι', Step X.B ι σ s.heap ι' σ' h' → (∀ b ∈ wr, s.heap.get? b = none) → Itr X h' ι' σ' env fp wr I a → Q (.ref I) { s with heap := h', toks := tk }) →
    wpAny (model X.prog X.w) A (eval e env) (fun v s' => wpAny (model X.prog X.w) A (pyIter v) Q E s') E s
theorem ex_for {t e : Expr} {body : List Stmt} {a : AI} {f : AF} (h1 : Src X d sc m σ e a σ₁) (h2 : FL X d sc t body a m σ₁ f m₂ σ₂) (hs' : ∀ (env : Env) (x : Value), foldedSetIterable e env x = pure x := by intro _ _; rfl) : Ex X d sc m σ (.For t e body [] pos) f m₂ σ₂ := by
  intro A env s ι Q E g hs S V k
  refine wpAny_For (h1 A env s ι _ E g hs S V fun I fp wr h' tk ι' T hI x => ?_) (hs' env)
  refine h2 A env { s with heap := h', toks := tk } ι' fp wr I _ g hs T.sr (V.step S T) x fun fl h'' tk' ι'' T' V' F => ?_
  refine k fl h'' tk' ι'' ?_ V' F
  have T1 : Chg (wr ++ Own env) X.B ι σ s.heap ι' σ₁ h' := T.more (fun _ hm => nomatch hm) fun a ha => (List.mem_append.mp ha).elim (fun e => .inr (.inr (x.apart a (x.sub a e)).1)) fun q => .inr (.inl (V.live a q))
  exact (T1.trans T').more (fun a ha => (List.mem_append.mp ha).elim (fun e => .inr (hI a e)) .inl) fun a ha => .inl (List.mem_append_right _ ha)
end
theorem step_keep {B h h' : Heap} {ι : Nat → Addr} {σ : Sto} (S : SR B ι σ h) (k : ∀ b o, h.get? b = some o → h'.get? b = some o) : Step B ι σ h ι σ h' := by
  refine ⟨⟨fun b o' e => k _ _ (S.base b o' e), fun n l e => ?_, S.inj, S.fresh⟩, fun _ _ => rfl, Nat.le_refl _, fun n a b => absurd b (Nat.not_lt.mpr a), fun b o' e _ _ => k _ _ e⟩
  exact (S.cell n l e).mono rfl (fun o e => k _ o e) (fun p v r => r.grow k (fun _ _ => rfl) (Nat.le_refl _)) (fun _ _ => rfl) (Nat.le_refl _)
theorem bindL_not {K : Str → Option NameKind} {x : Str} : ∀ {l : List (Str × Value)} {m : Str → Option Value}, (∀ y ∈ l, y.1 ≠ x) → bindL K l m x = m x
  | [], _, _ => rfl
  | (y, v) :: r, m, h => by
    unfold bindL
    rw [bindL_not fun z hz => h z (List.mem_cons_of_mem _ hz)]
    have : y ≠ x := h (y, v) List.mem_cons_self
    split
    · exact if_neg (Ne.symm this)
    · rfl
theorem bindC_not {K : Str → Option NameKind} {x : Str} : ∀ {l : List (Str × Value)} {m : Str → Option Value}, (∀ y ∈ l, y.1 ≠ x) → bindC K l m x = m x
  | [], _, _ => rfl
  | (y, v) :: r, m, h => by
    unfold bindC
    rw [bindC_not fun z hz => h z (List.mem_cons_of_mem _ hz)]
    have : y ≠ x := h (y, v) List.mem_cons_self
    split
    · rfl
    · exact if_neg (Ne.symm this)
theorem bindL_at {K : Str → Option NameKind} {x : Str} {v : Value} (hk : K x = some .local) : ∀ {l : List (Str × Value)} {m : Str → Option Value}, (l.map (·.1)).Nodup → l.lookup x = some v → bindL K l m x = some v
  | (y, u) :: r, m, hn, e => by
    rw [List.map_cons, List.nodup_cons] at hn
    rw [List.lookup_cons] at e
    unfold bindL
    cases hxy : x == y with
    | true =>
      simp only [hxy] at e
      cases e
      have : x = y := eq_of_beq hxy
      subst this
      rw [bindL_not fun z hz q => hn.1 (by have := List.mem_map_of_mem (f := (·.1)) hz; rw [q] at this; exact this), if_pos hk]
      exact if_pos rfl
    | false =>
      simp only [hxy] at e
      exact bindL_at hk hn.2 e
theorem bindC_at {K : Str → Option NameKind} {x : Str} {v : Value} (hk : K x ≠ some .local) : ∀ {l : List (Str × Value)} {m : Str → Option Value}, (l.map (·.1)).Nodup → l.lookup x = some v → bindC K l m x = some v
  | (y, u) :: r, m, hn, e => by
    rw [List.map_cons, List.nodup_cons] at hn
    rw [List.lookup_cons] at e
    unfold bindC
    cases hxy : x == y with
    | true =>
      simp only [hxy] at e
      cases e
      have : x = y := eq_of_beq hxy
      subst this
      rw [bindC_not fun z hz q => hn.1 (by have := List.mem_map_of_mem (f := (·.1)) hz; rw [q] at this; exact this), if_neg hk]
      exact if_pos rfl
    | false =>
      simp only [hxy] at e
      exact bindC_at hk hn.2 e
theorem cells_keys : ∀ (names : List (Str × NameKind)) (n k : Nat) (acc acc' : List (Str × Addr)), acc.map (·.1) = acc'.map (·.1) → (cellsFrom n names acc).map (·.1) = (cellsFrom k names acc').map (·.1)
  | [], _, _, _, _, h => h
  | (y, kd) :: r, n, k, acc, acc', h => by
    unfold cellsFrom
    split
    · exact cells_keys r _ _ _ _ (by simp [h])
    · exact cells_keys r _ _ _ _ h
theorem lookup_of_mem {x : Str} {c : Addr} : ∀ {l : List (Str × Addr)}, (l.map (·.1)).Nodup → (x, c) ∈ l → l.lookup x = some c
  | (y, e) :: r, hn, hm => by
    rw [List.map_cons, List.nodup_cons] at hn
    rw [List.lookup_cons]
    rcases List.mem_cons.mp hm with q | q
    · cases q; simp
    · have : (x == y) = false := by
        cases h : x == y with
        | false => rfl
        | true =>
          have hq := List.mem_map_of_mem (f := fun z : Str × Addr => z.1) q
          have e : x = y := eq_of_beq h
          rw [← e] at hn
          exact absurd hq hn.1
      simp only [this]
      exact lookup_of_mem hn.2 q
theorem zip_lookup {h : Heap} {ι : Nat → Addr} {k : Nat} {x : Str} {p : PV} : ∀ {ns : List Str} {ps : List PV} {vs : List Value}, ps.length = vs.length → (∀ (i : Nat) (p : PV) (v : Value), ps[i]? = some p → vs[i]? = some v → Rep h ι k p v) → (ns.zip ps).lookup x = some p → ∃ v, (ns.zip vs).lookup x = some v ∧ Rep h ι k p v
  | [], _, _, _, _, e => by exact nn e
  | _ :: _, [], _, _, _, e => by exact nn e
  | n :: ns, q :: ps, [], hl, _, _ => by cases hl
  | n :: ns, q :: ps, v :: vs, hl, hr, e => by
    rw [List.zip_cons_cons, List.lookup_cons] at e
    rw [List.zip_cons_cons, List.lookup_cons]
    cases h : x == n with
    | true => simp only [h] at e ⊢; cases e; exact ⟨v, rfl, hr 0 _ v rfl rfl⟩
    | false => simp only [h] at e ⊢; exact zip_lookup (by simpa using hl) (fun i p v a b => hr (i + 1) p v a b) e
structure Fn (X : Stat) (f : Addr) (ns : List Str) (dfl : List PV) (body : List Stmt) (sc : Scope) : Prop where
  obj : ∃ o fd, X.B.get? f = some o ∧ o.data = .func fd ∧ fd.body = .stmts body ∧ fd.scope = sc ∧ fd.globals = mainGlobals ∧ fd.builtins = builtinsNs ∧ fd.closure = [] ∧ X.B.CodeRec fd.code fd.qualname ∧
    ∀ (s : Shared) (vs : List Value), (∀ b o, X.B.get? b = some o → s.heap.get? b = some o) → vs.length ≤ ns.length → ns.length ≤ vs.length + dfl.length →
      ∃ ws, BindsTo s fd ⟨vs, []⟩ (ns.zip (vs ++ ws)) ∧ ∀ (ι : Nat → Addr) (k : Nat), Reps s.heap ι k (dfl.drop (vs.length + dfl.length - ns.length)) ws
section
variable {X : Stat} {d : Nat} {sc : Scope} {m m₁ m₂ : Vm} {σ σ₁ σ₂ σ₃ : Sto} {p q r : PV} {pos : Pos} {B h h' : Heap} {ι ι' : Nat → Addr} {env : Env}
noncomputable def AF.back : AF → Option PV
  | .next => some .none
  | .ret p => some p
  | _ => none
theorem vr_call {s s₁ : Shared} {fd : FuncData} {f : Addr} {ns : List Str} {vs : List Value} {ps : List PV} (S : SR B ι σ s.heap) (R : Reps s.heap ι σ.length ps vs) (hk : fd.scope.kind = .function) (hg : fd.globals = mainGlobals) (hb : fd.builtins = builtinsNs)
    (hn : ns.Nodup) (hl : ns.length = vs.length) (hkind : ∀ x ∈ ns, fd.scope.names.lookup x = some .local ∨ fd.scope.names.lookup x = some .cell) (hnd : ((cellsFrom 0 fd.scope.names []).map (·.1)).Nodup)
    (x : InCallC s (callEnvC fd s.heap.objs.size f).locals (bindL (callEnvC fd s.heap.objs.size f).kindOf (ns.zip vs) fun _ => none) (callEnvC fd s.heap.objs.size f).cells (bindC (callEnvC fd s.heap.objs.size f).kindOf (ns.zip vs) fun _ => none) s₁) :
    VR B ι σ (callEnvC fd s.heap.objs.size f) (ns.zip ps) s₁.heap := by
  have T := step_keep S x.toInCall.keep
  have hkeys : ((ns.zip vs).map (·.1)).Nodup := by rw [List.map_fst_zip (Nat.le_of_eq hl)]; exact hn
  have hnd' : ((callEnvC fd s.heap.objs.size f).cells.map (·.1)).Nodup := by
    have e := cells_keys fd.scope.names (s.heap.objs.size + 1) 0 [] [] rfl
    show ((cellsFrom (s.heap.objs.size + 1) fd.scope.names []).map (·.1)).Nodup
    refine rwr e ?_; exact hnd
  have cellAt : ∀ a ∈ (callEnvC fd s.heap.objs.size f).cells.map (·.2), (∃ v, s₁.heap.IsCell a v) ∧ s.heap.objs.size < a := fun a ha => by
    obtain ⟨⟨n, c⟩, hm, rfl⟩ := List.mem_map.mp ha
    exact ⟨⟨_, x.cell n c (lookup_of_mem hnd' hm)⟩, x.above n c hm⟩
  have off : ∀ a, s.heap.objs.size ≤ a → s.heap.get? a = none := fun a ha => by
    cases e : s.heap.get? a with
    | none => rfl
    | some o => exact absurd (Heap.lt_size e) (Nat.not_lt.mpr ha)
  refine ⟨hk, hg, hb, ⟨_, x.toInCall.ns⟩, fun y hy => ?_, fun a ha => (cellAt a ha).1, fun y q e => ?_, fun a ha => ?_, ?_⟩
  · have := cellsFrom_some fd.scope.names (s.heap.objs.size + 1) [] (x := y) (.inl hy)
    exact Option.isSome_iff_exists.mp this
  · obtain ⟨v, hv, rv⟩ := zip_lookup R.1 R.2 e
    have hmem : y ∈ ns := by
      have := mem_of_lookup hv
      exact (List.of_mem_zip this).1
    refine (ex1 (p := v) ?_ (rv.step S T))
    unfold VarAt
    rcases hkind y hmem with hy | hy
    · have hy' : (callEnvC fd s.heap.objs.size f).kindOf y = some .local := hy
      refine rwr hy' ?_
      exact (ex1 x.toInCall.ns (bindL_at hy' hkeys hv))
    · have hy' : (callEnvC fd s.heap.objs.size f).kindOf y = some .cell := hy
      refine rwr hy' ?_
      obtain ⟨c, hc⟩ := Option.isSome_iff_exists.mp (cellsFrom_some fd.scope.names (s.heap.objs.size + 1) [] (x := y) (.inl hy))
      have := x.cell y c hc
      rw [bindC_at (by refine rwr hy' ?_; decide) hkeys hv] at this
      exact (ex1 (p := c) hc this)
  · have hge : s.heap.objs.size ≤ a := by
      rcases List.mem_cons.mp ha with e | hm
      · exact Nat.le_of_eq e.symm
      · exact Nat.le_of_lt (cellAt a hm).2
    refine ⟨fun n hn e => ?_, ?_, ?_⟩
    · obtain ⟨ob, e1⟩ := S.live_at hn
      rw [e, off a hge] at e1
      exact nn e1
    · cases e : B.get? a with
      | none => rfl
      | some o => have := S.base a o e; rw [off a hge] at this; exact nn this
    · rcases List.mem_cons.mp ha with e | hm
      · obtain ⟨o, es, ep, e1, _⟩ := x.toInCall.ns
        exact ⟨o, e ▸ e1⟩
      · obtain ⟨v, o, e1, _⟩ := (cellAt a hm).1
        exact ⟨o, e1⟩
  · refine List.nodup_cons.mpr ⟨fun hm => ?_, ?_⟩
    · exact absurd (cellAt _ hm).2 (Nat.lt_irrefl _)
    · exact List.Pairwise.map _ (fun a b h => h) x.apart
theorem Good.deeper {A : Around} (g : Good (d + 1) A) (env : Env) : Good d (A.deeper env) := by
  obtain ⟨a, b, c⟩ := g
  refine ⟨a, ?_, ?_⟩
  · show A.depth + 1 + d + 2 < _; lia
  · show A.units + 3 + 16 * d + 16 < _; lia
noncomputable def CodeV (X : Stat) (d : Nat) (σ : Sto) (f : Value) (ps : List PV) (r : PV) (σ' : Sto) : Prop :=
  ∀ (A : Around) (s : Shared) (ι : Nat → Addr) (vs : List Value) (R : Result → Shared → Prop), Good d A → SR X.B ι σ s.heap → Reps s.heap ι σ.length ps vs →
    (∀ v h' tk ι', Step X.B ι σ s.heap ι' σ' h' → Rep h' ι' σ'.length r v → R (.ok (.ret v)) { s with heap := h', toks := tk }) → codeAny (model X.prog X.w) A (.call f ⟨vs, []⟩) R s
theorem CodeV.call {f : Value} {ps : List PV} (h : CodeV X d σ f ps r σ₁) : CallV X d σ f ps r σ₁ := fun A s ι vs Q E g S R k =>
  wpAny_call (h A s ι vs _ g S R fun v h' tk ι' T R' => k v h' tk ι' T R')
theorem code_fn {f : Addr} {ns : List Str} {dfl : List PV} {body : List Stmt} {ps : List PV} {fl : AF} (hX : X.OK) (F : Fn X f ns dfl body sc) (h1 : ps.length ≤ ns.length) (h2 : ns.length ≤ ps.length + dfl.length)
    (hk : sc.kind = .function) (hco : sc.isCoroutine = false) (hgen : sc.isGenerator = false) (hn : ns.Nodup) (hkind : ∀ x ∈ ns, sc.names.lookup x = some .local ∨ sc.names.lookup x = some .cell) (hnd : ((cellsFrom 0 sc.names []).map (·.1)).Nodup)
    (hb : Exs X d sc (ns.zip (ps ++ dfl.drop (ps.length + dfl.length - ns.length))) σ body fl m₁ σ₁) (hf : fl.back = some r) : CodeV X (d + 1) σ (.ref f) ps r σ₁ := by
  intro A s ι vs Q g S R k
  obtain ⟨o, fd, ho, hd, hbody, hsc, hg, hbi, hcl, hcode, hbind⟩ := F.obj
  subst hsc
  have hlen := R.1
  obtain ⟨ws, hB, hW⟩ := hbind s vs S.base (hlen ▸ h1) (hlen ▸ h2)
  have R' : Reps s.heap ι σ.length (ps ++ dfl.drop (ps.length + dfl.length - ns.length)) (vs ++ ws) := R.app (hlen ▸ hW ι σ.length)
  have hl : ns.length = (vs ++ ws).length := by
    have := R'.1
    refine rwr (this).symm ?_; rw [List.length_append, List.length_drop]
    omega
  refine codeAny_call_function (by have := g.2.1; lia) (S.base _ _ ho) hd hco hgen hbody (hcode.keeps S.base) (hB _ _ _ _ ?_)
  refine rwr hcl ?_
  refine wpAny_newFunctionEnv_cells hk (fun x hx => ?_) fun env he s₁ x => ?_
  · have hm : x.1 ∈ ns := (List.of_mem_zip hx).1
    exact (hkind _ hm).imp id fun q => ⟨q, cellsFrom_some _ _ _ (.inl q)⟩
  · have he' : env = callEnvC fd s.heap.objs.size f := he
    subst he'
    have V := vr_call S R' hk hg hbi hn hl hkind hnd x
    refine ⟨(hX.nolimit.keeps S.base).keeps x.toInCall.keep, codeAny_func ?_⟩
    obtain ⟨h₁, tk₁, hs₁⟩ := x.toInCall.same
    subst hs₁
    have T0 := step_keep S x.toInCall.keep
    refine hb (A.deeper _) _ _ ι _ _ (g.deeper _) rfl T0.sr V fun flw h' tk ι' T V' Fl => ?_
    have off : ∀ a ∈ Own (callEnvC fd s.heap.objs.size f), s.heap.get? a = none := fun a ha => by
      have hge : s.heap.objs.size ≤ a := by
        rcases List.mem_cons.mp ha with e | hm
        · exact Nat.le_of_eq e.symm
        · obtain ⟨⟨n, c⟩, hm', rfl⟩ := List.mem_map.mp hm
          exact Nat.le_of_lt (x.above n c hm')
      cases e : s.heap.get? a with
      | none => rfl
      | some o => exact absurd (Heap.lt_size e) (Nat.not_lt.mpr hge)
    have T1 : Chg (Own (callEnvC fd s.heap.objs.size f)) X.B ι σ s.heap ι σ h₁ := T0.more (fun _ hm => nomatch hm) fun a ha => .inr (.inr (V.apart a ha).1)
    have T2 : Step X.B ι σ s.heap ι' σ₁ h' := (T1.trans T).more (fun a ha => .inr (off a ha)) fun _ hm => nomatch hm
    cases fl <;> cases flw <;> first | (exact nn hf; done) | exact Fl.elim | skip
    · cases hf; exact k _ h' tk ι' T2 .none
    · cases hf; exact k _ h' tk ι' T2 Fl
inductive Callee (X : Stat) : Value → Prop
  | bi (id : String) : Callee X (.builtin id)
  | ty (T : String) : Callee X (.type T)
  | fn {f : Addr} {o : Obj} {fd : FuncData} : X.B.get? f = some o → o.data = .func fd → Callee X (.ref f)
  | kl {K : Frag} {C : Addr} : K.In X.B → keepIn K (.ref C) = true → Callee X (.ref C)
theorem Fn.callee {f : Addr} {ns : List Str} {dfl : List PV} {body : List Stmt} (F : Fn X f ns dfl body sc) : Callee X (.ref f) := let ⟨_, _, ho, hd, _⟩ := F.obj; .fn ho hd
theorem ev_call {fe e : Expr} {es : List Expr} {fv : Value} {ps : List PV} (h0 : Ev X d sc m σ fe (.stat fv) σ₁) (hc : Callee X fv) (h1 : Evs X d sc m σ₁ (e :: es) ps σ₂) (h2 : CallV X d σ₂ fv ps r σ₃)
    (hs1 : ∀ env : Env, starEach (e :: es) env = (false, eval e env) :: starEach es env := by intro _; rfl) (hs2 : ∀ env : Env, ((backTo pos (starEach es env)).any fun x => x.1) = false := by intro _; rfl)
    (hs3 : ∀ env : Env, eval (.Call fe (e :: es) [] pos) env = (do let __do_lift ← eval fe env; callWith pos __do_lift [] (backTo pos (starEach (e :: es) env)) (backToKw pos (keywordEach [] env))) := by intro _; rfl) :
    Ev X d sc m σ (.Call fe (e :: es) [] pos) r σ₃ := by
  intro A env s ι Q E g hs S V k
  refine Call_ (h0 A env s ι _ E g hs S V fun v h' tk ι' T R => ?_) (hs3 env)
  cases R
  have args : ∀ (Q' : List Value → Shared → Prop), (∀ vs h'' tk' ι'', Step X.B ι' σ₁ h' ι'' σ₂ h'' → Reps h'' ι'' σ₂.length ps vs → Q' vs { s with heap := h'', toks := tk' }) → wpAny (model X.prog X.w) A (spliced (backTo pos (starEach (e :: es) env))) Q' E { s with heap := h', toks := tk } :=
    fun Q' hq => h1 A env { s with heap := h', toks := tk } ι' pos Q' E g hs T.sr (V.step S T) hq
  have fin : ∀ vs h'' tk' ι'', Step X.B ι' σ₁ h' ι'' σ₂ h'' → Reps h'' ι'' σ₂.length ps vs → wpAny (model X.prog X.w) A (call fv vs) Q E { s with heap := h'', toks := tk' } := fun vs h'' tk' ι'' T' R' =>
    h2 A { s with heap := h'', toks := tk' } ι'' vs Q E g T'.sr R' fun w h3 tk3 ι3 T3 R3 => k w h3 tk3 ι3 ((T.trans T').trans T3) R3
  cases hc with
  | bi id => exact PyProof.Rows.callWith_builtin1 (args _ fin) (hs1 env) (hs2 env)
  | ty T => exact PyProof.Rows.callWith_type1 (args _ fin) (hs1 env) (hs2 env)
  | fn ho hd => exact callWith_def hd (args _ fun vs h'' tk' ι'' T' R' => ⟨T'.sr.base _ _ ho, fin vs h'' tk' ι'' T' R'⟩) (hs1 env)
  | kl hK hk => exact callWith_K (hK.keeps S.base) hk (args _ fun vs h'' tk' ι'' T' R' => ⟨hK.keeps T'.sr.base, fin vs h'' tk' ι'' T' R'⟩) (hs1 env) (hs2 env)
structure Mth (T id : String) (name : Str) : Prop where
  plain : PlainAttrs T
  slot : Slot T name id
  ty : typeOf (.builtin id) = pure (.type "method_descriptor")
theorem ev_meth {o : Expr} {name : Str} {apos : Pos} {es : List Expr} {T id : String} {ps : List PV} (h0 : Ev X d sc m σ o p σ₁) (M : Mth T id name) (hT : ∀ (s : Shared) (ι : Nat → Addr) (v : Value), SR X.B ι σ₁ s.heap → Rep s.heap ι σ₁.length p v → s.TypeIs v T ∧ ∀ a, v = .ref a → ∃ ob, s.heap.get? a = some ob ∧ ob.dict = none)
    (h1 : Evs X d sc m σ₁ es ps σ₂) (h2 : CallV X d σ₂ (.builtin id) (p :: ps) r σ₃)
    (hbase : ∀ env : Env, attributeBase o name env (eval o env) = eval o env := by intro _; rfl)
    (hst : ∀ env : Env, ((((backTo pos (starEach es env)).all fun x => !x.1) && (backToKw pos (keywordEach [] env)).all fun x => x.1.isSome) && decide ((es.length + ([] : List Keyword).length + if ([] : List Keyword).isEmpty = true then 0 else 1) < 30)) = true := by intro _; rfl)
    (hline : (apos.endLine == pos.line) = true := by rfl) (hcw : ∀ (env : Env) (v : Value) (M : Model) (A : Around) (Q : Value → Shared → Prop) (E : Value → Shared → Prop) (s : Shared), wpAny M A (spliced (backTo pos (starEach es env))) (fun vs s₁ => wpAny M A (call (.builtin id) (v :: vs)) Q E s₁) E s →
      wpAny M A (callWith pos (.builtin id) [v] (backTo pos (starEach es env)) []) Q E s) :
    Ev X d sc m σ (.Call (.Attribute o name apos) es [] pos) r σ₃ := by
  intro A env s ι Q E g hs S V k
  refine wpAny_Call_method_lateS (hbase env) (hst env) hline (h0 A env s ι _ E g hs S V fun v h' tk ι' T R => ?_)
  obtain ⟨t1, t2⟩ := hT { s with heap := h', toks := tk } ι' v T.sr R
  refine (ex2 (p := _) (s := id) M.plain ⟨M.slot, M.ty, t1, t2, hcw env v _ _ _ _ _ ?_⟩)
  refine h1 A env { s with heap := h', toks := tk } ι' pos _ E g hs T.sr (V.step S T) fun vs h'' tk' ι'' T' R' => ?_
  exact h2 A { s with heap := h'', toks := tk' } ι'' _ Q E g T'.sr (.cons (R.step T.sr T') R') fun w h3 tk3 ι3 T3 R3 => k w h3 tk3 ι3 ((T.trans T').trans T3) R3
end
section
variable {X : Stat} {d : Nat} {sc : Scope} {m m₁ m₂ : Vm} {σ σ₁ σ₂ σ₃ : Sto} {p q r : PV} {pos : Pos} {B h h' h₀ : Heap} {ι ι' ι₀ : Nat → Addr} {env : Env}
theorem Step.adopt {l : List PV} {vs : List Value} {k : Nat} {acc : Addr} (T : Step B ι₀ σ h₀ ι σ₁ h) (e : h.get? acc = some (listOf vs.toArray k)) (R : Reps h ι σ₁.length l vs) (hn : ∀ n, n < σ₁.length → ι n ≠ acc) (h0 : h₀.get? acc = none) (hB : B.get? acc = none) :
    Step B ι₀ σ h₀ (fun n => if n = σ₁.length then acc else ι n) (σ₁ ++ [.lst l]) h := by
  have S := T.sr
  have ne : ∀ n, n < σ₁.length → (if n = σ₁.length then acc else ι n) = ι n := fun n hn => if_neg (Nat.ne_of_lt hn)
  have rr : ∀ p v, Rep h ι σ₁.length p v → Rep h (fun n => if n = σ₁.length then acc else ι n) (σ₁ ++ [Cell.lst l]).length p v := fun p v r => r.grow (fun _ _ e => e) (fun n hn => ne n hn) (by simp)
  have len : (σ₁ ++ [Cell.lst l]).length = σ₁.length + 1 := by simp
  refine ⟨⟨S.base, fun n l' e' => ?_, fun i j hi hj e => ?_, fun n hn' => ?_⟩, fun n hn' => ?_, by refine rwr len ?_; have := T.len; lia, fun n a b => ?_, fun b o e hb _ => T.kept b o e hb fun h => nomatch h⟩
  · by_cases hn' : n < σ₁.length
    · rw [List.getElem?_append_left hn'] at e'
      exact (S.cell n l' e').mono (ne n hn') (fun o e => e) rr ne (by refine rwr len ?_; exact Nat.le_succ _)
    · have hn2 : n = σ₁.length := by
        obtain ⟨h1, _⟩ := List.getElem?_eq_some_iff.mp e'
        rw [len] at h1
        lia
      subst hn2
      rw [List.getElem?_concat_length] at e'
      cases e'
      refine (ex2 (p := vs) (s := k) ?_ ⟨R.1, fun i p v a b => rr _ _ (R.2 i p v a b)⟩)
      refine rwr (if_pos rfl) ?_
      exact e
  · rw [len] at hi hj
    have e' : (if i = σ₁.length then acc else ι i) = (if j = σ₁.length then acc else ι j) := e
    by_cases h1 : i = σ₁.length <;> by_cases h2 : j = σ₁.length
    · refine rwr h1 ?_; rw [h2]
    · rw [if_pos h1, if_neg h2] at e'
      exact absurd e'.symm (hn j (by lia))
    · rw [if_neg h1, if_pos h2] at e'
      exact absurd e' (hn i (by lia))
    · rw [if_neg h1, if_neg h2] at e'
      exact S.inj i j (by lia) (by lia) e'
  · rw [len] at hn'
    by_cases h1 : n = σ₁.length
    · simp only [h1, if_true]; exact hB
    · simp only [h1, if_false]; exact S.fresh n (by lia)
  · rw [ne n (Nat.lt_of_lt_of_le hn' T.len)]; exact T.ext n hn'
  · rw [len] at b
    refine ⟨?_, fun h => nomatch h⟩
    by_cases h1 : n = σ₁.length
    · simp only [h1, if_true]; exact h0
    · simp only [h1, if_false]; exact (T.new n a (by lia)).1
noncomputable def AsgL (X : Stat) (d : Nat) (sc : Scope) (m : Vm) (t : Expr) (p : PV) (m' : Vm) : Prop :=
  ∀ (A : Around) (env : Env) (s : Shared) (ι : Nat → Addr) (σ : Sto) (v : Value) (Q : Unit → Shared → Prop) (E : Value → Shared → Prop), Good d A → env.scope = sc → SR X.B ι σ s.heap → VR X.B ι σ env m s.heap → Rep s.heap ι σ.length p v →
    (∀ h' tk, Chg [env.locals] X.B ι σ s.heap ι σ h' → VR X.B ι σ env m' h' → Q () { s with heap := h', toks := tk }) → wpAny (model X.prog X.w) A (assign t env v) Q E s
theorem soft_locals (V : VR B ι σ env m h) : Soft [env.locals] h := fun a ha => V.soft a (by refine rwr (List.mem_singleton.mp ha) ?_; exact List.mem_cons_self)
theorem store_local {A : Around} {s : Shared} {E : Value → Shared → Prop} {Q : Unit → Shared → Prop} {x : Str} {v : Value} (S : SR X.B ι σ s.heap) (V : VR X.B ι σ env m s.heap) (R : Rep s.heap ι σ.length p v)
    (hk : env.kindOf x = some .local)
    (k : ∀ h' tk, Chg [env.locals] X.B ι σ s.heap ι σ h' → VR X.B ι σ env (put m x p) h' → Q () { s with heap := h', toks := tk }) : wpAny (model X.prog X.w) A (storeName env x v) Q E s := by
  have hloc : env.locals ∉ env.cells.map (·.2) := (List.nodup_cons.mp V.nodup).1
  obtain ⟨mv, hn⟩ := V.ns
  refine wpAny_storeName_local hk hn (fun h' hn' hs => ?_) (by rw [V.kind]; rfl)
  have A0 := V.apart env.locals List.mem_cons_self
  have hm : env.locals ∈ [env.locals] := List.mem_singleton.mpr rfl
  have T : Chg [env.locals] X.B ι σ s.heap ι σ h' := chg_same S (soft_locals V) hm A0.1 A0.2.1 hs
  refine k h' _ T ⟨V.kind, V.glob, V.bi, ⟨_, hn'⟩, V.cell, fun a ha => ?_, fun y q e => ?_, apart_same V.apart (let ⟨o, _, _, e, _⟩ := hn'; ⟨o, e⟩) hs, V.nodup⟩
  · obtain ⟨cv, o, e, hd⟩ := V.cells a ha
    exact (ex2 (p := cv) (s := o) ((hs.2 a fun q => hloc (q ▸ ha)).trans e) hd)
  · rw [lookup_put] at e
    by_cases hy : (y == x) = true
    · rw [if_pos hy] at e
      cases e
      have : y = x := eq_of_beq hy
      subst this
      refine (ex1 (p := v) ?_ (R.chg (soft_locals V) S T))
      unfold VarAt
      refine rwr hk ?_
      exact (ex1 hn' (by simp))
    · rw [if_neg hy] at e
      obtain ⟨u, a, r⟩ := V.var y q e
      have hne : y ≠ x := fun q => hy (by refine rwr q ?_; exact beq_self_eq_true x)
      refine (ex1 (p := u) ?_ (r.chg (soft_locals V) S T))
      unfold VarAt at a ⊢
      split at a
      · obtain ⟨mv', hn2, e2⟩ := a
        refine (ex1 hn' ?_)
        have : mv' = mv := ns_uniq hn2 hn
        subst this
        simp only [if_neg hne]
        exact e2
      · obtain ⟨c, hl, o, e2, hd⟩ := a
        exact ⟨c, hl, o, (hs.2 c fun q => hloc (q ▸ lookup_mem hl)).trans e2, hd⟩
      · obtain ⟨c, hl, o, e2, hd⟩ := a
        exact ⟨c, hl, o, (hs.2 c fun q => hloc (q ▸ lookup_mem hl)).trans e2, hd⟩
      · exact a.elim
theorem asgL_name {x : Str} {px : Pos} (hk : sc.names.lookup x = some .local) : AsgL X d sc m (.Name x px) p (put m x p) := by
  intro A env s ι σ v Q E g hs S V R k
  exact wpAny_assign_Name (store_local S V R (by unfold Env.kindOf; refine rwr hs ?_; exact hk) k)
noncomputable def Tsts (X : Stat) (d : Nat) (sc : Scope) (m : Vm) (σ : Sto) (cs : List Expr) (b : Bool) (σ' : Sto) : Prop :=
  ∀ (A : Around) (env : Env) (s : Shared) (ι : Nat → Addr) (Q : Bool → Shared → Prop) (E : Value → Shared → Prop), Good d A → env.scope = sc → SR X.B ι σ s.heap → VR X.B ι σ env m s.heap →
    (∀ h' tk ι', Step X.B ι σ s.heap ι' σ' h' → Q b { s with heap := h', toks := tk }) →
    wpAny (model X.prog X.w) A (forIn cs true fun c r => if r = true then do let ok ← isTrue c env (eval c env); pure (ForInStep.yield ok) else pure (ForInStep.yield r)) Q E s
theorem tsts_nil : Tsts X d sc m σ [] true σ := fun _ _ s ι _ _ _ _ S _ k => wpAny_tests_nil (k s.heap s.toks ι (Step.refl S))
theorem tsts_one {c : Expr} {b : Bool} (h1 : Tst X d sc m σ c b σ₁) : Tsts X d sc m σ [c] b σ₁ := fun A env s ι Q E g hs S V k => wpAny_tests_one (h1 A env s ι Q E g hs S V k)
noncomputable def CL (X : Stat) (d : Nat) (sc : Scope) (e : Expr) (dep : Nat) (a : AI) (m : Vm) (σ : Sto) (rs : List PV) (σ' : Sto) : Prop :=
  ∀ (A : Around) (env : Env) (s : Shared) (ι : Nat → Addr) (fp wr : List Addr) (I acc : Addr) (vs : List Value) (k0 : Nat) (R : Result → Shared → Prop), Good d A → env.scope = sc → SR X.B ι σ s.heap → VR X.B ι σ env m s.heap → Itr X s.heap ι σ env fp wr I a →
    s.heap.get? acc = some (listOf vs.toArray k0) → acc ∉ fp → acc ∉ Own env → (∀ n, n < σ.length → ι n ≠ acc) → X.B.get? acc = none → vs.length + rs.length ≤ 16777216 →
    (∀ h' tk ι' ws k', Chg (acc :: wr ++ [env.locals]) X.B ι σ s.heap ι' σ' h' → h'.get? acc = some (listOf (vs ++ ws).toArray k') → Reps h' ι' σ'.length rs ws → (∃ mv, h'.Ns env.locals mv) → R (.ok .next) { s with heap := h', toks := tk }) →
    codeAny (model X.prog X.w) A (.compLoop e dep (.ref I) (.ref acc) env) R s
noncomputable def Turns (X : Stat) (e : Expr) (dep : Nat) (elt target : Expr) (ifs : List Expr) : Prop := ∀ (A : Around) (R : Result → Shared → Prop) (s : Shared) (it acc : Value) (env : Env),
  wpAny (model X.prog X.w) A (pyNext it) (fun r s₁ => match r with
      | none => R (.ok .next) s₁
      | some v => wpAny (model X.prog X.w) A (letOwnedTupleGo target it v) (fun _ s₁' => wpAny (model X.prog X.w) A (assign target env v) (fun _ s₂ =>
          wpAny (model X.prog X.w) A (forIn ifs true fun c r => if r = true then do let ok ← isTrue c env (eval c env); pure (ForInStep.yield ok) else pure (ForInStep.yield r)) (fun ok s₃ =>
            if ok = true then wpAny (model X.prog X.w) A (eval elt env) (fun x s₄ =>
              wpAny (model X.prog X.w) A (call (.builtin "list.append") [acc, x]) (fun _ s₅ => codeAny (model X.prog X.w) A (.compLoop e dep it acc env) R s₅) (notedBy (model X.prog X.w) A env fun e s' => R (.error e) s') s₄) (notedBy (model X.prog X.w) A env fun e s' => R (.error e) s') s₃
            else codeAny (model X.prog X.w) A (.compLoop e dep it acc env) R s₃) (notedBy (model X.prog X.w) A env fun e s' => R (.error e) s') s₂) (notedBy (model X.prog X.w) A env fun e s' => R (.error e) s') s₁') (notedBy (model X.prog X.w) A env fun e s' => R (.error e) s') s₁) (notedBy (model X.prog X.w) A env fun e s' => R (.error e) s') s →
  codeAny (model X.prog X.w) A (.compLoop e dep it acc env) R s
theorem turns_of {e elt target iter : Expr} {ifs : List Expr} {dep : Nat} (hA : ∀ (A : Around) it acc env, A.under (.compLoop e dep it acc env) = A) (hf : ∀ it acc env, (model X.prog X.w).den (.compLoop e dep it acc env) = (compTurn e dep it acc env).onRaise (fun x => do noteFrame x env; theTreesLotGoes x)) (ht : ∀ it acc env, compTurn e dep it acc env = (do
      standAt iter.pos
      match ← pyNext it with
      | none => pure (.done .next)
      | some v =>
        letOwnedTupleGo target it v
        assign target env v
        let mut ok := true
        for c in ifs do
          if ok then ok ← isTrue c env (eval c env)
        if ok then
          (do let _ ← call (.builtin "list.append") [acc, ← eval elt env])
        again (.compLoop e dep it acc env))) : Turns X e dep elt target ifs := by
  intro A R s it acc env turn
  refine codeAny_of_tree ?_
  rw [hA, hf]
  refine wpAny_noted ?_
  rw [ht]
  refine wpAny_bind (wpAny_standAt (wpAny_bind (wpAny_mono turn (fun r s₁ h₁ => ?_) fun _ _ h' => h')))
  cases r with
  | none => exact wpAny_pure h₁
  | some v =>
    refine wpAny_bind (wpAny_mono h₁ (fun _ s₁' h₁' => ?_) fun _ _ h' => h')
    refine wpAny_bind (wpAny_mono h₁' (fun _ s₂ h₂ => wpAny_bind (wpAny_mono h₂ (fun ok s₃ h₃ => ?_) fun _ _ h' => h')) fun _ _ h' => h')
    cases ok with
    | false => exact wpAny_pure ⟨rfl, h₃⟩
    | true =>
      exact wpAny_bind (wpAny_bind (wpAny_mono h₃ (fun x s₄ h₄ => wpAny_bind (wpAny_mono h₄ (fun _ s₅ h₅ => wpAny_pure (wpAny_pure ⟨rfl, h₅⟩)) fun _ _ h' => h')) fun _ _ h' => h'))
theorem turns1 {elt target iter : Expr} {ifs : List Expr} {scope : Scope} : Turns X (.ListComp elt [⟨target, iter, ifs, 0⟩] scope pos) 0 elt target ifs := turns_of (iter := iter) (fun _ _ _ _ => rfl) (fun _ _ _ => rfl) fun _ _ _ => rfl
theorem turns2 {elt target iter : Expr} {g : Comprehension} {ifs : List Expr} {scope : Scope} : Turns X (.ListComp elt [g, ⟨target, iter, ifs, 0⟩] scope pos) 1 elt target ifs := turns_of (iter := iter) (fun _ _ _ _ => rfl) (fun _ _ _ => rfl) fun _ _ _ => rfl
noncomputable def Done (X : Stat) (e : Expr) (dep : Nat) : Prop := ∀ (A : Around) (R : Result → Shared → Prop) (s : Shared) (it acc : Value) (env : Env),
  wpAny (model X.prog X.w) A (pyNext it) (fun r s₁ => r = none ∧ R (.ok .next) s₁) (notedBy (model X.prog X.w) A env fun e s' => R (.error e) s') s → codeAny (model X.prog X.w) A (.compLoop e dep it acc env) R s
theorem Turns.done {e : Expr} {dep : Nat} {elt tgt : Expr} {ifs : List Expr} (h : Turns X e dep elt tgt ifs) : Done X e dep := fun A R s it acc env w => h A R s it acc env (wpAny_mono w (fun r s₁ ⟨e, q⟩ => by subst e; exact q) fun _ _ h => h)
theorem cl_done {e : Expr} {dep : Nat} {a : AI} (he : Done X e dep) (N : Nxt σ a none) : CL X d sc e dep a m σ [] σ := by
  intro A env s ι fp wr I acc vs k0 R g hs S V x hacc hf ho hi hB hz k
  refine he _ _ _ _ _ _ (x.ends S g.1 N fun h' tk T => ?_)
  have hw : acc ∉ wr := fun q => hf (x.sub _ q)
  have V' := V.chg x.soft S T fun a ha => x.own a (x.sub a ha)
  refine ⟨rfl, k h' tk ι [] k0 (T.more (fun a ha => .inl (List.mem_append_left _ (List.mem_cons_of_mem _ ha))) fun a ha => ?_) ?_ .nil V'.ns⟩
  · rcases List.mem_append.mp ha with ha | ha
    · rcases List.mem_cons.mp ha with rfl | ha
      · exact .inr (.inl ⟨_, hacc⟩)
      · exact .inl ha
    · refine rwr (List.mem_singleton.mp ha) ?_; exact .inr (.inl (V.live _ List.mem_cons_self))
  · rw [List.append_nil]; exact T.kept _ _ hacc hi hw
theorem soft_app {D D' : List Addr} (a : Soft D h) (b : Soft D' h) : Soft (D ++ D') h := fun x hx => (List.mem_append.mp hx).elim (a x) (b x)
theorem soft_list {a : Addr} {vs : Array Value} {n : Nat} (e : h.get? a = some (listOf vs n)) : Soft [a] h := NoVal.soft fun b hb => by
  refine rwr (List.mem_singleton.mp hb) ?_
  exact (ex2 e ⟨rfl, by decide, by decide⟩)
theorem live_all {acc I : Addr} {fp wr : List Addr} {a : AI} {o : Obj} (e : h.get? acc = some o) (x : Itr X h ι σ env fp wr I a) (V : VR B ι σ env m h) : ∀ a ∈ acc :: wr ++ [env.locals], ∃ o, h.get? a = some o := fun a ha => by
  rcases List.mem_append.mp ha with ha | ha
  · rcases List.mem_cons.mp ha with rfl | ha
    · exact ⟨_, e⟩
    · exact (x.apart a (x.sub a ha)).2.2
  · refine rwr (List.mem_singleton.mp ha) ?_; exact V.live _ List.mem_cons_self
theorem cl_turn {e : Expr} {dep : Nat} {elt tgt : Expr} {ifs : List Expr} {a a' : AI} {rs : List PV} (he : Turns X e dep elt tgt ifs)
    (N : Nxt σ a (some (p, a'))) (hg : NoGo tgt a) (h1 : AsgL X d sc m tgt p m₁) (h2 : Tsts X d sc m₁ σ ifs true σ₁) (h3 : Ev X d sc m₁ σ₁ elt q σ₂) (h4 : CL X d sc e dep a' m₁ σ₂ rs σ₃) : CL X d sc e dep a m σ (q :: rs) σ₃ := by
  intro A env s ι fp wr I acc vs k0 R g hs S V x hacc hf ho hi hB hz k
  have hw : acc ∉ wr := fun q => hf (x.sub _ q)
  have hloc : acc ≠ env.locals := fun q => ho (q ▸ List.mem_cons_self)
  refine he _ _ _ _ _ _ (x.take S g.1 N hg fun v h' tk T x' r => ?_)
  have V' := V.chg x.soft S T fun a ha => x.own a (x.sub a ha)
  refine h1 A env { s with heap := h', toks := tk } ι σ v _ _ g hs T.sr V' r fun h1' tk1 T1 V1 => ?_
  refine h2 A env { s with heap := h1', toks := tk1 } ι _ _ g hs T1.sr V1 fun h2' tk2 ι2 T2 => ?_
  refine rwr (if_pos rfl) ?_
  have V2 := V1.step T1.sr T2
  refine h3 A env { s with heap := h2', toks := tk2 } ι2 _ _ g hs T2.sr V2 fun u h3' tk3 ι3 T3 R3 => ?_
  have V3 := V2.step T2.sr T3
  have x1 := x'.chg T1 fun b hb q => x.own b hb (by refine rwr (List.mem_singleton.mp q) ?_; exact List.mem_cons_self)
  have x3 := (x1.chg T2 fun _ _ h => nomatch h).chg T3 fun _ _ h => nomatch h
  have T23 := T2.trans T3
  have a0 : h'.get? acc = some (listOf vs.toArray k0) := T.kept _ _ hacc hi hw
  have a1 : h1'.get? acc = some (listOf vs.toArray k0) := T1.kept _ _ a0 hi fun q => hloc (List.mem_singleton.mp q)
  have a3 : h3'.get? acc = some (listOf vs.toArray k0) := T23.kept _ _ a1 hi fun h => nomatch h
  have hi3 : ∀ n, n < σ₂.length → ι3 n ≠ acc := (apart_chg (D := []) (l := [acc]) (P := fun _ => True) (fun _ _ h => nomatch h) (fun b hb => by refine rwr (List.mem_singleton.mp hb) ?_; exact ⟨hi, trivial, _, a1⟩) T23 acc (List.mem_singleton.mpr rfl)).1
  rw [List.length_cons] at hz
  refine wpAny_list_append_plain ⟨_, a3⟩ (fun h4' hp hsb => ?_) (by refine rwr sizeLine_eq ?_; simp; lia)
  obtain ⟨k4, a4⟩ := hp
  have sl : Soft [acc] h3' := soft_list a3
  have T4 : Chg [acc] X.B ι3 σ₂ h3' ι3 σ₂ h4' := chg_same T3.sr sl (List.mem_singleton.mpr rfl) hi3 hB hsb
  have V4 := V3.chg sl T3.sr T4 fun b hb => by refine rwr (List.mem_singleton.mp hb) ?_; exact ho
  have x4 := x3.chg T4 fun b hb q => hf (by rw [← List.mem_singleton.mp q]; exact hb)
  have e4 : h4'.get? acc = some (listOf (vs ++ [u]).toArray k4) := by refine rwr a4 ?_; simp
  refine h4 A env { s with heap := h4', toks := tk3 } ι3 fp wr I acc (vs ++ [u]) k4 R g hs T4.sr V4 x4 e4 hf ho hi3 hB (by simp; lia) fun h5 tk5 ι5 ws k5 T5 a5 R5 n5 => ?_
  have lA : ∀ a ∈ acc :: wr ++ [env.locals], ∃ o, s.heap.get? a = some o := live_all hacc x V
  have D0 : Chg (acc :: wr ++ [env.locals]) X.B ι σ s.heap ι σ h' := T.more (fun a ha => .inl (List.mem_append_left _ (List.mem_cons_of_mem _ ha))) fun a ha => .inr (.inl (lA a ha))
  have lv1 : ∀ a ∈ acc :: wr ++ [env.locals], ∃ o, h'.get? a = some o := live_all a0 x' V'
  have D1 : Chg (acc :: wr ++ [env.locals]) X.B ι σ h' ι σ h1' := T1.more (fun a ha => .inl (List.mem_append_right _ ha)) fun a ha => .inr (.inl (lv1 a ha))
  have lv3 : ∀ a ∈ acc :: wr ++ [env.locals], ∃ o, h1'.get? a = some o := live_all a1 x1 V1
  have D23 : Chg (acc :: wr ++ [env.locals]) X.B ι σ h1' ι3 σ₂ h3' := Step.on' T23 lv3
  have lv4 : ∀ a ∈ acc :: wr ++ [env.locals], ∃ o, h3'.get? a = some o := live_all a3 x3 V3
  have D4 : Chg (acc :: wr ++ [env.locals]) X.B ι3 σ₂ h3' ι3 σ₂ h4' := T4.more (fun a ha => .inl (by refine rwr (List.mem_singleton.mp ha) ?_; exact List.mem_append_left _ List.mem_cons_self)) fun a ha => .inr (.inl (lv4 a ha))
  refine k h5 tk5 ι5 (u :: ws) k5 ((((D0.trans D1).trans D23).trans D4).trans T5) (by refine rwr a5 ?_; simp) (.cons ?_ R5) n5
  have s5 : Soft (acc :: wr ++ [env.locals]) h4' := soft_app (soft_app (D := [acc]) (soft_list e4) x4.soft) (soft_locals V4)
  exact (R3.chg sl T3.sr T4).chg s5 T4.sr T5
theorem cl_skip {e : Expr} {dep : Nat} {elt tgt : Expr} {ifs : List Expr} {a a' : AI} {rs : List PV} (he : Turns X e dep elt tgt ifs)
    (N : Nxt σ a (some (p, a'))) (hg : NoGo tgt a) (h1 : AsgL X d sc m tgt p m₁) (h2 : Tsts X d sc m₁ σ ifs false σ₁) (h4 : CL X d sc e dep a' m₁ σ₁ rs σ₂) : CL X d sc e dep a m σ rs σ₂ := by
  intro A env s ι fp wr I acc vs k0 R g hs S V x hacc hf ho hi hB hz k
  have hw : acc ∉ wr := fun q => hf (x.sub _ q)
  have hloc : acc ≠ env.locals := fun q => ho (q ▸ List.mem_cons_self)
  refine he _ _ _ _ _ _ (x.take S g.1 N hg fun v h' tk T x' r => ?_)
  have V' := V.chg x.soft S T fun a ha => x.own a (x.sub a ha)
  refine h1 A env { s with heap := h', toks := tk } ι σ v _ _ g hs T.sr V' r fun h1' tk1 T1 V1 => ?_
  refine h2 A env { s with heap := h1', toks := tk1 } ι _ _ g hs T1.sr V1 fun h2' tk2 ι2 T2 => ?_
  refine rwr (if_neg Bool.false_ne_true) ?_
  have V2 := V1.step T1.sr T2
  have x1 := x'.chg T1 fun b hb q => x.own b hb (by refine rwr (List.mem_singleton.mp q) ?_; exact List.mem_cons_self)
  have x3 := x1.chg T2 fun _ _ h => nomatch h
  have a0 : h'.get? acc = some (listOf vs.toArray k0) := T.kept _ _ hacc hi hw
  have a1 : h1'.get? acc = some (listOf vs.toArray k0) := T1.kept _ _ a0 hi fun q => hloc (List.mem_singleton.mp q)
  have a3 : h2'.get? acc = some (listOf vs.toArray k0) := T2.kept _ _ a1 hi fun h => nomatch h
  have hi3 : ∀ n, n < σ₁.length → ι2 n ≠ acc := (apart_chg (D := []) (l := [acc]) (P := fun _ => True) (fun _ _ h => nomatch h) (fun b hb => by refine rwr (List.mem_singleton.mp hb) ?_; exact ⟨hi, trivial, _, a1⟩) T2 acc (List.mem_singleton.mpr rfl)).1
  refine h4 A env { s with heap := h2', toks := tk2 } ι2 fp wr I acc vs k0 R g hs T2.sr V2 x3 a3 hf ho hi3 hB hz fun h5 tk5 ι5 ws k5 T5 a5 R5 n5 => ?_
  have lA : ∀ a ∈ acc :: wr ++ [env.locals], ∃ o, s.heap.get? a = some o := live_all hacc x V
  have D0 : Chg (acc :: wr ++ [env.locals]) X.B ι σ s.heap ι σ h' := T.more (fun a ha => .inl (List.mem_append_left _ (List.mem_cons_of_mem _ ha))) fun a ha => .inr (.inl (lA a ha))
  have lv1 : ∀ a ∈ acc :: wr ++ [env.locals], ∃ o, h'.get? a = some o := live_all a0 x' V'
  have D1 : Chg (acc :: wr ++ [env.locals]) X.B ι σ h' ι σ h1' := T1.more (fun a ha => .inl (List.mem_append_right _ ha)) fun a ha => .inr (.inl (lv1 a ha))
  have lv3 : ∀ a ∈ acc :: wr ++ [env.locals], ∃ o, h1'.get? a = some o := live_all a1 x1 V1
  have D23 : Chg (acc :: wr ++ [env.locals]) X.B ι σ h1' ι2 σ₁ h2' := Step.on' T2 lv3
  exact k h5 tk5 ι5 ws k5 (((D0.trans D1).trans D23).trans T5) a5 R5 n5
noncomputable def rlk (sc : Scope) (x : Str × NameKind) : Str × NameKind := if (x.2 == .free && sc.kind == .function && sc.names.lookup x.1 == some .cell) then (x.1, .cell) else x
noncomputable def rl (scope sc : Scope) : Scope := { scope with names := scope.names.map (rlk sc) }
noncomputable def clOf (cells : List (Str × Addr)) (x : Str × NameKind) : Option (Str × Addr) := if x.2 == .free then (cells.lookup x.1).map fun a => (x.1, a) else none
theorem closure_go (cells : List (Str × Addr)) (env : Env) (he : env.cells = cells) : ∀ (names : List (Str × NameKind)) (acc : List (Str × Addr)), (∀ x ∈ names, x.2 = .free → ∃ c, cells.lookup x.1 = some c) →
    (forIn names acc fun (x : Str × NameKind) (r : List (Str × Addr)) => if x.2 == .free then (do let a ← cellOf env x.1; pure (ForInStep.yield ((x.1, a) :: r))) else pure (ForInStep.yield r) : Sem (List (Str × Addr))) = pure ((names.filterMap (clOf cells)).reverse ++ acc)
  | [], acc, _ => rfl
  | (n, k) :: r, acc, h => by
    have ih := fun acc => closure_go cells env he r acc fun x hx => h x (List.mem_cons_of_mem _ hx)
    rw [List.forIn_cons]
    cases hk : k == .free with
    | true =>
      obtain ⟨c, hc⟩ := h (n, k) List.mem_cons_self (eq_of_beq hk)
      have e : cellOf env n = pure c := by unfold cellOf; refine rwr he ?_; rw [hc]
      simp only [if_true, e, pure_bind]
      rw [ih]
      have : clOf cells (n, k) = some (n, c) := by unfold clOf; simp only [hk, if_true]; refine rwr hc ?_; rfl
      rw [List.filterMap_cons, this]
      simp
    | false =>
      simp only [Bool.false_eq_true, if_false, pure_bind]
      rw [ih]
      have : clOf cells (n, k) = none := by unfold clOf; simp only [hk]; rfl
      rw [List.filterMap_cons, this]
theorem closure_is {scope : Scope} {env : Env} (h : ∀ x ∈ scope.names, x.2 = .free → ∃ c, env.cells.lookup x.1 = some c) : closureFor scope env = pure (scope.names.filterMap (clOf env.cells)).reverse := by
  have := closure_go env.cells env rfl scope.names [] h
  rw [List.append_nil] at this
  refine rwr (this).symm ?_
  unfold closureFor
  rw [bind_pure]
noncomputable def mc (m : Vm) (scope : Scope) : Vm := m.filter fun x => scope.names.lookup x.1 == some .free
theorem mc_lookup {scope : Scope} {x : Str} : ∀ {m : Vm}, (mc m scope).lookup x = some p → m.lookup x = some p ∧ scope.names.lookup x = some .free
  | (y, q) :: r, e => by
    unfold mc at e
    rw [List.filter_cons] at e
    rw [List.lookup_cons]
    by_cases h : (scope.names.lookup y == some NameKind.free) = true
    · rw [if_pos h, List.lookup_cons] at e
      cases hxy : x == y with
      | true =>
        simp only [hxy] at e ⊢
        have : x = y := eq_of_beq hxy
        subst this
        exact ⟨e, eq_of_beq h⟩
      | false => simp only [hxy] at e ⊢; exact mc_lookup e
    · rw [if_neg h] at e
      have ih := mc_lookup (m := r) e
      cases hxy : x == y with
      | true =>
        have : x = y := eq_of_beq hxy
        subst this
        exact absurd (by rw [ih.2]; rfl) h
      | false => exact ih
theorem map_lookup (φ : Str × NameKind → NameKind) (g : Str × NameKind → Str × NameKind) (hg : ∀ x, g x = (x.1, φ x)) {x : Str} : ∀ l : List (Str × NameKind), (l.map g).lookup x = (l.lookup x).map fun k => φ (x, k)
  | [] => rfl
  | (y, k) :: r => by
    rw [List.map_cons, hg, List.lookup_cons, List.lookup_cons]
    cases hxy : x == y with
    | true =>
      have : x = y := eq_of_beq hxy
      subst this
      rfl
    | false => exact map_lookup φ g hg r
theorem rlk_eq (sc : Scope) (x : Str × NameKind) : rlk sc x = (x.1, if (x.2 == .free && sc.kind == .function && sc.names.lookup x.1 == some .cell) = true then .cell else x.2) := by
  unfold rlk
  split <;> rfl
theorem rl_lookup {scope sc : Scope} (x : Str) : (rl scope sc).names.lookup x = (scope.names.lookup x).map fun k => if (k == .free && sc.kind == .function && sc.names.lookup x == some .cell) = true then .cell else k :=
  map_lookup (fun x => if (x.2 == .free && sc.kind == .function && sc.names.lookup x.1 == some .cell) = true then .cell else x.2) (rlk sc) (rlk_eq sc) scope.names
theorem lookup_mem_names {x : Str} {k : NameKind} : ∀ {l : List (Str × NameKind)}, l.lookup x = some k → (x, k) ∈ l
  | (y, j) :: r, e => by
    rw [List.lookup_cons] at e
    cases hxy : x == y with
    | true => simp only [hxy] at e; cases e; refine rwr (eq_of_beq hxy) ?_; exact List.mem_cons_self
    | false => simp only [hxy] at e; exact List.mem_cons_of_mem _ (lookup_mem_names e)
theorem lookup_isSome {x : Str} {c : Addr} : ∀ {l : List (Str × Addr)}, (x, c) ∈ l → ∃ c', l.lookup x = some c'
  | (y, e) :: r, hm => by
    rw [List.lookup_cons]
    cases hxy : x == y with
    | true => exact ⟨e, rfl⟩
    | false =>
      rcases List.mem_cons.mp hm with q | q
      · cases q; simp at hxy
      · exact lookup_isSome q
theorem vr_comp {scope : Scope} {C : Addr} (S : SR B ι σ h) (V : VR B ι σ env m h) (kp : ∀ b o, h.get? b = some o → h'.get? b = some o) (hC : h.get? C = none) (hns : h'.Ns C fun _ => none)
    (hk : scope.kind = .function) (hnc : ∀ x ∈ scope.names, x.2 ≠ .cell) (hfr : ∀ x ∈ scope.names, x.2 = .free → env.scope.names.lookup x.1 = some .cell) (hnd : (scope.names.map (·.1)).Nodup) :
    VR B ι σ (compEnvC scope (scope.names.filterMap (clOf env.cells)).reverse C env) (mc m scope) h' := by
  have T := step_keep S kp
  have V' := V.step S T
  have mem : ∀ x c, (x, c) ∈ (scope.names.filterMap (clOf env.cells)).reverse → env.cells.lookup x = some c ∧ (x, NameKind.free) ∈ scope.names := fun x c hm => by
    rw [List.mem_reverse, List.mem_filterMap] at hm
    obtain ⟨⟨y, k⟩, hy, e⟩ := hm
    unfold clOf at e
    split at e
    · rename_i hf
      obtain ⟨a, ha, e⟩ := Option.map_eq_some_iff.mp e
      cases e
      exact ⟨ha, by rw [← eq_of_beq hf]; exact hy⟩
    · exact nn e
  have has : ∀ x, (x, NameKind.free) ∈ scope.names → ∃ c, (scope.names.filterMap (clOf env.cells)).reverse.lookup x = some c := fun x hx => by
    obtain ⟨c, hc⟩ := V.cell x (hfr _ hx rfl)
    refine lookup_isSome (c := c) ?_
    rw [List.mem_reverse, List.mem_filterMap]
    exact ⟨(x, .free), hx, by unfold clOf; simp only [beq_self_eq_true, if_true]; refine rwr hc ?_; rfl⟩
  have at' : ∀ x c, (scope.names.filterMap (clOf env.cells)).reverse.lookup x = some c → env.cells.lookup x = some c := fun x c e => (mem x c (mem_of_lookup e)).1
  have subs : ∀ a ∈ (scope.names.filterMap (clOf env.cells)).reverse.map (·.2), a ∈ env.cells.map (·.2) := fun a ha => by
    obtain ⟨⟨x, c⟩, hm, rfl⟩ := List.mem_map.mp ha
    exact lookup_mem (mem x c hm).1
  refine ⟨hk, V.glob, V.bi, ⟨_, hns⟩, fun x hx => ?_, fun a ha => V'.cells a (subs a ha), fun x q e => ?_, fun a ha => ?_, ?_⟩
  · have hx' : (rl scope env.scope).names.lookup x = some .cell := hx
    rw [rl_lookup] at hx'
    obtain ⟨k, e1, e2⟩ := Option.map_eq_some_iff.mp hx'
    have hm := lookup_mem_names e1
    have hkf : k = .free := by
      split at e2
      · rename_i hc
        simp only [Bool.and_eq_true, beq_iff_eq] at hc
        exact hc.1.1
      · exact absurd e2 (hnc _ hm)
    subst hkf
    exact has x hm
  · obtain ⟨e1, e2⟩ := mc_lookup e
    have hm := lookup_mem_names e2
    obtain ⟨v, a, r⟩ := V'.var x q e1
    refine (ex1 (p := v) ?_ r)
    have hkc := hfr _ hm rfl
    unfold VarAt at a ⊢
    have k1 : env.kindOf x = some .cell := hkc
    rw [k1] at a
    have k2 : (compEnvC scope (scope.names.filterMap (clOf env.cells)).reverse C env).kindOf x = some .cell := by
      show (rl scope env.scope).names.lookup x = _
      rw [rl_lookup, e2]
      simp [V.kind, hkc]
    refine rwr k2 ?_
    obtain ⟨c, hl, hcell⟩ := a
    obtain ⟨c', hc'⟩ := has x hm
    have : c' = c := by have := at' x c' hc'; rw [hl] at this; exact (Option.some.inj this).symm
    subst this
    exact (ex1 (p := c') hc' hcell)
  · rcases List.mem_cons.mp ha with e | hm
    · have e : a = C := e
      subst e
      refine ⟨fun n hn e => ?_, ?_, ?_⟩
      · obtain ⟨ob, e1⟩ := S.live_at hn
        rw [e, hC] at e1
        exact nn e1
      · cases e : B.get? a with
        | none => rfl
        | some o => have := S.base a o e; rw [hC] at this; exact nn this
      · obtain ⟨o, _, _, e, _⟩ := hns
        exact ⟨o, e⟩
    · exact V'.apart a (List.mem_cons_of_mem _ (subs a hm))
  · refine List.nodup_cons.mpr ⟨fun hm => ?_, ?_⟩
    · obtain ⟨o, e⟩ := V.live C (List.mem_cons_of_mem _ (subs C hm))
      rw [hC] at e
      exact nn e
    · show ((scope.names.filterMap (clOf env.cells)).reverse.map (·.2)).Nodup
      rw [List.map_reverse]
      refine List.pairwise_reverse.mpr ?_
      refine List.Pairwise.map (R := fun x y : Str × Addr => x.2 ≠ y.2) _ (fun a b h => Ne.symm h) ?_
      have hp : scope.names.Pairwise fun x y => x.1 ≠ y.1 := List.pairwise_map.mp hnd
      refine List.Pairwise.filterMap (clOf env.cells) (fun a a' hne b hb b' hb' => ?_) hp
      unfold clOf at hb hb'
      split at hb
      · split at hb'
        · obtain ⟨c, hc, e⟩ := Option.map_eq_some_iff.mp hb
          obtain ⟨c', hc', e'⟩ := Option.map_eq_some_iff.mp hb'
          cases e; cases e'
          exact cell_ne V.nodup hc hc' hne
        · cases hb'
      · exact nn hb
structure CompEnd (X : Stat) (env : Env) (σ : Sto) (h : Heap) (ι : Nat → Addr) (σ' : Sto) (rs : List PV) (D C : Addr) (h3 : Heap) (ι3 : Nat → Addr) : Prop where
  step : Step X.B ι σ h ι3 (σ' ++ [.lst rs]) h3
  rep : Rep h3 ι3 (σ' ++ [Cell.lst rs]).length (.ref σ'.length) (.ref D)
  ns : ∃ mv, h3.Ns C mv
  off : ∀ n, n < (σ' ++ [Cell.lst rs]).length → ι3 n ≠ C
  base : X.B.get? C = none
  fresh : h.get? C = none
theorem CompEnd.soft {σ' : Sto} {rs : List PV} {D C : Addr} {h3 : Heap} {ι3 : Nat → Addr} (c : CompEnd X env σ h ι σ' rs D C h3 ι3) {h4 : Heap} (k : ∀ o, h3.get? C = some o → h4.get? C = some o) : Soft [C] h4 := fun b hb => by
  refine rwr (List.mem_singleton.mp hb) ?_
  obtain ⟨mv, o, es, ep, e, hd, _⟩ := c.ns
  have e := k o e
  refine ⟨fun vs q => ?_, fun x y z t u v q => ?_⟩
  · obtain ⟨o', q, _, n, q2⟩ := q
    rw [q] at e; cases e; rw [q2] at hd; cases hd
  · unfold IsRange at q; rw [q] at e; cases e; cases hd
theorem comp_core {elt tgt iter : Expr} {ifs : List Expr} {rest : List Comprehension} {scope : Scope} {a : AI} {rs : List PV} (h1 : Src X d sc m σ iter a σ₁) (h2 : CL X d (rl scope sc) (.ListComp elt (⟨tgt, iter, ifs, 0⟩ :: rest) scope pos) 0 a (mc m scope) σ₁ rs σ₂)
    (hk : scope.kind = .function) (hnc : ∀ x ∈ scope.names, x.2 ≠ .cell) (hfr : ∀ x ∈ scope.names, x.2 = .free → sc.names.lookup x.1 = some .cell) (hnd : (scope.names.map (·.1)).Nodup) (hnames : ∀ x ∈ scope.names, x.2 = .local → scope.names.lookup x.1 = some .local)
    (hz : rs.length ≤ 16777216) (hs' : ∀ (env : Env) (x : Value), foldedSetIterable iter env x = pure x)
    {use : Option (Value → Sem Unit)} {cpos : Pos} {A : Around} {s : Shared} {Q E : Value → Shared → Prop} (g : Good d A) (hs : env.scope = sc) (S : SR X.B ι σ s.heap) (V : VR X.B ι σ env m s.heap)
    (k : ∀ D C h3 tk ι3, CompEnd X env σ s.heap ι σ₂ rs D C h3 ι3 → compPost (model X.prog X.w) A E use Q (.ref D) C (.ok .next) { s with heap := h3, toks := tk }) :
    wpAny (model X.prog X.w) A (comprehension (.ListComp elt (⟨tgt, iter, ifs, 0⟩ :: rest) scope pos) scope env cpos (newList []) false (eval iter env) use) Q E s := by
  subst hs
  have hcl := closure_is (scope := scope) (env := env) fun x hx hf => V.cell x.1 (hfr x hx hf)
  refine wpAny_comprehension_free (use := use) rfl (hs' env) hcl hk hnames (h1 A env s ι _ E g rfl S V fun I fp wr hh tk ι' T hI x => ?_)
  have V1 := V.step S T
  refine wpAny_newObj_type (s := { s with heap := hh, toks := tk }) (wpAny_newFunctionEnv hnc (by intro y hy; cases hy) (fun h₁ hns hsb => ?_) hk)
  dsimp only at hns hsb ⊢
  generalize hH2 : hh.push { cls := .type "list", dict := none, data := .seq ([] : List Value).toArray } = H2 at hns hsb ⊢
  have off : ∀ (h : Heap) a, h.objs.size ≤ a → h.get? a = none := fun h a ha => by
    cases e : h.get? a with
    | none => rfl
    | some o => exact absurd (Heap.lt_size e) (Nat.not_lt.mpr ha)
  have hC : H2.objs.size = hh.objs.size + 1 := by refine rwr (hH2).symm ?_; rw [Heap.size_push]
  have kp1 : ∀ b o, hh.get? b = some o → H2.get? b = some o := fun b o e => by refine rwr (hH2).symm ?_; exact Heap.get?_push_of_some _ e
  have ltH : ∀ b o, H2.get? b = some o → b ≠ H2.objs.size := fun b o e => Nat.ne_of_lt (Heap.lt_size e)
  have kp2 : ∀ b o, H2.get? b = some o → h₁.get? b = some o := fun b o e => hsb.extBut b o (ltH b o e) (Heap.get?_push_of_some _ e)
  have acc0 : H2.get? hh.objs.size = some (listOf ([] : List Value).toArray 0) := by refine rwr (hH2).symm ?_; exact get_push
  have kp : ∀ b o, hh.get? b = some o → h₁.get? b = some o := fun b o e => kp2 b o (kp1 b o e)
  have T1 : Step X.B ι' σ₁ hh ι' σ₁ h₁ := step_keep T.sr kp
  have hCn : hh.get? H2.objs.size = none := off _ _ (by refine rwr hC ?_; exact Nat.le_succ _)
  have VC := vr_comp (scope := scope) (C := H2.objs.size) T.sr V1 kp hCn hns hk hnc hfr hnd
  have x1 := x.chg T1 fun _ _ h => nomatch h
  have accN : hh.get? hh.objs.size = none := off _ _ (Nat.le_refl _)
  have acc1 : h₁.get? hh.objs.size = some (listOf ([] : List Value).toArray 0) := kp2 _ _ acc0
  have accF : hh.objs.size ∉ fp := fun q => by obtain ⟨o, e⟩ := (x.apart _ q).2.2; rw [accN] at e; exact nn e
  have CF : H2.objs.size ∉ fp := fun q => by obtain ⟨o, e⟩ := (x.apart _ q).2.2; rw [hCn] at e; exact nn e
  have hBof : ∀ a, hh.get? a = none → X.B.get? a = none := fun a ha => by
    cases e : X.B.get? a with
    | none => rfl
    | some o => have := T.sr.base a o e; rw [ha] at this; exact nn this
  have hiof : ∀ a, hh.get? a = none → ∀ n, n < σ₁.length → ι' n ≠ a := fun a ha n hn e => by
    obtain ⟨ob, e1⟩ := T.sr.live_at hn
    rw [e, ha] at e1
    exact nn e1
  have subs : ∀ a ∈ (scope.names.filterMap (clOf env.cells)).reverse.map (·.2), a ∈ env.cells.map (·.2) := fun a ha => by
    obtain ⟨⟨x, c⟩, hm, rfl⟩ := List.mem_map.mp ha
    rw [List.mem_reverse, List.mem_filterMap] at hm
    obtain ⟨⟨y, k⟩, hy, e⟩ := hm
    unfold clOf at e
    split at e
    · obtain ⟨a, ha, e⟩ := Option.map_eq_some_iff.mp e
      cases e
      exact lookup_mem ha
    · exact nn e
  have ownC : ∀ a ∈ Own (compEnvC scope (scope.names.filterMap (clOf env.cells)).reverse H2.objs.size env), a = H2.objs.size ∨ a ∈ Own env := fun a ha => (List.mem_cons.mp ha).imp id fun hm => List.mem_cons_of_mem _ (subs a hm)
  have x2 : Itr X h₁ ι' σ₁ (compEnvC scope (scope.names.filterMap (clOf env.cells)).reverse H2.objs.size env) fp wr I a := ⟨x1.sub, x1.it, x1.apart, fun b hb q => (ownC b q).elim (fun e => CF (e ▸ hb)) fun q => x.own b hb q, x1.in_⟩
  have accO : hh.objs.size ∉ Own (compEnvC scope (scope.names.filterMap (clOf env.cells)).reverse H2.objs.size env) := fun q => (ownC _ q).elim (fun e => absurd e (by refine rwr hC ?_; exact Nat.ne_of_lt (Nat.lt_succ_self _))) fun q => by
    obtain ⟨o, e⟩ := V1.live _ q; rw [accN] at e; exact nn e
  have loop : codeAny (model X.prog X.w) A (.compLoop (.ListComp elt (⟨tgt, iter, ifs, 0⟩ :: rest) scope pos) 0 (.ref I) (.ref hh.objs.size) (compEnvC scope (scope.names.filterMap (clOf env.cells)).reverse H2.objs.size env))
      (compPost (model X.prog X.w) A E use Q (.ref hh.objs.size) H2.objs.size) { s with heap := h₁, toks := tk } := by
    refine h2 A _ { s with heap := h₁, toks := tk } ι' fp wr I hh.objs.size [] 0 _ g rfl T1.sr VC x2 acc1 accF accO (hiof _ accN) (hBof _ accN) (by simpa using hz) fun h3 tk3 ι3 ws k3 T3 a3 R3 n3 => ?_
    obtain ⟨mv, hn3⟩ := n3
    have hloc : (compEnvC scope (scope.names.filterMap (clOf env.cells)).reverse H2.objs.size env).locals = H2.objs.size := rfl
    rw [hloc] at T3 hn3
    have fresh : ∀ a ∈ hh.objs.size :: wr ++ [H2.objs.size], s.heap.get? a = none := fun a ha => by
      have up : ∀ b, hh.get? b = none → s.heap.get? b = none := fun b hb => by
        cases e : s.heap.get? b with
        | none => rfl
        | some o =>
          by_cases hi : ∃ n, n < σ.length ∧ ι n = b
          · obtain ⟨n, hn, e2⟩ := hi
            have hn' := Nat.lt_of_lt_of_le hn T.len
            obtain ⟨ob, e1⟩ := T.sr.live_at hn'
            rw [T.ext n hn, e2, hb] at e1
            exact nn e1
          · have := T.kept b o e (fun n hn q => hi (ex1 (p := n) hn q)) fun h => nomatch h
            rw [hb] at this
            exact nn this
      rcases List.mem_append.mp ha with ha | ha
      · rcases List.mem_cons.mp ha with rfl | ha
        · exact up _ accN
        · exact hI a ha
      · refine rwr (List.mem_singleton.mp ha) ?_; exact up _ hCn
    have iC : ∀ n, n < σ₂.length → ι3 n ≠ H2.objs.size := fun n hn => by
      by_cases hs : n < σ₁.length
      · refine rwr (T3.ext n hs) ?_; exact hiof _ hCn n hs
      · exact fun e => (T3.new n (Nat.not_lt.mp hs) hn).2 (by refine rwr e ?_; exact List.mem_append_right _ (List.mem_singleton.mpr rfl))
    have iA : ∀ n, n < σ₂.length → ι3 n ≠ hh.objs.size := fun n hn => by
      by_cases hs : n < σ₁.length
      · refine rwr (T3.ext n hs) ?_; exact hiof _ accN n hs
      · exact fun e => (T3.new n (Nat.not_lt.mp hs) hn).2 (by refine rwr e ?_; exact List.mem_append_left _ List.mem_cons_self)
    have T01 := T.trans T1
    have c01 : Chg (hh.objs.size :: wr ++ [H2.objs.size]) X.B ι σ s.heap ι' σ₁ h₁ := T01.more (fun _ h => nomatch h) fun a ha => .inr (.inr (by
      rcases List.mem_append.mp ha with ha | ha
      · rcases List.mem_cons.mp ha with rfl | ha
        · exact hiof _ accN
        · exact (x.apart a (x.sub a ha)).1
      · refine rwr (List.mem_singleton.mp ha) ?_; exact hiof _ hCn))
    have all : Step X.B ι σ s.heap ι3 σ₂ h3 := (c01.trans T3).more (fun a ha => .inr (fresh a ha)) fun _ h => nomatch h
    have hne : hh.objs.size ≠ H2.objs.size := by refine rwr hC ?_; exact Nat.ne_of_lt (Nat.lt_succ_self _)
    have fin := Step.adopt all (by rw [List.nil_append] at a3; exact a3) R3 iA (fresh _ (List.mem_append_left _ List.mem_cons_self)) (hBof _ accN)
    refine k _ _ h3 tk3 _ ⟨fin, ?_, ⟨mv, hn3⟩, fun n hn => ?_, hBof _ hCn, fresh _ (List.mem_append_right _ (List.mem_singleton.mpr rfl))⟩
    · have : Rep h3 (fun n => if n = σ₂.length then hh.objs.size else ι3 n) (σ₂ ++ [Cell.lst rs]).length (.ref σ₂.length) (.ref ((fun n => if n = σ₂.length then hh.objs.size else ι3 n) σ₂.length)) := .ref (by simp)
      simpa using this
    · rw [List.length_append, List.length_singleton] at hn
      by_cases e : n = σ₂.length
      · refine rwr (if_pos e) ?_; exact hne
      · refine rwr (if_neg e) ?_; exact iC n (Nat.lt_of_le_of_ne (Nat.le_of_lt_succ hn) e)
  exact codeAny_compStart_list loop (Itr.self (s := { s with heap := h₁, toks := tk }) x2 g.1 loop)
theorem ev_comp {elt tgt iter : Expr} {ifs : List Expr} {rest : List Comprehension} {scope : Scope} {a : AI} {rs : List PV} (h1 : Src X d sc m σ iter a σ₁) (h2 : CL X d (rl scope sc) (.ListComp elt (⟨tgt, iter, ifs, 0⟩ :: rest) scope pos) 0 a (mc m scope) σ₁ rs σ₂)
    (hk : scope.kind = .function) (hnc : ∀ x ∈ scope.names, x.2 ≠ .cell) (hfr : ∀ x ∈ scope.names, x.2 = .free → sc.names.lookup x.1 = some .cell) (hnd : (scope.names.map (·.1)).Nodup) (hnames : ∀ x ∈ scope.names, x.2 = .local → scope.names.lookup x.1 = some .local)
    (hz : rs.length ≤ 16777216) (hs' : ∀ (env : Env) (x : Value), foldedSetIterable iter env x = pure x := by intro _ _; rfl) : Ev X d sc m σ (.ListComp elt (⟨tgt, iter, ifs, 0⟩ :: rest) scope pos) (.ref σ₂.length) (σ₂ ++ [.lst rs]) := by
  intro A env s ι Q E g hs S V k
  rw [eval_ListComp]
  refine comp_core (use := none) h1 h2 hk hnc hfr hnd hnames hz hs' g hs S V fun D C h3 tk3 ι3 c => ?_
  obtain ⟨mv, hn3⟩ := c.ns
  refine ⟨mv, hn3, fun h4 hs4 => ?_⟩
  have T4 := chg_same c.step.sr (c.soft fun _ e => e) (List.mem_singleton.mpr rfl) c.off c.base hs4
  have sC := c.soft fun _ e => e
  have all : Step X.B ι σ s.heap ι3 (σ₂ ++ [.lst rs]) h4 := ((c.step.more (D' := [C]) (fun _ h => nomatch h) fun a ha => .inr (.inr (by refine rwr (List.mem_singleton.mp ha) ?_; exact c.off))).trans T4).more (fun a ha => .inr (by refine rwr (List.mem_singleton.mp ha) ?_; exact c.fresh)) fun _ h => nomatch h
  exact k _ h4 tk3 _ all (c.rep.chg sC c.step.sr T4)
theorem ex_assign_u {x : Str} {px tpos : Pos} {elt tgt iter : Expr} {ifs : List Expr} {rest : List Comprehension} {scope : Scope} {a : AI} {rs : List PV} (h1 : Src X d sc m σ iter a σ₁) (h2 : CL X d (rl scope sc) (.ListComp elt (⟨tgt, iter, ifs, 0⟩ :: rest) scope pos) 0 a (mc m scope) σ₁ rs σ₂)
    (hk : scope.kind = .function) (hnc : ∀ x ∈ scope.names, x.2 ≠ .cell) (hfr : ∀ x ∈ scope.names, x.2 = .free → sc.names.lookup x.1 = some .cell) (hnd : (scope.names.map (·.1)).Nodup) (hnames : ∀ x ∈ scope.names, x.2 = .local → scope.names.lookup x.1 = some .local)
    (hz : rs.length ≤ 16777216) (hs' : ∀ (env : Env) (x : Value), foldedSetIterable iter env x = pure x) (hkx : sc.names.lookup x = some .local ∨ sc.names.lookup x = some .cell)
    (hsw : ∀ env : Env, env.scope = sc → env.blockKind = .function → swapsWith (.ListComp elt (⟨tgt, iter, ifs, 0⟩ :: rest) scope pos) (some (.Name x px)) tpos.line env = pure true) : Ex X d sc m σ (.Assign [.Name x px] (.ListComp elt (⟨tgt, iter, ifs, 0⟩ :: rest) scope pos) tpos) .next (put m x (.ref σ₂.length)) (σ₂ ++ [.lst rs]) := by
  intro A env s ι Q E g hs S V k
  rw [exec_Assign_Name_used _ _ _ _ (hsw env hs (by unfold Env.blockKind; rw [V.kind]; rfl))]
  refine wpAny_bind (wpAny_standAt (wpAny_bind ?_))
  refine wpAny_bind (wpAny_mono (comp_core (Q := fun _ s' => Q .next s') (use := some (assign (.Name x px) env)) h1 h2 hk hnc hfr hnd hnames hz hs' g hs S V fun D C h3 tk3 ι3 c => ?_) (fun _ s' hq => wpAny_pure (wpAny_pure hq)) fun _ _ e => e)
  have sC := c.soft fun _ e => e
  have V3 := V.step S c.step
  have nC : C ∉ Own env := fun q => by obtain ⟨o, e⟩ := V.live _ q; rw [c.fresh] at e; exact nn e
  refine wpAny_assign_Name (store_rule (s := { s with heap := h3, toks := tk3 }) c.step.sr V3 c.rep (by unfold Env.kindOf; refine rwr hs ?_; exact hkx) fun h' tk' T' V' => ?_)
  obtain ⟨mv, hn3⟩ := c.ns
  have kC : ∀ o, h3.get? C = some o → h'.get? C = some o := fun o e => T'.kept C o e c.off nC
  refine ⟨mv, let ⟨o, es, ep, e, r⟩ := hn3; ⟨o, es, ep, kC o e, r⟩, fun h4 hs4 => ?_⟩
  have sC' := c.soft kC
  have T4 := chg_same T'.sr sC' (List.mem_singleton.mpr rfl) c.off c.base hs4
  have all : Chg (C :: Own env) X.B ι σ s.heap ι3 (σ₂ ++ [.lst rs]) h4 := ((c.step.more (fun _ h => nomatch h) fun a ha => ?_).trans (T'.more (fun a ha => .inl (List.mem_cons_of_mem _ ha)) fun a ha => ?_)).trans (T4.more (fun a ha => .inl (by refine rwr (List.mem_singleton.mp ha) ?_; exact List.mem_cons_self)) fun a ha => ?_)
  · refine k .next h4 tk' ι3 (all.more (fun a ha => ?_) fun a ha => .inl (List.mem_cons_of_mem _ ha)) (V'.chg sC' T'.sr T4 fun a ha => by refine rwr (List.mem_singleton.mp ha) ?_; exact nC) trivial
    rcases List.mem_cons.mp ha with rfl | ha
    · exact .inr c.fresh
    · exact .inl ha
  · rcases List.mem_cons.mp ha with rfl | ha
    · exact .inr (.inr c.off)
    · exact .inr (.inl (V.live _ ha))
  · rcases List.mem_cons.mp ha with rfl | ha
    · exact .inr (.inr c.off)
    · exact .inl ha
  · rcases List.mem_cons.mp ha with rfl | ha
    · exact .inl (List.mem_singleton.mpr rfl)
    · exact .inr (.inl (V'.live _ ha))
end
section
variable {X : Stat} {d : Nat} {sc : Scope} {m m₁ m₂ : Vm} {σ σ₁ σ₂ σ₃ : Sto} {p q r : PV} {pos : Pos}
theorem Op2.tok {t : Value → Value → Sem Value} (h : ∀ (A : Around) (s : Shared) (ι : Nat → Addr) (v u : Value) (Q : Value → Shared → Prop) (E : Value → Shared → Prop), Good d A → SR X.B ι σ s.heap → Rep s.heap ι σ.length p v → Rep s.heap ι σ.length q u →
    (∀ w tk, Rep s.heap ι σ.length r w → Q w { s with toks := tk }) → wpAny (model X.prog X.w) A (t v u) Q E s) : Op2 X d σ t p q r σ := fun A s ι v u Q E g S R R' k => h A s ι v u Q E g S R R' fun w tk R => k w s.heap tk ι (Step.refl S) R
theorem Op1.tok {t : Value → Sem Value} (h : ∀ (A : Around) (s : Shared) (ι : Nat → Addr) (v : Value) (Q : Value → Shared → Prop) (E : Value → Shared → Prop), Good d A → SR X.B ι σ s.heap → Rep s.heap ι σ.length p v →
    (∀ w tk, Rep s.heap ι σ.length r w → Q w { s with toks := tk }) → wpAny (model X.prog X.w) A (t v) Q E s) : Op1 X d σ t p r σ := fun A s ι v Q E g S R k => h A s ι v Q E g S R fun w tk R => k w s.heap tk ι (Step.refl S) R
theorem add_ii {a b : Int} : Op2 X d σ (binaryOp .Add) (.int a) (.int b) (.int (a + b)) σ := Op2.tok fun _ _ _ _ _ _ _ _ _ R R' k => by cases R; cases R'; with_reducible refine add_int ?_; exact k _ _ (.int _ _)
theorem sub_ii {a b : Int} : Op2 X d σ (binaryOp .Sub) (.int a) (.int b) (.int (a - b)) σ := Op2.tok fun _ _ _ _ _ _ _ _ _ R R' k => by cases R; cases R'; with_reducible refine PyProof.Rows.sub_int ?_; exact k _ _ (.int _ _)
theorem mul_ii {a b : Int} (h : IntMulOk a b) : Op2 X d σ (binaryOp .Mult) (.int a) (.int b) (.int (a * b)) σ := Op2.tok fun _ _ _ _ _ _ _ _ _ R R' k => by cases R; cases R'; with_reducible refine PyProof.Rows.mul_int ?_ h; exact k _ _ (.int _ _)
theorem div_ii {a b : Int} (hb : b ≠ 0) (h : Builtin.divisionGoesByPylong a b = false) : Op2 X d σ (binaryOp .FloorDiv) (.int a) (.int b) (.int (a.fdiv b)) σ := Op2.tok fun _ _ _ _ _ _ _ g _ R R' k => by
  have gh := g.1; obtain ⟨_, rfl⟩ := R.int_inv; cases R'; with_reducible refine floordiv_int_or gh (fun e => absurd e hb) (fun _ => ?_) (fun _ => .inl h); exact k _ _ (.int _ _)
theorem mod_ii {a b : Int} (hb : b ≠ 0) : Op2 X d σ (binaryOp .Mod) (.int a) (.int b) (.int (a.fmod b)) σ := Op2.tok fun _ _ _ _ _ _ _ _ _ R R' k => by cases R; cases R'; with_reducible refine PyProof.Rows.mod_int hb ?_; exact k _ _ (.int _ _)
theorem pow_ii {a n : Int} (hn : 0 ≤ n) (hsz : (Builtin.Int.intBits a : Int) * n ≤ 2 ^ 27) : Op2 X d σ (binaryOp .Pow) (.int a) (.int n) (.int (a ^ n.toNat)) σ := Op2.tok fun _ _ _ _ _ _ _ _ _ R R' k => by obtain ⟨_, rfl⟩ := R.int_inv; cases R'; with_reducible refine PyProof.Rows.pow_int hn hsz ?_; exact k _ _ (.int _ _)
theorem shl_ii {a n : Int} (hn : 0 ≤ n) (hn2 : n ≤ 1000000) (ha : a.natAbs < 2 ^ 64) : Op2 X d σ (binaryOp .LShift) (.int a) (.int n) (.int (a * 2 ^ n.toNat)) σ := Op2.tok fun _ _ _ _ _ _ _ _ _ R R' k => by obtain ⟨_, rfl⟩ := R.int_inv; cases R'; with_reducible refine lshift_int_small hn hn2 ha ?_; exact k _ _ (.int _ _)
theorem shr_ii {a n : Int} (hn : 0 ≤ n) : Op2 X d σ (binaryOp .RShift) (.int a) (.int n) (.int (a.fdiv (2 ^ n.toNat))) σ := Op2.tok fun _ _ _ _ _ _ _ _ _ R R' k => by obtain ⟨_, rfl⟩ := R.int_inv; cases R'; with_reducible refine PyProof.Rows.rshift_int hn ?_; exact k _ _ (.int _ _)
theorem and_ii {a b : Int} : Op2 X d σ (binaryOp .BitAnd) (.int a) (.int b) (.int (Builtin.bitAnd a b)) σ := Op2.tok fun _ _ _ _ _ _ _ _ _ R R' k => by obtain ⟨_, rfl⟩ := R.int_inv; cases R'; with_reducible refine and_int ?_; exact k _ _ (.int _ _)
theorem neg_i {a : Int} : Op1 X d σ (unaryOp .USub) (.int a) (.int (-a)) σ := Op1.tok fun _ _ _ _ _ _ _ _ R k => by obtain ⟨_, rfl⟩ := R.int_inv; with_reducible refine PyProof.Rows.neg_int ?_; exact k _ _ (.int _ _)
theorem lt_ii {a b : Int} : Op2 X d σ (compareOp .Lt) (.int a) (.int b) (.bool (decide (a < b))) σ := Op2.tok fun _ _ _ _ _ _ _ _ _ R R' k => by obtain ⟨_, rfl⟩ := R.int_inv; cases R'; with_reducible refine PyProof.Rows.lt_int ?_; exact k _ _ (.bool _)
theorem le_ii {a b : Int} : Op2 X d σ (compareOp .LtE) (.int a) (.int b) (.bool (decide (a ≤ b))) σ := Op2.tok fun _ _ _ _ _ _ _ _ _ R R' k => by obtain ⟨_, rfl⟩ := R.int_inv; cases R'; with_reducible refine PyProof.Rows.le_int ?_; exact k _ _ (.bool _)
theorem gt_ii {a b : Int} : Op2 X d σ (compareOp .Gt) (.int a) (.int b) (.bool (decide (b < a))) σ := Op2.tok fun _ _ _ _ _ _ _ _ _ R R' k => by obtain ⟨_, rfl⟩ := R.int_inv; cases R'; with_reducible refine PyProof.Rows.gt_int ?_; exact k _ _ (.bool _)
theorem ge_ii {a b : Int} : Op2 X d σ (compareOp .GtE) (.int a) (.int b) (.bool (decide (b ≤ a))) σ := Op2.tok fun _ _ _ _ _ _ _ _ _ R R' k => by obtain ⟨_, rfl⟩ := R.int_inv; cases R'; with_reducible refine PyProof.Rows.ge_int ?_; exact k _ _ (.bool _)
theorem eq_ii {a b : Int} : Op2 X d σ (compareOp .Eq) (.int a) (.int b) (.bool (a == b)) σ := Op2.tok fun _ _ _ _ _ _ _ _ _ R R' k => by obtain ⟨_, rfl⟩ := R.int_inv; cases R'; with_reducible refine PyProof.Rows.eq_int ?_; exact k _ _ (.bool _)
theorem ne_ii {a b : Int} : Op2 X d σ (compareOp .NotEq) (.int a) (.int b) (.bool (a != b)) σ := Op2.tok fun _ _ _ _ _ _ _ _ _ R R' k => by obtain ⟨_, rfl⟩ := R.int_inv; cases R'; with_reducible refine PyProof.Rows.ne_int ?_; exact k _ _ (.bool _)
theorem add_bb {a b : List UInt8} (h : a.length + b.length ≤ 16777216) : Op2 X d σ (binaryOp .Add) (.bytes a) (.bytes b) (.bytes (a ++ b)) σ := Op2.tok fun _ _ _ _ _ _ _ _ _ R R' k => by
  obtain ⟨_, rfl⟩ := R.bytes_inv; cases R'
  with_reducible refine KBy.add_bytes (by simpa using h) fun t' tk => ?_
  have : a.toArray ++ b.toArray = (a ++ b).toArray := by simp
  refine rwr this ?_
  exact k _ _ (.bytes _ _)
theorem mul_bi {a : List UInt8} {n : Int} (ha : a ≠ []) (h1 : -1048576 ≤ n) (h2 : n ≤ 1048576) (h3 : a.length ≤ 16) : Op2 X d σ (binaryOp .Mult) (.bytes a) (.int n) (.bytes (List.replicate n.toNat a).flatten) σ := Op2.tok fun _ _ _ _ _ _ _ _ _ R R' k => by
  obtain ⟨_, rfl⟩ := R.bytes_inv; cases R'
  with_reducible refine bytes_mul_any ha h1 h2 h3 fun t' tk => ?_
  exact k _ _ (.bytes _ _)
theorem eq_bb {a b : List UInt8} : Op2 X d σ (compareOp .Eq) (.bytes a) (.bytes b) (.bool (a == b)) σ := Op2.tok fun _ _ _ _ _ _ _ _ _ R R' k => by
  obtain ⟨_, rfl⟩ := R.bytes_inv; cases R'; with_reducible refine eq_bytes ?_; exact k _ _ (.bool _)
theorem ne_bb {a b : List UInt8} : Op2 X d σ (compareOp .NotEq) (.bytes a) (.bytes b) (.bool (a != b)) σ := Op2.tok fun _ _ _ _ _ _ _ _ _ R R' k => by
  obtain ⟨_, rfl⟩ := R.bytes_inv; cases R'; with_reducible refine ne_bytes ?_; exact k _ _ (.bool _)
theorem eq_ss {a b : List Nat} : Op2 X d σ (compareOp .Eq) (.str a) (.str b) (.bool (a == b)) σ := Op2.tok fun _ _ _ _ _ _ _ _ _ R R' k => by
  obtain ⟨_, rfl⟩ := R.str_inv; cases R'; with_reducible refine PyProof.Rows.eq_str ?_; rw [S_beq]; exact k _ _ (.bool _)
theorem ne_ss {a b : List Nat} : Op2 X d σ (compareOp .NotEq) (.str a) (.str b) (.bool (a != b)) σ := Op2.tok fun _ _ _ _ _ _ _ _ _ R R' k => by
  obtain ⟨_, rfl⟩ := R.str_inv; cases R'; with_reducible refine PyProof.Rows.ne_str ?_; refine rwr (show (S a != S b) = (a != b) by unfold bne; rw [S_beq]) ?_; exact k _ _ (.bool _)
theorem add_ss {a b : List Nat} (h : a.length + b.length ≤ 16777216) : Op2 X d σ (binaryOp .Add) (.str a) (.str b) (.str (a ++ b)) σ := Op2.tok fun _ _ _ _ _ _ _ _ _ R R' k => by
  obtain ⟨_, rfl⟩ := R.str_inv; cases R'; with_reducible refine PyProof.Rows.add_str (fun t' tk => ?_) (by refine rwr sizeLine_eq ?_; rw [S_len, S_len]; exact h); rw [S_app]; exact k _ _ (.str _ _)
end
section
variable {X : Stat} {d : Nat} {sc : Scope} {m m₁ m₂ : Vm} {σ σ₁ σ₂ σ₃ : Sto} {p q r : PV} {pos : Pos} {B h h' : Heap} {ι ι' : Nat → Addr} {env : Env}
noncomputable def IterV (X : Stat) (d : Nat) (σ : Sto) (p : PV) (a : AI) : Prop :=
  ∀ (A : Around) (env : Env) (m : Vm) (s : Shared) (ι : Nat → Addr) (v : Value) (Q : Value → Shared → Prop) (E : Value → Shared → Prop), Good d A → SR X.B ι σ s.heap → VR X.B ι σ env m s.heap → Rep s.heap ι σ.length p v →
    (∀ I fp wr h' tk, Step X.B ι σ s.heap ι σ h' → (∀ b ∈ wr, s.heap.get? b = none) → Itr X h' ι σ env fp wr I a → Q (.ref I) { s with heap := h', toks := tk }) → wpAny (model X.prog X.w) A (pyIter v) Q E s
theorem src_ev {e : Expr} {a : AI} (h1 : Ev X d sc m σ e p σ₁) (h2 : IterV X d σ₁ p a) : Src X d sc m σ e a σ₁ := by
  intro A env s ι Q E g hs S V k
  refine h1 A env s ι _ E g hs S V fun v h' tk ι' T R => ?_
  refine h2 A env m { s with heap := h', toks := tk } ι' v Q E g T.sr (V.step S T) R fun I fp wr h'' tk' T' hw x => ?_
  refine k I fp wr h'' tk' ι' (T.trans T') (fun b hb => ?_) x
  cases e : s.heap.get? b with
  | none => rfl
  | some o =>
    have hb' := hw b hb
    by_cases hi : ∃ n, n < σ.length ∧ ι n = b
    · obtain ⟨n, hn, e2⟩ := hi
      obtain ⟨ob, e1⟩ := T.sr.live_at (Nat.lt_of_lt_of_le hn T.len)
      rw [T.ext n hn, e2] at e1
      rw [hb'] at e1
      exact nn e1
    · have := T.kept b o e (fun n hn q => hi ⟨n, hn, q⟩) fun h => nomatch h
      rw [hb'] at this
      exact nn this
theorem none_at {h : Heap} : h.get? h.objs.size = none := by
  cases e : h.get? h.objs.size with
  | none => rfl
  | some o => exact absurd (Heap.lt_size e) (Nat.lt_irrefl _)
theorem new_it {o : Obj} {a : AI} (S : SR X.B ι σ h) (V : VR X.B ι σ env m h) (hf : o.data ≠ .freed) (it : ItR X (h.push o) ι [h.objs.size] [h.objs.size] h.objs.size a) (hin : AIn σ a) :
    Itr X (h.push o) ι σ env [h.objs.size] [h.objs.size] h.objs.size a := by
  refine ⟨fun _ hb => hb, it, fun b hb => ?_, fun b hb q => ?_, hin⟩
  · refine rwr (List.mem_singleton.mp hb) ?_
    refine ⟨fun n hn e => ?_, fun _ => ?_, ⟨o, get_push hf⟩⟩
    · obtain ⟨ob, e1⟩ := S.live_at hn
      rw [e, none_at] at e1
      exact nn e1
    · cases e : X.B.get? h.objs.size with
      | none => rfl
      | some o' => have := S.base _ _ e; rw [none_at] at this; exact nn this
  · rw [List.mem_singleton.mp hb] at q
    obtain ⟨o', e⟩ := V.live _ q
    rw [none_at] at e
    exact nn e
theorem iterF_bytes {b : List UInt8} {A : Around} {s : Shared} {v : Value} {Q E : Value → Shared → Prop} (S : SR X.B ι σ s.heap) (V : VR X.B ι σ env m s.heap) (R : Rep s.heap ι σ.length (.bytes b) v)
    (k : ∀ I fp wr h' tk, Step X.B ι σ s.heap ι σ h' → (∀ b ∈ fp, s.heap.get? b = none) → (∀ b ∈ wr, s.heap.get? b = none) → Itr X h' ι σ env fp wr I (.fix (b.map fun c => .int (c.toNat : Int))) → Q (.ref I) { s with heap := h', toks := tk }) : wpAny (model X.prog X.w) A (pyIter v) Q E s := by
  obtain ⟨t, rfl⟩ := R.bytes_inv
  · refine KBw.pyIter_bytes (k _ [s.heap.objs.size] [s.heap.objs.size] _ s.toks (Step.push S _) (fun x hx => by rw [List.mem_singleton.mp hx]; exact none_at) (fun x hx => by rw [List.mem_singleton.mp hx]; exact none_at) (new_it S V (by intro h; cases h) ?_ trivial))
    refine ⟨b.toArray.size, 0, _, _, fun A hh => KBw.walks hh _ b.toArray t, (ex1 get_push ⟨rfl, rfl⟩), by simp, fun j h st x hx => ?_, fun j v p hv hp h ι k => ?_⟩
    · obtain ⟨o, e, hc, _⟩ := st
      refine rwr (List.mem_singleton.mp hx) ?_
      exact (ex2 (p := o) (s := _) e ⟨hc, by decide, by decide⟩)
    · obtain ⟨c, u, hc, rfl⟩ := hv
      rw [List.getElem?_map] at hp
      obtain ⟨c', hc', rfl⟩ := Option.map_eq_some_iff.mp hp
      have : c = c' := by
        rw [Nat.zero_add] at hc
        have e : b[j]? = some c := by simpa using hc
        rw [hc'] at e
        exact (Option.some.inj e).symm
      subst this
      exact .int _ _
theorem iter_bytes {b : List UInt8} : IterV X d σ (.bytes b) (.fix (b.map fun c => .int (c.toNat : Int))) := fun _ _ _ _ _ _ _ _ _ S V R k => iterF_bytes S V R fun I fp wr h' tk T _ hw x => k I fp wr h' tk T hw x
theorem iter_rng {a c : Int} {n : Nat} : IterV X d σ (.rng a c n) (.fix ((List.range n).map fun i : Nat => .int (a + (i : Int) * c))) := by
  intro A env m s ι v Q E g S V R k
  obtain ⟨_, _, _, _, _, rfl, hr, h1, h2⟩ := R.rng_inv
  · refine wpAny_pyIter_range hr h1 (k _ [s.heap.objs.size] [s.heap.objs.size] _ s.toks (Step.push S _) (fun x hx => by refine rwr (List.mem_singleton.mp hx) ?_; exact none_at) (new_it S V (by intro h; cases h) ?_ trivial))
    refine ⟨n, 0, _, _, fun A hh => Walks.range hh _ a c n, ?_, by simp, fun j h st x hx => ?_, fun j v p hv hp h ι k => ?_⟩
    · show IsRangeIter _ _ _ _ _
      unfold IsRangeIter
      refine rwr h2 ?_
      simpa using get_push (h := s.heap) (o := { cls := .type "range_iterator", data := .fields #[rawInt a, rawInt (n : Int), rawInt c] })
    · refine rwr (List.mem_singleton.mp hx) ?_
      exact (ex2 st ⟨rfl, by decide, by decide⟩)
    · obtain ⟨t, rfl⟩ := hv
      rw [List.getElem?_map] at hp
      obtain ⟨i, hi, rfl⟩ := Option.map_eq_some_iff.mp hp
      have hj : j < n := by
        have := (List.getElem?_eq_some_iff.mp hi).1
        simpa using this
      rw [List.getElem?_range hj] at hi
      cases hi
      rw [Nat.zero_add]
      exact .int _ _
theorem iter_lst {n : Nat} {l : List PV} (hl : σ[n]? = some (.lst l)) : IterV X d σ (.ref n) (.lst n 0) := by
  intro A env m s ι v Q E g S V R k
  obtain ⟨rfl, hn⟩ := R.ref_inv
  · obtain ⟨vs, kk, e, _⟩ := S.lst n l hl
    refine wpAny_pyIter_list (isList_of e) (k _ [s.heap.objs.size] [s.heap.objs.size] _ s.toks (Step.push S _) (fun x hx => by refine rwr (List.mem_singleton.mp hx) ?_; exact none_at) (new_it S V (by intro h; cases h) ?_ hn))
    exact ⟨rfl, rfl, _, get_push, rfl, rfl⟩
theorem CallV.tok1 {f : Value} (h : ∀ (A : Around) (s : Shared) (ι : Nat → Addr) (v : Value) (Q : Value → Shared → Prop) (E : Value → Shared → Prop), Good d A → SR X.B ι σ s.heap → Rep s.heap ι σ.length p v →
    (∀ w tk, Rep s.heap ι σ.length r w → Q w { s with toks := tk }) → wpAny (model X.prog X.w) A (call f [v]) Q E s) : CallV X d σ f [p] r σ := fun A s ι vs Q E g S R k => by
  obtain ⟨v, rfl, R1⟩ := R.one
  exact h A s ι v Q E g S R1 fun w tk R' => k w s.heap tk ι (Step.refl S) R'
theorem CallV.keep1 {f : Value} (h : ∀ (A : Around) (s : Shared) (ι : Nat → Addr) (v : Value) (Q : Value → Shared → Prop) (E : Value → Shared → Prop), Good d A → SR X.B ι σ s.heap → Rep s.heap ι σ.length p v →
    (∀ w h' tk, (∀ b o, s.heap.get? b = some o → h'.get? b = some o) → Rep h' ι σ.length r w → Q w { s with heap := h', toks := tk }) → wpAny (model X.prog X.w) A (call f [v]) Q E s) : CallV X d σ f [p] r σ := fun A s ι vs Q E g S R k => by
  obtain ⟨v, rfl, R1⟩ := R.one
  exact h A s ι v Q E g S R1 fun w h' tk kp R' => k w h' tk ι (step_keep S kp) R'
theorem len_b {b : List UInt8} (h : b.length ≤ 1099511627776) : CallV X d σ (.builtin "len") [.bytes b] (.int (b.length : Nat)) σ := CallV.tok1 fun A s ι v Q E g S R k => by
  obtain ⟨t, rfl⟩ := R.bytes_inv
  · with_reducible refine KBw.len_K (ks := KBw.bInts b.toArray) rfl ?_ ?_
    · rw [KBw.ints_length]; simpa using h
    · have e : (KBw.bInts b.toArray).length = b.length := by rw [KBw.ints_length]; simp
      refine rwr e ?_
      exact k _ _ (.int _ _)
theorem intsAre_of {h : Heap} {ι : Nat → Addr} {k : Nat} : ∀ {ns : List Int} {vs : List Value}, Reps h ι k (ns.map .int) vs → IntsAre vs ns
  | [], vs, R => by rw [R.of_nil]; exact .nil
  | n :: ns, vs, R => by
    obtain ⟨v, us, rfl, R1, R2⟩ := R.uncons
    obtain ⟨_, rfl⟩ := R1.int_inv
    exact .cons _ _ (intsAre_of R2)
theorem len_l {n : Nat} {l : List PV} (hl : σ[n]? = some (.lst l)) (h : (l.length : Int) < 2 ^ 63) : CallV X d σ (.builtin "len") [.ref n] (.int (l.length : Nat)) σ := CallV.tok1 fun A s ι v Q E g S R k => by
  obtain ⟨rfl, hn⟩ := R.ref_inv
  · obtain ⟨vs, kk, e, R⟩ := S.lst n l hl
    have hs : ((vs.toArray.size : Nat) : Int) = (l.length : Nat) := by rw [R.1]; simp
    with_reducible refine call_len_list (isList_of e) (by refine rwr hs ?_; exact h) ?_
    refine rwr hs ?_
    exact k _ _ (.int _ _)
theorem bytes_l {n : Nat} {ns : List Int} (hl : σ[n]? = some (.lst (ns.map .int))) (hr : ∀ i ∈ ns, 0 ≤ i ∧ i < 256) (hz : ns.length ≤ 16777216) : CallV X d σ (.type "bytes") [.ref n] (.bytes (ns.map fun i => i.toNat.toUInt8)) σ := CallV.keep1 fun A s ι v Q E g S R k => by
  obtain ⟨rfl, hn⟩ := R.ref_inv
  · obtain ⟨vs, kk, e, R⟩ := S.lst n _ hl
    have gh := g.1
    have hi := intsAre_of R
    have hlen : vs.length ≤ sizeLine := by rw [← R.1, List.length_map, sizeLine_eq]; exact hz
    with_reducible refine call_bytes_ints (isList_of e) hi hr hlen gh fun h' t tk kp => ?_
    have e : byteArr ns = (ns.map fun i => i.toNat.toUInt8).toArray := by unfold byteArr; rfl
    refine rwr e ?_
    exact k _ h' tk kp (.bytes _ _)
end
section
variable {X : Stat} {d : Nat} {sc : Scope} {m m₁ m₂ : Vm} {σ σ₁ σ₂ σ₃ : Sto} {p q r : PV} {pos : Pos} {B h h' : Heap} {ι ι' : Nat → Addr} {env : Env}
theorem ev_bytes {x : List UInt8} {k : Nat} : Ev X d sc m σ (.Constant (.bytes x) k pos) (.bytes x) σ := fun _ _ _ _ _ _ _ _ S _ h => Constant_bytes (h _ _ _ _ (Step.refl S) (.bytes _ _))
theorem Step.setCell {n : Nat} {l : Cell} (S : SR B ι σ h) (hn : n < σ.length) (hs : Heap.SameBut (ι n) h h') (R : (∀ p v, Rep h ι σ.length p v → Rep h' ι σ.length p v) → CellIs h' ι σ.length (ι n) l) : Step B ι σ h ι (σ.set n l) h' := by
  have e0 := S.soft_at hn
  have kp : ∀ b o, h.get? b = some o → b ≠ ι n → h'.get? b = some o := fun b o e hb => (hs.2 b hb).trans e
  have T0 : ∀ p v, Rep h ι σ.length p v → Rep h' ι (σ.set n l).length p v := by
    intro p v r
    rw [List.length_set]
    induction r with
    | none => exact .none
    | bool b => exact .bool b
    | int i t => exact .int i t
    | str s t => exact .str s t
    | bytes b t => exact .bytes b t
    | tup hb hl _ ih => exact .tup (isTuple_up hb fun o e => kp _ _ e (fun q => e0.1 _ (q ▸ hb))) hl ih
    | ref hn => exact .ref hn
    | rng hr h1 h2 => exact .rng (kp _ _ hr (fun q => e0.2 _ _ _ _ _ _ (q ▸ hr))) h1 h2
    | stat v => exact .stat v
  have ln : (σ.set n l).length = σ.length := List.length_set
  refine ⟨⟨fun b o e => kp b o (S.base b o e) fun q => ?_, fun j l' e' => ?_, fun i j hi hj => S.inj i j (ln ▸ hi) (ln ▸ hj), fun j hj => S.fresh j (ln ▸ hj)⟩, fun _ _ => rfl, Nat.le_of_eq ln.symm, fun n a b => absurd (ln ▸ b) (Nat.not_lt.mpr a), fun b o e hb _ => kp b o e (Ne.symm (hb n hn))⟩
  · subst q
    rw [S.fresh n hn] at e
    exact nn e
  · by_cases hj : n = j
    · subst hj
      rw [List.getElem?_set_self hn] at e'
      cases e'
      rw [ln] at T0 ⊢
      exact R T0
    · rw [List.getElem?_set_ne hj] at e'
      have hjl : j < σ.length := (List.getElem?_eq_some_iff.mp e').1
      exact (S.cell j l' e').mono rfl (fun o e1 => kp _ _ e1 fun q => hj (S.inj j n hjl hn q).symm) T0 (fun _ _ => rfl) (Nat.le_of_eq ln.symm)
theorem Step.setList {n : Nat} {l : List PV} {vs : List Value} {k : Nat} (S : SR B ι σ h) (hn : n < σ.length) (hs : Heap.SameBut (ι n) h h') (e : h'.get? (ι n) = some (listOf vs.toArray k)) (R : Reps h ι σ.length l vs) : Step B ι σ h ι (σ.set n (.lst l)) h' :=
  Step.setCell S hn hs fun T0 => (ex2 (p := vs) (s := k) e ⟨R.1, fun i p v x y => T0 p v (R.2 i p v x y)⟩)
theorem append_l {n : Nat} {l : List PV} (hl : σ[n]? = some (.lst l)) (hz : l.length ≤ 16777216) : CallV X d σ (.builtin "list.append") [.ref n, p] .none (σ.set n (.lst (l ++ [p]))) := by
  intro A s ι vs Q E g S R k
  obtain ⟨v, u, rfl, R1, R2⟩ := R.two
  obtain ⟨rfl, hn⟩ := R1.ref_inv
  · obtain ⟨ws, kk, e, Rl⟩ := S.lst n l hl
    have hsz : ws.toArray.size ≤ sizeLine := by rw [sizeLine_eq]; simp; rw [← Rl.1]; exact hz
    have pl : s.heap.PlainList (ι n) ws.toArray := ⟨_, e⟩
    with_reducible refine wpAny_list_append_plain pl (fun h' hp hs => ?_) hsz
    obtain ⟨k', e'⟩ := hp
    have e2 : h'.get? (ι n) = some (listOf (ws ++ [u]).toArray k') := by rw [e']; simp
    exact k .none h' s.toks ι (Step.setList S hn hs e2 (Rl.app (.cons R2 .nil))) .none
theorem wpAny_extend_plain {prog : Program} {w : World} {A : Around} {E : Value → Shared → Prop} {s : Shared} {D b : Addr} {ys its2 : List Value} {n n2 : Nat} {Q : Value → Shared → Prop}
    (hm : s.heap.get? D = some (listOf ys.toArray n)) (hb : s.heap.get? b = some (listOf its2.toArray n2))
    (h : ∀ h' n', h'.get? D = some (listOf (ys ++ its2).toArray n') → Heap.SameBut D s.heap h' → Q .none { s with heap := h' }) (hsz : ys.length + its2.length ≤ sizeLine) :
    wpAny (model prog w) A (call (.builtin "list.extend") [.ref D, .ref b]) Q E s := by
  have hsz' : ys.toArray.size + its2.toArray.size ≤ sizeLine := by rw [List.size_toArray, List.size_toArray]; exact hsz
  refine call_meets PySem.F.slot_list_extend (ex1 hm rfl) PySem.F.entry_list_extend (PySem.F.args_list_extend_2 _ _) (AutoSeq1.list_extend_list_list_0 D ys.toArray n b its2.toArray n2 (extend_door hsz') (Nat.le_trans (Nat.le_add_right _ _) hsz')) ⟨hm, hb, ?_⟩
  have e : ys.toArray ++ its2.toArray = (ys ++ its2).toArray := by simp
  have ho' : (s.heap.update D (Obj.mapSeq fun x => x ++ its2.toArray)).get? D = some { cls := .type "list", data := .seq (ys ++ its2).toArray (if (ys.toArray ++ its2.toArray).size == ys.toArray.size then n else n + 1) } := by
    rw [Heap.get?_update_self _ hm (by rw [mapSeq_app]; rfl), mapSeq_app, e]
  exact h _ _ ho' (Heap.SameBut.update ..)
theorem extend_l {n j : Nat} {l l' : List PV} (hl : σ[n]? = some (.lst l)) (hl' : σ[j]? = some (.lst l')) (hz : l.length + l'.length ≤ 16777216) : CallV X d σ (.builtin "list.extend") [.ref n, .ref j] .none (σ.set n (.lst (l ++ l'))) := by
  intro A s ι vs Q E g S R k
  obtain ⟨v, u, rfl, R1, R2⟩ := R.two
  obtain ⟨rfl, hn⟩ := R1.ref_inv
  · obtain ⟨rfl, hj⟩ := R2.ref_inv
    · obtain ⟨ws, kk, e, Rl⟩ := S.lst n l hl
      obtain ⟨us, k2, e2, Rl'⟩ := S.lst j l' hl'
      have hsz : ws.length + us.length ≤ sizeLine := by rw [sizeLine_eq, ← Rl.1, ← Rl'.1]; exact hz
      with_reducible refine wpAny_extend_plain e e2 (fun h' k' e' hs => ?_) hsz
      exact k .none h' s.toks ι (Step.setList S hn hs e' (Rl.app Rl')) .none
theorem mth_append : Mth "list" "list.append" "append" := ⟨F.plainAttrs_list, F.slot_list_append, F.type_list_append⟩
theorem mth_extend : Mth "list" "list.extend" "extend" := ⟨F.plainAttrs_list, F.slot_list_extend, F.type_list_extend⟩
theorem isT_list {n : Nat} {l : List PV} (hl : σ[n]? = some (.lst l)) : ∀ (s : Shared) (ι : Nat → Addr) (v : Value), SR X.B ι σ s.heap → Rep s.heap ι σ.length (.ref n) v → s.TypeIs v "list" ∧ ∀ a, v = .ref a → ∃ ob, s.heap.get? a = some ob ∧ ob.dict = none := fun s ι v S R => by
  obtain ⟨rfl, hn⟩ := R.ref_inv
  · obtain ⟨vs, k, e, _⟩ := S.lst n l hl
    exact ⟨(ex1 e rfl), fun a ha => by cases ha; exact ⟨_, e, rfl⟩⟩
theorem ev_meth1 {o e : Expr} {es : List Expr} {name : Str} {apos : Pos} {T id : String} {ps : List PV} (h0 : Ev X d sc m σ o p σ₁) (M : Mth T id name) (hT : ∀ (s : Shared) (ι : Nat → Addr) (v : Value), SR X.B ι σ₁ s.heap → Rep s.heap ι σ₁.length p v → s.TypeIs v T ∧ ∀ a, v = .ref a → ∃ ob, s.heap.get? a = some ob ∧ ob.dict = none)
    (h1 : Evs X d sc m σ₁ (e :: es) ps σ₂) (h2 : CallV X d σ₂ (.builtin id) (p :: ps) r σ₃)
    (hbase : ∀ env : Env, attributeBase o name env (eval o env) = eval o env := by intro _; rfl)
    (hst : ∀ env : Env, ((((backTo pos (starEach (e :: es) env)).all fun x => !x.1) && (backToKw pos (keywordEach [] env)).all fun x => x.1.isSome) && decide (((e :: es).length + ([] : List Keyword).length + if ([] : List Keyword).isEmpty = true then 0 else 1) < 30)) = true := by intro _; rfl)
    (hline : (apos.endLine == pos.line) = true := by rfl) (hs1 : ∀ env : Env, starEach (e :: es) env = (false, eval e env) :: starEach es env := by intro _; rfl) (hs2 : ∀ env : Env, ((backTo pos (starEach es env)).any fun x => x.1) = false := by intro _; rfl) :
    Ev X d sc m σ (.Call (.Attribute o name apos) (e :: es) [] pos) r σ₃ :=
  ev_meth h0 M hT h1 h2 hbase hst hline fun env _ _ _ _ _ _ h => callWith_method1 h (hs1 env) (hs2 env)
theorem ev_sub {value slice : Expr} (h1 : Ev X d sc m σ value p σ₁) (h2 : Ev X d sc m σ₁ slice q σ₂) (h3 : Op2 X d σ₂ (subscriptTail value slice) p q r σ₃) : Ev X d sc m σ (.Subscript value slice pos) r σ₃ := by
  intro A env s ι Q E g hs S V k
  refine Subscript_ (h1 A env s ι _ E g hs S V fun v h' tk ι' T R => ?_)
  refine h2 A env { s with heap := h', toks := tk } ι' _ E g hs T.sr (V.step S T) fun u h'' tk' ι'' T' R' => ?_
  exact h3 A { s with heap := h'', toks := tk' } ι'' v u Q E g T'.sr (R.step T.sr T') R' fun w h3 tk3 ι3 T3 R3 => k w h3 tk3 ι3 ((T.trans T').trans T3) R3
noncomputable def Plain (slice : Expr) : Prop := ∀ o i : Value, subscripted slice false o i = operate [o, i] (getItem o i)
noncomputable def Held (value : Expr) : Prop := ∀ o r : Value, letTemporaryGo value o r = pure ()
theorem tmp_bytes (value : Expr) (b : Array UInt8) (t : Tok) (r : Value) : letTemporaryGo value (.bytes b t) r = pure () := by cases value <;> rfl
theorem tmp_str (value : Expr) (b : Str) (t : Tok) (r : Value) : letTemporaryGo value (.str b t) r = pure () := by cases value <;> rfl
theorem item_b {value slice : Expr} {b : List UInt8} {i : Int} {c : UInt8} (hp : Plain slice) (h0 : 0 ≤ i) (hc : b[i.toNat]? = some c) (hz : b.length ≤ 1099511627776) : Op2 X d σ (subscriptTail value slice) (.bytes b) (.int i) (.int (c.toNat : Int)) σ := Op2.tok fun A s ι v u Q E g S R R' k => by
  obtain ⟨t, rfl⟩ := R.bytes_inv
  · cases R' with
    | int _ t' =>
      have hl : i.toNat < b.length := (List.getElem?_eq_some_iff.mp hc).1
      have hi : i < (b.length : Int) := by lia
      have e : b.getD i.toNat 0 = c := by rw [List.getD_eq_getElem?_getD, hc]; rfl
      have hs := hp (.bytes b.toArray t) (.int i t')
      have ht := tmp_bytes value b.toArray t
      with_reducible refine KBy.item_N hz h0 hi ?_ hs ht
      refine rwr e ?_
      exact k _ _ (.int _ _)
noncomputable def Prt (X : Stat) (d : Nat) (sc : Scope) (m : Vm) (σ : Sto) (e : Option Expr) (b : Option Int) (σ' : Sto) : Prop :=
  ∀ (A : Around) (env : Env) (s : Shared) (ι : Nat → Addr) (Q : Value → Shared → Prop) (E : Value → Shared → Prop), Good d A → env.scope = sc → SR X.B ι σ s.heap → VR X.B ι σ env m s.heap →
    (∀ v h' tk ι', Step X.B ι σ s.heap ι' σ' h' → IsPart v b → Q v { s with heap := h', toks := tk }) → wpAny (model X.prog X.w) A (evalPart e env) Q E s
theorem prt_none : Prt X d sc m σ none none σ := fun _ _ s ι _ _ _ _ S _ k => evalPart_none_step (k .none s.heap s.toks ι (Step.refl S) .none)
theorem prt_some {e : Expr} {i : Int} (h : Ev X d sc m σ e (.int i) σ₁) : Prt X d sc m σ (some e) (some i) σ₁ := fun A env s ι Q E g hs S V k => evalPart_some_step (h A env s ι Q E g hs S V fun v h' tk ι' T R => by obtain ⟨_, rfl⟩ := R.int_inv; exact k _ h' tk ι' T (.int _ _))
noncomputable def Slc (X : Stat) (d : Nat) (σ : Sto) (value : Expr) (p : PV) (lo hi : Option Int) (r : PV) (σ' : Sto) : Prop :=
  ∀ (A : Around) (s : Shared) (ι : Nat → Addr) (slice : Expr) (v l u : Value) (Q : Value → Shared → Prop) (E : Value → Shared → Prop), Good d A → SR X.B ι σ s.heap → Rep s.heap ι σ.length p v → IsPart l lo → IsPart u hi →
    (∀ o i : Value, subscripted slice false o i = operate [i, o] (getItem o i)) →
    (∀ v h' tk ι', Step X.B ι σ s.heap ι' σ' h' → Rep h' ι' σ'.length r v → Q v { s with heap := h', toks := tk }) → wpAny (model X.prog X.w) A (subscriptTail value slice v (.ref s.heap.objs.size)) Q E { s with heap := s.heap.push { cls := .type "slice", data := .fields #[l, u, .none] } }
theorem ev_slice {value : Expr} {lower upper : Option Expr} {sp : Pos} {lo hi : Option Int} {σ₄ : Sto} (h1 : Ev X d sc m σ value p σ₁) (h2 : Prt X d sc m σ₁ lower lo σ₂) (h3 : Prt X d sc m σ₂ upper hi σ₃) (h4 : Slc X d σ₃ value p lo hi r σ₄) : Ev X d sc m σ (.Subscript value (.Slice lower upper none sp) pos) r σ₄ := by
  intro A env s ι Q E g hs S V k
  refine Subscript_ (h1 A env s ι _ E g hs S V fun v h' tk ι' T R => ?_)
  have V1 := V.step S T
  refine wpAny_Slice (h2 A env { s with heap := h', toks := tk } ι' _ E g hs T.sr V1 fun l h2' tk2 ι2 T2 P2 => ?_)
  have V2 := V1.step T.sr T2
  refine h3 A env { s with heap := h2', toks := tk2 } ι2 _ E g hs T2.sr V2 fun u h3' tk3 ι3 T3 P3 => ?_
  refine evalPart_none_step ?_
  exact h4 A { s with heap := h3', toks := tk3 } ι3 _ v l u Q E g T3.sr ((R.step T.sr T2).step T2.sr T3) P2 P3 (fun o i => rfl) fun w h4' tk4 ι4 T4 R4 => k w h4' tk4 ι4 (((T.trans T2).trans T3).trans T4) R4
noncomputable def cut {α : Type} (l : List α) (lo hi : Option Int) : List α := (l.drop (lo.elim 0 (clipAt l.length))).take (hi.elim l.length (clipAt l.length) - lo.elim 0 (clipAt l.length))
theorem slc_b {value : Expr} {b : List UInt8} {lo hi : Option Int} (hz : b.length ≤ 16777216) : Slc X d σ value (.bytes b) lo hi (.bytes (cut b lo hi)) σ := by
  intro A s ι slice v l u Q E g S R P1 P2 hs k
  obtain ⟨t, rfl⟩ := R.bytes_inv
  · refine tail_of_ItemOn (ex2 (p := "bytes") (s := _) FB.slot_bytes_getitem.lookup ⟨typeIs_bytes _ _ _, getItem_meets (typeIs_bytes _ _ _) (by decide) FB.slot_bytes_getitem FB.entry_bytes_getitem (FB.args_bytes_getitem_2 _ _) (KBc.meets_slice2 b.toArray t _ P1 P2)
      ⟨Heap.IsSliceOf.new _ _ _ _, Nat.le_trans (KBc.size_picked_le b.toArray lo hi) (by refine rwr sizeLine_eq ?_; simpa using hz), fun t' tk => ?_⟩⟩) (hs _ _) (tmp_bytes _ _ _)
    have e : KBy.picked b.toArray lo hi = (cut b lo hi).toArray := by rw [KBc.picked_eq]; unfold cut; simp
    refine rwr e ?_
    exact k _ _ tk ι (Step.push S _) (.bytes _ _)
theorem pick_eq (items : Array Value) (lo hi : Option Int) : slicePick items lo hi none = (cut items.toList lo hi).toArray := by
  unfold slicePick cut
  rw [sliceBounds_plain]
  simp only [sliceRange_one, pick_run]
  simp
theorem reps_cut {k : Nat} {l : List PV} {vs : List Value} (R : Reps h ι k l vs) (lo hi : Option Int) : Reps h ι k (cut l lo hi) (cut vs lo hi) := by
  unfold cut
  rw [← R.1]
  refine ⟨by simp [R.1], fun i p v x y => ?_⟩
  rw [List.getElem?_take] at x y
  split at x
  · rename_i hi
    rw [if_pos hi] at y
    rw [List.getElem?_drop] at x y
    exact R.2 _ p v x y
  · exact nn x
theorem slc_l {value : Expr} {n : Nat} {l : List PV} {lo hi : Option Int} (hh : Held value) (hl : σ[n]? = some (.lst l)) (hz : l.length ≤ 16777216) : Slc X d σ value (.ref n) lo hi (.ref σ.length) (σ ++ [.lst (cut l lo hi)]) := by
  intro A s ι slice v vl vu Q E g S R P1 P2 hs k
  obtain ⟨rfl, hn⟩ := R.ref_inv
  · obtain ⟨vs, kk, e, Rl⟩ := S.lst n l hl
    have T1 := Step.push S { cls := .type "slice", data := .fields #[vl, vu, .none] }
    have e1 : (s.heap.push { cls := .type "slice", data := .fields #[vl, vu, .none] }).get? (ι n) = some (listOf vs.toArray kk) := Heap.get?_push_of_some _ e
    refine subscriptTail_ops (Heap.IsList.typeIs (s := { s with heap := s.heap.push { cls := .type "slice", data := .fields #[vl, vu, .none] } }) (isList_of e1)) list_getitem_lookup
      (wpAny_getItem_list_slice (isList_of e1) (Heap.IsSliceOf.new ..) P1 P2 .none (by decide) ?_ (by refine rwr sizeLine_eq ?_; simp; rw [← Rl.1]; exact hz)) (hs _ _) (hh _)
    have R1 := (reps_cut (Rl.step S T1) lo hi)
    have T2 := Step.pushList (k := 0) T1.sr R1
    rw [pick_eq]
    refine k _ _ s.toks _ (T1.trans T2) ?_
    have := Rep.ref (h := (s.heap.push { cls := .type "slice", data := .fields #[vl, vu, .none] }).push (listOf (cut vs lo hi).toArray 0)) (ι := fun i => if i = σ.length then (s.heap.push { cls := .type "slice", data := .fields #[vl, vu, .none] }).objs.size else ι i) (k := (σ ++ [Cell.lst (cut l lo hi)]).length) (n := σ.length) (by simp)
    simpa using this
end
noncomputable def Sub (m' m : Vm) : Prop := ∀ x p, m'.lookup x = some p → m.lookup x = some p
theorem Sub.nil {m : Vm} : Sub [] m := fun _ _ e => nomatch e
section
variable {X : Stat} {d : Nat} {sc : Scope} {m m' m₁ m₂ m₃ : Vm} {σ σ₁ σ₂ σ₃ : Sto} {p q r : PV} {pos : Pos} {B h h' : Heap} {ι ι' : Nat → Addr} {env : Env}
theorem VR.sub (V : VR B ι σ env m h) (hs : Sub m' m) : VR B ι σ env m' h := { V with var := fun x p e => V.var x p (hs x p e) }
theorem CL.weak {e : Expr} {dep : Nat} {a : AI} {rs : List PV} (x : CL X d sc e dep a m' σ rs σ₁) (hs : Sub m' m) : CL X d sc e dep a m σ rs σ₁ := fun A env s ι fp wr I acc vs k0 R g he S V it => x A env s ι fp wr I acc vs k0 R g he S (V.sub hs) it
end

section
variable {X : Stat} {d : Nat} {sc : Scope} {m m₁ m₂ : Vm} {σ σ₁ σ₂ σ₃ : Sto} {p q r : PV} {pos : Pos} {B h h' : Heap} {ι ι' : Nat → Addr} {env : Env}
theorem small_any {a b c : Int} (ha : -(2 ^ 40) ≤ a) (ha' : a < 2 ^ 40) (hb : -(2 ^ 40) ≤ b) (hb' : b < 2 ^ 40) (hc : -(2 ^ 40) ≤ c) (hc' : c < 2 ^ 40) (hn : 0 ≤ Builtin.Range.rangeSize a b c) (hn' : Builtin.Range.rangeSize a b c < 2 ^ 40) : Builtin.Range.small a b c = true := by
  unfold Builtin.Range.small
  simp only [Builtin.Range.rangeFitsLong, Bool.and_eq_true, Bool.or_eq_true, decide_eq_true_eq, beq_iff_eq]
  generalize Builtin.Range.rangeSize a b c = n at *
  refine ⟨by lia, .inr ?_⟩
  split <;> (simp only [Bool.and_eq_true, decide_eq_true_eq]; lia)
theorem CallV.push {f : Value} {ps : List PV} (h : ∀ (A : Around) (s : Shared) (ι : Nat → Addr) (vs : List Value) (Q : Value → Shared → Prop) (E : Value → Shared → Prop), Good d A → SR X.B ι σ s.heap → Reps s.heap ι σ.length ps vs →
    (∀ w o tk, Rep (s.heap.push o) ι σ.length r w → Q w { s with heap := s.heap.push o, toks := tk }) → wpAny (model X.prog X.w) A (call f vs) Q E s) : CallV X d σ f ps r σ := fun A s ι vs Q E g S R k =>
  h A s ι vs Q E g S R fun w o tk R' => k w _ tk ι (Step.push S o) R'
theorem range1 {n : Int} (h0 : 0 ≤ n) (h1 : n < 2 ^ 40) : CallV X d σ (.type "range") [.int n] (.rng 0 1 n.toNat) σ := CallV.push fun A s ι vs Q E g S R k => by
  obtain ⟨v, rfl, R1⟩ := R.one
  obtain ⟨_, rfl⟩ := R1.int_inv
  have e : Builtin.Range.rangeSize 0 n 1 = n := by rw [rangeSize_one]; split <;> lia
  refine call_range_1 (k _ _ _ (.rng (IsRange.new _ _ _ _ _ _ _) (small_one (by lia) (by decide) (by lia) (by lia)) ?_))
  rw [e]; lia
theorem range2 {a b : Int} (ha : -(2 ^ 40) ≤ a) (ha' : a < 2 ^ 40) (hb : -(2 ^ 40) ≤ b) (hb' : b < 2 ^ 40) : CallV X d σ (.type "range") [.int a, .int b] (.rng a 1 (b - a).toNat) σ := CallV.push fun A s ι vs Q E g S R k => by
  obtain ⟨v, u, rfl, R1, R2⟩ := R.two
  obtain ⟨_, rfl⟩ := R1.int_inv; obtain ⟨_, rfl⟩ := R2.int_inv
  have e : Builtin.Range.rangeSize a b 1 = ((b - a).toNat : Int) := by rw [rangeSize_one]; split <;> lia
  exact call_range_2 (k _ _ _ (.rng (IsRange.new _ _ _ _ _ _ _) (small_one (by lia) (by lia) (by lia) (by lia)) e))
theorem range3 {a b c : Int} {n : Nat} (hc : c ≠ 0) (ha : -(2 ^ 40) ≤ a) (ha' : a < 2 ^ 40) (hb : -(2 ^ 40) ≤ b) (hb' : b < 2 ^ 40) (hc1 : -(2 ^ 20) ≤ c) (hc2 : c < 2 ^ 20) (hn : Builtin.Range.rangeSize a b c = (n : Int)) (hn' : n < 2 ^ 40) :
    CallV X d σ (.type "range") [.int a, .int b, .int c] (.rng a c n) σ := CallV.push fun A s ι vs Q E g S R k => by
  obtain ⟨v, u, w, rfl, R1, R2, R3⟩ := R.three
  obtain ⟨_, rfl⟩ := R1.int_inv; obtain ⟨_, rfl⟩ := R2.int_inv; obtain ⟨_, rfl⟩ := R3.int_inv
  exact call_range_3 hc (k _ _ _ (.rng (IsRange.new _ _ _ _ _ _ _) (small_any ha ha' hb hb' (by lia) (by lia) (by lia) (by lia)) hn)) (.inl (PyProof.noPylong_small (by lia)))
end
section
variable {X : Stat} {d : Nat} {sc : Scope} {m m₁ m₂ : Vm} {σ σ₁ σ₂ σ₃ σ₄ σ₅ : Sto} {p q r : PV} {pos : Pos} {B h h' : Heap} {ι ι' : Nat → Addr} {env : Env}
theorem tst_cmp2F {l r₁ r₂ : Expr} {op₁ op₂ : CmpOp} (h1 : Ev X d sc m σ l p σ₁) (h2 : Ev X d sc m σ₁ r₁ q σ₂) (h3 : Op2 X d σ₂ (compareOp op₁) p q (.bool false) σ₃) (hm : lastMarks [op₁, op₂] [r₁, r₂] = false) :
    Tst X d sc m σ (.Compare l [op₁, op₂] [r₁, r₂] pos) false σ₃ := by
  intro A env s ι Q E g hs S V k
  refine isTrue_chain (h1 A env s ι _ E g hs S V fun v h' tk ι' T R => ?_) hm
  refine test_link (h2 A env _ ι' _ E g hs T.sr (V.step S T) fun u h'' tk' ι'' T' R' => ?_)
  refine h3 A _ ι'' v u _ E g T'.sr (R.step T.sr T') R' fun w h3 tk3 ι3 T3 R3 => ?_
  obtain rfl := R3.bool_inv
  exact wpAny_truthy_bool (k h3 tk3 ι3 ((T.trans T').trans T3))
theorem tst_cmp2T {l r₁ r₂ : Expr} {op₁ op₂ : CmpOp} {b : Bool} (h1 : Ev X d sc m σ l p σ₁) (h2 : Ev X d sc m σ₁ r₁ q σ₂) (h3 : Op2 X d σ₂ (compareOp op₁) p q (.bool true) σ₃) (h4 : Ev X d sc m σ₃ r₂ r σ₄) (h5 : Op2 X d σ₄ (compareOp op₂) q r (.bool b) σ₅) (hm : lastMarks [op₁, op₂] [r₁, r₂] = false) :
    Tst X d sc m σ (.Compare l [op₁, op₂] [r₁, r₂] pos) b σ₅ := by
  intro A env s ι Q E g hs S V k
  refine isTrue_chain (h1 A env s ι _ E g hs S V fun v h' tk ι' T R => ?_) hm
  have V1 := V.step S T
  refine test_link (h2 A env _ ι' _ E g hs T.sr V1 fun u h'' tk' ι'' T' R' => ?_)
  have V2 := V1.step T.sr T'
  refine h3 A _ ι'' v u _ E g T'.sr (R.step T.sr T') R' fun w h3 tk3 ι3 T3 R3 => ?_
  have V3 := V2.step T'.sr T3
  obtain rfl := R3.bool_inv
  refine wpAny_truthy_bool ?_
  rw [if_pos rfl]
  refine test_last (h4 A env { s with heap := h3, toks := tk3 } ι3 _ E g hs T3.sr V3 fun x h4' tk4 ι4 T4 R4 => ?_)
  refine h5 A { s with heap := h4', toks := tk4 } ι4 u x _ E g T4.sr ((R'.step T'.sr T3).step T3.sr T4) R4 fun y h5' tk5 ι5 T5 R5 => ?_
  obtain rfl := R5.bool_inv
  exact wpAny_truthy_bool (k h5' tk5 ι5 ((((T.trans T').trans T3).trans T4).trans T5))
theorem ev_cmp2F {l r₁ r₂ : Expr} {op₁ op₂ : CmpOp} (h1 : Ev X d sc m σ l p σ₁) (h2 : Ev X d sc m σ₁ r₁ q σ₂) (h3 : Op2 X d σ₂ (compareOp op₁) p q (.bool false) σ₃) (hm : lastMarks [op₁, op₂] [r₁, r₂] = false) :
    Ev X d sc m σ (.Compare l [op₁, op₂] [r₁, r₂] pos) (.bool false) σ₃ := by
  intro A env s ι Q E g hs S V k
  refine Compare_chain (h1 A env s ι _ E g hs S V fun v h' tk ι' T R => ?_) hm
  refine chain_link (h2 A env _ ι' _ E g hs T.sr (V.step S T) fun u h'' tk' ι'' T' R' => ?_)
  refine h3 A _ ι'' v u _ E g T'.sr (R.step T.sr T') R' fun w h3 tk3 ι3 T3 R3 => ?_
  obtain rfl := R3.bool_inv
  exact wpAny_truthy_bool (k _ h3 tk3 ι3 ((T.trans T').trans T3) (.bool _))
theorem ev_cmp2T {l r₁ r₂ : Expr} {op₁ op₂ : CmpOp} {o : PV} (h1 : Ev X d sc m σ l p σ₁) (h2 : Ev X d sc m σ₁ r₁ q σ₂) (h3 : Op2 X d σ₂ (compareOp op₁) p q (.bool true) σ₃) (h4 : Ev X d sc m σ₃ r₂ r σ₄) (h5 : Op2 X d σ₄ (compareOp op₂) q r o σ₅) (hm : lastMarks [op₁, op₂] [r₁, r₂] = false) :
    Ev X d sc m σ (.Compare l [op₁, op₂] [r₁, r₂] pos) o σ₅ := by
  intro A env s ι Q E g hs S V k
  refine Compare_chain (h1 A env s ι _ E g hs S V fun v h' tk ι' T R => ?_) hm
  have V1 := V.step S T
  refine chain_link (h2 A env _ ι' _ E g hs T.sr V1 fun u h'' tk' ι'' T' R' => ?_)
  have V2 := V1.step T.sr T'
  refine h3 A _ ι'' v u _ E g T'.sr (R.step T.sr T') R' fun w h3 tk3 ι3 T3 R3 => ?_
  have V3 := V2.step T'.sr T3
  obtain rfl := R3.bool_inv
  refine wpAny_truthy_bool ?_
  rw [if_pos rfl]
  refine chain_last (h4 A env { s with heap := h3, toks := tk3 } ι3 _ E g hs T3.sr V3 fun x h4' tk4 ι4 T4 R4 => ?_)
  refine h5 A { s with heap := h4', toks := tk4 } ι4 u x _ E g T4.sr ((R'.step T'.sr T3).step T3.sr T4) R4 fun y h5' tk5 ι5 T5 R5 => ?_
  exact k _ h5' tk5 ι5 ((((T.trans T').trans T3).trans T4).trans T5) R5
theorem ev_bo1 {op : BoolOp} {e : Expr} (h1 : Ev X d sc m σ e p σ₁) : Ev X d sc m σ (.BoolOp op [e] pos) p σ₁ := fun A env s ι Q E g hs S V k => BoolOp_one (h1 A env s ι Q E g hs S V k)
theorem ev_andF {e₁ e₂ : Expr} {es : List Expr} (h1 : Ev X d sc m σ e₁ (.bool false) σ₁) : Ev X d sc m σ (.BoolOp .And (e₁ :: e₂ :: es) pos) (.bool false) σ₁ := by
  intro A env s ι Q E g hs S V k
  refine BoolOp_and (h1 A env s ι _ E g hs S V fun v h' tk ι' T R => ?_)
  obtain rfl := R.bool_inv
  exact wpAny_truthy_bool (k _ h' tk ι' T (.bool _))
theorem ev_andT {e₁ e₂ : Expr} {es : List Expr} (h1 : Ev X d sc m σ e₁ (.bool true) σ₁) (h2 : Ev X d sc m σ₁ (.BoolOp .And (e₂ :: es) pos) p σ₂) : Ev X d sc m σ (.BoolOp .And (e₁ :: e₂ :: es) pos) p σ₂ := by
  intro A env s ι Q E g hs S V k
  refine BoolOp_and (h1 A env s ι _ E g hs S V fun v h' tk ι' T R => ?_)
  obtain rfl := R.bool_inv
  refine wpAny_truthy_bool ?_
  rw [if_pos rfl]
  exact h2 A env { s with heap := h', toks := tk } ι' Q E g hs T.sr (V.step S T) fun v h'' tk' ι'' T' R' => k v h'' tk' ι'' (T.trans T') R'
theorem ev_orT {e₁ e₂ : Expr} {es : List Expr} (h1 : Ev X d sc m σ e₁ (.bool true) σ₁) : Ev X d sc m σ (.BoolOp .Or (e₁ :: e₂ :: es) pos) (.bool true) σ₁ := by
  intro A env s ι Q E g hs S V k
  refine BoolOp_or (h1 A env s ι _ E g hs S V fun v h' tk ι' T R => ?_)
  obtain rfl := R.bool_inv
  exact wpAny_truthy_bool (k _ h' tk ι' T (.bool _))
theorem ev_orF {e₁ e₂ : Expr} {es : List Expr} (h1 : Ev X d sc m σ e₁ (.bool false) σ₁) (h2 : Ev X d sc m σ₁ (.BoolOp .Or (e₂ :: es) pos) p σ₂) : Ev X d sc m σ (.BoolOp .Or (e₁ :: e₂ :: es) pos) p σ₂ := by
  intro A env s ι Q E g hs S V k
  refine BoolOp_or (h1 A env s ι _ E g hs S V fun v h' tk ι' T R => ?_)
  obtain rfl := R.bool_inv
  refine wpAny_truthy_bool ?_
  rw [if_neg (by decide)]
  exact h2 A env { s with heap := h', toks := tk } ι' Q E g hs T.sr (V.step S T) fun v h'' tk' ι'' T' R' => k v h'' tk' ι'' (T.trans T') R'
noncomputable def puts : Vm → List (Str × PV) → Vm
  | m, [] => m
  | m, (x, p) :: r => puts (put m x p) r
noncomputable def Names (es : List Expr) (xs : List Str) : Prop := ∃ ps : List Pos, es = (xs.zip ps).map (fun z => .Name z.1 z.2) ∧ xs.length = ps.length
noncomputable def Store (X : Stat) (A : Around) (E : Value → Shared → Prop) (env : Env) (ι : Nat → Addr) (σ : Sto) (D : List Addr) (x : Str) : Prop := ∀ (m : Vm) (s : Shared) (p : PV) (v : Value) (Q : Unit → Shared → Prop), SR X.B ι σ s.heap → VR X.B ι σ env m s.heap → Rep s.heap ι σ.length p v →
  (∀ h' tk, Chg D X.B ι σ s.heap ι σ h' → VR X.B ι σ env (put m x p) h' → Q () { s with heap := h', toks := tk }) → wpAny (model X.prog X.w) A (storeName env x v) Q E s
theorem asg_orderG {A : Around} {E : Value → Shared → Prop} {D : List Addr} (hD : ∀ m h, VR X.B ι σ env m h → Soft D h) : ∀ (fs : List (Value → Sem Unit)) (xs : List Str) (ps : List PV) (vs : List Value) (m : Vm) (s : Shared) (Q : Unit → Shared → Prop), xs.length = fs.length → ps.length = fs.length →
    (∀ (i : Nat) (f : Value → Sem Unit) (x : Str), fs[i]? = some f → xs[i]? = some x → ∀ (v : Value) (s : Shared) (Q : Unit → Shared → Prop), wpAny (model X.prog X.w) A (storeName env x v) Q E s → wpAny (model X.prog X.w) A (f v) Q E s) →
    (∀ x ∈ xs, Store X A E env ι σ D x) → SR X.B ι σ s.heap → VR X.B ι σ env m s.heap → Reps s.heap ι σ.length ps vs →
    (∀ h' tk, Chg D X.B ι σ s.heap ι σ h' → VR X.B ι σ env (puts m (xs.zip ps)) h' → Q () { s with heap := h', toks := tk }) → wpAny (model X.prog X.w) A (assignInOrder fs vs) Q E s
  | [], xs, ps, vs, m, s, Q, h1, h2, _, _, S, V, R, k => by
    have := List.eq_nil_of_length_eq_zero h1
    have h3 := List.eq_nil_of_length_eq_zero h2
    subst this h3
    rw [R.of_nil]
    exact wpAny_assignInOrder_none (k s.heap s.toks (Chg.refl S) V)
  | f :: fs, xs, ps, vs, m, s, Q, h1, h2, hf, hx, S, V, R, k => by
    match xs, ps, h1, h2 with
    | x :: xs, p :: ps, h1, h2 =>
      obtain ⟨v, us, rfl, r1, r2⟩ := R.uncons
      refine wpAny_assignInOrder_more (hf 0 f x rfl rfl v s _ (hx x List.mem_cons_self m s p v _ S V r1 fun h' tk T V' => ?_))
      refine asg_orderG hD fs xs ps us (put m x p) { s with heap := h', toks := tk } Q (by simpa using h1) (by simpa using h2) (fun i f x a b => hf (i + 1) f x a b) (fun y hy => hx y (List.mem_cons_of_mem _ hy)) T.sr V' (r2.chg (hD _ _ V) S T) fun h'' tk' T' V'' => ?_
      exact k h'' tk' (T.trans T') V''
theorem store_own {A : Around} {E : Value → Shared → Prop} (hs : env.scope = sc) {x : Str} (hk : sc.names.lookup x = some .local ∨ sc.names.lookup x = some .cell) : Store X A E env ι σ (Own env) x := fun _ _ _ _ _ S V R k => store_rule S V R (by unfold Env.kindOf; refine rwr hs ?_; exact hk) k
theorem asg_order {A : Around} {E : Value → Shared → Prop} (hs : env.scope = sc) (fs : List (Value → Sem Unit)) (xs : List Str) (ps : List PV) (vs : List Value) (m : Vm) (s : Shared) (Q : Unit → Shared → Prop) (h1 : xs.length = fs.length) (h2 : ps.length = fs.length)
    (hf : ∀ (i : Nat) (f : Value → Sem Unit) (x : Str), fs[i]? = some f → xs[i]? = some x → ∀ (v : Value) (s : Shared) (Q : Unit → Shared → Prop), wpAny (model X.prog X.w) A (storeName env x v) Q E s → wpAny (model X.prog X.w) A (f v) Q E s)
    (hx : ∀ x ∈ xs, sc.names.lookup x = some .local ∨ sc.names.lookup x = some .cell) : SR X.B ι σ s.heap → VR X.B ι σ env m s.heap → Reps s.heap ι σ.length ps vs →
    (∀ h' tk, Turn X.B env ι σ s.heap ι σ h' → VR X.B ι σ env (puts m (xs.zip ps)) h' → Q () { s with heap := h', toks := tk }) → wpAny (model X.prog X.w) A (assignInOrder fs vs) Q E s :=
  asg_orderG (fun _ _ V => V.soft) fs xs ps vs m s Q h1 h2 hf fun x h => store_own hs (hx x h)
theorem names_each {es : List Expr} {xs : List Str} (h : Names es xs) (env : Env) : (assignEach es env).map (·.1) = xs.map (fun _ => false) ∧ (assignEach es env).length = xs.length ∧
    ∀ (i : Nat) (f : Value → Sem Unit) (x : Str), ((assignEach es env).map (·.2))[i]? = some f → xs[i]? = some x → ∃ px, f = assign (.Name x px) env := by
  obtain ⟨ps, rfl, hl⟩ := h
  induction xs generalizing ps with
  | nil => exact ⟨rfl, rfl, fun i f x _ e => by simp at e⟩
  | cons x xs ih =>
    match ps, hl with
    | p :: ps, hl =>
      obtain ⟨h1, h2, h3⟩ := ih ps (by simpa using hl)
      have e : assignEach (((x :: xs).zip (p :: ps)).map (fun z => Expr.Name z.1 z.2)) env = (false, assign (.Name x p) env) :: assignEach ((xs.zip ps).map (fun z => Expr.Name z.1 z.2)) env := rfl
      refine rwr e ?_
      refine ⟨by rw [List.map_cons, h1]; rfl, by rw [List.length_cons, h2]; rfl, fun i f y a b => ?_⟩
      cases i with
      | zero =>
        simp only [List.map_cons, List.getElem?_cons_zero, Option.some.injEq] at a b
        subst a b
        exact ⟨p, rfl⟩
      | succ i => exact h3 i f y (by simpa using a) (by simpa using b)
theorem noStar_find {l : List (Bool × (Value → Sem Unit))} {xs : List Str} (h : l.map (·.1) = xs.map (fun _ => false)) : l.findIdx? (·.1) = none := by
  rw [List.findIdx?_eq_none_iff]
  intro x hx
  have : x.1 ∈ l.map (·.1) := List.mem_map_of_mem hx
  rw [h] at this
  obtain ⟨_, _, e⟩ := List.mem_map.mp this
  exact e.symm
theorem keep_ext {a : Addr} (ha : a = h.objs.size) (e : Heap.ExtBut a h h') : ∀ b o, h.get? b = some o → h'.get? b = some o := fun b o hb => e b o (fun q => absurd (Heap.lt_size hb) (by rw [q, ha]; exact Nat.lt_irrefl _)) hb
theorem asg_tupleG {A : Around} {E : Value → Shared → Prop} {Q : Unit → Shared → Prop} {D : List Addr} {s : Shared} {v : Value} {es : List Expr} {xs : List Str} {k : Nat} {ps : List PV} (hh : A.handled = none) (hD : ∀ m h, VR X.B ι σ env m h → Soft D h) (hL : ∀ a ∈ D, a ∈ Own env) (hn : Names es xs) (hl : xs.length = ps.length) (hx : ∀ x ∈ xs, Store X A E env ι σ D x)
    (S : SR X.B ι σ s.heap) (V : VR X.B ι σ env m s.heap) (R : Rep s.heap ι σ.length (.tup ps) v) (kk : ∀ h' tk, Chg D X.B ι σ s.heap ι σ h' → VR X.B ι σ env (puts m (xs.zip ps)) h' → Q () { s with heap := h', toks := tk }) : wpAny (model X.prog X.w) A (assign (.Tuple es k pos) env v) Q E s := by
  obtain ⟨e1, e2, e3⟩ := names_each hn env
  obtain ⟨a, vs, rfl, ha, hlen, hr⟩ := R.tup_inv
  · refine wpAny_assign_Tuple hh ha (by refine rwr e2 ?_; refine rwr hl ?_; refine rwr hlen ?_; simp) (noStar_find e1) fun h' he => ?_
    have T := step_keep S (keep_ext rfl he)
    have Rs : Reps s.heap ι σ.length ps vs := ⟨hlen, hr⟩
    refine asg_orderG hD _ xs ps _ m { s with heap := h' } Q (by rw [List.length_map, e2]) (by rw [List.length_map, e2, hl]) (fun i f x a b v s Q h => ?_) hx T.sr (V.step S T) (by simpa using Rs.step S T) fun h'' tk T' V' => kk h'' tk ((T.on' fun a ha => V.live a (hL a ha)).trans T') V'
    obtain ⟨px, rfl⟩ := e3 i f x a b
    exact wpAny_assign_Name h
theorem asg_tuple {es : List Expr} {xs : List Str} {k : Nat} {ps : List PV} (hn : Names es xs) (hl : xs.length = ps.length) (hk : ∀ x ∈ xs, sc.names.lookup x = some .local ∨ sc.names.lookup x = some .cell) : Asg X d sc m (.Tuple es k pos) (.tup ps) (puts m (xs.zip ps)) :=
  fun _ _ _ _ _ _ _ _ g hs S V R k => asg_tupleG g.1 (fun _ _ V => V.soft) (fun _ h => h) hn hl (fun x h => store_own hs (hk x h)) S V R k
theorem asgL_tuple {es : List Expr} {xs : List Str} {k : Nat} {ps : List PV} (hn : Names es xs) (hl : xs.length = ps.length) (hk : ∀ x ∈ xs, sc.names.lookup x = some .local) : AsgL X d sc m (.Tuple es k pos) (.tup ps) (puts m (xs.zip ps)) :=
  fun _ env _ _ _ _ _ _ g hs S V R k => asg_tupleG (D := [env.locals]) g.1 (fun _ _ V => soft_locals V) (fun _ h => by refine rwr (List.mem_singleton.mp h) ?_; exact List.mem_cons_self) hn hl (fun x h _ _ _ _ _ S V R k => store_local S V R (by unfold Env.kindOf; refine rwr hs ?_; exact hk x h) k) S V R k
end
section
variable {X : Stat} {d : Nat} {sc : Scope} {m m₁ m₂ : Vm} {σ σ₁ σ₂ σ₃ σ₄ σ₅ : Sto} {p q r : PV} {pos : Pos} {B h h' : Heap} {ι ι' : Nat → Addr} {env : Env}
theorem ex_assign_t0 {es : List Expr} {k : Nat} {tp : Pos} {e : Expr} (h1 : Ev X d sc m σ e p σ₁) (h2 : Asg X d sc m (.Tuple es k tp) p m₁)
    (hsw : ∀ env : Env, swapsWith e (some (.Tuple es k tp)) pos.line env = pure false) (hw : ∀ env : Env, env.scope = sc → swappedStores [.Tuple es k tp] e env = pure none) : Ex X d sc m σ (.Assign [.Tuple es k tp] e pos) .next m₁ σ₁ := by
  intro A env s ι Q E g hs S V k
  refine wpAny_Assign_stores (h1 A env s ι _ E g hs S V fun v h' tk ι' T R => ?_) (hsw env) (hw env hs)
  refine h2 A env { s with heap := h', toks := tk } ι' σ₁ v _ E g hs T.sr (V.step S T) R fun h'' tk' T' V' => ?_
  exact k .next h'' tk' ι' ((T.on V).trans T') V' trivial
noncomputable def swapNamesOf (sc : Scope) (ts : List Expr) : List Str :=
  ts.filterMap fun
    | .Name id pos => if sc.names.lookup id == some .local && pos.line == (ts.head?.map (·.pos.line)).getD 0 then some id else none
    | _ => none
noncomputable def swapOk (sc : Scope) (ts vs : List Expr) : Bool :=
  (ts.length == 2 || ts.length == 3) && (vs.length == ts.length) && decide (sc.kind = .function) && !(vs.any fun | .Starred .. => true | _ => false) &&
  ((swapNamesOf sc ts).length == ts.length) && ((swapNamesOf sc ts).eraseDups.length == (swapNamesOf sc ts).length) && !(vs.all (foldedForSure 8)) && !(vs.all (constantsAlone 8))
theorem swap_form {ts vs : List Expr} {k k2 : Nat} {tp p2 : Pos} : swappedStores [.Tuple ts k tp] (.Tuple vs k2 p2) env = (if (!(ts.length == 2 || ts.length == 3) || vs.length != ts.length || env.blockKind != .function) = true then pure none
    else if (vs.any fun | .Starred .. => true | _ => false) = true then pure none
    else if ((swapNamesOf env.scope ts).length != ts.length || (swapNamesOf env.scope ts).eraseDups.length != (swapNamesOf env.scope ts).length) = true then pure none
    else if vs.all (foldedForSure 8) = true then pure none
    else if vs.all (constantsAlone 8) = true then (do let _ ← (unsupported "assign.tuple-of-constant-expressions:order-of-the-stores" : Sem PUnit); pure (some (swapNamesOf env.scope ts)))
    else pure (some (swapNamesOf env.scope ts)) : Sem (Option (List Str))) := by
  unfold swappedStores
  rfl
theorem swap_some {ts vs : List Expr} {k k2 : Nat} {tp p2 : Pos} (hs : env.scope = sc) (h : swapOk sc ts vs = true) : swappedStores [.Tuple ts k tp] (.Tuple vs k2 p2) env = pure (some (swapNamesOf sc ts)) := by
  subst hs
  unfold swapOk at h
  simp only [Bool.and_eq_true, decide_eq_true_eq, Bool.not_eq_true', beq_iff_eq] at h
  obtain ⟨⟨⟨⟨⟨⟨⟨h1, h2⟩, h3⟩, h4⟩, h5⟩, h6⟩, h7⟩, h8⟩ := h
  have hb : env.blockKind = .function := by unfold Env.blockKind; refine rwr h3 ?_; rfl
  refine rwr swap_form ?_; rw [if_neg (by simp [h1, h2, hb]), if_neg (by refine rwr h4 ?_; decide), if_neg (by simp [h5, h6]), if_neg (by refine rwr h7 ?_; decide), if_neg (by refine rwr h8 ?_; decide)]
noncomputable def swapFree (sc : Scope) (ts : List Expr) (e : Expr) : Bool := match e with
  | .Tuple .. => (swapNamesOf sc ts).length != ts.length
  | _ => true
theorem swap_none {ts : List Expr} {e : Expr} {k : Nat} {tp : Pos} (h : swapFree sc ts e = true) (hs : env.scope = sc) : swappedStores [.Tuple ts k tp] e env = pure none := by
  subst hs
  cases e with
  | Tuple vs k2 p2 =>
    have h : ((swapNamesOf env.scope ts).length != ts.length) = true := h
    refine rwr swap_form ?_
    split
    · rfl
    · split
      · rfl
      · rw [if_pos (by simp only [h, Bool.true_or])]
  | _ => rfl
theorem Reps.rev {k : Nat} {l : List PV} {vs : List Value} (R : Reps h ι k l vs) : Reps h ι k l.reverse vs.reverse := by
  have hl := R.1
  have hr := R.2
  refine ⟨by simp [hl], fun i p v a b => ?_⟩
  have hi : i < l.length := by have := (List.getElem?_eq_some_iff.mp a).1; simpa using this
  rw [List.getElem?_reverse hi] at a
  rw [List.getElem?_reverse (hl ▸ hi), ← hl] at b
  exact hr _ _ _ a b
theorem ex_assign_t1 {ts vs : List Expr} {k k2 : Nat} {tp p2 : Pos} {ps : List PV} (h1 : Ev X d sc m σ (.Tuple vs k2 p2) (.tup ps) σ₁) (h : swapOk sc ts vs = true) (hl : ps.length = (swapNamesOf sc ts).length) (hk : ∀ x ∈ swapNamesOf sc ts, sc.names.lookup x = some .local ∨ sc.names.lookup x = some .cell) :
    Ex X d sc m σ (.Assign [.Tuple ts k tp] (.Tuple vs k2 p2) pos) .next (puts m ((swapNamesOf sc ts).reverse.zip ps.reverse)) σ₁ := by
  intro A env s ι Q E g hs S V kk
  rw [exec_Assign_arm]
  refine wpAny_bind (wpAny_standAt ?_)
  have e0 : swapsWithSole [.Tuple ts k tp] (.Tuple vs k2 p2) pos.line env = pure false := rfl
  refine rwr e0 ?_
  refine wpAny_bind (wpAny_pure ?_)
  refine wp_n (by decide) ?_
  refine wpAny_bind (h1 A env s ι _ E g hs S V fun v h' tk ι' T R => ?_)
  refine rwr (swap_some hs h) ?_
  refine wpAny_bind (wpAny_pure ?_)
  unfold assignStores
  refine wpAny_bind (wpAny_rule ?_)
  obtain ⟨a, us, rfl, ha, hlen, hr⟩ := R.tup_inv
  · have Rs : Reps h' ι' σ₁.length ps us := ⟨hlen, hr⟩
    have hsz : (swapNamesOf sc ts).length = us.toArray.size := by refine rwr (hl).symm ?_; refine rwr hlen ?_; simp
    refine rwr hsz ?_
    refine wpAny_bind (wpAny_unpackItems_tuple (s := { s with heap := h', toks := tk }) g.1 ha fun h2 hx => ?_)
    have T2 := step_keep T.sr (keep_ext rfl hx)
    refine wpAny_bind (asg_order hs _ (swapNamesOf sc ts).reverse ps.reverse _ m { s with heap := h2, toks := tk } _ (by simp) (by simp [hl]) (fun i f x a b v s Q h => ?_) (fun x hx => hk x (List.mem_reverse.mp hx)) T2.sr ((V.step S T).step T.sr T2) (by simpa using (Rs.step T.sr T2).rev) fun h3 tk3 T3 V3 => ?_)
    · rw [List.getElem?_map] at a
      rw [b] at a
      simp only [Option.map_some, Option.some.injEq] at a
      subst a
      exact wpAny_bindName h
    · exact wpAny_pure (kk .next h3 tk3 ι' (((T.on V).trans (T2.on (V.step S T))).trans T3) V3 trivial)
end
section
variable {X : Stat} {d : Nat} {sc : Scope} {m m₁ m₂ : Vm} {σ σ₁ σ₂ σ₃ σ₄ σ₅ : Sto} {p q r : PV} {pos : Pos} {B h h' : Heap} {ι ι' : Nat → Addr} {env : Env}
theorem draw_list {A : Around} {E : Value → Shared → Prop} {it t : Addr} {items : Array Value} (hne : t ≠ it) : ∀ (n i : Nat) (s : Shared) (Q : List Value → Shared → Prop), s.heap.IsListIter it t i → s.heap.IsList t items → i + n ≤ items.size →
    (∀ h', h'.IsListIter it t (i + n) → Heap.SameBut it s.heap h' → Q ((items.toList.drop i).take n) { s with heap := h' }) → wpAny (model X.prog X.w) A (draw (.ref it) n) Q E s
  | 0, i, s, Q, hit, _, _, hQ => by
    exact wpAny_pure (by simpa using hQ s.heap hit (Heap.SameBut.refl ..))
  | n + 1, i, s, Q, hit, ht, hle, hQ => by
    have hlt : i < items.size := by lia
    refine wpAny_bind (wpAny_pyNext_list_item hit ht (x := items[i]) (by simp [hlt]) fun h₁ hit₁ hs₁ => ?_)
    refine wpAny_bind (wpAny_holding (draw_list hne n (i + 1) _ _ hit₁ (Heap.IsList.extBut ht hs₁.extBut hne) (by lia) fun h₂ hit₂ hs₂ => wpAny_pure ?_))
    have hd : items.toList.drop i = items[i] :: items.toList.drop (i + 1) := by simp [List.drop_eq_getElem_cons, hlt]
    have := hQ h₂ (by refine rwr (show i + (n + 1) = i + 1 + n by lia) ?_; exact hit₂) (hs₁.trans hs₂)
    rw [hd, List.take_succ_cons] at this
    exact this
theorem unpack_list {A : Around} {E : Value → Shared → Prop} {s : Shared} {t : Addr} {items : Array Value} {Q : List Value → Shared → Prop} (hh : A.handled = none) (ht : s.heap.IsList t items)
    (hQ : ∀ h', (∀ b o, s.heap.get? b = some o → h'.get? b = some o) → Q items.toList { s with heap := h' }) : wpAny (model X.prog X.w) A (unpackItems (.ref t) items.size none) Q E s := by
  have hlt : t ≠ s.heap.objs.size := by obtain ⟨o, ho, _⟩ := ht; exact Nat.ne_of_lt (Heap.lt_size ho)
  have hup : ∀ (b : Addr) (o : Obj), s.heap.get? b = some o → b ≠ s.heap.objs.size := fun b o e => Nat.ne_of_lt (Heap.lt_size e)
  unfold unpackItems
  refine wpAny_bind ?_
  · unfold notIterableAtAll
    refine wpAny_bind (wpAny_specialOf (Heap.IsList.typeIs ht) F.slot_list_iter.lookup ?_)
    refine wpAny_pure ?_
    simp only [Bool.false_eq_true, if_false]
    refine wpAny_bind (wpAny_holding (wpAny_pyIter_list ht ?_))
    refine wpAny_bind (wpAny_holding (draw_list hlt items.size 0 _ _ (ex1 (Heap.get?_push_size _ rfl) ⟨rfl, rfl⟩) (Heap.IsList.push ht _) (by lia) fun h₁ hit₁ hs₁ => ?_))
    have hall : List.take items.size (List.drop 0 items.toList) = items.toList := by
      rw [List.drop_zero]; exact List.take_of_length_le (by simp)
    refine rwr hall ?_
    refine wp_n (by simp) ?_
    have ht₁ : h₁.IsList t items := Heap.IsList.extBut (Heap.IsList.push ht _) hs₁.extBut hlt
    refine wpAny_bind (wpAny_holding (wpAny_pyNext_list_end hh hit₁ ht₁ (by simp) fun h₂ he₂ => ?_))
    simp only [Option.isSome_none, Bool.false_eq_true, if_false]
    refine wpAny_pure (hQ h₂ fun b o e => he₂ b o (hup b o e) ?_)
    exact hs₁.extBut b o (hup b o e) (Heap.get?_push_of_some _ e)
theorem asg_list {es : List Expr} {xs : List Str} {k : Nat} {n : Nat} {ps : List PV} (hn : Names es xs) (hl : xs.length = ps.length) (hk : ∀ x ∈ xs, sc.names.lookup x = some .local ∨ sc.names.lookup x = some .cell)
    {A : Around} {s : Shared} {v : Value} {Q : Unit → Shared → Prop} {E : Value → Shared → Prop} (g : Good d A) (hs : env.scope = sc) (S : SR X.B ι σ s.heap) (V : VR X.B ι σ env m s.heap) (R : Rep s.heap ι σ.length (.ref n) v) (hσ : σ[n]? = some (.lst ps))
    (kk : ∀ h' tk, Turn X.B env ι σ s.heap ι σ h' → VR X.B ι σ env (puts m (xs.zip ps)) h' → Q () { s with heap := h', toks := tk }) : wpAny (model X.prog X.w) A (assign (.Tuple es k pos) env v) Q E s := by
  obtain ⟨e1, e2, e3⟩ := names_each hn env
  obtain ⟨rfl, hlt⟩ := R.ref_inv
  · obtain ⟨vs, j, e, Rl⟩ := S.lst n ps hσ
    rw [assign_Tuple]
    refine wpAny_bind (wpAny_standAt ?_)
    unfold unpack
    refine rwr (noStar_find e1) ?_; refine rwr (show (assignEach es env).length = vs.toArray.size by refine rwr e2 ?_; refine rwr hl ?_; rw [Rl.1]; simp) ?_
    refine wpAny_bind (wpAny_holding (unpack_list g.1 (isList_of e) fun h' hx => ?_))
    have T := step_keep S hx
    refine asg_order hs _ xs ps _ m { s with heap := h' } Q (by rw [List.length_map, e2]) (by rw [List.length_map, e2, hl]) (fun i f x a b v s Q h => ?_) hk T.sr (V.step S T) (by simpa using Rl.step S T) fun h'' tk T' V' => kk h'' tk ((T.on V).trans T') V'
    obtain ⟨px, rfl⟩ := e3 i f x a b
    exact wpAny_assign_Name h
theorem ex_assign_l {es : List Expr} {xs : List Str} {k : Nat} {n : Nat} {ps : List PV} {tp : Pos} {e : Expr} (h1 : Ev X d sc m σ e (.ref n) σ₁) (hσ : σ₁[n]? = some (.lst ps)) (hn : Names es xs) (hl : xs.length = ps.length) (hk : ∀ x ∈ xs, sc.names.lookup x = some .local ∨ sc.names.lookup x = some .cell)
    (hsw : ∀ env : Env, swapsWith e (some (.Tuple es k tp)) pos.line env = pure false) (hw : ∀ env : Env, env.scope = sc → swappedStores [.Tuple es k tp] e env = pure none) : Ex X d sc m σ (.Assign [.Tuple es k tp] e pos) .next (puts m (xs.zip ps)) σ₁ := by
  intro A env s ι Q E g hs S V kk
  refine wpAny_Assign_stores (h1 A env s ι _ E g hs S V fun v h' tk ι' T R => ?_) (hsw env) (hw env hs)
  refine asg_list (k := k) hn hl hk (s := { s with heap := h', toks := tk }) g hs T.sr (V.step S T) R hσ fun h'' tk' T' V' => ?_
  exact kk .next h'' tk' ι' ((T.on V).trans T') V' trivial
theorem set_list {A : Around} {E : Value → Shared → Prop} {s : Shared} {l : Addr} {items : Array Value} {n : Nat} {k : Int} {t : Tok} {v : Value} {Q : Unit → Shared → Prop} (ho : s.heap.get? l = some (listOf items n))
    (h0 : 0 ≤ k) (hfit : k < 2 ^ 63) (hn : k < items.size)
    (hQ : ∀ h' n', h'.get? l = some (listOf (items.setIfInBounds k.toNat v) n') → Heap.SameBut l s.heap h' → Q () { s with heap := h' }) :
    wpAny (model X.prog X.w) A (setItem (.ref l) (.int k t) v) Q E s := by
  have hl : s.heap.IsList l items := (ex1 ho ⟨rfl, n, rfl⟩)
  have hd : (listOf items n).data = .seq items n := rfl
  unfold setItem
  try with_reducible refine wpAny_holding ?_
  first | refine wpAny_bind (wpAny_pure ?_) | skip
  refine wpAny_bind (wpAny_sequenceKey (Heap.IsList.typeIs hl) (by decide) ?_)
  refine wpAny_bind (wpAny_callSpecial?_slot (name := Str.ofString "__setitem__") (Heap.IsList.typeIs hl) slot_list_setitem
    (wpAny_call_entry slot_list_setitem (Heap.IsList.typeIs hl) entry_list_setitem ?_ (args_list_setitem _ _ _)))
  show wpAny _ _ (Builtin.List.listSubscript? (.int k t) >>= _) _ _ s
  refine wpAny_bind (wpAny_listSubscript_int (fitsIndex_of h0 hfit) ?_)
  clear hfit
  obtain ⟨j, rfl⟩ := Int.eq_ofNat_of_zero_le h0
  have hj : j < items.size := by lia
  have hx' : items[j]? = some items[j] := Array.getElem?_eq_getElem hj
  refine wpAny_bind (wpAny_bind (wpAny_seqItemAt ho hd (wpAny_pure ?_)))
  refine rwr hx' ?_
  show wpAny _ _ (setSeqItemAt l j v >>= _) _ _ s
  have hm : ∃ n', Obj.mapSeq (·.setIfInBounds j v) (listOf items n) = listOf (items.setIfInBounds j v) n' := by
    unfold Obj.mapSeq
    exact ⟨_, rfl⟩
  obtain ⟨n', hm⟩ := hm
  have hfin : (s.heap.update l (Obj.mapSeq (·.setIfInBounds j v))).get? l = some (listOf (items.setIfInBounds j v) n') := by
    refine rwr (hm).symm ?_
    refine Heap.get?_update_self _ ho ?_
    refine rwr hm ?_; rfl
  refine wpAny_bind (wpAny_setSeqItemAt ho hd ?_)
  first
    | exact wpAny_bind (wpAny_pure (wpAny_pure (ex1 (p := .none) rfl (wpAny_pure (hQ _ _ hfin (Heap.SameBut.update ..))))))
    | exact wpAny_pure ⟨.none, rfl, wpAny_pure (hQ _ _ hfin (Heap.SameBut.update ..))⟩
theorem ex_seti {o i e : Expr} {n : Nat} {j : Int} {l : List PV} {tp : Pos} (h1 : Ev X d sc m σ e p σ₁) (h2 : Ev X d sc m σ₁ o (.ref n) σ₂) (h3 : Ev X d sc m σ₂ i (.int j) σ₃) (hl : σ₃[n]? = some (.lst l)) (h0 : 0 ≤ j) (hj : j < l.length) (hz : l.length ≤ 16777216)
    (hsw : ∀ env : Env, swapsWith e (some (.Subscript o i tp)) pos.line env = pure false) : Ex X d sc m σ (.Assign [.Subscript o i tp] e pos) .next m (σ₃.set n (.lst (l.set j.toNat p))) := by
  intro A env s ι Q E g hs S V k
  refine wpAny_Assign_Subscript (h1 A env s ι _ E g hs S V fun v h' tk ι' T R => ?_) (hsw env)
  have V1 := V.step S T
  refine h2 A env { s with heap := h', toks := tk } ι' _ E g hs T.sr V1 fun ov h2' tk2 ι2 T2 R2 => ?_
  have V2 := V1.step T.sr T2
  refine h3 A env { s with heap := h2', toks := tk2 } ι2 _ E g hs T2.sr V2 fun iv h3' tk3 ι3 T3 R3 => ?_
  have V3 := V2.step T2.sr T3
  have R' := (R.step T.sr T2).step T2.sr T3
  have R2' := R2.step T2.sr T3
  obtain ⟨_, rfl⟩ := R3.int_inv
  cases R2' with
  | ref hlt =>
    obtain ⟨vs, kk, e, Rl⟩ := T3.sr.lst n l hl
    obtain ⟨i, rfl⟩ := Int.eq_ofNat_of_zero_le h0
    have hi : i < l.length := by lia
    refine set_list (s := { s with heap := h3', toks := tk3 }) e h0 (by lia) (by rw [List.size_toArray, ← Rl.1]; exact hj) fun h4 n4 e4 hs4 => ?_
    have ea : (vs.toArray.setIfInBounds ((i : Nat) : Int).toNat v) = (vs.set i v).toArray := by simp
    rw [ea] at e4
    have hr : Reps h3' ι3 σ₃.length (l.set i p) (vs.set i v) := by
      refine ⟨by simp [Rl.1], fun a q u x y => ?_⟩
      rw [List.getElem?_set] at x y
      by_cases h : i = a
      · subst h
        rw [if_pos rfl, if_pos hi] at x
        rw [if_pos rfl, if_pos (Rl.1 ▸ hi)] at y
        cases x; cases y; exact R'
      · rw [if_neg h] at x y
        exact Rl.2 a q u x y
    have T4 := Step.setList T3.sr hlt hs4 e4 hr
    have all := (((T.trans T2).trans T3).trans T4)
    exact k .next h4 tk3 ι3 (Step.on V all) (V3.step T3.sr T4) trivial
end
open Builtin
theorem slot_bytes_find : Slot "bytes" "find" "bytes.find" :=
  .of (owner := "bytes") (n := "find") (by rw [typeLookup_type, builtinLookup_eq_fast]; kernel_rfl) (by decide +kernel) (by decide +kernel) (by decide +kernel)
    (by first | exact .inl (by decide +kernel) | exact .inr (by decide +kernel)) (by rw [isSubtype_type]; kernel_rfl)
theorem type_bytes_find : typeOf (.builtin "bytes.find") = pure (.type "method_descriptor") := by show builtinType _ = _; rw [builtinType_eq_fast]; kernel_rfl
theorem entry_bytes_find : entryFor table "bytes.find" = some Builtin.«bytes.find» := entryFor_of_tree (by kernel_rfl)
theorem args_bytes_find_3 (a b c : Value) : argsOk "bytes.find" ⟨[a, b, c], []⟩ := by
  unfold argsOk; rw [signature?_of (id := "bytes.find") (n := ['d', 'n', 'i', 'f']) (o := ['s', 'e', 't', 'y', 'b']) (by kernel_rfl) FB.owner_bytes]; kernel_rfl
theorem args_bytes_find_4 (a b c d : Value) : argsOk "bytes.find" ⟨[a, b, c, d], []⟩ := by
  unfold argsOk; rw [signature?_of (id := "bytes.find") (n := ['d', 'n', 'i', 'f']) (o := ['s', 'e', 't', 'y', 'b']) (by kernel_rfl) FB.owner_bytes]; kernel_rfl
theorem slot_bytes_rstrip : Slot "bytes" "rstrip" "bytes.rstrip" :=
  .of (owner := "bytes") (n := "rstrip") (by rw [typeLookup_type, builtinLookup_eq_fast]; kernel_rfl) (by decide +kernel) (by decide +kernel) (by decide +kernel)
    (by first | exact .inl (by decide +kernel) | exact .inr (by decide +kernel)) (by rw [isSubtype_type]; kernel_rfl)
theorem type_bytes_rstrip : typeOf (.builtin "bytes.rstrip") = pure (.type "method_descriptor") := by show builtinType _ = _; rw [builtinType_eq_fast]; kernel_rfl
theorem entry_bytes_rstrip : entryFor table "bytes.rstrip" = some Builtin.«bytes.rstrip» := entryFor_of_tree (by kernel_rfl)
theorem args_bytes_rstrip_2 (a b : Value) : argsOk "bytes.rstrip" ⟨[a, b], []⟩ := by
  unfold argsOk; rw [signature?_of (id := "bytes.rstrip") (n := ['p', 'i', 'r', 't', 's', 'r']) (o := ['s', 'e', 't', 'y', 'b']) (by kernel_rfl) FB.owner_bytes]; kernel_rfl
theorem slot_bytes_split : Slot "bytes" "split" "bytes.split" :=
  .of (owner := "bytes") (n := "split") (by rw [typeLookup_type, builtinLookup_eq_fast]; kernel_rfl) (by decide +kernel) (by decide +kernel) (by decide +kernel)
    (by first | exact .inl (by decide +kernel) | exact .inr (by decide +kernel)) (by rw [isSubtype_type]; kernel_rfl)
theorem type_bytes_split : typeOf (.builtin "bytes.split") = pure (.type "method_descriptor") := by show builtinType _ = _; rw [builtinType_eq_fast]; kernel_rfl
theorem entry_bytes_split : entryFor table "bytes.split" = some Builtin.«bytes.split» := entryFor_of_tree (by kernel_rfl)
theorem args_bytes_split_2 (a b : Value) : argsOk "bytes.split" ⟨[a, b], []⟩ := by
  unfold argsOk; rw [signature?_of (id := "bytes.split") (n := ['t', 'i', 'l', 'p', 's']) (o := ['s', 'e', 't', 'y', 'b']) (by kernel_rfl) FB.owner_bytes]; kernel_rfl
theorem slot_bytes_join : Slot "bytes" "join" "bytes.join" :=
  .of (owner := "bytes") (n := "join") (by rw [typeLookup_type, builtinLookup_eq_fast]; kernel_rfl) (by decide +kernel) (by decide +kernel) (by decide +kernel)
    (by first | exact .inl (by decide +kernel) | exact .inr (by decide +kernel)) (by rw [isSubtype_type]; kernel_rfl)
theorem type_bytes_join : typeOf (.builtin "bytes.join") = pure (.type "method_descriptor") := by show builtinType _ = _; rw [builtinType_eq_fast]; kernel_rfl
theorem entry_bytes_join : entryFor table "bytes.join" = some Builtin.«bytes.join» := entryFor_of_tree (by kernel_rfl)
theorem args_bytes_join_2 (a b : Value) : argsOk "bytes.join" ⟨[a, b], []⟩ := by
  unfold argsOk; rw [signature?_of (id := "bytes.join") (n := ['n', 'i', 'o', 'j']) (o := ['s', 'e', 't', 'y', 'b']) (by kernel_rfl) FB.owner_bytes]; kernel_rfl
open Builtin
theorem same_bytes {M : Model} {A : Around} {E : Value → Shared → Prop} {s : Shared} {b : Array UInt8} {t : Tok} {Q : Value → Shared → Prop} (h : Q (.bytes b t) s) : wpAny M A (Bytes.Kind.same .bytes (.bytes b t)) Q E s := by
  unfold Bytes.Kind.same
  refine wp_p (by decide) ?_
  refine wpAny_bind (wpAny_typeOf (typeIs_bytes s b t) ?_)
  refine wp_p (by decide) ?_
  exact wpAny_pure h
noncomputable def stripped (b cs : List UInt8) : List UInt8 := (b.reverse.dropWhile cs.toArray.contains).reverse
theorem meets_rstrip (b cs : List UInt8) (t u : Tok) (hz : b.length ≤ sizeLine) : Meets («bytes.rstrip» ⟨[.bytes b.toArray t, .bytes cs.toArray u], []⟩) (fun _ R s => ∀ t' k, R (.ok (.ret (.bytes (stripped b cs).toArray t'))) { s with toks := k }) := by
  refine .of_wp fun prog w A R s h => ?_
  show wpAny _ _ (Bytes.bytesLike _ (.bytes cs.toArray u) >>= fun r => _) _ _ s
  refine wpAny_bind (wpAny_of_eq KBd.like_eq ?_)
  show wpAny _ _ (Bytes.payload (.bytes b.toArray t) >>= fun r => _) _ _ s
  refine wpAny_bind (wpAny_of_eq (a := b.toArray) rfl ?_)
  by_cases hl : ((stripped b cs).length == b.toArray.size) = true
  · refine wp_p hl ?_
    refine wpAny_bind (wpAny_rule (wpAny_bind (same_bytes (wpAny_pure ⟨_, rfl, ?_⟩))))
    have e : stripped b cs = b := by
      have hl : (stripped b cs).length = b.length := by simpa using hl
      have hs : (b.reverse.dropWhile cs.toArray.contains) <:+ b.reverse := List.dropWhile_suffix _
      have hp : stripped b cs <+: b := by
        have := List.reverse_prefix.mpr hs
        rwa [List.reverse_reverse] at this
      exact hp.eq_of_length hl
    have := h t s.toks
    rw [e] at this
    exact this
  · refine wp_n hl ?_
    refine wpAny_bind (wpAny_mkBytes (wpAny_pure ⟨_, rfl, h _ _⟩) ?_)
    have hs : (b.reverse.dropWhile cs.toArray.contains) <:+ b.reverse := List.dropWhile_suffix _
    have := hs.length_le
    rw [List.length_reverse] at this
    have e : (stripped b cs).toArray.size = (b.reverse.dropWhile cs.toArray.contains).length := by unfold stripped; simp
    show (stripped b cs).toArray.size ≤ sizeLine
    refine rwr e ?_
    lia
theorem index_int {i : Int} {t : Tok} {s : Shared} {M : Model} {A : Around} {E : Value → Shared → Prop} {Q : Option Int → Shared → Prop} (h : Q (some i) s) : wpAny M A (Bytes.bound? (some (.int i t))) Q E s := by
  refine wpAny_bind (wpAny_specialOf (T := "int") (typeIs_int _ _ _) F.slot_int_index.lookup ?_)
  refine wpAny_bind (m := asIndex _) (wpAny_of_eq rfl (wpAny_pure h))
noncomputable def foundAt (b c : List UInt8) (lo hi : Option Int) : Int :=
  match (if (Bytes.window b.length lo hi).2 - (Bytes.window b.length lo hi).1 < c.length then none else some ((Bytes.window b.length lo hi).1.toNat, (Bytes.window b.length lo hi).2.toNat)).bind fun (lo, hi) => Bytes.find? b.toArray c.toArray lo hi with
  | some i => (i : Int)
  | none => -1
theorem find_end {b c : Array UInt8} {M : Model} {A : Around} {s : Shared} {R : Result → Shared → Prop} {E : Value → Shared → Prop} {ri : String} {z : Sem Fin} (w' : Option (Nat × Nat))
    (h : ∀ (t' : Tok) (k : Nat), R (.ok (.ret (.int (match w'.bind fun (lo, hi) => Bytes.find? b c lo hi with | some i => (i : Int) | none => -1) t'))) { s with toks := k }) :
    wpAny M A (match w'.bind fun (lo, hi) => if false = true then Bytes.rfind? b c lo hi else Bytes.find? b c lo hi with
      | some i => retInt i
      | none => do
        rule ri
        if false = true then z else retInt (-1)) (fun fin s' => ∃ v, fin = Fin.done (Flow.ret v) ∧ R (Except.ok (Flow.ret v)) s') E s := by
  rcases w' with _ | ⟨lo, hi⟩
  · exact wpAny_bind (wpAny_rule (wpAny_bind (wpAny_mkInt (wpAny_pure ⟨_, rfl, h _ _⟩))))
  · have h : ∀ (t' : Tok) (k : Nat), R (.ok (.ret (.int (match Bytes.find? b c lo hi with | some i => (i : Int) | none => -1) t'))) { s with toks := k } := h
    show wpAny _ _ (match Bytes.find? b c lo hi with | some i => retInt i | none => (rule _ >>= fun _ => if false = true then z else retInt (-1))) _ _ s
    revert h
    cases Bytes.find? b c lo hi with
    | none => intro h; exact wpAny_bind (wpAny_rule (wpAny_bind (wpAny_mkInt (wpAny_pure ⟨_, rfl, h _ _⟩))))
    | some i => intro h; exact wpAny_bind (wpAny_mkInt (wpAny_pure ⟨_, rfl, h _ _⟩))
theorem meets_find3 (b c : List UInt8) (t u : Tok) (l : Int) (t1 : Tok) : Meets («bytes.find» ⟨[.bytes b.toArray t, .bytes c.toArray u, .int l t1], []⟩) (fun _ R s => ∀ t' k, R (.ok (.ret (.int (foundAt b c (some l) none) t'))) { s with toks := k }) := by
  refine .of_wp fun prog w A R s h => ?_
  show wpAny _ _ (Bytes.searchArgs .bytes "find" ⟨[.bytes b.toArray t, .bytes c.toArray u, .int l t1], []⟩ >>= fun r => _) _ _ s
  refine wpAny_bind ?_
  show wpAny _ _ (Bytes.bound? (some (.int l t1)) >>= fun r => _) _ _ s
  refine wpAny_bind (index_int ?_)
  show wpAny _ _ (Bytes.buffer? _ (.bytes c.toArray u) >>= fun r => _) _ _ s
  refine wpAny_bind (wpAny_of_eq KBy.buffer_eq ?_)
  show wpAny _ _ (Bytes.payload (.bytes b.toArray t) >>= fun r => _) _ _ s
  refine wpAny_bind (wpAny_of_eq (a := b.toArray) rfl ?_)
  refine wpAny_pure ?_
  exact find_end _ h
theorem meets_find4 (b c : List UInt8) (t u : Tok) (l e : Int) (t1 t2 : Tok) : Meets («bytes.find» ⟨[.bytes b.toArray t, .bytes c.toArray u, .int l t1, .int e t2], []⟩) (fun _ R s => ∀ t' k, R (.ok (.ret (.int (foundAt b c (some l) (some e)) t'))) { s with toks := k }) := by
  refine .of_wp fun prog w A R s h => ?_
  show wpAny _ _ (Bytes.searchArgs .bytes "find" ⟨[.bytes b.toArray t, .bytes c.toArray u, .int l t1, .int e t2], []⟩ >>= fun r => _) _ _ s
  refine wpAny_bind ?_
  show wpAny _ _ (Bytes.bound? (some (.int l t1)) >>= fun r => _) _ _ s
  refine wpAny_bind (index_int ?_)
  refine wpAny_bind (index_int ?_)
  show wpAny _ _ (Bytes.buffer? _ (.bytes c.toArray u) >>= fun r => _) _ _ s
  refine wpAny_bind (wpAny_of_eq KBy.buffer_eq ?_)
  show wpAny _ _ (Bytes.payload (.bytes b.toArray t) >>= fun r => _) _ _ s
  refine wpAny_bind (wpAny_of_eq (a := b.toArray) rfl ?_)
  refine wpAny_pure ?_
  exact find_end _ h
section
variable {X : Stat} {d : Nat} {σ : Sto}
theorem isT_bytes {b : List UInt8} : ∀ (s : Shared) (ι : Nat → Addr) (v : Value), SR X.B ι σ s.heap → Rep s.heap ι σ.length (.bytes b) v → s.TypeIs v "bytes" ∧ ∀ a, v = .ref a → ∃ ob, s.heap.get? a = some ob ∧ ob.dict = none := fun s ι v S R => by
  obtain ⟨t, rfl⟩ := R.bytes_inv
  exact ⟨typeIs_bytes _ _ _, fun a h => nomatch h⟩
theorem mth_find : Mth "bytes" "bytes.find" "find" := ⟨FB.plainAttrs_bytes, slot_bytes_find, type_bytes_find⟩
theorem mth_rstrip : Mth "bytes" "bytes.rstrip" "rstrip" := ⟨FB.plainAttrs_bytes, slot_bytes_rstrip, type_bytes_rstrip⟩
theorem rstrip_b {b cs : List UInt8} (hz : b.length ≤ 16777216) : CallV X d σ (.builtin "bytes.rstrip") [.bytes b, .bytes cs] (.bytes (stripped b cs)) σ := fun A s ι vs Q E g S R k => by
  obtain ⟨v, u, rfl, R1, R2⟩ := R.two
  obtain ⟨_, rfl⟩ := R1.bytes_inv; obtain ⟨_, rfl⟩ := R2.bytes_inv
  exact call_meets slot_bytes_rstrip (typeIs_bytes _ _ _) entry_bytes_rstrip (args_bytes_rstrip_2 _ _) (meets_rstrip b cs _ _ (by refine rwr sizeLine_eq ?_; exact hz)) (fun t' j => k _ s.heap j ι (Step.refl S) (.bytes _ _))
theorem find3_b {b cs : List UInt8} {l : Int} : CallV X d σ (.builtin "bytes.find") [.bytes b, .bytes cs, .int l] (.int (foundAt b cs (some l) none)) σ := fun A s ι vs Q E g S R k => by
  obtain ⟨v, u, w, rfl, R1, R2, R3⟩ := R.three
  obtain ⟨_, rfl⟩ := R1.bytes_inv; obtain ⟨_, rfl⟩ := R2.bytes_inv; obtain ⟨_, rfl⟩ := R3.int_inv
  exact call_meets slot_bytes_find (typeIs_bytes _ _ _) entry_bytes_find (args_bytes_find_3 _ _ _) (meets_find3 b cs _ _ _ _) (fun t' j => k _ s.heap j ι (Step.refl S) (.int _ _))
theorem find4_b {b cs : List UInt8} {l e : Int} : CallV X d σ (.builtin "bytes.find") [.bytes b, .bytes cs, .int l, .int e] (.int (foundAt b cs (some l) (some e))) σ := fun A s ι vs Q E g S R k => by
  obtain ⟨v, us, rfl, R1, R'⟩ := R.uncons
  obtain ⟨u, w, x, rfl, R2, R3, R4⟩ := R'.three
  obtain ⟨_, rfl⟩ := R1.bytes_inv; obtain ⟨_, rfl⟩ := R2.bytes_inv; obtain ⟨_, rfl⟩ := R3.int_inv; obtain ⟨_, rfl⟩ := R4.int_inv
  exact call_meets slot_bytes_find (typeIs_bytes _ _ _) entry_bytes_find (args_bytes_find_4 _ _ _ _) (meets_find4 b cs _ _ _ _ _ _) (fun t' j => k _ s.heap j ι (Step.refl S) (.int _ _))
end
open Builtin
theorem mapM_bytes {M : Model} {A : Around} {E : Value → Shared → Prop} : ∀ (xs : List (Array UInt8)) (s : Shared) (Q : List Value → Shared → Prop), (∀ x ∈ xs, x.size ≤ sizeLine) →
    (∀ (vs : List Value) (k : Nat), vs.length = xs.length → (∀ (i : Nat) x v, xs[i]? = some x → vs[i]? = some v → ∃ t, v = Value.bytes x t) → Q vs { s with toks := k }) → wpAny M A (xs.mapM mkBytes) Q E s
  | [], s, Q, _, h => by
    rw [List.mapM_nil]
    exact wpAny_pure (h [] s.toks rfl fun i x v a => by simp at a)
  | x :: xs, s, Q, hz, h => by
    rw [List.mapM_cons]
    refine wpAny_bind (wpAny_mkBytes ?_ (hz x List.mem_cons_self))
    refine wpAny_bind (mapM_bytes xs _ _ (fun y hy => hz y (List.mem_cons_of_mem _ hy)) fun vs k hl hv => ?_)
    refine wpAny_pure (h _ k (by simp [hl]) fun i y v a b => ?_)
    cases i with
    | zero => cases a; cases b; exact ⟨_, rfl⟩
    | succ i => exact hv i y v a b
noncomputable def splitAt' (b sep : List UInt8) : List (List UInt8) :=
  let places := (Bytes.occurrences b.toArray sep.toArray 0 b.length).take (b.length + 1)
  if places.isEmpty then [b] else (Bytes.between b.toArray sep.length places).map Array.toList
theorem meets_split (b sep : List UInt8) (t u : Tok) (hs : sep ≠ []) (hz : ∀ x ∈ splitAt' b sep, x.length ≤ sizeLine) (hn : (splitAt' b sep).length ≤ sizeLine) :
    Meets («bytes.split» ⟨[.bytes b.toArray t, .bytes sep.toArray u], []⟩) (fun _ R s => ∀ (vs : List Value) (k : Nat), vs.length = (splitAt' b sep).length → (∀ (i : Nat) x v, (splitAt' b sep)[i]? = some x → vs[i]? = some v → ∃ t, v = Value.bytes x.toArray t) →
      R (.ok (.ret (.ref s.heap.objs.size))) { s with heap := s.heap.push { cls := .type "list", data := .seq vs.toArray }, toks := k }) := by
  refine .of_wp fun prog w A R s h => ?_
  show wpAny _ _ (Bytes.payload (.bytes b.toArray t) >>= fun r => _) _ _ s
  refine wpAny_bind (wpAny_of_eq (a := b.toArray) rfl ?_)
  show wpAny _ _ (Bytes.bytesLike _ (.bytes sep.toArray u) >>= fun r => _) _ _ s
  refine wpAny_bind (wpAny_of_eq KBd.like_eq ?_)
  have he : ¬ (sep.toArray.isEmpty = true) := by simpa using hs
  refine wp_n he ?_
  by_cases hp : ((Bytes.occurrences b.toArray sep.toArray 0 b.toArray.size).take (b.toArray.size + 1)).isEmpty = true
  · refine wp_p hp ?_
    have e : splitAt' b sep = [b] := by
      unfold splitAt'
      exact if_pos hp
    rw [e] at h
    refine wpAny_bind (wpAny_rule (wpAny_bind (same_bytes ?_)))
    refine wpAny_bind (wpAny_newList (wpAny_pure ⟨_, rfl, ?_⟩) (by rw [sizeLine_eq]; simp))
    exact h [.bytes b.toArray t] s.toks rfl fun i x v a c => by
      cases i with
      | zero => cases a; cases c; exact ⟨_, rfl⟩
      | succ i => simp at a
  · refine wp_n hp ?_
    have e : splitAt' b sep = (Bytes.between b.toArray sep.toArray.size ((Bytes.occurrences b.toArray sep.toArray 0 b.toArray.size).take (b.toArray.size + 1))).map Array.toList := by
      unfold splitAt'
      exact if_neg hp
    rw [e] at h hz hn
    refine wpAny_bind (mapM_bytes _ _ _ (fun x hx => ?_) fun vs k hl hv => ?_)
    · have := hz x.toList (List.mem_map_of_mem hx)
      simpa using this
    · refine wpAny_bind (wpAny_newList (wpAny_pure (ex1 rfl ?_)) (by refine rwr hl ?_; simpa using hn))
      refine h vs k (by rw [List.length_map]; exact hl) fun i x v a c => ?_
      rw [List.getElem?_map] at a
      obtain ⟨y, hy, rfl⟩ := Option.map_eq_some_iff.mp a
      obtain ⟨t', ht⟩ := hv i y v hy c
      exact ⟨t', by simpa using ht⟩
section
variable {X : Stat} {d : Nat} {σ : Sto}
theorem mth_split : Mth "bytes" "bytes.split" "split" := ⟨FB.plainAttrs_bytes, slot_bytes_split, type_bytes_split⟩
theorem split_b {b sep : List UInt8} (hs : sep ≠ []) (hz : ∀ x ∈ splitAt' b sep, x.length ≤ 16777216) (hn : (splitAt' b sep).length ≤ 16777216) : CallV X d σ (.builtin "bytes.split") [.bytes b, .bytes sep] (.ref σ.length) (σ ++ [.lst ((splitAt' b sep).map .bytes)]) := fun A s ι vs Q E g S R k => by
  obtain ⟨v, u, rfl, R1, R2⟩ := R.two
  obtain ⟨_, rfl⟩ := R1.bytes_inv; obtain ⟨_, rfl⟩ := R2.bytes_inv
  refine call_meets slot_bytes_split (typeIs_bytes _ _ _) entry_bytes_split (args_bytes_split_2 _ _) (meets_split b sep _ _ hs (by refine rwr sizeLine_eq ?_; exact hz) (by refine rwr sizeLine_eq ?_; exact hn)) fun vs j hl hv => ?_
  have R : Reps s.heap ι σ.length ((splitAt' b sep).map .bytes) vs := by
    refine ⟨by rw [List.length_map, hl], fun i p v a c => ?_⟩
    rw [List.getElem?_map] at a
    obtain ⟨y, hy, rfl⟩ := Option.map_eq_some_iff.mp a
    obtain ⟨t', rfl⟩ := hv i y v hy c
    exact .bytes _ _
  have T := Step.pushList (k := 0) S R
  refine k _ _ j _ T ?_
  have : Rep (s.heap.push (listOf vs.toArray 0)) (fun n => if n = σ.length then s.heap.objs.size else ι n) (σ ++ [Cell.lst ((splitAt' b sep).map .bytes)]).length (.ref σ.length) (.ref ((fun n => if n = σ.length then s.heap.objs.size else ι n) σ.length)) := .ref (by simp)
  simpa using this
end
open Builtin
theorem take_eq {id : String} {b : Array UInt8} {t : Tok} : Bytes.takeBufferQuiet? id (.bytes b t) 0 = pure (some (b, none)) := by
  have e : Bytes.takeBuffer? id (.bytes b t) 0 = pure (some (b, none)) := by
    unfold Bytes.takeBuffer?
    refine rwr (KBy.special_eq KBy.look_buffer) ?_; rw [KBy.own_buffer]
    have hb : ((0 : Int) == Bytes.fullReadOnly) = false := by decide +kernel
    simp only [hb, KBy.buffer_eq]
    rfl
  unfold Bytes.takeBufferQuiet?
  refine rwr e ?_
  rfl
theorem letGo_join {M : Model} {A : Around} {E : Value → Shared → Prop} {s : Shared} {keep : List Value} : ∀ (taken : List (Value × Option Value)) {Q : Unit → Shared → Prop}, (∀ x ∈ taken, x.2 = none) → Q () s → wpAny M A (Bytes.joinLetGo taken keep) Q E s
  | [], Q, _, h => by unfold Bytes.joinLetGo; exact wpAny_pure h
  | (x, w) :: r, Q, hn, h => by
    have hw : w = none := hn (x, w) List.mem_cons_self
    subst hw
    unfold Bytes.joinLetGo
    exact wpAny_bind (wpAny_letGo (letGo_join r (fun y hy => hn y (List.mem_cons_of_mem _ hy)) h))
noncomputable def BytesAre (vs : List Value) (bs : List (List UInt8)) : Prop := vs.length = bs.length ∧ ∀ (i : Nat) (b : List UInt8), bs[i]? = some b → ∃ t, vs[i]? = some (Value.bytes b.toArray t)
noncomputable def joinB {α : Type} (sep : List α) : List (List α) → List α
  | [] => []
  | [x] => x
  | x :: y :: r => x ++ sep ++ joinB sep (y :: r)
theorem joined_go (sep : Array UInt8) : ∀ (l : List (Array UInt8)) (k : Nat) (out : Array UInt8), 0 < k → (l.zipIdx k).foldl (fun out (z : Array UInt8 × Nat) => (if z.2 > 0 then out ++ sep else out) ++ z.1) out = out ++ ((l.map fun x => sep.toList ++ x.toList).flatten).toArray
  | [], k, out, _ => rfl
  | x :: l, k, out, hk => by
    rw [List.zipIdx_cons, List.foldl_cons, joined_go sep l (k + 1) _ (by lia)]
    simp only [gt_iff_lt, hk, if_true, List.map_cons, List.flatten_cons]
    apply Array.ext'
    simp [Array.toList_append]
theorem joinB_cons {α : Type} (sep x : List α) : ∀ l : List (List α), joinB sep (x :: l) = x ++ (l.map fun y => sep ++ y).flatten
  | [] => by simp [joinB]
  | y :: l => by
    refine rwr (show joinB sep (x :: y :: l) = x ++ sep ++ joinB sep (y :: l) from rfl) ?_; refine rwr (joinB_cons sep y l) ?_
    simp
theorem joined_eq (sep : List UInt8) (l : List (List UInt8)) : Bytes.joined sep.toArray (l.map List.toArray) = (joinB sep l).toArray := by
  cases l with
  | nil => rfl
  | cons x l =>
    have e : Bytes.joined sep.toArray ((x :: l).map List.toArray) = (((l.map List.toArray).zipIdx 1).foldl (fun out (z : Array UInt8 × Nat) => (if z.2 > 0 then out ++ sep.toArray else out) ++ z.1) x.toArray) := by
      unfold Bytes.joined
      rw [List.map_cons, List.zipIdx_cons, List.foldl_cons]
      simp
    refine rwr e ?_; refine rwr (joined_go _ _ _ _ (by decide)) ?_; rw [joinB_cons]
    apply Array.ext'
    simp [List.map_map, Function.comp_def]
theorem joinB_len {α : Type} (sep : List α) : ∀ l : List (List α), (joinB sep l).length ≤ (l.map List.length).sum + sep.length * l.length
  | [] => by simp [joinB]
  | x :: l => by
    rw [joinB_cons]
    have : ∀ l : List (List α), ((l.map fun y => sep ++ y).flatten).length = (l.map List.length).sum + sep.length * l.length := by
      intro l
      induction l with
      | nil => simp
      | cons y l ih => rw [List.map_cons, List.flatten_cons, List.length_append, ih, List.map_cons, List.sum_cons, List.length_append, List.length_cons, Nat.mul_succ]; lia
    rw [List.length_append, this, List.map_cons, List.sum_cons, List.length_cons, Nat.mul_succ]
    lia
theorem wp_one {M : Model} {A : Around} {Q : PySem.Fin → Shared → Prop} {E : Value → Shared → Prop} {s : Shared} {vs : List Value} {f : Value → Sem PySem.Fin} {g : Array Value → Sem PySem.Fin} (h1 : ∀ x, vs = [x] → wpAny M A (f x) Q E s) (h2 : wpAny M A (g vs.toArray) Q E s) : wpAny M A (Bytes.joinM.match_1 (fun _ => Sem PySem.Fin) vs.toArray f g) Q E s := by
  rcases vs with _ | ⟨v, _ | ⟨u, r⟩⟩
  · exact h2
  · exact h1 v rfl
  · exact h2
theorem meets_join (sep : List UInt8) (t : Tok) (a : Addr) (vs : List Value) (bs : List (List UInt8)) (n : Nat) (hv : BytesAre vs bs) (hz : (bs.map List.length).sum + sep.length * bs.length ≤ sizeLine) :
    Meets («bytes.join» ⟨[.bytes sep.toArray t, .ref a], []⟩) (fun _ R s => s.heap.get? a = some (listOf vs.toArray n) ∧ ∀ t' k, R (.ok (.ret (.bytes (joinB sep bs).toArray t'))) { s with toks := k }) := by
  refine .of_wp fun prog w A R s hS => ?_
  obtain ⟨ho, h⟩ := hS
  have hd : (listOf vs.toArray n).data = .seq vs.toArray n := rfl
  show wpAny _ _ (Bytes.joinItems (.ref a) >>= fun r => _) _ _ s
  refine wpAny_bind ?_
  unfold Bytes.joinItems
  refine wpAny_bind (wpAny_typeOf (Heap.IsList.typeIs (isList_of ho)) ?_)
  refine wp_p (by decide) ?_
  refine wpAny_pure ?_
  refine wpAny_bind (wpAny_seqItems ho hd ?_)
  refine wp_p (by decide) ?_
  refine wp_one (fun x e => ?_) ?_
  · subst e
    match bs, hv.1 with
    | [b], _ =>
      obtain ⟨t', e⟩ := hv.2 0 b rfl
      cases e
      refine wpAny_bind (wpAny_typeOf (typeIs_bytes _ _ _) ?_)
      refine wp_p (by decide) ?_
      exact wpAny_bind (wpAny_rule (wpAny_pure (ex1 rfl (h t' s.toks))))
  · show wpAny _ _ (forIn [:vs.toArray.size] _ _ >>= fun z => _) _ _ s
    refine rwr (Std.Legacy.Range.forIn_eq_forIn_range' _ _ _) ?_
    refine wpAny_bind (wpAny_forIn_list _ (fun rest (z : Array (Array UInt8) × List (Value × Option Value)) s' => ∃ i, i ≤ bs.length ∧ rest = List.range' i (bs.length - i) ∧ s' = s ∧ z.1 = ((bs.take i).map List.toArray).toArray ∧ (∀ x ∈ z.2, x.2 = none ∧ x.1.onHeap = false)) _ ?_ ?_ _ _ ?_)
    · rintro j rest ⟨parts, taken⟩ s' ⟨i, hi, hr, rfl, hp, ht⟩
      have hib : i < bs.length := by
        rcases Nat.lt_or_ge i bs.length with q | q
        · exact q
        · rw [show bs.length - i = 0 by lia] at hr; cases hr
      rw [show bs.length - i = (bs.length - (i + 1)) + 1 by lia, List.range'_succ] at hr
      cases hr
      obtain ⟨t', et⟩ := hv.2 j bs[j] (List.getElem?_eq_getElem hib)
      have eg : vs.toArray.getD j Value.none = .bytes bs[j].toArray t' := by
        rw [Array.getD_eq_getD_getElem?]
        simp [et]
      refine wpAny_bind (wpAny_seqItems ho hd ?_)
      refine wp_n (by
        rw [Bool.or_eq_true, List.any_eq_true]
        rintro (q | ⟨x, hx, q⟩)
        · exact absurd q (by decide)
        · have := (ht x hx).2; rw [q] at this; cases this) ?_
      refine rwr eg ?_
      refine wpAny_bind (wpAny_holding (wpAny_of_eq take_eq ?_))
      refine wpAny_bind (wpAny_seqItems ho hd ?_)
      refine wp_n (by simp) ?_
      refine wpAny_pure (ex1 (p := j + 1) hib ⟨rfl, rfl, ?_, ?_⟩)
      · show parts.push bs[j].toArray = _
        have hp : parts = ((bs.take j).map List.toArray).toArray := hp
        refine rwr hp ?_; refine rwr (List.take_succ_eq_append_getElem hib) ?_
        apply Array.ext'
        simp only [Array.toList_push, List.map_append, List.map_cons, List.map_nil]
      · intro x hx
        rcases List.mem_append.mp hx with q | q
        · exact ht x q
        · refine rwr (List.mem_singleton.mp q) ?_; exact ⟨rfl, rfl⟩
    · rintro ⟨parts, taken⟩ s' ⟨i, hi, hr, rfl, hp, ht⟩
      have hib : i = bs.length := by
        rcases Nat.lt_or_ge i bs.length with q | q
        · rw [show bs.length - i = (bs.length - (i + 1)) + 1 by lia, List.range'_succ] at hr; cases hr
        · lia
      subst hib
      have hp : parts = (bs.map List.toArray).toArray := by rw [List.take_length] at hp; exact hp
      subst hp
      refine wpAny_bind (wpAny_of_eq (a := sep.toArray) rfl ?_)
      have hj : (Bytes.joined sep.toArray (bs.map List.toArray).toArray.toList) = (joinB sep bs).toArray := by
        rw [← joined_eq]
      have hsum : ∀ (l : List (List UInt8)) (k : Nat), (l.map List.toArray).foldl (fun (x1 : Nat) x2 => x1 + x2.size) k = k + (l.map List.length).sum := by
        intro l
        induction l with
        | nil => intro k; simp
        | cons x l ih => intro k; rw [List.map_cons, List.foldl_cons, ih]; simp; lia
      refine wp_n (by
        unfold Bytes.tooLong
        rw [List.foldl_toArray', hsum]
        · simp only [List.size_toArray, List.length_map, decide_eq_true_eq, Nat.not_lt]
          refine Nat.le_trans ?_ hz
          rw [Nat.add_comm]
          refine Nat.add_le_add_left (Nat.mul_le_mul_left _ (Nat.sub_le _ _)) _
        · rfl) ?_
      refine rwr hj ?_
      refine wpAny_bind (wpAny_mkBytes ?_ ?_)
      · refine wpAny_bind (wpAny_holding (wpAny_point (wpAny_bind (letGo_join _ (fun x hx => (ht x hx).1) (wpAny_pure (ex1 rfl (h _ _)))))))
      · rw [List.size_toArray]; exact Nat.le_trans (joinB_len _ _) hz
    · refine (ex1 (p := 0) (Nat.zero_le _) ⟨?_, rfl, rfl, fun x hx => by cases hx⟩)
      simp [hv.1]
section
variable {X : Stat} {d : Nat} {σ : Sto}
theorem mth_join : Mth "bytes" "bytes.join" "join" := ⟨FB.plainAttrs_bytes, slot_bytes_join, type_bytes_join⟩
theorem join_b {sep : List UInt8} {n : Nat} {bs : List (List UInt8)} (hl : σ[n]? = some (.lst (bs.map .bytes))) (hz : (bs.map List.length).sum + sep.length * bs.length ≤ 16777216) : CallV X d σ (.builtin "bytes.join") [.bytes sep, .ref n] (.bytes (joinB sep bs)) σ := fun A s ι vs Q E g S R k => by
  obtain ⟨v, u, rfl, R1, R2⟩ := R.two
  obtain ⟨_, rfl⟩ := R1.bytes_inv
  obtain ⟨rfl, hn⟩ := R2.ref_inv
  · obtain ⟨us, j, e, Rl⟩ := S.lst n _ hl
    have hv : BytesAre us bs := by
      refine ⟨by have := Rl.1; rw [List.length_map] at this; exact this.symm, fun i b hb => ?_⟩
      have hi : i < us.length := by
        have := (List.getElem?_eq_some_iff.mp hb).1
        have h2 := Rl.1
        rw [List.length_map] at h2
        lia
      have := Rl.2 i (.bytes b) us[i] (by rw [List.getElem?_map, hb]; rfl) (List.getElem?_eq_getElem hi)
      rw [List.getElem?_eq_getElem hi]
      generalize us[i] = y at this
      obtain ⟨_, rfl⟩ := this.bytes_inv
      exact ⟨_, rfl⟩
    exact call_meets slot_bytes_join (typeIs_bytes _ _ _) entry_bytes_join (args_bytes_join_2 _ _) (meets_join sep _ _ us bs j hv (by refine rwr sizeLine_eq ?_; exact hz)) ⟨e, fun t' j => k _ s.heap j ι (Step.refl S) (.bytes _ _)⟩
end
section
variable {X : Stat} {d : Nat} {sc : Scope} {m m₁ m₂ : Vm} {σ σ₁ σ₂ σ₃ : Sto} {p q r : PV} {pos : Pos} {B h h' : Heap} {ι ι' : Nat → Addr} {env : Env}
theorem abs_i {a : Int} : CallV X d σ (.builtin "abs") [.int a] (.int (if a < 0 then -a else a)) σ := CallV.tok1 fun A s ι v Q E g S R k => by
  obtain ⟨_, rfl⟩ := R.int_inv; exact call_abs_int fun u tk => k _ _ (.int _ _)
theorem int_i {a : Int} : CallV X d σ (.type "int") [.int a] (.int a) σ := CallV.tok1 fun A s ι v Q E g S R k => by
  obtain ⟨_, rfl⟩ := R.int_inv; exact call_int_int (k _ _ (.int _ _))
theorem chr_i {a : Int} (h0 : 0 ≤ a) (h1 : a ≤ 1114111) : CallV X d σ (.builtin "chr") [.int a] (.str [a.toNat]) σ := CallV.tok1 fun A s ι v Q E g S R k => by
  obtain ⟨_, rfl⟩ := R.int_inv; exact chr_of_range h0 h1 (k _ _ (.str _ _))
theorem ord_s {c : Nat} : CallV X d σ (.builtin "ord") [.str [c]] (.int (c : Int)) σ := CallV.tok1 fun A s ι v Q E g S' R k => by
  obtain ⟨_, rfl⟩ := R.str_inv; exact ord_of_one (x := S [c]) rfl (k _ _ (.int _ _))
theorem CallV.keep2 {f : Value} (h : ∀ (A : Around) (s : Shared) (ι : Nat → Addr) (v u : Value) (Q : Value → Shared → Prop) (E : Value → Shared → Prop), Good d A → SR X.B ι σ s.heap → Rep s.heap ι σ.length p v → Rep s.heap ι σ.length q u →
    (∀ w h' tk, (∀ b o, s.heap.get? b = some o → h'.get? b = some o) → Rep h' ι σ.length r w → Q w { s with heap := h', toks := tk }) → wpAny (model X.prog X.w) A (call f [v, u]) Q E s) : CallV X d σ f [p, q] r σ := fun A s ι vs Q E g S R k => by
  obtain ⟨v, u, rfl, R1, R2⟩ := R.two
  exact h A s ι v u Q E g S R1 R2 fun w h' tk kp R' => k w h' tk ι (step_keep S kp) R'
theorem max_ii {a b : Int} : CallV X d σ (.builtin "max") [.int a, .int b] (.int (if b > a then b else a)) σ := CallV.keep2 fun A s ι v u Q E g S R R' k => by
  obtain ⟨_, rfl⟩ := R.int_inv; cases R'
  have gh := g.1
  refine max_two_ints gh fun h' tk hk => ?_
  by_cases c : b > a
  · simp only [if_pos c] at k ⊢; exact k _ h' tk hk (.int _ _)
  · simp only [if_neg c] at k ⊢; exact k _ h' tk hk (.int _ _)
theorem allInts_of {vs : List Value} {ns : List Int} (h : IntsAre vs ns) : ∃ xs : Array (Int × Tok), vs.toArray = intItems xs ∧ xs.toList.map (·.1) = ns := by
  obtain ⟨xs, e⟩ := h.allInts.items
  refine ⟨xs, e, ?_⟩
  have := h.numsOf
  have e2 : vs = (intItems xs).toList := by rw [← e]
  rw [e2, nums_intItems] at this
  exact this
theorem sum_l {n : Nat} {ns : List Int} (hl : σ[n]? = some (.lst (ns.map .int))) : CallV X d σ (.builtin "sum") [.ref n] (.int ns.sum) σ := CallV.keep1 fun A s ι v Q E g S R k => by
  obtain ⟨rfl, hn⟩ := R.ref_inv
  · obtain ⟨vs, kk, e, R⟩ := S.lst n _ hl
    have gh := g.1
    obtain ⟨xs, e2, e3⟩ := allInts_of (intsAre_of R)
    have hL : s.heap.IsList (ι n) (intItems xs) := e2 ▸ isList_of e
    refine sum_intListG gh hL fun h' tk t' hk => ?_
    rw [preSum_eq, List.take_of_length_le (by simp), e3]
    exact k _ h' tk hk (.int _ _)
theorem max_l {n : Nat} {ns : List Int} {M : Int} (hl : σ[n]? = some (.lst (ns.map .int))) (hM : M ∈ ns) (hm : ∀ a ∈ ns, a ≤ M) : CallV X d σ (.builtin "max") [.ref n] (.int M) σ := CallV.keep1 fun A s ι v Q E g S R k => by
  obtain ⟨rfl, hn⟩ := R.ref_inv
  · obtain ⟨vs, kk, e, R⟩ := S.lst n _ hl
    have gh := g.1
    obtain ⟨xs, e2, e3⟩ := allInts_of (intsAre_of R)
    have hL : s.heap.IsList (ι n) (intItems xs) := e2 ▸ isList_of e
    have hsz : 0 < xs.size := by
      have := List.length_pos_of_mem hM
      rw [← e3, List.length_map, Array.length_toList] at this; exact this
    refine max_intList gh hL hsz fun v h' tk hv hk => ?_
    obtain ⟨t, rfl⟩ := intItems_at hv
    obtain ⟨h1, h2⟩ := argBest_gt (numAt xs) (xs.size - 1)
    have key : numAt xs (argBest (fun i j => decide (numAt xs i > numAt xs j)) (xs.size - 1)) = M := by
      have mem : ∀ i, i < xs.size → numAt xs i ∈ ns := fun i hi => by
        rw [← e3, numAt_eq]
        rw [List.getD_eq_getElem?_getD, List.getElem?_eq_getElem (by simpa using hi)]
        exact List.getElem_mem _
      obtain ⟨j, hj⟩ := List.mem_iff_getElem?.mp hM
      have hj' : j < xs.size := by
        have := (List.getElem?_eq_some_iff.mp hj).1
        rw [← e3, List.length_map, Array.length_toList] at this; exact this
      have e4 : numAt xs j = M := by
        rw [numAt_eq, e3, List.getD_eq_getElem?_getD, hj]; rfl
      have h3 := h2 j (by lia)
      have h4 := hm _ (mem _ (Nat.lt_of_le_of_lt h1 (by lia)))
      rw [e4] at h3
      exact Int.le_antisymm h4 h3
    refine rwr key ?_
    exact k _ h' tk hk (.int _ _)
end
section
variable {X : Stat} {d : Nat} {sc : Scope} {m m₁ m₂ : Vm} {σ σ₁ σ₂ σ₃ : Sto} {p q r : PV} {pos : Pos} {B h h' : Heap} {ι ι' : Nat → Addr} {env : Env}
theorem pushL {l : List PV} {vs : List Value} (S : SR B ι σ h) (R : Reps h ι σ.length l vs) (k : Nat) :
    ∃ ι', Step B ι σ h ι' (σ ++ [.lst l]) (h.push (listOf vs.toArray k)) ∧ Rep (h.push (listOf vs.toArray k)) ι' (σ ++ [Cell.lst l]).length (.ref σ.length) (.ref h.objs.size) := by
  refine (ex1 (Step.pushList S R) ?_)
  have := Rep.ref (h := h.push (listOf vs.toArray k)) (ι := fun i => if i = σ.length then h.objs.size else ι i) (k := (σ ++ [Cell.lst l]).length) (n := σ.length) (by simp)
  simpa using this
theorem add_ll {n j : Nat} {l l' : List PV} (hl : σ[n]? = some (.lst l)) (hl' : σ[j]? = some (.lst l')) (hz : l.length + l'.length ≤ 16777216) : Op2 X d σ (binaryOp .Add) (.ref n) (.ref j) (.ref σ.length) (σ ++ [.lst (l ++ l')]) := fun A s ι v u Q E g S R R' k => by
  obtain ⟨rfl, _⟩ := R.ref_inv; cases R'
  obtain ⟨vs, kk, e, R1⟩ := S.lst n l hl
  obtain ⟨ws, kk', e', R2⟩ := S.lst j l' hl'
  obtain ⟨ι', T, R3⟩ := pushL S (R1.app R2) 0
  have e3 : vs.toArray ++ ws.toArray = (vs ++ ws).toArray := by simp
  refine concat_meets (ex1 e rfl) (ex1 e' rfl) noFill_list_add seq_list_add PySem.F.slot_list_add PySem.F.entry_list_add (PySem.F.args_list_add_2 _ _) (list_addW (ι n) (ι j) vs.toArray ws.toArray kk kk' none none _ _ (by rw [sizeLine_eq]; simp [← R1.1, ← R2.1]; exact hz)) ⟨e, e', ?_⟩
  refine rwr e3 ?_
  exact k _ _ s.toks ι' T R3
theorem mul_li {n : Nat} {l : List PV} {c : Int} (hl : σ[n]? = some (.lst l)) (h0 : 0 ≤ c) (h1 : c ≤ 1024) (hz : l.length ≤ 1024) : Op2 X d σ (binaryOp .Mult) (.ref n) (.int c) (.ref σ.length) (σ ++ [.lst (List.replicate c.toNat l).flatten]) := fun A s ι v u Q E g S R R' k => by
  obtain ⟨rfl, _⟩ := R.ref_inv
  cases R' with
  | int _ t =>
  obtain ⟨vs, kk, e, R1⟩ := S.lst n l hl
  have rep : ∀ c : Nat, Reps s.heap ι σ.length (List.replicate c l).flatten (List.replicate c vs).flatten := fun c => by
    induction c with
    | zero => exact .nil
    | succ c ih => rw [List.replicate_succ, List.replicate_succ, List.flatten_cons, List.flatten_cons]; exact R1.app ih
  obtain ⟨ι', T, R3⟩ := pushL S (rep c.toNat) 0
  have fold : ∀ (c : Nat) (a : Array Value), List.foldl (fun x1 x2 => x1 ++ x2) a (List.replicate c vs.toArray) = a ++ (List.replicate c vs).flatten.toArray := fun c => by
    induction c with
    | zero => intro a; simp
    | succ c ih => intro a; rw [List.replicate_succ, List.foldl_cons, ih]; simp [List.replicate_succ]
  have e3 : List.foldl (fun x1 x2 => x1 ++ x2) #[] (List.replicate (if vs.toArray.isEmpty = true then 0 else c.toNat) vs.toArray) = (List.replicate c.toNat vs).flatten.toArray := by
    rw [fold]
    split
    · rename_i hemp
      have : vs = [] := by simpa using hemp
      subst this
      simp
    · simp
  have hv : vs.length ≤ 1024 := by rw [← R1.1]; exact hz
  have hm : vs.toArray.size * c.toNat ≤ 2 ^ 24 := by
    have : vs.toArray.size * c.toNat ≤ 1024 * 1024 := Nat.mul_le_mul (by simpa using hv) (by lia)
    lia
  refine wpAny_binaryOp_repeat_ref (T := "list") (U := "int") (by decide) ⟨_, e, rfl⟩ (fun s' => typeIs_int s' c t) noFill_list_mul F.fills_int_mul F.slot_int_rmul repeat_list F.slot_int_index.lookup
    (call_meets F.slot_int_rmul (typeIs_int s c t) F.entry_int_rmul (F.args_int_rmul_2 _ _) (int___rmul___int_list c t (ι n) vs.toArray kk)
      ⟨e, rfl, ⟨_, e, rfl⟩, call_meets F.slot_list_mul ⟨_, e, rfl⟩ F.entry_list_mul (F.args_list_mul_2 _ _)
        (AutoListH.list___mul___list_int_3 (ι n) vs.toArray kk c t (by simp [Builtin.List.listFitsIndex]; lia) (by lia) (by simp only [Builtin.List.listTooLong, sizeLine_eq, decide_eq_true_eq]; lia))
        ⟨e, ?_⟩⟩)
  refine rwr e3 ?_
  exact k _ _ s.toks ι' T R3
theorem eq_l0 {n j : Nat} {l : List PV} (hl : σ[n]? = some (.lst l)) (hj : σ[j]? = some (.lst [])) : Op2 X d σ (compareOp .Eq) (.ref n) (.ref j) (.bool l.isEmpty) σ := fun A s ι v u Q E g S R R' k => by
  obtain ⟨rfl, _⟩ := R.ref_inv; cases R'
  obtain ⟨vs, kk, e, R1⟩ := S.lst n l hl
  obtain ⟨ws, kk', e', R2⟩ := S.lst j [] hj
  have : ws = [] := R2.of_nil
  subst this
  have hu : A.units < cLine := by have := g.2.2; lia
  cases l with
  | nil =>
    have : vs = [] := R1.of_nil
    subst this
    refine PySem.SeqAt.eq_listAt (e := fun _ => true) (isList_of e) (isList_of e') rfl hu (fun j h1 _ => by simp at h1) ?_
    exact k _ s.heap s.toks ι (Step.refl S) (.bool _)
  | cons a l =>
    obtain ⟨v, us, rfl, _, _⟩ := R1.uncons
    exact PySem.SeqAt.eq_list_lengthsAt (isList_of e) (isList_of e') (by simp) hu (k _ s.heap s.toks ι (Step.refl S) (.bool _))
theorem in_ti {l : List Int} {a : Int} : Op2 X d σ (compareOp .In) (.int a) (.tup (l.map .int)) (.bool (l.any (· == a))) σ := Op2.tok fun A s ι v u Q E g S R R' k => by
  cases R
  cases R' with
  | tup ht hl hr =>
    exact in_tuple_ints (show IsTup _ _ _ from ht) (intsAre_of ⟨hl, hr⟩) (k _ _ (.bool _))
theorem nin_ti {l : List Int} {a : Int} : Op2 X d σ (compareOp .NotIn) (.int a) (.tup (l.map .int)) (.bool (!(l.any (· == a)))) σ := Op2.tok fun A s ι v u Q E g S R R' k => by
  cases R
  cases R' with
  | tup ht hl hr =>
    exact notin_tuple_ints (show IsTup _ _ _ from ht) (intsAre_of ⟨hl, hr⟩) (k _ _ (.bool _))
theorem item_t {value slice : Expr} {l : List PV} {i : Int} (hp : Plain slice) (h0 : 0 ≤ i) (hc : l[i.toNat]? = some p) (hz : l.length ≤ 1099511627776) : Op2 X d σ (subscriptTail value slice) (.tup l) (.int i) p σ := Op2.tok fun A s ι v u Q E g S R R' k => by
  cases R' with
  | int _ t' =>
  obtain ⟨a, vs, rfl, ht, hl, hr⟩ := R.tup_inv
  · have hil : i.toNat < l.length := (List.getElem?_eq_some_iff.mp hc).1
    have hiv : i.toNat < vs.length := hl ▸ hil
    refine item_tupleT (x := vs[i.toNat]) (show IsTup _ _ _ from ht) (by lia) (by lia) (j := i.toNat) ?_ (by simp [hiv]) (k _ _ (hr _ _ _ hc (by simp [hiv]))) (hp _ _)
    have h3 : ¬ i < 0 := by lia
    have h4 : i < (vs.length : Int) := by lia
    simp [seqIndex?, h3, h0, h4]
theorem item_l' {value slice : Expr} {n : Nat} {l : List PV} {i : Int} (hp : Plain slice) (hl : σ[n]? = some (.lst l)) (h0 : 0 ≤ i) (hc : l[i.toNat]? = some p) (hz : l.length ≤ 1099511627776) : Op2 X d σ (subscriptTail value slice) (.ref n) (.int i) p σ := Op2.tok fun A s ι v u Q E g S R R' k => by
  obtain ⟨rfl, hn⟩ := R.ref_inv
  · cases R'
    obtain ⟨vs, kk, e, Rl⟩ := S.lst n l hl
    have hil : i.toNat < l.length := (List.getElem?_eq_some_iff.mp hc).1
    have hiv : i.toNat < vs.length := Rl.1 ▸ hil
    have fin := k vs[i.toNat] s.toks (Rl.2 _ _ _ hc (by simp [hiv]))
    exact tail_any (Heap.IsList.typeIs (isList_of e)) list_getitem_lookup (wpAny_getItem_list (isList_of e) h0 (by lia) (x := vs[i.toNat]) (by simp [hiv]) fin) (hp _ _)
end
section
variable {X : Stat} {d : Nat} {sc : Scope} {m m₁ m₂ : Vm} {σ σ₁ σ₂ σ₃ : Sto} {p q r : PV} {pos : Pos} {B h h' : Heap} {ι ι' : Nat → Addr} {env : Env}
theorem signAt_rep {l : List Nat} {j : Nat} {v : Value} {p : PV} (hv : SignAt (S l) (0 + j) v) (hp : (l.map fun c => PV.str [c])[j]? = some p) (h : Heap) (ι : Nat → Addr) (k : Nat) : Rep h ι k p v := by
  obtain ⟨c, u, hc, rfl⟩ := hv
  rw [List.getElem?_map] at hp
  obtain ⟨c', hc', rfl⟩ := Option.map_eq_some_iff.mp hp
  have : c = c' := by
    rw [Nat.zero_add] at hc
    have e : l[j]? = some c := by simpa [S] using hc
    rw [hc'] at e
    exact (Option.some.inj e).symm
  subst this
  exact .str _ _
theorem iter_str {l : List Nat} : IterV X d σ (.str l) (.fix (l.map fun c => .str [c])) := by
  intro A env m s ι v Q E g S' V R k
  obtain ⟨t, rfl⟩ := R.str_inv
  · cases ha : (S l).cps.all (· < 128)
    · refine wpAny_pyIter_wide ha (k _ [s.heap.objs.size] [s.heap.objs.size] _ s.toks (Step.push S' _) (fun x hx => by rw [List.mem_singleton.mp hx]; exact none_at) (new_it S' V (by intro h; cases h) ?_ trivial))
      refine ⟨(S l).cps.size, 0, _, _, fun A hh => Walks.strWide hh _ (S l) t, (ex1 get_push ⟨rfl, rfl⟩), by simp [S], fun j h st x hx => ?_, fun j v p hv hp h ι k => signAt_rep hv hp h ι k⟩
      obtain ⟨o, e, hc, _⟩ := st
      rw [List.mem_singleton.mp hx]
      exact ⟨o, _, e, hc, by decide, by decide⟩
    · refine wpAny_pyIter_ascii ha (k _ [s.heap.objs.size] [s.heap.objs.size] _ s.toks (Step.push S' _) (fun x hx => by rw [List.mem_singleton.mp hx]; exact none_at) (new_it S' V (by intro h; cases h) ?_ trivial))
      refine ⟨(S l).cps.size, 0, _, _, fun A hh => Walks.strAscii hh _ (S l) t, (ex1 get_push ⟨rfl, rfl⟩), by simp [S], fun j h st x hx => ?_, fun j v p hv hp h ι k => signAt_rep hv hp h ι k⟩
      obtain ⟨o, e, hc, _⟩ := st
      rw [List.mem_singleton.mp hx]
      exact ⟨o, _, e, hc, by decide, by decide⟩
inductive Flat : PV → Prop
  | int (i : Int) : Flat (.int i)
  | str (x : List Nat) : Flat (.str x)
theorem Flat.rep {v : Value} {k k' : Nat} (f : Flat p) (R : Rep h ι k p v) : Rep h' ι' k' p v := by
  cases f <;> cases R <;> constructor
theorem iter_tup {l : List PV} (hf : ∀ p ∈ l, Flat p) : IterV X d σ (.tup l) (.fix l) := by
  intro A env m s ι v Q E g S V R k
  obtain ⟨a, vs, rfl, ht, hl, hr⟩ := R.tup_inv
  · have hne : a ≠ s.heap.objs.size := fun e => by
      obtain ⟨o, ho, _⟩ := ht
      rw [e, none_at] at ho
      exact nn ho
    refine wpAny_pyIter_tuple ht (k _ [s.heap.objs.size, a] [s.heap.objs.size] _ s.toks (Step.push S _) (fun x hx => by refine rwr (List.mem_singleton.mp hx) ?_; exact none_at) ⟨fun b hb => by refine rwr (List.mem_singleton.mp hb) ?_; exact List.mem_cons_self, ?_, ?_, ?_, trivial⟩)
    · refine ⟨vs.toArray.size, 0, _, _, fun A hh => Walks.tuple hh _ a hne vs.toArray, ⟨(ex1 get_push ⟨rfl, rfl⟩), ht.push _⟩, by simp [hl], fun j h st x hx => ?_, fun j v p hv hp h' ι' k' => ?_⟩
      · obtain ⟨⟨o, e, hc, _⟩, _⟩ := st
        refine rwr (List.mem_singleton.mp hx) ?_
        exact (ex2 (p := o) (s := _) e ⟨hc, by decide, by decide⟩)
      · exact (hf p (List.mem_of_getElem? hp)).rep (hr j p v hp (by simpa using hv))
    · intro b hb
      rcases List.mem_cons.mp hb with e | e
      · subst e
        refine ⟨fun n hn e => ?_, fun _ => ?_, ⟨_, get_push⟩⟩
        · obtain ⟨ob, e1⟩ := S.live_at hn
          rw [e, none_at] at e1
          exact nn e1
        · cases e : X.B.get? s.heap.objs.size with
          | none => rfl
          | some o' => have := S.base _ _ e; rw [none_at] at this; exact nn this
      · refine rwr (List.mem_singleton.mp e) ?_
        refine ⟨fun n hn q => (S.soft_at hn).1 vs (q ▸ ht), fun q => absurd (List.mem_singleton.mp q) hne, ?_⟩
        obtain ⟨o, ho, _⟩ := ht
        exact ⟨o, Heap.get?_push_of_some _ ho⟩
    · intro b hb q
      rcases List.mem_cons.mp hb with e | e
      · obtain ⟨o', e1⟩ := V.live _ q
        rw [e, none_at] at e1
        exact nn e1
      · rw [List.mem_singleton.mp e] at q
        exact (V.soft a q).1 vs ht
theorem item_s {value slice : Expr} {l : List Nat} {i : Int} {c : Nat} (hp : Plain slice) (h0 : 0 ≤ i) (hc : l[i.toNat]? = some c) (hz : l.length ≤ 16777216) : Op2 X d σ (subscriptTail value slice) (.str l) (.int i) (.str [c]) σ := Op2.tok fun A s ι v u Q E g S' R R' k => by
  obtain ⟨t, rfl⟩ := R.str_inv
  · cases R' with
    | int _ t' =>
      have hl : i.toNat < l.length := (List.getElem?_eq_some_iff.mp hc).1
      have e : Txt.item (S l) i = S [c] := by
        unfold Txt.item Txt.charAt
        have h3 : ¬ i < 0 := by lia
        have h4 : i < (((S l).length : Nat) : Int) := by rw [S_len]; lia
        have h5 : (S l).cps[i.toNat]? = some c := by simpa [S] using hc
        have h6 : seqIndex? i (S l).length = some i.toNat := by simp [seqIndex?, h3, h0, h4]
        refine rwr h6 ?_
        show (⟨#[((S l).cps[i.toNat]?).getD 0]⟩ : Str) = _
        refine rwr h5 ?_; rfl
      refine item_str (x := S l) (by simp [fitsSsize]; lia) (by rw [S_len]; lia) (by rw [S_len]; lia) (fun _ => ?_) (hp _ _) (tmp_str value _ _)
      refine rwr e ?_
      exact k _ _ (.str _ _)
theorem slc_s {value : Expr} {l : List Nat} {j : Int} (h0 : 0 ≤ j) (hz : l.length ≤ 16777216) : Slc X d σ value (.str l) none (some j) (.str (l.take j.toNat)) σ := by
  intro A s ι slice v lo u Q E g S' R P1 P2 hs k
  obtain ⟨t, rfl⟩ := R.str_inv
  · cases P1
    cases P2 with
    | int _ uj =>
    have e : Txt.slice (S l) none (some j) = S (l.take j.toNat) := by
      unfold Txt.slice
      have hlen : (S l).length = l.length := S_len l
      have e1 : Builtin.Str.strSliceIndices none (some j) 1 (S l).length = (List.range (min j.toNat l.length)).map (0 + ·) := by
        refine rwr hlen ?_
        unfold Builtin.Str.strSliceIndices
        simp only [show (1 : Int) > 0 by decide, if_true, if_neg (show ¬ j < 0 by lia)]
        have := sliceRange_one 0 (min j.toNat l.length)
        rw [Nat.sub_zero] at this
        refine rwr (this).symm ?_
        congr 1
        lia
      have e2 : l.take (min j.toNat l.length) = l.take j.toNat := by
        rcases Nat.le_total j.toNat l.length with h | h
        · rw [Nat.min_eq_left h]
        · rw [Nat.min_eq_right h, List.take_length, List.take_of_length_le h]
      refine rwr e1 ?_
      split
      · rename_i hc
        simp only [List.length_map, List.length_range, hlen, Bool.and_eq_true, beq_iff_eq] at hc
        rw [List.take_of_length_le (by lia)]
      · rw [pick_run (S l).cps 0]
        simp only [S, List.drop_zero]
        rw [e2]
    refine tail_of_ItemOn (ex2 (p := "str") (s := _) F.slot_str_getitem.lookup ⟨typeIs_str _ _ _, wpAny_getItem_str_slice (l := none) (u := some (j, uj)) (st := none) (ex1 (Heap.get?_push_size _ rfl) ⟨rfl, rfl⟩) rfl
      (post_val_or_str ⟨Nat.le_trans (Txt.slice_le (S l) none (some j)) (by refine rwr sizeLine_eq ?_; rw [S_len]; exact hz), fun t' tk => ?_⟩)⟩) (hs _ _) (tmp_str _ _ _)
    have := k (.str (Txt.slice (S l) none (some j)) t') _ tk ι (Step.push S' { cls := .type "slice", data := .fields #[.none, .int j uj, .none] }) (by refine rwr e ?_; exact .str _ _)
    exact this
end
section
variable {X : Stat} {d : Nat} {sc : Scope} {m m₁ m₂ : Vm} {σ σ₁ σ₂ σ₃ : Sto} {p q r : PV} {pos : Pos} {B h h' : Heap} {ι ι' : Nat → Addr} {env : Env}
theorem mul_s {l : List Nat} {c : Int} (h0 : 0 ≤ c) (h1 : c ≤ 1024) (hz : l.length ≤ 1024) : Op2 X d σ (binaryOp .Mult) (.str l) (.int c) (.str (List.replicate c.toNat l).flatten) σ := Op2.tok fun A s ι v u Q E g S' R R' k => by
  obtain ⟨_, rfl⟩ := R.str_inv; cases R'
  have e : Txt.mul (S l) c = S (List.replicate c.toNat l).flatten := by
    unfold Txt.mul
    by_cases hc : c < 1
    · rw [if_pos hc, show c.toNat = 0 by lia]; rfl
    · rw [if_neg hc]
      have fold : ∀ (n : Nat) (a : Array Nat), List.foldl (· ++ ·) a (List.replicate n (S l).cps) = a ++ (List.replicate n l).flatten.toArray := fun n => by
        induction n with
        | zero => intro a; simp
        | succ n ih => intro a; rw [List.replicate_succ, List.foldl_cons, ih]; simp [List.replicate_succ, S]
      split
      · rename_i hh
        rw [Bool.or_eq_true, beq_iff_eq, beq_iff_eq] at hh
        rcases hh with hh | hh
        · subst hh; simp
        · rw [S_len] at hh
          have : l = [] := List.length_eq_zero_iff.mp hh
          subst this; simp
      · rw [fold]; simp [S]
  have hm : (S l).length * c.toNat ≤ 1024 * 1024 := Nat.mul_le_mul (by rw [S_len]; exact hz) (by lia)
  refine SB.mul ⟨by simp; lia, fun hn _ => ?_, fun _ _ => by simp only [Builtin.Str.tooLong, sizeLine_eq, decide_eq_false_iff_not]; lia⟩ fun t' tk => ?_
  · have : (1024 : Int) ≤ (2 ^ 63 - 1) / c := by
      rw [Int.le_ediv_iff_mul_le (by lia)]; lia
    rw [S_len]; lia
  · refine rwr e ?_; exact k _ _ (.str _ _)
theorem strs_of {h : Heap} {ι : Nat → Addr} {k : Nat} : ∀ {ls : List (List Nat)} {vs : List Value}, Reps h ι k (ls.map .str) vs → ∃ l : List (Str × Tok), vs = strValues l ∧ l.map (·.1) = ls.map S
  | [], vs, R => ⟨[], by rw [R.of_nil]; rfl, rfl⟩
  | a :: ls, vs, R => by
    obtain ⟨v, us, rfl, R1, R2⟩ := R.uncons
    obtain ⟨l, rfl, e⟩ := strs_of R2
    obtain ⟨t, rfl⟩ := R1.str_inv
    exact ⟨(S a, t) :: l, rfl, by simp [e]⟩
theorem join_S (sep : List Nat) (ls : List (List Nat)) : Txt.join (S sep) (ls.map S) = S (joinB sep ls) := by
  unfold Txt.join Builtin.Str.glued
  cases ls with
  | nil => rfl
  | cons x r =>
    rw [joinB_cons]
    have fold : ∀ (r : List (List Nat)) (a : Array Nat), List.foldl (fun acc (p : Str) => acc ++ (S sep).cps ++ p.cps) a (r.map S) = a ++ ((r.map fun y => sep ++ y).flatten).toArray := fun r => by
      induction r with
      | nil => intro a; simp
      | cons y r ih => intro a; rw [List.map_cons, List.foldl_cons, ih]; simp [S]
    simp only [List.map_cons, List.drop_succ_cons, List.drop_zero, List.headD_cons]
    rw [fold]
    simp [S]
theorem joinOk_S (sep : List Nat) (ls : List (List Nat)) (hz : (ls.map List.length).sum + sep.length * ls.length ≤ 16777216) : JoinOk (S sep) (ls.map S) = true := by
  unfold JoinOk
  have fold : ∀ (r : List (List Nat)) (a : Nat), List.foldl (fun acc (p : Str) => acc + p.length + (S sep).length) a (r.map S) = a + (r.map List.length).sum + sep.length * r.length := fun r => by
    induction r with
    | nil => intro a; simp
    | cons y r ih => intro a; rw [List.map_cons, List.foldl_cons, ih, S_len, S_len, List.map_cons, List.sum_cons, List.length_cons, Nat.mul_succ]; lia
  have : ((ls.map S).toArray.foldl (· + ·.length + (S sep).length) 0) = 0 + (ls.map List.length).sum + sep.length * ls.length := by
    rw [List.foldl_toArray]; exact fold ls 0
  refine rwr this ?_
  simp only [Builtin.Str.tooLong, sizeLine_eq, Bool.not_eq_true', decide_eq_false_iff_not]
  lia
theorem join_s {sep : List Nat} {n : Nat} {ls : List (List Nat)} (hl : σ[n]? = some (.lst (ls.map .str))) (hz : (ls.map List.length).sum + sep.length * ls.length ≤ 16777216) : CallV X d σ (.builtin "str.join") [.str sep, .ref n] (.str (joinB sep ls)) σ := fun A s ι vs Q E g S' R k => by
  obtain ⟨v, u, rfl, R1, R2⟩ := R.two
  obtain ⟨_, rfl⟩ := R1.str_inv; obtain ⟨rfl, _⟩ := R2.ref_inv
  obtain ⟨ws, kk, e, R3⟩ := S'.lst n _ hl
  obtain ⟨l, rfl, e2⟩ := strs_of R3
  refine SC.join (isList_of e) e2 (joinOk_S sep ls hz) fun t' tk => ?_
  rw [join_S]
  exact k _ s.heap tk ι (Step.refl S') (.str _ _)
theorem mth_sjoin : Mth "str" "str.join" "join" := ⟨F.plainAttrs_str, F.slot_str_join, F.type_str_join⟩
theorem isT_str {x : List Nat} : ∀ (s : Shared) (ι : Nat → Addr) (v : Value), SR X.B ι σ s.heap → Rep s.heap ι σ.length (.str x) v → s.TypeIs v "str" ∧ ∀ a, v = .ref a → ∃ ob, s.heap.get? a = some ob ∧ ob.dict = none := fun s ι v S R => by
  obtain ⟨_, rfl⟩ := R.str_inv; exact ⟨typeIs_str _ _ _, fun a e => nomatch e⟩
end
open Builtin Builtin._codecs
theorem encodeRoad_ascii (id : String) (self : Value) (x : Str) (errors : Option Str) : encodeRoad id self x (Str.ofString "ascii") errors = (do mkBytes (← encodeNarrow id asciiCodec errors self x)) := by
  first | rfl | (unfold encodeRoad; rfl) | (unfold encodeRoad; simp only []; rfl) | decide
theorem foldl_bytes : ∀ (l : List Nat) (a : Array UInt8), l.foldl (fun acc y => acc ++ (asciiCodec.bytesOf y).toArray) a = a ++ (l.map (·.toUInt8)).toArray
  | [], a => rfl
  | c :: l, a => by rw [List.foldl_cons, foldl_bytes l]; simp [asciiCodec]
theorem none_bad {l : List Nat} (ha : ∀ c ∈ l, c < 128) : Array.findIdx? asciiCodec.bad ((S l).cps.extract 0) = none := by
  rw [Array.findIdx?_eq_none_iff]
  intro y hy
  have := ha y (by simpa [S] using hy)
  simp only [asciiCodec, decide_eq_false_iff_not]; lia
theorem all_out (l : List Nat) : Array.foldl (fun acc y => acc ++ (asciiCodec.bytesOf y).toArray) #[] (((S l).cps.extract 0).extract 0 ((S l).cps.extract 0).size) = (l.map (·.toUInt8)).toArray := by
  rw [← Array.foldl_toList, foldl_bytes]
  simp [S]
theorem narrow {M : Model} {A : Around} {E : Value → Shared → Prop} {s : Shared} {Q : Array UInt8 → Shared → Prop} {id : String} {self : Value} {l : List Nat} (ha : ∀ c ∈ l, c < 128) (hz : l.length ≤ sizeLine) (h : Q (l.map (·.toUInt8)).toArray s) :
    wpAny M A (encodeNarrow id asciiCodec none self (S l)) Q E s := by
  unfold encodeNarrow
  dsimp only
  refine rwr (Std.Legacy.Range.forIn_eq_forIn_range' _ _ _) ?_
  refine wpAny_bind (wpAny_mono (wpAny_forIn_list _ (fun rest (b : Nat × Array UInt8 × Faults) s' => s' = s ∧ ((b.1 = 0 ∧ b.2.1 = #[] ∧ rest.length = l.length) ∨ (b.1 = l.length ∧ b.2.1 = (l.map (·.toUInt8)).toArray))) (fun b s' => s' = s ∧ b.2.1 = (l.map (·.toUInt8)).toArray) ?_ ?_ _ _ ⟨rfl, .inl ⟨rfl, rfl, ?_⟩⟩) (fun b s' hb => ?_) fun _ _ e => e)
  · rintro x rest ⟨i, out, st⟩ s' ⟨rfl, hb⟩
    have hout : ¬ out.size > sizeLine := by
      rcases hb with ⟨_, h2, _⟩ | ⟨_, h2⟩
      · rw [show out = _ from h2]; exact Nat.not_lt_zero _
      · rw [show out = _ from h2]; simpa using hz
    refine wp_n hout ?_
    clear hout
    rcases hb with ⟨h1, h2, h3⟩ | ⟨h1, h2⟩
    · cases l with
      | nil => cases h3
      | cons c l =>
        have h1 : i = 0 := h1
        have h2 : out = #[] := h2
        subst h1 h2
        refine wp_p (show (!asciiCodec.bad c) = true by
          have := ha c List.mem_cons_self
          simp only [asciiCodec, Bool.not_eq_true', decide_eq_false_iff_not]; lia) ?_
        refine wpAny_pure ⟨rfl, .inr ?_⟩
        refine rwr (none_bad ha) ?_
        exact ⟨by simp [S], all_out (c :: l)⟩
    · have h1 : i = l.length := h1
      subst h1
      refine rwr (show ((S l).cps[l.length]?) = none by simp [S]) ?_
      exact wpAny_pure ⟨rfl, h2⟩
  · rintro ⟨i, out, st⟩ s' ⟨rfl, hb⟩
    refine ⟨rfl, ?_⟩
    rcases hb with ⟨_, h2, h3⟩ | ⟨_, h2⟩
    · have : l = [] := List.length_eq_zero_iff.mp h3.symm
      subst this
      exact h2
    · exact h2
  · simp [S_len, Std.Legacy.Range.size]
  · obtain ⟨rfl, e⟩ := hb
    refine wpAny_pure ?_
    rw [e]; exact h
open Builtin Builtin._codecs
theorem encode_ascii_tree (x : Str) (t u : Tok) : Builtin.«str.encode» ⟨[.str x t, .str (Str.ofString "ascii") u], []⟩ = (do ret (← encodeRoad "str.encode" (.str x t) x (Str.ofString "ascii") none)) := by kernel_rfl
section
variable {X : Stat} {d : Nat} {sc : Scope} {m m₁ m₂ : Vm} {σ σ₁ σ₂ σ₃ : Sto} {p q r : PV} {pos : Pos} {B h h' : Heap} {ι ι' : Nat → Addr} {env : Env}
theorem meets_encode (l : List Nat) (t u : Tok) (ha : ∀ c ∈ l, c < 128) (hz : l.length ≤ sizeLine) : Meets (Builtin.«str.encode» ⟨[.str (S l) t, .str (Str.ofString "ascii") u], []⟩) (fun _ R s => ∀ t' k, R (.ok (.ret (.bytes (l.map (·.toUInt8)).toArray t'))) { s with toks := k }) := by
  refine .of_wp fun prog w A R s h => ?_
  rw [encode_ascii_tree, encodeRoad_ascii]
  refine wpAny_bind (wpAny_bind (narrow ha hz (wpAny_mkBytes (wpAny_pure ⟨_, rfl, h _ _⟩) ?_)))
  simpa using hz
theorem encode_s {l : List Nat} (ha : ∀ c ∈ l, c < 128) (hz : l.length ≤ 16777216) : CallV X d σ (.builtin "str.encode") [.str l, .str [97, 115, 99, 105, 105]] (.bytes (l.map (·.toUInt8))) σ := fun A s ι vs Q E g S' R k => by
  obtain ⟨v, u, rfl, R1, R2⟩ := R.two
  cases R1; cases R2
  exact call_meets F.slot_str_encode (typeIs_str _ _ _) F.entry_str_encode (F.args_str_encode_2 _ _) (meets_encode l _ _ ha (by rw [sizeLine_eq]; exact hz)) fun t' tk => k _ s.heap tk ι (Step.refl S') (.bytes _ _)
theorem mth_encode : Mth "str" "str.encode" "encode" := ⟨F.plainAttrs_str, F.slot_str_encode, F.type_str_encode⟩
end
section
variable {X : Stat} {d : Nat} {sc : Scope} {m m₁ m₂ : Vm} {σ σ₁ σ₂ σ₃ : Sto} {p q r : PV} {pos : Pos} {B h h' : Heap} {ι ι' : Nat → Addr} {env : Env}
noncomputable def HasMods (X : Stat) : Prop := ∃ o, X.B.get? sysModules = some o
theorem noMods (hm : HasMods X) (S : SR X.B ι σ h) {n : Nat} (hn : n < σ.length) : (ι n == sysModules) = false := by
  obtain ⟨o, e⟩ := hm
  rw [beq_eq_false_iff_ne]
  intro q
  have := S.fresh n hn
  rw [q, e] at this
  cases this
noncomputable def DictI (X : Stat) (f : Int → Option Int) (o : Obj) : Prop := ∃ kvs : List (Int × Value), o.IsDictOf (intKind X.prog X.w) kvs ∧ ∀ k, (∀ i, f k = some i → ∃ t, valueAt kvs k = some (.int i t)) ∧ (f k = none → valueAt kvs k = none)
theorem dictI_at {n : Nat} {f : Int → Option Int} (hl : σ[n]? = some (.raw (DictI X f))) (S : SR X.B ι σ h) : ∃ kvs : List (Int × Value), h.DictOf (intKind X.prog X.w) (ι n) kvs ∧ ∀ k, (∀ i, f k = some i → ∃ t, valueAt kvs k = some (.int i t)) ∧ (f k = none → valueAt kvs k = none) := by
  obtain ⟨o, e, _, kvs, hd, hk⟩ := S.cell n _ hl
  exact ⟨kvs, Heap.dictOf_iff.mpr ⟨o, e, hd⟩, hk⟩
theorem in_d {n : Nat} {f : Int → Option Int} {a : Int} (hm : HasMods X) (hl : σ[n]? = some (.raw (DictI X f))) : Op2 X d σ (compareOp .In) (.int a) (.ref n) (.bool (f a).isSome) σ := Op2.tok fun A s ι v u Q E g S R R' k => by
  obtain ⟨t, rfl⟩ := R.int_inv
  cases R' with
  | ref hn =>
    obtain ⟨kvs, hd, hk⟩ := dictI_at hl S
    refine wpAny_in_of (intKind_is X.prog X.w a t) (noMods hm S hn) hd.mapOf ?_
    have e2 : (valueAt kvs a).isSome = (f a).isSome := by
      cases e : f a with
      | none => rw [(hk a).2 e]; rfl
      | some i => obtain ⟨t', e'⟩ := (hk a).1 i e; refine rwr e' ?_; rfl
    refine rwr e2 ?_
    exact k _ _ (.bool _)
theorem item_d {value slice : Expr} {n : Nat} {f : Int → Option Int} {a i : Int} (hp : Plain slice) (hl : σ[n]? = some (.raw (DictI X f))) (hf : f a = some i) : Op2 X d σ (subscriptTail value slice) (.ref n) (.int a) (.int i) σ := Op2.tok fun A s ι v u Q E g S R R' k => by
  obtain ⟨rfl, hn⟩ := R.ref_inv
  cases R' with
  | int _ t =>
    obtain ⟨kvs, hd, hk⟩ := dictI_at hl S
    obtain ⟨t', e'⟩ := (hk a).1 i hf
    have hm := hd.mapOf
    exact tail_any hm.typeIs slot_dict_getitem.lookup (wpAny_getItem_of (intKind_is X.prog X.w a t) hm e' (k _ _ (.int _ _))) (hp _ _)
theorem meets_in_b (b : List UInt8) (t : Tok) (i : Int) (u : Tok) (h0 : 0 ≤ i) (h1 : i < 256) : Meets (Builtin.«bytes.__contains__» ⟨[.bytes b.toArray t, .int i u], []⟩) (fun _ R s => R (.ok (.ret (.bool (b.contains i.toNat.toUInt8)))) s) := by
  refine .of_wp fun prog w A R s h => ?_
  show wpAny _ _ (Builtin.Bytes.containsIn "bytes.__contains__" (.bytes b.toArray t) (.int i u) >>= fun r => ret (.bool r)) _ _ s
  refine wpAny_bind ?_
  unfold Builtin.Bytes.containsIn
  refine wpAny_bind (wpAny_of_eq (a := Except.ok i) rfl ?_)
  refine wpAny_bind (wpAny_of_eq KBy.buffer_eq ?_)
  show wpAny _ _ (if (decide (i < 0) || decide (i ≥ 256)) = true then _ else _) _ _ s
  rw [if_neg (by simp; lia)]
  refine wpAny_pure (wpAny_pure ⟨_, rfl, ?_⟩)
  simpa using h
theorem in_b {b : List UInt8} {i : Int} (h0 : 0 ≤ i) (h1 : i < 256) : Op2 X d σ (compareOp .In) (.int i) (.bytes b) (.bool (b.contains i.toNat.toUInt8)) σ := Op2.tok fun A s ι v u Q E g S R R' k => by
  cases R; cases R'
  exact PySem.SeqRoads2.in_meets (typeIs_bytes _ _ _) FB.slot_bytes_contains FB.entry_bytes_contains (FB.args_bytes_contains_2 _ _) (meets_in_b b _ i _ h0 h1) ⟨_, rfl, k _ _ (.bool _)⟩
theorem nin_b {b : List UInt8} {i : Int} (h0 : 0 ≤ i) (h1 : i < 256) : Op2 X d σ (compareOp .NotIn) (.int i) (.bytes b) (.bool (!b.contains i.toNat.toUInt8)) σ := Op2.tok fun A s ι v u Q E g S R R' k => by
  cases R; cases R'
  exact PySem.SeqRoads2.notIn_meets (typeIs_bytes _ _ _) FB.slot_bytes_contains FB.entry_bytes_contains (FB.args_bytes_contains_2 _ _) (meets_in_b b _ i _ h0 h1) ⟨_, rfl, k _ _ (.bool _)⟩
theorem list_t {l : List PV} (hz : l.length ≤ 16777216) : CallV X d σ (.type "list") [.tup l] (.ref σ.length) (σ ++ [.lst l]) := fun A s ι vs Q E g S R k => by
  obtain ⟨v, rfl, R1⟩ := R.one
  obtain ⟨a, vs, rfl, ht, hl, hr⟩ := R1.tup_inv
  · obtain ⟨o, ho, hc, n, hd⟩ := ht
    refine call_list_seq a (.inr rfl) ho hc hd (fun h' c' hk hD => ?_) (by refine rwr sizeLine_eq ?_; simp; lia)
    have T := step_keep S hk
    have R2 : Reps h' ι σ.length l vs := Reps.step S T ⟨hl, hr⟩
    have T2 := T.adopt (l := l) (vs := vs) (acc := s.heap.objs.size) hD R2 (fun n hn e => by
      obtain ⟨ob, e1⟩ := S.live_at hn
      rw [e, none_at] at e1; cases e1) none_at (by
      cases e : X.B.get? s.heap.objs.size with
      | none => rfl
      | some o' => have := S.base _ _ e; rw [none_at] at this; cases this)
    refine k _ h' s.toks _ T2 ?_
    have := Rep.ref (h := h') (ι := fun i => if i = σ.length then s.heap.objs.size else ι i) (k := (σ ++ [Cell.lst l]).length) (n := σ.length) (by simp)
    simpa using this
noncomputable def NoKeys (_ : Stat) (o : Obj) : Prop := o = { cls := .type "dict", data := .dict #[] }
theorem ev_dict0 : Ev X d sc m σ (.Dict [] [] pos) (.ref σ.length) (σ ++ [.raw (NoKeys X)]) := by
  intro A env s ι Q E g hs S V k
  refine wpAny_Dict_empty ?_
  have T := Step.pushCell S (ob := { cls := .type "dict", data := .dict #[] }) (l := .raw (NoKeys X)) fun ι' k' hi hk => ⟨_, get_push (by intro h; cases h), rfl, rfl⟩
  refine k _ _ s.toks _ T ?_
  have := Rep.ref (h := s.heap.push { cls := .type "dict", data := .dict #[] }) (ι := fun i => if i = σ.length then s.heap.objs.size else ι i) (k := (σ ++ [Cell.raw (NoKeys X)]).length) (n := σ.length) (by simp)
  simpa using this
theorem sort0 {A : Around} {E : Value → Shared → Prop} {s : Shared} {D : Addr} {Q : Value → Shared → Prop} {prog : Program} {w : World} (ho : s.heap.get? D = some (seqObj "list" ([] : List Value).toArray 0)) (h : ∀ out : Array Value, out.toList = [] → Q .none { s with heap := sortedHeap s.heap D [] out }) :
    wpAny (model prog w) A (call (.builtin "list.sort") [.ref D]) Q E s :=
  wpAny_call_entry slot_list_sort ⟨_, ho, rfl⟩ entry_list_sort (list_sort_tree (vs := []) (ns := []) ho .nil (by decide) fun out ns' a1 a2 a3 => ⟨_, rfl, h out (by
    have : ns' = [] := List.perm_nil.mp a2
    subst this
    generalize out.toList = l at a1
    cases a1; rfl)⟩) (args_list_sort _)
theorem sorted0 {n : Nat} (hm : HasMods X) (hl : σ[n]? = some (.raw (NoKeys X))) : CallV X d σ (.builtin "sorted") [.ref n] (.ref σ.length) (σ ++ [.lst []]) := fun A s ι vs Q E g S R k => by
  obtain ⟨v, rfl, R1⟩ := R.one
  obtain ⟨rfl, hn⟩ := R1.ref_inv
  · obtain ⟨o, e, _, rfl⟩ := S.cell n _ hl
    have gh := g.1
    have hat : s.heap.DictAt (intKind X.prog X.w) (ι n) [] 0 := ⟨_, _, e, ⟨rfl, rfl, rfl⟩, rfl, (by intro e he; simp at he), .nil, List.nodup_nil⟩
    refine call_function_entry kind_sorted plain_sorted entry_sorted (args_sorted1 _) ?_
    unfold Builtin.«sorted»
    refine wpAny_bind (m := checkCount "sorted" 1 1 _) (wpAny_pure ?_)
    refine wpAny_bind (kdu_collect (A := A.in1) (kdl_dict (knd := intKind X.prog X.w) (kvs := []) (ep := 0) (noMods hm S hn)) gh hat (by simp) fun h' tk acc hk hacc => ?_)
    have hacc0 : acc.toList = [] := by
      have := hacc.1
      rw [← Array.length_toList] at this
      exact List.length_eq_zero_iff.mp this
    refine rwr hacc0 ?_
    refine wpAny_bind (wpAny_newList ?_ (by simp))
    have T := step_keep S hk
    have T1 := Step.push T.sr (seqObj "list" ([] : List Value).toArray 0)
    have none' : s.heap.get? h'.objs.size = none := by
      cases e : s.heap.get? h'.objs.size with
      | none => rfl
      | some o => have := hk _ _ e; rw [none_at] at this; cases this
    refine wpAny_bind (wpAny_holding (sort0 (Heap.get?_push_size _ rfl) fun out hout => ?_))
    refine wpAny_pure ⟨_, rfl, ?_⟩
    have kp : ∀ b o, s.heap.get? b = some o → (sortedHeap (h'.push (seqObj "list" ([] : List Value).toArray 0)) h'.objs.size [] out).get? b = some o := fun b o eb => by
      have hb := Heap.lt_size (hk _ _ eb)
      rw [sortedHeap_old (Nat.ne_of_lt hb) (by rw [size_push']; exact Nat.lt_succ_of_lt hb)]
      exact Heap.get?_push_of_some _ (hk _ _ eb)
    obtain ⟨c, hc⟩ : ∃ c, (sortedHeap (h'.push (seqObj "list" ([] : List Value).toArray 0)) h'.objs.size [] out).get? h'.objs.size = some (listOf ([] : List Value).toArray c) := by
      have := sortedHeap_at (h := h'.push (seqObj "list" ([] : List Value).toArray 0)) (a := h'.objs.size) (vs := []) (n := 0) (out := out) (Heap.get?_push_size _ rfl)
      have ho : out = ([] : List Value).toArray := by rw [← hout]
      rw [ho] at this ⊢
      obtain ⟨c, hc⟩ := this
      exact ⟨c, hc⟩
    have T2 := (step_keep S kp).adopt (l := []) (vs := []) (acc := h'.objs.size) hc .nil (fun n hn e => by
      obtain ⟨ob, e1⟩ := S.live_at hn
      rw [e, none'] at e1; cases e1) none' (by
      cases e : X.B.get? h'.objs.size with
      | none => rfl
      | some o' => have := S.base _ _ e; rw [none'] at this; cases this)
    refine k _ _ tk _ T2 ?_
    have := Rep.ref (h := sortedHeap (h'.push (seqObj "list" ([] : List Value).toArray 0)) h'.objs.size [] out) (ι := fun i => if i = σ.length then h'.objs.size else ι i) (k := (σ ++ [Cell.lst []]).length) (n := σ.length) (by simp)
    simpa using this
end
noncomputable def PV.plain : PV → Bool
  | .stat _ => false
  | _ => true
theorem handed_of {h : Heap} {ι : Nat → Addr} {k : Nat} {p : PV} {v : Value} (hp : p.plain = true) (R : Rep h ι k p v) : handedIn v = true := by
  cases R <;> first | rfl | cases hp
section
variable {X : Stat} {d : Nat} {sc : Scope} {m m₁ m₂ : Vm} {σ σ₁ σ₂ σ₃ : Sto} {p q r : PV} {pos : Pos} {B h h' : Heap} {ι ι' : Nat → Addr} {env : Env} {K : Frag} {C : Addr}
noncomputable def EntsAre (h : Heap) (ι : Nat → Addr) (k : Nat) (es : List DictEntry) (fs : List (Str × PV)) : Prop :=
  es.length = fs.length ∧ ∀ (i : Nat) (e : DictEntry) (x : Str) (p : PV), es[i]? = some e → fs[i]? = some (x, p) → (∃ t, e.key = .str x t) ∧ Rep h ι k p e.val
theorem EntsAre.uncons {k : Nat} {es : List DictEntry} {fs : List (Str × PV)} {x : Str} (E : EntsAre h ι k es ((x, p) :: fs)) : ∃ e r, es = e :: r ∧ (∃ t, e.key = .str x t) ∧ Rep h ι k p e.val ∧ EntsAre h ι k r fs := by
  obtain ⟨a, b⟩ := E
  match es, a with
  | e :: r, a => exact ⟨e, r, rfl, (b 0 e x p rfl rfl).1, (b 0 e x p rfl rfl).2, by simpa using a, fun i e y q u v => b (i + 1) e y q u v⟩
theorem EntsAre.cons {k : Nat} {es : List DictEntry} {fs : List (Str × PV)} {x : Str} {e : DictEntry} (h1 : ∃ t, e.key = .str x t) (h2 : Rep h ι k p e.val) (E : EntsAre h ι k es fs) : EntsAre h ι k (e :: es) ((x, p) :: fs) :=
  ⟨by simp [E.1], fun i e' y q u v => by
    cases i with
    | zero => cases u; cases v; exact ⟨h1, h2⟩
    | succ i => exact E.2 i e' y q u v⟩
theorem isStr_key {e : DictEntry} {x y : Str} {t : Tok} (h : e.key = .str x t) : e.key.isStr y = (x == y) := by rw [h]; rfl
theorem noRef {k : Nat} : ∀ {fs : List (Str × PV)} {es : List DictEntry}, EntsAre h ι k es fs → es.any (·.refKey) = false
  | [], es, E => by have := List.length_eq_zero_iff.mp E.1; subst this; rfl
  | (x, p) :: fs, es, E => by
    obtain ⟨e, r, rfl, ⟨t, h1⟩, _, E'⟩ := E.uncons
    rw [List.any_cons, noRef E', Bool.or_false]
    unfold DictEntry.refKey
    rw [h1]
theorem getL_of {k : Nat} {x : Str} : ∀ {fs : List (Str × PV)} {es : List DictEntry}, EntsAre h ι k es fs → (∀ p, fs.lookup x = some p → ∃ v, getL x es = some (some v) ∧ Rep h ι k p v) ∧ (fs.lookup x = none → getL x es = some none)
  | [], es, E => by
    have := List.length_eq_zero_iff.mp E.1; subst this
    exact ⟨fun p e => by simp at e, fun _ => rfl⟩
  | (y, q) :: fs, es, E => by
    obtain ⟨e, r, rfl, ⟨t, h1⟩, h2, E'⟩ := E.uncons
    have ih := getL_of (x := x) E'
    have hr := noRef E
    have hr' := noRef E'
    unfold getL at ih ⊢
    rw [hr'] at ih
    refine rwr hr ?_; rw [List.find?_cons, isStr_key h1, List.lookup_cons]
    by_cases hyx : x = y
    · subst hyx
      simp only [beq_self_eq_true]
      exact ⟨fun p e => by cases e; exact ⟨_, rfl, h2⟩, fun e => by cases e⟩
    · have e1 : (x == y) = false := beq_eq_false_iff_ne.mpr hyx
      have e2 : (y == x) = false := beq_eq_false_iff_ne.mpr (Ne.symm hyx)
      simp only [e1, e2]
      exact ih
noncomputable def attrOK (K : Frag) (C : Addr) (x : Str) : Bool := plainGet K C x && hasDictIn K C && decide (findIn K (.ref C) x = some none)
theorem ev_attr {o : Expr} {x : Str} {n j : Nat} {fs : List (Str × PV)} (h1 : Ev X d sc m σ o (.ref n) σ₁) (hK : K.In X.B) (ha : attrOK K C x = true) (hn : σ₁[n]? = some (.obj C j)) (hj : σ₁[j]? = some (.ns fs)) (hf : fs.lookup x = some p) (hp : p.plain = true)
    (he : ∀ env : Env, eval (.Attribute o x pos) env = (do
      let o' ← eval o env
      standAt pos.atName
      let r ← holding [o'] (getAttr o' x true)
      letTemporaryGo o o' r
      pure r)) : Ev X d sc m σ (.Attribute o x pos) p σ₁ := by
  intro A env s ι Q E g hs S V k
  refine Attribute_any_ (h1 A env s ι _ E g hs S V fun v h' tk ι' T R => ?_) (he env)
  unfold attrOK at ha
  simp only [Bool.and_eq_true, decide_eq_true_eq] at ha
  obtain ⟨⟨a1, a2⟩, a3⟩ := ha
  cases R with
  | ref hn' =>
    obtain ⟨ex, hjl⟩ := T.sr.cell n _ hn
    obtain ⟨es, c, ed, hE⟩ := T.sr.cell j _ hj
    obtain ⟨w, hw, Rw⟩ := (getL_of (x := x) (show EntsAre h' ι' σ₁.length es fs from hE)).1 p hf
    have I : InstAt h' (ι' n) (instObj C (ι' j)) C (some (dictOf es c)) := ⟨ex, rfl, rfl, ed⟩
    have XK : K.In h' := hK.keeps T.sr.base
    exact get_value (s := { s with heap := h', toks := tk }) XK I (plainGet_of a1).1 (findObj_own a2 a3 rfl hw) (handed_of hp Rw) (k w h' (tk + 1) ι' T Rw)
noncomputable def methOK (K : Frag) (C : Addr) (x : Str) (f : Addr) : Bool := plainGet K C x && decide (findIn K (.ref C) x = some (some (.ref f))) && isFn K (.ref f) && keepIn K (.ref f)
theorem ev_meth0 {o : Expr} {x : Str} {apos : Pos} {n j : Nat} {f : Addr} {fs : List (Str × PV)} (h1 : Ev X d sc m σ o (.ref n) σ₁) (hK : K.In X.B) (ha : methOK K C x f = true) (hn : σ₁[n]? = some (.obj C j)) (hj : σ₁[j]? = some (.ns fs)) (hf : fs.lookup x = none)
    (h2 : CallV X d σ₁ (.ref f) [.ref n] r σ₂) (pl : Env → Value → Sem Bool)
    (he : ∀ env : Env, ∃ pl : Sem Bool, eval (.Call (.Attribute o x apos) [] [] pos) env = (do
      let ov ← eval o env
      standAt apos.atName
      let (f, first) ← holding [ov] (getMethod ov x pl)
      callWith pos f first (backTo pos (starEach [] env)) [])) : Ev X d sc m σ (.Call (.Attribute o x apos) [] [] pos) r σ₂ := by
  intro A env s ι Q E g hs S V k
  obtain ⟨pl, he⟩ := he env
  unfold methOK at ha
  simp only [Bool.and_eq_true, decide_eq_true_eq] at ha
  obtain ⟨⟨⟨a1, a2⟩, a3⟩, a4⟩ := ha
  refine MethodCall_ (pl := pl) (h1 A env s ι _ E g hs S V fun v h' tk ι' T R => ?_) he
  cases R with
  | ref hn' =>
    obtain ⟨ex, hjl⟩ := T.sr.cell n _ hn
    obtain ⟨es, c, ed, hE⟩ := T.sr.cell j _ hj
    have hw := (getL_of (x := x) (show EntsAre h' ι' σ₁.length es fs from hE)).2 hf
    have I : InstAt h' (ι' n) (instObj C (ι' j)) C (some (dictOf es c)) := ⟨ex, rfl, rfl, ed⟩
    have XK : K.In h' := hK.keeps T.sr.base
    refine method_fn (s := { s with heap := h', toks := tk }) XK I (plainGet_of a1).1 (plainGet_of a1).2 a2 (beq_iff_eq.mp a3) (by show (lookIn x (dictOf es c)).map _ = _; rw [lookIn_dict, hw]; rfl) ?_
    refine callWith_K0 (s := { s with heap := h', toks := tk }) XK a4 ?_
    exact h2 A { s with heap := h', toks := tk } ι' [.ref (ι' n)] Q E g T.sr (.cons (.ref hn') .nil) fun w h'' tk' ι'' T' R' => k w h'' tk' ι'' (T.trans T') R'
end
section
variable {X : Stat} {d : Nat} {sc : Scope} {m m₁ m₂ : Vm} {σ σ₁ σ₂ σ₃ : Sto} {p q r : PV} {pos : Pos} {B h h' : Heap} {ι ι' : Nat → Addr} {env : Env} {K : Frag} {C : Addr}
theorem store_dict {prog : Program} {w : World} {A : Around} {R : Result → Shared → Prop} {s : Shared} {x dx : Addr} {name : Str} {tk : Tok} {v : Value} {es : List DictEntry} {n : Nat} (X : K.In s.heap)
    (I : InstAt s.heap x (instObj C dx) C (some (dictOf es n))) (hp : plainOver K C = true) (ht : takerIn K C name = some none) (hh : hasDictIn K C = true) (hl : (getL name es).isSome = true) (hz : (putL name (PyData.keyHash w.params name) (.str name s.toks) v es).length ≤ 1000)
    (h : ∀ h', Heap.SameBut dx s.heap h' → h'.get? dx = some (dictOf (putL name (PyData.keyHash w.params name) (.str name s.toks) v es) (putN name es n)) → R (.ok (.ret .none)) { s with heap := h', toks := s.toks + 1 }) :
    codeAny (model prog w) A (.call (.builtin "object.__setattr__") ⟨[.ref x, .str name tk, v], []⟩) R s := by
  refine osa_open X I hp ht fun b => ?_
  obtain ⟨cd, hc, hd'⟩ := any_some hh
  have D : s.heap.get? dx = some (dictOf es n) := I.dict
  have hf := putName_dict name (PyData.keyHash w.params name) (.str name s.toks) v es n
  have D' : (s.heap.update dx (Obj.putName name (PyData.keyHash w.params name) (.str name s.toks) v)).get? dx = some (dictOf (putL name (PyData.keyHash w.params name) (.str name s.toks) v es) (putN name es n)) := by
    rw [Heap.get?_update_self _ D (by refine rwr hf ?_; rfl), hf]
  obtain ⟨hx, -, -, -⟩ := I
  refine wpAny_bind (wpAny_pure (wpAny_bind (wpAny_bind (wpAny_loadPart hx (wpAny_bind ((looks_clsIn X hc).here ?_))))))
  refine rwr hd' ?_
  refine wpAny_pure (a := some dx) (wpAny_bind (wpAny_pure (wpAny_bind ?_)))
  unfold nsSet
  refine wpAny_bind (wpAny_bind (wpAny_askSetting (wpAny_pure (wpAny_bind (wpAny_mkText (wpAny_bind (wpAny_loadPart D ?_)))))))
  have c : (!(es.toArray).any (·.key.isStr name) && (es.toArray).any (·.refKey)) = false := by
    rw [List.any_toArray, List.any_toArray]
    unfold getL at hl
    split at hl
    · rename_i en he
      rw [List.any_eq_true.mpr (ex1 (p := en) (List.mem_of_find?_eq_some he) (List.find?_some he))]; rfl
    · split at hl
      · exact ff hl
      · rename_i z; rw [Bool.not_eq_true] at z; refine rwr z ?_; rw [Bool.and_false]
  show wpAny _ _ _ _ _ _
  dsimp only
  rw [aRefKeyMayBeTheName_at, c]
  refine wpAny_updatePart D ?_
  refine wpAny_bind (wpAny_lookBehind D' (pastItsLine_dict (by rw [List.size_toArray, sizeLine_eq]; lia)) ?_)
  exact wpAny_pure (h _ (Heap.SameBut.update ..) D')
noncomputable def putF (fs : List (Str × PV)) (x : Str) (p : PV) : List (Str × PV) := match fs with
  | [] => [(x, p)]
  | (y, q) :: r => if (y == x) = true then (y, p) :: r else (y, q) :: putF r x p
theorem putL_of {k : Nat} {x : Str} {hsh : Int} {t : Tok} {v : Value} (Rv : Rep h ι k p v) : ∀ {fs : List (Str × PV)} {es : List DictEntry}, EntsAre h ι k es fs → EntsAre h ι k (putL x hsh (.str x t) v es) (putF fs x p)
  | [], es, E => by
    have := List.length_eq_zero_iff.mp E.1; subst this
    exact .cons ⟨t, rfl⟩ Rv ⟨rfl, fun i e y q a => by simp at a⟩
  | (y, q) :: fs, es, E => by
    obtain ⟨e, r, rfl, ⟨t', h1⟩, h2, E'⟩ := E.uncons
    unfold putL putF
    refine rwr (isStr_key h1) ?_
    by_cases hyx : (y == x) = true
    · rw [if_pos hyx, if_pos hyx]
      exact .cons ⟨t', h1⟩ Rv E'
    · rw [if_neg hyx, if_neg hyx]
      exact .cons ⟨t', h1⟩ h2 (putL_of Rv E')
theorem putF_len (x : Str) (p : PV) : ∀ fs : List (Str × PV), (putF fs x p).length ≤ fs.length + 1
  | [] => by simp [putF]
  | (y, q) :: r => by
    unfold putF
    split
    · simp
    · simp [putF_len x p r]
noncomputable def setOK (K : Frag) (C : Addr) (x : Str) : Bool := decide (findIn K (.ref C) "__setattr__" = some (some (.builtin "object.__setattr__"))) && plainOver K C && decide (takerIn K C x = some none) && hasDictIn K C
theorem ex_seta {o e : Expr} {x : Str} {n j : Nat} {fs : List (Str × PV)} {ap : Pos} (h1 : Ev X d sc m σ e p σ₁) (h2 : Ev X d sc m σ₁ o (.ref n) σ₂) (hK : K.In X.B) (ha : setOK K C x = true) (hn : σ₂[n]? = some (.obj C j)) (hj : σ₂[j]? = some (.ns fs)) (hz : fs.length ≤ 900)
    (hsw : ∀ env : Env, swapsWith e (some (.Attribute o x ap)) pos.line env = pure false := by intro _; rfl) : Ex X d sc m σ (.Assign [.Attribute o x ap] e pos) .next m (σ₂.set j (.ns (putF fs x p))) := by
  intro A env s ι Q E g hs S V k
  refine plainObj_wpAny_Assign_Attribute (h1 A env s ι _ E g hs S V fun v h' tk ι' T R => ?_) (hsw env)
  refine h2 A env { s with heap := h', toks := tk } ι' _ E g hs T.sr (V.step S T) fun u h'' tk' ι'' T' R' => ?_
  unfold setOK at ha
  simp only [Bool.and_eq_true, decide_eq_true_eq] at ha
  obtain ⟨⟨⟨a1, a2⟩, a3⟩, a4⟩ := ha
  cases R' with
  | ref hn' =>
    obtain ⟨ex, hjl⟩ := T'.sr.cell n _ hn
    obtain ⟨es, c, ed, hE⟩ := T'.sr.cell j _ hj
    have hE' : EntsAre h'' ι'' σ₂.length es fs := hE
    have I : InstAt h'' (ι'' n) (instObj C (ι'' j)) C (some (dictOf es c)) := ⟨ex, rfl, rfl, ed⟩
    have XK : K.In h'' := hK.keeps T'.sr.base
    have hl : (getL x es).isSome = true := by
      have := getL_of (x := x) hE'
      cases q : fs.lookup x with
      | none => refine rwr (this.2 q) ?_; rfl
      | some p' => obtain ⟨v', e', _⟩ := this.1 p' q; refine rwr e' ?_; rfl
    have R2 := R.step T.sr T'
    have P := putL_of (hsh := PyData.keyHash X.w.params x) (t := tk' + 1) (x := x) R2 hE'
    refine set_plain (s := { s with heap := h'', toks := tk' }) XK I a1 (store_dict (s := { s with heap := h'', toks := tk' + 1 }) XK I a2 a3 a4 hl ?_ fun h3 hsb ed3 => ?_)
    · have := P.1
      have := putF_len x p fs
      show (putL x (PyData.keyHash X.w.params x) (.str x (tk' + 1)) v es).length ≤ 1000
      lia
    · have T3 : Step X.B ι'' σ₂ h'' ι'' (σ₂.set j (.ns (putF fs x p))) h3 := Step.setCell T'.sr hjl hsb fun up => (ex2 ed3 ⟨P.1, fun i e y q a b => ⟨(P.2 i e y q a b).1, up _ _ (P.2 i e y q a b).2⟩⟩)
      have T4 : Step X.B ι σ s.heap ι'' (σ₂.set j (.ns (putF fs x p))) h3 := (T.trans T').trans T3
      exact k .next h3 (tk' + 1 + 1) ι'' (Step.on V T4) (V.step S T4) trivial
theorem good_under {A : Around} {C : Addr} {args : List Value} (g : Good (d + 1) A) : Good d (A.under (.builtin "type.__call__" ⟨.ref C :: args, []⟩)) := by
  obtain ⟨a, b, c⟩ := g
  have e1 : (Code.builtin "type.__call__" ⟨.ref C :: args, []⟩).weight = 1 := rfl
  have e2 : (Code.builtin "type.__call__" ⟨.ref C :: args, []⟩).cUnits = 1 := rfl
  refine ⟨a, ?_, ?_⟩
  · show A.depth + (Code.builtin "type.__call__" ⟨.ref C :: args, []⟩).weight + d + 2 < _
    refine rwr e1 ?_; lia
  · show A.units + (Code.builtin "type.__call__" ⟨.ref C :: args, []⟩).cUnits + 16 * d + 16 < _
    refine rwr e2 ?_; lia
theorem call_cls {f : Addr} {ps : List PV} (hK : K.In X.B) (hm : makesIn K C = true) (hi : findIn K (.ref C) "__init__" = some (some (.ref f))) (hf : isFn K (.ref f) = true)
    (h : CodeV X d (σ ++ [.ns []] ++ [.obj C σ.length]) (.ref f) (.ref (σ.length + 1) :: ps) .none σ₁) : CallV X (d + 1) σ (.ref C) ps (.ref (σ.length + 1)) σ₁ := by
  intro A s ι vs Q E g S R k
  have XK : K.In s.heap := hK.keeps S.base
  have T1 : Step X.B ι σ s.heap _ (σ ++ [.ns []]) (s.heap.push emptyDict) := Step.pushCell S (l := .ns []) (ob := emptyDict) fun ι' k' hi hk => (ex2 (p := []) (s := 0) (get_push (by intro h; cases h)) ⟨rfl, fun i e x p a => by simp at a⟩)
  have hl1 : (σ ++ [Cell.ns []]).length = σ.length + 1 := by simp
  have T2 : Step X.B _ (σ ++ [.ns []]) (s.heap.push emptyDict) _ (σ ++ [.ns []] ++ [.obj C σ.length]) ((s.heap.push emptyDict).push (instObj C s.heap.objs.size)) := Step.pushCell T1.sr (l := .obj C σ.length) (ob := instObj C s.heap.objs.size) fun ι' k' hi hk => by
    have e1 := hi σ.length (by refine rwr hl1 ?_; exact Nat.lt_succ_self _)
    simp only [if_true] at e1
    refine ⟨?_, by rw [hl1] at hk; exact hk⟩
    refine rwr e1 ?_
    exact get_push (by intro h; cases h)
  have T12 := T1.trans T2
  have hx : ((if σ.length + 1 = (σ ++ [Cell.ns []]).length then (s.heap.push emptyDict).objs.size else if σ.length + 1 = σ.length then s.heap.objs.size else ι (σ.length + 1)) : Nat) = s.heap.objs.size + 1 := by
    simp [Heap.size_push]
  have R2 := R.step S T12
  refine wpAny_call (make_core (makes_of XK hm) (looks_findIn XK hi) (fun self => bind_fn XK self (beq_iff_eq.mp hf)) (.inl rfl) ?_)
  refine h _ { s with heap := (s.heap.push emptyDict).push (instObj C s.heap.objs.size) } _ (.ref (s.heap.objs.size + 1) :: vs) _ (good_under g) T12.sr (.cons ?_ R2) fun v h' tk ι' T R' => ?_
  · have := Rep.ref (h := (s.heap.push emptyDict).push (instObj C s.heap.objs.size)) (ι := fun n => if n = (σ ++ [Cell.ns []]).length then (s.heap.push emptyDict).objs.size else if n = σ.length then s.heap.objs.size else ι n) (k := (σ ++ [Cell.ns []] ++ [Cell.obj C σ.length]).length) (n := σ.length + 1) (by simp)
    rw [hx] at this
    exact this
  · cases R'
    refine ⟨rfl, k _ h' tk ι' (T12.trans T) ?_⟩
    have hlen : σ.length + 1 < (σ ++ [Cell.ns []] ++ [Cell.obj C σ.length]).length := by simp
    have := Rep.ref (h := h') (ι := ι') (k := σ₁.length) (n := σ.length + 1) (Nat.lt_of_lt_of_le hlen T.len)
    rw [T.ext _ hlen, hx] at this
    exact this
end
open Builtin AutoSeq1
theorem nextB_item {prog : Program} {w : World} {A : Around} {E : Value → Shared → Prop} {s : Shared} {b : Array UInt8} {t : Tok} {it : Addr} {i : Nat} {c : UInt8} {Q : Value → Shared → Prop} (hit : KBw.IsBytesIter s.heap it b t i) (hx : b[i]? = some c)
    (hQ : ∀ h', KBw.IsBytesIter h' it b t (i + 1) → Heap.SameBut it s.heap h' → Q (.int (c.toNat : Int) s.toks) { s with heap := h', toks := s.toks + 1 }) : wpAny (model prog w) A (SmallTypes.nextOf (.ref it)) Q E s := by
  obtain ⟨o, ho, hc, hd⟩ := id hit
  unfold SmallTypes.nextOf
  refine wpAny_bind (wpAny_callSpecial?_slot (name := Str.ofString "__next__") (KBw.iter_typeIs hit) KBw.slot_next
    (wpAny_call_entry KBw.slot_next (KBw.iter_typeIs hit) KBw.entry_next ?_ (KBw.args_next _)))
  show wpAny _ _ (field (.ref it) 0 >>= _) _ _ s
  refine wpAny_bind (wpAny_field ho hd (x := .bytes b t) rfl ?_)
  show wpAny _ _ (if (Value.bytes b t == Value.none) = true then _ else _) _ _ s
  rw [if_neg (show ¬ ((Value.bytes b t == Value.none) = true) from Bool.false_ne_true)]
  show wpAny _ _ (field (.ref it) 1 >>= _) _ _ s
  refine wpAny_bind (wpAny_field ho hd (x := .int i 0) rfl ?_)
  refine wpAny_bind (wpAny_of_eq (a := b) rfl ?_)
  simp only [Int.toNat_natCast, hx]
  refine wpAny_bind (wpAny_setField ho hd (by simp) (wpAny_bind (wpAny_mkInt (wpAny_pure ⟨_, rfl, wpAny_pure (hQ _ ?_ (Heap.SameBut.update ..))⟩))))
  exact ⟨_, Heap.get?_update_self _ ho (Obj.isFreed_of_fields (Obj.data_mapFields hd _)), (Obj.cls_mapFields ..).trans hc, by
    rw [Obj.data_mapFields hd]; simp [rawInt]⟩
theorem nextB_end {prog : Program} {w : World} {A : Around} {E : Value → Shared → Prop} {s : Shared} {b : Array UInt8} {t : Tok} {it : Addr} {i : Nat} {Q : Value → Shared → Prop} (hh : A.handled = none) (hit : KBw.IsBytesIter s.heap it b t i) (hx : b[i]? = none)
    (hE : ∀ h' e, Heap.ExtBut it s.heap h' → (∃ o, h'.get? e = some o ∧ o.cls = .type "StopIteration") → E (.ref e) { s with heap := h' }) : wpAny (model prog w) A (SmallTypes.nextOf (.ref it)) Q E s := by
  obtain ⟨o, ho, hc, hd⟩ := id hit
  unfold SmallTypes.nextOf
  refine wpAny_bind (wpAny_callSpecial?_slot (name := Str.ofString "__next__") (KBw.iter_typeIs hit) KBw.slot_next
    (wpAny_call_entry KBw.slot_next (KBw.iter_typeIs hit) KBw.entry_next ?_ (KBw.args_next _)))
  show wpAny _ _ (field (.ref it) 0 >>= _) _ _ s
  refine wpAny_bind (wpAny_field ho hd (x := .bytes b t) rfl ?_)
  show wpAny _ _ (if (Value.bytes b t == Value.none) = true then _ else _) _ _ s
  rw [if_neg (show ¬ ((Value.bytes b t == Value.none) = true) from Bool.false_ne_true)]
  show wpAny _ _ (field (.ref it) 1 >>= _) _ _ s
  refine wpAny_bind (wpAny_field ho hd (x := .int i 0) rfl ?_)
  refine wpAny_bind (wpAny_of_eq (a := b) rfl ?_)
  simp only [Int.toNat_natCast, hx]
  refine wpAny_bind (wpAny_rule (wpAny_bind (wpAny_setField ho hd (by simp) ?_)))
  show wpAny _ _ (newExc (.type "StopIteration") [] >>= _) _ _ _
  refine wpAny_bind ?_
  simp only [newExc, newTuple]
  refine wpAny_bind (wpAny_newObj_type ?_ (by size_fits))
  refine wpAny_bind (m := firstArgMember _ _) (wpAny_of_eq (a := Value.none) (by first | rfl | (simp only [firstArgMember]; rfl)) ?_)
  refine wpAny_newObj_type ?_ (by size_fits)
  simp only [raiseNew]
  refine wpAny_bind (wpAny_handled ?_)
  first | rw [show A.in1.handled = none from hh] | rw [hh]
  refine wpAny_bind (wpAny_pure (wpAny_throw ?_))
  exact hE _ _ (((Heap.SameBut.update ..).extBut.push _).push _) ⟨_, Heap.get?_push_size _ rfl, rfl⟩
theorem drawsB {prog : Program} {w : World} {A : Around} (hh : A.handled = none) (it : Addr) (b : Array UInt8) (t : Tok) :
    Draws prog w A it [it] b.size (fun i v => ∃ c u, b[i]? = some c ∧ v = .int (c.toNat : Int) u) (fun i h => KBw.IsBytesIter h it b t i) where
  live := fun _ _ st => let ⟨o, ho, _⟩ := st; ⟨o, ho⟩
  frame := fun _ _ _ st hk => let ⟨o, ho, r⟩ := st; ⟨o, hk it (by simp) o ho, r⟩
  item := fun i s Q E hi st hQ => by
    refine nextB_item st (c := b[i]) (by simp [hi]) fun h' hit' hs' => ?_
    exact hQ _ h' (s.toks + 1) ⟨_, _, by simp [hi], rfl⟩ hit' hs'
  done := fun s Q E st hE => nextB_end hh st (by simp) hE
set_option maxHeartbeats 1000000 in
theorem meets_enumB (b : Array UInt8) (t : Tok) :
    Meets (Builtin.«enumerate.__new__» ⟨[.type "enumerate", .bytes b t], []⟩) (fun _ R s =>
      R (.ok (.ret (.ref (s.heap.push { cls := .type "bytes_iterator", data := .fields #[.bytes b t, .int 0 0] }).objs.size)))
        { s with heap := (s.heap.push { cls := .type "bytes_iterator", data := .fields #[.bytes b t, .int 0 0] }).push { cls := .type "enumerate", data := .fields #[.none, .bool false, .ref s.heap.objs.size, rawInt 0, .none, .none] } }) :=
  .of_wp fun prog w A R s h => by
    obtain ⟨hp, g, d, tk, os⟩ := s
    have hsub := sub_enumerate
    wp_walk
    refine wpAny_stack_any fun st => wpAny_pure ?_
    split
    · rename_i c _ _ _ _ _
      cases (c == Value.type "enumerate")
      · wp_walk using KBw.pyIter_bytes
        exact ⟨_, rfl, h⟩
      · wp_walk using KBw.pyIter_bytes
        exact ⟨_, rfl, h⟩
    · wp_walk using KBw.pyIter_bytes
      exact ⟨_, rfl, h⟩
noncomputable def enumL (b : List UInt8) : List PV := b.zipIdx.map fun z => .tup [.int (z.2 : Int), .int (z.1.toNat : Int)]
section
variable {X : Stat} {d : Nat} {sc : Scope} {m m₁ m₂ : Vm} {σ σ₁ σ₂ σ₃ : Sto} {p q r : PV} {pos : Pos} {B h h' : Heap} {ι ι' : Nat → Addr} {env : Env}
theorem src_enum {fe e : Expr} {b : List UInt8} (h0 : Ev X d sc m σ fe (.stat (.type "enumerate")) σ₁) (h1 : Evs X d sc m σ₁ [e] [.bytes b] σ₂)
    (hs1 : ∀ env : Env, starEach [e] env = (false, eval e env) :: starEach [] env)
    (hs3 : ∀ env : Env, eval (.Call fe [e] [] pos) env = (do let __do_lift ← eval fe env; callWith pos __do_lift [] (backTo pos (starEach [e] env)) (backToKw pos (keywordEach [] env))) := by intro _; rfl) :
    Src X d sc m σ (.Call fe [e] [] pos) (.tfix (enumL b)) σ₂ := by
  intro A env s ι Q E g hs S V k
  refine Call_ (h0 A env s ι _ E g hs S V fun v h' tk ι' T R => ?_) (hs3 env)
  obtain rfl := R.stat_inv
  refine PyProof.Rows.callWith_type1 (h1 A env { s with heap := h', toks := tk } ι' pos _ E g hs T.sr (V.step S T) fun vs h2 tk2 ι2 T2 R2 => ?_) (hs1 env) rfl
  obtain ⟨v, rfl, R3⟩ := R2.one
  obtain ⟨t, rfl⟩ := R3.bytes_inv
  · refine callType_new F.called_enumerate (by decide) (F.typeCall_enumerate_1 _) (F.newCall_enumerate_1 _) (fun obj => F.args_object_init_2 obj _) F.entry_enumerate_new (meets_enumB b.toArray t) ?_
    have hz : (h2.push { cls := .type "bytes_iterator", data := .fields #[.bytes b.toArray t, .int 0 0] }).objs.size = h2.objs.size + 1 := Heap.size_push ..
    show _ ∧ _
    dsimp only
    rw [hz]
    generalize hH : (h2.push { cls := .type "bytes_iterator", data := .fields #[.bytes b.toArray t, .int 0 0] }).push { cls := .type "enumerate", data := .fields #[.none, .bool false, .ref h2.objs.size, rawInt 0, .none, .none] } = H
    have he : IsEnum H (h2.objs.size + 1) h2.objs.size 0 .none := by
      have := Heap.get?_push_size (h2.push { cls := .type "bytes_iterator", data := .fields #[.bytes b.toArray t, .int 0 0] })
        (o := { cls := .type "enumerate", data := .fields #[.none, .bool false, .ref h2.objs.size, rawInt 0, .none, .none] }) rfl
      rw [hz, hH] at this; exact this
    have hi : KBw.IsBytesIter H h2.objs.size b.toArray t 0 := ⟨_, by rw [← hH]; exact Heap.get?_push_of_some _ (Heap.get?_push_size _ rfl), rfl, rfl⟩
    have kp : ∀ x o, h2.get? x = some o → H.get? x = some o := fun x o e => by rw [← hH]; exact Heap.get?_push_of_some _ (Heap.get?_push_of_some _ e)
    refine ⟨⟨_, he, rfl⟩, ?_⟩
    have T12 := T.trans T2
    have T3 : Step X.B ι2 σ₂ h2 ι2 σ₂ H := step_keep T2.sr kp
    have V2 := (V.step S T).step T.sr T2
    have none_of : ∀ a, h2.objs.size ≤ a → h2.get? a = none := fun a ha => by
      cases e : h2.get? a with
      | none => rfl
      | some o => exact absurd (Heap.lt_size e) (Nat.not_lt.mpr ha)
    have off : ∀ a, h2.get? a = none → (∀ n, n < σ₂.length → ι2 n ≠ a) ∧ X.B.get? a = none ∧ a ∉ Own env ∧ s.heap.get? a = none := fun a ha => by
      have hi : ∀ n, n < σ₂.length → ι2 n ≠ a := fun n hn e => by
        obtain ⟨ob, e1⟩ := T2.sr.live_at hn
        rw [e, ha] at e1; cases e1
      refine ⟨hi, ?_, fun q => ?_, ?_⟩
      · cases e : X.B.get? a with
        | none => rfl
        | some o => have := T2.sr.base a o e; rw [ha] at this; cases this
      · obtain ⟨o, e⟩ := V2.live _ q; rw [ha] at e; cases e
      · cases e : s.heap.get? a with
        | none => rfl
        | some o =>
          by_cases hw : ∃ n, n < σ.length ∧ ι n = a
          · obtain ⟨n, hn, e2⟩ := hw
            exact absurd ((T12.ext n hn).trans e2) (hi n (Nat.lt_of_lt_of_le hn T12.len))
          · have := T12.kept a o e (fun n hn q => hw ⟨n, hn, q⟩) fun h => nomatch h
            rw [ha] at this; cases this
    have hne : h2.objs.size + 1 ≠ h2.objs.size := Nat.succ_ne_self _
    have W : ∀ A : Around, A.handled = none → WalksT X.prog X.w A (h2.objs.size + 1) [h2.objs.size + 1, h2.objs.size] [h2.objs.size + 1, h2.objs.size] b.toArray.size _ _ _ := fun A hh => WalksT.enumerateD (A := A) (drawsB (prog := X.prog) (w := X.w) (A := A.in1) hh h2.objs.size b.toArray t) (h2.objs.size + 1) hne (by simp) (by simp)
    have nv : ∀ h i, (∃ old, IsEnum h (h2.objs.size + 1) h2.objs.size i old) ∨ (∃ x T, IsEnumOut h (h2.objs.size + 1) h2.objs.size i x T) → NoVal h (h2.objs.size + 1) := fun h i q => by
      rcases q with ⟨old, q⟩ | ⟨x, T, q⟩
      · exact ⟨_, _, q, rfl, by decide, by decide⟩
      · exact ⟨_, _, q, rfl, by decide, by decide⟩
    have nb : ∀ h i, KBw.IsBytesIter h h2.objs.size b.toArray t i → NoVal h h2.objs.size := fun h i q => let ⟨o, e, hc, _⟩ := q; ⟨o, _, e, hc, by decide, by decide⟩
    have x : Itr X H ι2 σ₂ env [h2.objs.size + 1, h2.objs.size] [h2.objs.size + 1, h2.objs.size] (h2.objs.size + 1) (.tfix (enumL b)) := by
      refine ⟨fun _ h => h, ⟨b.toArray.size, 0, _, _, _, W, ⟨⟨_, he⟩, hi⟩, by simp [enumL], fun j h st a ha => ?_, fun j T h st a ha => ?_, fun j vs p hv hp => ?_⟩, fun a ha => ?_, fun a ha => ?_, trivial⟩
      · rcases List.mem_cons.mp ha with rfl | ha
        · exact nv _ _ (.inl st.1)
        · rw [List.mem_singleton.mp ha]; exact nb _ _ st.2
      · obtain ⟨⟨x, q⟩, st, _⟩ := st
        rcases List.mem_cons.mp ha with rfl | ha
        · exact nv _ _ (.inr ⟨_, _, q⟩)
        · rw [List.mem_singleton.mp ha]; exact nb _ _ st
      · obtain ⟨u, x, ⟨c, u', hc, rfl⟩, rfl⟩ := hv
        rw [Nat.zero_add] at hc
        have hc' : b[j]? = some c := by simpa using hc
        unfold enumL at hp
        rw [List.getElem?_map, List.getElem?_zipIdx, hc'] at hp
        cases hp
        refine ⟨_, rfl, fun h ι k => ?_⟩
        simp only [Nat.zero_add]
        exact .cons (.int _ _) (.cons (.int _ _) .nil)
      · have hn : h2.get? a = none := none_of a (by rcases List.mem_cons.mp ha with rfl | ha; exact Nat.le_succ _; rw [List.mem_singleton.mp ha]; exact Nat.le_refl _)
        refine ⟨(off a hn).1, fun _ => (off a hn).2.1, ?_⟩
        rcases List.mem_cons.mp ha with rfl | ha
        · exact ⟨_, he⟩
        · rw [List.mem_singleton.mp ha]; obtain ⟨o, e, _⟩ := hi; exact ⟨o, e⟩
      · have hn : h2.get? a = none := none_of a (by rcases List.mem_cons.mp ha with rfl | ha; exact Nat.le_succ _; rw [List.mem_singleton.mp ha]; exact Nat.le_refl _)
        exact (off a hn).2.2.1
    refine (W A g.1).self 0 { s with heap := H, toks := tk2 } Q E ⟨⟨_, he⟩, hi⟩ ?_
    exact k _ _ _ H tk2 ι2 (T12.trans T3) (fun a ha => (off a (none_of a (by rcases List.mem_cons.mp ha with rfl | ha; exact Nat.le_succ _; rw [List.mem_singleton.mp ha]; exact Nat.le_refl _))).2.2.2) x
end
section
variable {X : Stat} {d : Nat} {sc : Scope} {m m₁ m₂ : Vm} {σ σ₁ σ₂ σ₃ : Sto} {p q r : PV} {pos : Pos} {B h h' : Heap} {ι ι' : Nat → Addr} {env : Env}
theorem comp2 {prog : Program} {w : World} {A : Around} {R : Result → Shared → Prop} {s : Shared} {elt t0 it0 t1 it1 : Expr} {ifs : List Expr} {scope : Scope} {it acc : Value} {env : Env} (hf : ∀ (env : Env) (x : Value), foldedSetIterable it1 env x = pure x)
    (turn : wpAny (model prog w) A (pyNext it) (fun r s₁ => match r with
      | none => R (.ok .next) s₁
      | some v => wpAny (model prog w) A (letOwnedTupleGo t0 it v) (fun _ s₁' => wpAny (model prog w) A (assign t0 env v) (fun _ s₂ =>
          wpAny (model prog w) A (eval it1 env) (fun x s₃ => wpAny (model prog w) A (pyIter x) (fun it' s₄ => codeAny (model prog w) A (.compStart (.ListComp elt [⟨t0, it0, [], 0⟩, ⟨t1, it1, ifs, 0⟩] scope pos) 1 it' acc env) (fun r s₅ => r = .ok .next ∧ codeAny (model prog w) A (.compLoop (.ListComp elt [⟨t0, it0, [], 0⟩, ⟨t1, it1, ifs, 0⟩] scope pos) 0 it acc env) R s₅) s₄)
            (notedBy (model prog w) A env fun e s' => R (.error e) s') s₃) (notedBy (model prog w) A env fun e s' => R (.error e) s') s₂) (notedBy (model prog w) A env fun e s' => R (.error e) s') s₁') (notedBy (model prog w) A env fun e s' => R (.error e) s') s₁) (notedBy (model prog w) A env fun e s' => R (.error e) s') s) :
    codeAny (model prog w) A (.compLoop (.ListComp elt [⟨t0, it0, [], 0⟩, ⟨t1, it1, ifs, 0⟩] scope pos) 0 it acc env) R s := by
  refine codeAny_of_tree ?_
  show wpAny _ A ((compTurn (.ListComp elt [⟨t0, it0, [], 0⟩, ⟨t1, it1, ifs, 0⟩] scope pos) 0 it acc env).onRaise (fun x => do noteFrame x env; theTreesLotGoes x)) _ _ s
  refine wpAny_noted ?_
  have e : compTurn (.ListComp elt [⟨t0, it0, [], 0⟩, ⟨t1, it1, ifs, 0⟩] scope pos) 0 it acc env = (do
      standAt it0.pos
      match ← pyNext it with
      | none => pure (.done .next)
      | some v =>
        letOwnedTupleGo t0 it v
        assign t0 env v
        let x ← eval it1 env
        standAt it1.pos
        let x ← foldedSetIterable it1 env x
        let _ ← runOwn (.compStart (.ListComp elt [⟨t0, it0, [], 0⟩, ⟨t1, it1, ifs, 0⟩] scope pos) 1 (← holding [x] (pyIter x)) acc env) env
        again (.compLoop (.ListComp elt [⟨t0, it0, [], 0⟩, ⟨t1, it1, ifs, 0⟩] scope pos) 0 it acc env)) := rfl
  refine rwr e ?_
  refine wpAny_bind (wpAny_standAt (wpAny_bind (wpAny_mono turn (fun r s₁ h₁ => ?_) fun _ _ h' => h')))
  cases r with
  | none => exact wpAny_pure h₁
  | some v =>
    refine wpAny_bind (wpAny_mono h₁ (fun _ s₁' h₁' => ?_) fun _ _ h' => h')
    refine wpAny_bind (wpAny_mono h₁' (fun _ s₂ h₂ => wpAny_bind (wpAny_mono h₂ (fun x s₃ h₃ => ?_) fun _ _ h' => h')) fun _ _ h' => h')
    refine wpAny_bind (wpAny_standAt (wpAny_bind (wpAny_of_eq (hf env x) ?_)))
    refine wpAny_bind (wpAny_holding (wpAny_mono h₃ (fun it' s₄ h₄ => wpAny_bind (wpAny_runOwn (codeAny_mono h₄ (fun r s₅ h₅ => ?_)))) fun _ _ h' => h'))
    obtain ⟨rfl, h₅⟩ := h₅
    exact wpAny_pure ⟨rfl, h₅⟩
theorem comp2_start {prog : Program} {w : World} {A : Around} {R : Result → Shared → Prop} {s : Shared} {elt t1 it1 : Expr} {g : Comprehension} {ifs : List Expr} {scope : Scope} {it acc : Value} {env : Env}
    (h0 : codeAny (model prog w) A (.compLoop (.ListComp elt [g, ⟨t1, it1, ifs, 0⟩] scope pos) 1 it acc env) R s)
    (h : wpAny (model prog w) A (pyIter it) (fun it' s' => codeAny (model prog w) A (.compLoop (.ListComp elt [g, ⟨t1, it1, ifs, 0⟩] scope pos) 1 it' acc env) R s') (notedBy (model prog w) A env fun x s' => R (.error x) s') s) :
    codeAny (model prog w) A (.compStart (.ListComp elt [g, ⟨t1, it1, ifs, 0⟩] scope pos) 1 it acc env) R s := by
  refine codeAny_of_tree ?_
  show wpAny _ A ((compStart (.ListComp elt [g, ⟨t1, it1, ifs, 0⟩] scope pos) 1 it acc env).onRaise (fun x => do noteFrame x env; standAt theWindowsPlace)) _ _ s
  refine wpAny_notedAt ?_
  unfold compStart
  show wpAny _ _ (ask >>= _) _ _ s
  refine wpAny_bind (wpAny_askSetting (wpAny_ite ?_))
  split
  · first
      | exact wpAny_bind (wpAny_pure (wpAny_pure (And.intro rfl h0)))
      | exact wpAny_pure (And.intro rfl h0)
  · first
      | exact wpAny_bind (wpAny_rule (wpAny_bind (wpAny_standAt (wpAny_bind (wpAny_mono h (fun it' s' h' => wpAny_pure (And.intro rfl h')) fun _ _ x => x)))))
      | exact wpAny_rule (wpAny_bind (wpAny_standAt (wpAny_bind (wpAny_mono h (fun it' s' h' => wpAny_pure (And.intro rfl h')) fun _ _ x => x))))
theorem done2 {elt t0 it0 t1 it1 : Expr} {ifs : List Expr} {scope : Scope} (hf : ∀ (env : Env) (x : Value), foldedSetIterable it1 env x = pure x) : Done X (.ListComp elt [⟨t0, it0, [], 0⟩, ⟨t1, it1, ifs, 0⟩] scope pos) 0 := fun A R s it acc env w =>
  comp2 hf (wpAny_mono w (fun r s₁ ⟨e, q⟩ => by subst e; exact q) fun _ _ h => h)
theorem VR.loc {D : List Addr} {ι' : Nat → Addr} {σ' : Sto} (V : VR B ι σ env m h) (T : Chg D B ι σ h ι' σ' h') (hl : env.locals ∈ D) (hd : ∀ a ∈ D, a ∈ env.cells.map (·.2) → False) (hn : ∃ mv, h'.Ns env.locals mv) : VR B ι' σ' env [] h' where
  kind := V.kind
  glob := V.glob
  bi := V.bi
  ns := hn
  cell := V.cell
  cells a ha := let ⟨cv, hc⟩ := V.cells a ha; ⟨cv, T.isCell hc (V.apart _ (List.mem_cons_of_mem _ ha)).1 fun q => hd _ q ha⟩
  var x p e := nomatch e
  apart a ha := by
    have hi : ∀ n, n < σ'.length → ι' n ≠ a := fun n hn e => by
      by_cases hs : n < σ.length
      · exact (V.apart a ha).1 n hs (by rw [← T.ext n hs]; exact e)
      · rcases List.mem_cons.mp ha with rfl | hc
        · exact (T.new n (Nat.not_lt.mp hs) hn).2 (by refine rwr e ?_; exact hl)
        · obtain ⟨o, e1⟩ := (V.apart a (List.mem_cons_of_mem _ hc)).2.2
          have := (T.new n (Nat.not_lt.mp hs) hn).1
          rw [e, e1] at this
          cases this
    refine ⟨hi, (V.apart a ha).2.1, ?_⟩
    rcases List.mem_cons.mp ha with rfl | hc
    · obtain ⟨mv, o, _, _, e, _⟩ := hn; exact ⟨o, e⟩
    · obtain ⟨cv, hc'⟩ := V.cells a hc
      obtain ⟨o, e, _⟩ := T.isCell hc' (V.apart _ (List.mem_cons_of_mem _ hc)).1 fun q => hd _ q hc
      exact ⟨o, e⟩
  nodup := V.nodup
noncomputable def SrcB (X : Stat) (d : Nat) (sc : Scope) (m : Vm) (σ : Sto) (e : Expr) (b : List UInt8) (σ' : Sto) : Prop :=
  ∀ (A : Around) (env : Env) (s : Shared) (ι : Nat → Addr) (Q : Value → Shared → Prop) (E : Value → Shared → Prop), Good d A → env.scope = sc → SR X.B ι σ s.heap → VR X.B ι σ env m s.heap →
    (∀ I fp wr h' tk ι', Step X.B ι σ s.heap ι' σ' h' → (∀ a ∈ fp, s.heap.get? a = none) → Itr X h' ι' σ' env fp wr I (.fix (b.map fun c => .int (c.toNat : Int))) → Q (.ref I) { s with heap := h', toks := tk }) →
    wpAny (model X.prog X.w) A (eval e env) (fun v s' => wpAny (model X.prog X.w) A (pyIter v) Q E s') E s
theorem srcB {e : Expr} {b : List UInt8} (h1 : Ev X d sc m σ e (.bytes b) σ₁) : SrcB X d sc m σ e b σ₁ := by
  intro A env s ι Q E g hs S V k
  refine h1 A env s ι _ E g hs S V fun v h' tk ι' T R => ?_
  refine iterF_bytes (s := { s with heap := h', toks := tk }) T.sr (V.step S T) R fun I fp wr h'' tk' T' hf hw x => ?_
  refine k I fp wr h'' tk' ι' (T.trans T') (fun b hb => ?_) x
  cases e : s.heap.get? b with
  | none => rfl
  | some o =>
    have hb' := hf b hb
    by_cases hi : ∃ n, n < σ.length ∧ ι n = b
    · obtain ⟨n, hn, e2⟩ := hi
      obtain ⟨ob, e1⟩ := T.sr.live_at (Nat.lt_of_lt_of_le hn T.len)
      rw [T.ext n hn, e2] at e1
      rw [hb'] at e1
      cases e1
    · have := T.kept b o e (fun n hn q => hi ⟨n, hn, q⟩) fun h => nomatch h
      rw [hb'] at this
      cases this
theorem cl2_turn {e elt t0 it0 t1 it1 : Expr} {ifs : List Expr} {scope : Scope} {a a' : AI} {b : List UInt8} {rs rs' : List PV} (he : e = .ListComp elt [⟨t0, it0, [], 0⟩, ⟨t1, it1, ifs, 0⟩] scope pos) (hf : ∀ (env : Env) (x : Value), foldedSetIterable it1 env x = pure x)
    (N : Nxt σ a (some (p, a'))) (hg : NoGo t0 a) (h1 : AsgL X d sc m t0 p m₁) (h2 : SrcB X d sc m₁ σ it1 b σ₁) (h3 : CL X d sc e 1 (.fix (b.map fun c => .int (c.toNat : Int))) m₁ σ₁ rs σ₂) (h4 : CL X d sc e 0 a' [] σ₂ rs' σ₃) : CL X d sc e 0 a m σ (rs ++ rs') σ₃ := by
  subst he
  intro A env s ι fp wr I acc vs k0 R g hs S V x hacc hf' ho hi hB hz k
  have hw : acc ∉ wr := fun q => hf' (x.sub _ q)
  have hloc : acc ≠ env.locals := fun q => ho (q ▸ List.mem_cons_self)
  refine comp2 hf (x.take S g.1 N hg fun v h' tk T x' r => ?_)
  have V' := V.chg x.soft S T fun a ha => x.own a (x.sub a ha)
  refine h1 A env { s with heap := h', toks := tk } ι σ v _ _ g hs T.sr V' r fun h1' tk1 T1 V1 => ?_
  have a0 : h'.get? acc = some (listOf vs.toArray k0) := T.kept _ _ hacc hi hw
  have a1 : h1'.get? acc = some (listOf vs.toArray k0) := T1.kept _ _ a0 hi fun q => hloc (List.mem_singleton.mp q)
  have x1 := x'.chg T1 fun b hb q => x.own b hb (by refine rwr (List.mem_singleton.mp q) ?_; exact List.mem_cons_self)
  refine h2 A env { s with heap := h1', toks := tk1 } ι _ _ g hs T1.sr V1 fun I2 fp2 wr2 h2' tk2 ι2 T2 hw2 y => ?_
  have V2 := V1.step T1.sr T2
  have x2 := x1.chg T2 fun _ _ h => nomatch h
  have a2 : h2'.get? acc = some (listOf vs.toArray k0) := T2.kept _ _ a1 hi fun h => nomatch h
  have hi2 : ∀ n, n < σ₁.length → ι2 n ≠ acc := (apart_chg (D := []) (l := [acc]) (P := fun _ => True) (fun _ _ h => nomatch h) (fun b hb => by refine rwr (List.mem_singleton.mp hb) ?_; exact ⟨hi, trivial, _, a1⟩) T2 acc (List.mem_singleton.mpr rfl)).1
  have accF2 : acc ∉ fp2 := fun q => by have := hw2 acc q; rw [show ({ s with heap := h1', toks := tk1 } : Shared).heap = h1' from rfl, a1] at this; cases this
  have offF : ∀ b ∈ fp, b ∉ acc :: wr2 ++ [env.locals] := fun b hb q => by
    rcases List.mem_append.mp q with q | q
    · rcases List.mem_cons.mp q with rfl | q
      · exact hf' hb
      · obtain ⟨o, e⟩ := (x1.apart b hb).2.2
        have := hw2 b (y.sub b q)
        rw [show ({ s with heap := h1', toks := tk1 } : Shared).heap = h1' from rfl, e] at this
        cases this
    · exact x.own b hb (by refine rwr (List.mem_singleton.mp q) ?_; exact List.mem_cons_self)
  rw [List.length_append] at hz
  have loop : codeAny (model X.prog X.w) A (.compLoop (.ListComp elt [⟨t0, it0, [], 0⟩, ⟨t1, it1, ifs, 0⟩] scope pos) 1 (.ref I2) (.ref acc) env) (fun r s₅ => r = .ok .next ∧ codeAny (model X.prog X.w) A (.compLoop (.ListComp elt [⟨t0, it0, [], 0⟩, ⟨t1, it1, ifs, 0⟩] scope pos) 0 (.ref I) (.ref acc) env) R s₅) { s with heap := h2', toks := tk2 } := by
    refine h3 A env { s with heap := h2', toks := tk2 } ι2 fp2 wr2 I2 acc vs k0 _ g hs T2.sr V2 y a2 accF2 ho hi2 hB (by lia) fun h3' tk3 ι3 ws k3 T3 a3 R3 n3 => ⟨rfl, ?_⟩
    have hDc : ∀ a ∈ acc :: wr2 ++ [env.locals], a ∈ env.cells.map (·.2) → False := fun a ha hc => by
      rcases List.mem_append.mp ha with ha | ha
      · rcases List.mem_cons.mp ha with rfl | ha
        · exact ho (List.mem_cons_of_mem _ hc)
        · exact y.own a (y.sub a ha) (List.mem_cons_of_mem _ hc)
      · rw [List.mem_singleton.mp ha] at hc; exact (List.nodup_cons.mp V.nodup).1 hc
    have V3 := V2.loc T3 (List.mem_append_right _ (List.mem_singleton.mpr rfl)) hDc n3
    have x3 := x2.chg T3 offF
    have hi3 : ∀ n, n < σ₂.length → ι3 n ≠ acc := fun n hn e => by
      by_cases hs : n < σ₁.length
      · exact hi2 n hs (by rw [← T3.ext n hs]; exact e)
      · exact (T3.new n (Nat.not_lt.mp hs) hn).2 (by refine rwr e ?_; exact List.mem_append_left _ List.mem_cons_self)
    have hl3 := R3.1
    refine h4 A env { s with heap := h3', toks := tk3 } ι3 fp wr I acc (vs ++ ws) k3 R g hs T3.sr V3 x3 a3 hf' ho hi3 hB (by rw [List.length_append]; lia) fun h5 tk5 ι5 ws' k5 T5 a5 R5 n5 => ?_
    have lA : ∀ a ∈ acc :: wr ++ [env.locals], ∃ o, s.heap.get? a = some o := live_all hacc x V
    have D0 : Chg (acc :: wr ++ [env.locals]) X.B ι σ s.heap ι σ h' := T.more (fun a ha => .inl (List.mem_append_left _ (List.mem_cons_of_mem _ ha))) fun a ha => .inr (.inl (lA a ha))
    have lv1 : ∀ a ∈ acc :: wr ++ [env.locals], ∃ o, h'.get? a = some o := live_all a0 x' V'
    have D1 : Chg (acc :: wr ++ [env.locals]) X.B ι σ h' ι σ h1' := T1.more (fun a ha => .inl (List.mem_append_right _ ha)) fun a ha => .inr (.inl (lv1 a ha))
    have lv3 : ∀ a ∈ acc :: wr ++ [env.locals], ∃ o, h1'.get? a = some o := live_all a1 x1 V1
    have T2' : Chg (acc :: (wr ++ wr2) ++ [env.locals]) X.B ι σ h1' ι2 σ₁ h2' := T2.more (fun _ h => nomatch h) fun a ha => by
      rcases List.mem_append.mp ha with q | q
      · rcases List.mem_cons.mp q with rfl | q
        · exact .inr (.inl ⟨_, a1⟩)
        · rcases List.mem_append.mp q with q | q
          · exact .inr (.inl (lv3 a (List.mem_append_left _ (List.mem_cons_of_mem _ q))))
          · exact .inr (.inr (y.apart a (y.sub a q)).1)
      · exact .inr (.inl (lv3 a (List.mem_append_right _ q)))
    have T3' : Chg (acc :: (wr ++ wr2) ++ [env.locals]) X.B ι2 σ₁ h2' ι3 σ₂ h3' := T3.more (fun a ha => .inl (by
        rcases List.mem_append.mp ha with q | q
        · rcases List.mem_cons.mp q with rfl | q
          · exact List.mem_append_left _ List.mem_cons_self
          · exact List.mem_append_left _ (List.mem_cons_of_mem _ (List.mem_append_right _ q))
        · exact List.mem_append_right _ q)) fun a ha => by
      rcases List.mem_append.mp ha with q | q
      · rcases List.mem_cons.mp q with rfl | q
        · exact .inl (List.mem_append_left _ List.mem_cons_self)
        · rcases List.mem_append.mp q with q | q
          · exact .inr (.inl (x2.apart a (x2.sub a q)).2.2)
          · exact .inl (List.mem_append_left _ (List.mem_cons_of_mem _ q))
      · exact .inl (List.mem_append_right _ q)
    have D2 : Chg (acc :: wr ++ [env.locals]) X.B ι σ h1' ι3 σ₂ h3' := (T2'.trans T3').more (fun a ha => by
      rcases List.mem_append.mp ha with q | q
      · rcases List.mem_cons.mp q with rfl | q
        · exact .inl (List.mem_append_left _ List.mem_cons_self)
        · rcases List.mem_append.mp q with q | q
          · exact .inl (List.mem_append_left _ (List.mem_cons_of_mem _ q))
          · exact .inr (hw2 a (y.sub a q))
      · exact .inl (List.mem_append_right _ q)) fun a ha => by
      rcases List.mem_append.mp ha with q | q
      · rcases List.mem_cons.mp q with rfl | q
        · exact .inl (List.mem_append_left _ List.mem_cons_self)
        · exact .inl (List.mem_append_left _ (List.mem_cons_of_mem _ (List.mem_append_left _ q)))
      · exact .inl (List.mem_append_right _ q)
    have sl : Soft [acc] h3' := soft_list a3
    have s5 : Soft (acc :: wr ++ [env.locals]) h3' := soft_app (soft_app (D := [acc]) sl x3.soft) (soft_locals V3)
    exact k h5 tk5 ι5 (ws ++ ws') k5 ((((D0.trans D1).trans D2).trans T5)) (by refine rwr a5 ?_; rw [List.append_assoc]) ((R3.chg s5 T3.sr T5).app R5) n5
  exact comp2_start loop (Itr.self (s := { s with heap := h2', toks := tk2 }) y g.1 loop)
theorem len_s {x : List Nat} (h : x.length ≤ 1099511627776) : CallV X d σ (.builtin "len") [.str x] (.int (x.length : Nat)) σ := CallV.tok1 fun A s ι v Q E g S' R k => by
  obtain ⟨t, rfl⟩ := R.str_inv
  · have e := S_len x
    have := len_str (prog := X.prog) (w := X.w) (A := A) (s := s) (E := E) (x := S x) (t := t) (Q := Q) (by refine rwr e ?_; lia) (by refine rwr e ?_; exact k _ _ (.int _ _))
    exact this
theorem len_t {l : List PV} (h : (l.length : Int) < 2 ^ 63) : CallV X d σ (.builtin "len") [.tup l] (.int (l.length : Nat)) σ := CallV.tok1 fun A s ι v Q E g S R k => by
  obtain ⟨a, vs, rfl, ht, hl, hr⟩ := R.tup_inv
  · have hs : ((vs.toArray.size : Nat) : Int) = (l.length : Nat) := by refine rwr hl ?_; simp
    have ht' : IsTup s.heap a vs.toArray := ht
    with_reducible refine PyProof.Rows.len_tuple ht' (by refine rwr hs ?_; exact h) ?_
    refine rwr hs ?_
    exact k _ _ (.int _ _)
end
noncomputable section
theorem dif_el {p : Prop} [Decidable p] {a : p → Bool} {C : Prop} (h : (if h : p then a h else false) = true) (f : ∀ c : p, a c = true → C) : C := if c : p then f c (by rwa [dif_pos c] at h) else by rw [dif_neg c] at h; cases h
inductive Src' where
  | e (x : Expr) | es (l : List Expr) | t (x : Expr) | ch (op : BoolOp) (l : List Expr) | o (x : Option Expr) | cs (l : List Expr) | vc (op : BoolOp) (l : List Expr) | cj (x : Expr)
noncomputable def cInt (z : Const) (k : Int → Bool) : Bool := if h : z.ctorIdx = 2 then Const.int.elim (motive := fun _ => Bool) z h (fun i => k i) else false
@[elab_as_elim] theorem cInt_el {C : Const → Prop} {z : Const} {k : Int → Bool} (h : cInt z k = true) (go : ∀ i, k i = true → C (Const.int i)) : C z := dif_el h fun c h => Const.int.elim (motive := fun z => ∀ c : z.ctorIdx = 2, Const.int.elim (motive := fun _ => Bool) z c (fun i => k i) = true → C z) z c (fun i _ h => go i h) c h
noncomputable def cStr (z : Const) (k : Str → Bool) : Bool := if h : z.ctorIdx = 5 then Const.str.elim (motive := fun _ => Bool) z h (fun s => k s) else false
@[elab_as_elim] theorem cStr_el {C : Const → Prop} {z : Const} {k : Str → Bool} (h : cStr z k = true) (go : ∀ s, k s = true → C (Const.str s)) : C z := dif_el h fun c h => Const.str.elim (motive := fun z => ∀ c : z.ctorIdx = 5, Const.str.elim (motive := fun _ => Bool) z c (fun s => k s) = true → C z) z c (fun s _ h => go s h) c h
noncomputable def cByt (z : Const) (k : (List UInt8) → Bool) : Bool := if h : z.ctorIdx = 6 then Const.bytes.elim (motive := fun _ => Bool) z h (fun b => k b) else false
@[elab_as_elim] theorem cByt_el {C : Const → Prop} {z : Const} {k : (List UInt8) → Bool} (h : cByt z k = true) (go : ∀ b, k b = true → C (Const.bytes b)) : C z := dif_el h fun c h => Const.bytes.elim (motive := fun z => ∀ c : z.ctorIdx = 6, Const.bytes.elim (motive := fun _ => Bool) z c (fun b => k b) = true → C z) z c (fun b _ h => go b h) c h
noncomputable def cNon (z : Const) : Bool := if h : z.ctorIdx = 0 then Const.none.elim (motive := fun _ => Bool) z h (true) else false
@[elab_as_elim] theorem cNon_el {C : Const → Prop} {z : Const} (h : cNon z = true) (go : C (Const.none)) : C z := dif_el h fun c h => Const.none.elim (motive := fun z => ∀ c : z.ctorIdx = 0, Const.none.elim (motive := fun _ => Bool) z c (true) = true → C z) z c (fun _ h => go) c h
noncomputable def cBool (z : Const) (k : Bool → Bool) : Bool := if h : z.ctorIdx = 1 then Const.bool.elim (motive := fun _ => Bool) z h (fun b => k b) else false
@[elab_as_elim] theorem cBool_el {C : Const → Prop} {z : Const} {k : Bool → Bool} (h : cBool z k = true) (go : ∀ b, k b = true → C (Const.bool b)) : C z := dif_el h fun c h => Const.bool.elim (motive := fun z => ∀ c : z.ctorIdx = 1, Const.bool.elim (motive := fun _ => Bool) z c (fun b => k b) = true → C z) z c (fun b _ h => go b h) c h
noncomputable def xConst (z : Expr) (k : Const → Bool) : Bool := if h : z.ctorIdx = 19 then Expr.Constant.elim (motive_1 := fun _ => Bool) z h (fun v _ _ => k v) else false
@[elab_as_elim] theorem xConst_el {C : Expr → Prop} {z : Expr} {k : Const → Bool} (h : xConst z k = true) (go : ∀ v n1 pos, k v = true → C (Expr.Constant v n1 pos)) : C z := dif_el h fun c h => Expr.Constant.elim (motive_1 := fun z => ∀ c : z.ctorIdx = 19, Expr.Constant.elim (motive_1 := fun _ => Bool) z c (fun v _ _ => k v) = true → C z) z c (fun v n1 pos _ h => go v n1 pos h) c h
noncomputable def xName (z : Expr) (k : Str → Bool) : Bool := if h : z.ctorIdx = 23 then Expr.Name.elim (motive_1 := fun _ => Bool) z h (fun y _ => k y) else false
@[elab_as_elim] theorem xName_el {C : Expr → Prop} {z : Expr} {k : Str → Bool} (h : xName z k = true) (go : ∀ y pos, k y = true → C (Expr.Name y pos)) : C z := dif_el h fun c h => Expr.Name.elim (motive_1 := fun z => ∀ c : z.ctorIdx = 23, Expr.Name.elim (motive_1 := fun _ => Bool) z c (fun y _ => k y) = true → C z) z c (fun y pos _ h => go y pos h) c h
theorem xName_ok {z : Expr} {k : Str → Bool} (h : xName z k = true) : ∃ y pos, z = Expr.Name y pos ∧ k y = true := xName_el (C := fun z => ∃ y pos, z = Expr.Name y pos ∧ k y = true) h fun y pos h => ⟨y, pos, rfl, h⟩
noncomputable def xNamep (z : Expr) (k : Str → Pos → Bool) : Bool := if h : z.ctorIdx = 23 then Expr.Name.elim (motive_1 := fun _ => Bool) z h (fun y pos => k y pos) else false
@[elab_as_elim] theorem xNamep_el {C : Expr → Prop} {z : Expr} {k : Str → Pos → Bool} (h : xNamep z k = true) (go : ∀ y pos, k y pos = true → C (Expr.Name y pos)) : C z := dif_el h fun c h => Expr.Name.elim (motive_1 := fun z => ∀ c : z.ctorIdx = 23, Expr.Name.elim (motive_1 := fun _ => Bool) z c (fun y pos => k y pos) = true → C z) z c (fun y pos _ h => go y pos h) c h
noncomputable def xBin (z : Expr) (k : Expr → Operator → Expr → Bool) : Bool := if h : z.ctorIdx = 2 then Expr.BinOp.elim (motive_1 := fun _ => Bool) z h (fun l op r _ => k l op r) else false
@[elab_as_elim] theorem xBin_el {C : Expr → Prop} {z : Expr} {k : Expr → Operator → Expr → Bool} (h : xBin z k = true) (go : ∀ l op r pos, k l op r = true → C (Expr.BinOp l op r pos)) : C z := dif_el h fun c h => Expr.BinOp.elim (motive_1 := fun z => ∀ c : z.ctorIdx = 2, Expr.BinOp.elim (motive_1 := fun _ => Bool) z c (fun l op r _ => k l op r) = true → C z) z c (fun l op r pos _ h => go l op r pos h) c h
noncomputable def xUn (z : Expr) (k : UnaryOp → Expr → Bool) : Bool := if h : z.ctorIdx = 3 then Expr.UnaryOp.elim (motive_1 := fun _ => Bool) z h (fun op e _ => k op e) else false
@[elab_as_elim] theorem xUn_el {C : Expr → Prop} {z : Expr} {k : UnaryOp → Expr → Bool} (h : xUn z k = true) (go : ∀ op e pos, k op e = true → C (Expr.UnaryOp op e pos)) : C z := dif_el h fun c h => Expr.UnaryOp.elim (motive_1 := fun z => ∀ c : z.ctorIdx = 3, Expr.UnaryOp.elim (motive_1 := fun _ => Bool) z c (fun op e _ => k op e) = true → C z) z c (fun op e pos _ h => go op e pos h) c h
noncomputable def xCmp (z : Expr) (k : Expr → (List CmpOp) → (List Expr) → Bool) : Bool := if h : z.ctorIdx = 15 then Expr.Compare.elim (motive_1 := fun _ => Bool) z h (fun l ops cs _ => k l ops cs) else false
@[elab_as_elim] theorem xCmp_el {C : Expr → Prop} {z : Expr} {k : Expr → (List CmpOp) → (List Expr) → Bool} (h : xCmp z k = true) (go : ∀ l ops cs pos, k l ops cs = true → C (Expr.Compare l ops cs pos)) : C z := dif_el h fun c h => Expr.Compare.elim (motive_1 := fun z => ∀ c : z.ctorIdx = 15, Expr.Compare.elim (motive_1 := fun _ => Bool) z c (fun l ops cs _ => k l ops cs) = true → C z) z c (fun l ops cs pos _ h => go l ops cs pos h) c h
noncomputable def xIf (z : Expr) (k : Expr → Expr → Expr → Bool) : Bool := if h : z.ctorIdx = 5 then Expr.IfExp.elim (motive_1 := fun _ => Bool) z h (fun t a b _ => k t a b) else false
@[elab_as_elim] theorem xIf_el {C : Expr → Prop} {z : Expr} {k : Expr → Expr → Expr → Bool} (h : xIf z k = true) (go : ∀ t a b pos, k t a b = true → C (Expr.IfExp t a b pos)) : C z := dif_el h fun c h => Expr.IfExp.elim (motive_1 := fun z => ∀ c : z.ctorIdx = 5, Expr.IfExp.elim (motive_1 := fun _ => Bool) z c (fun t a b _ => k t a b) = true → C z) z c (fun t a b pos _ h => go t a b pos h) c h
noncomputable def xBo (z : Expr) (k : BoolOp → (List Expr) → Bool) : Bool := if h : z.ctorIdx = 0 then Expr.BoolOp.elim (motive_1 := fun _ => Bool) z h (fun op l _ => k op l) else false
@[elab_as_elim] theorem xBo_el {C : Expr → Prop} {z : Expr} {k : BoolOp → (List Expr) → Bool} (h : xBo z k = true) (go : ∀ op l pos, k op l = true → C (Expr.BoolOp op l pos)) : C z := dif_el h fun c h => Expr.BoolOp.elim (motive_1 := fun z => ∀ c : z.ctorIdx = 0, Expr.BoolOp.elim (motive_1 := fun _ => Bool) z c (fun op l _ => k op l) = true → C z) z c (fun op l pos _ h => go op l pos h) c h
noncomputable def xTup (z : Expr) (k : (List Expr) → Bool) : Bool := if h : z.ctorIdx = 25 then Expr.Tuple.elim (motive_1 := fun _ => Bool) z h (fun l _ _ => k l) else false
@[elab_as_elim] theorem xTup_el {C : Expr → Prop} {z : Expr} {k : (List Expr) → Bool} (h : xTup z k = true) (go : ∀ l n1 pos, k l = true → C (Expr.Tuple l n1 pos)) : C z := dif_el h fun c h => Expr.Tuple.elim (motive_1 := fun z => ∀ c : z.ctorIdx = 25, Expr.Tuple.elim (motive_1 := fun _ => Bool) z c (fun l _ _ => k l) = true → C z) z c (fun l n1 pos _ h => go l n1 pos h) c h
theorem xTup_ok {z : Expr} {k : (List Expr) → Bool} (h : xTup z k = true) : ∃ l n1 pos, z = Expr.Tuple l n1 pos ∧ k l = true := xTup_el (C := fun z => ∃ l n1 pos, z = Expr.Tuple l n1 pos ∧ k l = true) h fun l n1 pos h => ⟨l, n1, pos, rfl, h⟩
noncomputable def xLst (z : Expr) (k : (List Expr) → Bool) : Bool := if h : z.ctorIdx = 24 then Expr.List.elim (motive_1 := fun _ => Bool) z h (fun l _ => k l) else false
@[elab_as_elim] theorem xLst_el {C : Expr → Prop} {z : Expr} {k : (List Expr) → Bool} (h : xLst z k = true) (go : ∀ l pos, k l = true → C (Expr.List l pos)) : C z := dif_el h fun c h => Expr.List.elim (motive_1 := fun z => ∀ c : z.ctorIdx = 24, Expr.List.elim (motive_1 := fun _ => Bool) z c (fun l _ => k l) = true → C z) z c (fun l pos _ h => go l pos h) c h
noncomputable def xDict (z : Expr) (k : (List (Option Expr)) → (List Expr) → Bool) : Bool := if h : z.ctorIdx = 6 then Expr.Dict.elim (motive_1 := fun _ => Bool) z h (fun ks vs _ => k ks vs) else false
@[elab_as_elim] theorem xDict_el {C : Expr → Prop} {z : Expr} {k : (List (Option Expr)) → (List Expr) → Bool} (h : xDict z k = true) (go : ∀ ks vs pos, k ks vs = true → C (Expr.Dict ks vs pos)) : C z := dif_el h fun c h => Expr.Dict.elim (motive_1 := fun z => ∀ c : z.ctorIdx = 6, Expr.Dict.elim (motive_1 := fun _ => Bool) z c (fun ks vs _ => k ks vs) = true → C z) z c (fun ks vs pos _ h => go ks vs pos h) c h
noncomputable def xCall (z : Expr) (k : Expr → (List Expr) → (List Keyword) → Pos → Bool) : Bool := if h : z.ctorIdx = 16 then Expr.Call.elim (motive_1 := fun _ => Bool) z h (fun f as ks pos => k f as ks pos) else false
@[elab_as_elim] theorem xCall_el {C : Expr → Prop} {z : Expr} {k : Expr → (List Expr) → (List Keyword) → Pos → Bool} (h : xCall z k = true) (go : ∀ f as ks pos, k f as ks pos = true → C (Expr.Call f as ks pos)) : C z := dif_el h fun c h => Expr.Call.elim (motive_1 := fun z => ∀ c : z.ctorIdx = 16, Expr.Call.elim (motive_1 := fun _ => Bool) z c (fun f as ks pos => k f as ks pos) = true → C z) z c (fun f as ks pos _ h => go f as ks pos h) c h
theorem xCall_ok {z : Expr} {k : Expr → (List Expr) → (List Keyword) → Pos → Bool} (h : xCall z k = true) : ∃ f as ks pos, z = Expr.Call f as ks pos ∧ k f as ks pos = true := xCall_el (C := fun z => ∃ f as ks pos, z = Expr.Call f as ks pos ∧ k f as ks pos = true) h fun f as ks pos h => ⟨f, as, ks, pos, rfl, h⟩
noncomputable def xAttr (z : Expr) (k : Expr → Str → Pos → Bool) : Bool := if h : z.ctorIdx = 20 then Expr.Attribute.elim (motive_1 := fun _ => Bool) z h (fun o y pos => k o y pos) else false
@[elab_as_elim] theorem xAttr_el {C : Expr → Prop} {z : Expr} {k : Expr → Str → Pos → Bool} (h : xAttr z k = true) (go : ∀ o y pos, k o y pos = true → C (Expr.Attribute o y pos)) : C z := dif_el h fun c h => Expr.Attribute.elim (motive_1 := fun z => ∀ c : z.ctorIdx = 20, Expr.Attribute.elim (motive_1 := fun _ => Bool) z c (fun o y pos => k o y pos) = true → C z) z c (fun o y pos _ h => go o y pos h) c h
noncomputable def xSub (z : Expr) (k : Expr → Expr → Bool) : Bool := if h : z.ctorIdx = 21 then Expr.Subscript.elim (motive_1 := fun _ => Bool) z h (fun v i _ => k v i) else false
@[elab_as_elim] theorem xSub_el {C : Expr → Prop} {z : Expr} {k : Expr → Expr → Bool} (h : xSub z k = true) (go : ∀ v i pos, k v i = true → C (Expr.Subscript v i pos)) : C z := dif_el h fun c h => Expr.Subscript.elim (motive_1 := fun z => ∀ c : z.ctorIdx = 21, Expr.Subscript.elim (motive_1 := fun _ => Bool) z c (fun v i _ => k v i) = true → C z) z c (fun v i pos _ h => go v i pos h) c h
noncomputable def xSlc (z : Expr) (k : (Option Expr) → (Option Expr) → (Option Expr) → Bool) : Bool := if h : z.ctorIdx = 26 then Expr.Slice.elim (motive_1 := fun _ => Bool) z h (fun l u st _ => k l u st) else false
@[elab_as_elim] theorem xSlc_el {C : Expr → Prop} {z : Expr} {k : (Option Expr) → (Option Expr) → (Option Expr) → Bool} (h : xSlc z k = true) (go : ∀ l u st pos, k l u st = true → C (Expr.Slice l u st pos)) : C z := dif_el h fun c h => Expr.Slice.elim (motive_1 := fun z => ∀ c : z.ctorIdx = 26, Expr.Slice.elim (motive_1 := fun _ => Bool) z c (fun l u st _ => k l u st) = true → C z) z c (fun l u st pos _ h => go l u st pos h) c h
noncomputable def xLc (z : Expr) (k : Expr → (List Comprehension) → Scope → Pos → Bool) : Bool := if h : z.ctorIdx = 8 then Expr.ListComp.elim (motive_1 := fun _ => Bool) z h (fun e gs sc pos => k e gs sc pos) else false
@[elab_as_elim] theorem xLc_el {C : Expr → Prop} {z : Expr} {k : Expr → (List Comprehension) → Scope → Pos → Bool} (h : xLc z k = true) (go : ∀ e gs sc pos, k e gs sc pos = true → C (Expr.ListComp e gs sc pos)) : C z := dif_el h fun c h => Expr.ListComp.elim (motive_1 := fun z => ∀ c : z.ctorIdx = 8, Expr.ListComp.elim (motive_1 := fun _ => Bool) z c (fun e gs sc pos => k e gs sc pos) = true → C z) z c (fun e gs sc pos _ h => go e gs sc pos h) c h
theorem xLc_ok {z : Expr} {k : Expr → (List Comprehension) → Scope → Pos → Bool} (h : xLc z k = true) : ∃ e gs sc pos, z = Expr.ListComp e gs sc pos ∧ k e gs sc pos = true := xLc_el (C := fun z => ∃ e gs sc pos, z = Expr.ListComp e gs sc pos ∧ k e gs sc pos = true) h fun e gs sc pos h => ⟨e, gs, sc, pos, rfl, h⟩
noncomputable def sEx (z : Stmt) (k : Expr → Bool) : Bool := if h : z.ctorIdx = 24 then Stmt.Expr.elim (motive_2 := fun _ => Bool) z h (fun e _ => k e) else false
@[elab_as_elim] theorem sEx_el {C : Stmt → Prop} {z : Stmt} {k : Expr → Bool} (h : sEx z k = true) (go : ∀ e pos, k e = true → C (Stmt.Expr e pos)) : C z := dif_el h fun c h => Stmt.Expr.elim (motive_2 := fun z => ∀ c : z.ctorIdx = 24, Stmt.Expr.elim (motive_2 := fun _ => Bool) z c (fun e _ => k e) = true → C z) z c (fun e pos _ h => go e pos h) c h
noncomputable def sAs (z : Stmt) (k : (List Expr) → Expr → Bool) : Bool := if h : z.ctorIdx = 5 then Stmt.Assign.elim (motive_2 := fun _ => Bool) z h (fun ts e _ => k ts e) else false
@[elab_as_elim] theorem sAs_el {C : Stmt → Prop} {z : Stmt} {k : (List Expr) → Expr → Bool} (h : sAs z k = true) (go : ∀ ts e pos, k ts e = true → C (Stmt.Assign ts e pos)) : C z := dif_el h fun c h => Stmt.Assign.elim (motive_2 := fun z => ∀ c : z.ctorIdx = 5, Stmt.Assign.elim (motive_2 := fun _ => Bool) z c (fun ts e _ => k ts e) = true → C z) z c (fun ts e pos _ h => go ts e pos h) c h
noncomputable def sRt (z : Stmt) (k : (Option Expr) → Bool) : Bool := if h : z.ctorIdx = 3 then Stmt.Return.elim (motive_2 := fun _ => Bool) z h (fun e _ => k e) else false
@[elab_as_elim] theorem sRt_el {C : Stmt → Prop} {z : Stmt} {k : (Option Expr) → Bool} (h : sRt z k = true) (go : ∀ e pos, k e = true → C (Stmt.Return e pos)) : C z := dif_el h fun c h => Stmt.Return.elim (motive_2 := fun z => ∀ c : z.ctorIdx = 3, Stmt.Return.elim (motive_2 := fun _ => Bool) z c (fun e _ => k e) = true → C z) z c (fun e pos _ h => go e pos h) c h
noncomputable def sIf (z : Stmt) (k : Expr → (List Stmt) → (List Stmt) → Bool) : Bool := if h : z.ctorIdx = 12 then Stmt.If.elim (motive_2 := fun _ => Bool) z h (fun t a b _ => k t a b) else false
@[elab_as_elim] theorem sIf_el {C : Stmt → Prop} {z : Stmt} {k : Expr → (List Stmt) → (List Stmt) → Bool} (h : sIf z k = true) (go : ∀ t a b pos, k t a b = true → C (Stmt.If t a b pos)) : C z := dif_el h fun c h => Stmt.If.elim (motive_2 := fun z => ∀ c : z.ctorIdx = 12, Stmt.If.elim (motive_2 := fun _ => Bool) z c (fun t a b _ => k t a b) = true → C z) z c (fun t a b pos _ h => go t a b pos h) c h
noncomputable def sWh (z : Stmt) (k : Expr → (List Stmt) → (List Stmt) → Bool) : Bool := if h : z.ctorIdx = 11 then Stmt.While.elim (motive_2 := fun _ => Bool) z h (fun t a b _ => k t a b) else false
@[elab_as_elim] theorem sWh_el {C : Stmt → Prop} {z : Stmt} {k : Expr → (List Stmt) → (List Stmt) → Bool} (h : sWh z k = true) (go : ∀ t a b pos, k t a b = true → C (Stmt.While t a b pos)) : C z := dif_el h fun c h => Stmt.While.elim (motive_2 := fun z => ∀ c : z.ctorIdx = 11, Stmt.While.elim (motive_2 := fun _ => Bool) z c (fun t a b _ => k t a b) = true → C z) z c (fun t a b pos _ h => go t a b pos h) c h
noncomputable def sFor (z : Stmt) (k : Expr → Expr → (List Stmt) → (List Stmt) → Bool) : Bool := if h : z.ctorIdx = 9 then Stmt.For.elim (motive_2 := fun _ => Bool) z h (fun t i a b _ => k t i a b) else false
@[elab_as_elim] theorem sFor_el {C : Stmt → Prop} {z : Stmt} {k : Expr → Expr → (List Stmt) → (List Stmt) → Bool} (h : sFor z k = true) (go : ∀ t i a b pos, k t i a b = true → C (Stmt.For t i a b pos)) : C z := dif_el h fun c h => Stmt.For.elim (motive_2 := fun z => ∀ c : z.ctorIdx = 9, Stmt.For.elim (motive_2 := fun _ => Bool) z c (fun t i a b _ => k t i a b) = true → C z) z c (fun t i a b pos _ h => go t i a b pos h) c h
noncomputable def sPa (z : Stmt) : Bool := if h : z.ctorIdx = 25 then Stmt.Pass.elim (motive_2 := fun _ => Bool) z h (fun _ => true) else false
@[elab_as_elim] theorem sPa_el {C : Stmt → Prop} {z : Stmt} (h : sPa z = true) (go : ∀ pos, C (Stmt.Pass pos)) : C z := dif_el h fun c h => Stmt.Pass.elim (motive_2 := fun z => ∀ c : z.ctorIdx = 25, Stmt.Pass.elim (motive_2 := fun _ => Bool) z c (fun _ => true) = true → C z) z c (fun pos _ h => go pos) c h
noncomputable def sBr (z : Stmt) : Bool := if h : z.ctorIdx = 26 then Stmt.Break.elim (motive_2 := fun _ => Bool) z h (fun _ => true) else false
@[elab_as_elim] theorem sBr_el {C : Stmt → Prop} {z : Stmt} (h : sBr z = true) (go : ∀ pos, C (Stmt.Break pos)) : C z := dif_el h fun c h => Stmt.Break.elim (motive_2 := fun z => ∀ c : z.ctorIdx = 26, Stmt.Break.elim (motive_2 := fun _ => Bool) z c (fun _ => true) = true → C z) z c (fun pos _ h => go pos) c h
noncomputable def sCo (z : Stmt) : Bool := if h : z.ctorIdx = 27 then Stmt.Continue.elim (motive_2 := fun _ => Bool) z h (fun _ => true) else false
@[elab_as_elim] theorem sCo_el {C : Stmt → Prop} {z : Stmt} (h : sCo z = true) (go : ∀ pos, C (Stmt.Continue pos)) : C z := dif_el h fun c h => Stmt.Continue.elim (motive_2 := fun z => ∀ c : z.ctorIdx = 27, Stmt.Continue.elim (motive_2 := fun _ => Bool) z c (fun _ => true) = true → C z) z c (fun pos _ h => go pos) c h
noncomputable def kE (z : Src') (k : Expr → Bool) : Bool := if h : z.ctorIdx = 0 then Src'.e.elim (motive := fun _ => Bool) z h (fun x => k x) else false
@[elab_as_elim] theorem kE_el {C : Src' → Prop} {z : Src'} {k : Expr → Bool} (h : kE z k = true) (go : ∀ x, k x = true → C (Src'.e x)) : C z := dif_el h fun c h => Src'.e.elim (motive := fun z => ∀ c : z.ctorIdx = 0, Src'.e.elim (motive := fun _ => Bool) z c (fun x => k x) = true → C z) z c (fun x _ h => go x h) c h
noncomputable def kEs (z : Src') (k : (List Expr) → Bool) : Bool := if h : z.ctorIdx = 1 then Src'.es.elim (motive := fun _ => Bool) z h (fun l => k l) else false
@[elab_as_elim] theorem kEs_el {C : Src' → Prop} {z : Src'} {k : (List Expr) → Bool} (h : kEs z k = true) (go : ∀ l, k l = true → C (Src'.es l)) : C z := dif_el h fun c h => Src'.es.elim (motive := fun z => ∀ c : z.ctorIdx = 1, Src'.es.elim (motive := fun _ => Bool) z c (fun l => k l) = true → C z) z c (fun l _ h => go l h) c h
noncomputable def kT (z : Src') (k : Expr → Bool) : Bool := if h : z.ctorIdx = 2 then Src'.t.elim (motive := fun _ => Bool) z h (fun x => k x) else false
@[elab_as_elim] theorem kT_el {C : Src' → Prop} {z : Src'} {k : Expr → Bool} (h : kT z k = true) (go : ∀ x, k x = true → C (Src'.t x)) : C z := dif_el h fun c h => Src'.t.elim (motive := fun z => ∀ c : z.ctorIdx = 2, Src'.t.elim (motive := fun _ => Bool) z c (fun x => k x) = true → C z) z c (fun x _ h => go x h) c h
noncomputable def kCh (z : Src') (k : BoolOp → (List Expr) → Bool) : Bool := if h : z.ctorIdx = 3 then Src'.ch.elim (motive := fun _ => Bool) z h (fun op l => k op l) else false
@[elab_as_elim] theorem kCh_el {C : Src' → Prop} {z : Src'} {k : BoolOp → (List Expr) → Bool} (h : kCh z k = true) (go : ∀ op l, k op l = true → C (Src'.ch op l)) : C z := dif_el h fun c h => Src'.ch.elim (motive := fun z => ∀ c : z.ctorIdx = 3, Src'.ch.elim (motive := fun _ => Bool) z c (fun op l => k op l) = true → C z) z c (fun op l _ h => go op l h) c h
noncomputable def kO (z : Src') (k : (Option Expr) → Bool) : Bool := if h : z.ctorIdx = 4 then Src'.o.elim (motive := fun _ => Bool) z h (fun x => k x) else false
@[elab_as_elim] theorem kO_el {C : Src' → Prop} {z : Src'} {k : (Option Expr) → Bool} (h : kO z k = true) (go : ∀ x, k x = true → C (Src'.o x)) : C z := dif_el h fun c h => Src'.o.elim (motive := fun z => ∀ c : z.ctorIdx = 4, Src'.o.elim (motive := fun _ => Bool) z c (fun x => k x) = true → C z) z c (fun x _ h => go x h) c h
noncomputable def kCs (z : Src') (k : (List Expr) → Bool) : Bool := if h : z.ctorIdx = 5 then Src'.cs.elim (motive := fun _ => Bool) z h (fun l => k l) else false
@[elab_as_elim] theorem kCs_el {C : Src' → Prop} {z : Src'} {k : (List Expr) → Bool} (h : kCs z k = true) (go : ∀ l, k l = true → C (Src'.cs l)) : C z := dif_el h fun c h => Src'.cs.elim (motive := fun z => ∀ c : z.ctorIdx = 5, Src'.cs.elim (motive := fun _ => Bool) z c (fun l => k l) = true → C z) z c (fun l _ h => go l h) c h
noncomputable def kVc (z : Src') (k : BoolOp → (List Expr) → Bool) : Bool := if h : z.ctorIdx = 6 then Src'.vc.elim (motive := fun _ => Bool) z h (fun op l => k op l) else false
@[elab_as_elim] theorem kVc_el {C : Src' → Prop} {z : Src'} {k : BoolOp → (List Expr) → Bool} (h : kVc z k = true) (go : ∀ op l, k op l = true → C (Src'.vc op l)) : C z := dif_el h fun c h => Src'.vc.elim (motive := fun z => ∀ c : z.ctorIdx = 6, Src'.vc.elim (motive := fun _ => Bool) z c (fun op l => k op l) = true → C z) z c (fun op l _ h => go op l h) c h
theorem nil_ok {α : Type} {l : List α} (h : l.isEmpty = true) : l = [] := List.isEmpty_iff.mp h
theorem dec_ok {p : Prop} [Decidable p] (h : decide p = true) : p := of_decide_eq_true h
theorem not_ok {b : Bool} (h : (!b) = true) : b = false := by rwa [Bool.not_eq_true'] at h
theorem and_ok {a b : Bool} (h : (a && b) = true) : a = true ∧ b = true := by rwa [Bool.and_eq_true] at h
theorem and_l {a b : Bool} (h : (a && b) = true) : a = true := (and_ok h).1
theorem and_r {a b : Bool} (h : (a && b) = true) : b = true := (and_ok h).2
@[elab_as_elim] theorem nil_el {α : Type} {C : List α → Prop} {l : List α} (h : l.isEmpty = true) (f : C []) : C l := nil_ok h ▸ f
@[elab_as_elim] theorem dec_el {α : Type} {a b : α} {C : α → Prop} [Decidable (a = b)] (h : decide (a = b) = true) (f : C a) : C b := dec_ok h ▸ f
noncomputable def lC {α : Type} (l : List α) (k : α → List α → Bool) : Bool := match l with | x :: r => k x r | [] => false
@[elab_as_elim] theorem lC_el {α : Type} {C : List α → Prop} {l : List α} {k : α → List α → Bool} (h : lC l k = true) (f : ∀ x r, k x r = true → C (x :: r)) : C l := by
  cases l with
  | nil => cases h
  | cons x r => exact f x r h
theorem lC_ok {α : Type} {l : List α} {k : α → List α → Bool} (h : lC l k = true) : ∃ x r, l = x :: r ∧ k x r = true := lC_el (C := fun l => ∃ x r, l = x :: r ∧ k x r = true) h fun x r h => ⟨x, r, rfl, h⟩
noncomputable def l1 {α : Type} (l : List α) (k : α → Bool) : Bool := lC l fun x r => r.isEmpty && k x
@[elab_as_elim] theorem l1_el {α : Type} {C : List α → Prop} {l : List α} {k : α → Bool} (h : l1 l k = true) (f : ∀ x, k x = true → C [x]) : C l :=
  lC_el h fun x r h => nil_el (and_l h) (f x (and_r h))
noncomputable def l2 {α : Type} (l : List α) (k : α → α → Bool) : Bool := lC l fun x r => l1 r fun y => k x y
@[elab_as_elim] theorem l2_el {α : Type} {C : List α → Prop} {l : List α} {k : α → α → Bool} (h : l2 l k = true) (f : ∀ x y, k x y = true → C [x, y]) : C l :=
  lC_el h fun x r h => l1_el h fun y h => f x y h
noncomputable def oS {α : Type} (o : Option α) (k : α → Bool) : Bool := match o with | some x => k x | none => false
@[elab_as_elim] theorem oS_el {α : Type} {C : Option α → Prop} {o : Option α} {k : α → Bool} (h : oS o k = true) (f : ∀ x, k x = true → C (some x)) : C o := by
  cases o with
  | none => cases h
  | some x => exact f x h
theorem oS_ok {α : Type} {o : Option α} {k : α → Bool} (h : oS o k = true) : ∃ x, o = some x ∧ k x = true := oS_el (C := fun o => ∃ x, o = some x ∧ k x = true) h fun x h => ⟨x, rfl, h⟩
noncomputable def idxOff (e : Expr) (l : List Nat) : Bool := !(l.contains e.ctorIdx)
end
noncomputable section
inductive LK where | one | tup | enum
inductive CE where
  | int (i : Int) | str (s : List Nat) | byt (b : List UInt8) | bool (b : Bool)
  | var (x : Nat) | glb (x : Str)
  | bin (op : Operator) (a b : CE) | un (op : UnaryOp) (a : CE) | cmp (op : CmpOp) (a b : CE)
  | ite (t a b : CE)
  | tval (e : CE) | tcmp (op : CmpOp) (a b : CE) | tnot (t : CE) | tall (op : BoolOp) (ts : CE)
  | chn (op : BoolOp) | chc (op : BoolOp) (t ts : CE)
  | nil | cons (e es : CE)
  | tup (es : CE) | lst (es : CE)
  | call (f : Str) (e es : CE)
  | meth (o : CE) (name : Str) (e es : CE) | meth0 (o : CE) (name : Str) | attr (o : CE) (name : Str) | dict0
  | idx (a i : CE) | slc (held : Bool) (a lo hi : CE) | onone | osome (e : CE)
  | cmp2 (o₁ o₂ : CmpOp) (a b c : CE) | tcmp2 (o₁ o₂ : CmpOp) (a b c : CE)
  | vall (op : BoolOp) (es : CE) | vlast (e : CE) | vchc (op : BoolOp) (e es : CE)
  | comp (k : LK) (xs : List Str) (caps : List Nat) (elt it cond : CE)
  | comp2 (x y : Str) (elt it₀ it₁ cond : CE)
  | yes | one (t : CE)
  | junk
noncomputable abbrev Vs := List (Option PV)
noncomputable def getV : Vs → Nat → Option PV
  | [], _ => none
  | a :: _, 0 => a
  | _ :: r, n + 1 => getV r n
noncomputable def setV : Vs → Nat → PV → Vs
  | [], _, _ => []
  | _ :: r, 0, p => some p :: r
  | a :: r, n + 1, p => a :: setV r n p
noncomputable def capV (v : Vs) (t : Vs) : List Nat → Vs
  | [] => t
  | i :: r => getV v i :: capV v t r
noncomputable def GlobIs (X : Stat) (x : Str) (p : PV) : Prop := ∃ v, X.mg x = some v ∧ ∀ (h : Heap) (ι : Nat → Addr) (k : Nat), (∀ b o, X.B.get? b = some o → h.get? b = some o) → Rep h ι k p v
noncomputable def NameIs (X : Stat) (x : Str) (v : Value) : Prop := X.mg x = some v ∨ (X.mg x = none ∧ bootBuiltins x = some v ∧ x ≠ "__name__")
inductive CF (X : Stat) (d : Nat) (σ : Sto) (x : Str) (ps : List PV) (r : PV) (σ' : Sto) : Prop
  | mk (f : Value) (n : NameIs X x f) (c : Callee X f) (h : CallV X d σ f ps r σ')
inductive MF (X : Stat) (d : Nat) (σ₀ : Sto) (p : PV) (σ : Sto) (name : Str) (ps : List PV) (r : PV) (σ' : Sto) : Prop
  | mk (T id : String) (M : Mth T id name) (hT : ∀ (s : Shared) (ι : Nat → Addr) (v : Value), SR X.B ι σ₀ s.heap → Rep s.heap ι σ₀.length p v → s.TypeIs v T ∧ ∀ a, v = .ref a → ∃ ob, s.heap.get? a = some ob ∧ ob.dict = none) (h : CallV X d σ (.builtin id) (p :: ps) r σ')
noncomputable def Itm (X : Stat) (d : Nat) (σ : Sto) (p q r : PV) (σ' : Sto) : Prop := ∀ value slice : Expr, Plain slice → Op2 X d σ (subscriptTail value slice) p q r σ'
noncomputable def Cut (X : Stat) (d : Nat) (σ : Sto) (held : Bool) (p : PV) (lo hi : Option Int) (r : PV) (σ' : Sto) : Prop := ∀ value : Expr, (held = true → Held value) → Slc X d σ value p lo hi r σ'
inductive AtF (X : Stat) (σ : Sto) (n : Nat) (x : Str) (p : PV) : Prop
  | mk (K : Frag) (C : Addr) (j : Nat) (fs : List (Str × PV)) (h1 : Frag.In K X.B) (h2 : attrOK K C x = true) (h3 : σ[n]? = some (.obj C j)) (h4 : σ[j]? = some (.ns fs)) (h5 : fs.lookup x = some p) (h6 : p.plain = true)
inductive IMF (X : Stat) (d : Nat) (σ : Sto) (n : Nat) (x : Str) (r : PV) (σ' : Sto) : Prop
  | mk (K : Frag) (C : Addr) (j : Nat) (f : Addr) (fs : List (Str × PV)) (h1 : Frag.In K X.B) (h2 : methOK K C x f = true) (h3 : σ[n]? = some (.obj C j)) (h4 : σ[j]? = some (.ns fs)) (h5 : fs.lookup x = none) (h6 : CallV X d σ (.ref f) [.ref n] r σ')
inductive StF (X : Stat) (σ : Sto) (n : Nat) (x : Str) (p : PV) (σ' : Sto) : Prop
  | mk (K : Frag) (C : Addr) (j : Nat) (fs : List (Str × PV)) (h1 : Frag.In K X.B) (h2 : setOK K C x = true) (h3 : σ[n]? = some (.obj C j)) (h4 : σ[j]? = some (.ns fs)) (h5 : fs.length ≤ 900) (h6 : σ' = σ.set j (.ns (putF fs x p)))
noncomputable def ifInt (p : PV) (k : Int → Prop) (z : Prop) : Prop := match p with | .int a => k a | _ => z
noncomputable def ifByt (p : PV) (k : List UInt8 → Prop) (z : Prop) : Prop := match p with | .bytes a => k a | _ => z
noncomputable def ifStr (p : PV) (k : List Nat → Prop) (z : Prop) : Prop := match p with | .str a => k a | _ => z
noncomputable def ifRef (p : PV) (k : Nat → Prop) (z : Prop) : Prop := match p with | .ref a => k a | _ => z
noncomputable def ifTup (p : PV) (k : List PV → Prop) (z : Prop) : Prop := match p with | .tup a => k a | _ => z
noncomputable def ifRng (p : PV) (k : Int → Int → Nat → Prop) (z : Prop) : Prop := match p with | .rng a b c => k a b c | _ => z
noncomputable def onBool (p : PV) (k : Bool → Prop) : Prop := match p with | .bool b => k b | _ => False
noncomputable def onOpt (p : Option PV) (k : PV → Prop) : Prop := match p with | some p => k p | none => False
noncomputable abbrev onInt (p : PV) (k : Int → Prop) : Prop := ifInt p k False
noncomputable abbrev onTup (p : PV) (k : List PV → Prop) : Prop := ifTup p k False
noncomputable abbrev onRef (p : PV) (k : Nat → Prop) : Prop := ifRef p k False
noncomputable def optI : Option Int → PV | none => .none | some i => .int i
noncomputable def binW (X : Stat) (d : Nat) (op : Operator) (p q : PV) (σ : Sto) (Q : PV → Sto → Prop) : Prop :=
  match op with
  | .Add => ifInt p (fun a => onInt q fun b => Q (.int (a + b)) σ) (ifByt p (fun a => ifByt q (fun b => a.length + b.length ≤ 16777216 ∧ Q (.bytes (a ++ b)) σ) False)
      (ifStr p (fun a => ifStr q (fun b => a.length + b.length ≤ 16777216 ∧ Q (.str (a ++ b)) σ) False)
      (onRef p fun n => onRef q fun j => ∃ l l', (σ[n]? = some (.lst l) ∧ σ[j]? = some (.lst l') ∧ l.length + l'.length ≤ 16777216) ∧ Q (.ref σ.length) (σ ++ [.lst (l ++ l')]))))
  | .Sub => onInt p fun a => onInt q fun b => Q (.int (a - b)) σ
  | .Mult => onInt q fun b => ifInt p (fun a => IntMulOk a b ∧ Q (.int (a * b)) σ) (ifByt p (fun a => (a ≠ [] ∧ -1048576 ≤ b ∧ b ≤ 1048576 ∧ a.length ≤ 16) ∧ Q (.bytes (List.replicate b.toNat a).flatten) σ)
      (ifStr p (fun a => (0 ≤ b ∧ b ≤ 1024 ∧ a.length ≤ 1024) ∧ Q (.str (List.replicate b.toNat a).flatten) σ)
      (onRef p fun n => ∃ l, (σ[n]? = some (.lst l) ∧ 0 ≤ b ∧ b ≤ 1024 ∧ l.length ≤ 1024) ∧ Q (.ref σ.length) (σ ++ [.lst (List.replicate b.toNat l).flatten]))))
  | .FloorDiv => onInt p fun a => onInt q fun b => (b ≠ 0 ∧ b.natAbs < 1073741824) ∧ Q (.int (a.fdiv b)) σ
  | .Mod => onInt p fun a => onInt q fun b => b ≠ 0 ∧ Q (.int (a.fmod b)) σ
  | .LShift => onInt p fun a => onInt q fun b => (0 ≤ b ∧ b ≤ 1000000 ∧ a.natAbs < 2 ^ 64) ∧ Q (.int (a * 2 ^ b.toNat)) σ
  | .RShift => onInt p fun a => onInt q fun b => 0 ≤ b ∧ Q (.int (a.fdiv (2 ^ b.toNat))) σ
  | .BitAnd => onInt p fun a => onInt q fun b => Q (.int (Builtin.bitAnd a b)) σ
  | .Pow => onInt p fun a => onInt q fun b => (0 ≤ b ∧ (Builtin.Int.intBits a : Int) * b ≤ 2 ^ 27) ∧ Q (.int (a ^ b.toNat)) σ
  | _ => False
noncomputable def cmpW (X : Stat) (d : Nat) (op : CmpOp) (p q : PV) (σ : Sto) (Q : PV → Sto → Prop) : Prop :=
  match op with
  | .Lt => onInt p fun a => onInt q fun b => Q (.bool (decide (a < b))) σ
  | .LtE => onInt p fun a => onInt q fun b => Q (.bool (decide (a ≤ b))) σ
  | .Gt => onInt p fun a => onInt q fun b => Q (.bool (decide (b < a))) σ
  | .GtE => onInt p fun a => onInt q fun b => Q (.bool (decide (b ≤ a))) σ
  | .Eq => ifInt p (fun a => onInt q fun b => Q (.bool (a == b)) σ) (ifByt p (fun a => ifByt q (fun b => Q (.bool (a == b)) σ) False) (ifStr p (fun a => ifStr q (fun b => Q (.bool (a == b)) σ) False)
      (onRef p fun n => onRef q fun j => ∃ l, (σ[n]? = some (.lst l) ∧ σ[j]? = some (.lst [])) ∧ Q (.bool l.isEmpty) σ)))
  | .NotEq => ifInt p (fun a => onInt q fun b => Q (.bool (a != b)) σ) (ifByt p (fun a => ifByt q (fun b => Q (.bool (a != b)) σ) False) (ifStr p (fun a => ifStr q (fun b => Q (.bool (a != b)) σ) False) False))
  | .In => onInt p fun a => ifTup q (fun ps => ∃ l : List Int, ps = l.map .int ∧ Q (.bool (l.any (· == a))) σ) (ifByt q (fun b => (0 ≤ a ∧ a < 256) ∧ Q (.bool (b.contains a.toNat.toUInt8)) σ)
      (onRef q fun n => ∃ f, (HasMods X ∧ σ[n]? = some (.raw (DictI X f))) ∧ Q (.bool (f a).isSome) σ))
  | .NotIn => onInt p fun a => ifTup q (fun ps => ∃ l : List Int, ps = l.map .int ∧ Q (.bool (!(l.any (· == a)))) σ) (ifByt q (fun b => (0 ≤ a ∧ a < 256) ∧ Q (.bool (!b.contains a.toNat.toUInt8)) σ) False)
  | _ => False
noncomputable def unW (X : Stat) (d : Nat) (op : UnaryOp) (p : PV) (σ : Sto) (Q : PV → Sto → Prop) : Prop :=
  match op with
  | .USub => onInt p fun a => Q (.int (-a)) σ
  | _ => False
noncomputable def itmW (X : Stat) (d : Nat) (p q : PV) (σ : Sto) (Q : PV → Sto → Prop) : Prop :=
  onInt q fun i => ifByt p (fun b => ∃ c, (0 ≤ i ∧ b[i.toNat]? = some c ∧ b.length ≤ 1099511627776) ∧ Q (.int (c.toNat : Int)) σ)
    (ifStr p (fun b => ∃ c, (0 ≤ i ∧ b[i.toNat]? = some c ∧ b.length ≤ 16777216) ∧ Q (.str [c]) σ)
    (ifTup p (fun b => ∃ c, (0 ≤ i ∧ b[i.toNat]? = some c ∧ b.length ≤ 1099511627776) ∧ Q c σ)
    (onRef p fun n => ∃ r σ', Itm X d σ (.ref n) (.int i) r σ' ∧ Q r σ')))
noncomputable def cutW (X : Stat) (d : Nat) (held : Bool) (p lo hi : PV) (σ : Sto) (Q : PV → Sto → Prop) : Prop :=
  ∃ l h, (lo = optI l ∧ hi = optI h) ∧ ifByt p (fun b => b.length ≤ 16777216 ∧ Q (.bytes (cut b l h)) σ) (∃ r σ', Cut X d σ held p l h r σ' ∧ Q r σ')
noncomputable def iterW (X : Stat) (d : Nat) (p : PV) (σ : Sto) (R : List PV → (Sto → Prop) → Prop) : Prop :=
  ifByt p (fun b => R (b.map fun c => .int (c.toNat : Int)) (fun _ => True)) (ifStr p (fun b => R (b.map fun c => .str [c]) (fun _ => True))
  (ifRng p (fun a c n => R ((List.range n).map fun i : Nat => .int (a + (i : Int) * c)) (fun _ => True))
  (ifTup p (fun l => (∀ p ∈ l, Flat p) ∧ R l (fun _ => True))
  (onRef p fun n => ∃ l, σ[n]? = some (.lst l) ∧ R l (fun s => s[n]? = some (.lst l))))))
noncomputable def srcW (X : Stat) (d : Nat) (k : LK) (p : PV) (σ : Sto) (R : List PV → (Sto → Prop) → Prop) : Prop := match k with
  | .one => iterW X d p σ R
  | .tup => onRef p fun n => ∃ l, σ[n]? = some (.lst l) ∧ R l (fun s => s[n]? = some (.lst l))
  | .enum => ifByt p (fun b => NameIs X "enumerate" (.type "enumerate") ∧ R (enumL b) (fun _ => True)) False
noncomputable def bindW (k : LK) (n : Nat) (p : PV) (K : Vs → Prop) : Prop := match k with
  | .one => K [some p]
  | _ => onTup p fun ps => ps.length = n ∧ K (ps.map some)
noncomputable def bsel (c : Bool) (a b : Prop) : Prop := match c with | true => a | false => b
theorem bsel_of {c : Bool} {a b : Prop} (h1 : c = true → a) (h2 : c = false → b) : bsel c a b := by cases c; exact h2 rfl; exact h1 rfl
noncomputable def compL (T : PV → Sto → (PV → Sto → Prop) → Prop) (E : PV → Sto → (PV → Sto → Prop) → Prop) (K : Sto → Prop) : List PV → List PV → Sto → (List PV → Sto → Prop) → Prop
  | [], acc, σ, Q => K σ ∧ Q acc σ
  | p :: l, acc, σ, Q => K σ ∧ T p σ fun b σ₁ => onBool b fun b => bsel b (E p σ₁ fun r σ₂ => compL T E K l (acc ++ [r]) σ₂ Q) (compL T E K l acc σ₁ Q)
noncomputable def compLL (B : PV → List PV → Sto → (List PV → Sto → Prop) → Prop) (K : Sto → Prop) : List PV → List PV → Sto → (List PV → Sto → Prop) → Prop
  | [], acc, σ, Q => K σ ∧ Q acc σ
  | p :: l, acc, σ, Q => K σ ∧ B p acc σ fun acc' σ₁ => compLL B K l acc' σ₁ Q
noncomputable def chW (op : BoolOp) (c : Bool) (go : Prop) (stop : Bool → Prop) : Prop := match op with
  | .And => bsel c go (stop false)
  | .Or => bsel c (stop true) go
noncomputable def wp (X : Stat) (d : Nat) : CE → Vs → Sto → (PV → Sto → Prop) → Prop
  | .int i, _, σ, Q => Q (.int i) σ
  | .str i, _, σ, Q => Q (.str i) σ
  | .byt i, _, σ, Q => Q (.bytes i) σ
  | .bool i, _, σ, Q => Q (.bool i) σ
  | .var x, v, σ, Q => onOpt (getV v x) fun p => Q p σ
  | .glb x, _, σ, Q => ∃ p, GlobIs X x p ∧ Q p σ
  | .bin op a b, v, σ, Q => wp X d a v σ fun p σ₁ => wp X d b v σ₁ fun q σ₂ => binW X d op p q σ₂ Q
  | .un op a, v, σ, Q => wp X d a v σ fun p σ₁ => unW X d op p σ₁ Q
  | .cmp op a b, v, σ, Q => wp X d a v σ fun p σ₁ => wp X d b v σ₁ fun q σ₂ => cmpW X d op p q σ₂ Q
  | .ite t a b, v, σ, Q => wp X d t v σ fun p σ₁ => onBool p fun c => bsel c (wp X d a v σ₁ Q) (wp X d b v σ₁ Q)
  | .tval e, v, σ, Q => wp X d e v σ fun p σ₁ => onBool p fun c => Q (.bool c) σ₁
  | .tcmp op a b, v, σ, Q => wp X d a v σ fun p σ₁ => wp X d b v σ₁ fun q σ₂ => cmpW X d op p q σ₂ fun r σ₃ => onBool r fun c => Q (.bool c) σ₃
  | .tnot t, v, σ, Q => wp X d t v σ fun p σ₁ => onBool p fun c => Q (.bool (!c)) σ₁
  | .tall _ ts, v, σ, Q => wp X d ts v σ Q
  | .chn op, _, σ, Q => Q (.bool (op == .And)) σ
  | .chc op t ts, v, σ, Q => wp X d t v σ fun p σ₁ => onBool p fun c => chW op c (wp X d ts v σ₁ Q) fun b => Q (.bool b) σ₁
  | .cmp2 o₁ o₂ a b c, v, σ, Q => wp X d a v σ fun p σ₁ => wp X d b v σ₁ fun q σ₂ => cmpW X d o₁ p q σ₂ fun r σ₃ => onBool r fun t => bsel t (wp X d c v σ₃ fun z σ₄ => cmpW X d o₂ q z σ₄ Q) (Q (.bool false) σ₃)
  | .tcmp2 o₁ o₂ a b c, v, σ, Q => wp X d a v σ fun p σ₁ => wp X d b v σ₁ fun q σ₂ => cmpW X d o₁ p q σ₂ fun r σ₃ => onBool r fun t => bsel t (wp X d c v σ₃ fun z σ₄ => cmpW X d o₂ q z σ₄ fun w σ₅ => onBool w fun u => Q (.bool u) σ₅) (Q (.bool false) σ₃)
  | .vall _ es, v, σ, Q => wp X d es v σ Q
  | .vlast e, v, σ, Q => wp X d e v σ Q
  | .vchc op e es, v, σ, Q => wp X d e v σ fun p σ₁ => onBool p fun c => chW op c (wp X d es v σ₁ Q) fun b => Q (.bool b) σ₁
  | .nil, _, σ, Q => Q (.tup []) σ
  | .cons e es, v, σ, Q => wp X d e v σ fun p σ₁ => wp X d es v σ₁ fun q σ₂ => onTup q fun ps => Q (.tup (p :: ps)) σ₂
  | .tup es, v, σ, Q => wp X d es v σ fun q σ₁ => onTup q fun ps => ps.length ≤ 16777216 ∧ Q (.tup ps) σ₁
  | .lst es, v, σ, Q => wp X d es v σ fun q σ₁ => onTup q fun ps => ps.length ≤ 16777216 ∧ Q (.ref σ₁.length) (σ₁ ++ [.lst ps])
  | .call f e es, v, σ, Q => wp X d e v σ fun p σ₁ => wp X d es v σ₁ fun q σ₂ => onTup q fun ps => ∃ r σ₃, CF X d σ₂ f (p :: ps) r σ₃ ∧ Q r σ₃
  | .meth o name e es, v, σ, Q => wp X d o v σ fun a σ₀ => wp X d e v σ₀ fun p σ₁ => wp X d es v σ₁ fun q σ₂ => onTup q fun ps => ∃ r σ₃, MF X d σ₀ a σ₂ name (p :: ps) r σ₃ ∧ Q r σ₃
  | .meth0 o name, v, σ, Q => wp X d o v σ fun a σ₀ => onRef a fun n => ∃ r σ₁, IMF X d σ₀ n name r σ₁ ∧ Q r σ₁
  | .attr o name, v, σ, Q => wp X d o v σ fun a σ₀ => onRef a fun n => ∃ r, AtF X σ₀ n name r ∧ Q r σ₀
  | .dict0, _, σ, Q => Q (.ref σ.length) (σ ++ [.raw (NoKeys X)])
  | .idx a i, v, σ, Q => wp X d a v σ fun p σ₁ => wp X d i v σ₁ fun q σ₂ => itmW X d p q σ₂ Q
  | .slc held a lo hi, v, σ, Q => wp X d a v σ fun p σ₁ => wp X d lo v σ₁ fun l σ₂ => wp X d hi v σ₂ fun h σ₃ => cutW X d held p l h σ₃ Q
  | .onone, _, σ, Q => Q .none σ
  | .osome e, v, σ, Q => wp X d e v σ fun p σ₁ => onInt p fun i => Q (.int i) σ₁
  | .comp k xs caps elt it cond, v, σ, Q => wp X d it v σ fun p σ₁ => srcW X d k p σ₁ fun l K =>
      compL (fun p σ Q => bindW k xs.length p fun t => wp X d cond (capV v t caps) σ Q) (fun p σ Q => bindW k xs.length p fun t => wp X d elt (capV v t caps) σ Q) K l [] σ₁ fun rs σ₂ => rs.length ≤ 16777216 ∧ Q (.ref σ₂.length) (σ₂ ++ [.lst rs])
  | .comp2 _ _ elt it₀ it₁ cond, v, σ, Q => wp X d it₀ v σ fun p σ₁ => iterW X d p σ₁ fun l K =>
      compLL (fun p acc σ R => wp X d it₁ [some p] σ fun q σ₁ => ifByt q (fun b => compL (fun q σ Q => wp X d cond [some p, some q] σ Q) (fun q σ Q => wp X d elt [some p, some q] σ Q) (fun _ => True) (b.map fun c => .int (c.toNat : Int)) acc σ₁ R) False) K l [] σ₁ fun rs σ₂ => rs.length ≤ 16777216 ∧ Q (.ref σ₂.length) (σ₂ ++ [.lst rs])
  | .yes, _, σ, Q => Q (.bool true) σ
  | .one t, v, σ, Q => wp X d t v σ Q
  | .junk, _, _, _ => False
end
noncomputable section
noncomputable def plainTest (e : Expr) : Bool := idxOff e [0, 3, 5, 15]
theorem plainTest_ok {e : Expr} (h : plainTest e = true) (env : Env) (whole : Sem Value) : isTrue e env whole = (do let v ← whole; standAt e.pos; holding [v] (truthy v)) := by
  cases e <;> first | rfl | cases h
noncomputable def notStar (e : Expr) : Bool := idxOff e [22]
theorem notStar_ok {e : Expr} (h : notStar e = true) (es : List Expr) (env : Env) : starEach (e :: es) env = (false, eval e env) :: starEach es env := by
  cases e <;> first | rfl | cases h
theorem noStars_ok (pos : Pos) {es : List Expr} (h : es.all notStar = true) (env : Env) : ((backTo pos (starEach es env)).any fun x => x.1) = false := by
  induction es with
  | nil => rfl
  | cons e es ih =>
    rw [List.all_cons, Bool.and_eq_true] at h
    rw [notStar_ok h.1]
    exact ih h.2
theorem noStars_all (pos : Pos) {es : List Expr} (h : es.all notStar = true) (env : Env) : ((backTo pos (starEach es env)).all fun x => !x.1) = true := by
  induction es with
  | nil => rfl
  | cons e es ih =>
    rw [List.all_cons, Bool.and_eq_true] at h
    rw [notStar_ok h.1]
    exact ih h.2
noncomputable def isName (e : Expr) : Bool := xName e fun _ => true
theorem isName_held {e : Expr} (h : isName e = true) : Held e := by
  obtain ⟨y, p, rfl, _⟩ := xName_ok h
  exact fun _ _ => rfl
noncomputable def notSlice (e : Expr) : Bool := idxOff e [26]
theorem notSlice_ok {e : Expr} (h : notSlice e = true) : Plain e := by
  cases e <;> first | (intro o i; rfl) | cases h
noncomputable def notCall (e : Expr) : Bool := xCall e fun f as _ _ => !(as.isEmpty && isName f)
noncomputable def notSuper (e : Expr) : Bool := idxOff e [16] || notCall e
theorem notSuper_ok {o : Expr} (h : notSuper o = true) (name : Str) (env : Env) : attributeBase o name env (eval o env) = eval o env := by
  unfold notSuper at h
  rw [Bool.or_eq_true] at h
  rcases h with h | h
  · cases o <;> first | rfl | cases h
  · obtain ⟨f, as, ks, pos, rfl, h⟩ := xCall_ok h
    cases as with
    | cons a as => cases f <;> rfl
    | nil =>
      have h : (!(true && isName f)) = true := h
      cases f <;> first | rfl | cases h
noncomputable def notSet (e : Expr) : Bool := idxOff e [7]
theorem notSet_ok {e : Expr} (h : notSet e = true) (env : Env) (x : Value) : foldedSetIterable e env x = pure x := by
  cases e <;> first | rfl | cases h
theorem meth0_eval {o : Expr} {x : Str} {apos pos : Pos} {env : Env} (hb : attributeBase o x env (eval o env) = eval o env) (hl : (apos.endLine == pos.line) = true) : eval (.Call (.Attribute o x apos) [] [] pos) env = (do
      let ov ← eval o env
      standAt apos.atName
      let (f, first) ← holding [ov] (getMethod ov x (do return (← importBound o env).getD true))
      callWith pos f first (backTo pos (starEach [] env)) []) := by
  have hpos : methodCallPos true o env apos pos = pure pos := by unfold methodCallPos; simp [hl]
  rw [arm_eval_Call, hb]
  refine congrArg (eval o env >>= ·) (funext fun ov => congrArg (standAt apos.atName >>= ·) (funext fun _ => ?_))
  show (do
    let (f, first) ← holding [ov] (getMethod ov x (do return (← importBound o env).getD true))
    let callPos ← methodCallPos true o env apos pos
    callWith callPos f first (backTo pos (starEach [] env)) []) = _
  rw [hpos]
  rfl
noncomputable def gOk (x : Str) (sc : Scope) (y : Str) : Bool := decide (y = x) && (decide (sc.names.lookup y = some .globalImplicit) && !(y == ("__debug__" : Str)))
noncomputable def compOk (caps : List Nat) (xs : List Str) (scope sc : Scope) (nm : List Str) : Bool :=
  (decide (scope.kind = .function) && (scope.names.all (fun z => decide (z.2 ≠ .cell) && ((decide (z.2 ≠ .free) || decide (sc.names.lookup z.1 = some .cell)) && (decide (z.2 ≠ .local) || decide (scope.names.lookup z.1 = some .local)))) && decide ((scope.names.map (·.1)).Nodup))) &&
    (xs.all (fun x => decide ((rl scope sc).names.lookup x = some .local) && decide (scope.names.lookup x = some .local)) && (decide xs.Nodup && caps.all (fun i => oS (nm[i]?) fun y => decide (scope.names.lookup y = some .free))))
noncomputable def nmAt (nm : List Str) (caps : List Nat) : List Str := caps.map fun i => (nm[i]?).getD ("" : Str)
noncomputable def isNames (es : List Expr) : List Str → Bool
  | [] => es.isEmpty
  | x :: xs => lC es fun e es => xName e (fun y => decide (y = x)) && isNames es xs
noncomputable def tgOk (k : LK) (xs : List Str) (t : Expr) : Bool := match k with
  | .one => xName t fun y => decide (xs = [y])
  | _ => xTup t fun es => isNames es xs
noncomputable def srcOk (k : LK) (sc : Scope) (e : Expr) (o : Expr → Bool) : Bool := match k with
  | .enum => xCall e fun f as ks _ => ks.isEmpty && xName f fun y => l1 as fun a => (gOk "enumerate" sc y && notStar a) && o a
  | _ => notSet e && o e
noncomputable def gOf (g : Comprehension) (k : Expr → Expr → List Expr → Bool) : Bool := (g.is_async == 0) && k g.target g.iter g.ifs
@[elab_as_elim] theorem gOf_el {C : Comprehension → Prop} {g : Comprehension} {k : Expr → Expr → List Expr → Bool} (h : gOf g k = true) (f : ∀ t i l, k t i l = true → C ⟨t, i, l, 0⟩) : C g := by
  obtain ⟨t, i, l, a⟩ := g
  have e : a = 0 := eq_of_beq (and_l h)
  subst e
  exact f t i l (and_r h)
noncomputable def sEJ (s : Src') (k : Expr → Bool) : Bool := match s with | .e x => k x | .cj x => k x | _ => false
noncomputable def ok : CE → Scope → List Str → Src' → Bool
  | .int i, _, _, s => kE s fun x => xConst x fun c => cInt c fun j => decide (i = j)
  | .str i, _, _, s => kE s fun x => xConst x fun c => cStr c fun j => decide (S i = j)
  | .byt i, _, _, s => kE s fun x => xConst x fun c => cByt c fun j => decide (i = j)
  | .bool i, _, _, s => kE s fun x => xConst x fun c => cBool c fun j => decide (i = j)
  | .var x, _, nm, s => kE s fun e => xName e fun y => decide (nm[x]? = some y) && (!(y == ("__debug__" : Str)) && !(y == ("__classdict__" : Str)))
  | .glb x, sc, _, s => kE s fun e => xName e fun y => gOk x sc y
  | .bin op a b, sc, nm, s => kE s fun e => xBin e fun l op' r => decide (op = op') && (ok a sc nm (.e l) && ok b sc nm (.e r))
  | .un op a, sc, nm, s => kE s fun e => xUn e fun op' l => decide (op = op') && ok a sc nm (.e l)
  | .cmp op a b, sc, nm, s => kE s fun e => xCmp e fun l ops cs => l1 ops fun op' => l1 cs fun r => (decide (op = op') && !(behindInMarks op' r)) && (ok a sc nm (.e l) && ok b sc nm (.e r))
  | .ite t a b, sc, nm, s => kE s fun e => xIf e fun t' l r => ok t sc nm (.t t') && (ok a sc nm (.e l) && ok b sc nm (.e r))
  | .tval e, sc, nm, s => kT s fun x => plainTest x && ok e sc nm (.e x)
  | .tcmp op a b, sc, nm, s => kT s fun e => xCmp e fun l ops cs => l1 ops fun op' => l1 cs fun r => (decide (op = op') && !(behindInMarks op' r)) && (ok a sc nm (.e l) && ok b sc nm (.e r))
  | .tnot t, sc, nm, s => kT s fun e => xUn e fun op' x => decide (.Not = op') && ok t sc nm (.t x)
  | .tall op ts, sc, nm, s => kT s fun e => xBo e fun op' l => decide (op = op') && ok ts sc nm (.ch op l)
  | .chn op, _, _, s => kCh s fun op' l => decide (op = op') && l.isEmpty
  | .chc op t ts, sc, nm, s => kCh s fun op' l => decide (op = op') && lC l fun x l => ok t sc nm (.t x) && ok ts sc nm (.ch op l)
  | .nil, _, _, s => kEs s fun l => l.isEmpty
  | .cons e es, sc, nm, s => kEs s fun l => lC l fun x l => notStar x && (ok e sc nm (.e x) && ok es sc nm (.es l))
  | .tup es, sc, nm, s => kE s fun e => xTup e fun l => ok es sc nm (.es l)
  | .lst es, sc, nm, s => kE s fun e => xLst e fun l => ok es sc nm (.es l)
  | .call f e es, sc, nm, s => kE s fun x => xCall x fun fn as ks _ => ks.isEmpty && xName fn fun y => lC as fun a l => (gOk f sc y && (notStar a && l.all notStar)) && (ok e sc nm (.e a) && ok es sc nm (.es l))
  | .meth o name e es, sc, nm, s => kE s fun x => xCall x fun fn as ks pos => ks.isEmpty && xAttr fn fun b y ap => lC as fun a l => ((decide (name = y) && notSuper b) && ((ap.endLine == pos.line) && (notStar a && (l.all notStar && decide (l.length < 25))))) && (ok o sc nm (.e b) && (ok e sc nm (.e a) && ok es sc nm (.es l)))
  | .meth0 o name, sc, nm, s => kE s fun x => xCall x fun fn as ks pos => (ks.isEmpty && as.isEmpty) && xAttr fn fun b y ap => (decide (name = y) && (notSuper b && (ap.endLine == pos.line))) && ok o sc nm (.e b)
  | .attr o name, sc, nm, s => kE s fun x => xAttr x fun b y _ => (decide (name = y) && notSuper b) && ok o sc nm (.e b)
  | .dict0, _, _, s => kE s fun x => xDict x fun ks vs => ks.isEmpty && vs.isEmpty
  | .idx a i, sc, nm, s => kE s fun x => xSub x fun v sl => notSlice sl && (ok a sc nm (.e v) && ok i sc nm (.e sl))
  | .slc held a lo hi, sc, nm, s => kE s fun x => xSub x fun v sl => xSlc sl fun l u st => (st.isNone && (!held || isName v)) && (ok a sc nm (.e v) && (ok lo sc nm (.o l) && ok hi sc nm (.o u)))
  | .onone, _, _, s => kO s fun o => o.isNone
  | .osome e, sc, nm, s => kO s fun o => oS o fun x => ok e sc nm (.e x)
  | .cmp2 o₁ o₂ a b c, sc, nm, s => kE s fun e => xCmp e fun l ops cs => l2 ops fun p₁ p₂ => l2 cs fun r₁ r₂ => ((decide (o₁ = p₁) && decide (o₂ = p₂)) && !(lastMarks [p₁, p₂] [r₁, r₂])) && (ok a sc nm (.e l) && (ok b sc nm (.e r₁) && ok c sc nm (.e r₂)))
  | .tcmp2 o₁ o₂ a b c, sc, nm, s => kT s fun e => xCmp e fun l ops cs => l2 ops fun p₁ p₂ => l2 cs fun r₁ r₂ => ((decide (o₁ = p₁) && decide (o₂ = p₂)) && !(lastMarks [p₁, p₂] [r₁, r₂])) && (ok a sc nm (.e l) && (ok b sc nm (.e r₁) && ok c sc nm (.e r₂)))
  | .vall op es, sc, nm, s => kE s fun e => xBo e fun op' l => decide (op = op') && ok es sc nm (.vc op l)
  | .vlast e, sc, nm, s => kVc s fun _ l => l1 l fun x => ok e sc nm (.e x)
  | .vchc op e es, sc, nm, s => kVc s fun op' l => decide (op = op') && lC l fun x l => lC l fun y l => ok e sc nm (.e x) && ok es sc nm (.vc op (y :: l))
  | .comp k xs caps elt it cond, sc, nm, s => sEJ s fun x => xLc x fun e' gs scope _ => l1 gs fun g => gOf g fun t i f => compOk caps xs scope sc nm && (tgOk k xs t && (srcOk k sc i (fun a => ok it sc nm (.e a)) && (ok cond (rl scope sc) (nmAt nm caps ++ xs) (.cs f) && ok elt (rl scope sc) (nmAt nm caps ++ xs) (.e e'))))
  | .comp2 x y elt it₀ it₁ cond, sc, nm, s => sEJ s fun z => xLc z fun e' gs scope _ => l2 gs fun g₀ g₁ => gOf g₀ fun t₀ i₀ f₀ => gOf g₁ fun t₁ i₁ f₁ => (compOk [] [x, y] scope sc nm && ((f₀.isEmpty && (notSet i₀ && notSet i₁)) && (tgOk .one [x] t₀ && tgOk .one [y] t₁))) && (ok it₀ sc nm (.e i₀) && (ok it₁ (rl scope sc) [x] (.e i₁) && (ok cond (rl scope sc) [x, y] (.cs f₁) && ok elt (rl scope sc) [x, y] (.e e'))))
  | .yes, _, _, s => kCs s fun l => l.isEmpty
  | .one t, sc, nm, s => kCs s fun l => l1 l fun x => ok t sc nm (.t x)
  | .junk, _, _, _ => true
noncomputable def VmOk (nm : List Str) (v : Vs) (m : Vm) : Prop := ∀ i x p, nm[i]? = some x → getV v i = some p → m.lookup x = some p
end
noncomputable section
theorem getV_nil (i : Nat) : getV [] i = none := by cases i <;> rfl
theorem getV_cap (v t : Vs) : ∀ (l : List Nat) (i : Nat), getV (capV v t l) i = if i < l.length then getV v (l.getD i 0) else getV t (i - l.length)
  | [], i => by simp [capV]
  | j :: r, 0 => by simp [capV, getV]
  | j :: r, i + 1 => by
    have e : getV (capV v t (j :: r)) (i + 1) = getV (capV v t r) i := rfl
    rw [e, getV_cap v t r i]
    simp
theorem mc_up {m : Vm} {scope : Scope} {y : Str} {p : PV} (h : m.lookup y = some p) (hs : scope.names.lookup y = some .free) : (mc m scope).lookup y = some p := by
  induction m with
  | nil => cases h
  | cons z r ih =>
    obtain ⟨z, q⟩ := z
    unfold mc
    rw [List.filter_cons]
    rw [List.lookup_cons] at h
    cases hz : y == z with
    | true =>
      simp only [hz] at h
      cases h
      have : y = z := eq_of_beq hz
      subst this
      simp [hs]
    | false =>
      simp only [hz] at h
      have ih := ih h
      unfold mc at ih
      split
      · rw [List.lookup_cons]; simp only [hz]; exact ih
      · exact ih
theorem mc_none {m : Vm} {scope : Scope} {y : Str} (hs : scope.names.lookup y = some .local) : (mc m scope).lookup y = none := by
  cases h : (mc m scope).lookup y with
  | none => rfl
  | some p => have := (mc_lookup h).2; rw [hs] at this; cases this
section
variable {X : Stat} {d : Nat} {σ : Sto} {Q : PV → Sto → Prop}
noncomputable def OpG (A Q : PV → Sto → Prop) : Prop := ∃ p σ, A p σ ∧ Q p σ
theorem OpG.i {A Q : PV → Sto → Prop} {p : PV} {σ : Sto} (a : A p σ) (q : Q p σ) : OpG A Q := ⟨p, σ, a, q⟩
theorem OpG.e {A Q : PV → Sto → Prop} {R : Prop} (g : OpG A Q) (f : ∀ p σ, A p σ → Q p σ → R) : R := let ⟨p, σ, a, q⟩ := g; f p σ a q
section
variable {C : PV → Prop} {p : PV} {z : Prop}
@[elab_as_elim] theorem ifInt_el {k : Int → Prop} (h : ifInt p k z) (f : ∀ a, k a → C (.int a)) (g : z → C p) : C p := by
  cases p <;> first | exact g h | exact f _ h
@[elab_as_elim] theorem ifByt_el {k : List UInt8 → Prop} (h : ifByt p k z) (f : ∀ a, k a → C (.bytes a)) (g : z → C p) : C p := by
  cases p <;> first | exact g h | exact f _ h
@[elab_as_elim] theorem ifStr_el {k : List Nat → Prop} (h : ifStr p k z) (f : ∀ a, k a → C (.str a)) (g : z → C p) : C p := by
  cases p <;> first | exact g h | exact f _ h
@[elab_as_elim] theorem ifRef_el {k : Nat → Prop} (h : ifRef p k z) (f : ∀ a, k a → C (.ref a)) (g : z → C p) : C p := by
  cases p <;> first | exact g h | exact f _ h
@[elab_as_elim] theorem ifTup_el {k : List PV → Prop} (h : ifTup p k z) (f : ∀ a, k a → C (.tup a)) (g : z → C p) : C p := by
  cases p <;> first | exact g h | exact f _ h
@[elab_as_elim] theorem ifRng_el {k : Int → Int → Nat → Prop} (h : ifRng p k z) (f : ∀ a b c, k a b c → C (.rng a b c)) (g : z → C p) : C p := by
  cases p <;> first | exact g h | exact f _ _ _ h
@[elab_as_elim] theorem onBool_el {k : Bool → Prop} (h : onBool p k) (f : ∀ a, k a → C (.bool a)) : C p := by
  cases p <;> first | exact h.elim | exact f _ h
@[elab_as_elim] theorem onInt_el {k : Int → Prop} (h : onInt p k) (f : ∀ a, k a → C (.int a)) : C p := ifInt_el h f False.elim
@[elab_as_elim] theorem onTup_el {k : List PV → Prop} (h : onTup p k) (f : ∀ a, k a → C (.tup a)) : C p := ifTup_el h f False.elim
@[elab_as_elim] theorem onRef_el {k : Nat → Prop} (h : onRef p k) (f : ∀ a, k a → C (.ref a)) : C p := ifRef_el h f False.elim
@[elab_as_elim] theorem onByt_el {k : List UInt8 → Prop} (h : ifByt p k False) (f : ∀ a, k a → C (.bytes a)) : C p := ifByt_el h f False.elim
@[elab_as_elim] theorem onStr_el {k : List Nat → Prop} (h : ifStr p k False) (f : ∀ a, k a → C (.str a)) : C p := ifStr_el h f False.elim
end
theorem onTup_ok {p : PV} {k : List PV → Prop} (h : onTup p k) : ∃ b, p = .tup b ∧ k b := onTup_el (C := fun p => ∃ b, p = .tup b ∧ k b) h fun b h => ⟨b, rfl, h⟩
theorem onOpt_ok {p : Option PV} {k : PV → Prop} (h : onOpt p k) : ∃ b, p = some b ∧ k b := by
  cases p <;> first | exact h.elim | exact ⟨_, rfl, h⟩
theorem binW_ok {op : Operator} {p q : PV} (h : binW X d op p q σ Q) : OpG (Op2 X d σ (binaryOp op) p q) Q := by
  cases op with
  | Add => exact ifInt_el h (fun a g => onInt_el g fun b f => .i add_ii f) fun h => ifByt_el h (fun a g => onByt_el g fun b f => .i (add_bb f.1) f.2) fun h => ifStr_el h (fun a g => onStr_el g fun b f => .i (add_ss f.1) f.2) fun h =>
      onRef_el h fun n g => onRef_el g fun j ⟨_, _, h, f⟩ => .i (add_ll h.1 h.2.1 h.2.2) f
  | Sub => exact onInt_el h fun a g => onInt_el g fun b f => .i sub_ii f
  | Mult => exact onInt_el h fun b h => ifInt_el h (fun a g => .i (mul_ii g.1) g.2) fun h => ifByt_el h (fun a g => .i (mul_bi g.1.1 g.1.2.1 g.1.2.2.1 g.1.2.2.2) g.2) fun h => ifStr_el h (fun a g => .i (mul_s g.1.1 g.1.2.1 g.1.2.2) g.2) fun h =>
      onRef_el h fun n ⟨_, g⟩ => .i (mul_li g.1.1 g.1.2.1 g.1.2.2.1 g.1.2.2.2) g.2
  | FloorDiv => exact onInt_el h fun a g => onInt_el g fun b f => .i (div_ii f.1.1 (PyProof.noPylong_small f.1.2)) f.2
  | Mod => exact onInt_el h fun a g => onInt_el g fun b f => .i (mod_ii f.1) f.2
  | LShift => exact onInt_el h fun a g => onInt_el g fun b f => .i (shl_ii f.1.1 f.1.2.1 f.1.2.2) f.2
  | RShift => exact onInt_el h fun a g => onInt_el g fun b f => .i (shr_ii f.1) f.2
  | BitAnd => exact onInt_el h fun a g => onInt_el g fun b f => .i and_ii f
  | Pow => exact onInt_el h fun a g => onInt_el g fun b f => .i (pow_ii f.1.1 f.1.2) f.2
  | _ => exact h.elim
theorem cmpW_ok {op : CmpOp} {p q : PV} (h : cmpW X d op p q σ Q) : OpG (Op2 X d σ (compareOp op) p q) Q := by
  cases op with
  | Lt => exact onInt_el h fun a g => onInt_el g fun b f => .i lt_ii f
  | LtE => exact onInt_el h fun a g => onInt_el g fun b f => .i le_ii f
  | Gt => exact onInt_el h fun a g => onInt_el g fun b f => .i gt_ii f
  | GtE => exact onInt_el h fun a g => onInt_el g fun b f => .i ge_ii f
  | Eq => exact ifInt_el h (fun a g => onInt_el g fun b f => .i eq_ii f) fun h => ifByt_el h (fun a g => onByt_el g fun b f => .i eq_bb f) fun h => ifStr_el h (fun a g => onStr_el g fun b f => .i eq_ss f) fun h =>
      onRef_el h fun n g => onRef_el g fun j ⟨_, h⟩ => .i (eq_l0 h.1.1 h.1.2) h.2
  | NotEq => exact ifInt_el h (fun a g => onInt_el g fun b f => .i ne_ii f) fun h => ifByt_el h (fun a g => onByt_el g fun b f => .i ne_bb f) fun h => onStr_el h fun a g => onStr_el g fun b f => .i ne_ss f
  | In => exact onInt_el h fun a h => ifTup_el h (fun b ⟨l, e, g⟩ => e ▸ .i in_ti g) fun h => ifByt_el h (fun b g => .i (in_b g.1.1 g.1.2) g.2) fun h => onRef_el h fun j ⟨f, g⟩ => .i (in_d g.1.1 g.1.2) g.2
  | NotIn => exact onInt_el h fun a h => ifTup_el h (fun b ⟨l, e, g⟩ => e ▸ .i nin_ti g) fun h => onByt_el h fun b g => .i (nin_b g.1.1 g.1.2) g.2
  | _ => exact h.elim
theorem unW_ok {op : UnaryOp} {p : PV} (h : unW X d op p σ Q) : OpG (Op1 X d σ (unaryOp op) p) Q := by
  cases op with
  | USub => exact onInt_el h fun a g => .i neg_i g
  | _ => exact h.elim
theorem itmW_ok {p q : PV} (h : itmW X d p q σ Q) : OpG (Itm X d σ p q) Q :=
  onInt_el h fun i h => ifByt_el h (fun b ⟨_, g⟩ => .i (fun _ _ hp => item_b hp g.1.1 g.1.2.1 g.1.2.2) g.2) fun h => ifStr_el h (fun b ⟨_, g⟩ => .i (fun _ _ hp => item_s hp g.1.1 g.1.2.1 g.1.2.2) g.2) fun h =>
    ifTup_el h (fun b ⟨_, g⟩ => .i (fun _ _ hp => item_t hp g.1.1 g.1.2.1 g.1.2.2) g.2) fun h => onRef_el h fun n g => g
theorem cutW_ok {held : Bool} {p lo hi : PV} (h : cutW X d held p lo hi σ Q) : ∃ l u, (lo = optI l ∧ hi = optI u) ∧ OpG (Cut X d σ held p l u) Q := by
  obtain ⟨l, u, h1, h2⟩ := h
  exact ⟨l, u, h1, ifByt_el h2 (fun b g => .i (fun _ _ => slc_b g.1) g.2) fun h => h⟩
theorem opt_inj {a b : Option Int} (h : optI a = optI b) : a = b := by
  cases a <;> cases b <;> first | rfl | (cases h; done) | (cases h; rfl)
theorem chW_el {op : BoolOp} {c : Bool} {go : Prop} {stop : Bool → Prop} {C : BoolOp → Bool → Prop} (h : chW op c go stop) (f1 : go → C .And true) (f2 : stop false → C .And false) (f3 : go → C .Or false) (f4 : stop true → C .Or true) : C op c := by
  cases op <;> cases c <;> first | exact f1 h | exact f2 h | exact f3 h | exact f4 h
noncomputable def Runs (k : LK) (l : List PV) (K : Sto → Prop) (i : Nat) (a : AI) : Prop := (k = .one ∧ a = .fix (l.drop i) ∧ ∀ s, K s) ∨ (k = .enum ∧ a = .tfix (l.drop i) ∧ ∀ s, K s) ∨ ∃ n, a = .lst n i ∧ ∀ s, K s → s[n]? = some (.lst l)
inductive ItG (X : Stat) (d : Nat) (σ : Sto) (R : List PV → (Sto → Prop) → Prop) (p : PV) : Prop
  | mk (l : List PV) (K : Sto → Prop) (a : AI) (h1 : IterV X d σ p a) (h2 : Runs .one l K 0 a) (h3 : R l K)
theorem iterW_ok {p : PV} {R : List PV → (Sto → Prop) → Prop} (h : iterW X d p σ R) : ItG X d σ R p :=
  ifByt_el h (fun b g => ⟨_, _, _, iter_bytes, .inl ⟨rfl, rfl, fun _ => trivial⟩, g⟩) fun h => ifStr_el h (fun b g => ⟨_, _, _, iter_str, .inl ⟨rfl, rfl, fun _ => trivial⟩, g⟩) fun h =>
    ifRng_el h (fun a b c g => ⟨_, _, _, iter_rng, .inl ⟨rfl, rfl, fun _ => trivial⟩, g⟩) fun h => ifTup_el h (fun l g => ⟨_, _, _, iter_tup g.1, .inl ⟨rfl, rfl, fun _ => trivial⟩, g.2⟩) fun h =>
    onRef_el h fun n ⟨l, h1, h2⟩ => ⟨_, _, _, iter_lst h1, .inr (.inr ⟨_, rfl, fun _ h => h⟩), h2⟩
theorem Runs.stop {k : LK} {l : List PV} {K : Sto → Prop} {i : Nat} {a : AI} (x : Runs k l K i a) (hk : K σ) (hd : l.drop i = []) : Nxt σ a none := by
  rcases x with ⟨_, rfl, _⟩ | ⟨_, rfl, _⟩ | ⟨n, rfl, h⟩
  · rw [hd]; rfl
  · rw [hd]; rfl
  · exact ⟨l, h σ hk, .inl ⟨List.drop_eq_nil_iff.mp hd, rfl⟩⟩
theorem Runs.go {k : LK} {l : List PV} {K : Sto → Prop} {i : Nat} {a : AI} {p : PV} {r : List PV} (x : Runs k l K i a) (hk : K σ) (hd : l.drop i = p :: r) : ∃ a', Nxt σ a (some (p, a')) ∧ Runs k l K (i + 1) a' ∧ l.drop (i + 1) = r := by
  have hr : l.drop (i + 1) = r := by rw [← List.tail_drop, hd]; rfl
  rcases x with ⟨e, rfl, hK⟩ | ⟨e, rfl, hK⟩ | ⟨n, rfl, h⟩
  · rw [hd]
    exact ⟨.fix r, rfl, .inl ⟨e, by rw [hr], hK⟩, hr⟩
  · rw [hd]
    exact ⟨.tfix r, rfl, .inr (.inl ⟨e, by rw [hr], hK⟩), hr⟩
  · have hx : l[i]? = some p := by rw [← List.head?_drop, hd]; rfl
    exact ⟨.lst n (i + 1), ⟨l, h σ hk, .inr ⟨p, hx, rfl⟩⟩, .inr (.inr ⟨n, rfl, h⟩), hr⟩
end
theorem isNames_ok {xs : List Str} : ∀ {es : List Expr}, isNames es xs = true → Names es xs := by
  induction xs with
  | nil => intro es h; exact ⟨[], by rw [nil_ok h]; rfl, rfl⟩
  | cons x xs ih =>
    intro es h
    obtain ⟨e, es, rfl, h⟩ := lC_ok h
    obtain ⟨y, p, rfl, h1⟩ := xName_ok (and_ok h).1
    obtain ⟨ps, e2, hl⟩ := ih (and_ok h).2
    rw [dec_ok h1]
    exact ⟨p :: ps, by rw [e2]; rfl, by simp [hl]⟩
theorem tg_noGo {k : LK} {l : List PV} {K : Sto → Prop} {i : Nat} {a : AI} {xs : List Str} {t : Expr} (ht : tgOk k xs t = true) (x : Runs k l K i a) : NoGo t a := by
  cases k with
  | one =>
    refine xName_el ht fun _ _ _ => ?_
    rcases x with ⟨_, rfl, _⟩ | ⟨e, _⟩ | ⟨n, rfl, _⟩
    · exact rfl
    · cases e
    · exact .inl rfl
  | tup =>
    refine xTup_el ht fun _ _ _ _ => ?_
    rcases x with ⟨e, _⟩ | ⟨e, _⟩ | ⟨n, rfl, _⟩
    · cases e
    · cases e
    · exact .inr rfl
  | enum =>
    refine xTup_el ht fun _ _ _ _ => ?_
    rcases x with ⟨e, _⟩ | ⟨_, rfl, _⟩ | ⟨n, rfl, _⟩
    · cases e
    · exact rfl
    · exact .inr rfl
noncomputable def itm (k : LK) (p : PV) : List PV := match k with
  | .one => [p]
  | _ => match p with | .tup ps => ps | _ => []
noncomputable def BindOk (k : LK) (xs : List Str) (t : Expr) (p : PV) (R : Vs → Prop) : Prop := (itm k p).length = xs.length ∧ R ((itm k p).map some) ∧
    ∀ {X : Stat} {d : Nat} {sc : Scope} {m : Vm}, ((∀ x ∈ xs, sc.names.lookup x = some .local ∨ sc.names.lookup x = some .cell) → Asg X d sc m t p (puts m (xs.zip (itm k p)))) ∧ ((∀ x ∈ xs, sc.names.lookup x = some .local) → AsgL X d sc m t p (puts m (xs.zip (itm k p))))
theorem bind_tup {k : LK} {xs : List Str} {t : Expr} {p : PV} {R : Vs → Prop} (hk : ∀ ps, itm k (.tup ps) = ps) (ht : xTup t (fun es => isNames es xs) = true) (h : onTup p fun ps => ps.length = xs.length ∧ R (ps.map some)) : BindOk k xs t p R := by
  obtain ⟨ps, rfl, hl, h⟩ := onTup_ok h
  obtain ⟨es, n, tp, rfl, ht⟩ := xTup_ok ht
  unfold BindOk
  rw [hk]
  exact ⟨hl, h, fun {X d sc m} => ⟨fun hk => asg_tuple (isNames_ok ht) hl.symm hk, fun hk => asgL_tuple (isNames_ok ht) hl.symm hk⟩⟩
theorem bindW_ok {k : LK} {xs : List Str} {t : Expr} {p : PV} {R : Vs → Prop} (ht : tgOk k xs t = true) (h : bindW k xs.length p R) : BindOk k xs t p R := by
  cases k with
  | one =>
    obtain ⟨y, q, rfl, hx⟩ := xName_ok ht
    have := dec_ok hx
    subst this
    exact ⟨rfl, h, fun {X d sc m} => ⟨fun hk => asg_name (hk y List.mem_cons_self), fun hk => asgL_name (hk y List.mem_cons_self)⟩⟩
  | tup => exact bind_tup (fun _ => rfl) ht h
  | enum => exact bind_tup (fun _ => rfl) ht h
theorem puts_not {x : Str} {l : List (Str × PV)} : ∀ {m : Vm}, x ∉ l.map (·.1) → (puts m l).lookup x = m.lookup x := by
  induction l with
  | nil => intro m _; rfl
  | cons z l ih =>
    intro m h
    obtain ⟨y, p⟩ := z
    rw [List.map_cons, List.mem_cons, not_or] at h
    rw [show puts m ((y, p) :: l) = puts (put m y p) l from rfl, ih h.2, lookup_put]
    rw [if_neg (fun e => h.1 (eq_of_beq e))]
theorem puts_at {x : Str} {p : PV} {l : List (Str × PV)} : ∀ {m : Vm}, (l.map (·.1)).Nodup → (x, p) ∈ l → (puts m l).lookup x = some p := by
  induction l with
  | nil => intro m _ h; cases h
  | cons z l ih =>
    intro m hn h
    obtain ⟨y, q⟩ := z
    rw [List.map_cons, List.nodup_cons] at hn
    rw [show puts m ((y, q) :: l) = puts (put m y q) l from rfl]
    rcases List.mem_cons.mp h with e | h
    · cases e; rw [puts_not hn.1, lookup_put]; simp
    · exact ih hn.2 h
theorem zip_fst {xs : List Str} {ps : List PV} : ∀ {x}, x ∈ (xs.zip ps).map (·.1) → x ∈ xs := fun h => by
  obtain ⟨⟨a, b⟩, g, rfl⟩ := List.mem_map.mp h
  exact (List.of_mem_zip g).1
theorem sub_puts {m : Vm} {xs : List Str} {ps : List PV} (h : ∀ x ∈ xs, m.lookup x = none) : Sub m (puts m (xs.zip ps)) := fun y q e => by
  rw [puts_not fun hy => ?_]
  · exact e
  · rw [h y (zip_fst hy)] at e; cases e
theorem compL_ok {X : Stat} {d : Nat} {T E : PV → Sto → (PV → Sto → Prop) → Prop} {K : Sto → Prop} {e : Expr} {dep : Nat} {elt t : Expr} {k : LK} {xs : List Str} {ifs : List Expr} {sc : Scope} {m : Vm} (he : Turns X e dep elt t ifs) (ht : tgOk k xs t = true) (hm : ∀ x ∈ xs, m.lookup x = none)
    (hT : ∀ p σ Q, T p σ Q → AsgL X d sc m t p (puts m (xs.zip (itm k p))) ∧ ∃ b σ', Tsts X d sc (puts m (xs.zip (itm k p))) σ ifs b σ' ∧ Q (.bool b) σ') (hE : ∀ p σ Q, E p σ Q → ∃ r σ', Ev X d sc (puts m (xs.zip (itm k p))) σ elt r σ' ∧ Q r σ') (l : List PV)
    (r : List PV) : ∀ (i : Nat) (acc : List PV) (a : AI) (σ : Sto) (Q : List PV → Sto → Prop), Runs k l K i a → l.drop i = r → compL T E K r acc σ Q → ∃ rs σ', CL X d sc e dep a m σ rs σ' ∧ Q (acc ++ rs) σ' := by
  induction r with
  | nil =>
    intro i acc a σ Q hr hd h
    exact ⟨[], σ, cl_done he.done (hr.stop h.1 hd), by rw [List.append_nil]; exact h.2⟩
  | cons p r ih =>
    intro i acc a σ Q hr hd h
    obtain ⟨h0, h⟩ := h
    obtain ⟨a', N, hr', hd'⟩ := hr.go h0 hd
    obtain ⟨ha, b, σ₁, t1, h⟩ := hT _ _ _ h
    cases b with
    | true =>
      obtain ⟨q, σ₂, e1, h⟩ := hE _ _ _ h
      obtain ⟨rs, σ', c, hq⟩ := ih (i + 1) _ a' σ₂ Q hr' hd' h
      refine ⟨q :: rs, σ', cl_turn he N (tg_noGo ht hr) ha t1 e1 (c.weak (sub_puts hm)), ?_⟩
      rw [List.append_assoc] at hq
      exact hq
    | false =>
      obtain ⟨rs, σ', c, hq⟩ := ih (i + 1) _ a' σ₁ Q hr' hd' h
      exact ⟨rs, σ', cl_skip he N (tg_noGo ht hr) ha t1 (c.weak (sub_puts hm)), hq⟩
theorem compLL_ok {X : Stat} {d : Nat} {B : PV → List PV → Sto → (List PV → Sto → Prop) → Prop} {K : Sto → Prop} {elt t₀ i₀ t₁ i₁ : Expr} {xs : List Str} {ifs : List Expr} {scope sc : Scope} {pos : Pos} (hf : ∀ (env : Env) (x : Value), foldedSetIterable i₁ env x = pure x) (ht : tgOk .one xs t₀ = true)
    (hB : ∀ p acc σ R, B p acc σ R → AsgL X d sc [] t₀ p (puts [] (xs.zip [p])) ∧ ∃ b σ₁ rs σ₂, SrcB X d sc (puts [] (xs.zip [p])) σ i₁ b σ₁ ∧ CL X d sc (.ListComp elt [⟨t₀, i₀, [], 0⟩, ⟨t₁, i₁, ifs, 0⟩] scope pos) 1 (.fix (b.map fun c => .int (c.toNat : Int))) (puts [] (xs.zip [p])) σ₁ rs σ₂ ∧ R (acc ++ rs) σ₂) (l : List PV)
    (r : List PV) : ∀ (i : Nat) (acc : List PV) (a : AI) (σ : Sto) (Q : List PV → Sto → Prop), Runs .one l K i a → l.drop i = r → compLL B K r acc σ Q → ∃ rs σ', CL X d sc (.ListComp elt [⟨t₀, i₀, [], 0⟩, ⟨t₁, i₁, ifs, 0⟩] scope pos) 0 a [] σ rs σ' ∧ Q (acc ++ rs) σ' := by
  induction r with
  | nil =>
    intro i acc a σ Q hr hd h
    exact ⟨[], σ, cl_done (done2 hf) (hr.stop h.1 hd), by rw [List.append_nil]; exact h.2⟩
  | cons p r ih =>
    intro i acc a σ Q hr hd h
    obtain ⟨h0, h⟩ := h
    obtain ⟨a', N, hr', hd'⟩ := hr.go h0 hd
    obtain ⟨ha, b, σ₁, rs, σ₂, s1, c1, h⟩ := hB _ _ _ _ h
    obtain ⟨rs', σ', c, hq⟩ := ih (i + 1) _ a' σ₂ Q hr' hd' h
    refine ⟨rs ++ rs', σ', cl2_turn rfl hf N (tg_noGo ht hr) ha s1 c1 c, ?_⟩
    rw [List.append_assoc] at hq
    exact hq
theorem vm_comp {nm : List Str} {v : Vs} {m : Vm} {scope : Scope} {xs : List Str} {ps : List PV} {caps : List Nat} (hv : VmOk nm v m) (hl : ps.length = xs.length) (hx : ∀ x ∈ xs, scope.names.lookup x = some .local) (hn : xs.Nodup)
    (hc : ∀ i ∈ caps, (oS (nm[i]?) fun y => decide (scope.names.lookup y = some .free)) = true) : VmOk (nmAt nm caps ++ xs) (capV v (ps.map some) caps) (puts (mc m scope) (xs.zip ps)) := by
  intro i y q hy hq
  rw [getV_cap] at hq
  have hnl : (nmAt nm caps).length = caps.length := List.length_map _
  by_cases hi : i < caps.length
  · rw [if_pos hi] at hq
    rw [List.getElem?_append_left (by rw [hnl]; exact hi)] at hy
    unfold nmAt at hy
    rw [List.getElem?_map, List.getElem?_eq_getElem hi] at hy
    have hg : caps.getD i 0 = caps[i] := by simp [hi]
    rw [hg] at hq
    obtain ⟨z, hz, hd⟩ := oS_ok (hc caps[i] (List.getElem_mem hi))
    have hd := dec_ok hd
    rw [Option.map_some, hz] at hy
    cases hy
    rw [puts_not fun hm => ?_]
    · exact mc_up (hv _ _ _ hz hq) hd
    · have := hx _ (zip_fst hm)
      rw [Option.getD_some, hd] at this
      cases this
  · rw [if_neg hi] at hq
    have hi' : caps.length ≤ i := Nat.not_lt.mp hi
    rw [List.getElem?_append_right (by rw [hnl]; exact hi'), hnl] at hy
    generalize i - caps.length = j at hq hy
    have hq' : (ps.map some)[j]? = some (some q) := by
      clear hy hx hn hc hl hv
      induction ps generalizing j with
      | nil => rw [List.map_nil, getV_nil] at hq; cases hq
      | cons p ps ih =>
        cases j with
        | zero => exact congrArg some hq
        | succ j => exact ih j hq
    rw [List.getElem?_map] at hq'
    obtain ⟨q', hq1, hq2⟩ := Option.map_eq_some_iff.mp hq'
    cases hq2
    refine puts_at ?_ (List.mem_of_getElem? (i := j) (by rw [List.getElem?_zip_eq_some]; exact ⟨hy, hq1⟩))
    rw [List.map_fst_zip (Nat.le_of_eq hl.symm)]
    exact hn
end
noncomputable section
inductive CompJ (X : Stat) (d : Nat) (sc : Scope) (m : Vm) (σ : Sto) : Expr → PV → Sto → Prop
  | mk {elt tgt iter : Expr} {ifs : List Expr} {rest : List Comprehension} {scope : Scope} {pos : Pos} {a : AI} {rs : List PV} {σ₁ σ₂ : Sto} (h1 : Src X d sc m σ iter a σ₁) (h2 : CL X d (rl scope sc) (.ListComp elt (⟨tgt, iter, ifs, 0⟩ :: rest) scope pos) 0 a (mc m scope) σ₁ rs σ₂)
      (h3 : scope.kind = .function) (h4 : ∀ x ∈ scope.names, x.2 ≠ .cell) (h5 : ∀ x ∈ scope.names, x.2 = .free → sc.names.lookup x.1 = some .cell) (h6 : (scope.names.map (·.1)).Nodup) (h7 : ∀ x ∈ scope.names, x.2 = .local → scope.names.lookup x.1 = some .local)
      (h8 : rs.length ≤ 16777216) (h9 : ∀ (env : Env) (x : Value), foldedSetIterable iter env x = pure x) : CompJ X d sc m σ (.ListComp elt (⟨tgt, iter, ifs, 0⟩ :: rest) scope pos) (.ref σ₂.length) (σ₂ ++ [.lst rs])
noncomputable def Bears (X : Stat) (d : Nat) (sc : Scope) (m : Vm) (σ : Sto) : Src' → PV → Sto → Prop
  | .e x, p, σ' => Ev X d sc m σ x p σ'
  | .es l, p, σ' => ∃ ps, p = .tup ps ∧ Evs X d sc m σ l ps σ'
  | .t x, p, σ' => ∃ b, p = .bool b ∧ Tst X d sc m σ x b σ'
  | .ch op l, p, σ' => ∃ b, p = .bool b ∧ All X d sc m σ op l b σ'
  | .o x, p, σ' => ∃ i, p = optI i ∧ Prt X d sc m σ x i σ'
  | .cs l, p, σ' => ∃ b, p = .bool b ∧ Tsts X d sc m σ l b σ'
  | .vc op l, p, σ' => ∀ pos : Pos, Ev X d sc m σ (.BoolOp op l pos) p σ'
  | .cj x, p, σ' => CompJ X d sc m σ x p σ'
section
variable {X : Stat} {d : Nat}
theorem gOk_ok {sc : Scope} {m : Vm} {σ : Sto} {x y : Str} {p : Pos} {f : Value} (hX : X.OK) (h : gOk x sc y = true) (hf : NameIs X x f) : Ev X d sc m σ (.Name y p) (.stat f) σ := by
  have h2 := and_ok (and_r h)
  have e := dec_ok (and_l h)
  subst e
  rcases hf with hf | ⟨g1, g2, g3⟩
  · exact ev_glob hX (dec_ok h2.1) hf (fun _ _ _ _ => .stat _) (not_ok h2.2)
  · exact ev_bi hX (dec_ok h2.1) g1 g2 g3 (not_ok h2.2)
@[elab_as_elim] theorem sEJ_el {C : Src' → Prop} {s : Src'} {k : Expr → Bool} (h : sEJ s k = true) (f : ∀ x, k x = true → C (.e x)) (g : ∀ x, k x = true → C (.cj x)) : C s := by
  cases s <;> first | exact f _ h | exact g _ h | cases h
noncomputable def SJ (X : Stat) (d : Nat) (sc : Scope) (m : Vm) (σ : Sto) (Q : PV → Sto → Prop) (x : Expr) : Prop := OpG (CompJ X d sc m σ x) Q
theorem sEJ_ok {sc : Scope} {m : Vm} {σ : Sto} {Q : PV → Sto → Prop} {s : Src'} {k : Expr → Bool} (h : sEJ s k = true) (f : ∀ x, k x = true → SJ X d sc m σ Q x) : OpG (Bears X d sc m σ s) Q :=
  sEJ_el h (fun x h => (f x h).e fun p σ' J h => by
    cases J with | mk h1 h2 h3 h4 h5 h6 h7 h8 h9 => exact .i (ev_comp h1 h2 h3 h4 h5 h6 h7 h8 h9) h) fun x h => f x h
theorem compOk_ok {caps : List Nat} {xs : List Str} {scope sc : Scope} {nm : List Str} (h : compOk caps xs scope sc nm = true) : (scope.kind = .function ∧ (∀ x ∈ scope.names, x.2 ≠ .cell) ∧ (∀ x ∈ scope.names, x.2 = .free → sc.names.lookup x.1 = some .cell) ∧ (scope.names.map (·.1)).Nodup ∧ (∀ x ∈ scope.names, x.2 = .local → scope.names.lookup x.1 = some .local)) ∧
    (∀ x ∈ xs, (rl scope sc).names.lookup x = some .local) ∧ (∀ x ∈ xs, scope.names.lookup x = some .local) ∧ xs.Nodup ∧ ∀ i ∈ caps, (oS (nm[i]?) fun y => decide (scope.names.lookup y = some .free)) = true := by
  unfold compOk at h
  simp only [Bool.and_eq_true, decide_eq_true_eq, List.all_eq_true, Bool.or_eq_true] at h
  obtain ⟨⟨h1, h2, h3⟩, h4, h5, h6⟩ := h
  exact ⟨⟨h1, fun x hx => (h2 x hx).1, fun x hx q => (h2 x hx).2.1.resolve_left fun w => w q, h3, fun x hx q => (h2 x hx).2.2.resolve_left fun w => w q⟩, fun x hx => (h4 x hx).1, fun x hx => (h4 x hx).2, h5, h6⟩
inductive SrcG (X : Stat) (d : Nat) (sc : Scope) (m : Vm) (σ : Sto) (k : LK) (R : Sto → List PV → (Sto → Prop) → Prop) (e : Expr) : Prop
  | mk (σ₁ : Sto) (l : List PV) (K : Sto → Prop) (a : AI) (h1 : ∀ (env : Env) (x : Value), foldedSetIterable e env x = pure x) (h2 : Src X d sc m σ e a σ₁) (h3 : Runs k l K 0 a) (h4 : R σ₁ l K)
theorem srcW_ok {k : LK} {sc : Scope} {e : Expr} {o : Expr → Bool} (hX : X.OK) (hs : srcOk k sc e o = true) {m : Vm} {σ : Sto} {W : (PV → Sto → Prop) → Prop} {R : Sto → List PV → (Sto → Prop) → Prop} (h : W fun p σ₁ => srcW X d k p σ₁ (R σ₁)) (ih : ∀ a Q, o a = true → W Q → OpG (Bears X d sc m σ (.e a)) Q) : SrcG X d sc m σ k R e := by
  cases k with
  | one =>
    obtain ⟨p, σ₁, he, h⟩ := ih e _ (and_r hs) h
    obtain ⟨l, K, a, h1, h2, h3⟩ := iterW_ok h
    exact ⟨σ₁, l, K, a, notSet_ok (and_l hs), src_ev he h1, h2, h3⟩
  | tup =>
    obtain ⟨p, σ₁, he, h⟩ := ih e _ (and_r hs) h
    revert he
    refine onRef_el (C := fun p => Bears X d sc m σ (.e e) p σ₁ → _) h fun n h he => ?_
    obtain ⟨l, h1, h2⟩ := h
    exact ⟨σ₁, l, _, _, notSet_ok (and_l hs), src_ev he (iter_lst h1), .inr (.inr ⟨_, rfl, fun _ h => h⟩), h2⟩
  | enum =>
    refine xCall_el hs fun f as ks pos hs => ?_
    refine nil_el (and_l hs) ?_
    refine xName_el (and_r hs) fun y q hs => ?_
    refine l1_el hs fun a hs => ?_
    obtain ⟨p, σ₁, he, h⟩ := ih a _ (and_r hs) h
    revert he
    refine onByt_el (C := fun p => Bears X d sc m σ (.e a) p σ₁ → _) h fun b h he => ?_
    exact ⟨σ₁, _, _, _, fun _ _ => rfl, src_enum (gOk_ok hX (and_l (and_l hs)) h.1) (evs_cons he evs_nil (notStar_ok (and_r (and_l hs)) _)) (notStar_ok (and_r (and_l hs)) []), .inr (.inl ⟨rfl, rfl, fun _ => trivial⟩), h.2⟩
noncomputable def Snd (X : Stat) (d : Nat) (ce : CE) : Prop := ∀ (sc : Scope) (nm : List Str) (s : Src') (v : Vs) (m : Vm) (σ : Sto) (Q : PV → Sto → Prop), ok ce sc nm s = true → VmOk nm v m → wp X d ce v σ Q → OpG (Bears X d sc m σ s) Q
section
variable {sc : Scope} {m : Vm} {σ : Sto} {Q : PV → Sto → Prop} {R : Prop} {x : Expr} {l : List Expr} {op : BoolOp}
theorem g_gen {α : Type} {A : α → Sto → Prop} {c : α → PV} (g : OpG (fun p σ' => ∃ b, p = c b ∧ A b σ') Q) (f : ∀ b σ', A b σ' → Q (c b) σ' → R) : R := by
  obtain ⟨_, σ', ⟨b, rfl, t⟩, h⟩ := g
  exact f b σ' t h
theorem g_t (g : OpG (Bears X d sc m σ (.t x)) Q) (f : ∀ b σ', Tst X d sc m σ x b σ' → Q (.bool b) σ' → R) : R := g_gen g f
theorem g_ch (g : OpG (Bears X d sc m σ (.ch op l)) Q) (f : ∀ b σ', All X d sc m σ op l b σ' → Q (.bool b) σ' → R) : R := g_gen g f
theorem g_cs (g : OpG (Bears X d sc m σ (.cs l)) Q) (f : ∀ b σ', Tsts X d sc m σ l b σ' → Q (.bool b) σ' → R) : R := g_gen g f
theorem g_es (g : OpG (Bears X d sc m σ (.es l)) Q) (f : ∀ b σ', Evs X d sc m σ l b σ' → Q (.tup b) σ' → R) : R := g_gen g f
theorem g_o {x : Option Expr} (g : OpG (Bears X d sc m σ (.o x)) Q) (f : ∀ b σ', Prt X d sc m σ x b σ' → Q (optI b) σ' → R) : R := g_gen g f
variable {σ' : Sto} {b : Bool}
theorem i_t (t : Tst X d sc m σ x b σ') (q : Q (.bool b) σ') : OpG (Bears X d sc m σ (.t x)) Q := ⟨_, σ', ⟨b, rfl, t⟩, q⟩
theorem i_ch (t : All X d sc m σ op l b σ') (q : Q (.bool b) σ') : OpG (Bears X d sc m σ (.ch op l)) Q := ⟨_, σ', ⟨b, rfl, t⟩, q⟩
theorem i_cs (t : Tsts X d sc m σ l b σ') (q : Q (.bool b) σ') : OpG (Bears X d sc m σ (.cs l)) Q := ⟨_, σ', ⟨b, rfl, t⟩, q⟩
theorem i_es {ps : List PV} (t : Evs X d sc m σ l ps σ') (q : Q (.tup ps) σ') : OpG (Bears X d sc m σ (.es l)) Q := ⟨_, σ', ⟨ps, rfl, t⟩, q⟩
theorem i_o {x : Option Expr} {i : Option Int} (t : Prt X d sc m σ x i σ') (q : Q (optI i) σ') : OpG (Bears X d sc m σ (.o x)) Q := ⟨_, σ', ⟨i, rfl, t⟩, q⟩
end
theorem s_comp (k : LK) (xs : List Str) (caps : List Nat) {elt it cond : CE} (ihe : Snd X d elt) (ihi : Snd X d it) (ihc : Snd X d cond) (hX : X.OK) : Snd X d (.comp k xs caps elt it cond) := by
  intro sc nm s v m σ Q ho hv h
  refine sEJ_ok ho fun x ho => ?_
  refine xLc_el ho fun _ _ _ _ ho => ?_
  refine l1_el ho fun _ ho => ?_
  refine gOf_el ho fun _ _ _ ho => ?_
  obtain ⟨oc, ol, olo, on, ocap⟩ := compOk_ok (and_l ho)
  replace ho := and_r ho
  have ot := and_l ho
  replace ho := and_r ho
  obtain ⟨σ₁, l, K, a, hset, hi, hr, h⟩ := srcW_ok hX (and_l ho) (W := wp X d it v σ) h fun a Q oa h => ihi _ _ _ _ _ _ _ oa hv h
  replace ho := and_r ho
  obtain ⟨rs, σ₂, c, hz, h⟩ := compL_ok (X := X) (d := d) (sc := rl _ sc) (m := mc m _) turns1 ot (fun x hx => mc_none (olo x hx))
    (fun p σ Q h => by
      obtain ⟨hl, h, ha⟩ := bindW_ok ot h
      exact g_cs (ihc _ _ _ _ _ _ _ (and_l ho) (vm_comp hv hl olo on ocap) h) fun b σ' t h => ⟨ha.2 ol, b, σ', t, h⟩)
    (fun p σ Q h => by
      obtain ⟨hl, h, _⟩ := bindW_ok ot h
      exact ihe _ _ _ _ _ _ _ (and_r ho) (vm_comp hv hl olo on ocap) h) l l 0 [] a σ₁ _ hr rfl h
  rw [List.nil_append] at hz h
  exact .i (.mk hi c oc.1 oc.2.1 oc.2.2.1 oc.2.2.2.1 oc.2.2.2.2 hz hset) h
theorem s_comp2 (x y : Str) {elt it₀ it₁ cond : CE} (ihe : Snd X d elt) (ihi₀ : Snd X d it₀) (ihi₁ : Snd X d it₁) (ihc : Snd X d cond) : Snd X d (.comp2 x y elt it₀ it₁ cond) := by
  intro sc nm s v m σ Q ho hv h
  refine sEJ_ok ho fun _ ho => ?_
  refine xLc_el ho fun _ _ scope pp ho => ?_
  refine l2_el ho fun _ _ ho => ?_
  refine gOf_el ho fun t₀ i₀ f₀ ho => ?_
  refine gOf_el ho fun _ _ _ ho => ?_
  have oc := and_l ho
  replace ho := and_r ho
  have o1 := and_r oc
  refine nil_el (and_l (and_l o1)) ?_
  have os := and_r (and_l o1)
  replace o1 := and_r o1
  obtain ⟨oc, ol, olo, on, _⟩ := compOk_ok (and_l oc)
  have hf := notSet_ok (and_r os)
  have hk1 : ∀ {p : PV} {m : Vm}, AsgL X d (rl scope sc) m _ p (puts m ([x].zip [p])) := fun {p m} => ((bindW_ok (k := .one) (p := p) (R := fun _ => True) (and_l o1) trivial).2.2).2 fun z hz => ol z (List.mem_cons.mpr (.inl (List.mem_singleton.mp hz)))
  have hk2 : ∀ {p : PV} {m : Vm}, AsgL X d (rl scope sc) m _ p (puts m ([y].zip [p])) := fun {p m} => ((bindW_ok (k := .one) (p := p) (R := fun _ => True) (and_r o1) trivial).2.2).2 fun z hz => ol z (List.mem_cons.mpr (.inr hz))
  have hne : x ≠ y := fun e => by subst e; exact (List.nodup_cons.mp on).1 (List.mem_singleton.mpr rfl)
  have v1 : ∀ p : PV, VmOk [x] [some p] (puts [] ([x].zip [p])) := fun p i z q hz hq => by
    cases i with
    | zero => cases hz; cases hq; exact puts_at (by simp) (List.mem_singleton.mpr rfl)
    | succ i => cases hz
  have v2 : ∀ p q : PV, VmOk [x, y] [some p, some q] (puts (puts [] ([x].zip [p])) ([y].zip [q])) := fun p q i z r hz hq => by
    cases i with
    | zero => cases hz; cases hq; rw [puts_not (by simpa using hne)]; exact puts_at (by simp) (List.mem_singleton.mpr rfl)
    | succ i =>
      cases i with
      | zero => cases hz; cases hq; exact puts_at (by simp) (List.mem_singleton.mpr rfl)
      | succ i => cases hz
  have hm1 : ∀ p : PV, ∀ z ∈ [y], (puts [] ([x].zip [p])).lookup z = none := fun p z hz => by
    rw [List.mem_singleton.mp hz, puts_not (by simpa using fun e => hne e.symm)]; rfl
  refine (ihi₀ _ _ _ _ _ _ _ (and_l ho) hv h).e fun p σ₁ e1 h => ?_
  replace ho := and_r ho
  obtain ⟨l, K, a, hi, hr, h⟩ := iterW_ok h
  obtain ⟨rs, σ₂, c, hz, h⟩ := compLL_ok (X := X) (d := d) (sc := rl scope sc) (scope := scope) (pos := pp) (i₀ := i₀) hf (and_l o1)
    (fun p acc σ R h => by
      obtain ⟨q, σ₁, e1, h⟩ := ihi₁ _ _ _ _ _ _ _ (and_l ho) (v1 p) h
      revert e1
      refine onByt_el (C := fun q => Bears X d _ _ σ _ q σ₁ → _) h fun b h e1 => ?_
      obtain ⟨rs, σ₂, c, h⟩ := compL_ok (X := X) (d := d) (k := .one) (sc := rl scope sc) (m := puts [] ([x].zip [p])) (turns2 (g := ⟨t₀, i₀, [], 0⟩) (scope := scope) (pos := pp)) (and_r o1) (hm1 p)
        (fun q σ Q h => g_cs (ihc _ _ _ _ _ _ _ (and_l (and_r ho)) (v2 p q) h) fun b σ' t h => ⟨hk2, b, σ', t, h⟩)
        (fun q σ Q h => ihe _ _ _ _ _ _ _ (and_r (and_r ho)) (v2 p q) h) _ _ 0 acc _ σ₁ _ (.inl ⟨rfl, rfl, fun _ => trivial⟩) rfl h
      exact ⟨hk1, b, σ₁, rs, σ₂, srcB e1, c, h⟩) l l 0 [] a σ₁ _ hr rfl h
  rw [List.nil_append] at hz h
  exact .i (.mk (src_ev e1 hi) (c.weak Sub.nil) oc.1 oc.2.1 oc.2.2.1 oc.2.2.2.1 oc.2.2.2.2 hz (notSet_ok (and_l os))) h
theorem s_meth (name : Str) {o e es : CE} (iho : Snd X d o) (ih : Snd X d e) (ihs : Snd X d es) : Snd X d (.meth o name e es) := fun sc nm s v m σ Q ho hv h =>
  kE_el ho fun _ ho => xCall_el ho fun _ _ _ _ ho => nil_el (and_l ho) <| xAttr_el (and_r ho) fun _ _ _ ho => lC_el ho fun _ _ ho => dec_el (and_l (and_l (and_l ho))) <|
    (iho _ _ _ _ _ _ _ (and_l (and_r ho)) hv h).e fun a σ₀ e0 h => (ih _ _ _ _ _ _ _ (and_l (and_r (and_r ho))) hv h).e fun p σ₁ e1 h => g_es (ihs _ _ _ _ _ _ _ (and_r (and_r (and_r ho))) hv h) fun ps σ₂ e2 h => by
      obtain ⟨r, σ₃, ⟨T, id, M, hT, hcall⟩, h⟩ := h
      have o3 := and_r (and_r (and_l ho))
      have o4 := and_r o3
      replace o3 := and_l o3
      refine .i (ev_meth1 e0 M hT (evs_cons e1 e2 (notStar_ok o3 _)) hcall (notSuper_ok (and_r (and_l (and_l ho))) _) (fun env => ?_) (and_l (and_r (and_l ho))) (notStar_ok o3 _) (noStars_ok _ (and_l o4))) h
      rw [notStar_ok o3]
      simp only [Bool.and_eq_true, decide_eq_true_eq]
      refine ⟨⟨?_, rfl⟩, ?_⟩
      · exact noStars_all _ (and_l o4) env
      · have := dec_ok (and_r o4)
        simp only [List.length_cons, List.length_nil, List.isEmpty_nil, if_true]; lia
theorem cmpW_el {σ : Sto} {Q : PV → Sto → Prop} {op op' : CmpOp} {p q : PV} (e : decide (op = op') = true) (h : cmpW X d op p q σ Q) : OpG (Op2 X d σ (compareOp op') p q) Q := dec_el e (cmpW_ok h)
theorem s_slc (held : Bool) {a lo hi : CE} (iha : Snd X d a) (ihl : Snd X d lo) (ihh : Snd X d hi) : Snd X d (.slc held a lo hi) := fun sc nm s v m σ Q ho hv h =>
  kE_el ho fun _ ho => xSub_el ho fun _ _ _ ho => xSlc_el ho fun _ _ st _ ho => by
    have o1 := and_r (and_l ho)
    cases st with
    | some _ => cases and_l (and_l ho)
    | none =>
     exact (iha _ _ _ _ _ _ _ (and_l (and_r ho)) hv h).e fun p σ₁ e1 h => g_o (ihl _ _ _ _ _ _ _ (and_l (and_r (and_r ho))) hv h) fun l σ₂ e2 h => g_o (ihh _ _ _ _ _ _ _ (and_r (and_r (and_r ho))) hv h) fun u σ₃ e3 h => by
      obtain ⟨l', u', ⟨hl, hu⟩, h⟩ := cutW_ok h
      have el' := opt_inj hl
      have eu' := opt_inj hu
      subst el' eu'
      refine h.e fun r σ₄ e4 h => .i (ev_slice e1 e2 e3 (e4 _ fun q => ?_)) h
      subst q
      exact isName_held o1
theorem sound (hX : X.OK) : ∀ (ce : CE), Snd X d ce := by
  intro ce
  induction ce with
  | int i =>
   exact fun sc nm s v m σ Q ho hv h => kE_el ho fun _ ho => xConst_el ho fun _ _ _ ho => cInt_el ho fun _ ho => dec_el ho (.i ev_int h)
  | str i =>
   exact fun sc nm s v m σ Q ho hv h => kE_el ho fun _ ho => xConst_el ho fun _ _ _ ho => cStr_el ho fun _ ho => dec_el ho (.i ev_str h)
  | byt i =>
   exact fun sc nm s v m σ Q ho hv h => kE_el ho fun _ ho => xConst_el ho fun _ _ _ ho => cByt_el ho fun _ ho => dec_el ho (.i ev_bytes h)
  | bool i =>
   exact fun sc nm s v m σ Q ho hv h => kE_el ho fun _ ho => xConst_el ho fun _ _ _ ho => cBool_el ho fun _ ho => dec_el ho (.i ev_bool h)
  | var x =>
   exact fun sc nm s v m σ Q ho hv h => kE_el ho fun _ ho => xName_el ho fun y _ ho => let ⟨p, e, h⟩ := onOpt_ok h; .i (ev_var (hv _ _ _ (dec_ok (and_l ho)) e) (not_ok (and_l (and_r ho))) (not_ok (and_r (and_r ho)))) h
  | glb x =>
   exact fun sc nm s v m σ Q ho hv h => kE_el ho fun _ ho => xName_el ho fun y _ ho => let ⟨p, ⟨u, e, hr⟩, h⟩ := h; .i (ev_glob hX (dec_ok (and_l (and_r ho))) (dec_ok (and_l ho) ▸ e) hr (not_ok (and_r (and_r ho)))) h
  | bin op a b iha ihb =>
   exact fun sc nm s v m σ Q ho hv h => kE_el ho fun _ ho => xBin_el ho fun _ _ _ _ ho => dec_el (and_l ho) <|
      (iha _ _ _ _ _ _ _ (and_l (and_r ho)) hv h).e fun p σ₁ e1 h => (ihb _ _ _ _ _ _ _ (and_r (and_r ho)) hv h).e fun q σ₂ e2 h => (binW_ok h).e fun r σ₃ e3 h => .i (ev_bin e1 e2 e3) h
  | un op a iha =>
   exact fun sc nm s v m σ Q ho hv h => kE_el ho fun _ ho => xUn_el ho fun _ _ _ ho => dec_el (and_l ho) <|
      (iha _ _ _ _ _ _ _ (and_r ho) hv h).e fun p σ₁ e1 h => (unW_ok h).e fun r σ₃ e3 h => .i (ev_un e1 e3) h
  | cmp op a b iha ihb =>
   exact fun sc nm s v m σ Q ho hv h => kE_el ho fun _ ho => xCmp_el ho fun _ _ _ _ ho => l1_el ho fun _ ho => l1_el ho fun _ ho =>
      (iha _ _ _ _ _ _ _ (and_l (and_r ho)) hv h).e fun p σ₁ e1 h => (ihb _ _ _ _ _ _ _ (and_r (and_r ho)) hv h).e fun q σ₂ e2 h => (cmpW_el (and_l (and_l ho)) h).e fun r σ₃ e3 h => .i (ev_cmp e1 e2 e3 (not_ok (and_r (and_l ho)))) h
  | ite t a b iht iha ihb =>
   exact fun sc nm s v m σ Q ho hv h => kE_el ho fun _ ho => xIf_el ho fun _ _ _ _ ho => g_t (iht _ _ _ _ _ _ _ (and_l ho) hv h) fun c σ₁ t1 h => by
      cases c with
      | true => exact (iha _ _ _ _ _ _ _ (and_l (and_r ho)) hv h).e fun q σ₂ e2 h => .i (ev_ifT t1 e2) h
      | false => exact (ihb _ _ _ _ _ _ _ (and_r (and_r ho)) hv h).e fun q σ₂ e2 h => .i (ev_ifF t1 e2) h
  | tval e ih =>
   exact fun sc nm s v m σ Q ho hv h => kT_el ho fun _ ho => (ih _ _ _ _ _ _ _ (and_r ho) hv h).e fun p σ₁ e1 h =>
      onBool_el (C := fun p => Ev X d sc m σ _ p σ₁ → _) h (fun c h e1 => i_t (tst_ev e1 tru_bool (plainTest_ok (and_l ho))) h) e1
  | tcmp op a b iha ihb =>
   exact fun sc nm s v m σ Q ho hv h => kT_el ho fun _ ho => xCmp_el ho fun _ _ _ _ ho => l1_el ho fun _ ho => l1_el ho fun _ ho =>
      (iha _ _ _ _ _ _ _ (and_l (and_r ho)) hv h).e fun p σ₁ e1 h => (ihb _ _ _ _ _ _ _ (and_r (and_r ho)) hv h).e fun q σ₂ e2 h => (cmpW_el (and_l (and_l ho)) h).e fun r σ₃ e3 h =>
        onBool_el (C := fun r => Op2 X d σ₂ _ p q r σ₃ → _) h (fun c h e3 => i_t (tst_cmp e1 e2 e3 (not_ok (and_r (and_l ho)))) h) e3
  | tnot t ih =>
   exact fun sc nm s v m σ Q ho hv h => kT_el ho fun _ ho => xUn_el ho fun _ _ _ ho => dec_el (and_l ho) <| g_t (ih _ _ _ _ _ _ _ (and_r ho) hv h) fun c σ₁ t1 h => i_t (tst_not t1) h
  | tall op ts ih =>
   exact fun sc nm s v m σ Q ho hv h => kT_el ho fun _ ho => xBo_el ho fun _ _ _ ho => dec_el (and_l ho) <| g_ch (ih _ _ _ _ _ _ _ (and_r ho) hv h) fun c σ₁ t1 h => i_t (tst_bool t1) h
  | chn op =>
   exact fun sc nm s v m σ Q ho hv h => kCh_el ho fun _ _ ho => dec_el (and_l ho) <| nil_el (and_r ho) <| by
      cases op
      · exact i_ch all_and_nil h
      · exact i_ch all_or_nil h
  | chc op t ts iht ihs =>
   exact fun sc nm s v m σ Q ho hv h => kCh_el ho fun _ _ ho => dec_el (and_l ho) <| lC_el (and_r ho) fun _ _ ho => g_t (iht _ _ _ _ _ _ _ (and_l ho) hv h) fun c σ₁ t1 h =>
      have k := and_r ho
      chW_el (C := fun op c => Tst X d sc m σ _ c σ₁ → ok ts sc nm (.ch op _) = true → OpG (Bears X d sc m σ (.ch op _)) Q) (go := wp X d ts v σ₁ Q) (stop := fun b => Q (.bool b) σ₁) h (fun h t1 k => g_ch (ihs _ _ _ _ _ _ _ k hv h) fun b σ₂ t2 h => i_ch (all_and_t t1 t2) h) (fun h t1 _ => i_ch (all_and_f t1) h)
        (fun h t1 k => g_ch (ihs _ _ _ _ _ _ _ k hv h) fun b σ₂ t2 h => i_ch (all_or_f t1 t2) h) (fun h t1 _ => i_ch (all_or_t t1) h) t1 k
  | cmp2 o₁ o₂ a b c iha ihb ihc =>
   exact fun sc nm s v m σ Q ho hv h => kE_el ho fun _ ho => xCmp_el ho fun _ _ _ _ ho => l2_el ho fun _ _ ho => l2_el ho fun _ _ ho =>
      (iha _ _ _ _ _ _ _ (and_l (and_r ho)) hv h).e fun p σ₁ e1 h => (ihb _ _ _ _ _ _ _ (and_l (and_r (and_r ho))) hv h).e fun q σ₂ e2 h => (cmpW_el (and_l (and_l (and_l ho))) h).e fun r σ₃ e3 h =>
        onBool_el (C := fun r => Op2 X d σ₂ _ p q r σ₃ → _) h (fun t h e3 => by
          cases t with
          | false => exact .i (ev_cmp2F e1 e2 e3 (not_ok (and_r (and_l ho)))) h
          | true => exact (ihc _ _ _ _ _ _ _ (and_r (and_r (and_r ho))) hv h).e fun z σ₄ e4 h => (cmpW_el (and_r (and_l (and_l ho))) h).e fun w σ₅ e5 h => .i (ev_cmp2T e1 e2 e3 e4 e5 (not_ok (and_r (and_l ho)))) h) e3
  | tcmp2 o₁ o₂ a b c iha ihb ihc =>
   exact fun sc nm s v m σ Q ho hv h => kT_el ho fun _ ho => xCmp_el ho fun _ _ _ _ ho => l2_el ho fun _ _ ho => l2_el ho fun _ _ ho =>
      (iha _ _ _ _ _ _ _ (and_l (and_r ho)) hv h).e fun p σ₁ e1 h => (ihb _ _ _ _ _ _ _ (and_l (and_r (and_r ho))) hv h).e fun q σ₂ e2 h => (cmpW_el (and_l (and_l (and_l ho))) h).e fun r σ₃ e3 h =>
        onBool_el (C := fun r => Op2 X d σ₂ _ p q r σ₃ → _) h (fun t h e3 => by
          cases t with
          | false => exact i_t (tst_cmp2F e1 e2 e3 (not_ok (and_r (and_l ho)))) h
          | true => exact (ihc _ _ _ _ _ _ _ (and_r (and_r (and_r ho))) hv h).e fun z σ₄ e4 h => (cmpW_el (and_r (and_l (and_l ho))) h).e fun w σ₅ e5 h =>
              onBool_el (C := fun w => Op2 X d σ₄ _ q z w σ₅ → _) h (fun u h e5 => i_t (tst_cmp2T e1 e2 e3 e4 e5 (not_ok (and_r (and_l ho)))) h) e5) e3
  | vall op es ih =>
   exact fun sc nm s v m σ Q ho hv h => kE_el ho fun _ ho => xBo_el ho fun _ _ _ ho => dec_el (and_l ho) <| (ih _ _ _ _ _ _ _ (and_r ho) hv h).e fun p σ₁ t1 h => .i (t1 _) h
  | vlast e ih =>
   exact fun sc nm s v m σ Q ho hv h => kVc_el ho fun _ _ ho => l1_el ho fun _ ho => (ih _ _ _ _ _ _ _ ho hv h).e fun p σ₁ e1 h => .i (fun _ => ev_bo1 e1) h
  | vchc op e es ih ihs =>
   exact fun sc nm s v m σ Q ho hv h => kVc_el ho fun _ _ ho => dec_el (and_l ho) <| lC_el (and_r ho) fun _ _ ho => lC_el ho fun _ _ ho => (ih _ _ _ _ _ _ _ (and_l ho) hv h).e fun p σ₁ e1 h =>
      have k := and_r ho
      onBool_el (C := fun p => Ev X d sc m σ _ p σ₁ → _) h (fun c h e1 => chW_el (C := fun op c => Ev X d sc m σ _ (.bool c) σ₁ → ok es sc nm (.vc op _) = true → OpG (Bears X d sc m σ (.vc op _)) Q) h
        (fun h e1 k => (ihs _ _ _ _ _ _ _ k hv h).e fun q σ₂ e2 h => .i (fun _ => ev_andT e1 (e2 _)) h) (fun h e1 _ => .i (fun _ => ev_andF e1) h)
        (fun h e1 k => (ihs _ _ _ _ _ _ _ k hv h).e fun q σ₂ e2 h => .i (fun _ => ev_orF e1 (e2 _)) h) (fun h e1 _ => .i (fun _ => ev_orT e1) h) e1 k) e1
  | nil =>
   exact fun sc nm s v m σ Q ho hv h => kEs_el ho fun _ ho => nil_el ho (i_es evs_nil h)
  | cons e es ih ihs =>
   exact fun sc nm s v m σ Q ho hv h => kEs_el ho fun _ ho => lC_el ho fun _ _ ho =>
      (ih _ _ _ _ _ _ _ (and_l (and_r ho)) hv h).e fun p σ₁ e1 h => g_es (ihs _ _ _ _ _ _ _ (and_r (and_r ho)) hv h) fun ps σ₂ e2 h => i_es (evs_cons e1 e2 (notStar_ok (and_l ho) _)) h
  | tup es ih =>
   exact fun sc nm s v m σ Q ho hv h => kE_el ho fun _ ho => xTup_el ho fun _ _ _ ho => g_es (ih _ _ _ _ _ _ _ ho hv h) fun ps σ₂ e2 h => .i (ev_tup e2 h.1) h.2
  | lst es ih =>
   exact fun sc nm s v m σ Q ho hv h => kE_el ho fun _ ho => xLst_el ho fun _ _ ho => g_es (ih _ _ _ _ _ _ _ ho hv h) fun ps σ₂ e2 h => .i (ev_list e2 h.1) h.2
  | call f e es ih ihs =>
   exact fun sc nm s v m σ Q ho hv h => kE_el ho fun _ ho => xCall_el ho fun _ _ _ _ ho => nil_el (and_l ho) <| xName_el (and_r ho) fun _ _ ho => lC_el ho fun _ _ ho =>
      (ih _ _ _ _ _ _ _ (and_l (and_r ho)) hv h).e fun p σ₁ e1 h => g_es (ihs _ _ _ _ _ _ _ (and_r (and_r ho)) hv h) fun ps σ₂ e2 h => by
        obtain ⟨r, σ₃, ⟨fv, hn, hc, hcall⟩, h⟩ := h
        have o1 := and_l (and_r (and_l ho))
        exact .i (ev_call (gOk_ok hX (and_l (and_l ho)) hn) hc (evs_cons e1 e2 (notStar_ok o1 _)) hcall (notStar_ok o1 _) (noStars_ok _ (and_r (and_r (and_l ho)))) (fun _ => rfl)) h
  | meth o name e es iho ih ihs => exact s_meth name iho ih ihs
  | meth0 o name iho =>
   exact fun sc nm s v m σ Q ho hv h => kE_el ho fun _ ho => xCall_el ho fun _ _ _ _ ho => nil_el (and_l (and_l ho)) <| nil_el (and_r (and_l ho)) <| xAttr_el (and_r ho) fun _ _ _ ho => dec_el (and_l (and_l ho)) <|
      (iho _ _ _ _ _ _ _ (and_r ho) hv h).e fun a σ₀ e0 h => onRef_el (C := fun a => Ev X d sc m σ _ a σ₀ → _) h (fun n h e0 => by
        obtain ⟨r, σ₁, ⟨K, C, j, f, fs, h1, h2, h3, h4, h5, h6⟩, h⟩ := h
        exact .i (ev_meth0 e0 h1 h2 h3 h4 h5 h6 (fun _ _ => pure true) fun env => ⟨_, meth0_eval (notSuper_ok (and_l (and_r (and_l ho))) _ env) (and_r (and_r (and_l ho)))⟩) h) e0
  | attr o name iho =>
   exact fun sc nm s v m σ Q ho hv h => kE_el ho fun _ ho => xAttr_el ho fun _ _ _ ho => dec_el (and_l (and_l ho)) <|
      (iho _ _ _ _ _ _ _ (and_r ho) hv h).e fun a σ₀ e0 h => onRef_el (C := fun a => Ev X d sc m σ _ a σ₀ → _) h (fun n h e0 => by
        obtain ⟨r, ⟨K, C, j, fs, h1, h2, h3, h4, h5, h6⟩, h⟩ := h
        refine .i (ev_attr e0 h1 h2 h3 h4 h5 h6 fun env => ?_) h
        rw [arm_eval_Attribute, notSuper_ok (and_r (and_l ho))]) e0
  | dict0 =>
   exact fun sc nm s v m σ Q ho hv h => kE_el ho fun _ ho => xDict_el ho fun _ _ _ ho => nil_el (and_l ho) <| nil_el (and_r ho) <| .i ev_dict0 h
  | idx a i iha ihi =>
   exact fun sc nm s v m σ Q ho hv h => kE_el ho fun _ ho => xSub_el ho fun _ _ _ ho =>
      (iha _ _ _ _ _ _ _ (and_l (and_r ho)) hv h).e fun p σ₁ e1 h => (ihi _ _ _ _ _ _ _ (and_r (and_r ho)) hv h).e fun q σ₂ e2 h => (itmW_ok h).e fun r σ₃ e3 h => .i (ev_sub e1 e2 (e3 _ _ (notSlice_ok (and_l ho)))) h
  | slc held a lo hi iha ihl ihh => exact s_slc held iha ihl ihh
  | onone =>
   exact fun sc nm s v m σ Q ho hv h => kO_el ho fun x ho => by
      cases x with
      | some _ => cases ho
      | none => exact i_o prt_none h
  | osome e ih =>
   exact fun sc nm s v m σ Q ho hv h => kO_el ho fun _ ho => oS_el ho fun _ ho => (ih _ _ _ _ _ _ _ ho hv h).e fun p σ₁ e1 h => onInt_el (C := fun p => Ev X d sc m σ _ p σ₁ → _) h (fun i h e1 => i_o (prt_some e1) h) e1
  | comp k xs caps elt it cond ihe ihi ihc => exact s_comp k xs caps ihe ihi ihc hX
  | comp2 x y elt it₀ it₁ cond ihe ihi₀ ihi₁ ihc => exact s_comp2 x y ihe ihi₀ ihi₁ ihc
  | yes =>
   exact fun sc nm s v m σ Q ho hv h => kCs_el ho fun _ ho => nil_el ho (i_cs tsts_nil h)
  | one t ih =>
   exact fun sc nm s v m σ Q ho hv h => kCs_el ho fun _ ho => l1_el ho fun _ ho => g_t (ih _ _ _ _ _ _ _ ho hv h) fun c σ₁ t1 h => i_cs (tsts_one t1) h
  | junk =>
   exact fun sc nm s v m σ Q ho hv h => h.elim
end
end
noncomputable section
inductive CS where
  | done
  | assign (x : Nat) (e : CE) (r : CS) | assignu (x : Nat) (e : CE) (r : CS)
  | expr (e : CE) (r : CS)
  | ret (e : CE)
  | ite (t : CE) (a b r : CS)
  | whil (t : CE) (b r : CS)
  | for_ (k : LK) (xs : List Nat) (it : CE) (b r : CS)
  | assignt (xs : List Nat) (e : CE) (r : CS) | assignl (xs : List Nat) (e : CE) (r : CS)
  | seti (o i e : CE) (r : CS) | seta (o : CE) (x : Str) (e : CE) (r : CS)
  | pass (r : CS) | brk | cont
  | junk
structure Out where
  nx : Vs → Sto → Prop
  br : Vs → Sto → Prop
  co : Vs → Sto → Prop
  re : PV → Sto → Prop
noncomputable def Out.at (Q : Out) (f : AF) (v : Vs) (σ : Sto) : Prop := match f with
  | .next => Q.nx v σ
  | .brk => Q.br v σ
  | .cont => Q.co v σ
  | .ret p => Q.re p σ
noncomputable def forL (B : PV → Vs → Sto → Out → Prop) (K : Sto → Prop) : List PV → Vs → Sto → Out → Prop
  | [], v, σ, Q => K σ ∧ Q.nx v σ
  | p :: l, v, σ, Q => K σ ∧ B p v σ ⟨fun v' σ' => forL B K l v' σ' Q, Q.nx, fun v' σ' => forL B K l v' σ' Q, Q.re⟩
noncomputable def setVs : Vs → List Nat → List PV → Vs
  | v, x :: xs, ps => match ps with
    | p :: ps => setVs (setV v x p) xs ps
    | [] => v
  | v, [], _ => v
noncomputable def bindS (k : LK) (xs : List Nat) (v : Vs) (p : PV) (K : Vs → Prop) : Prop := match k with
  | .one => K (setVs v xs [p])
  | _ => onTup p fun ps => ps.length = xs.length ∧ K (setVs v xs ps)
noncomputable def isNone (p : PV) (k : Prop) : Prop := match p with | .none => k | _ => False
noncomputable def wpS (X : Stat) (d : Nat) : CS → Vs → Sto → Out → Prop
  | .done, v, σ, Q => Q.nx v σ
  | .assign x e r, v, σ, Q => wp X d e v σ fun p σ₁ => wpS X d r (setV v x p) σ₁ Q
  | .assignu x e r, v, σ, Q => wp X d e v σ fun p σ₁ => wpS X d r (setV v x p) σ₁ Q
  | .expr e r, v, σ, Q => wp X d e v σ fun p σ₁ => isNone p (wpS X d r v σ₁ Q)
  | .ret e, v, σ, Q => wp X d e v σ fun p σ₁ => Q.re p σ₁
  | .ite t a b r, v, σ, Q => wp X d t v σ fun p σ₁ => onBool p fun c => bsel c (wpS X d a v σ₁ ⟨fun v σ => wpS X d r v σ Q, Q.br, Q.co, Q.re⟩) (wpS X d b v σ₁ ⟨fun v σ => wpS X d r v σ Q, Q.br, Q.co, Q.re⟩)
  | .whil t b r, v, σ, Q => ∃ I : Nat → Vs → Sto → Prop, (∃ n, I n v σ) ∧ ∀ n v σ, I n v σ → wp X d t v σ fun p σ₁ => onBool p fun c => bsel c (wpS X d b v σ₁ ⟨fun v' σ' => ∃ n', n' < n ∧ I n' v' σ', fun v' σ' => wpS X d r v' σ' Q, fun v' σ' => ∃ n', n' < n ∧ I n' v' σ', Q.re⟩) (wpS X d r v σ₁ Q)
  | .for_ k xs it b r, v, σ, Q => wp X d it v σ fun p σ₁ => srcW X d k p σ₁ fun l K => forL (fun p v σ Q => bindS k xs v p fun v' => wpS X d b v' σ Q) K l v σ₁ ⟨fun v σ => wpS X d r v σ Q, Q.br, Q.co, Q.re⟩
  | .assignt xs e r, v, σ, Q => wp X d e v σ fun p σ₁ => onTup p fun ps => ps.length = xs.length ∧ wpS X d r (setVs v xs ps) σ₁ Q
  | .assignl xs e r, v, σ, Q => wp X d e v σ fun p σ₁ => onRef p fun n => ∃ ps, (σ₁[n]? = some (.lst ps) ∧ ps.length = xs.length) ∧ wpS X d r (setVs v xs ps) σ₁ Q
  | .seti o i e r, v, σ, Q => wp X d e v σ fun p σ₁ => wp X d o v σ₁ fun a σ₂ => wp X d i v σ₂ fun j σ₃ => onRef a fun n => onInt j fun k => ∃ l, (σ₃[n]? = some (.lst l) ∧ 0 ≤ k ∧ k < (l.length : Int) ∧ l.length ≤ 16777216) ∧ wpS X d r v (σ₃.set n (.lst (l.set k.toNat p))) Q
  | .seta o x e r, v, σ, Q => wp X d e v σ fun p σ₁ => wp X d o v σ₁ fun a σ₂ => onRef a fun n => ∃ σ₃, StF X σ₂ n x p σ₃ ∧ wpS X d r v σ₃ Q
  | .pass r, v, σ, Q => wpS X d r v σ Q
  | .brk, v, σ, Q => Q.br v σ
  | .cont, v, σ, Q => Q.co v σ
  | .junk, _, _, _ => False
noncomputable def noSwap (e : Expr) : Bool := idxOff e [8, 9, 10]
theorem noSwap_ok {e : Expr} (h : noSwap e = true) (t : Option Expr) (n : Nat) (env : Env) : swapsWith e t n env = pure false := by
  cases e <;> first | rfl | cases h
noncomputable def nameOk (sc : Scope) (nm : List Str) (x : Nat) (y : Str) : Bool := decide (nm[x]? = some y) && (decide (sc.names.lookup y = some .local) || decide (sc.names.lookup y = some .cell))
noncomputable def swapN (sc : Scope) (y : Str) (e : Expr) : Bool := noSwap e || xLc e fun _ _ _ _ => decide (sc.names.lookup y = some .cell)
noncomputable def swapU (sc : Scope) (y : Str) (np : Pos) (e : Expr) : Bool := xLc e fun _ _ s p => (decide (sc.names.lookup y = some .local) && (np.line == p.line)) && !(s.names.any fun z => z.1 == y && (z.2 == .local || z.2 == .cell))
theorem swapN_ok {sc : Scope} {y : Str} {e : Expr} {np : Pos} {n : Nat} (h : swapN sc y e = true) (env : Env) (hs : env.scope = sc) : swapsWith e (some (.Name y np)) n env = pure false := by
  unfold swapN at h
  rw [Bool.or_eq_true] at h
  rcases h with h | h
  · exact noSwap_ok h _ _ _
  · obtain ⟨_, _, _, _, rfl, h⟩ := xLc_ok h
    have hk : env.kindOf y = some .cell := by unfold Env.kindOf; rw [hs]; exact dec_ok h
    unfold swapsWith
    simp only [hk]
    rw [show (some NameKind.cell == some NameKind.local) = false from rfl, Bool.and_false, Bool.false_and, Bool.false_and]
theorem swapU_ok {sc : Scope} {y : Str} {e : Expr} {np : Pos} {n : Nat} (h : swapU sc y np e = true) (env : Env) (hs : env.scope = sc) (hb : env.blockKind = .function) : swapsWith e (some (.Name y np)) n env = pure true := by
  obtain ⟨a, b, c, p, rfl, h⟩ := xLc_ok h
  obtain ⟨h1, h3⟩ := and_ok h
  obtain ⟨h1, h2⟩ := and_ok h1
  have hk : env.kindOf y = some .local := by unfold Env.kindOf; rw [hs]; exact dec_ok h1
  unfold swapsWith
  dsimp only
  rw [hk, hb, h3, show (np.line == (Expr.ListComp a b c p).pos.line) = true from h2]
  rfl
noncomputable def tupOk (sc : Scope) (ts : List Expr) (e : Expr) (ys : List Str) : Bool := swapFree sc ts e || xTup e fun vs => swapOk sc ts vs && decide (swapNamesOf sc ts = ys)
noncomputable def locals (sc : Scope) (ys : List Str) : Bool := decide ys.Nodup && ys.all fun y => decide (sc.names.lookup y = some .local) || decide (sc.names.lookup y = some .cell)
noncomputable def xsOk (nm : List Str) (xs : List Nat) : Bool := xs.all fun x => (nm[x]?).isSome
noncomputable def okS : CS → Scope → List Str → List Stmt → Bool
  | .done, _, _, l => l.isEmpty
  | .assign x e r, sc, nm, l => lC l fun z l => sAs z fun ts e' => l1 ts fun t => xNamep t fun y _ => (nameOk sc nm x y && swapN sc y e') && (ok e sc nm (.e e') && okS r sc nm l)
  | .assignu x e r, sc, nm, l => lC l fun z l => sAs z fun ts e' => l1 ts fun t => xNamep t fun y p => (nameOk sc nm x y && swapU sc y p e') && (ok e sc nm (.cj e') && okS r sc nm l)
  | .expr e r, sc, nm, l => lC l fun z l => sEx z fun e' => noSwap e' && (ok e sc nm (.e e') && okS r sc nm l)
  | .ret e, sc, nm, l => lC l fun z _ => sRt z fun e' => oS e' fun e' => ok e sc nm (.e e')
  | .ite t a b r, sc, nm, l => lC l fun z l => sIf z fun t' a' b' => ok t sc nm (.t t') && (okS a sc nm a' && (okS b sc nm b' && okS r sc nm l))
  | .whil t b r, sc, nm, l => lC l fun z l => sWh z fun t' b' c' => (c'.isEmpty && ok t sc nm (.t t')) && (okS b sc nm b' && okS r sc nm l)
  | .for_ k xs it b r, sc, nm, l => lC l fun z l => sFor z fun t i b' c' => (c'.isEmpty && (tgOk k (nmAt nm xs) t && (xsOk nm xs && locals sc (nmAt nm xs)))) && (srcOk k sc i (fun a => ok it sc nm (.e a)) && (okS b sc nm b' && okS r sc nm l))
  | .assignt xs e r, sc, nm, l => lC l fun z l => sAs z fun ts e' => l1 ts fun t => xTup t fun ts => ((isNames ts (nmAt nm xs) && (xsOk nm xs && locals sc (nmAt nm xs))) && (noSwap e' && tupOk sc ts e' (nmAt nm xs))) && (ok e sc nm (.e e') && okS r sc nm l)
  | .assignl xs e r, sc, nm, l => lC l fun z l => sAs z fun ts e' => l1 ts fun t => xTup t fun ts => ((isNames ts (nmAt nm xs) && (xsOk nm xs && locals sc (nmAt nm xs))) && (noSwap e' && swapFree sc ts e')) && (ok e sc nm (.e e') && okS r sc nm l)
  | .seti o i e r, sc, nm, l => lC l fun z l => sAs z fun ts e' => l1 ts fun t => xSub t fun o' i' => (noSwap e' && ok e sc nm (.e e')) && (ok o sc nm (.e o') && (ok i sc nm (.e i') && okS r sc nm l))
  | .seta o x e r, sc, nm, l => lC l fun z l => sAs z fun ts e' => l1 ts fun t => xAttr t fun o' y _ => ((decide (x = y) && noSwap e') && ok e sc nm (.e e')) && (ok o sc nm (.e o') && okS r sc nm l)
  | .pass r, sc, nm, l => lC l fun z l => sPa z && okS r sc nm l
  | .brk, _, _, l => lC l fun z _ => sBr z
  | .cont, _, _, l => lC l fun z _ => sCo z
  | .junk, _, _, _ => true
end
noncomputable section
theorem getV_set (p q : PV) : ∀ (v : Vs) (i x : Nat), getV (setV v x p) i = some q → (i = x ∧ q = p) ∨ (i ≠ x ∧ getV v i = some q) := by
  intro v
  induction v with
  | nil => intro i x h; rw [show setV [] x p = [] by cases x <;> rfl, getV_nil] at h; cases h
  | cons a r ih =>
    intro i x h
    cases x with
    | zero =>
      cases i with
      | zero => cases h; exact .inl ⟨rfl, rfl⟩
      | succ i => exact .inr ⟨Nat.succ_ne_zero _, h⟩
    | succ x =>
      cases i with
      | zero => exact .inr ⟨fun e => Nat.succ_ne_zero _ e.symm, h⟩
      | succ i =>
        rcases ih i x h with ⟨h1, h2⟩ | ⟨h1, h2⟩
        · exact .inl ⟨by rw [h1], h2⟩
        · exact .inr ⟨fun e => h1 (Nat.succ.inj e), h2⟩
theorem nodup_at {α : Type} {a : α} {l : List α} : ∀ {i j : Nat}, l.Nodup → l[i]? = some a → l[j]? = some a → i = j := by
  intro i j hn hi hj
  obtain ⟨hi, e⟩ := List.getElem?_eq_some_iff.mp hi
  obtain ⟨hj, e'⟩ := List.getElem?_eq_some_iff.mp hj
  exact (List.getElem_inj hn).mp (e.trans e'.symm)
theorem vm_put {nm : List Str} {v : Vs} {m : Vm} {x : Nat} {y : Str} {p : PV} (hnd : nm.Nodup) (hv : VmOk nm v m) (hy : nm[x]? = some y) : VmOk nm (setV v x p) (put m y p) := by
  intro i z q hz hq
  rw [lookup_put]
  rcases getV_set p q v i x hq with ⟨rfl, rfl⟩ | ⟨hne, h⟩
  · rw [hy] at hz; cases hz; simp
  · rw [if_neg (show ¬ (z == y) = true from fun e => hne (nodup_at hnd hz (by rw [eq_of_beq e]; exact hy)))]
    exact hv _ _ _ hz h
theorem vm_puts {nm : List Str} (hnd : nm.Nodup) {xs : List Nat} : ∀ {ps : List PV} {v : Vs} {m : Vm}, ps.length = xs.length → xsOk nm xs = true → VmOk nm v m → VmOk nm (setVs v xs ps) (puts m ((nmAt nm xs).zip ps)) := by
  induction xs with
  | nil => intro ps v m _ _ hv; cases ps <;> exact hv
  | cons x xs ih =>
    intro ps v m hl hx hv
    cases ps with
    | nil => cases hl
    | cons p ps =>
      have hx : ((nm[x]?).isSome && xsOk nm xs) = true := hx
      obtain ⟨h1, h2⟩ := and_ok hx
      obtain ⟨y, hy⟩ := Option.isSome_iff_exists.mp h1
      have e : (nmAt nm (x :: xs)).zip (p :: ps) = (y, p) :: (nmAt nm xs).zip ps := by
        unfold nmAt; rw [List.map_cons, hy]; rfl
      rw [e]
      exact ih (Nat.succ.inj hl) h2 (vm_put hnd hv hy)
theorem zip_rev {α β : Type} {b : List β} : ∀ {a : List α}, a.length = b.length → a.reverse.zip b.reverse = (a.zip b).reverse := by
  induction b with
  | nil => intro a h; rw [List.length_eq_zero_iff.mp h]; rfl
  | cons y b ih =>
    intro a h
    cases a with
    | nil => cases h
    | cons x a =>
      have h' := Nat.succ.inj h
      rw [List.reverse_cons, List.reverse_cons, List.zip_append (by rw [List.length_reverse, List.length_reverse, h']), ih h']
      show _ = ((x, y) :: a.zip b).reverse
      rw [List.reverse_cons]; rfl
theorem vm_perm {nm : List Str} {v : Vs} {m : Vm} {l l' : List (Str × PV)} (hp : l.Perm l') (hn : (l.map (·.1)).Nodup) (hv : VmOk nm v (puts m l)) : VmOk nm v (puts m l') := by
  intro i x p hx hq
  have h := hv i x p hx hq
  have hn' : (l'.map (·.1)).Nodup := (hp.map _).nodup_iff.mp hn
  by_cases hm : x ∈ l.map (·.1)
  · obtain ⟨⟨y, q⟩, hz, rfl⟩ := List.mem_map.mp hm
    rw [puts_at hn hz] at h
    cases h
    exact puts_at hn' (hp.mem_iff.mp hz)
  · rw [puts_not hm] at h
    rw [puts_not fun q => hm ((hp.map _).mem_iff.mpr q)]
    exact h
theorem bindS_ok {k : LK} {nm : List Str} {xs : List Nat} {t : Expr} {p : PV} {v : Vs} {R : Vs → Prop} (ht : tgOk k (nmAt nm xs) t = true) (h : bindS k xs v p R) : (itm k p).length = xs.length ∧ R (setVs v xs (itm k p)) ∧
    ∀ {X : Stat} {d : Nat} {sc : Scope} {m : Vm}, (∀ x ∈ nmAt nm xs, sc.names.lookup x = some .local ∨ sc.names.lookup x = some .cell) → Asg X d sc m t p (puts m ((nmAt nm xs).zip (itm k p))) := by
  have hl : (nmAt nm xs).length = xs.length := List.length_map _
  have key : ∀ {R' : Vs → Prop}, bindW k (nmAt nm xs).length p R' → (itm k p).length = xs.length ∧ ∀ {X : Stat} {d : Nat} {sc : Scope} {m : Vm}, (∀ x ∈ nmAt nm xs, sc.names.lookup x = some .local ∨ sc.names.lookup x = some .cell) → Asg X d sc m t p (puts m ((nmAt nm xs).zip (itm k p))) := fun b => by
    obtain ⟨h1, _, h2⟩ := bindW_ok ht b
    exact ⟨by rw [h1, hl], fun hk => h2.1 hk⟩
  cases k with
  | one => exact ⟨(key (R' := fun _ => True) trivial).1, h, (key (R' := fun _ => True) trivial).2⟩
  | tup =>
    obtain ⟨ps, rfl, h1, h2⟩ := onTup_ok h
    have := key (R' := fun _ => True) (show onTup (.tup ps) fun ps => ps.length = _ ∧ True from ⟨by rw [hl, h1], trivial⟩)
    exact ⟨this.1, h2, this.2⟩
  | enum =>
    obtain ⟨ps, rfl, h1, h2⟩ := onTup_ok h
    have := key (R' := fun _ => True) (show onTup (.tup ps) fun ps => ps.length = _ ∧ True from ⟨by rw [hl, h1], trivial⟩)
    exact ⟨this.1, h2, this.2⟩
section
variable {X : Stat} {d : Nat} {sc : Scope} {nm : List Str}
inductive BearG (nm : List Str) (Q : Out) (A : AF → Vm → Sto → Prop) : Prop
  | mk (f : AF) (m' : Vm) (v' : Vs) (σ' : Sto) (e : A f m' σ') (hv : VmOk nm v' m') (h : Q.at f v' σ')
theorem BearG.i {Q : Out} {A : AF → Vm → Sto → Prop} {f : AF} {m' : Vm} {v' : Vs} {σ' : Sto} (e : A f m' σ') (hv : VmOk nm v' m') (h : Q.at f v' σ') : BearG nm Q A := ⟨f, m', v', σ', e, hv, h⟩
theorem BearG.mono {Q : Out} {A B : AF → Vm → Sto → Prop} (g : BearG nm Q A) (k : ∀ f m' σ', A f m' σ' → B f m' σ') : BearG nm Q B := let ⟨f, m', v', σ', e, hv, h⟩ := g; ⟨f, m', v', σ', k _ _ _ e, hv, h⟩
noncomputable abbrev BearS (X : Stat) (d : Nat) (sc : Scope) (nm : List Str) (m : Vm) (σ : Sto) (l : List Stmt) (Q : Out) : Prop := BearG nm Q (Exs X d sc m σ l)
theorem seq_on {m m₁ : Vm} {σ σ₁ : Sto} {st : Stmt} {l : List Stmt} {Q : Out} (h1 : Ex X d sc m σ st .next m₁ σ₁) (h3 : BearS X d sc nm m₁ σ₁ l Q) : BearS X d sc nm m σ (st :: l) Q := h3.mono fun _ _ _ e => exs_cons h1 e
theorem seq_ok {A : AF → Vm → Sto → Prop} {m : Vm} {σ : Sto} {st : Stmt} {l : List Stmt} {R : Vs → Sto → Prop} {Q : Out} (g : BearG nm ⟨R, Q.br, Q.co, Q.re⟩ A) (k : ∀ {f m' σ'}, A f m' σ' → Ex X d sc m σ st f m' σ') (h3 : ∀ {m₁ v₁ σ₁}, VmOk nm v₁ m₁ → R v₁ σ₁ → BearS X d sc nm m₁ σ₁ l Q) : BearS X d sc nm m σ (st :: l) Q := by
  obtain ⟨f, m₁, v₁, σ₁, e, hv, h⟩ := g
  cases f with
  | next => exact seq_on (k e) (h3 hv h)
  | _ => exact .i (exs_stop (k e) trivial) hv h
theorem forL_ok {B : PV → Vs → Sto → Out → Prop} {K : Sto → Prop} {k : LK} {xs : List Str} {t : Expr} {body : List Stmt} (ht : tgOk k xs t = true)
    (hB : ∀ p v m σ Q, VmOk nm v m → B p v σ Q → ∃ m₁, Asg X d sc m t p m₁ ∧ BearS X d sc nm m₁ σ body Q) (l r : List PV) :
    ∀ (i : Nat) (a : AI) (v : Vs) (m : Vm) (σ : Sto) (Q : Out), Runs k l K i a → l.drop i = r → VmOk nm v m → forL B K r v σ Q → BearG nm Q (FL X d sc t body a m σ) := by
  induction r with
  | nil => intro i a v m σ Q hr hd hv h; exact .i (fl_done (hr.stop h.1 hd)) hv h.2
  | cons p r ih =>
    intro i a v m σ Q hr hd hv h
    obtain ⟨h0, h⟩ := h
    obtain ⟨a', N, hr', hd'⟩ := hr.go h0 hd
    have hg := tg_noGo ht hr
    obtain ⟨m₁, hA, f, m₂, v₁, σ₁, e1, hv1, h⟩ := hB p v m σ _ hv h
    cases f with
    | next => exact (ih (i + 1) a' v₁ m₂ σ₁ Q hr' hd' hv1 h).mono fun _ _ _ e2 => fl_turn N hg hA e1 trivial e2
    | cont => exact (ih (i + 1) a' v₁ m₂ σ₁ Q hr' hd' hv1 h).mono fun _ _ _ e2 => fl_turn N hg hA e1 trivial e2
    | brk => exact .i (fl_brk N hg hA e1) hv1 h
    | ret q => exact .i (fl_ret N hg hA e1) hv1 h
theorem whil_ok {I : Nat → Vs → Sto → Prop} {T : CE} {Bd : Vs → Sto → Out → Prop} {R : Vs → Sto → Prop} {Q : Out} {t : Expr} {body : List Stmt}
    (hT : ∀ v m σ Q, VmOk nm v m → wp X d T v σ Q → OpG (Bears X d sc m σ (.t t)) Q) (hB : ∀ v m σ Q, VmOk nm v m → Bd v σ Q → BearS X d sc nm m σ body Q)
    (hI : ∀ n v σ, I n v σ → wp X d T v σ fun p σ₁ => onBool p fun c => bsel c (Bd v σ₁ ⟨fun v' σ' => ∃ n', n' < n ∧ I n' v' σ', R, fun v' σ' => ∃ n', n' < n ∧ I n' v' σ', Q.re⟩) (R v σ₁)) (n : Nat) :
    ∀ (v : Vs) (m : Vm) (σ : Sto), VmOk nm v m → I n v σ → BearG nm ⟨R, Q.br, Q.co, Q.re⟩ (WL X d sc t body m σ) := by
  induction n using Nat.strongRecOn with
  | ind n ih =>
    intro v m σ hv hi
    refine g_t (hT _ _ _ _ hv (hI n v σ hi)) fun b σ₁ t1 h => ?_
    cases b with
    | false => exact .i (wl_done t1) hv h
    | true =>
      obtain ⟨f, m₁, v₁, σ₂, e1, hv1, h⟩ := hB _ _ _ _ hv h
      cases f with
      | next => obtain ⟨n', hn, h⟩ := h; exact (ih n' hn _ _ _ hv1 h).mono fun _ _ _ e2 => wl_turn t1 e1 trivial e2
      | cont => obtain ⟨n', hn, h⟩ := h; exact (ih n' hn _ _ _ hv1 h).mono fun _ _ _ e2 => wl_turn t1 e1 trivial e2
      | brk => exact .i (wl_brk t1 e1) hv1 h
      | ret q => exact .i (wl_ret t1 e1) hv1 h
@[elab_as_elim] theorem isNone_el {C : PV → Prop} {p : PV} {z : Prop} (h : isNone p z) (f : z → C .none) : C p := by
  cases p <;> first | exact h.elim | exact f h
theorem nameOk_ok {x : Nat} {y : Str} (h : nameOk sc nm x y = true) : nm[x]? = some y ∧ (sc.names.lookup y = some .local ∨ sc.names.lookup y = some .cell) := by
  unfold nameOk at h
  simpa only [Bool.and_eq_true, Bool.or_eq_true, decide_eq_true_eq] using h
theorem locals_ok {ys : List Str} (h : locals sc ys = true) : ys.Nodup ∧ ∀ y ∈ ys, sc.names.lookup y = some .local ∨ sc.names.lookup y = some .cell := by
  unfold locals at h
  simpa only [Bool.and_eq_true, Bool.or_eq_true, decide_eq_true_eq, List.all_eq_true] using h
noncomputable def SndS (X : Stat) (d : Nat) (sc : Scope) (nm : List Str) (c : CS) : Prop := ∀ (l : List Stmt) (v : Vs) (m : Vm) (σ : Sto) (Q : Out), okS c sc nm l = true → VmOk nm v m → wpS X d c v σ Q → BearS X d sc nm m σ l Q
theorem s_for (hX : X.OK) (hnd : nm.Nodup) (k : LK) (xs : List Nat) (it : CE) {b r : CS} (ihb : SndS X d sc nm b) (ih : SndS X d sc nm r) : SndS X d sc nm (.for_ k xs it b r) := by
  intro l v m σ Q ho hv h
  refine lC_el ho fun _ _ ho => ?_
  refine sFor_el ho fun _ _ _ _ _ ho => ?_
  have o1 := and_l ho
  replace ho := and_r ho
  refine nil_el (and_l o1) ?_
  replace o1 := and_r o1
  obtain ⟨σ₁, l, K, a, hset, hi, hr, h⟩ := srcW_ok hX (and_l ho) (W := wp X d it v σ) h fun a Q oa h => sound hX _ _ _ _ _ _ _ _ oa hv h
  exact seq_ok (forL_ok (X := X) (d := d) (sc := sc) (nm := nm) (and_l o1) (fun p v m σ Q hv h => by
    obtain ⟨hl, h, hA⟩ := bindS_ok (and_l o1) h
    exact ⟨_, hA (locals_ok (and_r (and_r o1))).2, ihb _ _ _ _ _ (and_l (and_r ho)) (vm_puts hnd hl (and_l (and_r o1)) hv) h⟩) l l 0 a v m σ₁ _ hr rfl hv h) (fun e => ex_for hi e hset) fun hv h => ih _ _ _ _ _ (and_r (and_r ho)) hv h
theorem s_assignt (hX : X.OK) (hnd : nm.Nodup) (xs : List Nat) (e : CE) {r : CS} (ih : SndS X d sc nm r) : SndS X d sc nm (.assignt xs e r) := by
  intro l v m σ Q ho hv h
  refine lC_el ho fun _ _ ho => ?_
  refine sAs_el ho fun _ e' _ ho => ?_
  refine l1_el ho fun _ ho => ?_
  refine xTup_el ho fun ts _ _ ho => ?_
  have o1 := and_l (and_l ho)
  have o2 := and_r (and_l ho)
  have o3 := and_l (and_r o1)
  have o5 := and_r o2
  obtain ⟨hn, hk⟩ := locals_ok (and_r (and_r o1))
  have hN := isNames_ok (and_l o1)
  refine (sound hX _ _ _ _ _ _ _ _ (and_l (and_r ho)) hv h).e fun p σ₁ e1 h => ?_
  have hlen : (nmAt nm xs).length = xs.length := List.length_map _
  refine onTup_el (C := fun p => Ev X d sc m σ e' p σ₁ → _) h (fun ps h e1 => ?_) e1
  obtain ⟨hl, h⟩ := h
  have hl' := hlen.trans hl.symm
  have hv' := vm_puts hnd hl o3 hv
  have o6 := and_r (and_r ho)
  clear ho hv o1
  unfold tupOk at o5
  rw [Bool.or_eq_true] at o5
  rcases o5 with hsw | o5
  · exact seq_on (ex_assign_t0 e1 (asg_tuple hN hl' hk) (fun env => noSwap_ok (and_l o2) _ _ env) fun env hs => swap_none hsw hs) (ih _ _ _ _ _ o6 hv' h)
  · clear o2 o3
    revert e1
    refine xTup_el o5 fun vs _ _ o5 e1 => ?_
    have o8 := dec_ok (and_r o5)
    have hz : ((nmAt nm xs).zip ps).map (·.1) = nmAt nm xs := List.map_fst_zip (Nat.le_of_eq hl')
    have hv'' := vm_perm (l' := (swapNamesOf sc ts).reverse.zip ps.reverse) (by rw [o8, zip_rev hl']; exact (List.reverse_perm _).symm) (by rw [hz]; exact hn) hv'
    exact seq_on (ex_assign_t1 e1 (and_l o5) (by rw [o8, hl']) (by rw [o8]; exact hk)) (ih _ _ _ _ _ o6 hv'' h)
theorem soundS (hX : X.OK) (hnd : nm.Nodup) : ∀ (c : CS), SndS X d sc nm c := by
  intro c
  induction c with
  | done => exact fun l v m σ Q ho hv h => nil_el ho <| .i (f := .next) exs_nil hv h
  | assign x e r ih =>
    exact fun l v m σ Q ho hv h => lC_el ho fun _ _ ho => sAs_el ho fun _ _ _ ho => l1_el ho fun _ ho => xNamep_el ho fun _ _ ho => (sound hX _ _ _ _ _ _ _ _ (and_l (and_r ho)) hv h).e fun p σ₁ e1 h =>
      have y := nameOk_ok (and_l (and_l ho))
      seq_on (ex_assign e1 y.2 (swapN_ok (and_r (and_l ho)))) (ih _ _ _ _ _ (and_r (and_r ho)) (vm_put hnd hv y.1) h)
  | assignu x e r ih =>
    exact fun l v m σ Q ho hv h => lC_el ho fun _ _ ho => sAs_el ho fun _ _ _ ho => l1_el ho fun _ ho => xNamep_el ho fun _ _ ho => (sound hX _ _ _ _ _ _ _ _ (and_l (and_r ho)) hv h).e fun p σ₁ J h => by
      have y := nameOk_ok (and_l (and_l ho))
      have osw := and_r (and_l ho)
      have o3 := and_r (and_r ho)
      clear ho
      cases J with | mk h1 h2 h3 h4 h5 h6 h7 h8 h9 => exact seq_on (ex_assign_u h1 h2 h3 h4 h5 h6 h7 h8 h9 y.2 (swapU_ok osw)) (ih _ _ _ _ _ o3 (vm_put hnd hv y.1) h)
  | expr e r ih =>
    exact fun l v m σ Q ho hv h => lC_el ho fun _ _ ho => sEx_el ho fun _ _ ho => (sound hX _ _ _ _ _ _ _ _ (and_l (and_r ho)) hv h).e fun p σ₁ e1 h =>
      isNone_el (C := fun p => Ev X d sc m σ _ p σ₁ → _) h (fun h e1 => seq_on (ex_expr e1 (noSwap_ok (and_l ho) _ _)) (ih _ _ _ _ _ (and_r (and_r ho)) hv h)) e1
  | ret e =>
    exact fun l v m σ Q ho hv h => lC_el ho fun _ _ ho => sRt_el ho fun _ _ ho => oS_el ho fun _ ho => (sound hX _ _ _ _ _ _ _ _ ho hv h).e fun p σ₁ e1 h => .i (f := .ret p) (exs_stop (ex_ret e1) trivial) hv h
  | ite t a b r iha ihb ih =>
    exact fun l v m σ Q ho hv h => lC_el ho fun _ _ ho => sIf_el ho fun _ _ _ _ ho => g_t (sound hX _ _ _ _ _ _ _ _ (and_l ho) hv h) fun c σ₁ t1 h => by
      cases c with
      | true => exact seq_ok (iha _ _ _ _ _ (and_l (and_r ho)) hv h) (ex_ifT t1) (ih _ _ _ _ _ (and_r (and_r (and_r ho))))
      | false => exact seq_ok (ihb _ _ _ _ _ (and_l (and_r (and_r ho))) hv h) (ex_ifF t1) (ih _ _ _ _ _ (and_r (and_r (and_r ho))))
  | whil t b r ihb ih =>
    exact fun l v m σ Q ho hv h => lC_el ho fun _ _ ho => sWh_el ho fun _ _ _ _ ho => nil_el (and_l (and_l ho)) <| by
      obtain ⟨I, ⟨n, hn⟩, hI⟩ := h
      exact seq_ok (whil_ok (fun v m σ Q hv h => sound hX _ _ _ _ _ _ _ _ (and_r (and_l ho)) hv h) (fun v m σ Q hv h => ihb _ _ _ _ _ (and_l (and_r ho)) hv h) hI n v m σ hv hn) (fun e => ex_while e) (ih _ _ _ _ _ (and_r (and_r ho)))
  | for_ k xs it b r ihb ih => exact s_for hX hnd k xs it ihb ih
  | assignt xs e r ih => exact s_assignt hX hnd xs e ih
  | assignl xs e r ih =>
    exact fun l v m σ Q ho hv h => lC_el ho fun _ _ ho => sAs_el ho fun _ _ _ ho => l1_el ho fun _ ho => xTup_el ho fun _ _ _ ho => (sound hX _ _ _ _ _ _ _ _ (and_l (and_r ho)) hv h).e fun p σ₁ e1 h =>
      onRef_el (C := fun p => Ev X d sc m σ _ p σ₁ → _) h (fun n h e1 => by
        obtain ⟨ps, ⟨hσ, hl⟩, h⟩ := h
        have o1 := and_l (and_l ho)
        have o2 := and_r (and_l ho)
        have o3 := and_r o1
        exact seq_on (ex_assign_l e1 hσ (isNames_ok (and_l o1)) ((List.length_map _).trans hl.symm) (locals_ok (and_r o3)).2 (fun env => noSwap_ok (and_l o2) _ _ env) fun env hs => swap_none (and_r o2) hs) (ih _ _ _ _ _ (and_r (and_r ho)) (vm_puts hnd hl (and_l o3) hv) h)) e1
  | seti o i e r ih =>
    exact fun l v m σ Q ho hv h => lC_el ho fun _ _ ho => sAs_el ho fun _ _ _ ho => l1_el ho fun _ ho => xSub_el ho fun _ _ _ ho => (sound hX _ _ _ _ _ _ _ _ (and_r (and_l ho)) hv h).e fun p σ₁ e1 h =>
      (sound hX _ _ _ _ _ _ _ _ (and_l (and_r ho)) hv h).e fun a σ₂ e2 h => (sound hX _ _ _ _ _ _ _ _ (and_l (and_r (and_r ho))) hv h).e fun j σ₃ e3 h =>
        onRef_el (C := fun p => Ev X d sc m σ₁ _ p σ₂ → _) h (fun n h e2 => onInt_el (C := fun p => Ev X d sc m σ₂ _ p σ₃ → _) h (fun k ⟨l', h, f⟩ e3 =>
          seq_on (ex_seti e1 e2 e3 h.1 h.2.1 h.2.2.1 h.2.2.2 fun env => noSwap_ok (and_l (and_l ho)) _ _ env) (ih _ _ _ _ _ (and_r (and_r (and_r ho))) hv f)) e3) e2
  | seta o x e r ih =>
    exact fun l v m σ Q ho hv h => lC_el ho fun _ _ ho => sAs_el ho fun _ _ _ ho => l1_el ho fun _ ho => xAttr_el ho fun _ _ _ ho => dec_el (and_l (and_l (and_l ho))) <| (sound hX _ _ _ _ _ _ _ _ (and_r (and_l ho)) hv h).e fun p σ₁ e1 h =>
      (sound hX _ _ _ _ _ _ _ _ (and_l (and_r ho)) hv h).e fun a σ₂ e2 h => onRef_el (C := fun p => Ev X d sc m σ₁ _ p σ₂ → _) h (fun n h e2 => by
        obtain ⟨σ₃, ⟨K, C, j, fs, h1, h2, h3, h4, h5, rfl⟩, h⟩ := h
        exact seq_on (ex_seta e1 e2 h1 h2 h3 h4 h5 fun env => noSwap_ok (and_r (and_l (and_l ho))) _ _ env) (ih _ _ _ _ _ (and_r (and_r ho)) hv h)) e2
  | pass r ih => exact fun l v m σ Q ho hv h => lC_el ho fun _ _ ho => sPa_el (and_l ho) fun _ => seq_on ex_pass (ih _ _ _ _ _ (and_r ho) hv h)
  | brk => exact fun l v m σ Q ho hv h => lC_el ho fun _ _ ho => sBr_el ho fun _ => .i (f := .brk) (exs_stop ex_break trivial) hv h
  | cont => exact fun l v m σ Q ho hv h => lC_el ho fun _ _ ho => sCo_el ho fun _ => .i (f := .cont) (exs_stop ex_continue trivial) hv h
  | junk => exact fun l v m σ Q ho hv h => h.elim
end
end
noncomputable section
noncomputable def FnI (X : Stat) (i : Nat) (dfl : List PV) : Prop := ∃ f, X.mg (dName i) = some (.ref f) ∧ Fn X f (dNs i) dfl (dBody i) (dScope i)
noncomputable def chk (ns : List Str) (sc : Scope) (k j : Nat) : Bool :=
  (Nat.ble k ns.length && Nat.ble ns.length (k + j)) && (((decide (sc.kind = .function) && !sc.isCoroutine) && (!sc.isGenerator && decide ns.Nodup)) &&
    (ns.all (fun x => decide (sc.names.lookup x = some .local) || decide (sc.names.lookup x = some .cell)) && decide ((cellsFrom 0 sc.names []).map (·.1)).Nodup))
noncomputable def initV (ps dfl : List PV) (k n : Nat) : Vs := (ps ++ dfl.drop (ps.length + dfl.length - k)).map some ++ List.replicate (n - k) none
noncomputable def backQ (P : PV → Sto → Prop) : Out := ⟨fun _ σ => P .none σ, fun _ _ => False, fun _ _ => False, P⟩
theorem getV_eq (v : Vs) : ∀ (i : Nat), getV v i = (v[i]?).join := by
  induction v with
  | nil => intro i; rw [getV_nil]; simp
  | cons a r ih =>
    intro i
    cases i with
    | zero => simp [getV]
    | succ i => rw [show getV (a :: r) (i + 1) = getV r i from rfl, ih i]; simp
theorem vm_init {ns nm : List Str} {qs : List PV} {n : Nat} (hl : ns.length = qs.length) (hnd : ns.Nodup) (hp : ns <+: nm) : VmOk nm (qs.map some ++ List.replicate n none) (ns.zip qs) := by
  intro i x p hx hq
  rw [getV_eq] at hq
  by_cases hi : i < qs.length
  · rw [List.getElem?_append_left (by simpa using hi), List.getElem?_map, List.getElem?_eq_getElem hi] at hq
    simp only [Option.map_some, Option.join_some, Option.some.injEq] at hq
    have hx' : ns[i]? = some x := by
      obtain ⟨t, rfl⟩ := hp
      rwa [List.getElem?_append_left (hl ▸ hi)] at hx
    clear hp hx
    subst hq
    induction ns generalizing qs i with
    | nil => cases hx'
    | cons a r ih =>
      cases qs with
      | nil => exact absurd hi (Nat.not_lt_zero _)
      | cons q qs =>
        rw [List.zip_cons_cons, List.lookup_cons]
        cases i with
        | zero => cases hx'; simp
        | succ i =>
          rw [List.getElem?_cons_succ] at hx'
          have hne : (x == a) = false := by
            cases e : x == a with
            | false => rfl
            | true =>
              rw [eq_of_beq e] at hx'
              exact absurd (List.mem_of_getElem? hx') (List.nodup_cons.mp hnd).1
          simp only [hne]
          exact ih (by simpa using hl) (List.nodup_cons.mp hnd).2 i (by simpa using hi) hx'
  · rw [List.getElem?_append_right (by simpa using Nat.not_lt.mp hi)] at hq
    cases h : (List.replicate n (none : Option PV))[i - (qs.map some).length]? with
    | none => rw [h] at hq; cases hq
    | some o =>
      have := List.mem_of_getElem? h
      rw [List.mem_replicate] at this
      rw [h, this.2] at hq
      cases hq
noncomputable def fits (ns : List Str) (sc : Scope) (body : List Stmt) (k j : Nat) (c : CS) (nm : List Str) : Bool := chk ns sc k j && (okS c sc nm body && (decide nm.Nodup && ns.isPrefixOf nm))
section
variable {X : Stat} {d : Nat}
theorem code_wp {f : Addr} {ns : List Str} {sc : Scope} {body : List Stmt} {k j : Nat} {c : CS} {nm : List Str} {dfl ps : List PV} {σ : Sto} {P : PV → Sto → Prop} (hX : X.OK) (F : Fn X f ns dfl body sc) (hps : ps.length = k) (hdfl : dfl.length = j) (hc : fits ns sc body k j c nm = true)
    (h : wpS X d c (initV ps dfl ns.length nm.length) σ (backQ P)) : ∃ r σ', CodeV X (d + 1) σ (.ref f) ps r σ' ∧ P r σ' := by
  subst hps hdfl
  obtain ⟨hc, ho⟩ := and_ok hc
  obtain ⟨hok, ho⟩ := and_ok ho
  obtain ⟨hnm, hpre⟩ := and_ok ho
  unfold chk at hc
  simp only [Bool.and_eq_true, decide_eq_true_eq, Bool.not_eq_true', Nat.ble_eq, List.all_eq_true, Bool.or_eq_true] at hc
  obtain ⟨⟨h1, h2⟩, ⟨⟨hk, hco⟩, hgen, hn⟩, hkind, hnd⟩ := hc
  have hl : ns.length = (ps ++ dfl.drop (ps.length + dfl.length - ns.length)).length := by
    rw [List.length_append, List.length_drop]; lia
  obtain ⟨fl, m', v', σ', e, _, hq⟩ := soundS hX (dec_ok hnm) c body _ _ σ _ hok (vm_init hl hn (List.isPrefixOf_iff_prefix.mp hpre)) h
  cases fl with
  | next => exact ⟨_, σ', code_fn hX F h1 h2 hk hco hgen hn hkind hnd e rfl, hq⟩
  | ret q => exact ⟨q, σ', code_fn hX F h1 h2 hk hco hgen hn hkind hnd e rfl, hq⟩
  | brk => exact hq.elim
  | cont => exact hq.elim
theorem mf_of {σ₀ σ σ' : Sto} {p r : PV} {ps : List PV} {T id : String} {name : Str} (M : Mth T id name) (hT : ∀ (s : Shared) (ι : Nat → Addr) (v : Value), SR X.B ι σ₀ s.heap → Rep s.heap ι σ₀.length p v → s.TypeIs v T ∧ ∀ a, v = .ref a → ∃ ob, s.heap.get? a = some ob ∧ ob.dict = none) (h : CallV X d σ (.builtin id) (p :: ps) r σ') : MF X d σ₀ p σ name ps r σ' := ⟨T, id, M, hT, h⟩
theorem mf_append {σ₀ σ : Sto} {n : Nat} {l l₀ : List PV} {p : PV} (h0 : σ₀[n]? = some (.lst l₀)) (hl : σ[n]? = some (.lst l)) (hz : l.length ≤ 16777216) : MF X d σ₀ (.ref n) σ "append" [p] .none (σ.set n (.lst (l ++ [p]))) := mf_of mth_append (isT_list h0) (append_l hl hz)
theorem mf_extend {σ₀ σ : Sto} {n j : Nat} {l l' l₀ : List PV} (h0 : σ₀[n]? = some (.lst l₀)) (hl : σ[n]? = some (.lst l)) (hl' : σ[j]? = some (.lst l')) (hz : l.length + l'.length ≤ 16777216) : MF X d σ₀ (.ref n) σ "extend" [.ref j] .none (σ.set n (.lst (l ++ l'))) := mf_of mth_extend (isT_list h0) (extend_l hl hl' hz)
theorem itm_l {σ : Sto} {n : Nat} {l : List PV} {i : Int} {p : PV} (hl : σ[n]? = some (.lst l)) (h0 : 0 ≤ i) (hc : l[i.toNat]? = some p) (hz : l.length ≤ 1099511627776) : Itm X d σ (.ref n) (.int i) p σ := fun _ _ hp => item_l' hp hl h0 hc hz
theorem itm_d {σ : Sto} {n : Nat} {f : Int → Option Int} {a i : Int} (hl : σ[n]? = some (.raw (DictI X f))) (hf : f a = some i) : Itm X d σ (.ref n) (.int a) (.int i) σ := fun _ _ hp => item_d hp hl hf
theorem cut_l {σ : Sto} {n : Nat} {l : List PV} {lo hi : Option Int} (hl : σ[n]? = some (.lst l)) (hz : l.length ≤ 16777216) : Cut X d σ true (.ref n) lo hi (.ref σ.length) (σ ++ [.lst (cut l lo hi)]) := fun _ hh => slc_l (hh rfl) hl hz
theorem cut_s {σ : Sto} {h : Bool} {l : List Nat} {j : Int} (h0 : 0 ≤ j) (hz : l.length ≤ 16777216) : Cut X d σ h (.str l) none (some j) (.str (l.take j.toNat)) σ := fun _ _ => slc_s h0 hz
end
end
noncomputable section
theorem forL_fold {α S : Type} {B : PV → Vs → Sto → Out → Prop} {K : Sto → Prop} {Q : Out} (g : α → PV) (st : S → Vs → Sto → Prop) (f : S → α → S) (hK : ∀ s v σ, st s v σ → K σ) (l : List α)
    (hB : ∀ x ∈ l, ∀ s v σ, st s v σ → ∀ R : Out, (∀ v' σ', st (f s x) v' σ' → R.nx v' σ') → (∀ v' σ', st (f s x) v' σ' → R.co v' σ') → B (g x) v σ R) :
    ∀ (s : S) (v : Vs) (σ : Sto), st s v σ → (∀ v σ, st (l.foldl f s) v σ → Q.nx v σ) → forL B K (l.map g) v σ Q := by
  induction l with
  | nil => intro s v σ h h0; exact ⟨hK _ _ _ h, h0 _ _ h⟩
  | cons x l ih => intro s v σ h h0; exact ⟨hK _ _ _ h, hB x List.mem_cons_self s v σ h _ (fun v' σ' h' => ih (fun y hy => hB y (List.mem_cons_of_mem _ hy)) _ v' σ' h' h0) (fun v' σ' h' => ih (fun y hy => hB y (List.mem_cons_of_mem _ hy)) _ v' σ' h' h0)⟩
theorem forL_at {α : Type} {B : PV → Vs → Sto → Out → Prop} {K : Sto → Prop} {Q : Out} (g : α → PV) (I : List α → List α → Vs → Sto → Prop) (hK : ∀ a b v σ, I a b v σ → K σ)
    (hB : ∀ a x b v σ, I a (x :: b) v σ → ∀ R : Out, (∀ v' σ', I (a ++ [x]) b v' σ' → R.nx v' σ') → (∀ v' σ', I (a ++ [x]) b v' σ' → R.co v' σ') → (∀ v' σ', Q.nx v' σ' → R.br v' σ') → (∀ q σ', Q.re q σ' → R.re q σ') → B (g x) v σ R) (h0 : ∀ a v σ, I a [] v σ → Q.nx v σ) (b : List α) :
    ∀ (a : List α) (v : Vs) (σ : Sto), I a b v σ → forL B K (b.map g) v σ Q := by
  induction b with
  | nil => intro a v σ h; exact ⟨hK _ _ _ _ h, h0 _ _ _ h⟩
  | cons x b ih => intro a v σ h; exact ⟨hK _ _ _ _ h, hB a x b v σ h _ (ih _) (ih _) (fun _ _ h => h) (fun _ _ h => h)⟩
theorem forL_ab {α : Type} {B : PV → Vs → Sto → Out → Prop} {K : Sto → Prop} {Q : Out} (g : α → PV) (l : List α) (J : List α → Vs → Sto → Prop) (hK : ∀ a v σ, J a v σ → K σ)
    (hB : ∀ a x b, a ++ x :: b = l → ∀ v σ, J a v σ → ∀ R : Out, (∀ {v' σ'}, J (a ++ [x]) v' σ' → R.nx v' σ') → (∀ {v' σ'}, Q.nx v' σ' → R.br v' σ') → (∀ {q σ'}, Q.re q σ' → R.re q σ') → B (g x) v σ R) (h0 : ∀ v σ, J l v σ → Q.nx v σ) (v : Vs) (σ : Sto) (h : J [] v σ) : forL B K (l.map g) v σ Q :=
  forL_at g (fun a b v s => a ++ b = l ∧ J a v s) (fun a _ v σ h => hK a v σ h.2) (fun a x b v σ h R h1 _ h3 h4 => hB a x b h.1 v σ h.2 R (fun h' => h1 _ _ ⟨(List.append_assoc a [x] b).trans h.1, h'⟩) (fun h' => h3 _ _ h') fun h' => h4 _ _ h') (fun a v σ h => h0 v σ ((List.append_nil a).symm.trans h.1 ▸ h.2)) l [] v σ ⟨rfl, h⟩
theorem compL_map {α : Type} {T E : PV → Sto → (PV → Sto → Prop) → Prop} {K : Sto → Prop} {Q : List PV → Sto → Prop} {σ : Sto} (g : α → PV) (val : α → PV) (hK : K σ) (l : List α)
    (hT : ∀ x, x ∈ l → ∀ R : PV → Sto → Prop, R (.bool true) σ → T (g x) σ R) (hE : ∀ x, x ∈ l → ∀ R : PV → Sto → Prop, R (val x) σ → E (g x) σ R) : ∀ (acc : List PV), Q (acc ++ l.map val) σ → compL T E K (l.map g) acc σ Q := by
  induction l with
  | nil => intro acc h; exact ⟨hK, by simpa using h⟩
  | cons x l ih =>
    intro acc h
    exact ⟨hK, hT x List.mem_cons_self _ (hE x List.mem_cons_self _ (ih (fun y hy => hT y (List.mem_cons_of_mem _ hy)) (fun y hy => hE y (List.mem_cons_of_mem _ hy)) _ (by simpa using h)))⟩
theorem compL_gr {α : Type} {T E : PV → Sto → (PV → Sto → Prop) → Prop} {K : Sto → Prop} {Q : List PV → Sto → Prop} (g : α → PV) (val : α → PV) (P : Sto → Prop) (hK : ∀ σ, P σ → K σ) (l : List α)
    (hT : ∀ x, x ∈ l → ∀ σ, P σ → ∀ R : PV → Sto → Prop, R (.bool true) σ → T (g x) σ R) (hE : ∀ x, x ∈ l → ∀ σ, P σ → ∀ R : PV → Sto → Prop, (∀ σ', P σ' → R (val x) σ') → E (g x) σ R) : ∀ (acc : List PV) (σ : Sto), P σ → (∀ σ', P σ' → Q (acc ++ l.map val) σ') → compL T E K (l.map g) acc σ Q := by
  induction l with
  | nil => intro acc σ p h; exact ⟨hK _ p, by simpa using h σ p⟩
  | cons x l ih =>
    intro acc σ p h
    exact ⟨hK _ p, hT x List.mem_cons_self _ p _ (hE x List.mem_cons_self _ p _ fun σ' p' => ih (fun y hy => hT y (List.mem_cons_of_mem _ hy)) (fun y hy => hE y (List.mem_cons_of_mem _ hy)) _ _ p' (by simpa using h))⟩
theorem compL_filter {α : Type} {T E : PV → Sto → (PV → Sto → Prop) → Prop} {K : Sto → Prop} {Q : List PV → Sto → Prop} {σ : Sto} (g : α → PV) (c : α → Bool) (val : α → PV) (hK : K σ) (l : List α)
    (hT : ∀ x, x ∈ l → ∀ R : PV → Sto → Prop, R (.bool (c x)) σ → T (g x) σ R) (hE : ∀ x, x ∈ l → c x = true → ∀ R : PV → Sto → Prop, R (val x) σ → E (g x) σ R) : ∀ (acc : List PV), Q (acc ++ (l.filter c).map val) σ → compL T E K (l.map g) acc σ Q := by
  induction l with
  | nil => intro acc h; exact ⟨hK, by simpa using h⟩
  | cons x l ih =>
    intro acc h
    refine ⟨hK, hT x List.mem_cons_self _ (bsel_of (fun hc => hE x List.mem_cons_self hc _ (ih (fun y hy => hT y (List.mem_cons_of_mem _ hy)) (fun y hy => hE y (List.mem_cons_of_mem _ hy)) _ ?_)) fun hc => ih (fun y hy => hT y (List.mem_cons_of_mem _ hy)) (fun y hy => hE y (List.mem_cons_of_mem _ hy)) _ ?_)⟩
    · rw [List.filter_cons_of_pos hc] at h; simpa using h
    · rw [List.filter_cons_of_neg (by simp [hc])] at h; exact h
theorem shr_nat (n k : Nat) : ((n : Nat) : Int).fdiv (2 ^ k) = ((n / 2 ^ k : Nat) : Int) := by
  rw [Int.fdiv_eq_ediv_of_nonneg _ (Int.le_of_lt (Int.pow_pos (by decide)))]
  simp
end
noncomputable section
noncomputable def signs : List UInt8 := [65, 66, 67, 68, 69, 70, 71, 72, 73, 74, 75, 76, 77, 78, 79, 80, 81, 82, 83, 84, 85, 86, 87, 88, 89, 90, 97, 98, 99, 100, 101, 102, 103, 104, 105, 106, 107, 108, 109, 110, 111, 112, 113, 114, 115, 116, 117, 118, 119, 120, 121, 122, 48, 49, 50, 51, 52, 53, 54, 55, 56, 57, 43, 47]
noncomputable def figs : List UInt8 := [48, 49, 50, 51, 52, 53, 54, 55, 56, 57, 65, 66, 67, 68, 69, 70]
noncomputable def barred : List UInt8 := [40, 41, 60, 62, 64, 44, 59, 58, 92, 34, 47, 91, 93, 63, 61]
noncomputable def units : List (List UInt8) := [[97], [61], [32], [9], [13, 10], [13], [10], [0], [200], [122, 46], [126], [61, 51], [], [101, 32]]
noncomputable def counts : List Int := [0, 1, 2, 18, 19, 25, 26, 38, 57, 58, 73, 74, 75, 76, 77]
noncomputable def sevenbit : List Nat := [55, 98, 105, 116]
structure PF (X : Stat) : Prop where
  ok : X.OK
  mods : HasMods X
  fn : ∀ i ∈ [5, 6, 7, 8, 9, 10, 12, 20, 21, 26, 27, 28, 30, 31, 32, 56, 57, 66, 67, 75, 76, 77, 80, 81, 82, 84, 85, 86, 87, 90, 96, 97, 98, 99, 100, 101, 106, 107, 108, 109, 110, 111, 112, 113, 114], FnI X i []
  fn11 : FnI X 11 [.int 76]
  fn22 : FnI X 22 [.int 0, .int (-1)]
  fn83 : FnI X 83 [.bool true, .int 76]
  fn78 : ∃ f, X.mg "is_plain_quoted" = some (.ref f) ∧ Fn X f (dNs 78) [] (dBody 78) (dScope 78)
  len : NameIs X "len" (.builtin "len")
  range : NameIs X "range" (.type "range")
  bytes : NameIs X "bytes" (.type "bytes")
  dict : NameIs X "dict" (.type "dict")
  int : NameIs X "int" (.type "int")
  list : NameIs X "list" (.type "list")
  enum : NameIs X "enumerate" (.type "enumerate")
  abs : NameIs X "abs" (.builtin "abs")
  chr : NameIs X "chr" (.builtin "chr")
  ord : NameIs X "ord" (.builtin "ord")
  sum : NameIs X "sum" (.builtin "sum")
  max : NameIs X "max" (.builtin "max")
  sorted : NameIs X "sorted" (.builtin "sorted")
  SIGNS : GlobIs X "SIGNS" (.bytes signs)
  PAD : GlobIs X "PAD" (.int 61)
  LINE_END : GlobIs X "LINE_END" (.bytes [13, 10])
  CRLF : GlobIs X "CRLF" (.bytes [13, 10])
  RETo : GlobIs X "RETURN_octets" (.int 13)
  RETq : GlobIs X "RETURN_quoted" (.int 13)
  WHITE : GlobIs X "WHITE" (.tup [.int 32, .int 9])
  BARRED : GlobIs X "BARRED" (.bytes barred)
  PLAIN : GlobIs X "PLAIN_ENCODING" (.str sevenbit)
  OWN : GlobIs X "OWN_WORDS" (.tup [.str [99, 111, 110, 116, 101, 110, 116, 45, 116, 121, 112, 101], .str [99, 111, 110, 116, 101, 110, 116, 45, 116, 114, 97, 110, 115, 102, 101, 114, 45, 101, 110, 99, 111, 100, 105, 110, 103], .str [109, 105, 109, 101, 45, 118, 101, 114, 115, 105, 111, 110]])
  EQUALS : GlobIs X "EQUALS" (.int 61)
  BLANK : GlobIs X "BLANK" (.int 32)
  TAB : GlobIs X "TAB" (.int 9)
  LEAST : GlobIs X "LEAST_WIDTH" (.int 4)
  HEX : GlobIs X "HEX" (.bytes figs)
  MOST : GlobIs X "MOST_LINE" (.int 998)
  units : GlobIs X "_law_units" (.tup (units.map .bytes))
  counts : GlobIs X "_law_counts" (.tup (counts.map .int))
  lsigns : GlobIs X "_law_signs" (.str (signs.map (·.toNat)))
structure Own1 (σ₀ : Sto) (m : Nat) (l : List PV) (σ : Sto) : Prop where
  pre : σ₀ <+: σ
  le : σ₀.length ≤ m
  at_ : σ[m]? = some (.lst l)
theorem pre_at {σ σ' : Sto} {n : Nat} {c : Cell} (h : σ <+: σ') (e : σ[n]? = some c) : σ'[n]? = some c := by
  obtain ⟨t, rfl⟩ := h
  rw [List.getElem?_append_left (List.getElem?_eq_some_iff.mp e).1]; exact e
theorem pre_app (σ : Sto) (t : List Cell) : σ <+: σ ++ t := ⟨t, rfl⟩
theorem at_app (σ : Sto) (c : Cell) (t : List Cell) : (σ ++ c :: t)[σ.length]? = some c := by simp
theorem pre_len {σ σ' : Sto} (h : σ <+: σ') : σ.length ≤ σ'.length := h.length_le
theorem pre_set {σ₀ σ : Sto} {m : Nat} {c : Cell} (h : σ₀ <+: σ) (hm : σ₀.length ≤ m) : σ₀ <+: σ.set m c := by
  obtain ⟨t, rfl⟩ := h
  rw [List.set_append_right m c hm]
  exact ⟨_, rfl⟩
theorem Own1.new {σ₀ σ : Sto} (h : σ₀ <+: σ) (l : List PV) : Own1 σ₀ σ.length l (σ ++ [.lst l]) := ⟨h.trans (pre_app _ _), pre_len h, at_app _ _ _⟩
theorem Own1.grow {σ₀ σ σ' : Sto} {m : Nat} {l : List PV} (o : Own1 σ₀ m l σ) (h : σ <+: σ') : Own1 σ₀ m l σ' := ⟨o.pre.trans h, o.le, pre_at h o.at_⟩
theorem Own1.set {σ₀ σ : Sto} {m : Nat} {l l' : List PV} (o : Own1 σ₀ m l σ) : Own1 σ₀ m l' (σ.set m (.lst l')) := ⟨pre_set o.pre o.le, o.le, by
  have := (List.getElem?_eq_some_iff.mp o.at_).1
  rw [List.getElem?_set_self this]⟩
theorem set_other {σ : Sto} {m n : Nat} {c c' : Cell} (h : σ[n]? = some c) (hne : m ≠ n) : (σ.set m c')[n]? = some c := by rw [List.getElem?_set_ne hne]; exact h
inductive CP (X : Stat) (d : Nat) (σ : Sto) (x : Str) (ps : List PV) (r : PV) : Prop
  | mk (σ' : Sto) (h : CF X d σ x ps r σ') (p : σ <+: σ')
inductive CN (X : Stat) (d : Nat) (σ : Sto) (x : Str) (ps : List PV) (l : List PV) : Prop
  | mk (n : Nat) (σ' : Sto) (h : CF X d σ x ps (.ref n) σ') (o : Own1 σ n l σ')
section
variable {X : Stat} {d : Nat} {σ : Sto} {x : Str} {ps dfl : List PV} {r : PV}
theorem cx_wp (i k j : Nat) (c : CS) (nm : List Str) {P : PV → Sto → Prop} (hX : X.OK) (F : FnI X i dfl) (hps : ps.length = k) (hdfl : dfl.length = j) (hc : (decide (dName i = x) && fits (dNs i) (dScope i) (dBody i) k j c nm) = true)
    (h : wpS X d c (initV ps dfl (dNs i).length nm.length) σ (backQ P)) : ∃ r σ', CF X (d + 1) σ x ps r σ' ∧ P r σ' := by
  obtain ⟨f, hf1, hf2⟩ := F
  have e := dec_ok (and_ok hc).1
  subst e
  obtain ⟨r, σ', e, hp⟩ := code_wp hX hf2 hps hdfl (and_ok hc).2 h
  exact ⟨r, σ', ⟨_, .inl hf1, hf2.callee, e.call⟩, hp⟩
theorem cp_wp (i k j : Nat) (c : CS) (nm : List Str) (hX : X.OK) (F : FnI X i dfl) (hps : ps.length = k) (hdfl : dfl.length = j) (hc : (decide (dName i = x) && fits (dNs i) (dScope i) (dBody i) k j c nm) = true)
    (h : wpS X d c (initV ps dfl (dNs i).length nm.length) σ (backQ fun p s => p = r ∧ σ <+: s)) : CP X (d + 1) σ x ps r := by
  obtain ⟨_, σ', g, rfl, hp⟩ := cx_wp i k j c nm hX F hps hdfl hc h
  exact ⟨σ', g, hp⟩
theorem cn_wp (i k j : Nat) (c : CS) (nm : List Str) {l : List PV} (hX : X.OK) (F : FnI X i dfl) (hps : ps.length = k) (hdfl : dfl.length = j) (hc : (decide (dName i = x) && fits (dNs i) (dScope i) (dBody i) k j c nm) = true)
    (h : wpS X d c (initV ps dfl (dNs i).length nm.length) σ (backQ fun p s => ∃ n, p = .ref n ∧ Own1 σ n l s)) : CN X (d + 1) σ x ps l := by
  obtain ⟨_, σ', g, n, rfl, hp⟩ := cx_wp i k j c nm hX F hps hdfl hc h
  exact ⟨n, σ', g, hp⟩
end
section
variable {X : Stat} {d : Nat} {σ : Sto} (H : PF X)
include H
theorem PF.len_b {b : List UInt8} (h : b.length ≤ 16777216) : CF X d σ "len" [.bytes b] (.int (b.length : Nat)) σ := ⟨_, H.len, .bi _, Mine.len_b (Nat.le_trans h (by decide))⟩
theorem PF.len_s {b : List Nat} (h : b.length ≤ 16777216) : CF X d σ "len" [.str b] (.int (b.length : Nat)) σ := ⟨_, H.len, .bi _, Mine.len_s (Nat.le_trans h (by decide))⟩
theorem PF.len_l {n : Nat} {l : List PV} (hl : σ[n]? = some (.lst l)) (h : l.length ≤ 16777216) : CF X d σ "len" [.ref n] (.int (l.length : Nat)) σ := ⟨_, H.len, .bi _, Mine.len_l hl (by lia)⟩
theorem PF.len_t {l : List PV} (h : l.length ≤ 16777216) : CF X d σ "len" [.tup l] (.int (l.length : Nat)) σ := ⟨_, H.len, .bi _, Mine.len_t (by lia)⟩
theorem PF.range1 {n : Nat} (h : n ≤ 16777216) : CF X d σ "range" [.int n] (.rng 0 1 n) σ := ⟨_, H.range, .ty _, by simpa using Mine.range1 (n := (n : Int)) (by lia) (by lia)⟩
theorem PF.range2 {a b : Nat} (ha : a ≤ 16777216) (hb : b ≤ 16777216) : CF X d σ "range" [.int a, .int b] (.rng a 1 (b - a)) σ := ⟨_, H.range, .ty _, by
  have := Mine.range2 (X := X) (d := d) (σ := σ) (a := (a : Int)) (b := (b : Int)) (by lia) (by lia) (by lia) (by lia)
  rwa [show ((b : Int) - (a : Int)).toNat = b - a by lia] at this⟩
theorem PF.range3 {b c : Nat} (hb : b ≤ 16777216) (hc : 0 < c) (hc' : c ≤ 1000) : CF X d σ "range" [.int 0, .int b, .int c] (.rng 0 c ((b + c - 1) / c)) σ := ⟨_, H.range, .ty _, by
  have hq : (b + c - 1) / c ≤ b + c - 1 := Nat.div_le_self _ _
  refine Mine.range3 (by lia) (by lia) (by lia) (by lia) (by lia) (by lia) (by lia) ?_ (by lia)
  unfold Builtin.Range.rangeSize
  rw [if_pos (by lia)]
  by_cases h0 : b = 0
  · subst h0
    rw [show (0 + c - 1) / c = 0 from Nat.div_eq_of_lt (by lia)]
    simp
  · rw [if_pos (by lia)]
    have : ((b : Int) - 0 - 1) = ((b - 1 : Nat) : Int) := by lia
    rw [show (b + c - 1) / c = (b - 1) / c + 1 by rw [show b + c - 1 = (b - 1) + c by lia, Nat.add_div_right _ hc]]
    rw [this]; simp⟩
theorem PF.bytes_l {n : Nat} {b : List UInt8} (hl : σ[n]? = some (.lst (b.map fun c => .int (c.toNat : Int)))) (hz : b.length ≤ 16777216) : CF X d σ "bytes" [.ref n] (.bytes b) σ := ⟨_, H.bytes, .ty _, by
  have := Mine.bytes_l (X := X) (d := d) (σ := σ) (n := n) (ns := b.map fun c => (c.toNat : Int)) (by rw [hl, List.map_map]; rfl) (fun i hi => by
    obtain ⟨c, _, rfl⟩ := List.mem_map.mp hi
    have := c.toNat_lt
    lia) (by rwa [List.length_map])
  rw [List.map_map] at this
  have e : b.map ((fun i : Int => i.toNat.toUInt8) ∘ fun c : UInt8 => (c.toNat : Int)) = b := by
    conv => rhs; rw [← List.map_id b]
    refine List.map_congr_left fun c _ => ?_
    simp
  rwa [e] at this⟩
end
theorem rng1 (n : Nat) : (List.range n).map (fun i : Nat => PV.int (0 + (i : Int) * 1)) = (List.range n).map fun i : Nat => .int (i : Int) := List.map_congr_left fun i _ => by rw [Int.zero_add, Int.mul_one]
theorem rng2 (a n : Nat) : (List.range n).map (fun i : Nat => PV.int ((a : Int) + (i : Int) * 1)) = (List.range n).map fun i : Nat => .int ((a + i : Nat) : Int) := List.map_congr_left fun i _ => by rw [Int.mul_one, Int.natCast_add]
theorem rng3 (c n : Nat) : (List.range n).map (fun i : Nat => PV.int (0 + (i : Int) * (c : Int))) = (List.range n).map fun i : Nat => .int ((c * i : Nat) : Int) := List.map_congr_left fun i _ => by rw [Int.zero_add, Int.natCast_mul, Int.mul_comm]
theorem rngd (n : Nat) : (List.range n).map (fun i : Nat => PV.int ((n : Int) - 1 + (i : Int) * -1)) = (List.range n).map fun i : Nat => .int ((n - 1 - i : Nat) : Int) := List.map_congr_left fun i hi => by
  have := List.mem_range.mp hi
  rw [show (n : Int) - 1 + (i : Int) * -1 = ((n - 1 - i : Nat) : Int) by lia]
theorem clip_nat (n a : Nat) : clipAt n (a : Int) = min a n := by unfold clipAt; rw [if_neg (Int.not_lt.mpr (Int.natCast_nonneg a)), cmin, Int.max_eq_right (Int.natCast_nonneg _), Int.toNat_natCast]
theorem cut_ar (n a b : Nat) : min (b - a) (n - a) = min (min b n - min a n) (n - a) := by
  rcases Nat.le_total a n with q | q
  · rw [Nat.min_eq_left q, ← Nat.sub_min_sub_right, Nat.min_assoc, Nat.min_self]
  · rw [Nat.sub_eq_zero_of_le q, Nat.min_zero, Nat.min_zero]
theorem cut_nn {α : Type} (l : List α) {a b : Nat} (h : a ≤ b) : cut l (some (a : Int)) (some (b : Int)) = (l.drop a).take (b - a) := by
  unfold cut
  simp only [Option.elim_some, clip_nat]
  rw [show l.drop (min a l.length) = l.drop a by rcases Nat.le_total a l.length with e | e; rw [Nat.min_eq_left e]; rw [Nat.min_eq_right e, List.drop_length, List.drop_eq_nil_of_le e]]
  rw [← List.take_eq_take_iff.mpr]
  rw [List.length_drop]; exact cut_ar _ _ _
theorem cut_n {α : Type} (l : List α) (b : Nat) : cut l none (some (b : Int)) = l.take b := by
  unfold cut
  simp only [Option.elim_some, Option.elim_none, clip_nat, List.drop_zero, Nat.sub_zero]
  exact List.take_eq_take_iff.mpr (by rw [Nat.min_assoc, Nat.min_self])
theorem cut_a {α : Type} (l : List α) (a : Nat) : cut l (some (a : Int)) none = l.drop a := by
  unfold cut
  simp only [Option.elim_some, Option.elim_none, clip_nat]
  rw [List.take_of_length_le (by rw [List.length_drop]; exact Nat.le_refl _)]
  rcases Nat.le_total a l.length with e | e
  · rw [Nat.min_eq_left e]
  · rw [Nat.min_eq_right e, List.drop_length, List.drop_eq_nil_of_le e]
theorem fdiv16 (c : Nat) : (c : Int).fdiv 16 = ((c / 16 : Nat) : Int) := by rw [Int.fdiv_eq_ediv_of_nonneg _ (by decide)]; rfl
theorem fmod16 (c : Nat) : (c : Int).fmod 16 = ((c % 16 : Nat) : Int) := by rw [Int.fmod_eq_emod_of_nonneg _ (by decide)]; rfl
theorem getD_at {α : Type} {l : List α} {i : Nat} {z : α} (h : i < l.length) : l[i]? = some (l.getD i z) := by rw [List.getD_eq_getElem?_getD, List.getElem?_eq_getElem h]; rfl
theorem getD_int {α : Type} {l : List α} {i : Nat} {z : α} (h : i < l.length) : l[((i : Nat) : Int).toNat]? = some (l.getD i z) := by rw [Int.toNat_natCast]; exact getD_at h
theorem short2 {α : Type} {a b : α} : [a, b].length ≤ 16777216 := by show 2 ≤ _; decide
theorem short1 {α : Type} {a : α} : [a].length ≤ 16777216 := by show 1 ≤ _; decide
theorem short3 {α : Type} {a b c : α} : [a, b, c].length ≤ 16777216 := by show 3 ≤ _; decide
end
noncomputable section
noncomputable def n6 : List Str := ["octets", "alphabet", "total", "code", "count"]
noncomputable def c6 : CS := (.assign 2 (.int 0)
  (.for_ .one [3] (.var 0)
  (.assign 2 (.bin .Add (.bin .Mult (.int 256) (.var 2)) (.var 3))
  .done)
  (.assign 4 (.bin .Add (.call "len" (.var 0) .nil) (.int 1))
  (.assign 2 (.bin .LShift (.var 2) (.bin .Sub (.bin .Mult (.int 6) (.var 4)) (.bin .Mult (.int 8) (.call "len" (.var 0) .nil))))
  (.ret (.comp .one ["place"] [1, 2] (.idx (.var 0) (.bin .BitAnd (.bin .RShift (.var 1) (.bin .Mult (.int 6) (.var 2))) (.int 63))) (.call "range" (.bin .Sub (.var 4) (.int 1)) (.cons (.un .USub (.int 1)) (.cons (.un .USub (.int 1)) .nil))) .yes))))))
noncomputable def gnum (o : List UInt8) : Nat := o.foldl (fun t c => 256 * t + c.toNat) 0
noncomputable def gsh (o : List UInt8) : Nat := gnum o * 2 ^ (6 - 2 * o.length)
noncomputable def gcodes (o a : List UInt8) : List UInt8 := (List.range (o.length + 1)).map fun i => a.getD (gsh o / 64 ^ (o.length - i) % 64) 0
theorem gnum_lt (o : List UInt8) : ∀ s : Nat, o.foldl (fun t c => 256 * t + c.toNat) s < (s + 1) * 256 ^ o.length := by
  induction o with
  | nil => intro s; simp
  | cons c r ih =>
    intro s
    have := ih (256 * s + c.toNat)
    have hc := c.toNat_lt
    rw [List.foldl_cons, List.length_cons, Nat.pow_succ]
    refine Nat.lt_of_lt_of_le this ?_
    have : (256 * s + c.toNat + 1) ≤ (s + 1) * 256 := by lia
    calc _ ≤ (s + 1) * 256 * 256 ^ r.length := Nat.mul_le_mul_right _ this
      _ = _ := by rw [Nat.mul_assoc, Nat.mul_comm 256]
theorem gnum24 {o : List UInt8} (ho : o.length ≤ 3) : gnum o < 2 ^ 24 := by
  have := gnum_lt o 0
  have h2 : (256 : Nat) ^ o.length ≤ 256 ^ 3 := Nat.pow_le_pow_right (by lia) ho
  unfold gnum; lia
theorem k6 : (decide (dName 6 = "group_codes") && fits (dNs 6) (dScope 6) (dBody 6) 2 0 c6 n6) = true := by decide +kernel
theorem t6 {X : Stat} {d : Nat} {σ : Sto} (H : PF X) {o : List UInt8} (ho : o.length ≤ 3) : CN X (d + 1) σ "group_codes" [.bytes o, .bytes signs] ((gcodes o signs).map fun c => .int (c.toNat : Int)) := by
  apply cn_wp 6 2 0 c6 n6 H.ok (H.fn 6 (by decide)) rfl rfl k6
  refine forL_fold (fun c : UInt8 => .int (c.toNat : Int)) (fun (s : Nat) v σ' => (∃ c, v = [some (.bytes o), some (.bytes signs), some (.int (s : Int)), c, none]) ∧ σ' = σ) (fun t c => 256 * t + c.toNat) (fun _ _ _ _ => trivial) o ?_ 0 _ _ ⟨⟨none, rfl⟩, rfl⟩ ?_
  · rintro x _ s _ _ ⟨⟨c, rfl⟩, rfl⟩ R hR _
    exact ⟨IntMulOk.of_left (by decide), hR _ _ ⟨⟨_, rfl⟩, rfl⟩⟩
  · rintro _ _ ⟨⟨c, rfl⟩, rfl⟩
    refine (ex2 (H.len_b (by lia)) ?_)
    refine ⟨IntMulOk.of_left (by decide), ?_⟩
    refine (ex2 (H.len_b (by lia)) ⟨IntMulOk.of_left (by decide), ?_⟩)
    have hg := gnum24 ho
    refine ⟨⟨by lia, by lia, show ((gnum o : Nat) : Int).natAbs < _ by lia⟩, ?_⟩
    have e : ((gnum o : Nat) : Int) * 2 ^ (6 * ((o.length : Int) + 1) - 8 * (o.length : Int)).toNat = ((gsh o : Nat) : Int) := by
      unfold gsh
      refine rwr (show (6 * ((o.length : Int) + 1) - 8 * (o.length : Int)).toNat = 6 - 2 * o.length by lia) ?_
      simp
    unfold gnum at e
    refine rwr e ?_
    clear e
    refine (ex2 ⟨_, H.range, .ty _, range3 (n := o.length + 1) (by lia) (by lia) (by lia) (by lia) (by lia) (by lia) (by lia) ?_ (by lia)⟩ ?_)
    · rw [rangeSize_downNat]; lia
    refine compL_map (fun i : Nat => .int ((o.length : Int) + 1 - 1 + (i : Int) * -1)) (fun i : Nat => .int ((signs.getD (gsh o / 64 ^ (o.length - i) % 64) 0).toNat : Int)) trivial _ (fun _ _ R h => h) ?_ _ ?_
    · intro i hi R hR
      have hi := List.mem_range.mp hi
      refine ⟨IntMulOk.of_left (by decide), by lia, ?_⟩
      have e : Builtin.bitAnd (((gsh o : Nat) : Int).fdiv (2 ^ (6 * ((o.length : Int) + 1 - 1 + (i : Int) * -1)).toNat)) 63 = ((gsh o / 64 ^ (o.length - i) % 64 : Nat) : Int) := by
        rw [bitAnd_m6, show (6 * ((o.length : Int) + 1 - 1 + (i : Int) * -1)).toNat = 6 * (o.length - i) by lia, shr_nat, Nat.pow_mul]
        rfl
      conv => whnf
      refine rwr e ?_
      refine (ex1 ⟨by lia, ?_, by decide⟩ hR)
      rw [Int.toNat_natCast, List.getD_eq_getElem?_getD, List.getElem?_eq_getElem (by show _ < 64; lia)]
      rfl
    · refine ⟨?_, _, rfl, ?_⟩
      · simp only [List.nil_append, List.length_map, List.length_range]; lia
      · unfold gcodes
        rw [List.map_map]
        exact .new (List.prefix_refl _) _
end
noncomputable section
noncomputable def n8 : List Str := ["octets", "alphabet", "codes", "begin"]
noncomputable def c8 : CS := (.assign 2 (.lst .nil)
  (.for_ .one [3] (.call "range" (.int 0) (.cons (.call "len" (.var 0) .nil) (.cons (.int 3) .nil)))
  (.expr (.meth (.var 2) "extend" (.call "group_codes" (.slc true (.var 0) (.osome (.var 3)) (.osome (.bin .Add (.var 3) (.int 3)))) (.cons (.var 1) .nil)) .nil)
  .done)
  (.ret (.call "bytes" (.var 2) .nil))))
noncomputable def n9 : List Str := ["octets"]
noncomputable def c9 : CS := (.ret (.bin .Add (.call "part_encoded" (.var 0) (.cons (.glb "SIGNS") .nil)) (.call "bytes" (.bin .Mult (.lst (.cons (.glb "PAD") .nil)) (.bin .Mod (.un .USub (.call "len" (.var 0) .nil)) (.int 3))) .nil)))
noncomputable def n10 : List Str := ["line", "width"]
noncomputable def c10 : CS := (.ite (.tcmp .Lt (.var 1) (.int 1))
  (.ret (.var 0))
  .done
  (.ret (.meth (.glb "LINE_END") "join" (.comp .one ["begin"] [0, 1] (.slc true (.var 0) (.osome (.var 2)) (.osome (.bin .Add (.var 2) (.var 1)))) (.call "range" (.int 0) (.cons (.call "len" (.var 0) .nil) (.cons (.var 1) .nil))) .yes) .nil)))
noncomputable def n11 : List Str := ["octets", "width"]
noncomputable def c11 : CS := (.ret (.call "in_lines" (.call "one_line" (.var 0) .nil) (.cons (.var 1) .nil)))
noncomputable def rowsW {α : Type} (w : Nat) (l : List α) : List (List α) := (List.range ((l.length + w - 1) / w)).map fun i => (l.drop (w * i)).take w
noncomputable def pcodes (o : List UInt8) : List UInt8 := ((rowsW 3 o).map fun x => gcodes x signs).flatten
noncomputable def line64 (o : List UInt8) : List UInt8 := pcodes o ++ List.replicate ((3 - o.length % 3) % 3) 61
noncomputable def b64 (o : List UInt8) : List UInt8 := joinB [13, 10] (rowsW 76 (line64 o))
theorem flatten_len {α : Type} {k : Nat} {l : List (List α)} (h : ∀ x ∈ l, x.length ≤ k) : l.flatten.length ≤ k * l.length := by
  induction l with
  | nil => simp
  | cons x l ih =>
    rw [List.flatten_cons, List.length_append, List.length_cons, Nat.mul_succ]
    have := h x List.mem_cons_self
    have := ih fun y hy => h y (List.mem_cons_of_mem _ hy)
    lia
theorem sum_len {α : Type} {k : Nat} {l : List (List α)} (h : ∀ x ∈ l, x.length ≤ k) : (l.map List.length).sum ≤ k * l.length := by
  rw [← List.length_flatten]; exact flatten_len h
theorem rowsW_len {α : Type} {w : Nat} {l : List α} : ∀ x ∈ rowsW w l, x.length ≤ w := fun x hx => by
  obtain ⟨i, _, rfl⟩ := List.mem_map.mp hx
  exact List.length_take_le _ _
theorem rowsW_num {α : Type} {w : Nat} {l : List α} : (rowsW w l).length = (l.length + w - 1) / w := by unfold rowsW; rw [List.length_map, List.length_range]
theorem rowsW_le {α : Type} {w : Nat} {l : List α} (hw : 0 < w) : (rowsW w l).length ≤ l.length := by
  rw [rowsW_num]
  rcases Nat.eq_zero_or_pos l.length with h | h
  · rw [h]; exact Nat.le_of_eq (Nat.div_eq_of_lt (by lia))
  · refine Nat.le_trans (Nat.div_le_div_right (c := w) (show l.length + w - 1 ≤ l.length * w by
      have := Nat.mul_le_mul (Nat.sub_le_sub_right (Nat.le_refl l.length) 1) hw
      have e : l.length * w = (l.length - 1) * w + w := by rw [← Nat.succ_mul]; congr 1; lia
      lia)) (Nat.le_of_eq (Nat.mul_div_cancel _ hw))
theorem gcodes_len (o a : List UInt8) : (gcodes o a).length = o.length + 1 := by unfold gcodes; rw [List.length_map, List.length_range]
theorem pcodes_len (o : List UInt8) : (pcodes o).length ≤ 4 * o.length := by
  unfold pcodes
  refine Nat.le_trans (flatten_len (k := 4) fun x hx => ?_) (Nat.mul_le_mul_left _ (by rw [List.length_map]; exact rowsW_le (by decide)))
  obtain ⟨y, hy, rfl⟩ := List.mem_map.mp hx
  rw [gcodes_len]
  exact Nat.succ_le_succ (rowsW_len y hy)
theorem line64_len (o : List UInt8) : (line64 o).length ≤ 4 * o.length + 2 := by
  unfold line64
  rw [List.length_append, List.length_replicate]
  have := pcodes_len o
  lia
theorem b64_len {o : List UInt8} : (b64 o).length ≤ 234 * o.length + 156 := by
  unfold b64
  refine Nat.le_trans (joinB_len _ _) ?_
  have h1 := sum_len (rowsW_len (w := 76) (l := line64 o))
  have h2 := rowsW_le (w := 76) (l := line64 o) (by decide)
  have h3 := line64_len o
  have e : ([13, 10] : List UInt8).length = 2 := rfl
  refine rwr e ?_
  have : 76 * (rowsW 76 (line64 o)).length = 76 * (rowsW 76 (line64 o)).length := rfl
  have h4 : (rowsW 76 (line64 o)).length ≤ 3 * o.length + 2 := by
    refine rwr rowsW_num ?_
    lia
  lia
variable {X : Stat} {d : Nat} {σ : Sto}
theorem k8 : (decide (dName 8 = "part_encoded") && fits (dNs 8) (dScope 8) (dBody 8) 2 0 c8 n8) = true := by decide +kernel
inductive I8 (o : List UInt8) (σ : Sto) (a : List Nat) : Vs → Sto → Prop
  | mk {z : Option PV} {s : Sto} (hO : Own1 σ σ.length (((a.map fun i => gcodes ((o.drop (3 * i)).take 3) signs).flatten).map fun c => .int (c.toNat : Int)) s) : I8 o σ a [some (.bytes o), some (.bytes signs), some (.ref σ.length), z] s
theorem t8 (H : PF X) {o : List UInt8} (ho : o.length ≤ 1000) : CP X (d + 2) σ "part_encoded" [.bytes o, .bytes signs] (.bytes (pcodes o)) := by
  apply cp_wp 8 2 0 c8 n8 H.ok (H.fn 8 (by decide)) rfl rfl k8
  refine ⟨Nat.zero_le _, _, _, H.len_b (by lia), _, _, H.range3 (c := 3) (by lia) (by decide) (by decide), ?_⟩
  conv => whnf
  rw [rng3]
  refine forL_ab (fun i : Nat => .int ((3 * i : Nat) : Int)) (List.range ((o.length + 3 - 1) / 3)) (I8 o σ) (fun _ _ _ _ => trivial) ?_ ?_ _ _ (.mk (.new (List.prefix_refl _) _))
  · rintro a i b hab _ s @⟨z, _, hO⟩ R hR _ _
    refine (ex2 (p := some ((3 * i : Nat) : Int)) (s := some ((3 * i + 3 : Nat) : Int)) ⟨rfl, rfl⟩ ?_)
    conv => whnf
    refine rwr (cut_nn _ (by lia)) ?_; refine rwr (show 3 * i + 3 - 3 * i = 3 by lia) ?_
    obtain ⟨n, s', g, hN⟩ := t6 (d := d) (σ := s) H (o := (o.drop (3 * i)).take 3) (List.length_take_le _ _)
    have hO' := hO.grow hN.pre
    have hal : a.length ≤ o.length := by
      have := congrArg List.length hab
      rw [List.length_append, List.length_range] at this
      lia
    have hz := flatten_len (k := 4) (l := a.map fun i => gcodes ((o.drop (3 * i)).take 3) signs) fun x hx => by
      obtain ⟨y, _, rfl⟩ := List.mem_map.mp hx
      rw [gcodes_len]; exact Nat.succ_le_succ (List.length_take_le _ _)
    rw [List.length_map] at hz
    have hz2 : (gcodes ((o.drop (3 * i)).take 3) signs).length ≤ 4 := by rw [gcodes_len]; exact Nat.succ_le_succ (List.length_take_le _ _)
    refine ⟨by lia, _, _, g, _, _, mf_extend hO.at_ hO'.at_ hN.at_ (by simp only [List.length_map]; lia), hR (.mk ?_)⟩
    have := hO'.set (l' := (((a ++ [i]).map fun i => gcodes ((o.drop (3 * i)).take 3) signs).flatten).map fun c => .int (c.toNat : Int))
    simpa using this
  · rintro _ s @⟨z, _, hO⟩
    have hl := pcodes_len o
    exact (ex2 (H.bytes_l hO.at_ (by unfold pcodes rowsW at hl; rw [List.map_map] at hl; exact Nat.le_trans hl (by lia))) ⟨by unfold pcodes rowsW; rw [List.map_map]; rfl, hO.pre⟩)
theorem k9 : (decide (dName 9 = "one_line") && fits (dNs 9) (dScope 9) (dBody 9) 1 0 c9 n9) = true := by decide +kernel
theorem t9 (H : PF X) {o : List UInt8} (ho : o.length ≤ 1000) : CP X (d + 3) σ "one_line" [.bytes o] (.bytes (line64 o)) := by
  apply cp_wp 9 1 0 c9 n9 H.ok (H.fn 9 (by decide)) rfl rfl k9
  obtain ⟨s1, g1, p1⟩ := t8 (d := d) (σ := σ) H ho
  refine (ex1 H.SIGNS (ex2 g1 (ex1 H.PAD ⟨by decide, _, _, H.len_b (by lia), by decide, ?_⟩)))
  have e : (-(o.length : Int)).fmod 3 = (((3 - o.length % 3) % 3 : Nat) : Int) := by
    refine rwr (Int.fmod_eq_emod_of_nonneg _ (by decide)) ?_; lia
  refine rwr e ?_
  have hk : (3 - o.length % 3) % 3 < 3 := Nat.mod_lt _ (by decide)
  refine (ex1 ⟨at_app _ _ _, by lia, by lia, by decide⟩ ?_)
  have e2 : (List.replicate (((3 - o.length % 3) % 3 : Nat) : Int).toNat [PV.int 61]).flatten = (List.replicate ((3 - o.length % 3) % 3) (61 : UInt8)).map fun c => .int (c.toNat : Int) := by
    rw [Int.toNat_natCast, List.flatten_replicate_singleton, List.map_replicate]; rfl
  refine rwr e2 ?_
  refine (ex2 (H.bytes_l (at_app _ _ _) (by rw [List.length_replicate]; lia)) ⟨by have := line64_len o; unfold line64 at this; rw [List.length_append] at this; lia, rfl, (p1.trans (pre_app _ _)).trans (pre_app _ _)⟩)
theorem k10 : (decide (dName 10 = "in_lines") && fits (dNs 10) (dScope 10) (dBody 10) 2 0 c10 n10) = true := by decide +kernel
theorem t10 (H : PF X) {o : List UInt8} (ho : o.length ≤ 5000) : CP X (d + 1) σ "in_lines" [.bytes o, .int 76] (.bytes (joinB [13, 10] (rowsW 76 o))) := by
  apply cp_wp 10 2 0 c10 n10 H.ok (H.fn 10 (by decide)) rfl rfl k10
  refine (ex1 H.LINE_END (ex2 (H.len_b (by lia)) (ex2 (H.range3 (c := 76) (by lia) (by decide) (by decide)) ?_)))
  conv => whnf
  rw [rng3]
  refine compL_map (fun i : Nat => .int ((76 * i : Nat) : Int)) (fun i : Nat => .bytes ((o.drop (76 * i)).take 76)) trivial _ (fun _ _ R h => h) ?_ _ ?_
  · intro i hi R hR
    refine (ex2 (p := some ((76 * i : Nat) : Int)) (s := some ((76 * i + 76 : Nat) : Int)) ⟨rfl, rfl⟩ ?_)
    conv => whnf
    refine rwr (cut_nn _ (by lia)) ?_; refine rwr (show 76 * i + 76 - 76 * i = 76 by lia) ?_
    exact ⟨by lia, hR⟩
  · have e : (List.range ((o.length + 76 - 1) / 76)).map (fun i : Nat => PV.bytes ((o.drop (76 * i)).take 76)) = (rowsW 76 o).map .bytes := by unfold rowsW; rw [List.map_map]; rfl
    rw [List.nil_append, e]
    have hn := rowsW_le (w := 76) (l := o) (by decide)
    have hs := sum_len (rowsW_len (w := 76) (l := o))
    refine ⟨by rw [List.length_map]; lia, _, _, mf_of mth_join isT_bytes (join_b (at_app _ _ _) (by show _ + 2 * _ ≤ _; lia)), rfl, pre_app _ _⟩
theorem k11 : (decide (dName 11 = "encoded") && fits (dNs 11) (dScope 11) (dBody 11) 1 1 c11 n11) = true := by decide +kernel
theorem t11 (H : PF X) {o : List UInt8} (ho : o.length ≤ 1000) : CP X (d + 4) σ "encoded" [.bytes o] (.bytes (b64 o)) := by
  apply cp_wp 11 1 1 c11 n11 H.ok H.fn11 rfl rfl k11
  obtain ⟨s1, g1, p1⟩ := t9 (d := d) (σ := σ) H ho
  obtain ⟨s2, g2, p2⟩ := t10 (d := d + 2) (σ := s1) H (o := line64 o) (by have := line64_len o; lia)
  exact (ex2 g1 (ex2 g2 ⟨rfl, p1.trans p2⟩))
end
noncomputable section
noncomputable def n7 : List Str := ["worth_row", "total", "number", "count", "spare", "whole"]
noncomputable def c7 : CS := (.assign 1 (.int 0)
  (.for_ .one [2] (.var 0)
  (.assign 1 (.bin .Add (.bin .Mult (.int 64) (.var 1)) (.var 2))
  .done)
  (.assign 3 (.bin .Sub (.call "len" (.var 0) .nil) (.int 1))
  (.assign 4 (.bin .Sub (.bin .Mult (.int 6) (.call "len" (.var 0) .nil)) (.bin .Mult (.int 8) (.var 3)))
  (.assign 5 (.bin .RShift (.var 1) (.var 4))
  (.ret (.tup (.cons (.call "bytes" (.comp .one ["place"] [5] (.bin .BitAnd (.bin .RShift (.var 0) (.bin .Mult (.int 8) (.var 1))) (.int 255)) (.call "range" (.bin .Sub (.var 3) (.int 1)) (.cons (.un .USub (.int 1)) (.cons (.un .USub (.int 1)) .nil))) .yes) .nil) (.cons (.bin .BitAnd (.var 1) (.bin .Sub (.bin .LShift (.int 1) (.var 4)) (.int 1))) .nil)))))))))
noncomputable def wnum (w : List Nat) : Nat := w.foldl (fun t c => 64 * t + c) 0
noncomputable def wwhole (w : List Nat) : Nat := wnum w / 2 ^ (8 - 2 * w.length)
noncomputable def goct (w : List Nat) : List UInt8 := (List.range (w.length - 1)).map fun i => (wwhole w / 256 ^ (w.length - 2 - i) % 256).toUInt8
variable {X : Stat} {d : Nat} {σ : Sto}
theorem k7 : (decide (dName 7 = "group_octets") && fits (dNs 7) (dScope 7) (dBody 7) 1 0 c7 n7) = true := by decide +kernel
theorem t7 (H : PF X) {w : List Nat} {n : Nat} (hw : 2 ≤ w.length ∧ w.length ≤ 4) (hn : σ[n]? = some (.lst (w.map fun i : Nat => .int (i : Int)))) : ∃ z, CP X (d + 1) σ "group_octets" [.ref n] (.tup [.bytes (goct w), .int z]) := by
  suffices h : ∃ r σ', CF X (d + 1) σ "group_octets" [.ref n] r σ' ∧ ((∃ z, r = .tup [.bytes (goct w), .int z]) ∧ σ <+: σ') by
    obtain ⟨_, s, g, ⟨z, rfl⟩, p⟩ := h; exact ⟨z, s, g, p⟩
  apply cx_wp 7 1 0 c7 n7 H.ok (H.fn 7 (by decide)) rfl rfl k7
  refine (ex1 hn ?_)
  refine forL_fold (fun i : Nat => .int (i : Int)) (fun (s : Nat) v σ' => (∃ c, v = [some (.ref n), some (.int (s : Int)), c, none, none, none]) ∧ σ' = σ) (fun t c => 64 * t + c) (fun _ _ _ ⟨_, e⟩ => e ▸ hn) w ?_ 0 _ _ ⟨⟨none, rfl⟩, rfl⟩ ?_
  · rintro x _ s _ _ ⟨⟨c, rfl⟩, rfl⟩ R hR _
    exact ⟨IntMulOk.of_left (by decide), hR _ _ ⟨⟨_, rfl⟩, rfl⟩⟩
  · rintro _ _ ⟨⟨c, rfl⟩, rfl⟩
    have hl : (w.map fun i : Nat => PV.int (i : Int)).length = w.length := List.length_map _
    refine (ex2 (H.len_l hn (by rw [hl]; lia)) ?_)
    refine (ex2 (H.len_l hn (by rw [hl]; lia)) ⟨IntMulOk.of_left (by decide), IntMulOk.of_left (by decide), ?_⟩)
    conv => whnf
    refine rwr hl ?_
    have e4 : 6 * (w.length : Int) - 8 * ((w.length : Int) - 1) = ((8 - 2 * w.length : Nat) : Int) := by lia
    have e3 : (w.length : Int) - 1 = ((w.length - 1 : Nat) : Int) := by lia
    refine rwr e4 ?_; refine rwr e3 ?_
    refine ⟨by lia, ?_⟩
    have e5 : ((w.foldl (fun t c => 64 * t + c) 0 : Nat) : Int).fdiv (2 ^ ((8 - 2 * w.length : Nat) : Int).toNat) = ((wwhole w : Nat) : Int) := shr_nat _ _
    refine rwr e5 ?_
    refine (ex2 ⟨_, H.range, .ty _, range3 (n := w.length - 1) (by lia) (by lia) (by lia) (by lia) (by lia) (by lia) (by lia) ?_ (by lia)⟩ ?_)
    · rw [rangeSize_downNat]; lia
    conv => whnf
    rw [rngd]
    refine compL_map (fun i : Nat => .int ((w.length - 1 - 1 - i : Nat) : Int)) (fun i : Nat => .int (((wwhole w / 256 ^ (w.length - 2 - i) % 256).toUInt8.toNat : Nat) : Int)) trivial _ (fun _ _ R h => h) ?_ _ ?_
    · intro i hi R hR
      refine ⟨IntMulOk.of_left (by decide), by lia, ?_⟩
      conv => whnf
      have e : Builtin.bitAnd (((wwhole w : Nat) : Int).fdiv (2 ^ (8 * ((w.length - 1 - 1 - i : Nat) : Int)).toNat)) 255 = (((wwhole w / 256 ^ (w.length - 2 - i) % 256).toUInt8.toNat : Nat) : Int) := by
        rw [bitAnd_m8, show (8 * ((w.length - 1 - 1 - i : Nat) : Int)).toNat = 8 * (w.length - 2 - i) by lia, shr_nat, Nat.pow_mul]
        simp
      refine rwr e ?_
      exact hR
    · have e : (List.range (w.length - 1)).map (fun i : Nat => PV.int (((wwhole w / 256 ^ (w.length - 2 - i) % 256).toUInt8.toNat : Nat) : Int)) = (goct w).map fun c => .int (c.toNat : Int) := by unfold goct; rw [List.map_map]; rfl
      rw [List.nil_append, e]
      have hg : (goct w).length ≤ 4 := by unfold goct; rw [List.length_map, List.length_range]; lia
      refine ⟨by rw [List.length_map]; lia, _, _, H.bytes_l (at_app _ _ _) (by lia), ⟨by lia, by lia, by decide⟩, (by show 2 ≤ 16777216; decide), ⟨_, rfl⟩, pre_app _ _⟩
end
noncomputable section
noncomputable def n75 : List Str := ["code"]
noncomputable def c75 : CS := (.ret (.call "bytes" (.lst (.cons (.glb "EQUALS") (.cons (.idx (.glb "HEX") (.bin .FloorDiv (.var 0) (.int 16))) (.cons (.idx (.glb "HEX") (.bin .Mod (.var 0) (.int 16))) .nil)))) .nil))
noncomputable def n78 : List Str := ["code"]
noncomputable def c78 : CS := (.ret (.vall .Or (.vchc .Or (.cmp .Eq (.var 0) (.glb "BLANK")) (.vchc .Or (.cmp .Eq (.var 0) (.glb "TAB")) (.vlast (.vall .And (.vchc .And (.cmp2 .LtE .LtE (.int 33) (.var 0) (.int 126)) (.vlast (.cmp .NotEq (.var 0) (.glb "EQUALS"))))))))))
noncomputable def n80 : List Str := ["line", "pieces", "at", "is_white"]
noncomputable def c80 : CS := (.assign 1 (.lst .nil)
  (.for_ .one [2] (.call "range" (.call "len" (.var 0) .nil) .nil)
  (.assign 3 (.vall .Or (.vchc .Or (.cmp .Eq (.idx (.var 0) (.var 2)) (.glb "BLANK")) (.vlast (.cmp .Eq (.idx (.var 0) (.var 2)) (.glb "TAB")))))
  (.ite (.tall .And (.chc .And (.tval (.call "is_plain_quoted" (.idx (.var 0) (.var 2)) .nil)) (.chc .And (.tnot (.tall .And (.chc .And (.tval (.var 3)) (.chc .And (.tcmp .Eq (.var 2) (.bin .Sub (.call "len" (.var 0) .nil) (.int 1))) (.chn .And))))) (.chn .And))))
  (.expr (.meth (.var 1) "append" (.slc true (.var 0) (.osome (.var 2)) (.osome (.bin .Add (.var 2) (.int 1)))) .nil)
  .done)
  (.expr (.meth (.var 1) "append" (.call "quoted_code" (.idx (.var 0) (.var 2)) .nil) .nil)
  .done)
  .done))
  (.ret (.var 1))))
noncomputable def qcode (c : UInt8) : List UInt8 := [61, figs.getD (c.toNat / 16) 0, figs.getD (c.toNat % 16) 0]
noncomputable def plainQ (c : UInt8) : Bool := c.toNat == 32 || (c.toNat == 9 || (decide (33 ≤ c.toNat) && decide (c.toNat ≤ 126) && c.toNat != 61))
noncomputable def whiteQ (c : UInt8) : Bool := c.toNat == 32 || c.toNat == 9
noncomputable def lpiece (c : UInt8) (last : Bool) : List UInt8 := if (plainQ c && !(whiteQ c && last)) = true then [c] else qcode c
noncomputable def lpieces : List UInt8 → List (List UInt8)
  | [] => []
  | c :: r => lpiece c r.isEmpty :: lpieces r
theorem range_mid {a b : List Nat} {i N : Nat} (h : a ++ i :: b = List.range N) : i = a.length ∧ a.length < N := by
  have h1 : (List.range N)[a.length]? = some i := by rw [← h]; simp
  obtain ⟨h2, h3⟩ := List.getElem?_eq_some_iff.mp h1
  rw [List.length_range] at h2
  rw [List.getElem_range] at h3
  exact ⟨h3.symm, h2⟩
variable {X : Stat} {d : Nat} {σ : Sto}
theorem beq_cast (a b : Nat) : ((a : Int) == (b : Int)) = (a == b) := by rw [Bool.eq_iff_iff, beq_iff_eq, beq_iff_eq]; exact Int.ofNat_inj
theorem k75 : (decide (dName 75 = "quoted_code") && fits (dNs 75) (dScope 75) (dBody 75) 1 0 c75 n75) = true := by decide +kernel
theorem t75 (H : PF X) (c : UInt8) : CP X (d + 1) σ "quoted_code" [.int (c.toNat : Int)] (.bytes (qcode c)) := by
  apply cp_wp 75 1 0 c75 n75 H.ok (H.fn 75 (by decide)) rfl rfl k75
  have hc := c.toNat_lt
  refine (ex1 H.EQUALS (ex1 H.HEX ⟨⟨by decide, by decide⟩, ?_⟩))
  rw [fdiv16]
  refine (ex1 ⟨by lia, getD_int (z := 0) (by show _ < 16; lia), by decide⟩ (ex1 H.HEX ⟨by decide, ?_⟩))
  conv => whnf
  rw [fmod16]
  exact (ex1 ⟨by lia, getD_int (z := 0) (by show _ < 16; lia), by decide⟩ ⟨short3, _, _, H.bytes_l (b := qcode c) (at_app _ _ _) short3, rfl, pre_app _ _⟩)
theorem k78 : fits (dNs 78) (dScope 78) (dBody 78) 1 0 c78 n78 = true := by decide +kernel
theorem t78 (H : PF X) (c : UInt8) : CF X (d + 1) σ "is_plain_quoted" [.int (c.toNat : Int)] (.bool (plainQ c)) σ := by
  obtain ⟨f, hf1, hf2⟩ := H.fn78
  suffices h : ∃ r σ', CodeV X (d + 1) σ (.ref f) [.int (c.toNat : Int)] r σ' ∧ (r = .bool (plainQ c) ∧ σ' = σ) by
    obtain ⟨_, _, g, rfl, rfl⟩ := h
    exact ⟨_, .inl hf1, hf2.callee, g.call⟩
  apply code_wp (k := 1) (j := 0) H.ok hf2 rfl rfl k78
  have hb : ∀ k : Nat, ((c.toNat : Int) == (k : Int)) = (c.toNat == k) := fun k => beq_cast _ _
  have e1 : plainQ c = ((c.toNat : Int) == 32 || ((c.toNat : Int) == 9 || (decide ((33 : Int) ≤ c.toNat) && (decide ((c.toNat : Int) ≤ 126) && (c.toNat : Int) != 61)))) := by
    unfold plainQ
    rw [← hb 32, ← hb 9, Bool.and_assoc, show decide (33 ≤ c.toNat) = decide ((33 : Int) ≤ c.toNat) from decide_eq_decide.mpr (by lia), show decide (c.toNat ≤ 126) = decide ((c.toNat : Int) ≤ 126) from decide_eq_decide.mpr (by lia),
      show (c.toNat != 61) = ((c.toNat : Int) != 61) by unfold bne; rw [← hb 61]; rfl]
    rfl
  refine rwr e1 ?_
  refine (ex1 H.BLANK ?_)
  refine bsel_of (fun h => ⟨by refine rwr h ?_; rfl, rfl⟩) fun h => (ex1 H.TAB ?_)
  refine rwr h ?_; rw [Bool.false_or]
  refine bsel_of (fun h => ⟨by refine rwr h ?_; rfl, rfl⟩) fun h => ?_
  refine rwr h ?_; rw [Bool.false_or]
  refine bsel_of (fun h => ?_) fun h => ⟨by refine rwr h ?_; rfl, rfl⟩
  refine rwr h ?_; rw [Bool.true_and]
  exact bsel_of (fun h => (ex1 H.EQUALS ⟨by refine rwr h ?_; rfl, rfl⟩)) fun h => ⟨by refine rwr h ?_; rfl, rfl⟩
theorem k80 : (decide (dName 80 = "line_pieces") && fits (dNs 80) (dScope 80) (dBody 80) 1 0 c80 n80) = true := by decide +kernel
inductive I80 (l : List UInt8) (σ : Sto) (a : List Nat) : Vs → Sto → Prop
  | mk {z w : Option PV} {L : List (List UInt8)} {s : Sto} (hO : Own1 σ σ.length (L.map .bytes) s) (hLa : L.length = a.length) (hL : L ++ lpieces (l.drop a.length) = lpieces l) : I80 l σ a [some (.bytes l), some (.ref σ.length), z, w] s
theorem t80 (H : PF X) {l : List UInt8} (hl : l.length ≤ 1000) : CN X (d + 2) σ "line_pieces" [.bytes l] ((lpieces l).map .bytes) := by
  apply cn_wp 80 1 0 c80 n80 H.ok (H.fn 80 (by decide)) rfl rfl k80
  refine ⟨Nat.zero_le _, _, _, H.len_b (by lia), _, _, H.range1 (by lia), ?_⟩
  conv => whnf
  rw [rng1]
  refine forL_ab (fun i : Nat => .int (i : Int)) (List.range l.length) (I80 l σ) (fun _ _ _ _ => trivial) ?_ ?_ _ _ (.mk (L := []) (.new (List.prefix_refl _) _) rfl rfl)
  · rintro a i b hab _ s @⟨z, w, L, _, hO, hLa, hL⟩ R hR _ _
    obtain ⟨rfl, hlt⟩ := range_mid hab
    have hd : l.drop a.length = l.getD a.length 0 :: l.drop (a.length + 1) := by
      refine rwr (List.drop_eq_getElem_cons hlt) ?_; rw [List.getD_eq_getElem?_getD, List.getElem?_eq_getElem hlt]; rfl
    rw [hd] at hL
    generalize hc : l.getD a.length 0 = c at hL hd
    have hg : l[((a.length : Nat) : Int).toNat]? = some c := by rw [getD_int (z := 0) hlt, hc]
    have hlast : ((a.length : Int) == (l.length : Int) - 1) = (l.drop (a.length + 1)).isEmpty := by
      rw [Bool.eq_iff_iff, beq_iff_eq, List.isEmpty_iff, List.drop_eq_nil_iff]; lia
    have fin : ∀ p : List UInt8, p = lpiece c (l.drop (a.length + 1)).isEmpty → ∀ s', s <+: s' → ∀ y w, R.nx [some (.bytes l), some (.ref σ.length), y, w] (s'.set σ.length (.lst (L.map .bytes ++ [.bytes p]))) := fun p hp s' hs y w =>
      hR (.mk (L := L ++ [p]) (by have := (hO.grow hs).set (l' := (L ++ [p]).map .bytes); simpa using this) (by rw [List.length_append, List.length_append, hLa]; rfl)
        (by rw [List.append_assoc, hp, List.length_append]; exact hL))
    have it : (0 : Int) ≤ (a.length : Int) ∧ l[((a.length : Nat) : Int).toNat]? = some c ∧ l.length ≤ 1099511627776 := ⟨by lia, hg, by lia⟩
    have hLl : (L.map PV.bytes).length ≤ 16777216 := by rw [List.length_map]; lia
    have pl : plainQ c = true → ((a.length : Int) == (l.length : Int) - 1) = false ∨ whiteQ c = false → ∀ w, wpS X (d + 1) (.expr (.meth (.var 1) "append" (.slc true (.var 0) (.osome (.var 2)) (.osome (.bin .Add (.var 2) (.int 1)))) .nil) .done) [some (.bytes l), some (.ref σ.length), some (.int (a.length : Int)), w] s R := by
      intro h1 h2 w
      refine (ex2 (p := some ((a.length : Nat) : Int)) (s := some ((a.length + 1 : Nat) : Int)) ⟨rfl, rfl⟩ ?_)
      refine ⟨by lia, _, _, mf_append hO.at_ hO.at_ hLl, ?_⟩
      refine rwr (cut_nn _ (by lia)) ?_; refine rwr (show a.length + 1 - a.length = 1 by lia) ?_; refine rwr hd ?_
      refine fin _ ?_ _ (List.prefix_refl _) _ _
      unfold lpiece
      refine rwr (hlast).symm ?_; rw [if_pos]
      · rfl
      · refine rwr h1 ?_; rcases h2 with h2 | h2 <;> refine rwr h2 ?_ <;> simp
    have cod : plainQ c = false ∨ (((a.length : Int) == (l.length : Int) - 1) = true ∧ whiteQ c = true) → ∀ w, wpS X (d + 1) (.expr (.meth (.var 1) "append" (.call "quoted_code" (.idx (.var 0) (.var 2)) .nil) .nil) .done) [some (.bytes l), some (.ref σ.length), some (.int (a.length : Int)), w] s R := by
      intro h w
      obtain ⟨s', g, hp⟩ := t75 (d := d) (σ := s) H c
      refine (ex1 (p := c) it (ex2 g (ex2 (mf_append hO.at_ (pre_at hp hO.at_) hLl) ?_)))
      refine fin _ ?_ _ hp _ _
      unfold lpiece
      refine rwr (hlast).symm ?_; rw [if_neg]
      rcases h with h | ⟨h, h2⟩
      · refine rwr h ?_; simp
      · refine rwr h ?_; refine rwr h2 ?_; simp
    have wh : whiteQ c = ((c.toNat : Int) == 32 || (c.toNat : Int) == 9) := by unfold whiteQ; rw [← beq_cast, ← beq_cast]; rfl
    have go : ∀ w, w = whiteQ c → wpS X (d + 1) (.ite (.tall .And (.chc .And (.tval (.call "is_plain_quoted" (.idx (.var 0) (.var 2)) .nil)) (.chc .And (.tnot (.tall .And (.chc .And (.tval (.var 3)) (.chc .And (.tcmp .Eq (.var 2) (.bin .Sub (.call "len" (.var 0) .nil) (.int 1))) (.chn .And))))) (.chn .And))))
        (.expr (.meth (.var 1) "append" (.slc true (.var 0) (.osome (.var 2)) (.osome (.bin .Add (.var 2) (.int 1)))) .nil) .done) (.expr (.meth (.var 1) "append" (.call "quoted_code" (.idx (.var 0) (.var 2)) .nil) .nil) .done) .done) [some (.bytes l), some (.ref σ.length), some (.int (a.length : Int)), some (.bool w)] s R := by
      intro w hw
      subst hw
      refine (ex1 (p := c) it (ex2 (t78 H c) ?_))
      refine bsel_of (fun h1 => ?_) fun h1 => cod (.inl h1) _
      refine bsel_of (fun h2 => (ex2 (H.len_b (by lia)) ?_)) fun h2 => pl h1 (.inr h2) _
      exact bsel_of (fun h3 => cod (.inr ⟨h3, h2⟩) _) fun h3 => pl h1 (.inl h3) _
    refine (ex1 (p := c) it (ex1 H.BLANK ?_))
    refine bsel_of (fun h => go _ (by refine rwr wh ?_; refine rwr h ?_; rfl)) fun h => (ex1 (p := c) it (ex1 H.TAB (go _ (by refine rwr wh ?_; refine rwr h ?_; rfl))))
  · rintro _ s @⟨z, w, L, _, hO, hLa, hL⟩
    rw [List.length_range, List.drop_length] at hL
    rw [show L = lpieces l by refine rwr (hL).symm ?_; exact (List.append_nil _).symm] at hO
    exact (ex1 rfl hO)
end
noncomputable section
noncomputable def n81 : List Str := ["pieces", "width", "lines", "line", "at", "room"]
noncomputable def c81 : CS := (.assign 2 (.lst .nil)
  (.assign 3 (.byt [])
  (.for_ .one [4] (.call "range" (.call "len" (.var 0) .nil) .nil)
  (.assign 5 (.ite (.tcmp .Eq (.var 4) (.bin .Sub (.call "len" (.var 0) .nil) (.int 1))) (.var 1) (.bin .Sub (.var 1) (.int 1)))
  (.ite (.tcmp .Gt (.bin .Add (.call "len" (.var 3) .nil) (.call "len" (.idx (.var 0) (.var 4)) .nil)) (.var 5))
  (.expr (.meth (.var 2) "append" (.bin .Add (.var 3) (.call "bytes" (.lst (.cons (.glb "EQUALS") .nil)) .nil)) .nil)
  (.assign 3 (.byt [])
  .done))
  .done
  (.assign 3 (.bin .Add (.var 3) (.idx (.var 0) (.var 4)))
  .done)))
  (.ret (.bin .Add (.var 2) (.lst (.cons (.var 3) .nil)))))))
noncomputable def n82 : List Str := ["octets", "is_text"]
noncomputable def c82 : CS := (.ret (.ite (.tval (.var 1)) (.meth (.var 0) "split" (.byt [13, 10]) .nil) (.lst (.cons (.var 0) .nil))))
noncomputable def n84 : List Str := ["lines", "parts", "line"]
noncomputable def c84 : CS := (.assign 1 (.lst .nil)
  (.for_ .one [2] (.var 0)
  (.expr (.meth (.var 1) "append" (.var 2) .nil)
  (.ite (.tcmp .Eq (.slc true (.var 2) (.osome (.un .USub (.int 1))) .onone) (.call "bytes" (.lst (.cons (.glb "EQUALS") .nil)) .nil))
  (.expr (.meth (.var 1) "append" (.byt [13, 10]) .nil)
  .done)
  .done
  .done))
  (.ret (.meth (.byt []) "join" (.var 1) .nil))))
noncomputable def soft : List (List UInt8) → List UInt8 → List (List UInt8)
  | [], ln => [ln]
  | p :: r, ln => if ln.length + p.length > (if r.isEmpty then 76 else 75) then (ln ++ [61]) :: soft r p else soft r (ln ++ p)
noncomputable def ends61 (l : List UInt8) : Bool := cut l (some (-1)) none == [61]
noncomputable def joined (ls : List (List UInt8)) : List UInt8 := (ls.map fun l => if ends61 l then l ++ [13, 10] else l).flatten
variable {X : Stat} {d : Nat} {σ : Sto}
theorem k81 : (decide (dName 81 = "soft_lines") && fits (dNs 81) (dScope 81) (dBody 81) 2 0 c81 n81) = true := by decide +kernel
inductive I81 (ps : List (List UInt8)) (n : Nat) (σ : Sto) (a : List Nat) : Vs → Sto → Prop
  | mk {ln : List UInt8} {z w : Option PV} {L : List (List UInt8)} {s : Sto} (hO : Own1 σ σ.length (L.map .bytes) s) (hLa : L.length ≤ a.length) (hln : ln.length ≤ 76) (hL : L ++ soft (ps.drop a.length) ln = soft ps []) : I81 ps n σ a [some (.ref n), some (.int 76), some (.ref σ.length), some (.bytes ln), z, w] s
theorem t81 (H : PF X) {n : Nat} {ps : List (List UInt8)} (hn : σ[n]? = some (.lst (ps.map .bytes))) (hp : ∀ p ∈ ps, p.length ≤ 3) (hl : ps.length ≤ 1000) : CN X (d + 1) σ "soft_lines" [.ref n, .int 76] ((soft ps []).map .bytes) := by
  apply cn_wp 81 2 0 c81 n81 H.ok (H.fn 81 (by decide)) rfl rfl k81
  have lm : (ps.map PV.bytes).length = ps.length := List.length_map _
  have hn0 : (σ ++ [Cell.lst []])[n]? = some (.lst (ps.map .bytes)) := pre_at (pre_app _ _) hn
  refine ⟨Nat.zero_le _, _, _, H.len_l hn0 (by lia), _, _, by rw [lm]; exact H.range1 (by lia), ?_⟩
  conv => whnf
  rw [rng1]
  refine forL_ab (fun i : Nat => .int (i : Int)) (List.range ps.length) (I81 ps n σ) (fun _ _ _ _ => trivial) ?_ ?_ _ _ (.mk (ln := []) (L := []) (.new (List.prefix_refl _) _) (Nat.le_refl _) (Nat.zero_le _) rfl)
  · rintro a i b hab _ s @⟨ln, z, w, L, _, hO, hLa, hln, hL⟩ R hR _ _
    obtain ⟨rfl, hlt⟩ := range_mid hab
    have hs := pre_at hO.pre hn
    have hd : ps.drop a.length = ps.getD a.length [] :: ps.drop (a.length + 1) := by
      rw [List.drop_eq_getElem_cons hlt, List.getD_eq_getElem?_getD, List.getElem?_eq_getElem hlt]; rfl
    rw [hd] at hL
    have hp1 : (ps.getD a.length []).length ≤ 3 := by
      rw [List.getD_eq_getElem?_getD, List.getElem?_eq_getElem hlt]; exact hp _ (List.getElem_mem hlt)
    have hg : (ps.map PV.bytes)[((a.length : Nat) : Int).toNat]? = some (.bytes (ps.getD a.length [])) := by rw [List.getElem?_map, getD_int (z := []) hlt]; rfl
    generalize ps.getD a.length [] = p at hL hd hp1 hg
    have it : ∀ {d : Nat} {s : Sto}, s[n]? = some (.lst (ps.map .bytes)) → Itm X d s (.ref n) (.int (a.length : Int)) (.bytes p) s := fun h => itm_l h (by lia) hg (by lia)
    have hlast : ((a.length : Int) == (ps.length : Int) - 1) = (ps.drop (a.length + 1)).isEmpty := by
      rw [Bool.eq_iff_iff, beq_iff_eq, List.isEmpty_iff, List.drop_eq_nil_iff]; lia
    have hab' : (a ++ [a.length]) ++ b = List.range ps.length := by rw [← hab, List.append_assoc]; rfl
    have hLl : (L.map PV.bytes).length ≤ 16777216 := by rw [List.length_map]; lia
    have go : ∀ room : Nat, room = (if (ps.drop (a.length + 1)).isEmpty then 76 else 75) → wpS X d (.ite (.tcmp .Gt (.bin .Add (.call "len" (.var 3) .nil) (.call "len" (.idx (.var 0) (.var 4)) .nil)) (.var 5))
        (.expr (.meth (.var 2) "append" (.bin .Add (.var 3) (.call "bytes" (.lst (.cons (.glb "EQUALS") .nil)) .nil)) .nil) (.assign 3 (.byt []) .done)) .done (.assign 3 (.bin .Add (.var 3) (.idx (.var 0) (.var 4))) .done))
        [some (.ref n), some (.int 76), some (.ref σ.length), some (.bytes ln), some (.int (a.length : Int)), some (.int (room : Int))] s R := by
      intro room hroom
      refine (ex2 (H.len_b (by lia)) ⟨_, _, it hs, _, _, H.len_b (by lia), ?_⟩)
      refine bsel_of (fun h => ?_) fun h => ?_
      · have h := of_decide_eq_true h
        refine (ex1 H.EQUALS ⟨short1, _, _, H.bytes_l (b := [61]) (at_app _ _ _) short1, ?_⟩)
        refine ⟨by show _ + 1 ≤ _; lia, _, _, mf_append hO.at_ (pre_at (pre_app _ _) hO.at_) hLl, ?_⟩
        have hO2 := (hO.grow (pre_app s [.lst [.int 61]])).set (l' := (L ++ [ln ++ [61]]).map .bytes)
        refine (ex2 (it (by have := pre_at hO2.pre hn; simpa using this)) ?_)
        refine ⟨by show 0 + _ ≤ _; lia, hR (.mk (L := L ++ [ln ++ [61]]) (by simpa using hO2) (by rw [List.length_append, List.length_append]; exact Nat.add_le_add_right hLa _) (by show ([] ++ p).length ≤ 76; rw [List.nil_append]; lia) ?_)⟩
        rw [List.length_append, List.append_assoc, ← hL]
        show _ = L ++ (if ln.length + p.length > (if (ps.drop (a.length + 1)).isEmpty then 76 else 75) then _ else _)
        rw [← hroom, if_pos (by lia)]; rfl
      · have h := of_decide_eq_false h
        refine (ex2 (it hs) ?_)
        have hr : room ≤ 76 := by rw [hroom]; split <;> decide
        refine ⟨by lia, hR (.mk (L := L) hO (by rw [List.length_append]; exact Nat.le_succ_of_le hLa) (by rw [List.length_append]; lia) ?_)⟩
        rw [List.length_append, ← hL]
        show _ = L ++ (if ln.length + p.length > (if (ps.drop (a.length + 1)).isEmpty then 76 else 75) then _ else _)
        rw [← hroom, if_neg (by lia)]; rfl
    refine (ex2 (H.len_l hs (by lia)) ?_)
    conv => whnf
    rw [lm]
    exact bsel_of (fun h => go 76 (by rw [← hlast, h]; rfl)) fun h => go 75 (by rw [← hlast, h]; rfl)
  · rintro _ s @⟨ln, z, w, L, _, hO, hLa, hln, hL⟩
    rw [List.length_range] at hLa hL
    rw [List.drop_length] at hL
    refine ⟨short1, _, _, ⟨pre_at (pre_app _ _) hO.at_, at_app _ _ _, by rw [List.length_map]; show _ + 1 ≤ _; lia⟩, _, rfl, ?_⟩
    have : L.map PV.bytes ++ [PV.bytes ln] = (soft ps []).map .bytes := by rw [← hL, List.map_append]; rfl
    rw [this]
    exact .new (hO.pre.trans (pre_app _ _)) _
theorem k82 : (decide (dName 82 = "text_lines") && fits (dNs 82) (dScope 82) (dBody 82) 2 0 c82 n82) = true := by decide +kernel
noncomputable def trows (o : List UInt8) (t : Bool) : List (List UInt8) := if t then splitAt' o [13, 10] else [o]
theorem t82 (H : PF X) {o : List UInt8} {t : Bool} (h1 : ∀ x ∈ splitAt' o [13, 10], x.length ≤ 1000) (h2 : (splitAt' o [13, 10]).length ≤ 1001) : CN X (d + 1) σ "text_lines" [.bytes o, .bool t] ((trows o t).map .bytes) := by
  apply cn_wp 82 2 0 c82 n82 H.ok (H.fn 82 (by decide)) rfl rfl k82
  cases t with
  | true =>
    exact (ex2 (mf_of mth_split isT_bytes (split_b (by decide) (fun x hx => Nat.le_trans (h1 x hx) (by decide)) (Nat.le_trans h2 (by decide)))) ⟨_, rfl, .new (List.prefix_refl _) _⟩)
  | false =>
    exact ⟨short1, _, rfl, .new (List.prefix_refl _) _⟩
theorem k84 : (decide (dName 84 = "joined_lines") && fits (dNs 84) (dScope 84) (dBody 84) 1 0 c84 n84) = true := by decide +kernel
inductive I84 (n : Nat) (σ : Sto) (a : List (List UInt8)) : Vs → Sto → Prop
  | mk {z : Option PV} {L : List (List UInt8)} {s : Sto} (hO : Own1 σ σ.length (L.map .bytes) s) (hLa : L.length ≤ 2 * a.length) (hLp : ∀ p ∈ L, p.length ≤ 100) (hL : L.flatten = joined a) : I84 n σ a [some (.ref n), some (.ref σ.length), z] s
theorem I84.pre {n : Nat} {σ : Sto} {a : List (List UInt8)} {v : Vs} {s : Sto} (h : I84 n σ a v s) : σ <+: s := by cases h with | mk hO => exact hO.pre
theorem t84 (H : PF X) {n : Nat} {ls : List (List UInt8)} (hn : σ[n]? = some (.lst (ls.map .bytes))) (hl : ls.length ≤ 20000) (hp : ∀ p ∈ ls, p.length ≤ 100) : CP X (d + 1) σ "joined_lines" [.ref n] (.bytes (joined ls)) := by
  apply cp_wp 84 1 0 c84 n84 H.ok (H.fn 84 (by decide)) rfl rfl k84
  refine ⟨Nat.zero_le _, _, pre_at (pre_app _ _) hn, ?_⟩
  refine forL_ab (fun p : List UInt8 => .bytes p) ls (I84 n σ) (fun _ _ _ h => pre_at h.pre hn) ?_ ?_ _ _ (.mk (L := []) (.new (List.prefix_refl _) _) (Nat.le_refl _) (fun _ h => nomatch h) rfl)
  · rintro a p b hab _ s @⟨z, L, _, hO, hLa, hLp, hL⟩ R hR _ _
    have hal : a.length ≤ ls.length := by rw [← hab, List.length_append]; lia
    have hp1 : p.length ≤ 100 := hp p (by rw [← hab]; simp)
    have hj : ∀ q, q = (if ends61 p then p ++ [13, 10] else p) → joined a ++ q = joined (a ++ [p]) := fun q hq => by unfold joined; rw [List.map_append, List.flatten_append, hq]; simp
    have hO1 := hO.set (l' := (L ++ [p]).map .bytes)
    have e1 : (L ++ [p]).map PV.bytes = L.map .bytes ++ [.bytes p] := by simp
    rw [e1] at hO1
    refine (ex2 (mf_append hO.at_ hO.at_ (by rw [List.length_map]; lia)) ?_)
    refine (ex2 (p := some (-1)) (s := none) ⟨rfl, rfl⟩ ?_)
    refine ⟨by lia, _, H.EQUALS, short1, _, _, H.bytes_l (b := [61]) (at_app _ _ _) short1, ?_⟩
    have hO2 := hO1.grow (pre_app _ [.lst [.int 61]])
    refine bsel_of (fun h => ?_) fun h => ?_
    · conv => whnf
      refine ⟨_, _, mf_append hO2.at_ hO2.at_ (by rw [List.length_append, List.length_map]; show _ + 1 ≤ _; lia), hR (.mk (L := L ++ [p] ++ [[13, 10]]) (by have := hO2.set (l' := (L ++ [p] ++ [[13, 10]]).map .bytes); simpa using this) (by simp only [List.length_append, List.length_singleton]; lia) ?_ ?_)⟩
      · intro q hq
        simp only [List.mem_append, List.mem_singleton] at hq
        rcases hq with (hq | rfl) | rfl
        · exact hLp q hq
        · exact hp1
        · show 2 ≤ 100; decide
      · rw [← hj _ rfl, ← hL, if_pos (show ends61 p = true from h)]; simp
    · refine hR (.mk (L := L ++ [p]) (by rw [e1]; exact hO2) (by simp only [List.length_append, List.length_singleton]; lia) ?_ ?_)
      · intro q hq
        simp only [List.mem_append, List.mem_singleton] at hq
        rcases hq with hq | rfl
        · exact hLp q hq
        · exact hp1
      · rw [← hj _ rfl, ← hL, if_neg (by rw [show ends61 p = false from h]; decide)]; simp
  · rintro _ s @⟨z, L, _, hO, hLa, hLp, hL⟩
    have hs := sum_len hLp
    conv => whnf
    refine ⟨_, _, mf_of mth_join isT_bytes (join_b hO.at_ (by show _ + 0 * _ ≤ _; lia)), ?_, hO.pre⟩
    have : joinB [] L = L.flatten := by cases L with | nil => rfl | cons x L => rw [joinB_cons]; simp
    rw [this, hL]
end
noncomputable section
noncomputable def n83 : List Str := ["octets", "is_text", "width", "lines", "line"]
noncomputable def c83 : CS := (.ite (.tcmp .Lt (.var 2) (.glb "LEAST_WIDTH"))
  .junk
  .done
  (.assign 3 (.lst .nil)
  (.for_ .one [4] (.call "text_lines" (.var 0) (.cons (.var 1) .nil))
  (.expr (.meth (.var 3) "extend" (.call "soft_lines" (.call "line_pieces" (.var 4) .nil) (.cons (.var 2) .nil)) .nil)
  (.expr (.meth (.var 3) "append" (.byt [13, 10]) .nil)
  .done))
  (.ret (.call "joined_lines" (.slc true (.var 3) .onone (.osome (.bin .Sub (.call "len" (.var 3) .nil) (.int 1)))) .nil)))))
noncomputable def qall (rows : List (List UInt8)) : List (List UInt8) := (rows.map fun r => soft (lpieces r) [] ++ [[13, 10]]).flatten
noncomputable def qenc (o : List UInt8) (t : Bool) : List UInt8 := joined ((qall (trows o t)).take ((qall (trows o t)).length - 1))
theorem lpiece_len (c : UInt8) (b : Bool) : (lpiece c b).length ≤ 3 := by unfold lpiece; split; exact (by decide : 1 ≤ 3); exact Nat.le_refl 3
theorem lpieces_num : ∀ l : List UInt8, (lpieces l).length = l.length := fun l => by
  induction l with
  | nil => rfl
  | cons c l ih => show (lpieces l).length + 1 = l.length + 1; rw [ih]
theorem lpieces_len {l : List UInt8} : ∀ p ∈ lpieces l, p.length ≤ 3 := by
  induction l with
  | nil => intro p h; cases h
  | cons c l ih =>
    intro p h
    rcases List.mem_cons.mp h with rfl | h
    · exact lpiece_len _ _
    · exact ih p h
theorem soft_len {ps : List (List UInt8)} : ∀ {ln : List UInt8}, (∀ p ∈ ps, p.length ≤ 3) → ln.length ≤ 76 → ∀ q ∈ soft ps ln, q.length ≤ 77 := by
  induction ps with
  | nil => intro ln _ h q hq; rw [List.mem_singleton.mp hq]; exact Nat.le_succ_of_le h
  | cons p ps ih =>
    intro ln hp h q hq
    unfold soft at hq
    have h3 := hp p List.mem_cons_self
    have hp' : ∀ q ∈ ps, q.length ≤ 3 := fun q h => hp q (List.mem_cons_of_mem _ h)
    by_cases c : ln.length + p.length > (if ps.isEmpty then 76 else 75)
    · rw [if_pos c] at hq
      rcases List.mem_cons.mp hq with rfl | hq
      · rw [List.length_append]; exact Nat.succ_le_succ h
      · exact ih hp' (Nat.le_trans h3 (by decide)) q hq
    · rw [if_neg c] at hq
      refine ih hp' ?_ q hq
      rw [List.length_append]
      split at c <;> lia
theorem soft_num {ps : List (List UInt8)} : ∀ {ln : List UInt8}, (soft ps ln).length ≤ ps.length + 1 := by
  induction ps with
  | nil => intro ln; exact Nat.le_refl _
  | cons p ps ih =>
    intro ln
    unfold soft
    by_cases c : ln.length + p.length > (if ps.isEmpty then 76 else 75)
    · rw [if_pos c]; exact Nat.succ_le_succ ih
    · rw [if_neg c]; exact Nat.le_succ_of_le ih
variable {X : Stat} {d : Nat} {σ : Sto}
theorem k83 : (decide (dName 83 = "quoted_encoded") && fits (dNs 83) (dScope 83) (dBody 83) 2 2 c83 n83) = true := by decide +kernel
inductive I83 (o : List UInt8) (t : Bool) (n : Nat) (σ : Sto) (a : List (List UInt8)) : Vs → Sto → Prop
  | mk {z : Option PV} {L : List (List UInt8)} {s : Sto} (hO : Own1 σ σ.length (L.map .bytes) s) (hs : s[n]? = some (.lst ((trows o t).map .bytes))) (hLa : L.length ≤ 102 * a.length) (hLp : ∀ p ∈ L, p.length ≤ 100) (hL : L = qall a) : I83 o t n σ a [some (.bytes o), some (.bool t), some (.int 76), some (.ref σ.length), z] s
theorem I83.at_ {o : List UInt8} {t : Bool} {n : Nat} {σ : Sto} {a : List (List UInt8)} {v : Vs} {s : Sto} (h : I83 o t n σ a v s) : s[n]? = some (.lst ((trows o t).map .bytes)) := by cases h with | mk _ h => exact h
theorem t83 (H : PF X) {o : List UInt8} {t : Bool} (h1 : ∀ x ∈ splitAt' o [13, 10], x.length ≤ 100) (h2 : (splitAt' o [13, 10]).length ≤ 101) (h0 : splitAt' o [13, 10] ≠ []) (ho : o.length ≤ 100) : CP X (d + 3) σ "quoted_encoded" [.bytes o, .bool t] (.bytes (qenc o t)) := by
  apply cp_wp 83 2 2 c83 n83 H.ok H.fn83 rfl rfl k83
  have hr1 : ∀ x ∈ trows o t, x.length ≤ 100 := by
    intro x hx
    cases t with
    | true => exact h1 x hx
    | false => refine rwr (List.mem_singleton.mp hx) ?_; exact ho
  have hr2 : (trows o t).length ≤ 101 := by
    cases t with
    | true => exact h2
    | false => show 1 ≤ 101; decide
  refine (ex1 H.LEAST ?_)
  obtain ⟨n, s1, g1, O1⟩ := t82 (d := d + 1) (σ := σ ++ [.lst []]) (t := t) H (fun x hx => Nat.le_trans (h1 x hx) (by decide)) (Nat.le_trans h2 (by decide))
  have hne : σ.length ≠ n := by have := O1.le; rw [List.length_append] at this; exact Nat.ne_of_lt this
  refine ⟨Nat.zero_le _, _, _, g1, _, O1.at_, ?_⟩
  refine forL_ab (fun p : List UInt8 => .bytes p) (trows o t) (I83 o t n σ) (fun _ _ _ h => h.at_) ?_ ?_ _ _ (.mk (L := []) ((Own1.new (List.prefix_refl _) []).grow O1.pre) O1.at_ (Nat.le_refl _) (fun _ h => nomatch h) rfl)
  · rintro a p b hab _ s @⟨z, L, _, hO, hs, hLa, hLp, hL⟩ R hR _ _
    have hal : a.length ≤ 101 := by have := congrArg List.length hab; rw [List.length_append] at this; lia
    have hp1 : p.length ≤ 100 := hr1 p (by refine rwr (hab).symm ?_; simp)
    obtain ⟨j, s2, g2, O2⟩ := t80 (d := d) (σ := s) H (l := p) (by lia)
    obtain ⟨k, s3, g3, O3⟩ := t81 (d := d + 1) (σ := s2) H O2.at_ lpieces_len (by rw [lpieces_num]; lia)
    have hn := soft_num (ps := lpieces p) (ln := [])
    rw [lpieces_num] at hn
    have hO3 := (hO.grow O2.pre).grow O3.pre
    refine (ex2 g2 (ex2 g3 (ex2 (mf_extend hO.at_ hO3.at_ O3.at_ (by rw [List.length_map, List.length_map]; lia)) ?_)))
    have hO4 := hO3.set (l' := L.map .bytes ++ (soft (lpieces p) []).map .bytes)
    refine (ex2 (mf_append hO4.at_ hO4.at_ (by rw [List.length_append, List.length_map, List.length_map]; lia)) (hR (.mk (L := L ++ (soft (lpieces p) [] ++ [[13, 10]])) ?_ ?_ ?_ ?_ ?_)))
    · have := hO4.set (l' := (L ++ (soft (lpieces p) [] ++ [[13, 10]])).map .bytes)
      simpa using this
    · exact set_other (set_other (pre_at O3.pre (pre_at O2.pre hs)) hne) hne
    · simp only [List.length_append, List.length_singleton]; lia
    · intro q hq
      simp only [List.mem_append, List.mem_singleton] at hq
      rcases hq with hq | hq | rfl
      · exact hLp q hq
      · exact Nat.le_trans (soft_len lpieces_len (Nat.zero_le _) q hq) (by decide)
      · show 2 ≤ 100; decide
    · refine rwr hL ?_; unfold qall; rw [List.map_append, List.flatten_append]; simp
  · rintro _ s @⟨z, L, _, hO, hs, hLa, hLp, hL⟩
    subst hL
    have lm : ((qall (trows o t)).map PV.bytes).length = (qall (trows o t)).length := List.length_map _
    refine (ex2 (H.len_l hO.at_ (by refine rwr lm ?_; lia)) ?_)
    have hpos : 1 ≤ (qall (trows o t)).length := by
      have : trows o t ≠ [] := by
        cases t with
        | false => exact List.cons_ne_nil _ _
        | true => exact h0
      obtain ⟨r, rs, e⟩ := List.exists_cons_of_ne_nil this
      refine rwr e ?_; unfold qall
      simp only [List.map_cons, List.flatten_cons, List.length_append, List.length_singleton]; lia
    refine rwr lm ?_
    refine (ex2 (p := none) (s := some (((qall (trows o t)).length - 1 : Nat) : Int)) ⟨rfl, by show PV.int _ = PV.int _; congr 1; lia⟩ ?_)
    refine (ex2 (cut_l hO.at_ (by refine rwr lm ?_; lia)) ?_)
    rw [cut_n, ← List.map_take]
    obtain ⟨s5, g5, p5⟩ := t84 (d := d + 1) (σ := s ++ [.lst (((qall (trows o t)).take ((qall (trows o t)).length - 1)).map .bytes)]) H (at_app _ _ _) (by rw [List.length_take]; lia) (fun p hp => hLp p (List.mem_of_mem_take hp))
    exact (ex2 g5 ⟨rfl, (hO.pre.trans (pre_app _ _)).trans p5⟩)
end
noncomputable section
noncomputable def n76 : List Str := ["code"]
noncomputable def c76c : CS := (.ite (.tcmp2 .LtE .LtE (.int 97) (.var 0) (.int 102))
  (.ret (.bin .Sub (.var 0) (.int 87)))
  .done
  (.ret (.un .USub (.int 1))))
noncomputable def c76b : CS := (.ite (.tcmp2 .LtE .LtE (.int 65) (.var 0) (.int 70))
  (.ret (.bin .Sub (.var 0) (.int 55)))
  .done c76c)
noncomputable def c76 : CS := (.ite (.tcmp2 .LtE .LtE (.int 48) (.var 0) (.int 57))
  (.ret (.bin .Sub (.var 0) (.int 48)))
  .done c76b)
noncomputable def n77 : List Str := ["data", "at", "high", "low"]
noncomputable def c77 : CS := (.ite (.tcmp .GtE (.bin .Add (.var 1) (.int 2)) (.call "len" (.var 0) .nil))
  (.ret (.un .USub (.int 1)))
  .done
  (.assign 2 (.call "hex_worth" (.idx (.var 0) (.bin .Add (.var 1) (.int 1))) .nil)
  (.assign 3 (.call "hex_worth" (.idx (.var 0) (.bin .Add (.var 1) (.int 2))) .nil)
  (.ret (.ite (.tall .And (.chc .And (.tcmp .GtE (.var 2) (.int 0)) (.chc .And (.tcmp .GtE (.var 3) (.int 0)) (.chn .And)))) (.bin .Add (.bin .Mult (.int 16) (.var 2)) (.var 3)) (.un .USub (.int 1)))))))
noncomputable def n86 : List Str := ["line", "codes", "at", "code"]
noncomputable def c86 : CS := (.assign 1 (.lst .nil)
  (.assign 2 (.int 0)
  (.whil (.tcmp .Lt (.var 2) (.call "len" (.var 0) .nil))
  (.assign 3 (.ite (.tcmp .Eq (.idx (.var 0) (.var 2)) (.glb "EQUALS")) (.call "quoted_at" (.var 0) (.cons (.var 2) .nil)) (.un .USub (.int 1)))
  (.ite (.tcmp .GtE (.var 3) (.int 0))
  (.expr (.meth (.var 1) "append" (.var 3) .nil)
  (.assign 2 (.bin .Add (.var 2) (.int 3))
  .done))
  (.expr (.meth (.var 1) "append" (.idx (.var 0) (.var 2)) .nil)
  (.assign 2 (.bin .Add (.var 2) (.int 1))
  .done))
  .done))
  (.ret (.call "bytes" (.var 1) .nil)))))
noncomputable def hexw (i : Int) : Int := if 48 ≤ i ∧ i ≤ 57 then i - 48 else if 65 ≤ i ∧ i ≤ 70 then i - 55 else if 97 ≤ i ∧ i ≤ 102 then i - 87 else -1
noncomputable def hexv (h l : UInt8) : Int := if 0 ≤ hexw h.toNat ∧ 0 ≤ hexw l.toNat then 16 * hexw h.toNat + hexw l.toNat else -1
noncomputable def unq : List UInt8 → List UInt8
  | c :: h :: l :: r => if c = 61 ∧ 0 ≤ hexv h l then (hexv h l).toNat.toUInt8 :: unq r else c :: unq (h :: l :: r)
  | l => l
theorem hexw_le (i : Int) : hexw i ≤ 15 := by unfold hexw; split; lia; split; lia; split; lia; decide
theorem hexv_lt (h l : UInt8) : hexv h l < 256 := by
  unfold hexv
  have := hexw_le h.toNat
  have := hexw_le l.toNat
  split
  · lia
  · decide
variable {X : Stat} {d : Nat} {σ : Sto}
theorem neg1 {v : Vs} {Q : PV → Sto → Prop} (h : Q (.int (-1)) σ) : wp X d (.un .USub (.int 1)) v σ Q := h
theorem k76 : (decide (dName 76 = "hex_worth") && fits (dNs 76) (dScope 76) (dBody 76) 1 0 c76 n76) = true := by decide +kernel
theorem t76 (H : PF X) (i : Int) : CP X (d + 1) σ "hex_worth" [.int i] (.int (hexw i)) := by
  apply cp_wp 76 1 0 c76 n76 H.ok (H.fn 76 (by decide)) rfl rfl k76
  have fin : ∀ j : Int, j = hexw i → (PV.int j = .int (hexw i) ∧ σ <+: σ) := fun j h => ⟨by rw [h], List.prefix_refl _⟩
  have g3 : ¬ (48 ≤ i ∧ i ≤ 57) → ¬ (65 ≤ i ∧ i ≤ 70) → wpS X d c76c [some (.int i)] σ (backQ fun p s => p = .int (hexw i) ∧ σ <+: s) := by
    intro h1 h2
    have e : ∀ b, b = hexw i → (¬ (97 ≤ i ∧ i ≤ 102) → -1 = hexw i) ∧ (97 ≤ i ∧ i ≤ 102 → i - 87 = hexw i) := fun _ _ => ⟨fun h => by unfold hexw; rw [if_neg h1, if_neg h2, if_neg h], fun h => by unfold hexw; rw [if_neg h1, if_neg h2, if_pos h]⟩
    refine bsel_of (fun h3 => ?_) fun h3 => fin _ ((e _ rfl).1 fun h => of_decide_eq_false h3 h.1)
    exact bsel_of (fun h4 => fin _ ((e _ rfl).2 ⟨of_decide_eq_true h3, of_decide_eq_true h4⟩)) fun h4 => fin _ ((e _ rfl).1 fun h => of_decide_eq_false h4 h.2)
  have g2 : ¬ (48 ≤ i ∧ i ≤ 57) → wpS X d c76b [some (.int i)] σ (backQ fun p s => p = .int (hexw i) ∧ σ <+: s) := by
    intro h1
    refine bsel_of (fun h3 => ?_) fun h3 => g3 h1 fun h => of_decide_eq_false h3 h.1
    exact bsel_of (fun h4 => fin _ (by unfold hexw; rw [if_neg h1, if_pos ⟨of_decide_eq_true h3, of_decide_eq_true h4⟩])) fun h4 => g3 h1 fun h => of_decide_eq_false h4 h.2
  refine bsel_of (fun h3 => ?_) fun h3 => g2 fun h => of_decide_eq_false h3 h.1
  exact bsel_of (fun h4 => fin _ (by unfold hexw; rw [if_pos ⟨of_decide_eq_true h3, of_decide_eq_true h4⟩])) fun h4 => g2 fun h => of_decide_eq_false h4 h.2
noncomputable def qat (b : List UInt8) : Int := match b with | _ :: h :: l :: _ => hexv h l | _ => -1
theorem k77 : (decide (dName 77 = "quoted_at") && fits (dNs 77) (dScope 77) (dBody 77) 2 0 c77 n77) = true := by decide +kernel
theorem t77 (H : PF X) {b : List UInt8} {a : Nat} (hb : b.length ≤ 30000) (ha : a < b.length) : CP X (d + 2) σ "quoted_at" [.bytes b, .int a] (.int (qat (b.drop a))) := by
  apply cp_wp 77 2 0 c77 n77 H.ok (H.fn 77 (by decide)) rfl rfl k77
  refine (ex2 (H.len_b (by lia)) ?_)
  refine bsel_of (fun h => ⟨?_, List.prefix_refl _⟩) fun h => ?_
  · have h := of_decide_eq_true h
    have hl : (b.drop a).length ≤ 2 := by rw [List.length_drop]; lia
    generalize b.drop a = l at hl
    match l, hl with
    | [], _ => rfl
    | [_], _ => rfl
    | [_, _], _ => rfl
    | _ :: _ :: _ :: _, h => exact absurd h (by simp)
  · have h := of_decide_eq_false h
    have h1 : a + 1 < b.length := by lia
    have h2 : a + 2 < b.length := by lia
    have ed : b.drop a = b[a] :: b[a + 1] :: b[a + 2] :: b.drop (a + 3) := by
      rw [List.drop_eq_getElem_cons ha, List.drop_eq_getElem_cons h1, List.drop_eq_getElem_cons h2]
    rw [ed]
    have i1 : ((a : Int) + 1).toNat = a + 1 := by lia
    have i2 : ((a : Int) + 2).toNat = a + 2 := by lia
    generalize hx : b[a + 1] = x at ed
    generalize hy : b[a + 2] = y at ed
    have g1 : b[((a : Int) + 1).toNat]? = some x := by rw [i1, ← hx]; exact List.getElem?_eq_getElem h1
    have g2 : b[((a : Int) + 2).toNat]? = some y := by rw [i2, ← hy]; exact List.getElem?_eq_getElem h2
    obtain ⟨s1, f1, p1⟩ := t76 (d := d) (σ := σ) H (x.toNat : Int)
    obtain ⟨s2, f2, p2⟩ := t76 (d := d) (σ := s1) H (y.toNat : Int)
    refine (ex1 (p := x) ⟨by lia, g1, by lia⟩ (ex2 f1 (ex1 (p := y) ⟨by lia, g2, by lia⟩ (ex2 f2 ?_))))
    have fin : ∀ j : Int, j = hexv x y → (PV.int j = .int (qat (b[a] :: x :: y :: b.drop (a + 3))) ∧ σ <+: s2) := fun j h => ⟨by rw [h]; rfl, p1.trans p2⟩
    refine bsel_of (fun h3 => ?_) fun h3 => fin _ (by unfold hexv; rw [if_neg fun h => of_decide_eq_false h3 h.1])
    exact bsel_of (fun h4 => ⟨IntMulOk.of_left (by decide), fin _ (by unfold hexv; rw [if_pos ⟨of_decide_eq_true h3, of_decide_eq_true h4⟩])⟩) fun h4 => fin _ (by unfold hexv; rw [if_neg fun h => of_decide_eq_false h4 h.2])
theorem unq_step (c : UInt8) (r : List UInt8) : unq (c :: r) = if c = 61 ∧ 0 ≤ qat (c :: r) then (qat (c :: r)).toNat.toUInt8 :: unq (r.drop 2) else c :: unq r := by
  match r with
  | [] => rw [if_neg fun h => absurd h.2 (show ¬ (0 : Int) ≤ -1 by decide)]; rfl
  | [_] => rw [if_neg fun h => absurd h.2 (show ¬ (0 : Int) ≤ -1 by decide)]; rfl
  | h :: l :: r => rfl
theorem unq_len : ∀ (n : Nat) (l : List UInt8), l.length ≤ n → (unq l).length ≤ l.length := by
  intro n
  induction n with
  | zero => intro l h; rw [List.length_eq_zero_iff.mp (Nat.le_zero.mp h)]; exact Nat.le_refl _
  | succ n ih =>
    intro l h
    cases l with
    | nil => exact Nat.le_refl _
    | cons c r =>
      rw [unq_step]
      rw [List.length_cons] at h
      split
      · have := ih (r.drop 2) (by rw [List.length_drop]; lia)
        rw [List.length_drop] at this
        rw [List.length_cons, List.length_cons]; lia
      · have := ih r (by lia)
        rw [List.length_cons, List.length_cons]; lia
inductive I86 (σ : Sto) (b : List UInt8) : Nat → Vs → Sto → Prop
  | mk {a : Nat} {z : Option PV} {L : List UInt8} {s : Sto} (hO : Own1 σ σ.length (L.map fun c => .int (c.toNat : Int)) s) (hLa : L.length ≤ a) (hal : a ≤ b.length) (hL : L ++ unq (b.drop a) = unq b) : I86 σ b (b.length + 2 - a) [some (.bytes b), some (.ref σ.length), some (.int a), z] s
theorem k86 : (decide (dName 86 = "unquoted") && fits (dNs 86) (dScope 86) (dBody 86) 1 0 c86 n86) = true := by decide +kernel
theorem t86 (H : PF X) {b : List UInt8} (hb : b.length ≤ 30000) : CP X (d + 3) σ "unquoted" [.bytes b] (.bytes (unq b)) := by
  apply cp_wp 86 1 0 c86 n86 H.ok (H.fn 86 (by decide)) rfl rfl k86
  refine ⟨Nat.zero_le _, I86 σ b, ⟨_, .mk (a := 0) (L := []) (.new (List.prefix_refl _) _) (Nat.le_refl _) (Nat.zero_le _) rfl⟩, ?_⟩
  rintro _ _ s @⟨a, z, L, _, hO, hLa, hal, hL⟩
  refine (ex2 (H.len_b (by lia)) ?_)
  refine bsel_of (fun h => ?_) fun h => ?_
  · have h := of_decide_eq_true h
    have ha : a < b.length := by lia
    have ed : b.drop a = b[a] :: b.drop (a + 1) := List.drop_eq_getElem_cons ha
    have hg : b[((a : Nat) : Int).toNat]? = some b[a] := by rw [Int.toNat_natCast]; exact List.getElem?_eq_getElem ha
    generalize b[a] = c at ed hg
    have hs := unq_step c (b.drop (a + 1))
    rw [← ed, List.drop_drop] at hs
    have it : (0 : Int) ≤ (a : Int) ∧ b[((a : Nat) : Int).toNat]? = some c ∧ b.length ≤ 1099511627776 := ⟨by lia, hg, by lia⟩
    have hLl : (L.map fun c : UInt8 => PV.int (c.toNat : Int)).length ≤ 16777216 := by rw [List.length_map]; lia
    have lay : ∀ (x : UInt8) (s' : Sto), s <+: s' → Own1 σ σ.length ((L ++ [x]).map fun c => .int (c.toNat : Int)) (s'.set σ.length (.lst (L.map (fun c : UInt8 => PV.int (c.toNat : Int)) ++ [.int (x.toNat : Int)]))) := fun x s' hs' => by
      have := (hO.grow hs').set (l' := (L ++ [x]).map fun c : UInt8 => PV.int (c.toNat : Int)); simpa using this
    have go : ∀ (q : Int) (s' : Sto) (R : Out), s <+: s' → (0 ≤ q → c = 61 ∧ q = qat (b.drop a)) → (¬ 0 ≤ q → ¬ (c = 61 ∧ 0 ≤ qat (b.drop a))) → (∀ v' σ', (∃ n', n' < b.length + 2 - a ∧ I86 σ b n' v' σ') → R.nx v' σ') → wpS X (d + 2) (.ite (.tcmp .GtE (.var 3) (.int 0))
        (.expr (.meth (.var 1) "append" (.var 3) .nil) (.assign 2 (.bin .Add (.var 2) (.int 3)) .done)) (.expr (.meth (.var 1) "append" (.idx (.var 0) (.var 2)) .nil) (.assign 2 (.bin .Add (.var 2) (.int 1)) .done)) .done)
        [some (.bytes b), some (.ref σ.length), some (.int a), some (.int q)] s' R := by
      intro q s' R hp h1 h2 hR
      refine bsel_of (fun hq => ?_) fun hq => ?_
      · obtain ⟨rfl, rfl⟩ := h1 (of_decide_eq_true hq)
        have hq := of_decide_eq_true hq
        rw [if_pos ⟨rfl, hq⟩] at hs
        refine (ex2 (mf_append (hO.grow hp).at_ (hO.grow hp).at_ hLl) (hR _ _ ?_))
        have hlt : qat (b.drop a) < 256 := by
          unfold qat; split
          · exact hexv_lt _ _
          · decide
        have e : qat (b.drop a) = (((qat (b.drop a)).toNat.toUInt8.toNat : Nat) : Int) := by simp; lia
        have h3 : a + 3 ≤ b.length := by
          rcases Nat.lt_or_ge b.length (a + 3) with hc | hc
          · have hl : (b.drop a).length ≤ 2 := by rw [List.length_drop]; lia
            have : qat (b.drop a) = -1 := by
              generalize b.drop a = l at hl
              match l, hl with
              | [], _ => rfl
              | [_], _ => rfl
              | [_, _], _ => rfl
              | _ :: _ :: _ :: _, h => exact absurd h (by simp)
            lia
          · exact hc
        refine ⟨b.length + 2 - (a + 3), by lia, .mk (a := a + 3) (L := L ++ [(qat (b.drop a)).toNat.toUInt8]) ?_ (by rw [List.length_append]; show _ + 1 ≤ _; lia) h3 ?_⟩
        · have := lay (qat (b.drop a)).toNat.toUInt8 s' hp
          rw [← e] at this; exact this
        · rw [← hL, hs, List.append_assoc]; rfl
      · rw [if_neg (h2 (of_decide_eq_false hq))] at hs
        refine (ex1 (p := c) it ⟨_, _, mf_append (hO.grow hp).at_ (hO.grow hp).at_ hLl, hR _ _ ⟨b.length + 2 - (a + 1), by lia, .mk (a := a + 1) (L := L ++ [c]) (lay c s' hp) (by rw [List.length_append]; exact Nat.succ_le_succ hLa) ha ?_⟩⟩)
        rw [← hL, hs, List.append_assoc]; rfl
    refine (ex1 (p := c) it ⟨_, H.EQUALS, ?_⟩)
    have hc : ((c.toNat : Int) == 61) = (c == 61) := by
      rw [Bool.eq_iff_iff, beq_iff_eq, beq_iff_eq, ← UInt8.toNat_inj]; show _ ↔ c.toNat = 61; lia
    refine bsel_of (fun h1 => ?_) fun h1 => neg1 (go (-1) s _ (List.prefix_refl _) (fun h => absurd h (by decide)) (fun _ h => ?_) fun _ _ h => h)
    · obtain ⟨s1, f1, p1⟩ := t77 (d := d) (σ := s) H hb ha
      rw [hc] at h1
      exact ⟨_, _, f1, go _ s1 _ p1 (fun _ => ⟨eq_of_beq h1, rfl⟩) (fun h h' => h h'.2) fun _ _ h => h⟩
    · rw [hc, h.1] at h1; cases h1
  · have h := of_decide_eq_false h
    have : a = b.length := by lia
    subst this
    rw [List.drop_length] at hL
    rw [show L = unq b by rw [← hL]; exact (List.append_nil _).symm] at hO
    exact (ex2 (H.bytes_l hO.at_ (Nat.le_trans (unq_len _ b (Nat.le_refl _)) (by lia))) ⟨rfl, hO.pre⟩)
end
noncomputable section
open Builtin in
theorem found_at (b : List UInt8) (k e : Nat) (he : e ≤ b.length) : (match (if (e : Int) - (k : Int) < 1 then none else some (((k : Int)).toNat, ((e : Int)).toNat)).bind fun (z : Nat × Nat) => Bytes.find? b.toArray #[10] z.1 z.2 with | some i => (i : Int) | none => -1) = -1 ∧ (∀ j, k ≤ j → j < e → b[j]? ≠ some 10) ∨
    ∃ i : Nat, (match (if (e : Int) - (k : Int) < 1 then none else some (((k : Int)).toNat, ((e : Int)).toNat)).bind fun (z : Nat × Nat) => Bytes.find? b.toArray #[10] z.1 z.2 with | some i => (i : Int) | none => -1) = (i : Int) ∧ k ≤ i ∧ i < e ∧ b[i]? = some 10 ∧ ∀ j, k ≤ j → j < i → b[j]? ≠ some 10 := by
  by_cases hk : (e : Int) - (k : Int) < 1
  · rw [if_pos hk]
    exact .inl ⟨rfl, fun j h1 h2 => by lia⟩
  · refine rwr (if_neg hk) ?_
    have hP : ∀ i, i < b.length → ((b.toArray.extract i (i + 1) == #[10]) = true ↔ b[i]? = some 10) := fun i hi => by
      have e1 : b.toArray.extract i (i + 1) = #[b[i]] := by
        apply Array.ext'
        simp only [Array.toList_extract, List.extract_eq_drop_take]
        rw [Nat.add_sub_cancel_left, List.drop_eq_getElem_cons hi]
        rfl
      refine rwr e1 ?_; rw [List.getElem?_eq_getElem hi]
      simp
    show (match Bytes.find? b.toArray #[10] ((k : Int)).toNat ((e : Int)).toNat with | some i => (i : Int) | none => -1) = -1 ∧ _ ∨ ∃ i : Nat, (match Bytes.find? b.toArray #[10] ((k : Int)).toNat ((e : Int)).toNat with | some i => (i : Int) | none => -1) = _ ∧ _
    rw [Int.toNat_natCast, Int.toNat_natCast]
    have hl : Bytes.find? b.toArray #[10] k e = ((List.range (e - k)).map (· + k)).find? fun i => b.toArray.extract i (i + 1) == #[10] := by
      unfold Bytes.find?
      show ((List.range (e + 1 - (k + 1))).map (· + k)).find? _ = _
      refine rwr (show e + 1 - (k + 1) = e - k by lia) ?_; rfl
    refine rwr hl ?_
    cases hf : ((List.range (e - k)).map (· + k)).find? fun i => b.toArray.extract i (i + 1) == #[10] with
    | none =>
      rw [List.find?_eq_none] at hf
      refine .inl ⟨rfl, fun j h1 h2 h => hf j (List.mem_map.mpr (ex1 (p := j - k) (List.mem_range.mpr (by lia)) (by lia))) ((hP j (by lia)).mpr h)⟩
    | some i =>
      obtain ⟨hp, as, bs, hs, hn⟩ := List.find?_eq_some_iff_append.mp hf
      have hg : ∀ t, t < as.length → as[t]? = some (t + k) ∧ t < e - k := fun t ht => by
        have h1 : ((List.range (e - k)).map (· + k))[t]? = as[t]? := by refine rwr hs ?_; rw [List.getElem?_append_left ht]
        rw [List.getElem?_map] at h1
        rw [List.getElem?_eq_getElem ht] at h1
        obtain ⟨u, hu, hv⟩ := Option.map_eq_some_iff.mp h1
        obtain ⟨h2, h3⟩ := List.getElem?_eq_some_iff.mp hu
        rw [List.length_range] at h2
        rw [List.getElem_range] at h3
        rw [List.getElem?_eq_getElem ht, ← hv, ← h3]
        exact ⟨rfl, h2⟩
      have hi : i = as.length + k ∧ as.length < e - k := by
        have h1 : ((List.range (e - k)).map (· + k))[as.length]? = some i := by refine rwr hs ?_; simp
        rw [List.getElem?_map] at h1
        obtain ⟨u, hu, hv⟩ := Option.map_eq_some_iff.mp h1
        obtain ⟨h2, h3⟩ := List.getElem?_eq_some_iff.mp hu
        rw [List.length_range] at h2
        rw [List.getElem_range] at h3
        exact ⟨by refine rwr (hv).symm ?_; rw [← h3], h2⟩
      refine .inr (ex1 (p := i) rfl ⟨by lia, by lia, (hP i (by lia)).mp hp, fun j h1 h2 h => ?_⟩)
      have h3 := (hg (j - k) (by lia)).1
      rw [show j - k + k = j by lia] at h3
      have h4 := hn j (List.mem_of_getElem? h3)
      rw [(hP j (by lia)).mpr h] at h4
      exact ff h4
theorem found3 (b : List UInt8) {k : Nat} (hk : k ≤ b.length) : foundAt b [10] (some (k : Int)) none = -1 ∧ (∀ j, k ≤ j → b[j]? ≠ some 10) ∨ ∃ i : Nat, foundAt b [10] (some (k : Int)) none = (i : Int) ∧ k ≤ i ∧ i < b.length ∧ b[i]? = some 10 ∧ ∀ j, k ≤ j → j < i → b[j]? ≠ some 10 := by
  have hw : Builtin.Bytes.window b.length (some (k : Int)) none = ((k : Int), (b.length : Int)) := by
    unfold Builtin.Bytes.window
    simp only [Option.getD_some, Option.getD_none, if_neg (show ¬ (k : Int) < 0 by lia), if_neg (show ¬ (b.length : Int) < 0 by lia)]
    rw [Prod.mk.injEq]; exact ⟨rfl, by lia⟩
  unfold foundAt
  refine rwr hw ?_
  rcases found_at b k b.length (Nat.le_refl _) with ⟨h1, h2⟩ | h
  · exact .inl ⟨h1, fun j hj h => h2 j hj (List.getElem?_eq_some_iff.mp h).1 h⟩
  · exact .inr h
theorem found4 (b : List UInt8) {k e : Nat} (hk : k ≤ e) (he : e ≤ b.length) : foundAt b [10] (some (k : Int)) (some (e : Int)) = -1 ∧ (∀ j, k ≤ j → j < e → b[j]? ≠ some 10) ∨ ∃ i : Nat, foundAt b [10] (some (k : Int)) (some (e : Int)) = (i : Int) ∧ k ≤ i ∧ i < e ∧ b[i]? = some 10 ∧ ∀ j, k ≤ j → j < i → b[j]? ≠ some 10 := by
  have hw : Builtin.Bytes.window b.length (some (k : Int)) (some (e : Int)) = ((k : Int), (e : Int)) := by
    unfold Builtin.Bytes.window
    simp only [Option.getD_some, if_neg (show ¬ (k : Int) < 0 by lia), if_neg (show ¬ (e : Int) < 0 by lia)]
    rw [Prod.mk.injEq]; exact ⟨rfl, by lia⟩
  unfold foundAt
  refine rwr hw ?_
  exact found_at b k e he
noncomputable def lrow (p : List UInt8) : List UInt8 × List UInt8 := if p.getLast? = some 13 then (p.dropLast, [13, 10]) else (p, [10])
noncomputable def lgo : List UInt8 → List UInt8 → List (List UInt8 × List UInt8)
  | cur, [] => [(cur, [])]
  | cur, c :: r => if c = 10 then lrow cur :: lgo [] r else lgo (cur ++ [c]) r
theorem lgo_pre {p : List UInt8} : ∀ {cur r : List UInt8}, (∀ c ∈ p, c ≠ 10) → lgo cur (p ++ r) = lgo (cur ++ p) r := by
  induction p with
  | nil => intro cur r _; rw [List.append_nil]; rfl
  | cons c p ih =>
    intro cur r h
    rw [List.cons_append]
    show (if c = 10 then _ else lgo (cur ++ [c]) (p ++ r)) = _
    refine rwr (if_neg (h c List.mem_cons_self)) ?_; rw [ih fun x hx => h x (List.mem_cons_of_mem _ hx), List.append_assoc]; rfl
theorem seg_no {b : List UInt8} {k i : Nat} (h : ∀ j, k ≤ j → j < i → b[j]? ≠ some 10) : ∀ c ∈ (b.drop k).take (i - k), c ≠ 10 := by
  intro c hc e
  obtain ⟨t, ht⟩ := List.mem_iff_getElem?.mp hc
  rw [List.getElem?_take] at ht
  split at ht
  · rw [List.getElem?_drop] at ht
    exact h (k + t) (by lia) (by lia) (by rw [ht, e])
  · exact nn ht
theorem seg_eq {b : List UInt8} {k i : Nat} (hk : k ≤ i) (hi : i < b.length) (h : b[i]? = some 10) : b.drop k = (b.drop k).take (i - k) ++ 10 :: b.drop (i + 1) := by
  have h1 : b.drop i = 10 :: b.drop (i + 1) := by
    rw [List.getElem?_eq_getElem hi] at h
    refine rwr (List.drop_eq_getElem_cons hi) ?_; rw [Option.some.inj h]
  conv => lhs; rw [← List.take_append_drop (i - k) (b.drop k)]
  rw [List.drop_drop, show k + (i - k) = i by lia, h1]
theorem seg_last {b : List UInt8} {k i : Nat} (hk : k < i) (hi : i < b.length) : ((b.drop k).take (i - k)).getLast? = b[i - 1]? ∧ ((b.drop k).take (i - k)).dropLast = (b.drop k).take (i - 1 - k) := by
  have hp := Nat.sub_pos_of_lt hk
  have hm : min (i - k) (b.length - k) = i - k := Nat.min_eq_left (Nat.sub_le_sub_right (Nat.le_of_lt hi) k)
  constructor
  · rw [List.getLast?_eq_getElem?, List.length_take, List.length_drop, hm, List.getElem?_take, if_pos (Nat.sub_lt hp Nat.one_pos), List.getElem?_drop, ← Nat.add_sub_assoc hp, Nat.add_sub_cancel' (Nat.le_of_lt hk)]
  · rw [List.dropLast_take (by rw [List.length_drop]; exact Nat.sub_lt_sub_right (Nat.le_of_lt hk) hi), Nat.sub_right_comm]
noncomputable def n85 : List Str := ["data", "found", "begin", "at"]
noncomputable def c85b : CS := (.ite (.tall .And (.chc .And (.tcmp .Gt (.var 3) (.var 2)) (.chc .And (.tcmp .Eq (.idx (.var 0) (.bin .Sub (.var 3) (.int 1))) (.glb "RETURN_quoted")) (.chn .And))))
  (.expr (.meth (.var 1) "append" (.tup (.cons (.slc true (.var 0) (.osome (.var 2)) (.osome (.bin .Sub (.var 3) (.int 1)))) (.cons (.byt [13, 10]) .nil))) .nil)
  .done)
  (.expr (.meth (.var 1) "append" (.tup (.cons (.slc true (.var 0) (.osome (.var 2)) (.osome (.var 3))) (.cons (.byt [10]) .nil))) .nil)
  .done)
  (.assign 2 (.bin .Add (.var 3) (.int 1))
  .done))
noncomputable def c85 : CS := (.assign 1 (.lst .nil)
  (.assign 2 (.int 0)
  (.whil (.tval (.bool true))
  (.assign 3 (.meth (.var 0) "find" (.byt [10]) (.cons (.var 2) .nil))
  (.ite (.tcmp .Lt (.var 3) (.int 0))
  (.ret (.bin .Add (.var 1) (.lst (.cons (.tup (.cons (.slc true (.var 0) (.osome (.var 2)) .onone) (.cons (.byt []) .nil))) .nil))))
  .done c85b))
  .done)))
noncomputable def pvp (p : List UInt8 × List UInt8) : PV := .tup [.bytes p.1, .bytes p.2]
variable {X : Stat} {d : Nat} {σ : Sto}
inductive I85 (σ : Sto) (b : List UInt8) : Nat → Vs → Sto → Prop
  | mk {k : Nat} {z : Option PV} {L : List (List UInt8 × List UInt8)} {s : Sto} (hO : Own1 σ σ.length (L.map pvp) s) (hLa : L.length ≤ k) (hk : k ≤ b.length) (hL : L ++ lgo [] (b.drop k) = lgo [] b) : I85 σ b (b.length + 1 - k) [some (.bytes b), some (.ref σ.length), some (.int k), z] s
theorem k85 : (decide (dName 85 = "line_parts") && fits (dNs 85) (dScope 85) (dBody 85) 1 0 c85 n85) = true := by decide +kernel
theorem t85 (H : PF X) {b : List UInt8} (hb : b.length ≤ 30000) : CN X (d + 1) σ "line_parts" [.bytes b] ((lgo [] b).map pvp) := by
  apply cn_wp 85 1 0 c85 n85 H.ok (H.fn 85 (by decide)) rfl rfl k85
  refine ⟨Nat.zero_le _, I85 σ b, ⟨_, .mk (k := 0) (L := []) (.new (List.prefix_refl _) _) (Nat.le_refl _) (Nat.zero_le _) rfl⟩, ?_⟩
  rintro _ _ s @⟨k, z, L, _, hO, hLa, hk, hL⟩
  have hLl : (L.map pvp).length ≤ 16777216 := by rw [List.length_map]; lia
  refine (ex2 (mf_of mth_find isT_bytes find3_b) ?_)
  rcases found3 b hk with ⟨e, hno⟩ | ⟨i, e, h1, h2, h3, hno⟩
  · refine rwr e ?_
    refine (ex2 (p := some (k : Int)) (s := none) ⟨rfl, rfl⟩ ?_)
    conv => whnf
    rw [cut_a]
    refine ⟨by lia, short2, short1, _, _, ⟨pre_at (pre_app _ _) hO.at_, at_app _ _ _, by rw [List.length_map]; show _ + 1 ≤ _; lia⟩, _, rfl, ?_⟩
    have hp := lgo_pre (p := b.drop k) (cur := []) (r := []) fun c hc e => by
      obtain ⟨t, ht⟩ := List.mem_iff_getElem?.mp hc
      rw [List.getElem?_drop] at ht
      exact hno (k + t) (by lia) (by refine rwr ht ?_; rw [e])
    rw [List.append_nil, List.nil_append] at hp
    rw [hp] at hL
    have e2 : L.map pvp ++ [PV.tup [.bytes (b.drop k), .bytes []]] = (lgo [] b).map pvp := by refine rwr (hL).symm ?_; rw [List.map_append]; rfl
    refine rwr e2 ?_
    exact .new (hO.pre.trans (pre_app _ _)) _
  · refine rwr e ?_
    have hseg := seg_eq h1 h2 h3
    have hp := lgo_pre (p := (b.drop k).take (i - k)) (cur := []) (r := 10 :: b.drop (i + 1)) (seg_no hno)
    rw [← hseg, List.nil_append] at hp
    have hp : lgo [] (b.drop k) = lrow ((b.drop k).take (i - k)) :: lgo [] (b.drop (i + 1)) := hp
    rw [hp] at hL
    have hlt : decide ((i : Int) < 0) = false := decide_eq_false (by lia)
    have go : ∀ (q : List UInt8 × List UInt8) (R : Out) z, q = lrow ((b.drop k).take (i - k)) → (∀ v' σ', (∃ n', n' < b.length + 1 - k ∧ I85 σ b n' v' σ') → R.nx v' σ') → R.nx [some (.bytes b), some (.ref σ.length), some (.int ((i : Int) + 1)), z] (s.set σ.length (.lst (L.map pvp ++ [pvp q]))) := fun q R z hq hR =>
      hR _ _ ⟨b.length + 1 - (i + 1), by lia, (.mk (k := i + 1) (L := L ++ [q]) (by have := hO.set (l' := (L ++ [q]).map pvp); simpa using this) (by rw [List.length_append]; show _ + 1 ≤ _; lia) h2 (by rw [List.append_assoc, hq]; exact hL))⟩
    have lit : ¬ (k < i ∧ b[i - 1]? = some 13) → ((b.drop k).take (i - k), [10]) = lrow ((b.drop k).take (i - k)) := fun h => by
      unfold lrow
      rw [if_neg]
      intro hc
      rcases Nat.lt_or_ge k i with hki | hki
      · exact h ⟨hki, by rw [← (seg_last hki h2).1]; exact hc⟩
      · rw [show i - k = 0 by lia, List.take_zero] at hc; exact nn hc
    have plain : ∀ (R : Out), ¬ (k < i ∧ b[i - 1]? = some 13) → (∀ v' σ', (∃ n', n' < b.length + 1 - k ∧ I85 σ b n' v' σ') → R.nx v' σ') → wpS X d (.expr (.meth (.var 1) "append" (.tup (.cons (.slc true (.var 0) (.osome (.var 2)) (.osome (.var 3))) (.cons (.byt [10]) .nil))) .nil) .done) [some (.bytes b), some (.ref σ.length), some (.int k), some (.int i)] s ⟨fun v σ => wpS X d (.assign 2 (.bin .Add (.var 3) (.int 1)) .done) v σ R, R.br, R.co, R.re⟩ := fun R hn hR => by
      refine (ex2 (p := some (k : Int)) (s := some (i : Int)) ⟨rfl, rfl⟩ ?_)
      conv => whnf
      refine rwr (cut_nn _ h1) ?_
      exact ⟨by lia, short2, _, _, mf_append hO.at_ hO.at_ hLl, go _ R _ (lit hn) hR⟩
    have rest : ∀ R : Out, (∀ v' σ', (∃ n', n' < b.length + 1 - k ∧ I85 σ b n' v' σ') → R.nx v' σ') → wpS X d c85b [some (.bytes b), some (.ref σ.length), some (.int k), some (.int i)] s R := fun R hR => by
      refine bsel_of (fun h => ?_) fun h => plain R (fun hc => of_decide_eq_false h (by lia)) hR
      have h := of_decide_eq_true h
      have hki : k < i := by lia
      have hg : b[((i : Int) - 1).toNat]? = some (b.getD (i - 1) 0) := by refine rwr (show ((i : Int) - 1).toNat = i - 1 by lia) ?_; exact getD_at (by lia)
      have hg' : b[i - 1]? = some (b.getD (i - 1) 0) := getD_at (by lia)
      generalize b.getD (i - 1) 0 = x at hg hg'
      refine (ex1 (p := x) ⟨by lia, hg, by lia⟩ (ex1 H.RETq ?_))
      have hx : ((x.toNat : Int) == 13) = (x == 13) := by
        rw [Bool.eq_iff_iff, beq_iff_eq, beq_iff_eq, ← UInt8.toNat_inj]; show _ ↔ x.toNat = 13; lia
      refine bsel_of (fun h4 => ?_) fun h4 => plain R (fun hc => ?_) hR
      · rw [hx] at h4
        refine (ex2 (p := some (k : Int)) (s := some ((i - 1 : Nat) : Int)) ⟨rfl, by show PV.int _ = PV.int _; congr 1; lia⟩ ?_)
        conv => whnf
        refine rwr (cut_nn _ (by lia)) ?_
        refine ⟨by lia, short2, _, _, mf_append hO.at_ hO.at_ hLl, go ((b.drop k).take (i - 1 - k), [13, 10]) R _ ?_ hR⟩
        unfold lrow
        rw [(seg_last hki h2).1, hg', eq_of_beq h4, if_pos rfl, (seg_last hki h2).2]
      · rw [hx] at h4
        have := hc.2
        rw [hg'] at this
        rw [Option.some.inj this] at h4
        cases h4
    exact rest ⟨fun v' σ' => ∃ n', n' < b.length + 1 - k ∧ I85 σ b n' v' σ', fun v' σ' => wpS X d .done v' σ' (backQ fun p s => ∃ n, p = .ref n ∧ Own1 σ n ((lgo [] b).map pvp) s), fun v' σ' => ∃ n', n' < b.length + 1 - k ∧ I85 σ b n' v' σ', fun p s => ∃ n, p = .ref n ∧ Own1 σ n ((lgo [] b).map pvp) s⟩ fun _ _ h => h
end
noncomputable section
noncomputable def n87 : List Str := ["data", "parts", "line", "end", "kept"]
noncomputable def c87 : CS := (.assign 1 (.lst .nil)
  (.for_ .tup [2, 3] (.call "line_parts" (.var 0) .nil)
  (.assign 4 (.meth (.var 2) "rstrip" (.byt [32, 9]) .nil)
  (.ite (.tcmp .Eq (.slc true (.var 4) (.osome (.un .USub (.int 1))) .onone) (.call "bytes" (.lst (.cons (.glb "EQUALS") .nil)) .nil))
  (.expr (.meth (.var 1) "append" (.call "unquoted" (.slc true (.var 4) .onone (.osome (.bin .Sub (.call "len" (.var 4) .nil) (.int 1)))) .nil) .nil)
  .done)
  (.expr (.meth (.var 1) "append" (.bin .Add (.call "unquoted" (.var 4) .nil) (.var 3)) .nil)
  .done)
  .done))
  (.ret (.meth (.byt []) "join" (.var 1) .nil))))
noncomputable def qrow (z : List UInt8 × List UInt8) : List UInt8 := if ends61 (stripped z.1 [32, 9]) then unq ((stripped z.1 [32, 9]).take ((stripped z.1 [32, 9]).length - 1)) else unq (stripped z.1 [32, 9]) ++ z.2
noncomputable def qdec (b : List UInt8) : List UInt8 := ((lgo [] b).map qrow).flatten
theorem stripped_len (b c : List UInt8) : (stripped b c).length ≤ b.length := by
  unfold stripped
  rw [List.length_reverse]
  refine Nat.le_trans (List.dropWhile_suffix _).length_le ?_
  rw [List.length_reverse]; exact Nat.le_refl _
theorem qrow_len (z : List UInt8 × List UInt8) : (qrow z).length ≤ z.1.length + z.2.length := by
  have h := stripped_len z.1 [32, 9]
  unfold qrow
  split
  · have := unq_len _ ((stripped z.1 [32, 9]).take ((stripped z.1 [32, 9]).length - 1)) (Nat.le_refl _)
    rw [List.length_take] at this; lia
  · have := unq_len _ (stripped z.1 [32, 9]) (Nat.le_refl _)
    rw [List.length_append]; lia
theorem lrow_len (p : List UInt8) : (lrow p).1.length + (lrow p).2.length = p.length + 1 := by
  unfold lrow
  split
  · rename_i h
    have : p ≠ [] := fun e => by rw [e] at h; exact nn h
    have := List.length_pos_iff.mpr this
    show p.dropLast.length + 2 = _
    rw [List.length_dropLast]; lia
  · rfl
theorem lgo_sum (r : List UInt8) : ∀ cur : List UInt8, ((lgo cur r).map fun z => z.1.length + z.2.length).sum = cur.length + r.length := by
  induction r with
  | nil => intro cur; simp [lgo]
  | cons c r ih =>
    intro cur
    unfold lgo
    split
    · rw [List.map_cons, List.sum_cons, lrow_len, ih, List.length_cons]; show _ + (0 + _) = _; lia
    · rw [ih]; simp only [List.length_append, List.length_cons, List.length_nil]; lia
theorem lgo_num (r : List UInt8) : ∀ cur : List UInt8, (lgo cur r).length ≤ r.length + 1 := by
  induction r with
  | nil => intro cur; exact Nat.le_refl _
  | cons c r ih =>
    intro cur
    unfold lgo
    split
    · exact Nat.succ_le_succ (ih [])
    · exact Nat.le_succ_of_le (ih _)
theorem qrows_sum (l : List (List UInt8 × List UInt8)) : ((l.map qrow).map List.length).sum ≤ (l.map fun z => z.1.length + z.2.length).sum := by
  induction l with
  | nil => exact Nat.le_refl _
  | cons z l ih => rw [List.map_cons, List.map_cons, List.map_cons, List.sum_cons, List.sum_cons]; exact Nat.add_le_add (qrow_len z) ih
theorem joinB_nil {α : Type} (L : List (List α)) : joinB [] L = L.flatten := by cases L with | nil => rfl | cons x L => rw [joinB_cons]; simp
theorem mem_le_sum {l : List Nat} {a : Nat} (h : a ∈ l) : a ≤ l.sum := by
  induction l with
  | nil => cases h
  | cons b l ih =>
    rw [List.sum_cons]
    rcases List.mem_cons.mp h with rfl | h
    · exact Nat.le_add_right _ _
    · exact Nat.le_trans (ih h) (Nat.le_add_left _ _)
variable {X : Stat} {d : Nat} {σ : Sto}
theorem k87 : (decide (dName 87 = "quoted_decoded") && fits (dNs 87) (dScope 87) (dBody 87) 1 0 c87 n87) = true := by decide +kernel
theorem t87 (H : PF X) {b : List UInt8} (hb : b.length ≤ 30000) : CP X (d + 4) σ "quoted_decoded" [.bytes b] (.bytes (qdec b)) := by
  apply cp_wp 87 1 0 c87 n87 H.ok (H.fn 87 (by decide)) rfl rfl k87
  have hsum := lgo_sum b []
  have hnum := lgo_num b []
  rw [List.length_nil, Nat.zero_add] at hsum
  obtain ⟨n, s1, g1, O1⟩ := t85 (d := d + 2) (σ := σ ++ [.lst []]) H hb
  have hne : σ.length ≠ n := by have := O1.le; rw [List.length_append] at this; exact Nat.ne_of_lt this
  refine ⟨Nat.zero_le _, _, _, g1, _, O1.at_, ?_⟩
  refine forL_at pvp (fun a c v s => a ++ c = lgo [] b ∧ ∃ y z w, v = [some (.bytes b), some (.ref σ.length), y, z, w] ∧ Own1 σ σ.length ((a.map qrow).map .bytes) s ∧ s[n]? = some (.lst ((lgo [] b).map pvp))) (fun a b v s h => by obtain ⟨_, _, _, _, _, _, h⟩ := h; exact h) ?_ ?_ _ [] _ _ ⟨rfl, none, none, none, rfl, (Own1.new (List.prefix_refl _) []).grow O1.pre, O1.at_⟩
  · rintro a p c _ s ⟨hab, y, z, w, rfl, hO, hs⟩ R hR _ _ _
    have hal : a.length ≤ 30000 := by have := congrArg List.length hab; rw [List.length_append, List.length_cons] at this; lia
    have hpl : p.1.length + p.2.length ≤ b.length := by
      rw [← hsum]
      exact mem_le_sum (List.mem_map.mpr ⟨p, by rw [← hab]; simp, rfl⟩)
    have hk := stripped_len p.1 [32, 9]
    have fin : ∀ (q : List UInt8) (s' : Sto) y z w, q = qrow p → s <+: s' → R.nx [some (.bytes b), some (.ref σ.length), y, z, w] (s'.set σ.length (.lst ((a.map qrow).map .bytes ++ [.bytes q]))) := fun q s' y z w hq hs' =>
      hR _ _ ⟨by rw [← hab, List.append_assoc]; rfl, _, _, _, rfl, by refine rwr hq ?_; have := (hO.grow hs').set (l' := ((a ++ [p]).map qrow).map .bytes); simpa using this, set_other (pre_at hs' hs) hne⟩
    have hLl : ((a.map qrow).map PV.bytes).length ≤ 16777216 := by rw [List.length_map, List.length_map]; lia
    refine ⟨rfl, _, _, mf_of mth_rstrip isT_bytes (rstrip_b (by lia)), ?_⟩
    generalize hkk : stripped p.1 [32, 9] = k at hk
    refine (ex2 (p := some (-1)) (s := none) ⟨rfl, rfl⟩ ?_)
    refine ⟨by lia, _, H.EQUALS, short1, _, _, H.bytes_l (b := [61]) (at_app _ _ _) short1, ?_⟩
    have hO2 := hO.grow (pre_app s [.lst [.int 61]])
    refine bsel_of (fun h => ?_) fun h => ?_
    · conv => whnf
      refine (ex2 (H.len_b (by lia)) ?_)
      have hk1 : 1 ≤ k.length := by
        rcases Nat.eq_zero_or_pos k.length with e | e
        · rw [List.length_eq_zero_iff.mp e] at h; exact ff h
        · exact e
      refine (ex2 (p := none) (s := some ((k.length - 1 : Nat) : Int)) ⟨rfl, by show PV.int _ = PV.int _; congr 1; lia⟩ ?_)
      conv => whnf
      rw [cut_n]
      obtain ⟨s3, g3, p3⟩ := t86 (d := d) (σ := s ++ [.lst [.int 61]]) H (b := k.take (k.length - 1)) (by rw [List.length_take]; lia)
      refine ⟨by lia, _, _, g3, _, _, mf_append hO2.at_ (hO2.grow p3).at_ hLl, fin _ _ _ _ _ ?_ ((pre_app _ _).trans p3)⟩
      unfold qrow; refine rwr hkk ?_; rw [if_pos (show ends61 k = true from h)]
    · conv => whnf
      obtain ⟨s3, g3, p3⟩ := t86 (d := d) (σ := s ++ [.lst [.int 61]]) H (b := k) (by lia)
      have := unq_len _ k (Nat.le_refl _)
      refine (ex2 g3 ?_)
      refine ⟨by lia, _, _, mf_append hO2.at_ (hO2.grow p3).at_ hLl, fin _ _ _ _ _ ?_ ((pre_app _ _).trans p3)⟩
      unfold qrow; refine rwr hkk ?_; rw [if_neg (by refine rwr (show ends61 k = false from h) ?_; decide)]
  · rintro a _ s ⟨hab, y, z, w, rfl, hO, hs⟩
    rw [List.append_nil] at hab
    subst hab
    have := qrows_sum (lgo [] b)
    exact (ex2 (mf_of mth_join isT_bytes (join_b hO.at_ (by show _ + 0 * _ ≤ _; lia))) ⟨by rw [joinB_nil]; rfl, hO.pre⟩)
end
noncomputable section
noncomputable def n106 : List Str := ["script"]
noncomputable def c106 : CS := (.ret (.lst (.cons (.comp .one ["cell"] [] (.bin .Mod (.call "abs" (.call "int" (.var 0) .nil) .nil) (.bin .Pow (.int 10) (.int 60))) (.slc true (.var 0) .onone (.osome (.int 30))) .yes) (.cons (.int 0) (.cons (.int 0) .nil)))))
noncomputable def n107 : List Str := ["pen", "many", "cells", "spot", "turn", "worth"]
noncomputable def c107 : CS := (.assignl [2, 3, 4] (.var 0)
  (.ite (.tcmp .Lt (.var 3) (.call "len" (.var 2) .nil))
  (.assign 5 (.idx (.var 2) (.var 3))
  (.seti (.var 2) (.var 3) (.bin .FloorDiv (.var 5) (.var 1))
  (.seti (.var 0) (.int 1) (.bin .Add (.var 3) (.ite (.tcmp .Lt (.var 5) (.var 1)) (.int 1) (.int 0)))
  (.ret (.bin .Mod (.var 5) (.var 1))))))
  .done
  (.seti (.var 0) (.int 2) (.bin .Add (.var 4) (.int 1))
  (.ret (.bin .Mod (.bin .Mod (.bin .Add (.bin .Add (.bin .Mult (.bin .Mult (.int 37) (.var 4)) (.var 4)) (.bin .Mult (.int 11) (.var 4))) (.int 5)) (.int 10007)) (.var 1))))))
noncomputable def n108 : List Str := ["pen", "found", "lap", "unit"]
noncomputable def c108 : CS := (.assign 1 (.byt [])
  (.for_ .one [2] (.call "range" (.bin .Add (.int 1) (.call "_law_drawn" (.var 0) (.cons (.int 4) .nil))) .nil)
  (.assign 3 (.idx (.glb "_law_units") (.call "_law_drawn" (.var 0) (.cons (.int 14) .nil)))
  (.ite (.tcmp .Eq (.var 3) (.byt []))
  (.assign 3 (.call "bytes" (.lst (.cons (.call "_law_drawn" (.var 0) (.cons (.int 256) .nil)) .nil)) .nil)
  .done)
  .done
  (.ite (.tcmp .Eq (.call "_law_drawn" (.var 0) (.cons (.int 3) .nil)) (.int 0))
  (.assign 1 (.bin .Add (.var 1) (.bin .Mult (.var 3) (.bin .Add (.int 1) (.call "_law_drawn" (.var 0) (.cons (.int 40) .nil)))))
  .done)
  (.assign 1 (.bin .Add (.var 1) (.bin .Mult (.var 3) (.idx (.glb "_law_counts") (.call "_law_drawn" (.var 0) (.cons (.int 15) .nil)))))
  .done)
  .done)))
  (.ret (.slc true (.var 1) .onone (.osome (.int 100))))))
noncomputable def PenAt (σ : Sto) (n c t : Nat) : Prop := n ≠ c ∧ ∃ (l : List Int) (s u : Nat), σ[n]? = some (.lst [.ref c, .int s, .int u]) ∧ σ[c]? = some (.lst (l.map .int)) ∧ l.length ≤ 30 ∧ u ≤ t
variable {X : Stat} {d : Nat} {σ : Sto}
theorem k106 : (decide (dName 106 = "_law_pen") && fits (dNs 106) (dScope 106) (dBody 106) 1 0 c106 n106) = true := by decide +kernel
theorem t106 (H : PF X) {l : List Int} {v : Value} (hc : ∀ d σ, Cut X d σ true (.stat v) none (some ((30 : Nat) : Int)) (.ref σ.length) (σ ++ [.lst ((l.take 30).map .int)])) : ∃ p c σ', CF X (d + 1) σ "_law_pen" [.stat v] (.ref p) σ' ∧ PenAt σ' p c 0 := by
  suffices h : ∃ r σ', CF X (d + 1) σ "_law_pen" [.stat v] r σ' ∧ (∃ p c, r = .ref p ∧ PenAt σ' p c 0) by
    obtain ⟨_, s, g, p, c, rfl, h⟩ := h; exact ⟨p, c, s, g, h⟩
  apply cx_wp 106 1 0 c106 n106 H.ok (H.fn 106 (by decide)) rfl rfl k106
  refine (ex2 (p := none) (s := some ((30 : Nat) : Int)) ⟨rfl, rfl⟩ ?_)
  refine (ex2 (hc _ _) ⟨_, at_app _ _ _, ?_⟩)
  refine compL_map (fun i : Int => .int i) (fun i : Int => .int ((if i < 0 then -i else i).fmod (10 ^ 60))) (at_app _ _ _) _ (fun _ _ R h => h) ?_ _ ?_
  · intro i _ R hR
    refine ⟨_, _, ⟨_, H.int, .ty _, int_i⟩, _, _, ⟨_, H.abs, .bi _, abs_i⟩, ⟨by decide, by decide +kernel⟩, by decide, hR⟩
  · refine ⟨by rw [List.nil_append, List.length_map, List.length_take]; lia, short3, _, _, rfl, by simp, (l.take 30).map fun i => (if i < 0 then -i else i).fmod (10 ^ 60), 0, 0, at_app _ _ _, ?_, by rw [List.length_map, List.length_take]; lia, Nat.le_refl _⟩
    rw [List.nil_append, List.map_map]
    exact pre_at (pre_app _ _) (at_app _ _ _)
theorem k107 : (decide (dName 107 = "_law_drawn") && fits (dNs 107) (dScope 107) (dBody 107) 2 0 c107 n107) = true := by decide +kernel
theorem t107 (H : PF X) {n c t m : Nat} (hp : PenAt σ n c t) (hm : 0 < m ∧ m ≤ 1000) (ht : t ≤ 1000) : ∃ (r : Nat) (σ' : Sto), CF X (d + 1) σ "_law_drawn" [.ref n, .int m] (.int r) σ' ∧ r < m ∧ PenAt σ' n c (t + 1) := by
  suffices h : ∃ r σ', CF X (d + 1) σ "_law_drawn" [.ref n, .int m] r σ' ∧ (∃ q : Nat, r = .int q ∧ q < m ∧ PenAt σ' n c (t + 1)) by
    obtain ⟨_, s, g, q, rfl, h⟩ := h; exact ⟨q, s, g, h⟩
  apply cx_wp 107 2 0 c107 n107 H.ok (H.fn 107 (by decide)) rfl rfl k107
  obtain ⟨hne, l, s, u, h1, h2, hl, hu⟩ := hp
  have fm : ∀ a : Int, ∃ q : Nat, PV.int (a.fmod m) = .int q ∧ q < m := fun a => by
    have e1 := Int.fmod_eq_emod_of_nonneg a (b := (m : Int)) (by lia)
    have e2 := Int.emod_nonneg a (b := (m : Int)) (by lia)
    have e3 := Int.emod_lt_of_pos a (b := (m : Int)) (by lia)
    exact ⟨(a.fmod m).toNat, by rw [Int.toNat_of_nonneg (by lia)], by lia⟩
  have hc1 : c < σ.length := (List.getElem?_eq_some_iff.mp h2).1
  have hn1 : n < σ.length := (List.getElem?_eq_some_iff.mp h1).1
  have lm : (l.map PV.int).length = l.length := List.length_map _
  refine (ex1 ⟨h1, rfl⟩ ?_)
  refine (ex2 (H.len_l h2 (by lia)) ?_)
  refine rwr lm ?_
  refine bsel_of (fun h => ?_) fun h => ?_
  · have h := of_decide_eq_true h
    have hs : s < l.length := by lia
    have hg : (l.map PV.int)[((s : Nat) : Int).toNat]? = some (.int (l.getD s 0)) := by rw [List.getElem?_map, getD_int (z := 0) hs]; rfl
    generalize l.getD s 0 = w at hg
    refine (ex2 (itm_l h2 (by lia) hg (by lia)) ⟨⟨by lia, by lia⟩, _, ⟨h2, by lia, by lia, by lia⟩, ?_⟩)
    have e1 : (l.map PV.int).set ((s : Nat) : Int).toNat (.int (w.fdiv m)) = (l.set s (w.fdiv m)).map .int := by rw [Int.toNat_natCast, List.map_set]
    have fin : ∀ j : Nat, (∃ q : Nat, PV.int (w.fmod m) = .int q ∧ q < m ∧ PenAt ((σ.set c (.lst ((l.map PV.int).set ((s : Nat) : Int).toNat (.int (w.fdiv m))))).set n (.lst [.ref c, .int ((s : Int) + j), .int u])) n c (t + 1)) := fun j => by
      obtain ⟨q, hq, hlt⟩ := fm w
      refine ⟨q, hq, hlt, hne, l.set s (w.fdiv m), s + j, u, ?_, ?_, by rw [List.length_set]; exact hl, by lia⟩
      · rw [List.getElem?_set_self (by rw [List.length_set]; exact hn1)]; rfl
      · refine rwr e1 ?_; exact set_other (List.getElem?_set_self hc1) hne
    refine bsel_of (fun h5 => ⟨_, ⟨set_other h1 (Ne.symm hne), by decide, by show (1 : Int) < 3; decide, short3⟩, by lia, fin 1⟩) fun h5 => ⟨_, ⟨set_other h1 (Ne.symm hne), by decide, by show (1 : Int) < 3; decide, short3⟩, by lia, fin 0⟩
  · conv => whnf
    refine ⟨_, ⟨h1, by decide, by show (2 : Int) < 3; decide, short3⟩, IntMulOk.of_left (by decide), IntMulOk.of_right (intBits_le_64 (by lia) (by lia)), IntMulOk.of_left (by decide), by decide, by lia, ?_⟩
    obtain ⟨q, hq, hlt⟩ := fm ((37 * (u : Int) * u + 11 * u + 5).fmod 10007)
    exact ⟨q, hq, hlt, hne, l, s, u + 1, by rw [List.getElem?_set_self hn1]; rfl, set_other h2 hne, hl, by lia⟩
theorem PenAt.mono {n c t t' : Nat} (h : PenAt σ n c t) (ht : t ≤ t') : PenAt σ n c t' := let ⟨a, l, s, u, h1, h2, h3, h4⟩ := h; ⟨a, l, s, u, h1, h2, h3, Nat.le_trans h4 ht⟩
theorem PenAt.grow {n c t : Nat} {σ' : Sto} (h : PenAt σ n c t) (hs : σ <+: σ') : PenAt σ' n c t := let ⟨a, l, s, u, h1, h2, h3, h4⟩ := h; ⟨a, l, s, u, pre_at hs h1, pre_at hs h2, h3, h4⟩
theorem rep_len {a : List UInt8} {k : Nat} : (List.replicate k a).flatten.length = k * a.length := by
  rw [List.length_flatten, List.map_replicate, List.sum_replicate_nat]
theorem counts_at {r : Nat} (h : r < 15) : ∃ k : Nat, (counts.map PV.int)[((r : Nat) : Int).toNat]? = some (.int k) ∧ k ≤ 77 := by
  rw [Int.toNat_natCast]
  have : ∀ r : Fin 15, ∃ k : Fin 78, counts[r.val]? = some (k.val : Int) := by decide
  obtain ⟨k, hk⟩ := this ⟨r, h⟩
  exact ⟨k.val, by rw [List.getElem?_map, hk]; rfl, Nat.le_of_lt_succ k.isLt⟩
theorem units_at {r : Nat} (h : r < 14) : ∃ u : List UInt8, (units.map PV.bytes)[((r : Nat) : Int).toNat]? = some (.bytes u) ∧ u.length ≤ 2 := by
  rw [Int.toNat_natCast]
  have : ∀ r : Fin 14, (units.getD r.val []).length ≤ 2 := by decide
  exact ⟨units.getD r [], by rw [List.getElem?_map, getD_at (z := []) (show r < units.length from h)]; rfl, this ⟨r, h⟩⟩
theorem k108 : (decide (dName 108 = "_law_body") && fits (dNs 108) (dScope 108) (dBody 108) 1 0 c108 n108) = true := by decide +kernel
inductive I108 (n c t : Nat) (a : List Nat) : Vs → Sto → Prop
  | mk {f : List UInt8} {z w : Option PV} {s : Sto} (hf : f.length ≤ 160 * a.length) (hP : PenAt s n c (t + 1 + 4 * a.length)) : I108 n c t a [some (.ref n), some (.bytes f), z, w] s
theorem t108 (H : PF X) {n c t : Nat} (hp : PenAt σ n c t) (ht : t ≤ 100) : ∃ (b : List UInt8) (σ' : Sto), CF X (d + 2) σ "_law_body" [.ref n] (.bytes b) σ' ∧ b.length ≤ 100 := by
  suffices h : ∃ r σ', CF X (d + 2) σ "_law_body" [.ref n] r σ' ∧ (∃ b : List UInt8, r = .bytes b ∧ b.length ≤ 100) by
    obtain ⟨_, s, g, b, rfl, h⟩ := h; exact ⟨b, s, g, h⟩
  apply cx_wp 108 1 0 c108 n108 H.ok (H.fn 108 (by decide)) rfl rfl k108
  obtain ⟨r0, s0, g0, h0, p0⟩ := t107 (d := d) (m := 4) H hp ⟨by decide, by decide⟩ (by lia)
  refine (ex2 g0 ⟨_, _, by have := H.range1 (X := X) (d := d + 1) (σ := s0) (n := 1 + r0) (by lia); simpa using this, ?_⟩)
  conv => whnf
  rw [rng1]
  refine forL_ab (fun i : Nat => .int (i : Int)) (List.range (1 + r0)) (I108 n c t) (fun _ _ _ _ => trivial) ?_ ?_ _ _ (.mk (f := []) (Nat.le_refl _) p0)
  · rintro a i b hab _ s @⟨f, z, w, _, hf, hP⟩ R hR _ _
    have hal : a.length + 1 ≤ 4 := by have := congrArg List.length hab; rw [List.length_append, List.length_cons, List.length_range] at this; lia
    obtain ⟨r1, s1, g1, h1, p1⟩ := t107 (d := d) (m := 14) H hP ⟨by decide, by decide⟩ (by lia)
    obtain ⟨u, hu, hu2⟩ := units_at h1
    have fin : ∀ (f' : List UInt8) (s' : Sto) z w, f'.length ≤ f.length + 160 → PenAt s' n c (t + 1 + 4 * a.length + 4) → R.nx [some (.ref n), some (.bytes f'), z, w] s' := fun f' s' z w h h' => hR (.mk (by rw [List.length_append]; show _ ≤ 160 * (_ + 1); lia) (by rw [List.length_append]; exact h'))
    have go : ∀ (u : List UInt8) (s' : Sto) z, u ≠ [] → u.length ≤ 2 → PenAt s' n c (t + 1 + 4 * a.length + 2) → wpS X (d + 1) (.ite (.tcmp .Eq (.call "_law_drawn" (.var 0) (.cons (.int 3) .nil)) (.int 0))
        (.assign 1 (.bin .Add (.var 1) (.bin .Mult (.var 3) (.bin .Add (.int 1) (.call "_law_drawn" (.var 0) (.cons (.int 40) .nil))))) .done)
        (.assign 1 (.bin .Add (.var 1) (.bin .Mult (.var 3) (.idx (.glb "_law_counts") (.call "_law_drawn" (.var 0) (.cons (.int 15) .nil))))) .done) .done) [some (.ref n), some (.bytes f), z, some (.bytes u)] s' R := by
      intro u s' z hne hu2 hp'
      obtain ⟨r3, s3, g3, h3, p3⟩ := t107 (d := d) (m := 3) H hp' ⟨by decide, by decide⟩ (by lia)
      refine (ex2 g3 ?_)
      refine bsel_of (fun _ => ?_) fun _ => ?_
      · obtain ⟨r4, s4, g4, h4, p4⟩ := t107 (d := d) (m := 40) H p3 ⟨by decide, by decide⟩ (by lia)
        refine (ex2 g4 ?_)
        have e : (1 + (r4 : Int)).toNat = 1 + r4 := by lia
        have hz := rep_len (a := u) (k := 1 + r4)
        have := Nat.mul_le_mul (show 1 + r4 ≤ 40 by lia) hu2
        conv => whnf
        refine rwr e ?_
        exact ⟨⟨hne, by lia, by lia, by lia⟩, by lia, fin _ _ _ _ (by rw [List.length_append]; lia) p4⟩
      · obtain ⟨r4, s4, g4, h4, p4⟩ := t107 (d := d) (m := 15) H p3 ⟨by decide, by decide⟩ (by lia)
        obtain ⟨k, hk, hk2⟩ := counts_at h4
        refine (ex1 H.counts ⟨_, _, g4, _, ⟨by lia, hk, by decide⟩, ?_⟩)
        have hz := rep_len (a := u) (k := k)
        have := Nat.mul_le_mul hk2 hu2
        conv => whnf
        rw [Int.toNat_natCast]
        exact ⟨⟨hne, by lia, by lia, by lia⟩, by lia, fin _ _ _ _ (by rw [List.length_append]; lia) p4⟩
    conv => whnf
    refine ⟨_, H.units, _, _, g1, _, ⟨by lia, hu, by decide⟩, ?_⟩
    conv => whnf
    refine bsel_of (fun h => ?_) fun h => go u s1 _ (fun e => by rw [e] at h; cases h) hu2 (p1.mono (by lia))
    obtain ⟨r2, s2, g2, h2, p2⟩ := t107 (d := d) (m := 256) H p1 ⟨by decide, by decide⟩ (by lia)
    conv => whnf
    have e0 : ((r2.toUInt8).toNat : Int) = r2 := by simp; lia
    have e : [PV.int (r2 : Int)] = ([r2.toUInt8]).map fun c => .int (c.toNat : Int) := by
      show [PV.int (r2 : Int)] = [PV.int ((r2.toUInt8).toNat : Int)]
      rw [e0]
    refine ⟨_, _, g2, short1, _, _, H.bytes_l (b := [r2.toUInt8]) (by rw [at_app, e]) short1, go [r2.toUInt8] _ _ (List.cons_ne_nil _ _) (by show 1 ≤ 2; decide) (p2.grow (pre_app _ _))⟩
  · rintro _ s @⟨f, z, w, _, hf, hP⟩
    rw [List.length_range] at hf
    conv => whnf
    refine ⟨none, some ((100 : Nat) : Int), ⟨rfl, rfl⟩, ?_⟩
    conv => whnf
    rw [cut_n]
    exact ⟨by lia, _, rfl, List.length_take_le _ _⟩
end
noncomputable section
noncomputable def n109 : List Str := ["octets", "signs", "begin", "three", "worth", "four"]
noncomputable def c109 : CS := (.assign 1 (.str [])
  (.for_ .one [2] (.call "range" (.int 0) (.cons (.call "len" (.var 0) .nil) (.cons (.int 3) .nil)))
  (.assign 3 (.slc true (.var 0) (.osome (.var 2)) (.osome (.bin .Add (.var 2) (.int 3))))
  (.assign 4 (.call "sum" (.comp .enum ["at", "code"] [] (.bin .Mult (.var 1) (.bin .Pow (.int 256) (.bin .Sub (.int 2) (.var 0)))) (.var 3) .yes) .nil)
  (.assign 5 (.meth (.str []) "join" (.comp .one ["at"] [4] (.idx (.glb "_law_signs") (.bin .Mod (.bin .FloorDiv (.var 0) (.bin .Pow (.int 64) (.bin .Sub (.int 3) (.var 1)))) (.int 64))) (.call "range" (.int 4) .nil) .yes) .nil)
  (.assign 1 (.bin .Add (.bin .Add (.var 1) (.slc true (.var 5) .onone (.osome (.bin .Add (.call "len" (.var 3) .nil) (.int 1))))) (.bin .Mult (.str [61]) (.bin .Sub (.int 3) (.call "len" (.var 3) .nil))))
  .done))))
  (.ret (.var 1))))
noncomputable def n110 : List Str := ["octets"]
noncomputable def c110 : CS := (.ret (.meth (.meth (.str [13, 10]) "join" (.comp .one ["at"] [0] (.call "_law_spelled" (.slc true (.var 0) (.osome (.var 1)) (.osome (.bin .Add (.var 1) (.int 57)))) .nil) (.call "range" (.int 0) (.cons (.call "len" (.var 0) .nil) (.cons (.int 57) .nil))) .yes) .nil) "encode" (.str [97, 115, 99, 105, 105]) .nil))
noncomputable def worth3 (x : List UInt8) : Nat := (x.zipIdx.map fun z => z.1.toNat * 256 ^ (2 - z.2)).sum
noncomputable def four (w : Nat) : List Nat := (List.range 4).map fun i => (signs.getD (w / 64 ^ (3 - i) % 64) 0).toNat
noncomputable def spell3 (x : List UInt8) : List Nat := (four (worth3 x)).take (x.length + 1) ++ List.replicate (3 - x.length) 61
noncomputable def spelled (o : List UInt8) : List Nat := ((rowsW 3 o).map spell3).flatten
noncomputable def lb64 (o : List UInt8) : List UInt8 := (joinB [13, 10] ((rowsW 57 o).map spelled)).map (·.toUInt8)
theorem spell3_len (x : List UInt8) : (spell3 x).length ≤ 7 := by
  unfold spell3 four
  rw [List.length_append, List.length_replicate, List.length_take, List.length_map, List.length_range]; lia
theorem sum_cast {α : Type} (f : α → Nat) (l : List α) : (l.map fun z => ((f z : Nat) : Int)).sum = (((l.map f).sum : Nat) : Int) := by
  induction l with
  | nil => rfl
  | cons x l ih => rw [List.map_cons, List.map_cons, List.sum_cons, List.sum_cons, ih, Int.natCast_add]
variable {X : Stat} {d : Nat} {σ : Sto}
theorem k109 : (decide (dName 109 = "_law_spelled") && fits (dNs 109) (dScope 109) (dBody 109) 1 0 c109 n109) = true := by decide +kernel
inductive I109 (o : List UInt8) (σ : Sto) (f : List Nat) : Vs → Sto → Prop
  | mk {y z w u : Option PV} {s : Sto} (hs : σ <+: s) : I109 o σ f [some (.bytes o), some (.str f), y, z, w, u] s
theorem t109 (H : PF X) {o : List UInt8} (ho : o.length ≤ 100) : CP X (d + 1) σ "_law_spelled" [.bytes o] (.str (spelled o)) := by
  apply cp_wp 109 1 0 c109 n109 H.ok (H.fn 109 (by decide)) rfl rfl k109
  refine (ex2 (H.len_b (by lia)) (ex2 (H.range3 (c := 3) (by lia) (by decide) (by decide)) ?_))
  conv => whnf
  rw [rng3]
  refine forL_ab (fun i : Nat => .int ((3 * i : Nat) : Int)) (List.range ((o.length + 3 - 1) / 3)) (fun a => I109 o σ (a.map fun i => spell3 ((o.drop (3 * i)).take 3)).flatten) (fun _ _ _ _ => trivial) ?_ ?_ _ _ (.mk (List.prefix_refl _))
  · rintro a i b hab _ s @⟨y, z, w, u, _, hs⟩ R hR _ _
    have hal : a.length ≤ o.length := by
      have := congrArg List.length hab
      rw [List.length_append, List.length_range] at this
      lia
    have hz := flatten_len (k := 7) (l := a.map fun i => spell3 ((o.drop (3 * i)).take 3)) fun x hx => by
      obtain ⟨y, _, rfl⟩ := List.mem_map.mp hx
      exact spell3_len _
    rw [List.length_map] at hz
    refine (ex2 (p := some ((3 * i : Nat) : Int)) (s := some ((3 * i + 3 : Nat) : Int)) ⟨rfl, rfl⟩ ?_)
    conv => whnf
    rw [cut_nn _ (by lia), show 3 * i + 3 - 3 * i = 3 by lia]
    have hx3 : ((o.drop (3 * i)).take 3).length ≤ 3 := List.length_take_le _ _
    have hap : ((a ++ [i]).map fun i => spell3 ((o.drop (3 * i)).take 3)).flatten = (a.map fun i => spell3 ((o.drop (3 * i)).take 3)).flatten ++ spell3 ((o.drop (3 * i)).take 3) := by simp
    generalize (o.drop (3 * i)).take 3 = x at hx3 hap
    refine ⟨by lia, H.enum, ?_⟩
    refine compL_map (fun z : UInt8 × Nat => .tup [.int (z.2 : Int), .int (z.1.toNat : Int)]) (fun z : UInt8 × Nat => .int ((z.1.toNat * 256 ^ (2 - z.2) : Nat) : Int)) trivial _ (fun _ _ R h => ⟨rfl, h⟩) ?_ _ ?_
    · intro z hz R hR
      have hlt : z.2 < 3 := by
        have := (List.mem_zipIdx hz).2.1
        lia
      have e : (2 - (z.2 : Int)).toNat = 2 - z.2 := by lia
      have hb : (Builtin.Int.intBits 256 : Int) = 9 := by decide +kernel
      refine ⟨rfl, ⟨by lia, by refine rwr hb ?_; lia⟩, ?_⟩
      refine rwr e ?_
      refine ⟨?_, ?_⟩
      · have : ∀ k : Fin 3, Builtin.Int.intBits ((256 : Int) ^ k.val) ≤ 64 := by decide +kernel
        exact IntMulOk.of_right (this ⟨2 - z.2, by lia⟩)
      · have e2 : ((z.1.toNat : Nat) : Int) * (256 : Int) ^ (2 - z.2) = ((z.1.toNat * 256 ^ (2 - z.2) : Nat) : Int) := by simp
        refine rwr e2 ?_; exact hR
    · rw [List.nil_append]
      have e1 : (x.zipIdx.map fun z : UInt8 × Nat => PV.int ((z.1.toNat * 256 ^ (2 - z.2) : Nat) : Int)) = (x.zipIdx.map fun z : UInt8 × Nat => ((z.1.toNat * 256 ^ (2 - z.2) : Nat) : Int)).map .int := by rw [List.map_map]; rfl
      refine rwr e1 ?_
      have hs2 := sum_l (X := X) (d := d) (σ := s ++ [.lst ((x.zipIdx.map fun z : UInt8 × Nat => ((z.1.toNat * 256 ^ (2 - z.2) : Nat) : Int)).map .int)]) (at_app _ _ _)
      rw [sum_cast fun z : UInt8 × Nat => z.1.toNat * 256 ^ (2 - z.2)] at hs2
      refine ⟨by rw [List.length_map, List.length_map, List.length_zipIdx]; lia, _, _, ⟨_, H.sum, .bi _, hs2⟩, ?_⟩
      refine (ex2 (H.range1 (n := 4) (by decide)) ?_)
      refine compL_map (fun i : Nat => .int (0 + (i : Int) * 1)) (fun i : Nat => .str [(signs.getD (worth3 x / 64 ^ (3 - i) % 64) 0).toNat]) trivial _ (fun _ _ R h => h) ?_ _ ?_
      · intro j hj R hR
        have hj := List.mem_range.mp hj
        have e : (3 - (0 + (j : Int) * 1)).toNat = 3 - j := by lia
        have hb : (Builtin.Int.intBits 64 : Int) = 7 := by decide +kernel
        refine (ex1 H.lsigns ⟨⟨by lia, by refine rwr hb ?_; lia⟩, ?_⟩)
        refine rwr e ?_
        have hp : ∀ k : Fin 4, (64 : Int) ^ k.val ≠ 0 ∧ ((64 : Int) ^ k.val).natAbs < 1073741824 := by decide
        refine ⟨hp ⟨3 - j, by lia⟩, ?_⟩
        have e2 : (((worth3 x : Nat) : Int).fdiv ((64 : Int) ^ (3 - j))).fmod 64 = ((worth3 x / 64 ^ (3 - j) % 64 : Nat) : Int) := by
          refine rwr (Int.fdiv_eq_ediv_of_nonneg _ (Int.le_of_lt (Int.pow_pos (by decide)))) ?_; refine rwr (Int.fmod_eq_emod_of_nonneg _ (by decide)) ?_
          simp
        refine ⟨by decide, ?_⟩
        have e3 : (((List.map (fun z : UInt8 × Nat => z.1.toNat * 256 ^ (2 - z.2)) x.zipIdx).sum : Nat) : Int) = ((worth3 x : Nat) : Int) := rfl
        refine rwr e3 ?_; refine rwr e2 ?_
        have hlt : worth3 x / 64 ^ (3 - j) % 64 < 64 := Nat.mod_lt _ (by decide)
        exact (ex1 ⟨by lia, by rw [Int.toNat_natCast, List.getElem?_map, getD_at (z := 0) (show _ < 64 from hlt)]; rfl, by decide⟩ hR)
      · rw [List.nil_append]
        have e4 : ((List.range 4).map fun i : Nat => PV.str [(signs.getD (worth3 x / 64 ^ (3 - i) % 64) 0).toNat]) = ((four (worth3 x)).map fun c => [c]).map .str := by unfold four; rw [List.map_map, List.map_map]; rfl
        have e5 : joinB [] ((four (worth3 x)).map fun c => [c]) = four (worth3 x) := by rw [joinB_nil]; induction four (worth3 x) with | nil => rfl | cons c l ih => rw [List.map_cons, List.flatten_cons, ih]; rfl
        refine rwr e4 ?_
        have hj := join_s (X := X) (d := d) (σ := s ++ [.lst ((x.zipIdx.map fun z : UInt8 × Nat => ((z.1.toNat * 256 ^ (2 - z.2) : Nat) : Int)).map .int)] ++ [.lst (((four (worth3 x)).map fun c => [c]).map .str)]) (sep := []) (at_app _ _ _) (by show 4 ≤ 16777216; decide)
        rw [e5] at hj
        have hfl : (four (worth3 x)).length = 4 := by unfold four; rw [List.length_map, List.length_range]
        refine ⟨by rw [List.length_map, List.length_map, hfl]; decide, _, _, mf_of mth_sjoin isT_str hj, ?_⟩
        refine (ex2 (H.len_b (by lia)) ?_)
        refine (ex2 (p := none) (s := some ((x.length + 1 : Nat) : Int)) ⟨rfl, rfl⟩ ?_)
        refine (ex2 (cut_s (by lia) (by lia)) ?_)
        rw [Int.toNat_natCast]
        refine ⟨by rw [List.length_take]; lia, _, _, H.len_b (by lia), ⟨by lia, by lia, by decide⟩, ?_⟩
        have e6 : (List.replicate (3 - (x.length : Int)).toNat [61]).flatten = List.replicate (3 - x.length) 61 := by
          rw [List.flatten_replicate_singleton, show (3 - (x.length : Int)).toNat = 3 - x.length by lia]
        refine rwr e6 ?_
        rw [hap, show spell3 x = (four (worth3 x)).take (x.length + 1) ++ List.replicate (3 - x.length) 61 from rfl, ← List.append_assoc] at hR
        refine ⟨by rw [List.length_append, List.length_take, List.length_replicate]; lia, hR (.mk ((hs.trans (pre_app _ _)).trans (pre_app _ _)))⟩
  · rintro _ s @⟨y, z, w, u, _, hs⟩
    refine ⟨?_, hs⟩
    unfold spelled rowsW
    rw [List.map_map]; rfl
theorem spelled_len {o : List UInt8} : (spelled o).length ≤ 7 * o.length := by
  unfold spelled
  refine Nat.le_trans (flatten_len (k := 7) fun x hx => ?_) (Nat.mul_le_mul_left _ (by rw [List.length_map]; exact rowsW_le (by decide)))
  obtain ⟨y, _, rfl⟩ := List.mem_map.mp hx
  exact spell3_len y
theorem signs_lt : ∀ i : Nat, (signs.getD i 0).toNat < 128 := fun i => by
  have h : ∀ c ∈ signs, c.toNat < 128 := by decide
  rw [List.getD_eq_getElem?_getD]
  cases e : signs[i]? with
  | none => decide
  | some c => exact h c (List.mem_of_getElem? e)
theorem spelled_lt {o : List UInt8} : ∀ c ∈ spelled o, c < 128 := fun c hc => by
  unfold spelled at hc
  obtain ⟨l, hl, hc⟩ := List.mem_flatten.mp hc
  obtain ⟨x, _, rfl⟩ := List.mem_map.mp hl
  unfold spell3 at hc
  rcases List.mem_append.mp hc with h | h
  · obtain ⟨i, _, rfl⟩ := List.mem_map.mp (List.mem_of_mem_take h)
    exact signs_lt _
  · rw [(List.mem_replicate.mp h).2]; decide
theorem joinB_lt {L : List (List Nat)} (h : ∀ l ∈ L, ∀ c ∈ l, c < 128) : ∀ c ∈ joinB [13, 10] L, c < 128 := by
  cases L with
  | nil => intro c hc; cases hc
  | cons x L =>
    intro c hc
    rw [joinB_cons] at hc
    rcases List.mem_append.mp hc with hc | hc
    · exact h x List.mem_cons_self c hc
    · obtain ⟨l, hl, hc⟩ := List.mem_flatten.mp hc
      obtain ⟨y, hy, rfl⟩ := List.mem_map.mp hl
      rcases List.mem_append.mp hc with hc | hc
      · have : ∀ c ∈ ([13, 10] : List Nat), c < 128 := by decide
        exact this c hc
      · exact h y (List.mem_cons_of_mem _ hy) c hc
theorem joinB_len2 {L : List (List Nat)} {k : Nat} (h : ∀ l ∈ L, l.length ≤ k) : (joinB [13, 10] L).length ≤ (k + 2) * L.length ∧ (L.map List.length).sum + ([13, 10] : List Nat).length * L.length ≤ (k + 2) * L.length := by
  have h1 := sum_len h
  have h2 := joinB_len [13, 10] L
  have e : ([13, 10] : List Nat).length = 2 := rfl
  rw [e] at h2 ⊢
  rw [Nat.add_mul]
  lia
theorem k110 : (decide (dName 110 = "_law_base64") && fits (dNs 110) (dScope 110) (dBody 110) 1 0 c110 n110) = true := by decide +kernel
theorem t110 (H : PF X) {o : List UInt8} (ho : o.length ≤ 100) : CP X (d + 2) σ "_law_base64" [.bytes o] (.bytes (lb64 o)) := by
  apply cp_wp 110 1 0 c110 n110 H.ok (H.fn 110 (by decide)) rfl rfl k110
  refine (ex2 (H.len_b (by lia)) ⟨_, _, H.range3 (c := 57) (by lia) (by decide) (by decide), ?_⟩)
  conv => whnf
  rw [rng3]
  have hrow : ∀ l ∈ (rowsW 57 o).map spelled, l.length ≤ 700 := fun l hl => by
    obtain ⟨x, hx, rfl⟩ := List.mem_map.mp hl
    have := spelled_len (o := x)
    have := rowsW_len x hx
    lia
  have hnum : ((rowsW 57 o).map spelled).length ≤ 100 := by rw [List.length_map]; exact Nat.le_trans (rowsW_le (by decide)) ho
  obtain ⟨b1, b2⟩ := joinB_len2 hrow
  have hlt : ∀ c ∈ joinB [13, 10] ((rowsW 57 o).map spelled), c < 128 := joinB_lt fun l hl => by
    obtain ⟨x, _, rfl⟩ := List.mem_map.mp hl
    exact spelled_lt
  refine compL_gr (fun i : Nat => .int ((57 * i : Nat) : Int)) (fun i : Nat => .str (spelled ((o.drop (57 * i)).take 57))) (fun s => σ <+: s) (fun _ _ => trivial) _ (fun _ _ _ _ R h => h) ?_ _ _ (List.prefix_refl _) ?_
  · intro i _ s hs R hR
    refine (ex2 (p := some ((57 * i : Nat) : Int)) (s := some ((57 * i + 57 : Nat) : Int)) ⟨rfl, rfl⟩ ?_)
    conv => whnf
    refine rwr (cut_nn _ (by lia)) ?_; refine rwr (show 57 * i + 57 - 57 * i = 57 by lia) ?_
    obtain ⟨s', g, p⟩ := t109 (d := d) (σ := s) H (o := (o.drop (57 * i)).take 57) (Nat.le_trans (List.length_take_le _ _) (by decide))
    exact ⟨by lia, _, _, g, hR _ (hs.trans p)⟩
  · intro s hs
    have e : (List.range ((o.length + 57 - 1) / 57)).map (fun i : Nat => PV.str (spelled ((o.drop (57 * i)).take 57))) = ((rowsW 57 o).map spelled).map .str := by unfold rowsW; rw [List.map_map, List.map_map]; rfl
    rw [List.nil_append, e]
    exact ⟨by rw [List.length_map]; lia, _, _, mf_of mth_sjoin isT_str (join_s (at_app _ _ _) (by lia)), _, _, mf_of mth_encode isT_str (encode_s hlt (by lia)), rfl, hs.trans (pre_app _ _)⟩
end
noncomputable section
noncomputable def n111 : List Str := ["code", "is_last"]
noncomputable def c111y : CS := (.ret (.call "chr" (.var 0) .nil))
noncomputable def c111n : CS := (.ret (.bin .Add (.bin .Add (.str [61]) (.idx (.str [48, 49, 50, 51, 52, 53, 54, 55, 56, 57, 65, 66, 67, 68, 69, 70]) (.bin .FloorDiv (.var 0) (.int 16)))) (.idx (.str [48, 49, 50, 51, 52, 53, 54, 55, 56, 57, 65, 66, 67, 68, 69, 70]) (.bin .Mod (.var 0) (.int 16)))))
noncomputable def c111 : CS := (.ite (.tall .Or (.chc .Or (.tall .And (.chc .And (.tcmp .In (.var 0) (.tup (.cons (.int 9) (.cons (.int 32) .nil)))) (.chc .And (.tnot (.tval (.var 1))) (.chn .And)))) (.chc .Or (.tall .And (.chc .And (.tcmp2 .LtE .LtE (.int 33) (.var 0) (.int 126)) (.chc .And (.tcmp .NotEq (.var 0) (.int 61)) (.chn .And)))) (.chn .Or))))
  c111y .done c111n)
noncomputable def nats (l : List UInt8) : List Nat := l.map (·.toNat)
variable {X : Stat} {d : Nat} {σ : Sto}
theorem k111 : (decide (dName 111 = "_law_piece") && fits (dNs 111) (dScope 111) (dBody 111) 2 0 c111 n111) = true := by decide +kernel
theorem t111 (H : PF X) {c : UInt8} {b : Bool} : CP X (d + 1) σ "_law_piece" [.int (c.toNat : Int), .bool b] (.str (nats (lpiece c b))) := by
  apply cp_wp 111 2 0 c111 n111 H.ok (H.fn 111 (by decide)) rfl rfl k111
  have hc := c.toNat_lt
  have hb : ∀ k : Nat, ((c.toNat : Int) == (k : Int)) = (c.toNat == k) := fun k => beq_cast _ _
  have yes : (plainQ c && !(whiteQ c && b)) = true → wpS X d c111y [some (.int (c.toNat : Int)), some (.bool b)] σ (backQ fun p s => p = .str (nats (lpiece c b)) ∧ σ <+: s) := fun h => by
    refine (ex2 ⟨_, H.chr, .bi _, chr_i (by lia) (by lia)⟩ ⟨?_, List.prefix_refl _⟩)
    unfold lpiece
    refine rwr (if_pos h) ?_; rw [Int.toNat_natCast]; rfl
  have no : (plainQ c && !(whiteQ c && b)) = false → wpS X d c111n [some (.int (c.toNat : Int)), some (.bool b)] σ (backQ fun p s => p = .str (nats (lpiece c b)) ∧ σ <+: s) := fun h => by
    have hf : ∀ i : Nat, i < 16 → ([48, 49, 50, 51, 52, 53, 54, 55, 56, 57, 65, 66, 67, 68, 69, 70] : List Nat)[((i : Nat) : Int).toNat]? = some (figs.getD i 0).toNat := fun i hi => by
      rw [Int.toNat_natCast]
      have : ∀ i : Fin 16, ([48, 49, 50, 51, 52, 53, 54, 55, 56, 57, 65, 66, 67, 68, 69, 70] : List Nat)[i.val]? = some (figs.getD i.val 0).toNat := by decide
      exact this ⟨i, hi⟩
    refine ⟨by decide, ?_⟩
    conv => whnf
    rw [fdiv16]
    refine (ex1 (p := (figs.getD (c.toNat / 16) 0).toNat) ⟨by lia, hf _ (by lia), by decide⟩ ⟨(by show 1 + 1 ≤ 16777216; decide), by decide, ?_⟩)
    conv => whnf
    rw [fmod16]
    refine (ex1 (p := (figs.getD (c.toNat % 16) 0).toNat) ⟨by lia, hf _ (by lia), by decide⟩ ⟨(by show 2 + 1 ≤ 16777216; decide), ?_, List.prefix_refl _⟩)
    unfold lpiece
    refine rwr h ?_; refine rwr (if_neg (by decide)) ?_; rfl
  have e1 : plainQ c = (whiteQ c || (decide ((33 : Int) ≤ c.toNat) && (decide ((c.toNat : Int) ≤ 126) && (c.toNat : Int) != 61))) := by
    unfold plainQ whiteQ
    rw [Bool.or_assoc, Bool.and_assoc, show decide (33 ≤ c.toNat) = decide ((33 : Int) ≤ c.toNat) from decide_eq_decide.mpr (by lia), show decide (c.toNat ≤ 126) = decide ((c.toNat : Int) ≤ 126) from decide_eq_decide.mpr (by lia),
      show (c.toNat != 61) = ((c.toNat : Int) != 61) by unfold bne; rw [← hb 61]; rfl]
  have e2 : ([9, 32] : List Int).any (· == (c.toNat : Int)) = whiteQ c := by
    unfold whiteQ
    rw [List.any_cons, List.any_cons, List.any_nil, Bool.or_false, ← hb 32, ← hb 9, Bool.or_comm, Bool.beq_comm (a := (9 : Int)), Bool.beq_comm (a := (32 : Int))]
    rfl
  have hT : decide ((33 : Int) ≤ c.toNat) = true → decide ((c.toNat : Int) ≤ 126) = true → ((c.toNat : Int) != 61) = true → (plainQ c && !(whiteQ c && b)) = true := fun h1 h2 h3 => by
    have hw : whiteQ c = false := by
      have := of_decide_eq_true h1
      unfold whiteQ
      refine rwr (show (c.toNat == 32) = false from beq_false_of_ne (by lia)) ?_; refine rwr (show (c.toNat == 9) = false from beq_false_of_ne (by lia)) ?_; rfl
    refine rwr e1 ?_; refine rwr hw ?_; refine rwr h1 ?_; refine rwr h2 ?_; refine rwr h3 ?_; rfl
  have hF : whiteQ c = false ∨ b = true → (decide ((33 : Int) ≤ c.toNat) && (decide ((c.toNat : Int) ≤ 126) && (c.toNat : Int) != 61)) = false → (plainQ c && !(whiteQ c && b)) = false := fun hw h => by
    refine rwr e1 ?_; refine rwr h ?_
    rcases hw with hw | hw
    · refine rwr hw ?_; rfl
    · refine rwr hw ?_; cases whiteQ c <;> rfl
  have rest : whiteQ c = false ∨ b = true → wpS X d (.ite (.tall .Or (.chc .Or (.tall .And (.chc .And (.tcmp2 .LtE .LtE (.int 33) (.var 0) (.int 126)) (.chc .And (.tcmp .NotEq (.var 0) (.int 61)) (.chn .And)))) (.chn .Or))) c111y .done c111n) [some (.int (c.toNat : Int)), some (.bool b)] σ (backQ fun p s => p = .str (nats (lpiece c b)) ∧ σ <+: s) := fun hw => by
    refine bsel_of (fun h1 => ?_) fun h1 => no (hF hw (by refine rwr h1 ?_; rfl))
    refine bsel_of (fun h2 => ?_) fun h2 => no (hF hw (by refine rwr h2 ?_; rw [Bool.false_and, Bool.and_false]))
    exact bsel_of (fun h3 => yes (hT h1 h2 h3)) fun h3 => no (hF hw (by refine rwr (show ((c.toNat : Int) != 61) = false from h3) ?_; rw [Bool.and_false, Bool.and_false]))
  refine ⟨short2, [9, 32], rfl, ?_⟩
  refine rwr e2 ?_
  refine bsel_of (fun h1 => ?_) fun h1 => rest (.inl h1)
  cases b with
  | true => exact rest (.inr rfl)
  | false => exact yes (by refine rwr e1 ?_; refine rwr h1 ?_; rfl)
end
noncomputable section
theorem item_lneg' {X : Stat} {d : Nat} {σ : Sto} {p : PV} {value slice : Expr} {n : Nat} {l : List PV} {i : Int} (hp : Plain slice) (hl : σ[n]? = some (.lst l)) (h0 : i < 0) (h1 : 0 ≤ i + l.length) (hc : l[(i + l.length).toNat]? = some p) (hz : l.length ≤ 1099511627776) : Op2 X d σ (subscriptTail value slice) (.ref n) (.int i) p σ := Op2.tok fun A s ι v u Q E g S R R' k => by
  cases R with
  | ref hn =>
    cases R'
    obtain ⟨vs, kk, e, Rl⟩ := S.lst n l hl
    have hil : (i + l.length).toNat < l.length := (List.getElem?_eq_some_iff.mp hc).1
    have hiv : (i + l.length).toNat < vs.length := Rl.1 ▸ hil
    have fin := k vs[(i + l.length).toNat] s.toks (Rl.2 _ _ _ hc (by simp [hiv]))
    have hsz : vs.toArray.size = l.length := by rw [Rl.1]; simp
    exact tail_any (Heap.IsList.typeIs (isList_of e)) list_getitem_lookup (wpAny_getItem_list_neg (isList_of e) h0 (by refine rwr hsz ?_; lia) (by lia) (x := vs[(i + l.length).toNat]) (by refine rwr hsz ?_; simp [hiv]) fin) (hp _ _)
noncomputable def n112 : List Str := ["line", "pieces", "sums", "rows", "behind", "piece", "lap", "later"]
noncomputable def c112r : CS := (.ret (.meth (.str [13, 10]) "join" (.bin .Add (.var 3) (.lst (.cons (.meth (.str []) "join" (.slc true (.var 1) (.osome (.var 4)) .onone) .nil) .nil))) .nil))
noncomputable def c112m : CS := (.assign 7 (.call "max" (.comp .one ["at"] [2, 4] (.var 2) (.call "range" (.bin .Add (.var 4) (.int 1)) (.cons (.call "len" (.var 2) .nil) .nil)) (.one (.tcmp .LtE (.bin .Sub (.idx (.var 0) (.var 2)) (.idx (.var 0) (.var 1))) (.int 75)))) .nil)
  (.expr (.meth (.var 3) "append" (.bin .Add (.meth (.str []) "join" (.slc true (.var 1) (.osome (.var 4)) (.osome (.var 7))) .nil) (.str [61])) .nil)
  (.assign 4 (.var 7)
  .done)))
noncomputable def c112 : CS := (.assignu 1 (.comp .enum ["at", "code"] [0] (.call "_law_piece" (.var 2) (.cons (.cmp .Eq (.var 1) (.bin .Sub (.call "len" (.var 0) .nil) (.int 1))) .nil)) (.var 0) .yes)
  (.assignt [2, 3, 4] (.tup (.cons (.lst (.cons (.int 0) .nil)) (.cons (.lst .nil) (.cons (.int 0) .nil))))
  (.for_ .one [5] (.var 1)
  (.expr (.meth (.var 2) "append" (.bin .Add (.idx (.var 2) (.un .USub (.int 1))) (.call "len" (.var 5) .nil)) .nil)
  .done)
  (.for_ .one [6] (.call "range" (.call "len" (.var 1) .nil) .nil)
  (.ite (.tcmp .LtE (.bin .Sub (.idx (.var 2) (.un .USub (.int 1))) (.idx (.var 2) (.var 4))) (.int 76))
  .brk
  .done c112m)
  c112r))))
noncomputable def tot (q : List (List Nat)) : Nat := (q.map List.length).sum
noncomputable def fitGo : Nat → List (List Nat) → Nat
  | _, [] => 0
  | a, p :: r => if a + p.length ≤ 75 then fitGo (a + p.length) r + 1 else 0
noncomputable def fit (q : List (List Nat)) : Nat := fitGo 0 q
noncomputable def lbr : Nat → List (List Nat) → List (List Nat)
  | 0, q => [q.flatten]
  | n + 1, q => if tot q ≤ 76 then [q.flatten] else ((q.take (fit q)).flatten ++ [61]) :: lbr n (q.drop (fit q))
theorem tot_cons (p : List Nat) (q : List (List Nat)) : tot (p :: q) = p.length + tot q := by unfold tot; rw [List.map_cons, List.sum_cons]
theorem tot_app (a b : List (List Nat)) : tot (a ++ b) = tot a + tot b := by unfold tot; rw [List.map_append, List.sum_append]
theorem tot_flat (q : List (List Nat)) : q.flatten.length = tot q := by rw [List.length_flatten]; rfl
theorem fitGo_ok (q : List (List Nat)) : ∀ a, fitGo a q ≤ q.length ∧ (a ≤ 75 → a + tot (q.take (fitGo a q)) ≤ 75) ∧ ∀ k, fitGo a q < k → k ≤ q.length → 75 < a + tot (q.take k) := by
  induction q with
  | nil => intro a; exact ⟨Nat.le_refl _, fun h => h, fun k h1 h2 => absurd h1 (by show ¬ 0 < k; have : k ≤ 0 := h2; lia)⟩
  | cons p q ih =>
    intro a
    unfold fitGo
    split
    · rename_i h
      obtain ⟨h1, h2, h3⟩ := ih (a + p.length)
      refine ⟨Nat.succ_le_succ h1, fun _ => ?_, fun k hk hl => ?_⟩
      · rw [List.take_succ_cons, tot_cons, ← Nat.add_assoc]; exact h2 h
      · cases k with
        | zero => lia
        | succ k => rw [List.take_succ_cons, tot_cons, ← Nat.add_assoc]; exact h3 k (by lia) (Nat.le_of_succ_le_succ hl)
    · rename_i h
      refine ⟨Nat.zero_le _, fun h => h, fun k hk hl => ?_⟩
      cases k with
      | zero => lia
      | succ k => rw [List.take_succ_cons, tot_cons]; lia
theorem fit_pos {p : List Nat} {q : List (List Nat)} (h : p.length ≤ 3) : 1 ≤ fit (p :: q) := by
  unfold fit fitGo
  refine rwr (if_pos (by lia)) ?_; lia
theorem lpieces_zip (l : List UInt8) : ∀ k n, n = k + l.length → (l.zipIdx k).map (fun z => lpiece z.1 ((z.2 : Int) == (n : Int) - 1)) = lpieces l := by
  induction l with
  | nil => intro k n _; rfl
  | cons c l ih =>
    intro k n h
    rw [List.zipIdx_cons, List.map_cons, ih (k + 1) n (by refine rwr h ?_; rw [List.length_cons]; lia)]
    have e : ((k : Int) == (n : Int) - 1) = l.isEmpty := by
      rw [Bool.eq_iff_iff, beq_iff_eq, List.isEmpty_iff, ← List.length_eq_zero_iff]
      rw [List.length_cons] at h; lia
    show lpiece c _ :: _ = _
    refine rwr e ?_; rfl
end
noncomputable section
variable {X : Stat} {d : Nat} {σ : Sto}
structure C112 (σ : Sto) (n : Nat) (P : List (List Nat)) (S : List Nat) (R : List (List Nat)) (s : Sto) : Prop where
  pre : σ <+: s
  le : σ.length ≤ n
  ps : s[n]? = some (.lst (P.map .str))
  su : s[n + 1]? = some (.lst (S.map fun i : Nat => .int (i : Int)))
  ro : s[n + 2]? = some (.lst (R.map .str))
theorem C112.setS {n : Nat} {P : List (List Nat)} {S S' : List Nat} {R : List (List Nat)} {s : Sto} (c : C112 σ n P S R s) : C112 σ n P S' R (s.set (n + 1) (.lst (S'.map fun i : Nat => .int (i : Int)))) :=
  ⟨pre_set c.pre (Nat.le_succ_of_le c.le), c.le, set_other c.ps (by lia), List.getElem?_set_self (List.getElem?_eq_some_iff.mp c.su).1, set_other c.ro (by lia)⟩
theorem C112.setR {n : Nat} {P : List (List Nat)} {S : List Nat} {R R' : List (List Nat)} {s : Sto} (c : C112 σ n P S R s) : C112 σ n P S R' (s.set (n + 2) (.lst (R'.map .str))) :=
  ⟨pre_set c.pre (Nat.le_add_right_of_le c.le), c.le, set_other c.ps (by lia), set_other c.su (by lia), List.getElem?_set_self (List.getElem?_eq_some_iff.mp c.ro).1⟩
theorem C112.grow {n : Nat} {P : List (List Nat)} {S : List Nat} {R : List (List Nat)} {s s' : Sto} (c : C112 σ n P S R s) (h : s <+: s') : C112 σ n P S R s' := ⟨c.pre.trans h, c.le, pre_at h c.ps, pre_at h c.su, pre_at h c.ro⟩
noncomputable def sumsTo (P : List (List Nat)) (k : Nat) : List Nat := (List.range (k + 1)).map fun i => tot (P.take i)
theorem sumsTo_at {P : List (List Nat)} {k i : Nat} (h : i ≤ k) : ((sumsTo P k).map fun i : Nat => PV.int (i : Int))[i]? = some (.int (tot (P.take i) : Nat)) := by
  unfold sumsTo
  rw [List.getElem?_map, List.getElem?_map, List.getElem?_range (by lia)]; rfl
theorem sumsTo_len {P : List (List Nat)} {k : Nat} : ((sumsTo P k).map fun i : Nat => PV.int (i : Int)).length = k + 1 := by unfold sumsTo; rw [List.length_map, List.length_map, List.length_range]
theorem sums_last {P : List (List Nat)} {k : Nat} {s : Sto} {m : Nat} (h : s[m]? = some (.lst ((sumsTo P k).map fun i : Nat => .int (i : Int)))) (hk : k ≤ 1000) : Itm X d s (.ref m) (.int (-1)) (.int (tot (P.take k) : Nat)) s := fun _ _ hp => by
  have hl := sumsTo_len (P := P) (k := k)
  refine item_lneg' hp h (by decide) (by rw [hl]; lia) ?_ (by refine rwr hl ?_; lia)
  refine rwr hl ?_; refine rwr (show (-1 + ((k + 1 : Nat) : Int)).toNat = k by lia) ?_
  exact sumsTo_at (Nat.le_refl _)
theorem sums_at {P : List (List Nat)} {k i : Nat} {s : Sto} {m : Nat} (h : s[m]? = some (.lst ((sumsTo P k).map fun i : Nat => .int (i : Int)))) (hk : k ≤ 1000) (hi : i ≤ k) : Itm X d s (.ref m) (.int (i : Int)) (.int (tot (P.take i) : Nat)) s :=
  itm_l h (by lia) (by rw [Int.toNat_natCast]; exact sumsTo_at hi) (by refine rwr sumsTo_len ?_; lia)
theorem tot_sub {P : List (List Nat)} {b k : Nat} : tot (P.take (b + k)) = tot (P.take b) + tot ((P.drop b).take k) := by
  rw [List.take_add, tot_app]
theorem tot_le {P : List (List Nat)} (h : ∀ p ∈ P, p.length ≤ 3) : tot P ≤ 3 * P.length := sum_len h
theorem m112 (H : PF X) {n : Nat} {P R : List (List Nat)} {s : Sto} {b : Nat} {ln z w y : Option PV} {Q : Out} (hP : ∀ p ∈ P, p.length ≤ 3) (hPl : P.length ≤ 100) (hR : R.length ≤ 100) (c : C112 σ n P (sumsTo P P.length) R s) (hb : b < P.length)
    (hQ : ∀ s' w, C112 σ n P (sumsTo P P.length) (R ++ [((P.drop b).take (fit (P.drop b))).flatten ++ [61]]) s' → Q.nx [ln, some (.ref n), some (.ref (n + 1)), some (.ref (n + 2)), some (.int ((b + fit (P.drop b) : Nat) : Int)), z, y, w] s') :
    wpS X d c112m [ln, some (.ref n), some (.ref (n + 1)), some (.ref (n + 2)), some (.int (b : Int)), z, y, w] s Q := by
  have hsl := sumsTo_len (P := P) (k := P.length)
  refine (ex2 (H.len_l c.su (by refine rwr hsl ?_; lia)) ?_)
  refine rwr hsl ?_
  have hr := H.range2 (X := X) (d := d) (σ := s) (a := b + 1) (b := P.length + 1) (by lia) (by lia)
  refine (ex2 hr ?_)
  refine rwr (show P.length + 1 - (b + 1) = P.length - b by lia) ?_
  conv => whnf
  rw [rng2]
  obtain ⟨f1, f2, f3⟩ : fit (P.drop b) ≤ (P.drop b).length ∧ (0 ≤ 75 → 0 + tot ((P.drop b).take (fit (P.drop b))) ≤ 75) ∧ ∀ k, fit (P.drop b) < k → k ≤ (P.drop b).length → 75 < 0 + tot ((P.drop b).take k) := fitGo_ok (P.drop b) 0
  have hd : P.drop b = P[b] :: P.drop (b + 1) := List.drop_eq_getElem_cons hb
  have fp : 1 ≤ fit (P.drop b) := by refine rwr hd ?_; exact fit_pos (hP _ (List.getElem_mem hb))
  have hdl : (P.drop b).length = P.length - b := List.length_drop
  rw [hdl] at f1 f3
  have f2 : tot ((P.drop b).take (fit (P.drop b))) ≤ 75 := by have := f2 (by decide); lia
  have f3 : ∀ k, fit (P.drop b) < k → k ≤ P.length - b → 75 < tot ((P.drop b).take k) := fun k h1 h2 => by have := f3 k h1 h2; lia
  refine compL_filter (fun i : Nat => .int ((b + 1 + i : Nat) : Int)) (fun i : Nat => decide (tot ((P.drop b).take (i + 1)) ≤ 75)) (fun i : Nat => .int ((b + 1 + i : Nat) : Int)) trivial _ ?_ (fun i hi _ Q h => h) _ ?_
  · intro i hi Q hq
    have hi := List.mem_range.mp hi
    refine (ex2 (sums_at c.su (by lia) (i := b + 1 + i) (by lia)) (ex2 (sums_at c.su (by lia) (i := b) (by lia)) ?_))
    have e : decide (((tot (P.take (b + 1 + i)) : Nat) : Int) - ((tot (P.take b) : Nat) : Int) ≤ 75) = decide (tot ((P.drop b).take (i + 1)) ≤ 75) := by
      refine rwr (show b + 1 + i = b + (i + 1) by lia) ?_; refine rwr tot_sub ?_
      exact decide_eq_decide.mpr (by lia)
    conv => whnf
    refine rwr e ?_; exact hq
  · have e1 : ((List.range (P.length - b)).filter fun i => decide (tot ((P.drop b).take (i + 1)) ≤ 75)).map (fun i : Nat => PV.int ((b + 1 + i : Nat) : Int)) = (((List.range (P.length - b)).filter fun i => decide (tot ((P.drop b).take (i + 1)) ≤ 75)).map fun i : Nat => ((b + 1 + i : Nat) : Int)).map .int := by rw [List.map_map]; rfl
    rw [List.nil_append, e1]
    have hM := max_l (X := X) (d := d) (σ := s ++ [.lst ((((List.range (P.length - b)).filter fun i => decide (tot ((P.drop b).take (i + 1)) ≤ 75)).map fun i : Nat => ((b + 1 + i : Nat) : Int)).map .int)]) (M := ((b + fit (P.drop b) : Nat) : Int)) (at_app _ _ _)
      (List.mem_map.mpr ⟨fit (P.drop b) - 1, List.mem_filter.mpr ⟨List.mem_range.mpr (by lia), by refine rwr (Nat.sub_add_cancel fp) ?_; exact decide_eq_true f2⟩, by lia⟩)
      (fun a ha => by
        obtain ⟨i, hi, rfl⟩ := List.mem_map.mp ha
        obtain ⟨hi, hc⟩ := List.mem_filter.mp hi
        have hi := List.mem_range.mp hi
        have hc := of_decide_eq_true hc
        rcases Nat.lt_or_ge (fit (P.drop b)) (i + 1) with h | h
        · have := f3 _ h (by lia); lia
        · lia)
    refine ⟨by rw [List.length_map, List.length_map]; exact Nat.le_trans (List.length_filter_le _ _) (by rw [List.length_range]; lia), _, _, ⟨_, H.max, .bi _, hM⟩, ?_⟩
    have c1 := c.grow (pre_app s [.lst ((((List.range (P.length - b)).filter fun i => decide (tot ((P.drop b).take (i + 1)) ≤ 75)).map fun i : Nat => ((b + 1 + i : Nat) : Int)).map .int)])
    generalize s ++ [Cell.lst ((((List.range (P.length - b)).filter fun i => decide (tot ((P.drop b).take (i + 1)) ≤ 75)).map fun i : Nat => ((b + 1 + i : Nat) : Int)).map .int)] = s1 at c1
    refine (ex2 (p := some (b : Int)) (s := some ((b + fit (P.drop b) : Nat) : Int)) ⟨rfl, rfl⟩ ?_)
    refine (ex2 (cut_l c1.ps (by rw [List.length_map]; lia)) ?_)
    refine rwr (cut_nn _ (Nat.le_add_right _ _)) ?_; rw [Nat.add_sub_cancel_left, ← List.map_drop, ← List.map_take]
    have hj := join_s (X := X) (d := d) (σ := s1 ++ [.lst (((P.drop b).take (fit (P.drop b))).map .str)]) (sep := []) (at_app _ _ _) (by show tot _ + 0 * _ ≤ _; lia)
    rw [joinB_nil] at hj
    refine (ex2 (mf_of mth_sjoin isT_str hj) ?_)
    have c2 := c1.grow (pre_app s1 [.lst (((P.drop b).take (fit (P.drop b))).map .str)])
    refine ⟨by rw [tot_flat]; show _ + 1 ≤ _; lia, _, _, mf_append c1.ro c2.ro (by rw [List.length_map]; lia), ?_⟩
    have c3 := c2.setR (R' := R ++ [((P.drop b).take (fit (P.drop b))).flatten ++ [61]])
    rw [List.map_append] at c3
    exact hQ _ _ c3
end
noncomputable section
variable {X : Stat} {d : Nat} {σ : Sto}
noncomputable def lrows (l : List UInt8) : List (List Nat) := lbr (lpieces l).length ((lpieces l).map nats)
theorem r112 (H : PF X) {n : Nat} {P R : List (List Nat)} {s : Sto} {b : Nat} {ln z w y : Option PV} (hP : ∀ p ∈ P, p.length ≤ 3) (hPl : P.length ≤ 100) (hR : R.length ≤ 100) (hRl : ∀ r ∈ R, r.length ≤ 300) (c : C112 σ n P (sumsTo P P.length) R s) (T : List (List Nat)) (hT : R ++ [(P.drop b).flatten] = T) :
    wpS X d c112r [ln, some (.ref n), some (.ref (n + 1)), some (.ref (n + 2)), some (.int (b : Int)), z, y, w] s (backQ fun p s => p = .str (joinB [13, 10] T) ∧ σ <+: s) := by
  subst hT
  have htd : tot (P.drop b) ≤ 300 := by
    have h1 := tot_le hP
    have h2 : tot P = tot (P.take b) + tot (P.drop b) := by rw [← tot_app, List.take_append_drop]
    lia
  refine (ex2 (p := some (b : Int)) (s := none) ⟨rfl, rfl⟩ ?_)
  refine (ex2 (cut_l c.ps (by rw [List.length_map]; lia)) ?_)
  rw [cut_a, ← List.map_drop]
  have hdl : (P.drop b).length ≤ 100 := by rw [List.length_drop]; lia
  have hj := join_s (X := X) (d := d) (σ := s ++ [.lst ((P.drop b).map .str)]) (sep := []) (at_app _ _ _) (by show tot _ + 0 * _ ≤ _; lia)
  rw [joinB_nil] at hj
  have c2 := c.grow (pre_app s [.lst ((P.drop b).map .str)])
  generalize s ++ [Cell.lst ((P.drop b).map .str)] = s1 at hj c2
  refine (ex2 (mf_of mth_sjoin isT_str hj) ⟨short1, ?_⟩)
  refine (ex2 ⟨pre_at (pre_app _ _) c2.ro, at_app _ _ _, by rw [List.length_map]; show _ + 1 ≤ _; lia⟩ ?_)
  have e : R.map PV.str ++ [PV.str (P.drop b).flatten] = (R ++ [(P.drop b).flatten]).map .str := by rw [List.map_append]; rfl
  refine rwr e ?_
  have hall : ∀ r ∈ R ++ [(P.drop b).flatten], r.length ≤ 300 := fun r hr => by
    rcases List.mem_append.mp hr with hr | hr
    · exact hRl r hr
    · rw [List.mem_singleton.mp hr, tot_flat]; exact htd
  have hb := (joinB_len2 hall).2
  have hn : (R ++ [(P.drop b).flatten]).length ≤ 101 := by rw [List.length_append]; show _ + 1 ≤ _; lia
  exact (ex2 (mf_of mth_sjoin isT_str (join_s (at_app _ _ _) (by lia))) ⟨rfl, (c2.pre.trans (pre_app _ _)).trans (pre_app _ _)⟩)
theorem k112 : (decide (dName 112 = "_law_broken") && fits (dNs 112) (dScope 112) (dBody 112) 1 0 c112 n112) = true := by decide +kernel
inductive J1 (l : List UInt8) (σ : Sto) (n : Nat) (P : List (List Nat)) (k : Nat) : Vs → Sto → Prop
  | mk {z w y : Option PV} {s : Sto} (c : C112 σ n P (sumsTo P k) [] s) : J1 l σ n P k [some (.bytes l), some (.ref n), some (.ref (n + 1)), some (.ref (n + 2)), some (.int ((0 : Nat) : Int)), z, w, y] s
theorem J1.ps {l : List UInt8} {σ : Sto} {n : Nat} {P : List (List Nat)} {k : Nat} {v : Vs} {s : Sto} (h : J1 l σ n P k v s) : s[n]? = some (.lst (P.map .str)) := by
  cases h with | mk c => exact c.ps
inductive J2 (l : List UInt8) (σ : Sto) (n : Nat) (a : List (List Nat)) (k : Nat) : Vs → Sto → Prop
  | mk {b : Nat} {R : List (List Nat)} {z w y : Option PV} {s : Sto} (hbl : b ≤ a.length) (c : C112 σ n a (sumsTo a a.length) R s) (hRu : R.length ≤ k) (hRl : ∀ r ∈ R, r.length ≤ 300) (hT : R ++ lbr (a.length - k) (a.drop b) = lbr a.length a) :
      J2 l σ n a k [some (.bytes l), some (.ref n), some (.ref (n + 1)), some (.ref (n + 2)), some (.int (b : Int)), z, w, y] s
theorem t112 (H : PF X) {l : List UInt8} (hl : l.length ≤ 100) : CP X (d + 2) σ "_law_broken" [.bytes l] (.str (joinB [13, 10] (lrows l))) := by
  apply cp_wp 112 1 0 c112 n112 H.ok (H.fn 112 (by decide)) rfl rfl k112
  have hP : ∀ p ∈ (lpieces l).map nats, p.length ≤ 3 := fun p hp => by
    obtain ⟨q, hq, rfl⟩ := List.mem_map.mp hp
    unfold nats; rw [List.length_map]; exact lpieces_len q hq
  have hPl : ((lpieces l).map nats).length = l.length := by rw [List.length_map, lpieces_num]
  have hlr : lrows l = lbr ((lpieces l).map nats).length ((lpieces l).map nats) := by unfold lrows; rw [List.length_map]
  refine rwr hlr ?_
  have hz : l.zipIdx.map (fun z => PV.str (nats (lpiece z.1 ((z.2 : Int) == (l.length : Int) - 1)))) = ((lpieces l).map nats).map .str := by
    rw [← lpieces_zip l 0 l.length (Nat.zero_add _).symm, List.map_map, List.map_map]; rfl
  generalize (lpieces l).map nats = P at hP hPl hz
  refine ⟨H.enum, ?_⟩
  refine compL_gr (fun z : UInt8 × Nat => .tup [.int (z.2 : Int), .int (z.1.toNat : Int)]) (fun z : UInt8 × Nat => .str (nats (lpiece z.1 ((z.2 : Int) == (l.length : Int) - 1)))) (fun s => σ <+: s) (fun _ _ => trivial) _ (fun _ _ _ _ R h => ⟨rfl, h⟩) ?_ _ _ (List.prefix_refl _) ?_
  · intro z _ s hs R hR
    obtain ⟨s', g, p⟩ := t111 (d := d) (σ := s) H (c := z.1) (b := (z.2 : Int) == (l.length : Int) - 1)
    exact ⟨rfl, _, _, H.len_b (by lia), _, _, g, hR _ (hs.trans p)⟩
  · intro s hs
    rw [List.nil_append, hz]
    have c0 : C112 σ s.length P (sumsTo P 0) [] (s ++ [.lst (P.map .str)] ++ [.lst [.int 0]] ++ [.lst []]) := by
      refine ⟨((hs.trans (pre_app _ _)).trans (pre_app _ _)).trans (pre_app _ _), pre_len hs, ?_, ?_, ?_⟩
      · exact pre_at (pre_app _ _) (pre_at (pre_app _ _) (at_app _ _ _))
      · refine pre_at (pre_app _ _) ?_
        have := at_app (s ++ [Cell.lst (P.map PV.str)]) (.lst [.int 0]) []
        rw [List.length_append] at this
        exact this
      · have := at_app (s ++ [Cell.lst (P.map PV.str)] ++ [.lst [.int 0]]) (.lst []) []
        rw [List.length_append, List.length_append] at this
        exact this
    refine ⟨by rw [List.length_map]; lia, short1, Nat.zero_le _, short3, rfl, ?_⟩
    have e1 : (s ++ [Cell.lst (P.map PV.str)]).length = s.length + 1 := by rw [List.length_append]; rfl
    have e2 : (s ++ [Cell.lst (P.map PV.str)] ++ [Cell.lst [PV.int 0]]).length = s.length + 2 := by rw [List.length_append, List.length_append]; rfl
    refine rwr e1 ?_; refine rwr e2 ?_
    refine (ex1 c0.ps ?_)
    refine forL_ab PV.str P (fun a => J1 l σ s.length P a.length) (fun _ _ _ h => h.ps) ?_ ?_ _ _ (.mk c0)
    · rintro a p c hab _ s1 @⟨z, w, y, _, c1⟩ R hR _ _
      have hal : a.length < P.length := by refine rwr (hab).symm ?_; rw [List.length_append, List.length_cons]; lia
      have hp := hP p (by refine rwr (hab).symm ?_; simp)
      refine (ex2 (sums_last c1.su (by lia)) (ex2 (H.len_s (by lia)) (ex2 (mf_append c1.su c1.su (by refine rwr sumsTo_len ?_; lia)) (hR (.mk ?_)))))
      have := c1.setS (S' := sumsTo P (a ++ [p]).length)
      have e3 : (sumsTo P (a ++ [p]).length).map (fun i : Nat => PV.int (i : Int)) = (sumsTo P a.length).map (fun i : Nat => PV.int (i : Int)) ++ [.int (((tot (P.take a.length) : Nat) : Int) + (p.length : Nat))] := by
        have e4 : tot (P.take (a.length + 1)) = tot (P.take a.length) + p.length := by
          refine rwr tot_sub ?_; refine rwr (hab).symm ?_; rw [List.drop_left]; show _ + tot [p] = _; unfold tot; simp
        unfold sumsTo
        rw [List.length_append, show a.length + [p].length + 1 = (a.length + 1) + 1 from rfl, List.range_succ, List.map_append, List.map_append]
        show _ ++ [PV.int ((tot (P.take (a.length + 1)) : Nat) : Int)] = _
        refine rwr e4 ?_; rfl
      rw [e3] at this
      exact this
    · rintro _ s1 @⟨z, w, y, _, c1⟩
      have la : (P.map PV.str).length = P.length := List.length_map _
      refine (ex2 (H.len_l c1.ps (by lia)) ?_)
      refine rwr la ?_
      refine (ex2 (H.range1 (by lia)) ?_)
      conv => whnf
      rw [rng1]
      refine forL_at (fun i : Nat => .int (i : Int)) (fun u c v s' => u ++ c = List.range P.length ∧ J2 l σ s.length P u.length v s') (fun _ _ _ _ _ => trivial) ?_ ?_ _ [] _ _ ⟨rfl, .mk (b := 0) (R := []) (Nat.zero_le _) c1 (Nat.le_refl _) (fun _ h => nomatch h) rfl⟩
      · rintro u i c _ _ ⟨hab, @⟨b, R, z, w, y, s2, hbl, c2, hRu, hRl, hT⟩⟩ Q hQ _ hbr _
        obtain ⟨rfl, hlt⟩ := range_mid hab
        rw [show P.length - u.length = (P.length - (u.length + 1)) + 1 by lia] at hT
        have hT : R ++ (if tot (P.drop b) ≤ 76 then [(P.drop b).flatten] else (((P.drop b).take (fit (P.drop b))).flatten ++ [61]) :: lbr (P.length - (u.length + 1)) ((P.drop b).drop (fit (P.drop b)))) = lbr P.length P := hT
        have hta : tot (P.take P.length) = tot P := by rw [List.take_length]
        have htb : tot P = tot (P.take b) + tot (P.drop b) := by rw [← tot_app, List.take_append_drop]
        have hx : decide (((tot (P.take P.length) : Nat) : Int) - ((tot (P.take b) : Nat) : Int) ≤ 76) = decide (tot (P.drop b) ≤ 76) := decide_eq_decide.mpr (by lia)
        refine (ex2 (sums_last c2.su (by lia)) (ex2 (sums_at c2.su (by lia) hbl) ?_))
        conv => whnf
        refine rwr hx ?_
        refine bsel_of (fun h => ?_) fun h => ?_
        · have h := of_decide_eq_true h
          rw [if_pos h] at hT
          exact hbr _ _ (r112 H hP (by lia) (by lia) hRl c2 _ hT)
        · have h := of_decide_eq_false h
          rw [if_neg h] at hT
          have hbN : b < P.length := by
            rcases Nat.lt_or_ge b P.length with h1 | h1
            · exact h1
            · rw [List.drop_eq_nil_of_le h1] at h; exact absurd (show tot [] ≤ 76 by decide) h
          obtain ⟨f1, f2, _⟩ : fit (P.drop b) ≤ (P.drop b).length ∧ (0 ≤ 75 → 0 + tot ((P.drop b).take (fit (P.drop b))) ≤ 75) ∧ ∀ k, fit (P.drop b) < k → k ≤ (P.drop b).length → 75 < 0 + tot ((P.drop b).take k) := fitGo_ok (P.drop b) 0
          rw [List.length_drop] at f1
          have f2 := f2 (by decide)
          refine m112 H hP (by lia) (by lia) c2 hbN fun s' w c3 => hQ _ _ ⟨by refine rwr (hab).symm ?_; rw [List.append_assoc]; rfl, .mk (b := b + fit (P.drop b)) (by lia) c3 (by rw [List.length_append, List.length_append]; exact Nat.add_le_add_right hRu _) ?_ ?_⟩
          · intro r hr
            rcases List.mem_append.mp hr with hr | hr
            · exact hRl r hr
            · rw [List.mem_singleton.mp hr, List.length_append, tot_flat]; show _ + 1 ≤ _; lia
          · rw [List.drop_drop] at hT
            rw [List.append_assoc, List.length_append]; exact hT
      · rintro u _ _ ⟨hab, @⟨b, R, z, w, y, s2, hbl, c2, hRu, hRl, hT⟩⟩
        have hul : u.length = P.length := by have := congrArg List.length hab; rwa [List.append_nil, List.length_range] at this
        rw [hul, Nat.sub_self] at hT
        exact r112 H hP (by lia) (by lia) hRl c2 _ hT
end
noncomputable section
variable {X : Stat} {d : Nat} {σ : Sto}
noncomputable def n113 : List Str := ["octets", "is_text", "rows"]
noncomputable def c113 : CS := (.assign 2 (.ite (.tval (.var 1)) (.meth (.var 0) "split" (.byt [13, 10]) .nil) (.lst (.cons (.var 0) .nil)))
  (.ret (.meth (.meth (.str [13, 10]) "join" (.comp .one ["row"] [] (.call "_law_broken" (.var 0) .nil) (.var 2) .yes) .nil) "encode" (.str [97, 115, 99, 105, 105]) .nil)))
noncomputable def n114 : List Str := ["octets"]
noncomputable def c114 : CS := (.ret (.cmp .Eq (.comp2 "row" "code" (.var 1) (.meth (.var 0) "split" (.byt [13, 10]) .nil) (.var 0) (.one (.tall .Or (.chc .Or (.tcmp .In (.var 1) (.tup (.cons (.int 0) (.cons (.int 10) (.cons (.int 13) .nil))))) (.chc .Or (.tcmp .Gt (.var 1) (.int 127)) (.chn .Or)))))) (.lst .nil)))
noncomputable def lq (o : List UInt8) (t : Bool) : List UInt8 := (joinB [13, 10] ((trows o t).map fun r => joinB [13, 10] (lrows r))).map (·.toUInt8)
theorem lbr_len (n : Nat) : ∀ q : List (List Nat), tot q ≤ 300 → (lbr n q).length ≤ n + 1 ∧ ∀ r ∈ lbr n q, r.length ≤ 300 := by
  induction n with
  | zero => intro q h; exact ⟨Nat.le_refl _, fun r hr => by rw [List.mem_singleton.mp hr, tot_flat]; exact h⟩
  | succ n ih =>
    intro q h
    unfold lbr
    split
    · exact ⟨Nat.le_add_left 1 _, fun r hr => by rw [List.mem_singleton.mp hr, tot_flat]; exact h⟩
    · have h2 : tot q = tot (q.take (fit q)) + tot (q.drop (fit q)) := by rw [← tot_app, List.take_append_drop]
      obtain ⟨i1, i2⟩ := ih (q.drop (fit q)) (by lia)
      obtain ⟨_, f2, _⟩ : fit q ≤ q.length ∧ (0 ≤ 75 → 0 + tot (q.take (fit q)) ≤ 75) ∧ ∀ k, fit q < k → k ≤ q.length → 75 < 0 + tot (q.take k) := fitGo_ok q 0
      have f2 := f2 (by decide)
      refine ⟨Nat.succ_le_succ i1, fun r hr => ?_⟩
      rcases List.mem_cons.mp hr with rfl | hr
      · rw [List.length_append, tot_flat]; show _ + 1 ≤ _; lia
      · exact i2 r hr
theorem lbr_lt (n : Nat) : ∀ q : List (List Nat), (∀ p ∈ q, ∀ c ∈ p, c < 128) → ∀ r ∈ lbr n q, ∀ c ∈ r, c < 128 := by
  have hf : ∀ q : List (List Nat), (∀ p ∈ q, ∀ c ∈ p, c < 128) → ∀ c ∈ q.flatten, c < 128 := fun q h c hc => by
    obtain ⟨p, hp, hc⟩ := List.mem_flatten.mp hc; exact h p hp c hc
  induction n with
  | zero => intro q h r hr; rw [List.mem_singleton.mp hr]; exact hf q h
  | succ n ih =>
    intro q h r hr
    unfold lbr at hr
    split at hr
    · refine rwr (List.mem_singleton.mp hr) ?_; exact hf q h
    · rcases List.mem_cons.mp hr with rfl | hr
      · intro c hc
        rcases List.mem_append.mp hc with hc | hc
        · exact hf _ (fun p hp => h p (List.mem_of_mem_take hp)) c hc
        · refine rwr (List.mem_singleton.mp hc) ?_; decide
      · exact ih _ (fun p hp => h p (List.mem_of_mem_drop hp)) r hr
theorem figs_lt (i : Nat) : (figs.getD i 0).toNat < 128 := by
  have h : ∀ c ∈ figs, c.toNat < 128 := by decide
  rw [List.getD_eq_getElem?_getD]
  cases e : figs[i]? with
  | none => decide
  | some c => exact h c (List.mem_of_getElem? e)
theorem lpiece_lt (c : UInt8) (b : Bool) : ∀ x ∈ nats (lpiece c b), x < 128 := by
  intro x hx
  obtain ⟨y, hy, rfl⟩ := List.mem_map.mp hx
  unfold lpiece at hy
  split at hy
  · rename_i h
    refine rwr (List.mem_singleton.mp hy) ?_
    have h := (and_ok h).1
    unfold plainQ at h
    simp only [Bool.or_eq_true, Bool.and_eq_true, beq_iff_eq, decide_eq_true_eq] at h
    lia
  · unfold qcode at hy
    rcases List.mem_cons.mp hy with rfl | hy
    · decide
    rcases List.mem_cons.mp hy with rfl | hy
    · exact figs_lt _
    · refine rwr (List.mem_singleton.mp hy) ?_; exact figs_lt _
theorem lpieces_lt {l : List UInt8} : ∀ p ∈ (lpieces l).map nats, ∀ c ∈ p, c < 128 := by
  induction l with
  | nil => intro p h; cases h
  | cons c l ih =>
    intro p h
    rcases List.mem_cons.mp h with rfl | h
    · exact lpiece_lt _ _
    · exact ih p h
theorem lrows_ok {r : List UInt8} (h : r.length ≤ 100) : (joinB [13, 10] (lrows r)).length ≤ 30502 ∧ ∀ c ∈ joinB [13, 10] (lrows r), c < 128 := by
  have hP : ∀ p ∈ (lpieces r).map nats, p.length ≤ 3 := fun p hp => by
    obtain ⟨q, hq, rfl⟩ := List.mem_map.mp hp
    unfold nats; rw [List.length_map]; exact lpieces_len q hq
  have ht := tot_le hP
  rw [List.length_map, lpieces_num] at ht
  obtain ⟨h1, h2⟩ := lbr_len (lpieces r).length ((lpieces r).map nats) (by lia)
  have h3 := (joinB_len2 (L := lrows r) h2).1
  have h4 : (lrows r).length ≤ 101 := by unfold lrows; rw [lpieces_num] at h1 ⊢; lia
  exact ⟨by lia, joinB_lt (lbr_lt _ _ lpieces_lt)⟩
theorem k113 : (decide (dName 113 = "_law_quotes") && fits (dNs 113) (dScope 113) (dBody 113) 2 0 c113 n113) = true := by decide +kernel
theorem t113 (H : PF X) {o : List UInt8} {t : Bool} (h1 : ∀ x ∈ splitAt' o [13, 10], x.length ≤ 100) (h2 : (splitAt' o [13, 10]).length ≤ 101) (ho : o.length ≤ 100) : CP X (d + 3) σ "_law_quotes" [.bytes o, .bool t] (.bytes (lq o t)) := by
  apply cp_wp 113 2 0 c113 n113 H.ok (H.fn 113 (by decide)) rfl rfl k113
  have hr1 : ∀ x ∈ trows o t, x.length ≤ 100 := by
    intro x hx
    cases t with
    | true => exact h1 x hx
    | false => refine rwr (List.mem_singleton.mp hx) ?_; exact ho
  have hr2 : (trows o t).length ≤ 101 := by
    cases t with
    | true => exact h2
    | false => show 1 ≤ 101; decide
  have go : ∀ (n : Nat) (s : Sto), σ <+: s → s[n]? = some (.lst ((trows o t).map .bytes)) → wpS X (d + 2) (.ret (.meth (.meth (.str [13, 10]) "join" (.comp .one ["row"] [] (.call "_law_broken" (.var 0) .nil) (.var 2) .yes) .nil) "encode" (.str [97, 115, 99, 105, 105]) .nil)) [some (.bytes o), some (.bool t), some (.ref n)] s (backQ fun p s => p = .bytes (lq o t) ∧ σ <+: s) := by
    intro n s hs hn
    refine (ex1 hn ?_)
    refine compL_gr PV.bytes (fun r => .str (joinB [13, 10] (lrows r))) (fun s => σ <+: s ∧ s[n]? = some (.lst ((trows o t).map .bytes))) (fun _ h => h.2) _ (fun _ _ _ _ R h => h) ?_ _ _ ⟨hs, hn⟩ ?_
    · intro r hr s1 hs1 R hR
      obtain ⟨s2, g, p⟩ := t112 (d := d) (σ := s1) H (hr1 r hr)
      exact (ex2 g (hR _ ⟨hs1.1.trans p, pre_at p hs1.2⟩))
    · intro s1 hs1
      have e : (trows o t).map (fun r => PV.str (joinB [13, 10] (lrows r))) = ((trows o t).map fun r => joinB [13, 10] (lrows r)).map .str := by rw [List.map_map]; rfl
      rw [List.nil_append, e]
      have hall : ∀ r ∈ (trows o t).map (fun r => joinB [13, 10] (lrows r)), r.length ≤ 30502 := fun r hr => by
        obtain ⟨x, hx, rfl⟩ := List.mem_map.mp hr
        exact (lrows_ok (hr1 x hx)).1
      have hlt := joinB_lt (L := (trows o t).map fun r => joinB [13, 10] (lrows r)) fun r hr => by
        obtain ⟨x, hx, rfl⟩ := List.mem_map.mp hr
        exact (lrows_ok (hr1 x hx)).2
      obtain ⟨b1, b2⟩ := joinB_len2 hall
      rw [List.length_map] at b1 b2
      exact ⟨by rw [List.length_map, List.length_map]; lia, _, _, mf_of mth_sjoin isT_str (join_s (at_app _ _ _) (by rw [List.length_map]; lia)), _, _, mf_of mth_encode isT_str (encode_s hlt (by lia)), rfl, hs1.1.trans (pre_app _ _)⟩
  cases t with
  | true =>
    exact (ex2 (mf_of mth_split isT_bytes (split_b (by decide) (fun x hx => Nat.le_trans (h1 x hx) (by decide)) (Nat.le_trans h2 (by decide)))) (go _ _ (pre_app _ _) (at_app _ _ _)))
  | false =>
    exact ⟨short1, go _ _ (pre_app _ _) (at_app _ _ _)⟩
end
noncomputable section
variable {X : Stat} {d : Nat} {σ : Sto}
theorem compLL_map {α : Type} {B : PV → List PV → Sto → (List PV → Sto → Prop) → Prop} {K : Sto → Prop} {Q : List PV → Sto → Prop} (g : α → PV) (f : α → List PV) (hK : K σ) (l : List α) (hB : ∀ x, x ∈ l → ∀ acc, ∀ R : List PV → Sto → Prop, R (acc ++ f x) σ → B (g x) acc σ R) : ∀ acc : List PV, Q (acc ++ (l.map f).flatten) σ → compLL B K (l.map g) acc σ Q := by
  induction l with
  | nil => intro acc h; exact ⟨hK, by simpa using h⟩
  | cons x l ih => intro acc h; exact ⟨hK, hB x List.mem_cons_self acc _ (ih (fun y hy => hB y (List.mem_cons_of_mem _ hy)) _ (by simpa using h))⟩
noncomputable def badL (c : UInt8) : Bool := ([0, 10, 13] : List Int).any (· == (c.toNat : Int)) || decide ((127 : Int) < c.toNat)
noncomputable def stands (o : List UInt8) : Bool := ((splitAt' o [13, 10]).map fun r => (r.filter badL).map fun c => PV.int (c.toNat : Int)).flatten.isEmpty
theorem k114 : (decide (dName 114 = "_law_stands") && fits (dNs 114) (dScope 114) (dBody 114) 1 0 c114 n114) = true := by decide +kernel
theorem t114 (H : PF X) {o : List UInt8} (h1 : ∀ x ∈ splitAt' o [13, 10], x.length ≤ 100) (h2 : (splitAt' o [13, 10]).length ≤ 101) : CP X (d + 1) σ "_law_stands" [.bytes o] (.bool (stands o)) := by
  apply cp_wp 114 1 0 c114 n114 H.ok (H.fn 114 (by decide)) rfl rfl k114
  refine (ex2 (mf_of mth_split isT_bytes (split_b (by decide) (fun x hx => Nat.le_trans (h1 x hx) (by decide)) (Nat.le_trans h2 (by decide)))) ?_)
  refine (ex1 (at_app _ _ _) ?_)
  refine compLL_map PV.bytes (fun r => (r.filter badL).map fun c => PV.int (c.toNat : Int)) (at_app _ _ _) _ ?_ _ ?_
  · intro r hr acc R hR
    refine compL_filter (fun c : UInt8 => .int (c.toNat : Int)) badL (fun c : UInt8 => .int (c.toNat : Int)) trivial _ ?_ (fun _ _ _ _ h => h) _ hR
    intro c _ R hR
    refine ⟨short3, [0, 10, 13], rfl, ?_⟩
    unfold badL at hR
    refine bsel_of (fun h => ?_) fun h => ?_
    · rw [h] at hR; exact hR
    · rw [h, Bool.false_or] at hR
      refine bsel_of (fun h => ?_) fun h => ?_
      · rw [h] at hR; exact hR
      · rw [h] at hR; exact hR
  · rw [List.nil_append]
    have hz := flatten_len (k := 100) (l := (splitAt' o [13, 10]).map fun r => (r.filter badL).map fun c => PV.int (c.toNat : Int)) fun x hx => by
      obtain ⟨r, hr, rfl⟩ := List.mem_map.mp hx
      rw [List.length_map]
      exact Nat.le_trans (List.length_filter_le _ _) (h1 r hr)
    rw [List.length_map] at hz
    refine ⟨by lia, Nat.zero_le _, ?_⟩
    exact (ex1 ⟨pre_at (pre_app _ _) (at_app _ _ _), at_app _ _ _⟩ ⟨rfl, ((pre_app _ _).trans (pre_app _ _)).trans (pre_app _ _)⟩)
end
noncomputable section
variable {X : Stat} {d : Nat} {σ : Sto}
noncomputable def n22 : List Str := ["data", "at", "end", "behind", "found", "begin", "feed", "last"]
noncomputable def c22e : CS := (.expr (.meth (.var 4) "append" (.tup (.cons (.var 5) (.cons (.var 7) (.cons (.bin .Add (.var 6) (.int 1)) .nil)))) .nil)
  (.assign 5 (.bin .Add (.var 6) (.int 1))
  .done))
noncomputable def c22b : CS := (.assign 7 (.ite (.tall .And (.chc .And (.tcmp .Gt (.var 6) (.var 5)) (.chc .And (.tcmp .Eq (.idx (.var 0) (.bin .Sub (.var 6) (.int 1))) (.glb "RETURN_octets")) (.chn .And)))) (.bin .Sub (.var 6) (.int 1)) (.var 6))
  c22e)
noncomputable def c22 : CS := (.assign 3 (.ite (.tcmp .Lt (.var 2) (.int 0)) (.call "len" (.var 0) .nil) (.call "min" (.var 2) (.cons (.call "len" (.var 0) .nil) .nil)))
  (.assign 4 (.lst .nil)
  (.assign 5 (.var 1)
  (.whil (.tcmp .Lt (.var 5) (.var 3))
  (.assign 6 (.meth (.var 0) "find" (.byt [10]) (.cons (.var 5) (.cons (.var 3) .nil)))
  (.ite (.tcmp .Lt (.var 6) (.int 0))
  (.expr (.meth (.var 4) "append" (.tup (.cons (.var 5) (.cons (.var 3) (.cons (.var 3) .nil)))) .nil)
  (.ret (.var 4)))
  .done c22b))
  (.ret (.var 4))))))
noncomputable def pv3 (z : Nat × Nat × Nat) : PV := .tup [.int (z.1 : Int), .int (z.2.1 : Int), .int (z.2.2 : Int)]
inductive I22 (σ : Sto) (o : List UInt8) : Nat → Vs → Sto → Prop
  | mk {k : Nat} {z w : Option PV} {L : List (Nat × Nat × Nat)} {s : Sto} (hO : Own1 σ σ.length (L.map pv3) s) (hk : k ≤ o.length) (hLk : L.length ≤ k) (hL : ∀ z ∈ L, z.2.1 ≤ o.length) :
      I22 σ o (o.length + 1 - k) [some (.bytes o), some (.int 0), some (.int (-1)), some (.int (o.length : Nat)), some (.ref σ.length), some (.int (k : Nat)), z, w] s
theorem k22 : (decide (dName 22 = "line_spans") && fits (dNs 22) (dScope 22) (dBody 22) 1 2 c22 n22) = true := by decide +kernel
theorem t22 (H : PF X) {o : List UInt8} (ho : o.length ≤ 1000) : ∃ L : List (Nat × Nat × Nat), CN X (d + 1) σ "line_spans" [.bytes o] (L.map pv3) ∧ L.length ≤ 1001 ∧ ∀ z ∈ L, z.2.1 ≤ o.length := by
  suffices h : ∃ r σ', CF X (d + 1) σ "line_spans" [.bytes o] r σ' ∧ (∃ (L : List (Nat × Nat × Nat)) (n : Nat), r = .ref n ∧ Own1 σ n (L.map pv3) σ' ∧ L.length ≤ 1001 ∧ ∀ z ∈ L, z.2.1 ≤ o.length) by
    obtain ⟨_, s, g, L, n, rfl, hO, h1, h2⟩ := h; exact (ex1 (p := L) ⟨n, s, g, hO⟩ ⟨h1, h2⟩)
  apply cx_wp 22 1 2 c22 n22 H.ok H.fn22 rfl rfl k22
  refine (ex2 (H.len_b (by lia)) ⟨Nat.zero_le _, ?_⟩)
  refine (ex1 (p := I22 σ o) ⟨_, .mk (k := 0) (L := []) (.new (List.prefix_refl _) _) (Nat.zero_le _) (Nat.zero_le _) fun _ h => nomatch h⟩ ?_)
  rintro _ _ s @⟨k, z, w, L, _, hO, hk, hLk, hL⟩
  have hLl : (L.map pv3).length ≤ 16777216 := by rw [List.length_map]; lia
  refine bsel_of (fun h => ?_) fun h => ?_
  · have h := of_decide_eq_true h
    have hki : k < o.length := by lia
    refine (ex2 (mf_of mth_find isT_bytes find4_b) ?_)
    rcases found4 o (Nat.le_of_lt hki) (Nat.le_refl _) with ⟨e, _⟩ | ⟨i, e, h1, h2, _, _⟩
    · rw [e]
      refine ⟨short3, _, _, mf_append hO.at_ hO.at_ hLl, L ++ [(k, o.length, o.length)], _, rfl, ?_, by rw [List.length_append]; show _ + 1 ≤ _; lia, fun z hz => ?_⟩
      · have := hO.set (l' := (L ++ [(k, o.length, o.length)]).map pv3)
        rw [List.map_append] at this ⊢; exact this
      · rcases List.mem_append.mp hz with hz | hz
        · exact hL z hz
        · rw [List.mem_singleton.mp hz]; exact Nat.le_refl _
    · rw [e]
      have fin : ∀ (q : Nat) (R : Out), q ≤ i → (∀ v' s', (∃ n', n' < o.length + 1 - k ∧ I22 σ o n' v' s') → R.nx v' s') → wpS X d c22e [some (.bytes o), some (.int 0), some (.int (-1)), some (.int (o.length : Nat)), some (.ref σ.length), some (.int (k : Nat)), some (.int (i : Nat)), some (.int (q : Nat))] s R := fun q R hq hR => by
        refine ⟨short3, _, _, mf_append hO.at_ hO.at_ hLl, hR _ _ ⟨o.length + 1 - (i + 1), by lia, .mk (k := i + 1) (L := L ++ [(k, q, i + 1)]) ?_ h2 (by rw [List.length_append]; show _ + 1 ≤ _; lia) fun z hz => ?_⟩⟩
        · have := hO.set (l' := (L ++ [(k, q, i + 1)]).map pv3)
          rw [List.map_append] at this ⊢; exact this
        · rcases List.mem_append.mp hz with hz | hz
          · exact hL z hz
          · rw [List.mem_singleton.mp hz]; show q ≤ _; lia
      have rest : ∀ R : Out, (∀ v' s', (∃ n', n' < o.length + 1 - k ∧ I22 σ o n' v' s') → R.nx v' s') → wpS X d c22b [some (.bytes o), some (.int 0), some (.int (-1)), some (.int (o.length : Nat)), some (.ref σ.length), some (.int (k : Nat)), some (.int (i : Nat)), w] s R := fun R hR => by
        refine bsel_of (fun h3 => ?_) fun h3 => fin i R (Nat.le_refl _) hR
        have h3 := of_decide_eq_true h3
        have hg : o[((i : Int) - 1).toNat]? = some (o.getD (i - 1) 0) := by rw [show ((i : Int) - 1).toNat = i - 1 by lia]; exact getD_at (by lia)
        refine (ex1 ⟨by lia, hg, by lia⟩ ⟨_, H.RETo, ?_⟩)
        refine bsel_of (fun h4 => ?_) fun h4 => fin i R (Nat.le_refl _) hR
        have e2 : ((i : Int) - 1) = ((i - 1 : Nat) : Int) := by lia
        have := fin (i - 1) R (Nat.sub_le _ _) hR
        rw [← e2] at this
        exact this
      exact rest ⟨fun v' σ' => ∃ n', n' < o.length + 1 - k ∧ I22 σ o n' v' σ', fun v' σ' => wpS X d (.ret (.var 4)) v' σ' (backQ fun r σ' => ∃ (L : List (Nat × Nat × Nat)) (n : Nat), r = .ref n ∧ Own1 σ n (L.map pv3) σ' ∧ L.length ≤ 1001 ∧ ∀ z ∈ L, z.2.1 ≤ o.length), fun v' σ' => ∃ n', n' < o.length + 1 - k ∧ I22 σ o n' v' σ', fun r σ' => ∃ (L : List (Nat × Nat × Nat)) (n : Nat), r = .ref n ∧ Own1 σ n (L.map pv3) σ' ∧ L.length ≤ 1001 ∧ ∀ z ∈ L, z.2.1 ≤ o.length⟩ fun _ _ h => h
  · conv => whnf
    exact ⟨L, _, rfl, hO, by lia, hL⟩
noncomputable def n96 : List Str := ["octets", "at", "code"]
noncomputable def c96b : CS := (.ite (.tall .Or (.chc .Or (.tall .And (.chc .And (.tcmp .Eq (.var 2) (.int 13)) (.chc .And (.tcmp .NotEq (.slc true (.var 0) (.osome (.bin .Add (.var 1) (.int 1))) (.osome (.bin .Add (.var 1) (.int 2)))) (.byt [10])) (.chn .And)))) (.chc .Or (.tall .And (.chc .And (.tcmp .Eq (.var 2) (.int 10)) (.chc .And (.tcmp .NotEq (.slc true (.var 0) (.osome (.call "max" (.bin .Sub (.var 1) (.int 1)) (.cons (.int 0) .nil))) (.osome (.var 1))) (.byt [13])) (.chn .And)))) (.chn .Or))))
  (.ret (.bool false))
  .done
  .done)
noncomputable def c96 : CS := (.for_ .one [1] (.call "range" (.call "len" (.var 0) .nil) .nil)
  (.assign 2 (.idx (.var 0) (.var 1))
  (.ite (.tall .Or (.chc .Or (.tcmp .Eq (.var 2) (.int 0)) (.chc .Or (.tcmp .Gt (.var 2) (.int 127)) (.chn .Or))))
  (.ret (.bool false))
  .done c96b))
  (.ret (.cmp .Eq (.comp .tup ["first", "last", "behind"] [] (.int 1) (.call "line_spans" (.var 0) .nil) (.one (.tcmp .Gt (.bin .Sub (.var 1) (.var 0)) (.glb "MOST_LINE")))) (.lst .nil))))
noncomputable def bad7 (o : List UInt8) (i : Nat) : Bool := (o.getD i 0).toNat == 0 || (decide (127 < (o.getD i 0).toNat) || (((o.getD i 0).toNat == 13 && (o.drop (i + 1)).take 1 != [10]) || ((o.getD i 0).toNat == 10 && (o.drop (i - 1)).take (i - (i - 1)) != [13])))
noncomputable def sevenB (o : List UInt8) : Bool := (List.range o.length).all fun i => !(bad7 o i)
theorem k96 : (decide (dName 96 = "is_seven_bit") && fits (dNs 96) (dScope 96) (dBody 96) 1 0 c96 n96) = true := by decide +kernel
inductive I96 (o : List UInt8) (σ : Sto) (a : List Nat) : Vs → Sto → Prop
  | mk {z w : Option PV} (hg : ∀ i ∈ a, bad7 o i = false) : I96 o σ a [some (.bytes o), z, w] σ
theorem t96 (H : PF X) {o : List UInt8} (ho : o.length ≤ 900) : CP X (d + 2) σ "is_seven_bit" [.bytes o] (.bool (sevenB o)) := by
  apply cp_wp 96 1 0 c96 n96 H.ok (H.fn 96 (by decide)) rfl rfl k96
  refine (ex2 (H.len_b (by lia)) ⟨_, _, H.range1 (by lia), ?_⟩)
  conv => whnf
  rw [rng1]
  refine forL_ab (fun i : Nat => .int (i : Int)) (List.range o.length) (I96 o σ) (fun _ _ _ _ => trivial) ?_ ?_ _ _ (.mk fun _ h => nomatch h)
  · rintro a i b hab _ _ @⟨z, w, hg⟩ R hR _ hre
    obtain ⟨rfl, hlt⟩ := range_mid hab
    have bad : bad7 o a.length = true → R.re (.bool false) σ := fun h => hre ⟨by
      have : sevenB o = false := by
        unfold sevenB
        rw [List.all_eq_false]
        exact ⟨a.length, List.mem_range.mpr hlt, by rw [h]; decide⟩
      rw [this], List.prefix_refl _⟩
    have good : bad7 o a.length = false → ∀ z w, R.nx [some (.bytes o), z, w] σ := fun h z w => hR (.mk fun i hi => by
      rcases List.mem_append.mp hi with hi | hi
      · exact hg i hi
      · rw [List.mem_singleton.mp hi]; exact h)
    have it : o[((a.length : Nat) : Int).toNat]? = some (o.getD a.length 0) := getD_int hlt
    unfold bad7 at bad good
    generalize o.getD a.length 0 = c at it bad good
    have hb : ∀ k : Nat, ((c.toNat : Int) == (k : Int)) = (c.toNat == k) := fun k => beq_cast _ _
    rw [← hb 0, ← hb 13, ← hb 10, show decide (127 < c.toNat) = decide ((127 : Int) < c.toNat) from decide_eq_decide.mpr (by lia)] at bad good
    have rest : ((c.toNat : Int) == 0) = false → decide ((127 : Int) < c.toNat) = false → ∀ z w, wpS X (d + 1) c96b [some (.bytes o), some (.int (a.length : Int)), some (.int (c.toNat : Int))] σ ⟨fun v s => R.nx v s, z, w, R.re⟩ := fun h1 h2 z w => by
      rw [show (((0 : Nat) : Int)) = 0 from rfl, h1, h2, Bool.false_or, Bool.false_or] at bad good
      have e1 : ((a.length : Int) + 1) = ((a.length + 1 : Nat) : Int) := rfl
      have e2 : ((a.length : Int) + 2) = ((a.length + 2 : Nat) : Int) := rfl
      have part2 : (((c.toNat : Int) == 13) && (o.drop (a.length + 1)).take 1 != [10]) = false → wpS X (d + 1) (.ite (.tall .Or (.chc .Or (.tall .And (.chc .And (.tcmp .Eq (.var 2) (.int 10)) (.chc .And (.tcmp .NotEq (.slc true (.var 0) (.osome (.call "max" (.bin .Sub (.var 1) (.int 1)) (.cons (.int 0) .nil))) (.osome (.var 1))) (.byt [13])) (.chn .And)))) (.chn .Or))) (.ret (.bool false)) .done .done) [some (.bytes o), some (.int (a.length : Int)), some (.int (c.toNat : Int))] σ ⟨fun v s => R.nx v s, z, w, R.re⟩ := fun h3 => by
        rw [show (((13 : Nat) : Int)) = 13 from rfl, h3, Bool.false_or] at bad good
        have e3 : (if (0 : Int) > (a.length : Int) - 1 then 0 else (a.length : Int) - 1) = ((a.length - 1 : Nat) : Int) := by split <;> lia
        refine bsel_of (fun h4 => ?_) fun h4 => good (by rw [show (((10 : Nat) : Int)) = 10 from rfl, h4]; rfl) _ _
        rw [show (((10 : Nat) : Int)) = 10 from rfl, h4, Bool.true_and] at bad good
        refine (ex2 ⟨_, H.max, .bi _, max_ii⟩ ?_)
        rw [e3]
        refine ⟨some ((a.length - 1 : Nat) : Int), some ((a.length : Nat) : Int), ⟨rfl, rfl⟩, ?_⟩
        conv => whnf
        rw [cut_nn _ (by lia)]
        exact ⟨by lia, bsel_of (fun h5 => bad h5) fun h5 => good h5 _ _⟩
      refine bsel_of (fun h4 => ?_) fun h4 => part2 (by rw [h4]; rfl)
      refine (ex2 (p := some ((a.length + 1 : Nat) : Int)) (s := some ((a.length + 2 : Nat) : Int)) ⟨rfl, rfl⟩ ?_)
      conv => whnf
      rw [cut_nn _ (by lia), show a.length + 2 - (a.length + 1) = 1 by lia]
      exact ⟨by lia, bsel_of (fun h5 => bad (by rw [show (((13 : Nat) : Int)) = 13 from rfl, h4, show ((o.drop (a.length + 1)).take 1 != [10]) = true from h5]; rfl)) fun h5 => part2 (by rw [h4, show ((o.drop (a.length + 1)).take 1 != [10]) = false from h5]; rfl)⟩
    refine (ex1 (p := c) ⟨by lia, it, by lia⟩ ?_)
    refine bsel_of (fun h => bad (by rw [show (((0 : Nat) : Int)) = 0 from rfl, h]; rfl)) fun h => ?_
    exact bsel_of (fun h2 => bad (by rw [h2]; simp)) fun h2 => rest h h2 _ _
  · rintro _ _ @⟨z, w, hg⟩
    obtain ⟨L, ⟨n, s1, g, O⟩, hL1, hL2⟩ := t22 (d := d) (σ := σ) H (o := o) (by lia)
    refine (ex2 g ⟨_, O.at_, ?_⟩)
    refine compL_filter pv3 (fun _ => false) (fun _ => .int 1) O.at_ _ ?_ (fun _ _ h => nomatch h) _ ?_
    · intro z hz R hR
      have h1 := hL2 z hz
      refine ⟨rfl, _, H.MOST, ?_⟩
      conv => whnf
      rw [show decide ((998 : Int) < (z.2.1 : Int) - (z.1 : Int)) = false from decide_eq_false (by lia)]
      exact hR
    · have e : (L.filter fun _ => false) = [] := by rw [List.filter_eq_nil_iff]; intro _ _; decide
      rw [e]
      refine ⟨Nat.zero_le _, Nat.zero_le _, ?_⟩
      refine ⟨_, ⟨pre_at (pre_app _ _) (at_app _ _ _), at_app _ _ _⟩, ?_, (O.pre.trans (pre_app _ _)).trans (pre_app _ _)⟩
      have : sevenB o = true := by
        unfold sevenB
        rw [List.all_eq_true]
        intro i hi
        rw [hg i hi]; rfl
      rw [this]; rfl
end
noncomputable section
variable {X : Stat} {d : Nat} {σ : Sto}
noncomputable def n97 : List Str := ["octets", "is_text"]
noncomputable def c97 : CS := (.ite (.tval (.call "is_seven_bit" (.var 0) .nil))
  (.ret (.glb "PLAIN_ENCODING"))
  .done
  (.ret (.ite (.tcmp .Lt (.call "len" (.call "encoded" (.var 0) .nil) .nil) (.call "len" (.call "quoted_encoded" (.var 0) (.cons (.var 1) .nil)) .nil)) (.str [98, 97, 115, 101, 54, 52]) (.str [113, 117, 111, 116, 101, 100, 45, 112, 114, 105, 110, 116, 97, 98, 108, 101]))))
noncomputable def n98 : List Str := ["encoding", "octets", "is_text"]
noncomputable def c98 : CS := (.ite (.tcmp .Eq (.var 0) (.str [98, 97, 115, 101, 54, 52]))
  (.ret (.call "encoded" (.var 1) .nil))
  .done
  (.ret (.ite (.tcmp .Eq (.var 0) (.str [113, 117, 111, 116, 101, 100, 45, 112, 114, 105, 110, 116, 97, 98, 108, 101])) (.call "quoted_encoded" (.var 1) (.cons (.var 2) .nil)) (.var 1))))
noncomputable def b64s : List Nat := [98, 97, 115, 101, 54, 52]
noncomputable def qps : List Nat := [113, 117, 111, 116, 101, 100, 45, 112, 114, 105, 110, 116, 97, 98, 108, 101]
noncomputable def encOf (o : List UInt8) (t : Bool) : List Nat := if sevenB o then sevenbit else if decide ((b64 o).length < (qenc o t).length) then b64s else qps
noncomputable def inEnc (e : List Nat) (o : List UInt8) (t : Bool) : List UInt8 := if e == b64s then b64 o else if e == qps then qenc o t else o
theorem joined_len {ls : List (List UInt8)} {k : Nat} (h : ∀ l ∈ ls, l.length ≤ k) : (joined ls).length ≤ (k + 2) * ls.length := by
  unfold joined
  refine Nat.le_trans (flatten_len (k := k + 2) fun x hx => ?_) (by rw [List.length_map]; exact Nat.le_refl _)
  obtain ⟨l, hl, rfl⟩ := List.mem_map.mp hx
  have := h l hl
  split
  · rw [List.length_append]; show _ + 2 ≤ _; lia
  · lia
theorem qall_ok {rows : List (List UInt8)} (h : ∀ r ∈ rows, r.length ≤ 100) : (qall rows).length ≤ 102 * rows.length ∧ ∀ l ∈ qall rows, l.length ≤ 100 := by
  unfold qall
  refine ⟨Nat.le_trans (flatten_len (k := 102) fun x hx => ?_) (by rw [List.length_map]; exact Nat.le_refl _), fun l hl => ?_⟩
  · obtain ⟨r, hr, rfl⟩ := List.mem_map.mp hx
    have := soft_num (ps := lpieces r) (ln := [])
    rw [lpieces_num] at this
    have := h r hr
    rw [List.length_append]; show _ + 1 ≤ _; lia
  · obtain ⟨x, hx, hl⟩ := List.mem_flatten.mp hl
    obtain ⟨r, hr, rfl⟩ := List.mem_map.mp hx
    rcases List.mem_append.mp hl with hl | hl
    · exact Nat.le_trans (soft_len lpieces_len (Nat.zero_le _) l hl) (by decide)
    · rw [List.mem_singleton.mp hl]; show 2 ≤ 100; decide
theorem qenc_len {o : List UInt8} {t : Bool} (h : ∀ r ∈ trows o t, r.length ≤ 100) (h2 : (trows o t).length ≤ 101) : (qenc o t).length ≤ 1100000 := by
  obtain ⟨q1, q2⟩ := qall_ok h
  unfold qenc
  have := joined_len (k := 100) (ls := (qall (trows o t)).take ((qall (trows o t)).length - 1)) fun l hl => q2 l (List.mem_of_mem_take hl)
  rw [List.length_take] at this
  lia
structure Short (o : List UInt8) : Prop where
  len : o.length ≤ 100
  parts : ∀ x ∈ splitAt' o [13, 10], x.length ≤ 100
  num : (splitAt' o [13, 10]).length ≤ 101
  ne : splitAt' o [13, 10] ≠ []
theorem Short.rows {o : List UInt8} (h : Short o) (t : Bool) : (∀ r ∈ trows o t, r.length ≤ 100) ∧ (trows o t).length ≤ 101 := by
  cases t with
  | true => exact ⟨h.parts, h.num⟩
  | false => exact ⟨fun x hx => by rw [List.mem_singleton.mp hx]; exact h.len, by show 1 ≤ 101; decide⟩
theorem k97 : (decide (dName 97 = "choose_encoding") && fits (dNs 97) (dScope 97) (dBody 97) 2 0 c97 n97) = true := by decide +kernel
theorem t97 (H : PF X) {o : List UInt8} {t : Bool} (h : Short o) : CP X (d + 5) σ "choose_encoding" [.bytes o, .bool t] (.str (encOf o t)) := by
  apply cp_wp 97 2 0 c97 n97 H.ok (H.fn 97 (by decide)) rfl rfl k97
  obtain ⟨r1, r2⟩ := h.rows t
  obtain ⟨s1, g1, p1⟩ := t96 (d := d + 2) (σ := σ) H (o := o) (by have := h.len; lia)
  refine (ex2 g1 ?_)
  refine bsel_of (fun hs => (ex1 H.PLAIN ⟨by unfold encOf; rw [if_pos hs], p1⟩)) fun hs => ?_
  obtain ⟨s2, g2, p2⟩ := t11 (d := d) (σ := s1) H (o := o) (by have := h.len; lia)
  obtain ⟨s3, g3, p3⟩ := t83 (d := d + 1) (σ := s2) (t := t) H h.parts h.num h.ne h.len
  have hb := b64_len (o := o)
  have hq := qenc_len r1 r2
  have hl := h.len
  refine (ex2 g2 (ex2 (H.len_b (by lia)) (ex2 g3 (ex2 (H.len_b (by lia)) ?_))))
  have e : decide (((b64 o).length : Int) < ((qenc o t).length : Int)) = decide ((b64 o).length < (qenc o t).length) := decide_eq_decide.mpr (by lia)
  conv => whnf
  rw [e]
  have p := (p1.trans p2).trans p3
  exact bsel_of (fun h2 => ⟨by unfold encOf; rw [if_neg (by rw [hs]; decide), if_pos h2]; rfl, p⟩) fun h2 => ⟨by unfold encOf; rw [if_neg (by rw [hs]; decide), if_neg (by rw [h2]; decide)]; rfl, p⟩
theorem k98 : (decide (dName 98 = "in_encoding") && fits (dNs 98) (dScope 98) (dBody 98) 3 0 c98 n98) = true := by decide +kernel
theorem t98 (H : PF X) {e : List Nat} {o : List UInt8} {t : Bool} (h : Short o) : CP X (d + 5) σ "in_encoding" [.str e, .bytes o, .bool t] (.bytes (inEnc e o t)) := by
  apply cp_wp 98 3 0 c98 n98 H.ok (H.fn 98 (by decide)) rfl rfl k98
  refine bsel_of (fun hs => ?_) fun hs => ?_
  · obtain ⟨s2, g2, p2⟩ := t11 (d := d) (σ := σ) H (o := o) (by have := h.len; lia)
    exact (ex2 g2 ⟨by unfold inEnc; rw [if_pos (show (e == b64s) = true from hs)], p2⟩)
  · conv => whnf
    refine bsel_of (fun h2 => ?_) fun h2 => ⟨by unfold inEnc; rw [if_neg (by rw [show (e == b64s) = false from hs]; decide), if_neg (by rw [show (e == qps) = false from h2]; decide)], List.prefix_refl _⟩
    obtain ⟨s3, g3, p3⟩ := t83 (d := d + 1) (σ := σ) (t := t) H h.parts h.num h.ne h.len
    exact (ex2 g3 ⟨by unfold inEnc; rw [if_neg (by rw [show (e == b64s) = false from hs]; decide), if_pos (show (e == qps) = true from h2)], p3⟩)
end
noncomputable section
variable {X : Stat} {d : Nat} {σ : Sto}
noncomputable def n20 : List Str := ["code"]
noncomputable def c20 : CS := (.ret (.ite (.tcmp2 .LtE .LtE (.int 65) (.var 0) (.int 90)) (.bin .Add (.var 0) (.int 32)) (.var 0)))
noncomputable def n21 : List Str := ["text"]
noncomputable def c21 : CS := (.ret (.meth (.str []) "join" (.comp .one ["sign"] [] (.call "chr" (.call "lower_code" (.call "ord" (.var 0) .nil) .nil) .nil) (.var 0) .yes) .nil))
noncomputable def n56 : List Str := ["code"]
noncomputable def c56 : CS := (.ret (.vall .And (.vchc .And (.cmp2 .Lt .Lt (.int 32) (.var 0) (.int 127)) (.vlast (.cmp .NotIn (.var 0) (.glb "BARRED"))))))
noncomputable def n57 : List Str := ["octets"]
noncomputable def c57 : CS := (.ret (.vall .And (.vchc .And (.cmp .Gt (.call "len" (.var 0) .nil) (.int 0)) (.vlast (.cmp .Eq (.comp .one ["code"] [] (.var 0) (.var 0) (.one (.tnot (.tval (.call "is_token_code" (.var 0) .nil))))) (.lst .nil))))))
noncomputable def lowc (c : Nat) : Nat := if 65 ≤ c ∧ c ≤ 90 then c + 32 else c
theorem k20 : (decide (dName 20 = "lower_code") && fits (dNs 20) (dScope 20) (dBody 20) 1 0 c20 n20) = true := by decide +kernel
theorem t20 (H : PF X) (c : Nat) : CF X (d + 1) σ "lower_code" [.int (c : Int)] (.int (lowc c : Nat)) σ := by
  suffices h : ∃ r σ', CF X (d + 1) σ "lower_code" [.int (c : Int)] r σ' ∧ (r = .int (lowc c : Nat) ∧ σ' = σ) by
    obtain ⟨_, _, g, rfl, rfl⟩ := h; exact g
  apply cx_wp 20 1 0 c20 n20 H.ok (H.fn 20 (by decide)) rfl rfl k20
  refine bsel_of (fun h => ?_) fun h => ⟨by unfold lowc; rw [if_neg fun q => of_decide_eq_false h (by lia)], rfl⟩
  exact bsel_of (fun h2 => ⟨by unfold lowc; rw [if_pos ⟨by have := of_decide_eq_true h; lia, by have := of_decide_eq_true h2; lia⟩]; rfl, rfl⟩) fun h2 => ⟨by unfold lowc; rw [if_neg fun q => of_decide_eq_false h2 (by lia)], rfl⟩
theorem k21 : (decide (dName 21 = "lower_text") && fits (dNs 21) (dScope 21) (dBody 21) 1 0 c21 n21) = true := by decide +kernel
theorem t21 (H : PF X) {x : List Nat} (hx : ∀ c ∈ x, c < 128) (hl : x.length ≤ 1000) : CP X (d + 2) σ "lower_text" [.str x] (.str (x.map lowc)) := by
  apply cp_wp 21 1 0 c21 n21 H.ok (H.fn 21 (by decide)) rfl rfl k21
  refine compL_map (fun c : Nat => .str [c]) (fun c : Nat => .str [lowc c]) trivial _ (fun _ _ R h => h) ?_ _ ?_
  · intro c hc R hR
    have h := hx c hc
    have hw : lowc c ≤ 200 := by unfold lowc; split <;> lia
    refine (ex2 ⟨_, H.ord, .bi _, ord_s⟩ (ex2 (t20 H c) (ex2 ⟨_, H.chr, .bi _, chr_i (by lia) (by lia)⟩ ?_)))
    rw [Int.toNat_natCast]; exact hR
  · have e : x.map (fun c : Nat => PV.str [lowc c]) = ((x.map lowc).map fun c => [c]).map .str := by rw [List.map_map, List.map_map]; rfl
    have e5 : joinB [] ((x.map lowc).map fun c => [c]) = x.map lowc := by rw [joinB_nil]; induction x.map lowc with | nil => rfl | cons c l ih => rw [List.map_cons, List.flatten_cons, ih]; rfl
    rw [List.nil_append, e]
    have hs := sum_len (k := 1) (l := (x.map lowc).map fun c => [c]) fun l hl => by obtain ⟨c, _, rfl⟩ := List.mem_map.mp hl; exact Nat.le_refl _
    rw [List.length_map, List.length_map] at hs
    have hj := join_s (X := X) (d := d + 1) (σ := σ ++ [.lst (((x.map lowc).map fun c => [c]).map .str)]) (sep := []) (at_app _ _ _) (by show _ + 0 * _ ≤ _; lia)
    rw [e5] at hj
    exact ⟨by rw [List.length_map, List.length_map, List.length_map]; lia, _, _, mf_of mth_sjoin isT_str hj, rfl, pre_app _ _⟩
noncomputable def tokC (c : UInt8) : Bool := decide ((32 : Int) < c.toNat) && (decide ((c.toNat : Int) < 127) && !(barred.contains c))
theorem k56 : (decide (dName 56 = "is_token_code") && fits (dNs 56) (dScope 56) (dBody 56) 1 0 c56 n56) = true := by decide +kernel
theorem t56 (H : PF X) (c : UInt8) : CF X (d + 1) σ "is_token_code" [.int (c.toNat : Int)] (.bool (tokC c)) σ := by
  suffices h : ∃ r σ', CF X (d + 1) σ "is_token_code" [.int (c.toNat : Int)] r σ' ∧ (r = .bool (tokC c) ∧ σ' = σ) by
    obtain ⟨_, _, g, rfl, rfl⟩ := h; exact g
  apply cx_wp 56 1 0 c56 n56 H.ok (H.fn 56 (by decide)) rfl rfl k56
  have hc := c.toNat_lt
  unfold tokC
  refine bsel_of (fun h => ?_) fun h => ⟨by rw [h]; rfl, rfl⟩
  refine bsel_of (fun h2 => ?_) fun h2 => ⟨by rw [h, h2]; rfl, rfl⟩
  refine (ex1 H.BARRED ⟨⟨by lia, by lia⟩, ?_, rfl⟩)
  rw [h, h2, Int.toNat_natCast]; simp
theorem k57 : (decide (dName 57 = "is_token") && fits (dNs 57) (dScope 57) (dBody 57) 1 0 c57 n57) = true := by decide +kernel
theorem t57 (H : PF X) {o : List UInt8} (ho : o.length ≤ 1000) (h0 : o ≠ []) (ht : ∀ c ∈ o, tokC c = true) : CP X (d + 2) σ "is_token" [.bytes o] (.bool true) := by
  apply cp_wp 57 1 0 c57 n57 H.ok (H.fn 57 (by decide)) rfl rfl k57
  have hp := List.length_pos_iff.mpr h0
  refine (ex2 (H.len_b (by lia)) ?_)
  refine bsel_of (fun _ => ?_) fun h => absurd (show (0 : Int) < o.length by lia) (of_decide_eq_false h)
  refine compL_filter (fun c : UInt8 => .int (c.toNat : Int)) (fun _ => false) (fun _ => .int 0) trivial _ ?_ (fun _ _ h => nomatch h) _ ?_
  · intro c hc R hR
    have := t56 (d := d) (σ := σ) H c
    rw [ht c hc] at this
    exact (ex2 this hR)
  · have e : (o.filter fun _ => false) = [] := by rw [List.filter_eq_nil_iff]; intro _ _; decide
    refine rwr e ?_
    refine ⟨Nat.zero_le _, Nat.zero_le _, ?_⟩
    exact (ex1 ⟨pre_at (pre_app _ _) (at_app _ _ _), at_app _ _ _⟩ ⟨rfl, (pre_app _ _).trans (pre_app _ _)⟩)
end
noncomputable section
variable {X : Stat} {d : Nat} {σ : Sto}
noncomputable def n26 : List Str := ["data", "at", "end", "spot"]
noncomputable def c26 : CS := (.assign 3 (.meth (.var 0) "find" (.byt [10]) (.cons (.var 1) (.cons (.var 2) .nil)))
  (.ite (.tcmp .Lt (.var 3) (.int 0))
  (.ret (.tup (.cons (.var 2) (.cons (.var 2) .nil))))
  .done
  (.ite (.tall .And (.chc .And (.tcmp .Gt (.var 3) (.var 1)) (.chc .And (.tcmp .Eq (.idx (.var 0) (.bin .Sub (.var 3) (.int 1))) (.int 13)) (.chn .And))))
  (.ret (.tup (.cons (.bin .Sub (.var 3) (.int 1)) (.cons (.bin .Add (.var 3) (.int 1)) .nil))))
  .done
  (.ret (.tup (.cons (.var 3) (.cons (.bin .Add (.var 3) (.int 1)) .nil)))))))
noncomputable def n27 : List Str := ["octets", "code"]
noncomputable def c27 : CS := (.for_ .one [1] (.var 0)
  (.ite (.tall .Or (.chc .Or (.tcmp .Lt (.var 1) (.int 33)) (.chc .Or (.tcmp .Gt (.var 1) (.int 126)) (.chc .Or (.tcmp .Eq (.var 1) (.int 58)) (.chn .Or)))))
  (.ret (.bool false))
  .done
  .done)
  (.ret (.cmp .Gt (.call "len" (.var 0) .nil) (.int 0))))
noncomputable def n28 : List Str := ["raw", "rows", "at", "last", "later"]
noncomputable def c28 : CS := (.assign 1 (.lst .nil)
  (.assign 2 (.int 0)
  (.whil (.tval (.bool true))
  (.assignt [3, 4] (.call "line_at" (.var 0) (.cons (.var 2) (.cons (.call "len" (.var 0) .nil) .nil)))
  (.expr (.meth (.var 1) "append" (.slc true (.var 0) (.osome (.var 2)) (.osome (.var 3))) .nil)
  (.ite (.tcmp .Eq (.var 3) (.call "len" (.var 0) .nil))
  (.ret (.var 1))
  .done
  (.assign 2 (.var 4)
  .done))))
  .done)))
noncomputable def n30 : List Str := ["fields", "words", "barred"]
noncomputable def c30 : CS := (.assign 2 (.comp .one ["word"] [] (.call "lower_text" (.var 0) .nil) (.var 1) .yes)
  (.ret (.comp .one ["field"] [2] (.var 1) (.var 0) (.one (.tcmp .NotIn (.meth0 (.var 1) "word") (.var 0))))))
noncomputable def n99 : List Str := ["fields"]
noncomputable def c99 : CS := (.ite (.tcmp .NotEq (.call "len" (.call "without_words" (.call "list" (.var 0) .nil) (.cons (.glb "OWN_WORDS") .nil)) .nil) (.call "len" (.var 0) .nil))
  .junk
  .done
  .done)
theorem k26 : (decide (dName 26 = "line_at") && fits (dNs 26) (dScope 26) (dBody 26) 3 0 c26 n26) = true := by decide +kernel
theorem t26 (H : PF X) {o : List UInt8} (h : ∀ c ∈ o, c ≠ 10) : CP X (d + 1) σ "line_at" [.bytes o, .int 0, .int (o.length : Nat)] (.tup [.int (o.length : Nat), .int (o.length : Nat)]) := by
  apply cp_wp 26 3 0 c26 n26 H.ok (H.fn 26 (by decide)) rfl rfl k26
  refine (ex2 (mf_of mth_find isT_bytes find4_b) ?_)
  rcases found4 o (Nat.zero_le _) (Nat.le_refl _) with ⟨e, _⟩ | ⟨i, e, _, _, h3, _⟩
  · refine rwr (show foundAt o [10] (some 0) (some (o.length : Int)) = -1 from e) ?_
    exact ⟨short2, rfl, List.prefix_refl _⟩
  · exact absurd rfl (h 10 (List.mem_of_getElem? h3))
theorem k27 : (decide (dName 27 = "is_name") && fits (dNs 27) (dScope 27) (dBody 27) 1 0 c27 n27) = true := by decide +kernel
inductive I27 (o : List UInt8) (σ : Sto) : Vs → Sto → Prop
  | mk {z : Option PV} : I27 o σ [some (.bytes o), z] σ
theorem t27 (H : PF X) {o : List UInt8} (ho : o.length ≤ 1000) (h0 : o ≠ []) (h : ∀ c ∈ o, 33 ≤ c.toNat ∧ c.toNat ≤ 126 ∧ c.toNat ≠ 58) : CP X (d + 1) σ "is_name" [.bytes o] (.bool true) := by
  apply cp_wp 27 1 0 c27 n27 H.ok (H.fn 27 (by decide)) rfl rfl k27
  have hp := List.length_pos_iff.mpr h0
  refine forL_ab (fun c : UInt8 => .int (c.toNat : Int)) o (fun _ => I27 o σ) (fun _ _ _ _ => trivial) ?_ ?_ _ _ .mk
  · rintro a c b hab _ _ ⟨⟩ R hR _ _
    obtain ⟨h1, h2, h3⟩ := h c (by refine rwr (hab).symm ?_; simp)
    refine bsel_of (fun q => absurd (of_decide_eq_true q) (by lia)) fun _ => ?_
    refine bsel_of (fun q => absurd (of_decide_eq_true q) (by lia)) fun _ => ?_
    refine bsel_of (fun q => absurd (eq_of_beq q) (by lia)) fun _ => hR .mk
  · rintro _ _ ⟨⟩
    refine (ex2 (H.len_b (by lia)) ⟨?_, List.prefix_refl _⟩)
    rw [decide_eq_true (show (0 : Int) < (o.length : Int) by lia)]
theorem k28 : (decide (dName 28 = "rows_of") && fits (dNs 28) (dScope 28) (dBody 28) 1 0 c28 n28) = true := by decide +kernel
theorem t28 (H : PF X) {o : List UInt8} (ho : o.length ≤ 1000) (h : ∀ c ∈ o, c ≠ 10) : CN X (d + 2) σ "rows_of" [.bytes o] [.bytes o] := by
  apply cn_wp 28 1 0 c28 n28 H.ok (H.fn 28 (by decide)) rfl rfl k28
  refine ⟨Nat.zero_le _, fun _ v s => v = [some (.bytes o), some (.ref σ.length), some (.int 0), none, none] ∧ Own1 σ σ.length [] s, ⟨0, rfl, .new (List.prefix_refl _) _⟩, ?_⟩
  rintro n _ s ⟨rfl, hO⟩
  obtain ⟨s1, g, p⟩ := t26 (d := d) (σ := s) H h
  have hO1 := hO.grow p
  refine (ex2 (H.len_b (by lia)) (ex2 g ⟨rfl, ?_⟩))
  refine (ex2 (p := some ((0 : Nat) : Int)) (s := some ((o.length : Nat) : Int)) ⟨rfl, rfl⟩ ?_)
  conv => whnf
  refine rwr (cut_nn _ (Nat.zero_le _)) ?_; rw [List.drop_zero, Nat.sub_zero, List.take_length]
  refine ⟨by lia, _, _, mf_append hO1.at_ hO1.at_ (Nat.zero_le _), ?_⟩
  refine (ex2 (H.len_b (by lia)) ?_)
  refine bsel_of (fun _ => (ex1 rfl hO1.set)) fun q => ?_
  rw [beq_self_eq_true] at q; cases q
noncomputable def ownW : List (List Nat) := [[99, 111, 110, 116, 101, 110, 116, 45, 116, 121, 112, 101], [99, 111, 110, 116, 101, 110, 116, 45, 116, 114, 97, 110, 115, 102, 101, 114, 45, 101, 110, 99, 111, 100, 105, 110, 103], [109, 105, 109, 101, 45, 118, 101, 114, 115, 105, 111, 110]]
theorem k30 : (decide (dName 30 = "without_words") && fits (dNs 30) (dScope 30) (dBody 30) 2 0 c30 n30) = true := by decide +kernel
theorem t30 (H : PF X) {n : Nat} (hn : σ[n]? = some (.lst [])) : CN X (d + 3) σ "without_words" [.ref n, .tup (ownW.map .str)] [] := by
  apply cn_wp 30 2 0 c30 n30 H.ok (H.fn 30 (by decide)) rfl rfl k30
  have hw : ∀ x ∈ ownW, (∀ c ∈ x, c < 128) ∧ x.length ≤ 1000 := by decide
  refine ⟨fun p hp => by obtain ⟨x, _, rfl⟩ := List.mem_map.mp hp; exact .str _, ?_⟩
  refine compL_gr PV.str (fun x => .str (x.map lowc)) (fun s => σ <+: s) (fun _ _ => trivial) ownW (fun _ _ _ _ R h => h) ?_ [] _ (List.prefix_refl _) ?_
  · intro x hx s hs R hR
    obtain ⟨s1, g, p⟩ := t21 (d := d) (σ := s) H (hw x hx).1 (hw x hx).2
    exact (ex2 g (hR _ (hs.trans p)))
  · intro s hs
    refine ⟨by decide, ?_⟩
    have hn1 := pre_at (pre_app s [.lst (ownW.map fun x => PV.str (x.map lowc))]) (pre_at hs hn)
    refine (ex1 hn1 ⟨hn1, Nat.zero_le _, ?_⟩)
    exact (ex1 rfl (.new (hs.trans (pre_app _ _)) _))
theorem k99 : (decide (dName 99 = "check_fields") && fits (dNs 99) (dScope 99) (dBody 99) 1 0 c99 n99) = true := by decide +kernel
theorem t99 (H : PF X) : CP X (d + 4) σ "check_fields" [.tup []] .none := by
  apply cp_wp 99 1 0 c99 n99 H.ok (H.fn 99 (by decide)) rfl rfl k99
  obtain ⟨n, s, g, O⟩ := t30 (d := d) (σ := σ ++ [.lst []]) H (at_app _ _ _)
  refine (ex2 ⟨_, H.list, .ty _, list_t (Nat.zero_le _)⟩ (ex1 H.OWN (ex2 g (ex2 (H.len_l O.at_ (Nat.zero_le _)) (ex2 (H.len_t (Nat.zero_le _)) ?_)))))
  exact ⟨rfl, (pre_app _ _).trans O.pre⟩
end
noncomputable section
variable {X : Stat} {d : Nat} {σ : Sto}
noncomputable def mNs (i j : Nat) : List Str := (mArgs i j).args.map (·.arg)
structure PK (X : Stat) (K : Frag) (cF cK cL : Addr) : Prop where
  base : K.In X.B
  nF : NameIs X "Field" (.ref cF)
  nK : NameIs X "Kind" (.ref cK)
  nL : NameIs X "Leaf" (.ref cL)
  mks : ∀ C ∈ [cF, cK, cL], makesIn K C = true ∧ keepIn K (.ref C) = true
  iF : ∃ f, findIn K (.ref cF) "__init__" = some (some (.ref f)) ∧ isFn K (.ref f) = true ∧ Fn X f (mNs 25 0) [] (mBody 25 0) (mScope 25 0)
  iK : ∃ f, findIn K (.ref cK) "__init__" = some (some (.ref f)) ∧ isFn K (.ref f) = true ∧ Fn X f (mNs 55 0) [] (mBody 55 0) (mScope 55 0)
  iL : ∃ f, findIn K (.ref cL) "__init__" = some (some (.ref f)) ∧ isFn K (.ref f) = true ∧ Fn X f (mNs 95 0) [.tup []] (mBody 95 0) (mScope 95 0)
  m2 : ∃ f, methOK K cK "is_multi" f = true ∧ Fn X f (mNs 55 2) [] (mBody 55 2) (mScope 55 2)
  m3 : ∃ f, methOK K cK "is_letter" f = true ∧ Fn X f (mNs 55 3) [] (mBody 55 3) (mScope 55 3)
  m4 : ∃ f, methOK K cK "is_text" f = true ∧ Fn X f (mNs 55 4) [] (mBody 55 4) (mScope 55 4)
  at_ : ∀ z ∈ ([(cF, "name"), (cF, "raw"), (cK, "top"), (cK, "sub"), (cK, "params"), (cL, "kind"), (cL, "octets"), (cL, "fields")] : List (Addr × Str)), attrOK K z.1 z.2 = true ∧ setOK K z.1 z.2 = true
noncomputable def Inst (σ : Sto) (n : Nat) (C : Addr) (fs : List (Str × PV)) : Prop := ∃ j, j ≠ n ∧ σ[n]? = some (.obj C j) ∧ σ[j]? = some (.ns fs)
theorem Inst.grow {σ' : Sto} {n : Nat} {C : Addr} {fs : List (Str × PV)} (h : Inst σ n C fs) (hs : σ <+: σ') : Inst σ' n C fs := let ⟨j, a, b, c⟩ := h; ⟨j, a, pre_at hs b, pre_at hs c⟩
noncomputable def CI (X : Stat) (d : Nat) (σ : Sto) (x : Str) (ps : List PV) (C : Addr) (fs : List (Str × PV)) : Prop := ∃ n σ', CF X d σ x ps (.ref n) σ' ∧ σ <+: σ' ∧ Inst σ' n C fs
noncomputable def mid (σ : Sto) (C : Addr) (fs : List (Str × PV)) : Sto := σ ++ [.ns fs] ++ [.obj C σ.length]
theorem mid_st {K : Frag} {cF cK cL C : Addr} {x : Str} {fs : List (Str × PV)} {p : PV} (P : PK X K cF cK cL) (h : setOK K C x = true) (hz : fs.length ≤ 900) : StF X (mid σ C fs) (σ.length + 1) x p (mid σ C (putF fs x p)) := by
  refine ⟨K, C, σ.length, fs, P.base, h, ?_, ?_, hz, ?_⟩
  · have := at_app (σ ++ [Cell.ns fs]) (.obj C σ.length) []
    rw [List.length_append] at this; exact this
  · exact pre_at (pre_app _ _) (at_app _ _ _)
  · unfold mid
    rw [List.set_append_left _ _ (by rw [List.length_append]; exact Nat.lt_succ_self _), List.set_append_right _ _ (Nat.le_refl _), Nat.sub_self]; rfl
theorem mid_inst {C : Addr} {fs : List (Str × PV)} : σ <+: mid σ C fs ∧ Inst (mid σ C fs) (σ.length + 1) C fs := by
  refine ⟨(pre_app _ _).trans (pre_app _ _), σ.length, by lia, ?_, pre_at (pre_app _ _) (at_app _ _ _)⟩
  have := at_app (σ ++ [Cell.ns fs]) (.obj C σ.length) []
  rw [List.length_append] at this; exact this
theorem ci_of {K : Frag} {cF cK cL C : Addr} {x : Str} {ps : List PV} {fs : List (Str × PV)} {f : Addr} (P : PK X K cF cK cL) (hC : C ∈ [cF, cK, cL]) (hx : NameIs X x (.ref C)) (hi : findIn K (.ref C) "__init__" = some (some (.ref f))) (hf : isFn K (.ref f) = true)
    (h : ∃ r σ', CodeV X (d + 1) (mid σ C []) (.ref f) (.ref (σ.length + 1) :: ps) r σ' ∧ (r = .none ∧ σ' = mid σ C fs)) : CI X (d + 2) σ x ps C fs := by
  obtain ⟨_, _, h, rfl, rfl⟩ := h
  obtain ⟨m1, m2⟩ := P.mks C hC
  exact (ex2 ⟨_, hx, .kl P.base m2, call_cls P.base m1 hi hf h⟩ mid_inst)
noncomputable def n25 : List Str := ["self", "name", "raw"]
noncomputable def c25 : CS := (.seta (.var 0) "name" (.var 1)
  (.seta (.var 0) "raw" (.var 2)
  .done))
noncomputable def n55i : List Str := ["self", "top", "sub", "params"]
noncomputable def c55i : CS := (.seta (.var 0) "top" (.var 1)
  (.seta (.var 0) "sub" (.var 2)
  (.seta (.var 0) "params" (.var 3)
  .done)))
noncomputable def n95i : List Str := ["self", "kind", "octets", "fields"]
noncomputable def c95i : CS := (.seta (.var 0) "kind" (.var 1)
  (.seta (.var 0) "octets" (.var 2)
  (.seta (.var 0) "fields" (.var 3)
  .done)))
theorem k25 : fits (mNs 25 0) (mScope 25 0) (mBody 25 0) 3 0 c25 n25 = true := by decide +kernel
theorem k55i : fits (mNs 55 0) (mScope 55 0) (mBody 55 0) 4 0 c55i n55i = true := by decide +kernel
theorem k95i : fits (mNs 95 0) (mScope 95 0) (mBody 95 0) 3 1 c95i n95i = true := by decide +kernel
variable {K : Frag} {cF cK cL : Addr}
theorem t25 (H : PF X) (P : PK X K cF cK cL) (a b : PV) : CI X (d + 2) σ "Field" [a, b] cF [("name", a), ("raw", b)] := by
  obtain ⟨f, h1, h2, h3⟩ := P.iF
  refine ci_of P (by simp) P.nF h1 h2 (code_wp (k := 3) (j := 0) H.ok h3 rfl rfl k25 ?_)
  exact (ex1 (mid_st P (P.at_ (cF, "name") (by simp)).2 (Nat.zero_le _)) (ex1 (mid_st P (P.at_ (cF, "raw") (by simp)).2 (Nat.le_trans (putF_len _ _ _) (show 0 + 1 ≤ 900 by decide))) ⟨rfl, rfl⟩))
theorem t55i (H : PF X) (P : PK X K cF cK cL) (a b c : PV) : CI X (d + 2) σ "Kind" [a, b, c] cK [("top", a), ("sub", b), ("params", c)] := by
  obtain ⟨f, h1, h2, h3⟩ := P.iK
  refine ci_of P (by simp) P.nK h1 h2 (code_wp (k := 4) (j := 0) H.ok h3 rfl rfl k55i ?_)
  exact (ex1 (mid_st P (P.at_ (cK, "top") (by simp)).2 (Nat.zero_le _)) (ex1 (mid_st P (P.at_ (cK, "sub") (by simp)).2 (Nat.le_trans (putF_len _ _ _) (show 0 + 1 ≤ 900 by decide))) (ex1 (mid_st P (P.at_ (cK, "params") (by simp)).2 (Nat.le_trans (putF_len _ _ _) (Nat.succ_le_succ (Nat.le_trans (putF_len _ _ _) (show 0 + 1 ≤ 899 by decide))))) ⟨rfl, rfl⟩)))
theorem t95i (H : PF X) (P : PK X K cF cK cL) (a b : PV) : CI X (d + 2) σ "Leaf" [a, b] cL [("kind", a), ("octets", b), ("fields", .tup [])] := by
  obtain ⟨f, h1, h2, h3⟩ := P.iL
  refine ci_of P (by simp) P.nL h1 h2 (code_wp (k := 3) (j := 1) H.ok h3 rfl rfl k95i ?_)
  exact (ex1 (mid_st P (P.at_ (cL, "kind") (by simp)).2 (Nat.zero_le _)) (ex1 (mid_st P (P.at_ (cL, "octets") (by simp)).2 (Nat.le_trans (putF_len _ _ _) (show 0 + 1 ≤ 900 by decide))) (ex1 (mid_st P (P.at_ (cL, "fields") (by simp)).2 (Nat.le_trans (putF_len _ _ _) (Nat.succ_le_succ (Nat.le_trans (putF_len _ _ _) (show 0 + 1 ≤ 899 by decide))))) ⟨rfl, rfl⟩)))
theorem at_of {C : Addr} {x : Str} {fs : List (Str × PV)} {n : Nat} {p : PV} (P : PK X K cF cK cL) (h : attrOK K C x = true) (hi : Inst σ n C fs) (hf : fs.lookup x = some p) (hp : p.plain = true) : AtF X σ n x p := let ⟨j, _, a, b⟩ := hi; ⟨K, C, j, fs, P.base, h, a, b, hf, hp⟩
noncomputable def n55m : List Str := ["self"]
noncomputable def c55m2 : CS := (.ret (.cmp .Eq (.attr (.var 0) "top") (.str [109, 117, 108, 116, 105, 112, 97, 114, 116])))
noncomputable def c55m3 : CS := (.ret (.vall .And (.vchc .And (.cmp .Eq (.attr (.var 0) "top") (.str [109, 101, 115, 115, 97, 103, 101])) (.vlast (.cmp .Eq (.attr (.var 0) "sub") (.str [114, 102, 99, 56, 50, 50]))))))
noncomputable def c55m4 : CS := (.ret (.cmp .Eq (.attr (.var 0) "top") (.str [116, 101, 120, 116])))
theorem k55m2 : fits (mNs 55 2) (mScope 55 2) (mBody 55 2) 1 0 c55m2 n55m = true := by decide +kernel
theorem k55m3 : fits (mNs 55 3) (mScope 55 3) (mBody 55 3) 1 0 c55m3 n55m = true := by decide +kernel
theorem k55m4 : fits (mNs 55 4) (mScope 55 4) (mBody 55 4) 1 0 c55m4 n55m = true := by decide +kernel
theorem im_of {C f : Addr} {x : Str} {fs : List (Str × PV)} {n : Nat} {r : PV} {σ' : Sto} (P : PK X K cF cK cL) (h : methOK K C x f = true) (hi : Inst σ n C fs) (hf : fs.lookup x = none) (hc : ∃ p s, CodeV X d σ (.ref f) [.ref n] p s ∧ (p = r ∧ s = σ')) : IMF X d σ n x r σ' := by
  obtain ⟨j, _, a, b⟩ := hi
  obtain ⟨_, _, g, rfl, rfl⟩ := hc
  exact ⟨K, C, j, f, fs, P.base, h, a, b, hf, g.call⟩
variable {n m : Nat} {a b : List Nat}
theorem t55m2 (H : PF X) (P : PK X K cF cK cL) (hi : Inst σ n cK [("top", .str a), ("sub", .str b), ("params", .ref m)]) : IMF X (d + 1) σ n "is_multi" (.bool (a == [109, 117, 108, 116, 105, 112, 97, 114, 116])) σ := by
  obtain ⟨f, h1, h2⟩ := P.m2
  refine im_of P h1 hi rfl (code_wp (k := 1) (j := 0) H.ok h2 rfl rfl k55m2 ?_)
  exact (ex1 (at_of P (P.at_ (cK, "top") (by simp)).1 hi rfl rfl) ⟨rfl, rfl⟩)
theorem t55m3 (H : PF X) (P : PK X K cF cK cL) (hi : Inst σ n cK [("top", .str a), ("sub", .str b), ("params", .ref m)]) (ha : (a == [109, 101, 115, 115, 97, 103, 101]) = false) : IMF X (d + 1) σ n "is_letter" (.bool false) σ := by
  obtain ⟨f, h1, h2⟩ := P.m3
  refine im_of P h1 hi rfl (code_wp (k := 1) (j := 0) H.ok h2 rfl rfl k55m3 ?_)
  refine (ex1 (at_of P (P.at_ (cK, "top") (by simp)).1 hi rfl rfl) ?_)
  exact bsel_of (fun h => by rw [ha] at h; exact ff h) fun h => ⟨rfl, rfl⟩
theorem t55m4 (H : PF X) (P : PK X K cF cK cL) (hi : Inst σ n cK [("top", .str a), ("sub", .str b), ("params", .ref m)]) : IMF X (d + 1) σ n "is_text" (.bool (a == [116, 101, 120, 116])) σ := by
  obtain ⟨f, h1, h2⟩ := P.m4
  refine im_of P h1 hi rfl (code_wp (k := 1) (j := 0) H.ok h2 rfl rfl k55m4 ?_)
  exact (ex1 (at_of P (P.at_ (cK, "top") (by simp)).1 hi rfl rfl) ⟨rfl, rfl⟩)
end
noncomputable section
variable {X : Stat} {d : Nat} {σ : Sto} {K : Frag} {cF cK cL : Addr}
theorem slc_l' {value : Expr} {n : Nat} {l : List PV} {lo hi : Option Int} (hl : σ[n]? = some (.lst l)) (hz : l.length ≤ 16777216) : Slc X d σ value (.ref n) lo hi (.ref σ.length) (σ ++ [.lst (cut l lo hi)]) := by
  intro A s ι slice v vl vu Q E g S R P1 P2 hs k
  cases R with
  | ref hn =>
    obtain ⟨vs, kk, e, Rl⟩ := S.lst n l hl
    have T1 := Step.push S { cls := .type "slice", data := .fields #[vl, vu, .none] }
    have e1 : (s.heap.push { cls := .type "slice", data := .fields #[vl, vu, .none] }).get? (ι n) = some (listOf vs.toArray kk) := Heap.get?_push_of_some _ e
    refine tail_any (Heap.IsList.typeIs (s := { s with heap := s.heap.push { cls := .type "slice", data := .fields #[vl, vu, .none] } }) (isList_of e1)) list_getitem_lookup
      (wpAny_getItem_list_slice (isList_of e1) (Heap.IsSliceOf.new ..) P1 P2 .none (by simp) ?_ (by rw [sizeLine_eq]; simp; rw [← Rl.1]; exact hz)) (hs _ _)
    have R1 := (reps_cut (Rl.step S T1) lo hi)
    have T2 := Step.pushList (k := 0) T1.sr R1
    rw [pick_eq]
    refine k _ _ s.toks _ (T1.trans T2) ?_
    have := Rep.ref (h := (s.heap.push { cls := .type "slice", data := .fields #[vl, vu, .none] }).push (listOf (cut vs lo hi).toArray 0)) (ι := fun i => if i = σ.length then (s.heap.push { cls := .type "slice", data := .fields #[vl, vu, .none] }).objs.size else ι i) (k := (σ ++ [Cell.lst (cut l lo hi)]).length) (n := σ.length) (by simp)
    simpa using this
noncomputable def n31 : List Str := ["field", "row"]
noncomputable def c31 : CS := (.ite (.tnot (.tval (.call "is_name" (.attr (.var 0) "name") .nil)))
  (.ret (.bool false))
  .done
  (.for_ .one [1] (.slc false (.call "rows_of" (.attr (.var 0) "raw") .nil) (.osome (.int 1)) .onone)
  (.ite (.tall .Or (.chc .Or (.tcmp .Eq (.call "len" (.var 1) .nil) (.int 0)) (.chc .Or (.tcmp .NotIn (.idx (.var 1) (.int 0)) (.glb "WHITE")) (.chn .Or))))
  (.ret (.bool false))
  .done
  .done)
  (.ret (.bool true))))
noncomputable def n32 : List Str := ["fields", "field"]
noncomputable def c32 : CS := (.for_ .one [1] (.var 0)
  (.ite (.tnot (.tval (.call "is_sound" (.var 1) .nil)))
  .junk
  .done
  .done)
  (.ret (.meth (.byt []) "join" (.comp .one ["field"] [] (.bin .Add (.bin .Add (.bin .Add (.attr (.var 0) "name") (.byt [58])) (.attr (.var 0) "raw")) (.glb "CRLF")) (.var 0) .yes) .nil)))
noncomputable def n66 : List Str := ["head", "params", "rows", "name"]
noncomputable def c66 : CS := (.assign 2 (.lst (.cons (.var 0) .nil))
  (.for_ .one [3] (.call "sorted" (.var 1) .nil)
  (.expr (.meth (.var 2) "extend" (.comp .one ["row"] [] (.bin .Add (.byt [32]) (.var 0)) (.call "param_rows" (.var 3) (.cons (.idx (.var 1) (.var 3)) .nil)) .yes) .nil)
  .done)
  (.ret (.meth (.bin .Add (.byt [59]) (.glb "CRLF")) "join" (.var 2) .nil))))
structure Sound1 (a b : List UInt8) : Prop where
  len : a.length ≤ 100 ∧ b.length ≤ 300
  ne : a ≠ []
  name : ∀ c ∈ a, 33 ≤ c.toNat ∧ c.toNat ≤ 126 ∧ c.toNat ≠ 58
  raw : ∀ c ∈ b, c ≠ 10
noncomputable def flds (a b : List UInt8) : List (Str × PV) := [("name", .bytes a), ("raw", .bytes b)]
theorem k31 : (decide (dName 31 = "is_sound") && fits (dNs 31) (dScope 31) (dBody 31) 1 0 c31 n31) = true := by decide +kernel
theorem t31 (H : PF X) (P : PK X K cF cK cL) {n : Nat} {a b : List UInt8} (hi : Inst σ n cF (flds a b)) (g : Sound1 a b) : CP X (d + 3) σ "is_sound" [.ref n] (.bool true) := by
  apply cp_wp 31 1 0 c31 n31 H.ok (H.fn 31 (by decide)) rfl rfl k31
  have hg := g.len
  obtain ⟨s1, g1, p1⟩ := t27 (d := d + 1) (σ := σ) H (o := a) (by lia) g.ne g.name
  refine (ex1 (at_of P (P.at_ (cF, "name") (by simp)).1 hi rfl rfl) (ex2 g1 ?_))
  obtain ⟨m, s2, g2, O2⟩ := t28 (d := d) (σ := s1) H (o := b) (by lia) g.raw
  refine (ex1 (at_of P (P.at_ (cF, "raw") (by simp)).1 (hi.grow p1) rfl rfl) (ex2 g2 ?_))
  refine (ex2 (p := some ((1 : Nat) : Int)) (s := none) ⟨rfl, rfl⟩ ?_)
  refine (ex2 (fun _ _ => slc_l' O2.at_ short1) ?_)
  rw [cut_a]
  refine (ex1 (at_app _ _ _) ⟨at_app _ _ _, rfl, (p1.trans O2.pre).trans (pre_app _ _)⟩)
theorem k32 : (decide (dName 32 = "write_fields") && fits (dNs 32) (dScope 32) (dBody 32) 1 0 c32 n32) = true := by decide +kernel
inductive I32 (n : Nat) (σ : Sto) : Vs → Sto → Prop
  | mk {z : Option PV} {s : Sto} (h : σ <+: s) : I32 n σ [some (.ref n), z] s
theorem I32.pre {n : Nat} {σ : Sto} {v : Vs} {s : Sto} (h : I32 n σ v s) : σ <+: s := by cases h with | mk h => exact h
theorem t32 (H : PF X) (P : PK X K cF cK cL) {n : Nat} {F : List (Nat × List UInt8 × List UInt8)} (hn : σ[n]? = some (.lst (F.map fun z => .ref z.1))) (hF : ∀ z ∈ F, Inst σ z.1 cF (flds z.2.1 z.2.2) ∧ Sound1 z.2.1 z.2.2) (hl : F.length ≤ 10) :
    CP X (d + 4) σ "write_fields" [.ref n] (.bytes (F.map fun z => z.2.1 ++ [58] ++ z.2.2 ++ [13, 10]).flatten) := by
  apply cp_wp 32 1 0 c32 n32 H.ok (H.fn 32 (by decide)) rfl rfl k32
  refine (ex1 hn ?_)
  refine forL_ab (fun z : Nat × List UInt8 × List UInt8 => .ref z.1) F (fun _ => I32 n σ) (fun _ _ _ h => pre_at h.pre hn) ?_ ?_ _ _ (.mk (List.prefix_refl _))
  · rintro a z b hab _ s @⟨y, _, hs⟩ R hR _ _
    obtain ⟨hi, hg⟩ := hF z (by refine rwr (hab).symm ?_; simp)
    obtain ⟨s1, g1, p1⟩ := t31 (d := d) (σ := s) H P (hi.grow hs) hg
    exact (ex2 g1 (hR (.mk (hs.trans p1))))
  · rintro _ s @⟨y, _, hs⟩
    refine (ex1 (pre_at hs hn) ?_)
    refine compL_map (fun z : Nat × List UInt8 × List UInt8 => .ref z.1) (fun z => .bytes (z.2.1 ++ [58] ++ z.2.2 ++ [13, 10])) (pre_at hs hn) _ (fun _ _ R h => h) ?_ _ ?_
    · intro z hz R hR
      obtain ⟨hi, hg⟩ := hF z hz
      have hgl := hg.len
      refine (ex1 (at_of P (P.at_ (cF, "name") (by simp)).1 (hi.grow hs) rfl rfl) ⟨by show _ + 1 ≤ _; lia, _, at_of P (P.at_ (cF, "raw") (by simp)).1 (hi.grow hs) rfl rfl, by rw [List.length_append]; show _ + 1 + _ ≤ _; lia, _, H.CRLF, by rw [List.length_append, List.length_append]; show _ + 1 + _ + 2 ≤ _; lia, hR⟩)
    · have e : F.map (fun z => PV.bytes (z.2.1 ++ [58] ++ z.2.2 ++ [13, 10])) = (F.map fun z => z.2.1 ++ [58] ++ z.2.2 ++ [13, 10]).map .bytes := by rw [List.map_map]; rfl
      have hs2 := sum_len (k := 403) (l := F.map fun z => z.2.1 ++ [58] ++ z.2.2 ++ [13, 10]) fun x hx => by
        obtain ⟨z, hz, rfl⟩ := List.mem_map.mp hx
        have hgl := (hF z hz).2.len
        rw [List.length_append, List.length_append, List.length_append]; show _ + 1 + _ + 2 ≤ _; lia
      rw [List.length_map] at hs2
      rw [List.nil_append, e]
      refine ⟨by rw [List.length_map, List.length_map]; lia, _, _, mf_of mth_join isT_bytes (join_b (at_app _ _ _) (by show _ + 0 * _ ≤ _; lia)), by rw [joinB_nil], hs.trans (pre_app _ _)⟩
theorem k66 : (decide (dName 66 = "write_params") && fits (dNs 66) (dScope 66) (dBody 66) 2 0 c66 n66) = true := by decide +kernel
theorem t66 (H : PF X) {m : Nat} {b : List UInt8} (hm : σ[m]? = some (.raw (NoKeys X))) (hb : b.length ≤ 1000) : CP X (d + 1) σ "write_params" [.bytes b, .ref m] (.bytes b) := by
  apply cp_wp 66 2 0 c66 n66 H.ok (H.fn 66 (by decide)) rfl rfl k66
  have h1 := pre_at (pre_app σ [.lst [.bytes b]]) hm
  refine ⟨short1, _, _, ⟨_, H.sorted, .bi _, sorted0 H.mods h1⟩, _, at_app _ _ _, at_app _ _ _, ?_⟩
  refine (ex1 H.CRLF ⟨by show 1 + 2 ≤ 16777216; decide, _, _, mf_of mth_join isT_bytes (join_b (bs := [b]) (pre_at (pre_app _ _) (at_app _ _ _)) (by show (b.length + 0) + 3 * 1 ≤ _; lia)), rfl, (pre_app _ _).trans (pre_app _ _)⟩)
end
noncomputable section
variable {X : Stat} {d : Nat} {σ : Sto} {K : Frag} {cF cK cL : Addr}
noncomputable def n67 : List Str := ["kind", "words", "word", "octets"]
noncomputable def c67 : CS := (.assign 1 (.lst .nil)
  (.for_ .one [2] (.tup (.cons (.attr (.var 0) "top") (.cons (.attr (.var 0) "sub") .nil)))
  (.assign 3 (.call "bytes" (.comp .one ["sign"] [] (.call "ord" (.var 0) .nil) (.var 2) (.one (.tcmp .Lt (.call "ord" (.var 0) .nil) (.int 128)))) .nil)
  (.ite (.tall .Or (.chc .Or (.tcmp .Lt (.call "len" (.var 3) .nil) (.call "len" (.var 2) .nil)) (.chc .Or (.tnot (.tval (.call "is_token" (.var 3) .nil))) (.chc .Or (.tcmp .NotEq (.call "lower_text" (.var 2) .nil) (.var 2)) (.chn .Or)))))
  .junk
  .done
  (.expr (.meth (.var 1) "append" (.var 3) .nil)
  .done)))
  (.ret (.call "write_params" (.meth (.byt [47]) "join" (.var 1) .nil) (.cons (.attr (.var 0) "params") .nil)))))
structure Word (x : List Nat) : Prop where
  ne : x ≠ []
  len : x.length ≤ 100
  lt : ∀ c ∈ x, c < 128
  tok : ∀ c ∈ x, tokC c.toUInt8 = true
  low : x.map lowc = x
noncomputable def wordB (x : List Nat) : List UInt8 := x.map (·.toUInt8)
noncomputable def kflds (a b : List Nat) (m : Nat) : List (Str × PV) := [("top", .str a), ("sub", .str b), ("params", .ref m)]
theorem k67 : (decide (dName 67 = "write_kind") && fits (dNs 67) (dScope 67) (dBody 67) 1 0 c67 n67) = true := by decide +kernel
inductive I67 (n : Nat) (σ : Sto) (u : List (List Nat)) : Vs → Sto → Prop
  | mk {z w : Option PV} {s : Sto} (hO : Own1 σ σ.length ((u.map wordB).map .bytes) s) : I67 n σ u [some (.ref n), some (.ref σ.length), z, w] s
theorem t67 (H : PF X) (P : PK X K cF cK cL) {n m : Nat} {a b : List Nat} (hi : Inst σ n cK (kflds a b m)) (hm : σ[m]? = some (.raw (NoKeys X))) (ha : Word a) (hb : Word b) : CP X (d + 3) σ "write_kind" [.ref n] (.bytes (wordB a ++ [47] ++ wordB b)) := by
  apply cp_wp 67 1 0 c67 n67 H.ok (H.fn 67 (by decide)) rfl rfl k67
  have hi1 := hi.grow (pre_app σ [.lst []])
  have hab : ∀ x ∈ [a, b], Word x := fun x hx => by
    rcases List.mem_cons.mp hx with rfl | hx
    · exact ha
    · refine rwr (List.mem_singleton.mp hx) ?_; exact hb
  refine ⟨Nat.zero_le _, _, at_of P (P.at_ (cK, "top") (by simp)).1 hi1 rfl rfl, _, at_of P (P.at_ (cK, "sub") (by simp)).1 hi1 rfl rfl, short2, ?_⟩
  refine ⟨fun p hp => by obtain ⟨x, _, rfl⟩ := List.mem_map.mp (show p ∈ [a, b].map PV.str from hp); exact .str _, ?_⟩
  refine forL_ab PV.str [a, b] (I67 n σ) (fun _ _ _ _ => trivial) ?_ ?_ _ _ (.mk (.new (List.prefix_refl _) _))
  · rintro u x c huc _ s @⟨z, w, _, hO⟩ R hR _ _
    have hx := hab x (by refine rwr (huc).symm ?_; simp)
    have hul : u.length ≤ 2 := by have := congrArg List.length huc; rw [List.length_append] at this; exact Nat.le_trans (Nat.le_add_right _ _) (Nat.le_of_eq this)
    have hxl := hx.len
    refine compL_filter (fun c : Nat => .str [c]) (fun _ => true) (fun c : Nat => .int (c : Int)) trivial _ ?_ ?_ _ ?_
    · intro c hc R hR
      refine (ex2 ⟨_, H.ord, .bi _, ord_s⟩ ?_)
      conv => whnf
      rw [decide_eq_true (show ((c : Nat) : Int) < 128 by have := hx.lt c hc; lia)]
      exact hR
    · intro c hc _ R hR
      exact (ex2 ⟨_, H.ord, .bi _, ord_s⟩ hR)
    · have e0 : (x.filter fun _ => true) = x := List.filter_eq_self.mpr fun _ _ => rfl
      have e1 : x.map (fun c : Nat => PV.int (c : Int)) = (wordB x).map fun c => .int (c.toNat : Int) := by
        unfold wordB
        rw [List.map_map]
        refine List.map_congr_left fun c hc => ?_
        have := hx.lt c hc
        show PV.int _ = PV.int _
        congr 1
        simp; lia
      have wl : (wordB x).length = x.length := List.length_map _
      rw [List.nil_append, e0, e1]
      refine ⟨by rw [List.length_map]; lia, _, _, H.bytes_l (at_app _ _ _) (by lia), ?_⟩
      have hO1 := hO.grow (pre_app s [.lst ((wordB x).map fun c => .int (c.toNat : Int))])
      generalize s ++ [Cell.lst ((wordB x).map fun c => .int (c.toNat : Int))] = s1 at hO1
      refine (ex2 (H.len_b (by lia)) ⟨_, _, H.len_s (by lia), ?_⟩)
      refine rwr wl ?_
      refine bsel_of (fun q => absurd (of_decide_eq_true q) (by lia)) fun _ => ?_
      obtain ⟨s2, g2, p2⟩ := t57 (d := d) (σ := s1) H (o := wordB x) (by lia) (fun e => hx.ne (List.length_eq_zero_iff.mp (by refine rwr (wl).symm ?_; refine rwr e ?_; rfl))) (fun c hc => by obtain ⟨y, hy, rfl⟩ := List.mem_map.mp hc; exact hx.tok y hy)
      obtain ⟨s3, g3, p3⟩ := t21 (d := d) (σ := s2) H hx.lt (by lia)
      rw [hx.low] at g3
      refine (ex2 g2 (ex2 g3 ?_))
      have e9 : (x != x) = false := by rw [bne_self_eq_false]
      refine bsel_of (fun q => by rw [show (x != x) = true from q] at e9; cases e9) fun _ => ?_
      have hO3 := (hO1.grow p2).grow p3
      refine (ex2 (mf_append hO3.at_ hO3.at_ (by rw [List.length_map, List.length_map]; lia)) (hR (.mk ?_)))
      have := hO3.set (l' := ((u ++ [x]).map wordB).map .bytes)
      rw [List.map_append, List.map_append] at this ⊢
      exact this
  · rintro _ s @⟨z, w, _, hO⟩
    have hal := ha.len
    have hbl := hb.len
    have l1 : (wordB a).length = a.length := List.length_map _
    have l2 : (wordB b).length = b.length := List.length_map _
    have hj := join_b (X := X) (d := d + 2) (σ := s) (sep := [47]) (bs := [wordB a, wordB b]) hO.at_ (by show ((wordB a).length + ((wordB b).length + 0)) + 1 * 2 ≤ _; lia)
    refine (ex2 (mf_of mth_join isT_bytes hj) (ex1 (at_of P (P.at_ (cK, "params") (by simp)).1 (hi.grow hO.pre) rfl rfl) ?_))
    obtain ⟨s1, g1, p1⟩ := t66 (d := d + 1) (σ := s) H (b := joinB [47] [wordB a, wordB b]) (pre_at hO.pre hm) (by show (wordB a ++ [47] ++ wordB b).length ≤ _; rw [List.length_append, List.length_append]; show _ + 1 + _ ≤ _; lia)
    exact (ex2 g1 ⟨rfl, hO.pre.trans p1⟩)
end
noncomputable section
variable {X : Stat} {d : Nat} {σ : Sto} {K : Frag} {cF cK cL : Addr}
noncomputable def ctB : List UInt8 := [67, 111, 110, 116, 101, 110, 116, 45, 84, 121, 112, 101]
noncomputable def cteB : List UInt8 := [67, 111, 110, 116, 101, 110, 116, 45, 84, 114, 97, 110, 115, 102, 101, 114, 45, 69, 110, 99, 111, 100, 105, 110, 103]
noncomputable def n100 : List Str := ["fields", "kind", "encoding", "own"]
noncomputable def c100r : CS := (.ret (.bin .Add (.call "write_fields" (.bin .Add (.var 3) (.call "list" (.var 0) .nil)) .nil) (.glb "CRLF")))
noncomputable def c100 : CS := (.expr (.call "check_fields" (.var 0) .nil)
  (.assign 3 (.lst (.cons (.call "Field" (.byt [67, 111, 110, 116, 101, 110, 116, 45, 84, 121, 112, 101]) (.cons (.bin .Add (.byt [32]) (.call "write_kind" (.var 1) .nil)) .nil)) .nil))
  (.ite (.tcmp .NotEq (.var 2) (.glb "PLAIN_ENCODING"))
  (.expr (.meth (.var 3) "append" (.call "Field" (.byt [67, 111, 110, 116, 101, 110, 116, 45, 84, 114, 97, 110, 115, 102, 101, 114, 45, 69, 110, 99, 111, 100, 105, 110, 103]) (.cons (.bin .Add (.byt [32]) (.call "bytes" (.comp .one ["sign"] [] (.call "ord" (.var 0) .nil) (.var 2) .yes) .nil)) .nil)) .nil)
  .done)
  .done
  c100r)))
noncomputable def fldB (a b : List UInt8) : List UInt8 := a ++ [58] ++ b ++ [13, 10]
noncomputable def headB (k : List UInt8) (e : List Nat) : List UInt8 := fldB ctB ([32] ++ k) ++ (if e == sevenbit then [] else fldB cteB ([32] ++ wordB e)) ++ [13, 10]
theorem r100 (H : PF X) (P : PK X K cF cK cL) {n : Nat} {k e : PV} {F : List (Nat × List UInt8 × List UInt8)} {T : List UInt8} {s : Sto} (hs : σ <+: s) (hn : s[n]? = some (.lst (F.map fun z => .ref z.1))) (hF : ∀ z ∈ F, Inst s z.1 cF (flds z.2.1 z.2.2) ∧ Sound1 z.2.1 z.2.2) (hl : F.length ≤ 10) (hT : (F.map fun z => fldB z.2.1 z.2.2).flatten ++ [13, 10] = T) :
    wpS X (d + 4) c100r [some (.tup []), some k, some e, some (.ref n)] s (backQ fun p s => p = .bytes T ∧ σ <+: s) := by
  subst hT
  refine (ex2 ⟨_, H.list, .ty _, list_t (Nat.zero_le _)⟩ ?_)
  refine (ex2 ⟨pre_at (pre_app _ _) hn, at_app _ _ _, by rw [List.length_map]; show _ + 0 ≤ _; lia⟩ ?_)
  rw [List.append_nil]
  have p2 : s <+: s ++ [.lst []] ++ [.lst (F.map fun z => .ref z.1)] := (pre_app _ _).trans (pre_app _ _)
  obtain ⟨s1, g1, p1⟩ := t32 (d := d) (σ := s ++ [.lst []] ++ [.lst (F.map fun z => .ref z.1)]) H P (at_app _ _ _) (fun z hz => ⟨((hF z hz).1.grow p2), (hF z hz).2⟩) hl
  have hz := flatten_len (k := 403) (l := F.map fun z => z.2.1 ++ [58] ++ z.2.2 ++ [13, 10]) fun x hx => by
    obtain ⟨z, hz, rfl⟩ := List.mem_map.mp hx
    have hgl := (hF z hz).2.len
    rw [List.length_append, List.length_append, List.length_append]; show _ + 1 + _ + 2 ≤ _; lia
  rw [List.length_map] at hz
  exact (ex2 g1 (ex1 H.CRLF ⟨by show _ + 2 ≤ _; lia, rfl, (hs.trans p2).trans p1⟩))
theorem k100 : (decide (dName 100 = "head_octets") && fits (dNs 100) (dScope 100) (dBody 100) 3 0 c100 n100) = true := by decide +kernel
theorem t100 (H : PF X) (P : PK X K cF cK cL) {n m : Nat} {a b e : List Nat} (hi : Inst σ n cK (kflds a b m)) (hm : σ[m]? = some (.raw (NoKeys X))) (ha : Word a) (hb : Word b) (he : e.length ≤ 100 ∧ ∀ c ∈ e, 32 < c ∧ c < 128) : CP X (d + 5) σ "head_octets" [.tup [], .ref n, .str e] (.bytes (headB (wordB a ++ [47] ++ wordB b) e)) := by
  apply cp_wp 100 3 0 c100 n100 H.ok (H.fn 100 (by decide)) rfl rfl k100
  obtain ⟨s1, g1, p1⟩ := t99 (d := d) (σ := σ) H
  obtain ⟨s2, g2, p2⟩ := t67 (d := d + 1) (σ := s1) H P (hi.grow p1) (pre_at p1 hm) ha hb
  obtain ⟨f, s3, g3, p3, i3⟩ := t25 (d := d + 2) (σ := s2) H P (.bytes ctB) (.bytes ([32] ++ (wordB a ++ [47] ++ wordB b)))
  have l1 : (wordB a).length = a.length := List.length_map _
  have l2 : (wordB b).length = b.length := List.length_map _
  have hal := ha.len
  have hbl := hb.len
  have wlow : ∀ x : List Nat, (∀ c ∈ x, 32 < c ∧ c < 128) → ∀ c ∈ wordB x, c ≠ 10 := fun x hx c hc e => by
    obtain ⟨y, hy, rfl⟩ := List.mem_map.mp hc
    have := hx y hy
    have h2 := congrArg UInt8.toNat e
    simp at h2; lia
  have wtok : ∀ x : List Nat, Word x → ∀ c ∈ x, 32 < c ∧ c < 128 := fun x hx c hc => by
    have h1 := hx.tok c hc
    have h2 := hx.lt c hc
    unfold tokC at h1
    have h3 := of_decide_eq_true (and_ok h1).1
    have : (c.toUInt8.toNat : Int) = c := by simp; lia
    lia
  have snd1 : Sound1 ctB ([32] ++ (wordB a ++ [47] ++ wordB b)) := ⟨⟨by decide, by simp only [List.length_append, List.length_singleton]; lia⟩, by decide, by decide, fun c hc => by
    simp only [List.mem_append, List.mem_singleton] at hc
    rcases hc with rfl | (hc | rfl) | hc
    · decide
    · exact wlow a (wtok a ha) c hc
    · decide
    · exact wlow b (wtok b hb) c hc⟩
  refine (ex2 g1 (ex2 g2 ⟨by simp only [List.length_append, List.length_singleton]; lia, _, _, g3, short1, _, H.PLAIN, ?_⟩))
  have O0 : Own1 σ s3.length [.ref f] (s3 ++ [.lst [.ref f]]) := .new (((p1.trans p2).trans p3)) _
  have i4 := i3.grow (pre_app s3 [.lst [.ref f]])
  have hplain : (e == sevenbit) = true → headB (wordB a ++ [47] ++ wordB b) e = ([(f, ctB, [32] ++ (wordB a ++ [47] ++ wordB b))].map fun z => fldB z.2.1 z.2.2).flatten ++ [13, 10] := fun h => by
    unfold headB; refine rwr (if_pos h) ?_; rw [List.append_nil]; simp
  refine bsel_of (fun h => ?_) fun h => ?_
  · have h7 : (e == sevenbit) = false := by
      cases q : e == sevenbit with
      | false => rfl
      | true => have h : (!(e == sevenbit)) = true := h; rw [q] at h; exact ff h
    have e1 : e.map (fun c : Nat => PV.int (c : Int)) = (wordB e).map fun c => .int (c.toNat : Int) := by
      unfold wordB
      rw [List.map_map]
      refine List.map_congr_left fun c hc => ?_
      have := he.2 c hc
      show PV.int _ = PV.int _
      congr 1
      simp; lia
    have wl : (wordB e).length = e.length := List.length_map _
    have hel := he.1
    refine compL_map (fun c : Nat => .str [c]) (fun c : Nat => .int (c : Int)) trivial _ (fun _ _ R h => h) (fun c _ R hR => (ex2 ⟨_, H.ord, .bi _, ord_s⟩ hR)) _ ?_
    rw [List.nil_append, e1]
    have p5 := pre_app (s3 ++ [.lst [.ref f]]) [.lst ((wordB e).map fun c => .int (c.toNat : Int))]
    have hb5 := H.bytes_l (X := X) (d := d + 4) (σ := s3 ++ [.lst [.ref f]] ++ [.lst ((wordB e).map fun c => .int (c.toNat : Int))]) (b := wordB e) (at_app _ _ _) (by lia)
    have len5 : ((wordB e).map fun c : UInt8 => PV.int (c.toNat : Int)).length ≤ 16777216 := by rw [List.length_map]; lia
    have O5 := O0.grow p5
    have i5 := i4.grow p5
    generalize s3 ++ [Cell.lst [PV.ref f]] ++ [Cell.lst ((wordB e).map fun c : UInt8 => PV.int (c.toNat : Int))] = s5 at hb5 O5 i5
    obtain ⟨f2, s6, g6, p6, i6⟩ := t25 (d := d + 2) (σ := s5) H P (.bytes cteB) (.bytes ([32] ++ wordB e))
    have O6 := O5.grow p6
    have snd2 : Sound1 cteB ([32] ++ wordB e) := ⟨⟨by decide, by simp only [List.length_append, List.length_singleton]; lia⟩, by decide, by decide, fun c hc => by
      simp only [List.mem_append, List.mem_singleton] at hc
      rcases hc with rfl | hc
      · decide
      · exact wlow e he.2 c hc⟩
    have neL : ∀ {g : Nat} {fs : List (Str × PV)}, Inst s6 g cF fs → Inst (s6.set s3.length (.lst [.ref f, .ref f2])) g cF fs := fun ⟨j, h1, h2, h3⟩ => by
      refine (ex1 (p := j) h1 ⟨set_other h2 fun q => ?_, set_other h3 fun q => ?_⟩)
      · rw [← q, O6.at_] at h2; cases h2
      · rw [← q, O6.at_] at h3; cases h3
    refine ⟨len5, _, _, hb5, by refine rwr wl ?_; show 1 + _ ≤ _; lia, _, _, g6, _, _, mf_append O0.at_ O6.at_ short1, ?_⟩
    refine r100 H P (F := [(f, ctB, [32] ++ (wordB a ++ [47] ++ wordB b)), (f2, cteB, [32] ++ wordB e)]) (O6.set (l' := [.ref f, .ref f2])).pre (O6.set (l' := [.ref f, .ref f2])).at_ (fun z hz => ?_) (by show 2 ≤ 10; decide) ?_
    · rcases List.mem_cons.mp hz with rfl | hz
      · exact ⟨neL (i5.grow p6), snd1⟩
      · refine rwr (List.mem_singleton.mp hz) ?_; exact ⟨neL i6, snd2⟩
    · unfold headB; rw [if_neg (by refine rwr h7 ?_; decide)]; simp
  · have h7 : (e == sevenbit) = true := by
      cases q : e == sevenbit with
      | true => rfl
      | false => have h : (!(e == sevenbit)) = false := h; rw [q] at h; cases h
    exact r100 H P (F := [(f, ctB, [32] ++ (wordB a ++ [47] ++ wordB b))]) O0.pre O0.at_ (fun z hz => by refine rwr (List.mem_singleton.mp hz) ?_; exact ⟨i4, snd1⟩) (by show 1 ≤ 10; decide) (hplain h7).symm
end
noncomputable section
variable {X : Stat} {d : Nat} {σ : Sto} {K : Frag} {cF cK cL : Addr}
noncomputable def n101 : List Str := ["leaf", "kind", "encoding"]
noncomputable def c101 : CS := (.assign 1 (.attr (.var 0) "kind")
  (.ite (.tall .Or (.chc .Or (.tval (.meth0 (.var 1) "is_multi")) (.chc .Or (.tval (.meth0 (.var 1) "is_letter")) (.chn .Or))))
  .junk
  .done
  (.assign 2 (.call "choose_encoding" (.attr (.var 0) "octets") (.cons (.meth0 (.var 1) "is_text") .nil))
  (.ret (.bin .Add (.call "head_octets" (.attr (.var 0) "fields") (.cons (.var 1) (.cons (.var 2) .nil))) (.call "in_encoding" (.var 2) (.cons (.attr (.var 0) "octets") (.cons (.meth0 (.var 1) "is_text") .nil))))))))
noncomputable def txt : List Nat := [116, 101, 120, 116]
theorem encOf_ok (o : List UInt8) (t : Bool) : (encOf o t).length ≤ 100 ∧ ∀ c ∈ encOf o t, 32 < c ∧ c < 128 := by
  unfold encOf
  split
  · decide
  · split <;> decide
theorem inEnc_len {e : List Nat} {o : List UInt8} {t : Bool} (h : Short o) : (inEnc e o t).length ≤ 1100000 := by
  obtain ⟨r1, r2⟩ := h.rows t
  have h1 := b64_len (o := o)
  have h2 := qenc_len r1 r2
  have h3 := h.len
  unfold inEnc
  split
  · lia
  · split <;> lia
theorem headB_len {k : List UInt8} {e : List Nat} (hk : k.length ≤ 300) (he : e.length ≤ 100) : (headB k e).length ≤ 1000 := by
  have hw : (wordB e).length = e.length := List.length_map _
  have h1 : (fldB ctB ([32] ++ k)).length ≤ 400 := by unfold fldB ctB; simp only [List.length_append, List.length_cons, List.length_nil]; lia
  have h2 : (fldB cteB ([32] ++ wordB e)).length ≤ 400 := by unfold fldB cteB; simp only [List.length_append, List.length_cons, List.length_nil]; lia
  unfold headB
  split <;> simp only [List.length_append, List.length_cons, List.length_nil] <;> lia
theorem k101 : (decide (dName 101 = "leaf_octets") && fits (dNs 101) (dScope 101) (dBody 101) 1 0 c101 n101) = true := by decide +kernel
theorem t101 (H : PF X) (P : PK X K cF cK cL) {l n m : Nat} {a b : List Nat} {o : List UInt8} (hL : Inst σ l cL [("kind", .ref n), ("octets", .bytes o), ("fields", .tup [])]) (hi : Inst σ n cK (kflds a b m)) (hm : σ[m]? = some (.raw (NoKeys X))) (ha : Word a) (hb : Word b) (h : Short o)
    (h1 : (a == [109, 117, 108, 116, 105, 112, 97, 114, 116]) = false) (h2 : (a == [109, 101, 115, 115, 97, 103, 101]) = false) : CP X (d + 6) σ "leaf_octets" [.ref l] (.bytes (headB (wordB a ++ [47] ++ wordB b) (encOf o (a == txt)) ++ inEnc (encOf o (a == txt)) o (a == txt))) := by
  apply cp_wp 101 1 0 c101 n101 H.ok (H.fn 101 (by decide)) rfl rfl k101
  have m2 := t55m2 (d := d + 4) H P hi
  rw [h1] at m2
  obtain ⟨s1, g1, p1⟩ := t97 (d := d) (σ := σ) (t := a == txt) H h
  obtain ⟨s2, g2, p2⟩ := t100 (d := d) (σ := s1) H P (hi.grow p1) (pre_at p1 hm) ha hb (encOf_ok o (a == txt))
  obtain ⟨s3, g3, p3⟩ := t98 (d := d) (σ := s2) (e := encOf o (a == txt)) (t := a == txt) H h
  have l1 : (wordB a).length = a.length := List.length_map _
  have l2 : (wordB b).length = b.length := List.length_map _
  have hal := ha.len
  have hbl := hb.len
  have b1 := headB_len (k := wordB a ++ [47] ++ wordB b) (e := encOf o (a == txt)) (by simp only [List.length_append, List.length_singleton]; lia) (encOf_ok o (a == txt)).1
  have b2 := inEnc_len (e := encOf o (a == txt)) (t := a == txt) h
  refine (ex1 (at_of P (P.at_ (cL, "kind") (by simp)).1 hL rfl rfl) (ex2 m2 ?_))
  refine (ex2 (t55m3 (d := d + 4) H P hi h2) ?_)
  refine (ex1 (at_of P (P.at_ (cL, "octets") (by simp)).1 hL rfl rfl) (ex2 (t55m4 (d := d + 4) H P hi) (ex2 g1 ?_)))
  refine (ex1 (at_of P (P.at_ (cL, "fields") (by simp)).1 (hL.grow p1) rfl rfl) (ex2 g2 (ex1 (at_of P (P.at_ (cL, "octets") (by simp)).1 (hL.grow (p1.trans p2)) rfl rfl) (ex2 (t55m4 (d := d + 4) H P (hi.grow (p1.trans p2))) (ex2 g3 ⟨by lia, rfl, (p1.trans p2).trans p3⟩)))))
end
theorem lk_keys : typeLookup (.type "list") "keys" = pure none := by rw [typeLookup_type, builtinLookup_eq_fast]; kernel_rfl
theorem at_stored (kvs : List (Int × Value)) (k x : Int) (v : Value) : valueAt (stored kvs k v) x = if k = x then some v else valueAt kvs x := by
  unfold stored
  by_cases h : (kvs.any fun kv => decide (kv.1 = k)) = true
  · rw [if_pos h]
    have e : ((fun kv : Int × Value => decide (kv.1 = x)) ∘ fun kv : Int × Value => if kv.1 = k then (kv.1, v) else kv) = fun kv => decide (kv.1 = x) := by
      funext kv
      show decide ((if kv.1 = k then (kv.1, v) else kv).1 = x) = _
      split <;> rfl
    unfold valueAt
    rw [List.find?_map, e]
    cases hf : kvs.find? fun kv => decide (kv.1 = x) with
    | none =>
      by_cases hx : k = x
      · subst hx
        rw [List.any_eq_true] at h
        obtain ⟨kv, hm, hk⟩ := h
        exact absurd hk (List.find?_eq_none.mp hf kv hm)
      · refine rwr (if_neg hx) ?_; rfl
    | some kv =>
      have hk : kv.1 = x := of_decide_eq_true (List.find?_some (p := fun kv : Int × Value => decide (kv.1 = x)) hf)
      show some (if kv.1 = k then (kv.1, v) else kv).2 = _
      by_cases hx : k = x
      · rw [if_pos hx, if_pos (hk.trans hx.symm)]
      · rw [if_neg hx, if_neg (fun q => hx (q.symm.trans hk))]; rfl
  · rw [if_neg h]
    unfold valueAt
    rw [List.find?_append]
    by_cases hx : k = x
    · rw [if_pos hx]
      have : kvs.find? (fun kv => decide (kv.1 = x)) = none := List.find?_eq_none.mpr fun kv hm hk => h (List.any_eq_true.mpr ⟨kv, hm, by rw [hx]; exact hk⟩)
      rw [this]; simp [hx]
    · rw [if_neg hx]; simp [hx]
noncomputable def KvIs (kvs : List (Int × Value)) (f : Int → Option Int) : Prop := ∀ k, (∀ i, f k = some i → ∃ t, valueAt kvs k = some (.int i t)) ∧ (f k = none → valueAt kvs k = none)
noncomputable def upd (f : Int → Option Int) (p : Int × Int) : Int → Option Int := fun x => if p.1 = x then some p.2 else f x
theorem KvIs.put {kvs : List (Int × Value)} {f : Int → Option Int} (H : KvIs kvs f) (k v : Int) (t : Tok) : KvIs (stored kvs k (.int v t)) (upd f (k, v)) := fun x => by
  rw [at_stored]
  unfold upd
  by_cases h : k = x
  · rw [if_pos h, if_pos h]; exact ⟨fun i e => ⟨t, by cases e; rfl⟩, fun e => nomatch e⟩
  · rw [if_neg h, if_neg h]; exact H x
theorem plain_dul : plainId "dict.update.loop" = true := by decide +kernel
theorem entry_dul : entryFor table "dict.update.loop" = some Builtin.«dict.update.loop» := entryFor_of_fast (by kernel_rfl)
theorem pairs_loop {prog : Program} {w : World} {A : Around} {R : Result → Shared → Prop} {H0 : Heap} {D it lst : Addr} {vs : List Value} (hh : A.in1.handled = none) (hL : H0.IsList lst vs.toArray) (hD : H0.get? D = none) (hI : H0.get? it = none) (hDI : D ≠ it) (hz : vs.length ≤ 1000) :
    ∀ (rest : List (Int × Int)) (i : Nat) (s : Shared) (kvs : List (Int × Value)) (f : Int → Option Int) (u : Tok), vs.length = i + rest.length →
    (∀ j p, rest[j]? = some p → ∃ a t t', vs[i + j]? = some (.ref a) ∧ H0.IsTuple a #[.int p.1 t, .int p.2 t']) → (∀ b o, H0.get? b = some o → s.heap.get? b = some o) → s.heap.IsListIter it lst i → s.heap.DictOf (intKind prog w) D kvs → kvs.length ≤ i → KvIs kvs f →
    (∀ h' tk kvs', (∀ b o, H0.get? b = some o → h'.get? b = some o) → h'.DictOf (intKind prog w) D kvs' → KvIs kvs' (rest.foldl upd f) → R (.ok (.ret .none)) { s with heap := h', toks := tk }) →
    codeAny (model prog w) A (.builtin "dict.update.loop" ⟨[.ref D, .ref it, .int i u, .none], []⟩) R s
  | [], i, s, kvs, f, u, hn, hv, hk, hit, hd, hs, hf, k => by
    refine codeAny_builtin entry_dul ?_
    rw [Around.under_plainId plain_dul _]
    have hlst : s.heap.IsList lst vs.toArray := let ⟨o, e, r⟩ := hL; (ex1 (p := o) (hk _ _ e) r)
    show wpAny _ A.in1 (pyNext (.ref it) >>= _) _ _ s
    refine wpAny_bind (wpAny_pyNext_list_end hh hit hlst (by simp at hn ⊢; lia) fun h' hx => ?_)
    refine wpAny_bind (wpAny_pure (wpAny_pure (k h' s.toks kvs (fun b o e => hx b o (fun q => by rw [q, hI] at e; cases e) (hk b o e)) ?_ hf)))
    exact hd.extBut hx hDI
  | p :: rest, i, s, kvs, f, u, hn, hv, hk, hit, hd, hs, hf, k => by
    obtain ⟨a, t, t', ea, ta⟩ := hv 0 p rfl
    refine codeAny_builtin entry_dul ?_
    rw [Around.under_plainId plain_dul _]
    have hlst : s.heap.IsList lst vs.toArray := let ⟨o, e, r⟩ := hL; (ex1 (p := o) (hk _ _ e) r)
    show wpAny _ A.in1 (pyNext (.ref it) >>= _) _ _ s
    refine wpAny_bind (wpAny_pyNext_list_item (x := .ref a) hit hlst (by simpa using ea) fun h' it' hs' => ?_)
    have hk' : ∀ b o, H0.get? b = some o → h'.get? b = some o := fun b o e => (hs'.2 b fun q => by rw [q, hI] at e; cases e).trans (hk b o e)
    have hd' : h'.DictOf (intKind prog w) D kvs := hd.sameBut hs' hDI
    have ta' : h'.IsTuple a #[.int p.1 t, .int p.2 t'] := let ⟨o, e, r⟩ := ta; (ex1 (p := o) (hk' _ _ e) r)
    have hsz : kvs.length ≤ sizeLine := by rw [sizeLine_eq]; rw [List.length_cons] at hn; lia
    refine wpAny_bind (wpAny_holding (wpAny_bind (wpAny_tryCatch (Q := fun r s₁ => _) ?_)))
    unfold Builtin.Dict.pairItems
    refine wpAny_bind (wpAny_typeOf (s := { s with heap := h' }) ta'.typeIs ?_)
    rw [if_pos (by decide)]
    obtain ⟨o, eo, ec, n, ed⟩ := ta'
    refine wpAny_bind (wpAny_seqItems eo ed (wpAny_pure ?_))
    refine wpAny_holding (wpAny_dictSet_pairs (s := { s with heap := h' }) (intKind_is prog w p.1 t) hd' (fun h2 hd2 hs2 => ?_) hsz)
    refine wpAny_pure ⟨plainId_quiet plain_dul _, ?_⟩
    have hk2 : ∀ b o, H0.get? b = some o → h2.get? b = some o := fun b o e => (hs2.2 b fun q => by rw [q, hD] at e; cases e).trans (hk' b o e)
    have it2 : h2.IsListIter it lst (i + 1) := by
      obtain ⟨o, e, r⟩ := it'
      exact (ex1 (p := o) ((hs2.2 it fun q => hDI q.symm).trans e) r)
    refine pairs_loop hh hL hD hI hDI hz rest (i + 1) _ _ _ _ (by rw [List.length_cons] at hn; lia) (fun j q e => ?_) hk2 it2 hd2 (Nat.le_trans (stored_length_le ..) (by lia)) (hf.put p.1 p.2 t') fun h3 tk kvs' a b c => k h3 tk kvs' a b c
    obtain ⟨a, t, t', e1, e2⟩ := hv (j + 1) q e
    exact ⟨a, t, t', by rw [show i + 1 + j = i + (j + 1) by lia]; exact e1, e2⟩
theorem keys_miss {prog : Program} {w : World} {A : Around} {E : Value → Shared → Prop} {s : Shared} {a : Addr} {vs : Array Value} {n : Nat} {Q : Option Value → Shared → Prop} (hA : A.handled = none) (hx : s.heap.get? a = some (listOf vs n))
    (h : ∀ h' tk, (∀ b x, s.heap.get? b = some x → h'.get? b = some x) → Q none { s with heap := h', toks := tk }) : wpAny (model prog w) A (getAttr? (.ref a) "keys") Q E s := by
  obtain ⟨hp, g, d, tk, os⟩ := s
  have hT : ∀ tk', (⟨hp, g, d, tk', os⟩ : Shared).TypeIs (.ref a) "list" := fun _ => (ex1 hx rfl)
  have f1 := sub_AttributeError
  have f3 := F.slot_list_getattribute.lookup
  have f4 := F.slot_list_getattribute.bind (.ref a)
  have f5 := am_list_getattr_none
  unfold getAttr? getAttrBy? getAttrBy
  repeat (any_goals (first | assumption | exact hT _ | ((with_reducible show wpAny _ _ (call (Value.builtin "list.__getattribute__") _ _) _ _ _); refine call_meets F.slot_list_getattribute (hT _) am_entry_list_getattribute (F.args_list_getattribute_2 _ _) (meets_getattribute_miss_list a _ _ _ "keys" _ lk_keys (by decide +kernel) (by decide +kernel)) ⟨hx, hA, fun h' tk' e hx' => ?_⟩) | wp_step))
  obtain ⟨t', u', he⟩ := hx'.there
  show wpAny _ _ (getattributeRaised _ _ _ _ _ _ _) _ _ _
  unfold getattributeRaised
  repeat (any_goals (first | assumption | wp_step))
  exact h _ _ hx'.keeps
section
variable {X : Stat} {d : Nat} {σ : Sto} {B h h' : Heap} {ι : Nat → Addr}
theorem step_new (S : SR B ι σ h) {l : Cell} {D : Addr} (hD : h.get? D = none) (kp : ∀ b o, h.get? b = some o → h'.get? b = some o) (R : ∀ (ι' : Nat → Addr) (k' : Nat), CellIs h' ι' k' D l) : Step B ι σ h (fun n => if n = σ.length then D else ι n) (σ ++ [l]) h' := by
  have ne : ∀ n, n < σ.length → (if n = σ.length then D else ι n) = ι n := fun n hn => if_neg (Nat.ne_of_lt hn)
  have old : ∀ n, n < σ.length → ι n ≠ D := fun n hn q => by obtain ⟨o, e⟩ := S.live_at hn; rw [q, hD] at e; cases e
  have len : (σ ++ [l]).length = σ.length + 1 := by simp
  have rr : ∀ p v, Rep h ι σ.length p v → Rep h' (fun n => if n = σ.length then D else ι n) (σ ++ [l]).length p v := fun p v r => r.grow kp (fun n hn => ne n hn) (by simp)
  refine ⟨⟨fun b o' e => kp _ _ (S.base b o' e), fun n l' e => ?_, fun i j hi hj e => ?_, fun n hn => ?_⟩, ne, by rw [len]; lia, fun n a b => ?_, fun b o' e _ _ => kp _ _ e⟩
  · by_cases hn : n < σ.length
    · rw [List.getElem?_append_left hn] at e
      exact (S.cell n l' e).mono (ne n hn) (fun o e => kp _ o e) rr ne (by rw [len]; exact Nat.le_succ _)
    · have hn' : n = σ.length := by
        have := (List.getElem?_eq_some_iff.mp e).1
        lia
      subst hn'
      rw [List.getElem?_concat_length] at e
      cases e
      rw [if_pos rfl]
      exact R _ _
  · rw [len] at hi hj
    have e' : (if i = σ.length then D else ι i) = (if j = σ.length then D else ι j) := e
    by_cases h1 : i = σ.length <;> by_cases h2 : j = σ.length
    · rw [h1, h2]
    · rw [if_pos h1, if_neg h2] at e'
      exact absurd e'.symm (old j (by lia))
    · rw [if_neg h1, if_pos h2] at e'
      exact absurd e' (old i (by lia))
    · rw [if_neg h1, if_neg h2] at e'
      exact S.inj i j (by lia) (by lia) e'
  · rw [len] at hn
    by_cases h1 : n = σ.length
    · simp only [h1, if_true]
      cases e : B.get? D with
      | none => rfl
      | some o => rw [S.base _ o e] at hD; cases hD
    · simp only [h1, if_false]; exact S.fresh n (by lia)
  · have : n = σ.length := by rw [len] at b; lia
    simp only [this, if_true]
    exact ⟨hD, fun h => nomatch h⟩
theorem pair_rep {k : Nat} {z : Value} {a b : Int} (r : Rep h ι k (.tup [.int a, .int b]) z) : ∃ aa t t', z = .ref aa ∧ h.IsTuple aa #[.int a t, .int b t'] := by
  cases r with
  | tup ht hl2 hr =>
    have R : Reps h ι k [.int a, .int b] _ := ⟨hl2, hr⟩
    obtain ⟨x, y, rfl, r1, r2⟩ := R.two
    cases r1
    cases r2
    exact ⟨_, _, _, rfl, ht⟩
theorem dictOf_up {prog : Program} {w : World} {D : Addr} {kvs : List (Int × Value)} (x : h.DictOf (intKind prog w) D kvs) (kp : ∀ o, h.get? D = some o → h'.get? D = some o) : h'.DictOf (intKind prog w) D kvs := by
  obtain ⟨o, es, ep, ho, r⟩ := x
  exact ⟨o, es, ep, kp _ ho, r⟩
theorem dict_l {n : Nat} {l : List (Int × Int)} (hl : σ[n]? = some (.lst (l.map fun p => .tup [.int p.1, .int p.2]))) (hz : l.length ≤ 1000) : CallV X d σ (.type "dict") [.ref n] (.ref σ.length) (σ ++ [.raw (DictI X (l.foldl upd fun _ => none))]) := fun A s ι vs Q E g S R k => by
  obtain ⟨v, rfl, R1⟩ := R.one
  cases R1 with
  | ref hn =>
  obtain ⟨us, kk, e, RL⟩ := S.lst n _ hl
  have gh := g.1
  have hu : us.length = l.length := by rw [← RL.1, List.length_map]
  refine callType_codes (Q₁ := fun obj s₁ => obj = .ref s.heap.objs.size ∧ s₁ = { s with heap := s.heap.push { cls := .type "dict", data := .dict #[] } }) F.kt_called_dict (F.kt_typeCall_dict_1 _) F.entry_dict_init (kt_code_dict_new _ ⟨rfl, rfl⟩) ?_
  rintro obj s₁ ⟨rfl, rfl⟩
  have hnew : (s.heap.push { cls := .type "dict", data := .dict #[] }).DictOf (intKind X.prog X.w) s.heap.objs.size [] := Heap.DictOf.new s.heap
  have kp1 : ∀ b o, s.heap.get? b = some o → (s.heap.push { cls := .type "dict", data := .dict #[] }).get? b = some o := fun b o e => Heap.get?_push_of_some _ e
  have hT : (s.heap.push { cls := .type "dict", data := .dict #[] }).IsList (ι n) us.toArray := isList_of (kp1 _ _ e)
  refine ⟨hnew.typeIs, F.args_dict_init_2 _ _, ?_⟩
  unfold Builtin.«dict.__init__»
  refine wpAny_bind ?_
  unfold Builtin.Dict.selfAndRest
  refine wpAny_bind (wpAny_notOrdered_dict hnew.typeIs ?_)
  show wpAny _ _ (pure (s.heap.objs.size, [Value.ref (ι n)])) _ _ _
  refine wpAny_pure ?_
  show wpAny _ _ (Builtin.Dict.updateFrom "dict.__init__" s.heap.objs.size (.ref (ι n)) [] .none) _ _ _
  unfold Builtin.Dict.updateFrom
  refine wpAny_bind (wpAny_typeOf (s := { s with heap := s.heap.push { cls := .type "dict", data := .dict #[] } }) hT.typeIs ?_)
  rw [if_pos (by decide)]
  refine wpAny_bind (keys_miss gh (kp1 _ _ e) fun h1 tk hk1 => ?_)
  rw [if_pos (c := (none : Option Value).isNone = true) rfl]
  refine wpAny_bind (wpAny_rule ?_)
  have kp2 : ∀ b o, s.heap.get? b = some o → h1.get? b = some o := fun b o e => hk1 b o (kp1 b o e)
  have hT1 : h1.IsList (ι n) us.toArray := isList_of (kp2 _ _ e)
  refine wpAny_bind (wpAny_pyIter_list (s := { s with heap := h1, toks := tk }) hT1 ?_)
  refine wpAny_pure ⟨plainId_quiet plain_dul _, ?_⟩
  obtain ⟨od, _, _, eod, _⟩ := id hnew
  have hd1 : h1.DictOf (intKind X.prog X.w) s.heap.objs.size [] := dictOf_up hnew (hk1 _)
  have hne : s.heap.objs.size ≠ h1.objs.size := Nat.ne_of_lt (Heap.lt_size (hk1 _ _ eod))
  have nn : ∀ b, s.heap.objs.size ≤ b → s.heap.get? b = none := fun b hb => by
    cases q : s.heap.get? b with
    | none => rfl
    | some o => exact absurd (Heap.lt_size q) (Nat.not_lt.mpr hb)
  show codeAny (model X.prog X.w) A.in1 (.builtin "dict.update.loop" ⟨[.ref s.heap.objs.size, .ref h1.objs.size, .int ((0 : Nat) : Int) 0, .none], []⟩) _ { s with heap := h1.push { cls := .type "list_iterator", data := .fields #[.ref (ι n), .int 0 0] }, toks := tk }
  refine pairs_loop (A := A.in1) (H0 := s.heap) gh (isList_of e) (nn _ (Nat.le_refl _)) (nn h1.objs.size (Nat.le_of_lt (Heap.lt_size (hk1 _ _ eod)))) hne (by lia) l 0 { s with heap := h1.push { cls := .type "list_iterator", data := .fields #[.ref (ι n), .int 0 0] }, toks := tk } [] (fun _ => none) 0 (by lia) (fun j p ej => ?_) (fun b o e => Heap.get?_push_of_some _ (kp2 b o e)) (by exact (ex1 (Heap.get?_push_size _ rfl) ⟨rfl, rfl⟩)) (by exact hd1.push _) (Nat.le_refl _) (fun k => ⟨(fun i e => nomatch e), fun _ => rfl⟩) fun h' tk' kvs a b c => ?_
  · obtain ⟨hlt, _⟩ := List.getElem?_eq_some_iff.mp ej
    have hj : us[j]? = some us[j] := List.getElem?_eq_getElem (by lia)
    have r := RL.2 j _ us[j] (by rw [List.getElem?_map, ej]; rfl) hj
    obtain ⟨aa, t, t', e1, e2⟩ := pair_rep r
    exact ⟨aa, t, t', by rw [Nat.zero_add, hj, e1], e2⟩
  · have S2 : Step X.B ι σ s.heap _ (σ ++ [.raw (DictI X (l.foldl upd fun _ => none))]) h' := step_new S (nn _ (Nat.le_refl _)) a fun ι' k' => by
      obtain ⟨o, eo, hd⟩ := Heap.dictOf_iff.mp b
      exact (ex1 (p := o) eo ⟨(let ⟨_, _, hx, _⟩ := hd; hx.1), kvs, hd, c⟩)
    refine ⟨rfl, k _ h' tk' _ S2 ?_⟩
    have := Rep.ref (h := h') (ι := fun n => if n = σ.length then s.heap.objs.size else ι n) (k := (σ ++ [Cell.raw (DictI X (l.foldl upd fun _ => none))]).length) (n := σ.length) (by simp)
    simp only [if_true] at this
    exact this
end
noncomputable section
noncomputable def n5 : List Str := ["alphabet"]
noncomputable def c5 : CS := (.ret (.call "dict" (.comp .one ["number"] [0] (.tup (.cons (.idx (.var 0) (.var 1)) (.cons (.var 1) .nil))) (.call "range" (.call "len" (.var 0) .nil) .nil) .yes) .nil))
noncomputable def spairs (al : List UInt8) : List (Int × Int) := (List.range al.length).map fun i : Nat => (((al[i]?.getD 0).toNat : Int), (i : Int))
noncomputable def worth (al : List UInt8) : Int → Option Int := (spairs al).foldl upd fun _ => none
variable {X : Stat} {d : Nat} {σ : Sto}
theorem k5 : (decide (dName 5 = "worth_table") && fits (dNs 5) (dScope 5) (dBody 5) 1 0 c5 n5) = true := by decide +kernel
theorem t5 (H : PF X) {al : List UInt8} (ha : al.length ≤ 256) : ∃ n σ', CF X (d + 1) σ "worth_table" [.bytes al] (.ref n) σ' ∧ σ <+: σ' ∧ σ.length ≤ n ∧ σ'[n]? = some (.raw (DictI X (worth al))) := by
  suffices h : ∃ r σ', CF X (d + 1) σ "worth_table" [.bytes al] r σ' ∧ (∃ n, r = .ref n ∧ σ <+: σ' ∧ σ.length ≤ n ∧ σ'[n]? = some (.raw (DictI X (worth al)))) by
    obtain ⟨_, s, g, n, rfl, p⟩ := h; exact (ex2 (p := n) (s := s) g p)
  apply cx_wp 5 1 0 c5 n5 H.ok (H.fn 5 (by decide)) rfl rfl k5
  refine (ex2 (H.len_b (by lia)) ?_)
  refine (ex2 (H.range1 (n := al.length) (by lia)) ?_)
  conv => whnf
  rw [rng1]
  refine compL_map (fun i : Nat => .int (i : Int)) (fun i : Nat => .tup [.int ((al[i]?.getD 0).toNat : Int), .int (i : Int)]) trivial _ (fun _ _ R h => h) ?_ _ ?_
  · intro i hi R hR
    refine (ex1 (p := al[i]?.getD 0) ⟨by lia, ?_, by lia⟩ ?_)
    · have : i < al.length := List.mem_range.mp hi
      refine rwr (show (((i : Nat) : Int)).toNat = i from rfl) ?_; rw [List.getElem?_eq_getElem this]; rfl
    exact ⟨by show 2 ≤ 16777216; decide, hR⟩
  · have e : (List.range al.length).map (fun i : Nat => PV.tup [.int ((al[i]?.getD 0).toNat : Int), .int (i : Int)]) = (spairs al).map fun p => .tup [.int p.1, .int p.2] := by unfold spairs; rw [List.map_map]; rfl
    rw [List.nil_append, e]
    have hl : (σ ++ [.lst ((spairs al).map fun p => .tup [.int p.1, .int p.2])])[σ.length]? = some (.lst ((spairs al).map fun p => .tup [.int p.1, .int p.2])) := at_app _ _ _
    refine ⟨by rw [List.length_map]; unfold spairs; rw [List.length_map, List.length_range]; lia, ?_⟩
    refine (ex2 ⟨_, H.dict, .ty _, dict_l hl (by unfold spairs; rw [List.length_map, List.length_range]; lia)⟩ ?_)
    refine (ex1 rfl ⟨(pre_app _ _).trans (pre_app _ _), pre_len (pre_app _ _), at_app _ _ _⟩)
end
noncomputable section
noncomputable def n12 : List Str := ["data", "worths", "worth_row", "code", "found", "begin"]
noncomputable def c12 : CS := (.assign 1 (.call "worth_table" (.glb "SIGNS") .nil)
  (.assign 2 (.lst .nil)
  (.for_ .one [3] (.var 0)
  (.ite (.tcmp .Eq (.var 3) (.glb "PAD"))
  .brk
  .done
  (.ite (.tcmp .In (.var 3) (.var 1))
  (.expr (.meth (.var 2) "append" (.idx (.var 1) (.var 3)) .nil)
  .done)
  .done
  .done))
  (.assign 4 (.lst .nil)
  (.for_ .one [5] (.call "range" (.int 0) (.cons (.call "len" (.var 2) .nil) (.cons (.int 4) .nil)))
  (.ite (.tcmp .Gt (.bin .Sub (.call "len" (.var 2) .nil) (.var 5)) (.int 1))
  (.expr (.meth (.var 4) "append" (.idx (.call "group_octets" (.slc true (.var 2) (.osome (.var 5)) (.osome (.bin .Add (.var 5) (.int 4)))) .nil) (.int 0)) .nil)
  .done)
  .done
  .done)
  (.ret (.meth (.byt []) "join" (.var 4) .nil)))))))
noncomputable def sidx (c : UInt8) : Option Nat := signs.findIdx? (· == c)
theorem worth_eq (c : UInt8) : worth signs (c.toNat : Int) = (sidx c).map fun i : Nat => (i : Int) := by
  have h : ∀ n : Fin 256, worth signs ((n.val.toUInt8).toNat : Int) = (sidx n.val.toUInt8).map fun i : Nat => (i : Int) := by decide +kernel
  have := h ⟨c.toNat, c.toNat_lt⟩
  simpa using this
noncomputable def wrow : List UInt8 → List Nat
  | [] => []
  | c :: b => if (c == 61) = true then [] else match sidx c with | some i => i :: wrow b | none => wrow b
noncomputable def dec64 (b : List UInt8) : List UInt8 := (((rowsW 4 (wrow b)).filter fun r => decide (1 < r.length)).map goct).flatten
theorem wrow_len : ∀ b : List UInt8, (wrow b).length ≤ b.length
  | [] => Nat.le_refl _
  | c :: b => by
    have := wrow_len b
    unfold wrow
    split
    · exact Nat.zero_le _
    · split <;> simp only [List.length_cons] <;> lia
theorem forL_z {α : Type} {B : PV → Vs → Sto → Out → Prop} {K : Sto → Prop} {Q : Out} (g : α → PV) (I : List α → List α → Vs → Sto → Prop) (Z : Vs → Sto → Prop) (hK : ∀ a b v σ, I a b v σ → K σ)
    (hB : ∀ a x b v σ, I a (x :: b) v σ → ∀ R : Out, (∀ v' σ', I (a ++ [x]) b v' σ' → R.nx v' σ') → (∀ v' σ', I (a ++ [x]) b v' σ' → R.co v' σ') → (∀ v' σ', Z v' σ' → R.br v' σ') → B (g x) v σ R) (h0 : ∀ a v σ, I a [] v σ → Z v σ) (hz : ∀ v σ, Z v σ → Q.nx v σ) (b a : List α) (v : Vs) (σ : Sto) (h : I a b v σ) : forL B K (b.map g) v σ Q :=
  forL_at g I hK (fun a x b v σ h R h1 h2 h3 _ => hB a x b v σ h R h1 h2 fun v s z => h3 v s (hz v s z)) (fun a v σ h => hz _ _ (h0 a v σ h)) b a v σ h
theorem joinB_flat : ∀ L : List (List UInt8), joinB [] L = L.flatten
  | [] => rfl
  | [x] => by simp [joinB]
  | x :: y :: L => by have := joinB_flat (y :: L); simp [joinB] at this ⊢; exact this
variable {X : Stat} {d : Nat} {σ : Sto}
theorem k12 : (decide (dName 12 = "decoded") && fits (dNs 12) (dScope 12) (dBody 12) 1 0 c12 n12) = true := by decide +kernel
theorem t12 (H : PF X) {b : List UInt8} (hb : b.length ≤ 5000) : CP X (d + 2) σ "decoded" [.bytes b] (.bytes (dec64 b)) := by
  apply cp_wp 12 1 0 c12 n12 H.ok (H.fn 12 (by decide)) rfl rfl k12
  obtain ⟨w, s1, g1, p1, hw1, hw2⟩ := t5 (d := d) (σ := σ) H (al := signs) (by decide)
  refine (ex1 H.SIGNS (ex2 g1 ⟨Nat.zero_le _, ?_⟩))
  refine forL_z (fun c : UInt8 => .int (c.toNat : Int)) (fun a r v s => ∃ L z, v = [some (.bytes b), some (.ref w), some (.ref s1.length), z, none, none] ∧ Own1 s1 s1.length (L.map fun i : Nat => .int (i : Int)) s ∧ L ++ wrow r = wrow b)
    (fun v s => ∃ z, v = [some (.bytes b), some (.ref w), some (.ref s1.length), z, none, none] ∧ Own1 s1 s1.length ((wrow b).map fun i : Nat => .int (i : Int)) s) (fun _ _ _ _ _ => trivial) ?_ ?_ ?_ b [] _ _ (ex2 (p := []) (s := none) rfl ⟨.new (List.prefix_refl _) _, rfl⟩)
  · rintro a c r _ s ⟨L, z, rfl, hO, hL⟩ R hR _ hbr
    have hl := congrArg List.length hL
    rw [List.length_append] at hl
    have hl2 := wrow_len b
    refine (ex1 H.PAD (bsel_of (fun h => ?_) fun h => ?_))
    · have e : c = 61 := by
        have := beq_iff_eq.mp h
        exact UInt8.toNat_inj.mp (Int.ofNat.inj this)
      subst e
      refine hbr _ _ (ex1 rfl ?_)
      have e2 : L = wrow b := by rw [← hL]; simp [wrow]
      refine rwr (e2).symm ?_; exact hO
    · have e : (c == 61) = false := by
        cases q : c == 61 with
        | false => rfl
        | true => rw [beq_iff_eq.mp q] at h; exact absurd h (by decide)
      have hw' := pre_at hO.pre hw2
      have hR' : ∀ L' s', Own1 s1 s1.length (L'.map fun i : Nat => .int (i : Int)) s' → L' ++ wrow r = wrow b → R.nx [some (.bytes b), some (.ref w), some (.ref s1.length), some (.int (c.toNat : Int)), none, none] s' := fun L' s' h1 h2 => hR _ _ (ex2 (p := L') (s := _) rfl ⟨h1, h2⟩)
      have hwr : wrow (c :: r) = match sidx c with | some i => i :: wrow r | none => wrow r := by rw [wrow, e]; rfl
      refine (ex1 ⟨H.mods, hw'⟩ ?_)
      cases hs : sidx c with
      | none =>
        refine rwr (worth_eq c) ?_; refine rwr hs ?_
        refine hR' L s hO ?_
        refine rwr (hL).symm ?_; refine rwr hwr ?_; rw [hs]
      | some i =>
        refine rwr (worth_eq c) ?_; refine rwr hs ?_
        refine (ex2 (itm_d hw' (by refine rwr (worth_eq c) ?_; refine rwr hs ?_; rfl)) (ex2 (mf_append hO.at_ hO.at_ (by rw [List.length_map]; lia)) (hR' (L ++ [i]) _ ?_ ?_)))
        · have := hO.set (l' := (L ++ [i]).map fun i : Nat => .int (i : Int))
          simpa using this
        · refine rwr (hL).symm ?_; refine rwr hwr ?_; refine rwr hs ?_; rw [List.append_assoc]; rfl
  · rintro a _ s ⟨L, z, rfl, hO, hL⟩
    refine (ex1 (p := z) rfl ?_)
    have : L = wrow b := by refine rwr (hL).symm ?_; simp [wrow]
    refine rwr (this).symm ?_; exact hO
  · rintro _ s ⟨z, rfl, hO⟩
    have hl2 := wrow_len b
    have hlen : ((wrow b).map fun i : Nat => PV.int (i : Int)).length = (wrow b).length := List.length_map _
    refine ⟨Nat.zero_le _, _, _, H.len_l (pre_at (pre_app _ _) hO.at_) (by rw [hlen]; lia), _, _, H.range3 (b := ((wrow b).map fun i : Nat => PV.int (i : Int)).length) (c := 4) (by rw [hlen]; lia) (by decide) (by decide), ?_⟩
    conv => whnf
    rw [rng3, hlen]
    refine forL_at (fun i : Nat => .int ((4 * i : Nat) : Int)) (fun a r v s' => a ++ r = List.range (((wrow b).length + 4 - 1) / 4) ∧ ∃ z y, v = [some (.bytes b), some (.ref w), some (.ref s1.length), z, some (.ref s.length), y] ∧ Own1 s s.length ((((a.map fun i => ((wrow b).drop (4 * i)).take 4).filter fun r => decide (1 < r.length)).map goct).map .bytes) s') (fun _ _ _ _ _ => trivial) ?_ ?_ _ [] _ _ ⟨rfl, z, none, rfl, .new (List.prefix_refl _) _⟩
    · rintro a i r _ s' ⟨hab, z, y, rfl, hO2⟩ R hR _ _ _
      have hm := pre_at hO2.pre hO.at_
      have hal : a.length ≤ 5000 := by
        have := congrArg List.length hab
        rw [List.length_append, List.length_range] at this
        lia
      refine (ex2 (H.len_l hm (by refine rwr hlen ?_; lia)) ?_)
      conv => whnf
      have hrow : ((wrow b).drop (4 * i)).length = (wrow b).length - 4 * i := List.length_drop
      have hi : i < ((wrow b).length + 4 - 1) / 4 := List.mem_range.mp (by refine rwr (hab).symm ?_; simp)
      have hsm : ((a ++ [i]).map fun i => ((wrow b).drop (4 * i)).take 4) = (a.map fun i => ((wrow b).drop (4 * i)).take 4) ++ [((wrow b).drop (4 * i)).take 4] := by rw [List.map_append]; rfl
      refine rwr hlen ?_
      refine bsel_of (fun h => ?_) fun h => ?_
      · have h1 : (1 : Int) < ((wrow b).length : Int) - ((4 * i : Nat) : Int) := of_decide_eq_true h
        have hr : 1 < (((wrow b).drop (4 * i)).take 4).length := by rw [List.length_take, hrow]; lia
        refine (ex2 (p := some ((4 * i : Nat) : Int)) (s := some ((4 * i + 4 : Nat) : Int)) ⟨rfl, rfl⟩ ?_)
        refine (ex2 (fun _ _ => slc_l' hm (by refine rwr hlen ?_; lia)) ?_)
        refine rwr (cut_nn _ (by lia)) ?_; refine rwr (show 4 * i + 4 - 4 * i = 4 by lia) ?_; rw [← List.map_drop, ← List.map_take]
        obtain ⟨zz, s3, g3, p3⟩ := t7 (d := d) (σ := s' ++ [.lst ((((wrow b).drop (4 * i)).take 4).map fun i : Nat => .int (i : Int))]) H (w := ((wrow b).drop (4 * i)).take 4) (n := s'.length) ⟨hr, List.length_take_le _ _⟩ (at_app _ _ _)
        have hO3 := (hO2.grow (pre_app _ _)).grow p3
        refine (ex2 g3 ?_)
        refine (ex1 ⟨by decide, rfl, (by show 2 ≤ 1099511627776; decide)⟩ (ex2 (mf_append hO2.at_ hO3.at_ ?_) (hR _ _ ⟨by refine rwr (hab).symm ?_; rw [List.append_assoc]; rfl, _, _, rfl, ?_⟩)))
        · rw [List.length_map, List.length_map]
          refine Nat.le_trans (List.length_filter_le _ _) ?_
          rw [List.length_map]; lia
        · have := hO3.set (l' := ((((a ++ [i]).map fun i => ((wrow b).drop (4 * i)).take 4).filter fun r => decide (1 < r.length)).map goct).map .bytes)
          rw [hsm, List.filter_append, List.filter_cons_of_pos (by simpa using hr)] at this ⊢
          simpa using this
      · refine hR _ _ ⟨by refine rwr (hab).symm ?_; rw [List.append_assoc]; rfl, _, _, rfl, ?_⟩
        have h1 : ¬ (1 : Int) < ((wrow b).length : Int) - ((4 * i : Nat) : Int) := of_decide_eq_false h
        have hr : ¬ 1 < (((wrow b).drop (4 * i)).take 4).length := by rw [List.length_take, hrow]; lia
        refine rwr hsm ?_; rw [List.filter_append, List.filter_cons_of_neg (by simpa using hr)]
        simpa using hO2
    · rintro a _ s' ⟨hab, z, y, rfl, hO2⟩
      rw [List.append_nil] at hab
      subst hab
      have e : (((List.range (((wrow b).length + 4 - 1) / 4)).map fun i => ((wrow b).drop (4 * i)).take 4).filter fun r => decide (1 < r.length)).map goct = ((rowsW 4 (wrow b)).filter fun r => decide (1 < r.length)).map goct := rfl
      rw [e] at hO2
      have hs : (((rowsW 4 (wrow b)).filter fun r => decide (1 < r.length)).map goct).length ≤ 5000 := by
        rw [List.length_map]
        refine Nat.le_trans (List.length_filter_le _ _) ?_
        have := rowsW_le (w := 4) (l := wrow b) (by decide)
        lia
      have hg := sum_len (k := 4) (l := ((rowsW 4 (wrow b)).filter fun r => decide (1 < r.length)).map goct) fun x hx => by
        obtain ⟨r, hr, rfl⟩ := List.mem_map.mp hx
        have := rowsW_len r (List.mem_filter.mp hr).1
        unfold goct; rw [List.length_map, List.length_range]; lia
      refine (ex2 (mf_of mth_join isT_bytes (join_b hO2.at_ (by show _ + 0 * _ ≤ _; lia))) ⟨?_, p1.trans (hO.pre.trans hO2.pre)⟩)
      exact congrArg PV.bytes (joinB_flat _)
end
noncomputable section
noncomputable def n90 : List Str := ["encoding", "octets"]
noncomputable def c90 : CS := (.ite (.tcmp .Eq (.var 0) (.str [98, 97, 115, 101, 54, 52]))
  (.ret (.call "decoded" (.var 1) .nil))
  .done
  (.ite (.tcmp .Eq (.var 0) (.str [113, 117, 111, 116, 101, 100, 45, 112, 114, 105, 110, 116, 97, 98, 108, 101]))
  (.ret (.call "quoted_decoded" (.var 1) .nil))
  .done
  (.ret (.var 1))))
variable {X : Stat} {d : Nat} {σ : Sto}
theorem k90 : (decide (dName 90 = "undone") && fits (dNs 90) (dScope 90) (dBody 90) 2 0 c90 n90) = true := by decide +kernel
theorem t90b (H : PF X) {b : List UInt8} (hb : b.length ≤ 5000) : CP X (d + 3) σ "undone" [.str b64s, .bytes b] (.bytes (dec64 b)) := by
  apply cp_wp 90 2 0 c90 n90 H.ok (H.fn 90 (by decide)) rfl rfl k90
  conv => whnf
  obtain ⟨s, g, p⟩ := t12 (d := d) (σ := σ) H hb
  exact ⟨_, _, g, rfl, p⟩
theorem t90q (H : PF X) {b : List UInt8} (hb : b.length ≤ 30000) : CP X (d + 5) σ "undone" [.str qps, .bytes b] (.bytes (qdec b)) := by
  apply cp_wp 90 2 0 c90 n90 H.ok (H.fn 90 (by decide)) rfl rfl k90
  conv => whnf
  obtain ⟨s, g, p⟩ := t87 (d := d) (σ := σ) H hb
  exact ⟨_, _, g, rfl, p⟩
end
noncomputable section
noncomputable def spl : List UInt8 → List UInt8 → List (List UInt8)
  | cur, [] => [cur]
  | cur, c :: r => if c = 10 ∧ cur.getLast? = some 13 then cur.dropLast :: spl [] r else spl (cur ++ [c]) r
noncomputable def pls : List UInt8 → Nat → List UInt8 → List Nat
  | _, _, [] => []
  | p, f, c :: r => if c = 10 ∧ (p.drop f).getLast? = some 13 then (p.length - 1) :: pls (p ++ [c]) (p.length + 1) r else pls (p ++ [c]) f r
theorem ext_list (b : List UInt8) (i j : Nat) : (b.toArray.extract i j).toList = (b.drop i).take (j - i) := by simp [List.extract]
theorem pls_ok (b : List UInt8) : ∀ (r p : List UInt8) (acc : List Nat) (f : Nat), b = p ++ r → p ≠ [] → f ≤ p.length →
    ((List.range' (p.length - 1) r.length).foldl (fun (acc : List Nat × Nat) i => if (decide (i ≥ acc.2) && b.toArray.extract i (i + 2) == #[13, 10]) = true then (i :: acc.1, i + 2) else acc) (acc, f)).1.reverse = acc.reverse ++ pls p f r := by
  intro r
  induction r with
  | nil => intro p acc f _ _ _; simp [pls]
  | cons c r ih =>
    intro p acc f hb hp hf
    have hl : 0 < p.length := List.length_pos_iff.mpr hp
    rw [List.length_cons, List.range'_succ, List.foldl_cons]
    have e : (decide (p.length - 1 ≥ f) && b.toArray.extract (p.length - 1) (p.length - 1 + 2) == #[13, 10]) = decide (c = 10 ∧ (p.drop f).getLast? = some 13) := by
      obtain ⟨q, z, rfl⟩ : ∃ q z, p = q ++ [z] := ⟨p.dropLast, p.getLast hp, (List.dropLast_concat_getLast hp).symm⟩
      have h1 : (b.toArray.extract ((q ++ [z]).length - 1) ((q ++ [z]).length - 1 + 2)) = #[z, c] := by
        rw [← Array.toList_inj, ext_list, hb]
        simp
      rw [h1]
      rw [Bool.eq_iff_iff]
      simp only [Bool.and_eq_true, decide_eq_true_eq, beq_iff_eq]
      by_cases hq : f ≤ q.length
      · rw [List.drop_append_of_le_length hq, List.getLast?_append]
        simp
        constructor <;> rintro h <;> simp_all
      · rw [List.drop_eq_nil_of_le (by simp; lia)]
        simp
        intro h; lia
    rw [e]
    have h' : p.length - 1 + 1 = (p ++ [c]).length - 1 := by rw [List.length_append]; simp; lia
    unfold pls
    by_cases h : c = 10 ∧ (p.drop f).getLast? = some 13
    · rw [if_pos (by simpa using h), if_pos h, h', ih _ _ _ (by rw [hb]; simp) (by simp) (by simp; lia)]
      rw [show p.length - 1 + 2 = p.length + 1 by lia]
      simp
    · rw [if_neg (by simpa using h), if_neg h, h', ih _ _ _ (by rw [hb]; simp) (by simp) (by simp; lia)]
theorem pls_spl (b : List UInt8) : ∀ (r p : List UInt8) (parts : Array (Array UInt8)) (f : Nat), b = p ++ r → f ≤ p.length →
    ((((pls p f r).foldl (fun (z : Array (Array UInt8) × Nat) p => (z.1.push (b.toArray.extract z.2 p), p + 2)) (parts, f)).1.push (b.toArray.extract ((pls p f r).foldl (fun (z : Array (Array UInt8) × Nat) p => (z.1.push (b.toArray.extract z.2 p), p + 2)) (parts, f)).2 b.length)).toList.map Array.toList) = parts.toList.map Array.toList ++ spl (p.drop f) r := by
  intro r
  induction r with
  | nil =>
    intro p parts f hb hf
    rw [List.append_nil] at hb
    subst hb
    simp only [pls, spl, List.foldl_nil, Array.toList_push, List.map_append, List.map_cons, List.map_nil, ext_list]
    rw [List.take_of_length_le (by simp)]
  | cons c r ih =>
    intro p parts f hb hf
    unfold pls spl
    by_cases h : c = 10 ∧ (p.drop f).getLast? = some 13
    · rw [if_pos h, if_pos h, List.foldl_cons]
      have hne : p.drop f ≠ [] := fun e => by rw [e] at h; simp at h
      have hlt : f < p.length := by
        have := List.length_pos_iff.mpr hne
        rw [List.length_drop] at this; lia
      rw [show (p.length - 1 + 2) = p.length + 1 by lia, ih _ _ _ (by rw [hb]; simp) (by simp)]
      simp only [Array.toList_push, List.map_append, List.map_cons, List.map_nil, ext_list, List.append_assoc]
      congr 1
      rw [show (p ++ [c]).drop (p.length + 1) = [] from List.drop_eq_nil_of_le (by simp)]
      rw [hb, List.drop_append_of_le_length hf, List.take_append_of_le_length (by simp; lia), List.dropLast_eq_take, List.length_drop]
      rw [show p.length - f - 1 = p.length - 1 - f by lia]; rfl
    · rw [if_neg h, if_neg h, ih _ _ _ (by rw [hb]; simp) (by simp; lia), List.drop_append_of_le_length hf]
theorem pls_len : ∀ (r p : List UInt8) (f : Nat), (pls p f r).length ≤ r.length := by
  intro r
  induction r with
  | nil => intro p f; exact Nat.le_refl _
  | cons c r ih =>
    intro p f
    unfold pls
    split
    · exact Nat.succ_le_succ (ih _ _)
    · exact Nat.le_succ_of_le (ih _ _)
theorem split_spl (b : List UInt8) : splitAt' b [13, 10] = spl [] b := by
  have ho : Builtin.Bytes.occurrences b.toArray #[13, 10] 0 b.length = pls [] 0 b := by
    cases b with
    | nil => rfl
    | cons c r =>
      have := pls_ok (c :: r) r [c] [] 0 rfl (by simp) (by simp)
      unfold Builtin.Bytes.occurrences
      rw [show pls [] 0 (c :: r) = pls [c] 0 r by rw [pls]; simp]
      rw [List.reverse_nil, List.nil_append] at this
      rw [← this]
      simp [List.range_eq_range']
  have hp := pls_spl b b [] #[] 0 rfl (Nat.le_refl _)
  unfold splitAt'
  rw [show ([13, 10] : List UInt8).toArray = #[13, 10] from rfl, ho, List.take_of_length_le (Nat.le_succ_of_le (pls_len _ _ _))]
  dsimp only
  split
  · rename_i h
    rw [List.isEmpty_iff] at h
    rw [h] at hp
    simpa using hp
  · exact hp
end
noncomputable section
theorem spl_short : ∀ (r cur : List UInt8), (∀ x ∈ spl cur r, x.length ≤ cur.length + r.length) ∧ (spl cur r).length ≤ r.length + 1 ∧ spl cur r ≠ [] := by
  intro r
  induction r with
  | nil => intro cur; exact ⟨fun x hx => by rw [List.mem_singleton.mp hx]; exact Nat.le_refl _, Nat.le_refl _, List.cons_ne_nil _ _⟩
  | cons c r ih =>
    intro cur
    unfold spl
    split
    · obtain ⟨h1, h2, h3⟩ := ih []
      refine ⟨fun x hx => ?_, Nat.succ_le_succ h2, List.cons_ne_nil _ _⟩
      rcases List.mem_cons.mp hx with rfl | hx
      · rw [List.length_dropLast]; lia
      · have := h1 x hx
        simp only [List.length_nil, List.length_cons] at this ⊢; lia
    · obtain ⟨h1, h2, h3⟩ := ih (cur ++ [c])
      refine ⟨fun x hx => ?_, Nat.le_succ_of_le h2, h3⟩
      have := h1 x hx
      simp only [List.length_append, List.length_cons, List.length_nil] at this ⊢; lia
theorem short_of {o : List UInt8} (h : o.length ≤ 100) : Short o := by
  obtain ⟨h1, h2, h3⟩ := spl_short o []
  refine ⟨h, ?_, ?_, ?_⟩ <;> rw [split_spl]
  · intro x hx
    have := h1 x hx
    simp only [List.length_nil] at this; lia
  · lia
  · exact h3
theorem badL_iff (c : UInt8) : badL c = false ↔ c ≠ 0 ∧ c ≠ 10 ∧ c ≠ 13 ∧ c.toNat ≤ 127 := by
  have h : ∀ n : Fin 256, badL n.val.toUInt8 = false ↔ n.val.toUInt8 ≠ 0 ∧ n.val.toUInt8 ≠ 10 ∧ n.val.toUInt8 ≠ 13 ∧ n.val.toUInt8.toNat ≤ 127 := by decide +kernel
  simpa using h ⟨c.toNat, c.toNat_lt⟩
noncomputable def seven : Bool → List UInt8 → Prop
  | _, [] => True
  | p, c :: r => (c ≠ 0 ∧ c.toNat ≤ 127 ∧ (c = 13 → r.head? = some 10) ∧ (c = 10 → p = true)) ∧ seven (c == 13) r
theorem spl_seven : ∀ (r cur : List UInt8), (∀ x ∈ spl cur r, ∀ c ∈ x, badL c = false) ↔ (∀ c ∈ cur.dropLast, badL c = false) ∧ (∀ c, cur.getLast? = some c → badL c = false ∨ c = 13 ∧ r.head? = some 10) ∧ seven (cur.getLast? == some 13) r := by
  intro r
  induction r with
  | nil =>
    intro cur
    unfold spl seven
    rcases List.eq_nil_or_concat cur with rfl | ⟨q, z, rfl⟩
    · simp
    · simp
      constructor
      · intro h; exact ⟨fun c hc => h c (.inl hc), h z (.inr rfl)⟩
      · rintro ⟨h1, h2⟩ c (hc | rfl)
        · exact h1 c hc
        · exact h2
  | cons c r ih =>
    intro cur
    unfold spl
    split
    · rename_i h
      obtain ⟨rfl, hl⟩ := h
      have := ih []
      rw [List.forall_mem_cons, this, hl]
      conv => rhs; unfold seven
      have e : seven (([] : List UInt8).getLast? == some 13) r ↔ seven ((10 : UInt8) == 13) r := Iff.rfl
      rw [e]
      simp
    · rename_i h
      rw [ih (cur ++ [c])]
      simp only [List.dropLast_concat, List.getLast?_concat]
      conv => rhs; unfold seven
      have e : (some c == some (13 : UInt8)) = (c == 13) := rfl
      rw [e]
      have hb := badL_iff c
      simp only [Option.some.injEq, forall_eq', List.head?_cons]
      rcases List.eq_nil_or_concat cur with rfl | ⟨q, z, rfl⟩
      · by_cases h10 : c = 10
        · subst h10; simp [hb]
        · by_cases h13 : c = 13
          · subst h13; simp [hb]
          · simp [hb, h10, h13]
      · rw [List.concat_eq_append] at h ⊢
        rw [List.getLast?_concat] at h ⊢
        rw [List.dropLast_concat]
        simp only [Option.some.injEq] at h ⊢
        by_cases h10 : c = 10
        · subst h10
          have hz : z ≠ 13 := fun e => h ⟨rfl, e⟩
          simp [hb, hz]
        · by_cases h13 : c = 13
          · subst h13; simp [hb]; grind
          · simp [hb, h10, h13]; grind
theorem seven_bad (o : List UInt8) : ∀ (r p : List UInt8), o = p ++ r → (((List.range' p.length r.length).all fun i => !(bad7 o i)) = true ↔ seven (p.getLast? == some 13) r) := by
  intro r
  induction r with
  | nil => intro p _; simp [seven]
  | cons c r ih =>
    intro p hp
    rw [List.length_cons, List.range'_succ, List.all_cons]
    have e : p.length + 1 = (p ++ [c]).length := by simp
    rw [Bool.and_eq_true, e, ih (p ++ [c]) (by rw [hp]; simp), List.getLast?_concat]
    conv => rhs; unfold seven
    refine and_congr ?_ Iff.rfl
    unfold bad7
    have h1 : o.getD p.length 0 = c := by rw [hp]; simp [List.getD_eq_getElem?_getD]
    have h2 : (o.drop (p.length + 1)).take 1 = r.take 1 := by rw [hp, e, List.append_cons p c r, List.drop_left]
    have h3 : (r.take 1 == [10]) = decide (r.head? = some 10) := by rw [Bool.eq_iff_iff]; cases r <;> simp
    have h4 : ((o.drop (p.length - 1)).take (p.length - (p.length - 1)) == [13]) = (p.getLast? == some 13) := by
      rcases List.eq_nil_or_concat p with rfl | ⟨q, z, rfl⟩
      · rfl
      · rw [List.concat_eq_append] at hp ⊢
        rw [hp, List.getLast?_concat, List.length_append, List.length_singleton, Nat.add_sub_cancel, List.append_assoc, List.drop_left]
        simp
    have n : ∀ k : UInt8, (c.toNat == k.toNat) = decide (c = k) := fun k => by rw [Bool.eq_iff_iff, beq_iff_eq, decide_eq_true_eq, UInt8.toNat_inj]
    have n0 := n 0
    have n10 := n 10
    have n13 := n 13
    rw [h1, h2, bne, bne, h3, h4]
    erw [n0, n10, n13]
    generalize (p.getLast? == some 13) = x
    simp only [Bool.not_or, Bool.and_eq_true, Bool.not_eq_true', decide_eq_false_iff_not, Bool.and_eq_false_iff, Bool.not_eq_false', Nat.not_lt, decide_eq_true_eq]
    refine and_congr Iff.rfl (and_congr Iff.rfl (and_congr ?_ ?_)) <;> rw [Decidable.imp_iff_not_or]
theorem seven_stands (o : List UInt8) : sevenB o = stands o := by
  rw [Bool.eq_iff_iff]
  unfold sevenB
  rw [List.range_eq_range', show (List.range' 0 o.length).all (fun i => !(bad7 o i)) = true ↔ _ from seven_bad o o [] rfl]
  have := spl_seven o []
  rw [← split_spl] at this
  have e : stands o = true ↔ ∀ x ∈ splitAt' o [13, 10], ∀ c ∈ x, badL c = false := by
    unfold stands
    generalize splitAt' o [13, 10] = L
    induction L with
    | nil => simp
    | cons x L ih =>
      rw [List.map_cons, List.flatten_cons, show ∀ a b : List PV, (a ++ b).isEmpty = (a.isEmpty && b.isEmpty) from fun a b => by cases a <;> rfl, Bool.and_eq_true, ih, List.forall_mem_cons]
      refine and_congr ?_ Iff.rfl
      rw [List.isEmpty_map, List.isEmpty_iff, List.filter_eq_nil_iff]
      simp
  rw [e, this]
  simp
end
noncomputable section
theorem chunk_ind {α : Type} {P : List α → Prop} (w : Nat) (hw : 0 < w) (h0 : ∀ x : List α, x.length < w → P x) (h1 : ∀ x r : List α, x.length = w → P r → P (x ++ r)) : ∀ (n : Nat) (o : List α), o.length ≤ n → P o := by
  intro n
  induction n with
  | zero => intro o h; exact h0 o (by omega)
  | succ n ih =>
    intro o h
    by_cases c : o.length < w
    · exact h0 o c
    · rw [← List.take_append_drop w o]
      exact h1 _ _ (by rw [List.length_take]; omega) (ih _ (by rw [List.length_drop]; omega))
theorem rowsW_nil {α : Type} {w : Nat} (hw : 0 < w) : rowsW w ([] : List α) = [] := by
  unfold rowsW
  rw [List.length_nil, show (0 + w - 1) / w = 0 from Nat.div_eq_of_lt (by omega)]; rfl
theorem rowsW_app {α : Type} {w : Nat} {x r : List α} (hw : 0 < w) (hx : x.length = w) : rowsW w (x ++ r) = x :: rowsW w r := by
  unfold rowsW
  rw [List.length_append, hx, show w + r.length + w - 1 = (r.length + w - 1) + w by rw [Nat.add_comm w r.length]; exact Nat.sub_add_comm (Nat.le_trans hw (Nat.le_add_left _ _)), Nat.add_div_right _ hw, List.range_succ_eq_map, List.map_cons, List.map_map]
  rw [Nat.mul_zero, List.drop_zero, ← hx, List.take_left]
  congr 1
  refine List.map_congr_left fun i _ => ?_
  show List.take _ (List.drop (x.length * (i + 1)) (x ++ r)) = _
  rw [Nat.mul_succ, Nat.add_comm, ← List.drop_drop, List.drop_left]
theorem rowsW_one {α : Type} {w : Nat} {x : List α} (h0 : 0 < x.length) (hx : x.length ≤ w) : rowsW w x = [x] := by
  unfold rowsW
  rw [show (x.length + w - 1) / w = 1 by
    rw [Nat.sub_add_comm h0, Nat.add_div_right _ (by omega), Nat.div_eq_of_lt (by omega)]]
  show [List.take w (List.drop (w * 0) x)] = _
  rw [Nat.mul_zero, List.drop_zero, List.take_of_length_le hx]
theorem rowsW_flat {α : Type} {w : Nat} (hw : 0 < w) (o : List α) : (rowsW w o).flatten = o := by
  refine chunk_ind (P := fun o => (rowsW w o).flatten = o) w hw (fun x hx => ?_) (fun x r hx ih => ?_) _ o (Nat.le_refl _)
  · cases x with
    | nil => rw [rowsW_nil hw]; rfl
    | cons a y => rw [rowsW_one (x := a :: y) (Nat.succ_pos y.length) (Nat.le_of_lt hx)]; simp
  · rw [rowsW_app hw hx, List.flatten_cons, ih]
theorem len3 {P : List UInt8 → Prop} (h1 : ∀ a, P [a]) (h2 : ∀ a b, P [a, b]) (h3 : ∀ a b c, P [a, b, c]) (x : List UInt8) (h : 0 < x.length) (h' : x.length ≤ 3) : P x := by
  rcases x with _ | ⟨a, _ | ⟨b, _ | ⟨c, _ | ⟨d, x⟩⟩⟩⟩
  · exact absurd h (Nat.lt_irrefl 0)
  · exact h1 a
  · exact h2 a b
  · exact h3 a b c
  · exact absurd (Nat.le_of_succ_le_succ (Nat.le_of_succ_le_succ (Nat.le_of_succ_le_succ h'))) (Nat.not_succ_le_zero _)
noncomputable def gd (x : List UInt8) : List Nat := (List.range (x.length + 1)).map fun i => gsh x / 64 ^ (x.length - i) % 64
theorem gcodes_gd (x : List UInt8) : gcodes x signs = (gd x).map fun i => signs.getD i 0 := by unfold gcodes gd; rw [List.map_map]; rfl
theorem gd_len (x : List UInt8) : (gd x).length = x.length + 1 := by unfold gd; rw [List.length_map, List.length_range]
theorem gd_lt (x : List UInt8) : ∀ i ∈ gd x, i < 64 := fun i h => by
  obtain ⟨j, _, rfl⟩ := List.mem_map.mp h
  exact Nat.mod_lt _ (by decide)
theorem worth3_gsh : ∀ x : List UInt8, 0 < x.length → x.length ≤ 3 → worth3 x = 64 ^ (3 - x.length) * gsh x := by
  refine len3 (fun a => ?_) (fun a b => ?_) (fun a b c => ?_)
  · show a.toNat * 65536 + 0 = 4096 * ((256 * 0 + a.toNat) * 16); omega
  · show a.toNat * 65536 + (b.toNat * 256 + 0) = 64 * ((256 * (256 * 0 + a.toNat) + b.toNat) * 4); omega
  · show a.toNat * 65536 + (b.toNat * 256 + (c.toNat * 1 + 0)) = 1 * ((256 * (256 * (256 * 0 + a.toNat) + b.toNat) + c.toNat) * 1); omega
theorem spell3_ok (x : List UInt8) (h0 : 0 < x.length) (h3 : x.length ≤ 3) : (spell3 x).map (·.toUInt8) = gcodes x signs ++ List.replicate (3 - x.length) 61 := by
  unfold spell3
  rw [List.map_append, List.map_replicate, four, ← List.map_take, List.take_range, Nat.min_eq_left (by omega), List.map_map]
  refine congrArg (· ++ _) (List.map_congr_left fun i hi => ?_)
  have := List.mem_range.mp hi
  show (signs.getD (worth3 x / 64 ^ (3 - i) % 64) 0).toNat.toUInt8 = _
  rw [worth3_gsh x h0 h3, show 3 - i = (3 - x.length) + (x.length - i) from (Nat.sub_add_sub_cancel h3 (Nat.le_of_lt_succ this)).symm, Nat.pow_add, Nat.mul_div_mul_left _ _ (Nat.pow_pos (by decide))]
  simp
theorem line64_app {x r : List UInt8} (hx : x.length = 3) : line64 (x ++ r) = gcodes x signs ++ line64 r := by
  unfold line64 pcodes
  rw [rowsW_app (by decide) hx, List.map_cons, List.flatten_cons, List.append_assoc, List.length_append, hx, Nat.add_mod_left]
theorem line64_one {x : List UInt8} (h0 : 0 < x.length) (h3 : x.length ≤ 3) : line64 x = gcodes x signs ++ List.replicate (3 - x.length) 61 := by
  unfold line64 pcodes
  rw [rowsW_one h0 h3]
  rw [List.map_singleton, List.flatten_singleton]
  congr 2
  exact (by decide : ∀ n, n < 4 → 0 < n → (3 - n % 3) % 3 = 3 - n) _ (Nat.lt_succ_of_le h3) h0
theorem spelled_ok (o : List UInt8) : (spelled o).map (·.toUInt8) = line64 o := by
  refine chunk_ind (P := fun o => (spelled o).map (·.toUInt8) = line64 o) 3 (by decide) (fun x hx => ?_) (fun x r hx ih => ?_) _ o (Nat.le_refl _)
  · cases x with
    | nil => rfl
    | cons a y =>
      rw [line64_one (x := a :: y) (Nat.succ_pos _) (Nat.le_of_lt hx), ← spell3_ok (a :: y) (Nat.succ_pos _) (Nat.le_of_lt hx)]
      unfold spelled
      rw [rowsW_one (x := a :: y) (Nat.succ_pos _) (Nat.le_of_lt hx), List.map_singleton, List.flatten_singleton]
  · rw [line64_app hx, ← ih, ← List.append_nil (gcodes x signs), show ([] : List UInt8) = List.replicate (3 - x.length) 61 by rw [hx]; rfl, ← spell3_ok x (by omega) (by omega), ← List.map_append]
    unfold spelled
    rw [rowsW_app (by decide) hx, List.map_cons, List.flatten_cons]
theorem line64_num (o : List UInt8) : (line64 o).length = (o.length + 2) / 3 * 4 := by
  refine chunk_ind (P := fun o => (line64 o).length = (o.length + 2) / 3 * 4) 3 (by decide) (fun x hx => ?_) (fun x r hx ih => ?_) _ o (Nat.le_refl _)
  · cases x with
    | nil => rfl
    | cons a y =>
      rw [line64_one (x := a :: y) (Nat.succ_pos _) (Nat.le_of_lt hx), List.length_append, gcodes_len, List.length_replicate]
      rw [List.length_cons] at hx ⊢
      exact (by decide : ∀ n, n < 2 → n + 1 + 1 + (3 - (n + 1)) = (n + 1 + 2) / 3 * 4) _ (Nat.lt_of_succ_lt_succ hx)
  · rw [line64_app hx, List.length_append, List.length_append, ih, gcodes_len, hx, Nat.add_assoc 3 r.length 2, Nat.add_comm 3 (r.length + 2), Nat.add_div_right _ (by decide), Nat.succ_mul, Nat.add_comm]
theorem line64_split {r : List UInt8} : ∀ (n : Nat) (x : List UInt8), x.length = n * 3 → line64 (x ++ r) = line64 x ++ line64 r := by
  intro n
  induction n with
  | zero => intro x h; have e : x = [] := List.eq_nil_of_length_eq_zero (by omega); subst e; rfl
  | succ n ih =>
    intro x h
    have h3 : (x.take 3).length = 3 := by rw [List.length_take]; omega
    have e := ih (x.drop 3) (by rw [List.length_drop]; omega)
    rw [← List.take_append_drop 3 x, List.append_assoc, line64_app h3, line64_app h3, e, List.append_assoc]
theorem rows64 (o : List UInt8) : rowsW 76 (line64 o) = (rowsW 57 o).map line64 := by
  refine chunk_ind (P := fun o => rowsW 76 (line64 o) = (rowsW 57 o).map line64) 57 (by decide) (fun x hx => ?_) (fun x r hx ih => ?_) _ o (Nat.le_refl _)
  · cases x with
    | nil => rfl
    | cons a y =>
      have h := line64_num (a :: y)
      rw [List.length_cons] at hx h
      rw [rowsW_one (x := a :: y) (Nat.succ_pos _) (Nat.le_of_lt hx), rowsW_one (by omega) (by omega)]; rfl
  · rw [line64_split 19 x hx, rowsW_app (by decide) hx, rowsW_app (by decide) (by rw [line64_num, hx]), ih]; rfl
theorem joinB_map {α β : Type} (f : α → β) (sep : List α) (L : List (List α)) : (joinB sep L).map f = joinB (sep.map f) (L.map (List.map f)) := by
  cases L with
  | nil => rfl
  | cons x L => rw [joinB_cons, List.map_cons, joinB_cons, List.map_append, List.map_flatten, List.map_map, List.map_map]; congr 2; refine List.map_congr_left fun y _ => List.map_append
theorem lb64_eq (o : List UInt8) : lb64 o = b64 o := by
  unfold lb64 b64
  rw [joinB_map, rows64, List.map_map]
  congr 1
  exact List.map_congr_left fun x _ => spelled_ok x
theorem sidx_at : ∀ i, i < 64 → sidx (signs.getD i 0) = some i ∧ (signs.getD i 0 == 61) = false := by decide +kernel
theorem wrow_app (a : List UInt8) {b b' : List UInt8} (h : wrow b = wrow b') : wrow (a ++ b) = wrow (a ++ b') := by
  induction a with
  | nil => exact h
  | cons c a ih => rw [List.cons_append, List.cons_append, wrow, wrow, ih]
theorem wrow_join (L : List (List UInt8)) : wrow (joinB [13, 10] L) = wrow L.flatten := by
  cases L with
  | nil => rfl
  | cons x L =>
    rw [joinB_cons, List.flatten_cons]
    refine wrow_app x ?_
    induction L with
    | nil => rfl
    | cons y L ih =>
      rw [List.map_cons, List.flatten_cons, List.flatten_cons, List.append_assoc]
      exact wrow_app y ih
theorem wrow_signs {z : List UInt8} : ∀ D : List Nat, (∀ i ∈ D, i < 64) → wrow ((D.map fun i => signs.getD i 0) ++ z) = D ++ wrow z := by
  intro D
  induction D with
  | nil => intro _; rfl
  | cons i D ih =>
    intro h
    obtain ⟨h1, h2⟩ := sidx_at i (h i List.mem_cons_self)
    rw [List.map_cons, List.cons_append, wrow, h1, h2, if_neg Bool.false_ne_true]
    exact congrArg (i :: ·) (ih fun j hj => h j (List.mem_cons_of_mem _ hj))
noncomputable def digs (o : List UInt8) : List Nat := ((rowsW 3 o).map gd).flatten
theorem wrow_b64 (o : List UInt8) : wrow (b64 o) = digs o := by
  unfold b64
  rw [wrow_join, rowsW_flat (by decide)]
  unfold line64 pcodes
  rw [show (rowsW 3 o).map (fun x => gcodes x signs) = ((rowsW 3 o).map gd).map (List.map fun i => signs.getD i 0) by rw [List.map_map]; exact List.map_congr_left fun x _ => gcodes_gd x, ← List.map_flatten]
  rw [wrow_signs _ fun i hi => by
    obtain ⟨l, hl, hi⟩ := List.mem_flatten.mp hi
    obtain ⟨x, _, rfl⟩ := List.mem_map.mp hl
    exact gd_lt x i hi]
  have : ∀ k, wrow (List.replicate k 61) = [] := fun k => by cases k <;> rfl
  rw [this, List.append_nil]; rfl
theorem digs_rows (o : List UInt8) : rowsW 4 (digs o) = (rowsW 3 o).map gd := by
  refine chunk_ind (P := fun o => rowsW 4 (digs o) = (rowsW 3 o).map gd) 3 (by decide) (fun x hx => ?_) (fun x r hx ih => ?_) _ o (Nat.le_refl _)
  · cases x with
    | nil => rfl
    | cons a y =>
      unfold digs
      rw [rowsW_one (x := a :: y) (Nat.succ_pos _) (Nat.le_of_lt hx), List.map_singleton, List.flatten_singleton, rowsW_one (by rw [gd_len]; omega) (by rw [gd_len]; omega)]
  · unfold digs at ih ⊢
    rw [rowsW_app (by decide) hx, List.map_cons, List.flatten_cons, rowsW_app (by decide) (by rw [gd_len, hx]), ih]
noncomputable def gdn (n k : Nat) : List Nat := (List.range (k + 1)).map fun i => n / 64 ^ (k - i) % 64
noncomputable def oct (m k : Nat) : List UInt8 := (List.range k).map fun i => (m / 256 ^ (k - 1 - i) % 256).toUInt8
theorem goct_eq {w : List Nat} {m : Nat} (k s : Nat) (hw : w.length = k + 1) (hm : wnum w = m * s) (hs : 2 ^ (8 - 2 * (k + 1)) = s) (h0 : 0 < s) : goct w = oct m k := by
  unfold goct oct wwhole
  rw [hw, hm, hs, Nat.mul_div_cancel _ h0]
  rfl
theorem dg {n x : Nat} (h : x = n / 64) : 64 * x + n % 64 = n := h ▸ Nat.div_add_mod n 64
theorem dg0 {n : Nat} (h : n < 64) : 64 * 0 + n % 64 = n := (Nat.zero_add _).trans (Nat.mod_eq_of_lt h)
theorem wn1 {n : Nat} (h : n < 4096) : wnum (gdn n 1) = n := by
  show 64 * (64 * 0 + n / 64 % 64) + n / 1 % 64 = n
  rw [Nat.div_one]
  exact dg (dg0 (Nat.div_lt_of_lt_mul (k := 64) h))
theorem wn2 {n : Nat} (h : n < 262144) : wnum (gdn n 2) = n := by
  show 64 * (64 * (64 * 0 + n / (64 * 64) % 64) + n / 64 % 64) + n / 1 % 64 = n
  rw [Nat.div_one, ← Nat.div_div_eq_div_mul]
  exact dg (dg (dg0 (Nat.div_lt_of_lt_mul (k := 64) (Nat.div_lt_of_lt_mul (k := 64 * 64) h))))
theorem wn3 {n : Nat} (h : n < 16777216) : wnum (gdn n 3) = n := by
  show 64 * (64 * (64 * (64 * 0 + n / (64 * 64 * 64) % 64) + n / (64 * 64) % 64) + n / 64 % 64) + n / 1 % 64 = n
  rw [Nat.div_one, ← Nat.div_div_eq_div_mul, ← Nat.div_div_eq_div_mul]
  exact dg (dg (dg (dg0 (Nat.div_lt_of_lt_mul (k := 64) (Nat.div_lt_of_lt_mul (k := 64 * 64) (Nat.div_lt_of_lt_mul (k := 64 * (64 * 64)) h))))))
theorem u8_of (a : UInt8) (n : Nat) (h : n = a.toNat) : n.toUInt8 = a := by rw [h]; simp
theorem o_lo (m : Nat) (a : UInt8) : ((256 * m + a.toNat) / 1 % 256).toUInt8 = a := u8_of a _ (by rw [Nat.div_one, Nat.mul_add_mod, Nat.mod_eq_of_lt a.toNat_lt])
theorem o_hi (k : Nat) {m r : Nat} (h : r < 256) : (256 * m + r) / (256 * k) = m / k := by rw [← Nat.div_div_eq_div_mul, Nat.mul_add_div (by decide), Nat.div_eq_of_lt h, Nat.add_zero]
theorem o_lt {m r M : Nat} (h : m < M) (hr : r < 256) : 256 * m + r < 256 * M := Nat.lt_of_lt_of_le (Nat.add_lt_add_left hr _) (Nat.mul_le_mul_left 256 h)
theorem g1_lt (a : UInt8) : 256 * 0 + a.toNat < 256 := o_lt (M := 1) (by decide) a.toNat_lt
theorem g2_lt (a b : UInt8) : 256 * (256 * 0 + a.toNat) + b.toNat < 65536 := o_lt (M := 256) (g1_lt a) b.toNat_lt
theorem g3_lt (a b c : UInt8) : 256 * (256 * (256 * 0 + a.toNat) + b.toNat) + c.toNat < 16777216 := o_lt (M := 65536) (g2_lt a b) c.toNat_lt
theorem wg1 (a : UInt8) : wnum (gd [a]) = (256 * 0 + a.toNat) * 16 := wn1 (n := (256 * 0 + a.toNat) * 16) (Nat.mul_lt_mul_of_pos_right (k := 16) (g1_lt a) (by decide))
theorem wg2 (a b : UInt8) : wnum (gd [a, b]) = (256 * (256 * 0 + a.toNat) + b.toNat) * 4 := wn2 (n := (256 * (256 * 0 + a.toNat) + b.toNat) * 4) (Nat.mul_lt_mul_of_pos_right (k := 4) (g2_lt a b) (by decide))
theorem wg3 (a b c : UInt8) : wnum (gd [a, b, c]) = (256 * (256 * (256 * 0 + a.toNat) + b.toNat) + c.toNat) * 1 := wn3 (n := (256 * (256 * (256 * 0 + a.toNat) + b.toNat) + c.toNat) * 1) (Nat.mul_lt_mul_of_pos_right (k := 1) (g3_lt a b c) (by decide))
theorem goct_gd : ∀ x : List UInt8, 0 < x.length → x.length ≤ 3 → goct (gd x) = x := by
  refine len3 (fun a => ?_) (fun a b => ?_) (fun a b c => ?_)
  · rw [goct_eq 1 16 rfl (wg1 a) rfl (by decide)]
    show [Nat.toUInt8 ((256 * 0 + a.toNat) / 1 % 256)] = _
    rw [o_lo]
  · rw [goct_eq 2 4 rfl (wg2 a b) rfl (by decide)]
    show [Nat.toUInt8 ((256 * (256 * 0 + a.toNat) + b.toNat) / (256 * 1) % 256), Nat.toUInt8 ((256 * (256 * 0 + a.toNat) + b.toNat) / 1 % 256)] = _
    rw [o_lo, o_hi _ b.toNat_lt, o_lo]
  · rw [goct_eq 3 1 rfl (wg3 a b c) rfl (by decide)]
    show [Nat.toUInt8 ((256 * (256 * (256 * 0 + a.toNat) + b.toNat) + c.toNat) / (256 * (256 * 1)) % 256), Nat.toUInt8 ((256 * (256 * (256 * 0 + a.toNat) + b.toNat) + c.toNat) / (256 * 1) % 256), Nat.toUInt8 ((256 * (256 * (256 * 0 + a.toNat) + b.toNat) + c.toNat) / 1 % 256)] = _
    rw [o_lo, o_hi _ c.toNat_lt, o_hi _ c.toNat_lt, o_hi _ b.toNat_lt, o_lo, Nat.div_one, ← Nat.div_one (256 * _ + _), o_lo]
theorem dec64_ok (o : List UInt8) : dec64 (b64 o) = o := by
  unfold dec64
  rw [wrow_b64, digs_rows]
  have hx : ∀ x ∈ rowsW 3 o, 0 < x.length ∧ x.length ≤ 3 := fun x hx => ⟨by
    obtain ⟨i, hi, rfl⟩ := List.mem_map.mp hx
    have := List.mem_range.mp hi
    rw [List.length_take, List.length_drop]
    have := (Nat.le_div_iff_mul_le (by decide)).mp (Nat.succ_le_of_lt this)
    exact Nat.lt_min.mpr ⟨by decide, Nat.sub_pos_of_lt (Nat.lt_of_add_lt_add_right (n := 2) (Nat.lt_of_lt_of_le (by rw [Nat.mul_comm]; show i * 3 + 2 < i.succ * 3; rw [Nat.succ_mul]; exact Nat.lt_succ_self _) this))⟩, rowsW_len x hx⟩
  rw [List.filter_eq_self.mpr fun r hr => by
    obtain ⟨x, h, rfl⟩ := List.mem_map.mp hr
    rw [gd_len]; exact decide_eq_true (Nat.succ_lt_succ (hx x h).1), List.map_map, List.map_congr_left (f := goct ∘ gd) (g := _root_.id) fun x h => goct_gd x (hx x h).1 (hx x h).2, List.map_id, rowsW_flat (by decide)]
theorem b64_short {o : List UInt8} (h : o.length ≤ 100) : (b64 o).length ≤ 5000 := by
  have h1 := line64_len o
  have h2 := rowsW_le (w := 76) (l := line64 o) (by decide)
  have h3 := joinB_len [13, 10] (rowsW 76 (line64 o))
  have h4 : ((rowsW 76 (line64 o)).map List.length).sum = (line64 o).length := by rw [← List.length_flatten, rowsW_flat (by decide)]
  unfold b64
  rw [h4] at h3
  simp only [List.length_cons, List.length_nil] at h3
  omega
end
noncomputable section
noncomputable def tot8 (q : List (List UInt8)) : Nat := tot (q.map nats)
theorem tot8_cons (p : List UInt8) (q : List (List UInt8)) : tot8 (p :: q) = p.length + tot8 q := by unfold tot8; rw [List.map_cons, tot_cons]; unfold nats; rw [List.length_map]
theorem tot8_app (a b : List (List UInt8)) : tot8 (a ++ b) = tot8 a + tot8 b := by unfold tot8; rw [List.map_append, tot_app]
theorem tot8_flat (q : List (List UInt8)) : q.flatten.length = tot8 q := by
  induction q with
  | nil => rfl
  | cons p q ih => rw [List.flatten_cons, List.length_append, ih, tot8_cons]
theorem fitGo_eq (p : List UInt8) (r : List (List UInt8)) : ∀ (q : List (List UInt8)) (a : Nat), a + tot8 q ≤ 75 → 75 < a + tot8 q + p.length → fitGo a ((q ++ p :: r).map nats) = q.length := by
  intro q
  induction q with
  | nil =>
    intro a _ h
    show (if a + (nats p).length ≤ 75 then _ else 0) = 0
    rw [if_neg (by unfold nats; rw [List.length_map]; exact Nat.not_le.mpr h)]
  | cons x q ih =>
    intro a h1 h2
    rw [tot8_cons] at h1 h2
    show (if a + (nats x).length ≤ 75 then fitGo (a + (nats x).length) ((q ++ p :: r).map nats) + 1 else 0) = q.length + 1
    have e : (nats x).length = x.length := List.length_map _
    rw [e, if_pos (by lia), ih _ (by lia) (by lia)]
theorem nats_flat (q : List (List UInt8)) : nats q.flatten = (q.map nats).flatten := by unfold nats; rw [List.map_flatten]
noncomputable def lid (r : List (List UInt8)) : Nat := if r.isEmpty then 76 else 75
theorem soft_cons (p : List UInt8) (r : List (List UInt8)) (ln : List UInt8) : soft (p :: r) ln = if lid r < ln.length + p.length then (ln ++ [61]) :: soft r p else soft r (ln ++ p) := rfl
theorem soft_lbr : ∀ (ps q : List (List UInt8)) (n : Nat), (∀ p ∈ ps, 1 ≤ p.length ∧ p.length ≤ 3) → (tot8 q ≤ 75 ∨ ps = [] ∧ tot8 q ≤ 76) → q.length + ps.length ≤ n → (soft ps q.flatten).map nats = lbr n ((q ++ ps).map nats) := by
  intro ps
  induction ps with
  | nil =>
    intro q n _ h _
    rw [List.append_nil]
    show [nats q.flatten] = _
    have : tot (q.map nats) ≤ 76 := by show tot8 q ≤ 76; lia
    cases n with
    | zero => rw [nats_flat]; rfl
    | succ n => rw [lbr, if_pos this, nats_flat]
  | cons p r ih =>
    intro q n hp h hn
    have h75 : tot8 q ≤ 75 := by rcases h with h | ⟨h, _⟩; exact h; cases h
    obtain ⟨p1, p3⟩ := hp p List.mem_cons_self
    have hp' := fun x hx => hp x (List.mem_cons_of_mem _ hx)
    rw [soft_cons, tot8_flat]
    rw [List.length_cons] at hn
    have hl : 75 ≤ lid r := by unfold lid; split <;> decide
    by_cases hb : lid r < tot8 q + p.length
    · rw [if_pos hb]
      have hr : 1 ≤ tot8 r ∨ r = [] := by
        cases r with
        | nil => exact .inr rfl
        | cons y r => left; rw [tot8_cons]; have := (hp' y List.mem_cons_self).1; lia
      have hb' : 75 < tot8 q + p.length := by lia
      have ht : 76 < tot8 q + (p.length + tot8 r) := by
        rcases hr with h | rfl
        · lia
        · rw [show lid [] = 76 from rfl] at hb; lia
      have hq : 1 ≤ q.length := by
        cases q with
        | nil => rw [show tot8 [] = 0 from rfl] at hb'; lia
        | cons _ _ => exact Nat.succ_pos _
      obtain ⟨m, rfl⟩ : ∃ m, n = m + 1 := ⟨n - 1, by lia⟩
      have e := ih [p] m hp' (by left; rw [tot8_cons]; show p.length + 0 ≤ 75; lia) (by simp; lia)
      rw [List.flatten_singleton] at e
      rw [lbr, if_neg (by show ¬ tot8 (q ++ p :: r) ≤ 76; rw [tot8_app, tot8_cons]; lia), fit, fitGo_eq p r q 0 (by lia) (by lia)]
      rw [List.map_cons, e, ← List.map_take, ← List.map_drop, List.take_left, List.drop_left, ← nats_flat]
      unfold nats
      rw [List.map_append]; rfl
    · rw [if_neg hb]
      have e : q.flatten ++ p = (q ++ [p]).flatten := by rw [List.flatten_append, List.flatten_singleton]
      rw [e, ih (q ++ [p]) n hp' (by
        rw [tot8_app, tot8_cons, show tot8 [] = 0 from rfl]
        cases r with
        | nil => right; exact ⟨rfl, by rw [show lid [] = 76 from rfl] at hb; lia⟩
        | cons y r => left; rw [show lid (y :: r) = 75 from rfl] at hb; lia) (by simp; lia), List.append_assoc]; rfl
theorem lpieces_ge {l : List UInt8} : ∀ p ∈ lpieces l, 1 ≤ p.length ∧ p.length ≤ 3 := by
  induction l with
  | nil => intro p h; cases h
  | cons c l ih =>
    intro p h
    rcases List.mem_cons.mp h with rfl | h
    · unfold lpiece; split; exact ⟨Nat.le_refl _, by show 1 ≤ 3; decide⟩; exact ⟨by show 1 ≤ 3; decide, Nat.le_refl _⟩
    · exact ih p h
noncomputable def srows (l : List UInt8) : List (List UInt8) := soft (lpieces l) []
theorem lrows_eq (l : List UInt8) : lrows l = (srows l).map nats := (soft_lbr (lpieces l) [] _ lpieces_ge (.inl (Nat.zero_le _)) (by simp)).symm
theorem nats_back (l : List UInt8) : (nats l).map (·.toUInt8) = l := by
  unfold nats
  rw [List.map_map]
  refine (List.map_congr_left (g := _root_.id) fun c _ => ?_).trans (List.map_id l)
  simp
noncomputable def quo (rows : List (List UInt8)) : List UInt8 := joinB [13, 10] (rows.map fun r => joinB [13, 10] (srows r))
theorem lq_quo (o : List UInt8) (t : Bool) : lq o t = quo (trows o t) := by
  unfold lq quo
  rw [joinB_map, List.map_map]
  congr 1
  refine List.map_congr_left fun r _ => ?_
  show (joinB [13, 10] (lrows r)).map _ = _
  rw [lrows_eq, joinB_map, List.map_map]
  congr 1
  exact (List.map_congr_left (g := _root_.id) fun c _ => nats_back c).trans (List.map_id _)
theorem ends61_iff (l : List UInt8) : ends61 l = (l.getLast? == some 61) := by
  unfold ends61 cut
  rcases List.eq_nil_or_concat l with rfl | ⟨q, z, rfl⟩
  · rfl
  · rw [List.concat_eq_append, List.getLast?_concat]
    have e : clipAt (q ++ [z]).length (-1) = q.length := by unfold clipAt; rw [if_pos (by decide), List.length_append, List.length_singleton]; lia
    simp only [Option.elim_some, Option.elim_none, e]
    simp
theorem soft_ne (ps : List (List UInt8)) : ∀ ln, soft ps ln ≠ [] := by
  induction ps with
  | nil => intro ln; exact List.cons_ne_nil _ _
  | cons p r ih => intro ln; rw [soft_cons]; split; exact List.cons_ne_nil _ _; exact ih _
theorem joinB_two {α : Type} (sep x : List α) {L : List (List α)} (h : L ≠ []) : joinB sep (x :: L) = x ++ sep ++ joinB sep L := by
  cases L with
  | nil => exact absurd rfl h
  | cons y L => rfl
theorem joined_app (a b : List (List UInt8)) : joined (a ++ b) = joined a ++ joined b := by unfold joined; rw [List.map_append, List.flatten_append]
theorem joined_soft : ∀ (ps : List (List UInt8)) (ln : List UInt8), ln.getLast? ≠ some 61 → (∀ p ∈ ps, p ≠ [] ∧ p.getLast? ≠ some 61) → joined (soft ps ln) = joinB [13, 10] (soft ps ln) := by
  intro ps
  induction ps with
  | nil =>
    intro ln h _
    show (if ends61 ln = true then _ else ln) ++ [] = ln
    rw [ends61_iff, if_neg (by simpa using h), List.append_nil]
  | cons p r ih =>
    intro ln h hp
    obtain ⟨h0, h1⟩ := hp p List.mem_cons_self
    have hp' := fun x hx => hp x (List.mem_cons_of_mem _ hx)
    rw [soft_cons]
    split
    · rw [joinB_two _ _ (soft_ne _ _), ← ih p h1 hp']
      show (if ends61 (ln ++ [61]) = true then ln ++ [61] ++ [13, 10] else ln ++ [61]) ++ joined (soft r p) = _
      rw [ends61_iff, List.getLast?_concat, if_pos (by decide)]
    · refine ih _ ?_ hp'
      rw [List.getLast?_append]
      cases e : p.getLast? with
      | none => exact absurd (List.getLast?_eq_none_iff.mp e) h0
      | some z => rw [Option.some_or, ← e]; exact h1
theorem lpiece_last (c : UInt8) : ∀ b : Bool, (lpiece c b).getLast? ≠ some 61 ∧ (b = true → (lpiece c b).getLast? ≠ some 32 ∧ (lpiece c b).getLast? ≠ some 9) := by
  have h : ∀ n : Fin 256, ∀ b : Bool, (lpiece n.val.toUInt8 b).getLast? ≠ some 61 ∧ (b = true → (lpiece n.val.toUInt8 b).getLast? ≠ some 32 ∧ (lpiece n.val.toUInt8 b).getLast? ≠ some 9) := by decide +kernel
  simpa using h ⟨c.toNat, c.toNat_lt⟩
theorem lpieces_last {l : List UInt8} : ∀ p ∈ lpieces l, p ≠ [] ∧ p.getLast? ≠ some 61 := by
  induction l with
  | nil => intro p h; cases h
  | cons c l ih =>
    intro p h
    rcases List.mem_cons.mp h with rfl | h
    · refine ⟨fun e => ?_, (lpiece_last c _).1⟩
      have := (lpieces_ge (l := c :: l) _ List.mem_cons_self).1
      rw [e] at this; exact absurd this (by decide)
    · exact ih p h
theorem joined_rows (r : List UInt8) : joined (srows r) = joinB [13, 10] (srows r) := joined_soft _ _ (by simp) lpieces_last
theorem qenc_quo (o : List UInt8) (t : Bool) (h : trows o t ≠ []) : qenc o t = quo (trows o t) := by
  unfold qenc quo
  generalize trows o t = L at h
  have e : joined [[13, 10]] = [13, 10] := by decide
  have ha : ∀ L : List (List UInt8), L ≠ [] → (qall L).take ((qall L).length - 1) ++ [[13, 10]] = qall L := by
    intro L hL
    rcases List.eq_nil_or_concat L with rfl | ⟨q, z, rfl⟩
    · exact absurd rfl hL
    · unfold qall
      rw [List.concat_eq_append, List.map_append, List.flatten_append, List.map_singleton, List.flatten_singleton, ← List.append_assoc, List.length_append, List.length_singleton, Nat.add_sub_cancel, List.take_left]
  have hj : ∀ L : List (List UInt8), joined (qall L) = ((L.map fun r => joinB [13, 10] (srows r)).map fun x => x ++ [13, 10]).flatten := by
    intro L
    induction L with
    | nil => rfl
    | cons x L ih =>
      rw [List.map_cons, List.map_cons, List.flatten_cons, ← ih, ← joined_rows, ← e, ← joined_app, ← joined_app]; rfl
  have hk : ∀ M : List (List UInt8), M ≠ [] → (M.map fun x => x ++ [13, 10]).flatten = joinB [13, 10] M ++ [13, 10] := by
    intro M
    induction M with
    | nil => intro h; exact absurd rfl h
    | cons x M ih =>
      intro _
      cases M with
      | nil => show (x ++ [13, 10]) ++ [] = _; rw [List.append_nil]; rfl
      | cons y M => rw [List.map_cons, List.flatten_cons, ih (List.cons_ne_nil _ _), joinB_two _ _ (List.cons_ne_nil _ _)]; simp only [List.append_assoc]
  have := congrArg joined (ha L h)
  rw [joined_app, e, hj, hk _ (by simpa using h)] at this
  exact List.append_cancel_right this
end
noncomputable section
structure Piece (c : UInt8) (p : List UInt8) : Prop where
  back : ∀ r, unq (p ++ r) = c :: unq r
  ne : p ≠ []
  last : p.getLast? ≠ some 61
  feed : ∀ x ∈ p, x ≠ 10
theorem hexv_figs : ∀ n : Fin 256, hexv (figs.getD (n.val / 16) 0) (figs.getD (n.val % 16) 0) = n.val ∧ figs.getD (n.val / 16) 0 ≠ 10 ∧ figs.getD (n.val % 16) 0 ≠ 10 := by decide +kernel
theorem piece_ok (c : UInt8) (b : Bool) : Piece c (lpiece c b) := by
  obtain ⟨hv, f1, f2⟩ := hexv_figs ⟨c.toNat, c.toNat_lt⟩
  refine ⟨fun r => ?_, fun e => ?_, (lpiece_last c b).1, fun x hx => ?_⟩
  · unfold lpiece
    split
    · rename_i h
      have h61 : c ≠ 61 := fun e => by subst e; revert h; cases b <;> decide
      show unq (c :: r) = _
      rw [unq_step, if_neg fun e => h61 e.1]
    · show unq (61 :: _ :: _ :: r) = _
      rw [unq, if_pos ⟨rfl, by rw [hv]; exact Int.natCast_nonneg _⟩, hv]
      simp
  · have := congrArg List.length e
    unfold lpiece at this
    split at this <;> cases this
  · unfold lpiece at hx
    split at hx
    · rename_i h
      rw [List.mem_singleton.mp hx]
      intro e
      subst e
      revert h; cases b <;> decide
    · simp only [qcode, List.mem_cons, List.not_mem_nil, or_false] at hx
      rcases hx with rfl | rfl | rfl
      · decide
      · exact f1
      · exact f2
noncomputable def tag (e : List UInt8) : List (List UInt8) → List (List UInt8 × List UInt8)
  | [] => []
  | [x] => [(x, e)]
  | x :: y :: r => (x, [13, 10]) :: tag e (y :: r)
theorem tag_two {e x : List UInt8} {L : List (List UInt8)} (h : L ≠ []) : tag e (x :: L) = (x, [13, 10]) :: tag e L := by
  cases L with
  | nil => exact absurd rfl h
  | cons y L => rfl
theorem tag_app {e : List UInt8} {B : List (List UInt8)} (hB : B ≠ []) : ∀ A : List (List UInt8), A ≠ [] → tag e (A ++ B) = tag [13, 10] A ++ tag e B := by
  intro A
  induction A with
  | nil => intro h; exact absurd rfl h
  | cons x A ih =>
    intro _
    cases A with
    | nil => rw [List.singleton_append, tag_two hB]; rfl
    | cons y A => rw [List.cons_append, tag_two (by simp), ih (List.cons_ne_nil _ _), tag_two (List.cons_ne_nil _ _)]; rfl
theorem lgo_tag : ∀ M : List (List UInt8), M ≠ [] → (∀ x ∈ M, ∀ c ∈ x, c ≠ 10) → lgo [] (joinB [13, 10] M) = tag [] M := by
  intro M
  induction M with
  | nil => intro h; exact absurd rfl h
  | cons x M ih =>
    intro _ h
    have hx := h x List.mem_cons_self
    by_cases hM : M = []
    · subst hM
      have := lgo_pre (cur := []) (r := []) hx
      rw [List.append_nil] at this
      exact this
    · rw [joinB_two _ _ hM, tag_two hM, List.append_assoc, lgo_pre hx, List.nil_append]
      show (if (13 : UInt8) = 10 then _ else if (10 : UInt8) = 10 then lrow (x ++ [13]) :: lgo [] (joinB [13, 10] M) else _) = _
      rw [if_neg (by decide), if_pos rfl, ih hM fun y hy => h y (List.mem_cons_of_mem _ hy)]
      unfold lrow
      rw [List.getLast?_concat, if_pos rfl, List.dropLast_concat]
theorem stripped_keep {l : List UInt8} (h : l.getLast? ≠ some 32 ∧ l.getLast? ≠ some 9) : stripped l [32, 9] = l := by
  unfold stripped
  rcases List.eq_nil_or_concat l with rfl | ⟨q, z, rfl⟩
  · rfl
  · rw [List.concat_eq_append, List.getLast?_concat] at h
    rw [List.concat_eq_append, List.reverse_append, List.reverse_singleton, List.singleton_append, List.dropWhile_cons_of_neg, List.reverse_cons, List.reverse_reverse]
    simp only [ne_eq, Option.some.injEq] at h
    simp [h.1, h.2]
theorem qrow_soft (v : List UInt8) {ln : List UInt8} (h : unq ln = v) (e : List UInt8) : qrow (ln ++ [61], e) = v := by
  unfold qrow
  rw [stripped_keep (by rw [List.getLast?_concat]; decide), ends61_iff, List.getLast?_concat, if_pos (by decide), List.length_append, List.length_singleton, Nat.add_sub_cancel, List.take_left, h]
theorem qrow_last (v : List UInt8) {ln : List UInt8} (h : unq ln = v) (e : List UInt8) (h1 : ln.getLast? ≠ some 61) (h2 : ln.getLast? ≠ some 32 ∧ ln.getLast? ≠ some 9) : qrow (ln, e) = v ++ e := by
  unfold qrow
  rw [stripped_keep h2, ends61_iff, if_neg (by simpa using h1), h]
noncomputable def tailOk (ln : List UInt8) (ps : List (List UInt8)) : Prop := (ps = [] → ln.getLast? ≠ some 32 ∧ ln.getLast? ≠ some 9) ∧ ∀ p, ps.getLast? = some p → p.getLast? ≠ some 32 ∧ p.getLast? ≠ some 9
inductive Pieces : List UInt8 → List (List UInt8) → Prop
  | nil : Pieces [] []
  | cons {c p u ps} : Piece c p → Pieces u ps → Pieces (c :: u) (p :: ps)
theorem soft_back (e : List UInt8) {u : List UInt8} {ps : List (List UInt8)} (hp : Pieces u ps) : ∀ (ln v : List UInt8), (∀ r, unq (ln ++ r) = v ++ unq r) → ln.getLast? ≠ some 61 → tailOk ln ps → ((tag e (soft ps ln)).map qrow).flatten = v ++ u ++ e := by
  induction hp with
  | nil =>
    intro ln v hv h1 h2
    show qrow (ln, e) ++ [] = _
    have := hv []
    rw [List.append_nil] at this
    rw [List.append_nil, qrow_last _ this _ h1 (h2.1 rfl)]; rfl
  | @cons c p u ps hc hps ih =>
    intro ln v hv h1 h2
    have ht : tailOk p ps := ⟨fun e => h2.2 p (by rw [e]; rfl), fun q hq => h2.2 q (by
      cases ps with
      | nil => cases hq
      | cons a b => rw [List.getLast?_cons_cons]; exact hq)⟩
    have hlast : (ln ++ p).getLast? = p.getLast? := by
      rw [List.getLast?_append]
      cases e : p.getLast? with
      | none => exact absurd (List.getLast?_eq_none_iff.mp e) hc.ne
      | some z => rfl
    rw [soft_cons]
    split
    · rw [tag_two (soft_ne _ _), List.map_cons, List.flatten_cons, ih p [c] hc.back hc.last ht]
      have := hv []
      rw [List.append_nil] at this
      rw [qrow_soft _ this]
      simp [unq]
    · rw [ih (ln ++ p) (v ++ [c]) (fun r => by rw [List.append_assoc, hv, hc.back]; simp) (by rw [hlast]; exact hc.last) ⟨fun e => by rw [hlast]; exact ht.1 e, ht.2⟩]
      simp
theorem lpieces_pieces : ∀ l : List UInt8, Pieces l (lpieces l)
  | [] => .nil
  | c :: l => .cons (piece_ok c _) (lpieces_pieces l)
theorem lpieces_tail : ∀ l : List UInt8, ∀ p, (lpieces l).getLast? = some p → p.getLast? ≠ some 32 ∧ p.getLast? ≠ some 9
  | [], p, h => by cases h
  | [c], p, h => by cases h; exact (lpiece_last c true).2 rfl
  | c :: d :: l, p, h => lpieces_tail (d :: l) p (by rw [lpieces] at h; unfold lpieces at h ⊢; rwa [List.getLast?_cons_cons] at h)
theorem srows_back (r e : List UInt8) : ((tag e (srows r)).map qrow).flatten = r ++ e :=
  soft_back e (lpieces_pieces r) [] [] (fun _ => rfl) (by simp) ⟨fun _ => by simp, lpieces_tail r⟩
theorem soft_feed {u : List UInt8} {ps : List (List UInt8)} (hp : Pieces u ps) : ∀ ln : List UInt8, (∀ c ∈ ln, c ≠ 10) → ∀ x ∈ soft ps ln, ∀ c ∈ x, c ≠ 10 := by
  induction hp with
  | nil => intro ln h x hx; rw [List.mem_singleton.mp hx]; exact h
  | cons hc _ ih =>
    intro ln h x hx
    rw [soft_cons] at hx
    split at hx
    · rcases List.mem_cons.mp hx with rfl | hx
      · intro c hm
        rcases List.mem_append.mp hm with hm | hm
        · exact h c hm
        · rw [List.mem_singleton.mp hm]; decide
      · exact ih _ hc.feed x hx
    · refine ih _ (fun c hm => ?_) x hx
      rcases List.mem_append.mp hm with hm | hm
      · exact h c hm
      · exact hc.feed c hm
theorem joinB_join {α : Type} (sep : List α) {B : List (List α)} (hB : B ≠ []) : ∀ A : List (List α), A ≠ [] → joinB sep (A ++ B) = joinB sep A ++ sep ++ joinB sep B := by
  intro A
  induction A with
  | nil => intro h; exact absurd rfl h
  | cons x A ih =>
    intro _
    by_cases hA : A = []
    · subst hA; rw [List.singleton_append, joinB_two _ _ hB]; rfl
    · rw [List.cons_append, joinB_two _ _ (by simp [hA]), ih hA, joinB_two _ _ hA]; simp only [List.append_assoc]
noncomputable def allR (L : List (List UInt8)) : List (List UInt8) := (L.map srows).flatten
theorem srows_ne (r : List UInt8) : srows r ≠ [] := soft_ne _ _
theorem allR_ne {L : List (List UInt8)} (h : L ≠ []) : allR L ≠ [] := by
  cases L with
  | nil => exact absurd rfl h
  | cons x L => unfold allR; rw [List.map_cons, List.flatten_cons]; exact fun e => soft_ne _ _ (List.append_eq_nil_iff.mp e).1
theorem quo_all : ∀ L : List (List UInt8), quo L = joinB [13, 10] (allR L) := by
  intro L
  induction L with
  | nil => rfl
  | cons x L ih =>
    by_cases hL : L = []
    · subst hL; unfold quo allR; rw [List.map_singleton, List.map_singleton, List.flatten_singleton]; rfl
    · have e : allR (x :: L) = srows x ++ allR L := rfl
      rw [e, joinB_join _ (allR_ne hL) _ (srows_ne _), ← ih]
      unfold quo
      rw [List.map_cons, joinB_two _ _ (by simpa using hL)]
theorem qdec_quo {L : List (List UInt8)} (h : L ≠ []) : qdec (quo L) = joinB [13, 10] L := by
  unfold qdec
  rw [quo_all, lgo_tag _ (allR_ne h) fun x hx => by
    obtain ⟨l, hl, hx⟩ := List.mem_flatten.mp hx
    obtain ⟨r, _, rfl⟩ := List.mem_map.mp hl
    exact soft_feed (lpieces_pieces r) [] (by simp) x hx]
  induction L with
  | nil => exact absurd rfl h
  | cons x L ih =>
    have e : allR (x :: L) = srows x ++ allR L := rfl
    rw [e]
    by_cases hL : L = []
    · subst hL
      rw [show allR [] = [] from rfl, List.append_nil, srows_back]; simp [joinB]
    · rw [tag_app (allR_ne hL) _ (srows_ne _), List.map_append, List.flatten_append, srows_back, ih hL, joinB_two _ _ hL]
theorem spl_join : ∀ (r cur : List UInt8), joinB [13, 10] (spl cur r) = cur ++ r := by
  intro r
  induction r with
  | nil => intro cur; exact (List.append_nil _).symm
  | cons c r ih =>
    intro cur
    unfold spl
    split
    · rename_i h
      obtain ⟨rfl, h⟩ := h
      rw [joinB_two _ _ (spl_short r []).2.2, ih]
      rcases List.eq_nil_or_concat cur with rfl | ⟨q, z, rfl⟩
      · cases h
      · rw [List.concat_eq_append, List.getLast?_concat] at h
        cases h
        rw [List.concat_eq_append, List.dropLast_concat]; simp
    · rw [ih, List.append_assoc]; rfl
theorem trows_join (o : List UInt8) (t : Bool) : trows o t ≠ [] ∧ joinB [13, 10] (trows o t) = o := by
  unfold trows
  cases t with
  | false => exact ⟨List.cons_ne_nil _ _, rfl⟩
  | true => rw [if_pos rfl, split_spl]; exact ⟨(spl_short o []).2.2, spl_join o []⟩
theorem lq_eq (o : List UInt8) (t : Bool) : lq o t = qenc o t := (lq_quo o t).trans (qenc_quo o t (trows_join o t).1).symm
theorem qdec_ok (o : List UInt8) (t : Bool) : qdec (qenc o t) = o := by
  rw [qenc_quo o t (trows_join o t).1, qdec_quo (trows_join o t).1, (trows_join o t).2]
theorem soft_size : ∀ (ps : List (List UInt8)) (ln : List UInt8), (∀ p ∈ ps, p.length ≤ 3) → (joinB [13, 10] (soft ps ln)).length ≤ ln.length + 6 * ps.length := by
  intro ps
  induction ps with
  | nil => intro ln _; exact Nat.le_refl _
  | cons p ps ih =>
    intro ln h
    have hp := h p List.mem_cons_self
    have hps := fun q hq => h q (List.mem_cons_of_mem _ hq)
    rw [soft_cons, List.length_cons]
    split
    · have := ih p hps
      rw [joinB_two _ _ (soft_ne _ _)]
      simp only [List.length_append, List.length_cons, List.length_nil]
      lia
    · have := ih (ln ++ p) hps
      rw [List.length_append] at this
      lia
theorem qenc_short {o : List UInt8} {t : Bool} (h : o.length ≤ 100) : (qenc o t).length ≤ 30000 := by
  have hs : ∀ L : List (List UInt8), (quo L).length ≤ 6 * (joinB [13, 10] L).length := by
    intro L
    induction L with
    | nil => exact Nat.le_refl _
    | cons x L ih =>
      have hx := soft_size (lpieces x) [] lpieces_len
      rw [lpieces_num] at hx
      by_cases hL : L = []
      · subst hL
        show (joinB [13, 10] (srows x)).length ≤ 6 * x.length
        rw [List.length_nil, Nat.zero_add] at hx; exact hx
      · have e : quo (x :: L) = joinB [13, 10] (srows x) ++ [13, 10] ++ quo L := by unfold quo; rw [List.map_cons, joinB_two _ _ (by simpa using hL)]
        rw [e, joinB_two _ _ hL]
        unfold srows
        simp only [List.length_append, List.length_cons, List.length_nil] at hx ⊢
        lia
  rw [qenc_quo o t (trows_join o t).1]
  have := hs (trows o t)
  rw [(trows_join o t).2] at this
  lia
end
noncomputable section
noncomputable def n115 : List Str := ["script", "pen", "is_text", "body", "signs", "quotes", "top", "sub", "head", "due", "way"]
noncomputable def c115d : CS := (.ret (.cmp .Eq (.call "leaf_octets" (.call "Leaf" (.call "Kind" (.var 6) (.cons (.var 7) (.cons .dict0 .nil))) (.cons (.var 3) .nil)) .nil) (.bin .Add (.bin .Add (.var 8) (.byt [13, 10])) (.var 9))))
noncomputable def c115e : CS := (.assign 8 (.bin .Add (.bin .Add (.bin .Add (.var 8) (.byt [67, 111, 110, 116, 101, 110, 116, 45, 84, 114, 97, 110, 115, 102, 101, 114, 45, 69, 110, 99, 111, 100, 105, 110, 103, 58, 32])) (.var 10)) (.byt [13, 10])) .done)
noncomputable def c115c : CS := (.assignt [8, 9] (.tup (.cons (.bin .Add (.bin .Add (.byt [67, 111, 110, 116, 101, 110, 116, 45, 84, 121, 112, 101, 58, 32]) (.meth (.bin .Add (.bin .Add (.var 6) (.str [47])) (.var 7)) "encode" (.str [97, 115, 99, 105, 105]) .nil)) (.byt [13, 10])) (.cons (.var 3) .nil)))
  (.ite (.tnot (.tval (.call "_law_stands" (.var 3) .nil)))
  (.assignt [10, 9] (.ite (.tcmp .Lt (.call "len" (.var 4) .nil) (.call "len" (.var 5) .nil)) (.tup (.cons (.byt [98, 97, 115, 101, 54, 52]) (.cons (.var 4) .nil))) (.tup (.cons (.byt [113, 117, 111, 116, 101, 100, 45, 112, 114, 105, 110, 116, 97, 98, 108, 101]) (.cons (.var 5) .nil))))
  c115e)
  .done
  c115d))
noncomputable def c115b : CS := (.assignt [6, 7] (.ite (.tval (.var 2)) (.tup (.cons (.str [116, 101, 120, 116]) (.cons (.str [112, 108, 97, 105, 110]) .nil))) (.tup (.cons (.str [105, 109, 97, 103, 101]) (.cons (.str [112, 110, 103]) .nil)))) c115c)
noncomputable def c115 : CS := (.assign 1 (.call "_law_pen" (.var 0) .nil)
  (.assign 2 (.cmp .Eq (.call "_law_drawn" (.var 1) (.cons (.int 2) .nil)) (.int 1))
  (.assign 3 (.call "_law_body" (.var 1) .nil)
  (.assignt [4, 5] (.tup (.cons (.call "_law_base64" (.var 3) .nil) (.cons (.call "_law_quotes" (.var 3) (.cons (.var 2) .nil)) .nil)))
  (.ite (.tall .Or (.chc .Or (.tcmp .NotEq (.call "encoded" (.var 3) .nil) (.var 4)) (.chc .Or (.tcmp .NotEq (.call "quoted_encoded" (.var 3) (.cons (.var 2) .nil)) (.var 5)) (.chn .Or))))
  (.ret (.bool false))
  .done
  (.ite (.tall .Or (.chc .Or (.tcmp .NotEq (.call "undone" (.str [98, 97, 115, 101, 54, 52]) (.cons (.var 4) .nil)) (.var 3)) (.chc .Or (.tcmp .NotEq (.call "undone" (.str [113, 117, 111, 116, 101, 100, 45, 112, 114, 105, 110, 116, 97, 98, 108, 101]) (.cons (.var 5) .nil)) (.var 3)) (.chn .Or))))
  (.ret (.bool false))
  .done
  c115b))))))
variable {X : Stat} {d : Nat} {σ : Sto} {K : Frag} {cF cK cL : Addr}
theorem k115 : (decide (dName 115 = "law") && fits (dNs 115) (dScope 115) (dBody 115) 1 0 c115 n115) = true := by decide +kernel
theorem r115d (H : PF X) (P : PK X K cF cK cL) {o : List UInt8} {t : Bool} {a b : List Nat} {v0 v1 v2 v4 v5 v10 : Option PV} {hd du : List UInt8} (ho : o.length ≤ 100) (ha : Word a) (hb : Word b) (ht : (a == txt) = t)
    (h1 : (a == [109, 117, 108, 116, 105, 112, 97, 114, 116]) = false) (h2 : (a == [109, 101, 115, 115, 97, 103, 101]) = false) (hl : hd.length ≤ 10000 ∧ du.length ≤ 30000)
    (he : headB (wordB a ++ [47] ++ wordB b) (encOf o t) ++ inEnc (encOf o t) o t = hd ++ [13, 10] ++ du) : wpS X (d + 6) c115d [v0, v1, v2, some (.bytes o), v4, v5, some (.str a), some (.str b), some (.bytes hd), some (.bytes du), v10] σ (backQ fun r _ => r = .bool true) := by
  obtain ⟨n, s1, g1, p1, i1⟩ := t55i (d := d + 4) (σ := σ ++ [.raw (NoKeys X)]) H P (.str a) (.str b) (.ref σ.length)
  obtain ⟨m, s2, g2, p2, i2⟩ := t95i (d := d + 4) (σ := s1) H P (.ref n) (.bytes o)
  obtain ⟨s3, g3, _⟩ := t101 (d := d) H P i2 (i1.grow p2) (pre_at (p1.trans p2) (at_app _ _ _)) ha hb (short_of ho) h1 h2
  refine (ex2 g1 (ex2 g2 (ex2 g3 ?_)))
  have hx : (hd ++ [13, 10]).length = hd.length + 2 := by simp
  refine ⟨by show hd.length + 2 ≤ 16777216; lia, ?_⟩
  refine ⟨by refine rwr hx ?_; lia, ?_⟩
  refine rwr ht ?_; refine rwr he ?_
  exact congrArg PV.bool (beq_self_eq_true (hd ++ [13, 10] ++ du))
noncomputable def ct0 : List UInt8 := [67, 111, 110, 116, 101, 110, 116, 45, 84, 121, 112, 101, 58, 32]
noncomputable def cte0 : List UInt8 := [67, 111, 110, 116, 101, 110, 116, 45, 84, 114, 97, 110, 115, 102, 101, 114, 45, 69, 110, 99, 111, 100, 105, 110, 103, 58, 32]
theorem headB_7 (k : List UInt8) : headB k sevenbit = ct0 ++ k ++ [13, 10] ++ [13, 10] := by
  unfold headB fldB
  refine rwr (if_pos (by decide)) ?_; rw [List.append_nil]
  refine rwr (show ct0 = ctB ++ [58] ++ [32] from rfl) ?_
  simp only [List.append_assoc]
theorem headB_e (k : List UInt8) {e : List Nat} (h : (e == sevenbit) = false) : headB k e = ct0 ++ k ++ [13, 10] ++ cte0 ++ wordB e ++ [13, 10] ++ [13, 10] := by
  unfold headB fldB
  rw [if_neg (by refine rwr h ?_; decide), show ct0 = ctB ++ [58] ++ [32] from rfl, show cte0 = cteB ++ [58] ++ [32] from rfl]
  simp only [List.append_assoc]
theorem r115c (H : PF X) (P : PK X K cF cK cL) {o : List UInt8} {t : Bool} {a b : List Nat} {v0 v1 v2 v8 v9 v10 : Option PV} (ho : o.length ≤ 100) (ha : Word a) (hb : Word b) (ht : (a == txt) = t)
    (h1 : (a == [109, 117, 108, 116, 105, 112, 97, 114, 116]) = false) (h2 : (a == [109, 101, 115, 115, 97, 103, 101]) = false) : wpS X (d + 6) c115c [v0, v1, v2, some (.bytes o), some (.bytes (b64 o)), some (.bytes (qenc o t)), some (.str a), some (.str b), v8, v9, v10] σ (backQ fun r _ => r = .bool true) := by
  have hal := ha.len
  have hbl := hb.len
  have l5 := b64_short ho
  have l6 := qenc_short (t := t) ho
  have sh := short_of ho
  refine ⟨by show a.length + 1 ≤ _; lia, ?_⟩
  refine ⟨by rw [List.length_append]; show a.length + 1 + b.length ≤ _; lia, ?_⟩
  refine (ex2 (mf_of mth_encode isT_str (encode_s (l := a ++ [47] ++ b) (fun c hc => ?_) (by simp only [List.length_append, List.length_singleton]; lia))) ?_)
  · simp only [List.mem_append, List.mem_singleton] at hc
    rcases hc with (hc | rfl) | hc
    · exact ha.lt c hc
    · decide
    · exact hb.lt c hc
  have e : (a ++ [47] ++ b).map (fun i : Nat => i.toUInt8) = wordB a ++ [47] ++ wordB b := by rw [List.map_append, List.map_append]; rfl
  have el : (wordB a ++ [47] ++ wordB b).length ≤ 201 := by unfold wordB; simp only [List.length_append, List.length_singleton, List.length_map]; lia
  refine rwr e ?_
  generalize hk : wordB a ++ [47] ++ wordB b = k at *
  refine ⟨by show 14 + k.length ≤ _; lia, ?_⟩
  refine ⟨by rw [List.length_append]; show 14 + k.length + 2 ≤ _; lia, ?_⟩
  refine ⟨by show 2 ≤ _; decide, rfl, ?_⟩
  obtain ⟨s1, g1, _⟩ := t114 (d := d + 5) (σ := σ) H sh.parts sh.num
  rw [← seven_stands] at g1
  refine (ex2 g1 ?_)
  refine bsel_of (fun hs => ?_) fun hs => ?_
  · have hs : sevenB o = false := by simpa using hs
    have fin : ∀ (e : List Nat) (du : List UInt8) {s : Sto} {x y : Option PV}, encOf o t = e → inEnc e o t = du → (e == sevenbit) = false → e.length ≤ 100 → du.length ≤ 30000 → wpS X (d + 6) c115d [v0, v1, v2, some (.bytes o), x, y, some (.str a), some (.str b), some (.bytes (ct0 ++ k ++ [13, 10] ++ cte0 ++ wordB e ++ [13, 10])), some (.bytes du), some (.bytes (wordB e))] s (backQ fun r _ => r = .bool true) := by
      intro e du s x y he hd h7 hle hld
      refine r115d H P ho ha hb ht h1 h2 ⟨?_, hld⟩ ?_
      · unfold wordB
        simp only [List.length_append, List.length_map]
        show 14 + k.length + 2 + 27 + e.length + 2 ≤ _
        lia
      · refine rwr he ?_; refine rwr hd ?_; refine rwr hk ?_; rw [headB_e k h7]
    refine (ex2 (H.len_b (by lia)) (ex2 (H.len_b (by lia)) ?_))
    have wp8 : ∀ (e : List Nat) (du : List UInt8) {s : Sto} {x y : Option PV}, encOf o t = e → inEnc e o t = du → (e == sevenbit) = false → e.length ≤ 100 → du.length ≤ 30000 → wpS X (d + 6) c115e [v0, v1, v2, some (.bytes o), x, y, some (.str a), some (.str b), some (.bytes (ct0 ++ k ++ [13, 10])), some (.bytes du), some (.bytes (wordB e))] s ⟨fun v σ => wpS X (d + 6) c115d v σ (backQ fun r _ => r = .bool true), fun _ _ => False, fun _ _ => False, fun r _ => r = .bool true⟩ := by
      intro e du s x y he hd h7 hle hld
      have hw : (wordB e).length = e.length := List.length_map _
      refine ⟨by simp only [List.length_append]; show 14 + k.length + 2 + 27 ≤ _; lia, ?_⟩
      refine ⟨by refine rwr hw ?_; simp only [List.length_append]; show 14 + k.length + 2 + 27 + e.length ≤ _; lia, ?_⟩
      refine ⟨by simp only [List.length_append]; refine rwr hw ?_; show 14 + k.length + 2 + 27 + e.length + 2 ≤ _; lia, ?_⟩
      exact fin e du he hd h7 hle hld
    refine bsel_of (fun hl => ?_) fun hl => ?_
    · have hl : (b64 o).length < (qenc o t).length := by have := of_decide_eq_true hl; lia
      refine ⟨by show 2 ≤ _; decide, rfl, ?_⟩
      exact wp8 b64s _ (by unfold encOf; refine rwr hs ?_; rw [if_neg Bool.false_ne_true, if_pos (decide_eq_true hl)]) rfl rfl (by decide) (by lia)
    · have hl : ¬ (b64 o).length < (qenc o t).length := by have := of_decide_eq_false hl; lia
      refine ⟨by show 2 ≤ _; decide, rfl, ?_⟩
      exact wp8 qps _ (by unfold encOf; rw [hs, if_neg Bool.false_ne_true, if_neg (by simpa using hl)]) rfl rfl (by decide) (by lia)
  · have hs : sevenB o = true := by simpa using hs
    have he : encOf o t = sevenbit := by unfold encOf; rw [if_pos hs]
    refine r115d H P ho ha hb ht h1 h2 ⟨?_, by lia⟩ ?_
    · simp only [List.length_append]
      show 14 + k.length + 2 ≤ _
      lia
    · rw [he, hk, headB_7 k]; rfl
theorem word_of {x : List Nat} (h : (!x.isEmpty && (Nat.ble x.length 100 && (x.all (fun c => decide (c < 128) && tokC c.toUInt8) && (x.map lowc == x)))) = true) : Word x := by
  simp only [Bool.and_eq_true, Bool.not_eq_true', List.all_eq_true, decide_eq_true_eq, beq_iff_eq, Nat.ble_eq] at h
  obtain ⟨h1, h2, h3, h4⟩ := h
  exact ⟨(fun e => by rw [e] at h1; cases h1), h2, fun c hc => (h3 c hc).1, fun c hc => (h3 c hc).2, h4⟩
theorem r115b (H : PF X) (P : PK X K cF cK cL) {o : List UInt8} {t : Bool} {v0 v1 v6 v7 v8 v9 v10 : Option PV} (ho : o.length ≤ 100) : wpS X (d + 6) c115b [v0, v1, some (.bool t), some (.bytes o), some (.bytes (b64 o)), some (.bytes (qenc o t)), v6, v7, v8, v9, v10] σ (backQ fun r _ => r = .bool true) := by
  cases t with
  | true =>
    refine ⟨by show 2 ≤ _; decide, rfl, ?_⟩
    exact r115c H P ho (word_of (by decide +kernel)) (word_of (by decide +kernel)) (by decide) (by decide) (by decide)
  | false =>
    refine ⟨by show 2 ≤ _; decide, rfl, ?_⟩
    exact r115c H P ho (word_of (by decide +kernel)) (word_of (by decide +kernel)) (by decide) (by decide) (by decide)
theorem t115 (H : PF X) (H115 : FnI X 115 []) (P : PK X K cF cK cL) {l : List Int} {v : Value} (hc : ∀ d σ, Cut X d σ true (.stat v) none (some ((30 : Nat) : Int)) (.ref σ.length) (σ ++ [.lst ((l.take 30).map .int)])) : ∃ r σ', CF X (d + 7) σ "law" [.stat v] r σ' ∧ r = .bool true := by
  apply cx_wp (P := fun r _ => r = .bool true) 115 1 0 c115 n115 H.ok H115 rfl rfl k115
  obtain ⟨p, c, s1, g1, hp1⟩ := t106 (d := d + 5) H hc
  refine (ex2 g1 ?_)
  obtain ⟨r2, s2, g2, h2, hp2⟩ := t107 (d := d + 5) (m := 2) H hp1 ⟨by decide, by decide⟩ (by lia)
  refine (ex2 g2 ?_)
  obtain ⟨o, s3, g3, ho⟩ := t108 (d := d + 4) H hp2 (by lia)
  have sh := short_of ho
  refine (ex2 g3 ?_)
  generalize ((r2 : Int) == 1) = t
  obtain ⟨s4, g4, _⟩ := t110 (d := d + 4) (σ := s3) H ho
  obtain ⟨s5, g5, _⟩ := t113 (d := d + 3) (σ := s4) (t := t) H sh.parts sh.num ho
  obtain ⟨s6, g6, _⟩ := t11 (d := d + 2) (σ := s5) (o := o) H (by lia)
  obtain ⟨s7, g7, _⟩ := t83 (d := d + 3) (σ := s6) (t := t) H sh.parts sh.num sh.ne ho
  obtain ⟨s8, g8, _⟩ := t90b (d := d + 3) (σ := s7) (b := b64 o) H (b64_short ho)
  obtain ⟨s9, g9, _⟩ := t90q (d := d + 1) (σ := s8) (b := qenc o t) H (qenc_short ho)
  rw [lb64_eq] at g4
  rw [lq_eq] at g5
  rw [dec64_ok] at g8
  rw [qdec_ok] at g9
  have hne : ∀ (x : List UInt8) {a b : Prop}, b → bsel (x != x) a b := fun x a b h => bsel_of (fun e => by rw [bne_self_eq_false] at e; cases e) fun _ => h
  refine (ex2 g4 (ex2 g5 ?_))
  refine ⟨by show 2 ≤ _; decide, rfl, ?_⟩
  refine (ex2 g6 ?_)
  refine hne _ ?_
  refine (ex2 g7 ?_)
  refine hne _ ?_
  refine (ex2 g8 ?_)
  refine hne _ ?_
  refine (ex2 g9 ?_)
  refine hne _ ?_
  exact r115b H P ho
end
noncomputable section
namespace H
noncomputable abbrev s : String → Str := Str.ofString
noncomputable def hEnv : Env := { scope := pw.main.scope, locals := mainNs, globals := mainNs, cells := [], code := .ref 13, frame := some 14 }
noncomputable abbrev hC : Code := .body (behindTheImports pw) hEnv
noncomputable abbrev hAnn : Option Value := some (.ref 6)
noncomputable abbrev hQ : Pos := ⟨0, 0, 0, 0⟩
noncomputable def qThr (b n : Nat) (p : Pos) : Thread := ⟨(PySem.W.Fast.tw12563942051412417395 ((pw.main.body.drop b).take n) hEnv).wrap doneF deadEnd id id, hC, p, [topFrame hQ]⟩
noncomputable def qSeg (w : World) (n : Nat) (S : SharedT) (t : Thread) : Option (Flow × SharedT × Code × Pos) := PySem.W.Fast.tw10110043849684766642 PySem.W.Fast.tw14364793385576792824 pw w 11 hAnn 1 n S t
noncomputable def vI (n : Nat) : Value := .int n 0
noncomputable def vR (n : Nat) : Value := .ref n
noncomputable def vT (x : String) (n : Nat) : Value := .str (s x) n
noncomputable def vY (x : String) : Value := .type x
noncomputable def vN : Value := .none
noncomputable def qF (l : List Value) : Obj := ⟨vN, none, .fields ⟨l⟩, ⟨[]⟩⟩
noncomputable def qG (x : String) (l : List Value) : Obj := ⟨vY x, none, .fields ⟨l⟩, ⟨[]⟩⟩
noncomputable def qS (l : List Value) : Obj := ⟨vY SL.s2766695959194262286x5, none, .seq ⟨l⟩ 0, ⟨[]⟩⟩
noncomputable def qZ : Obj := qF []
noncomputable def qW : Obj := qS []
noncomputable def qB (x y : String) (a : Arguments) (b : List Stmt) (c : Scope) : Obj := ⟨vN, none, .func ⟨s x, s y, a, .stmts b, c, 0, [], vN, vN, vN, vN, none, vN, vN, 0⟩, ⟨[]⟩⟩
noncomputable def qC (x y : String) (i : Nat) : Obj := qB x y (dArgs i) (dBody i) (dScope i)
noncomputable def qM (x y : String) (i j : Nat) : Obj := qB x y (mArgs i j) (mBody i j) (mScope i j)
noncomputable def qV (x y : String) (a : Arguments) (b : List Stmt) (c : Scope) (v : Value) (z : String) (n k : Nat) : Obj := ⟨vY SL.s7174869446012820540x8, none, .func ⟨s x, s y, a, .stmts b, c, 3, [], v, vN, vN, vT z n, none, vR k, vN, 0⟩, ⟨[]⟩⟩
noncomputable def qD (x y : String) (i : Nat) (v : Value) (z : String) (n k : Nat) : Obj := qV x y (dArgs i) (dBody i) (dScope i) v z n k
noncomputable def qN (x y : String) (i j : Nat) (v : Value) (z : String) (n k : Nat) : Obj := qV x y (mArgs i j) (mBody i j) (mScope i j) v z n k
noncomputable def qK (x y : String) (a l n f r : Nat) (b : Bool) (u v w : Value) (p q : Nat) : Obj := qG SL.s5856160107412720595x4 [vT x a, vT y (a + 1), vT "/claim/cut.py" (a + 2), vI l, vI n, vI 0, vI 0, vI f, vR r, .bool b, vI 181, vR (r + 1), vN, u, v, w, vI p, vI l, vT "/claim/cut.py" q]
noncomputable def qE (P : Params) (x : String) (n : Nat) (v : Value) : DictEntry := ⟨PyData.keyHash P (s x), vT x n, v⟩
noncomputable def qL (o : Obj) : BT := .node o .nil .nil
noncomputable def qP : List Nat → List Value
  | a :: b :: r => vI a :: vI 0 :: vR b :: qP r
  | _ => []
variable (P : Params)
noncomputable def o2 := qK "<module>" "<module>" 182 1 0 0 11 false vN vN vN 185 186
noncomputable def o3 : Obj := ⟨(vY SL.s658472552662922059x5), none, Data.plain, ⟨[(some (vR 13)), (some (vR 3)), (some (vR 3)), none, (some (vT "__main__" 164)), none, (some (vR 0))]⟩⟩
noncomputable def hA : Heap := ⟨⟨[boot_o_0 P, boot_o_1 P, boot_o_2 P, boot_o_3 P, boot_o_4 P, boot_o_5 P, boot_o_6 P, boot_o_7 P, boot_o_8 P, boot_o_9 P, boot_o_10 P, qW, qZ, o2, o3]⟩, {}⟩
noncomputable def t0 : BT := (.node (boot_o_0 P) (.node (boot_o_1 P) (.node (boot_o_3 P) (qL (boot_o_7 P)) (qL qW)) (.node (boot_o_5 P) (qL (boot_o_9 P)) (qL o2))) (.node (boot_o_2 P) (.node (boot_o_4 P) (qL (boot_o_8 P)) (qL qZ)) (.node (boot_o_6 P) (qL (boot_o_10 P)) (qL o3))))
noncomputable def e0 := qE P "type.__subclasses__.Exception.0" 302 (vI 95)
noncomputable def e1 := qE P "type.__subclasses__.Exception.n" 303 (vI 1)
noncomputable def o4 : Obj := ⟨vN, none, (Data.dict ⟨[(e0 P), (e1 P)]⟩ 2), ⟨[]⟩⟩
noncomputable def e2 := qE P "__name__" 165 (vT "postkeep.headers" 374)
noncomputable def e3 := qE P "__doc__" 166 vN
noncomputable def e4 := qE P "__package__" 167 vN
noncomputable def e5 := qE P "__loader__" 168 (Value.builtin SL.s7097527257260152453x26)
noncomputable def e6 := qE P "__spec__" 169 vN
noncomputable def e7 := qE P "__annotations__" 170 (vR 6)
noncomputable def e8 := qE P "__builtins__" 171 (vR 4)
noncomputable def e9 := qE P "__file__" 173 (vT "/claim/cut.py" 172)
noncomputable def e10 := qE P "__cached__" 174 vN
noncomputable def e11 := qE P "_wall" 193 (vR 21)
noncomputable def e12 := qE P "SIGNS" 197 (Value.bytes ⟨[65, 66, 67, 68, 69, 70, 71, 72, 73, 74, 75, 76, 77, 78, 79, 80, 81, 82, 83, 84, 85, 86, 87, 88, 89, 90, 97, 98, 99, 100, 101, 102, 103, 104, 105, 106, 107, 108, 109, 110, 111, 112, 113, 114, 115, 116, 117, 118, 119, 120, 121, 122, 48, 49, 50, 51, 52, 53, 54, 55, 56, 57, 43, 47]⟩ 196)
noncomputable def e13 := qE P "PAD" 199 (Value.int 61 198)
noncomputable def e14 := qE P "LINE_END" 201 (Value.bytes ⟨[13, 10]⟩ 200)
noncomputable def e15 := qE P "worth_table" 207 (vR 26)
noncomputable def e16 := qE P "group_codes" 213 (vR 31)
noncomputable def e17 := qE P "group_octets" 219 (vR 36)
noncomputable def e18 := qE P "part_encoded" 229 (vR 43)
noncomputable def e19 := qE P "one_line" 236 (vR 50)
noncomputable def e20 := qE P "in_lines" 242 (vR 55)
noncomputable def e21 := qE P "encoded" 251 (vR 63)
noncomputable def e22 := qE P "decoded" 263 (vR 70)
noncomputable def e23 := qE P "PostError" 305 (vR 95)
noncomputable def e24 := qE P "WordFault" 321 (vR 108)
noncomputable def e25 := qE P "MimeFault" 337 (vR 120)
noncomputable def e26 := qE P "CRLF" 341 (Value.bytes ⟨[13, 10]⟩ 340)
noncomputable def e27 := qE P "RETURN_octets" 343 (Value.int 13 342)
noncomputable def e28 := qE P "lower_code" 350 (vR 129)
noncomputable def e29 := qE P "lower_text" 356 (vR 134)
noncomputable def e30 := qE P "line_spans" 373 (vR 142)
noncomputable def e31 := qE P "WHITE" 378 (vR 143)
noncomputable def o5 : Obj := ⟨(vY SL.s14018661285674007319x4), none, (Data.dict ⟨[(e2 P), (e3 P), (e4 P), (e5 P), (e6 P), (e7 P), (e8 P), (e9 P), (e10 P), (e11 P), (e12 P), (e13 P), (e14 P), (e15 P), (e16 P), (e17 P), (e18 P), (e19 P), (e20 P), (e21 P), (e22 P), (e23 P), (e24 P), (e25 P), (e26 P), (e27 P), (e28 P), (e29 P), (e30 P), (e31 P)]⟩ 30), ⟨[]⟩⟩
noncomputable def o6 := qF (qP [1, 20, 8, 25, 10, 30, 17, 35, 25, 42, 30, 49, 32, 54, 36, 62, 38, 69, 52, 76, 61, 104, 63, 116, 68, 128, 70, 133, 72, 141])
noncomputable def o9 := qS [(vT "k" 190)]
noncomputable def o11 := qC "_wall" "_wall" 0
noncomputable def o12 := qK "_wall" "_wall" 187 1 1 3 15 true (vR 17) (vR 18) (vR 19) 191 192
noncomputable def o13 := qD "_wall" "_wall" 0 vN "__main__" 164 20
noncomputable def o16 := qC "worth_table" "worth_table" 5
noncomputable def o17 := qK "worth_table" "worth_table" 202 8 1 3 22 true vN vN (vR 24) 205 206
noncomputable def o18 := qD "worth_table" "worth_table" 5 vN "postkeep.base64" 194 25
noncomputable def o21 := qC "group_codes" "group_codes" 6
noncomputable def o22 := qK "group_codes" "group_codes" 208 10 2 3 27 true vN vN (vR 29) 211 212
noncomputable def o23 := qD "group_codes" "group_codes" 6 vN "postkeep.base64" 194 30
noncomputable def o26 := qC "group_octets" "group_octets" 7
noncomputable def o27 := qK "group_octets" "group_octets" 214 17 1 3 32 true vN vN (vR 34) 217 218
noncomputable def o28 := qD "group_octets" "group_octets" 7 vN "postkeep.base64" 194 35
noncomputable def o31 := qS [(vT "octets" 223), (vT "alphabet" 224), (vT "codes" 225), (vT "begin" 226)]
noncomputable def o33 := qC "part_encoded" "part_encoded" 8
noncomputable def o34 := qK "part_encoded" "part_encoded" 220 25 2 3 37 true (vR 39) (vR 40) (vR 41) 227 228
noncomputable def o35 := qD "part_encoded" "part_encoded" 8 vN "postkeep.base64" 194 42
noncomputable def o38 := qS [(vT "octets" 233)]
noncomputable def o40 := qC "one_line" "one_line" 9
noncomputable def o41 := qK "one_line" "one_line" 230 30 1 3 44 true (vR 46) (vR 47) (vR 48) 234 235
noncomputable def o42 := qD "one_line" "one_line" 9 vN "postkeep.base64" 194 49
noncomputable def o45 := qC "in_lines" "in_lines" 10
noncomputable def o46 := qK "in_lines" "in_lines" 237 32 2 3 51 true vN vN (vR 53) 240 241
noncomputable def o47 := qD "in_lines" "in_lines" 10 vN "postkeep.base64" 194 54
noncomputable def o48 := qS [(Value.int 76 243)]
noncomputable def o51 := qS [(vT "octets" 247), (vT "width" 248)]
noncomputable def o53 := qC "encoded" "encoded" 11
noncomputable def o54 := qK "encoded" "encoded" 244 36 2 3 57 true (vR 59) (vR 60) (vR 61) 249 250
noncomputable def o55 := qD "encoded" "encoded" 11 (vR 56) "postkeep.base64" 194 62
noncomputable def o58 := qS [(vT "data" 255), (vT "worths" 256), (vT "worth_row" 257), (vT "code" 258), (vT "found" 259), (vT "begin" 260)]
noncomputable def o60 := qC "decoded" "decoded" 12
noncomputable def o61 := qK "decoded" "decoded" 252 38 1 3 64 true (vR 66) (vR 67) (vR 68) 261 262
noncomputable def o62 := qD "decoded" "decoded" 12 vN "postkeep.base64" 194 69
noncomputable def o63 := qS [(vY SL.s5946037652744460706x9)]
noncomputable def o64 := qG SL.s11030030927630378310x26 [(Value.builtin SL.s10062305145149207511x16), (vY SL.s17162191345867700912x4)]
noncomputable def e32 := qE P "__module__" 273 (vT "postkeep.errors" 264)
noncomputable def e33 := qE P "__qualname__" 275 (vT "PostError" 274)
noncomputable def e34 := qE P "__firstlineno__" 277 (Value.int 52 276)
noncomputable def e35 := qE P "__init__" 288 (vR 85)
noncomputable def e36 := qE P "told" 295 (vR 92)
noncomputable def e37 := qE P "__static_attributes__" 298 (vR 93)
noncomputable def o65 : Obj := ⟨(vY SL.s14018661285674007319x4), none, (Data.dict ⟨[(e32 P), (e33 P), (e34 P), (e35 P), (e36 P), (e37 P)]⟩ 6), ⟨[]⟩⟩
noncomputable def o67 := qF [(vI 54), (vI 4), (vR 84), (vI 59), (vI 4), (vR 91)]
noncomputable def o68 := qK "PostError" "PostError" 268 52 0 0 74 false vN vN vN 271 272
noncomputable def o69 : Obj := ⟨(vY SL.s658472552662922059x5), none, Data.plain, ⟨[(some (vR 76)), (some (vR 3)), (some (vR 73)), none, (some (vT "postkeep.errors" 264)), none, (some (vR 0))]⟩⟩
noncomputable def o70 := qS [(Value.int (@Neg.neg Int Int.instNegInt 1) 279)]
noncomputable def o73 := qS [(vT "self" 283), (vT "what" 284), (vT "at" 285)]
noncomputable def o75 := qM "__init__" "PostError.__init__" 14 0
noncomputable def o76 := qK "__init__" "PostError.__init__" 280 54 3 3 79 true (vR 81) (vR 82) (vR 83) 286 287
noncomputable def o77 := qN "__init__" "PostError.__init__" 14 0 (vR 78) "postkeep.errors" 264 84
noncomputable def o80 := qS [(vT "self" 292)]
noncomputable def o82 : Obj := ⟨vN, none, (Data.func ⟨(s "told"), (s "PostError.told"), (mArgs 14 1), (PySem.FuncBody.stmts (mBody 14 1)), (mScope 55 4), 0, [], vN, vN, vN, vN, none, vN, vN, 0⟩), ⟨[]⟩⟩
noncomputable def o83 := qK "told" "PostError.told" 289 59 1 3 86 true (vR 88) (vR 89) (vR 90) 293 294
noncomputable def o84 : Obj := ⟨(vY SL.s7174869446012820540x8), none, (Data.func ⟨(s "told"), (s "PostError.told"), (mArgs 14 1), (PySem.FuncBody.stmts (mBody 14 1)), (mScope 55 4), 3, [], vN, vN, vN, (vT "postkeep.errors" 264), none, (vR 91), vN, 0⟩), ⟨[]⟩⟩
noncomputable def o85 := qS [(vT "at" 296), (vT "what" 297)]
noncomputable def e38 := qE P "__weakref__" 300 (vR 96)
noncomputable def e39 := qE P "__doc__" 301 vN
noncomputable def o86 : Obj := ⟨(vY SL.s14018661285674007319x4), none, (Data.dict ⟨[(e32 P), (e34 P), (e35 P), (e36 P), (e37 P), (e38 P), (e39 P)]⟩ 3), ⟨[]⟩⟩
noncomputable def o87 : Obj := ⟨(vY SL.s17162191345867700912x4), none, (Data.cls ⟨(s "PostError"), [(vY SL.s5946037652744460706x9)], [(vR 95), (vY SL.s5946037652744460706x9), (vY SL.s4278001404047624695x13), (vY SL.s2742458400755230247x6)], 94, (s "PostError"), true, [], [(vR 108), (vR 120)], false, none, false⟩), ⟨[(some (vR 71)), none, (some (vT "PostError" 266)), (some (vT "PostError" 274)), (some (Value.builtin SL.s5160863994218179198x17)), (some (Value.bool true))]⟩⟩
noncomputable def o88 := qG SL.s14755015743595814543x17 [(vT "__weakref__" 299), (vR 95), (Value.builtin SL.s10220274742760427390x26), vN]
noncomputable def o89 := qG SL.s4290257624100764138x5 [(vR 95), (vR 95), (vR 95)]
noncomputable def o90 := qG SL.s11030030927630378310x26 [(Value.builtin SL.s4860613602091757760x24), (vR 95)]
noncomputable def o91 := qS [(vR 95)]
noncomputable def e40 := qE P "__module__" 313 (vT "postkeep.errors" 264)
noncomputable def e41 := qE P "__qualname__" 315 (vT "WordFault" 314)
noncomputable def e42 := qE P "__firstlineno__" 317 (Value.int 61 316)
noncomputable def e43 := qE P "__static_attributes__" 318 (vR 106)
noncomputable def o93 : Obj := ⟨(vY SL.s14018661285674007319x4), none, (Data.dict ⟨[(e40 P), (e41 P), (e42 P), (e43 P)]⟩ 4), ⟨[]⟩⟩
noncomputable def o96 := qK "WordFault" "WordFault" 308 61 0 0 102 false vN vN vN 311 312
noncomputable def o97 : Obj := ⟨(vY SL.s658472552662922059x5), none, Data.plain, ⟨[(some (vR 104)), (some (vR 3)), (some (vR 101)), none, (some (vT "postkeep.errors" 264)), none, (some (vR 0))]⟩⟩
noncomputable def e44 := qE P "__doc__" 319 vN
noncomputable def o99 : Obj := ⟨(vY SL.s14018661285674007319x4), none, (Data.dict ⟨[(e40 P), (e42 P), (e43 P), (e44 P)]⟩ 2), ⟨[]⟩⟩
noncomputable def o100 : Obj := ⟨(vY SL.s17162191345867700912x4), none, (Data.cls ⟨(s "WordFault"), [(vR 95)], [(vR 108), (vR 95), (vY SL.s5946037652744460706x9), (vY SL.s4278001404047624695x13), (vY SL.s2742458400755230247x6)], 107, (s "WordFault"), true, [], [], false, none, false⟩), ⟨[(some (vR 99)), none, (some (vT "WordFault" 306)), (some (vT "WordFault" 314)), (some (Value.builtin SL.s5160863994218179198x17)), (some (Value.bool true))]⟩⟩
noncomputable def o101 := qG SL.s4290257624100764138x5 [(vR 108), (vR 108), (vR 108)]
noncomputable def o102 := qG SL.s11030030927630378310x26 [(Value.builtin SL.s4860613602091757760x24), (vR 108)]
noncomputable def e45 := qE P "__module__" 329 (vT "postkeep.errors" 264)
noncomputable def e46 := qE P "__qualname__" 331 (vT "MimeFault" 330)
noncomputable def e47 := qE P "__firstlineno__" 333 (Value.int 63 332)
noncomputable def e48 := qE P "__static_attributes__" 334 (vR 118)
noncomputable def o105 : Obj := ⟨(vY SL.s14018661285674007319x4), none, (Data.dict ⟨[(e45 P), (e46 P), (e47 P), (e48 P)]⟩ 4), ⟨[]⟩⟩
noncomputable def o108 := qK "MimeFault" "MimeFault" 324 63 0 0 114 false vN vN vN 327 328
noncomputable def o109 : Obj := ⟨(vY SL.s658472552662922059x5), none, Data.plain, ⟨[(some (vR 116)), (some (vR 3)), (some (vR 113)), none, (some (vT "postkeep.errors" 264)), none, (some (vR 0))]⟩⟩
noncomputable def e49 := qE P "__doc__" 335 vN
noncomputable def o111 : Obj := ⟨(vY SL.s14018661285674007319x4), none, (Data.dict ⟨[(e45 P), (e47 P), (e48 P), (e49 P)]⟩ 2), ⟨[]⟩⟩
noncomputable def o112 : Obj := ⟨(vY SL.s17162191345867700912x4), none, (Data.cls ⟨(s "MimeFault"), [(vR 95)], [(vR 120), (vR 95), (vY SL.s5946037652744460706x9), (vY SL.s4278001404047624695x13), (vY SL.s2742458400755230247x6)], 119, (s "MimeFault"), true, [], [], false, none, false⟩), ⟨[(some (vR 111)), none, (some (vT "MimeFault" 322)), (some (vT "MimeFault" 330)), (some (Value.builtin SL.s5160863994218179198x17)), (some (Value.bool true))]⟩⟩
noncomputable def o113 := qG SL.s4290257624100764138x5 [(vR 120), (vR 120), (vR 120)]
noncomputable def o114 := qG SL.s11030030927630378310x26 [(Value.builtin SL.s4860613602091757760x24), (vR 120)]
noncomputable def o117 := qS [(vT "code" 347)]
noncomputable def o119 : Obj := ⟨vN, none, (Data.func ⟨(s "lower_code"), (s "lower_code"), (dArgs 20), (PySem.FuncBody.stmts (dBody 20)), (dScope 76), 0, [], vN, vN, vN, vN, none, vN, vN, 0⟩), ⟨[]⟩⟩
noncomputable def o120 := qK "lower_code" "lower_code" 344 68 1 3 123 true (vR 125) (vR 126) (vR 127) 348 349
noncomputable def o121 : Obj := ⟨(vY SL.s7174869446012820540x8), none, (Data.func ⟨(s "lower_code"), (s "lower_code"), (dArgs 20), (PySem.FuncBody.stmts (dBody 20)), (dScope 76), 3, [], vN, vN, vN, (vT "postkeep.octets" 338), none, (vR 128), vN, 0⟩), ⟨[]⟩⟩
noncomputable def o124 : Obj := ⟨vN, none, (Data.func ⟨(s "lower_text"), (s "lower_text"), (dArgs 21), (PySem.FuncBody.stmts (dBody 21)), (dScope 58), 0, [], vN, vN, vN, vN, none, vN, vN, 0⟩), ⟨[]⟩⟩
noncomputable def o125 := qK "lower_text" "lower_text" 351 70 1 3 130 true vN vN (vR 132) 354 355
noncomputable def o126 : Obj := ⟨(vY SL.s7174869446012820540x8), none, (Data.func ⟨(s "lower_text"), (s "lower_text"), (dArgs 21), (PySem.FuncBody.stmts (dBody 21)), (dScope 58), 3, [], vN, vN, vN, (vT "postkeep.octets" 338), none, (vR 133), vN, 0⟩), ⟨[]⟩⟩
noncomputable def o127 := qS [(Value.int 0 357), (Value.int (@Neg.neg Int Int.instNegInt 1) 359)]
noncomputable def o130 := qS [(vT "data" 363), (vT "at" 364), (vT "end" 365), (vT "behind" 366), (vT "found" 367), (vT "begin" 368), (vT "feed" 369), (vT "last" 370)]
noncomputable def o132 := qC "line_spans" "line_spans" 22
noncomputable def o133 := qK "line_spans" "line_spans" 360 72 3 3 136 true (vR 138) (vR 139) (vR 140) 371 372
noncomputable def o134 := qD "line_spans" "line_spans" 22 (vR 135) "postkeep.octets" 338 141
noncomputable def o135 := qS [(Value.int 32 376), (Value.int 9 377)]
noncomputable def t1 : BT := (.node (boot_o_0 P) (.node (boot_o_1 P) (.node (o5 P) (.node (boot_o_7 P) (.node qW (.node o23 (.node o55 (qL o119) .nil) (qL o87)) (.node qW (.node qW (qL o135) .nil) (qL o91))) (.node qZ (.node o31 (.node o63 (qL o127) .nil) (qL qZ)) (.node o47 (qL qZ) (qL (o111 P))))) (.node qW (.node o11 (.node o27 (.node qW (qL qZ) .nil) (qL o91)) (.node qW (qL o75) (qL qZ))) (.node qW (.node o35 (.node o67 (qL qW) .nil) (qL (o99 P))) (.node o51 (qL o83) (qL qW))))) (.node (boot_o_5 P) (.node (boot_o_9 P) (.node o9 (.node qZ (.node qZ (qL o121) .nil) (qL o89)) (.node o41 (qL o73) (qL (o105 P)))) (.node o17 (.node o33 (.node (o65 P) (qL qZ) .nil) (qL o97)) (.node qW (qL qW) (qL o113)))) (.node o2 (.node o13 (.node qW (.node o61 (qL o125) .nil) (qL (o93 P))) (.node o45 (qL o77) (qL o109))) (.node o21 (.node qZ (.node o69 (qL o133) .nil) (qL o101)) (.node o53 (qL o85) (qL o117)))))) (.node (o4 P) (.node (boot_o_4 P) (.node (boot_o_8 P) (.node qZ (.node qW (.node qW (qL o120) .nil) (qL o88)) (.node o40 (qL qZ) (qL o64))) (.node o16 (.node qW (.node o64 (qL qW) .nil) (qL o96)) (.node o48 (qL o80) (qL o112)))) (.node o6 (.node o12 (.node o28 (.node o60 (qL o124) .nil) (qL o64)) (.node qZ (qL o76) (qL o108))) (.node qZ (.node qW (.node o68 (qL o132) .nil) (qL o100)) (.node qW (qL o84) (qL qZ))))) (.node (boot_o_6 P) (.node (boot_o_10 P) (.node qW (.node o26 (.node o58 (qL qW) .nil) (qL o90)) (.node o42 (qL qW) (qL qW))) (.node o18 (.node o34 (.node qW (qL o130) .nil) (qL qW)) (.node qZ (qL o82) (qL o114)))) (.node o3 (.node qW (.node qZ (.node o62 (qL o126) .nil) (qL qW)) (.node o46 (qL qW) (qL qW))) (.node o22 (.node o38 (.node o70 (qL o134) .nil) (qL o102)) (.node o54 (qL (o86 P)) (qL qW)))))))
theorem p0 : ∀ w : World, (fun os => qSeg w 1147 ⟨t0 w.params, 15, {}, ⟨[]⟩, boot_drawn, 187, os⟩ (qThr 0 25 ⟨0, 0, 0, 0⟩)) = fun os => some (Flow.next, ⟨t1 w.params, 144, {}, ⟨[]⟩, boot_drawn, 379, os⟩, hC, ⟨86, 0, 86, 5⟩) := fun w => by kernel_rfl
noncomputable def e50 := qE P "__name__" 165 (vT "postkeep.params" 547)
noncomputable def e51 := qE P "Field" 422 (vR 172)
noncomputable def e52 := qE P "line_at" 432 (vR 183)
noncomputable def e53 := qE P "is_name" 440 (vR 190)
noncomputable def e54 := qE P "rows_of" 451 (vR 197)
noncomputable def e55 := qE P "unfolded" 458 (vR 204)
noncomputable def e56 := qE P "without_words" 464 (vR 209)
noncomputable def e57 := qE P "is_sound" 472 (vR 216)
noncomputable def e58 := qE P "write_fields" 478 (vR 221)
noncomputable def e59 := qE P "ASCII" 482 (vT "us-ascii" 481)
noncomputable def e60 := qE P "LATIN" 484 (vT "iso-8859-1" 483)
noncomputable def e61 := qE P "UTF8" 486 (vT "utf-8" 485)
noncomputable def e62 := qE P "CHARSETS" 487 (vR 222)
noncomputable def e63 := qE P "need_charset" 494 (vR 229)
noncomputable def e64 := qE P "utf8_length" 500 (vR 234)
noncomputable def e65 := qE P "utf8_octets" 511 (vR 241)
noncomputable def e66 := qE P "has_sign" 519 (vR 248)
noncomputable def e67 := qE P "octets_in" 530 (vR 255)
noncomputable def e68 := qE P "NEVER_ESCAPED" 536 (vR 256)
noncomputable def e69 := qE P "escaped_octets" 546 (vR 263)
noncomputable def e70 := qE P "PER_CENT" 550 (Value.int 37 549)
noncomputable def e71 := qE P "BARRED" 552 (Value.bytes ⟨[40, 41, 60, 62, 64, 44, 59, 58, 92, 34, 47, 91, 93, 63, 61]⟩ 551)
noncomputable def e72 := qE P "BARRED_IN_NAMES" 554 (Value.bytes ⟨[42, 39, 37]⟩ 553)
noncomputable def e73 := qE P "HEX_FIGURES" 556 (Value.bytes ⟨[48, 49, 50, 51, 52, 53, 54, 55, 56, 57, 65, 66, 67, 68, 69, 70]⟩ 555)
noncomputable def e74 := qE P "WIDTH" 558 (Value.int 78 557)
noncomputable def e75 := qE P "MOST_NAME" 560 (Value.int 40 559)
noncomputable def e76 := qE P "MOST_PARTS" 562 (Value.int 1000 561)
noncomputable def e77 := qE P "ROOM" 564 (Value.int 66 563)
noncomputable def e78 := qE P "Kind" 624 (vR 306)
noncomputable def e79 := qE P "is_token_code" 631 (vR 317)
noncomputable def e80 := qE P "is_token" 637 (vR 322)
noncomputable def e81 := qE P "is_plain" 643 (vR 327)
noncomputable def e82 := qE P "is_plain_params" 644 (vR 327)
noncomputable def e83 := qE P "percent_encoded" 653 (vR 334)
noncomputable def e84 := qE P "in_rows" 663 (vR 341)
noncomputable def e85 := qE P "encoded_rows" 669 (vR 346)
noncomputable def e86 := qE P "quoted_rows" 675 (vR 351)
noncomputable def o136 : Obj := ⟨(vY SL.s14018661285674007319x4), none, (Data.dict ⟨[(e50 P), (e3 P), (e4 P), (e5 P), (e6 P), (e7 P), (e8 P), (e9 P), (e10 P), (e11 P), (e12 P), (e13 P), (e14 P), (e15 P), (e16 P), (e17 P), (e18 P), (e19 P), (e20 P), (e21 P), (e22 P), (e23 P), (e24 P), (e25 P), (e26 P), (e27 P), (e28 P), (e29 P), (e30 P), (e31 P), (e51 P), (e52 P), (e53 P), (e54 P), (e55 P), (e56 P), (e57 P), (e58 P), (e59 P), (e60 P), (e61 P), (e62 P), (e63 P), (e64 P), (e65 P), (e66 P), (e67 P), (e68 P), (e69 P), (e70 P), (e71 P), (e72 P), (e73 P), (e74 P), (e75 P), (e76 P), (e77 P), (e78 P), (e79 P), (e80 P), (e81 P), (e82 P), (e83 P), (e84 P), (e85 P), (e86 P)]⟩ 66), ⟨[]⟩⟩
noncomputable def o137 := qF (qP [1, 20, 8, 25, 10, 30, 17, 35, 25, 42, 30, 49, 32, 54, 36, 62, 38, 69, 52, 76, 61, 104, 63, 116, 68, 128, 70, 133, 72, 141, 87, 149, 98, 182, 105, 189, 110, 196, 119, 203, 121, 208, 124, 215, 131, 220, 141, 228, 144, 233, 148, 240, 158, 247, 162, 254, 176, 262, 194, 269, 212, 316, 214, 321, 216, 326, 219, 333, 227, 340, 234, 345, 242, 350])
noncomputable def e87 := qE P "__module__" 386 (vT "postkeep.headers" 374)
noncomputable def e88 := qE P "__qualname__" 388 (vT "Field" 387)
noncomputable def e89 := qE P "__firstlineno__" 390 (Value.int 87 389)
noncomputable def e90 := qE P "__init__" 399 (vR 157)
noncomputable def e91 := qE P "word" 405 (vR 162)
noncomputable def e92 := qE P "told" 412 (vR 169)
noncomputable def e93 := qE P "__static_attributes__" 415 (vR 170)
noncomputable def o140 : Obj := ⟨(vY SL.s14018661285674007319x4), none, (Data.dict ⟨[(e87 P), (e88 P), (e89 P), (e90 P), (e91 P), (e92 P), (e93 P)]⟩ 7), ⟨[]⟩⟩
noncomputable def o142 := qF [(vI 89), (vI 4), (vR 156), (vI 93), (vI 4), (vR 161), (vI 96), (vI 4), (vR 168)]
noncomputable def o143 := qK "Field" "Field" 381 87 0 0 147 false vN vN vN 384 385
noncomputable def o144 : Obj := ⟨(vY SL.s658472552662922059x5), none, Data.plain, ⟨[(some (vR 149)), (some (vR 3)), (some (vR 146)), none, (some (vT "postkeep.headers" 374)), none, (some (vR 0))]⟩⟩
noncomputable def o147 := qS [(vT "self" 394), (vT "name" 395), (vT "raw" 396)]
noncomputable def o149 := qM "__init__" "Field.__init__" 25 0
noncomputable def o150 := qK "__init__" "Field.__init__" 391 89 3 3 151 true (vR 153) (vR 154) (vR 155) 397 398
noncomputable def o151 := qN "__init__" "Field.__init__" 25 0 vN "postkeep.headers" 374 156
noncomputable def o154 := qM "word" "Field.word" 25 1
noncomputable def o155 := qK "word" "Field.word" 400 93 1 3 158 true vN vN (vR 160) 403 404
noncomputable def o156 := qN "word" "Field.word" 25 1 vN "postkeep.headers" 374 161
noncomputable def o159 := qS [(vT "self" 409)]
noncomputable def o161 : Obj := ⟨vN, none, (Data.func ⟨(s "told"), (s "Field.told"), (mArgs 25 2), (PySem.FuncBody.stmts (mBody 25 2)), (mScope 55 4), 0, [], vN, vN, vN, vN, none, vN, vN, 0⟩), ⟨[]⟩⟩
noncomputable def o162 := qK "told" "Field.told" 406 96 1 3 163 true (vR 165) (vR 166) (vR 167) 410 411
noncomputable def o163 : Obj := ⟨(vY SL.s7174869446012820540x8), none, (Data.func ⟨(s "told"), (s "Field.told"), (mArgs 25 2), (PySem.FuncBody.stmts (mBody 25 2)), (mScope 55 4), 3, [], vN, vN, vN, (vT "postkeep.headers" 374), none, (vR 168), vN, 0⟩), ⟨[]⟩⟩
noncomputable def o164 := qS [(vT "name" 413), (vT "raw" 414)]
noncomputable def e94 := qE P "__dict__" 417 (vR 173)
noncomputable def e95 := qE P "__weakref__" 419 (vR 174)
noncomputable def e96 := qE P "__doc__" 420 vN
noncomputable def o165 : Obj := ⟨(vY SL.s14018661285674007319x4), none, (Data.dict ⟨[(e87 P), (e89 P), (e90 P), (e91 P), (e92 P), (e93 P), (e94 P), (e95 P), (e96 P)]⟩ 4), ⟨[]⟩⟩
noncomputable def o166 : Obj := ⟨(vY SL.s17162191345867700912x4), none, (Data.cls ⟨(s "Field"), [(vY SL.s2742458400755230247x6)], [(vR 172), (vY SL.s2742458400755230247x6)], 171, (s "Field"), true, [], [], false, none, false⟩), ⟨[none, none, (some (vT "Field" 379)), (some (vT "Field" 387)), (some (Value.builtin SL.s11443829558043349243x14)), (some (Value.bool true))]⟩⟩
noncomputable def o167 := qG SL.s14755015743595814543x17 [(vT "__dict__" 416), (vR 172), (Value.builtin SL.s6511155373996960695x17), (Value.builtin SL.s12411053484034534018x21)]
noncomputable def o168 := qG SL.s14755015743595814543x17 [(vT "__weakref__" 418), (vR 172), (Value.builtin SL.s10220274742760427390x26), vN]
noncomputable def o169 := qG SL.s4290257624100764138x5 [(vR 172), (vR 172), (vR 172)]
noncomputable def o170 := qG SL.s11030030927630378310x26 [(Value.builtin SL.s4860613602091757760x24), (vR 172)]
noncomputable def o173 := qS [(vT "data" 426), (vT "at" 427), (vT "end" 428), (vT "spot" 429)]
noncomputable def o175 := qC "line_at" "line_at" 26
noncomputable def o176 := qK "line_at" "line_at" 423 98 3 3 177 true (vR 179) (vR 180) (vR 181) 430 431
noncomputable def o177 := qD "line_at" "line_at" 26 vN "postkeep.headers" 374 182
noncomputable def o180 := qS [(vT "octets" 436), (vT "code" 437)]
noncomputable def o182 := qC "is_name" "is_name" 27
noncomputable def o183 := qK "is_name" "is_name" 433 105 1 3 184 true (vR 186) (vR 187) (vR 188) 438 439
noncomputable def o184 := qD "is_name" "is_name" 27 vN "postkeep.headers" 374 189
noncomputable def o187 := qS [(vT "raw" 444), (vT "rows" 445), (vT "at" 446), (vT "last" 447), (vT "later" 448)]
noncomputable def o189 := qC "rows_of" "rows_of" 28
noncomputable def o190 := qK "rows_of" "rows_of" 441 110 1 3 191 true (vR 193) (vR 194) (vR 195) 449 450
noncomputable def o191 := qD "rows_of" "rows_of" 28 vN "postkeep.headers" 374 196
noncomputable def o194 := qS [(vT "raw" 455)]
noncomputable def o196 := qC "unfolded" "unfolded" 29
noncomputable def o197 := qK "unfolded" "unfolded" 452 119 1 3 198 true (vR 200) (vR 201) (vR 202) 456 457
noncomputable def o198 := qD "unfolded" "unfolded" 29 vN "postkeep.headers" 374 203
noncomputable def o201 := qC "without_words" "without_words" 30
noncomputable def o202 := qK "without_words" "without_words" 459 121 2 3 205 true vN vN (vR 207) 462 463
noncomputable def o203 := qD "without_words" "without_words" 30 vN "postkeep.headers" 374 208
noncomputable def o206 := qS [(vT "field" 468), (vT "row" 469)]
noncomputable def o208 := qC "is_sound" "is_sound" 31
noncomputable def o209 := qK "is_sound" "is_sound" 465 124 1 3 210 true (vR 212) (vR 213) (vR 214) 470 471
noncomputable def o210 := qD "is_sound" "is_sound" 31 vN "postkeep.headers" 374 215
noncomputable def o213 := qC "write_fields" "write_fields" 32
noncomputable def o214 := qK "write_fields" "write_fields" 473 131 1 3 217 true vN vN (vR 219) 476 477
noncomputable def o215 := qD "write_fields" "write_fields" 32 vN "postkeep.headers" 374 220
noncomputable def o216 := qS [(vT "us-ascii" 481), (vT "iso-8859-1" 483), (vT "utf-8" 485)]
noncomputable def o219 := qS [(vT "charset" 491)]
noncomputable def o221 := qC "need_charset" "need_charset" 38
noncomputable def o222 := qK "need_charset" "need_charset" 488 141 1 3 223 true (vR 225) (vR 226) (vR 227) 492 493
noncomputable def o223 := qD "need_charset" "need_charset" 38 vN "postkeep.charsets" 479 228
noncomputable def o226 := qC "utf8_length" "utf8_length" 39
noncomputable def o227 := qK "utf8_length" "utf8_length" 495 144 1 3 230 true vN vN (vR 232) 498 499
noncomputable def o228 := qD "utf8_length" "utf8_length" 39 vN "postkeep.charsets" 479 233
noncomputable def o231 := qS [(vT "code" 504), (vT "length" 505), (vT "found" 506), (vT "left" 507), (vT "place" 508)]
noncomputable def o233 := qC "utf8_octets" "utf8_octets" 40
noncomputable def o234 := qK "utf8_octets" "utf8_octets" 501 148 1 3 235 true (vR 237) (vR 238) (vR 239) 509 510
noncomputable def o235 := qD "utf8_octets" "utf8_octets" 40 vN "postkeep.charsets" 479 240
noncomputable def o238 := qS [(vT "charset" 515), (vT "code" 516)]
noncomputable def o240 := qC "has_sign" "has_sign" 41
noncomputable def o241 := qK "has_sign" "has_sign" 512 158 2 3 242 true (vR 244) (vR 245) (vR 246) 517 518
noncomputable def o242 := qD "has_sign" "has_sign" 41 vN "postkeep.charsets" 479 247
noncomputable def o245 := qS [(vT "charset" 523), (vT "text" 524), (vT "row" 525), (vT "at" 526), (vT "code" 527)]
noncomputable def o247 := qC "octets_in" "octets_in" 42
noncomputable def o248 := qK "octets_in" "octets_in" 520 162 2 3 249 true (vR 251) (vR 252) (vR 253) 528 529
noncomputable def o249 := qD "octets_in" "octets_in" 42 vN "postkeep.charsets" 479 254
noncomputable def o250 := qS [(Value.int 0 533), (Value.int 10 534), (Value.int 13 535)]
noncomputable def o253 := qS [(vT "octets" 540), (vT "signs" 541), (vT "parts" 542), (vT "at" 543)]
noncomputable def o255 := qC "escaped_octets" "escaped_octets" 45
noncomputable def o256 := qK "escaped_octets" "escaped_octets" 537 176 2 3 257 true (vR 259) (vR 260) (vR 261) 544 545
noncomputable def o257 := qD "escaped_octets" "escaped_octets" 45 vN "postkeep.tokens" 531 262
noncomputable def e97 := qE P "__module__" 572 (vT "postkeep.params" 547)
noncomputable def e98 := qE P "__qualname__" 574 (vT "Kind" 573)
noncomputable def e99 := qE P "__firstlineno__" 576 (Value.int 194 575)
noncomputable def e100 := qE P "__init__" 586 (vR 277)
noncomputable def e101 := qE P "told" 592 (vR 282)
noncomputable def e102 := qE P "is_multi" 599 (vR 289)
noncomputable def e103 := qE P "is_letter" 606 (vR 296)
noncomputable def e104 := qE P "is_text" 613 (vR 303)
noncomputable def e105 := qE P "__static_attributes__" 617 (vR 304)
noncomputable def o260 : Obj := ⟨(vY SL.s14018661285674007319x4), none, (Data.dict ⟨[(e97 P), (e98 P), (e99 P), (e100 P), (e101 P), (e102 P), (e103 P), (e104 P), (e105 P)]⟩ 9), ⟨[]⟩⟩
noncomputable def o262 := qF [(vI 196), (vI 4), (vR 276), (vI 201), (vI 4), (vR 281), (vI 204), (vI 4), (vR 288), (vI 207), (vI 4), (vR 295), (vI 210), (vI 4), (vR 302)]
noncomputable def o263 := qK "Kind" "Kind" 567 194 0 0 267 false vN vN vN 570 571
noncomputable def o264 : Obj := ⟨(vY SL.s658472552662922059x5), none, Data.plain, ⟨[(some (vR 269)), (some (vR 3)), (some (vR 266)), none, (some (vT "postkeep.params" 547)), none, (some (vR 0))]⟩⟩
noncomputable def o267 := qS [(vT "self" 580), (vT "top" 581), (vT "sub" 582), (vT "params" 583)]
noncomputable def o269 := qM "__init__" "Kind.__init__" 55 0
noncomputable def o270 := qK "__init__" "Kind.__init__" 577 196 4 3 271 true (vR 273) (vR 274) (vR 275) 584 585
noncomputable def o271 := qN "__init__" "Kind.__init__" 55 0 vN "postkeep.params" 547 276
noncomputable def o274 := qM "told" "Kind.told" 55 1
noncomputable def o275 := qK "told" "Kind.told" 587 201 1 3 278 true vN vN (vR 280) 590 591
noncomputable def o276 := qN "told" "Kind.told" 55 1 vN "postkeep.params" 547 281
noncomputable def o279 := qS [(vT "self" 596)]
noncomputable def o281 : Obj := ⟨vN, none, (Data.func ⟨(s "is_multi"), (s "Kind.is_multi"), (mArgs 55 2), (PySem.FuncBody.stmts (mBody 55 2)), (mScope 55 4), 0, [], vN, vN, vN, vN, none, vN, vN, 0⟩), ⟨[]⟩⟩
noncomputable def o282 := qK "is_multi" "Kind.is_multi" 593 204 1 3 283 true (vR 285) (vR 286) (vR 287) 597 598
noncomputable def o283 : Obj := ⟨(vY SL.s7174869446012820540x8), none, (Data.func ⟨(s "is_multi"), (s "Kind.is_multi"), (mArgs 55 2), (PySem.FuncBody.stmts (mBody 55 2)), (mScope 55 4), 3, [], vN, vN, vN, (vT "postkeep.params" 547), none, (vR 288), vN, 0⟩), ⟨[]⟩⟩
noncomputable def o286 := qS [(vT "self" 603)]
noncomputable def o288 : Obj := ⟨vN, none, (Data.func ⟨(s "is_letter"), (s "Kind.is_letter"), (mArgs 55 3), (PySem.FuncBody.stmts (mBody 55 3)), (mScope 55 4), 0, [], vN, vN, vN, vN, none, vN, vN, 0⟩), ⟨[]⟩⟩
noncomputable def o289 := qK "is_letter" "Kind.is_letter" 600 207 1 3 290 true (vR 292) (vR 293) (vR 294) 604 605
noncomputable def o290 : Obj := ⟨(vY SL.s7174869446012820540x8), none, (Data.func ⟨(s "is_letter"), (s "Kind.is_letter"), (mArgs 55 3), (PySem.FuncBody.stmts (mBody 55 3)), (mScope 55 4), 3, [], vN, vN, vN, (vT "postkeep.params" 547), none, (vR 295), vN, 0⟩), ⟨[]⟩⟩
noncomputable def o293 := qS [(vT "self" 610)]
noncomputable def o295 := qM "is_text" "Kind.is_text" 55 4
noncomputable def o296 := qK "is_text" "Kind.is_text" 607 210 1 3 297 true (vR 299) (vR 300) (vR 301) 611 612
noncomputable def o297 := qN "is_text" "Kind.is_text" 55 4 vN "postkeep.params" 547 302
noncomputable def o298 := qS [(vT "params" 614), (vT "sub" 615), (vT "top" 616)]
noncomputable def e106 := qE P "__dict__" 619 (vR 307)
noncomputable def e107 := qE P "__weakref__" 621 (vR 308)
noncomputable def e108 := qE P "__doc__" 622 vN
noncomputable def o299 : Obj := ⟨(vY SL.s14018661285674007319x4), none, (Data.dict ⟨[(e97 P), (e99 P), (e100 P), (e101 P), (e102 P), (e103 P), (e104 P), (e105 P), (e106 P), (e107 P), (e108 P)]⟩ 4), ⟨[]⟩⟩
noncomputable def o300 : Obj := ⟨(vY SL.s17162191345867700912x4), none, (Data.cls ⟨(s "Kind"), [(vY SL.s2742458400755230247x6)], [(vR 306), (vY SL.s2742458400755230247x6)], 305, (s "Kind"), true, [], [], false, none, false⟩), ⟨[none, none, (some (vT "Kind" 565)), (some (vT "Kind" 573)), (some (Value.builtin SL.s11443829558043349243x14)), (some (Value.bool true))]⟩⟩
noncomputable def o301 := qG SL.s14755015743595814543x17 [(vT "__dict__" 618), (vR 306), (Value.builtin SL.s6511155373996960695x17), (Value.builtin SL.s12411053484034534018x21)]
noncomputable def o302 := qG SL.s14755015743595814543x17 [(vT "__weakref__" 620), (vR 306), (Value.builtin SL.s10220274742760427390x26), vN]
noncomputable def o303 := qG SL.s4290257624100764138x5 [(vR 306), (vR 306), (vR 306)]
noncomputable def o304 := qG SL.s11030030927630378310x26 [(Value.builtin SL.s4860613602091757760x24), (vR 306)]
noncomputable def o307 := qS [(vT "code" 628)]
noncomputable def o309 := qC "is_token_code" "is_token_code" 56
noncomputable def o310 := qK "is_token_code" "is_token_code" 625 212 1 3 311 true (vR 313) (vR 314) (vR 315) 629 630
noncomputable def o311 := qD "is_token_code" "is_token_code" 56 vN "postkeep.params" 547 316
noncomputable def o314 := qC "is_token" "is_token" 57
noncomputable def o315 := qK "is_token" "is_token" 632 214 1 3 318 true vN vN (vR 320) 635 636
noncomputable def o316 := qD "is_token" "is_token" 57 vN "postkeep.params" 547 321
noncomputable def o319 := qC "is_plain" "is_plain" 58
noncomputable def o320 := qK "is_plain" "is_plain" 638 216 1 3 323 true vN vN (vR 325) 641 642
noncomputable def o321 := qD "is_plain" "is_plain" 58 vN "postkeep.params" 547 326
noncomputable def o324 := qS [(vT "octets" 648), (vT "found" 649), (vT "code" 650)]
noncomputable def o326 := qC "percent_encoded" "percent_encoded" 60
noncomputable def o327 := qK "percent_encoded" "percent_encoded" 645 219 1 3 328 true (vR 330) (vR 331) (vR 332) 651 652
noncomputable def o328 := qD "percent_encoded" "percent_encoded" 60 vN "postkeep.params" 547 333
noncomputable def o331 := qS [(vT "pieces" 657), (vT "room" 658), (vT "rows" 659), (vT "piece" 660)]
noncomputable def o333 := qC "in_rows" "in_rows" 61
noncomputable def o334 := qK "in_rows" "in_rows" 654 227 2 3 335 true (vR 337) (vR 338) (vR 339) 661 662
noncomputable def o335 := qD "in_rows" "in_rows" 61 vN "postkeep.params" 547 340
noncomputable def o338 := qC "encoded_rows" "encoded_rows" 62
noncomputable def o339 := qK "encoded_rows" "encoded_rows" 664 234 2 3 342 true vN vN (vR 344) 667 668
noncomputable def o340 := qD "encoded_rows" "encoded_rows" 62 vN "postkeep.params" 547 345
noncomputable def o343 := qC "quoted_rows" "quoted_rows" 63
noncomputable def o344 := qK "quoted_rows" "quoted_rows" 670 242 2 3 347 true vN vN (vR 349) 673 674
noncomputable def o345 := qD "quoted_rows" "quoted_rows" 63 vN "postkeep.params" 547 350
noncomputable def t2 : BT := (.node (boot_o_0 P) (.node (boot_o_1 P) (.node (o136 P) (.node (boot_o_7 P) (.node qW (.node o23 (.node o55 (.node o119 (qL o249) .nil) (.node qW (qL qZ) .nil)) (.node o87 (.node qZ (qL o281) .nil) (.node qW (qL o345) .nil))) (.node qW (.node qW (.node o135 (qL qW) .nil) (.node o201 (qL qW) .nil)) (.node o91 (.node o169 (qL o297) .nil) (qL o233)))) (.node qZ (.node o31 (.node o63 (.node o127 (qL o257) .nil) (.node qZ (qL o321) .nil)) (.node qZ (.node o161 (qL o289) .nil) (qL qZ))) (.node o47 (.node qZ (.node qW (qL qZ) .nil) (.node o209 (qL qZ) .nil)) (.node (o111 P) (.node o177 (qL qW) .nil) (qL o241))))) (.node qW (.node o11 (.node o27 (.node qW (.node qZ (qL o253) .nil) (.node o189 (qL qW) .nil)) (.node o91 (.node qW (qL qZ) .nil) (qL o221))) (.node qW (.node o75 (.node qW (qL o269) .nil) (.node qZ (qL o333) .nil)) (.node qZ (.node o173 (qL o301) .nil) (qL qZ)))) (.node qW (.node o35 (.node o67 (.node qW (qL qW) .nil) (.node o197 (qL qW) .nil)) (.node (o99 P) (.node (o165 P) (qL o293) .nil) (qL qW))) (.node o51 (.node o83 (.node o149 (qL qW) .nil) (.node o213 (qL qW) .nil)) (.node qW (.node qW (qL o309) .nil) (qL o245)))))) (.node (boot_o_5 P) (.node (boot_o_9 P) (.node o9 (.node qZ (.node qZ (.node o121 (qL qW) .nil) (.node o187 (qL o315) .nil)) (.node o89 (.node o155 (qL o283) .nil) (qL o219))) (.node o41 (.node o73 (.node o64 (qL o267) .nil) (.node o203 (qL o331) .nil)) (.node (o105 P) (.node qW (qL (o299 P)) .nil) (qL o235)))) (.node o17 (.node o33 (.node (o65 P) (.node qZ (qL o64) .nil) (.node qW (qL qZ) .nil)) (.node o97 (.node o163 (qL qW) .nil) (qL o227))) (.node qW (.node qW (.node o147 (qL o275) .nil) (.node qW (qL o339) .nil)) (.node o113 (.node qZ (qL o307) .nil) (qL qW))))) (.node o2 (.node o13 (.node qW (.node o61 (.node o125 (qL o255) .nil) (.node o191 (qL o319) .nil)) (.node (o93 P) (.node o159 (qL qW) .nil) (qL o223))) (.node o45 (.node o77 (.node o143 (qL o271) .nil) (.node qW (qL o335) .nil)) (.node o109 (.node o175 (qL o303) .nil) (qL qW)))) (.node o21 (.node qZ (.node o69 (.node o133 (qL o263) .nil) (.node qW (qL o327) .nil)) (.node o101 (.node o167 (qL o295) .nil) (qL o231))) (.node o53 (.node o85 (.node o151 (qL o279) .nil) (.node o215 (qL o343) .nil)) (.node o117 (.node o183 (qL o311) .nil) (qL o247))))))) (.node (o4 P) (.node (boot_o_4 P) (.node (boot_o_8 P) (.node qZ (.node qW (.node qW (.node o120 (qL o250) .nil) (.node qZ (qL o314) .nil)) (.node o88 (.node o154 (qL o282) .nil) (qL qZ))) (.node o40 (.node qZ (.node qW (qL qZ) .nil) (.node o202 (qL qZ) .nil)) (.node o64 (.node o170 (qL o298) .nil) (qL o234)))) (.node o16 (.node qW (.node o64 (.node qW (qL qW) .nil) (.node o194 (qL qW) .nil)) (.node o96 (.node o162 (qL o290) .nil) (qL o226))) (.node o48 (.node o80 (.node qZ (qL o274) .nil) (.node o210 (qL o338) .nil)) (.node o112 (.node qW (qL qZ) .nil) (qL o242))))) (.node o137 (.node o12 (.node o28 (.node o60 (.node o124 (qL qW) .nil) (.node o190 (qL qZ) .nil)) (.node o64 (.node qZ (qL o286) .nil) (qL o222))) (.node qZ (.node o76 (.node o142 (qL o270) .nil) (.node o206 (qL o334) .nil)) (.node o108 (.node qW (qL o302) .nil) (qL o238)))) (.node qZ (.node qW (.node o68 (.node o132 (qL o262) .nil) (.node o198 (qL o326) .nil)) (.node o100 (.node o166 (qL qW) .nil) (qL qZ))) (.node qW (.node o84 (.node o150 (qL qZ) .nil) (.node o214 (qL qZ) .nil)) (.node qZ (.node o182 (qL o310) .nil) (qL qW)))))) (.node (boot_o_6 P) (.node (boot_o_10 P) (.node qW (.node o26 (.node o58 (.node qW (qL qZ) .nil) (.node qW (qL o316) .nil)) (.node o90 (.node o156 (qL qW) .nil) (qL qW))) (.node o42 (.node qW (.node (o140 P) (qL qW) .nil) (.node qW (qL qW) .nil)) (.node qW (.node qZ (qL o300) .nil) (qL qW)))) (.node o18 (.node o34 (.node qW (.node o130 (qL (o260 P)) .nil) (.node o196 (qL o324) .nil)) (.node qW (.node o164 (qL qZ) .nil) (qL o228))) (.node qZ (.node o82 (.node qW (qL o276) .nil) (.node qZ (qL o340) .nil)) (.node o114 (.node o180 (qL qW) .nil) (qL qZ))))) (.node o3 (.node qW (.node qZ (.node o62 (.node o126 (qL o256) .nil) (.node qW (qL o320) .nil)) (.node qW (.node qW (qL o288) .nil) (qL qW))) (.node o46 (.node qW (.node o144 (qL qW) .nil) (.node o208 (qL qW) .nil)) (.node qW (.node o176 (qL o304) .nil) (qL o240)))) (.node o22 (.node o38 (.node o70 (.node o134 (qL o264) .nil) (.node qZ (qL o328) .nil)) (.node o102 (.node o168 (qL o296) .nil) (qL qW))) (.node o54 (.node (o86 P) (.node qW (qL qW) .nil) (.node o216 (qL o344) .nil)) (.node qW (.node o184 (qL qW) .nil) (qL o248))))))))
theorem p1 : ∀ w : World, (fun os => qSeg w 1381 ⟨t1 w.params, 144, {}, ⟨[]⟩, boot_drawn, 379, os⟩ (qThr 25 39 ⟨86, 0, 86, 5⟩)) = fun os => some (Flow.next, ⟨t2 w.params, 352, {}, ⟨[]⟩, boot_drawn, 676, os⟩, hC, ⟨242, 0, 248, 97⟩) := fun w => by kernel_rfl
noncomputable def e109 := qE P "__name__" 165 (vT "law_pq0947_01" 946)
noncomputable def e110 := qE P "is_plain" 643 (vR 399)
noncomputable def e111 := qE P "number_octets" 681 (vR 356)
noncomputable def e112 := qE P "param_rows" 687 (vR 361)
noncomputable def e113 := qE P "write_params" 693 (vR 366)
noncomputable def e114 := qE P "write_kind" 699 (vR 371)
noncomputable def e115 := qE P "EQUALS" 703 (Value.int 61 702)
noncomputable def e116 := qE P "BLANK" 705 (Value.int 32 704)
noncomputable def e117 := qE P "TAB" 707 (Value.int 9 706)
noncomputable def e118 := qE P "RETURN_quoted" 709 (Value.int 13 708)
noncomputable def e119 := qE P "LEAST_WIDTH" 711 (Value.int 4 710)
noncomputable def e120 := qE P "HEX" 713 (Value.bytes ⟨[48, 49, 50, 51, 52, 53, 54, 55, 56, 57, 65, 66, 67, 68, 69, 70]⟩ 712)
noncomputable def e121 := qE P "quoted_code" 720 (vR 378)
noncomputable def e122 := qE P "hex_worth" 727 (vR 385)
noncomputable def e123 := qE P "quoted_at" 737 (vR 392)
noncomputable def e124 := qE P "is_plain_quoted" 745 (vR 399)
noncomputable def e125 := qE P "line_pieces" 755 (vR 406)
noncomputable def e126 := qE P "soft_lines" 767 (vR 413)
noncomputable def e127 := qE P "text_lines" 775 (vR 420)
noncomputable def e128 := qE P "quoted_encoded" 787 (vR 428)
noncomputable def e129 := qE P "joined_lines" 796 (vR 435)
noncomputable def e130 := qE P "line_parts" 806 (vR 442)
noncomputable def e131 := qE P "unquoted" 816 (vR 449)
noncomputable def e132 := qE P "quoted_decoded" 827 (vR 456)
noncomputable def e133 := qE P "PLAIN_ENCODING" 831 (vT "7bit" 830)
noncomputable def e134 := qE P "undone" 839 (vR 463)
noncomputable def e135 := qE P "MOST_LINE" 843 (Value.int 998 842)
noncomputable def e136 := qE P "OWN_WORDS" 847 (vR 464)
noncomputable def e137 := qE P "fields_told" 853 (vR 469)
noncomputable def e138 := qE P "Leaf" 900 (vR 502)
noncomputable def e139 := qE P "is_seven_bit" 906 (vR 511)
noncomputable def e140 := qE P "choose_encoding" 914 (vR 518)
noncomputable def e141 := qE P "in_encoding" 923 (vR 525)
noncomputable def e142 := qE P "check_fields" 930 (vR 532)
noncomputable def e143 := qE P "head_octets" 936 (vR 537)
noncomputable def e144 := qE P "leaf_octets" 945 (vR 544)
noncomputable def e145 := qE P "_law_units" 962 (vR 545)
noncomputable def e146 := qE P "_law_counts" 978 (vR 546)
noncomputable def e147 := qE P "_law_signs" 980 (vT "ABCDEFGHIJKLMNOPQRSTUVWXYZabcdefghijklmnopqrstuvwxyz0123456789+/" 979)
noncomputable def e148 := qE P "_law_pen" 986 (vR 551)
noncomputable def e149 := qE P "_law_drawn" 998 (vR 558)
noncomputable def e150 := qE P "_law_body" 1008 (vR 565)
noncomputable def e151 := qE P "_law_spelled" 1014 (vR 570)
noncomputable def e152 := qE P "_law_base64" 1020 (vR 575)
noncomputable def e153 := qE P "_law_piece" 1028 (vR 582)
noncomputable def e154 := qE P "_law_broken" 1034 (vR 587)
noncomputable def o346 : Obj := ⟨(vY SL.s14018661285674007319x4), none, (Data.dict ⟨[(e109 P), (e3 P), (e4 P), (e5 P), (e6 P), (e7 P), (e8 P), (e9 P), (e10 P), (e11 P), (e12 P), (e13 P), (e14 P), (e15 P), (e16 P), (e17 P), (e18 P), (e19 P), (e20 P), (e21 P), (e22 P), (e23 P), (e24 P), (e25 P), (e26 P), (e27 P), (e28 P), (e29 P), (e30 P), (e31 P), (e51 P), (e52 P), (e53 P), (e54 P), (e55 P), (e56 P), (e57 P), (e58 P), (e59 P), (e60 P), (e61 P), (e62 P), (e63 P), (e64 P), (e65 P), (e66 P), (e67 P), (e68 P), (e69 P), (e70 P), (e71 P), (e72 P), (e73 P), (e74 P), (e75 P), (e76 P), (e77 P), (e78 P), (e79 P), (e80 P), (e110 P), (e82 P), (e83 P), (e84 P), (e85 P), (e86 P), (e111 P), (e112 P), (e113 P), (e114 P), (e115 P), (e116 P), (e117 P), (e118 P), (e119 P), (e120 P), (e121 P), (e122 P), (e123 P), (e124 P), (e125 P), (e126 P), (e127 P), (e128 P), (e129 P), (e130 P), (e131 P), (e132 P), (e133 P), (e134 P), (e135 P), (e136 P), (e137 P), (e138 P), (e139 P), (e140 P), (e141 P), (e142 P), (e143 P), (e144 P), (e145 P), (e146 P), (e147 P), (e148 P), (e149 P), (e150 P), (e151 P), (e152 P), (e153 P), (e154 P)]⟩ 110), ⟨[]⟩⟩
noncomputable def o347 := qF (qP [1, 20, 8, 25, 10, 30, 17, 35, 25, 42, 30, 49, 32, 54, 36, 62, 38, 69, 52, 76, 61, 104, 63, 116, 68, 128, 70, 133, 72, 141, 87, 149, 98, 182, 105, 189, 110, 196, 119, 203, 121, 208, 124, 215, 131, 220, 141, 228, 144, 233, 148, 240, 158, 247, 162, 254, 176, 262, 194, 269, 212, 316, 214, 321, 216, 326, 219, 333, 227, 340, 234, 345, 242, 350, 249, 355, 251, 360, 265, 365, 270, 370, 285, 377, 287, 384, 295, 391, 301, 398, 304, 405, 313, 412, 323, 419, 325, 427, 333, 434, 340, 441, 352, 448, 364, 455, 375, 462, 384, 468, 386, 475, 398, 510, 406, 517, 410, 524, 414, 531, 417, 536, 423, 543, 433, 550, 435, 557, 444, 564, 455, 569, 463, 574, 465, 581, 469, 586])
noncomputable def o350 := qC "number_octets" "number_octets" 64
noncomputable def o351 := qK "number_octets" "number_octets" 676 249 1 3 352 true vN vN (vR 354) 679 680
noncomputable def o352 := qD "number_octets" "number_octets" 64 vN "postkeep.params" 547 355
noncomputable def o355 := qC "param_rows" "param_rows" 65
noncomputable def o356 := qK "param_rows" "param_rows" 682 251 2 3 357 true vN vN (vR 359) 685 686
noncomputable def o357 := qD "param_rows" "param_rows" 65 vN "postkeep.params" 547 360
noncomputable def o360 := qC "write_params" "write_params" 66
noncomputable def o361 := qK "write_params" "write_params" 688 265 2 3 362 true vN vN (vR 364) 691 692
noncomputable def o362 := qD "write_params" "write_params" 66 vN "postkeep.params" 547 365
noncomputable def o365 := qC "write_kind" "write_kind" 67
noncomputable def o366 := qK "write_kind" "write_kind" 694 270 1 3 367 true vN vN (vR 369) 697 698
noncomputable def o367 := qD "write_kind" "write_kind" 67 vN "postkeep.params" 547 370
noncomputable def o370 := qS [(vT "code" 717)]
noncomputable def o372 := qC "quoted_code" "quoted_code" 75
noncomputable def o373 := qK "quoted_code" "quoted_code" 714 285 1 3 372 true (vR 374) (vR 375) (vR 376) 718 719
noncomputable def o374 := qD "quoted_code" "quoted_code" 75 vN "postkeep.quoted" 700 377
noncomputable def o377 := qS [(vT "code" 724)]
noncomputable def o379 := qC "hex_worth" "hex_worth" 76
noncomputable def o380 := qK "hex_worth" "hex_worth" 721 287 1 3 379 true (vR 381) (vR 382) (vR 383) 725 726
noncomputable def o381 := qD "hex_worth" "hex_worth" 76 vN "postkeep.quoted" 700 384
noncomputable def o384 := qS [(vT "data" 731), (vT "at" 732), (vT "high" 733), (vT "low" 734)]
noncomputable def o386 := qC "quoted_at" "quoted_at" 77
noncomputable def o387 := qK "quoted_at" "quoted_at" 728 295 2 3 386 true (vR 388) (vR 389) (vR 390) 735 736
noncomputable def o388 := qD "quoted_at" "quoted_at" 77 vN "postkeep.quoted" 700 391
noncomputable def o391 := qS [(vT "code" 741)]
noncomputable def o393 := qC "is_plain" "is_plain" 78
noncomputable def o394 := qK "is_plain" "is_plain" 738 301 1 3 393 true (vR 395) (vR 396) (vR 397) 742 743
noncomputable def o395 := qD "is_plain" "is_plain" 78 vN "postkeep.quoted" 700 398
noncomputable def o398 := qS [(vT "line" 749), (vT "pieces" 750), (vT "at" 751), (vT "is_white" 752)]
noncomputable def o400 := qC "line_pieces" "line_pieces" 80
noncomputable def o401 := qK "line_pieces" "line_pieces" 746 304 1 3 400 true (vR 402) (vR 403) (vR 404) 753 754
noncomputable def o402 := qD "line_pieces" "line_pieces" 80 vN "postkeep.quoted" 700 405
noncomputable def o405 := qS [(vT "pieces" 759), (vT "width" 760), (vT "lines" 761), (vT "line" 762), (vT "at" 763), (vT "room" 764)]
noncomputable def o407 := qC "soft_lines" "soft_lines" 81
noncomputable def o408 := qK "soft_lines" "soft_lines" 756 313 2 3 407 true (vR 409) (vR 410) (vR 411) 765 766
noncomputable def o409 := qD "soft_lines" "soft_lines" 81 vN "postkeep.quoted" 700 412
noncomputable def o412 := qS [(vT "octets" 771), (vT "is_text" 772)]
noncomputable def o414 := qC "text_lines" "text_lines" 82
noncomputable def o415 := qK "text_lines" "text_lines" 768 323 2 3 414 true (vR 416) (vR 417) (vR 418) 773 774
noncomputable def o416 := qD "text_lines" "text_lines" 82 vN "postkeep.quoted" 700 419
noncomputable def o417 := qS [(Value.bool true), (Value.int 76 776)]
noncomputable def o420 := qS [(vT "octets" 780), (vT "is_text" 781), (vT "width" 782), (vT "lines" 783), (vT "line" 784)]
noncomputable def o422 := qC "quoted_encoded" "quoted_encoded" 83
noncomputable def o423 := qK "quoted_encoded" "quoted_encoded" 777 325 3 3 422 true (vR 424) (vR 425) (vR 426) 785 786
noncomputable def o424 := qD "quoted_encoded" "quoted_encoded" 83 (vR 421) "postkeep.quoted" 700 427
noncomputable def o427 := qS [(vT "lines" 791), (vT "parts" 792), (vT "line" 793)]
noncomputable def o429 := qC "joined_lines" "joined_lines" 84
noncomputable def o430 := qK "joined_lines" "joined_lines" 788 333 1 3 429 true (vR 431) (vR 432) (vR 433) 794 795
noncomputable def o431 := qD "joined_lines" "joined_lines" 84 vN "postkeep.quoted" 700 434
noncomputable def o434 := qS [(vT "data" 800), (vT "found" 801), (vT "begin" 802), (vT "at" 803)]
noncomputable def o436 := qC "line_parts" "line_parts" 85
noncomputable def o437 := qK "line_parts" "line_parts" 797 340 1 3 436 true (vR 438) (vR 439) (vR 440) 804 805
noncomputable def o438 := qD "line_parts" "line_parts" 85 vN "postkeep.quoted" 700 441
noncomputable def o441 := qS [(vT "line" 810), (vT "codes" 811), (vT "at" 812), (vT "code" 813)]
noncomputable def o443 := qC "unquoted" "unquoted" 86
noncomputable def o444 := qK "unquoted" "unquoted" 807 352 1 3 443 true (vR 445) (vR 446) (vR 447) 814 815
noncomputable def o445 := qD "unquoted" "unquoted" 86 vN "postkeep.quoted" 700 448
noncomputable def o448 := qS [(vT "data" 820), (vT "parts" 821), (vT "line" 822), (vT "end" 823), (vT "kept" 824)]
noncomputable def o450 := qC "quoted_decoded" "quoted_decoded" 87
noncomputable def o451 := qK "quoted_decoded" "quoted_decoded" 817 364 1 3 450 true (vR 452) (vR 453) (vR 454) 825 826
noncomputable def o452 := qD "quoted_decoded" "quoted_decoded" 87 vN "postkeep.quoted" 700 455
noncomputable def o455 := qS [(vT "encoding" 835), (vT "octets" 836)]
noncomputable def o457 := qC "undone" "undone" 90
noncomputable def o458 := qK "undone" "undone" 832 375 2 3 457 true (vR 459) (vR 460) (vR 461) 837 838
noncomputable def o459 := qD "undone" "undone" 90 vN "postkeep.parts" 828 462
noncomputable def o460 := qS [(vT "content-type" 844), (vT "content-transfer-encoding" 845), (vT "mime-version" 846)]
noncomputable def o463 := qC "fields_told" "fields_told" 94
noncomputable def o464 := qK "fields_told" "fields_told" 848 384 1 3 465 true vN vN (vR 467) 851 852
noncomputable def o465 := qD "fields_told" "fields_told" 94 vN "postkeep.build" 840 468
noncomputable def e155 := qE P "__module__" 861 (vT "postkeep.build" 840)
noncomputable def e156 := qE P "__qualname__" 863 (vT "Leaf" 862)
noncomputable def e157 := qE P "__firstlineno__" 865 (Value.int 386 864)
noncomputable def e158 := qE P "__init__" 875 (vR 485)
noncomputable def e159 := qE P "told" 882 (vR 492)
noncomputable def e160 := qE P "depth" 889 (vR 499)
noncomputable def e161 := qE P "__static_attributes__" 893 (vR 500)
noncomputable def o468 : Obj := ⟨(vY SL.s14018661285674007319x4), none, (Data.dict ⟨[(e155 P), (e156 P), (e157 P), (e158 P), (e159 P), (e160 P), (e161 P)]⟩ 7), ⟨[]⟩⟩
noncomputable def o470 := qF [(vI 388), (vI 4), (vR 484), (vI 393), (vI 4), (vR 491), (vI 396), (vI 4), (vR 498)]
noncomputable def o471 := qK "Leaf" "Leaf" 856 386 0 0 473 false vN vN vN 859 860
noncomputable def o472 : Obj := ⟨(vY SL.s658472552662922059x5), none, Data.plain, ⟨[(some (vR 475)), (some (vR 3)), (some (vR 472)), none, (some (vT "postkeep.build" 840)), none, (some (vR 0))]⟩⟩
noncomputable def o474 := qS [(vR 477)]
noncomputable def o477 := qS [(vT "self" 869), (vT "kind" 870), (vT "octets" 871), (vT "fields" 872)]
noncomputable def o479 := qM "__init__" "Leaf.__init__" 95 0
noncomputable def o480 := qK "__init__" "Leaf.__init__" 866 388 4 3 479 true (vR 481) (vR 482) (vR 483) 873 874
noncomputable def o481 := qN "__init__" "Leaf.__init__" 95 0 (vR 478) "postkeep.build" 840 484
noncomputable def o484 := qS [(vT "self" 879)]
noncomputable def o486 := qM "told" "Leaf.told" 95 1
noncomputable def o487 := qK "told" "Leaf.told" 876 393 1 3 486 true (vR 488) (vR 489) (vR 490) 880 881
noncomputable def o488 := qN "told" "Leaf.told" 95 1 vN "postkeep.build" 840 491
noncomputable def o491 := qS [(vT "self" 886)]
noncomputable def o493 := qM "depth" "Leaf.depth" 95 2
noncomputable def o494 := qK "depth" "Leaf.depth" 883 396 1 3 493 true (vR 495) (vR 496) (vR 497) 887 888
noncomputable def o495 := qN "depth" "Leaf.depth" 95 2 vN "postkeep.build" 840 498
noncomputable def o496 := qS [(vT "fields" 890), (vT "kind" 891), (vT "octets" 892)]
noncomputable def e162 := qE P "__dict__" 895 (vR 503)
noncomputable def e163 := qE P "__weakref__" 897 (vR 504)
noncomputable def e164 := qE P "__doc__" 898 vN
noncomputable def o497 : Obj := ⟨(vY SL.s14018661285674007319x4), none, (Data.dict ⟨[(e155 P), (e157 P), (e158 P), (e159 P), (e160 P), (e161 P), (e162 P), (e163 P), (e164 P)]⟩ 4), ⟨[]⟩⟩
noncomputable def o498 : Obj := ⟨(vY SL.s17162191345867700912x4), none, (Data.cls ⟨(s "Leaf"), [(vY SL.s2742458400755230247x6)], [(vR 502), (vY SL.s2742458400755230247x6)], 501, (s "Leaf"), true, [], [], false, none, false⟩), ⟨[none, none, (some (vT "Leaf" 854)), (some (vT "Leaf" 862)), (some (Value.builtin SL.s11443829558043349243x14)), (some (Value.bool true))]⟩⟩
noncomputable def o499 := qG SL.s14755015743595814543x17 [(vT "__dict__" 894), (vR 502), (Value.builtin SL.s6511155373996960695x17), (Value.builtin SL.s12411053484034534018x21)]
noncomputable def o500 := qG SL.s14755015743595814543x17 [(vT "__weakref__" 896), (vR 502), (Value.builtin SL.s10220274742760427390x26), vN]
noncomputable def o501 := qG SL.s4290257624100764138x5 [(vR 502), (vR 502), (vR 502)]
noncomputable def o502 := qG SL.s11030030927630378310x26 [(Value.builtin SL.s4860613602091757760x24), (vR 502)]
noncomputable def o505 := qC "is_seven_bit" "is_seven_bit" 96
noncomputable def o506 := qK "is_seven_bit" "is_seven_bit" 901 398 1 3 507 true vN vN (vR 509) 904 905
noncomputable def o507 := qD "is_seven_bit" "is_seven_bit" 96 vN "postkeep.build" 840 510
noncomputable def o510 := qS [(vT "octets" 910), (vT "is_text" 911)]
noncomputable def o512 := qC "choose_encoding" "choose_encoding" 97
noncomputable def o513 := qK "choose_encoding" "choose_encoding" 907 406 2 3 512 true (vR 514) (vR 515) (vR 516) 912 913
noncomputable def o514 := qD "choose_encoding" "choose_encoding" 97 vN "postkeep.build" 840 517
noncomputable def o517 := qS [(vT "encoding" 918), (vT "octets" 919), (vT "is_text" 920)]
noncomputable def o519 := qC "in_encoding" "in_encoding" 98
noncomputable def o520 := qK "in_encoding" "in_encoding" 915 410 3 3 519 true (vR 521) (vR 522) (vR 523) 921 922
noncomputable def o521 := qD "in_encoding" "in_encoding" 98 vN "postkeep.build" 840 524
noncomputable def o524 := qS [(vT "fields" 927)]
noncomputable def o526 := qC "check_fields" "check_fields" 99
noncomputable def o527 := qK "check_fields" "check_fields" 924 414 1 3 526 true (vR 528) (vR 529) (vR 530) 928 929
noncomputable def o528 := qD "check_fields" "check_fields" 99 vN "postkeep.build" 840 531
noncomputable def o531 := qC "head_octets" "head_octets" 100
noncomputable def o532 := qK "head_octets" "head_octets" 931 417 3 3 533 true vN vN (vR 535) 934 935
noncomputable def o533 := qD "head_octets" "head_octets" 100 vN "postkeep.build" 840 536
noncomputable def o536 := qS [(vT "leaf" 940), (vT "kind" 941), (vT "encoding" 942)]
noncomputable def o538 := qC "leaf_octets" "leaf_octets" 101
noncomputable def o539 := qK "leaf_octets" "leaf_octets" 937 423 1 3 538 true (vR 540) (vR 541) (vR 542) 943 944
noncomputable def o540 := qD "leaf_octets" "leaf_octets" 101 vN "postkeep.build" 840 543
noncomputable def o541 := qS [(Value.bytes ⟨[97]⟩ 948), (Value.bytes ⟨[61]⟩ 949), (Value.bytes ⟨[32]⟩ 950), (Value.bytes ⟨[9]⟩ 951), (Value.bytes ⟨[13, 10]⟩ 952), (Value.bytes ⟨[13]⟩ 953), (Value.bytes ⟨[10]⟩ 954), (Value.bytes ⟨[0]⟩ 955), (Value.bytes ⟨[200]⟩ 956), (Value.bytes ⟨[122, 46]⟩ 957), (Value.bytes ⟨[126]⟩ 958), (Value.bytes ⟨[61, 51]⟩ 959), (Value.bytes ⟨[]⟩ 960), (Value.bytes ⟨[101, 32]⟩ 961)]
noncomputable def o542 := qS [(Value.int 0 963), (Value.int 1 964), (Value.int 2 965), (Value.int 18 966), (Value.int 19 967), (Value.int 25 968), (Value.int 26 969), (Value.int 38 970), (Value.int 57 971), (Value.int 58 972), (Value.int 73 973), (Value.int 74 974), (Value.int 75 975), (Value.int 76 976), (Value.int 77 977)]
noncomputable def o545 := qC "_law_pen" "_law_pen" 106
noncomputable def o546 := qK "_law_pen" "_law_pen" 981 433 1 3 547 true vN vN (vR 549) 984 985
noncomputable def o547 := qD "_law_pen" "_law_pen" 106 vN "law_pq0947_01" 946 550
noncomputable def o550 := qS [(vT "pen" 990), (vT "many" 991), (vT "cells" 992), (vT "spot" 993), (vT "turn" 994), (vT "worth" 995)]
noncomputable def o552 := qC "_law_drawn" "_law_drawn" 107
noncomputable def o553 := qK "_law_drawn" "_law_drawn" 987 435 2 3 552 true (vR 554) (vR 555) (vR 556) 996 997
noncomputable def o554 := qD "_law_drawn" "_law_drawn" 107 vN "law_pq0947_01" 946 557
noncomputable def o557 := qS [(vT "pen" 1002), (vT "found" 1003), (vT "lap" 1004), (vT "unit" 1005)]
noncomputable def o559 := qC "_law_body" "_law_body" 108
noncomputable def o560 := qK "_law_body" "_law_body" 999 444 1 3 559 true (vR 561) (vR 562) (vR 563) 1006 1007
noncomputable def o561 := qD "_law_body" "_law_body" 108 vN "law_pq0947_01" 946 564
noncomputable def o564 := qC "_law_spelled" "_law_spelled" 109
noncomputable def o565 := qK "_law_spelled" "_law_spelled" 1009 455 1 3 566 true vN vN (vR 568) 1012 1013
noncomputable def o566 := qD "_law_spelled" "_law_spelled" 109 vN "law_pq0947_01" 946 569
noncomputable def o569 := qC "_law_base64" "_law_base64" 110
noncomputable def o570 := qK "_law_base64" "_law_base64" 1015 463 1 3 571 true vN vN (vR 573) 1018 1019
noncomputable def o571 := qD "_law_base64" "_law_base64" 110 vN "law_pq0947_01" 946 574
noncomputable def o574 := qS [(vT "code" 1024), (vT "is_last" 1025)]
noncomputable def o576 := qC "_law_piece" "_law_piece" 111
noncomputable def o577 := qK "_law_piece" "_law_piece" 1021 465 2 3 576 true (vR 578) (vR 579) (vR 580) 1026 1027
noncomputable def o578 := qD "_law_piece" "_law_piece" 111 vN "law_pq0947_01" 946 581
noncomputable def o581 := qC "_law_broken" "_law_broken" 112
noncomputable def o582 := qK "_law_broken" "_law_broken" 1029 469 1 3 583 true vN vN (vR 585) 1032 1033
noncomputable def o583 := qD "_law_broken" "_law_broken" 112 vN "law_pq0947_01" 946 586
noncomputable def t3 : BT := (.node (boot_o_0 P) (.node (boot_o_1 P) (.node (o346 P) (.node (boot_o_7 P) (.node qW (.node o23 (.node o55 (.node o119 (.node o249 (qL o507) .nil) (qL o379)) (.node qW (.node qZ (qL o571) .nil) (qL o443))) (.node o87 (.node qZ (.node o281 (qL o539) .nil) (qL qZ)) (.node qW (qL o345) (qL qW)))) (.node qW (.node qW (.node o135 (.node qW (qL qZ) .nil) (qL o395)) (.node o201 (qL qW) (qL o459))) (.node o91 (.node o169 (.node o297 (qL qW) .nil) (qL o427)) (.node o233 (qL qW) (qL o491))))) (.node qZ (.node o31 (.node o63 (.node o127 (.node o257 (qL qW) .nil) (qL o387)) (.node qZ (.node o321 (qL qW) .nil) (qL o451))) (.node qZ (.node o161 (.node o289 (qL o547) .nil) (qL qZ)) (.node qZ (qL o355) (qL qZ)))) (.node o47 (.node qZ (.node qW (.node qZ (qL o531) .nil) (qL qW)) (.node o209 (qL qZ) (qL o64))) (.node (o111 P) (.node o177 (.node qW (qL qZ) .nil) (qL qW)) (.node o241 (qL qW) (qL o499)))))) (.node qW (.node o11 (.node o27 (.node qW (.node qZ (.node o253 (qL qW) .nil) (qL qZ)) (.node o189 (.node qW (qL qW) .nil) (qL qZ))) (.node o91 (.node qW (.node qZ (qL qW) .nil) (qL o415)) (.node o221 (qL o351) (qL o479)))) (.node qW (.node o75 (.node qW (.node o269 (qL o527) .nil) (qL qW)) (.node qZ (qL o333) (qL o463))) (.node qZ (.node o173 (.node o301 (qL o559) .nil) (qL o431)) (.node qZ (qL o367) (qL o495))))) (.node qW (.node o35 (.node o67 (.node qW (.node qW (qL o519) .nil) (qL o391)) (.node o197 (.node qW (qL o583) .nil) (qL o455))) (.node (o99 P) (.node (o165 P) (.node o293 (qL qW) .nil) (qL o423)) (.node qW (qL qZ) (qL o487)))) (.node o51 (.node o83 (.node o149 (.node qW (qL qZ) .nil) (qL o407)) (.node o213 (qL qW) (qL o471))) (.node qW (.node qW (.node o309 (qL qW) .nil) (qL qW)) (.node o245 (qL qW) (qL qW))))))) (.node (boot_o_5 P) (.node (boot_o_9 P) (.node o9 (.node qZ (.node qZ (.node o121 (.node qW (qL qZ) .nil) (qL o381)) (.node o187 (.node o315 (qL qZ) .nil) (qL o445))) (.node o89 (.node o155 (.node o283 (qL o541) .nil) (qL qW)) (.node o219 (qL qZ) (qL o477)))) (.node o41 (.node o73 (.node o64 (.node o267 (qL qW) .nil) (qL qZ)) (.node o203 (qL o331) (qL qW))) (.node (o105 P) (.node qW (.node (o299 P) (qL o557) .nil) (qL o429)) (.node o235 (qL o365) (qL o493))))) (.node o17 (.node o33 (.node (o65 P) (.node qZ (.node o64 (qL o517) .nil) (qL qW)) (.node qW (.node qZ (qL o581) .nil) (qL qW))) (.node o97 (.node o163 (.node qW (qL qZ) .nil) (qL qW)) (.node o227 (qL o357) (qL qW)))) (.node qW (.node qW (.node o147 (.node o275 (qL o533) .nil) (qL o405)) (.node qW (qL o339) (qL qW))) (.node o113 (.node qZ (.node o307 (qL o565) .nil) (qL o437)) (.node qW (qL o373) (qL o501)))))) (.node o2 (.node o13 (.node qW (.node o61 (.node o125 (.node o255 (qL o513) .nil) (qL qW)) (.node o191 (.node o319 (qL o577) .nil) (qL qW))) (.node (o93 P) (.node o159 (.node qW (qL o545) .nil) (qL o417)) (.node o223 (qL qW) (qL o481)))) (.node o45 (.node o77 (.node o143 (.node o271 (qL qW) .nil) (qL o401)) (.node qW (qL o335) (qL o465))) (.node o109 (.node o175 (.node o303 (qL o561) .nil) (qL qZ)) (.node qW (qL qZ) (qL (o497 P)))))) (.node o21 (.node qZ (.node o69 (.node o133 (.node o263 (qL o521) .nil) (qL o393)) (.node qW (qL o327) (qL o457))) (.node o101 (.node o167 (.node o295 (qL o553) .nil) (qL qW)) (.node o231 (qL o361) (qL qW)))) (.node o53 (.node o85 (.node o151 (.node o279 (qL qW) .nil) (qL o409)) (.node o215 (qL o343) (qL qW))) (.node o117 (.node o183 (.node o311 (qL o569) .nil) (qL o441)) (.node o247 (qL o377) (qL o505)))))))) (.node (o4 P) (.node (boot_o_4 P) (.node (boot_o_8 P) (.node qZ (.node qW (.node qW (.node o120 (.node o250 (qL qW) .nil) (qL o380)) (.node qZ (.node o314 (qL qW) .nil) (qL o444))) (.node o88 (.node o154 (.node o282 (qL o540) .nil) (qL o412)) (.node qZ (qL qW) (qL qZ)))) (.node o40 (.node qZ (.node qW (.node qZ (qL o524) .nil) (qL qW)) (.node o202 (qL qZ) (qL o460))) (.node o64 (.node o170 (.node o298 (qL qZ) .nil) (qL qW)) (.node o234 (qL qZ) (qL qW))))) (.node o16 (.node qW (.node o64 (.node qW (.node qW (qL qZ) .nil) (qL o388)) (.node o194 (.node qW (qL qZ) .nil) (qL o452))) (.node o96 (.node o162 (.node o290 (qL qW) .nil) (qL o420)) (.node o226 (qL o356) (qL o484)))) (.node o48 (.node o80 (.node qZ (.node o274 (qL o532) .nil) (qL qZ)) (.node o210 (qL o338) (qL (o468 P)))) (.node o112 (.node qW (.node qZ (qL o564) .nil) (qL o436)) (.node o242 (qL o372) (qL o500)))))) (.node o347 (.node o12 (.node o28 (.node o60 (.node o124 (.node qW (qL o512) .nil) (qL o384)) (.node o190 (.node qZ (qL o576) .nil) (qL o448))) (.node o64 (.node qZ (.node o286 (qL qZ) .nil) (qL o416)) (.node o222 (qL o352) (qL o480)))) (.node qZ (.node o76 (.node o142 (.node o270 (qL o528) .nil) (qL o400)) (.node o206 (qL o334) (qL o464))) (.node o108 (.node qW (.node o302 (qL o560) .nil) (qL qW)) (.node o238 (qL qW) (qL o496))))) (.node qZ (.node qW (.node o68 (.node o132 (.node o262 (qL o520) .nil) (qL qW)) (.node o198 (qL o326) (qL qW))) (.node o100 (.node o166 (.node qW (qL o552) .nil) (qL o424)) (.node qZ (qL o360) (qL o488)))) (.node qW (.node o84 (.node o150 (.node qZ (qL o536) .nil) (qL o408)) (.node o214 (qL qZ) (qL o472))) (.node qZ (.node o182 (.node o310 (qL qZ) .nil) (qL qZ)) (.node qW (qL qZ) (qL qZ))))))) (.node (boot_o_6 P) (.node (boot_o_10 P) (.node qW (.node o26 (.node o58 (.node qW (.node qZ (qL o510) .nil) (qL qW)) (.node qW (.node o316 (qL o574) .nil) (qL qW))) (.node o90 (.node o156 (.node qW (qL o542) .nil) (qL o414)) (.node qW (qL o350) (qL qW)))) (.node o42 (.node qW (.node (o140 P) (.node qW (qL o526) .nil) (qL o398)) (.node qW (qL qW) (qL qZ))) (.node qW (.node qZ (.node o300 (qL qW) .nil) (qL o430)) (.node qW (qL o366) (qL o494))))) (.node o18 (.node o34 (.node qW (.node o130 (.node (o260 P) (qL qW) .nil) (qL qZ)) (.node o196 (.node o324 (qL o582) .nil) (qL qZ))) (.node qW (.node o164 (.node qZ (qL o550) .nil) (qL o422)) (.node o228 (qL qW) (qL o486)))) (.node qZ (.node o82 (.node qW (.node o276 (qL qW) .nil) (qL qW)) (.node qZ (qL o340) (qL o470))) (.node o114 (.node o180 (.node qW (qL o566) .nil) (qL o438)) (.node qZ (qL o374) (qL o502)))))) (.node o3 (.node qW (.node qZ (.node o62 (.node o126 (.node o256 (qL o514) .nil) (qL o386)) (.node qW (.node o320 (qL o578) .nil) (qL o450))) (.node qW (.node qW (.node o288 (qL o546) .nil) (qL qW)) (.node qW (qL qZ) (qL qW)))) (.node o46 (.node qW (.node o144 (.node qW (qL qZ) .nil) (qL o402)) (.node o208 (qL qW) (qL qW))) (.node qW (.node o176 (.node o304 (qL qW) .nil) (qL o434)) (.node o240 (qL o370) (qL o498))))) (.node o22 (.node o38 (.node o70 (.node o134 (.node o264 (qL qW) .nil) (qL o394)) (.node qZ (qL o328) (qL o458))) (.node o102 (.node o168 (.node o296 (qL o554) .nil) (qL qZ)) (.node qW (qL o362) (qL qZ)))) (.node o54 (.node (o86 P) (.node qW (.node qW (qL o538) .nil) (qL qW)) (.node o216 (qL o344) (qL o474))) (.node qW (.node o184 (.node qW (qL o570) .nil) (qL qW)) (.node o248 (qL qW) (qL o506)))))))))
theorem p2 : ∀ w : World, (fun os => qSeg w 1392 ⟨t2 w.params, 352, {}, ⟨[]⟩, boot_drawn, 676, os⟩ (qThr 64 49 ⟨242, 0, 248, 97⟩)) = fun os => some (Flow.next, ⟨t3 w.params, 588, {}, ⟨[]⟩, boot_drawn, 1035, os⟩, hC, ⟨469, 0, 480, 57⟩) := fun w => by kernel_rfl
noncomputable def e165 := qE P "_law_quotes" 1040 (vR 592)
noncomputable def e166 := qE P "_law_stands" 1046 (vR 597)
noncomputable def e167 := qE P "law" 1063 (vR 604)
noncomputable def o584 : Obj := ⟨(vY SL.s14018661285674007319x4), none, (Data.dict ⟨[(e109 P), (e3 P), (e4 P), (e5 P), (e6 P), (e7 P), (e8 P), (e9 P), (e10 P), (e11 P), (e12 P), (e13 P), (e14 P), (e15 P), (e16 P), (e17 P), (e18 P), (e19 P), (e20 P), (e21 P), (e22 P), (e23 P), (e24 P), (e25 P), (e26 P), (e27 P), (e28 P), (e29 P), (e30 P), (e31 P), (e51 P), (e52 P), (e53 P), (e54 P), (e55 P), (e56 P), (e57 P), (e58 P), (e59 P), (e60 P), (e61 P), (e62 P), (e63 P), (e64 P), (e65 P), (e66 P), (e67 P), (e68 P), (e69 P), (e70 P), (e71 P), (e72 P), (e73 P), (e74 P), (e75 P), (e76 P), (e77 P), (e78 P), (e79 P), (e80 P), (e110 P), (e82 P), (e83 P), (e84 P), (e85 P), (e86 P), (e111 P), (e112 P), (e113 P), (e114 P), (e115 P), (e116 P), (e117 P), (e118 P), (e119 P), (e120 P), (e121 P), (e122 P), (e123 P), (e124 P), (e125 P), (e126 P), (e127 P), (e128 P), (e129 P), (e130 P), (e131 P), (e132 P), (e133 P), (e134 P), (e135 P), (e136 P), (e137 P), (e138 P), (e139 P), (e140 P), (e141 P), (e142 P), (e143 P), (e144 P), (e145 P), (e146 P), (e147 P), (e148 P), (e149 P), (e150 P), (e151 P), (e152 P), (e153 P), (e154 P), (e165 P), (e166 P), (e167 P)]⟩ 113), ⟨[]⟩⟩
noncomputable def o585 := qF (qP [1, 20, 8, 25, 10, 30, 17, 35, 25, 42, 30, 49, 32, 54, 36, 62, 38, 69, 52, 76, 61, 104, 63, 116, 68, 128, 70, 133, 72, 141, 87, 149, 98, 182, 105, 189, 110, 196, 119, 203, 121, 208, 124, 215, 131, 220, 141, 228, 144, 233, 148, 240, 158, 247, 162, 254, 176, 262, 194, 269, 212, 316, 214, 321, 216, 326, 219, 333, 227, 340, 234, 345, 242, 350, 249, 355, 251, 360, 265, 365, 270, 370, 285, 377, 287, 384, 295, 391, 301, 398, 304, 405, 313, 412, 323, 419, 325, 427, 333, 434, 340, 441, 352, 448, 364, 455, 375, 462, 384, 468, 386, 475, 398, 510, 406, 517, 410, 524, 414, 531, 417, 536, 423, 543, 433, 550, 435, 557, 444, 564, 455, 569, 463, 574, 465, 581, 469, 586, 481, 591, 484, 596, 486, 603])
noncomputable def o588 := qC "_law_quotes" "_law_quotes" 113
noncomputable def o589 := qK "_law_quotes" "_law_quotes" 1035 481 2 3 588 true vN vN (vR 590) 1038 1039
noncomputable def o590 := qD "_law_quotes" "_law_quotes" 113 vN "law_pq0947_01" 946 591
noncomputable def o593 := qC "_law_stands" "_law_stands" 114
noncomputable def o594 := qK "_law_stands" "_law_stands" 1041 484 1 3 593 true vN vN (vR 595) 1044 1045
noncomputable def o595 := qD "_law_stands" "_law_stands" 114 vN "law_pq0947_01" 946 596
noncomputable def o598 := qS [(vT "script" 1050), (vT "pen" 1051), (vT "is_text" 1052), (vT "body" 1053), (vT "signs" 1054), (vT "quotes" 1055), (vT "top" 1056), (vT "sub" 1057), (vT "head" 1058), (vT "due" 1059), (vT "way" 1060)]
noncomputable def o600 := qC "law" "law" 115
noncomputable def o601 := qK "law" "law" 1047 486 1 3 598 true (vR 600) (vR 601) (vR 602) 1061 1062
noncomputable def o602 := qD "law" "law" 115 vN "law_pq0947_01" 946 603
noncomputable def t4 : BT := (.node (boot_o_0 P) (.node (boot_o_1 P) (.node (o584 P) (.node (boot_o_7 P) (.node qW (.node o23 (.node o55 (.node o119 (.node o249 (qL o507) .nil) (qL o379)) (.node qW (.node qZ (qL o571) .nil) (qL o443))) (.node o87 (.node qZ (.node o281 (qL o539) .nil) (qL qZ)) (.node qW (qL o345) (qL qW)))) (.node qW (.node qW (.node o135 (.node qW (qL qZ) .nil) (qL o395)) (.node o201 (.node qW (qL o589) .nil) (qL o459))) (.node o91 (.node o169 (.node o297 (qL qW) .nil) (qL o427)) (.node o233 (qL qW) (qL o491))))) (.node qZ (.node o31 (.node o63 (.node o127 (.node o257 (qL qW) .nil) (qL o387)) (.node qZ (.node o321 (qL qW) .nil) (qL o451))) (.node qZ (.node o161 (.node o289 (qL o547) .nil) (qL qZ)) (.node qZ (qL o355) (qL qZ)))) (.node o47 (.node qZ (.node qW (.node qZ (qL o531) .nil) (qL qW)) (.node o209 (.node qZ (qL qZ) .nil) (qL o64))) (.node (o111 P) (.node o177 (.node qW (qL qZ) .nil) (qL qW)) (.node o241 (qL qW) (qL o499)))))) (.node qW (.node o11 (.node o27 (.node qW (.node qZ (.node o253 (qL qW) .nil) (qL qZ)) (.node o189 (.node qW (qL qW) .nil) (qL qZ))) (.node o91 (.node qW (.node qZ (qL qW) .nil) (qL o415)) (.node o221 (qL o351) (qL o479)))) (.node qW (.node o75 (.node qW (.node o269 (qL o527) .nil) (qL qW)) (.node qZ (.node o333 (qL o593) .nil) (qL o463))) (.node qZ (.node o173 (.node o301 (qL o559) .nil) (qL o431)) (.node qZ (qL o367) (qL o495))))) (.node qW (.node o35 (.node o67 (.node qW (.node qW (qL o519) .nil) (qL o391)) (.node o197 (.node qW (qL o583) .nil) (qL o455))) (.node (o99 P) (.node (o165 P) (.node o293 (qL qW) .nil) (qL o423)) (.node qW (qL qZ) (qL o487)))) (.node o51 (.node o83 (.node o149 (.node qW (qL qZ) .nil) (qL o407)) (.node o213 (.node qW (qL o601) .nil) (qL o471))) (.node qW (.node qW (.node o309 (qL qW) .nil) (qL qW)) (.node o245 (qL qW) (qL qW))))))) (.node (boot_o_5 P) (.node (boot_o_9 P) (.node o9 (.node qZ (.node qZ (.node o121 (.node qW (qL qZ) .nil) (qL o381)) (.node o187 (.node o315 (qL qZ) .nil) (qL o445))) (.node o89 (.node o155 (.node o283 (qL o541) .nil) (qL qW)) (.node o219 (qL qZ) (qL o477)))) (.node o41 (.node o73 (.node o64 (.node o267 (qL qW) .nil) (qL qZ)) (.node o203 (.node o331 (qL qW) .nil) (qL qW))) (.node (o105 P) (.node qW (.node (o299 P) (qL o557) .nil) (qL o429)) (.node o235 (qL o365) (qL o493))))) (.node o17 (.node o33 (.node (o65 P) (.node qZ (.node o64 (qL o517) .nil) (qL qW)) (.node qW (.node qZ (qL o581) .nil) (qL qW))) (.node o97 (.node o163 (.node qW (qL qZ) .nil) (qL qW)) (.node o227 (qL o357) (qL qW)))) (.node qW (.node qW (.node o147 (.node o275 (qL o533) .nil) (qL o405)) (.node qW (.node o339 (qL qW) .nil) (qL qW))) (.node o113 (.node qZ (.node o307 (qL o565) .nil) (qL o437)) (.node qW (qL o373) (qL o501)))))) (.node o2 (.node o13 (.node qW (.node o61 (.node o125 (.node o255 (qL o513) .nil) (qL qW)) (.node o191 (.node o319 (qL o577) .nil) (qL qW))) (.node (o93 P) (.node o159 (.node qW (qL o545) .nil) (qL o417)) (.node o223 (qL qW) (qL o481)))) (.node o45 (.node o77 (.node o143 (.node o271 (qL qW) .nil) (qL o401)) (.node qW (.node o335 (qL o595) .nil) (qL o465))) (.node o109 (.node o175 (.node o303 (qL o561) .nil) (qL qZ)) (.node qW (qL qZ) (qL (o497 P)))))) (.node o21 (.node qZ (.node o69 (.node o133 (.node o263 (qL o521) .nil) (qL o393)) (.node qW (.node o327 (qL qZ) .nil) (qL o457))) (.node o101 (.node o167 (.node o295 (qL o553) .nil) (qL qW)) (.node o231 (qL o361) (qL qW)))) (.node o53 (.node o85 (.node o151 (.node o279 (qL qW) .nil) (qL o409)) (.node o215 (qL o343) (qL qW))) (.node o117 (.node o183 (.node o311 (qL o569) .nil) (qL o441)) (.node o247 (qL o377) (qL o505)))))))) (.node (o4 P) (.node (boot_o_4 P) (.node (boot_o_8 P) (.node qZ (.node qW (.node qW (.node o120 (.node o250 (qL qW) .nil) (qL o380)) (.node qZ (.node o314 (qL qW) .nil) (qL o444))) (.node o88 (.node o154 (.node o282 (qL o540) .nil) (qL o412)) (.node qZ (qL qW) (qL qZ)))) (.node o40 (.node qZ (.node qW (.node qZ (qL o524) .nil) (qL qW)) (.node o202 (.node qZ (qL o590) .nil) (qL o460))) (.node o64 (.node o170 (.node o298 (qL qZ) .nil) (qL qW)) (.node o234 (qL qZ) (qL qW))))) (.node o16 (.node qW (.node o64 (.node qW (.node qW (qL qZ) .nil) (qL o388)) (.node o194 (.node qW (qL qZ) .nil) (qL o452))) (.node o96 (.node o162 (.node o290 (qL qW) .nil) (qL o420)) (.node o226 (qL o356) (qL o484)))) (.node o48 (.node o80 (.node qZ (.node o274 (qL o532) .nil) (qL qZ)) (.node o210 (.node o338 (qL o598) .nil) (qL (o468 P)))) (.node o112 (.node qW (.node qZ (qL o564) .nil) (qL o436)) (.node o242 (qL o372) (qL o500)))))) (.node o585 (.node o12 (.node o28 (.node o60 (.node o124 (.node qW (qL o512) .nil) (qL o384)) (.node o190 (.node qZ (qL o576) .nil) (qL o448))) (.node o64 (.node qZ (.node o286 (qL qZ) .nil) (qL o416)) (.node o222 (qL o352) (qL o480)))) (.node qZ (.node o76 (.node o142 (.node o270 (qL o528) .nil) (qL o400)) (.node o206 (.node o334 (qL o594) .nil) (qL o464))) (.node o108 (.node qW (.node o302 (qL o560) .nil) (qL qW)) (.node o238 (qL qW) (qL o496))))) (.node qZ (.node qW (.node o68 (.node o132 (.node o262 (qL o520) .nil) (qL qW)) (.node o198 (.node o326 (qL qW) .nil) (qL qW))) (.node o100 (.node o166 (.node qW (qL o552) .nil) (qL o424)) (.node qZ (qL o360) (qL o488)))) (.node qW (.node o84 (.node o150 (.node qZ (qL o536) .nil) (qL o408)) (.node o214 (.node qZ (qL o602) .nil) (qL o472))) (.node qZ (.node o182 (.node o310 (qL qZ) .nil) (qL qZ)) (.node qW (qL qZ) (qL qZ))))))) (.node (boot_o_6 P) (.node (boot_o_10 P) (.node qW (.node o26 (.node o58 (.node qW (.node qZ (qL o510) .nil) (qL qW)) (.node qW (.node o316 (qL o574) .nil) (qL qW))) (.node o90 (.node o156 (.node qW (qL o542) .nil) (qL o414)) (.node qW (qL o350) (qL qW)))) (.node o42 (.node qW (.node (o140 P) (.node qW (qL o526) .nil) (qL o398)) (.node qW (.node qW (qL qZ) .nil) (qL qZ))) (.node qW (.node qZ (.node o300 (qL qW) .nil) (qL o430)) (.node qW (qL o366) (qL o494))))) (.node o18 (.node o34 (.node qW (.node o130 (.node (o260 P) (qL qW) .nil) (qL qZ)) (.node o196 (.node o324 (qL o582) .nil) (qL qZ))) (.node qW (.node o164 (.node qZ (qL o550) .nil) (qL o422)) (.node o228 (qL qW) (qL o486)))) (.node qZ (.node o82 (.node qW (.node o276 (qL qW) .nil) (qL qW)) (.node qZ (.node o340 (qL o600) .nil) (qL o470))) (.node o114 (.node o180 (.node qW (qL o566) .nil) (qL o438)) (.node qZ (qL o374) (qL o502)))))) (.node o3 (.node qW (.node qZ (.node o62 (.node o126 (.node o256 (qL o514) .nil) (qL o386)) (.node qW (.node o320 (qL o578) .nil) (qL o450))) (.node qW (.node qW (.node o288 (qL o546) .nil) (qL qW)) (.node qW (qL qZ) (qL qW)))) (.node o46 (.node qW (.node o144 (.node qW (qL qZ) .nil) (qL o402)) (.node o208 (.node qW (qL qW) .nil) (qL qW))) (.node qW (.node o176 (.node o304 (qL qW) .nil) (qL o434)) (.node o240 (qL o370) (qL o498))))) (.node o22 (.node o38 (.node o70 (.node o134 (.node o264 (qL qW) .nil) (qL o394)) (.node qZ (.node o328 (qL o588) .nil) (qL o458))) (.node o102 (.node o168 (.node o296 (qL o554) .nil) (qL qZ)) (.node qW (qL o362) (qL qZ)))) (.node o54 (.node (o86 P) (.node qW (.node qW (qL o538) .nil) (qL qW)) (.node o216 (qL o344) (qL o474))) (.node qW (.node o184 (.node qW (qL o570) .nil) (qL qW)) (.node o248 (qL qW) (qL o506)))))))))
theorem p3 : ∀ w : World, (fun os => qSeg w 92 ⟨t3 w.params, 588, {}, ⟨[]⟩, boot_drawn, 1035, os⟩ (qThr 113 3 ⟨469, 0, 480, 57⟩)) = fun os => some (Flow.next, ⟨t4 w.params, 605, {}, ⟨[]⟩, boot_drawn, 1064, os⟩, hC, ⟨486, 0, 500, 78⟩) := fun w => by kernel_rfl
noncomputable def hL : List Obj := [boot_o_0 P, boot_o_1 P, o4 P, o584 P, boot_o_4 P, boot_o_5 P, boot_o_6 P, boot_o_7 P, boot_o_8 P, boot_o_9 P, boot_o_10 P, qW, o585, o2, o3, qW, qZ, o9, qW, o11, o12, o13, qW, qZ, o16, o17, o18, qW, qZ, o21, o22, o23, qW, qZ, o26, o27, o28, qW, qZ, o31, qW, o33, o34, o35, qW, qZ, o38, qW, o40, o41, o42, qW, qZ, o45, o46, o47, o48, qW, qZ, o51, qW, o53, o54, o55, qW, qZ, o58, qW, o60, o61, o62, o63, o64, o65 P, qW, o67, o68, o69, o70, qW, qZ, o73, qW, o75, o76, o77, qW, qZ, o80, qW, o82, o83, o84, o85, o86 P, o87, o88, o89, o90, o91, o64, o93 P, qW, qZ, o96, o97, qW, o99 P, o100, o101, o102, o91, o64, o105 P, qW, qZ, o108, o109, qW, o111 P, o112, o113, o114, qW, qZ, o117, qW, o119, o120, o121, qW, qZ, o124, o125, o126, o127, qW, qZ, o130, qW, o132, o133, o134, o135, qW, o64, o140 P, qW, o142, o143, o144, qW, qZ, o147, qW, o149, o150, o151, qW, qZ, o154, o155, o156, qW, qZ, o159, qW, o161, o162, o163, o164, o165 P, o166, o167, o168, o169, o170, qW, qZ, o173, qW, o175, o176, o177, qW, qZ, o180, qW, o182, o183, o184, qW, qZ, o187, qW, o189, o190, o191, qW, qZ, o194, qW, o196, o197, o198, qW, qZ, o201, o202, o203, qW, qZ, o206, qW, o208, o209, o210, qW, qZ, o213, o214, o215, o216, qW, qZ, o219, qW, o221, o222, o223, qW, qZ, o226, o227, o228, qW, qZ, o231, qW, o233, o234, o235, qW, qZ, o238, qW, o240, o241, o242, qW, qZ, o245, qW, o247, o248, o249, o250, qW, qZ, o253, qW, o255, o256, o257, qW, o64, o260 P, qW, o262, o263, o264, qW, qZ, o267, qW, o269, o270, o271, qW, qZ, o274, o275, o276, qW, qZ, o279, qW, o281, o282, o283, qW, qZ, o286, qW, o288, o289, o290, qW, qZ, o293, qW, o295, o296, o297, o298, o299 P, o300, o301, o302, o303, o304, qW, qZ, o307, qW, o309, o310, o311, qW, qZ, o314, o315, o316, qW, qZ, o319, o320, o321, qW, qZ, o324, qW, o326, o327, o328, qW, qZ, o331, qW, o333, o334, o335, qW, qZ, o338, o339, o340, qW, qZ, o343, o344, o345, qW, qZ, o350, o351, o352, qW, qZ, o355, o356, o357, qW, qZ, o360, o361, o362, qW, qZ, o365, o366, o367, qW, qZ, o370, qW, o372, o373, o374, qW, qZ, o377, qW, o379, o380, o381, qW, qZ, o384, qW, o386, o387, o388, qW, qZ, o391, qW, o393, o394, o395, qW, qZ, o398, qW, o400, o401, o402, qW, qZ, o405, qW, o407, o408, o409, qW, qZ, o412, qW, o414, o415, o416, o417, qW, qZ, o420, qW, o422, o423, o424, qW, qZ, o427, qW, o429, o430, o431, qW, qZ, o434, qW, o436, o437, o438, qW, qZ, o441, qW, o443, o444, o445, qW, qZ, o448, qW, o450, o451, o452, qW, qZ, o455, qW, o457, o458, o459, o460, qW, qZ, o463, o464, o465, qW, o64, o468 P, qW, o470, o471, o472, qW, o474, qW, qZ, o477, qW, o479, o480, o481, qW, qZ, o484, qW, o486, o487, o488, qW, qZ, o491, qW, o493, o494, o495, o496, o497 P, o498, o499, o500, o501, o502, qW, qZ, o505, o506, o507, qW, qZ, o510, qW, o512, o513, o514, qW, qZ, o517, qW, o519, o520, o521, qW, qZ, o524, qW, o526, o527, o528, qW, qZ, o531, o532, o533, qW, qZ, o536, qW, o538, o539, o540, o541, o542, qW, qZ, o545, o546, o547, qW, qZ, o550, qW, o552, o553, o554, qW, qZ, o557, qW, o559, o560, o561, qW, qZ, o564, o565, o566, qW, qZ, o569, o570, o571, qW, qZ, o574, qW, o576, o577, o578, qW, qZ, o581, o582, o583, qW, qZ, o588, o589, o590, qW, qZ, o593, o594, o595, qW, qZ, o598, qW, o600, o601, o602]
end H
end
noncomputable section
namespace H
theorem pre : ∀ w : World, (fun os => PySem.W.Fast.tw15667345088766844465 PySem.W.Fast.tw14364793385576792824 pw w 11 hAnn 12 ⟨boot_heap w.params, ⟨[]⟩, boot_drawn, boot_toks, os⟩ (topStub pw)) =
    fun os => some (⟨hA w.params, ⟨[]⟩, boot_drawn, 187, os⟩, ⟨PySem.W.Fast.tw11892475500146522536 PySem.W.Fast.tw14364793385576792824 hC, hC, ⟨0, 0, 0, 0⟩, [topFrame hQ]⟩) := fun w => by kernel_rfl
theorem blk : ∀ w : World, (fun os => PySem.W.Fast.tw14374325043358763698 PySem.W.Fast.tw14364793385576792824 pw w 11 hAnn 1 1 ⟨hA w.params, ⟨[]⟩, boot_drawn, 187, os⟩ ⟨(PySem.W.Fast.tw1066825118222455980 (behindTheImports pw) hEnv).wrap (fun _ => doneF .next) deadEnd id id, hC, ⟨0, 0, 0, 0⟩, [topFrame hQ]⟩) =
    fun os => some (Flow.next, ⟨absHeap (t0 w.params) 15 {}, ⟨[]⟩, boot_drawn, 187, os⟩, hC, ⟨0, 0, 0, 0⟩) := fun w => by kernel_rfl
theorem fin : ∀ w : World, (fun os => PySem.W.Fast.tw14082659384304107361 PySem.W.Fast.tw14364793385576792824 pw w 11 hAnn 2 ⟨absHeap (t4 w.params) 605 {}, ⟨[]⟩, boot_drawn, 1064, os⟩ ⟨doneF .next, hC, ⟨486, 0, 500, 78⟩, [topFrame hQ]⟩) =
    fun os => some ⟨⟨⟨hL w.params⟩, {}⟩, ⟨[]⟩, boot_drawn, 1064, os⟩ := fun w => by kernel_rfl
theorem lift {w : World} {n b m : Nat} {S S' : OsState → SharedT} {p p' : Pos} (h : (fun os => qSeg w n (S os) (qThr b m p)) = fun os => some (Flow.next, S' os, hC, p')) (os : OsState) :
    segRun treeTable pw w 11 hAnn 1 n (S os).abs (piecesOf ((pw.main.body.drop b).take m) hEnv hC p [topFrame hQ]) = some (.next, (S' os).abs, hC, p') := by
  have := congrFun h os
  unfold qSeg qThr at this
  rw [← PySem.W.Fast.te10110043849684766642, ← PySem.W.Fast.te14364793385576792824, ← PySem.W.Fast.te12563942051412417395] at this
  exact segRun_of this
theorem chain {w : World} {n N b m : Nat} {S S' : OsState → SharedT} {p p' : Pos} (h : (fun os => qSeg w n (S os) (qThr b m p)) = fun os => some (Flow.next, S' os, hC, p')) {os : OsState} {r : Shared}
    (k : topRun treeTable pw w 11 hAnn N (S' os).abs (restOf (pw.main.body.drop (b + m)) hEnv hC p' [topFrame hQ]) = some r) : topRun treeTable pw w 11 hAnn (n + N) (S os).abs (restOf (pw.main.body.drop b) hEnv hC p [topFrame hQ]) = some r := by
  have := piece_app (rest := pw.main.body.drop (b + m)) (lift h os) k
  rwa [← List.drop_drop, List.take_append_drop] at this
noncomputable def H₁ (P : Params) : Heap := ⟨⟨hL P⟩, {}⟩
theorem fin' (w : World) (os : OsState) : topRun treeTable pw w 11 hAnn 2 (SharedT.abs ⟨t4 w.params, 605, {}, ⟨[]⟩, boot_drawn, 1064, os⟩) (restOf (pw.main.body.drop 116) hEnv hC ⟨486, 0, 500, 78⟩ [topFrame hQ]) = some ⟨H₁ w.params, ⟨[]⟩, boot_drawn, 1064, os⟩ := by
  have e : pw.main.body.drop 116 = [] := List.drop_eq_nil_of_le (by decide +kernel)
  rw [e]
  refine piece_nil ?_
  have := congrFun (fin w) os
  rw [← PySem.W.Fast.te14082659384304107361, ← PySem.W.Fast.te14364793385576792824] at this
  exact this
theorem run (w : World) (os : OsState) : topRun treeTable pw w 11 hAnn (12 + (1 + (1147 + (1381 + (1392 + (92 + 2)))))) ⟨boot_heap w.params, ⟨[]⟩, boot_drawn, boot_toks, os⟩ (topStub pw) = some ⟨H₁ w.params, ⟨[]⟩, boot_drawn, 1064, os⟩ := by
  have e1 := congrFun (pre w) os
  rw [← PySem.W.Fast.te15667345088766844465, ← PySem.W.Fast.te14364793385576792824, ← PySem.W.Fast.te11892475500146522536] at e1
  refine go_top e1 ?_
  have e2 := congrFun (blk w) os
  rw [← PySem.W.Fast.te14374325043358763698, ← PySem.W.Fast.te14364793385576792824, ← PySem.W.Fast.te1066825118222455980] at e2
  refine piece_block e2 ?_
  have e0 : behindTheImports pw = pw.main.body.drop 0 := by kernel_rfl
  rw [e0]
  exact chain (S := fun os => ⟨t0 w.params, 15, {}, ⟨[]⟩, boot_drawn, 187, os⟩) (p0 w) (chain (S := fun os => ⟨t1 w.params, 144, {}, ⟨[]⟩, boot_drawn, 379, os⟩) (p1 w) (chain (S := fun os => ⟨t2 w.params, 352, {}, ⟨[]⟩, boot_drawn, 676, os⟩) (p2 w) (chain (S := fun os => ⟨t3 w.params, 588, {}, ⟨[]⟩, boot_drawn, 1035, os⟩) (p3 w) (fin' w os))))
noncomputable def q : Program := { pw with main := { pw.main with body := [stmtAt 115] } }
noncomputable def loose : List Str := (pw.main.scope.names.map (·.1)).filter fun x => x != dName 115
theorem opn : ∀ w : World, (fencedOpening treeTable pw w 8142).map (fun s => (s.heap, s.gens, s.drawn, s.toks)) = some (boot_heap w.params, ⟨[]⟩, boot_drawn, boot_toks) :=
  boot_open (by kernel_rfl) (by kernel_rfl) (fun s => by kernel_rfl)
theorem siz : ∀ w : World, ((boot_heap w.params).isNs mainGlobals && (⟨[]⟩ : Array GenState).size == 0, (boot_heap w.params).objs.size, (boot_heap w.params).nsMap mainGlobals "__annotations__") = (true, 11, hAnn) := fun w => by kernel_rfl
theorem lk1 : ∀ w : World, (staticsOk (importedModules pw.main.body) (boot_heap w.params) (H₁ w.params) && (namesBound pw (H₁ w.params) && laidKept (boot_heap w.params) (H₁ w.params))) = true := fun w => by kernel_rfl
theorem lk2 : ∀ w : World, (fun os => PySem.W.Fast.tw4187177175401517315 q loose (importedModules pw.main.body) (fun _ => true) true ⟨H₁ w.params, ⟨[]⟩, boot_drawn, 1064, os⟩) = fun _ => openGood q loose := fun w => by kernel_rfl
abbrev rw0 := PySem.Challenge.rw_pq0947_01
theorem sa1 : Fast.tw8377067652309620493 pw = true := by kernel_rfl
theorem sa2 : (R.allR (Fast.tw18344453789297297638 pw) fun n => !Fast.tw3471404346716756564 Fast.tw14412699480532031325 n) = true := by kernel_rfl
noncomputable def lkA : Look := { strict := false, foot := none, bare := [] }
theorem sa0 : ({ strict := !R.allR (Fast.tw5923862056798008813 pw.main.body) (Fast.tw3471404346716756564 Fast.tw17691160309236699985), foot := none, bare := R.filterR (Fast.tw13343964577679436407 pw pw.main.body) [{ cps := { toList := [118, 97, 114, 115] } }, { cps := { toList := [100, 105, 114] } }, { cps := { toList := [108, 111, 99, 97, 108, 115] } }] } : Look) = lkA := by kernel_rfl
theorem nr_app (lk : Look) (b : List Stmt) : ∀ a : List Stmt, noRoadLSs lk (a ++ b) = (noRoadLSs lk a && noRoadLSs lk b)
  | [] => rfl
  | s :: r => (congrArg (noRoadLS lk s && ·) (nr_app lk b r)).trans (Bool.and_assoc _ _ _).symm
theorem sc1 : Fast.tw8326940854005059898 lkA (pw.main.body.take 40) = true := by kernel_rfl
theorem sc2 : Fast.tw8326940854005059898 lkA ((pw.main.body.drop 40).take 45) = true := by kernel_rfl
theorem sc3 : Fast.tw8326940854005059898 lkA ((pw.main.body.drop 40).drop 45) = true := by kernel_rfl
theorem sa3 : Fast.tw8326940854005059898 { strict := !R.allR (Fast.tw5923862056798008813 pw.main.body) (Fast.tw3471404346716756564 Fast.tw17691160309236699985), foot := none, bare := R.filterR (Fast.tw13343964577679436407 pw pw.main.body) [{ cps := { toList := [118, 97, 114, 115] } }, { cps := { toList := [100, 105, 114] } }, { cps := { toList := [108, 111, 99, 97, 108, 115] } }] } pw.main.body = true := by
  rw [sa0]
  have h1 := sc1
  have h2 := sc2
  have h3 := sc3
  rw [← Fast.te8326940854005059898] at h1 h2 h3 ⊢
  rw [← List.take_append_drop 40 pw.main.body, nr_app, h1, ← List.take_append_drop 45 (pw.main.body.drop 40), nr_app, h2, h3]
  rfl
theorem sa4 : (Fast.tw17119622794617984870 pw pw.main.body fun x n => Fast.tw17868728402115742887 n) = true := by kernel_rfl
theorem sb1 : Fast.tw12908688711261696721 rw0.prog = true := by
  show Fast.tw12908688711261696721 pw = true
  unfold Fast.tw12908688711261696721
  exact look_both (look_both (look_both (look_both (by kernel_rfl) sa1) sa2) sa3) sa4
theorem sb2 : Fast.tw17960256430627541270 (Fast.tw2368527892694137696 rw0) = true := by
  unfold Fast.tw17960256430627541270 Fast.tw2436336058641802641
  repeat' with_reducible refine look_both ?_ ?_
  exact sb1
  all_goals kernel_rfl
theorem said' : Fast.tw9446332074065402090 rw0 = true := by
  unfold Fast.tw9446332074065402090
  repeat' with_reducible refine look_both ?_ ?_
  exact sb2
  all_goals kernel_rfl
theorem said : OpenLaw.wellSaid rw0 = true := by rw [Fast.te9446332074065402090]; exact said'
theorem left : LeftO pw q loose (fun _ => true) (fun s => s.heap.objs.toList) (fun w => hL w.params) 8142 := by
  refine LeftO.of_pieces (H₁ := H₁) opn siz run (by decide) fun w => funext fun os => ?_
  have h1 := lk1 w
  have h2 := congrFun (lk2 w) os
  rw [← PySem.W.Fast.te4187177175401517315] at h2
  simp only [Bool.and_eq_true] at h1
  refine Prod.ext ?_ (Prod.ext h2 rfl)
  show (staticsOk (importedModules pw.main.body) (boot_heap w.params) (H₁ w.params) && namesBound pw (H₁ w.params) && gensDone _ && laidKept (boot_heap w.params) (H₁ w.params)) = true
  rw [h1.1, h1.2.1, h1.2.2]; rfl
theorem says_of (w : World) (s : Shared) (h : s.heap.objs.toList = hL w.params) : ∀ a o, (H₁ w.params).get? a = some o → s.heap.get? a = some o := by
  intro a o e
  have : s.heap.objs = (H₁ w.params).objs := by rw [← Array.toList_inj]; exact h
  unfold Heap.get? at e ⊢
  rw [this]; exact e
noncomputable def sPos : Stmt → Pos | .FunctionDef _ _ _ _ _ _ _ _ _ p => p | _ => default
noncomputable def theD : DefRec := ⟨dName 115, dArgs 115, dBody 115, dScope 115, sPos (stmtAt 115)⟩
theorem hd1 : defOf q rw0.row.name = some (theD, []) := by kernel_rfl
theorem hd2 : rw0.row.prog.theDef rw0.row.name = some (theD.params, theD.body, theD.scope) := by kernel_rfl
theorem hd3 : kwWritten? theD.params.kwonlyargs theD.params.kw_defaults = some [] := by kernel_rfl
theorem hd4 : (chainsOk q && opensWell rw0.row.prog && (frees rw0.row.toRowW && rw0.row.within.isEmpty)) = true := by kernel_rfl
theorem hd5 : rw0.row.prog.bare := ⟨rfl, rfl, rfl, rfl, rfl, by decide +kernel⟩
theorem hd6 : rw0.row.toRowW.promised := by w_witness2
noncomputable abbrev YP : World → Heap → Prop := fun w h => ∀ a o, (H₁ w.params).get? a = some o → h.get? a = some o
theorem skel (call : WalkO q loose (fun _ _ => True) YP rw0.row.toRowW theD [] (fun f vs => PySem.call f vs)) : rw0.Holds :=
  holds_law said fun k1 => holds_open (q := q) (loose := loose) (Xt := fun _ => true) (XP := fun _ _ => True) (YP := YP) (d := theD) (kwd := []) (N := 8142) left says_of (fun w h h' y k a o e => k _ _ (y a o e)) (fun _ _ => trivial) (fun _ _ _ _ _ => trivial)
    hd1 hd2 hd3 (fun s _ => recFacts_nil rfl) rfl k1 hd4 hd5 hd6 call
end H
end
noncomputable section
variable {X : Stat} {d : Nat} {σ : Sto}
theorem slc_st {value : Expr} {a : Addr} {vs : List Value} {kk : Nat} {l : List PV} {lo hi : Option Int} (hh : Held value) (ha : X.B.get? a = some (listOf vs.toArray kk)) (hz : vs.length ≤ 16777216) (Rl : ∀ h ι k, Reps h ι k l vs) : Slc X d σ value (.stat (.ref a)) lo hi (.ref σ.length) (σ ++ [.lst (cut l lo hi)]) := by
  intro A s ι slice v vl vu Q E g S R P1 P2 hs k
  obtain rfl := R.stat_inv
  · have e := S.base _ _ ha
    have T1 := Step.push S { cls := .type "slice", data := .fields #[vl, vu, .none] }
    have e1 : (s.heap.push { cls := .type "slice", data := .fields #[vl, vu, .none] }).get? a = some (listOf vs.toArray kk) := Heap.get?_push_of_some _ e
    refine subscriptTail_ops (Heap.IsList.typeIs (s := { s with heap := s.heap.push { cls := .type "slice", data := .fields #[vl, vu, .none] } }) (isList_of e1)) list_getitem_lookup
      (wpAny_getItem_list_slice (isList_of e1) (Heap.IsSliceOf.new ..) P1 P2 .none (by simp) ?_ (by rw [sizeLine_eq]; simp; exact hz)) (hs _ _) (hh _)
    have R1 := reps_cut (Rl (s.heap.push { cls := .type "slice", data := .fields #[vl, vu, .none] }) ι σ.length) lo hi
    have T2 := Step.pushList (k := 0) T1.sr R1
    rw [pick_eq]
    refine k _ _ s.toks _ (T1.trans T2) ?_
    have := Rep.ref (h := (s.heap.push { cls := .type "slice", data := .fields #[vl, vu, .none] }).push (listOf (cut vs lo hi).toArray 0)) (ι := fun i => if i = σ.length then (s.heap.push { cls := .type "slice", data := .fields #[vl, vu, .none] }).objs.size else ι i) (k := (σ ++ [Cell.lst (cut l lo hi)]).length) (n := σ.length) (by simp)
    simpa using this
theorem look_zip {ns : List Str} {vs : List Value} (hnd : ns.Nodup) (hl : vs.length = ns.length) : (ns.filterMap fun n => ((ns.zip vs).lookup n).map fun v => (n, v)) = ns.zip vs := by
  have key : ∀ (ns : List Str) (vs : List Value) (f : Str → Option Value), vs.length = ns.length → (∀ (i : Nat) (n : Str) (v : Value), ns[i]? = some n → vs[i]? = some v → f n = some v) → (ns.filterMap fun n => (f n).map fun v => (n, v)) = ns.zip vs := by
    intro ns
    induction ns with
    | nil => intro vs f _ _; rfl
    | cons x ns ih =>
      intro vs f hl hf
      cases vs with
      | nil => cases hl
      | cons v vs =>
        rw [List.filterMap_cons, hf 0 x v rfl rfl, List.zip_cons_cons, ← ih vs f (by simpa using hl) fun i n v a b => hf (i + 1) n v a b]; rfl
  refine key ns vs _ hl ?_
  intro i n v hn hv
  clear key hl
  induction ns generalizing vs i with
  | nil => cases hn
  | cons x ns ih =>
    cases vs with
    | nil => cases hv
    | cons u vs =>
      rw [List.zip_cons_cons, List.lookup_cons]
      cases i with
      | zero => cases hn; cases hv; rw [beq_self_eq_true]
      | succ i =>
        rw [List.getElem?_cons_succ] at hn hv
        have hne : (n == x) = false := beq_eq_false_iff_ne.mpr fun e => (List.nodup_cons.mp hnd).1 (e ▸ List.mem_of_getElem? hn)
        refine rwr hne ?_
        exact ih (List.nodup_cons.mp hnd).2 i hn hv
theorem look_some {ns : List Str} {vs : List Value} (hl : vs.length = ns.length) : ∀ n ∈ ns, ((ns.zip vs).lookup n).isNone = false := by
  induction ns generalizing vs with
  | nil => intro n h; cases h
  | cons x ns ih =>
    cases vs with
    | nil => cases hl
    | cons v vs =>
      intro n h
      rw [List.zip_cons_cons, List.lookup_cons]
      cases e : n == x with
      | true => rfl
      | false =>
        rcases List.mem_cons.mp h with rfl | h
        · rw [beq_self_eq_true] at e; cases e
        · exact ih (by simpa using hl) n h
noncomputable def plainA (a : Arguments) : Bool := a.posonlyargs.isEmpty && (a.kwonlyargs.isEmpty && (a.vararg.isNone && a.kwarg.isNone)) && decide (a.args.map (·.arg)).Nodup
theorem loop_nil {α β γ : Type} {l : List α} (e : l = []) {b : β} {f : α → β → Sem (ForInStep β)} {k : β → Sem γ} {r : Sem γ} (h : k b = r) : (forIn l b f >>= k) = r := by subst e; exact h
theorem bind_plain {nm qn : Str} {as : List Arg} {kd : List (Option Expr)} {dd : List Expr} {bo : FuncBody} {sc : Scope} {g : Addr} {cl : List (Str × Addr)} {kw dc pm : Value} {an : Option Addr} {co ct : Value} {bi : Addr} {vs : List Value} (hnd : (as.map (·.arg)).Nodup) (hl : vs.length = (as.map (·.arg)).length) :
    bindArgs ⟨nm, qn, ⟨[], as, none, [], kd, none, dd⟩, bo, sc, g, cl, .none, kw, dc, pm, an, co, ct, bi⟩ ⟨vs, []⟩ = pure ((as.map (·.arg)).zip vs) := by
  generalize hns : as.map (·.arg) = ns at *
  have hd : ([] : List Value).drop (0 - ns.length) = [] := List.drop_nil
  have hm : ¬ (!((ns.take (ns.length - (([] : List Value).drop (0 - ns.length)).length)).filter fun n => ((ns.zip vs).lookup n).isNone).isEmpty) = true := by
    refine rwr hd ?_; refine rwr (show ns.length - ([] : List Value).length = ns.length from rfl) ?_; rw [List.take_length, List.filter_eq_nil_iff.mpr fun n hn => by refine rwr (look_some hl n hn) ?_; exact Bool.false_ne_true]
    decide
  have hz : (ns.drop (ns.length - (([] : List Value).drop (0 - ns.length)).length)).zip (([] : List Value).drop (0 - ns.length)) = [] := by refine rwr hd ?_; exact List.zip_nil_right
  have hf := look_zip hnd hl
  unfold bindArgs
  show (if (decide (vs.length > (as.map (·.arg)).length) && true) = true then _ else _) = _
  refine rwr hns ?_
  refine (if_neg (by refine rwr hl ?_; simp)).trans ?_
  refine (if_neg hm).trans ?_
  refine loop_nil hz ?_
  exact congrArg (pure (f := Sem)) ((congrArg (List.filterMap _) (List.append_nil ns)).trans hf)
end
noncomputable section
open H (H₁)
noncomputable def dataAt (P : Params) (a : Addr) : Option Data := ((H₁ P).get? a).map (·.data)
noncomputable def mainEs (P : Params) : Array DictEntry := match dataAt P mainGlobals with | some (.dict es _) => es | _ => #[]
noncomputable def ftab : List (Nat × Addr) := [(5, 26), (6, 31), (7, 36), (8, 43), (9, 50), (10, 55), (12, 70), (20, 129), (21, 134), (26, 183), (27, 190), (28, 197), (30, 209), (31, 216), (32, 221), (56, 317), (57, 322), (66, 366), (67, 371), (75, 378), (76, 385), (77, 392), (80, 406), (81, 413), (82, 420), (84, 435), (85, 442), (86, 449), (87, 456), (90, 463), (96, 511), (97, 518), (98, 525), (99, 532), (100, 537), (101, 544), (106, 551), (107, 558), (108, 565), (109, 570), (110, 575), (111, 582), (112, 587), (113, 592), (114, 597), (115, 604)]
noncomputable def pmOf : Option Data → Value | some (.func fd) => fd.pyModule | _ => .none
noncomputable def fdata (nm q : Str) (a : Arguments) (b : List Stmt) (sc : Scope) (df pm : Value) (c : Addr) : Data := .func ⟨nm, q, a, .stmts b, sc, 3, [], df, .none, .none, pm, none, .ref c, .none, 0⟩
noncomputable def strQ : Option Value → Option Str | some (.str q _) => some q | _ => none
noncomputable def codeQ : Option Data → Option Str | some (.fields vs) => strQ (vs[1]?) | _ => none
noncomputable def epM (P : Params) : Nat := match dataAt P mainGlobals with | some (.dict _ n) => n | _ => 0
theorem mainT (P : Params) : dataAt P mainGlobals = some (.dict (mainEs P) (epM P)) := by kernel_rfl
theorem fnT (P : Params) : (ftab.map fun z => dataAt P z.2) = ftab.map fun z => some (fdata (dName z.1) (dName z.1) (dArgs z.1) (dBody z.1) (dScope z.1) .none (pmOf (dataAt P z.2)) (z.2 - 1)) := by kernel_rfl
theorem fnN (P : Params) : (ftab.map fun z => nsFind (mainEs P) (dName z.1)) = ftab.map fun z => some (.ref z.2) := by kernel_rfl
theorem fnC (P : Params) : (ftab.map fun z => codeQ (dataAt P (z.2 - 1))) = ftab.map fun z => some (dName z.1) := by kernel_rfl
theorem fnA : (ftab.all fun z => plainA (dArgs z.1)) = true := by kernel_rfl
noncomputable def ntab : List (Str × Value) := [("len", .builtin "len"), ("range", .type "range"), ("bytes", .type "bytes"), ("dict", .type "dict"), ("int", .type "int"), ("list", .type "list"), ("enumerate", .type "enumerate"), ("abs", .builtin "abs"), ("chr", .builtin "chr"), ("ord", .builtin "ord"), ("sum", .builtin "sum"), ("max", .builtin "max"), ("sorted", .builtin "sorted")]
theorem nmT (P : Params) : (ntab.all fun z => (nsFind (mainEs P) z.1).isNone && (decide (bootBuiltins z.1 = some z.2) && z.1 != "__name__")) = true := by kernel_rfl
noncomputable def atomB (v : Value) (p : PV) : Bool := match v with
  | .int i _ => (match p with | .int j => decide (i = j) | _ => false)
  | .str x _ => (match p with | .str l => decide (x = S l) | _ => false)
  | .bytes b _ => (match p with | .bytes l => decide (b = l.toArray) | _ => false)
  | .bool a => (match p with | .bool b => decide (a = b) | _ => false)
  | _ => false
noncomputable def tupL (P : Params) (a : Addr) : List Value := match (H₁ P).get? a with | some o => (match o.data with | .seq vs _ => vs.toList | _ => []) | none => []
noncomputable def tupC (P : Params) (a : Addr) : Bool := match (H₁ P).get? a with
  | some o => decide (o.cls = .type "tuple") && (o.dict.isNone && (match o.data with | .seq _ m => Nat.beq m 0 | _ => false))
  | none => false
noncomputable def tupB (P : Params) (v : Value) (p : PV) : Bool := match v with
  | .ref a => (match p with | .tup l => tupC P a && (Nat.beq (tupL P a).length l.length && ((tupL P a).zip l).all fun z => atomB z.1 z.2) | _ => false)
  | _ => false
noncomputable def gtab : List (Str × PV) := [("SIGNS", .bytes signs), ("PAD", .int 61), ("LINE_END", .bytes [13, 10]), ("CRLF", .bytes [13, 10]), ("RETURN_octets", .int 13), ("RETURN_quoted", .int 13), ("WHITE", .tup [.int 32, .int 9]), ("BARRED", .bytes barred), ("PLAIN_ENCODING", .str sevenbit), ("OWN_WORDS", .tup (ownW.map .str)),
  ("EQUALS", .int 61), ("BLANK", .int 32), ("TAB", .int 9), ("LEAST_WIDTH", .int 4), ("HEX", .bytes figs), ("MOST_LINE", .int 998), ("_law_units", .tup (units.map .bytes)), ("_law_counts", .tup (counts.map .int)), ("_law_signs", .str (signs.map (·.toNat)))]
theorem glT (P : Params) : (gtab.all fun z => (nsFind (mainEs P) z.1).any fun v => atomB v z.2 || tupB P v z.2) = true := by kernel_rfl
structure Gr (P : Params) (X : Stat) : Prop where
  base : ∀ a o, (H₁ P).get? a = some o → X.B.get? a = some o
  ok : X.OK
section
variable {P : Params} {X : Stat} (G : Gr P X)
include G
theorem Gr.data {a : Addr} {d : Data} (h : dataAt P a = some d) : ∃ o, X.B.get? a = some o ∧ o.data = d := by
  obtain ⟨o, h1, h2⟩ := Option.map_eq_some_iff.mp h
  exact ⟨o, G.base _ _ h1, h2⟩
theorem Gr.mg (x : Str) : X.mg x = nsFind (mainEs P) x := by
  obtain ⟨o, h1, h2⟩ := G.data (mainT P)
  obtain ⟨o', es, ep, h3, h4, _, h5⟩ := G.ok.g
  rw [h3] at h1
  cases h1
  rw [h4] at h2
  cases h2
  exact (h5 x).symm
omit G in
theorem strQ_inv {v : Option Value} {q : Str} (h : strQ v = some q) : ∃ t, v = some (.str q t) := by
  cases v with
  | none => cases h
  | some v => cases v with
    | str y t => cases h; exact ⟨t, rfl⟩
    | _ => cases h
omit G in
theorem codeQ_inv {d : Option Data} {q : Str} (h : codeQ d = some q) : ∃ vs t, d = some (.fields vs) ∧ vs[1]? = some (.str q t) := by
  cases d with
  | none => cases h
  | some d => cases d with
    | fields vs => obtain ⟨t, e⟩ := strQ_inv h; exact ⟨vs, t, rfl, e⟩
    | _ => cases h
theorem Gr.code {c : Addr} {q : Str} (hc : codeQ (dataAt P c) = some q) : X.B.CodeRec (.ref c) q := by
  obtain ⟨vs, t, e, e2⟩ := codeQ_inv hc
  obtain ⟨oc, h3, h4⟩ := G.data e
  exact ⟨c, oc, vs, t, rfl, h3, h4, e2⟩
omit G in
theorem plain_bind {a : Arguments} {nm qn : Str} {bo : FuncBody} {sc : Scope} {g : Addr} {cl : List (Str × Addr)} {kw dc pm : Value} {an : Option Addr} {co ct : Value} {bi : Addr} {vs : List Value} (h : plainA a = true) (hl : vs.length = (a.args.map (·.arg)).length) : bindArgs ⟨nm, qn, a, bo, sc, g, cl, .none, kw, dc, pm, an, co, ct, bi⟩ ⟨vs, []⟩ = pure ((a.args.map (·.arg)).zip vs) := by
  obtain ⟨po, as, va, ko, kd, ka, dd⟩ := a
  have h2 := and_r h
  have h1 := and_l h
  have e1 := nil_ok (and_l h1)
  have e2 := nil_ok (and_l (and_r h1))
  have e3 := Option.isNone_iff_eq_none.mp (and_l (and_r (and_r h1)))
  have e4 := Option.isNone_iff_eq_none.mp (and_r (and_r (and_r h1)))
  clear h h1
  subst e1 e2 e3 e4
  exact bind_plain (of_decide_eq_true h2) hl
theorem Gr.fnOf {f : Addr} {nm q : Str} {a : Arguments} {b : List Stmt} {sc : Scope} {pm : Value} {c : Addr} (h : dataAt P f = some (fdata nm q a b sc .none pm c)) (hc : codeQ (dataAt P c) = some q) (ha : plainA a = true) : Fn X f (a.args.map (·.arg)) [] b sc := by
  obtain ⟨o, h1, h2⟩ := G.data h
  refine ⟨o, _, h1, h2, rfl, rfl, rfl, rfl, rfl, ?_, ?_⟩
  · exact G.code hc
  · intro s vs _ h3 h4
    refine ⟨[], ?_, fun _ _ => ⟨by simp, fun i p v a => by simp at a⟩⟩
    rw [List.append_nil]
    exact .of_eq (plain_bind ha (Nat.le_antisymm h3 h4))
theorem Gr.fn {i : Nat} {f : Addr} (h : (i, f) ∈ ftab) : FnI X i [] := by
  have h1 := List.map_inj_left.mp (fnT P) _ h
  have h2 := List.map_inj_left.mp (fnN P) _ h
  have h3 := List.map_inj_left.mp (fnC P) _ h
  have h4 := List.all_eq_true.mp fnA _ h
  exact ⟨f, by rw [G.mg]; exact h2, G.fnOf h1 h3 h4⟩
theorem Gr.name (j : Nat) {x : Str} {v : Value} (h : ntab[j]? = some (x, v)) : NameIs X x v := by
  have := List.all_eq_true.mp (nmT P) _ (List.mem_of_getElem? h)
  simp only [Bool.and_eq_true, decide_eq_true_eq, Option.isNone_iff_eq_none, bne_iff_ne] at this
  exact .inr ⟨by rw [G.mg]; exact this.1, this.2.1, this.2.2⟩
omit G in
theorem atom_rep {v : Value} {p : PV} (h : atomB v p = true) (hp : Heap) (ι : Nat → Addr) (k : Nat) : Rep hp ι k p v := by
  cases v with
  | int i t => cases p with
    | int j => rw [of_decide_eq_true h]; exact .int _ _
    | _ => exact absurd h Bool.false_ne_true
  | str x t => cases p with
    | str l => rw [of_decide_eq_true h]; exact .str _ _
    | _ => exact absurd h Bool.false_ne_true
  | bytes x t => cases p with
    | bytes l => rw [of_decide_eq_true h]; exact .bytes _ _
    | _ => exact absurd h Bool.false_ne_true
  | bool x => cases p with
    | bool l => rw [of_decide_eq_true h]; exact .bool _
    | _ => exact absurd h Bool.false_ne_true
  | _ => exact absurd h Bool.false_ne_true
omit G in
theorem tup_at {a : Addr} (h : tupC P a = true) : ∃ o, (H₁ P).get? a = some o ∧ o.cls = .type "tuple" ∧ ∃ n, o.data = .seq (tupL P a).toArray n := by
  unfold tupC at h
  unfold tupL
  cases e : (H₁ P).get? a with
  | none => rw [e] at h; cases h
  | some o =>
    rw [e] at h
    obtain ⟨c, dd, dt, sl⟩ := o
    obtain ⟨h1, h⟩ := and_ok h
    obtain ⟨_, h3⟩ := and_ok h
    cases dt with
    | seq vs m => exact ⟨_, rfl, of_decide_eq_true h1, m, rfl⟩
    | _ => cases h3
theorem Gr.val {v : Value} {p : PV} (h : (atomB v p || tupB P v p) = true) (hp : Heap) (ι : Nat → Addr) (k : Nat) (hb : ∀ b o, X.B.get? b = some o → hp.get? b = some o) : Rep hp ι k p v := by
  rcases Bool.or_eq_true_iff.mp h with h | h
  · exact atom_rep h hp ι k
  · cases v with
    | ref a =>
      cases p with
      | tup l =>
        obtain ⟨h1, h⟩ := and_ok h
        obtain ⟨h2, h3⟩ := and_ok h
        obtain ⟨o, e, hc, n, hd⟩ := tup_at h1
        refine .tup (vs := tupL P a) ⟨o, hb _ _ (G.base _ _ e), hc, n, hd⟩ (Nat.eq_of_beq_eq_true h2).symm fun i p v e1 e2 => ?_
        exact atom_rep (List.all_eq_true.mp h3 (v, p) (List.mem_of_getElem? (i := i) (by rw [List.getElem?_zip_eq_some]; exact ⟨e2, e1⟩))) hp ι k
      | _ => exact absurd h Bool.false_ne_true
    | _ => exact absurd h Bool.false_ne_true
theorem Gr.glob (j : Nat) {x : Str} {p : PV} (h : gtab[j]? = some (x, p)) : GlobIs X x p := by
  have := List.all_eq_true.mp (glT P) _ (List.mem_of_getElem? h)
  dsimp only at this
  rw [Option.any_eq_true] at this
  obtain ⟨v, hv, h⟩ := this
  exact ⟨v, by rw [G.mg]; exact hv, G.val h⟩
noncomputable def seqAt (P : Params) (a : Addr) : List Value := match dataAt P a with | some (.seq vs _) => vs.toList | _ => []
noncomputable def tupOb (vs : List Value) : Obj := ⟨.type "tuple", none, .seq ⟨vs⟩ 0, ⟨[]⟩⟩
theorem Gr.fnD {f : Addr} {nm q : Str} {a : Arguments} {b : List Stmt} {sc : Scope} {pm : Value} {c T : Addr} {dfl : List PV} (h : dataAt P f = some (fdata nm q a b sc (.ref T) pm c)) (hc : codeQ (dataAt P c) = some q)
    (hT : (H₁ P).get? T = some (tupOb (seqAt P T))) (hr : (Nat.beq (seqAt P T).length dfl.length && ((seqAt P T).zip dfl).all fun z => atomB z.1 z.2 || tupB P z.1 z.2) = true)
    (hb : ∀ vs : List Value, vs.length ≤ (a.args.map (·.arg)).length → (a.args.map (·.arg)).length ≤ vs.length + dfl.length → ∀ S, peek [(T, tupOb (seqAt P T))] S (bindArgs ⟨nm, q, a, .stmts b, sc, 3, [], .ref T, .none, .none, pm, none, .ref c, .none, 0⟩ ⟨vs, []⟩) = some ((a.args.map (·.arg)).zip (vs ++ (seqAt P T).drop (vs.length + dfl.length - (a.args.map (·.arg)).length)))) : Fn X f (a.args.map (·.arg)) dfl b sc := by
  obtain ⟨o, h1, h2⟩ := G.data h
  obtain ⟨hl, hr⟩ := Bool.and_eq_true_iff.mp hr
  have hl := Nat.eq_of_beq_eq_true hl
  refine ⟨o, _, h1, h2, rfl, rfl, rfl, rfl, rfl, G.code hc, fun s vs hs h3 h4 => ⟨_, kp_binds (K := [(T, tupOb (seqAt P T))]) (fun a o e => ?_) (hb vs h3 h4), fun ι k => ⟨by rw [List.length_drop, List.length_drop, hl], fun i p v e1 e2 => ?_⟩⟩⟩
  · simp only [List.lookup] at e
    split at e
    · rename_i q; cases e; rw [beq_iff_eq.mp q]; exact hs _ _ (G.base _ _ hT)
    · cases e
  · rw [List.getElem?_drop] at e1 e2
    exact G.val (List.all_eq_true.mp hr (v, p) (List.mem_of_getElem? (by rw [List.getElem?_zip_eq_some]; exact ⟨e2, e1⟩))) _ _ _ hs
end
end
noncomputable section
open H (H₁)
variable {P : Params} {X : Stat} (G : Gr P X)
theorem len11 : ((dArgs 11).args.map (·.arg)).length = 2 := by kernel_rfl
theorem len22 : ((dArgs 22).args.map (·.arg)).length = 3 := by kernel_rfl
theorem len83 : ((dArgs 83).args.map (·.arg)).length = 3 := by kernel_rfl
include G
theorem Gr.fn11 : FnI X 11 [.int 76] := ⟨63, by rw [G.mg]; kernel_rfl, G.fnD (nm := dName 11) (q := dName 11) (pm := pmOf (dataAt P 63)) (c := 62) (T := 56) (by kernel_rfl) (by kernel_rfl) (by kernel_rfl) (by kernel_rfl) fun vs h1 h2 S => by
  rw [len11] at *
  match vs, h1, h2 with
  | [], _, h2 => exact absurd h2 (by decide)
  | [a], _, _ => kernel_rfl
  | [a, b], _, _ => kernel_rfl
  | _ :: _ :: _ :: _, h1, _ => simp only [List.length_cons] at h1; lia⟩
theorem Gr.fn22 : FnI X 22 [.int 0, .int (-1)] := ⟨142, by rw [G.mg]; kernel_rfl, G.fnD (nm := dName 22) (q := dName 22) (pm := pmOf (dataAt P 142)) (c := 141) (T := 135) (by kernel_rfl) (by kernel_rfl) (by kernel_rfl) (by kernel_rfl) fun vs h1 h2 S => by
  rw [len22] at *
  match vs, h1, h2 with
  | [], _, h2 => exact absurd h2 (by decide)
  | [a], _, _ => kernel_rfl
  | [a, b], _, _ => kernel_rfl
  | [a, b, c], _, _ => kernel_rfl
  | _ :: _ :: _ :: _ :: _, h1, _ => simp only [List.length_cons] at h1; lia⟩
theorem Gr.fn83 : FnI X 83 [.bool true, .int 76] := ⟨428, by rw [G.mg]; kernel_rfl, G.fnD (nm := dName 83) (q := dName 83) (pm := pmOf (dataAt P 428)) (c := 427) (T := 421) (by kernel_rfl) (by kernel_rfl) (by kernel_rfl) (by kernel_rfl) fun vs h1 h2 S => by
  rw [len83] at *
  match vs, h1, h2 with
  | [], _, h2 => exact absurd h2 (by decide)
  | [a], _, _ => kernel_rfl
  | [a, b], _, _ => kernel_rfl
  | [a, b, c], _, _ => kernel_rfl
  | _ :: _ :: _ :: _ :: _, h1, _ => simp only [List.length_cons] at h1; lia⟩
theorem Gr.fn78 : ∃ f, X.mg "is_plain_quoted" = some (.ref f) ∧ Fn X f (dNs 78) [] (dBody 78) (dScope 78) :=
  ⟨399, by rw [G.mg]; kernel_rfl, G.fnOf (nm := dName 78) (q := dName 78) (a := dArgs 78) (pm := pmOf (dataAt P 399)) (c := 398) (by kernel_rfl) (by kernel_rfl) (by kernel_rfl)⟩
omit G in
noncomputable def fn0 : List Nat := [5, 6, 7, 8, 9, 10, 12, 20, 21, 26, 27, 28, 30, 31, 32, 56, 57, 66, 67, 75, 76, 77, 80, 81, 82, 84, 85, 86, 87, 90, 96, 97, 98, 99, 100, 101, 106, 107, 108, 109, 110, 111, 112, 113, 114, 115]
omit G in
theorem ftab_fst : ftab.map (·.1) = fn0 := rfl
theorem Gr.fnI {i : Nat} (h : i ∈ fn0) : FnI X i [] := by
  rw [← ftab_fst] at h
  obtain ⟨z, hz, rfl⟩ := List.mem_map.mp h
  exact G.fn hz
theorem Gr.mods : HasMods X := by
  obtain ⟨o, h, _⟩ := G.data (a := sysModules) (d := (dataAt P sysModules).getD .plain) (by kernel_rfl)
  exact ⟨o, h⟩
theorem Gr.pf : PF X where
  ok := G.ok
  mods := G.mods
  fn := fun i hi => G.fnI (List.mem_append_left [115] hi)
  fn11 := G.fn11
  fn22 := G.fn22
  fn83 := G.fn83
  fn78 := G.fn78
  len := G.name 0 rfl
  range := G.name 1 rfl
  bytes := G.name 2 rfl
  dict := G.name 3 rfl
  int := G.name 4 rfl
  list := G.name 5 rfl
  enum := G.name 6 rfl
  abs := G.name 7 rfl
  chr := G.name 8 rfl
  ord := G.name 9 rfl
  sum := G.name 10 rfl
  max := G.name 11 rfl
  sorted := G.name 12 rfl
  SIGNS := G.glob 0 rfl
  PAD := G.glob 1 rfl
  LINE_END := G.glob 2 rfl
  CRLF := G.glob 3 rfl
  RETo := G.glob 4 rfl
  RETq := G.glob 5 rfl
  WHITE := G.glob 6 rfl
  BARRED := G.glob 7 rfl
  PLAIN := G.glob 8 rfl
  OWN := G.glob 9 rfl
  EQUALS := G.glob 10 rfl
  BLANK := G.glob 11 rfl
  TAB := G.glob 12 rfl
  LEAST := G.glob 13 rfl
  HEX := G.glob 14 rfl
  MOST := G.glob 15 rfl
  units := G.glob 16 rfl
  counts := G.glob 17 rfl
  lsigns := G.glob 18 rfl
omit G in
noncomputable def kAd : List Addr := [172, 306, 502, 171, 305, 501, 157, 277, 289, 296, 303, 485]
omit G in
noncomputable def frK (P : Params) : Frag := kAd.map fun a => (a, ((H₁ P).get? a).getD ⟨.none, none, .plain, ⟨[]⟩⟩)
omit G in
theorem frIn (P : Params) : (frK P).In (H₁ P) := Frag.in_of (as := kAd) (by kernel_rfl) (by kernel_rfl)
omit G in
theorem frM (P : Params) : (([172, 306, 502] : List Addr).all fun C => makesIn (frK P) C && keepIn (frK P) (.ref C)) = true := by kernel_rfl
omit G in
theorem frA (P : Params) : (([(172, "name"), (172, "raw"), (306, "top"), (306, "sub"), (306, "params"), (502, "kind"), (502, "octets"), (502, "fields")] : List (Addr × Str)).all fun z => attrOK (frK P) z.1 z.2 && setOK (frK P) z.1 z.2) = true := by kernel_rfl
omit G in
theorem len95 : ((mArgs 95 0).args.map (·.arg)).length = 4 := by kernel_rfl
theorem Gr.pk : PK X (frK P) 172 306 502 where
  base := (frIn P).keeps G.base
  nF := .inl (by rw [G.mg]; kernel_rfl)
  nK := .inl (by rw [G.mg]; kernel_rfl)
  nL := .inl (by rw [G.mg]; kernel_rfl)
  mks := fun C h => Bool.and_eq_true_iff.mp (List.all_eq_true.mp (frM P) C h)
  iF := ⟨157, by kernel_rfl, by kernel_rfl, G.fnOf (nm := "__init__") (q := "Field.__init__") (a := mArgs 25 0) (pm := pmOf (dataAt P 157)) (c := 156) (by kernel_rfl) (by kernel_rfl) (by kernel_rfl)⟩
  iK := ⟨277, by kernel_rfl, by kernel_rfl, G.fnOf (nm := "__init__") (q := "Kind.__init__") (a := mArgs 55 0) (pm := pmOf (dataAt P 277)) (c := 276) (by kernel_rfl) (by kernel_rfl) (by kernel_rfl)⟩
  iL := ⟨485, by kernel_rfl, by kernel_rfl, G.fnD (nm := "__init__") (q := "Leaf.__init__") (a := mArgs 95 0) (pm := pmOf (dataAt P 485)) (c := 484) (T := 478) (by kernel_rfl) (by kernel_rfl) (by kernel_rfl) (by kernel_rfl) fun vs h1 h2 S => by
    rw [len95] at *
    match vs, h1, h2 with
    | [], _, h2 => exact absurd h2 (by decide)
    | [a], _, h2 => simp only [List.length_cons, List.length_nil] at h2; lia
    | [a, b], _, h2 => simp only [List.length_cons, List.length_nil] at h2; lia
    | [a, b, c], _, _ => kernel_rfl
    | [a, b, c, d], _, _ => kernel_rfl
    | _ :: _ :: _ :: _ :: _ :: _, h1, _ => simp only [List.length_cons] at h1; lia⟩
  m2 := ⟨289, by kernel_rfl, G.fnOf (nm := "is_multi") (q := "Kind.is_multi") (a := mArgs 55 2) (pm := pmOf (dataAt P 289)) (c := 288) (by kernel_rfl) (by kernel_rfl) (by kernel_rfl)⟩
  m3 := ⟨296, by kernel_rfl, G.fnOf (nm := "is_letter") (q := "Kind.is_letter") (a := mArgs 55 3) (pm := pmOf (dataAt P 296)) (c := 295) (by kernel_rfl) (by kernel_rfl) (by kernel_rfl)⟩
  m4 := ⟨303, by kernel_rfl, G.fnOf (nm := "is_text") (q := "Kind.is_text") (a := mArgs 55 4) (pm := pmOf (dataAt P 303)) (c := 302) (by kernel_rfl) (by kernel_rfl) (by kernel_rfl)⟩
  at_ := fun z h => Bool.and_eq_true_iff.mp (List.all_eq_true.mp (frA P) z h)
end
noncomputable section
open H (H₁)
theorem ints_of {R : WRecords} : ∀ {xs : List WData}, WShape.hasItems R xs .int = true → ∃ l : List Int, xs = l.map .int
  | [], _ => ⟨[], rfl⟩
  | x :: xs, h => by
    obtain ⟨h1, h2⟩ := Bool.and_eq_true_iff.mp h
    obtain ⟨l, rfl⟩ := ints_of h2
    cases x with
    | int i => exact ⟨i :: l, rfl⟩
    | _ => exact absurd h1 Bool.false_ne_true
theorem vals_of {w : World} {h : Heap} : ∀ {l : List Int} {vs : List Value}, WellAll w.params h vs (l.map .int) → vs.length = l.length ∧ ∀ (h' : Heap) (ι : Nat → Addr) (k : Nat), Reps h' ι k (l.map .int) vs
  | [], vs, x => by
    cases x
    exact ⟨rfl, fun _ _ _ => ⟨rfl, fun i p v a => by cases a⟩⟩
  | i :: l, vs, x => by
    obtain ⟨v, vs, rfl, hv, r⟩ := wellAll_cons_inv x
    obtain ⟨t, rfl⟩ := Value.isInt_shape ((encInt pw w).is hv).1
    obtain ⟨h1, h2⟩ := vals_of r
    refine ⟨congrArg (· + 1) h1, fun h' ι k => ⟨(congrArg (· + 1) (h2 h' ι k).1), fun j p v a b => ?_⟩⟩
    cases j with
    | zero => cases a; cases b; exact .int _ _
    | succ j => exact (h2 h' ι k).2 j p v a b
theorem list_inv {P : Params} {h : Heap} {v : Value} {xs : List WData} (x : Well P h v (.list xs)) : ∃ a vs, v = .ref a ∧ h.get? a = some (listOf vs.toArray 0) ∧ WellAll P h vs xs := by
  cases x with | list e r => exact ⟨_, _, rfl, e, r⟩
theorem one_inv {P : Params} {h : Heap} {vs : List Value} {d : WData} (x : WellAll P h vs [d]) : ∃ v, vs = [v] ∧ Well P h v d := by
  obtain ⟨v, vs', rfl, a, b⟩ := wellAll_cons_inv x
  cases b
  exact ⟨v, rfl, a⟩
theorem args_inv {R : WRecords} {args : List WData} (hsh : WShape.hasAll R args [.list .int] = true) : ∃ l : List Int, args = [.list (l.map .int)] := by
  cases args with
  | nil => exact absurd hsh Bool.false_ne_true
  | cons x r =>
    obtain ⟨h1, h2⟩ := Bool.and_eq_true_iff.mp hsh
    cases r with
    | cons y r => exact absurd h2 Bool.false_ne_true
    | nil =>
      cases x with
      | list xs =>
        obtain ⟨l, rfl⟩ := ints_of ((Bool.or_false _).symm.trans h1)
        exact ⟨l, rfl⟩
      | _ => exact absurd h1 Bool.false_ne_true
theorem len_inv {l : List Int} (hp : (match H.rw0.row.toRowW.pre.value H.rw0.row.toRowW.records { args := [.list (l.map .int)] } with | some (.bool true) => true | _ => false) = true) : l.length ≤ 63 := by
  have e : H.rw0.row.toRowW.pre.value H.rw0.row.toRowW.records { args := [.list (l.map .int)] } = some (.bool !(decide ((63 : Int) < ((l.map WData.int).length : Nat)))) := by
    show (match some (WData.bool !(decide ((63 : Int) < ((l.map WData.int).length : Nat)))) with
      | some (WData.bool false) => some (WData.bool false)
      | some (WData.bool true) => some (WData.bool true)
      | _ => none) = _
    cases decide ((63 : Int) < ((l.map WData.int).length : Nat)) <;> rfl
  rw [e, List.length_map] at hp
  by_cases h : (63 : Int) < (l.length : Nat)
  · rw [decide_eq_true h] at hp; exact absurd hp Bool.false_ne_true
  · lia
theorem walked : WalkO H.q H.loose (fun _ _ => True) H.YP H.rw0.row.toRowW H.theD [] (fun f vs => PySem.call f vs) := by
  intro w s₀ s₁ mg mb G0 Y a o pm cd doc dV kV ho hd hcd hdf hmg hgens args vals as hpre hlay hrd hwell hlow
  obtain ⟨hsh, hpre⟩ := Bool.and_eq_true_iff.mp hpre
  obtain ⟨l, rfl⟩ := args_inv hsh
  have hl := len_inv hpre
  obtain ⟨v, rfl, hw⟩ := one_inv hwell
  obtain ⟨la, vs, rfl, hla, hall⟩ := list_inv hw
  clear hwell hw hpre hsh hlay hrd hlow
  obtain ⟨hvl, hvr⟩ := vals_of hall
  let X : Stat := ⟨pw, w, s₁.heap, mg, mb⟩
  have G : Gr w.params X := ⟨Y, ⟨G0.T.g, G0.T.b, G0.T.nolimit, G0.T.builtins⟩⟩
  have hc : ∀ d σ, Cut X d σ true (.stat (.ref la)) none (some ((30 : Nat) : Int)) (.ref σ.length) (σ ++ [.lst ((l.take 30).map .int)]) := fun d σ value hh => by
    have := slc_st (X := X) (d := d) (σ := σ) (lo := none) (hi := some ((30 : Nat) : Int)) (hh rfl) hla (by lia) hvr
    rw [cut_n, ← List.map_take] at this
    exact this
  obtain ⟨r, σ', ⟨f, hf, _, hcall⟩, rfl⟩ := t115 (d := 0) (σ := []) G.pf (G.fn (f := 604) (by decide)) G.pk hc
  have hmg : mg "law" = some (.ref a) := hmg
  have hf : f = .ref a := by
    rcases hf with hf | ⟨hf, _⟩
    · exact Option.some.inj (hf.symm.trans hmg)
    · exact absurd (hf.symm.trans hmg) nofun
  subst hf
  refine hcall callerA s₁ (fun _ => 0) [.ref la] _ _ ⟨rfl, by decide, by decide⟩ ⟨fun _ _ e => e, fun n c e => by simp at e, fun i j h => absurd h (Nat.not_lt_zero _), fun n h => absurd h (Nat.not_lt_zero _)⟩ ⟨rfl, fun i p v a b => ?_⟩ fun v h' tk ι' T R => ?_
  · cases i with
    | zero => cases a; cases b; exact .stat _
    | succ i => simp at a
  · obtain rfl := R.bool_inv
    refine ⟨.inl ⟨_, .bool true, [], rfl, fun _ => rfl, .bool _, ?_, fun _ => ⟨.nil, fun a h => nomatch h⟩⟩, .of_keep T.sr.base, rfl, ?_⟩
    · kernel_rfl
    · exact .of_eq hgens
theorem holds : PySem.Challenge.rw_pq0947_01.Holds := H.skel walked
end
end
end Mine
set_option maxRecDepth 100000 in
theorem PySem.Challenge.cw_pq0947_01_holds : PySem.Challenge.rw_pq0947_01.Holds :=
  Mine.holds
