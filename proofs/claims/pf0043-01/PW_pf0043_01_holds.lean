import PyProof.Rows.All
import Wide.All
import OpenK.AllK
import Wide.FinOn
import KE.RegKTryMore
import Lean
import PySem.Challenge.RW_pf0043_01
open PySem PySem.W PyProof.Rows
set_option Elab.async false
set_option maxRecDepth 100000
set_option maxHeartbeats 8000000
set_option linter.unusedVariables false
set_option compiler.extract_closed false
noncomputable section
namespace Mine
mutual
inductive Rd (P : Addr → Obj → Prop) : Value → PyData → Prop
  | none : Rd P .none .none
  | bool (b : Bool) : Rd P (.bool b) (.bool b)
  | int (i : Int) (t : Tok) : Rd P (.int i t) (.int i)
  | str (x : Str) (t : Tok) : Rd P (.str x t) (.str x)
  | list {a : Addr} {o : Obj} {vs : Array Value} {n : Nat} {ds : List PyData} : P a o → o.cls = .type "list" → o.data = .seq vs n → RdAll P vs.toList ds → Rd P (.ref a) (.list ds)
  | tuple {a : Addr} {o : Obj} {vs : Array Value} {n : Nat} {ds : List PyData} : P a o → o.cls = .type "tuple" → o.data = .seq vs n → RdAll P vs.toList ds → Rd P (.ref a) (.tuple ds)
inductive RdAll (P : Addr → Obj → Prop) : List Value → List PyData → Prop
  | nil : RdAll P [] []
  | cons {v : Value} {vs : List Value} {d : PyData} {ds : List PyData} : Rd P v d → RdAll P vs ds → RdAll P (v :: vs) (d :: ds)
end
mutual
theorem Rd.mono {P P' : Addr → Obj → Prop} (hs : ∀ a o, P a o → P' a o) : ∀ {v : Value} {d : PyData}, Rd P v d → Rd P' v d
  | _, _, .none => .none
  | _, _, .bool b => .bool b
  | _, _, .int i t => .int i t
  | _, _, .str x t => .str x t
  | _, _, .list h c d r => .list (hs _ _ h) c d (RdAll.mono hs r)
  | _, _, .tuple h c d r => .tuple (hs _ _ h) c d (RdAll.mono hs r)
theorem RdAll.mono {P P' : Addr → Obj → Prop} (hs : ∀ a o, P a o → P' a o) : ∀ {vs : List Value} {ds : List PyData}, RdAll P vs ds → RdAll P' vs ds
  | _, _, .nil => .nil
  | _, _, .cons h r => .cons (Rd.mono hs h) (RdAll.mono hs r)
end
mutual
theorem Rd.reads {P : Addr → Obj → Prop} {h : Heap} (hs : ∀ a o, P a o → h.get? a = some o) : ∀ {v : Value} {d : PyData}, Rd P v d → ∃ as, Reads h v d as
  | _, _, .none => ⟨_, .none⟩
  | _, _, .bool b => ⟨_, .bool b⟩
  | _, _, .int i t => ⟨_, .int i t⟩
  | _, _, .str x t => ⟨_, .str x t⟩
  | _, _, .list h c d r => let ⟨_, q⟩ := RdAll.reads hs r; ⟨_, .list (hs _ _ h) c d q⟩
  | _, _, .tuple h c d r => let ⟨_, q⟩ := RdAll.reads hs r; ⟨_, .tuple (hs _ _ h) c d q⟩
theorem RdAll.reads {P : Addr → Obj → Prop} {h : Heap} (hs : ∀ a o, P a o → h.get? a = some o) : ∀ {vs : List Value} {ds : List PyData}, RdAll P vs ds → ∃ as, ReadsAll h vs ds as
  | _, _, .nil => ⟨_, .nil⟩
  | _, _, .cons h r => let ⟨_, p⟩ := Rd.reads hs h; let ⟨_, q⟩ := RdAll.reads hs r; ⟨_, .cons p q⟩
end
section
variable {P : Addr → Obj → Prop}
theorem RdAll.consI {vs : List Value} {d : PyData} {ds : List PyData} (h : RdAll P vs (d :: ds)) : ∃ v ws, vs = v :: ws ∧ Rd P v d ∧ RdAll P ws ds := by
  cases h with
  | cons a b => exact ⟨_, _, rfl, a, b⟩
theorem RdAll.nilI {vs : List Value} (h : RdAll P vs []) : vs = [] := by cases h; rfl
theorem RdAll.ind {C : List Value → List PyData → Prop} (h0 : C [] []) (h1 : ∀ v vs d ds, Rd P v d → RdAll P vs ds → C vs ds → C (v :: vs) (d :: ds)) {ds : List PyData} : ∀ {vs}, RdAll P vs ds → C vs ds := by
  induction ds with
  | nil => intro vs h; rw [h.nilI]; exact h0
  | cons d ds ih =>
    intro vs h
    obtain ⟨v, ws, rfl, a, b⟩ := h.consI
    exact h1 _ _ _ _ a b (ih b)
theorem RdAll.length {vs : List Value} {ds : List PyData} (h : RdAll P vs ds) : vs.length = ds.length :=
  RdAll.ind (C := fun vs ds => vs.length = ds.length) rfl (fun _ _ _ _ _ _ e => congrArg (· + 1) e) h
theorem RdAll.append {vs ws : List Value} {ds es : List PyData} (h : RdAll P vs ds) (k : RdAll P ws es) : RdAll P (vs ++ ws) (ds ++ es) :=
  RdAll.ind (C := fun vs ds => RdAll P (vs ++ ws) (ds ++ es)) k (fun _ _ _ _ a _ e => .cons a e) h
theorem RdAll.get {vs : List Value} {ds : List PyData} (h : RdAll P vs ds) : ∀ {k : Nat} {d : PyData}, ds[k]? = some d → ∃ v, vs[k]? = some v ∧ Rd P v d := by
  refine RdAll.ind (C := fun vs ds => ∀ {k : Nat} {d : PyData}, ds[k]? = some d → ∃ v, vs[k]? = some v ∧ Rd P v d) (fun e => by simp at e) (fun v vs d ds a _ ih k x e => ?_) h
  cases k with
  | zero => cases e; exact ⟨_, rfl, a⟩
  | succ k => exact ih e
theorem RdAll.getV {vs : List Value} {ds : List PyData} (h : RdAll P vs ds) : ∀ {k : Nat} {v : Value}, vs[k]? = some v → ∃ d, ds[k]? = some d ∧ Rd P v d := by
  refine RdAll.ind (C := fun vs ds => ∀ {k : Nat} {v : Value}, vs[k]? = some v → ∃ d, ds[k]? = some d ∧ Rd P v d) (fun e => by simp at e) (fun v vs d ds a _ ih k x e => ?_) h
  cases k with
  | zero => cases e; exact ⟨_, rfl, a⟩
  | succ k => exact ih e
theorem RdAll.drop {vs : List Value} {ds : List PyData} (h : RdAll P vs ds) : ∀ k : Nat, RdAll P (vs.drop k) (ds.drop k) := by
  refine RdAll.ind (C := fun vs ds => ∀ k : Nat, RdAll P (vs.drop k) (ds.drop k)) (fun k => by rw [List.drop_nil, List.drop_nil]; exact .nil) (fun v vs d ds a b ih k => ?_) h
  cases k with
  | zero => exact .cons a b
  | succ k => exact ih k
theorem RdAll.take {vs : List Value} {ds : List PyData} (h : RdAll P vs ds) : ∀ k : Nat, RdAll P (vs.take k) (ds.take k) := by
  refine RdAll.ind (C := fun vs ds => ∀ k : Nat, RdAll P (vs.take k) (ds.take k)) (fun k => by rw [List.take_nil, List.take_nil]; exact .nil) (fun v vs d ds a b ih k => ?_) h
  cases k with
  | zero => exact .nil
  | succ k => exact .cons a (ih k)
theorem RdAll.reverse {vs : List Value} {ds : List PyData} (h : RdAll P vs ds) : RdAll P vs.reverse ds.reverse :=
  RdAll.ind (C := fun vs ds => RdAll P vs.reverse ds.reverse) .nil (fun v vs d ds a b ih => by rw [List.reverse_cons, List.reverse_cons]; exact ih.append (.cons a .nil)) h
theorem RdAll.rep {vs : List Value} {ds : List PyData} (h : RdAll P vs ds) : ∀ k : Nat, RdAll P (List.replicate k vs).flatten (List.replicate k ds).flatten
  | 0 => .nil
  | k + 1 => by simp only [List.replicate_succ, List.flatten_cons]; exact h.append (h.rep k)
theorem RdAll.set {vs : List Value} {ds : List PyData} (h : RdAll P vs ds) {v : Value} {d : PyData} (hd : Rd P v d) : ∀ k : Nat, RdAll P (vs.set k v) (ds.set k d) := by
  refine RdAll.ind (C := fun vs ds => ∀ k : Nat, RdAll P (vs.set k v) (ds.set k d)) (fun k => .nil) (fun v' vs d' ds a b ih k => ?_) h
  cases k with
  | zero => exact .cons hd b
  | succ k => exact .cons a (ih k)
theorem RdAll.dropLast {vs : List Value} {ds : List PyData} (h : RdAll P vs ds) : RdAll P vs.dropLast ds.dropLast := by
  rw [List.dropLast_eq_take, List.dropLast_eq_take, h.length]
  exact h.take _
end
noncomputable def PW (W : Addr → Prop) (h : Heap) (a : Addr) (o : Obj) : Prop := h.get? a = some o ∧ ¬ W a
theorem PW.get {W : Addr → Prop} {h : Heap} : ∀ a o, PW W h a o → h.get? a = some o := fun _ _ x => x.1
noncomputable def Low (W : Addr → Prop) (h : Heap) : Prop := ∀ a, W a → a < h.objs.size
theorem tnA (a b : Nat) : ((a : Int) - ((b : Int) + 1)).toNat = a - (b + 1) := Int.toNat_sub a (b + 1)
theorem tnB (a b : Nat) : ((a : Int) - 1 - (b : Int)).toNat = a - 1 - b := (congrArg Int.toNat (Int.sub_sub a 1 b)).trans ((Int.toNat_sub a (1 + b)).trans (Nat.sub_sub a 1 b).symm)
theorem tnI (a : Nat) : ((a : Int) + 1).toNat = a + 1 := rfl
theorem minC {a b : Nat} (h : 0 < b) : min (a : Int) ((b : Int) - 1) + 1 = ((min a (b - 1) + 1 : Nat) : Int) := by
  cases b with
  | zero => exact absurd h (Nat.lt_irrefl 0)
  | succ c =>
    rw [show ((c + 1 : Nat) : Int) - 1 = (c : Int) from Int.add_sub_cancel (c : Int) 1]
    show min (a : Int) (c : Int) + 1 = ((min a c : Nat) : Int) + 1
    congr 1
    rcases Nat.le_total a c with h | h
    · rw [Nat.min_eq_left h, Int.min_eq_left (Int.ofNat_le.mpr h)]
    · rw [Nat.min_eq_right h, Int.min_eq_right (Int.ofNat_le.mpr h)]
theorem minD {a b : Nat} (h : 0 < b) : min (a + 1) b = min a (b - 1) + 1 := by
  cases b with
  | zero => exact absurd h (Nat.lt_irrefl 0)
  | succ c => exact Nat.add_min_add_right a c 1
theorem bndA {i x b : Nat} (h : i < min x (b - 1)) (hb : b ≤ 4) : 100000 + 101001 * i ≤ 1000000 :=
  Nat.le_trans (Nat.add_le_add_left (Nat.mul_le_mul_left _ (Nat.le_trans (Nat.le_of_lt (Nat.lt_of_lt_of_le h (Nat.min_le_right _ _))) (Nat.le_trans (Nat.sub_le _ _) hb))) _) (by decide)
theorem bndB {x b : Nat} (hb : b ≤ 4) : 100000 + 101001 * min x (b - 1) ≤ 1000000 :=
  Nat.le_trans (Nat.add_le_add_left (Nat.mul_le_mul_left _ (Nat.le_trans (Nat.min_le_right _ _) (Nat.le_trans (Nat.sub_le _ _) hb))) _) (by decide)
theorem lmA {a b c f : Nat} (h : 0 < c) : a + b + c - 1 < max f (a + b + c) := Nat.lt_of_lt_of_le (Nat.sub_lt (Nat.lt_of_lt_of_le h (Nat.le_add_left _ _)) Nat.one_pos) (Nat.le_max_right _ _)
theorem lmB {a b c i : Nat} (h : 0 < c) : a + c - 1 - i < a + b + c := by omega
theorem genP {P : Prop} (h : ∀ G : Prop, (P → G) → G) : P := h P fun x => x
theorem genQE {M : Model} {A : Around} {α : Type} {t : Sem α} {Q : α → Shared → Prop} {E : Value → Shared → Prop} {s : Shared} (h : ∀ (Q' : α → Shared → Prop) (E' : Value → Shared → Prop), (∀ a s', Q a s' → Q' a s') → (∀ e s', E e s' → E' e s') → wpAny M A t Q' E' s) : wpAny M A t Q E s := h Q E (fun _ _ x => x) (fun _ _ x => x)
theorem Keeps.refl (s : Shared) : Keeps s s := ⟨s.heap, s.toks, rfl, fun _ _ e => e⟩
theorem Keeps.trans {s s' s'' : Shared} (x : Keeps s s') (y : Keeps s' s'') : Keeps s s'' := by
  obtain ⟨h, t, rfl, hk⟩ := x
  obtain ⟨h', t', rfl, hk'⟩ := y
  exact ⟨h', t', rfl, fun b o e => hk' b o (hk b o e)⟩
theorem Keeps.heap {s s' : Shared} (x : Keeps s s') : ∀ b o, s.heap.get? b = some o → s'.heap.get? b = some o := by
  obtain ⟨h, t, rfl, hk⟩ := x; exact hk
theorem Keeps.toks (s : Shared) (t : Nat) : Keeps s { s with toks := t } := ⟨s.heap, t, rfl, fun _ _ e => e⟩
theorem Keeps.mk' {s : Shared} {h' : Heap} {t : Nat} (hk : ∀ b o, s.heap.get? b = some o → h'.get? b = some o) : Keeps s { s with heap := h', toks := t } := ⟨h', t, rfl, hk⟩
theorem Keeps.push (s : Shared) (o : Obj) : Keeps s { s with heap := s.heap.push o } := ⟨_, s.toks, rfl, fun _ _ e => Heap.get?_push_of_some _ e⟩
theorem PW.keeps {W : Addr → Prop} {h h' : Heap} (hk : ∀ b o, h.get? b = some o → h'.get? b = some o) : ∀ a o, PW W h a o → PW W h' a o := fun _ _ x => ⟨hk _ _ x.1, x.2⟩
theorem PW.grow {W W' : Addr → Prop} {h h' : Heap} (hk : ∀ b o, ¬ W' b → h.get? b = some o → h'.get? b = some o) (hW : ∀ a, W' a → W a ∨ h.objs.size ≤ a) :
    ∀ a o, PW W h a o → PW W' h' a o := fun a o x =>
  have n : ¬ W' a := fun q => (hW a q).elim x.2 fun q => absurd (Heap.lt_size x.1) (Nat.not_lt.mpr q)
  ⟨hk a o n x.1, n⟩
theorem Rd.keeps {W : Addr → Prop} {h h' : Heap} {v : Value} {d : PyData} (x : Rd (PW W h) v d) (hk : ∀ b o, h.get? b = some o → h'.get? b = some o) : Rd (PW W h') v d := x.mono (PW.keeps hk)
theorem RdAll.keeps {W : Addr → Prop} {h h' : Heap} {v : List Value} {d : List PyData} (x : RdAll (PW W h) v d) (hk : ∀ b o, h.get? b = some o → h'.get? b = some o) : RdAll (PW W h') v d := x.mono (PW.keeps hk)
noncomputable def flat : Nat → PyData → Bool
  | 0, d => (match d with
    | .list _ => false
    | .tuple _ => false
    | _ => true)
  | n + 1, d => (match d with
    | .tuple ds => ds.all (flat n)
    | .list _ => false
    | _ => true)
noncomputable def NT (o : Obj) : Prop := o.cls = .type "tuple" → ∀ vs n, o.data ≠ .seq vs n
theorem Rd.flat_off {W W' : Addr → Prop} {h : Heap} (hW : ∀ a o, W' a → h.get? a = some o → W a ∨ NT o) : ∀ (n : Nat) {v : Value} {d : PyData}, flat n d = true → Rd (PW W h) v d → Rd (PW W' h) v d := by
  intro n
  induction n with
  | zero => intro v d hf r; cases r <;> first | exact .none | exact .bool _ | exact .int _ _ | exact .str _ _ | exact nomatch (show false = true from hf)
  | succ n ih =>
    intro v d hf r
    cases r with
    | none => exact .none
    | bool b => exact .bool b
    | int i t => exact .int i t
    | str x t => exact .str x t
    | list => exact nomatch (show false = true from hf)
    | tuple p c dd q =>
      have all : ∀ {vs : List Value} {ds : List PyData}, (∀ d ∈ ds, flat n d = true) → RdAll (PW W h) vs ds → RdAll (PW W' h) vs ds := by
        intro vs ds hds q
        induction vs generalizing ds with
        | nil => cases q; exact .nil
        | cons v vs hi =>
          cases q with
          | cons h1 h2 => exact .cons (ih (hds _ (.head _)) h1) (hi (fun d hd => hds d (.tail _ hd)) h2)
      refine .tuple ⟨p.1, fun x => (hW _ _ x p.1).elim p.2 fun nt => nt c _ _ dd⟩ c dd (all (List.all_eq_true.mp hf) q)
theorem Rd.isList {W : Addr → Prop} {h : Heap} {v : Value} {ds : List PyData} (x : Rd (PW W h) v (.list ds)) : ∃ a vs, v = .ref a ∧ ¬ W a ∧ h.IsList a vs ∧ RdAll (PW W h) vs.toList ds := by
  cases x with
  | list p c d q => exact ⟨_, _, rfl, p.2, ⟨_, p.1, c, _, d⟩, q⟩
theorem Rd.isTup {W : Addr → Prop} {h : Heap} {v : Value} {ds : List PyData} (x : Rd (PW W h) v (.tuple ds)) : ∃ a vs, v = .ref a ∧ ¬ W a ∧ IsTup h a vs ∧ RdAll (PW W h) vs.toList ds := by
  cases x with
  | tuple p c d q => exact ⟨_, _, rfl, p.2, ⟨_, p.1, c, _, d⟩, q⟩
theorem Rd.ofList {W : Addr → Prop} {h : Heap} {a : Addr} {vs : Array Value} {ds : List PyData} (hl : h.IsList a vs) (hW : ¬ W a) (r : RdAll (PW W h) vs.toList ds) : Rd (PW W h) (.ref a) (.list ds) := by
  obtain ⟨o, ho, hc, n, hd⟩ := hl
  exact .list ⟨ho, hW⟩ hc hd r
theorem Rd.ofTup {W : Addr → Prop} {h : Heap} {a : Addr} {vs : Array Value} {ds : List PyData} (hl : IsTup h a vs) (hW : ¬ W a) (r : RdAll (PW W h) vs.toList ds) : Rd (PW W h) (.ref a) (.tuple ds) := by
  obtain ⟨o, ho, hc, n, hd⟩ := hl
  exact .tuple ⟨ho, hW⟩ hc hd r
noncomputable def Sees (env : Env) (h : Heap) (x : Str) (v : Value) : Prop :=
  (env.kindOf x = some .local ∧ ∃ m, h.Ns env.locals m ∧ m x = some v) ∨
  ((env.kindOf x = some .cell ∨ env.kindOf x = some .free) ∧ ∃ c, env.cells.lookup x = some c ∧ h.IsCell c (some v))
theorem Sees.keeps {env : Env} {h h' : Heap} {x : Str} {v : Value} (q : Sees env h x v) (hk : ∀ b o, h.get? b = some o → h'.get? b = some o) : Sees env h' x v := by
  rcases q with ⟨a, m, b, c⟩ | ⟨a, c, b, d⟩
  · exact .inl ⟨a, m, b.keeps hk, c⟩
  · exact .inr ⟨a, c, b, d.keeps hk⟩
theorem name_sees {M : Model} {A : Around} {E : Value → Shared → Prop} {s : Shared} {env : Env} {x : Str} {pos : Pos} {v : Value} {Q : Value → Shared → Prop} (hk : env.scope.kind = .function)
    (q : Sees env s.heap x v) (h : Q v s) (hd : (x == ("__debug__" : Str)) = false) (hc : (x == ("__classdict__" : Str)) = false) : wpAny M A (eval (.Name x pos) env) Q E s := by
  refine wpAny_Name ?_ hd
  rcases q with ⟨a, m, b, c⟩ | ⟨a | a, c, b, d⟩
  · exact wpAny_loadName_local hk a b c h
  · exact wpAny_loadName_cell hk a b d h
  · exact wpAny_loadName_free hk a b d h hc
inductive SV where
  | d (x : PyData)
  | rng (a b : Int)
noncomputable def SR (W : Addr → Prop) (h : Heap) (v : Value) : SV → Prop
  | .d x => Rd (PW W h) v x
  | .rng a b => ∃ r t u w, v = .ref r ∧ ¬ W r ∧ IsRange h r a b 1 t u w
theorem SR.mono {W W' : Addr → Prop} {h h' : Heap} (hp : ∀ a o, PW W h a o → PW W' h' a o) {v : Value} : ∀ {sv : SV}, SR W h v sv → SR W' h' v sv
  | .d _, x => Rd.mono hp x
  | .rng _ _, ⟨r, t, u, w, e, n, q⟩ => ⟨r, t, u, w, e, (hp r _ ⟨q, n⟩).2, (hp r _ ⟨q, n⟩).1⟩
noncomputable abbrev Sto := List (Str × SV)
noncomputable def Sto.get (ρ : Sto) (x : Str) : Option SV := ρ.lookup x
noncomputable def EnvR (W : Addr → Prop) (env : Env) (ρ : Sto) (h : Heap) : Prop :=
  ∀ x sv, ρ.get x = some sv → x ≠ (".0" : Str) ∧ ∃ v, Sees env h x v ∧ SR W h v sv
theorem EnvR.keeps {W : Addr → Prop} {env : Env} {ρ : Sto} {h h' : Heap} (x : EnvR W env ρ h) (hk : ∀ b o, h.get? b = some o → h'.get? b = some o) : EnvR W env ρ h' := fun y sv e =>
  let ⟨n0, v, a, b⟩ := x y sv e; ⟨n0, v, a.keeps hk, b.mono (PW.keeps hk)⟩
noncomputable def Sto.under (ρ : Sto) (scope : Scope) : Sto := ρ.filter fun p => scope.names.lookup p.1 == some NameKind.free
theorem under_get {scope : Scope} {x : Str} {sv : SV} : ∀ {ρ : Sto}, (ρ.under scope).get x = some sv → ρ.get x = some sv ∧ scope.names.lookup x = some NameKind.free
  | [], h => by simp [Sto.under, Sto.get] at h
  | (n, v) :: r, h => by
    unfold Sto.under Sto.get at h
    rw [List.filter_cons] at h
    unfold Sto.get
    rw [List.lookup_cons]
    by_cases hx : (x == n) = true
    · have e := beq_iff_eq.mp hx
      subst e
      by_cases c : (scope.names.lookup x == some NameKind.free) = true
      · rw [if_pos c, List.lookup_cons, hx] at h
        rw [hx]
        exact ⟨h, beq_iff_eq.mp c⟩
      · exfalso
        rw [if_neg c] at h
        have := (under_get (scope := scope) (x := x) (sv := sv) (ρ := r) h).2
        rw [this] at c
        exact c (by rfl)
    · have hx' : (x == n) = false := by simpa using hx
      rw [hx']
      by_cases c : (scope.names.lookup n == some NameKind.free) = true
      · rw [if_pos c, List.lookup_cons, hx'] at h
        exact under_get (scope := scope) (x := x) (sv := sv) (ρ := r) h
      · rw [if_neg c] at h
        exact under_get (scope := scope) (x := x) (sv := sv) (ρ := r) h
noncomputable def Sm (x : Int) : Prop := Builtin.Int.intBits x ≤ 1048576
noncomputable def itemAt (xs : List PyData) (k : Int) : Option PyData := if 0 ≤ k then xs[k.toNat]? else if 0 ≤ k + xs.length then xs[(k + xs.length).toNat]? else none
noncomputable def rangeD (a b : Int) : List PyData := (List.range (b - a).toNat).map fun (i : Nat) => .int (a + (i : Int))
theorem ff {P : Prop} (h : false = true) : P := nomatch h
noncomputable def nmOf : Expr → Option Str
  | .Name g _ => some g
  | _ => none
theorem nmOf_is {f : Expr} {g : Str} (h : nmOf f = some g) : ∃ p, f = .Name g p := by
  cases f <;> first | (cases h; exact ⟨_, rfl⟩) | cases h
noncomputable def slOf : Expr → Option (Option Expr × Option Expr × Option Expr)
  | .Slice lo hi st _ => some (lo, hi, st)
  | _ => none
theorem slOf_is {e : Expr} {lo hi st : Option Expr} (h : slOf e = some (lo, hi, st)) : ∃ p, e = .Slice lo hi st p := by
  cases e <;> first | (cases h; exact ⟨_, rfl⟩) | cases h
noncomputable def one1 {α : Type} : List α → Option α
  | [] => none
  | x :: r => match r with
    | [] => some x
    | _ :: _ => none
theorem one1_is {α : Type} {l : List α} {x : α} (h : one1 l = some x) : l = [x] := by
  cases l with
  | nil => cases h
  | cons y r =>
    cases r with
    | nil => cases h; rfl
    | cons => cases h
noncomputable def genOf : List Comprehension → Option (Expr × Expr)
  | [] => none
  | g :: r => match r with
    | [] => if g.ifs.isEmpty ∧ g.is_async = 0 then some (g.target, g.iter) else none
    | _ :: _ => none
theorem genOf_is {l : List Comprehension} {t i : Expr} (h : genOf l = some (t, i)) : l = [⟨t, i, [], 0⟩] := by
  cases l with
  | nil => cases h
  | cons g r =>
    cases r with
    | cons => cases h
    | nil =>
      obtain ⟨a, b, c, d⟩ := g
      by_cases e : c.isEmpty = true ∧ d = 0
      · have h : (if c.isEmpty = true ∧ d = 0 then some (a, b) else none) = some (t, i) := h
        rw [if_pos e] at h
        cases h
        obtain ⟨e1, rfl⟩ := e
        rw [List.isEmpty_iff.mp e1]
      · have h : (if c.isEmpty = true ∧ d = 0 then some (a, b) else none) = some (t, i) := h
        rw [if_neg e] at h
        cases h
noncomputable def pairN : List Expr → Option (Str × Str)
  | [] => none
  | a :: r => (one1 r).elim none fun b => (nmOf a).elim none fun x => (nmOf b).elim none fun y => some (x, y)
theorem pairN_is {l : List Expr} {x y : Str} (h : pairN l = some (x, y)) : ∃ px py, l = [.Name x px, .Name y py] := by
  cases l with
  | nil => cases h
  | cons a r =>
    have h : ((one1 r).elim none fun b => (nmOf a).elim none fun x => (nmOf b).elim none fun y => some (x, y)) = some (x, y) := h
    cases e1 : one1 r with
    | none => rw [e1] at h; cases h
    | some b =>
    cases e2 : nmOf a with
    | none => rw [e1, e2] at h; cases h
    | some u =>
    cases e3 : nmOf b with
    | none => rw [e1, e2] at h; have h : (nmOf b).elim none (fun y => some (u, y)) = some (x, y) := h; rw [e3] at h; cases h
    | some v =>
    rw [e1, e2] at h
    have h : (nmOf b).elim none (fun y => some (u, y)) = some (x, y) := h
    rw [e3] at h
    cases h
    obtain ⟨p, rfl⟩ := nmOf_is e2
    obtain ⟨q, rfl⟩ := nmOf_is e3
    rw [one1_is e1]
    exact ⟨_, _, rfl⟩
noncomputable def pairD : PyData → Option (PyData × PyData)
  | .tuple xs => match xs with
    | [] => none
    | a :: r => (one1 r).elim none fun b => some (a, b)
  | _ => none
theorem elim_is {α : Type} {o : Option α} {f : α → Prop} (h : o.elim False f) : ∃ x, o = some x ∧ f x := by
  cases o with
  | none => exact False.elim h
  | some x => exact ⟨x, rfl, h⟩
theorem elimB_is {α : Type} {o : Option α} {f : α → Bool} (h : o.elim false f = true) : ∃ x, o = some x ∧ f x = true := by
  cases o with
  | none => cases h
  | some x => exact ⟨x, rfl, h⟩
noncomputable def intP (d : PyData) (K : Int → Prop) : Prop := match d with
  | .int x => K x
  | _ => False
theorem intP_is {d : PyData} {K : Int → Prop} (h : intP d K) : ∃ x, d = .int x ∧ K x := by
  cases d <;> first | exact False.elim h | exact ⟨_, rfl, h⟩
noncomputable def lstP (d : PyData) (K : List PyData → Prop) : Prop := match d with
  | .list x => K x
  | _ => False
theorem lstP_is {d : PyData} {K : List PyData → Prop} (h : lstP d K) : ∃ x, d = .list x ∧ K x := by
  cases d <;> first | exact False.elim h | exact ⟨_, rfl, h⟩
noncomputable def intsP (a b : PyData) (K : Int → Int → Prop) : Prop := intP a fun x => intP b fun y => K x y
theorem intsP_is {a b : PyData} {K : Int → Int → Prop} (h : intsP a b K) : ∃ x y, a = .int x ∧ b = .int y ∧ K x y := by
  replace h := intP_is h; obtain ⟨x, rfl, h⟩ := h
  replace h := intP_is h; obtain ⟨y, rfl, h⟩ := h
  exact ⟨x, y, rfl, rfl, h⟩
noncomputable def binP (op : Operator) (a b : PyData) (Q : PyData → Prop) : Prop := match op with
  | .Add => (match a with
    | .int x => intP b fun y => Q (.int (x + y))
    | .list xs => lstP b fun ys => xs.length + ys.length ≤ 10000 ∧ Q (.list (xs ++ ys))
    | _ => False)
  | .Sub => intsP a b fun x y => Q (.int (x - y))
  | .Mult => (match a with
    | .int x => intP b fun y => Sm x ∧ Sm y ∧ Q (.int (x * y))
    | .list xs => intP b fun n => xs.length * n.toNat ≤ 10000 ∧ -10000 ≤ n ∧ n ≤ 10000 ∧ Q (.list (List.replicate n.toNat xs).flatten)
    | _ => False)
  | .FloorDiv => intsP a b fun x y => y ≠ 0 ∧ Q (.int (x.fdiv y))
  | .Mod => intsP a b fun x y => y ≠ 0 ∧ Q (.int (x.fmod y))
  | .Pow => intsP a b fun x y => 0 ≤ y ∧ y ≤ 100 ∧ x.natAbs < 1000 ∧ Q (.int (x ^ y.toNat))
  | _ => False
noncomputable def cmpP (op : CmpOp) (a b : PyData) (Q : Bool → Prop) : Prop := match op with
  | .Lt => intsP a b fun x y => Q (decide (x < y))
  | .LtE => intsP a b fun x y => Q (decide (x ≤ y))
  | .Gt => intsP a b fun x y => Q (decide (x > y))
  | .GtE => intsP a b fun x y => Q (decide (x ≥ y))
  | .Eq => a.canLay0 = true ∧ b.canLay0 = true ∧ a.depth ≤ 64 ∧ Q (PyData.eqv a b)
  | .NotEq => a.canLay0 = true ∧ b.canLay0 = true ∧ a.depth ≤ 64 ∧ Q (!PyData.eqv a b)
  | _ => False
noncomputable def truthP (d : PyData) (Q : Bool → Prop) : Prop := match d with
  | .bool b => Q b
  | _ => False
noncomputable def seqP (d : PyData) (K : List PyData → Prop) : Prop := match d with
  | .list xs => xs.length ≤ 10000 ∧ K xs
  | .tuple xs => xs.length ≤ 10000 ∧ K xs
  | _ => False
noncomputable def itemP (a i : PyData) (Q : PyData → Prop) : Prop := match a, i with
  | .list xs, .int k => -10000 ≤ k ∧ k ≤ 10000 ∧ ∃ d, itemAt xs k = some d ∧ Q d
  | .tuple xs, .int k => -10000 ≤ k ∧ k ≤ 10000 ∧ ∃ d, itemAt xs k = some d ∧ Q d
  | _, _ => False
noncomputable def partP (a : PyData) (lo hi st : Option PyData) (Q : PyData → Prop) : Prop := lstP a fun xs => match lo with
  | none => (match hi with
    | none => st.elim False fun z => intP z fun k => xs.length ≤ 10000 ∧ k = -1 ∧ Q (.list xs.reverse)
    | some y => intP y fun k => st = none ∧ xs.length ≤ 10000 ∧ -10000 ≤ k ∧ k ≤ 10000 ∧ Q (.list (xs.take (if 0 ≤ k then k.toNat else (k + xs.length).toNat))))
  | some x => intP x fun k => hi = none ∧ st = none ∧ xs.length ≤ 10000 ∧ 0 ≤ k ∧ k ≤ 10000 ∧ Q (.list (xs.drop k.toNat))
noncomputable def rangeP (ds : List PyData) (K : List PyData → Prop) : Prop := match ds with
  | [.int n] => n ≤ 10000 ∧ -10000 ≤ n ∧ K (rangeD 0 n)
  | [.int a, .int b] => -10000 ≤ a ∧ a ≤ 10000 ∧ b ≤ 10000 ∧ -10000 ≤ b ∧ (rangeD a b).length ≤ 10000 ∧ K (rangeD a b)
  | _ => False
noncomputable def enumP (ds : List PyData) (K : List PyData → Prop) : Prop := match ds with
  | [.list xs] => xs.length ≤ 10000 ∧ K ((rangeD 0 xs.length).zipWith (fun i x => .tuple [i, x]) xs)
  | _ => False
noncomputable def zipP (ds : List PyData) (K : List PyData → Prop) : Prop := match ds with
  | [.list xs, .list ys] => xs.length ≤ 10000 ∧ ys.length ≤ 10000 ∧ K (xs.zipWith (fun x y => .tuple [x, y]) ys)
  | _ => False
noncomputable def mapP (f : PyData → (PyData → Prop) → Prop) : List PyData → (List PyData → Prop) → Prop
  | [], K => K []
  | x :: xs, K => f x fun y => mapP f xs fun ys => K (y :: ys)
noncomputable def bindP (target : Expr) (d : PyData) (ρ : Sto) (K : Sto → Prop) : Prop := match target with
  | .Name x _ => K ((x, .d d) :: ρ)
  | .Tuple es _ _ => (pairN es).elim False fun xy => (pairD d).elim False fun ab => K ((xy.2, .d ab.2) :: (xy.1, .d ab.1) :: ρ)
  | _ => False
noncomputable abbrev Tab := Str → List PyData → PyData → Prop
section
variable (F : Tab) (G : Str → Option PyData)
mutual
noncomputable def evE : Nat → Sto → Expr → (PyData → Prop) → Prop
  | 0, _, _, _ => False
  | n + 1, ρ, e, Q => match e with
    | .Constant c _ _ => match c with
      | .none => Q .none
      | .bool b => Q (.bool b)
      | .int i => Q (.int i)
      | .str x => Q (.str x)
      | _ => False
    | .Name x _ => match ρ.get x with
      | some (.d v) => Q v
      | some (.rng _ _) => False
      | none => match G x with
        | some v => Q v
        | none => False
    | .BinOp l op r _ => evE n ρ l fun a => evE n ρ r fun b => binP op a b Q
    | .UnaryOp op e _ => (match op with
      | .USub => evE n ρ e fun a => intP a fun x => Q (.int (-x))
      | _ => False)
    | .Compare l ops rs _ => (one1 ops).elim False fun op => (one1 rs).elim False fun r => evE n ρ l fun a => evE n ρ r fun b => cmpP op a b fun c => Q (.bool c)
    | .IfExp t b o _ => evB n ρ t fun c => match c with | true => evE n ρ b Q | false => evE n ρ o Q
    | .List es _ => evEs n ρ es fun ds => ds.length ≤ 10000 ∧ Q (.list ds)
    | .Tuple es _ _ => evEs n ρ es fun ds => ds.length ≤ 10000 ∧ Q (.tuple ds)
    | .Subscript v i _ => (match slOf i with
      | some s => evE n ρ v fun a => evO n ρ s.1 fun x => evO n ρ s.2.1 fun y => evO n ρ s.2.2 fun z => partP a x y z Q
      | none => evE n ρ v fun a => evE n ρ i fun i => itemP a i Q)
    | .Call f args kws _ => kws = [] ∧ (nmOf f).elim False fun g => evEs n ρ args fun ds => ∃ d, F g ds d ∧ Q d
    | .ListComp elt gens scope _ => (genOf gens).elim False fun ti => evIt n ρ ti.2 fun items => mapP (fun d Q => bindP ti.1 d (ρ.under scope) fun ρ' => evE n ρ' elt Q) items fun ds => Q (.list ds)
    | _ => False
noncomputable def evEs : Nat → Sto → List Expr → (List PyData → Prop) → Prop
  | 0, _, _, _ => False
  | n + 1, ρ, es, K => match es with
    | [] => K []
    | e :: es => evE n ρ e fun d => evEs n ρ es fun ds => K (d :: ds)
noncomputable def evO : Nat → Sto → Option Expr → (Option PyData → Prop) → Prop
  | 0, _, _, _ => False
  | n + 1, ρ, o, K => match o with
    | none => K none
    | some e => evE n ρ e fun d => K (some d)
noncomputable def evB : Nat → Sto → Expr → (Bool → Prop) → Prop
  | 0, _, _, _ => False
  | n + 1, ρ, e, Q => match e with
    | .UnaryOp op e _ => (match op with
      | .Not => evB n ρ e fun b => Q (!b)
      | _ => False)
    | .BoolOp op es _ => evBs n ρ op es Q
    | .Compare l ops rs _ => (one1 ops).elim False fun op => (one1 rs).elim False fun r => evE n ρ l fun a => evE n ρ r fun b => cmpP op a b Q
    | .Call f args kws p => evE n ρ (.Call f args kws p) fun d => truthP d Q
    | _ => False
noncomputable def evBs : Nat → Sto → BoolOp → List Expr → (Bool → Prop) → Prop
  | 0, _, _, _, _ => False
  | n + 1, ρ, op, es, Q => match es with
    | [] => Q (op == .And)
    | e :: es => evB n ρ e fun b => match op, b with
      | .And, false => Q false
      | .Or, true => Q true
      | .And, true => evBs n ρ .And es Q
      | .Or, false => evBs n ρ .Or es Q
noncomputable def evIt : Nat → Sto → Expr → (List PyData → Prop) → Prop
  | 0, _, _, _ => False
  | n + 1, ρ, e, K => match e with
    | .Call f args kws q => kws = [] ∧ (nmOf f).elim False fun g =>
      if g = "range" then evEs n ρ args fun ds => rangeP ds K else if g = "enumerate" then evEs n ρ args fun ds => enumP ds K
      else if g = "zip" then evEs n ρ args fun ds => zipP ds K else evE n ρ (.Call f args kws q) fun d => seqP d K
    | .Name x p => match ρ.get x with
      | some (.rng a b) => -10000 ≤ a ∧ a ≤ 10000 ∧ b ≤ 10000 ∧ -10000 ≤ b ∧ (rangeD a b).length ≤ 10000 ∧ K (rangeD a b)
      | _ => evE n ρ (.Name x p) fun d => seqP d K
    | e => evE n ρ e fun d => seqP d K
end
end
structure Cx (prog : Program) (hT : Heap) (mg mb : Str → Option Value) : Prop where
  g : hT.Ns mainGlobals mg
  b : hT.Ns builtinsNs mb
  nolimit : hT.NoLimit
  seer : hT.NoSeer
  tree : prog.given.tree = none
noncomputable abbrev Up (hT h : Heap) : Prop := ∀ b o, hT.get? b = some o → h.get? b = some o
structure AIn (k : Nat) (A : Around) : Prop where
  handled : A.handled = none
  depth : A.depth + k + 120 < recursionLimit
  units : A.units + 10 * k + 200 < cLine
  frames : ∃ env l, A.frames = some (env :: l) ∧ env.scope.isGenerator = false ∧ env.scope.isCoroutine = false ∧ env.builtins = builtinsNs ∧ env.globals = mainGlobals
noncomputable def Ret (W : Addr → Prop) (s : Shared) (Q : PyData → Prop) (v : Value) (s' : Shared) : Prop := ∃ d, Q d ∧ Rd (PW W s'.heap) v d ∧ Keeps s s'
theorem Ret.mono {W : Addr → Prop} {s s₁ : Shared} {Q : PyData → Prop} (k : Keeps s s₁) {v : Value} {s' : Shared} (x : Ret W s₁ Q v s') : Ret W s Q v s' := let ⟨d, q, r, kk⟩ := x; ⟨d, q, r, Keeps.trans k kk⟩
structure WOk (W : Addr → Prop) (hT h : Heap) : Prop where
  old : ∀ a, W a → hT.get? a = none
  has : ∀ a, W a → ∃ b o, a ≤ b ∧ h.get? b = some o
theorem WOk.low {W : Addr → Prop} {hT h : Heap} (x : WOk W hT h) : Low W h := fun a q => let ⟨_, _, hb, ho⟩ := x.has a q; Nat.lt_of_le_of_lt hb (Heap.lt_size ho)
theorem WOk.keeps {W : Addr → Prop} {hT h h' : Heap} (x : WOk W hT h) (hk : ∀ b o, h.get? b = some o → h'.get? b = some o) : WOk W hT h' :=
  ⟨x.old, fun a q => let ⟨b, o, hb, ho⟩ := x.has a q; ⟨b, o, hb, hk b o ho⟩⟩
theorem Low.keeps {W : Addr → Prop} {s s' : Shared} (x : Low W s.heap) (k : Keeps s s') (hs : ∀ a, W a → (s.heap.get? a).isSome = true) : Low W s'.heap := fun a h => by
  obtain ⟨o, ho⟩ := Option.isSome_iff_exists.mp (hs a h)
  exact Heap.lt_size (Keeps.heap k a o ho)
section
variable {prog : Program} {w : World} {A : Around} {E : Value → Shared → Prop} {s : Shared} {hT : Heap} {mg mb : Str → Option Value} {W : Addr → Prop} {k : Nat}
theorem pylong (C : Cx prog hT mg mb) (hA : AIn k A) (hU : Up hT s.heap) : PySem.PylongRoom (model prog w) A s := by
  refine genP fun gP hgP => ?_
  obtain ⟨env, l, hf, h1, h2, h3, h4⟩ := hA.frames
  refine hgP ?_
  clear hgP
  refine PySem.PylongRoom.of (C.nolimit.keeps hU) ?_ ?_
  · have := hA.depth
    show A.depth + 100 < recursionLimit
    (first | lia | omega)
  · exact PySem.SeerAt.of (C.seer.keeps hU) C.tree hf h1 h2 h3 h4
theorem sm_mul {x y : Int} (hx : Sm x) (hy : Sm y) : IntMulOk x y := IntMulOk.of_bits (by simpa [Sm] using hx) (by simpa [Sm] using hy)
theorem new_off (hW : Low W s.heap) : ¬ W s.heap.objs.size := fun h => Nat.lt_irrefl _ (hW _ h)
theorem ret_newList {Q : PyData → Prop} {vs : Array Value} {ds : List PyData} (hW : Low W s.heap) (r : RdAll (PW W s.heap) vs.toList ds) (q : Q (.list ds)) :
    Ret W s Q (.ref s.heap.objs.size) { s with heap := s.heap.push { cls := .type "list", data := .seq vs } } :=
  ⟨_, q, Rd.list (o := { cls := .type "list", data := .seq vs }) ⟨Heap.get?_push_size _ rfl, new_off hW⟩ rfl rfl (r.keeps fun _ _ e => Heap.get?_push_of_some _ e), Keeps.push s _⟩
theorem ret_newTuple {Q : PyData → Prop} {vs : Array Value} {ds : List PyData} (hW : Low W s.heap) (r : RdAll (PW W s.heap) vs.toList ds) (q : Q (.tuple ds)) :
    Ret W s Q (.ref s.heap.objs.size) { s with heap := s.heap.push { cls := .type "tuple", data := .seq vs } } :=
  ⟨_, q, Rd.tuple (o := { cls := .type "tuple", data := .seq vs }) ⟨Heap.get?_push_size _ rfl, new_off hW⟩ rfl rfl (r.keeps fun _ _ e => Heap.get?_push_of_some _ e), Keeps.push s _⟩
theorem ret_int {Q : PyData → Prop} {i : Int} {t tk : Nat} (q : Q (.int i)) : Ret W s Q (.int i t) { s with toks := tk } := ⟨_, q, .int i t, Keeps.toks s tk⟩
theorem cat_go {l l2 : Addr} {vs ws : Array Value} {Q : Value → Shared → Prop} (hl : s.heap.IsList l vs) (hl2 : s.heap.IsList l2 ws) (hsz : vs.size + ws.size ≤ sizeLine) (h : Q (.ref s.heap.objs.size) { s with heap := s.heap.push { cls := .type "list", data := .seq (vs ++ ws) } }) :
    wpAny (model prog w) A (binaryOp .Add (.ref l) (.ref l2)) Q E s := by
  obtain ⟨⟨cls, dd, data, sl⟩, ho, hc, n, hd⟩ := hl
  obtain ⟨⟨cls2, dd2, data2, sl2⟩, ho2, hc2, n2, hd2⟩ := hl2
  simp only at hc hd hc2 hd2
  subst hc hd hc2 hd2
  exact concat_meets ⟨_, ho, rfl⟩ ⟨_, ho2, rfl⟩ noFill_list_add seq_list_add PySem.F.slot_list_add PySem.F.entry_list_add (PySem.F.args_list_add_2 _ _) (list_addW l l2 vs ws n n2 dd dd2 sl sl2 hsz) ⟨ho, ho2, h⟩
theorem rep_go {l : Addr} {vs : Array Value} {x : Int} {u : Tok} {Q : Value → Shared → Prop} (hl : s.heap.IsList l vs) (h1 : vs.size * x.toNat ≤ 10000) (h2 : -10000 ≤ x) (h3 : x ≤ 10000) (h : ∀ ws : Array Value, ws.toList = (List.replicate x.toNat vs.toList).flatten → Q (.ref s.heap.objs.size) { s with heap := s.heap.push { cls := .type "list", data := .seq ws } }) :
    wpAny (model prog w) A (binaryOp .Mult (.ref l) (.int x u)) Q E s := by
  obtain ⟨⟨cls, d, data, sl⟩, ho, hcl, k', hd⟩ := hl
  simp only at hcl hd
  subst hcl hd
  refine wpAny_binaryOp_repeat_ref (T := "list") (U := "int") (by decide) ⟨_, ho, rfl⟩ (fun s' => typeIs_int s' x u) noFill_list_mul PySem.F.fills_int_mul PySem.F.slot_int_rmul repeat_list PySem.F.slot_int_index.lookup
    (call_meets PySem.F.slot_int_rmul (typeIs_int s x u) PySem.F.entry_int_rmul (PySem.F.args_int_rmul_2 _ _) (lm_int_rmul_list_any x u l vs k' d sl)
      ⟨ho, rfl, ⟨_, ho, rfl⟩, call_meets PySem.F.slot_list_mul ⟨_, ho, rfl⟩ PySem.F.entry_list_mul (PySem.F.args_list_mul_2 _ _)
        (lm_list_mul_any l vs k' d sl x u (by simp [Builtin.List.listFitsIndex]; (first | lia | omega)) (by (first | lia | omega)) (by simp [Builtin.List.listTooLong, sizeLine]; (first | lia | omega)))
        ⟨ho, h _ ?_⟩⟩)
  rw [listMul_foldl_if]
theorem bin_sound {op : Operator} {va vb : Value} {a b : PyData} {Q : PyData → Prop} (C : Cx prog hT mg mb) (hA : AIn k A) (hU : Up hT s.heap) (hW : Low W s.heap)
    (ra : Rd (PW W s.heap) va a) (rb : Rd (PW W s.heap) vb b) (h : binP op a b Q) : wpAny (model prog w) A (binaryOp op va vb) (Ret W s Q) E s := by
  cases op <;> first | exact False.elim h | skip
  case Sub => replace h := intsP_is h; obtain ⟨x, y, rfl, rfl, h⟩ := h; cases ra; cases rb; exact PyProof.Rows.sub_int' (ret_int h)
  case FloorDiv => replace h := intsP_is h; obtain ⟨x, y, rfl, rfl, h⟩ := h; cases ra; cases rb; exact PyProof.Rows.floordiv_int h.1 (ret_int h.2) (.inr (pylong C hA hU))
  case Mod => replace h := intsP_is h; obtain ⟨x, y, rfl, rfl, h⟩ := h; cases ra; cases rb; exact PyProof.Rows.mod_int' h.1 (ret_int h.2)
  case Pow =>
    replace h := intsP_is h; obtain ⟨x, y, rfl, rfl, h⟩ := h; cases ra; cases rb
    exact PyProof.Rows.pow_int_small h.1 (by (first | lia | omega)) (Nat.lt_trans h.2.2.1 (by decide)) (ret_int h.2.2.2)
  case Add =>
   cases a <;> first | exact False.elim h | skip
   case int => replace h := intP_is h; obtain ⟨y, rfl, h⟩ := h; cases ra; cases rb; exact PySem.wpAny_add_int (ret_int h)
   case list xs =>
    replace h := lstP_is h; obtain ⟨ys, rfl, h⟩ := h
    refine genP fun gP hgP => ?_
    obtain ⟨l, vs, rfl, _, hl, r1⟩ := ra.isList
    refine hgP ?_
    clear hgP
    refine genP fun gP hgP => ?_
    obtain ⟨l2, ws, rfl, _, hl2, r2⟩ := rb.isList
    refine hgP ?_
    clear hgP
    have hsz : vs.size + ws.size ≤ sizeLine := by
      have e1 := r1.length
      have e2 := r2.length
      rw [Array.length_toList] at e1 e2
      rw [sizeLine_eq, e1, e2]
      have := h.1
      (first | lia | omega)
    exact cat_go hl hl2 hsz (ret_newList hW (by rw [Array.toList_append]; exact r1.append r2) h.2)
  case Mult =>
   cases a <;> first | exact False.elim h | skip
   case int => replace h := intP_is h; obtain ⟨y, rfl, h⟩ := h; cases ra; cases rb; exact PyProof.Rows.mul_int (ret_int h.2.2) (sm_mul h.1 h.2.1)
   case list xs =>
    replace h := intP_is h; obtain ⟨x, rfl, h⟩ := h
    refine genP fun gP hgP => ?_
    obtain ⟨l, vs, rfl, _, hl, r1⟩ := ra.isList
    refine hgP ?_
    clear hgP
    cases rb
    rename_i u
    have e1 := r1.length
    rw [Array.length_toList] at e1
    obtain ⟨h1, h2, h3, h4⟩ := h
    exact rep_go hl (by rw [e1]; exact h1) h2 h3 fun ws q => ret_newList hW (by rw [q]; exact r1.rep x.toNat) h4
end
section
variable {prog : Program} {w : World} {A : Around} {E : Value → Shared → Prop} {s : Shared} {hT : Heap} {mg mb : Str → Option Value} {W : Addr → Prop} {k : Nat}
theorem cmp_sound {op : CmpOp} {va vb : Value} {a b : PyData} {Q : Bool → Prop} (hA : AIn k A) (ra : Rd (PW W s.heap) va a) (rb : Rd (PW W s.heap) vb b) (h : cmpP op a b Q) :
    wpAny (model prog w) A (compareOp op va vb) (fun v s' => ∃ c, Q c ∧ v = .bool c ∧ s' = s) E s := by
  have hu := hA.units
  have eqv : ∀ {a b : PyData}, Rd (PW W s.heap) va a → Rd (PW W s.heap) vb b → a.canLay0 = true → b.canLay0 = true → a.depth ≤ 64 → Q (PyData.eqv a b) →
      wpAny (model prog w) A (compareOp .Eq va vb) (fun v s' => ∃ c, Q c ∧ v = .bool c ∧ s' = s) E s := fun ra rb h1 h2 h3 h4 => by
    obtain ⟨_, q1⟩ := ra.reads PW.get
    obtain ⟨_, q2⟩ := rb.reads PW.get
    exact PySem.SeqAt.compareEq_reads q1 q2 h1 h2 (by (first | lia | omega)) ⟨_, h4, rfl, rfl⟩
  have nev : ∀ {a b : PyData}, Rd (PW W s.heap) va a → Rd (PW W s.heap) vb b → a.canLay0 = true → b.canLay0 = true → a.depth ≤ 64 → Q (!PyData.eqv a b) →
      wpAny (model prog w) A (compareOp .NotEq va vb) (fun v s' => ∃ c, Q c ∧ v = .bool c ∧ s' = s) E s := fun ra rb h1 h2 h3 h4 => by
    obtain ⟨_, q1⟩ := ra.reads PW.get
    obtain ⟨_, q2⟩ := rb.reads PW.get
    exact PySem.SeqAt.compareNe_reads q1 q2 h1 h2 (by (first | lia | omega)) ⟨_, h4, rfl, rfl⟩
  cases op <;> first | exact False.elim h | skip
  case Eq => exact eqv ra rb h.1 h.2.1 h.2.2.1 h.2.2.2
  case NotEq => exact nev ra rb h.1 h.2.1 h.2.2.1 h.2.2.2
  case Lt => replace h := intsP_is h; obtain ⟨x, y, rfl, rfl, h⟩ := h; cases ra; cases rb; exact PyProof.Rows.lt_int ⟨_, h, rfl, rfl⟩
  case LtE => replace h := intsP_is h; obtain ⟨x, y, rfl, rfl, h⟩ := h; cases ra; cases rb; exact PyProof.Rows.le_int ⟨_, h, rfl, rfl⟩
  case Gt => replace h := intsP_is h; obtain ⟨x, y, rfl, rfl, h⟩ := h; cases ra; cases rb; exact PyProof.Rows.gt_int ⟨_, h, rfl, rfl⟩
  case GtE => replace h := intsP_is h; obtain ⟨x, y, rfl, rfl, h⟩ := h; cases ra; cases rb; exact PyProof.Rows.ge_int ⟨_, h, rfl, rfl⟩
theorem truth_sound {v : Value} {d : PyData} {Q : Bool → Prop} (r : Rd (PW W s.heap) v d) (h : truthP d Q) :
    wpAny (model prog w) A (truthy v) (fun b s' => Q b ∧ s' = s) E s := by
  cases d <;> first | exact False.elim h | skip
  cases r; exact wpAny_truthy_bool ⟨h, rfl⟩
theorem sub_ops (slice : Expr) (o i : Value) : ∃ ops, subscripted slice false o i = operate ops (getItem o i) := by
  cases slice <;> first | exact ⟨[o, i], rfl⟩ | skip
  rename_i lo hi st p
  cases st
  · exact ⟨[i, o], rfl⟩
  · exact ⟨[o, i], rfl⟩
theorem item_sound {value slice : Expr} {va vi : Value} {a i : PyData} {Q : PyData → Prop} (ra : Rd (PW W s.heap) va a) (ri : Rd (PW W s.heap) vi i) (h : itemP a i Q) :
    wpAny (model prog w) A (subscriptTail value slice va vi) (Ret W s Q) E s := by
  unfold itemP at h
  split at h
  · rename_i xs k
    obtain ⟨l, vs, rfl, _, hl, r⟩ := ra.isList
    cases ri
    rename_i t
    obtain ⟨h1, h2, d, h3, h4⟩ := h
    obtain ⟨ops, hops⟩ := sub_ops slice (.ref l) (.int k t)
    refine tail_any hl.typeIs slot_list_getitem.lookup ?_ hops
    have e := r.length
    rw [Array.length_toList] at e
    unfold itemAt at h3
    split at h3
    · rename_i h0
      obtain ⟨v, hv, rv⟩ := r.get h3
      exact wpAny_getItem_list hl h0 (by (first | lia | omega)) (by rw [← Array.getElem?_toList]; exact hv) ⟨d, h4, rv, Keeps.refl s⟩
    · split at h3
      · rename_i h0 h0'
        obtain ⟨v, hv, rv⟩ := r.get h3
        exact wpAny_getItem_list_neg hl (by (first | lia | omega)) (by rw [e]; (first | lia | omega)) (by (first | lia | omega)) (by rw [← Array.getElem?_toList, e]; exact hv) ⟨d, h4, rv, Keeps.refl s⟩
      · cases h3
  · rename_i xs k
    obtain ⟨l, vs, rfl, _, hl, r⟩ := ra.isTup
    cases ri
    rename_i t
    obtain ⟨h1, h2, d, h3, h4⟩ := h
    obtain ⟨ops, hops⟩ := sub_ops slice (.ref l) (.int k t)
    have e := r.length
    rw [Array.length_toList] at e
    refine tail_any hl.typeIs slot_tuple_getitem.lookup ?_ hops
    unfold itemAt at h3
    split at h3
    · rename_i h0
      obtain ⟨v, hv, rv⟩ := r.get h3
      have hlt : k.toNat < vs.size := by
        have := (List.getElem?_eq_some_iff.mp hv).1
        rwa [Array.length_toList] at this
      exact PyProof.Rows.getItem_tuple (j := k.toNat) hl (by (first | lia | omega)) (by (first | lia | omega)) (by simp [seqIndex?]; (first | lia | omega)) (by rw [← Array.getElem?_toList]; exact hv) ⟨d, h4, rv, Keeps.refl s⟩
    · split at h3
      · rename_i h0 h0'
        obtain ⟨v, hv, rv⟩ := r.get h3
        have hlt : (k + xs.length).toNat < vs.size := by
          have := (List.getElem?_eq_some_iff.mp hv).1
          rwa [Array.length_toList] at this
        exact PyProof.Rows.getItem_tuple (j := (k + xs.length).toNat) hl (by (first | lia | omega)) (by (first | lia | omega)) (by simp [seqIndex?]; (first | lia | omega)) (by rw [← Array.getElem?_toList]; exact hv) ⟨d, h4, rv, Keeps.refl s⟩
      · cases h3
  · exact h.elim
end
noncomputable def OR (W : Addr → Prop) (h : Heap) (v : Value) : Option PyData → Prop
  | none => v = .none
  | some d => Rd (PW W h) v d
theorem OR.keeps {W : Addr → Prop} {h h' : Heap} {v : Value} {o : Option PyData} (x : OR W h v o) (hk : ∀ b o, h.get? b = some o → h'.get? b = some o) : OR W h' v o := by
  cases o with
  | none => exact x
  | some d => exact Rd.keeps x hk
section
variable {prog : Program} {w : World} {A : Around} {E : Value → Shared → Prop} {s : Shared} {hT : Heap} {mg mb : Str → Option Value} {W : Addr → Prop} {k : Nat}
theorem part_go {value slice : Expr} {l sl : Addr} {vs : Array Value} {ds : List PyData} {vl vu vk : Value} {lo hi st : Option Int} {es : List PyData} {Q : PyData → Prop} (hW : Low W s.heap)
    (hl : s.heap.IsList l vs) (r : RdAll (PW W s.heap) vs.toList ds) (hs : s.heap.IsSliceOf sl vl vu vk) (pl : IsPart vl lo) (pu : IsPart vu hi) (pk : IsPart vk st) (h0 : st ≠ some 0)
    (hsz : ds.length ≤ 10000) (q : RdAll (PW W s.heap) (slicePick vs lo hi st).toList es) (hq : Q (.list es)) :
    wpAny (model prog w) A (subscriptTail value slice (.ref l) (.ref sl)) (Ret W s Q) E s := by
  obtain ⟨ops, hops⟩ := sub_ops slice (.ref l) (.ref sl)
  refine tail_any hl.typeIs slot_list_getitem.lookup ?_ hops
  have e := r.length
  rw [Array.length_toList] at e
  exact wpAny_getItem_list_slice hl hs pl pu pk h0 (ret_newList hW q hq) (by rw [sizeLine_eq]; (first | lia | omega))
theorem part_sound {value slice : Expr} {va vl vu vk : Value} {sl : Addr} {a : PyData} {lo hi st : Option PyData} {Q : PyData → Prop} (hW : Low W s.heap)
    (ra : Rd (PW W s.heap) va a) (hs : s.heap.IsSliceOf sl vl vu vk) (rl : OR W s.heap vl lo) (ru : OR W s.heap vu hi) (rk : OR W s.heap vk st) (h : partP a lo hi st Q) :
    wpAny (model prog w) A (subscriptTail value slice va (.ref sl)) (Ret W s Q) E s := by
  replace h := lstP_is h; obtain ⟨xs, rfl, h⟩ := h
  obtain ⟨l, vs, rfl, _, hl, r⟩ := ra.isList
  have e := r.length
  rw [Array.length_toList] at e
  cases lo with
  | none =>
   cases hi with
   | some y =>
    replace h := intP_is h; obtain ⟨x, rfl, rfl, h⟩ := h
    cases rl; cases rk
    have ru' : Rd (PW W s.heap) vu (.int x) := ru
    cases ru'
    rename_i t
    obtain ⟨h1, h2, h3, h4⟩ := h
    refine part_go hW hl r hs .none (.int x t) .none (by simp) h1 ?_ h4
    by_cases h0 : 0 ≤ x
    · rw [if_pos h0]
      obtain ⟨n, rfl⟩ := Int.eq_ofNat_of_zero_le h0
      rw [slicePick_upto']
      simpa using r.take n
    · rw [if_neg h0]
      obtain ⟨n, hn⟩ := Int.eq_ofNat_of_zero_le (show 0 ≤ -x by (first | lia | omega))
      have ex : x = -(n : Int) := by (first | lia | omega)
      subst ex
      have e2 : (-(n : Int) + (xs.length : Int)).toNat = vs.size - n := by (first | exact tnA _ _ | exact tnB _ _ | exact tnI _ | exact Int.toNat_sub _ _ | lia | omega)
      rw [e2, slicePick_butLast vs n (by (first | lia | omega))]
      simpa using r.take (vs.size - n)
   | none =>
    replace h := elim_is h; obtain ⟨z, rfl, h⟩ := h
    replace h := intP_is h; obtain ⟨x, rfl, h⟩ := h
    cases rl; cases ru
    have rk' : Rd (PW W s.heap) vk (.int x) := rk
    cases rk'
    rename_i t
    obtain ⟨h1, h2, h3⟩ := h
    refine part_go hW hl r hs .none .none (.int x t) (by simp; (first | lia | omega)) h1 ?_ h3
    rw [h2, krv_pick]
    simpa using r.reverse
  | some y =>
    replace h := intP_is h; obtain ⟨x, rfl, rfl, rfl, h⟩ := h
    cases ru; cases rk
    have rl' : Rd (PW W s.heap) vl (.int x) := rl
    cases rl'
    rename_i t
    obtain ⟨h1, h2, h3, h4⟩ := h
    refine part_go hW hl r hs (.int x t) .none .none (by simp) h1 ?_ h4
    obtain ⟨n, rfl⟩ := Int.eq_ofNat_of_zero_le h2
    rw [slicePick_from']
    simpa using r.drop n
noncomputable def LoadsG (mg mb : Str → Option Value) (g : Str) (fv : Value) : Prop := mg g = some fv ∨ (mg g = none ∧ mb g = some fv)
noncomputable def Kept (hT : Heap) (fv : Value) : Prop := (∃ id, fv = .builtin id) ∨ (∃ T, fv = .type T) ∨ (∃ a o fd, fv = .ref a ∧ hT.get? a = some o ∧ o.data = .func fd)
noncomputable def CallOk (prog : Program) (w : World) (hT : Heap) (mg mb : Str → Option Value) (k : Nat) (g : Str) (ds : List PyData) (d : PyData) : Prop :=
  ∃ fv, LoadsG mg mb g fv ∧ Kept hT fv ∧ ∀ (A : Around) (s : Shared) (W : Addr → Prop) (vs : List Value) (E : Value → Shared → Prop), AIn k A → Up hT s.heap → WOk W hT s.heap → RdAll (PW W s.heap) vs ds →
    wpAny (model prog w) A (call fv vs) (Ret W s (· = d)) E s
theorem callWith_kept {fv : Value} {pos : Pos} {args : List (Bool × Sem Value)} {Q : Value → Shared → Prop} (hk : Kept hT fv) (hplain : args.any (·.1) = false)
    (h : wpAny (model prog w) A (evalArgs fv true args []) (fun a s₁ => a.kw = [] ∧ Up hT s₁.heap ∧ wpAny (model prog w) A (call fv a.pos) Q E s₁) E s) :
    wpAny (model prog w) A (callWith pos fv [] args []) Q E s := by
  rcases hk with ⟨id, rfl⟩ | ⟨T, rfl⟩ | ⟨a, o, fd, rfl, ho, hd⟩
  · refine PySem.Calls.callWith_builtin hplain (wpAny_mono h (fun a s₁ h₁ => ?_) fun _ _ e => e)
    obtain ⟨e1, _, e2⟩ := h₁
    rw [e1]; exact e2
  · refine PySem.callWith_type hplain (wpAny_mono h (fun a s₁ h₁ => ?_) fun _ _ e => e)
    obtain ⟨e1, _, e2⟩ := h₁
    rw [e1]; exact e2
  · refine PySem.Calls.callWith_function (o := o) (fd := fd) (wpAny_mono h (fun a s₁ h₁ => ?_) fun _ _ e => e)
    obtain ⟨e1, e3, e2⟩ := h₁
    rw [e1]; exact ⟨⟨e3 _ _ ho, hd⟩, e2⟩
theorem global_loads {env : Env} {x : Str} {pos : Pos} {v : Value} {Q : Value → Shared → Prop} (C : Cx prog hT mg mb) (hU : Up hT s.heap) (hk : env.scope.kind = .function) (hg : env.globals = mainGlobals) (hb : env.builtins = builtinsNs)
    (hx : env.kindOf x = some .globalImplicit) (hl : LoadsG mg mb x v) (h : Q v s) (hd : (x == ("__debug__" : Str)) = false) : wpAny (model prog w) A (eval (.Name x pos) env) Q E s := by
  refine PySem.Calls.Name_function_global hk hx ?_ hd
  rcases hl with e | ⟨e1, e2⟩
  · exact PySem.Calls.loadGlobal_global (hg ▸ C.g.keeps hU) e h
  · exact PySem.Calls.loadGlobal_builtin (hg ▸ C.g.keeps hU) e1 (hb ▸ C.b.keeps hU) e2 h
end
structure EnvOk (env : Env) : Prop where
  kind : env.scope.kind = .function
  glob : env.globals = mainGlobals
  bui : env.builtins = builtinsNs
  cover : ∀ x, (env.kindOf x = some .cell ∨ env.kindOf x = some .free) → ∃ c, env.cells.lookup x = some c
  inj : ∀ x y c, env.cells.lookup x = some c → env.cells.lookup y = some c → x = y
noncomputable def Place (env : Env) (h : Heap) (x : Str) (a : Addr) : Prop :=
  (env.kindOf x = some .local ∧ a = env.locals ∧ ∃ m, h.Ns a m) ∨ (env.kindOf x = some .cell ∧ env.cells.lookup x = some a ∧ ∃ v, h.IsCell a v)
theorem ns_not_cell {h : Heap} {a : Addr} {m : Str → Option Value} {v : Option Value} (n : h.Ns a m) (c : h.IsCell a v) : False := by
  obtain ⟨o, es, ep, ho, hd, _⟩ := n
  obtain ⟨o', ho', hd'⟩ := c
  rw [ho] at ho'
  cases ho'
  rw [hd] at hd'
  cases hd'
theorem Place.keeps {env : Env} {h h' : Heap} {x : Str} {a : Addr} (p : Place env h x a) (hk : ∀ b o, h.get? b = some o → h'.get? b = some o) : Place env h' x a := by
  rcases p with ⟨k, e, m, n⟩ | ⟨k, e, v, n⟩
  · exact .inl ⟨k, e, m, n.keeps hk⟩
  · exact .inr ⟨k, e, v, n.keeps hk⟩
theorem Place.nt {env : Env} {h : Heap} {x : Str} {a : Addr} (p : Place env h x a) : ∃ o, h.get? a = some o ∧ NT o := by
  rcases p with ⟨k, e, m, o, es, ep, ho, hd, _⟩ | ⟨k, e, v, o, ho, hd⟩
  · exact ⟨o, ho, fun _ vs n q => by rw [hd] at q; cases q⟩
  · exact ⟨o, ho, fun _ vs n q => by rw [hd] at q; cases q⟩
theorem ns_same {h : Heap} {a : Addr} {m m' : Str → Option Value} (n : h.Ns a m) (n' : h.Ns a m') : m = m' := by
  obtain ⟨o, es, ep, ho, hd, _, hm⟩ := n
  obtain ⟨o', es', ep', ho', hd', _, hm'⟩ := n'
  rw [ho] at ho'; cases ho'
  rw [hd] at hd'; cases hd'
  funext z; rw [← hm z, ← hm' z]
section
variable {M : Model} {A : Around} {E : Value → Shared → Prop} {s : Shared} {env : Env}
theorem store_place {x : Str} {a : Addr} {v : Value} {Q : Unit → Shared → Prop} (hE : EnvOk env) (p : Place env s.heap x a)
    (h : ∀ h' tk, Heap.SameBut a s.heap h' → Sees env h' x v → Place env h' x a → (∀ y u, y ≠ x → Sees env s.heap y u → Sees env h' y u) → (∀ y b, y ≠ x → Place env s.heap y b → Place env h' y b) →
      Q () { s with heap := h', toks := tk }) :
    wpAny M A (storeName env x v) Q E s := by
  rcases p with ⟨hk, rfl, m, hn⟩ | ⟨hk, hc, v0, hv⟩
  · refine wpAny_storeName_local hk hn (fun h' hn' hs => ?_) (by rw [hE.kind]; rfl)
    refine h h' _ hs (.inl ⟨hk, _, hn', by simp⟩) (.inl ⟨hk, rfl, _, hn'⟩) ?_ ?_
    · intro y u hy q
      rcases q with ⟨k, m', n, e⟩ | ⟨k, c, e1, e2⟩
      · have := ns_same n hn
        subst this
        exact .inl ⟨k, _, hn', by simp [hy, e]⟩
      · refine .inr ⟨k, c, e1, e2.sameBut hs ?_⟩
        rintro rfl
        exact ns_not_cell hn e2
    · intro y b hy q
      rcases q with ⟨k, e, m', n⟩ | ⟨k, e1, v', e2⟩
      · exact .inl ⟨k, e, _, e ▸ hn'⟩
      · refine .inr ⟨k, e1, v', e2.sameBut hs ?_⟩
        rintro rfl
        exact ns_not_cell hn e2
  · refine wpAny_storeName_cell hE.kind hk hc hv fun h' hc' hs => ?_
    refine h h' _ hs (.inr ⟨.inl hk, a, hc, hc'⟩) (.inr ⟨hk, hc, _, hc'⟩) ?_ ?_
    · intro y u hy q
      rcases q with ⟨k, m', n, e⟩ | ⟨k, c, e1, e2⟩
      · refine .inl ⟨k, m', n.sameBut hs ?_, e⟩
        rintro rfl
        exact ns_not_cell n hv
      · refine .inr ⟨k, c, e1, e2.sameBut hs ?_⟩
        rintro rfl
        exact hy (hE.inj _ _ _ e1 hc)
    · intro y b hy q
      rcases q with ⟨k, e, m', n⟩ | ⟨k, e1, v', e2⟩
      · refine .inl ⟨k, e, m', n.sameBut hs ?_⟩
        rintro rfl
        exact ns_not_cell n hv
      · refine .inr ⟨k, e1, v', e2.sameBut hs ?_⟩
        rintro rfl
        exact hy (hE.inj _ _ _ e1 hc)
end
noncomputable def cloOf (cells : List (Str × Addr)) : List (Str × NameKind) → List (Str × Addr) → List (Str × Addr)
  | [], acc => acc
  | (n, k) :: r, acc => cloOf cells r (if k = .free then (n, (cells.lookup n).getD 0) :: acc else acc)
theorem closure_is {scope : Scope} {env : Env} (h : ∀ n, (n, NameKind.free) ∈ scope.names → ∃ c, env.cells.lookup n = some c) : closureFor scope env = pure (cloOf env.cells scope.names []) := by
  have key : ∀ (names : List (Str × NameKind)) (acc : List (Str × Addr)), (∀ n, (n, NameKind.free) ∈ names → ∃ c, env.cells.lookup n = some c) →
      (forIn names acc fun x cs => do
        if (x.2 == NameKind.free) = true then do
          let a ← cellOf env x.1
          pure (ForInStep.yield ((x.1, a) :: cs))
        else pure (ForInStep.yield cs) : Sem (List (Str × Addr))) = pure (cloOf env.cells names acc) := by
    intro names
    induction names with
    | nil => intro acc _; rfl
    | cons y r ih =>
      intro acc hy
      obtain ⟨n, k⟩ := y
      rw [List.forIn_cons]
      by_cases hk : k = .free
      · subst hk
        obtain ⟨c, hc⟩ := hy n (.head _)
        have e : cellOf env n = pure c := by unfold cellOf; rw [hc]
        simp only [beq_self_eq_true, if_true, e, pure_bind]
        rw [ih _ fun n hn => hy n (.tail _ hn)]
        simp [cloOf, hc]
      · have : (k == NameKind.free) = false := by simpa using hk
        simp only [this, Bool.false_eq_true, if_false, pure_bind]
        rw [ih _ fun n hn => hy n (.tail _ hn)]
        simp [cloOf, hk]
  have := key scope.names [] h
  unfold closureFor
  simpa using this
theorem clo_lookup {cells : List (Str × Addr)} {x : Str} {c : Addr} : ∀ {names : List (Str × NameKind)} {acc : List (Str × Addr)}, (∀ n, (n, NameKind.free) ∈ names → ∃ c, cells.lookup n = some c) →
    (cloOf cells names acc).lookup x = some c → cells.lookup x = some c ∨ acc.lookup x = some c
  | [], _, _, h => .inr h
  | (n, k) :: r, acc, hn, h => by
    unfold cloOf at h
    rcases clo_lookup (fun m hm => hn m (.tail _ hm)) h with q | q
    · exact .inl q
    · by_cases hk : k = .free
      · subst hk
        rw [if_pos rfl, List.lookup_cons] at q
        by_cases e : (x == n) = true
        · rw [e] at q
          cases q
          obtain ⟨c', hc'⟩ := hn n (.head _)
          rw [beq_iff_eq.mp e, hc']
          exact .inl rfl
        · have e' : (x == n) = false := by simpa using e
          rw [e'] at q
          exact .inr q
      · rw [if_neg hk] at q
        exact .inr q
theorem clo_some {cells : List (Str × Addr)} {x : Str} : ∀ {names : List (Str × NameKind)} {acc : List (Str × Addr)}, ((x, NameKind.free) ∈ names ∨ (acc.lookup x).isSome = true) → ((cloOf cells names acc).lookup x).isSome = true
  | [], _, h => by
    rcases h with h | h
    · cases h
    · exact h
  | (n, k) :: r, acc, h => by
    unfold cloOf
    refine clo_some ?_
    rcases h with h | h
    · rcases List.mem_cons.mp h with e | h
      · cases e
        right
        rw [if_pos rfl, List.lookup_cons]
        simp
      · exact .inl h
    · right
      by_cases hk : k = .free
      · rw [if_pos hk, List.lookup_cons]
        by_cases e : (x == n) = true
        · rw [e]; rfl
        · have e' : (x == n) = false := by simpa using e
          rw [e']; exact h
      · rw [if_neg hk]; exact h
theorem cellsFrom_acc : ∀ (names : List (Str × NameKind)) (n : Nat) (acc : List (Str × Addr)), cellsFrom n names acc = cellsFrom n names [] ++ acc
  | [], _, _ => rfl
  | (x, k) :: r, n, acc => by
    unfold cellsFrom
    by_cases hk : (k == NameKind.cell) = true
    · rw [if_pos hk, if_pos hk, cellsFrom_acc r (n + 1) ((x, n) :: acc), cellsFrom_acc r (n + 1) [(x, n)]]
      simp
    · rw [if_neg hk, if_neg hk]
      exact cellsFrom_acc r n acc
theorem cellsFrom_mem : ∀ (names : List (Str × NameKind)) (n : Nat) (x : Str) (c : Addr), (x, c) ∈ cellsFrom n names [] → (x, NameKind.cell) ∈ names
  | [], _, _, _, h => by cases h
  | (y, k) :: r, n, x, c, h => by
    unfold cellsFrom at h
    by_cases hk : (k == NameKind.cell) = true
    · rw [if_pos hk, cellsFrom_acc] at h
      rcases List.mem_append.mp h with h | h
      · exact .tail _ (cellsFrom_mem r _ x c h)
      · rcases List.mem_singleton.mp h with e
        cases e
        rw [beq_iff_eq.mp hk]; exact .head _
    · rw [if_neg hk] at h
      exact .tail _ (cellsFrom_mem r _ x c h)
section
variable {M : Model} {A : Around} {E : Value → Shared → Prop} {s : Shared} {env : Env}
theorem newComp {scope : Scope} {cl : List (Str × Addr)} {Q : Env → Shared → Prop}
    (h : ∀ own h', own = cellsFrom (s.heap.objs.size + 1) scope.names [] → h'.Ns s.heap.objs.size (fun _ => none) → (∀ n c, (n, c) ∈ own → h'.IsCell c none ∧ s.heap.objs.size + 1 ≤ c) → own.Pairwise (fun x y => x.2 ≠ y.2) →
      (∀ b o, s.heap.get? b = some o → h'.get? b = some o) →
      Q { scope, locals := s.heap.objs.size, globals := env.globals, cells := own ++ cl, qual := env.qual, func := none, code := env.code, frame := env.frame, builtins := env.builtins } { s with heap := h' }) :
    wpAny M A (newFunctionEnv scope env.globals cl [] env.qual none .none (some env)) Q E s := by
  simp only [newFunctionEnv, Option.isSome_some, if_true]
  refine wpAny_bind (wpAny_alloc ?_)
  refine wpAny_bind (wpAny_layCells _ (fun name kind cells => by cases hkc : kind == NameKind.cell <;> simp [hkc]) _ _ _ _ ?_)
  have ok := cellsFrom_ok scope.names (s.heap.push { cls := .type "dict", data := .dict #[] }) (s.heap.objs.size + 1) [] ⟨fun _ _ hm => (nomatch hm), List.Pairwise.nil⟩ (by rw [Heap.size_push]; exact Nat.le_refl _)
  rw [Heap.size_push] at ok
  rw [show ({ s with heap := s.heap.push { cls := .type "dict", data := .dict #[] } } : Shared).heap.objs.size = s.heap.objs.size + 1 from Heap.size_push ..]
  rw [cellsFrom_acc]
  simp only [List.forIn_nil]
  refine wpAny_bind (wpAny_pure (wpAny_pure ?_))
  exact h _ _ rfl ((Heap.Ns.new s.heap (.type "dict")).keeps (pushCells_keeps _ _)) (fun n c hm => ok.empty n c hm) ok.apart fun b o e => pushCells_keeps _ _ b o (Heap.get?_push_of_some _ e)
end
noncomputable def relabS (scope psc : Scope) : Scope :=
  { scope with names := scope.names.map fun (n, k) => if (k == .free && psc.kind == .function && psc.names.lookup n == some .cell) then (n, .cell) else (n, k) }
theorem relab_is (scope : Scope) (env : Env) : relabel scope env = relabS scope env.scope := rfl
theorem relab_lookup (psc : Scope) (x : Str) : ∀ names : List (Str × NameKind),
    (names.map fun (n, k) => if (k == NameKind.free && psc.kind == .function && psc.names.lookup n == some .cell) then (n, NameKind.cell) else (n, k)).lookup x =
      (names.lookup x).map fun k => if (k == NameKind.free && psc.kind == .function && psc.names.lookup x == some .cell) then NameKind.cell else k
  | [] => rfl
  | (n, k) :: r => by
    have ih := relab_lookup psc x r
    rw [List.map_cons]
    dsimp only
    have e : (if (k == NameKind.free && psc.kind == ScopeKind.function && List.lookup n psc.names == some NameKind.cell) = true then (n, NameKind.cell) else (n, k)) =
        (n, if (k == NameKind.free && psc.kind == ScopeKind.function && List.lookup n psc.names == some NameKind.cell) = true then NameKind.cell else k) := by split <;> rfl
    rw [e, List.lookup_cons, List.lookup_cons, ih]
    by_cases q : (x == n) = true
    · rw [q, beq_iff_eq.mp q]; rfl
    · have q' : (x == n) = false := by simpa using q
      rw [q']
noncomputable def tgts : Expr → List Str
  | .Name x _ => [x]
  | .Tuple es _ _ => (pairN es).elim [] fun xy => [xy.1, xy.2]
  | _ => []
theorem tgts_one {x : Str} {p : Pos} : tgts (.Name x p) = [x] := rfl
theorem tgts_two {x y : Str} {p q r : Pos} {k : Nat} : tgts (.Tuple [.Name x p, .Name y q] k r) = [x, y] := rfl
noncomputable def BindR (P : Addr → Obj → Prop) (h : Heap) (target : Expr) (v : Value) (d : PyData) : Prop := match target with
  | .Name _ _ => Rd P v d
  | .Tuple es _ _ => (pairN es).elim False fun _ => ∃ T x y a b, v = .ref T ∧ h.IsTuple T #[x, y] ∧ d = .tuple [a, b] ∧ Rd P x a ∧ Rd P y b
  | _ => False
structure Bound (U : Addr → Prop) (env : Env) (P : Addr → Obj → Prop) (ts : List Str) (h h' : Heap) (new : Sto) : Prop where
  keep : ∀ b o, ¬ U b → h.get? b = some o → h'.get? b = some o
  place : ∀ y b, Place env h y b → Place env h' y b
  sees : ∀ y u, y ∉ ts → Sees env h y u → Sees env h' y u
  inTs : ∀ x, x ∉ ts → new.get x = none
  new : ∀ t ∈ ts, ∃ d v, new.get t = some (.d d) ∧ Sees env h' t v ∧ Rd P v d
section
variable {prog : Program} {w : World} {A : Around} {E : Value → Shared → Prop} {s : Shared} {env : Env} {U : Addr → Prop} {P : Addr → Obj → Prop}
theorem assign_sound {target : Expr} {v : Value} {d : PyData} {ρ : Sto} {K : Sto → Prop} {Q : Unit → Shared → Prop} (hh : A.handled = none) (hE : EnvOk env) (hnd : (tgts target).Nodup) (hpl : ∀ t ∈ tgts target, ∃ a, Place env s.heap t a ∧ U a)
    (hB : BindR P s.heap target v d) (hK : bindP target d ρ K) (hQ : ∀ h' tk new, Bound U env P (tgts target) s.heap h' new → K (new ++ ρ) → Q () { s with heap := h', toks := tk }) :
    wpAny (model prog w) A (assign target env v) Q E s := by
  cases target <;> first | exact False.elim hB | skip
  case Name x pos =>
    obtain ⟨a, pa, ua⟩ := hpl x (by simp [tgts_one, tgts_two])
    refine wpAny_assign_Name (store_place hE pa fun h' tk hs se pl sees place => hQ h' tk [(x, .d d)] ⟨?_, ?_, ?_, ?_, ?_⟩ hK)
    · intro b o hb e
      exact hs.extBut b o (fun q => hb (q ▸ ua)) e
    · intro y b q
      by_cases hy : y = x
      · subst hy
        have : b = a := by
          rcases q with ⟨k1, e1, _⟩ | ⟨k1, e1, _⟩ <;> rcases pa with ⟨k2, e2, _⟩ | ⟨k2, e2, _⟩
          · rw [e1, e2]
          · rw [k1] at k2; cases k2
          · rw [k1] at k2; cases k2
          · rw [e1] at e2; exact Option.some.inj e2
        rw [this]; exact pl
      · exact place y b hy q
    · intro y u hy q
      exact sees y u (by simpa [tgts_one, tgts_two] using hy) q
    · intro y hy
      have e : (y == x) = false := by simpa [tgts_one, tgts_two] using hy
      simp [Sto.get, List.lookup_cons, e]
    · intro t ht
      have : t = x := by simpa [tgts_one, tgts_two] using ht
      subst this
      exact ⟨d, v, by simp [Sto.get], se, hB⟩
  case Tuple es k pos =>
    replace hB := elim_is hB
    obtain ⟨xy, e, hB⟩ := hB
    obtain ⟨x, y⟩ := xy
    replace e := pairN_is e
    obtain ⟨px, py, rfl⟩ := e
    refine genP fun gP hgP => ?_
    obtain ⟨T, u, u', a, b, rfl, hT, rfl, ra, rb⟩ := hB
    refine hgP ?_
    clear hgP
    have hxy : x ≠ y := by simpa [tgts_one, tgts_two] using hnd
    refine wpAny_assign_Tuple hh hT rfl rfl fun h₁ hx => ?_
    obtain ⟨ax, px', ux⟩ := hpl x (by simp [tgts_one, tgts_two])
    obtain ⟨ay, py', uy⟩ := hpl y (by simp [tgts_one, tgts_two])
    have k1 : ∀ b o, s.heap.get? b = some o → h₁.get? b = some o := fun b o e => hx b o (Nat.ne_of_lt (Heap.lt_size e)) e
    show wpAny _ A (assignInOrder [assign (.Name x px) env, assign (.Name y py) env] [u, u']) _ _ _
    unfold assignInOrder
    refine wpAny_bind (wpAny_holding (wpAny_assign_Name (store_place hE (px'.keeps k1) fun h₂ tk₂ hs2 se2 pl2 sees2 place2 => ?_)))
    unfold assignInOrder
    refine wpAny_bind (wpAny_holding (wpAny_assign_Name (store_place hE (place2 y ay (Ne.symm hxy) (py'.keeps k1)) fun h₃ tk₃ hs3 se3 pl3 sees3 place3 => ?_)))
    unfold assignInOrder
    refine wpAny_pure (hQ h₃ tk₃ [(y, .d b), (x, .d a)] ⟨?_, ?_, ?_, ?_, ?_⟩ hK)
    · intro b o hb e
      exact hs3.extBut b o (fun q => hb (q ▸ uy)) (hs2.extBut b o (fun q => hb (q ▸ ux)) (k1 b o e))
    · intro z c q
      have same : ∀ {h : Heap} {z : Str} {c c' : Addr}, Place env h z c → Place env h z c' → c = c' := by
        intro h z c c' q q'
        rcases q with ⟨k1, e1, _⟩ | ⟨k1, e1, _⟩ <;> rcases q' with ⟨k2, e2, _⟩ | ⟨k2, e2, _⟩
        · rw [e1, e2]
        · rw [k1] at k2; cases k2
        · rw [k1] at k2; cases k2
        · rw [e1] at e2; exact Option.some.inj e2
      by_cases hy : z = y
      · subst hy
        rw [same q py']; exact pl3
      · by_cases hz : z = x
        · subst hz
          rw [same q px']; exact place3 z ax hxy pl2
        · exact place3 z c hy (place2 z c hz (q.keeps k1))
    · intro z c hz q
      have hz' : z ≠ x ∧ z ≠ y := by simpa [tgts_one, tgts_two] using hz
      exact sees3 z c hz'.2 (sees2 z c hz'.1 (q.keeps k1))
    · intro z hz
      have hz' : z ≠ x ∧ z ≠ y := by simpa [tgts_one, tgts_two] using hz
      have e1 : (z == x) = false := by simpa using hz'.1
      have e2 : (z == y) = false := by simpa using hz'.2
      simp [Sto.get, List.lookup_cons, e1, e2]
    · intro t ht
      have : t = x ∨ t = y := by simpa [tgts_one, tgts_two] using ht
      rcases this with rfl | rfl
      · exact ⟨a, u, by simp [Sto.get, List.lookup_cons, show (t == y) = false by simpa using hxy], sees3 _ _ hxy se2, ra⟩
      · exact ⟨b, u', by simp [Sto.get, List.lookup_cons], se3, rb⟩
end
structure StOk (hT : Heap) (W : Addr → Prop) (env : Env) (ρ : Sto) (h : Heap) : Prop where
  up : Up hT h
  w : WOk W hT h
  cells : ∀ x c, env.cells.lookup x = some c → ∃ v, h.IsCell c v
  rho : EnvR W env ρ h
theorem StOk.keeps {hT : Heap} {W : Addr → Prop} {env : Env} {ρ : Sto} {h h' : Heap} (x : StOk hT W env ρ h) (hk : ∀ b o, h.get? b = some o → h'.get? b = some o) : StOk hT W env ρ h' :=
  ⟨fun b o e => hk b o (x.up b o e), x.w.keeps hk, fun y c e => let ⟨v, q⟩ := x.cells y c e; ⟨v, q.keeps hk⟩, x.rho.keeps hk⟩
noncomputable def compOk (sc scope : Scope) (ts : List Str) : Bool :=
  scope.kind == .function && decide ((scope.names.map (·.1)).Nodup) && decide ts.Nodup && scope.names.lookup (".0" : Str) == some .local &&
  (scope.names.all fun x => match x.2 with
    | .local => ts.contains x.1 || x.1 == (".0" : Str)
    | .cell => ts.contains x.1
    | .free => sc.names.lookup x.1 == some .cell || sc.names.lookup x.1 == some .free
    | .globalImplicit => true
    | .globalExplicit => false) &&
  (ts.all fun t => (scope.names.lookup t == some .local || scope.names.lookup t == some .cell) && t != (".0" : Str))
structure ItE (prog : Program) (w : World) (A : Around) (W : Addr → Prop) (s : Shared) (target : Expr) (items : List PyData) (it : Value) (s₂ : Shared) (hb : Heap) (I : Addr) (fp wr : List Addr) (P Md : Nat → Value → Heap → Prop) (St : Nat → Heap → Prop) : Prop where
  e1 : ∀ b o, s.heap.get? b = some o → hb.get? b = some o
  e2 : ∀ b o, hb.get? b = some o → s₂.heap.get? b = some o
  e3 : hb.objs.size ≤ s₂.heap.objs.size
  e4 : it = .ref I
  e5 : KTurns prog w A target I fp wr items.length P Md St
  e6 : ∀ i (s : Shared) (Q : Value → Shared → Prop) (E : Value → Shared → Prop), St i s.heap → Q (.ref I) s → wpAny (model prog w) A (pyIter (.ref I)) Q E s
  e7 : St 0 s₂.heap
  e8 : ∀ b ∈ fp, b < s₂.heap.objs.size
  e9 : ∀ b ∈ wr, hb.objs.size ≤ b
  e10 : ∀ i v h, i < items.length → P i v h → ∃ d, items[i]? = some d ∧ BindR (PW W hb) h target v d
structure ItR (prog : Program) (w : World) (A : Around) (W : Addr → Prop) (s : Shared) (target : Expr) (items : List PyData) (it : Value) (s₂ : Shared) : Prop where
  ex : ∃ (hb : Heap) (I : Addr) (fp wr : List Addr) (P Md : Nat → Value → Heap → Prop) (St : Nat → Heap → Prop), ItE prog w A W s target items it s₂ hb I fp wr P Md St
  keeps : Keeps s s₂
section
variable {prog : Program} {w : World} {A : Around} {E : Value → Shared → Prop} {R : Result → Shared → Prop} {s : Shared} {env : Env}
theorem compLoop_any {elt target iter : Expr} {scope : Scope} {pos : Pos} {it acc : Value} (I : Nat → Shared → Prop)
    (turn : ∀ n s, I n s → ∀ E', wpAny (model prog w) A (pyNext it) (fun r s₁ => match r with
      | none => R (.ok .next) s₁
      | some v => wpAny (model prog w) A (letOwnedTupleGo target it v) (fun _ s₁' => wpAny (model prog w) A (assign target env v) (fun _ s₂ => wpAny (model prog w) A (eval elt env) (fun x s₃ =>
          wpAny (model prog w) A (call (.builtin "list.append") [acc, x]) (fun _ s₄ => ∃ m, m < n ∧ I m s₄) E' s₃) E' s₂) E' s₁') E' s₁) E' s)
    (n : Nat) (h : I n s) : codeAny (model prog w) A (.compLoop (.ListComp elt [⟨target, iter, [], 0⟩] scope pos) 0 it acc env) R s := by
  refine codeAny_loop rfl I (fun n s hI => ?_) n h
  show wpAny _ _ ((compTurn (.ListComp elt [⟨target, iter, [], 0⟩] scope pos) 0 it acc env).onRaise (fun x => do noteFrame x env; theTreesLotGoes x)) _ _ s
  refine wpAny_noted ?_
  rw [compTurn_list1]
  refine wpAny_bind (wpAny_standAt (wpAny_bind (wpAny_mono (turn n s hI _) (fun r s₁ h₁ => ?_) fun _ _ h' => h')))
  cases r with
  | none => exact wpAny_pure h₁
  | some v =>
    refine wpAny_bind (wpAny_mono h₁ (fun _ s₁' h₁' => ?_) fun _ _ h' => h')
    exact wpAny_bind (wpAny_mono h₁' (fun _ s₂ h₂ => wpAny_bind (wpAny_bind (wpAny_mono h₂ (fun x s₃ h₃ => wpAny_bind (wpAny_mono h₃
      (fun _ s₄ h₄ => wpAny_pure (wpAny_pure ⟨rfl, h₄⟩)) fun _ _ h' => h')) fun _ _ h' => h'))) fun _ _ h' => h')
end
noncomputable def cenvOf (env : Env) (scope : Scope) (C : Addr) (own : List (Str × Addr)) : Env :=
  { scope := relabS scope env.scope, locals := C, globals := env.globals, cells := own ++ cloOf env.cells scope.names [], qual := env.qual, func := none, code := env.code, frame := env.frame, builtins := env.builtins }
theorem compOk_parts {sc scope : Scope} {ts : List Str} (h : compOk sc scope ts = true) : scope.kind = .function ∧ (scope.names.map (·.1)).Nodup ∧ ts.Nodup ∧
    (∀ n, (n, NameKind.local) ∈ scope.names → n ∈ ts ∨ n = (".0" : Str)) ∧ (∀ n, (n, NameKind.cell) ∈ scope.names → n ∈ ts) ∧
    (∀ n, (n, NameKind.free) ∈ scope.names → sc.names.lookup n = some .cell ∨ sc.names.lookup n = some .free) ∧
    scope.names.lookup (".0" : Str) = some .local ∧
    (∀ n, (n, NameKind.globalExplicit) ∉ scope.names) ∧
    (∀ t ∈ ts, (scope.names.lookup t = some .local ∨ scope.names.lookup t = some .cell) ∧ t ≠ (".0" : Str)) := by
  unfold compOk at h
  simp only [Bool.and_eq_true, beq_iff_eq, decide_eq_true_eq, List.all_eq_true] at h
  refine genP fun gP hgP => ?_
  obtain ⟨⟨⟨⟨⟨h1, h2⟩, h3⟩, h0⟩, h4⟩, h5⟩ := h
  refine hgP ?_
  clear hgP
  refine ⟨h1, h2, h3, fun n hn => ?_, fun n hn => ?_, fun n hn => ?_, h0, fun n hn => ?_, fun t ht => ?_⟩
  · simpa using h4 _ hn
  · simpa using h4 _ hn
  · simpa using h4 _ hn
  · simpa using h4 _ hn
  · simpa using h5 t ht
theorem mem_lookup_nodup {α : Type} {l : List (Str × α)} (hn : (l.map (·.1)).Nodup) {x : Str} {c : α} (h : (x, c) ∈ l) : l.lookup x = some c := by
  induction l with
  | nil => cases h
  | cons y r ih =>
    obtain ⟨n, v⟩ := y
    rw [List.map_cons, List.nodup_cons] at hn
    rcases List.mem_cons.mp h with e | h'
    · cases e; simp
    · have : (x == n) = false := by
        simp only [beq_eq_false_iff_ne, ne_eq]
        intro e
        subst e
        exact hn.1 (List.mem_map.mpr ⟨_, h', rfl⟩)
      rw [List.lookup_cons, this]
      exact ih hn.2 h'
theorem cenv_kind (env : Env) (scope : Scope) (C : Addr) (own : List (Str × Addr)) (x : Str) : (cenvOf env scope C own).kindOf x = (scope.names.lookup x).map fun k => if (k == NameKind.free && env.scope.kind == .function && env.scope.names.lookup x == some .cell) then NameKind.cell else k :=
  relab_lookup env.scope x scope.names
section
variable {env : Env} {scope : Scope} {ts : List Str} {C : Addr} {own : List (Str × Addr)} {h : Heap}
theorem cenv_ok (hE : EnvOk env) (hc : compOk env.scope scope ts = true) (ho : own = cellsFrom (C + 1) scope.names []) (hown : ∀ n c, (n, c) ∈ own → C + 1 ≤ c) (hap : own.Pairwise fun x y => x.2 ≠ y.2)
    (hold : ∀ x c, env.cells.lookup x = some c → c < C) : EnvOk (cenvOf env scope C own) := by
  refine genP fun gP hgP => ?_
  obtain ⟨c1, c2, c3, c4, c5, c6, c7, c8, c9⟩ := compOk_parts hc
  refine hgP ?_
  clear hgP
  have hfree : ∀ n, (n, NameKind.free) ∈ scope.names → ∃ c, env.cells.lookup n = some c := fun n hn => hE.cover n (c6 n hn)
  have look : ∀ x, (cenvOf env scope C own).cells.lookup x = (own.lookup x).or ((cloOf env.cells scope.names []).lookup x) := fun x => List.lookup_append
  refine ⟨c1, hE.glob, hE.bui, fun x hx => ?_, fun x y c hx hy => ?_⟩
  · rw [cenv_kind] at hx
    refine Option.isSome_iff_exists.mp ?_
    rw [look, Option.isSome_or, Bool.or_eq_true]
    cases q : scope.names.lookup x with
    | none => rw [q] at hx; simp at hx
    | some k =>
      rw [q] at hx
      cases k with
      | cell => left; rw [ho]; exact cellsFrom_some _ _ _ (.inl q)
      | free => right; exact clo_some (.inl (mem_of_lookup q))
      | «local» => simp at hx
      | globalExplicit => simp at hx
      | globalImplicit => simp at hx
  · rw [look] at hx hy
    have one : ∀ {z}, (own.lookup z).or ((cloOf env.cells scope.names []).lookup z) = some c → (z, c) ∈ own ∨ (env.cells.lookup z = some c) := fun {z} q => by
      rcases Option.or_eq_some_iff.mp q with q | ⟨_, q⟩
      · exact .inl (mem_of_lookup q)
      · exact .inr ((clo_lookup hfree q).resolve_right (by simp))
    rcases one hx with a | a <;> rcases one hy with b | b
    · exact name_of_addr hap a b
    · exact absurd (hold y c b) (Nat.not_lt.mpr (Nat.le_of_succ_le (hown x c a)))
    · exact absurd (hold x c a) (Nat.not_lt.mpr (Nat.le_of_succ_le (hown y c b)))
    · exact hE.inj x y c a b
end
theorem EnvR.app {W : Addr → Prop} {env : Env} {new ρ : Sto} {h : Heap} (a : EnvR W env new h) (b : ∀ x sv, new.get x = none → ρ.get x = some sv → x ≠ (".0" : Str) ∧ ∃ v, Sees env h x v ∧ SR W h v sv) : EnvR W env (new ++ ρ) h := fun x sv e => by
  unfold Sto.get at e
  rw [List.lookup_append] at e
  cases q : new.lookup x with
  | some y =>
    rw [q] at e
    exact a x sv (by unfold Sto.get; rw [q]; exact e)
  | none =>
    rw [q] at e
    exact b x sv q (by unfold Sto.get; simpa using e)
noncomputable def cU (D : Addr) (own : List (Str × Addr)) (a : Addr) : Prop := a = D + 1 ∨ ∃ n, own.lookup n = some a
noncomputable def cN (D : Addr) (own : List (Str × Addr)) (wr : List Addr) (a : Addr) : Prop := a = D ∨ a ∈ wr ∨ cU D own a
structure CompSet (env : Env) (scope : Scope) (target : Expr) (D : Addr) (own : List (Str × Addr)) (hb : Heap) (wr : List Addr) : Prop where
  ownHigh : ∀ n c, own.lookup n = some c → D + 1 + 1 ≤ c
  wrLow : ∀ b ∈ wr, b < D
  high : ∀ a, cN D own wr a → hb.objs.size ≤ a
  offNw : ∀ b o, hb.get? b = some o → ¬ cN D own wr b
  offU_D : ¬ cU D own D
  offU_wr : ∀ b, b ∈ wr → ¬ cU D own b
  notWr_D : D ∉ wr
  notWr_U : ∀ a, cU D own a → a ∉ wr
  hEc : EnvOk (cenvOf env scope (D + 1) own)
  kind0 : (cenvOf env scope (D + 1) own).kindOf (".0" : Str) = some .local
  cellsC : ∀ t c, own.lookup t = some c → (cenvOf env scope (D + 1) own).cells.lookup t = some c
  ownKind : ∀ t c, own.lookup t = some c → (cenvOf env scope (D + 1) own).kindOf t = some .cell
  placeT : ∀ {h : Heap}, Place (cenvOf env scope (D + 1) own) h (".0" : Str) (D + 1) → (∀ n c, own.lookup n = some c → Place (cenvOf env scope (D + 1) own) h n c) → ∀ t ∈ tgts target, ∃ a, Place (cenvOf env scope (D + 1) own) h t a ∧ cU D own a
structure CJ (s : Shared) (W' : Addr → Prop) (N : Nat) (St : Nat → Heap → Prop) (D : Addr) (cenv : Env) (own : List (Str × Addr)) (X : Nat → Heap → Tok → List PyData → Prop) (kk' : Nat) (s' : Shared) (i : Nat) (h : Heap) (tk : Tok) (vs : Array Value) (ys : List PyData) : Prop where
  e1 : s' = { s with heap := h, toks := tk }
  e2 : kk' = N + 1 - i
  e3 : i ≤ N
  e4 : St i h
  e5 : h.PlainList D vs
  e6 : RdAll (PW W' h) vs.toList ys
  e7 : ys.length = i
  ex : X i h tk ys
  e8 : Place cenv h (".0" : Str) (D + 1)
  e9 : ∀ n c, own.lookup n = some c → Place cenv h n c
theorem comp_set {env : Env} {scope : Scope} {target : Expr} {D : Addr} {own : List (Str × Addr)} {hb : Heap} {wr fp : List Addr} (hE : EnvOk env) (hc : compOk env.scope scope (tgts target) = true)
    (hown : own = cellsFrom (D + 1 + 1) scope.names []) (hcell : ∀ n c, (n, c) ∈ own → D + 1 + 1 ≤ c) (hap : own.Pairwise fun x y => x.2 ≠ y.2) (hbs : hb.objs.size ≤ D) (hfp : ∀ b ∈ fp, b < D) (hwr : ∀ b ∈ wr, hb.objs.size ≤ b) (hsub : ∀ b ∈ wr, b ∈ fp)
    (hcl : ∀ x c, env.cells.lookup x = some c → c < D + 1) : CompSet env scope target D own hb wr := by
  obtain ⟨c1, c2, c3, c4, c5, c6, c7, c8, c9⟩ := compOk_parts hc
  have ownHigh : ∀ n c, own.lookup n = some c → D + 1 + 1 ≤ c := fun n c e => hcell n c (mem_of_lookup e)
  have wrLow : ∀ b ∈ wr, b < D := fun b q => hfp b (hsub b q)
  have high : ∀ a, cN D own wr a → hb.objs.size ≤ a := by
    rintro a (rfl | q | rfl | ⟨n, q⟩)
    · exact hbs
    · exact hwr a q
    · exact Nat.le_succ_of_le hbs
    · exact Nat.le_trans hbs (Nat.le_trans (Nat.le_succ_of_le (Nat.le_succ _)) (ownHigh n a q))
  have offU_D : ¬ cU D own D := by
    rintro (q | ⟨n, q⟩)
    · exact absurd q (Nat.ne_of_lt (Nat.lt_succ_self _))
    · have := ownHigh n D q; exact absurd (Nat.lt_of_lt_of_le (Nat.lt_succ_self _) (Nat.le_trans (Nat.le_succ _) this)) (Nat.lt_irrefl _)
  have offU_wr : ∀ b, b ∈ wr → ¬ cU D own b := by
    rintro b hb' (q | ⟨n, q⟩)
    · have := wrLow b hb'; rw [q] at this; exact absurd (Nat.lt_of_succ_lt this) (Nat.lt_irrefl _)
    · have h1 := wrLow b hb'; have h2 := ownHigh n b q
      exact absurd (Nat.lt_of_lt_of_le h1 (Nat.le_trans (Nat.le_succ_of_le (Nat.le_succ _)) h2)) (Nat.lt_irrefl _)
  have kindT : ∀ t ∈ tgts target, ((cenvOf env scope (D + 1) own).kindOf t = some .local) ∨ ((cenvOf env scope (D + 1) own).kindOf t = some .cell ∧ scope.names.lookup t = some .cell) := fun t ht => by
    rcases (c9 t ht).1 with q | q
    · left; rw [cenv_kind env scope (D + 1) own t, q]; rfl
    · right; refine ⟨?_, q⟩; rw [cenv_kind env scope (D + 1) own t, q]; rfl
  have kind0 : (cenvOf env scope (D + 1) own).kindOf (".0" : Str) = some .local := by
    rw [cenv_kind env scope (D + 1) own _, c7]; rfl
  refine ⟨ownHigh, wrLow, high, fun b o e q => absurd (Heap.lt_size e) (Nat.not_lt.mpr (high b q)), offU_D, offU_wr, fun q => Nat.lt_irrefl _ (wrLow D q), fun a q q' => offU_wr a q' q, cenv_ok hE hc hown hcell hap hcl, kind0, fun t c e => ?_, fun t c e => ?_, fun {h} h7 h8 t ht => ?_⟩
  · show (own ++ cloOf env.cells scope.names []).lookup t = some c
    rw [List.lookup_append, e]; rfl
  · have hm' := mem_of_lookup e
    rw [hown] at hm'
    have h1 := mem_lookup_nodup c2 (cellsFrom_mem _ _ _ _ hm')
    rw [cenv_kind env scope (D + 1) own t, h1]; rfl
  · rcases kindT t ht with q | ⟨q, q'⟩
    · refine ⟨D + 1, .inl ⟨q, rfl, ?_⟩, .inl rfl⟩
      rcases h7 with ⟨_, _, m, n⟩ | ⟨k1, _⟩
      · exact ⟨m, n⟩
      · rw [kind0] at k1; cases k1
    · obtain ⟨c, hc'⟩ : ∃ c, own.lookup t = some c := by
        rw [hown]; exact Option.isSome_iff_exists.mp (cellsFrom_some _ _ _ (.inl q'))
      exact ⟨c, h8 t c hc', .inr ⟨t, hc'⟩⟩
section
variable {prog : Program} {w : World} {A : Around} {E : Value → Shared → Prop} {s : Shared} {env : Env} {hT : Heap} {mg mb : Str → Option Value} {W : Addr → Prop} {k : Nat} {ρ : Sto}
set_option maxHeartbeats 1600000 in
theorem comp_sound {elt target iter : Expr} {scope : Scope} {pos : Pos} {Q : PyData → Prop} (ev : Sto → (PyData → Prop) → Prop) (hE : EnvOk env) (hS : StOk hT W env ρ s.heap) (hA : AIn k A)
    (hc : compOk env.scope scope (tgts target) = true) (hfold : ∀ x, foldedSetIterable iter env x = pure x)
    (helt : ∀ (W' : Addr → Prop) (cenv : Env) (ρ' : Sto) (Q' : PyData → Prop) (s' : Shared) (E' : Value → Shared → Prop), cenv.scope = relabS scope env.scope → EnvOk cenv → StOk hT W' cenv ρ' s'.heap → ev ρ' Q' →
      wpAny (model prog w) A (eval elt cenv) (Ret W' s' Q') E' s')
    (hit : wpAny (model prog w) A (eval iter env) (fun xv s₁ => wpAny (model prog w) A (pyIter xv) (fun it s₂ => ∃ items, mapP (fun d Q => bindP target d (ρ.under scope) fun ρ' => ev ρ' Q) items (fun ds => Q (.list ds)) ∧ items.length ≤ 10000 ∧
      ItR prog w A W s target items it s₂) E s₁) E s) :
    wpAny (model prog w) A (eval (.ListComp elt [⟨target, iter, [], 0⟩] scope pos) env) (Ret W s Q) E s := by
  refine genP fun gP hgP => ?_
  obtain ⟨c1, c2, c3, c4, c5, c6, c7, c8, c9⟩ := compOk_parts hc
  refine hgP ?_
  clear hgP
  rw [eval_ListComp]
  have hfree : ∀ n, (n, NameKind.free) ∈ scope.names → ∃ c, env.cells.lookup n = some c := fun n hn => hE.cover n (c6 n hn)
  have hclos := closure_is (scope := scope) (env := env) hfree
  refine wpAny_comprehension_free (use := none) rfl hfold hclos c1 (fun x hx hl => ?_) (wpAny_mono hit (fun xv s₁ h₁ => wpAny_mono h₁ (fun it s₂ h₂ => ?_) fun _ _ e => e) fun _ _ e => e)
  · obtain ⟨n, kd⟩ := x
    have : kd = .local := hl
    subst this
    exact mem_lookup_nodup c2 hx
  refine genP fun gP hgP => ?_
  obtain ⟨items, hm, hlen, hI⟩ := h₂
  refine hgP ?_
  clear hgP
  refine genP fun gP hgP => ?_
  obtain ⟨⟨hb, I, fp, wr, P, Md, St, kb, kb2, hbs, rfl, T, self, st0, hfp, hwr, hPi⟩, ks⟩ := hI
  refine hgP ?_
  clear hgP
  refine genP fun gP hgP => ?_
  obtain ⟨g2, tk2, rfl, kk⟩ := id ks
  refine hgP ?_
  clear hgP
  refine wpAny_newObj_type (hd := by size_fits) ?_
  refine newComp (s := { s with heap := g2.push { cls := .type "list", data := .seq ([] : List Value).toArray }, toks := tk2 }) fun own h₃ hown hns hcell hap hk₃ => ?_
  have hD : ({ s with heap := g2, toks := tk2 } : Shared).heap.objs.size = g2.objs.size := rfl
  rw [hD]
  dsimp only at kb2 hbs st0 hfp
  have hpl₃ : h₃.PlainList g2.objs.size #[] := ⟨0, hk₃ _ _ (Heap.get?_push_size _ rfl)⟩
  have k23 : ∀ b o, g2.get? b = some o → h₃.get? b = some o := fun b o e => hk₃ b o (Heap.get?_push_of_some _ e)
  generalize hDe : g2.objs.size = D at *
  have hCe : ({ s with heap := g2.push { cls := .type "list", data := .seq ([] : List Value).toArray }, toks := tk2 } : Shared).heap.objs.size = D + 1 := by
    show (g2.push _).objs.size = _
    rw [Heap.size_push, hDe]
  rw [hCe] at hns hown hcell ⊢
  dsimp only at hns hk₃ hcell ⊢
  let U : Addr → Prop := cU D own
  let Nw : Addr → Prop := cN D own wr
  let W' : Addr → Prop := fun a => W a ∨ Nw a
  let cenv : Env := cenvOf env scope (D + 1) own
  have CS : CompSet env scope target D own hb wr := comp_set hE hc hown (fun n c q => (hcell n c q).2) hap hbs hfp hwr T.sub fun x c e => by
    obtain ⟨v, o, ho, _⟩ := hS.cells x c e
    exact Nat.lt_succ_of_lt (hDe ▸ Heap.lt_size (kk c o ho))
  obtain ⟨ownHigh, wrLow, high, offNw, offU_D, offU_wr, notWr_D, notWr_U, hEc, kind0, cellsC, ownKind, placeT⟩ := CS
  have offP : ∀ {h : Heap}, (∀ b o, ¬ Nw b → h₃.get? b = some o → h.get? b = some o) → ∀ a o, PW W hb a o → PW W' h a o := fun hk a o x =>
    ⟨hk a o (offNw a o x.1) (k23 a o (kb2 a o x.1)), fun q => q.elim x.2 (offNw a o x.1)⟩
  let X : Nat → Heap → Tok → List PyData → Prop := fun i h _ ys => mapP (fun d Q => bindP target d (ρ.under scope) fun ρ' => ev ρ' Q) (items.drop i) (fun zs => Q (.list (ys ++ zs))) ∧ ∀ b o, ¬ Nw b → h₃.get? b = some o → h.get? b = some o
  let J : Nat → Shared → Prop := fun kk' s' => ∃ i h tk vs ys, CJ s W' items.length St D cenv own X kk' s' i h tk vs ys
  have loop : ∀ tk, codeAny (model prog w) A (.compLoop (.ListComp elt [⟨target, iter, [], 0⟩] scope pos) 0 (.ref I) (.ref D) cenv) (compPost (model prog w) A E none (Ret W s Q) (.ref D) (D + 1)) { s with heap := h₃, toks := tk } := by
    intro tk
    refine compLoop_any J (fun kk' s' hJ E' => ?_) (items.length + 1) ⟨0, h₃, tk, #[], [], rfl, rfl, Nat.zero_le _, ?_, hpl₃, .nil, rfl, ⟨by simpa using hm, fun _ _ _ e => e⟩, .inl ⟨kind0, rfl, _, hns⟩,
      fun n c e => .inr ⟨ownKind n c e, cellsC n c e, _, (hcell n c (mem_of_lookup e)).1⟩⟩
    · refine genP fun gP hgP => ?_
      obtain ⟨i, h, tk, vs, ys, rfl, rfl, hi, st, hpl, hr, hyl, ⟨hmp, hk⟩, h7, h8⟩ := hJ
      refine hgP ?_
      clear hgP
      have offWr : ∀ {h₁ : Heap}, (∀ b o, b ∉ wr → h.get? b = some o → h₁.get? b = some o) → (∀ b o, ¬ Nw b → h₃.get? b = some o → h₁.get? b = some o) := fun hk₁ b o hb' e => hk₁ b o (fun q => hb' (.inr (.inl q))) (hk b o hb' e)
      have plKeep : ∀ {h₁ : Heap}, (∀ b o, b ∉ wr → h.get? b = some o → h₁.get? b = some o) → Place cenv h₁ (".0" : Str) (D + 1) ∧ (∀ n c, own.lookup n = some c → Place cenv h₁ n c) := fun {h₁} hk₁ => by
        have one : ∀ {x a}, U a → Place cenv h x a → Place cenv h₁ x a := fun {x a} ua p => by
          have na := notWr_U a ua
          rcases p with ⟨q, e, m, n⟩ | ⟨q, e, v, o, ho, hd⟩
          · exact .inl ⟨q, e, m, n.at' fun o e => hk₁ a o na e⟩
          · exact .inr ⟨q, e, v, o, hk₁ a o na ho, hd⟩
        exact ⟨one (.inl rfl) h7, fun n c e => one (.inr ⟨n, e⟩) (h8 n c e)⟩
      by_cases hlt : i < items.length
      · refine T.item i _ _ _ hlt st fun v h₁ tk₁ hMd hk₁ => ?_
        dsimp only at hk₁ ⊢
        refine T.go i v _ _ _ hMd fun h₂ hP st₂ hk₂ => ?_
        dsimp only at hk₂ hP ⊢
        have hk12 : ∀ b o, b ∉ wr → h.get? b = some o → h₂.get? b = some o := fun b o hb' e => hk₂ b o hb' (hk₁ b o hb' e)
        obtain ⟨d, hd, hB⟩ := hPi i v h₂ hlt hP
        have hdrop : items.drop i = d :: items.drop (i + 1) := by
          rw [← List.getElem_cons_drop hlt]
          congr 1
          rw [List.getElem?_eq_getElem hlt] at hd
          exact Option.some.inj hd
        rw [hdrop] at hmp
        have hmp' : bindP target d (ρ.under scope) (fun ρ' => ev ρ' fun y => mapP (fun d Q => bindP target d (ρ.under scope) fun ρ' => ev ρ' Q) (items.drop (i + 1)) fun zs => Q (.list (ys ++ y :: zs))) := hmp
        obtain ⟨p7, p8⟩ := plKeep hk12
        refine assign_sound (U := U) (P := PW W hb) hA.handled hEc c3 (placeT p7 p8) hB hmp' fun h₄ tk₄ new bd hK => ?_
        have k4 : ∀ b o, ¬ Nw b → h₃.get? b = some o → h₄.get? b = some o := fun b o hb' e => bd.keep b o (fun q => hb' (.inr (.inr q))) (offWr hk12 b o hb' e)
        have plD4 : h₄.PlainList D vs := by
          obtain ⟨n, e⟩ := hpl
          exact ⟨n, bd.keep D _ offU_D (hk12 D _ notWr_D e)⟩
        have st4 : St (i + 1) h₄ := T.frame _ _ _ st₂ fun b hbf o e => bd.keep b o (by
          rintro (q | ⟨n, q⟩)
          · have := hfp b hbf; rw [q] at this; exact absurd (Nat.lt_of_succ_lt this) (Nat.lt_irrefl _)
          · have h1 := hfp b hbf; have h2 := ownHigh n b q
            exact absurd (Nat.lt_of_lt_of_le h1 (Nat.le_trans (Nat.le_succ_of_le (Nat.le_succ _)) h2)) (Nat.lt_irrefl _)) e
        have p47 := bd.place _ _ p7
        have p48 : ∀ n c, own.lookup n = some c → Place cenv h₄ n c := fun n c e => bd.place _ _ (p8 n c e)
        have hS4 : StOk hT W' cenv (new ++ ρ.under scope) h₄ := by
          refine ⟨fun b o e => k4 b o (offNw b o (kb b o (hS.up b o e))) (k23 b o (kb2 b o (kb b o (hS.up b o e)))), ⟨fun a q => ?_, fun a q => ?_⟩, fun x c e => ?_, EnvR.app (fun x sv e => ?_) (fun x sv e1 e2 => ?_)⟩
          · rcases q with q | q
            · exact hS.w.old a q
            · cases e : hT.get? a with
              | none => rfl
              | some o => exact absurd q (offNw a o (kb a o (hS.up a o e)))
          · rcases q with q | rfl | q | rfl | ⟨n, q⟩
            · refine genP fun gP hgP => ?_
              obtain ⟨b, o, hab, ho⟩ := hS.w.has a q
              refine hgP ?_
              clear hgP
              exact ⟨b, o, hab, k4 b o (offNw b o (kb b o ho)) (k23 b o (kb2 b o (kb b o ho)))⟩
            · obtain ⟨n, e⟩ := plD4
              exact ⟨_, _, Nat.le_refl _, e⟩
            · obtain ⟨n, e⟩ := plD4
              exact ⟨_, _, Nat.le_of_lt (wrLow a q), e⟩
            · obtain ⟨o, ho, _⟩ := p47.nt
              exact ⟨_, o, Nat.le_refl _, ho⟩
            · obtain ⟨o, ho, _⟩ := (p48 n a q).nt
              exact ⟨_, o, Nat.le_refl _, ho⟩
          · have e' : (own ++ cloOf env.cells scope.names []).lookup x = some c := e
            rw [List.lookup_append] at e'
            rcases Option.or_eq_some_iff.mp e' with q | ⟨_, q⟩
            · rcases p48 x c q with ⟨q1, _⟩ | ⟨_, _, v, q2⟩
              · rw [ownKind x c q] at q1; cases q1
              · exact ⟨v, q2⟩
            · refine genP fun gP hgP => ?_
              obtain ⟨v, o, ho, hd'⟩ := hS.cells x c ((clo_lookup hfree q).resolve_right (by simp))
              refine hgP ?_
              clear hgP
              exact ⟨v, o, k4 c o (offNw c o (kb c o ho)) (k23 c o (kb2 c o (kb c o ho))), hd'⟩
          · have hx : x ∈ tgts target := Classical.byContradiction fun q => by rw [bd.inTs x q] at e; cases e
            refine genP fun gP hgP => ?_
            obtain ⟨d', v', e1, e2, e3⟩ := bd.new x hx
            refine hgP ?_
            clear hgP
            rw [e1] at e
            cases e
            exact ⟨(c9 x hx).2, v', e2, e3.mono (offP k4)⟩
          · obtain ⟨e3, e4⟩ := under_get e2
            refine genP fun gP hgP => ?_
            obtain ⟨n0, v', q1, q2⟩ := hS.rho x sv e3
            refine hgP ?_
            clear hgP
            refine ⟨n0, v', ?_, q2.mono fun a o x => offP k4 a o ⟨kb a o x.1, x.2⟩⟩
            have hxm : (x, NameKind.free) ∈ scope.names := mem_of_lookup e4
            obtain ⟨c, hc'⟩ := Option.isSome_iff_exists.mp (clo_some (cells := env.cells) (x := x) (names := scope.names) (acc := []) (.inl hxm))
            have hec := (clo_lookup hfree hc').resolve_right (by simp)
            have hno : own.lookup x = none := by
              cases q : own.lookup x with
              | none => rfl
              | some c' =>
                have := mem_of_lookup q
                rw [hown] at this
                have := mem_lookup_nodup c2 (cellsFrom_mem _ _ _ _ this)
                rw [e4] at this; cases this
            refine .inr ⟨?_, c, ?_, ?_⟩
            · rw [show cenv.kindOf x = _ from cenv_kind env scope (D + 1) own x, e4]
              simp only [Option.map_some]
              split
              · exact .inl rfl
              · exact .inr rfl
            · show (own ++ cloOf env.cells scope.names []).lookup x = some c
              rw [List.lookup_append, hno, hc']; rfl
            · rcases q1 with ⟨k1, _⟩ | ⟨_, c2', k2, o, ho, hd'⟩
              · rcases c6 x hxm with q | q
                · rw [show env.kindOf x = env.scope.names.lookup x from rfl, q] at k1; cases k1
                · rw [show env.kindOf x = env.scope.names.lookup x from rfl, q] at k1; cases k1
              · rw [hec] at k2
                cases k2
                exact ⟨o, k4 c o (offNw c o (kb c o ho)) (k23 c o (kb2 c o (kb c o ho))), hd'⟩
        refine wpAny_mono (helt W' cenv _ _ _ E' rfl hEc hS4 hK) (fun y s₅ hy => ?_) fun _ _ e => e
        refine genP fun gP hgP => ?_
        obtain ⟨dy, hQy, hRy, k5⟩ := hy
        refine hgP ?_
        clear hgP
        refine genP fun gP hgP => ?_
        obtain ⟨h₅, tk₅, rfl, k5⟩ := k5
        refine hgP ?_
        clear hgP
        dsimp only at k5 hRy ⊢
        have plD5 : h₅.PlainList D vs := plD4.at fun o e => k5 D o e
        have hvs : vs.size = i := by
          have := hr.length
          rw [Array.length_toList] at this
          (first | lia | omega)
        refine wpAny_list_append_plain plD5 (fun h₆ pl6 hs6 => ?_) (by rw [sizeLine_eq]; (first | lia | omega))
        have k46 : ∀ b o, b ≠ D → h₄.get? b = some o → h₆.get? b = some o := fun b o hb' e => hs6.extBut b o hb' (k5 b o e)
        refine ⟨items.length + 1 - (i + 1), by (first | lia | omega), i + 1, h₆, tk₅, vs.push y, ys ++ [dy], rfl, rfl, hlt, ?_, pl6, ?_, by simp [hyl], ⟨by simpa using hQy, fun b o hb' e => k46 b o (fun q => hb' (.inl q)) (k4 b o hb' e)⟩, ?_, ?_⟩
        · exact T.frame _ _ _ st4 fun b hbf o e => k46 b o (fun q => by have := hfp b hbf; rw [q] at this; exact Nat.lt_irrefl _ this) e
        · rw [Array.toList_push]
          refine RdAll.append (hr.mono fun a o x => ⟨k46 a o (fun q => x.2 (.inr (.inl q))) (bd.keep a o (fun q => x.2 (.inr (.inr (.inr q)))) (hk12 a o (fun q => x.2 (.inr (.inr (.inl q)))) x.1)), x.2⟩) (.cons (hRy.mono fun a o x => ⟨hs6.extBut a o (fun q => x.2 (.inr (.inl q))) x.1, x.2⟩) .nil)
        · have off : D + 1 ≠ D := Nat.succ_ne_self D
          rcases p47 with ⟨q, e, m, n⟩ | ⟨q, e, v, o, ho, hd'⟩
          · exact .inl ⟨q, e, m, n.at' fun o e => k46 _ o off e⟩
          · exact .inr ⟨q, e, v, o, k46 _ o off ho, hd'⟩
        · intro n c e
          have off : c ≠ D := fun q => offU_D (.inr ⟨n, q ▸ e⟩)
          rcases p48 n c e with ⟨q, e, m, nn⟩ | ⟨q, e, v, o, ho, hd'⟩
          · exact .inl ⟨q, e, m, nn.at' fun o e => k46 _ o off e⟩
          · exact .inr ⟨q, e, v, o, k46 _ o off ho, hd'⟩
      · have hin : i = items.length := by (first | lia | omega)
        subst hin
        refine T.done _ _ _ st fun h₁ tk₁ hk₁ => ?_
        dsimp only at hk₁ ⊢
        obtain ⟨p7, p8⟩ := plKeep hk₁
        have hn7 : ∃ m, h₁.Ns (D + 1) m := by
          rcases p7 with ⟨_, _, m, n⟩ | ⟨k1, _⟩
          · exact ⟨m, n⟩
          · rw [kind0] at k1; cases k1
        obtain ⟨m, n⟩ := hn7
        refine ⟨m, n, fun h' hs' => ?_⟩
        rw [List.drop_length] at hmp
        have hq : Q (.list ys) := by simpa [mapP] using hmp
        have kAll : ∀ b o, ¬ Nw b → h₃.get? b = some o → h'.get? b = some o := fun b o hb' e => hs'.extBut b o (fun q => hb' (.inr (.inr (.inl q)))) (offWr hk₁ b o hb' e)
        have kS : ∀ b o, s.heap.get? b = some o → h'.get? b = some o := fun b o e => kAll b o (offNw b o (kb b o e)) (k23 b o (kb2 b o (kb b o e)))
        have hDW : ¬ W D := fun q => by
          refine genP fun gP hgP => ?_
          obtain ⟨b, o, hab, ho⟩ := hS.w.has D q
          refine hgP ?_
          clear hgP
          exact absurd (Nat.lt_of_le_of_lt hab (hDe ▸ Heap.lt_size (kk b o ho))) (Nat.lt_irrefl _)
        obtain ⟨nn, hl⟩ := hpl
        have hl' : h'.get? D = some { cls := .type "list", data := .seq vs nn } := hs'.extBut D _ (Nat.ne_of_lt (Nat.lt_succ_self D)) (hk₁ D _ notWr_D hl)
        refine ⟨_, hq, Rd.list (o := { cls := .type "list", data := .seq vs nn }) ⟨hl', hDW⟩ rfl rfl (hr.mono fun a o x => ⟨hs'.extBut a o (fun q => x.2 (.inr (.inr (.inr (.inl q))))) (hk₁ a o (fun q => x.2 (.inr (.inr (.inl q)))) x.1), fun q => x.2 (.inl q)⟩), Keeps.mk' kS⟩
    · exact T.frame 0 _ _ st0 fun b hbf o e => k23 b o e
  refine codeAny_compStart_list (loop tk2) (self 0 _ _ _ (T.frame 0 _ _ st0 fun b hbf o e => k23 b o e) (loop tk2))
end
theorem zipApart_new {n l1 l2 : Nat} (h1 : l1 < n) (h2 : l2 < n) : ZipApart (n + 4) (n + 2) (n + 3) n (n + 1) l1 l2 := by
  constructor <;> (intro e; have e' : @Eq Nat _ _ := e; (first | lia | omega))
theorem zipLow {n l1 l2 b : Nat} (h1 : l1 < n) (h2 : l2 < n) (h : b = n + 4 ∨ b = n + 2 ∨ b = n + 3 ∨ b = n ∨ b = n + 1 ∨ b = l1 ∨ b = l2) : b < n + 5 := by (first | lia | omega)
theorem zipHigh {n b : Nat} (h : b = n + 4 ∨ b = n + 3 ∨ b = n ∨ b = n + 1) : n ≤ b := by (first | lia | omega)
noncomputable def isName : Expr → Bool
  | .Name _ _ => true
  | _ => false
noncomputable def isPair : Expr → Bool
  | .Tuple es _ _ => (pairN es).isSome
  | _ => false
theorem isPair_is {e : Expr} (h : isPair e = true) : ∃ x px y py k p, e = .Tuple [.Name x px, .Name y py] k p := by
  cases e <;> first | exact ff h | skip
  rename_i es k p
  have h : (pairN es).isSome = true := h
  cases q : pairN es with
  | none => rw [q] at h; exact ff h
  | some xy =>
    obtain ⟨x, y⟩ := xy
    obtain ⟨px, py, rfl⟩ := pairN_is q
    exact ⟨_, _, _, _, _, _, rfl⟩
section
variable {prog : Program} {w : World} {A : Around} {E : Value → Shared → Prop} {s s₀ : Shared} {hT : Heap} {mg mb : Str → Option Value} {W : Addr → Prop} {k : Nat}
theorem go_name {target : Expr} (ht : isName target = true) {it v : Value} {Q : Unit → Shared → Prop} (h : Q () s) : wpAny (model prog w) A (letOwnedTupleGo target it v) Q E s := by
  cases target <;> first | exact ff ht | skip
  exact wpAny_pure h
theorem it_list {target : Expr} {v : Value} {xs : List PyData} (hA : AIn k A) (ht : isName target = true) (ks : Keeps s₀ s) (r : Rd (PW W s.heap) v (.list xs)) :
    wpAny (model prog w) A (pyIter v) (fun it s₂ => ItR prog w A W s₀ target xs it s₂) E s := by
  refine genP fun gP hgP => ?_
  obtain ⟨l, vs, rfl, hWl, hl, ra⟩ := r.isList
  refine hgP ?_
  clear hgP
  have e := ra.length
  rw [Array.length_toList] at e
  have hll : l < s.heap.objs.size := by obtain ⟨_, ho, _⟩ := hl; exact Heap.lt_size ho
  have hne : l ≠ s.heap.objs.size := Nat.ne_of_lt hll
  refine wpAny_pyIter_list hl ⟨?_, Keeps.trans ks (Keeps.push s _)⟩
  have T := Walks.list (prog := prog) (w := w) (A := A) hA.handled s.heap.objs.size l hne vs
  rw [e] at T
  refine ⟨s.heap, s.heap.objs.size, _, _, _, _, _, Keeps.heap ks, fun b o q => Heap.get?_push_of_some _ q, ?_, rfl, KTurns.ofWalks T fun i v s Q E _ q => go_name ht q, T.self, ⟨⟨_, Heap.get?_push_size _ rfl, rfl, rfl⟩, hl.push _⟩, fun b hb => ?_, fun b hb => ?_, fun i v h hi hp => ?_⟩
  · show _ ≤ (s.heap.push _).objs.size
    rw [Heap.size_push]; exact Nat.le_succ _
  · show b < (s.heap.push _).objs.size
    rw [Heap.size_push]
    rcases List.mem_cons.mp hb with rfl | hb
    · exact Nat.lt_succ_self _
    · rw [List.mem_singleton.mp hb]; exact Nat.lt_succ_of_lt hll
  · rw [List.mem_singleton.mp hb]; exact Nat.le_refl _
  · obtain ⟨d, hd, rd⟩ := ra.getV (k := i) (v := v) (by rw [Array.getElem?_toList]; exact hp)
    refine ⟨d, hd, ?_⟩
    cases target <;> first | exact ff ht | skip
    exact rd
theorem it_tuple {target : Expr} {v : Value} {xs : List PyData} (hA : AIn k A) (ht : isName target = true) (ks : Keeps s₀ s) (r : Rd (PW W s.heap) v (.tuple xs)) :
    wpAny (model prog w) A (pyIter v) (fun it s₂ => ItR prog w A W s₀ target xs it s₂) E s := by
  refine genP fun gP hgP => ?_
  obtain ⟨l, vs, rfl, hWl, hl, ra⟩ := r.isTup
  refine hgP ?_
  clear hgP
  have e := ra.length
  rw [Array.length_toList] at e
  have hl' : s.heap.IsTuple l vs := hl
  have hll : l < s.heap.objs.size := by obtain ⟨_, ho, _⟩ := hl; exact Heap.lt_size ho
  have hne : l ≠ s.heap.objs.size := Nat.ne_of_lt hll
  refine wpAny_pyIter_tuple hl' ⟨?_, Keeps.trans ks (Keeps.push s _)⟩
  have T := Walks.tuple (prog := prog) (w := w) (A := A) hA.handled s.heap.objs.size l hne vs
  rw [e] at T
  refine ⟨s.heap, s.heap.objs.size, _, _, _, _, _, Keeps.heap ks, fun b o q => Heap.get?_push_of_some _ q, ?_, rfl, KTurns.ofWalks T fun i v s Q E _ q => go_name ht q, T.self, ⟨⟨_, Heap.get?_push_size _ rfl, rfl, rfl⟩, hl'.push _⟩, fun b hb => ?_, fun b hb => ?_, fun i v h hi hp => ?_⟩
  · show _ ≤ (s.heap.push _).objs.size
    rw [Heap.size_push]; exact Nat.le_succ _
  · show b < (s.heap.push _).objs.size
    rw [Heap.size_push]
    rcases List.mem_cons.mp hb with rfl | hb
    · exact Nat.lt_succ_self _
    · rw [List.mem_singleton.mp hb]; exact Nat.lt_succ_of_lt hll
  · rw [List.mem_singleton.mp hb]; exact Nat.le_refl _
  · obtain ⟨d, hd, rd⟩ := ra.getV (k := i) (v := v) (by rw [Array.getElem?_toList]; exact hp)
    refine ⟨d, hd, ?_⟩
    cases target <;> first | exact ff ht | skip
    exact rd
theorem it_range {target : Expr} {r : Addr} {a b : Int} {t u v : Tok} (hA : AIn k A) (ht : isName target = true) (ks : Keeps s₀ s) (hr : IsRange s.heap r a b 1 t u v) (ha : -10000 ≤ a) (ha' : a ≤ 10000) (hb : b ≤ 10000) (hb' : -1000000 ≤ b) :
    wpAny (model prog w) A (pyIter (.ref r)) (fun it s₂ => ItR prog w A W s₀ target (rangeD a b) it s₂) E s := by
  have hsm : Builtin.Range.small a b 1 = true := small_one (by (first | lia | omega)) (by (first | lia | omega)) (by (first | lia | omega)) (by (first | lia | omega))
  have hsz : Builtin.Range.rangeSize a b 1 = ((b - a).toNat : Int) := by rw [rangeSize_one]; split <;> (first | lia | omega)
  refine wpAny_pyIter_range hr hsm ⟨?_, Keeps.trans ks (Keeps.push s _)⟩
  have T := Walks.range (prog := prog) (w := w) (A := A) hA.handled s.heap.objs.size a 1 (b - a).toNat
  have el : (rangeD a b).length = (b - a).toNat := by simp [rangeD]
  rw [← el] at T
  refine ⟨s.heap, s.heap.objs.size, _, _, _, _, _, Keeps.heap ks, fun b o q => Heap.get?_push_of_some _ q, ?_, rfl, KTurns.ofWalks T fun i v s Q E _ q => go_name ht q, T.self, ?_, fun b hb => ?_, fun b hb => ?_, fun i v h hi hp => ?_⟩
  · show _ ≤ (s.heap.push _).objs.size
    rw [Heap.size_push]; exact Nat.le_succ _
  · show IsRangeIter _ _ _ _ _
    rw [hsz, el]
    simpa using Heap.get?_push_size _ rfl
  · show b < (s.heap.push _).objs.size
    rw [Heap.size_push, List.mem_singleton.mp hb]; exact Nat.lt_succ_self _
  · rw [List.mem_singleton.mp hb]; exact Nat.le_refl _
  · obtain ⟨tk, rfl⟩ := hp
    rw [el] at hi
    refine ⟨.int (a + i), by simp [rangeD, hi], ?_⟩
    have e1 : a + (i : Int) * 1 = a + (i : Int) := by (first | lia | omega)
    cases target <;> first | exact ff ht | skip
    rw [e1]
    exact .int _ _
theorem ofPair {target : Expr} (ht : isPair target = true) {I : Addr} {fp wr : List Addr} {n : Nat} {Pt : Nat → Array Value → Prop} {St : Nat → Heap → Prop} {Mid : Nat → Addr → Heap → Prop} (T : WalksT prog w A I fp wr n Pt St Mid) :
    KTurns prog w A target I fp wr n (fun i v h => ∃ T vals, v = .ref T ∧ Pt i vals ∧ h.IsTuple T vals) (fun i v h => ∃ T vals, v = .ref T ∧ Pt i vals ∧ h.IsTuple T vals ∧ Mid i T h) St := by
  refine genP fun gP hgP => ?_
  obtain ⟨x, px, y, py, k, p, rfl⟩ := isPair_is ht
  refine hgP ?_
  clear hgP
  exact KTurns.ofWalksU T.toU
theorem it_enum {target : Expr} {v : Value} {xs : List PyData} (hA : AIn k A) (ht : isPair target = true) (ks : Keeps s₀ s) (r : Rd (PW W s.heap) v (.list xs)) :
    wpAny (model prog w) A (call (.type "enumerate") [v]) (fun xv s₁ => wpAny (model prog w) A (pyIter xv) (fun it s₂ => ItR prog w A W s₀ target ((rangeD 0 xs.length).zipWith (fun i x => .tuple [i, x]) xs) it s₂) E s₁) E s := by
  refine genP fun gP hgP => ?_
  obtain ⟨l, vs, rfl, hWl, hl, ra⟩ := r.isList
  refine hgP ?_
  clear hgP
  have e := ra.length
  rw [Array.length_toList] at e
  have hll : l < s.heap.objs.size := by obtain ⟨_, ho, _⟩ := hl; exact Heap.lt_size ho
  refine PySem.call_enumerate_list hl fun h' he hi hs hk => ?_
  refine wpAny_pyIter_enum he ⟨?_, Keeps.trans ks ⟨h', s.toks, rfl, hk⟩⟩
  have T := WalksT.enumerate (prog := prog) (w := w) (A := A) hA.handled (s.heap.objs.size + 1) s.heap.objs.size l (Nat.succ_ne_self _) (Nat.ne_of_lt (Nat.lt_succ_of_lt hll)) (Nat.ne_of_lt hll) vs
  have el : ((rangeD 0 xs.length).zipWith (fun i x => PyData.tuple [i, x]) xs).length = vs.size := by simp [rangeD, e]
  rw [← el] at T
  refine ⟨s.heap, s.heap.objs.size + 1, _, _, _, _, _, Keeps.heap ks, hk, ?_, rfl, ofPair ht T, T.self, ⟨⟨_, he⟩, hi, hl.at fun o q => hk l o q⟩, fun b hb => ?_, fun b hb => ?_, fun i v h hi hp => ?_⟩
  · show _ ≤ h'.objs.size
    rw [hs]; exact Nat.le_add_right _ _
  · show b < h'.objs.size
    rw [hs]
    simp only [List.mem_cons, List.not_mem_nil, or_false] at hb
    rcases hb with rfl | rfl | rfl
    · exact Nat.lt_succ_self _
    · exact Nat.lt_succ_of_lt (Nat.lt_succ_self _)
    · exact Nat.lt_succ_of_lt (Nat.lt_succ_of_lt hll)
  · simp only [List.mem_cons, List.not_mem_nil, or_false] at hb
    rcases hb with rfl | rfl
    · exact Nat.le_succ _
    · exact Nat.le_refl _
  · refine genP fun gP hgP => ?_
    obtain ⟨T', vals, rfl, ⟨t, x, hx, rfl⟩, hT'⟩ := hp
    refine hgP ?_
    clear hgP
    obtain ⟨d, hd, rd⟩ := ra.getV (k := i) (v := x) (by rw [Array.getElem?_toList]; exact hx)
    have hlt : i < xs.length := (List.getElem?_eq_some_iff.mp hd).1
    refine ⟨.tuple [.int i, d], ?_, ?_⟩
    · rw [List.getElem?_zipWith, hd]
      simp [rangeD, hlt]
    · refine genP fun gP hgP => ?_
      obtain ⟨x, px, y, py, k, p, rfl⟩ := isPair_is ht
      refine hgP ?_
      clear hgP
      exact ⟨T', _, _, _, _, rfl, hT', rfl, .int _ _, rd⟩
theorem it_zip {target : Expr} {v1 v2 : Value} {xs ys : List PyData} (hA : AIn k A) (ht : isPair target = true) (ks : Keeps s₀ s) (r1 : Rd (PW W s.heap) v1 (.list xs)) (r2 : Rd (PW W s.heap) v2 (.list ys)) :
    wpAny (model prog w) A (call (.type "zip") [v1, v2]) (fun xv s₁ => wpAny (model prog w) A (pyIter xv) (fun it s₂ => ItR prog w A W s₀ target (xs.zipWith (fun x y => .tuple [x, y]) ys) it s₂) E s₁) E s := by
  refine genP fun gP hgP => ?_
  obtain ⟨l1, vs, rfl, hW1, hl1, ra1⟩ := r1.isList
  refine hgP ?_
  clear hgP
  refine genP fun gP hgP => ?_
  obtain ⟨l2, ws, rfl, hW2, hl2, ra2⟩ := r2.isList
  refine hgP ?_
  clear hgP
  have e1 := ra1.length
  have e2 := ra2.length
  rw [Array.length_toList] at e1 e2
  have h1 : l1 < s.heap.objs.size := by obtain ⟨_, ho, _⟩ := hl1; exact Heap.lt_size ho
  have h2 : l2 < s.heap.objs.size := by obtain ⟨_, ho, _⟩ := hl2; exact Heap.lt_size ho
  refine PySem.call_zip_2 hl1 hl2 fun h' a1 a2 a3 a4 a5 a6 a7 => ?_
  refine wpAny_pyIter_zip a1 ⟨?_, Keeps.trans ks ⟨h', s.toks, rfl, a7⟩⟩
  have D := zipApart_new h1 h2
  have T := WalksT.zip2 (prog := prog) (w := w) (A := A) hA.handled _ _ _ _ _ _ _ D vs ws
  have el : (xs.zipWith (fun x y => PyData.tuple [x, y]) ys).length = min vs.size ws.size := by simp [e1, e2]
  rw [← el] at T
  refine ⟨s.heap, s.heap.objs.size + 4, _, _, _, _, _, Keeps.heap ks, a7, ?_, rfl, ofPair ht T, T.self, ⟨a1, a2, ⟨_, _, a3⟩, a4, a5, hl1.at fun o q => a7 l1 o q, hl2.at fun o q => a7 l2 o q⟩, fun b hb => ?_, fun b hb => ?_, fun i v h hi hp => ?_⟩
  · show _ ≤ h'.objs.size
    rw [a6]; exact Nat.le_add_right _ _
  · show b < h'.objs.size
    rw [a6]
    simp only [List.mem_cons, List.not_mem_nil, or_false] at hb
    exact zipLow h1 h2 hb
  · simp only [List.mem_cons, List.not_mem_nil, or_false] at hb
    exact zipHigh hb
  · refine genP fun gP hgP => ?_
    obtain ⟨T', vals, rfl, ⟨x, y, hx, hy, rfl⟩, hT'⟩ := hp
    refine hgP ?_
    clear hgP
    obtain ⟨d, hd, rd⟩ := ra1.getV (k := i) (v := x) (by rw [Array.getElem?_toList]; exact hx)
    obtain ⟨d', hd', rd'⟩ := ra2.getV (k := i) (v := y) (by rw [Array.getElem?_toList]; exact hy)
    refine ⟨.tuple [d, d'], ?_, ?_⟩
    · rw [List.getElem?_zipWith, hd, hd']
    · refine genP fun gP hgP => ?_
      obtain ⟨x, px, y, py, k, p, rfl⟩ := isPair_is ht
      refine hgP ?_
      clear hgP
      exact ⟨T', _, _, _, _, rfl, hT', rfl, rd, rd'⟩
end
mutual
noncomputable def okE (gs : List Str × List Str) : Nat → Scope → Expr → Bool
  | 0, _, _ => false
  | n + 1, sc, e => match e with
    | .Constant _ _ _ => true
    | .Name x _ => x != ("__debug__" : Str) && x != ("__classdict__" : Str) && (!gs.1.contains x || sc.names.lookup x == some .globalImplicit)
    | .BinOp l _ r _ => okE gs n sc l && okE gs n sc r
    | .UnaryOp _ e _ => okE gs n sc e
    | .Compare l _ rs _ => okE gs n sc l && rs.all (okE gs n sc)
    | .IfExp t b o _ => okE gs n sc t && okE gs n sc b && okE gs n sc o
    | .BoolOp _ es _ => es.all (okE gs n sc)
    | .List es _ => es.all (okE gs n sc)
    | .Tuple es _ _ => es.all (okE gs n sc)
    | .Subscript v i _ => (match slOf i with
      | some s => okE gs n sc v && okO gs n sc s.1 && okO gs n sc s.2.1 && okO gs n sc s.2.2
      | none => okE gs n sc v && okE gs n sc i)
    | .Call f args kws _ => kws.isEmpty && (nmOf f).elim false fun g => g != ("__debug__" : Str) && gs.2.contains g && sc.names.lookup g == some .globalImplicit && args.all (okE gs n sc)
    | .ListComp elt gens scope _ => (genOf gens).elim false fun ti => compOk sc scope (tgts ti.1) && okIt gs n sc ti.1 ti.2 && okE gs n (relabS scope sc) elt
    | _ => false
noncomputable def okO (gs : List Str × List Str) : Nat → Scope → Option Expr → Bool
  | 0, _, _ => false
  | n + 1, sc, o => match o with
    | none => true
    | some e => okE gs n sc e
noncomputable def okIt (gs : List Str × List Str) : Nat → Scope → Expr → Expr → Bool
  | 0, _, _, _ => false
  | n + 1, sc, target, e => match e with
    | .Call f args kws q => okE gs n sc (.Call f args kws q) && (nmOf f).elim false fun g => (if g = "enumerate" then isPair target else if g = "zip" then isPair target else isName target)
    | .Set .. => false
    | e => okE gs n sc e && isName target
end
theorem okE_plain {gs : List Str × List Str} {n : Nat} {sc : Scope} : ∀ {es : List Expr} {env : Env}, es.all (okE gs n sc) = true → starEach es env = es.map fun e => (false, eval e env)
  | [], _, _ => rfl
  | e :: es, env, h => by
    rw [List.all_cons, Bool.and_eq_true] at h
    have ih := okE_plain (env := env) h.2
    cases n with
    | zero => exact ff h.1
    | succ n =>
      cases e
      case Starred => exact ff h.1
      all_goals exact congrArg (List.cons _) ih
theorem back_plain {pos : Pos} {env : Env} : ∀ es : List Expr, backTo pos (es.map fun e => (false, eval e env)) = es.map fun e => (false, eval e env)
  | [] => rfl
  | e :: es => by
    have ih := back_plain (pos := pos) (env := env) es
    unfold backTo at ih ⊢
    rw [List.map_cons, List.map_cons, ih]
    rfl
theorem back_any {env : Env} : ∀ es : List Expr, (es.map fun e => (false, eval e env)).any (·.1) = false
  | [] => rfl
  | e :: es => by rw [List.map_cons, List.any_cons, back_any es]; rfl
structure Glob (prog : Program) (w : World) (hT : Heap) (mg mb : Str → Option Value) (k : Nat) (F : Tab) (G : Str → Option PyData) (gs : List Str × List Str) : Prop where
  cx : Cx prog hT mg mb
  fn : ∀ g, gs.2.contains g = true → ∃ fv, LoadsG mg mb g fv ∧ Kept hT fv ∧ ∀ ds d, F g ds d → ∀ (A : Around) (s : Shared) (W : Addr → Prop) (vs : List Value) (E : Value → Shared → Prop), AIn k A → Up hT s.heap → WOk W hT s.heap → RdAll (PW W s.heap) vs ds →
    wpAny (model prog w) A (call fv vs) (Ret W s (· = d)) E s
  const : ∀ x d, G x = some d → gs.1.contains x = true ∧ ∃ v, mg x = some v ∧ Rd (fun a o => hT.get? a = some o) v d
  range : LoadsG mg mb "range" (.type "range")
  enum : LoadsG mg mb "enumerate" (.type "enumerate")
  zip : LoadsG mg mb "zip" (.type "zip")
section
variable {prog : Program} {w : World} {hT : Heap} {mg mb : Str → Option Value} {k : Nat} {F : Tab} {G : Str → Option PyData} {gs : List Str × List Str}
noncomputable def SndE (prog : Program) (w : World) (hT : Heap) (k : Nat) (F : Tab) (G : Str → Option PyData) (gs : List Str × List Str) (n : Nat) : Prop :=
  ∀ (m : Nat) (e : Expr) (ρ : Sto) (env : Env) (Q : PyData → Prop) (A : Around) (s : Shared) (W : Addr → Prop) (E : Value → Shared → Prop), evE F G n ρ e Q → okE gs m env.scope e = true → EnvOk env → AIn k A → StOk hT W env ρ s.heap →
    wpAny (model prog w) A (eval e env) (Ret W s Q) E s
noncomputable def SndEs (prog : Program) (w : World) (hT : Heap) (k : Nat) (F : Tab) (G : Str → Option PyData) (gs : List Str × List Str) (n : Nat) : Prop :=
  ∀ (m : Nat) (es : List Expr) (ρ : Sto) (env : Env) (K : List PyData → Prop) (A : Around) (s : Shared) (W : Addr → Prop) (E : Value → Shared → Prop), evEs F G n ρ es K → es.all (okE gs m env.scope) = true → EnvOk env → AIn k A → StOk hT W env ρ s.heap →
    wpAny (model prog w) A (spliced (es.map fun e => (false, eval e env))) (fun vs s' => ∃ ds, K ds ∧ RdAll (PW W s'.heap) vs ds ∧ Keeps s s') E s
noncomputable def SndO (prog : Program) (w : World) (hT : Heap) (k : Nat) (F : Tab) (G : Str → Option PyData) (gs : List Str × List Str) (n : Nat) : Prop :=
  ∀ (m : Nat) (o : Option Expr) (ρ : Sto) (env : Env) (K : Option PyData → Prop) (A : Around) (s : Shared) (W : Addr → Prop) (E : Value → Shared → Prop), evO F G n ρ o K → okO gs m env.scope o = true → EnvOk env → AIn k A → StOk hT W env ρ s.heap →
    wpAny (model prog w) A (valueOrNone (evalOpt o env)) (fun v s' => ∃ x, K x ∧ OR W s'.heap v x ∧ Keeps s s') E s
noncomputable def SndB (prog : Program) (w : World) (hT : Heap) (k : Nat) (F : Tab) (G : Str → Option PyData) (gs : List Str × List Str) (n : Nat) : Prop :=
  ∀ (m : Nat) (e : Expr) (ρ : Sto) (env : Env) (Q : Bool → Prop) (A : Around) (s : Shared) (W : Addr → Prop) (E : Value → Shared → Prop), evB F G n ρ e Q → okE gs m env.scope e = true → EnvOk env → AIn k A → StOk hT W env ρ s.heap →
    wpAny (model prog w) A (isTrue e env (eval e env)) (fun b s' => Q b ∧ Keeps s s') E s
noncomputable def SndBs (prog : Program) (w : World) (hT : Heap) (k : Nat) (F : Tab) (G : Str → Option PyData) (gs : List Str × List Str) (n : Nat) : Prop :=
  ∀ (m : Nat) (op : BoolOp) (es : List Expr) (ρ : Sto) (env : Env) (Q : Bool → Prop) (A : Around) (s : Shared) (W : Addr → Prop) (E : Value → Shared → Prop), evBs F G n ρ op es Q → es.all (okE gs m env.scope) = true → EnvOk env → AIn k A → StOk hT W env ρ s.heap →
    wpAny (model prog w) A (allTrue op es env) (fun b s' => Q b ∧ Keeps s s') E s
noncomputable def SndIt (prog : Program) (w : World) (hT : Heap) (k : Nat) (F : Tab) (G : Str → Option PyData) (gs : List Str × List Str) (n : Nat) : Prop :=
  ∀ (m : Nat) (target e : Expr) (ρ : Sto) (env : Env) (K : List PyData → Prop) (A : Around) (s : Shared) (W : Addr → Prop) (E : Value → Shared → Prop), evIt F G n ρ e K → okIt gs m env.scope target e = true → EnvOk env → AIn k A → StOk hT W env ρ s.heap →
    wpAny (model prog w) A (eval e env) (fun xv s₁ => wpAny (model prog w) A (pyIter xv) (fun it s₂ => ∃ items, K items ∧ items.length ≤ 10000 ∧ ItR prog w A W s target items it s₂) E s₁) E s
theorem call_go {g : Str} {p pos : Pos} {args : List Expr} {fv : Value} {n m : Nat} {ρ : Sto} {env : Env} {K : List PyData → Prop} {A : Around} {s : Shared} {W : Addr → Prop} {E : Value → Shared → Prop} {Q : Value → Shared → Prop}
    (C : Cx prog hT mg mb) (sn : SndEs prog w hT k F G gs n) (h : evEs F G n ρ args K) (hok : args.all (okE gs m env.scope) = true) (hE : EnvOk env) (hA : AIn k A) (hS : StOk hT W env ρ s.heap)
    (hg : (g == ("__debug__" : Str)) = false) (hx : env.kindOf g = some .globalImplicit) (hl : LoadsG mg mb g fv) (hk : Kept hT fv)
    (hc : ∀ vs ds s₁, K ds → RdAll (PW W s₁.heap) vs ds → Keeps s s₁ → wpAny (model prog w) A (call fv vs) Q E s₁) : wpAny (model prog w) A (eval (.Call (.Name g p) args [] pos) env) Q E s := by
  rw [arm_eval_Call_Name']
  refine wpAny_bind (global_loads C hS.up hE.kind hE.glob hE.bui hx hl ?_ hg)
  show wpAny _ A (callWith pos fv [] (backTo pos (starEach args env)) []) Q E s
  rw [okE_plain hok, back_plain]
  refine callWith_kept hk (back_any args) ?_
  have main : wpAny (model prog w) A (spliced (args.map fun e => (false, eval e env))) (fun vs s₁ => Up hT s₁.heap ∧ wpAny (model prog w) A (call fv vs) Q E s₁) E s :=
    wpAny_mono (sn m args ρ env K A s W E h hok hE hA hS) (fun vs s₁ x => let ⟨ds, a, b, c⟩ := x; ⟨fun b o e => Keeps.heap c b o (hS.up b o e), hc vs ds s₁ a b c⟩) fun _ _ e => e
  cases args with
  | nil =>
    refine PySem.evalArgs_none ?_
    have hK : K [] := by
      cases n with
      | zero => exact h.elim
      | succ n => exact h
    exact ⟨rfl, hS.up, hc [] [] s hK .nil (Keeps.refl s)⟩
  | cons e es => exact PySem.Calls.evalArgs_plain (wpAny_mono main (fun vs s₁ x => ⟨rfl, x.1, x.2⟩) fun _ _ e => e)
end
section
variable {prog : Program} {w : World} {hT : Heap} {mg mb : Str → Option Value} {k : Nat} {F : Tab} {G : Str → Option PyData} {gs : List Str × List Str}
theorem behind_ok {gs : List Str × List Str} {m : Nat} {sc : Scope} {op : CmpOp} {r : Expr} (h : okE gs m sc r = true) : behindInMarks op r = false := by
  cases m with
  | zero => exact ff h
  | succ m =>
    cases r <;> first | rfl | exact ff h
theorem fold_ok {gs : List Str × List Str} {m : Nat} {sc : Scope} {target e : Expr} {env : Env} (h : okIt gs m sc target e = true) (x : Value) : foldedSetIterable e env x = pure x := by
  cases m with
  | zero => exact ff h
  | succ m =>
    cases e
    case Set => exact ff h
    all_goals rfl
theorem sndEs_step {n : Nat} (hE : SndE prog w hT k F G gs n) (hEs : SndEs prog w hT k F G gs n) : SndEs prog w hT k F G gs (n + 1) := by
  intro m es ρ env K A s W E h hok he hA hS
  cases es with
  | nil => exact PySem.Calls.spliced_nil ⟨[], h, .nil, Keeps.refl s⟩
  | cons e es =>
    rw [List.all_cons, Bool.and_eq_true] at hok
    refine PySem.Calls.spliced_cons (wpAny_mono (hE m e ρ env _ A s W E h hok.1 he hA hS) (fun v s₁ x => ?_) fun _ _ e => e)
    refine genP fun gP hgP => ?_
    obtain ⟨d, hd, rd, ks⟩ := x
    refine hgP ?_
    clear hgP
    refine wpAny_mono (hEs m es ρ env _ A s₁ W E hd hok.2 he hA (hS.keeps (Keeps.heap ks))) (fun vs s₂ x => ?_) fun _ _ e => e
    refine genP fun gP hgP => ?_
    obtain ⟨ds, hds, rds, ks2⟩ := x
    refine hgP ?_
    clear hgP
    exact ⟨d :: ds, hds, .cons (rd.keeps (Keeps.heap ks2)) rds, Keeps.trans ks ks2⟩
theorem sndO_step {n : Nat} (hE : SndE prog w hT k F G gs n) : SndO prog w hT k F G gs (n + 1) := by
  intro m o ρ env K A s W E h hok he hA hS
  cases m with
  | zero => exact ff hok
  | succ m =>
    cases o with
    | none => exact wpAny_pure ⟨none, h, rfl, Keeps.refl s⟩
    | some e =>
      refine wpAny_mono (hE m e ρ env _ A s W E h hok he hA hS) (fun v s₁ x => ?_) fun _ _ e => e
      obtain ⟨d, hd, rd, ks⟩ := x
      exact ⟨some d, hd, rd, ks⟩
theorem sndBs_step {n : Nat} (hB : SndB prog w hT k F G gs n) (hBs : SndBs prog w hT k F G gs n) : SndBs prog w hT k F G gs (n + 1) := by
  intro m op es ρ env Q A s W E h hok he hA hS
  cases es with
  | nil => cases op <;> exact wpAny_pure ⟨h, Keeps.refl s⟩
  | cons e es =>
    rw [List.all_cons, Bool.and_eq_true] at hok
    unfold evBs at h
    dsimp only at h
    have main := hB m e ρ env _ A s W E h hok.1 he hA hS
    cases op with
    | And =>
      refine wpAny_allTrue_And_cons (wpAny_mono main (fun b s₁ x => ?_) fun _ _ e => e)
      obtain ⟨hb, ks⟩ := x
      cases b with
      | false => exact ⟨hb, ks⟩
      | true => exact wpAny_mono (hBs m .And es ρ env Q A s₁ W E hb hok.2 he hA (hS.keeps (Keeps.heap ks))) (fun b s₂ x => ⟨x.1, Keeps.trans ks x.2⟩) fun _ _ e => e
    | Or =>
      refine wpAny_allTrue_Or_cons (wpAny_mono main (fun b s₁ x => ?_) fun _ _ e => e)
      obtain ⟨hb, ks⟩ := x
      cases b with
      | true => exact ⟨hb, ks⟩
      | false => exact wpAny_mono (hBs m .Or es ρ env Q A s₁ W E hb hok.2 he hA (hS.keeps (Keeps.heap ks))) (fun b s₂ x => ⟨x.1, Keeps.trans ks x.2⟩) fun _ _ e => e
theorem sndB_step {n : Nat} (hE : SndE prog w hT k F G gs n) (hB : SndB prog w hT k F G gs n) (hBs : SndBs prog w hT k F G gs n) : SndB prog w hT k F G gs (n + 1) := by
  intro m e ρ env Q A s W E h hok he hA hS
  cases m with
  | zero => exact ff hok
  | succ m =>
  cases e <;> first | exact False.elim h | skip
  case UnaryOp op e' p =>
    cases op <;> first | exact False.elim h | skip
    have h : evB F G n ρ e' (fun b => Q (!b)) := h
    refine wpAny_isTrue_Not (wpAny_mono (hB m e' ρ env _ A s W E h hok he hA hS) (fun b s₁ x => x) fun _ _ e => e)
  case BoolOp op es p =>
    have h : evBs F G n ρ op es Q := h
    exact wpAny_isTrue_BoolOp (hBs m op es ρ env Q A s W E h hok he hA hS)
  case Compare l ops rs p =>
    replace h := elim_is h
    obtain ⟨op, e1, h⟩ := h
    replace h := elim_is h
    obtain ⟨r, e2, h⟩ := h
    replace e1 := one1_is e1
    replace e2 := one1_is e2
    subst e1 e2
    have hok' : okE gs m env.scope l = true ∧ okE gs m env.scope r = true := by
      have q : (okE gs m env.scope l && (okE gs m env.scope r && true)) = true := hok
      rw [Bool.and_true, Bool.and_eq_true] at q
      exact q
    refine wpAny_isTrue_Compare1 (hm := behind_ok hok'.2) (wpAny_mono (hE m l ρ env _ A s W E h hok'.1 he hA hS) (fun va s₁ x => ?_) fun _ _ e => e)
    refine genP fun gP hgP => ?_
    obtain ⟨a, ha, ra, ks⟩ := x
    refine hgP ?_
    clear hgP
    refine wpAny_mono (hE m r ρ env _ A s₁ W E ha hok'.2 he hA (hS.keeps (Keeps.heap ks))) (fun vb s₂ x => ?_) fun _ _ e => e
    refine genP fun gP hgP => ?_
    obtain ⟨b, hb, rb, ks2⟩ := x
    refine hgP ?_
    clear hgP
    refine wpAny_mono (cmp_sound (W := W) hA (ra.keeps (Keeps.heap ks2)) rb hb) (fun vc s₃ x => ?_) fun _ _ e => e
    refine genP fun gP hgP => ?_
    obtain ⟨c, hc, rfl, rfl⟩ := x
    refine hgP ?_
    clear hgP
    exact wpAny_truthy_bool ⟨hc, Keeps.trans ks ks2⟩
  case Call f args kws p =>
    have h : evE F G n ρ (.Call f args kws p) (fun d => truthP d Q) := h
    refine wpAny_isTrue_value (wpAny_mono (hE (m + 1) (.Call f args kws p) ρ env _ A s W E h hok he hA hS) (fun v s₁ x => ?_) fun _ _ e => e)
    refine genP fun gP hgP => ?_
    obtain ⟨d, hd, rd, ks⟩ := x
    refine hgP ?_
    clear hgP
    refine wpAny_mono (truth_sound rd hd) (fun b s₂ x => ?_) fun _ _ e => e
    obtain ⟨hb, rfl⟩ := x
    exact ⟨hb, ks⟩
theorem sndIt_step (GL : Glob prog w hT mg mb k F G gs) {n : Nat} (hE : SndE prog w hT k F G gs n) (hEs : SndEs prog w hT k F G gs n) : SndIt prog w hT k F G gs (n + 1) := by
  intro m target e ρ env K A s W E h hok he hA hS
  have seqs : ∀ (m : Nat) (e : Expr), okE gs m env.scope e = true → isName target = true → evE F G n ρ e (fun d => seqP d K) →
      wpAny (model prog w) A (eval e env) (fun xv s₁ => wpAny (model prog w) A (pyIter xv) (fun it s₂ => ∃ items, K items ∧ items.length ≤ 10000 ∧ ItR prog w A W s target items it s₂) E s₁) E s := fun m e hok ht h => by
    refine wpAny_mono (hE m e ρ env _ A s W E h hok he hA hS) (fun v s₁ x => ?_) fun _ _ e => e
    refine genP fun gP hgP => ?_
    obtain ⟨d, hd, rd, ks⟩ := x
    refine hgP ?_
    clear hgP
    cases d <;> first | exact False.elim hd | skip
    case list => exact wpAny_mono (it_list hA ht ks rd) (fun it s₂ x => ⟨_, hd.2, hd.1, x⟩) fun _ _ e => e
    case tuple => exact wpAny_mono (it_tuple hA ht ks rd) (fun it s₂ x => ⟨_, hd.2, hd.1, x⟩) fun _ _ e => e
  cases m with
  | zero => exact ff hok
  | succ m =>
  have rest : evE F G n ρ e (fun d => seqP d K) → (okE gs m env.scope e && isName target) = true →
      wpAny (model prog w) A (eval e env) (fun xv s₁ => wpAny (model prog w) A (pyIter xv) (fun it s₂ => ∃ items, K items ∧ items.length ≤ 10000 ∧ ItR prog w A W s target items it s₂) E s₁) E s := fun h hok => by
    rw [Bool.and_eq_true] at hok
    exact seqs m _ hok.1 hok.2 h
  cases e <;> first | exact ff hok | exact rest h hok | skip
  case Call f args kws q =>
    have hok : (okE gs m env.scope (.Call f args kws q) && (nmOf f).elim false fun g => (if g = "enumerate" then isPair target else if g = "zip" then isPair target else isName target)) = true := hok
    rw [Bool.and_eq_true] at hok
    obtain ⟨hok, ht⟩ := hok
    obtain ⟨rfl, h⟩ := h
    replace h := elim_is h
    obtain ⟨g, eg, h⟩ := h
    replace eg := nmOf_is eg
    obtain ⟨p, rfl⟩ := eg
    have ht : (if g = "enumerate" then isPair target else if g = "zip" then isPair target else isName target) = true := ht
    have hok2 : (g == ("__debug__" : Str)) = false ∧ env.scope.names.lookup g = some .globalImplicit ∧ ∃ m', args.all (okE gs m' env.scope) = true := by
      cases m with
      | zero => exact ff hok
      | succ m =>
        have hok : (g != ("__debug__" : Str) && gs.2.contains g && env.scope.names.lookup g == some .globalImplicit && args.all (okE gs m env.scope)) = true := hok
        simp only [Bool.and_eq_true] at hok
        exact ⟨by simpa using hok.1.1.1, by simpa using hok.1.2, m, hok.2⟩
    refine genP fun gP hgP => ?_
    obtain ⟨g1, g2, m', g3⟩ := hok2
    refine hgP ?_
    clear hgP
    refine genQE fun Q1 E1 hQ1 hE1 => ?_
    split at h
    · rename_i e1
      subst e1
      rw [if_neg (by decide +kernel), if_neg (by decide +kernel)] at ht
      refine call_go GL.cx hEs h g3 he hA hS g1 g2 GL.range (.inr (.inl ⟨_, rfl⟩)) fun vs ds s₁ hK r ks => ?_
      unfold rangeP at hK
      split at hK
      · rename_i a
        cases r with
        | cons r1 r2 =>
        cases r1; cases r2
        refine PySem.call_range_1 (hQ1 _ _ ?_)
        refine wpAny_mono (it_range (s₀ := s) (W := W) (k := k) hA ht (Keeps.trans ks ⟨_, _, rfl, fun b o q => Heap.get?_push_of_some _ q⟩) (IsRange.new _ _ _ _ _ _ _) (by (first | omega | lia)) (by (first | omega | lia)) hK.1 (by (first | omega | lia))) (fun it s₂ x => ⟨_, hK.2.2, ?_, x⟩) fun _ _ e => e
        have := hK.1
        simp [rangeD]; (first | omega | lia)
      · rename_i a b
        cases r with
        | cons r1 r2 =>
        cases r2 with
        | cons r2 r3 =>
        cases r1; cases r2; cases r3
        refine PySem.call_range_2 (hQ1 _ _ ?_)
        refine genP fun gP hgP => ?_
        obtain ⟨q1, q2, q3, q4, q5⟩ := hK
        refine hgP ?_
        clear hgP
        refine wpAny_mono (it_range (s₀ := s) (W := W) (k := k) hA ht (Keeps.trans ks ⟨_, _, rfl, fun b o q => Heap.get?_push_of_some _ q⟩) (IsRange.new _ _ _ _ _ _ _) q1 q2 q3 (by (first | omega | lia))) (fun it s₂ x => ⟨_, q5.2, q5.1, x⟩) fun _ _ e => e
      · exact hK.elim
    · split at h
      · rename_i e0 e1
        subst e1
        rw [if_pos rfl] at ht
        refine call_go GL.cx hEs h g3 he hA hS g1 g2 GL.enum (.inr (.inl ⟨_, rfl⟩)) fun vs ds s₁ hK r ks => ?_
        unfold enumP at hK
        split at hK
        · rename_i xs
          cases r with
          | cons r1 r2 =>
          cases r2
          refine wpAny_mono (it_enum (s₀ := s) (W := W) (k := k) hA ht ks r1) (fun xv s₂ x => hQ1 _ _ (wpAny_mono x (fun it s₃ x => ⟨_, hK.2, ?_, x⟩) fun _ _ e => e)) hE1
          have := hK.1
          simp [rangeD]; (first | omega | lia)
        · exact hK.elim
      · split at h
        · rename_i e0 e00 e1
          subst e1
          rw [if_neg (by decide +kernel), if_pos rfl] at ht
          refine call_go GL.cx hEs h g3 he hA hS g1 g2 GL.zip (.inr (.inl ⟨_, rfl⟩)) fun vs ds s₁ hK r ks => ?_
          unfold zipP at hK
          split at hK
          · rename_i xs ys
            cases r with
            | cons r1 r2 =>
            cases r2 with
            | cons r2 r3 =>
            cases r3
            refine wpAny_mono (it_zip (s₀ := s) (W := W) (k := k) hA ht ks r1 r2) (fun xv s₂ x => hQ1 _ _ (wpAny_mono x (fun it s₃ x => ⟨_, hK.2.2, ?_, x⟩) fun _ _ e => e)) hE1
            have := hK.1
            simp; (first | omega | lia)
          · exact hK.elim
        · rename_i e0 e1 e2
          rw [if_neg e1, if_neg e2] at ht
          exact wpAny_mono (seqs m _ hok ht h) hQ1 hE1
  case Name x p =>
    have hok : (okE gs m env.scope (.Name x p) && isName target) = true := hok
    have h : (match ρ.get x with
      | some (.rng a b) => -10000 ≤ a ∧ a ≤ 10000 ∧ b ≤ 10000 ∧ -10000 ≤ b ∧ (rangeD a b).length ≤ 10000 ∧ K (rangeD a b)
      | _ => evE F G n ρ (.Name x p) fun d => seqP d K) := h
    cases hx : ρ.get x with
    | none => rw [hx] at h; exact rest h hok
    | some sv =>
    rw [hx] at h
    cases sv with
    | d v => exact rest h hok
    | rng a b =>
      rw [Bool.and_eq_true] at hok
      refine genP fun gP hgP => ?_
      obtain ⟨q1, q2, q3, q4, q5, q6⟩ := h
      refine hgP ?_
      clear hgP
      refine genP fun gP hgP => ?_
      obtain ⟨n0, v, sv, r, t, u, w', rfl, hr, hr2⟩ := hS.rho x _ hx
      refine hgP ?_
      clear hgP
      cases m with
      | zero => exact ff hok.1
      | succ m =>
      have hok3 : (x == ("__debug__" : Str)) = false ∧ (x == ("__classdict__" : Str)) = false := by
        have q : (x != ("__debug__" : Str) && x != ("__classdict__" : Str) && (!gs.1.contains x || env.scope.names.lookup x == some .globalImplicit)) = true := hok.1
        simp only [Bool.and_eq_true] at q
        exact ⟨by simpa using q.1.1, by simpa using q.1.2⟩
      refine name_sees he.kind sv ?_ hok3.1 hok3.2
      exact wpAny_mono (it_range (s₀ := s) (W := W) (k := k) hA hok.2 (Keeps.refl s) hr2 q1 q2 q3 (by (first | omega | lia))) (fun it s₂ x => ⟨_, q6, q5, x⟩) fun _ _ e => e
end
section
variable {prog : Program} {w : World} {hT : Heap} {mg mb : Str → Option Value} {k : Nat} {F : Tab} {G : Str → Option PyData} {gs : List Str × List Str}
theorem and_ok {a b : Bool} (h : (a && b) = true) : a = true ∧ b = true := Bool.and_eq_true_iff.mp h
theorem sndE_step (GL : Glob prog w hT mg mb k F G gs) {n : Nat} (hE : SndE prog w hT k F G gs n) (hEs : SndEs prog w hT k F G gs n) (hO : SndO prog w hT k F G gs n) (hB : SndB prog w hT k F G gs n) (hIt : SndIt prog w hT k F G gs n) : SndE prog w hT k F G gs (n + 1) := by
  intro m e ρ env Q A s W E h hok he hA hS
  cases m with
  | zero => exact ff hok
  | succ m =>
  cases e <;> first | exact False.elim h | skip
  case Constant c a p =>
    cases c <;> first | exact False.elim h | skip
    case none => exact wpAny_Constant_none ⟨_, h, .none, Keeps.refl s⟩
    case bool b => exact wpAny_Constant_bool ⟨_, h, .bool _, Keeps.refl s⟩
    case int i => exact wpAny_Constant_int ⟨_, h, .int _ _, Keeps.toks s _⟩
    case str x => exact wpAny_Constant_str ⟨_, h, .str _ _, Keeps.toks s _⟩
  case Name x p =>
    have hok3 : ((x == ("__debug__" : Str)) = false ∧ (x == ("__classdict__" : Str)) = false) ∧ ((!gs.1.contains x || env.scope.names.lookup x == some NameKind.globalImplicit) = true) := by
      have q : (x != ("__debug__" : Str) && x != ("__classdict__" : Str) && (!gs.1.contains x || env.scope.names.lookup x == some .globalImplicit)) = true := hok
      rw [Bool.and_eq_true, Bool.and_eq_true] at q
      exact ⟨⟨by simpa using q.1.1, by simpa using q.1.2⟩, q.2⟩
    have h : (match ρ.get x with
      | some (.d v) => Q v
      | some (.rng _ _) => False
      | none => match G x with
        | some v => Q v
        | none => False) := h
    cases hx : ρ.get x with
    | some sv =>
      rw [hx] at h
      cases sv with
      | rng => exact False.elim h
      | d v =>
        refine genP fun gP hgP => ?_
        obtain ⟨n0, u, q1, q2⟩ := hS.rho x _ hx
        refine hgP ?_
        clear hgP
        exact name_sees he.kind q1 ⟨_, h, q2, Keeps.refl s⟩ hok3.1.1 hok3.1.2
    | none =>
      rw [hx] at h
      cases hg : G x with
      | none => rw [hg] at h; exact False.elim h
      | some v =>
        rw [hg] at h
        refine genP fun gP hgP => ?_
        obtain ⟨c1, u, c2, c3⟩ := GL.const x v hg
        refine hgP ?_
        clear hgP
        have hk : env.kindOf x = some .globalImplicit := by
          have := hok3.2
          rw [c1] at this
          show env.scope.names.lookup x = _
          simpa using this
        exact global_loads GL.cx hS.up he.kind he.glob he.bui hk (.inl c2) ⟨_, h, c3.mono fun a o q => ⟨hS.up a o q, fun hw => by rw [hS.w.old a hw] at q; cases q⟩, Keeps.refl s⟩ hok3.1.1
  case BinOp l op r p =>
    have h : evE F G n ρ l (fun a => evE F G n ρ r fun b => binP op a b Q) := h
    have hok' : okE gs m env.scope l = true ∧ okE gs m env.scope r = true := and_ok hok
    refine wpAny_BinOp (wpAny_mono (hE m l ρ env _ A s W E h hok'.1 he hA hS) (fun va s₁ x => ?_) fun _ _ e => e)
    refine genP fun gP hgP => ?_
    obtain ⟨a, ha, ra, ks⟩ := x
    refine hgP ?_
    clear hgP
    refine wpAny_mono (hE m r ρ env _ A s₁ W E ha hok'.2 he hA (hS.keeps (Keeps.heap ks))) (fun vb s₂ x => ?_) fun _ _ e => e
    refine genP fun gP hgP => ?_
    obtain ⟨b, hb, rb, ks2⟩ := x
    refine hgP ?_
    clear hgP
    have hS2 := hS.keeps (Keeps.heap (Keeps.trans ks ks2))
    exact wpAny_mono (bin_sound GL.cx hA hS2.up hS2.w.low (ra.keeps (Keeps.heap ks2)) rb hb) (fun v s₃ x => Ret.mono (Keeps.trans ks ks2) x) fun _ _ e => e
  case UnaryOp op e' p =>
    cases op <;> first | exact False.elim h | skip
    have h : evE F G n ρ e' (fun a => intP a fun x => Q (.int (-x))) := h
    refine PySem.wpAny_UnaryOp (wpAny_mono (hE m e' ρ env _ A s W E h hok he hA hS) (fun v s₁ x => ?_) fun _ _ e => e)
    refine genP fun gP hgP => ?_
    obtain ⟨d, hd, rd, ks⟩ := x
    refine hgP ?_
    clear hgP
    replace hd := intP_is hd
    obtain ⟨x, rfl, hd⟩ := hd
    cases rd
    exact PyProof.Rows.neg_int ⟨_, hd, .int _ _, Keeps.trans ks (Keeps.toks _ _)⟩
  case Compare l ops rs p =>
    replace h := elim_is h
    obtain ⟨op, e1, h⟩ := h
    replace h := elim_is h
    obtain ⟨r, e2, h⟩ := h
    replace e1 := one1_is e1
    replace e2 := one1_is e2
    subst e1 e2
    have hok' : okE gs m env.scope l = true ∧ okE gs m env.scope r = true := by
      have q : (okE gs m env.scope l && (okE gs m env.scope r && true)) = true := hok
      rw [Bool.and_true, Bool.and_eq_true] at q
      exact q
    refine wpAny_Compare1 (hm := behind_ok hok'.2) (wpAny_mono (hE m l ρ env _ A s W E h hok'.1 he hA hS) (fun va s₁ x => ?_) fun _ _ e => e)
    refine genP fun gP hgP => ?_
    obtain ⟨a, ha, ra, ks⟩ := x
    refine hgP ?_
    clear hgP
    refine wpAny_mono (hE m r ρ env _ A s₁ W E ha hok'.2 he hA (hS.keeps (Keeps.heap ks))) (fun vb s₂ x => ?_) fun _ _ e => e
    refine genP fun gP hgP => ?_
    obtain ⟨b, hb, rb, ks2⟩ := x
    refine hgP ?_
    clear hgP
    refine wpAny_mono (cmp_sound (W := W) hA (ra.keeps (Keeps.heap ks2)) rb hb) (fun vc s₃ x => ?_) fun _ _ e => e
    refine genP fun gP hgP => ?_
    obtain ⟨c, hc, rfl, rfl⟩ := x
    refine hgP ?_
    clear hgP
    exact ⟨_, hc, .bool c, Keeps.trans ks ks2⟩
  case IfExp t b o p =>
    have h : evB F G n ρ t (fun c => match c with | true => evE F G n ρ b Q | false => evE F G n ρ o Q) := h
    have hok' : (okE gs m env.scope t = true ∧ okE gs m env.scope b = true) ∧ okE gs m env.scope o = true := ⟨and_ok (and_ok hok).1, (and_ok hok).2⟩
    refine wpAny_IfExp (wpAny_mono (hB m t ρ env _ A s W E h hok'.1.1 he hA hS) (fun c s₁ x => ?_) fun _ _ e => e)
    obtain ⟨hc, ks⟩ := x
    have hS1 := hS.keeps (Keeps.heap ks)
    cases c with
    | true => exact wpAny_mono (hE m b ρ env _ A s₁ W E hc hok'.1.2 he hA hS1) (fun v s₂ x => Ret.mono ks x) fun _ _ e => e
    | false => exact wpAny_mono (hE m o ρ env _ A s₁ W E hc hok'.2 he hA hS1) (fun v s₂ x => Ret.mono ks x) fun _ _ e => e
  case List es p =>
    have h : evEs F G n ρ es (fun ds => ds.length ≤ 10000 ∧ Q (.list ds)) := h
    have hok : es.all (okE gs m env.scope) = true := hok
    refine wpAny_List ?_
    rw [okE_plain hok, back_plain]
    refine wpAny_mono (hEs m es ρ env _ A s W E h hok he hA hS) (fun vs s₁ x => ?_) fun _ _ e => e
    refine genP fun gP hgP => ?_
    obtain ⟨ds, ⟨h1, h2⟩, rds, ks⟩ := x
    refine hgP ?_
    clear hgP
    have hS1 := hS.keeps (Keeps.heap ks)
    refine ⟨by rw [rds.length, sizeLine_eq]; (first | lia | omega), Ret.mono ks (ret_newList hS1.w.low (by simpa using rds) h2)⟩
  case Tuple es kk p =>
    have h : evEs F G n ρ es (fun ds => ds.length ≤ 10000 ∧ Q (.tuple ds)) := h
    have hok : es.all (okE gs m env.scope) = true := hok
    refine wpAny_Tuple ?_
    rw [okE_plain hok, back_plain]
    refine wpAny_mono (hEs m es ρ env _ A s W E h hok he hA hS) (fun vs s₁ x => ?_) fun _ _ e => e
    refine genP fun gP hgP => ?_
    obtain ⟨ds, ⟨h1, h2⟩, rds, ks⟩ := x
    refine hgP ?_
    clear hgP
    have hS1 := hS.keeps (Keeps.heap ks)
    refine ⟨by rw [rds.length, sizeLine_eq]; (first | lia | omega), Ret.mono ks (ret_newTuple hS1.w.low (by simpa using rds) h2)⟩
  case Subscript v i p =>
   have h : (match slOf i with
      | some s => evE F G n ρ v fun a => evO F G n ρ s.1 fun x => evO F G n ρ s.2.1 fun y => evO F G n ρ s.2.2 fun z => partP a x y z Q
      | none => evE F G n ρ v fun a => evE F G n ρ i fun i => itemP a i Q) := h
   have hok : (match slOf i with
      | some s => okE gs m env.scope v && okO gs m env.scope s.1 && okO gs m env.scope s.2.1 && okO gs m env.scope s.2.2
      | none => okE gs m env.scope v && okE gs m env.scope i) = true := hok
   cases hs : slOf i with
   | some sl =>
    rw [hs] at h hok
    obtain ⟨lo, hi, st⟩ := sl
    replace hs := slOf_is hs
    obtain ⟨p1, rfl⟩ := hs
    have h : evE F G n ρ v (fun a => evO F G n ρ lo fun x => evO F G n ρ hi fun y => evO F G n ρ st fun z => partP a x y z Q) := h
    have hok' : ((okE gs m env.scope v = true ∧ okO gs m env.scope lo = true) ∧ okO gs m env.scope hi = true) ∧ okO gs m env.scope st = true := ⟨⟨and_ok (and_ok (and_ok hok).1).1, (and_ok (and_ok hok).1).2⟩, (and_ok hok).2⟩
    refine Subscript_ (wpAny_mono (hE m v ρ env _ A s W E h hok'.1.1.1 he hA hS) (fun va s₁ x => ?_) fun _ _ e => e)
    refine genP fun gP hgP => ?_
    obtain ⟨a, ha, ra, ks1⟩ := x
    refine hgP ?_
    clear hgP
    have hS1 := hS.keeps (Keeps.heap ks1)
    rw [arm_eval_Slice]
    refine wpAny_bind (wpAny_mono (hO m lo ρ env _ A s₁ W E ha hok'.1.1.2 he hA hS1) (fun vl s₂ x => ?_) fun _ _ e => e)
    refine genP fun gP hgP => ?_
    obtain ⟨xl, hl, rl, ks2⟩ := x
    refine hgP ?_
    clear hgP
    have hS2 := hS1.keeps (Keeps.heap ks2)
    refine wpAny_bind (wpAny_holding (wpAny_mono (hO m hi ρ env _ A s₂ W E hl hok'.1.2 he hA hS2) (fun vu s₃ x => ?_) fun _ _ e => e))
    refine genP fun gP hgP => ?_
    obtain ⟨xu, hu, ru, ks3⟩ := x
    refine hgP ?_
    clear hgP
    have hS3 := hS2.keeps (Keeps.heap ks3)
    refine wpAny_bind (wpAny_holding (wpAny_mono (hO m st ρ env _ A s₃ W E hu hok'.2 he hA hS3) (fun vk s₄ x => ?_) fun _ _ e => e))
    refine genP fun gP hgP => ?_
    obtain ⟨xk, hk, rk, ks4⟩ := x
    refine hgP ?_
    clear hgP
    have hS4 := hS3.keeps (Keeps.heap ks4)
    refine wpAny_newObj_type (hd := by size_fits) ?_
    have k5 := Keeps.push s₄ { cls := .type "slice", data := .fields #[vl, vu, vk] }
    have hS5 := hS4.keeps (Keeps.heap k5)
    refine wpAny_mono (part_sound (W := W) (s := { s₄ with heap := s₄.heap.push { cls := .type "slice", data := .fields #[vl, vu, vk] } }) hS5.w.low (ra.keeps (Keeps.heap (Keeps.trans ks2 (Keeps.trans ks3 (Keeps.trans ks4 k5))))) (Heap.IsSliceOf.new _ _ _ _)
      (rl.keeps (Keeps.heap (Keeps.trans ks3 (Keeps.trans ks4 k5)))) (ru.keeps (Keeps.heap (Keeps.trans ks4 k5))) (rk.keeps (Keeps.heap k5)) hk) (fun v s₆ x => Ret.mono (Keeps.trans ks1 (Keeps.trans ks2 (Keeps.trans ks3 (Keeps.trans ks4 k5)))) x) fun _ _ e => e
   | none =>
    rw [hs] at h hok
    have h : evE F G n ρ v (fun a => evE F G n ρ i fun i => itemP a i Q) := h
    have hok' : okE gs m env.scope v = true ∧ okE gs m env.scope i = true := and_ok hok
    refine Subscript_ (wpAny_mono (hE m v ρ env _ A s W E h hok'.1 he hA hS) (fun va s₁ x => ?_) fun _ _ e => e)
    refine genP fun gP hgP => ?_
    obtain ⟨a, ha, ra, ks1⟩ := x
    refine hgP ?_
    clear hgP
    refine wpAny_mono (hE m i ρ env _ A s₁ W E ha hok'.2 he hA (hS.keeps (Keeps.heap ks1))) (fun vi s₂ x => ?_) fun _ _ e => e
    refine genP fun gP hgP => ?_
    obtain ⟨j, hj, rj, ks2⟩ := x
    refine hgP ?_
    clear hgP
    exact wpAny_mono (item_sound (ra.keeps (Keeps.heap ks2)) rj hj) (fun v s₃ x => Ret.mono (Keeps.trans ks1 ks2) x) fun _ _ e => e
  case Call f args kws p =>
    obtain ⟨rfl, h⟩ := h
    replace h := elim_is h
    obtain ⟨g, eg, h⟩ := h
    replace eg := nmOf_is eg
    obtain ⟨q, rfl⟩ := eg
    have hok : (g != ("__debug__" : Str) && gs.2.contains g && env.scope.names.lookup g == some .globalImplicit && args.all (okE gs m env.scope)) = true := hok
    simp only [Bool.and_eq_true] at hok
    have hok' : ((g == ("__debug__" : Str)) = false ∧ env.scope.names.lookup g = some .globalImplicit) ∧ args.all (okE gs m env.scope) = true := ⟨⟨by simpa using hok.1.1.1, by simpa using hok.1.2⟩, hok.2⟩
    have hfs : gs.2.contains g = true := hok.1.1.2
    refine genP fun gP hgP => ?_
    obtain ⟨fv, hl, hk, hc⟩ := GL.fn g hfs
    refine hgP ?_
    clear hgP
    refine call_go GL.cx hEs h hok'.2 he hA hS hok'.1.1 hok'.1.2 hl hk fun vs ds s₁ hK r ks => ?_
    obtain ⟨d, hF, hQ⟩ := hK
    have hS1 := hS.keeps (Keeps.heap ks)
    refine wpAny_mono (hc ds d hF A s₁ W vs E hA hS1.up hS1.w r) (fun v s₂ x => ?_) fun _ _ e => e
    refine genP fun gP hgP => ?_
    obtain ⟨d', rfl, rd, ks2⟩ := x
    refine hgP ?_
    clear hgP
    exact ⟨_, hQ, rd, Keeps.trans ks ks2⟩
  case ListComp elt gens scope p =>
    replace h := elim_is h
    obtain ⟨ti, e1, h⟩ := h
    obtain ⟨target, iter⟩ := ti
    replace e1 := genOf_is e1
    subst e1
    have h : evIt F G n ρ iter (fun items => mapP (fun d Q => bindP target d (ρ.under scope) fun ρ' => evE F G n ρ' elt Q) items fun ds => Q (.list ds)) := h
    have hok : (compOk env.scope scope (tgts target) && okIt gs m env.scope target iter && okE gs m (relabS scope env.scope) elt) = true := hok
    have hok' : (compOk env.scope scope (tgts target) = true ∧ okIt gs m env.scope target iter = true) ∧ okE gs m (relabS scope env.scope) elt = true := ⟨and_ok (and_ok hok).1, (and_ok hok).2⟩
    refine comp_sound (fun ρ' Q' => evE F G n ρ' elt Q') he hS hA hok'.1.1 (fold_ok hok'.1.2) (fun W' cenv ρ' Q' s' E' hsc hce hcs hev => ?_) ?_
    · exact hE m elt ρ' cenv Q' A s' W' E' hev (by rw [hsc]; exact hok'.2) hce hA hcs
    · exact hIt m target iter ρ env _ A s W E h hok'.1.2 he hA hS
end
section
variable {prog : Program} {w : World} {hT : Heap} {mg mb : Str → Option Value} {k : Nat} {F : Tab} {G : Str → Option PyData} {gs : List Str × List Str}
theorem sound_all (GL : Glob prog w hT mg mb k F G gs) : ∀ n, SndE prog w hT k F G gs n ∧ SndEs prog w hT k F G gs n ∧ SndO prog w hT k F G gs n ∧ SndB prog w hT k F G gs n ∧ SndBs prog w hT k F G gs n ∧ SndIt prog w hT k F G gs n
  | 0 => by
    refine ⟨?_, ?_, ?_, ?_, ?_, ?_⟩
    · intro m e ρ env Q A s W E h; exact False.elim h
    · intro m e ρ env Q A s W E h; exact False.elim h
    · intro m e ρ env Q A s W E h; exact False.elim h
    · intro m e ρ env Q A s W E h; exact False.elim h
    · intro m e ρ env Q A s W E op h; exact False.elim h
    · intro m e ρ env Q A s W E op h; exact False.elim h
  | n + 1 => by
    obtain ⟨h1, h2, h3, h4, h5, h6⟩ := sound_all GL n
    exact ⟨sndE_step GL h1 h2 h3 h4 h6, sndEs_step h1 h2, sndO_step h1, sndB_step h1 h4 h5, sndBs_step h4 h5, sndIt_step GL h1 h2⟩
theorem soundE (GL : Glob prog w hT mg mb k F G gs) {n m : Nat} {e : Expr} {ρ : Sto} {env : Env} {Q : PyData → Prop} {A : Around} {s : Shared} {W : Addr → Prop} {E : Value → Shared → Prop} (h : evE F G n ρ e Q) (hok : okE gs m env.scope e = true) (he : EnvOk env) (hA : AIn k A) (hS : StOk hT W env ρ s.heap) :
    wpAny (model prog w) A (eval e env) (Ret W s Q) E s := (sound_all GL n).1 m e ρ env Q A s W E h hok he hA hS
theorem soundEs (GL : Glob prog w hT mg mb k F G gs) {n m : Nat} {es : List Expr} {ρ : Sto} {env : Env} {K : List PyData → Prop} {A : Around} {s : Shared} {W : Addr → Prop} {E : Value → Shared → Prop} (h : evEs F G n ρ es K) (hok : es.all (okE gs m env.scope) = true) (he : EnvOk env) (hA : AIn k A) (hS : StOk hT W env ρ s.heap) :
    wpAny (model prog w) A (spliced (es.map fun e => (false, eval e env))) (fun vs s' => ∃ ds, K ds ∧ RdAll (PW W s'.heap) vs ds ∧ Keeps s s') E s := (sound_all GL n).2.1 m es ρ env K A s W E h hok he hA hS
theorem soundB (GL : Glob prog w hT mg mb k F G gs) {n m : Nat} {e : Expr} {ρ : Sto} {env : Env} {Q : Bool → Prop} {A : Around} {s : Shared} {W : Addr → Prop} {E : Value → Shared → Prop} (h : evB F G n ρ e Q) (hok : okE gs m env.scope e = true) (he : EnvOk env) (hA : AIn k A) (hS : StOk hT W env ρ s.heap) :
    wpAny (model prog w) A (isTrue e env (eval e env)) (fun b s' => Q b ∧ Keeps s s') E s := (sound_all GL n).2.2.2.1 m e ρ env Q A s W E h hok he hA hS
end
inductive TV where
  | d (x : PyData)
  | rng (a b : Int)
  | own (xs : List PyData)
  | val (v : Value)
noncomputable abbrev St := List (Str × TV)
noncomputable def St.set : St → Str → TV → St
  | [], x, v => [(x, v)]
  | (y, u) :: r, x, v => if y = x then (y, v) :: r else (y, u) :: St.set r x v
theorem St.get_set (x y : Str) (v : TV) : ∀ (σ : St), (σ.set x v).lookup y = if y = x then some v else σ.lookup y
  | [] => by
    unfold St.set
    rw [List.lookup_cons]
    by_cases h : y = x
    · simp [h]
    · have : (y == x) = false := by simpa using h
      simp [h, this]
  | (z, u) :: r => by
    unfold St.set
    by_cases hz : z = x
    · rw [if_pos hz, List.lookup_cons, List.lookup_cons]
      by_cases h : y = x
      · simp [h, hz]
      · have : (y == z) = false := by simpa [hz] using h
        simp [h, this]
    · rw [if_neg hz, List.lookup_cons, List.lookup_cons, St.get_set x y v r]
      by_cases h : y = z
      · have : ¬ y = x := fun e => hz (h.symm.trans e)
        simp [h, hz]
      · have : (y == z) = false := by simpa using h
        simp [this]
noncomputable def hid : St → Sto
  | [] => []
  | (x, .d v) :: r => (x, .d v) :: hid r
  | (x, .rng a b) :: r => (x, .rng a b) :: hid r
  | (_, .own _) :: r => hid r
  | (_, .val _) :: r => hid r
noncomputable def full : St → Sto
  | [] => []
  | (x, .d v) :: r => (x, .d v) :: full r
  | (x, .rng a b) :: r => (x, .rng a b) :: full r
  | (x, .own xs) :: r => (x, .d (.list xs)) :: full r
  | (_, .val _) :: r => full r
noncomputable def Sees1 (env : Env) (W : Addr → Prop) (h : Heap) (x : Str) (sv : SV) : Prop := x ≠ (".0" : Str) ∧ ∃ u, Sees env h x u ∧ SR W h u sv
theorem hid_get {P : Str → SV → Prop} : ∀ {σ : St}, (∀ x v, (x, TV.d v) ∈ σ → P x (.d v)) → (∀ x a b, (x, TV.rng a b) ∈ σ → P x (.rng a b)) → ∀ x sv, (hid σ).get x = some sv → P x sv
  | [], _, _, x, sv, h => by simp [hid, Sto.get] at h
  | (y, .d v) :: r, h1, h2, x, sv, h => by
    unfold hid Sto.get at h
    rw [List.lookup_cons] at h
    cases q : x == y with
    | true => rw [q] at h; cases h; have := beq_iff_eq.mp q; subst this; exact h1 _ _ (.head _)
    | false => rw [q] at h; exact hid_get (fun x v m => h1 x v (.tail _ m)) (fun x a b m => h2 x a b (.tail _ m)) x sv h
  | (y, .rng a b) :: r, h1, h2, x, sv, h => by
    unfold hid Sto.get at h
    rw [List.lookup_cons] at h
    cases q : x == y with
    | true => rw [q] at h; cases h; have := beq_iff_eq.mp q; subst this; exact h2 _ _ _ (.head _)
    | false => rw [q] at h; exact hid_get (fun x v m => h1 x v (.tail _ m)) (fun x a b m => h2 x a b (.tail _ m)) x sv h
  | (y, .own xs) :: r, h1, h2, x, sv, h => by
    unfold hid at h
    exact hid_get (fun x v m => h1 x v (.tail _ m)) (fun x a b m => h2 x a b (.tail _ m)) x sv h
  | (y, .val w) :: r, h1, h2, x, sv, h => by
    unfold hid at h
    exact hid_get (fun x v m => h1 x v (.tail _ m)) (fun x a b m => h2 x a b (.tail _ m)) x sv h
theorem full_get {P : Str → SV → Prop} : ∀ {σ : St}, (∀ x v, (x, TV.d v) ∈ σ → P x (.d v)) → (∀ x a b, (x, TV.rng a b) ∈ σ → P x (.rng a b)) → (∀ x xs, (x, TV.own xs) ∈ σ → P x (.d (.list xs))) → ∀ x sv, (full σ).get x = some sv → P x sv
  | [], _, _, _, x, sv, h => by simp [full, Sto.get] at h
  | (y, .d v) :: r, h1, h2, h3, x, sv, h => by
    unfold full Sto.get at h
    rw [List.lookup_cons] at h
    cases q : x == y with
    | true => rw [q] at h; cases h; have := beq_iff_eq.mp q; subst this; exact h1 _ _ (.head _)
    | false => rw [q] at h; exact full_get (fun x v m => h1 x v (.tail _ m)) (fun x a b m => h2 x a b (.tail _ m)) (fun x xs m => h3 x xs (.tail _ m)) x sv h
  | (y, .rng a b) :: r, h1, h2, h3, x, sv, h => by
    unfold full Sto.get at h
    rw [List.lookup_cons] at h
    cases q : x == y with
    | true => rw [q] at h; cases h; have := beq_iff_eq.mp q; subst this; exact h2 _ _ _ (.head _)
    | false => rw [q] at h; exact full_get (fun x v m => h1 x v (.tail _ m)) (fun x a b m => h2 x a b (.tail _ m)) (fun x xs m => h3 x xs (.tail _ m)) x sv h
  | (y, .own xs) :: r, h1, h2, h3, x, sv, h => by
    unfold full Sto.get at h
    rw [List.lookup_cons] at h
    cases q : x == y with
    | true => rw [q] at h; cases h; have := beq_iff_eq.mp q; subst this; exact h3 _ _ (.head _)
    | false => rw [q] at h; exact full_get (fun x v m => h1 x v (.tail _ m)) (fun x a b m => h2 x a b (.tail _ m)) (fun x xs m => h3 x xs (.tail _ m)) x sv h
  | (y, .val w) :: r, h1, h2, h3, x, sv, h => by
    unfold full at h
    exact full_get (fun x v m => h1 x v (.tail _ m)) (fun x a b m => h2 x a b (.tail _ m)) (fun x xs m => h3 x xs (.tail _ m)) x sv h
theorem mem_set {x : Str} {v : TV} {y : Str} {u : TV} : ∀ {σ : St}, (σ.map (·.1)).Nodup → (y, u) ∈ σ.set x v → (y = x ∧ u = v) ∨ (y ≠ x ∧ (y, u) ∈ σ)
  | [], _, h => by
    unfold St.set at h
    cases List.mem_singleton.mp h
    exact .inl ⟨rfl, rfl⟩
  | (z, w) :: r, hn, h => by
    rw [List.map_cons, List.nodup_cons] at hn
    unfold St.set at h
    by_cases hz : z = x
    · rw [if_pos hz] at h
      rcases List.mem_cons.mp h with e | h
      · cases e; exact .inl ⟨hz, rfl⟩
      · refine .inr ⟨?_, .tail _ h⟩
        rintro rfl
        subst hz
        exact hn.1 (List.mem_map.mpr ⟨_, h, rfl⟩)
    · rw [if_neg hz] at h
      rcases List.mem_cons.mp h with e | h
      · cases e; exact .inr ⟨hz, .head _⟩
      · rcases mem_set hn.2 h with a | ⟨a, b⟩
        · exact .inl a
        · exact .inr ⟨a, .tail _ b⟩
theorem keys_set {x : Str} {v : TV} {y : Str} : ∀ {σ : St}, y ∈ (σ.set x v).map (·.1) → y = x ∨ y ∈ σ.map (·.1)
  | [], h => by
    unfold St.set at h
    exact .inl (by simpa using h)
  | (z, w) :: r, h => by
    unfold St.set at h
    by_cases hz : z = x
    · rw [if_pos hz, List.map_cons] at h
      exact .inr h
    · rw [if_neg hz, List.map_cons] at h
      rcases List.mem_cons.mp h with e | h
      · exact .inr (by rw [List.map_cons, e]; exact .head _)
      · rcases keys_set h with a | a
        · exact .inl a
        · exact .inr (by rw [List.map_cons]; exact .tail _ a)
theorem nodup_set {x : Str} {v : TV} : ∀ {σ : St}, (σ.map (·.1)).Nodup → ((σ.set x v).map (·.1)).Nodup
  | [], _ => by simp [St.set]
  | (z, w) :: r, hn => by
    rw [List.map_cons, List.nodup_cons] at hn
    unfold St.set
    by_cases hz : z = x
    · rw [if_pos hz, List.map_cons, List.nodup_cons]; exact hn
    · rw [if_neg hz, List.map_cons, List.nodup_cons]
      refine ⟨fun m => ?_, nodup_set hn.2⟩
      rcases keys_set m with e | e
      · exact hz e
      · exact hn.1 e
noncomputable def BO (B : Addr → Prop) (own : Str → Option Addr) (a : Addr) : Prop := B a ∨ ∃ x, own x = some a
structure SOk (hT : Heap) (B U : Addr → Prop) (env : Env) (σ : St) (own : Str → Option Addr) (h : Heap) : Prop where
  up : Up hT h
  w : WOk (BO B own) hT h
  sub : ∀ a, U a → B a
  frame : ∀ x, (env.kindOf x = some .local ∨ env.kindOf x = some .cell) → ∃ a, Place env h x a ∧ U a
  cells : ∀ x c, env.cells.lookup x = some c → ∃ v, h.IsCell c v
  offB : ∀ x a, own x = some a → ¬ B a
  inj : ∀ x y a, own x = some a → own y = some a → x = y
  keys : (σ.map (·.1)).Nodup
  vd : ∀ x v, (x, TV.d v) ∈ σ → Sees1 env (BO B own) h x (.d v)
  vr : ∀ x a b, (x, TV.rng a b) ∈ σ → Sees1 env (BO B own) h x (.rng a b)
  vo : ∀ x xs, (x, TV.own xs) ∈ σ → x ≠ (".0" : Str) ∧ ∃ a vs, own x = some a ∧ Sees env h x (.ref a) ∧ h.PlainList a vs ∧ RdAll (PW (BO B own) h) vs.toList xs
  ow : ∀ x a, own x = some a → ∃ xs, (x, TV.own xs) ∈ σ
  vv : ∀ x v, (x, TV.val v) ∈ σ → x ≠ (".0" : Str) ∧ Sees env h x v
section
variable {hT : Heap} {B U : Addr → Prop} {env : Env} {σ : St} {own : Str → Option Addr} {h h' : Heap}
theorem Sees1.keeps {W : Addr → Prop} {x : Str} {sv : SV} (q : Sees1 env W h x sv) (hk : ∀ b o, h.get? b = some o → h'.get? b = some o) : Sees1 env W h' x sv :=
  let ⟨n, u, a, b⟩ := q; ⟨n, u, a.keeps hk, b.mono (PW.keeps hk)⟩
theorem SOk.keeps (x : SOk hT B U env σ own h) (hk : ∀ b o, h.get? b = some o → h'.get? b = some o) : SOk hT B U env σ own h' where
  up := fun b o e => hk b o (x.up b o e)
  w := x.w.keeps hk
  sub := x.sub
  frame := fun y hy => let ⟨a, p, u⟩ := x.frame y hy; ⟨a, p.keeps hk, u⟩
  cells := fun y c e => let ⟨v, q⟩ := x.cells y c e; ⟨v, q.keeps hk⟩
  offB := x.offB
  inj := x.inj
  keys := x.keys
  vd := fun y v m => (x.vd y v m).keeps hk
  vr := fun y a b m => (x.vr y a b m).keeps hk
  vo := fun y xs m => let ⟨n, a, vs, e1, e2, e3, e4⟩ := x.vo y xs m; ⟨n, a, vs, e1, e2.keeps hk, e3.at fun o e => hk a o e, e4.keeps hk⟩
  ow := x.ow
  vv := fun y v m => let ⟨n, q⟩ := x.vv y v m; ⟨n, q.keeps hk⟩
theorem SOk.hid (x : SOk hT B U env σ own h) : StOk hT (BO B own) env (hid σ) h :=
  ⟨x.up, x.w, x.cells, fun y sv e => hid_get (P := Sees1 env (BO B own) h) x.vd x.vr y sv e⟩
theorem SOk.wB (x : SOk hT B U env σ own h) : WOk B hT h := ⟨fun a q => x.w.old a (.inl q), fun a q => x.w.has a (.inl q)⟩
theorem SOk.full (x : SOk hT B U env σ own h) : StOk hT B env (full σ) h :=
  ⟨x.up, x.wB, x.cells, fun y sv e => full_get (P := Sees1 env B h)
    (fun z v m => let ⟨n, u, a, b⟩ := x.vd z v m; ⟨n, u, a, b.mono fun c o q => ⟨q.1, fun k => q.2 (.inl k)⟩⟩)
    (fun z c d m => let ⟨n, u, a, b⟩ := x.vr z c d m; ⟨n, u, a, b.mono fun c o q => ⟨q.1, fun k => q.2 (.inl k)⟩⟩)
    (fun z xs m => let ⟨n, a, vs, e1, e2, e3, e4⟩ := x.vo z xs m; ⟨n, .ref a, e2, Rd.ofList e3.isList (x.offB z a e1) (e4.mono fun c o q => ⟨q.1, fun k => q.2 (.inl k)⟩)⟩) y sv e⟩
theorem SOk.nt (x : SOk hT B U env σ own h) : ∀ a o, BO B own a → h.get? a = some o → B a ∨ NT o := by
  rintro a o (q | ⟨y, q⟩) e
  · exact .inl q
  · obtain ⟨xs, m⟩ := x.ow y a q
    refine genP fun gP hgP => ?_
    obtain ⟨_, a', vs, e1, _, ⟨n, e3⟩, _⟩ := x.vo y xs m
    refine hgP ?_
    clear hgP
    rw [q] at e1; cases e1
    rw [e] at e3; cases e3
    exact .inr fun c => by have c' : (Value.type "list" : Value) = .type "tuple" := c; simp at c'
theorem SOk.flat (x : SOk hT B U env σ own h) {n : Nat} {v : Value} {d : PyData} (hf : flat n d = true) (r : Rd (PW B h) v d) : Rd (PW (BO B own) h) v d := Rd.flat_off x.nt n hf r
noncomputable def ownDrop (own : Str → Option Addr) (x : Str) (y : Str) : Option Addr := if y = x then none else own y
noncomputable def ownPut (own : Str → Option Addr) (x : Str) (a : Addr) (y : Str) : Option Addr := if y = x then some a else own y
theorem BO_drop {x : Str} {a : Addr} (q : BO B (ownDrop own x) a) : BO B own a := by
  rcases q with q | ⟨y, q⟩
  · exact .inl q
  · unfold ownDrop at q
    split at q
    · cases q
    · exact .inr ⟨y, q⟩
structure Stored (U : Addr → Prop) (env : Env) (x : Str) (u : Value) (h h' : Heap) : Prop where
  keep : ∀ b o, ¬ U b → h.get? b = some o → h'.get? b = some o
  sees : Sees env h' x u
  other : ∀ y v, y ≠ x → Sees env h y v → Sees env h' y v
  place : ∀ y b, Place env h y b → Place env h' y b
  cell : ∀ c, (∃ v, h.IsCell c v) → ∃ v, h'.IsCell c v
  live : ∀ b o, h.get? b = some o → ∃ o', h'.get? b = some o'
theorem SOk.setT (x : SOk hT B U env σ own h) {y : Str} {u : Value} {tv : TV} (hd : ∀ v, tv = .d v → SR (BO B own) h u (.d v)) (hr : ∀ a b, tv = .rng a b → SR (BO B own) h u (.rng a b)) (hv : ∀ v, tv = .val v → u = v) (hno : ∀ xs, tv ≠ .own xs) (hy : y ≠ (".0" : Str)) (st : Stored U env y u h h') :
    SOk hT B U env (σ.set y tv) (ownDrop own y) h' := by
  have k : ∀ b o, PW (BO B own) h b o → PW (BO B (ownDrop own y)) h' b o := fun b o q => ⟨st.keep b o (fun z => q.2 (.inl (x.sub b z))) q.1, fun z => q.2 (BO_drop z)⟩
  have s1 : ∀ z sv, z ≠ y → Sees1 env (BO B own) h z sv → Sees1 env (BO B (ownDrop own y)) h' z sv := fun z sv hz q =>
    let ⟨n, u, a, b⟩ := q; ⟨n, u, st.other z u hz a, b.mono k⟩
  have new : ∀ sv, SR (BO B own) h u sv → Sees1 env (BO B (ownDrop own y)) h' y sv := fun sv r => ⟨hy, u, st.sees, r.mono k⟩
  refine ⟨fun b o e => st.keep b o (fun z => by rw [x.w.old b (.inl (x.sub b z))] at e; cases e) (x.up b o e), ⟨fun a q => x.w.old a (BO_drop q), fun a q => ?_⟩, x.sub, fun z hz => ?_, fun z c e => st.cell c (x.cells z c e), fun z a e => ?_, fun z z' a e e' => ?_, nodup_set x.keys,
    fun z v m => ?_, fun z a b m => ?_, fun z xs m => ?_, fun z a e => ?_, fun z v m => ?_⟩
  · refine genP fun gP hgP => ?_
    obtain ⟨b, o, hb, ho⟩ := x.w.has a (BO_drop q)
    refine hgP ?_
    clear hgP
    obtain ⟨o', ho'⟩ := st.live b o ho
    exact ⟨b, o', hb, ho'⟩
  · obtain ⟨a, p, ua⟩ := x.frame z hz
    exact ⟨a, st.place z a p, ua⟩
  · unfold ownDrop at e
    split at e
    · cases e
    · exact x.offB z a e
  · unfold ownDrop at e e'
    split at e
    · cases e
    · split at e'
      · cases e'
      · exact x.inj z z' a e e'
  · rcases mem_set x.keys m with ⟨rfl, e⟩ | ⟨n, m⟩
    · exact new _ (hd v e.symm)
    · exact s1 z _ n (x.vd z v m)
  · rcases mem_set x.keys m with ⟨rfl, e⟩ | ⟨n, m⟩
    · exact new _ (hr a b e.symm)
    · exact s1 z _ n (x.vr z a b m)
  · rcases mem_set x.keys m with ⟨rfl, e⟩ | ⟨n, m⟩
    · exact absurd e.symm (hno xs)
    · refine genP fun gP hgP => ?_
      obtain ⟨n0, a, vs, e1, e2, e3, e4⟩ := x.vo z xs m
      refine hgP ?_
      clear hgP
      exact ⟨n0, a, vs, by unfold ownDrop; rw [if_neg n]; exact e1, st.other z _ n e2, e3.at fun o e => st.keep a o (fun q => x.offB z a e1 (x.sub a q)) e, e4.mono k⟩
  · unfold ownDrop at e
    split at e
    · cases e
    · rename_i hz
      obtain ⟨xs, m⟩ := x.ow z a e
      refine ⟨xs, ?_⟩
      have : (σ.set y tv).lookup z = some (.own xs) := by
        rw [St.get_set, if_neg hz]
        exact mem_lookup_nodup x.keys m
      exact mem_of_lookup this
  · rcases mem_set x.keys m with ⟨rfl, e⟩ | ⟨n, m⟩
    · exact ⟨hy, (hv v e.symm) ▸ st.sees⟩
    · obtain ⟨n0, q⟩ := x.vv z v m
      exact ⟨n0, st.other z _ n q⟩
theorem SOk.setD (x : SOk hT B U env σ own h) {y : Str} {u : Value} {tv : TV} {sv : SV} (htv : (∃ v, tv = .d v ∧ sv = .d v) ∨ (∃ a b, tv = .rng a b ∧ sv = .rng a b)) (hy : y ≠ (".0" : Str)) (r : SR (BO B own) h u sv) (st : Stored U env y u h h') :
    SOk hT B U env (σ.set y tv) (ownDrop own y) h' := by
  rcases htv with ⟨v, rfl, rfl⟩ | ⟨a, b, rfl, rfl⟩
  · exact x.setT (fun v' e => by cases e; exact r) (fun _ _ e => by cases e) (fun _ e => by cases e) (fun _ e => by cases e) hy st
  · exact x.setT (fun v' e => by cases e) (fun _ _ e => by cases e; exact r) (fun _ e => by cases e) (fun _ e => by cases e) hy st
theorem SOk.setOwn {hb : Heap} (x : SOk hT B U env σ own hb) (hk : ∀ b o, hb.get? b = some o → h.get? b = some o) {y : Str} {a : Addr} {vs : Array Value} {xs : List PyData} (hy : y ≠ (".0" : Str)) (hnew : hb.get? a = none)
    (hpl : h.PlainList a vs) (r : RdAll (fun b o => PW (BO B own) h b o ∧ b ≠ a) vs.toList xs) (hB : ¬ B a) (st : Stored U env y (.ref a) h h') : SOk hT B U env (σ.set y (.own xs)) (ownPut own y a) h' := by
  have hin : ∀ {z}, BO B (ownPut own y a) z → BO B own z ∨ z = a := by
    rintro z (q | ⟨t, q⟩)
    · exact .inl (.inl q)
    · unfold ownPut at q
      split at q
      · cases q; exact .inr rfl
      · exact .inl (.inr ⟨t, q⟩)
  have k1 : ∀ b o, (PW (BO B own) h b o ∧ b ≠ a) → PW (BO B (ownPut own y a)) h' b o := fun b o q => ⟨st.keep b o (fun z => q.1.2 (.inl (x.sub b z))) q.1.1, fun z => (hin z).elim q.1.2 q.2⟩
  have k : ∀ b o, PW (BO B own) hb b o → PW (BO B (ownPut own y a)) h' b o := fun b o q => k1 b o ⟨⟨hk b o q.1, q.2⟩, fun e => by have q1 := q.1; rw [e, hnew] at q1; cases q1⟩
  have s1 : ∀ z sv, z ≠ y → Sees1 env (BO B own) hb z sv → Sees1 env (BO B (ownPut own y a)) h' z sv := fun z sv hz q =>
    let ⟨n, u, c, b⟩ := q; ⟨n, u, st.other z u hz (c.keeps hk), b.mono k⟩
  have hT_a : hT.get? a = none := by
    cases e : hT.get? a with
    | none => rfl
    | some o => rw [x.up a o e] at hnew; cases hnew
  have own_ne : ∀ z, own z ≠ some a := fun z e => by
    obtain ⟨xs', m⟩ := x.ow z a e
    refine genP fun gP hgP => ?_
    obtain ⟨_, a', vs', e1, _, ⟨n, e3⟩, _⟩ := x.vo z xs' m
    refine hgP ?_
    clear hgP
    rw [e] at e1; cases e1
    rw [hnew] at e3; cases e3
  have pl' : h'.PlainList a vs := hpl.at fun o e => st.keep a o (fun q => hB (x.sub a q)) e
  refine ⟨fun b o e => st.keep b o (fun z => by rw [x.w.old b (.inl (x.sub b z))] at e; cases e) (hk b o (x.up b o e)), ⟨fun z q => ?_, fun z q => ?_⟩, x.sub, fun z hz => ?_, fun z c e => st.cell c (let ⟨v, q⟩ := x.cells z c e; ⟨v, q.keeps hk⟩), fun z c e => ?_, fun z z' c e e' => ?_, nodup_set x.keys,
    fun z v m => ?_, fun z c d m => ?_, fun z ys m => ?_, fun z c e => ?_, fun z v m => ?_⟩
  · rcases hin q with q | rfl
    · exact x.w.old z q
    · exact hT_a
  · rcases hin q with q | rfl
    · refine genP fun gP hgP => ?_
      obtain ⟨b, o, hb, ho⟩ := x.w.has z q
      refine hgP ?_
      clear hgP
      obtain ⟨o', ho'⟩ := st.live b o (hk b o ho)
      exact ⟨b, o', hb, ho'⟩
    · obtain ⟨n, e⟩ := pl'
      exact ⟨z, _, Nat.le_refl _, e⟩
  · obtain ⟨c, p, ua⟩ := x.frame z hz
    exact ⟨c, st.place z c (p.keeps hk), ua⟩
  · unfold ownPut at e
    split at e
    · cases e; exact hB
    · exact x.offB z c e
  · unfold ownPut at e e'
    split at e <;> split at e'
    · rename_i e1 e2; exact e1.trans e2.symm
    · cases e; exact absurd e' (own_ne z')
    · cases e'; exact absurd e (own_ne z)
    · exact x.inj z z' c e e'
  · rcases mem_set x.keys m with ⟨rfl, e⟩ | ⟨n, m⟩
    · cases e
    · exact s1 z _ n (x.vd z v m)
  · rcases mem_set x.keys m with ⟨rfl, e⟩ | ⟨n, m⟩
    · cases e
    · exact s1 z _ n (x.vr z c d m)
  · rcases mem_set x.keys m with ⟨rfl, e⟩ | ⟨n, m⟩
    · cases e
      exact ⟨hy, a, vs, by simp [ownPut], st.sees, pl', r.mono k1⟩
    · refine genP fun gP hgP => ?_
      obtain ⟨n0, c, ws, e1, e2, e3, e4⟩ := x.vo z ys m
      refine hgP ?_
      clear hgP
      exact ⟨n0, c, ws, by unfold ownPut; rw [if_neg n]; exact e1, st.other z _ n (e2.keeps hk), e3.at fun o e => st.keep c o (fun q => x.offB z c e1 (x.sub c q)) (hk c o e), e4.mono k⟩
  · unfold ownPut at e
    split at e
    · rename_i hz
      cases e
      subst hz
      exact ⟨xs, mem_of_lookup (by rw [St.get_set, if_pos rfl])⟩
    · rename_i hz
      obtain ⟨ys, m⟩ := x.ow z c e
      exact ⟨ys, mem_of_lookup (by rw [St.get_set, if_neg hz]; exact mem_lookup_nodup x.keys m)⟩
  · rcases mem_set x.keys m with ⟨rfl, e⟩ | ⟨n, m⟩
    · cases e
    · obtain ⟨n0, q⟩ := x.vv z v m
      exact ⟨n0, st.other z _ n (q.keeps hk)⟩
theorem SOk.chgOwn (x : SOk hT B U env σ own h) {y : Str} {a : Addr} {vs : Array Value} {xs : List PyData} (hy : y ≠ (".0" : Str)) (hya : own y = some a) (hsee : Sees env h y (.ref a)) (hs : Heap.SameBut a h h') (hpl : h'.PlainList a vs) (r : RdAll (PW (BO B own) h) vs.toList xs) :
    SOk hT B U env (σ.set y (.own xs)) own h' := by
  have k : ∀ b o, PW (BO B own) h b o → PW (BO B own) h' b o := fun b o q => ⟨hs.extBut b o (fun e => q.2 (.inr ⟨y, e ▸ hya⟩)) q.1, q.2⟩
  have kp : ∀ b o, b ≠ a → h.get? b = some o → h'.get? b = some o := fun b o hb e => hs.extBut b o hb e
  have notU : ∀ b, U b → b ≠ a := fun b q e => x.offB y a hya (x.sub a (e ▸ q))
  have plh : ∃ o, h.get? a = some o ∧ ∃ vs' n, o.data = .seq vs' n := by
    obtain ⟨ys, m⟩ := x.ow y a hya
    refine genP fun gP hgP => ?_
    obtain ⟨_, a', ws, e1, _, ⟨n, e3⟩, _⟩ := x.vo y ys m
    refine hgP ?_
    clear hgP
    rw [hya] at e1; cases e1
    exact ⟨_, e3, _, _, rfl⟩
  have cellne : ∀ {c v}, h.IsCell c v → c ≠ a := by
    rintro c v ⟨o, ho, hd⟩ rfl
    refine genP fun gP hgP => ?_
    obtain ⟨o', ho', _, _, hd'⟩ := plh
    refine hgP ?_
    clear hgP
    rw [ho] at ho'; cases ho'
    rw [hd] at hd'; cases hd'
  have nsne : ∀ {c m}, h.Ns c m → c ≠ a := by
    rintro c m ⟨o, es, ep, ho, hd, _⟩ rfl
    refine genP fun gP hgP => ?_
    obtain ⟨o', ho', _, _, hd'⟩ := plh
    refine hgP ?_
    clear hgP
    rw [ho] at ho'; cases ho'
    rw [hd] at hd'; cases hd'
  have seek : ∀ z v, Sees env h z v → Sees env h' z v := fun z v q => by
    rcases q with ⟨k1, m, n, e⟩ | ⟨k1, c, e1, e2⟩
    · exact .inl ⟨k1, m, n.sameBut hs (nsne n), e⟩
    · exact .inr ⟨k1, c, e1, e2.sameBut hs (cellne e2)⟩
  have s1 : ∀ z sv, Sees1 env (BO B own) h z sv → Sees1 env (BO B own) h' z sv := fun z sv q => let ⟨n, u, c, b⟩ := q; ⟨n, u, seek z u c, b.mono k⟩
  refine ⟨fun b o e => kp b o (fun q => by rw [q, x.w.old a (.inr ⟨y, hya⟩)] at e; cases e) (x.up b o e), ⟨x.w.old, fun z q => ?_⟩, x.sub, fun z hz => ?_, fun z c e => ?_, x.offB, x.inj, nodup_set x.keys, fun z v m => ?_, fun z c d m => ?_, fun z ys m => ?_, fun z c e => ?_, fun z v m => ?_⟩
  · refine genP fun gP hgP => ?_
    obtain ⟨b, o, hb, ho⟩ := x.w.has z q
    refine hgP ?_
    clear hgP
    by_cases e : b = a
    · obtain ⟨n, e3⟩ := hpl
      exact ⟨a, _, e ▸ hb, e3⟩
    · exact ⟨b, o, hb, kp b o e ho⟩
  · obtain ⟨c, p, uc⟩ := x.frame z hz
    refine ⟨c, ?_, uc⟩
    rcases p with ⟨k1, e, m, n⟩ | ⟨k1, e, v, n⟩
    · exact .inl ⟨k1, e, m, n.sameBut hs (nsne n)⟩
    · exact .inr ⟨k1, e, v, n.sameBut hs (cellne n)⟩
  · obtain ⟨v, q⟩ := x.cells z c e
    exact ⟨v, q.sameBut hs (cellne q)⟩
  · rcases mem_set x.keys m with ⟨rfl, e⟩ | ⟨n, m⟩
    · cases e
    · exact s1 z _ (x.vd z v m)
  · rcases mem_set x.keys m with ⟨rfl, e⟩ | ⟨n, m⟩
    · cases e
    · exact s1 z _ (x.vr z c d m)
  · rcases mem_set x.keys m with ⟨rfl, e⟩ | ⟨n, m⟩
    · cases e
      exact ⟨hy, a, vs, hya, seek z _ hsee, hpl, r.mono k⟩
    · refine genP fun gP hgP => ?_
      obtain ⟨n0, c, ws, e1, e2, e3, e4⟩ := x.vo z ys m
      refine hgP ?_
      clear hgP
      exact ⟨n0, c, ws, e1, seek z _ e2, e3.at fun o e => kp c o (fun q => n (x.inj z y a (q ▸ e1) hya)) e, e4.mono k⟩
  · by_cases hz : z = y
    · subst hz
      exact ⟨xs, mem_of_lookup (by rw [St.get_set, if_pos rfl])⟩
    · obtain ⟨ys, m⟩ := x.ow z c e
      exact ⟨ys, mem_of_lookup (by rw [St.get_set, if_neg hz]; exact mem_lookup_nodup x.keys m)⟩
  · rcases mem_set x.keys m with ⟨rfl, e⟩ | ⟨n, m⟩
    · cases e
    · obtain ⟨n0, q⟩ := x.vv z v m
      exact ⟨n0, seek z _ q⟩
end
section
variable {M : Model} {A : Around} {E : Value → Shared → Prop} {s : Shared} {env : Env} {hT : Heap} {B U : Addr → Prop} {σ : St} {own : Str → Option Addr}
theorem store_frame {x : Str} {a : Addr} {v : Value} {Q : Unit → Shared → Prop} (hE : EnvOk env) (p : Place env s.heap x a) (ua : U a)
    (h : ∀ h' tk, Stored U env x v s.heap h' → Q () { s with heap := h', toks := tk }) : wpAny M A (storeName env x v) Q E s := by
  refine store_place hE p fun h' tk hs se pl sees place => h h' tk ⟨fun b o hb e => hs.extBut b o (fun q => hb (q ▸ ua)) e, se, sees, fun y b q => ?_, fun c q => ?_, fun b o e => ?_⟩
  · by_cases hy : y = x
    · subst hy
      have : b = a := by
        rcases q with ⟨k1, e1, _⟩ | ⟨k1, e1, _⟩ <;> rcases p with ⟨k2, e2, _⟩ | ⟨k2, e2, _⟩
        · rw [e1, e2]
        · rw [k1] at k2; cases k2
        · rw [k1] at k2; cases k2
        · rw [e1] at e2; exact Option.some.inj e2
      rw [this]; exact pl
    · exact place y b hy q
  · obtain ⟨v', q⟩ := q
    by_cases hc : c = a
    · subst hc
      rcases p with ⟨_, _, m, n⟩ | ⟨_, _, _⟩
      · exact absurd q (fun q => ns_not_cell n q)
      · rename_i k1 _ _
        rcases pl with ⟨k2, e2, _⟩ | ⟨_, _, v2, q2⟩
        · rw [k1] at k2; cases k2
        · exact ⟨v2, q2⟩
    · exact ⟨v', q.sameBut hs hc⟩
  · by_cases hb : b = a
    · obtain ⟨o', ho', _⟩ := pl.nt
      exact ⟨o', hb ▸ ho'⟩
    · exact ⟨o, hs.extBut b o hb e⟩
end
inductive Out where
  | next (σ : St)
  | ret (d : PyData)
structure Rel (U : Addr → Prop) (own : Str → Option Addr) (s : Shared) (own' : Str → Option Addr) (s' : Shared) : Prop where
  same : ∃ h tk, s' = { s with heap := h, toks := tk }
  keep : ∀ b o, ¬ U b → (∀ x, own x ≠ some b) → s.heap.get? b = some o → s'.heap.get? b = some o
  new : ∀ x b, own' x = some b → (∃ y, own y = some b) ∨ s.heap.get? b = none
  live : ∀ b o, s.heap.get? b = some o → ∃ o', s'.heap.get? b = some o'
theorem Rel.ofKeeps {U : Addr → Prop} {own : Str → Option Addr} {s s' : Shared} (k : Keeps s s') : Rel U own s own s' := by
  obtain ⟨h, t, rfl, hk⟩ := k
  exact ⟨⟨h, t, rfl⟩, fun b o _ _ e => hk b o e, fun x b e => .inl ⟨x, e⟩, fun b o e => ⟨o, hk b o e⟩⟩
theorem Rel.trans {U : Addr → Prop} {own own₁ own₂ : Str → Option Addr} {s s₁ s₂ : Shared} (hU : ∀ x b, own₂ x = some b → ¬ U b) (hU1 : ∀ x b, own₁ x = some b → ¬ U b) (x : Rel U own s own₁ s₁) (y : Rel U own₁ s₁ own₂ s₂) : Rel U own s own₂ s₂ := by
  obtain ⟨⟨h, t, rfl⟩, k1, n1, l1⟩ := x
  obtain ⟨⟨h', t', rfl⟩, k2, n2, l2⟩ := y
  refine ⟨⟨h', t', rfl⟩, fun b o u ho e => k2 b o u (fun z q => ?_) (k1 b o u ho e), fun z b q => ?_, fun b o e => let ⟨o', e'⟩ := l1 b o e; l2 b o' e'⟩
  · rcases n1 z b q with ⟨y, q'⟩ | q'
    · exact ho y q'
    · rw [e] at q'; cases q'
  · rcases n2 z b q with ⟨y, q'⟩ | q'
    · exact n1 y b q'
    · by_cases hb : ∃ y, own y = some b
      · exact .inl hb
      · cases e : s.heap.get? b with
        | none => exact .inr rfl
        | some o =>
          have e2 := k1 b o (hU z b q) (fun y q => hb ⟨y, q⟩) e
          rw [e2] at q'; cases q'
noncomputable def After (hT : Heap) (B U : Addr → Prop) (env : Env) (K : Out → Prop) (own : Str → Option Addr) (s : Shared) (f : Flow) (s' : Shared) : Prop := match f with
  | .next => ∃ σ' own', K (.next σ') ∧ SOk hT B U env σ' own' s'.heap ∧ Rel U own s own' s'
  | .ret v => ∃ d, K (.ret d) ∧ Rd (PW B s'.heap) v d ∧ Rel U own s (fun _ => none) s'
  | _ => False
noncomputable def Exec (prog : Program) (w : World) (hT : Heap) (k : Nat) (sc : Scope) (stmts : List Stmt) (σ : St) (K : Out → Prop) : Prop :=
  ∀ (env : Env), env.scope = sc → EnvOk env → ∀ (A : Around) (s : Shared) (B U : Addr → Prop) (own : Str → Option Addr) (E : Value → Shared → Prop), AIn k A → SOk hT B U env σ own s.heap →
    wpAny (model prog w) A (execs stmts env) (After hT B U env K own s) E s
noncomputable def Ex1 (prog : Program) (w : World) (hT : Heap) (k : Nat) (sc : Scope) (st : Stmt) (σ : St) (K : Out → Prop) : Prop :=
  ∀ (env : Env), env.scope = sc → EnvOk env → ∀ (A : Around) (s : Shared) (B U : Addr → Prop) (own : Str → Option Addr) (E : Value → Shared → Prop), AIn k A → SOk hT B U env σ own s.heap →
    wpAny (model prog w) A (exec st env) (After hT B U env K own s) E s
section
variable {prog : Program} {w : World} {hT : Heap} {mg mb : Str → Option Value} {k : Nat} {F : Tab} {G : Str → Option PyData} {gs : List Str × List Str} {sc : Scope} {σ : St} {K K' : Out → Prop}
theorem SOk.offU {B U : Addr → Prop} {env : Env} {own : Str → Option Addr} {h : Heap} (x : SOk hT B U env σ own h) : ∀ y b, own y = some b → ¬ U b := fun y b e q => x.offB y b e (x.sub b q)
theorem After.pre {B U : Addr → Prop} {env : Env} {own own₁ : Str → Option Addr} {s s₁ s₂ : Shared} {f : Flow} (h1 : ∀ y b, own₁ y = some b → ¬ U b) (r : Rel U own s own₁ s₁) (x : After hT B U env K own₁ s₁ f s₂) : After hT B U env K own s f s₂ := by
  cases f with
  | next =>
    refine genP fun gP hgP => ?_
    obtain ⟨σ', own', a, b, c⟩ := x
    refine hgP ?_
    clear hgP
    exact ⟨σ', own', a, b, r.trans b.offU h1 c⟩
  | ret v =>
    refine genP fun gP hgP => ?_
    obtain ⟨d, a, b, c⟩ := x
    refine hgP ?_
    clear hgP
    exact ⟨d, a, b, r.trans (fun _ _ e => by cases e) h1 c⟩
  | _ => exact x
theorem After.mono {B U : Addr → Prop} {env : Env} {own : Str → Option Addr} {s s₂ : Shared} {f : Flow} (hK : ∀ o, K o → K' o) (x : After hT B U env K own s f s₂) : After hT B U env K' own s f s₂ := by
  cases f with
  | next =>
    refine genP fun gP hgP => ?_
    obtain ⟨σ', own', a, b, c⟩ := x
    refine hgP ?_
    clear hgP
    exact ⟨σ', own', hK _ a, b, c⟩
  | ret v =>
    refine genP fun gP hgP => ?_
    obtain ⟨d, a, b, c⟩ := x
    refine hgP ?_
    clear hgP
    exact ⟨d, hK _ a, b, c⟩
  | _ => exact x
theorem Exec.mono {stmts : List Stmt} (h : Exec prog w hT k sc stmts σ K) (hK : ∀ o, K o → K' o) : Exec prog w hT k sc stmts σ K' := fun env e1 e2 A s B U own E hA hS =>
  wpAny_mono (h env e1 e2 A s B U own E hA hS) (fun f s' x => x.mono hK) fun _ _ e => e
theorem ex_nil (h : K (.next σ)) : Exec prog w hT k sc [] σ K := fun env e1 e2 A s B U own E hA hS =>
  wpAny_execs_nil ⟨σ, own, h, hS, Rel.ofKeeps (Keeps.refl s)⟩
theorem ex_cons {st : Stmt} {rest : List Stmt} (h : Ex1 prog w hT k sc st σ (fun o => match o with | .next σ' => Exec prog w hT k sc rest σ' K | .ret d => K (.ret d))) : Exec prog w hT k sc (st :: rest) σ K :=
  fun env e1 e2 A s B U own E hA hS => by
    refine wpAny_execs_cons (wpAny_mono (h env e1 e2 A s B U own E hA hS) (fun f s' x => ?_) fun _ _ e => e)
    cases f with
    | next =>
      refine genP fun gP hgP => ?_
      obtain ⟨σ', own', a, b, c⟩ := x
      refine hgP ?_
      clear hgP
      exact wpAny_mono (a env e1 e2 A s' B U own' E hA b) (fun f s'' y => y.pre b.offU c) fun _ _ e => e
    | ret v => exact x
    | brk => exact x
    | cont => exact x
theorem pre_keeps {B U : Addr → Prop} {env : Env} {own : Str → Option Addr} {s s₁ s₂ : Shared} {f : Flow} (hS : SOk hT B U env σ own s.heap) (ks : Keeps s s₁) (x : After hT B U env K own s₁ f s₂) : After hT B U env K own s f s₂ :=
  x.pre hS.offU (Rel.ofKeeps ks)
theorem ex_return (GL : Glob prog w hT mg mb k F G gs) {n m : Nat} {e : Expr} {pos : Pos} (h : evE F G n (full σ) e (fun d => K (.ret d))) (hok : okE gs m sc e = true) : Ex1 prog w hT k sc (.Return (some e) pos) σ K :=
  fun env e1 e2 A s B U own E hA hS => by
    subst e1
    refine wpAny_Return_some (wpAny_mono (soundE GL h hok e2 hA hS.full) (fun v s₁ x => ?_) fun _ _ e => e)
    obtain ⟨d, hd, rd, ks⟩ := x
    obtain ⟨h, t, rfl, hk⟩ := ks
    exact ⟨d, hd, rd, ⟨h, t, rfl⟩, fun b o _ _ e => hk b o e, (fun _ _ e => by cases e), fun b o e => ⟨o, hk b o e⟩⟩
theorem ex_if (GL : Glob prog w hT mg mb k F G gs) {n m : Nat} {test : Expr} {body orelse : List Stmt} {pos : Pos}
    (h : evB F G n (full σ) test (fun b => match b with | true => Exec prog w hT k sc body σ K | false => Exec prog w hT k sc orelse σ K)) (hok : okE gs m sc test = true) : Ex1 prog w hT k sc (.If test body orelse pos) σ K :=
  fun env e1 e2 A s B U own E hA hS => by
    have e1' := e1
    subst e1
    refine wpAny_If (wpAny_mono (soundB GL h hok e2 hA hS.full) (fun b s₁ x => ?_) fun _ _ e => e)
    obtain ⟨hb, ks⟩ := x
    cases b with
    | true => exact wpAny_mono (hb env e1' e2 A s₁ B U own E hA (hS.keeps (Keeps.heap ks))) (fun f s₂ x => pre_keeps hS ks x) fun _ _ e => e
    | false => exact wpAny_mono (hb env e1' e2 A s₁ B U own E hA (hS.keeps (Keeps.heap ks))) (fun f s₂ x => pre_keeps hS ks x) fun _ _ e => e
theorem ex_while (GL : Glob prog w hT mg mb k F G gs) {n m j : Nat} {test : Expr} {body : List Stmt} {pos : Pos} (I : Nat → St → Prop) (h0 : I j σ)
    (turn : ∀ j σ, I j σ → evB F G n (full σ) test (fun b => match b with
      | true => Exec prog w hT k sc body σ (fun o => match o with | .next σ' => ∃ j', j' < j ∧ I j' σ' | .ret d => K (.ret d))
      | false => K (.next σ))) (hok : okE gs m sc test = true) : Ex1 prog w hT k sc (.While test body [] pos) σ K :=
  fun env e1 e2 A s B U own E hA hS => by
    have e1' := e1
    subst e1
    refine wpAny_While ?_
    refine codeAny_whileLoop (fun j s' => ∃ σ' own', I j σ' ∧ SOk hT B U env σ' own' s'.heap ∧ Rel U own s own' s') (fun j s' hI => ?_) j ⟨σ, own, h0, hS, Rel.ofKeeps (Keeps.refl s)⟩
    refine genP fun gP hgP => ?_
    obtain ⟨σ', own', hI, hS', hR⟩ := hI
    refine hgP ?_
    clear hgP
    refine wpAny_mono (soundB GL (turn j σ' hI) hok e2 hA hS'.full) (fun b s₁ x => ?_) fun _ _ e => e
    obtain ⟨hb, ks⟩ := x
    have hS1 := hS'.keeps (Keeps.heap ks)
    have hR1 : Rel U own s own' s₁ := hR.trans hS'.offU hS'.offU (Rel.ofKeeps ks)
    cases b with
    | false => exact wpAny_execs_nil ⟨σ', own', hb, hS1, hR1⟩
    | true =>
      refine wpAny_mono (hb env e1' e2 A s₁ B U own' _ hA hS1) (fun f s₂ x => ?_) fun _ _ e => e
      cases f with
      | next =>
        refine genP fun gP hgP => ?_
        obtain ⟨σ₂, own₂, ⟨j', hj, hI'⟩, q2, q3⟩ := x
        refine hgP ?_
        clear hgP
        exact ⟨j', hj, σ₂, own₂, hI', q2, hR1.trans q2.offU hS'.offU q3⟩
      | ret v =>
        refine genP fun gP hgP => ?_
        obtain ⟨d, q1, q2, q3⟩ := x
        refine hgP ?_
        clear hgP
        exact ⟨d, q1, q2, hR1.trans (fun _ _ e => by cases e) hS'.offU q3⟩
      | brk => exact x.elim
      | cont => exact x.elim
noncomputable def isVar (sc : Scope) (x : Str) : Bool := (sc.names.lookup x == some .local || sc.names.lookup x == some .cell) && x != (".0" : Str)
theorem var_place {B U : Addr → Prop} {env : Env} {own : Str → Option Addr} {h : Heap} {x : Str} (hS : SOk hT B U env σ own h) (hx : isVar env.scope x = true) : x ≠ (".0" : Str) ∧ ∃ a, Place env h x a ∧ U a := by
  unfold isVar at hx
  simp only [Bool.and_eq_true, Bool.or_eq_true, beq_iff_eq, bne_iff_ne] at hx
  exact ⟨hx.2, hS.frame x hx.1⟩
noncomputable def noComp : Expr → Bool
  | .ListComp .. => false
  | .SetComp .. => false
  | .DictComp .. => false
  | _ => true
theorem noComp_swaps {e : Expr} (h : noComp e = true) (t : Option Expr) (l : Nat) (env : Env) : swapsWith e t l env = pure false := by
  cases e <;> first | rfl | exact ff h
theorem assign_done {B U : Addr → Prop} {env : Env} {own : Str → Option Addr} {s s₁ : Shared} {x : Str} {u : Value} {tv : TV} {sv : SV} {A : Around} {E : Value → Shared → Prop} (e2 : EnvOk env) (hS : SOk hT B U env σ own s.heap) (ks : Keeps s s₁) (hx : isVar env.scope x = true)
    (htv : (∃ v, tv = .d v ∧ sv = .d v) ∨ (∃ a b, tv = .rng a b ∧ sv = .rng a b)) (r : SR (BO B own) s₁.heap u sv) (hK : K (.next (σ.set x tv))) : wpAny (model prog w) A (storeName env x u) (fun _ => After hT B U env K own s .next) E s₁ := by
  have hS1 := hS.keeps (Keeps.heap ks)
  obtain ⟨h0, a, pa, ua⟩ := var_place hS1 hx
  refine store_frame e2 pa ua fun h' tk st => ?_
  refine ⟨_, _, hK, hS1.setD htv h0 r st, ?_⟩
  obtain ⟨g, t, rfl, hk⟩ := ks
  exact ⟨⟨h', tk, rfl⟩, fun b o hu _ e => st.keep b o hu (hk b o e), fun y b e => by
    unfold ownDrop at e
    split at e
    · cases e
    · exact .inl ⟨y, e⟩, fun b o e => st.live b o (hk b o e)⟩
theorem ex_set (GL : Glob prog w hT mg mb k F G gs) {n m : Nat} {x : Str} {p pos : Pos} {e : Expr} (h : evE F G n (hid σ) e (fun d => K (.next (σ.set x (.d d))))) (hok : okE gs m sc e = true) (hx : isVar sc x = true) (hc : noComp e = true) :
    Ex1 prog w hT k sc (.Assign [.Name x p] e pos) σ K := fun env e1 e2 A s B U own E hA hS => by
  subst e1
  refine wpAny_Assign_Name (wpAny_mono (soundE GL h hok e2 hA hS.hid) (fun v s₁ y => ?_) fun _ _ e => e) (noComp_swaps hc _ _ _)
  refine genP fun gP hgP => ?_
  obtain ⟨d, hd, rd, ks⟩ := y
  refine hgP ?_
  clear hgP
  exact assign_done e2 hS ks hx (.inl ⟨d, rfl, rfl⟩) rd hd
theorem ex_setF (GL : Glob prog w hT mg mb k F G gs) {n m : Nat} {x : Str} {p pos : Pos} {e : Expr} (h : evE F G n (full σ) e (fun d => flat 2 d = true ∧ K (.next (σ.set x (.d d))))) (hok : okE gs m sc e = true) (hx : isVar sc x = true) (hc : noComp e = true) :
    Ex1 prog w hT k sc (.Assign [.Name x p] e pos) σ K := fun env e1 e2 A s B U own E hA hS => by
  subst e1
  refine wpAny_Assign_Name (wpAny_mono (soundE GL h hok e2 hA hS.full) (fun v s₁ y => ?_) fun _ _ e => e) (noComp_swaps hc _ _ _)
  refine genP fun gP hgP => ?_
  obtain ⟨d, ⟨hf, hd⟩, rd, ks⟩ := y
  refine hgP ?_
  clear hgP
  exact assign_done e2 hS ks hx (.inl ⟨d, rfl, rfl⟩) ((hS.keeps (Keeps.heap ks)).flat hf rd) hd
theorem ex_sub (GL : Glob prog w hT mg mb k F G gs) {n m : Nat} {x : Str} {p pos : Pos} {e : Expr} {i : Int} (hi : (x, TV.d (.int i)) ∈ σ) (h : evE F G n (full σ) e (fun d => match d with | .int j => K (.next (σ.set x (.d (.int (i - j))))) | _ => False)) (hok : okE gs m sc e = true) (hx : isVar sc x = true) (hcd : (x == ("__classdict__" : Str)) = false) :
    Ex1 prog w hT k sc (.AugAssign (.Name x p) .Sub e pos) σ K := fun env e1 e2 A s B U own E hA hS => by
  subst e1
  refine genP fun gP hgP => ?_
  obtain ⟨n0, u, su, ru⟩ := hS.vd x _ hi
  refine hgP ?_
  clear hgP
  refine wpAny_AugAssign_Name ?_
  have main : ∀ {Q : Value → Shared → Prop} {E : Value → Shared → Prop}, Q u s → wpAny (model prog w) A (loadName env x) Q E s := fun {Q E} h => by
    rcases su with ⟨a, m, b, c⟩ | ⟨a | a, c, b, d⟩
    · exact wpAny_loadName_local e2.kind a b c h
    · exact wpAny_loadName_cell e2.kind a b d h
    · exact wpAny_loadName_free e2.kind a b d h hcd
  refine main (wpAny_mono (soundE GL h hok e2 hA hS.full) (fun v s₁ y => ?_) fun _ _ e => e)
  refine genP fun gP hgP => ?_
  obtain ⟨d, hd, rd, ks⟩ := y
  refine hgP ?_
  clear hgP
  split at hd
  · rename_i j
    cases rd
    have ru' : Rd (PW (BO B own) s.heap) u (.int i) := ru
    cases ru'
    refine PyProof.Rows.isub_int ?_
    exact assign_done e2 hS (Keeps.trans ks (Keeps.toks _ _)) hx (.inl ⟨_, rfl, rfl⟩) (show Rd _ _ _ from .int _ _) hd
  · exact hd.elim
end
noncomputable def evFr (F : Tab) (G : Str → Option PyData) (n : Nat) (ρ : Sto) (e : Expr) (K : List PyData → Prop) : Prop := match e with
  | .Call f args kws _ => (nmOf f).elim False fun g => (one1 args).elim False fun e => match kws with
    | [] => g = "list" ∧ evEs F G n ρ [e] (fun ds => ∃ d, ds = [d] ∧ seqP d K)
    | _ => False
  | .List es _ => evEs F G n ρ es (fun ds => ds.length ≤ 10000 ∧ K ds)
  | .BinOp l op r _ => (match op with
    | .Add => evE F G n ρ l fun a => evE F G n ρ r fun b => lstP a fun xs => lstP b fun ys => xs.length + ys.length ≤ 10000 ∧ K (xs ++ ys)
    | .Mult => evE F G n ρ l fun a => evE F G n ρ r fun b => lstP a fun xs => intP b fun n => xs.length * n.toNat ≤ 10000 ∧ -10000 ≤ n ∧ n ≤ 10000 ∧ K (List.replicate n.toNat xs).flatten
    | _ => False)
  | _ => False
noncomputable def okFr (gs : List Str × List Str) (n : Nat) (sc : Scope) (e : Expr) : Bool := match e with
  | .Call f args _ _ => (nmOf f).elim false fun g => (one1 args).elim false fun e => sc.names.lookup g == some .globalImplicit && okE gs n sc e
  | .List es _ => es.all (okE gs n sc)
  | .BinOp l _ r _ => okE gs n sc l && okE gs n sc r
  | _ => false
section
variable {prog : Program} {w : World} {hT : Heap} {mg mb : Str → Option Value} {k : Nat} {F : Tab} {G : Str → Option PyData} {gs : List Str × List Str} {sc : Scope} {σ : St} {K K' : Out → Prop}
noncomputable def Fresh (W : Addr → Prop) (s : Shared) (K : List PyData → Prop) (v : Value) (s' : Shared) : Prop :=
  ∃ a vs xs, v = .ref a ∧ K xs ∧ (∀ b o, s.heap.get? b = some o → b < a) ∧ (∀ b, W b → b < a) ∧ s'.heap.PlainList a vs ∧ RdAll (fun b o => PW W s'.heap b o ∧ b ≠ a) vs.toList xs ∧ Keeps s s'
theorem fresh_push {W : Addr → Prop} {s s₁ : Shared} {K : List PyData → Prop} {vs : Array Value} {xs : List PyData} (ks : Keeps s s₁) (hW : Low W s₁.heap) (r : RdAll (PW W s₁.heap) vs.toList xs) (hK : K xs) :
    Fresh W s K (.ref s₁.heap.objs.size) { s₁ with heap := s₁.heap.push { cls := .type "list", data := .seq vs } } :=
  ⟨_, vs, xs, rfl, hK, fun b o e => Heap.lt_size (Keeps.heap ks b o e), hW, ⟨0, Heap.get?_push_size _ rfl⟩, r.mono fun b o q => ⟨⟨Heap.get?_push_of_some _ q.1, q.2⟩, Nat.ne_of_lt (Heap.lt_size q.1)⟩, Keeps.trans ks (Keeps.push s₁ _)⟩
theorem fresh_sound (GL : Glob prog w hT mg mb k F G gs) (GLl : LoadsG mg mb "list" (.type "list")) {n m : Nat} {e : Expr} {ρ : Sto} {env : Env} {K : List PyData → Prop} {A : Around} {s : Shared} {W : Addr → Prop} {E : Value → Shared → Prop} (h : evFr F G n ρ e K) (hok : okFr gs m env.scope e = true) (he : EnvOk env) (hA : AIn k A) (hS : StOk hT W env ρ s.heap) :
    wpAny (model prog w) A (eval e env) (Fresh W s K) E s := by
  cases e <;> first | exact False.elim h | skip
  case Call f args kws p =>
    replace h := elim_is h
    obtain ⟨g, e1, h⟩ := h
    replace h := elim_is h
    obtain ⟨e, e2, h⟩ := h
    replace e1 := nmOf_is e1
    replace e2 := one1_is e2
    obtain ⟨q, rfl⟩ := e1
    subst e2
    cases kws with
    | cons => exact False.elim h
    | nil =>
    obtain ⟨rfl, h⟩ := h
    have hok : (env.scope.names.lookup ("list" : Str) == some .globalImplicit && okE gs m env.scope e) = true := hok
    simp only [Bool.and_eq_true, beq_iff_eq] at hok
    refine call_go (K := fun ds => ∃ d, ds = [d] ∧ seqP d K) (n := n) GL.cx (fun m es ρ env K A s W E => (sound_all GL n).2.1 m es ρ env K A s W E) h (show [e].all (okE gs m env.scope) = true by simpa using hok.2) he hA hS (by decide +kernel) hok.1 GLl (.inr (.inl ⟨_, rfl⟩)) fun vs ds s₁ hK r ks => ?_
    · obtain ⟨d, rfl, hq⟩ := hK
      cases r with
      | cons r1 r2 =>
      cases r2
      have hS1 := hS.keeps (Keeps.heap ks)
      have go : ∀ {T : String} {l : Addr} {o : Obj} {its : Array Value} {n : Nat} {xs : List PyData}, (T = "list" ∨ T = "tuple") → s₁.heap.get? l = some o → o.cls = .type T → o.data = .seq its n → RdAll (PW W s₁.heap) its.toList xs → xs.length ≤ 10000 → K xs →
          wpAny (model prog w) A (call (.type "list") [.ref l]) (Fresh W s K) E s₁ := fun {T l o its n xs} hT' ho hc hd r hl hK => by
        have e1 := r.length
        rw [Array.length_toList] at e1
        refine call_list_seq l hT' ho hc hd (fun h' c' hk' hn => ?_) (by rw [sizeLine_eq]; (first | lia | omega))
        exact ⟨_, its, xs, rfl, hK, fun b o e => Heap.lt_size (Keeps.heap ks b o e), hS1.w.low, ⟨_, hn⟩, r.mono fun b o q => ⟨⟨hk' b o q.1, q.2⟩, Nat.ne_of_lt (Heap.lt_size q.1)⟩, Keeps.trans ks (Keeps.mk' hk')⟩
      cases d <;> first | exact False.elim hq | skip
      case list =>
        refine genP fun gP hgP => ?_
        obtain ⟨l, vs, rfl, _, ⟨o, ho, hc, nn, hd⟩, r⟩ := r1.isList
        refine hgP ?_
        clear hgP
        exact go (.inl rfl) ho hc hd r hq.1 hq.2
      case tuple =>
        refine genP fun gP hgP => ?_
        obtain ⟨l, vs, rfl, _, ⟨o, ho, hc, nn, hd⟩, r⟩ := r1.isTup
        refine hgP ?_
        clear hgP
        exact go (.inr rfl) ho hc hd r hq.1 hq.2
  case List es p =>
    have h : evEs F G n ρ es (fun ds => ds.length ≤ 10000 ∧ K ds) := h
    have hok' : es.all (okE gs m env.scope) = true := hok
    refine wpAny_List ?_
    rw [okE_plain hok', back_plain]
    refine wpAny_mono (soundEs GL h hok' he hA hS) (fun vs s₁ x => ?_) fun _ _ e => e
    refine genP fun gP hgP => ?_
    obtain ⟨ds, ⟨h1, h2⟩, rds, ks⟩ := x
    refine hgP ?_
    clear hgP
    have hS1 := hS.keeps (Keeps.heap ks)
    exact ⟨by rw [rds.length, sizeLine_eq]; (first | lia | omega), fresh_push ks hS1.w.low (by simpa using rds) h2⟩
  case BinOp l op r p =>
   have hok' : okE gs m env.scope l = true ∧ okE gs m env.scope r = true := and_ok hok
   cases op <;> first | exact False.elim h | skip
   case Add =>
    have h : evE F G n ρ l (fun a => evE F G n ρ r fun b => lstP a fun xs => lstP b fun ys => xs.length + ys.length ≤ 10000 ∧ K (xs ++ ys)) := h
    refine wpAny_BinOp (wpAny_mono (soundE GL h hok'.1 he hA hS) (fun va s₁ x => ?_) fun _ _ e => e)
    refine genP fun gP hgP => ?_
    obtain ⟨a, ha, ra, ks⟩ := x
    refine hgP ?_
    clear hgP
    refine wpAny_mono (soundE GL ha hok'.2 he hA (hS.keeps (Keeps.heap ks))) (fun vb s₂ x => ?_) fun _ _ e => e
    refine genP fun gP hgP => ?_
    obtain ⟨b, hb, rb, ks2⟩ := x
    refine hgP ?_
    clear hgP
    have hS2 := hS.keeps (Keeps.heap (Keeps.trans ks ks2))
    replace hb := lstP_is hb
    obtain ⟨xs, rfl, hb⟩ := hb
    replace hb := lstP_is hb
    obtain ⟨ys, rfl, hb⟩ := hb
    · refine genP fun gP hgP => ?_
      obtain ⟨l, vs, rfl, _, hl, r1⟩ := (ra.keeps (Keeps.heap ks2)).isList
      refine hgP ?_
      clear hgP
      refine genP fun gP hgP => ?_
      obtain ⟨l2, ws, rfl, _, hl2, r2⟩ := rb.isList
      refine hgP ?_
      clear hgP
      have hsz : vs.size + ws.size ≤ sizeLine := by
        have e1 := r1.length
        have e2 := r2.length
        rw [Array.length_toList] at e1 e2
        rw [sizeLine_eq, e1, e2]
        have := hb.1
        (first | lia | omega)
      exact cat_go hl hl2 hsz (fresh_push (Keeps.trans ks ks2) hS2.w.low (by rw [Array.toList_append]; exact r1.append r2) hb.2)
   case Mult =>
    have h : evE F G n ρ l (fun a => evE F G n ρ r fun b => lstP a fun xs => intP b fun n => xs.length * n.toNat ≤ 10000 ∧ -10000 ≤ n ∧ n ≤ 10000 ∧ K (List.replicate n.toNat xs).flatten) := h
    refine wpAny_BinOp (wpAny_mono (soundE GL h hok'.1 he hA hS) (fun va s₁ x => ?_) fun _ _ e => e)
    refine genP fun gP hgP => ?_
    obtain ⟨a, ha, ra, ks⟩ := x
    refine hgP ?_
    clear hgP
    refine wpAny_mono (soundE GL ha hok'.2 he hA (hS.keeps (Keeps.heap ks))) (fun vb s₂ x => ?_) fun _ _ e => e
    refine genP fun gP hgP => ?_
    obtain ⟨b, hb, rb, ks2⟩ := x
    refine hgP ?_
    clear hgP
    have hS2 := hS.keeps (Keeps.heap (Keeps.trans ks ks2))
    replace hb := lstP_is hb
    obtain ⟨xs, rfl, hb⟩ := hb
    replace hb := intP_is hb
    obtain ⟨x, rfl, hb⟩ := hb
    · refine genP fun gP hgP => ?_
      obtain ⟨l, vs, rfl, _, hl, r1⟩ := (ra.keeps (Keeps.heap ks2)).isList
      refine hgP ?_
      clear hgP
      cases rb
      rename_i u
      have e1 := r1.length
      rw [Array.length_toList] at e1
      obtain ⟨h1, h2, h3, h4⟩ := hb
      exact rep_go hl (by rw [e1]; exact h1) h2 h3 fun ws q => fresh_push (Keeps.trans ks ks2) hS2.w.low (by rw [q]; exact r1.rep x.toNat) h4
theorem ex_own (GL : Glob prog w hT mg mb k F G gs) (GLl : LoadsG mg mb "list" (.type "list")) {n m : Nat} {x : Str} {p pos : Pos} {e : Expr} (h : evFr F G n (hid σ) e (fun xs => K (.next (σ.set x (.own xs))))) (hok : okFr gs m sc e = true) (hx : isVar sc x = true) (hc : noComp e = true) :
    Ex1 prog w hT k sc (.Assign [.Name x p] e pos) σ K := fun env e1 e2 A s B U own E hA hS => by
  subst e1
  refine wpAny_Assign_Name (wpAny_mono (fresh_sound GL GLl h hok e2 hA hS.hid) (fun v s₁ y => ?_) fun _ _ e => e) (noComp_swaps hc _ _ _)
  refine genP fun gP hgP => ?_
  obtain ⟨a, vs, xs, rfl, hK, hlive, hWa, hpl, r, ks⟩ := y
  refine hgP ?_
  clear hgP
  have hS1 := hS.keeps (Keeps.heap ks)
  refine genP fun gP hgP => ?_
  obtain ⟨h0, c, pa, ua⟩ := var_place hS1 hx
  refine hgP ?_
  clear hgP
  have hnew : s.heap.get? a = none := by
    cases q : s.heap.get? a with
    | none => rfl
    | some o => exact absurd (hlive a o q) (Nat.lt_irrefl _)
  refine store_frame e2 pa ua fun h' tk st => ?_
  refine ⟨_, _, hK, hS.setOwn (Keeps.heap ks) h0 hnew hpl r (fun q => Nat.lt_irrefl _ (hWa a (.inl q))) st, ?_⟩
  refine genP fun gP hgP => ?_
  obtain ⟨g, t, rfl, hk⟩ := ks
  refine hgP ?_
  clear hgP
  exact ⟨⟨h', tk, rfl⟩, fun b o hu _ e => st.keep b o hu (hk b o e), fun y b e => by
    unfold ownPut at e
    split at e
    · cases e; exact .inr hnew
    · exact .inl ⟨y, e⟩, fun b o e => st.live b o (hk b o e)⟩
theorem own_name {B U : Addr → Prop} {env : Env} {own : Str → Option Addr} {s : Shared} {x : Str} {p : Pos} {xs : List PyData} {A : Around} {E : Value → Shared → Prop} {Q : Value → Shared → Prop} (e2 : EnvOk env) (hS : SOk hT B U env σ own s.heap) (hm : (x, TV.own xs) ∈ σ) (hd : (x == ("__debug__" : Str)) = false ∧ (x == ("__classdict__" : Str)) = false)
    (h : ∀ a vs, own x = some a → Sees env s.heap x (.ref a) → s.heap.PlainList a vs → RdAll (PW (BO B own) s.heap) vs.toList xs → Q (.ref a) s) : wpAny (model prog w) A (eval (.Name x p) env) Q E s := by
  refine genP fun gP hgP => ?_
  obtain ⟨n0, a, vs, e1, e3, e4, e5⟩ := hS.vo x xs hm
  refine hgP ?_
  clear hgP
  exact name_sees e2.kind e3 (h a vs e1 e3 e4 e5) hd.1 hd.2
noncomputable def okName (x : Str) : Bool := x != ("__debug__" : Str) && x != ("__classdict__" : Str) && x != (".0" : Str)
theorem okName_ {x : Str} (h : okName x = true) : ((x == ("__debug__" : Str)) = false ∧ (x == ("__classdict__" : Str)) = false) ∧ x ≠ (".0" : Str) := by
  simp only [okName, Bool.and_eq_true] at h
  exact ⟨⟨by simpa using h.1.1, by simpa using h.1.2⟩, by simpa using h.2⟩
theorem chg_done {B U : Addr → Prop} {env : Env} {own : Str → Option Addr} {s s₁ : Shared} {h' : Heap} {x : Str} {a : Addr} {vs : Array Value} {xs : List PyData} (hS1 : SOk hT B U env σ own s₁.heap) (ks : Keeps s s₁) (h0 : x ≠ (".0" : Str)) (hya : own x = some a) (hsee : Sees env s₁.heap x (.ref a))
    (hs : Heap.SameBut a s₁.heap h') (hpl : h'.PlainList a vs) (r : RdAll (PW (BO B own) s₁.heap) vs.toList xs) (hK : K (.next (σ.set x (.own xs)))) : After hT B U env K own s .next { s₁ with heap := h' } := by
  refine ⟨_, _, hK, hS1.chgOwn h0 hya hsee hs hpl r, ?_⟩
  obtain ⟨g, t, rfl, hk⟩ := ks
  exact ⟨⟨h', t, rfl⟩, fun b o hu ho e => hs.extBut b o (fun q => ho x (q ▸ hya)) (hk b o e), fun y b e => .inl ⟨y, e⟩, fun b o e => by
    by_cases hb : b = a
    · obtain ⟨n, q⟩ := hpl
      exact ⟨_, hb ▸ q⟩
    · exact ⟨o, hs.extBut b o hb (hk b o e)⟩⟩
noncomputable def plainArg (gs : List Str × List Str) (m : Nat) (sc : Scope) (e : Expr) : Bool := okE gs m sc e
theorem append_go (GL : Glob prog w hT mg mb k F G gs) {x : Str} {p apos pos pos' : Pos} {e : Expr} {xs : List PyData} {env : Env} {A : Around} {s : Shared} {B U : Addr → Prop} {own : Str → Option Addr} {E : Value → Shared → Prop} (e2 : EnvOk env) (hA : AIn k A) (hS : SOk hT B U env σ own s.heap) (hm : (x, TV.own xs) ∈ σ) (hl : xs.length ≤ 9000) (hn : okName x = true) {m : Nat} (hok : okE gs m env.scope e = true) (hline : (apos.endLine == pos.line) = true)
    (h : wpAny (model prog w) A (eval e env) (fun v s₁ => ∃ d, K (.next (σ.set x (.own (xs ++ [d])))) ∧ Rd (PW (BO B own) s₁.heap) v d ∧ Keeps s s₁) E s) : wpAny (model prog w) A (exec (.Expr (.Call (.Attribute (.Name x p) "append" apos) [e] [] pos) pos') env) (After hT B U env K own s) E s := by
  obtain ⟨n1, n2⟩ := okName_ hn
  have hpl1 : starEach [e] env = [(false, eval e env)] := okE_plain (es := [e]) (show [e].all (okE gs m env.scope) = true by simpa using hok)
  have hb : backTo pos (starEach [e] env) = [(false, eval e env)] := by rw [hpl1]; exact back_plain [e]
  refine wpAny_Expr_any ?_ (by unfold interactive; rw [e2.kind]; rfl) rfl
  refine PySem.wpAny_Call_append rfl (by rw [hb]; rfl) hline hb ?_
  refine own_name e2 hS hm n1 fun a vs ha se pl r => ⟨a, vs, rfl, let ⟨n, q⟩ := pl; ⟨_, n, q, rfl, rfl, rfl⟩, ?_⟩
  refine wpAny_mono h (fun v s₁ y => ?_) fun _ _ e => e
  refine genP fun gP hgP => ?_
  obtain ⟨d, hK, rd, ks⟩ := y
  refine hgP ?_
  clear hgP
  have hS1 := hS.keeps (Keeps.heap ks)
  have e := r.length
  rw [Array.length_toList] at e
  refine wpAny_list_append_plain (pl.at fun o q => Keeps.heap ks a o q) (fun h' hpl' hs' => ?_) (by rw [sizeLine_eq]; (first | lia | omega))
  refine chg_done hS1 ks n2 ha (se.keeps (Keeps.heap ks)) hs' hpl' ?_ hK
  rw [Array.toList_push]
  exact RdAll.append (r.keeps (Keeps.heap ks)) (.cons rd .nil)
theorem ex_append (GL : Glob prog w hT mg mb k F G gs) {n m : Nat} {x : Str} {p apos pos pos' : Pos} {e : Expr} {xs : List PyData} (hm : (x, TV.own xs) ∈ σ) (hl : xs.length ≤ 9000) (h : evE F G n (hid σ) e (fun d => K (.next (σ.set x (.own (xs ++ [d])))))) (hn : okName x = true) (hok : okE gs m sc e = true) (hline : (apos.endLine == pos.line) = true) :
    Ex1 prog w hT k sc (.Expr (.Call (.Attribute (.Name x p) "append" apos) [e] [] pos) pos') σ K := fun env e1 e2 A s B U own E hA hS => by
  subst e1
  refine append_go GL e2 hA hS hm hl hn hok hline (wpAny_mono (soundE GL h hok e2 hA hS.hid) (fun v s₁ y => ?_) fun _ _ e => e)
  obtain ⟨d, hd, rd, ks⟩ := y
  exact ⟨d, hd, rd, ks⟩
theorem ex_appendF (GL : Glob prog w hT mg mb k F G gs) {n m : Nat} {x : Str} {p apos pos pos' : Pos} {e : Expr} {xs : List PyData} (hm : (x, TV.own xs) ∈ σ) (hl : xs.length ≤ 9000) (h : evE F G n (full σ) e (fun d => flat 2 d = true ∧ K (.next (σ.set x (.own (xs ++ [d])))))) (hn : okName x = true) (hok : okE gs m sc e = true) (hline : (apos.endLine == pos.line) = true) :
    Ex1 prog w hT k sc (.Expr (.Call (.Attribute (.Name x p) "append" apos) [e] [] pos) pos') σ K := fun env e1 e2 A s B U own E hA hS => by
  subst e1
  refine append_go GL e2 hA hS hm hl hn hok hline (wpAny_mono (soundE GL h hok e2 hA hS.full) (fun v s₁ y => ?_) fun _ _ e => e)
  refine genP fun gP hgP => ?_
  obtain ⟨d, ⟨hf, hd⟩, rd, ks⟩ := y
  refine hgP ?_
  clear hgP
  exact ⟨d, hd, (hS.keeps (Keeps.heap ks)).flat hf rd, ks⟩
theorem ex_pop {x : Str} {p apos pos pos' : Pos} {xs : List PyData} {y : PyData} (hm : (x, TV.own (xs ++ [y])) ∈ σ) (hl : xs.length ≤ 9000) (h : K (.next (σ.set x (.own xs)))) (hn : okName x = true) (hline : (apos.endLine == pos.line) = true) :
    Ex1 prog w hT k sc (.Expr (.Call (.Attribute (.Name x p) "pop" apos) [] [] pos) pos') σ K := fun env e1 e2 A s B U own E hA hS => by
  subst e1
  obtain ⟨n1, n2⟩ := okName_ hn
  refine wpAny_Expr_any ?_ (by unfold interactive; rw [e2.kind]; rfl) rfl
  refine PySem.wpAny_Call_method (T := "list") (id := "list.pop") rfl rfl hline PySem.F.plainAttrs_list PySem.F.slot_list_pop PySem.F.type_list_pop ?_
  refine own_name e2 hS hm n1 fun a vs ha se pl r => ?_
  obtain ⟨nn, ho⟩ := pl
  have e := r.length
  rw [Array.length_toList, List.length_append] at e
  have e' : vs.size = xs.length + 1 := e
  refine ⟨⟨_, ho, rfl⟩, fun c q => by cases q; exact ⟨_, ho, rfl⟩, ?_⟩
  have hlt : vs.size - 1 < vs.size := by (first | lia | omega)
  refine PySem.P.pop_list (y := vs[vs.size - 1]) (n := nn) ho (Array.getElem?_eq_getElem hlt) ?_ (by rw [sizeLine_eq]; (first | lia | omega))
  have hs : Heap.SameBut a s.heap (s.heap.update a (Obj.mapSeq fun xs => xs.eraseIdxIfInBounds (vs.size - 1))) := Heap.SameBut.update ..
  refine chg_done (vs := vs.pop) (xs := xs) hS (Keeps.refl s) n2 ha se hs ⟨nn + 1, ?_⟩ ?_ h
  · rw [Heap.get?_update_self _ ho rfl, Copied.mapSeq_pop vs nn (by (first | lia | omega)) none #[]]
  · rw [Array.toList_pop]
    have := r.dropLast
    simpa using this
theorem ex_setItem (GL : Glob prog w hT mg mb k F G gs) {n m : Nat} {x : Str} {p px pos : Pos} {e i : Expr} {xs : List PyData} (hm : (x, TV.own xs) ∈ σ)
    (h : evE F G n (hid σ) e (fun d => evE F G n (hid σ) i (fun j => match j with | .int z => 0 ≤ z ∧ z < xs.length ∧ xs.length ≤ 10000 ∧ K (.next (σ.set x (.own (xs.set z.toNat d)))) | _ => False))) (hn : okName x = true) (hok : okE gs m sc e = true) (hoki : okE gs m sc i = true) (hc : noComp e = true) :
    Ex1 prog w hT k sc (.Assign [.Subscript (.Name x p) i px] e pos) σ K := fun env e1 e2 A s B U own E hA hS => by
  subst e1
  obtain ⟨n1, n2⟩ := okName_ hn
  refine PySem.wpAny_Assign_Subscript (wpAny_mono (soundE GL h hok e2 hA hS.hid) (fun v s₁ y => ?_) fun _ _ e => e) (noComp_swaps hc _ _ _)
  refine genP fun gP hgP => ?_
  obtain ⟨d, hd, rd, ks⟩ := y
  refine hgP ?_
  clear hgP
  have hS1 := hS.keeps (Keeps.heap ks)
  refine own_name e2 hS1 hm n1 fun a vs ha se pl r => ?_
  refine wpAny_mono (soundE GL hd hoki e2 hA hS1.hid) (fun iv s₂ y => ?_) fun _ _ e => e
  refine genP fun gP hgP => ?_
  obtain ⟨j, hj, rj, ks2⟩ := y
  refine hgP ?_
  clear hgP
  have hS2 := hS1.keeps (Keeps.heap ks2)
  split at hj
  · rename_i z
    cases rj
    refine genP fun gP hgP => ?_
    obtain ⟨q1, q2, q3, q4⟩ := hj
    refine hgP ?_
    clear hgP
    have e := r.length
    rw [Array.length_toList] at e
    obtain ⟨nn, ho⟩ := pl
    have ho2 := Keeps.heap ks2 a _ ho
    refine ki_setAt (items := vs) (n := nn) ho2 q1 (by (first | lia | omega)) (by (first | lia | omega)) ?_
    have hs : Heap.SameBut a s₂.heap (s₂.heap.update a (Obj.mapSeq (·.setIfInBounds z.toNat v))) := Heap.SameBut.update ..
    refine chg_done (vs := vs.setIfInBounds z.toNat v) (xs := xs.set z.toNat d) hS2 (Keeps.trans ks ks2) n2 ha (se.keeps (Keeps.heap ks2)) hs ⟨_, PySem.IsL.update ho2 _⟩ ?_ q4
    rw [Array.toList_setIfInBounds]
    exact (r.keeps (Keeps.heap ks2)).set (rd.keeps (Keeps.heap ks2)) _
  · exact hj.elim
end
noncomputable def notStar : Expr → Bool
  | .Starred .. => false
  | _ => true
noncomputable def isSw (sc : Scope) (x y : Str) (px py : Pos) (e1 e2 : Expr) : Bool :=
  sc.kind == .function && sc.names.lookup x == some .local && sc.names.lookup y == some .local && px.line == py.line && x != y && notStar e1 && notStar e2 && !([e1, e2].all (foldedForSure 8)) && !([e1, e2].all (constantsAlone 8))
noncomputable def isNoSw (sc : Scope) (x y : Str) (px py : Pos) (e1 e2 : Expr) : Bool :=
  sc.kind == .function && !(sc.names.lookup x == some .local && sc.names.lookup y == some .local && px.line == py.line) && x != y && notStar e1 && notStar e2
noncomputable def isStar : Expr → Bool
  | .Starred .. => true
  | _ => false
theorem star_of {e : Expr} (h : notStar e = true) : isStar e = false := by
  cases e <;> first | rfl | cases h
noncomputable def loc (env : Env) (line : Nat) : Expr → Option Str
  | .Name id pos => if env.kindOf id == some .local && pos.line == line then some id else none
  | _ => none
theorem sw_open {env : Env} {ts vs : List Expr} {k1 k2 : Nat} {tp vp : Pos} : swappedStores [.Tuple ts k1 tp] (.Tuple vs k2 vp) env =
    if (!(ts.length == 2 || ts.length == 3) || vs.length != ts.length || env.blockKind != .function) = true then pure none else if (vs.any isStar) = true then pure none else
      (if ((ts.filterMap (loc env ((ts.head?.map (·.pos.line)).getD 0))).length != ts.length || (ts.filterMap (loc env ((ts.head?.map (·.pos.line)).getD 0))).eraseDups.length != (ts.filterMap (loc env ((ts.head?.map (·.pos.line)).getD 0))).length) = true then pure none
        else if (vs.all (foldedForSure 8)) = true then pure none else if (vs.all (constantsAlone 8)) = true then unsupported "assign.tuple-of-constant-expressions:order-of-the-stores" else pure (some (ts.filterMap (loc env ((ts.head?.map (·.pos.line)).getD 0))))) := rfl
theorem sw_skip {env : Env} {ts vs : List Expr} {k1 k2 : Nat} {tp vp : Pos} (hs : vs.any isStar = false) {a : Expr} (ha : a ∈ ts) (hn : loc env ((ts.head?.map (·.pos.line)).getD 0) a = none) : swappedStores [.Tuple ts k1 tp] (.Tuple vs k2 vp) env = pure none := by
  rw [sw_open]
  by_cases c : (!(ts.length == 2 || ts.length == 3) || vs.length != ts.length || env.blockKind != .function) = true
  · rw [if_pos c]
  · have q : (ts.filterMap (loc env ((ts.head?.map (·.pos.line)).getD 0))).length ≠ ts.length := fun e => by
      have := List.filterMap_length_eq_length.mp e a ha
      rw [hn] at this
      exact ff this
    rw [if_neg c, hs, if_neg Bool.false_ne_true, if_pos (Bool.or_eq_true_iff.mpr (.inl (bne_iff_ne.mpr q)))]
theorem sw_all {env : Env} {ts vs : List Expr} {k1 k2 : Nat} {tp vp : Pos} {names : List Str} (h0 : (!(ts.length == 2 || ts.length == 3) || vs.length != ts.length || env.blockKind != .function) = false) (hs : vs.any isStar = false)
    (hn : ts.filterMap (loc env ((ts.head?.map (·.pos.line)).getD 0)) = names) (h2 : (names.length != ts.length || names.eraseDups.length != names.length) = false) (h3 : vs.all (foldedForSure 8) = false) (h4 : vs.all (constantsAlone 8) = false) :
    swappedStores [.Tuple ts k1 tp] (.Tuple vs k2 vp) env = pure (some names) := by
  subst hn
  rw [sw_open, h0, hs, h2, h3, h4, if_neg Bool.false_ne_true, if_neg Bool.false_ne_true, if_neg Bool.false_ne_true, if_neg Bool.false_ne_true, if_neg Bool.false_ne_true]
theorem any_star {e1 e2 : Expr} (h1 : notStar e1 = true) (h2 : notStar e2 = true) : [e1, e2].any isStar = false := by
  show (isStar e1 || (isStar e2 || false)) = false
  rw [star_of h1, star_of h2]; rfl
theorem sw_yes {env : Env} {x y : Str} {px py tp vp : Pos} {e1 e2 : Expr} {k1 k2 : Nat} (h : isSw env.scope x y px py e1 e2 = true) : swappedStores [.Tuple [.Name x px, .Name y py] k1 tp] (.Tuple [e1, e2] k2 vp) env = pure (some [x, y]) := by
  unfold isSw at h
  simp only [Bool.and_eq_true, beq_iff_eq, bne_iff_ne, Bool.not_eq_true'] at h
  refine genP fun gP hgP => ?_
  obtain ⟨⟨⟨⟨⟨⟨⟨⟨h1, h2⟩, h3⟩, h4⟩, h5⟩, h6⟩, h7⟩, h8⟩, h9⟩ := h
  refine hgP ?_
  clear hgP
  have hb : (env.blockKind != .function) = false := by unfold Env.blockKind; rw [h1]; rfl
  have kx : env.kindOf x = some .local := h2
  have ky : env.kindOf y = some .local := h3
  have e5 : (y == x) = false := beq_eq_false_iff_ne.mpr fun e => h5 e.symm
  refine sw_all (by show (false || env.blockKind != .function) = false; rw [hb]; rfl) (any_star h6 h7) ?_ ?_ h8 h9
  · show List.filterMap (loc env px.line) _ = _
    have c1 : loc env px.line (.Name x px) = some x := by
      show (if (env.kindOf x == some .local && px.line == px.line) = true then some x else none) = some x
      rw [if_pos (by rw [kx, beq_self_eq_true, beq_self_eq_true]; rfl)]
    have c2 : loc env px.line (.Name y py) = some y := by
      show (if (env.kindOf y == some .local && py.line == px.line) = true then some y else none) = some y
      rw [if_pos (by rw [ky, beq_self_eq_true, h4, beq_self_eq_true]; rfl)]
    rw [List.filterMap_cons_some c1, List.filterMap_cons_some c2, List.filterMap_nil]
  · show (false || ([x, y].eraseDups.length != 2)) = false
    rw [List.eraseDups_cons, List.filter_cons, e5]
    rfl
theorem sw_no {env : Env} {x y : Str} {px py tp vp : Pos} {e1 e2 : Expr} {k1 k2 : Nat} (h : isNoSw env.scope x y px py e1 e2 = true) : swappedStores [.Tuple [.Name x px, .Name y py] k1 tp] (.Tuple [e1, e2] k2 vp) env = pure none := by
  unfold isNoSw at h
  simp only [Bool.and_eq_true, Bool.not_eq_true'] at h
  refine genP fun gP hgP => ?_
  obtain ⟨⟨⟨⟨h1, h2⟩, h5⟩, h6⟩, h7⟩ := h
  refine hgP ?_
  clear hgP
  have hs := any_star h6 h7
  have no : ∀ {z : Str} {p : Pos}, (env.scope.names.lookup z == some .local && p.line == px.line) = false → loc env px.line (.Name z p) = none := fun {z p} q => by
    show (if (env.scope.names.lookup z == some .local && p.line == px.line) = true then some z else none) = none
    rw [q]; rfl
  by_cases a : (env.scope.names.lookup x == some .local && px.line == px.line) = false
  · exact sw_skip hs (.head _) (no a)
  · by_cases b : (env.scope.names.lookup y == some .local && py.line == px.line) = false
    · exact sw_skip hs (.tail _ (.head _)) (no b)
    · have a := Bool.and_eq_true_iff.mp ((Bool.not_eq_false _).mp a)
      have b := Bool.and_eq_true_iff.mp ((Bool.not_eq_false _).mp b)
      rw [a.1, b.1, ← eq_of_beq b.2, beq_self_eq_true] at h2
      exact ff h2.symm
section
variable {prog : Program} {w : World} {hT : Heap} {mg mb : Str → Option Value} {k : Nat} {F : Tab} {G : Str → Option PyData} {gs : List Str × List Str} {sc : Scope} {σ : St} {K K' : Out → Prop}
theorem SR.stored {B U : Addr → Prop} {own : Str → Option Addr} {env : Env} {h h' : Heap} {x : Str} {u v : Value} {sv : SV} (hsub : ∀ a, U a → B a) (r : SR (BO B own) h u sv) (st : Stored U env x v h h') : SR (BO B (ownDrop own x)) h' u sv :=
  r.mono fun b o q => ⟨st.keep b o (fun z => q.2 (.inl (hsub b z))) q.1, fun z => q.2 (BO_drop z)⟩
theorem put2 {B U : Addr → Prop} {env : Env} {own : Str → Option Addr} {s s₁ : Shared} {x y : Str} {u v : Value} {a b : PyData} {A : Around} {E : Value → Shared → Prop} (e2 : EnvOk env) (hS : SOk hT B U env σ own s.heap) (ks : Keeps s s₁) (hx : isVar env.scope x = true) (hy : isVar env.scope y = true)
    (r1 : Rd (PW (BO B own) s₁.heap) u a) (r2 : Rd (PW (BO B own) s₁.heap) v b) (hK : K (.next ((σ.set x (.d a)).set y (.d b)))) :
    wpAny (model prog w) A (storeName env x u) (fun _ s' => wpAny (model prog w) A (storeName env y v) (fun _ => After hT B U env K own s .next) E s') E s₁ := by
  have hS1 := hS.keeps (Keeps.heap ks)
  obtain ⟨h0, c, pa, ua⟩ := var_place hS1 hx
  refine store_frame e2 pa ua fun h' tk st => ?_
  have hS2 := hS1.setD (.inl ⟨a, rfl, rfl⟩) h0 (show SR _ _ _ (.d a) from r1) st
  have r2' : SR (BO B (ownDrop own x)) h' v (.d b) := SR.stored hS1.sub (show SR _ _ _ (.d b) from r2) st
  refine wpAny_mono (assign_done (s := { s₁ with heap := h', toks := tk }) (s₁ := { s₁ with heap := h', toks := tk }) e2 hS2 (Keeps.refl _) hy (.inl ⟨b, rfl, rfl⟩) r2' hK) (fun _ s₂ x => x.pre hS2.offU ?_) fun _ _ e => e
  obtain ⟨g, t, rfl, hk⟩ := ks
  exact ⟨⟨h', tk, rfl⟩, fun b o hu _ e => st.keep b o hu (hk b o e), (fun y b e => by
    unfold ownDrop at e
    split at e
    · cases e
    · exact .inl ⟨y, e⟩), fun b o e => st.live b o (hk b o e)⟩
theorem tup_eval (GL : Glob prog w hT mg mb k F G gs) {n m : Nat} {es : List Expr} {kk : Nat} {vp : Pos} {ρ : Sto} {env : Env} {K : List PyData → Prop} {A : Around} {s : Shared} {W : Addr → Prop} {E : Value → Shared → Prop} (h : evEs F G n ρ es (fun ds => ds.length ≤ 10000 ∧ K ds)) (hok : es.all (okE gs m env.scope) = true) (he : EnvOk env) (hA : AIn k A) (hS : StOk hT W env ρ s.heap) :
    wpAny (model prog w) A (eval (.Tuple es kk vp) env) (fun v s₁ => ∃ t vs ds, v = .ref t ∧ IsTup s₁.heap t vs ∧ K ds ∧ RdAll (PW W s₁.heap) vs.toList ds ∧ Keeps s s₁) E s := by
  refine wpAny_Tuple ?_
  rw [okE_plain hok, back_plain]
  refine wpAny_mono (soundEs GL h hok he hA hS) (fun vs s₁ x => ?_) fun _ _ e => e
  refine genP fun gP hgP => ?_
  obtain ⟨ds, ⟨h1, h2⟩, rds, ks⟩ := x
  refine hgP ?_
  clear hgP
  refine ⟨by rw [rds.length, sizeLine_eq]; (first | lia | omega), s₁.heap.objs.size, vs.toArray, ds, rfl, ⟨_, Heap.get?_push_size _ rfl, rfl, 0, rfl⟩, h2, ?_, Keeps.trans ks (Keeps.push _ _)⟩
  simpa using rds.keeps fun b o e => Heap.get?_push_of_some _ e
theorem two_vals {P : Addr → Obj → Prop} {vs : Array Value} {a b : PyData} (r : RdAll P vs.toList [a, b]) : ∃ u v, vs = #[u, v] ∧ Rd P u a ∧ Rd P v b := by
  obtain ⟨l⟩ := vs
  have r' : RdAll P l [a, b] := r
  cases r' with
  | cons r1 r2 =>
  cases r2 with
  | cons r2 r3 =>
  cases r3
  exact ⟨_, _, rfl, r1, r2⟩
theorem ext_keeps {s : Shared} {h' : Heap} (he : Heap.ExtBut s.heap.objs.size s.heap h') : Keeps s { s with heap := h' } := Keeps.mk' (t := s.toks) fun b o e => he b o (Nat.ne_of_lt (Heap.lt_size e)) e
theorem ex_tup2 (GL : Glob prog w hT mg mb k F G gs) {n m : Nat} {x y : Str} {px py tp vp pos : Pos} {k1 k2 : Nat} {e1 e2 : Expr}
    (h : evEs F G n (hid σ) [e1, e2] (fun ds => ds.length ≤ 10000 ∧ match ds with | [a, b] => K (.next ((σ.set y (.d b)).set x (.d a))) | _ => False)) (hok : [e1, e2].all (okE gs m sc) = true) (hx : isVar sc x = true) (hy : isVar sc y = true) (hsw : isSw sc x y px py e1 e2 = true) :
    Ex1 prog w hT k sc (.Assign [.Tuple [.Name x px, .Name y py] k1 tp] (.Tuple [e1, e2] k2 vp) pos) σ K := fun env q1 q2 A s B U own E hA hS => by
  subst q1
  refine Assign_Tuple_swapped (names := [x, y]) (wpAny_mono (tup_eval GL h hok q2 hA hS.hid) (fun v s₁ z => ?_) fun _ _ e => e) rfl (sw_yes hsw)
  refine genP fun gP hgP => ?_
  obtain ⟨t, vs, ds, rfl, ht, hK, r, ks⟩ := z
  refine hgP ?_
  clear hgP
  split at hK
  · rename_i a b
    refine genP fun gP hgP => ?_
    obtain ⟨u, v, rfl, r1, r2⟩ := two_vals r
    refine hgP ?_
    clear hgP
    refine unpackItems_tuple (items := #[u, v]) hA.handled ht fun h' he => ?_
    have ks2 := Keeps.trans ks (ext_keeps he)
    show wpAny _ A (assignInOrder [fun v => bindName env y v, fun v => bindName env x v] [v, u]) _ _ _
    unfold assignInOrder
    refine wpAny_bind (wpAny_holding (bindName_ (wpAny_mono (put2 (E := E) q2 hS ks2 hy hx (r2.keeps (Keeps.heap (ext_keeps he))) (r1.keeps (Keeps.heap (ext_keeps he))) hK) (fun _ s₂ z => ?_) fun _ _ e => e)))
    unfold assignInOrder
    refine wpAny_bind (wpAny_holding (bindName_ (wpAny_mono z (fun _ s₃ z => ?_) fun _ _ e => e)))
    unfold assignInOrder
    exact wpAny_pure z
  · exact hK.elim
theorem unpack2 {x y : Str} {px py tp : Pos} {k1 : Nat} {env : Env} {A : Around} {s s₁ : Shared} {B U : Addr → Prop} {own : Str → Option Addr} {E : Value → Shared → Prop} {t : Addr} {u v : Value} {a b : PyData} (q2 : EnvOk env) (hA : AIn k A) (hS : SOk hT B U env σ own s.heap) (ks : Keeps s s₁)
    (ht : IsTup s₁.heap t #[u, v]) (r1 : Rd (PW (BO B own) s₁.heap) u a) (r2 : Rd (PW (BO B own) s₁.heap) v b) (hx : isVar env.scope x = true) (hy : isVar env.scope y = true) (hK : K (.next ((σ.set x (.d a)).set y (.d b)))) :
    wpAny (model prog w) A (assign (.Tuple [.Name x px, .Name y py] k1 tp) env (.ref t)) (fun _ => After hT B U env K own s .next) E s₁ := by
  refine assign_Tuple_tuple hA.handled ht rfl rfl fun h' he => ?_
  have ks2 := Keeps.trans ks (ext_keeps he)
  show wpAny _ A (assignInOrder [assign (.Name x px) env, assign (.Name y py) env] [u, v]) _ _ _
  unfold assignInOrder
  refine wpAny_bind (wpAny_holding (wpAny_assign_Name (wpAny_mono (put2 (E := E) q2 hS ks2 hx hy (r1.keeps (Keeps.heap (ext_keeps he))) (r2.keeps (Keeps.heap (ext_keeps he))) hK) (fun _ s₂ z => ?_) fun _ _ e => e)))
  unfold assignInOrder
  refine wpAny_bind (wpAny_holding (wpAny_assign_Name (wpAny_mono z (fun _ s₃ z => ?_) fun _ _ e => e)))
  unfold assignInOrder
  exact wpAny_pure z
theorem ex_tup2n (GL : Glob prog w hT mg mb k F G gs) {n m : Nat} {x y : Str} {px py tp vp pos : Pos} {k1 k2 : Nat} {e1 e2 : Expr}
    (h : evEs F G n (hid σ) [e1, e2] (fun ds => ds.length ≤ 10000 ∧ match ds with | [a, b] => K (.next ((σ.set x (.d a)).set y (.d b))) | _ => False)) (hok : [e1, e2].all (okE gs m sc) = true) (hx : isVar sc x = true) (hy : isVar sc y = true) (hsw : isNoSw sc x y px py e1 e2 = true) :
    Ex1 prog w hT k sc (.Assign [.Tuple [.Name x px, .Name y py] k1 tp] (.Tuple [e1, e2] k2 vp) pos) σ K := fun env q1 q2 A s B U own E hA hS => by
  subst q1
  refine Assign_Tuple (wpAny_mono (tup_eval GL h hok q2 hA hS.hid) (fun v s₁ z => ?_) fun _ _ e => e) rfl (sw_no hsw)
  refine genP fun gP hgP => ?_
  obtain ⟨t, vs, ds, rfl, ht, hK, r, ks⟩ := z
  refine hgP ?_
  clear hgP
  split at hK
  · rename_i a b
    refine genP fun gP hgP => ?_
    obtain ⟨u, v, rfl, r1, r2⟩ := two_vals r
    refine hgP ?_
    clear hgP
    exact unpack2 q2 hA hS ks ht r1 r2 hx hy hK
  · exact hK.elim
noncomputable def notTup : Expr → Bool
  | .Tuple .. => false
  | _ => true
theorem sw_none {env : Env} {es : List Expr} {k : Nat} {p : Pos} {value : Expr} (h : notTup value = true) : swappedStores [.Tuple es k p] value env = pure none := by
  cases value <;> first | rfl | exact ff h
theorem ex_unpack (GL : Glob prog w hT mg mb k F G gs) {n m : Nat} {x y : Str} {px py tp pos : Pos} {k1 : Nat} {e : Expr}
    (h : evE F G n (hid σ) e (fun d => match d with | .tuple [a, b] => K (.next ((σ.set x (.d a)).set y (.d b))) | _ => False)) (hok : okE gs m sc e = true) (hx : isVar sc x = true) (hy : isVar sc y = true) (hc : noComp e = true) (ht : notTup e = true) :
    Ex1 prog w hT k sc (.Assign [.Tuple [.Name x px, .Name y py] k1 tp] e pos) σ K := fun env q1 q2 A s B U own E hA hS => by
  subst q1
  refine Assign_Tuple (wpAny_mono (soundE GL h hok q2 hA hS.hid) (fun v s₁ z => ?_) fun _ _ e => e) (noComp_swaps hc (some (.Tuple [.Name x px, .Name y py] k1 tp)) pos.line env) (sw_none ht)
  refine genP fun gP hgP => ?_
  obtain ⟨d, hd, rd, ks⟩ := z
  refine hgP ?_
  clear hgP
  split at hd
  · rename_i a b
    refine genP fun gP hgP => ?_
    obtain ⟨t, vs, rfl, _, ht, r⟩ := rd.isTup
    refine hgP ?_
    clear hgP
    refine genP fun gP hgP => ?_
    obtain ⟨u, v, rfl, r1, r2⟩ := two_vals r
    refine hgP ?_
    clear hgP
    exact unpack2 q2 hA hS ks ht r1 r2 hx hy hd
  · exact hd.elim
theorem ex_tup2own (GL : Glob prog w hT mg mb k F G gs) (GLl : LoadsG mg mb "list" (.type "list")) {n m : Nat} {x y : Str} {px py tp vp pos : Pos} {k1 k2 : Nat} {e1 e2 : Expr}
    (h : evE F G n (hid σ) e1 (fun a => evFr F G n (hid σ) e2 (fun ys => K (.next ((σ.set y (.own ys)).set x (.d a)))))) (hok1 : okE gs m sc e1 = true) (hok2 : okFr gs m sc e2 = true) (hok3 : [e1, e2].all (okE gs m sc) = true) (hx : isVar sc x = true) (hy : isVar sc y = true) (hsw : isSw sc x y px py e1 e2 = true) (hxy : x ≠ y) :
    Ex1 prog w hT k sc (.Assign [.Tuple [.Name x px, .Name y py] k1 tp] (.Tuple [e1, e2] k2 vp) pos) σ K := fun env q1 q2 A s B U own E hA hS => by
  subst q1
  refine Assign_Tuple_swapped (names := [x, y]) ?_ rfl (sw_yes hsw)
  refine wpAny_Tuple ?_
  rw [okE_plain hok3, back_plain]
  refine Calls.spliced_cons (wpAny_mono (soundE GL h hok1 q2 hA hS.hid) (fun u s₁ z => ?_) fun _ _ e => e)
  refine genP fun gP hgP => ?_
  obtain ⟨a, ha, ra, ks⟩ := z
  refine hgP ?_
  clear hgP
  have hS1 := hS.keeps (Keeps.heap ks)
  refine Calls.spliced_cons (wpAny_mono (fresh_sound GL GLl ha hok2 q2 hA hS1.hid) (fun v s₂ z => ?_) fun _ _ e => e)
  refine genP fun gP hgP => ?_
  obtain ⟨c, vs, ys, rfl, hK, hlive, hWc, hpl, r, ks2⟩ := z
  refine hgP ?_
  clear hgP
  refine Calls.spliced_nil ⟨by rw [sizeLine_eq]; show 2 ≤ _; (first | lia | omega), ?_⟩
  have ks3 : Keeps s₂ { s₂ with heap := s₂.heap.push { cls := .type "tuple", data := .seq [u, .ref c].toArray } } := Keeps.push _ _
  have ht : IsTup (s₂.heap.push { cls := .type "tuple", data := .seq [u, .ref c].toArray }) s₂.heap.objs.size #[u, .ref c] := ⟨_, Heap.get?_push_size _ rfl, rfl, 0, rfl⟩
  refine unpackItems_tuple (items := #[u, .ref c]) (s := { s₂ with heap := s₂.heap.push { cls := .type "tuple", data := .seq [u, .ref c].toArray } }) hA.handled ht fun h' he => ?_
  have ks4 := Keeps.trans ks3 (ext_keeps he)
  have ks5 := Keeps.trans ks2 ks4
  have hnew : s₁.heap.get? c = none := by
    cases q : s₁.heap.get? c with
    | none => rfl
    | some o => exact absurd (hlive c o q) (Nat.lt_irrefl _)
  refine genP fun gP hgP => ?_
  obtain ⟨h0, cy, pa, ua⟩ := var_place (hS1.keeps (Keeps.heap ks5)) hy
  refine hgP ?_
  clear hgP
  show wpAny _ A (assignInOrder [fun v => bindName env y v, fun v => bindName env x v] [.ref c, u]) _ _ _
  unfold assignInOrder
  refine wpAny_bind (wpAny_holding (bindName_ (store_frame q2 pa ua fun h₂ tk st => ?_)))
  have hpl' : h'.PlainList c vs := hpl.at fun o e => Keeps.heap ks4 c o e
  have hS2 := hS1.setOwn (Keeps.heap ks5) h0 hnew hpl' (r.mono fun b o q => ⟨⟨Keeps.heap ks4 b o q.1.1, q.1.2⟩, q.2⟩) (fun q => Nat.lt_irrefl _ (hWc c (.inl q))) st
  unfold assignInOrder
  have r1 : SR (BO B (ownPut own y c)) h₂ u (.d a) := by
    refine SR.mono (W := BO B own) (h := s₁.heap) (fun b o q => ⟨st.keep b o (fun z => q.2 (.inl (hS1.sub b z))) (Keeps.heap ks5 b o q.1), fun z => ?_⟩) (show SR _ _ _ (.d a) from ra)
    rcases z with z | ⟨t, z⟩
    · exact q.2 (.inl z)
    · unfold ownPut at z
      split at z
      · cases z; have q1 := q.1; rw [hnew] at q1; cases q1
      · exact q.2 (.inr ⟨t, z⟩)
  refine wpAny_bind (wpAny_holding (bindName_ (wpAny_mono (assign_done (K := K) (s := { s₂ with heap := h₂, toks := tk }) (s₁ := { s₂ with heap := h₂, toks := tk }) q2 hS2 (Keeps.refl _) hx (.inl ⟨a, rfl, rfl⟩) r1 hK) (fun _ s₃ z => ?_) fun _ _ e => e)))
  unfold assignInOrder
  refine wpAny_pure (After.pre hS2.offU ?_ z)
  have kss := Keeps.trans ks ks5
  refine genP fun gP hgP => ?_
  obtain ⟨g, t, e0, hk⟩ := id (Keeps.trans ks ks2)
  refine hgP ?_
  clear hgP
  have hk' : ∀ b o, s.heap.get? b = some o → h'.get? b = some o := fun b o e => Keeps.heap kss b o e
  refine ⟨⟨h₂, tk, by rw [e0]⟩, fun b o hu _ e => st.keep b o hu (hk' b o e), (fun z b e => ?_), fun b o e => st.live b o (hk' b o e)⟩
  unfold ownPut at e
  split at e
  · cases e
    refine .inr ?_
    cases q : s.heap.get? c with
    | none => rfl
    | some o => rw [Keeps.heap ks c o q] at hnew; cases hnew
  · exact .inl ⟨z, e⟩
end
noncomputable def forP (x : Str) (f : St → (Out → Prop) → Prop) : List PyData → St → (Out → Prop) → Prop
  | [], σ, K => K (.next σ)
  | d :: r, σ, K => f (σ.set x (.d d)) fun o => match o with
    | .next σ' => forP x f r σ' K
    | .ret d => K (.ret d)
section
variable {hT : Heap} {B U : Addr → Prop} {env : Env} {σ : St} {own : Str → Option Addr} {h h' : Heap}
theorem SOk.turn {B₂ : Addr → Prop} (x : SOk hT B U env σ own h) (h2 : ∀ a, B₂ a → B a) (hU : ∀ a, U a → B₂ a) {I : Addr} (hI : B I) (hs : ∀ b o, b ≠ I → h.get? b = some o → h'.get? b = some o) (f : ∃ o, h.get? I = some o ∧ (∀ v, o.data ≠ .cell v) ∧ ∀ es n, o.data ≠ .dict es n)
    (f' : ∀ a, BO B₂ own a → ∃ b o, a ≤ b ∧ h'.get? b = some o) : SOk hT B₂ U env σ own h' := by
  refine genP fun gP hgP => ?_
  obtain ⟨o1, ho1, nc, nd⟩ := f
  refine hgP ?_
  clear hgP
  have cellne : ∀ {c v}, h.IsCell c v → c ≠ I := by
    rintro c v ⟨o, ho, hd⟩ rfl
    rw [ho1] at ho; cases ho
    exact nc _ hd
  have nsne : ∀ {c m}, h.Ns c m → c ≠ I := by
    rintro c m ⟨o, es, ep, ho, hd, _⟩ rfl
    rw [ho1] at ho; cases ho
    exact nd _ _ hd
  have ck : ∀ {c v}, h.IsCell c v → h'.IsCell c v := fun {c v} q => by
    have n := cellne q
    obtain ⟨o, ho, hd⟩ := q
    exact ⟨o, hs c o n ho, hd⟩
  have nk : ∀ {c m}, h.Ns c m → h'.Ns c m := fun {c m} q => q.at' fun o e => hs c o (nsne q) e
  have sub : ∀ {z}, BO B₂ own z → BO B own z := by
    rintro z (q | q)
    · exact .inl (h2 z q)
    · exact .inr q
  have k : ∀ b o, PW (BO B own) h b o → PW (BO B₂ own) h' b o := fun b o q => ⟨hs b o (fun e => q.2 (.inl (e ▸ hI))) q.1, fun z => q.2 (sub z)⟩
  have seek : ∀ z v, Sees env h z v → Sees env h' z v := fun z v q => by
    rcases q with ⟨k1, m, n, e⟩ | ⟨k1, c, e1, e2⟩
    · exact .inl ⟨k1, m, nk n, e⟩
    · exact .inr ⟨k1, c, e1, ck e2⟩
  have s1 : ∀ z sv, Sees1 env (BO B own) h z sv → Sees1 env (BO B₂ own) h' z sv := fun z sv q => let ⟨n, u, c, b⟩ := q; ⟨n, u, seek z u c, b.mono k⟩
  refine ⟨fun b o e => hs b o (fun q => by rw [q, x.w.old I (.inl hI)] at e; cases e) (x.up b o e), ⟨fun a q => x.w.old a (sub q), f'⟩, hU, fun z hz => ?_, fun z c e => ?_, fun z a e q => x.offB z a e (h2 a q), x.inj, x.keys, fun z v m => s1 z _ (x.vd z v m), fun z c d m => s1 z _ (x.vr z c d m), fun z ys m => ?_, x.ow, fun z v m => let ⟨n, q⟩ := x.vv z v m; ⟨n, seek z v q⟩⟩
  · obtain ⟨c, p, uc⟩ := x.frame z hz
    refine ⟨c, ?_, uc⟩
    rcases p with ⟨k1, e, m, n⟩ | ⟨k1, e, v, n⟩
    · exact .inl ⟨k1, e, m, nk n⟩
    · exact .inr ⟨k1, e, v, ck n⟩
  · obtain ⟨v, q⟩ := x.cells z c e
    exact ⟨v, ck q⟩
  · refine genP fun gP hgP => ?_
    obtain ⟨n0, c, ws, e1, e2, e3, e4⟩ := x.vo z ys m
    refine hgP ?_
    clear hgP
    exact ⟨n0, c, ws, e1, seek z _ e2, e3.at fun o e => hs c o (fun q => x.offB z c e1 (q ▸ hI)) e, e4.mono k⟩
theorem SOk.black (x : SOk hT B U env σ own h) {I : Addr} (hnew : h.get? I = none) (hk : ∀ b o, h.get? b = some o → h'.get? b = some o) (hI : ∃ o, h'.get? I = some o) : SOk hT (fun a => B a ∨ a = I) U env σ own h' := by
  have hin : ∀ {z}, BO (fun a => B a ∨ a = I) own z → BO B own z ∨ z = I := by
    rintro z ((q | q) | q)
    · exact .inl (.inl q)
    · exact .inr q
    · exact .inl (.inr q)
  have k : ∀ b o, PW (BO B own) h b o → PW (BO (fun a => B a ∨ a = I) own) h' b o := fun b o q => ⟨hk b o q.1, fun z => (hin z).elim q.2 fun e => by have q1 := q.1; rw [e, hnew] at q1; cases q1⟩
  have s1 : ∀ z sv, Sees1 env (BO B own) h z sv → Sees1 env (BO (fun a => B a ∨ a = I) own) h' z sv := fun z sv q => let ⟨n, u, c, b⟩ := q; ⟨n, u, c.keeps hk, b.mono k⟩
  refine ⟨fun b o e => hk b o (x.up b o e), ⟨fun z q => ?_, fun z q => ?_⟩, fun a q => .inl (x.sub a q), fun z hz => let ⟨c, p, uc⟩ := x.frame z hz; ⟨c, p.keeps hk, uc⟩, fun z c e => let ⟨v, q⟩ := x.cells z c e; ⟨v, q.keeps hk⟩, fun z a e q => ?_, x.inj, x.keys,
    fun z v m => s1 z _ (x.vd z v m), fun z c d m => s1 z _ (x.vr z c d m), fun z ys m => ?_, x.ow, fun z v m => let ⟨n, q⟩ := x.vv z v m; ⟨n, q.keeps hk⟩⟩
  · rcases hin q with q | rfl
    · exact x.w.old z q
    · cases e : hT.get? z with
      | none => rfl
      | some o => rw [x.up z o e] at hnew; cases hnew
  · rcases hin q with q | rfl
    · refine genP fun gP hgP => ?_
      obtain ⟨b, o, hb, ho⟩ := x.w.has z q
      refine hgP ?_
      clear hgP
      exact ⟨b, o, hb, hk b o ho⟩
    · obtain ⟨o, ho⟩ := hI
      exact ⟨z, o, Nat.le_refl _, ho⟩
  · rcases q with q | rfl
    · exact x.offB z a e q
    · obtain ⟨xs, m⟩ := x.ow z a e
      refine genP fun gP hgP => ?_
      obtain ⟨_, c, vs, e1, _, ⟨n, e3⟩, _⟩ := x.vo z xs m
      refine hgP ?_
      clear hgP
      rw [e] at e1; cases e1
      rw [hnew] at e3; cases e3
  · refine genP fun gP hgP => ?_
    obtain ⟨n0, c, ws, e1, e2, e3, e4⟩ := x.vo z ys m
    refine hgP ?_
    clear hgP
    exact ⟨n0, c, ws, e1, e2.keeps hk, e3.at fun o e => hk c o e, e4.mono k⟩
end
section
variable {prog : Program} {w : World} {hT : Heap} {mg mb : Str → Option Value} {k : Nat} {F : Tab} {G : Str → Option PyData} {gs : List Str × List Str} {sc : Scope} {σ : St} {K K' : Out → Prop}
theorem range_go {A : Around} {s₀ s : Shared} {E : Value → Shared → Prop} {P : Addr → Obj → Prop} {vs : List Value} {ds : List PyData} {K : List PyData → Prop} (r : RdAll P vs ds) (h : rangeP ds K) (ks : Keeps s₀ s) :
    wpAny (model prog w) A (call (.type "range") vs) (fun xv s₁ => wpAny (model prog w) A (pyIter xv) (fun it s₂ => ∃ I a n, it = .ref I ∧ K ((List.range n).map fun (i : Nat) => PyData.int (a + (i : Int))) ∧ n ≤ 20000 ∧ IsRangeIter s₂.heap I (a + ((0 : Nat) : Int) * 1) ((n : Int) - ((0 : Nat) : Int)) 1 ∧ (∀ b o, s₀.heap.get? b = some o → b < I) ∧ Keeps s₀ s₂) E s₁) E s := by
  have go : ∀ (a b : Int) (t u v : Nat) (s : Shared), Keeps s₀ s → -10000 ≤ a → a ≤ 10000 → b ≤ 10000 → -10000 ≤ b → K (rangeD a b) →
      wpAny (model prog w) A (pyIter (.ref s.heap.objs.size)) (fun it s₂ => ∃ I a n, it = .ref I ∧ K ((List.range n).map fun (i : Nat) => PyData.int (a + (i : Int))) ∧ n ≤ 20000 ∧ IsRangeIter s₂.heap I (a + ((0 : Nat) : Int) * 1) ((n : Int) - ((0 : Nat) : Int)) 1 ∧ (∀ b o, s₀.heap.get? b = some o → b < I) ∧ Keeps s₀ s₂) E
        { s with heap := s.heap.push { cls := .type "range", data := .fields #[.int a t, .int b u, .int 1 v] } } := by
    intro a b t u v s ks h1 h2 h3 h4 hK
    have hsm : Builtin.Range.small a b 1 = true := small_one (by (first | lia | omega)) (by (first | lia | omega)) (by (first | lia | omega)) (by (first | lia | omega))
    have hsz : Builtin.Range.rangeSize a b 1 = ((b - a).toNat : Int) := by rw [rangeSize_one]; split <;> (first | lia | omega)
    refine wpAny_pyIter_range (IsRange.new _ _ _ _ _ _ _) hsm ?_
    have k1 := Keeps.push s { cls := .type "range", data := .fields #[.int a t, .int b u, .int 1 v] }
    refine ⟨_, a, (b - a).toNat, rfl, hK, by (first | lia | omega), ?_, fun c o e => Heap.lt_size (Keeps.heap k1 c o (Keeps.heap ks c o e)), Keeps.trans ks (Keeps.trans k1 (Keeps.push _ _))⟩
    have := Heap.get?_push_size (s.heap.push { cls := .type "range", data := .fields #[.int a t, .int b u, .int 1 v] }) (o := { cls := .type "range_iterator", data := .fields #[rawInt a, rawInt (Builtin.Range.rangeSize a b 1), rawInt 1] }) rfl
    rw [hsz] at this ⊢
    simpa using this
  unfold rangeP at h
  split at h
  · rename_i b
    cases r with
    | cons r1 r2 =>
    cases r1; cases r2
    refine PySem.call_range_1 ?_
    exact go 0 b _ _ _ { s with toks := s.toks + 1 + 1 } (Keeps.trans ks (Keeps.toks _ _)) (by (first | lia | omega)) (by (first | lia | omega)) h.1 h.2.1 h.2.2
  · rename_i a b
    cases r with
    | cons r1 r2 =>
    cases r2 with
    | cons r2 r3 =>
    cases r1; cases r2; cases r3
    refine PySem.call_range_2 ?_
    refine genP fun gP hgP => ?_
    obtain ⟨q1, q2, q3, q4, q5, q6⟩ := h
    refine hgP ?_
    clear hgP
    exact go a b _ _ _ { s with toks := s.toks + 1 } (Keeps.trans ks (Keeps.toks _ _)) q1 q2 q3 q4 q6
  · exact h.elim
structure FJ (prog : Program) (w : World) (hT : Heap) (k : Nat) (B' U : Addr → Prop) (env : Env) (x : Str) (body : List Stmt) (items : List PyData) (N : Nat) (St : Nat → Heap → Prop) (own : Str → Option Addr) (s : Shared) (K : Out → Prop) (j : Nat) (s' : Shared) (i : Nat) (σ' : Mine.St) (own' : Str → Option Addr) : Prop where
  hi : i ≤ N
  hj : j = N + 1 - i
  hP : forP x (fun σ K => Exec prog w hT k env.scope body σ K) (items.drop i) σ' K
  hS : SOk hT B' U env σ' own' s'.heap
  st : St i s'.heap
  hR : Rel U own s own' s'
theorem for_walk {env : Env} {A : Around} {s s₃ : Shared} {B B' U : Addr → Prop} {own : Str → Option Addr} {x : Str} {p : Pos} {body : List Stmt} {I : Addr} {fp : List Addr} {N : Nat} {Pt : Nat → Value → Prop} {St : Nat → Heap → Prop} {items : List PyData} {R : Result → Shared → Prop}
    (e2 : EnvOk env) (hx : isVar env.scope x = true) (hA : AIn k A) (T : Walks prog w A I fp [I] N Pt St) (hlen : items.length = N)
    (hint : ∀ i v, i < N → Pt i v → ∃ z t, v = .int z t ∧ items[i]? = some (.int z))
    (hfld : ∀ i h, St i h → ∃ o, h.get? I = some o ∧ (∀ v, o.data ≠ .cell v) ∧ ∀ es n, o.data ≠ .dict es n)
    (hlive : ∀ b o, s.heap.get? b = some o → b < I) (hfp : ∀ b ∈ fp, B' b ∧ ¬ U b) (hsub : ∀ a, B a → B' a) (hI : B' I)
    (hS : SOk hT B U env σ own s.heap) (hS3 : SOk hT B' U env σ own s₃.heap) (st0 : St 0 s₃.heap) (ks : Keeps s s₃)
    (hF : forP x (fun σ K => Exec prog w hT k env.scope body σ K) items σ K) (hR : ∀ f s', After hT B U env K own s f s' → R (.ok f) s') :
    codeAny (model prog w) A (.forLoop (.Name x p) (.ref I) body [] env) R s₃ := by
  have step : ∀ (i : Nat) (σ' : Mine.St) (own' : Str → Option Addr) (s' : Shared) (h' : Heap) (tk : Tok) (v : Value) (E : Value → Shared → Prop), i < N → forP x (fun σ K => Exec prog w hT k env.scope body σ K) (items.drop i) σ' K → SOk hT B' U env σ' own' s'.heap → Rel U own s own' s' → St i s'.heap → Pt i v → St (i + 1) h' → (∀ b o, b ≠ I → s'.heap.get? b = some o → h'.get? b = some o) →
      wpAny (model prog w) A (assign (.Name x p) env v) (fun _ s₂ => wpAny (model prog w) A (execs body env) (fun f s₃ => match f with
        | .next | .cont => ∃ m, m < N + 1 - i ∧ ∃ i' σ₃ own₃, FJ prog w hT k B' U env x body items N St own s K m s₃ i' σ₃ own₃
        | .brk => R (.ok .next) s₃
        | .ret v => R (.ok (.ret v)) s₃) E s₂) E { s' with heap := h', toks := tk } := by
    intro i σ' own' s' h' tk v E hlt hP hS' hR' hit' hv st' hkI
    refine genP fun gP hgP => ?_
    obtain ⟨z, t, rfl, hd⟩ := hint i v hlt hv
    refine hgP ?_
    clear hgP
    have hdrop : items.drop i = .int z :: items.drop (i + 1) := by
      have hlt' : i < items.length := by rw [hlen]; exact hlt
      rw [← List.getElem_cons_drop hlt']
      congr 1
      rw [List.getElem?_eq_getElem hlt'] at hd
      exact Option.some.inj hd
    rw [hdrop] at hP
    have hS2 : SOk hT B' U env σ' own' h' := hS'.turn (fun _ q => q) hS'.sub hI hkI (hfld _ _ hit') fun z q => by
      refine genP fun gP hgP => ?_
      obtain ⟨b, o, hb, ho⟩ := hS'.w.has z q
      refine hgP ?_
      clear hgP
      by_cases e : b = I
      · obtain ⟨o', ho', _⟩ := hfld _ _ st'
        exact ⟨I, _, e ▸ hb, ho'⟩
      · exact ⟨b, o, hb, hkI b o e ho⟩
    refine genP fun gP hgP => ?_
    obtain ⟨h0, c, pc, uc⟩ := var_place hS2 hx
    refine hgP ?_
    clear hgP
    refine wpAny_assign_Name (store_frame e2 pc uc fun h₂ tk₂ st => ?_)
    dsimp only at st ⊢
    have hS4 := hS2.setD (tv := .d (.int z)) (.inl ⟨_, rfl, rfl⟩) h0 (show SR (BO B' own') h' (.int z t) (.d (.int z)) from .int _ _) st
    have hR4 : Rel U own s (ownDrop own' x) { s' with heap := h₂, toks := tk₂ } := by
      refine genP fun gP hgP => ?_
      obtain ⟨⟨g, t', e0⟩, r2, r3, r4⟩ := hR'
      refine hgP ?_
      clear hgP
      refine ⟨⟨h₂, tk₂, by rw [e0]⟩, fun b o hu ho e => st.keep b o hu (hkI b o (fun q => Nat.lt_irrefl _ (q ▸ hlive b o e)) (r2 b o hu ho e)), fun z b e => ?_, fun b o e => ?_⟩
      · unfold ownDrop at e
        split at e
        · cases e
        · exact r3 z b e
      · obtain ⟨o', ho'⟩ := r4 b o e
        exact st.live b o' (hkI b o' (fun q => Nat.lt_irrefl _ (q ▸ hlive b o e)) ho')
    refine wpAny_mono (hP env rfl e2 A { s' with heap := h₂, toks := tk₂ } B' U _ _ hA hS4) (fun f s₃ z => ?_) fun _ _ e => e
    cases f with
    | next =>
      refine genP fun gP hgP => ?_
      obtain ⟨σ₃, own₃, q1, q2, q3⟩ := z
      refine hgP ?_
      clear hgP
      refine ⟨N + 1 - (i + 1), by (first | lia | omega), i + 1, σ₃, own₃, hlt, rfl, q1, q2, ?_, hR4.trans q2.offU hS4.offU q3⟩
      exact T.frame _ _ _ st' fun b hb o e => q3.keep b o (hfp b hb).2 (fun z e' => hS4.offB z b e' (hfp b hb).1) (st.keep b o (hfp b hb).2 e)
    | ret v =>
      refine genP fun gP hgP => ?_
      obtain ⟨d, q1, q2, q3⟩ := z
      refine hgP ?_
      clear hgP
      exact hR _ _ ⟨d, q1, q2.mono fun b o q => ⟨q.1, fun z => q.2 (hsub b z)⟩, hR4.trans (fun _ _ e => by cases e) hS4.offU q3⟩
    | brk => exact z.elim
    | cont => exact z.elim
  have done : ∀ (σ' : Mine.St) (own' : Str → Option Addr) (s' : Shared) (h' : Heap) (tk : Tok), forP x (fun σ K => Exec prog w hT k env.scope body σ K) (items.drop N) σ' K → SOk hT B' U env σ' own' s'.heap → Rel U own s own' s' → St N s'.heap → (∀ b o, b ≠ I → s'.heap.get? b = some o → h'.get? b = some o) →
      R (.ok .next) { s' with heap := h', toks := tk } := by
    intro σ' own' s' h' tk hP hS' hR' hit' hkI
    rw [← hlen, List.drop_length] at hP
    refine hR _ _ ⟨σ', own', hP, hS'.turn hsub hS.sub hI hkI (hfld _ _ hit') (fun z q => ?_), ?_⟩
    · rcases q with q | ⟨y, q⟩
      · refine genP fun gP hgP => ?_
        obtain ⟨b, o, hb, ho⟩ := hS.w.has z (.inl q)
        refine hgP ?_
        clear hgP
        obtain ⟨o', ho'⟩ := hR'.live b o ho
        exact ⟨b, o', hb, hkI b o' (Nat.ne_of_lt (hlive b o ho)) ho'⟩
      · obtain ⟨xs, m⟩ := hS'.ow y z q
        refine genP fun gP hgP => ?_
        obtain ⟨_, c, vs, e1, _, ⟨nn, e3⟩, _⟩ := hS'.vo y xs m
        refine hgP ?_
        clear hgP
        rw [q] at e1; cases e1
        exact ⟨z, _, Nat.le_refl _, hkI z _ (fun e => hS'.offB y z q (e ▸ hI)) e3⟩
    · refine genP fun gP hgP => ?_
      obtain ⟨⟨g, t', e0⟩, r2, r3, r4⟩ := hR'
      refine hgP ?_
      clear hgP
      refine ⟨⟨h', tk, by rw [e0]⟩, fun b o hu ho e => hkI b o (Nat.ne_of_lt (hlive b o e)) (r2 b o hu ho e), r3, fun b o e => ?_⟩
      obtain ⟨o', ho'⟩ := r4 b o e
      exact ⟨o', hkI b o' (Nat.ne_of_lt (hlive b o e)) ho'⟩
  refine codeAny_forLoop_any (fun j s' => ∃ i σ' own', FJ prog w hT k B' U env x body items N St own s K j s' i σ' own')
    (fun j s' hJ => ?_) (N + 1) ⟨0, σ, own, Nat.zero_le _, rfl, hF, hS3, st0, Rel.ofKeeps ks⟩
  refine genP fun gP hgP => ?_
  obtain ⟨i, σ', own', hi, rfl, hP, hS', hit', hR'⟩ := hJ
  refine hgP ?_
  clear hgP
  by_cases hlt : i < N
  · refine T.item i _ _ _ hlt hit' fun v h' tk hv st' hk => ?_
    exact go_name rfl (step i σ' own' s' h' tk v _ hlt hP hS' hR' hit' hv st' fun b o hb e => hk b o (fun q => hb (List.mem_singleton.mp q)) e)
  · have hin : i = N := Nat.le_antisymm hi (Nat.not_lt.mp hlt)
    subst hin
    exact T.done _ _ _ hit' fun h' tk hk => wpAny_execs_nil (done σ' own' s' h' tk hP hS' hR' hit' fun b o hb e => hk b o (fun q => hb (List.mem_singleton.mp q)) e)
theorem ex_for (GL : Glob prog w hT mg mb k F G gs) {n m : Nat} {x : Str} {p p1 p2 pos : Pos} {args : List Expr} {body : List Stmt}
    (h : evEs F G n (full σ) args (fun ds => rangeP ds fun items => forP x (fun σ K => Exec prog w hT k sc body σ K) items σ K)) (hok : args.all (okE gs m sc) = true) (hx : isVar sc x = true) (hr : sc.names.lookup ("range" : Str) = some .globalImplicit) :
    Ex1 prog w hT k sc (.For (.Name x p) (.Call (.Name "range" p1) args [] p2) body [] pos) σ K := fun env e1 e2 A s B U own E hA hS => by
  have e1' := e1
  subst e1
  refine wpAny_For ?_
  refine call_go GL.cx (fun m es ρ env K A s W E => (sound_all GL n).2.1 m es ρ env K A s W E) h hok e2 hA hS.full (by decide +kernel) hr GL.range (.inr (.inl ⟨_, rfl⟩)) fun vs ds s₁ hK r ks => ?_
  refine wpAny_mono (range_go r hK ks) (fun xv s₂ z => wpAny_mono z (fun it s₃ z => ?_) fun _ _ e => e) fun _ _ e => e
  refine genP fun gP hgP => ?_
  obtain ⟨I, a, N, rfl, hF, hN, hit, hlive, ks3⟩ := z
  refine hgP ?_
  clear hgP
  generalize hitems : (List.range N).map (fun (i : Nat) => PyData.int (a + (i : Int))) = items at hF
  have hlen : items.length = N := by rw [← hitems]; simp
  have hnewI : s.heap.get? I = none := by
    cases q : s.heap.get? I with
    | none => rfl
    | some o => exact absurd (hlive I o q) (Nat.lt_irrefl _)
  have hBI : ∀ z, BO B own z → z < I := fun z q => by
    refine genP fun gP hgP => ?_
    obtain ⟨b, o, hb, ho⟩ := hS.w.has z q
    refine hgP ?_
    clear hgP
    exact Nat.lt_of_le_of_lt hb (hlive b o ho)
  have hUI : ∀ z, U z → z ≠ I := fun z q => Nat.ne_of_lt (hBI z (.inl (hS.sub z q)))
  have hS3 := hS.black hnewI (Keeps.heap ks3) ⟨_, hit⟩
  refine for_walk (B' := fun z => B z ∨ z = I) e2 hx hA (Walks.range (prog := prog) (w := w) (A := A) hA.handled I a 1 N) hlen (fun i v hi hv => ?_) (fun i h q => ⟨_, q, (fun v e => by cases e), (fun es n e => by cases e)⟩) hlive (fun b hb => ?_) (fun _ q => .inl q) (.inr rfl) hS hS3 hit ks3 hF fun f s' q => q
  · obtain ⟨t, rfl⟩ := hv
    exact ⟨_, t, rfl, by rw [← hitems]; simp [hi]⟩
  · rw [List.mem_singleton.mp hb]
    exact ⟨.inr rfl, fun q => hUI I q rfl⟩
end
noncomputable def scopeOk (sc : Scope) (names : List Str) : Bool :=
  sc.kind == .function && !sc.isCoroutine && !sc.isGenerator && decide (names.Nodup) && names.all (isVar sc) && sc.names.all (fun x => match x.2 with | .free => false | _ => true)
theorem bindL_keep {kindOf : Str → Option NameKind} {x : Str} {v : Value} : ∀ {binds : List (Str × Value)} {m : Str → Option Value}, x ∉ binds.map (·.1) → m x = some v → bindL kindOf binds m x = some v
  | [], _, _, h => h
  | (n, u) :: r, m, hn, h => by
    rw [List.map_cons, List.mem_cons, not_or] at hn
    unfold bindL
    refine bindL_keep hn.2 ?_
    split
    · show (if x = n then some u else m x) = some v; rw [if_neg hn.1]; exact h
    · exact h
theorem bindC_keep {kindOf : Str → Option NameKind} {x : Str} {v : Value} : ∀ {binds : List (Str × Value)} {m : Str → Option Value}, x ∉ binds.map (·.1) → m x = some v → bindC kindOf binds m x = some v
  | [], _, _, h => h
  | (n, u) :: r, m, hn, h => by
    rw [List.map_cons, List.mem_cons, not_or] at hn
    unfold bindC
    refine bindC_keep hn.2 ?_
    split
    · exact h
    · show (if x = n then some u else m x) = some v; rw [if_neg hn.1]; exact h
theorem bindL_get {kindOf : Str → Option NameKind} {x : Str} {v : Value} : ∀ {binds : List (Str × Value)} {m : Str → Option Value}, (binds.map (·.1)).Nodup → kindOf x = some .local → (x, v) ∈ binds → bindL kindOf binds m x = some v
  | (n, u) :: r, m, hn, hk, h => by
    rw [List.map_cons, List.nodup_cons] at hn
    unfold bindL
    rcases List.mem_cons.mp h with e | h
    · cases e
      refine bindL_keep hn.1 ?_
      rw [if_pos hk, if_pos rfl]
    · exact bindL_get hn.2 hk h
theorem bindC_get {kindOf : Str → Option NameKind} {x : Str} {v : Value} : ∀ {binds : List (Str × Value)} {m : Str → Option Value}, (binds.map (·.1)).Nodup → kindOf x ≠ some .local → (x, v) ∈ binds → bindC kindOf binds m x = some v
  | (n, u) :: r, m, hn, hk, h => by
    rw [List.map_cons, List.nodup_cons] at hn
    unfold bindC
    rcases List.mem_cons.mp h with e | h
    · cases e
      refine bindC_keep hn.1 ?_
      rw [if_neg hk, if_pos rfl]
    · exact bindC_get hn.2 hk h
theorem zip_mem {P : Addr → Obj → Prop} {x : Str} {tv : TV} : ∀ {names : List Str} {vs : List Value} {ds : List PyData}, RdAll P vs ds → (x, tv) ∈ names.zip (ds.map TV.d) → ∃ d v, tv = .d d ∧ (x, v) ∈ names.zip vs ∧ Rd P v d
  | [], _, _, _, h => by cases h
  | n :: ns, _, _, .nil, h => by cases h
  | n :: ns, _, _, .cons (v := v) (d := d) r rs, h => by
    rw [List.map_cons, List.zip_cons_cons] at h
    rcases List.mem_cons.mp h with e | h
    · cases e; exact ⟨d, v, rfl, .head _, r⟩
    · refine genP fun gP hgP => ?_
      obtain ⟨d', v', e1, e2, e3⟩ := zip_mem rs h
      refine hgP ?_
      clear hgP
      exact ⟨d', v', e1, .tail _ e2, e3⟩
theorem zip_keys {α β : Type} : ∀ {names : List α} {vs : List β}, (names.zip vs).map (·.1) = names.take vs.length
  | [], _ => by simp
  | n :: ns, [] => rfl
  | n :: ns, v :: vs => by simp [zip_keys (names := ns) (vs := vs)]
section
variable {prog : Program} {w : World} {hT : Heap} {mg mb : Str → Option Value} {k : Nat}
theorem AIn.deeper {A : Around} (h : AIn (k + 1) A) {env : Env} (h1 : env.scope.isGenerator = false) (h2 : env.scope.isCoroutine = false) (h3 : env.builtins = builtinsNs) (h4 : env.globals = mainGlobals) : AIn k (A.deeper env) := by
  refine genP fun gP hgP => ?_
  obtain ⟨a, b, c, e, l, f, _⟩ := h
  refine hgP ?_
  clear hgP
  refine ⟨a, ?_, ?_, env, e :: l, ?_, h1, h2, h3, h4⟩
  · show A.depth + 1 + k + 120 < _
    (first | lia | omega)
  · show A.units + 3 + 10 * k + 200 < _
    (first | lia | omega)
  · show A.frames.map _ = _
    rw [f]; rfl
theorem AIn.less {A : Around} {j : Nat} (h : AIn k A) (hj : j ≤ k) : AIn j A := ⟨h.handled, by have := h.depth; (first | lia | omega), by have := h.units; (first | lia | omega), h.frames⟩
theorem fn_ok (C : Cx prog hT mg mb) {a : Addr} {fo : Obj} {fd : FuncData} {body : List Stmt} {names : List Str} (ho : hT.get? a = some fo) (hd : fo.data = .func fd) (hcode : hT.CodeRec fd.code fd.qualname) (hbody : fd.body = .stmts body) (hclo : fd.closure = [])
    (hgl : fd.globals = mainGlobals) (hbu : fd.builtins = builtinsNs) (hbind : ∀ vals : List Value, vals.length = names.length → bindArgs fd ⟨vals, []⟩ = pure (names.zip vals)) (hsc : scopeOk fd.scope names = true)
    {ds : List PyData} {d : PyData} (hlen : ds.length = names.length) (hF : Exec prog w hT k fd.scope body (names.zip (ds.map TV.d)) (fun o => o = .ret d))
    {A : Around} {s : Shared} {W : Addr → Prop} {vs : List Value} {E : Value → Shared → Prop} (hA : AIn (k + 1) A) (hU : Up hT s.heap) (hW : WOk W hT s.heap) (r : RdAll (PW W s.heap) vs ds) :
    wpAny (model prog w) A (call (.ref a) vs) (Ret W s (· = d)) E s := by
  unfold scopeOk at hsc
  simp only [Bool.and_eq_true, beq_iff_eq, Bool.not_eq_true', decide_eq_true_eq, List.all_eq_true] at hsc
  refine genP fun gP hgP => ?_
  obtain ⟨⟨⟨⟨⟨s1, s2⟩, s3⟩, s4⟩, s5⟩, s6⟩ := hsc
  refine hgP ?_
  clear hgP
  have hvl : vs.length = names.length := by rw [r.length, hlen]
  have hvar : ∀ x ∈ names, (fd.scope.names.lookup x = some .local ∨ fd.scope.names.lookup x = some .cell) ∧ x ≠ (".0" : Str) := fun x hx => by
    have := s5 x hx
    unfold isVar at this
    simpa using this
  have noFree : ∀ x, fd.scope.names.lookup x ≠ some .free := fun x e => by
    have := s6 _ (mem_of_lookup e)
    simp at this
  have memN : ∀ {x v}, (x, v) ∈ names.zip vs → x ∈ names := fun {x v} h => (List.of_mem_zip h).1
  refine wpAny_call (codeAny_call_cells (fd := fd) (binds := names.zip vs) (by have := hA.depth; (first | lia | omega)) (hU a fo ho) hd (C.nolimit.keeps hU) (hcode.keeps hU) hbody (hbind vs hvl) hclo (fun x hx => ?_) (fun s₁ X => ?_) s2 s3 s1)
  · obtain ⟨n, v⟩ := x
    rcases (hvar n (memN hx)).1 with e | e
    · exact .inl e
    · exact .inr ⟨e, cellsFrom_some _ _ _ (.inl e)⟩
  · generalize henv : callEnvC fd s.heap.objs.size a = env at X ⊢
    have esc : env.scope = fd.scope := by rw [← henv]; rfl
    have ek : ∀ x, env.kindOf x = fd.scope.names.lookup x := fun x => by rw [← henv]; rfl
    have eL : env.locals = s.heap.objs.size := by rw [← henv]; rfl
    have ec : env.cells = cellsFrom (s.heap.objs.size + 1) fd.scope.names [] := by rw [← henv]; rfl
    have hI := X.toInCall
    let U : Addr → Prop := fun z => z = env.locals ∨ ∃ n, env.cells.lookup n = some z
    let B : Addr → Prop := fun z => W z ∨ U z
    have Ulow : ∀ z, U z → s.heap.objs.size ≤ z := by
      rintro z (rfl | ⟨n, q⟩)
      · exact hI.fresh
      · exact Nat.le_of_lt (Nat.lt_of_le_of_lt hI.fresh (X.above n z (mem_of_lookup q)))
    have Unot : ∀ z o, s.heap.get? z = some o → ¬ U z := fun z o e q => absurd (Heap.lt_size e) (Nat.not_lt.mpr (Ulow z q))
    have cellC : ∀ x, fd.scope.names.lookup x = some .cell → ∃ c, env.cells.lookup x = some c := fun x e => by
      rw [ec]; exact Option.isSome_iff_exists.mp (cellsFrom_some _ _ _ (.inl e))
    have hE : EnvOk env := by
      refine ⟨by rw [esc]; exact s1, by rw [← henv]; exact hgl, by rw [← henv]; exact hbu, fun x hx => ?_, fun x y c e1 e2 => name_of_addr X.apart (mem_of_lookup e1) (mem_of_lookup e2)⟩
      rw [ek] at hx
      rcases hx with hx | hx
      · exact cellC x hx
      · exact absurd hx (noFree x)
    have hmono : ∀ b o, PW W s.heap b o → PW (BO B fun _ => none) s₁.heap b o := fun b o q => ⟨hI.keep b o q.1, fun z => by
      rcases z with (z | z) | ⟨_, z⟩
      · exact q.2 z
      · exact Unot b o q.1 z
      · cases z⟩
    have hzk : ((names.zip vs).map (·.1)) = names := by
      rw [zip_keys, hvl, List.take_length]
    have hS : SOk hT B U env (names.zip (ds.map TV.d)) (fun _ => none) s₁.heap := by
      refine ⟨fun b o e => hI.keep b o (hU b o e), ⟨fun z q => ?_, fun z q => ?_⟩, fun z q => .inr q, fun x hx => ?_, fun x c e => ⟨_, X.cell x c e⟩, fun _ _ e => by (cases e), fun _ _ _ e => by (cases e), ?_, fun x v m => ?_, fun x p q m => ?_, fun x xs m => ?_, fun _ _ e => by (cases e), fun x v m => ?_⟩
      · rcases q with (q | q) | ⟨_, q⟩
        · exact hW.old z q
        · cases e : hT.get? z with
          | none => rfl
          | some o => exact absurd q (Unot z o (hU z o e))
        · cases q
      · rcases q with (q | q | ⟨n, q⟩) | ⟨_, q⟩
        · refine genP fun gP hgP => ?_
          obtain ⟨b, o, hb, ho⟩ := hW.has z q
          refine hgP ?_
          clear hgP
          exact ⟨b, o, hb, hI.keep b o ho⟩
        · refine genP fun gP hgP => ?_
          obtain ⟨o, es, ep, ho, _⟩ := hI.ns
          refine hgP ?_
          clear hgP
          exact ⟨_, o, Nat.le_of_eq q, ho⟩
        · obtain ⟨o, ho, _⟩ := X.cell n z q
          exact ⟨_, o, Nat.le_refl _, ho⟩
        · cases q
      · rcases hx with hx | hx
        · exact ⟨env.locals, .inl ⟨hx, rfl, _, hI.ns⟩, .inl rfl⟩
        · obtain ⟨c, hc⟩ := cellC x (by rw [← ek]; exact hx)
          exact ⟨c, .inr ⟨hx, hc, _, X.cell x c hc⟩, .inr ⟨x, hc⟩⟩
      · rw [zip_keys, List.length_map, hlen, List.take_length]; exact s4
      · refine genP fun gP hgP => ?_
        obtain ⟨d', v', e1, e2, e3⟩ := zip_mem r m
        refine hgP ?_
        clear hgP
        cases e1
        refine ⟨(hvar x (memN e2)).2, v', ?_, e3.mono hmono⟩
        rcases (hvar x (memN e2)).1 with q | q
        · exact .inl ⟨by rw [ek]; exact q, _, hI.ns, bindL_get (by rw [hzk]; exact s4) (by rw [ek]; exact q) e2⟩
        · obtain ⟨c, hc⟩ := cellC x q
          refine .inr ⟨.inl (by rw [ek]; exact q), c, hc, ?_⟩
          have := X.cell x c hc
          rwa [bindC_get (by rw [hzk]; exact s4) (by rw [ek, q]; simp) e2] at this
      · refine genP fun gP hgP => ?_
        obtain ⟨d', v', e1, e2, e3⟩ := zip_mem r m
        refine hgP ?_
        clear hgP
        cases e1
      · refine genP fun gP hgP => ?_
        obtain ⟨d', v', e1, e2, e3⟩ := zip_mem r m
        refine hgP ?_
        clear hgP
        cases e1
      · refine genP fun gP hgP => ?_
        obtain ⟨d', v', e1, e2, e3⟩ := zip_mem r m
        refine hgP ?_
        clear hgP
        cases e1
    refine wpAny_mono (hF env esc hE (A.deeper env) s₁ B U (fun _ => none) _ (hA.deeper (by rw [esc]; exact s3) (by rw [esc]; exact s2) hE.bui hE.glob) hS) (fun f s' x => ?_) fun _ _ e => e
    cases f with
    | next => obtain ⟨_, _, q, _⟩ := x; cases q
    | ret v =>
      refine genP fun gP hgP => ?_
      obtain ⟨d', q1, q2, q3⟩ := x
      refine hgP ?_
      clear hgP
      cases q1
      refine genP fun gP hgP => ?_
      obtain ⟨⟨g, t, e0⟩, q3, _, _⟩ := q3
      refine hgP ?_
      clear hgP
      refine genP fun gP hgP => ?_
      obtain ⟨h₁, tk, e1, _⟩ := X.done
      refine hgP ?_
      clear hgP
      refine ⟨d, rfl, q2.mono fun b o q => ⟨q.1, fun z => q.2 (.inl z)⟩, ?_⟩
      subst e0
      subst e1
      exact ⟨g, t, rfl, fun b o e => q3 b o (Unot b o e) (fun _ z => by cases z) (hI.keep b o e)⟩
    | brk => exact x.elim
    | cont => exact x.elim
end
noncomputable abbrev I (x : Int) : PyData := .int x
section
variable {F : Tab} {G : Str → Option PyData} {n : Nat} {ρ : Sto} {Q : PyData → Prop} {QB : Bool → Prop} {K : List PyData → Prop} {KO : Option PyData → Prop}
theorem ee_none {a : Nat} {p : Pos} (h : Q .none) : evE F G (n + 1) ρ (.Constant .none a p) Q := h
theorem ee_bool {b : Bool} {a : Nat} {p : Pos} (h : Q (.bool b)) : evE F G (n + 1) ρ (.Constant (.bool b) a p) Q := h
theorem ee_int {i : Int} {a : Nat} {p : Pos} (h : Q (I i)) : evE F G (n + 1) ρ (.Constant (.int i) a p) Q := h
theorem ee_str {x : Str} {a : Nat} {p : Pos} (h : Q (.str x)) : evE F G (n + 1) ρ (.Constant (.str x) a p) Q := h
theorem ee_name {x : Str} {p : Pos} {v : PyData} (e : ρ.get x = some (.d v)) (h : Q v) : evE F G (n + 1) ρ (.Name x p) Q := by
  show match ρ.get x with | some (.d v) => Q v | some (.rng _ _) => False | none => match G x with | some v => Q v | none => False
  rw [e]; exact h
theorem ee_glob {x : Str} {p : Pos} {v : PyData} (e : ρ.get x = none) (e2 : G x = some v) (h : Q v) : evE F G (n + 1) ρ (.Name x p) Q := by
  show match ρ.get x with | some (.d v) => Q v | some (.rng _ _) => False | none => match G x with | some v => Q v | none => False
  rw [e, e2]; exact h
theorem ee_bin {l r : Expr} {op : Operator} {p : Pos} (h : evE F G n ρ l fun a => evE F G n ρ r fun b => binP op a b Q) : evE F G (n + 1) ρ (.BinOp l op r p) Q := h
theorem ee_neg {e : Expr} {p : Pos} (h : evE F G n ρ e fun a => match a with | .int x => Q (.int (-x)) | _ => False) : evE F G (n + 1) ρ (.UnaryOp .USub e p) Q := h
theorem ee_cmp {l r : Expr} {op : CmpOp} {p : Pos} (h : evE F G n ρ l fun a => evE F G n ρ r fun b => cmpP op a b fun c => Q (.bool c)) : evE F G (n + 1) ρ (.Compare l [op] [r] p) Q := h
theorem ee_if {t b o : Expr} {p : Pos} (h : evB F G n ρ t fun c => match c with | true => evE F G n ρ b Q | false => evE F G n ρ o Q) : evE F G (n + 1) ρ (.IfExp t b o p) Q := h
theorem ee_list {es : List Expr} {p : Pos} (h : evEs F G n ρ es fun ds => ds.length ≤ 10000 ∧ Q (.list ds)) : evE F G (n + 1) ρ (.List es p) Q := h
theorem ee_tuple {es : List Expr} {k : Nat} {p : Pos} (h : evEs F G n ρ es fun ds => ds.length ≤ 10000 ∧ Q (.tuple ds)) : evE F G (n + 1) ρ (.Tuple es k p) Q := h
theorem ee_part {v : Expr} {lo hi st : Option Expr} {p1 p2 : Pos} (h : evE F G n ρ v fun a => evO F G n ρ lo fun x => evO F G n ρ hi fun y => evO F G n ρ st fun z => partP a x y z Q) : evE F G (n + 1) ρ (.Subscript v (.Slice lo hi st p1) p2) Q := h
theorem ee_item {v i : Expr} {p : Pos} (h : evE F G n ρ v fun a => evE F G n ρ i fun j => itemP a j Q) (hns : slOf i = none := by rfl) : evE F G (n + 1) ρ (.Subscript v i p) Q := by
  show match slOf i with
      | some s => evE F G n ρ v fun a => evO F G n ρ s.1 fun x => evO F G n ρ s.2.1 fun y => evO F G n ρ s.2.2 fun z => partP a x y z Q
      | none => evE F G n ρ v fun a => evE F G n ρ i fun i => itemP a i Q
  rw [hns]; exact h
theorem ee_call {g : Str} {p q : Pos} {args : List Expr} (h : evEs F G n ρ args fun ds => ∃ d, F g ds d ∧ Q d) : evE F G (n + 1) ρ (.Call (.Name g p) args [] q) Q := ⟨rfl, h⟩
theorem ee_comp {elt target iter : Expr} {scope : Scope} {p : Pos} (h : evIt F G n ρ iter fun items => mapP (fun d Q => bindP target d (ρ.under scope) fun ρ' => evE F G n ρ' elt Q) items fun ds => Q (.list ds)) : evE F G (n + 1) ρ (.ListComp elt [⟨target, iter, [], 0⟩] scope p) Q := h
theorem es_nil (h : K []) : evEs F G (n + 1) ρ [] K := h
theorem es_cons {e : Expr} {es : List Expr} (h : evE F G n ρ e fun d => evEs F G n ρ es fun ds => K (d :: ds)) : evEs F G (n + 1) ρ (e :: es) K := h
theorem eo_none (h : KO none) : evO F G (n + 1) ρ none KO := h
theorem eo_some {e : Expr} (h : evE F G n ρ e fun d => KO (some d)) : evO F G (n + 1) ρ (some e) KO := h
theorem eb_not {e : Expr} {p : Pos} (h : evB F G n ρ e fun b => QB (!b)) : evB F G (n + 1) ρ (.UnaryOp .Not e p) QB := h
theorem eb_cmp {l r : Expr} {op : CmpOp} {p : Pos} (h : evE F G n ρ l fun a => evE F G n ρ r fun b => cmpP op a b QB) : evB F G (n + 1) ρ (.Compare l [op] [r] p) QB := h
theorem eb_call {f : Expr} {args : List Expr} {kws : List Keyword} {p : Pos} (h : evE F G n ρ (.Call f args kws p) fun d => truthP d QB) : evB F G (n + 1) ρ (.Call f args kws p) QB := h
theorem eb_bool {op : BoolOp} {es : List Expr} {p : Pos} (h : evBs F G n ρ op es QB) : evB F G (n + 1) ρ (.BoolOp op es p) QB := h
theorem bs_nil {op : BoolOp} (h : QB (op == .And)) : evBs F G (n + 1) ρ op [] QB := h
theorem bs_and {e : Expr} {es : List Expr} (h : evB F G n ρ e fun b => match b with | false => QB false | true => evBs F G n ρ .And es QB) : evBs F G (n + 1) ρ .And (e :: es) QB := by
  have : (fun b => match b with | false => QB false | true => evBs F G n ρ .And es QB) = fun b => match BoolOp.And, b with
      | .And, false => QB false
      | .Or, true => QB true
      | .And, true => evBs F G n ρ .And es QB
      | .Or, false => evBs F G n ρ .Or es QB := by funext b; cases b <;> rfl
  rw [this] at h; exact h
theorem bs_or {e : Expr} {es : List Expr} (h : evB F G n ρ e fun b => match b with | true => QB true | false => evBs F G n ρ .Or es QB) : evBs F G (n + 1) ρ .Or (e :: es) QB := by
  have : (fun b => match b with | true => QB true | false => evBs F G n ρ .Or es QB) = fun b => match BoolOp.Or, b with
      | .And, false => QB false
      | .Or, true => QB true
      | .And, true => evBs F G n ρ .And es QB
      | .Or, false => evBs F G n ρ .Or es QB := by funext b; cases b <;> rfl
  rw [this] at h; exact h
theorem ei_call {g : Str} {p q : Pos} {args : List Expr} (h : if g = "range" then evEs F G n ρ args fun ds => rangeP ds K else if g = "enumerate" then evEs F G n ρ args fun ds => enumP ds K
      else if g = "zip" then evEs F G n ρ args fun ds => zipP ds K else evE F G n ρ (.Call (.Name g p) args [] q) fun d => seqP d K) : evIt F G (n + 1) ρ (.Call (.Name g p) args [] q) K := ⟨rfl, h⟩
theorem ei_range {p q : Pos} {args : List Expr} (h : evEs F G n ρ args fun ds => rangeP ds K) : evIt F G (n + 1) ρ (.Call (.Name "range" p) args [] q) K :=
  ei_call (by rw [if_pos rfl]; exact h)
theorem ei_enum {p q : Pos} {args : List Expr} (h : evEs F G n ρ args fun ds => enumP ds K) : evIt F G (n + 1) ρ (.Call (.Name "enumerate" p) args [] q) K :=
  ei_call (by rw [if_neg (by decide +kernel), if_pos rfl]; exact h)
theorem ei_zip {p q : Pos} {args : List Expr} (h : evEs F G n ρ args fun ds => zipP ds K) : evIt F G (n + 1) ρ (.Call (.Name "zip" p) args [] q) K :=
  ei_call (by rw [if_neg (by decide +kernel), if_neg (by decide +kernel), if_pos rfl]; exact h)
theorem ei_nm {x : Str} {p : Pos} (h : match ρ.get x with
      | some (.rng a b) => -10000 ≤ a ∧ a ≤ 10000 ∧ b ≤ 10000 ∧ -10000 ≤ b ∧ (rangeD a b).length ≤ 10000 ∧ K (rangeD a b)
      | _ => evE F G n ρ (.Name x p) fun d => seqP d K) : evIt F G (n + 1) ρ (.Name x p) K := h
theorem ei_name {x : Str} {p : Pos} {v : PyData} (e : ρ.get x = some (.d v)) (h : seqP v K) : evIt F G (n + 2) ρ (.Name x p) K :=
  ei_nm (by rw [e]; exact ee_name e h)
theorem ei_rng {x : Str} {p : Pos} {a b : Int} (e : ρ.get x = some (.rng a b)) (h : -10000 ≤ a ∧ a ≤ 10000 ∧ b ≤ 10000 ∧ -10000 ≤ b ∧ (rangeD a b).length ≤ 10000 ∧ K (rangeD a b)) : evIt F G (n + 1) ρ (.Name x p) K :=
  ei_nm (by rw [e]; exact h)
theorem bp_add {x y : Int} (h : Q (I (x + y))) : binP .Add (I x) (I y) Q := h
theorem bp_sub {x y : Int} (h : Q (I (x - y))) : binP .Sub (I x) (I y) Q := h
theorem bp_mul {x y : Int} (h1 : Sm x) (h2 : Sm y) (h : Q (I (x * y))) : binP .Mult (I x) (I y) Q := ⟨h1, h2, h⟩
theorem bp_div {x y : Int} (h1 : y ≠ 0) (h : Q (I (x.fdiv y))) : binP .FloorDiv (I x) (I y) Q := ⟨h1, h⟩
theorem bp_mod {x y : Int} (h1 : y ≠ 0) (h : Q (I (x.fmod y))) : binP .Mod (I x) (I y) Q := ⟨h1, h⟩
theorem bp_cat {xs ys : List PyData} (h1 : xs.length + ys.length ≤ 10000) (h : Q (.list (xs ++ ys))) : binP .Add (.list xs) (.list ys) Q := ⟨h1, h⟩
theorem bp_rep {xs : List PyData} {n : Int} (h1 : xs.length * n.toNat ≤ 10000 ∧ -10000 ≤ n ∧ n ≤ 10000) (h : Q (.list (List.replicate n.toNat xs).flatten)) : binP .Mult (.list xs) (I n) Q := ⟨h1.1, h1.2.1, h1.2.2, h⟩
theorem cp_ne {x y : Int} (h : QB (decide (x ≠ y))) : cmpP .NotEq (I x) (I y) QB := by
  refine ⟨rfl, rfl, by simp [PyData.depth], ?_⟩
  have : (!PyData.eqv (I x) (I y)) = decide (x ≠ y) := by
    by_cases e : x = y <;> simp [PyData.eqv, e]
  rw [this]; exact h
theorem cp_eq {x y : Int} (h : QB (decide (x = y))) : cmpP .Eq (I x) (I y) QB := by
  refine ⟨rfl, rfl, by simp [PyData.depth], ?_⟩
  have : (PyData.eqv (I x) (I y)) = decide (x = y) := by
    by_cases e : x = y <;> simp [PyData.eqv, e]
  rw [this]; exact h
theorem cp_lt {x y : Int} (h : QB (decide (x < y))) : cmpP .Lt (I x) (I y) QB := h
theorem cp_le {x y : Int} (h : QB (decide (x ≤ y))) : cmpP .LtE (I x) (I y) QB := h
theorem cp_gt {x y : Int} (h : QB (decide (x > y))) : cmpP .Gt (I x) (I y) QB := h
theorem cp_ge {x y : Int} (h : QB (decide (x ≥ y))) : cmpP .GtE (I x) (I y) QB := h
theorem mapP_of {α : Type} {f : PyData → (PyData → Prop) → Prop} {e g : α → PyData} : ∀ {xs : List α} {K : List PyData → Prop}, (∀ x ∈ xs, ∀ Q, Q (g x) → f (e x) Q) → K (xs.map g) → mapP f (xs.map e) K
  | [], _, _, hK => hK
  | x :: xs, K, h, hK => by
    show f (e x) fun y => mapP f (xs.map e) fun ys => K (y :: ys)
    exact h x (.head _) _ (mapP_of (fun y hy => h y (.tail _ hy)) hK)
end
theorem ip_0 {x y : PyData} {Q : PyData → Prop} (h : Q x) : itemP (.tuple [x, y]) (I 0) Q := ⟨by decide, by decide, x, rfl, h⟩
theorem ip_1 {x y : PyData} {Q : PyData → Prop} (h : Q y) : itemP (.tuple [x, y]) (I 1) Q := ⟨by decide, by decide, y, rfl, h⟩
noncomputable abbrev R (q : Rat) : PyData := .tuple [.int q.num, .int q.den]
noncomputable abbrev P (p : List Rat) : PyData := .list (p.map R)
noncomputable abbrev V (v : List Int) : PyData := .list (v.map .int)
noncomputable abbrev M (m : List (List Int)) : PyData := .list (m.map fun v => PyData.list (v.map .int))
noncomputable def Bz (n : Nat) (x : Int) : Prop := x.natAbs < 2 ^ n
noncomputable def Bt (n : Nat) (q : Rat) : Prop := q.num.natAbs < 2 ^ n ∧ q.den < 2 ^ n
noncomputable def Bp (n : Nat) (p : List Rat) : Prop := ∀ c ∈ p, Bt n c
noncomputable def Bm (n : Nat) (m : List (List Int)) : Prop := ∀ v ∈ m, ∀ x ∈ v, Bz n x
noncomputable def trim : List Rat → List Rat
  | [] => []
  | a :: r => if trim r = [] ∧ a = 0 then [] else a :: trim r
noncomputable def padd (a b : List Rat) : List Rat := trim ((List.range (max a.length b.length)).map fun i => a.getD i 0 + b.getD i 0)
noncomputable def pneg (p : List Rat) : List Rat := p.map fun c => -c
noncomputable def psub (a b : List Rat) : List Rat := padd a (pneg b)
noncomputable def pscale (p : List Rat) (r : Rat) : List Rat := if r ≠ 0 then p.map (· * r) else []
noncomputable def praise (p : List Rat) (k : Nat) : List Rat := if p = [] then [] else List.replicate k 0 ++ p
noncomputable def plead (p : List Rat) : Rat := p.getLastD 0
noncomputable def divLoop (b : List Rat) : Nat → List Rat → List Rat → List Rat × List Rat
  | 0, rest, found => (found, rest)
  | n + 1, rest, found => if rest.length < b.length then (found, rest) else
    divLoop b n (psub rest.dropLast (praise (pscale b.dropLast (plead rest / plead b)) (rest.length - b.length))) (found.set (rest.length - b.length) (plead rest / plead b))
noncomputable def pdiv (a b : List Rat) : List Rat × List Rat :=
  let x := divLoop b (a.length + 1) a (List.replicate (a.length + 1 - b.length) 0)
  (trim x.1, x.2)
noncomputable def pmonic (p : List Rat) : List Rat := if p = [] then [] else pscale p (plead p)⁻¹
noncomputable def gcdLoop : Nat → List Rat → List Rat → List Rat
  | 0, a, _ => a
  | n + 1, a, b => if b = [] then a else gcdLoop n b (pmonic (pdiv a b).2)
noncomputable def pgcd (a b : List Rat) : List Rat := pmonic (gcdLoop (b.length + 1) a b)
noncomputable def fmakeS (top bottom : List Rat) : List Rat × List Rat :=
  if top = [] then ([], [1]) else
    let c := pgcd top bottom
    let t := if c.length > 1 then (pdiv top c).1 else top
    let b := if c.length > 1 then (pdiv bottom c).1 else bottom
    (pscale t (plead b)⁻¹, pscale b (plead b)⁻¹)
noncomputable def idm (n : Nat) : List (List Int) := (List.range n).map fun i => (List.range n).map fun j => if i = j then 1 else 0
noncomputable def mmul (a b : List (List Int)) : List (List Int) := a.map fun row => (List.range (b.headD []).length).map fun j => ((List.range b.length).map fun k => row.getD k 0 * (b.getD k []).getD j 0).sum
noncomputable def raiseLoop : Nat → Nat → List (List Int) → List (List Int) → List (List Int)
  | 0, _, found, _ => found
  | f + 1, n, found, sq => if n = 0 then found else raiseLoop f (n / 2) (if n % 2 = 1 then mmul found sq else found) (if n / 2 > 0 then mmul sq sq else sq)
noncomputable def raiseS (a : List (List Int)) (n : Nat) : List (List Int) := raiseLoop (n + 1) n (idm a.length) a
noncomputable def nextS (steps row : List Int) : Int := ((List.range steps.length).map fun at' => steps.getD at' 0 * row.getD (row.length - 1 - at') 0).sum
noncomputable def growS (steps : List Int) : Nat → List Int → List Int
  | 0, row => row
  | n + 1, row => growS steps n (row ++ [nextS steps row])
noncomputable def rowS (steps first : List Int) (many : Nat) : List Int := growS steps (many - first.length) first
noncomputable def stepM (steps : List Int) : List (List Int) := steps :: (List.range (steps.length - 1)).map fun at' => (List.range steps.length).map fun spot => if spot = at' then 1 else 0
noncomputable def numberS (steps first : List Int) (n : Nat) : Int :=
  if n < steps.length then first.getD n 0 else if steps.length = 0 then 0 else
    (((raiseS (stepM steps) (n - steps.length + 1)).headD []).zipWith (· * ·) first.reverse).sum
noncomputable def topS (steps first : List Int) : List Int := (List.range steps.length).map fun at' => first.getD at' 0 - ((List.range at').map fun back => steps.getD back 0 * first.getD (at' - (back + 1)) 0).sum
noncomputable def botS (steps : List Int) : List Rat := 1 :: steps.map fun (s : Int) => ((-s : Int) : Rat)
noncomputable def generatingS (steps first : List Int) : List Rat × List Rat := fmakeS (trim ((topS steps first).map fun (x : Int) => (x : Rat))) (trim (botS steps))
noncomputable def serNum (top bottom found : List Rat) : Rat :=
  ((List.range (min found.length (bottom.length - 1))).foldl (fun acc back => acc - bottom.getD (back + 1) 0 * found.getD (found.length - (back + 1)) 0) (top.getD found.length 0)) / bottom.getD 0 0
noncomputable def serS (top bottom : List Rat) : Nat → List Rat → List Rat
  | 0, found => found
  | n + 1, found => serS top bottom n (found ++ [serNum top bottom found])
noncomputable def prodS (a b : List (List Int)) : List (List Int) := (List.range a.length).map fun row => (List.range a.length).map fun column => ((List.range a.length).map fun at' => (a.getD row []).getD at' 0 * (b.getD at' []).getD column 0).sum
noncomputable def dB (la lb A B : Nat) : Nat := 2 ^ (la + 1 - lb) * (A + 2 * B + 1)
noncomputable def gB : Nat → Nat → Nat → Nat → Nat → Nat
  | 0, _, _, _, _ => 1000000
  | n + 1, la, lb, A, B => if lb = 0 then 2 * A else
    let C := dB la lb A B
    (List.range (min lb (la + 1))).foldl (fun m r => max m (gB n lb r B (2 * C))) (max (2 * A) (C + B))
noncomputable def gR : Nat → Nat → Nat → Nat → Nat → Nat
  | 0, _, _, _, _ => 1000000
  | n + 1, la, lb, A, B => if lb = 0 then (if 2 ≤ la then 2 * A else 0) else
    (List.range (min lb (la + 1))).foldl (fun m r => max m (gR n lb r B (2 * dB la lb A B))) 0
noncomputable def C_abs (ds : List PyData) (y : PyData) : Prop := ∃ a : Int, ds = [I a] ∧ y = (I a.natAbs)
noncomputable def C_len (ds : List PyData) (y : PyData) : Prop := ∃ xs : List PyData, (xs.length ≤ 10000) ∧ ds = [.list xs] ∧ y = (I xs.length)
noncomputable def C_sum (ds : List PyData) (y : PyData) : Prop := ∃ v : List Int, ds = [V v] ∧ y = (I v.sum)
noncomputable def C_max (ds : List PyData) (y : PyData) : Prop := ∃ a b : Int, ds = [I a, I b] ∧ y = (I (Max.max a b))
noncomputable def C_min (ds : List PyData) (y : PyData) : Prop := ∃ a b : Int, ds = [I a, I b] ∧ y = (I (Min.min a b))
noncomputable def C_list (ds : List PyData) (y : PyData) : Prop := ∃ xs : List PyData, (xs.length ≤ 10000) ∧ ds = [.list xs] ∧ y = (.list xs)
noncomputable def C_int (ds : List PyData) (y : PyData) : Prop := (∃ b : Bool, ds = [.bool b] ∧ y = (I (if b then 1 else 0))) ∨ (∃ a : Int, ds = [I a] ∧ y = (I a))
noncomputable def C_gcd (ds : List PyData) (y : PyData) : Prop := ∃ a b : Int, ds = [I a, I b] ∧ y = (I (Int.gcd a b))
noncomputable def C_rat (ds : List PyData) (y : PyData) : Prop := ∃ t b : Int, (b ≠ 0) ∧ ds = [I t, I b] ∧ y = (R (Rat.divInt t b))
noncomputable def C_radd (ds : List PyData) (y : PyData) : Prop := ∃ a b : Rat, (Bt 1000000 a) ∧ (Bt 1000000 b) ∧ ds = [R a, R b] ∧ y = (R (a + b))
noncomputable def C_rsub (ds : List PyData) (y : PyData) : Prop := ∃ a b : Rat, (Bt 1000000 a) ∧ (Bt 1000000 b) ∧ ds = [R a, R b] ∧ y = (R (a - b))
noncomputable def C_rmul (ds : List PyData) (y : PyData) : Prop := ∃ a b : Rat, (Bt 1000000 a) ∧ (Bt 1000000 b) ∧ ds = [R a, R b] ∧ y = (R (a * b))
noncomputable def C_rdiv (ds : List PyData) (y : PyData) : Prop := ∃ a b : Rat, (Bt 1000000 a) ∧ (Bt 1000000 b) ∧ (b ≠ 0) ∧ ds = [R a, R b] ∧ y = (R (a / b))
noncomputable def C_rneg (ds : List PyData) (y : PyData) : Prop := ∃ a : Rat, ds = [R a] ∧ y = (R (-a))
noncomputable def C_rinv (ds : List PyData) (y : PyData) : Prop := ∃ a : Rat, (a ≠ 0) ∧ ds = [R a] ∧ y = (R a⁻¹)
noncomputable def C_qtrim (ds : List PyData) (y : PyData) : Prop := ∃ p : List Rat, (p.length ≤ 9000) ∧ ds = [P p] ∧ y = (P (trim p))
noncomputable def C_qdegree (ds : List PyData) (y : PyData) : Prop := ∃ p : List Rat, (p.length ≤ 9000) ∧ ds = [P p] ∧ y = (I (p.length - 1))
noncomputable def C_qlead (ds : List PyData) (y : PyData) : Prop := ∃ p : List Rat, (p.length ≤ 9000) ∧ ds = [P p] ∧ y = (R (plead p))
noncomputable def C_qadd (ds : List PyData) (y : PyData) : Prop := ∃ a b : List Rat, (a.length ≤ 9000) ∧ (b.length ≤ 9000) ∧ (Bp 999990 a) ∧ (Bp 999990 b) ∧ ds = [P a, P b] ∧ y = (P (padd a b))
noncomputable def C_qneg (ds : List PyData) (y : PyData) : Prop := ∃ p : List Rat, (p.length ≤ 9000) ∧ ds = [P p] ∧ y = (P (pneg p))
noncomputable def C_qsub (ds : List PyData) (y : PyData) : Prop := ∃ a b : List Rat, (a.length ≤ 9000) ∧ (b.length ≤ 9000) ∧ (Bp 999990 a) ∧ (Bp 999990 b) ∧ ds = [P a, P b] ∧ y = (P (psub a b))
noncomputable def C_qscale (ds : List PyData) (y : PyData) : Prop := ∃ p : List Rat, ∃ r : Rat, (p.length ≤ 9000) ∧ (Bp 1000000 p) ∧ (Bt 1000000 r) ∧ ds = [P p, R r] ∧ y = (P (pscale p r))
noncomputable def C_qraise (ds : List PyData) (y : PyData) : Prop := ∃ p : List Rat, ∃ k : Nat, (p.length ≤ 4000) ∧ (k ≤ 4000) ∧ ds = [P p, I k] ∧ y = (P (praise p k))
noncomputable def C_qdivmod (ds : List PyData) (y : PyData) : Prop := ∃ a b : List Rat, ∃ A B : Nat, (0 < A) ∧ (0 < B) ∧ (Bp A a) ∧ (Bp B b) ∧ (a.length ≤ 100) ∧ (b.length ≤ 100) ∧ (plead b ≠ 0) ∧ (dB a.length b.length A B + B ≤ 900000) ∧ ds = [P a, P b] ∧ y = (.tuple [P (pdiv a b).1, P (pdiv a b).2])
noncomputable def C_qmonic (ds : List PyData) (y : PyData) : Prop := ∃ p : List Rat, (p.length ≤ 9000) ∧ (Bp 1000000 p) ∧ (p ≠ [] → plead p ≠ 0) ∧ ds = [P p] ∧ y = (P (pmonic p))
noncomputable def C_qgcd (ds : List PyData) (y : PyData) : Prop := ∃ a b : List Rat, ∃ A B : Nat, (0 < A) ∧ (0 < B) ∧ (Bp A a) ∧ (Bp B b) ∧ (a.length ≤ 100) ∧ (b.length ≤ 100) ∧ (a ≠ [] → plead a ≠ 0) ∧ (b ≠ [] → plead b ≠ 0) ∧ (gB (b.length + 1) a.length b.length A B ≤ 400000) ∧ ds = [P a, P b] ∧ y = (P (pgcd a b))
noncomputable def C_fmake (ds : List PyData) (y : PyData) : Prop := ∃ top bottom : List Rat, (Bp 5 top) ∧ (Bp 5 bottom) ∧ (top.length ≤ 3) ∧ (bottom.length ≤ 4) ∧ (top ≠ [] → plead top ≠ 0) ∧ (plead bottom ≠ 0) ∧ (top ≠ [] → 1 < (pgcd top bottom).length → plead (pdiv bottom (pgcd top bottom)).1 ≠ 0) ∧ ds = [P top, P bottom] ∧ y = (.tuple [P (fmakeS top bottom).1, P (fmakeS top bottom).2])
noncomputable def C_unit_rows (ds : List PyData) (y : PyData) : Prop := ∃ n : Nat, (n ≤ 100) ∧ ds = [I n] ∧ y = (M (idm n))
noncomputable def C_whole_mul (ds : List PyData) (y : PyData) : Prop := ∃ a b : List (List Int), (Bm 1000000 a) ∧ (Bm 1000000 b) ∧ (∀ r ∈ a, b.length ≤ r.length) ∧ (∀ r ∈ b, (b.headD []).length ≤ r.length) ∧ (b.length ≤ 100) ∧ ((b.headD []).length ≤ 100) ∧ (a.length ≤ 100) ∧ ds = [M a, M b] ∧ y = (M (mmul a b))
noncomputable def C_next_number (ds : List PyData) (y : PyData) : Prop := ∃ steps row : List Int, (steps.length ≤ row.length) ∧ (row.length ≤ 9000) ∧ (∀ x ∈ steps, Bz 1000000 x) ∧ (∀ x ∈ row, Bz 1000000 x) ∧ ds = [V steps, V row] ∧ y = (I (nextS steps row))
noncomputable def C_recurrence_row (ds : List PyData) (y : PyData) : Prop := ∃ steps first : List Int, ∃ many : Nat, (first.length = steps.length) ∧ (steps.length ≤ 3) ∧ (many ≤ 20) ∧ (∀ x ∈ steps, Bz 8 x) ∧ (∀ x ∈ first, Bz 8 x) ∧ ds = [V steps, V first, I many] ∧ y = (V ((rowS steps first many).take many))
noncomputable def C_step_matrix (ds : List PyData) (y : PyData) : Prop := ∃ steps : List Int, (steps.length ≤ 100) ∧ ds = [V steps] ∧ y = (M (stepM steps))
noncomputable def C_matrix_raised (ds : List PyData) (y : PyData) : Prop := ∃ a : List (List Int), ∃ n : Nat, (∀ r ∈ a, r.length = a.length) ∧ (a.length ≤ 3) ∧ (n ≤ 20) ∧ (Bm 8 a) ∧ ds = [M a, I n] ∧ y = (M (raiseS a n))
noncomputable def C_number_at (ds : List PyData) (y : PyData) : Prop := ∃ steps first : List Int, ∃ n : Nat, (first.length = steps.length) ∧ (steps.length ≤ 3) ∧ (n ≤ 8) ∧ (∀ x ∈ steps, Bz 8 x) ∧ (∀ x ∈ first, Bz 8 x) ∧ ds = [V steps, V first, I n] ∧ y = (I (numberS steps first n))
noncomputable def C_generating (ds : List PyData) (y : PyData) : Prop := ∃ steps first : List Int, (first.length = steps.length) ∧ (steps.length ≤ 3) ∧ (∀ x ∈ steps, -2 ≤ x ∧ x ≤ 2) ∧ (∀ x ∈ first, -3 ≤ x ∧ x ≤ 3) ∧ ds = [V steps, V first] ∧ y = (.tuple [P (generatingS steps first).1, P (generatingS steps first).2])
noncomputable def C_series_numbers (ds : List PyData) (y : PyData) : Prop := ∃ top bottom : List Rat, ∃ many : Nat, (bottom.getD 0 0 ≠ 0) ∧ (top.length ≤ 10) ∧ (bottom.length ≤ 4) ∧ (many ≤ 20) ∧ (Bp 100000 top) ∧ (Bp 100000 bottom) ∧ (∀ c ∈ serS top bottom many [], Bt 1000 c) ∧ ds = [.tuple [P top, P bottom], I many] ∧ y = (P (serS top bottom many []))
noncomputable def C_numbersL (ds : List PyData) (y : PyData) : Prop := ∃ steps first : List Int, ∃ many : Nat, (first.length = steps.length) ∧ (steps.length ≤ 3) ∧ (many ≤ 20) ∧ (∀ x ∈ steps, Bz 8 x) ∧ (∀ x ∈ first, Bz 8 x) ∧ ds = [V steps, V first, I many] ∧ y = (V (rowS steps first many))
noncomputable def C_productL (ds : List PyData) (y : PyData) : Prop := ∃ a b : List (List Int), (Bm 1000000 a) ∧ (Bm 1000000 b) ∧ (∀ r ∈ a, r.length = a.length) ∧ (∀ r ∈ b, r.length = a.length) ∧ (b.length = a.length) ∧ (a.length ≤ 100) ∧ ds = [M a, M b] ∧ y = (M (prodS a b))
noncomputable def fns : List (Str × (List PyData → PyData → Prop)) := [(("abs" : Str), C_abs), (("len" : Str), C_len), (("sum" : Str), C_sum), (("max" : Str), C_max), (("min" : Str), C_min), (("list" : Str), C_list), (("int" : Str), C_int), (("gcd" : Str), C_gcd), (("rat" : Str), C_rat), (("radd" : Str), C_radd), (("rsub" : Str), C_rsub), (("rmul" : Str), C_rmul), (("rdiv" : Str), C_rdiv), (("rneg" : Str), C_rneg), (("rinv" : Str), C_rinv), (("qtrim" : Str), C_qtrim), (("qdegree" : Str), C_qdegree), (("qlead" : Str), C_qlead), (("qadd" : Str), C_qadd), (("qneg" : Str), C_qneg), (("qsub" : Str), C_qsub), (("qscale" : Str), C_qscale), (("qraise" : Str), C_qraise), (("qdivmod" : Str), C_qdivmod), (("qmonic" : Str), C_qmonic), (("qgcd" : Str), C_qgcd), (("fmake" : Str), C_fmake), (("unit_rows" : Str), C_unit_rows), (("whole_mul" : Str), C_whole_mul), (("next_number" : Str), C_next_number), (("recurrence_row" : Str), C_recurrence_row), (("step_matrix" : Str), C_step_matrix), (("matrix_raised" : Str), C_matrix_raised), (("number_at" : Str), C_number_at), (("generating" : Str), C_generating), (("series_numbers" : Str), C_series_numbers), (("_law_numbers" : Str), C_numbersL), (("_law_product" : Str), C_productL)]
noncomputable def Fn (g : Str) (ds : List PyData) (d : PyData) : Prop := (fns.lookup g).elim False fun R => R ds d
theorem Fn.inv {g : Str} {R : List PyData → PyData → Prop} {ds : List PyData} {d : PyData} (h : Fn g ds d) (e : fns.lookup g = some R) : R ds d := by
  unfold Fn at h
  rw [e] at h
  exact h
theorem Fn.of {g : Str} {R : List PyData → PyData → Prop} {ds : List PyData} {d : PyData} (e : fns.lookup g = some R) (h : R ds d) : Fn g ds d := by
  unfold Fn
  rw [e]
  exact h
theorem id_abs : fns.lookup ("abs" : Str) = some C_abs := by kernel_rfl
theorem id_len : fns.lookup ("len" : Str) = some C_len := by kernel_rfl
theorem id_sum : fns.lookup ("sum" : Str) = some C_sum := by kernel_rfl
theorem id_max : fns.lookup ("max" : Str) = some C_max := by kernel_rfl
theorem id_min : fns.lookup ("min" : Str) = some C_min := by kernel_rfl
theorem id_list : fns.lookup ("list" : Str) = some C_list := by kernel_rfl
theorem id_int : fns.lookup ("int" : Str) = some C_int := by kernel_rfl
theorem id_gcd : fns.lookup ("gcd" : Str) = some C_gcd := by kernel_rfl
theorem id_rat : fns.lookup ("rat" : Str) = some C_rat := by kernel_rfl
theorem id_radd : fns.lookup ("radd" : Str) = some C_radd := by kernel_rfl
theorem id_rsub : fns.lookup ("rsub" : Str) = some C_rsub := by kernel_rfl
theorem id_rmul : fns.lookup ("rmul" : Str) = some C_rmul := by kernel_rfl
theorem id_rdiv : fns.lookup ("rdiv" : Str) = some C_rdiv := by kernel_rfl
theorem id_rneg : fns.lookup ("rneg" : Str) = some C_rneg := by kernel_rfl
theorem id_rinv : fns.lookup ("rinv" : Str) = some C_rinv := by kernel_rfl
theorem id_qtrim : fns.lookup ("qtrim" : Str) = some C_qtrim := by kernel_rfl
theorem id_qdegree : fns.lookup ("qdegree" : Str) = some C_qdegree := by kernel_rfl
theorem id_qlead : fns.lookup ("qlead" : Str) = some C_qlead := by kernel_rfl
theorem id_qadd : fns.lookup ("qadd" : Str) = some C_qadd := by kernel_rfl
theorem id_qneg : fns.lookup ("qneg" : Str) = some C_qneg := by kernel_rfl
theorem id_qsub : fns.lookup ("qsub" : Str) = some C_qsub := by kernel_rfl
theorem id_qscale : fns.lookup ("qscale" : Str) = some C_qscale := by kernel_rfl
theorem id_qraise : fns.lookup ("qraise" : Str) = some C_qraise := by kernel_rfl
theorem id_qdivmod : fns.lookup ("qdivmod" : Str) = some C_qdivmod := by kernel_rfl
theorem id_qmonic : fns.lookup ("qmonic" : Str) = some C_qmonic := by kernel_rfl
theorem id_qgcd : fns.lookup ("qgcd" : Str) = some C_qgcd := by kernel_rfl
theorem id_fmake : fns.lookup ("fmake" : Str) = some C_fmake := by kernel_rfl
theorem id_unit_rows : fns.lookup ("unit_rows" : Str) = some C_unit_rows := by kernel_rfl
theorem id_whole_mul : fns.lookup ("whole_mul" : Str) = some C_whole_mul := by kernel_rfl
theorem id_next_number : fns.lookup ("next_number" : Str) = some C_next_number := by kernel_rfl
theorem id_recurrence_row : fns.lookup ("recurrence_row" : Str) = some C_recurrence_row := by kernel_rfl
theorem id_step_matrix : fns.lookup ("step_matrix" : Str) = some C_step_matrix := by kernel_rfl
theorem id_matrix_raised : fns.lookup ("matrix_raised" : Str) = some C_matrix_raised := by kernel_rfl
theorem id_number_at : fns.lookup ("number_at" : Str) = some C_number_at := by kernel_rfl
theorem id_generating : fns.lookup ("generating" : Str) = some C_generating := by kernel_rfl
theorem id_series_numbers : fns.lookup ("series_numbers" : Str) = some C_series_numbers := by kernel_rfl
theorem id_law_numbers : fns.lookup ("_law_numbers" : Str) = some C_numbersL := by kernel_rfl
theorem id_law_product : fns.lookup ("_law_product" : Str) = some C_productL := by kernel_rfl
theorem Fn.abs (a : Int) : Fn "abs" [I a] (I a.natAbs) := Fn.of id_abs (⟨a, rfl, rfl⟩)
theorem Fn.len (xs : List PyData) (h : xs.length ≤ 10000) : Fn "len" [.list xs] (I xs.length) := Fn.of id_len (⟨xs, h, rfl, rfl⟩)
theorem Fn.sum (v : List Int) : Fn "sum" [V v] (I v.sum) := Fn.of id_sum (⟨v, rfl, rfl⟩)
theorem Fn.max (a b : Int) : Fn "max" [I a, I b] (I (Max.max a b)) := Fn.of id_max (⟨a, b, rfl, rfl⟩)
theorem Fn.min (a b : Int) : Fn "min" [I a, I b] (I (Min.min a b)) := Fn.of id_min (⟨a, b, rfl, rfl⟩)
theorem Fn.list (xs : List PyData) (h : xs.length ≤ 10000) : Fn "list" [.list xs] (.list xs) := Fn.of id_list (⟨xs, h, rfl, rfl⟩)
theorem Fn.intB (b : Bool) : Fn "int" [.bool b] (I (if b then 1 else 0)) := Fn.of id_int (.inl ⟨b, rfl, rfl⟩)
theorem Fn.intI (a : Int) : Fn "int" [I a] (I a) := Fn.of id_int (.inr ⟨a, rfl, rfl⟩)
theorem Fn.gcd (a b : Int) : Fn "gcd" [I a, I b] (I (Int.gcd a b)) := Fn.of id_gcd (⟨a, b, rfl, rfl⟩)
theorem Fn.rat (t b : Int) (h : b ≠ 0) : Fn "rat" [I t, I b] (R (Rat.divInt t b)) := Fn.of id_rat (⟨t, b, h, rfl, rfl⟩)
theorem Fn.radd (a b : Rat) (ha : Bt 1000000 a) (hb : Bt 1000000 b) : Fn "radd" [R a, R b] (R (a + b)) := Fn.of id_radd (⟨a, b, ha, hb, rfl, rfl⟩)
theorem Fn.rsub (a b : Rat) (ha : Bt 1000000 a) (hb : Bt 1000000 b) : Fn "rsub" [R a, R b] (R (a - b)) := Fn.of id_rsub (⟨a, b, ha, hb, rfl, rfl⟩)
theorem Fn.rmul (a b : Rat) (ha : Bt 1000000 a) (hb : Bt 1000000 b) : Fn "rmul" [R a, R b] (R (a * b)) := Fn.of id_rmul (⟨a, b, ha, hb, rfl, rfl⟩)
theorem Fn.rdiv (a b : Rat) (ha : Bt 1000000 a) (hb : Bt 1000000 b) (h : b ≠ 0) : Fn "rdiv" [R a, R b] (R (a / b)) := Fn.of id_rdiv (⟨a, b, ha, hb, h, rfl, rfl⟩)
theorem Fn.rneg (a : Rat) : Fn "rneg" [R a] (R (-a)) := Fn.of id_rneg (⟨a, rfl, rfl⟩)
theorem Fn.rinv (a : Rat) (h : a ≠ 0) : Fn "rinv" [R a] (R a⁻¹) := Fn.of id_rinv (⟨a, h, rfl, rfl⟩)
theorem Fn.qtrim (p : List Rat) (h : p.length ≤ 9000) : Fn "qtrim" [P p] (P (trim p)) := Fn.of id_qtrim (⟨p, h, rfl, rfl⟩)
theorem Fn.qdegree (p : List Rat) (h : p.length ≤ 9000) : Fn "qdegree" [P p] (I (p.length - 1)) := Fn.of id_qdegree (⟨p, h, rfl, rfl⟩)
theorem Fn.qlead (p : List Rat) (h : p.length ≤ 9000) : Fn "qlead" [P p] (R (plead p)) := Fn.of id_qlead (⟨p, h, rfl, rfl⟩)
theorem Fn.qadd (a b : List Rat) (h1 : a.length ≤ 9000) (h2 : b.length ≤ 9000) (ha : Bp 999990 a) (hb : Bp 999990 b) : Fn "qadd" [P a, P b] (P (padd a b)) := Fn.of id_qadd (⟨a, b, h1, h2, ha, hb, rfl, rfl⟩)
theorem Fn.qneg (p : List Rat) (h : p.length ≤ 9000) : Fn "qneg" [P p] (P (pneg p)) := Fn.of id_qneg (⟨p, h, rfl, rfl⟩)
theorem Fn.qsub (a b : List Rat) (h1 : a.length ≤ 9000) (h2 : b.length ≤ 9000) (ha : Bp 999990 a) (hb : Bp 999990 b) : Fn "qsub" [P a, P b] (P (psub a b)) := Fn.of id_qsub (⟨a, b, h1, h2, ha, hb, rfl, rfl⟩)
theorem Fn.qscale (p : List Rat) (r : Rat) (h : p.length ≤ 9000) (hp : Bp 1000000 p) (hr : Bt 1000000 r) : Fn "qscale" [P p, R r] (P (pscale p r)) := Fn.of id_qscale (⟨p, r, h, hp, hr, rfl, rfl⟩)
theorem Fn.qraise (p : List Rat) (k : Nat) (h : p.length ≤ 4000) (hk : k ≤ 4000) : Fn "qraise" [P p, I k] (P (praise p k)) := Fn.of id_qraise (⟨p, k, h, hk, rfl, rfl⟩)
theorem Fn.qdivmod (a b : List Rat) (A B : Nat) (hA0 : 0 < A) (hB0 : 0 < B) (ha : Bp A a) (hb : Bp B b) (h1 : a.length ≤ 100) (h2 : b.length ≤ 100) (h : plead b ≠ 0) (hB : dB a.length b.length A B + B ≤ 900000) : Fn "qdivmod" [P a, P b] (.tuple [P (pdiv a b).1, P (pdiv a b).2]) := Fn.of id_qdivmod (⟨a, b, A, B, hA0, hB0, ha, hb, h1, h2, h, hB, rfl, rfl⟩)
theorem Fn.qmonic (p : List Rat) (h : p.length ≤ 9000) (hp : Bp 1000000 p) (hl : p ≠ [] → plead p ≠ 0) : Fn "qmonic" [P p] (P (pmonic p)) := Fn.of id_qmonic (⟨p, h, hp, hl, rfl, rfl⟩)
theorem Fn.qgcd (a b : List Rat) (A B : Nat) (hA0 : 0 < A) (hB0 : 0 < B) (ha : Bp A a) (hb : Bp B b) (h1 : a.length ≤ 100) (h2 : b.length ≤ 100) (hla : a ≠ [] → plead a ≠ 0) (hl : b ≠ [] → plead b ≠ 0) (hB : gB (b.length + 1) a.length b.length A B ≤ 400000) : Fn "qgcd" [P a, P b] (P (pgcd a b)) := Fn.of id_qgcd (⟨a, b, A, B, hA0, hB0, ha, hb, h1, h2, hla, hl, hB, rfl, rfl⟩)
theorem Fn.fmake (top bottom : List Rat) (ht : Bp 5 top) (hb : Bp 5 bottom) (h1 : top.length ≤ 3) (h2 : bottom.length ≤ 4) (hl : top ≠ [] → plead top ≠ 0) (hlb : plead bottom ≠ 0) (hq : top ≠ [] → 1 < (pgcd top bottom).length → plead (pdiv bottom (pgcd top bottom)).1 ≠ 0) : Fn "fmake" [P top, P bottom] (.tuple [P (fmakeS top bottom).1, P (fmakeS top bottom).2]) := Fn.of id_fmake (⟨top, bottom, ht, hb, h1, h2, hl, hlb, hq, rfl, rfl⟩)
theorem Fn.unit_rows (n : Nat) (h : n ≤ 100) : Fn "unit_rows" [I n] (M (idm n)) := Fn.of id_unit_rows (⟨n, h, rfl, rfl⟩)
theorem Fn.whole_mul (a b : List (List Int)) (ha : Bm 1000000 a) (hb : Bm 1000000 b) (h1 : ∀ r ∈ a, b.length ≤ r.length) (h2 : ∀ r ∈ b, (b.headD []).length ≤ r.length) (h3 : b.length ≤ 100) (h4 : (b.headD []).length ≤ 100) (h5 : a.length ≤ 100) : Fn "whole_mul" [M a, M b] (M (mmul a b)) := Fn.of id_whole_mul (⟨a, b, ha, hb, h1, h2, h3, h4, h5, rfl, rfl⟩)
theorem Fn.next_number (steps row : List Int) (h1 : steps.length ≤ row.length) (h2 : row.length ≤ 9000) (hs : ∀ x ∈ steps, Bz 1000000 x) (hr : ∀ x ∈ row, Bz 1000000 x) : Fn "next_number" [V steps, V row] (I (nextS steps row)) := Fn.of id_next_number (⟨steps, row, h1, h2, hs, hr, rfl, rfl⟩)
theorem Fn.recurrence_row (steps first : List Int) (many : Nat) (h1 : first.length = steps.length) (h2 : steps.length ≤ 3) (h3 : many ≤ 20) (hs : ∀ x ∈ steps, Bz 8 x) (hf : ∀ x ∈ first, Bz 8 x) : Fn "recurrence_row" [V steps, V first, I many] (V ((rowS steps first many).take many)) := Fn.of id_recurrence_row (⟨steps, first, many, h1, h2, h3, hs, hf, rfl, rfl⟩)
theorem Fn.step_matrix (steps : List Int) (h1 : steps.length ≤ 100) : Fn "step_matrix" [V steps] (M (stepM steps)) := Fn.of id_step_matrix (⟨steps, h1, rfl, rfl⟩)
theorem Fn.matrix_raised (a : List (List Int)) (n : Nat) (h1 : ∀ r ∈ a, r.length = a.length) (h2 : a.length ≤ 3) (h3 : n ≤ 20) (ha : Bm 8 a) : Fn "matrix_raised" [M a, I n] (M (raiseS a n)) := Fn.of id_matrix_raised (⟨a, n, h1, h2, h3, ha, rfl, rfl⟩)
theorem Fn.number_at (steps first : List Int) (n : Nat) (h1 : first.length = steps.length) (h2 : steps.length ≤ 3) (h3 : n ≤ 8) (hs : ∀ x ∈ steps, Bz 8 x) (hf : ∀ x ∈ first, Bz 8 x) : Fn "number_at" [V steps, V first, I n] (I (numberS steps first n)) := Fn.of id_number_at (⟨steps, first, n, h1, h2, h3, hs, hf, rfl, rfl⟩)
theorem Fn.generating (steps first : List Int) (h1 : first.length = steps.length) (h2 : steps.length ≤ 3) (hs : ∀ x ∈ steps, -2 ≤ x ∧ x ≤ 2) (hf : ∀ x ∈ first, -3 ≤ x ∧ x ≤ 3) : Fn "generating" [V steps, V first] (.tuple [P (generatingS steps first).1, P (generatingS steps first).2]) := Fn.of id_generating (⟨steps, first, h1, h2, hs, hf, rfl, rfl⟩)
theorem Fn.series_numbers (top bottom : List Rat) (many : Nat) (h0 : bottom.getD 0 0 ≠ 0) (h1 : top.length ≤ 10) (h2 : bottom.length ≤ 4) (h3 : many ≤ 20) (ht : Bp 100000 top) (hb : Bp 100000 bottom) (hf : ∀ c ∈ serS top bottom many [], Bt 1000 c) : Fn "series_numbers" [.tuple [P top, P bottom], I many] (P (serS top bottom many [])) := Fn.of id_series_numbers (⟨top, bottom, many, h0, h1, h2, h3, ht, hb, hf, rfl, rfl⟩)
theorem Fn.law_numbers (steps first : List Int) (many : Nat) (h1 : first.length = steps.length) (h2 : steps.length ≤ 3) (h3 : many ≤ 20) (hs : ∀ x ∈ steps, Bz 8 x) (hf : ∀ x ∈ first, Bz 8 x) : Fn "_law_numbers" [V steps, V first, I many] (V (rowS steps first many)) := Fn.of id_law_numbers (⟨steps, first, many, h1, h2, h3, hs, hf, rfl, rfl⟩)
theorem Fn.law_product (a b : List (List Int)) (ha : Bm 1000000 a) (hb : Bm 1000000 b) (h1 : ∀ r ∈ a, r.length = a.length) (h2 : ∀ r ∈ b, r.length = a.length) (h3 : b.length = a.length) (h4 : a.length ≤ 100) : Fn "_law_product" [M a, M b] (M (prodS a b)) := Fn.of id_law_product (⟨a, b, ha, hb, h1, h2, h3, h4, rfl, rfl⟩)
noncomputable def Gl (x : Str) : Option PyData := if x = "R0" then some (R 0) else if x = "R1" then some (R 1) else if x = "F0" then some (.tuple [P [], P [1]]) else none
theorem Bz.sm {n : Nat} {x : Int} (h : Bz n x) (hn : n ≤ 1048576) : Sm x := by
  unfold Sm Builtin.Int.intBits
  split
  · (first | lia | omega)
  · rename_i h0
    have hx : x.natAbs ≠ 0 := by simpa using h0
    have := (Nat.log2_lt hx).mpr h
    (first | lia | omega)
theorem RdAll.one {P : Addr → Obj → Prop} {vs : List Value} {d : PyData} (h : RdAll P vs [d]) : ∃ v, vs = [v] ∧ Rd P v d := by
  obtain ⟨v, ws, rfl, a, b⟩ := h.consI
  rw [b.nilI]
  exact ⟨_, rfl, a⟩
theorem RdAll.two {P : Addr → Obj → Prop} {vs : List Value} {d e : PyData} (h : RdAll P vs [d, e]) : ∃ u v, vs = [u, v] ∧ Rd P u d ∧ Rd P v e := by
  obtain ⟨v, ws, rfl, a, b⟩ := h.consI
  obtain ⟨u, rfl, c⟩ := b.one
  exact ⟨_, _, rfl, a, c⟩
theorem Rd.asInt {P : Addr → Obj → Prop} {v : Value} {i : Int} : Rd P v (.int i) → ∃ t, v = .int i t
  | .int _ t => ⟨t, rfl⟩
section
variable {prog : Program} {w : World} {hT : Heap} {mg mb : Str → Option Value} {k : Nat}
noncomputable def Ok (prog : Program) (w : World) (hT : Heap) (mg mb : Str → Option Value) (k : Nat) (g : Str) : Prop :=
  ∃ fv, LoadsG mg mb g fv ∧ Kept hT fv ∧ ∀ ds d, Fn g ds d → ∀ (A : Around) (s : Shared) (W : Addr → Prop) (vs : List Value) (E : Value → Shared → Prop), AIn k A → Up hT s.heap → WOk W hT s.heap → RdAll (PW W s.heap) vs ds →
    wpAny (model prog w) A (call fv vs) (Ret W s (· = d)) E s
theorem Ok.more {g : Str} {j : Nat} (h : Ok prog w hT mg mb k g) (hj : k ≤ j) : Ok prog w hT mg mb j g :=
  let ⟨fv, a, b, c⟩ := h; ⟨fv, a, b, fun ds d hF A s W vs E hA => c ds d hF A s W vs E (hA.less hj)⟩
theorem ok_abs (hl : LoadsG mg mb "abs" (.builtin "abs")) : Ok prog w hT mg mb k "abs" := by
  refine ⟨_, hl, .inl ⟨_, rfl⟩, fun ds d hF A s W vs E hA hU hW r => ?_⟩
  replace hF := hF.inv id_abs
  obtain ⟨a, rfl, rfl⟩ := hF
  obtain ⟨_, rfl, r1⟩ := r.one
  obtain ⟨_, rfl⟩ := r1.asInt
  refine PyProof.Rows.call_abs_int fun u tk => ⟨_, rfl, ?_, Keeps.toks s tk⟩
  have : (if a < 0 then -a else a) = (a.natAbs : Int) := by split <;> (first | lia | omega)
  rw [this]
  exact .int _ _
theorem ok_len (hl : LoadsG mg mb "len" (.builtin "len")) : Ok prog w hT mg mb k "len" := by
  refine ⟨_, hl, .inl ⟨_, rfl⟩, fun ds d hF A s W vs E hA hU hW r => ?_⟩
  replace hF := hF.inv id_len
  obtain ⟨xs, h, rfl, rfl⟩ := hF
  obtain ⟨_, rfl, r1⟩ := r.one
  obtain ⟨l, vs, rfl, _, hl, r⟩ := r1.isList
  have e := r.length
  rw [Array.length_toList] at e
  refine PySem.Calls.call_len_list hl (by (first | lia | omega)) ⟨_, rfl, ?_, Keeps.toks s _⟩
  rw [e]
  exact .int _ _
theorem ok_max (hl : LoadsG mg mb "max" (.builtin "max")) : Ok prog w hT mg mb k "max" := by
  refine ⟨_, hl, .inl ⟨_, rfl⟩, fun ds d hF A s W vs E hA hU hW r => ?_⟩
  replace hF := hF.inv id_max
  obtain ⟨a, b, rfl, rfl⟩ := hF
  obtain ⟨_, _, rfl, r1, r2⟩ := r.two
  obtain ⟨_, rfl⟩ := r1.asInt
  obtain ⟨_, rfl⟩ := r2.asInt
  refine PySem.max_two_ints hA.handled fun h' tk hk => ⟨_, rfl, ?_, Keeps.mk' hk⟩
  split
  · rw [Int.max_eq_right (by (first | lia | omega))]; exact .int _ _
  · rw [Int.max_eq_left (by (first | lia | omega))]; exact .int _ _
theorem ok_min (hl : LoadsG mg mb "min" (.builtin "min")) : Ok prog w hT mg mb k "min" := by
  refine ⟨_, hl, .inl ⟨_, rfl⟩, fun ds d hF A s W vs E hA hU hW r => ?_⟩
  replace hF := hF.inv id_min
  obtain ⟨a, b, rfl, rfl⟩ := hF
  obtain ⟨_, _, rfl, r1, r2⟩ := r.two
  obtain ⟨_, rfl⟩ := r1.asInt
  obtain ⟨_, rfl⟩ := r2.asInt
  refine PySem.min_two_ints hA.handled fun h' tk hk => ⟨_, rfl, ?_, Keeps.mk' hk⟩
  split
  · rw [Int.min_eq_right (by (first | lia | omega))]; exact .int _ _
  · rw [Int.min_eq_left (by (first | lia | omega))]; exact .int _ _
theorem ok_int (hl : LoadsG mg mb "int" (.type "int")) : Ok prog w hT mg mb k "int" := by
  refine ⟨_, hl, .inr (.inl ⟨_, rfl⟩), fun ds d hF A s W vs E hA hU hW r => ?_⟩
  replace hF := hF.inv id_int
  rcases hF with ⟨b, rfl, rfl⟩ | ⟨a, rfl, rfl⟩
  ·
    obtain ⟨_, rfl, r1⟩ := r.one
    cases r1
    exact PySem.call_int_bool ⟨_, rfl, .int _ _, Keeps.toks s _⟩
  ·
    obtain ⟨_, rfl, r1⟩ := r.one
    obtain ⟨_, rfl⟩ := r1.asInt
    exact PySem.call_int_int ⟨_, rfl, .int _ _, Keeps.refl s⟩
theorem ok_list (hl : LoadsG mg mb "list" (.type "list")) : Ok prog w hT mg mb k "list" := by
  refine ⟨_, hl, .inr (.inl ⟨_, rfl⟩), fun ds d hF A s W vs E hA hU hW r => ?_⟩
  replace hF := hF.inv id_list
  refine genP fun gP hgP => ?_
  obtain ⟨xs, h, rfl, rfl⟩ := hF
  refine hgP ?_
  clear hgP
  obtain ⟨_, rfl, r1⟩ := r.one
  refine genP fun gP hgP => ?_
  obtain ⟨l, vs, rfl, _, ⟨o, ho, hc, nn, hd⟩, r⟩ := r1.isList
  refine hgP ?_
  clear hgP
  have e := r.length
  rw [Array.length_toList] at e
  refine call_list_seq l (.inl rfl) ho hc hd (fun h' c' hk hn => ?_) (by rw [sizeLine_eq]; (first | lia | omega))
  exact ⟨_, rfl, Rd.list (o := { cls := .type "list", data := .seq vs c' }) ⟨hn, new_off hW.low⟩ rfl rfl (r.keeps hk), Keeps.mk' hk⟩
theorem preSum_ints : ∀ (v : List Int), preSum (fun i => v.getD i 0) v.length = v.sum := by
  have key : ∀ (v : List Int) (j : Nat), preSum (fun i => v.getD i 0) j = (v.take j).sum := fun v j => by
    induction j with
    | zero => simp [preSum]
    | succ j ih =>
      rw [preSum, ih]
      by_cases h : j < v.length
      · rw [List.take_succ_eq_append_getElem h, List.sum_append]
        simp [List.getD_eq_getElem?_getD, List.getElem?_eq_getElem h]
      · rw [List.take_of_length_le (by (first | lia | omega)), List.take_of_length_le (by (first | lia | omega))]
        simp [List.getD_eq_getElem?_getD, List.getElem?_eq_none (Nat.le_of_not_lt h)]
  intro v
  rw [key, List.take_length]
theorem ok_sum (hl : LoadsG mg mb "sum" (.builtin "sum")) : Ok prog w hT mg mb k "sum" := by
  refine ⟨_, hl, .inl ⟨_, rfl⟩, fun ds d hF A s W vs E hA hU hW r => ?_⟩
  replace hF := hF.inv id_sum
  obtain ⟨v, rfl, rfl⟩ := hF
  obtain ⟨_, rfl, r1⟩ := r.one
  refine genP fun gP hgP => ?_
  obtain ⟨l, vs, rfl, _, hl, r⟩ := r1.isList
  refine hgP ?_
  clear hgP
  have e := r.length
  rw [Array.length_toList, List.length_map] at e
  have hll : l < s.heap.objs.size := by obtain ⟨_, ho, _⟩ := hl; exact Heap.lt_size ho
  have T := Walks.list (prog := prog) (w := w) (A := A.in1) (show A.in1.handled = none from hA.handled) s.heap.objs.size l (Nat.ne_of_lt hll) vs
  refine PySem.call_sum_walkG (wpAny_pyIter_list hl ?_)
  refine ⟨s.heap.objs.size, _, _, vs.size, _, _, fun i => v.getD i 0, rfl, T, ⟨⟨_, Heap.get?_push_size _ rfl, rfl, rfl⟩, hl.push _⟩, fun b hb => ?_, fun i x hx => ?_, fun h' tk t' hk => ?_⟩
  · show b < (s.heap.push _).objs.size
    rw [Heap.size_push]
    rcases List.mem_cons.mp hb with rfl | hb
    · exact Nat.lt_succ_self _
    · rw [List.mem_singleton.mp hb]; exact Nat.lt_succ_of_lt hll
  · obtain ⟨d, hd, rd⟩ := r.getV (k := i) (v := x) (by rw [Array.getElem?_toList]; exact hx)
    rw [List.getElem?_map] at hd
    obtain ⟨z, hz, rfl⟩ := Option.map_eq_some_iff.mp hd
    cases rd
    rename_i t
    exact ⟨t, by simp [List.getD_eq_getElem?_getD, hz]⟩
  · refine ⟨_, rfl, ?_, Keeps.mk' fun b o q => hk b o ?_ (Heap.get?_push_of_some _ q)⟩
    · rw [e, preSum_ints]; exact .int _ _
    · intro hb
      rw [List.mem_singleton.mp hb] at q
      exact Nat.lt_irrefl _ (Heap.lt_size q)
end
noncomputable def pick : List Bool → List Stmt → List Stmt
  | true :: b, s :: r => s :: pick b r
  | false :: b, _ :: r => pick b r
  | _, _ => []
noncomputable def marks : List Bool := [false, true, false, true, true, false, true, false, true, true, true, true, true, true, true, true, true, false, true, true, true, true, true, true, true, true, true, true, true, false, true, true, false, true, true, true, true, true, true, true, false, true, true, true, true, true, true, true, true]
noncomputable def view : Program := { PySem.Challenge.pw_pf0043_01 with main := { PySem.Challenge.pw_pf0043_01.main with body := pick marks PySem.Challenge.pw_pf0043_01.main.body } }
theorem lawOk : PySem.Challenge.rw_pf0043_01.wellSaid = true := by
  unfold OpenLaw.wellSaid
  repeat' with_reducible refine look_both ?_ ?_
  · unfold OpenRow.wellSaid
    repeat' with_reducible refine look_both ?_ ?_
    all_goals decide +kernel
  all_goals decide +kernel
local macro_rules | `(tactic| walk_at "mine ev1") => `(tactic| first
  | with_reducible (first | refine ee_bin ?_ | refine ee_call ?_ | refine ee_int ?_ | refine ee_part ?_ | refine ee_tuple ?_ | refine ee_list ?_ | refine ee_cmp ?_ | refine ee_if ?_ | refine ee_neg ?_ | refine ee_bool ?_ | refine ee_none ?_ | refine ee_str ?_ | refine ee_comp ?_ | refine es_cons ?_ | refine es_nil ?_ | refine eo_none ?_ | refine eo_some ?_ | refine eb_cmp ?_ | refine eb_bool ?_ | refine eb_not ?_ | refine eb_call ?_ | refine bs_and ?_ | refine bs_or ?_ | refine bs_nil ?_ | refine ip_0 ?_ | refine ip_1 ?_ | refine bp_add ?_ | refine bp_sub ?_ | refine cp_ne ?_ | refine cp_eq ?_ | refine cp_lt ?_ | refine cp_le ?_ | refine cp_gt ?_ | refine cp_ge ?_)
  | ((with_reducible refine' ee_name ?mh ?_); (case' mh => exact rfl))
  | ((with_reducible refine' ee_item ?mi ?mn); (case' mn => exact rfl))
  | ((with_reducible refine' ee_glob ?mh ?mg ?_); (case' mh => exact rfl); (case' mg => exact rfl)))
local macro_rules | `(tactic| walk_at "mine ev") => `(tactic| repeat walk_at "mine ev1")
local macro_rules | `(tactic| walk_at "mine dec") => `(tactic| decide +kernel)
local macro_rules | `(tactic| walk_at "mine ew1") => `(tactic| first
  | with_reducible refine ee_int ?_
  | ((with_reducible refine' ee_name ?mh ?_); (case' mh => exact rfl))
  | ((with_reducible refine' ee_item ?mi ?mn); (case' mn => exact rfl))
  | with_reducible refine es_cons ?_ | with_reducible refine es_nil ?_)
local macro_rules | `(tactic| walk_at "mine ew") => `(tactic| repeat walk_at "mine ew1")
noncomputable abbrev D1 (x : Str) (a : PyData) : Str × TV := (x, .d a)
noncomputable abbrev O1 (x : Str) (xs : List PyData) : Str × TV := (x, .own xs)
noncomputable def nthS : Nat → List Stmt → Stmt
  | 0, s :: _ => s
  | n + 1, _ :: r => nthS n r
  | _, [] => .Pass default
noncomputable def forB : Stmt → List Stmt
  | .For _ _ b _ _ => b
  | _ => []
noncomputable def whB : Stmt → List Stmt
  | .While _ b _ _ => b
  | _ => []
noncomputable def rcS : Stmt → DefRec
  | .FunctionDef n p b _ _ _ sc _ _ pos => ⟨n, p, b, sc, pos⟩
  | _ => ⟨"", ⟨[], [], none, [], [], none, []⟩, [], default, default⟩
noncomputable def rc (n : Nat) : DefRec := rcS (nthS n view.main.body)
noncomputable def PF (hT : Heap) (mg : Str → Option Value) (d : DefRec) : Prop :=
  ∃ a o pm code doc, mg d.name = some (.ref a) ∧ hT.get? a = some o ∧ o.data = .func (Calls.docDef d.name d.params d.body d.scope pm code doc) ∧ hT.CodeRec code d.name
section
variable {prog : Program} {w : World} {hT : Heap} {mg mb : Str → Option Value} {k : Nat}
theorem ok_of_body (C : Cx prog hT mg mb) {d : DefRec} {g : Str} (pf : PF hT mg d) (hg : d.name = g) (names : List Str) (hbind : ∀ (pm code doc : Value) (vals : List Value), vals.length = names.length → bindArgs (Calls.docDef d.name d.params d.body d.scope pm code doc) ⟨vals, []⟩ = pure (names.zip vals))
    (hsc : scopeOk d.scope names = true) (body : ∀ ds r, Fn g ds r → ds.length = names.length ∧ Exec prog w hT k d.scope d.body (names.zip (ds.map TV.d)) (fun o => o = .ret r)) : Ok prog w hT mg mb (k + 1) g := by
  refine genP fun gP hgP => ?_
  obtain ⟨a, o, pm, code, doc, h1, h2, h3, h4⟩ := pf
  refine hgP ?_
  clear hgP
  rw [hg] at h1
  refine ⟨.ref a, .inl h1, .inr (.inr ⟨a, o, _, rfl, h2, h3⟩), fun ds r hF A s W vs E hA hU hW rd => ?_⟩
  obtain ⟨hl, hx⟩ := body ds r hF
  exact fn_ok C h2 h3 h4 rfl rfl rfl rfl (hbind pm code doc) hsc hl hx hA hU hW rd
noncomputable def gsOf (fs : List Str) : List Str × List Str := (["R0", "R1", "F0"], fs)
theorem len_succ {n : Nat} {vals : List Value} (h : vals.length = n + 1) : ∃ a r, vals = a :: r ∧ r.length = n := by
  cases vals with
  | nil => cases h
  | cons a r => exact ⟨a, r, rfl, Nat.succ.inj h⟩
theorem len_one {vals : List Value} (h : vals.length = 1) : ∃ a, vals = [a] := by
  obtain ⟨a, r, rfl, e⟩ := len_succ h
  exact ⟨a, by rw [List.eq_nil_of_length_eq_zero e]⟩
theorem len_two {vals : List Value} (h : vals.length = 2) : ∃ a b, vals = [a, b] := by
  obtain ⟨a, r, rfl, e⟩ := len_succ h
  obtain ⟨b, rfl⟩ := len_one e
  exact ⟨a, b, rfl⟩
theorem len_three {vals : List Value} (h : vals.length = 3) : ∃ a b c, vals = [a, b, c] := by
  obtain ⟨a, r, rfl, e⟩ := len_succ h
  obtain ⟨b, c, rfl⟩ := len_two e
  exact ⟨a, b, c, rfl⟩
theorem gcd_ok (C : Cx prog hT mg mb) (GL : Glob prog w hT mg mb k Fn Gl (gsOf ["abs"])) (pf : PF hT mg (rc 3)) : Ok prog w hT mg mb (k + 1) "gcd" := by
  refine ok_of_body C pf rfl ["a", "b"] (fun pm code doc vals h => by obtain ⟨a, b, rfl⟩ := len_two h; rfl) (by decide +kernel) fun ds r hF => ?_
  replace hF := hF.inv id_gcd
  obtain ⟨a, b, rfl, rfl⟩ := hF
  refine ⟨rfl, ?_⟩
  refine ex_cons (ex_tup2 GL (n := 20) (m := 20) ?_ (by decide +kernel) (by decide +kernel) (by decide +kernel) (by decide +kernel))
  walk_at "mine ev"
  refine ⟨_, .abs _, ?_⟩
  walk_at "mine ev"
  refine ⟨_, .abs _, ?_⟩
  walk_at "mine ev"
  refine ⟨by simp, ?_⟩
  show Exec _ _ _ _ _ _ [D1 "a" (I _), D1 "b" (I _)] _
  refine ex_cons (ex_while GL (n := 20) (m := 20) (fun y σ => ∃ x : Nat, σ = [D1 "a" (I x), D1 "b" (I y)] ∧ Nat.gcd x y = Int.gcd a b) (j := b.natAbs) ⟨a.natAbs, rfl, rfl⟩ (fun y σ hI => ?_) (by decide +kernel))
  obtain ⟨x, rfl, hg⟩ := hI
  walk_at "mine ev"
  by_cases hy : y = 0
  · subst hy
    show Exec _ _ _ _ _ _ _ _
    refine ex_cons (ex_return GL (n := 20) (m := 20) ?_ (by decide +kernel))
    walk_at "mine ev"
    rw [← hg, Nat.gcd_zero_right]
  · rw [show decide ((y : Int) ≠ 0) = true by simp [hy]]
    show Exec _ _ _ _ _ _ _ _
    refine ex_cons (ex_tup2 GL (n := 20) (m := 20) ?_ (by decide +kernel) (by decide +kernel) (by decide +kernel) (by decide +kernel))
    walk_at "mine ev"
    refine bp_mod (by (first | lia | omega)) ?_
    walk_at "mine ev"
    refine ⟨by simp, ex_nil ⟨x % y, Nat.mod_lt _ (by (first | lia | omega)), y, ?_, ?_⟩⟩
    · have : ((x : Int).fmod (y : Int)) = ((x % y : Nat) : Int) := by rw [Int.fmod_eq_emod_of_nonneg _ (by (first | lia | omega))]; rfl
      rw [this]; rfl
    · rw [Nat.gcd_comm, ← Nat.gcd_rec, Nat.gcd_comm] at *; exact hg
end
theorem rat_num {t b : Int} (h : b ≠ 0) : ∃ g : Int, g = (if b > 0 then ((Int.gcd t b : Nat) : Int) else 0 - ((Int.gcd t b : Nat) : Int)) ∧ g ≠ 0 ∧ t.fdiv g = (Rat.divInt t b).num ∧ b.fdiv g = ((Rat.divInt t b).den : Int) := by
  have hg0 : (Int.gcd t b : Int) ≠ 0 := by
    simp [Int.gcd_eq_zero_iff, h]
  have hgc : b.gcd t = t.gcd b := Int.gcd_comm ..
  obtain ⟨p, hp⟩ := Int.gcd_dvd_left (a := t) (b := b)
  obtain ⟨q, hq⟩ := Int.gcd_dvd_right (a := t) (b := b)
  generalize hG : (Int.gcd t b) = G at *
  have hGpos : (0 : Int) < G := by (first | lia | omega)
  refine ⟨_, rfl, ?_, ?_, ?_⟩
  · split <;> (first | lia | omega)
  · rw [Rat.num_divInt, hgc]
    by_cases hb : b > 0
    · rw [if_pos hb, Int.sign_eq_one_of_pos hb, Int.one_mul]
      rw [Int.fdiv_eq_ediv_of_nonneg _ (by (first | lia | omega))]
    · rw [if_neg hb, Int.sign_eq_neg_one_of_neg (by (first | lia | omega))]
      have e1 : -1 * t / (G : Int) = -p := by
        rw [hp, show -1 * ((G : Int) * p) = (G : Int) * (-p) by grind, Int.mul_ediv_cancel_left _ (by (first | lia | omega))]
      have e2 : t.fdiv (0 - (G : Int)) = -p := by
        rw [hp, show (G : Int) * p = (-p) * (0 - (G : Int)) by grind, Int.mul_fdiv_cancel _ (by (first | lia | omega))]
      rw [e1, e2]
  · rw [Rat.den_divInt, if_neg h, hgc]
    by_cases hb : b > 0
    · rw [if_pos hb, Int.fdiv_eq_ediv_of_nonneg _ (by (first | lia | omega))]
      have : b = (b.natAbs : Int) := by (first | lia | omega)
      conv => lhs; rw [this]
      rfl
    · rw [if_neg hb]
      have e2 : b.fdiv (0 - (G : Int)) = -q := by
        rw [hq, show (G : Int) * q = (-q) * (0 - (G : Int)) by grind, Int.mul_fdiv_cancel _ (by (first | lia | omega))]
      rw [e2]
      have hq0 : 0 ≤ -q := by
        have : (G : Int) * q < 0 ∨ (G : Int) * q = 0 := by (first | lia | omega)
        by_cases c : 0 ≤ -q
        · exact c
        · exfalso
          have : 0 < (G : Int) * q := Int.mul_pos hGpos (by (first | lia | omega))
          (first | lia | omega)
      have e3 : b.natAbs = G * q.natAbs := by rw [hq, Int.natAbs_mul]; simp
      rw [e3, Nat.mul_div_cancel_left _ (by (first | lia | omega))]
      (first | lia | omega)
section
variable {prog : Program} {w : World} {hT : Heap} {mg mb : Str → Option Value} {k : Nat}
theorem rat_ok (C : Cx prog hT mg mb) (GL : Glob prog w hT mg mb k Fn Gl (gsOf ["gcd"])) (pf : PF hT mg (rc 6)) : Ok prog w hT mg mb (k + 1) "rat" := by
  refine ok_of_body C pf rfl ["top", "bottom"] (fun pm code doc vals h => by obtain ⟨a, b, rfl⟩ := len_two h; rfl) (by decide +kernel) fun ds r hF => ?_
  replace hF := hF.inv id_rat
  refine genP fun gP hgP => ?_
  obtain ⟨t, b, h, rfl, rfl⟩ := hF
  refine hgP ?_
  clear hgP
  refine ⟨rfl, ?_⟩
  refine ex_cons (ex_if GL (n := 20) (m := 20) ?_ (by decide +kernel))
  walk_at "mine ev"
  rw [show decide (b = 0) = false by simp [h]]
  refine ex_nil ?_
  show Exec _ _ _ _ _ _ [D1 "top" (I _), D1 "bottom" (I _)] _
  refine ex_cons (ex_set GL (n := 20) (m := 20) ?_ (by decide +kernel) (by decide +kernel) rfl)
  walk_at "mine ev"
  refine genP fun gP hgP => ?_
  obtain ⟨g, hg, g0, e1, e2⟩ := rat_num (t := t) h
  refine hgP ?_
  clear hgP
  have fin : Exec prog w hT k (rc 6).scope (rc 6).body.tail.tail [D1 "top" (I t), D1 "bottom" (I b), D1 "g" (I g)] (fun o => o = .ret (R (Rat.divInt t b))) := by
    refine ex_cons (ex_return GL (n := 20) (m := 20) ?_ (by decide +kernel))
    walk_at "mine ev"
    refine bp_div g0 ?_
    walk_at "mine ev"
    refine bp_div g0 ?_
    walk_at "mine ev"
    refine ⟨by simp, ?_⟩
    rw [e1, e2]
  by_cases hb : b > 0
  · rw [show decide (b > 0) = true by simp [hb]]
    rw [if_pos hb] at hg
    show evE _ _ _ _ _ _
    walk_at "mine ev"
    refine ⟨_, .gcd _ _, ?_⟩
    rw [hg] at fin
    exact fin
  · rw [show decide (b > 0) = false by simp [hb]]
    rw [if_neg hb] at hg
    show evE _ _ _ _ _ _
    walk_at "mine ev"
    refine ⟨_, .gcd _ _, ?_⟩
    walk_at "mine ev"
    rw [hg] at fin
    exact fin
end
theorem Bt.sn {n : Nat} {q : Rat} (h : Bt n q) (hn : n ≤ 1048576 := by decide) : Sm q.num := Bz.sm (show Bz n q.num from h.1) hn
theorem Bt.sd {n : Nat} {q : Rat} (h : Bt n q) (hn : n ≤ 1048576 := by decide) : Sm (q.den : Int) := Bz.sm (show Bz n (q.den : Int) from by unfold Bz; simpa using h.2) hn
theorem den_ne (q : Rat) : (q.den : Int) ≠ 0 := by have := q.den_nz; (first | lia | omega)
theorem divInt_nat (x : Int) (m n : Nat) : Rat.divInt x ((m : Int) * (n : Int)) = mkRat x (m * n) := by
  rw [← Int.natCast_mul, Rat.divInt_ofNat]
section
variable {prog : Program} {w : World} {hT : Heap} {mg mb : Str → Option Value} {k : Nat}
theorem radd_ok (C : Cx prog hT mg mb) (GL : Glob prog w hT mg mb k Fn Gl (gsOf ["rat"])) (pf : PF hT mg (rc 7)) : Ok prog w hT mg mb (k + 1) "radd" := by
  refine ok_of_body C pf rfl ["a", "b"] (fun pm code doc vals h => by obtain ⟨a, b, rfl⟩ := len_two h; rfl) (by decide +kernel) fun ds r hF => ?_
  replace hF := hF.inv id_radd
  obtain ⟨a, b, ha, hb, rfl, rfl⟩ := hF
  refine ⟨rfl, ?_⟩
  refine ex_cons (ex_return GL (n := 20) (m := 20) ?_ (by decide +kernel))
  walk_at "mine ev"
  refine bp_mul ha.sn hb.sd ?_
  walk_at "mine ev"
  refine bp_mul hb.sn ha.sd ?_
  walk_at "mine ev"
  refine bp_mul ha.sd hb.sd ?_
  walk_at "mine ev"
  refine ⟨_, .rat _ _ (Int.mul_ne_zero (den_ne a) (den_ne b)), ?_⟩
  rw [divInt_nat, ← Rat.add_def']
theorem rsub_ok (C : Cx prog hT mg mb) (GL : Glob prog w hT mg mb k Fn Gl (gsOf ["rat"])) (pf : PF hT mg (rc 8)) : Ok prog w hT mg mb (k + 1) "rsub" := by
  refine ok_of_body C pf rfl ["a", "b"] (fun pm code doc vals h => by obtain ⟨a, b, rfl⟩ := len_two h; rfl) (by decide +kernel) fun ds r hF => ?_
  replace hF := hF.inv id_rsub
  obtain ⟨a, b, ha, hb, rfl, rfl⟩ := hF
  refine ⟨rfl, ?_⟩
  refine ex_cons (ex_return GL (n := 20) (m := 20) ?_ (by decide +kernel))
  walk_at "mine ev"
  refine bp_mul ha.sn hb.sd ?_
  walk_at "mine ev"
  refine bp_mul hb.sn ha.sd ?_
  walk_at "mine ev"
  refine bp_mul ha.sd hb.sd ?_
  walk_at "mine ev"
  refine ⟨_, .rat _ _ (Int.mul_ne_zero (den_ne a) (den_ne b)), ?_⟩
  rw [divInt_nat, ← Rat.sub_def']
theorem rmul_ok (C : Cx prog hT mg mb) (GL : Glob prog w hT mg mb k Fn Gl (gsOf ["rat"])) (pf : PF hT mg (rc 9)) : Ok prog w hT mg mb (k + 1) "rmul" := by
  refine ok_of_body C pf rfl ["a", "b"] (fun pm code doc vals h => by obtain ⟨a, b, rfl⟩ := len_two h; rfl) (by decide +kernel) fun ds r hF => ?_
  replace hF := hF.inv id_rmul
  obtain ⟨a, b, ha, hb, rfl, rfl⟩ := hF
  refine ⟨rfl, ?_⟩
  refine ex_cons (ex_return GL (n := 20) (m := 20) ?_ (by decide +kernel))
  walk_at "mine ev"
  refine bp_mul ha.sn hb.sn ?_
  walk_at "mine ev"
  refine bp_mul ha.sd hb.sd ?_
  walk_at "mine ev"
  refine ⟨_, .rat _ _ (Int.mul_ne_zero (den_ne a) (den_ne b)), ?_⟩
  rw [divInt_nat, ← Rat.mul_def']
theorem rdiv_ok (C : Cx prog hT mg mb) (GL : Glob prog w hT mg mb k Fn Gl (gsOf ["rat"])) (pf : PF hT mg (rc 10)) : Ok prog w hT mg mb (k + 1) "rdiv" := by
  refine ok_of_body C pf rfl ["a", "b"] (fun pm code doc vals h => by obtain ⟨a, b, rfl⟩ := len_two h; rfl) (by decide +kernel) fun ds r hF => ?_
  replace hF := hF.inv id_rdiv
  refine genP fun gP hgP => ?_
  obtain ⟨a, b, ha, hb, h0, rfl, rfl⟩ := hF
  refine hgP ?_
  clear hgP
  refine ⟨rfl, ?_⟩
  refine ex_cons (ex_return GL (n := 20) (m := 20) ?_ (by decide +kernel))
  walk_at "mine ev"
  refine bp_mul ha.sn hb.sd ?_
  walk_at "mine ev"
  refine bp_mul ha.sd hb.sn ?_
  walk_at "mine ev"
  have hn : b.num ≠ 0 := fun e => h0 (Rat.num_eq_zero.mp e)
  refine ⟨_, .rat _ _ (Int.mul_ne_zero (den_ne a) hn), ?_⟩
  have : Rat.divInt (a.num * b.den) (a.den * b.num) = a / b := by
    rw [Rat.div_def, Rat.inv_def, ← Rat.divInt_mul_divInt, Rat.num_divInt_den]
  rw [this]
theorem rneg_ok (C : Cx prog hT mg mb) (GL : Glob prog w hT mg mb k Fn Gl (gsOf [])) (pf : PF hT mg (rc 11)) : Ok prog w hT mg mb (k + 1) "rneg" := by
  refine ok_of_body C pf rfl ["a"] (fun pm code doc vals h => by obtain ⟨a, rfl⟩ := len_one h; rfl) (by decide +kernel) fun ds r hF => ?_
  replace hF := hF.inv id_rneg
  obtain ⟨a, rfl, rfl⟩ := hF
  refine ⟨rfl, ?_⟩
  refine ex_cons (ex_return GL (n := 20) (m := 20) ?_ (by decide +kernel))
  walk_at "mine ev"
  refine ⟨by simp, ?_⟩
  simp only [R, I, Rat.neg_num, Rat.neg_den, Int.zero_sub]
theorem rinv_ok (C : Cx prog hT mg mb) (GL : Glob prog w hT mg mb k Fn Gl (gsOf ["rat"])) (pf : PF hT mg (rc 12)) : Ok prog w hT mg mb (k + 1) "rinv" := by
  refine ok_of_body C pf rfl ["a"] (fun pm code doc vals h => by obtain ⟨a, rfl⟩ := len_one h; rfl) (by decide +kernel) fun ds r hF => ?_
  replace hF := hF.inv id_rinv
  obtain ⟨a, h0, rfl, rfl⟩ := hF
  refine ⟨rfl, ?_⟩
  refine ex_cons (ex_return GL (n := 20) (m := 20) ?_ (by decide +kernel))
  walk_at "mine ev"
  have hn : a.num ≠ 0 := fun e => h0 (Rat.num_eq_zero.mp e)
  refine ⟨_, .rat _ _ hn, ?_⟩
  rw [← Rat.inv_def]
end
section
variable {α : Type} {e : α → PyData} {xs : List α} {Q : PyData → Prop}
theorem ip_map {z : Int} (x : α) (h0 : 0 ≤ z) (h1 : z ≤ 10000) (hx : xs[z.toNat]? = some x) (h : Q (e x)) : itemP (.list (xs.map e)) (I z) Q := by
  refine ⟨by (first | lia | omega), h1, e x, ?_, h⟩
  unfold itemAt
  rw [if_pos h0, List.getElem?_map, hx]; rfl
theorem ip_last (x : α) (hl : xs.length ≤ 10000) (hx : xs.getLast? = some x) (h : Q (e x)) : itemP (.list (xs.map e)) (I (-1)) Q := by
  refine ⟨by decide, by decide, e x, ?_, h⟩
  have hne : xs ≠ [] := by rintro rfl; simp at hx
  have hpos : 0 < xs.length := List.length_pos_iff.mpr hne
  unfold itemAt
  rw [if_neg (by decide), List.length_map, if_pos (by (first | lia | omega)), List.getElem?_map]
  have : (-1 + (xs.length : Int)).toNat = xs.length - 1 := by (first | exact tnA _ _ | exact tnB _ _ | exact tnI _ | exact Int.toNat_sub _ _ | lia | omega)
  rw [this, ← List.getLast?_eq_getElem?, hx]; rfl
theorem pp_upto {k : Int} (hl : xs.length ≤ 10000) (h0 : 0 ≤ k) (h1 : k ≤ 10000) (h : Q (.list ((xs.take k.toNat).map e))) : partP (.list (xs.map e)) none (some (I k)) none Q := by
  refine ⟨rfl, by simpa using hl, by (first | lia | omega), h1, ?_⟩
  rw [if_pos h0, ← List.map_take]; exact h
theorem pp_butLast (hl : xs.length ≤ 10000) (h : Q (.list (xs.dropLast.map e))) : partP (.list (xs.map e)) none (some (I (-1))) none Q := by
  refine ⟨rfl, by simpa using hl, by decide, by decide, ?_⟩
  rw [if_neg (by decide), ← List.map_take, List.length_map]
  have : (-1 + (xs.length : Int)).toNat = xs.length - 1 := by (first | exact tnA _ _ | exact tnB _ _ | exact tnI _ | exact Int.toNat_sub _ _ | lia | omega)
  rw [this, ← List.dropLast_eq_take]; exact h
theorem pp_from {k : Int} (hl : xs.length ≤ 10000) (h0 : 0 ≤ k) (h1 : k ≤ 10000) (h : Q (.list ((xs.drop k.toNat).map e))) : partP (.list (xs.map e)) (some (I k)) none none Q := by
  refine ⟨rfl, rfl, by simpa using hl, h0, h1, ?_⟩
  rw [← List.map_drop]; exact h
theorem pp_rev (hl : xs.length ≤ 10000) (h : Q (.list (xs.reverse.map e))) : partP (.list (xs.map e)) none none (some (I (-1))) Q := by
  refine ⟨by simpa using hl, rfl, ?_⟩
  rw [← List.map_reverse]; exact h
end
theorem trim_snoc0 : ∀ (l : List Rat), trim (l ++ [0]) = trim l
  | [] => by simp [trim]
  | a :: l => by simp only [List.cons_append, trim, trim_snoc0 l]
theorem trim_snoc {c : Rat} (hc : c ≠ 0) : ∀ (l : List Rat), trim (l ++ [c]) = l ++ [c]
  | [] => by simp [trim, hc]
  | a :: l => by simp [trim, trim_snoc hc l]
theorem take_succ_get {α : Type} {p : List α} {j : Nat} {c : α} (h : p[j]? = some c) : p.take (j + 1) = p.take j ++ [c] := by
  rw [List.take_add_one, h]; rfl
section
variable {prog : Program} {w : World} {hT : Heap} {mg mb : Str → Option Value} {k : Nat}
theorem qtrim_ok (C : Cx prog hT mg mb) (GL : Glob prog w hT mg mb k Fn Gl (gsOf ["len", "list"])) (pf : PF hT mg (rc 13)) : Ok prog w hT mg mb (k + 1) "qtrim" := by
  refine ok_of_body C pf rfl ["row"] (fun pm code doc vals h => by obtain ⟨a, rfl⟩ := len_one h; rfl) (by decide +kernel) fun ds r hF => ?_
  replace hF := hF.inv id_qtrim
  obtain ⟨p, hp, rfl, rfl⟩ := hF
  refine ⟨rfl, ?_⟩
  refine ex_cons (ex_set GL (n := 20) (m := 20) ?_ (by decide +kernel) (by decide +kernel) rfl)
  walk_at "mine ev"
  refine ⟨_, .len _ (by simp; (first | lia | omega)), ?_⟩
  show Exec _ _ _ _ _ _ [D1 "row" (P p), D1 "size" (I _)] _
  rw [List.length_map]
  refine ex_cons (ex_while GL (n := 20) (m := 20) (fun j σ => σ = [D1 "row" (P p), D1 "size" (I j)] ∧ j ≤ p.length ∧ trim p = trim (p.take j)) (j := p.length) ⟨rfl, Nat.le_refl _, by rw [List.take_length]⟩ (fun j σ hI => ?_) (by decide +kernel))
  obtain ⟨rfl, hj, ht⟩ := hI
  have fin : trim (p.take j) = p.take j → Exec prog w hT k (rc 13).scope (rc 13).body.tail.tail [D1 "row" (P p), D1 "size" (I j)] (fun o => o = .ret (P (trim p))) := fun e => by
    refine ex_cons (ex_return GL (n := 20) (m := 20) ?_ (by decide +kernel))
    walk_at "mine ev"
    refine pp_upto (by (first | lia | omega)) (by (first | lia | omega)) (by (first | lia | omega)) ?_
    walk_at "mine ev"
    refine ⟨_, .list _ (by simp; (first | lia | omega)), ?_⟩
    rw [ht, e]; rfl
  walk_at "mine ev"
  match j with
  | 0 => exact fin (by simp [trim])
  | j + 1 =>
    rw [show decide (((j + 1 : Nat) : Int) > 0) = true by simp]
    show evBs _ _ _ _ _ _ _
    walk_at "mine ev"
    have hc : p[j]? = some (p.getD j 0) := by rw [List.getD_eq_getElem?_getD, List.getElem?_eq_getElem (by (first | lia | omega))]; rfl
    have hz : (((j + 1 : Nat) : Int) - 1).toNat = j := by (first | exact tnA _ _ | exact tnB _ _ | exact tnI _ | exact Int.toNat_sub _ _ | lia | omega)
    refine ip_map (p.getD j 0) (by (first | lia | omega)) (by (first | lia | omega)) (by rw [hz]; exact hc) ?_
    walk_at "mine ev"
    rw [take_succ_get hc] at fin ht
    by_cases c0 : p.getD j 0 = 0
    · rw [show decide ((p.getD j 0).num = 0) = true by rw [c0]; rfl]
      rw [c0, trim_snoc0] at ht
      show evBs _ _ _ _ _ _ _
      refine bs_nil ?_
      show Exec _ _ _ _ _ _ _ _
      refine ex_cons (ex_sub GL (n := 20) (m := 20) (i := ((j + 1 : Nat) : Int)) (.tail _ (.head _)) ?_ (by decide +kernel) (by decide +kernel) (by decide +kernel))
      walk_at "mine ev"
      refine ex_nil ⟨j, Nat.lt_succ_self _, ?_, by (first | lia | omega), ht⟩
      have e1 : ((j + 1 : Nat) : Int) - 1 = (j : Int) := by (first | lia | omega)
      rw [e1]; rfl
    · rw [show decide ((p.getD j 0).num = 0) = false by simp only [decide_eq_false_iff_not]; exact fun e => c0 (Rat.num_eq_zero.mp e)]
      exact fin (trim_snoc c0 _)
theorem qdegree_ok (C : Cx prog hT mg mb) (GL : Glob prog w hT mg mb k Fn Gl (gsOf ["len"])) (pf : PF hT mg (rc 14)) : Ok prog w hT mg mb (k + 1) "qdegree" := by
  refine ok_of_body C pf rfl ["p"] (fun pm code doc vals h => by obtain ⟨a, rfl⟩ := len_one h; rfl) (by decide +kernel) fun ds r hF => ?_
  replace hF := hF.inv id_qdegree
  obtain ⟨p, hp, rfl, rfl⟩ := hF
  refine ⟨rfl, ?_⟩
  refine ex_cons (ex_return GL (n := 20) (m := 20) ?_ (by decide +kernel))
  walk_at "mine ev"
  refine ⟨_, .len _ (by simp; (first | lia | omega)), ?_⟩
  walk_at "mine ev"
  rw [List.length_map]
theorem qlead_ok (C : Cx prog hT mg mb) (GL : Glob prog w hT mg mb k Fn Gl (gsOf ["len"])) (pf : PF hT mg (rc 15)) : Ok prog w hT mg mb (k + 1) "qlead" := by
  refine ok_of_body C pf rfl ["p"] (fun pm code doc vals h => by obtain ⟨a, rfl⟩ := len_one h; rfl) (by decide +kernel) fun ds r hF => ?_
  replace hF := hF.inv id_qlead
  obtain ⟨p, hp, rfl, rfl⟩ := hF
  refine ⟨rfl, ?_⟩
  refine ex_cons (ex_return GL (n := 20) (m := 20) ?_ (by decide +kernel))
  walk_at "mine ev"
  refine ⟨_, .len _ (by simp; (first | lia | omega)), ?_⟩
  walk_at "mine ev"
  rw [List.length_map]
  by_cases h0 : p = []
  · subst h0
    show evE _ _ _ _ _ _
    walk_at "mine ev"
    rfl
  · have hpos := List.length_pos_iff.mpr h0
    rw [show decide ((p.length : Int) > 0) = true by simp; (first | lia | omega)]
    show evE _ _ _ _ _ _
    walk_at "mine ev"
    refine ip_last (plead p) (by (first | lia | omega)) ?_ rfl
    unfold plead
    rw [List.getLastD_eq_getLast?, List.getLast?_eq_some_getLast h0]; rfl
end
theorem mapP_enc {α β : Type} {f : PyData → (PyData → Prop) → Prop} {e : α → PyData} {enc : β → PyData} (g : α → β) {xs : List α} {K : List PyData → Prop} (h : ∀ x ∈ xs, ∀ Q, Q (enc (g x)) → f (e x) Q) (hK : K ((xs.map g).map enc)) : mapP f (xs.map e) K :=
  mapP_of (g := fun x => enc (g x)) h (by rw [List.map_map] at hK; exact hK)
theorem rp_1 {z : Int} {K : List PyData → Prop} (h0 : -10000 ≤ z) (h1 : z ≤ 10000) (hK : K ((List.range z.toNat).map fun (i : Nat) => I (i : Int))) : rangeP [I z] K := by
  refine ⟨h1, h0, ?_⟩
  have : rangeD 0 z = (List.range z.toNat).map fun (i : Nat) => I (i : Int) := by
    unfold rangeD
    rw [Int.sub_zero]
    exact List.map_congr_left fun i _ => by simp
  rw [this]; exact hK
theorem rp_2 {z : Int} {K : List PyData → Prop} (h0 : -9999 ≤ z) (h1 : z ≤ 10000) (hK : K ((List.range (z - 1).toNat).map fun (i : Nat) => I ((i : Int) + 1))) : rangeP [I 1, I z] K := by
  have : rangeD 1 z = (List.range (z - 1).toNat).map fun (i : Nat) => I ((i : Int) + 1) := by
    unfold rangeD
    exact List.map_congr_left fun i _ => by rw [Int.add_comm]
  refine ⟨by decide, by decide, h1, by (first | lia | omega), by simp [rangeD]; (first | lia | omega), ?_⟩
  rw [this]; exact hK
theorem Bt.mono {n m : Nat} {q : Rat} (h : Bt n q) (hnm : n ≤ m) : Bt m q :=
  ⟨Nat.lt_of_lt_of_le h.1 (Nat.pow_le_pow_right (by decide) hnm), Nat.lt_of_lt_of_le h.2 (Nat.pow_le_pow_right (by decide) hnm)⟩
theorem Bp.mono {n m : Nat} {p : List Rat} (h : Bp n p) (hnm : n ≤ m) : Bp m p := fun c hc => (h c hc).mono hnm
theorem Bt.zero {n : Nat} (h : 0 < n) : Bt n 0 := ⟨Nat.pow_pos (by decide), Nat.one_lt_two_pow (by (first | lia | omega))⟩
theorem Bp.getD {n : Nat} {p : List Rat} (h : Bp n p) (hn : 0 < n) (i : Nat) : Bt n (p.getD i 0) := by
  rw [List.getD_eq_getElem?_getD]
  cases e : p[i]? with
  | none => exact Bt.zero hn
  | some c => exact h c (List.mem_of_getElem? e)
theorem getD_of_get {α : Type} {p : List α} {i : Nat} {d : α} (h : i < p.length) : p[i]? = some (p.getD i d) := by
  rw [List.getD_eq_getElem?_getD, List.getElem?_eq_getElem h]; rfl
theorem getD_out {α : Type} {p : List α} {i : Nat} {d : α} (h : p.length ≤ i) : p.getD i d = d := by
  rw [List.getD_eq_getElem?_getD, List.getElem?_eq_none h]; rfl
theorem cutE {F : Tab} {G : Str → Option PyData} {n : Nat} {ρ : Sto} {e : Expr} {Q : PyData → Prop} (v : PyData) (h : ∀ Q' : PyData → Prop, Q' v → evE F G n ρ e Q') (hQ : Q v) : evE F G n ρ e Q := h Q hQ
section
variable {prog : Program} {w : World} {hT : Heap} {mg mb : Str → Option Value} {k : Nat}
theorem qadd_ok (C : Cx prog hT mg mb) (GL : Glob prog w hT mg mb k Fn Gl (gsOf ["len", "max", "radd", "qtrim", "range"])) (pf : PF hT mg (rc 16)) : Ok prog w hT mg mb (k + 1) "qadd" := by
  refine ok_of_body C pf rfl ["a", "b"] (fun pm code doc vals h => by obtain ⟨a, b, rfl⟩ := len_two h; rfl) (by decide +kernel) fun ds r hF => ?_
  replace hF := hF.inv id_qadd
  refine genP fun gP hgP => ?_
  obtain ⟨a, b, h1, h2, ha, hb, rfl, rfl⟩ := hF
  refine hgP ?_
  clear hgP
  refine ⟨rfl, ?_⟩
  refine ex_cons (ex_set GL (n := 20) (m := 20) ?_ (by decide +kernel) (by decide +kernel) rfl)
  walk_at "mine ev"
  refine ⟨_, .len _ (by simp; (first | lia | omega)), ?_⟩
  walk_at "mine ev"
  refine ⟨_, .len _ (by simp; (first | lia | omega)), ?_⟩
  walk_at "mine ev"
  refine ⟨_, .max _ _, ?_⟩
  show Exec _ _ _ _ _ _ [D1 "a" (P a), D1 "b" (P b), D1 "size" (I _)] _
  rw [List.length_map, List.length_map]
  have hm : (max (a.length : Int) (b.length : Int)) = ((max a.length b.length : Nat) : Int) := by (first | lia | omega)
  rw [hm]
  refine ex_cons (ex_return GL (n := 20) (m := 20) ?_ (by decide +kernel))
  walk_at "mine ev"
  refine ei_range ?_
  walk_at "mine ev"
  refine rp_1 (by (first | lia | omega)) (by (first | lia | omega)) ?_
  refine mapP_enc (enc := R) (fun i => a.getD i 0 + b.getD i 0) (fun i hi Q hQ => ?_) ?_
  · show evE _ _ _ _ _ _
    refine ee_call (es_cons (cutE (R (a.getD i 0)) (fun Q' hQ' => ?_) (es_cons (cutE (R (b.getD i 0)) (fun Q' hQ' => ?_) (es_nil ⟨_, .radd _ _ ((ha.getD (by decide) i).mono (by decide)) ((hb.getD (by decide) i).mono (by decide)), hQ⟩)))))
    · walk_at "mine ev"
      refine ⟨_, .len _ (by simp; (first | lia | omega)), ?_⟩
      walk_at "mine ev"
      rw [List.length_map]
      by_cases hi' : i < a.length
      · rw [show decide ((i : Int) < (a.length : Int)) = true by simp [hi']]
        show evE _ _ _ _ _ _
        walk_at "mine ev"
        exact ip_map _ (by (first | lia | omega)) (by (first | lia | omega)) (by simpa using getD_of_get (d := 0) hi') hQ'
      · rw [show decide ((i : Int) < (a.length : Int)) = false by simp; (first | lia | omega)]
        show evE _ _ _ _ _ _
        walk_at "mine ev"
        rw [getD_out (by (first | lia | omega))] at hQ'
        exact hQ'
    · walk_at "mine ev"
      refine ⟨_, .len _ (by simp; (first | lia | omega)), ?_⟩
      walk_at "mine ev"
      rw [List.length_map]
      by_cases hi' : i < b.length
      · rw [show decide ((i : Int) < (b.length : Int)) = true by simp [hi']]
        show evE _ _ _ _ _ _
        walk_at "mine ev"
        exact ip_map _ (by (first | lia | omega)) (by (first | lia | omega)) (by simpa using getD_of_get (d := 0) hi') hQ'
      · rw [show decide ((i : Int) < (b.length : Int)) = false by simp; (first | lia | omega)]
        show evE _ _ _ _ _ _
        walk_at "mine ev"
        rw [getD_out (by (first | lia | omega))] at hQ'
        exact hQ'
  · walk_at "mine ev"
    refine ⟨_, .qtrim _ (by simp; (first | lia | omega)), ?_⟩
    rfl
theorem qneg_ok (C : Cx prog hT mg mb) (GL : Glob prog w hT mg mb k Fn Gl (gsOf ["rneg"])) (pf : PF hT mg (rc 17)) : Ok prog w hT mg mb (k + 1) "qneg" := by
  refine ok_of_body C pf rfl ["p"] (fun pm code doc vals h => by obtain ⟨a, rfl⟩ := len_one h; rfl) (by decide +kernel) fun ds r hF => ?_
  replace hF := hF.inv id_qneg
  obtain ⟨p, h1, rfl, rfl⟩ := hF
  refine ⟨rfl, ?_⟩
  refine ex_cons (ex_return GL (n := 20) (m := 20) ?_ (by decide +kernel))
  walk_at "mine ev"
  refine ei_name rfl ⟨by simp; (first | lia | omega), ?_⟩
  refine mapP_enc (enc := R) (fun c => -c) (fun c hc Q hQ => ?_) ?_
  · show evE _ _ _ _ _ _
    walk_at "mine ev"
    exact ⟨_, .rneg _, hQ⟩
  · rfl
theorem qsub_ok (C : Cx prog hT mg mb) (GL : Glob prog w hT mg mb k Fn Gl (gsOf ["qadd", "qneg"])) (pf : PF hT mg (rc 18)) : Ok prog w hT mg mb (k + 1) "qsub" := by
  refine ok_of_body C pf rfl ["a", "b"] (fun pm code doc vals h => by obtain ⟨a, b, rfl⟩ := len_two h; rfl) (by decide +kernel) fun ds r hF => ?_
  replace hF := hF.inv id_qsub
  refine genP fun gP hgP => ?_
  obtain ⟨a, b, h1, h2, ha, hb, rfl, rfl⟩ := hF
  refine hgP ?_
  clear hgP
  refine ⟨rfl, ?_⟩
  refine ex_cons (ex_return GL (n := 20) (m := 20) ?_ (by decide +kernel))
  walk_at "mine ev"
  refine ⟨_, .qneg _ h2, ?_⟩
  walk_at "mine ev"
  refine ⟨_, .qadd _ _ h1 (by simpa [pneg] using h2) ha (fun c hc => ?_), rfl⟩
  obtain ⟨d, hd, rfl⟩ := List.mem_map.mp hc
  exact ⟨by rw [Rat.neg_num, Int.natAbs_neg]; exact (hb d hd).1, (hb d hd).2⟩
theorem qscale_ok (C : Cx prog hT mg mb) (GL : Glob prog w hT mg mb k Fn Gl (gsOf ["rmul"])) (pf : PF hT mg (rc 19)) : Ok prog w hT mg mb (k + 1) "qscale" := by
  refine ok_of_body C pf rfl ["p", "r"] (fun pm code doc vals h => by obtain ⟨a, b, rfl⟩ := len_two h; rfl) (by decide +kernel) fun ds r hF => ?_
  replace hF := hF.inv id_qscale
  refine genP fun gP hgP => ?_
  obtain ⟨p, r, h1, hp, hr, rfl, rfl⟩ := hF
  refine hgP ?_
  clear hgP
  refine ⟨rfl, ?_⟩
  refine ex_cons (ex_return GL (n := 20) (m := 20) ?_ (by decide +kernel))
  walk_at "mine ev"
  by_cases h0 : r = 0
  · rw [show decide (r.num ≠ 0) = false by rw [h0]; rfl]
    show evE _ _ _ _ _ _
    walk_at "mine ev"
    refine ⟨by simp, ?_⟩
    simp [P, pscale, h0]
  · rw [show decide (r.num ≠ 0) = true by simp only [decide_eq_true_eq]; exact fun e => h0 (Rat.num_eq_zero.mp e)]
    show evE _ _ _ _ _ _
    walk_at "mine ev"
    refine ei_name rfl ⟨by simp; (first | lia | omega), ?_⟩
    refine mapP_enc (enc := R) (fun c => c * r) (fun c hc Q hQ => ?_) ?_
    · show evE _ _ _ _ _ _
      walk_at "mine ev"
      exact ⟨_, .rmul _ _ (hp c hc) hr, hQ⟩
    · rw [show pscale p r = p.map (· * r) from if_pos h0]
theorem qraise_ok (C : Cx prog hT mg mb) (GL : Glob prog w hT mg mb k Fn Gl (gsOf ["len", "list"])) (pf : PF hT mg (rc 20)) : Ok prog w hT mg mb (k + 1) "qraise" := by
  refine ok_of_body C pf rfl ["p", "many"] (fun pm code doc vals h => by obtain ⟨a, b, rfl⟩ := len_two h; rfl) (by decide +kernel) fun ds r hF => ?_
  replace hF := hF.inv id_qraise
  obtain ⟨p, j, h1, h2, rfl, rfl⟩ := hF
  refine ⟨rfl, ?_⟩
  refine ex_cons (ex_return GL (n := 20) (m := 20) ?_ (by decide +kernel))
  walk_at "mine ev"
  refine ⟨_, .len _ (by simp; (first | lia | omega)), ?_⟩
  walk_at "mine ev"
  rw [List.length_map]
  by_cases h0 : p = []
  · subst h0
    show evE _ _ _ _ _ _
    walk_at "mine ev"
    exact ⟨by simp, rfl⟩
  · have hpos := List.length_pos_iff.mpr h0
    rw [show decide ((p.length : Int) > 0) = true by simp; (first | lia | omega)]
    show evE _ _ _ _ _ _
    walk_at "mine ev"
    refine ⟨by simp, ?_⟩
    walk_at "mine ev"
    refine bp_rep (by simp; (first | lia | omega)) ?_
    walk_at "mine ev"
    refine ⟨_, .list _ (by simp; (first | lia | omega)), ?_⟩
    refine bp_cat (by simp; (first | lia | omega)) ?_
    have : (List.replicate ((j : Int)).toNat [R 0]).flatten ++ p.map R = (praise p j).map R := by
      rw [praise, if_neg h0, List.map_append]
      congr 1
      rw [Int.toNat_natCast, List.map_replicate]
      clear h2
      induction j with
      | zero => rfl
      | succ j ih => rw [List.replicate_succ, List.flatten_cons, ih, List.replicate_succ]; rfl
    exact congrArg (fun l => Out.ret (PyData.list l)) this
end
theorem natAbs_ediv_le (x : Int) (d : Nat) : (x / (d : Int)).natAbs ≤ x.natAbs := Int.natAbs_ediv_le_natAbs ..
theorem Bt_mkRat {n : Nat} {x : Int} {d : Nat} (hx : x.natAbs < 2 ^ n) (hd : d < 2 ^ n) (h0 : d ≠ 0) : Bt n (mkRat x d) := by
  refine ⟨?_, ?_⟩
  · rw [Rat.num_mkRat, if_neg h0]
    exact Nat.lt_of_le_of_lt (natAbs_ediv_le _ _) hx
  · rw [Rat.den_mkRat, if_neg h0]
    exact Nat.lt_of_le_of_lt (Nat.div_le_self _ _) hd
theorem mul_lt_pow {a b n m : Nat} (ha : a < 2 ^ n) (hb : b < 2 ^ m) : a * b < 2 ^ (n + m) := by
  rw [Nat.pow_add]
  have h1 : a * b ≤ a * 2 ^ m := Nat.mul_le_mul_left _ (Nat.le_of_lt hb)
  have h2 : a * 2 ^ m < 2 ^ n * 2 ^ m := Nat.mul_lt_mul_of_pos_right ha (Nat.pow_pos (by decide))
  (first | lia | omega)
theorem Bt.add {n m : Nat} {a b : Rat} (ha : Bt n a) (hb : Bt m b) : Bt (n + m + 1) (a + b) := by
  rw [Rat.add_def']
  have p1 := mul_lt_pow ha.1 hb.2
  have p2 := mul_lt_pow hb.1 ha.2
  have p3 := mul_lt_pow ha.2 hb.2
  have e : 2 ^ (n + m + 1) = 2 ^ (n + m) + 2 ^ (n + m) := by rw [Nat.pow_succ]; (first | lia | omega)
  have e2 : m + n = n + m := Nat.add_comm ..
  rw [e2] at p2
  refine Bt_mkRat ?_ (by (first | lia | omega)) (Nat.mul_ne_zero a.den_nz b.den_nz)
  have h1 : (a.num * b.den).natAbs = a.num.natAbs * b.den := by rw [Int.natAbs_mul]; rfl
  have h2 : (b.num * a.den).natAbs = b.num.natAbs * a.den := by rw [Int.natAbs_mul]; rfl
  have h3 := Int.natAbs_add_le (a.num * b.den) (b.num * a.den)
  (first | lia | omega)
theorem Bt.neg {n : Nat} {a : Rat} (ha : Bt n a) : Bt n (-a) := ⟨by rw [Rat.neg_num, Int.natAbs_neg]; exact ha.1, ha.2⟩
theorem Bt.sub {n m : Nat} {a b : Rat} (ha : Bt n a) (hb : Bt m b) : Bt (n + m + 1) (a - b) := by
  rw [Rat.sub_eq_add_neg]; exact ha.add hb.neg
theorem Bt.mul {n m : Nat} {a b : Rat} (ha : Bt n a) (hb : Bt m b) : Bt (n + m) (a * b) := by
  rw [Rat.mul_def']
  refine Bt_mkRat ?_ (mul_lt_pow ha.2 hb.2) (Nat.mul_ne_zero a.den_nz b.den_nz)
  rw [Int.natAbs_mul]
  exact mul_lt_pow ha.1 hb.1
theorem Bt.inv {n : Nat} {a : Rat} (ha : Bt n a) (hn : 0 < n) : Bt n a⁻¹ := by
  refine ⟨?_, ?_⟩
  · rw [Rat.num_inv, Int.natAbs_mul]
    have : a.num.sign.natAbs ≤ 1 := by
      rcases Int.lt_trichotomy a.num 0 with h | h | h
      · rw [Int.sign_eq_neg_one_of_neg h]; decide
      · rw [h]; decide
      · rw [Int.sign_eq_one_of_pos h]; decide
    have h2 : a.num.sign.natAbs * (a.den : Int).natAbs ≤ 1 * (a.den : Int).natAbs := Nat.mul_le_mul_right _ this
    have h3 := ha.2
    have h4 : (a.den : Int).natAbs = a.den := rfl
    (first | omega | lia)
  · rw [Rat.den_inv]
    split
    · exact Nat.one_lt_two_pow (by (first | omega | lia))
    · exact ha.1
theorem Bt.div {n m : Nat} {a b : Rat} (ha : Bt n a) (hb : Bt m b) (hm : 0 < m) : Bt (n + m) (a / b) := by
  rw [Rat.div_def]; exact ha.mul (hb.inv hm)
theorem trim_mem : ∀ {l : List Rat} {c : Rat}, c ∈ trim l → c ∈ l
  | [], _, h => by simp [trim] at h
  | a :: r, c, h => by
    unfold trim at h
    split at h
    · cases h
    · rcases List.mem_cons.mp h with e | h
      · rw [e]; exact .head _
      · exact .tail _ (trim_mem h)
theorem trim_len : ∀ (l : List Rat), (trim l).length ≤ l.length
  | [] => by simp [trim]
  | a :: r => by
    unfold trim
    split
    · simp
    · simp [trim_len r]
theorem padd_len (a b : List Rat) : (padd a b).length ≤ max a.length b.length := by
  unfold padd
  have := trim_len ((List.range (max a.length b.length)).map fun i => a.getD i 0 + b.getD i 0)
  rwa [List.length_map, List.length_range] at this
theorem Bp.padd {n m : Nat} {a b : List Rat} (ha : Bp n a) (hb : Bp m b) (hn : 0 < n) (hm : 0 < m) : Bp (n + m + 1) (padd a b) := fun c hc => by
  obtain ⟨i, _, rfl⟩ := List.mem_map.mp (trim_mem hc)
  exact (ha.getD hn i).add (hb.getD hm i)
theorem Bp.pneg {n : Nat} {p : List Rat} (h : Bp n p) : Bp n (pneg p) := fun c hc => by
  obtain ⟨d, hd, rfl⟩ := List.mem_map.mp hc
  exact (h d hd).neg
theorem Bp.psub {n m : Nat} {a b : List Rat} (ha : Bp n a) (hb : Bp m b) (hn : 0 < n) (hm : 0 < m) : Bp (n + m + 1) (psub a b) := ha.padd hb.pneg hn hm
theorem psub_len (a b : List Rat) : (psub a b).length ≤ max a.length b.length := by
  have := padd_len a (pneg b)
  rwa [show (pneg b).length = b.length by simp [pneg]] at this
theorem Bp.pscale {n m : Nat} {p : List Rat} {r : Rat} (h : Bp n p) (hr : Bt m r) : Bp (n + m) (pscale p r) := fun c hc => by
  unfold Mine.pscale at hc
  split at hc
  · obtain ⟨d, hd, rfl⟩ := List.mem_map.mp hc
    exact (h d hd).mul hr
  · cases hc
theorem pscale_len (p : List Rat) (r : Rat) : (pscale p r).length ≤ p.length := by
  unfold pscale
  split <;> simp
theorem Bp.praise {n : Nat} {p : List Rat} (h : Bp n p) (hn : 0 < n) (k : Nat) : Bp n (praise p k) := fun c hc => by
  unfold Mine.praise at hc
  split at hc
  · cases hc
  · rcases List.mem_append.mp hc with hc | hc
    · rw [(List.mem_replicate.mp hc).2]; exact Bt.zero hn
    · exact h c hc
theorem praise_len (p : List Rat) (k : Nat) : (praise p k).length ≤ k + p.length := by
  unfold praise
  split <;> simp
theorem Bp.trim {n : Nat} {p : List Rat} (h : Bp n p) : Bp n (trim p) := fun c hc => h c (trim_mem hc)
theorem Bp.drop {n : Nat} {p : List Rat} (h : Bp n p) : Bp n p.dropLast := fun c hc => h c (List.dropLast_subset _ hc)
theorem plead_mem {p : List Rat} (h : p ≠ []) : plead p ∈ p := by
  unfold plead
  rw [List.getLastD_eq_getLast?, List.getLast?_eq_some_getLast h]
  exact List.getLast_mem h
theorem Bp.lead {n : Nat} {p : List Rat} (h : Bp n p) (hn : 0 < n) : Bt n (plead p) := by
  by_cases e : p = []
  · rw [e]; exact Bt.zero hn
  · exact h _ (plead_mem e)
theorem Bp.pmonic {n : Nat} {p : List Rat} (h : Bp n p) (hn : 0 < n) : Bp (n + n) (pmonic p) := by
  unfold Mine.pmonic
  split
  · intro c hc; cases hc
  · exact h.pscale ((h.lead hn).inv hn)
noncomputable def divRest (b r : List Rat) : List Rat := psub r.dropLast (praise (pscale b.dropLast (plead r / plead b)) (r.length - b.length))
theorem dlA {p q s b r bd rd : Nat} (h1 : p ≤ max rd q) (h2 : q ≤ r - b + s) (h3 : s ≤ bd) (h4 : bd = b - 1) (h5 : rd = r - 1) (hb : 0 < b) (h : b ≤ r) : p < r := by (first | lia | omega)
theorem divRest_len {b r : List Rat} (hb : 0 < b.length) (h : b.length ≤ r.length) : (divRest b r).length < r.length := by
  unfold divRest
  have h1 := psub_len r.dropLast (praise (pscale b.dropLast (plead r / plead b)) (r.length - b.length))
  have h2 := praise_len (pscale b.dropLast (plead r / plead b)) (r.length - b.length)
  have h3 := pscale_len b.dropLast (plead r / plead b)
  have h4 : b.dropLast.length = b.length - 1 := List.length_dropLast
  have h5 : r.dropLast.length = r.length - 1 := List.length_dropLast
  exact dlA h1 h2 h3 h4 h5 hb h
theorem divRest_bits {b r : List Rat} {X B : Nat} (hr : Bp X r) (hb : Bp B b) (hX : 0 < X) (hB : 0 < B) : Bp (X + (B + (X + B)) + 1) (divRest b r) :=
  hr.drop.psub ((hb.drop.pscale ((hr.lead hX).div (hb.lead hB) hB)).praise (by (first | lia | omega)) _) hX (by (first | lia | omega))
theorem divLoop_bits {b : List Rat} {B : Nat} (hb : Bp B b) (hB : 0 < B) (hb0 : 0 < b.length) : ∀ (fuel : Nat) (r fs : List Rat) (X Y : Nat), 0 < X → Bp X r → Bp Y fs → dB r.length b.length X B + B ≤ Y →
    Bp (dB r.length b.length X B) (divLoop b fuel r fs).2 ∧ Bp Y (divLoop b fuel r fs).1
  | 0, r, fs, X, Y, hX, hr, hf, hY => by
    refine ⟨hr.mono ?_, hf⟩
    unfold dB
    have : 1 ≤ 2 ^ (r.length + 1 - b.length) := Nat.one_le_two_pow
    calc X ≤ 1 * (X + 2 * B + 1) := by (first | lia | omega)
      _ ≤ _ := Nat.mul_le_mul_right _ this
  | fuel + 1, r, fs, X, Y, hX, hr, hf, hY => by
    have hXd : X ≤ dB r.length b.length X B := by
      unfold dB
      have : 1 ≤ 2 ^ (r.length + 1 - b.length) := Nat.one_le_two_pow
      calc X ≤ 1 * (X + 2 * B + 1) := by (first | lia | omega)
        _ ≤ _ := Nat.mul_le_mul_right _ this
    unfold divLoop
    split
    · exact ⟨hr.mono hXd, hf⟩
    · rename_i hlt
      have hl := divRest_len (b := b) (r := r) hb0 (by (first | lia | omega))
      have hbits := divRest_bits hr hb hX hB
      have hle : dB (divRest b r).length b.length (X + (B + (X + B)) + 1) B ≤ dB r.length b.length X B := by
        unfold dB
        have e1 : r.length + 1 - b.length = (r.length - b.length) + 1 := by (first | lia | omega)
        have e2 : 2 ^ ((divRest b r).length + 1 - b.length) ≤ 2 ^ (r.length - b.length) := Nat.pow_le_pow_right (by decide) (Nat.sub_le_sub_right hl _)
        rw [e1, Nat.pow_succ, Nat.mul_assoc]
        calc _ ≤ 2 ^ (r.length - b.length) * (X + (B + (X + B)) + 1 + 2 * B + 1) := Nat.mul_le_mul_right _ e2
          _ ≤ _ := Nat.mul_le_mul_left _ (by (first | lia | omega))
      have hn : Bt Y (plead r / plead b) := ((hr.lead hX).div (hb.lead hB) hB).mono (by (first | lia | omega))
      have ih := divLoop_bits hb hB hb0 fuel (divRest b r) (fs.set (r.length - b.length) (plead r / plead b)) (X + (B + (X + B)) + 1) Y (by (first | lia | omega)) hbits
        (fun c hc => by
          rcases List.mem_or_eq_of_mem_set hc with h | h
          · exact hf c h
          · rw [h]; exact hn) (by (first | lia | omega))
      exact ⟨ih.1.mono hle, ih.2⟩
theorem divLoop_len {b : List Rat} (hb0 : 0 < b.length) : ∀ (fuel : Nat) (r fs : List Rat), r.length < fuel → (divLoop b fuel r fs).2.length < b.length ∧ (divLoop b fuel r fs).1.length = fs.length
  | 0, r, fs, h => by (first | lia | omega)
  | fuel + 1, r, fs, h => by
    unfold divLoop
    split
    · exact ⟨by assumption, rfl⟩
    · rename_i hlt
      have hl := divRest_len (b := b) (r := r) hb0 (by (first | lia | omega))
      have ih := divLoop_len hb0 fuel (divRest b r) (fs.set (r.length - b.length) (plead r / plead b)) (by (first | lia | omega))
      exact ⟨ih.1, Eq.trans ih.2 (by simp)⟩
theorem divLoop_fuel {b : List Rat} (hb0 : 0 < b.length) : ∀ (f1 f2 : Nat) (r fs : List Rat), r.length < f1 → r.length < f2 → divLoop b f1 r fs = divLoop b f2 r fs
  | 0, _, r, fs, h, _ => by (first | lia | omega)
  | _, 0, r, fs, _, h => by (first | lia | omega)
  | f1 + 1, f2 + 1, r, fs, h1, h2 => by
    unfold divLoop
    split
    · rfl
    · have hl := divRest_len (b := b) (r := r) hb0 (by (first | lia | omega))
      exact divLoop_fuel hb0 f1 f2 (divRest b r) _ (by (first | lia | omega)) (by (first | lia | omega))
theorem pdiv_rest_len {a b : List Rat} (hb : 0 < b.length) : (pdiv a b).2.length < b.length := (divLoop_len hb (a.length + 1) a _ (by (first | lia | omega))).1
theorem pdiv_bits {a b : List Rat} {A B : Nat} (ha : Bp A a) (hb : Bp B b) (hA : 0 < A) (hB : 0 < B) (hb0 : 0 < b.length) :
    Bp (dB a.length b.length A B) (pdiv a b).2 ∧ Bp (dB a.length b.length A B + B) (pdiv a b).1 := by
  have := divLoop_bits hb hB hb0 (a.length + 1) a (List.replicate (a.length + 1 - b.length) 0) A (dB a.length b.length A B + B) hA ha (fun c hc => by
    rw [(List.mem_replicate.mp hc).2]; exact Bt.zero (by (first | lia | omega))) (Nat.le_refl _)
  exact ⟨this.1, this.2.trim⟩
section
variable {prog : Program} {w : World} {hT : Heap} {mg mb : Str → Option Value} {k : Nat}
theorem last_of {p : List Rat} (h : p ≠ []) : p.getLast? = some (plead p) := by
  unfold plead
  rw [List.getLastD_eq_getLast?, List.getLast?_eq_some_getLast h]; rfl
theorem qdivmod_ok (C : Cx prog hT mg mb) (GLl : LoadsG mg mb "list" (.type "list")) (GL : Glob prog w hT mg mb k Fn Gl (gsOf ["len", "max", "list", "rdiv", "qscale", "qraise", "qsub", "qtrim"])) (pf : PF hT mg (rc 21)) : Ok prog w hT mg mb (k + 1) "qdivmod" := by
  refine ok_of_body C pf rfl ["a", "b"] (fun pm code doc vals h => by obtain ⟨a, b, rfl⟩ := len_two h; rfl) (by decide +kernel) fun ds r hF => ?_
  replace hF := hF.inv id_qdivmod
  refine genP fun gP hgP => ?_
  obtain ⟨a, b, A, B, hA0, hB0, ha, hb, h1, h2, h0, hB, rfl, rfl⟩ := hF
  refine hgP ?_
  clear hgP
  refine ⟨rfl, ?_⟩
  have hbne : b ≠ [] := by rintro rfl; exact h0 rfl
  have hb0 := List.length_pos_iff.mpr hbne
  refine ex_cons (ex_if GL (n := 20) (m := 20) ?_ (by decide +kernel))
  walk_at "mine ev"
  refine ⟨_, .len _ (by simp; (first | lia | omega)), ?_⟩
  walk_at "mine ev"
  rw [List.length_map, show decide ((b.length : Int) = 0) = false by simp; exact hbne]
  refine ex_nil ?_
  show Exec _ _ _ _ _ _ [D1 "a" (P a), D1 "b" (P b)] _
  refine ex_cons (ex_tup2own GL GLl (n := 20) (m := 20) ?_ (by decide +kernel) (by decide +kernel) (by decide +kernel) (by decide +kernel) (by decide +kernel) (by decide +kernel) (by decide +kernel))
  walk_at "mine ev"
  refine ⟨_, .list _ (by simp; (first | lia | omega)), ?_⟩
  show evE _ _ _ _ _ _
  walk_at "mine ev"
  refine ⟨by simp, ?_⟩
  walk_at "mine ev"
  refine ⟨_, .len _ (by simp; (first | lia | omega)), ?_⟩
  walk_at "mine ev"
  refine ⟨_, .len _ (by simp; (first | lia | omega)), ?_⟩
  walk_at "mine ev"
  refine ⟨_, .max _ _, ?_⟩
  rw [List.length_map, List.length_map]
  have e1 : max (0 : Int) ((a.length : Int) - (b.length : Int) + 1) = ((a.length + 1 - b.length : Nat) : Int) := by (first | lia | omega)
  have e2 : ∀ n : Nat, (List.replicate n [R 0]).flatten = (List.replicate n (0 : Rat)).map R := fun n => by
    induction n with
    | zero => rfl
    | succ n ih => rw [List.replicate_succ, List.flatten_cons, ih, List.replicate_succ]; rfl
  rw [e1]
  refine ⟨by simp; (first | lia | omega), by (first | lia | omega), by (first | lia | omega), ?_⟩
  rw [Int.toNat_natCast, e2]
  show Exec _ _ _ _ _ _ [D1 "a" (P a), D1 "b" (P b), O1 "found" ((List.replicate (a.length + 1 - b.length) (0 : Rat)).map R), D1 "rest" (P a)] _
  obtain ⟨Inv, hv⟩ : ∃ Inv : Nat → St → Prop, ∀ j σ, Inv j σ ↔ ∃ rr fs ex X, σ = D1 "a" (P a) :: D1 "b" (P b) :: O1 "found" (fs.map R) :: D1 "rest" (P rr) :: ex ∧ (ex = [] ∨ ∃ x y z, ex = [D1 "power" x, D1 "number" y, D1 "lower" z]) ∧
      j = rr.length ∧ rr.length ≤ a.length ∧ fs.length = a.length + 1 - b.length ∧ divLoop b (a.length + 1) rr fs = divLoop b (a.length + 1) a (List.replicate (a.length + 1 - b.length) 0) ∧ 0 < X ∧ Bp X rr ∧ (b.length ≤ rr.length → 2 ^ (rr.length + 1 - b.length) * (X + 2 * B + 1) ≤ dB a.length b.length A B) := ⟨_, fun _ _ => Iff.rfl⟩
  refine ex_cons (ex_while GL (n := 20) (m := 20) Inv (j := a.length) ((hv _ _).mpr ⟨a, _, [], A, rfl, .inl rfl, rfl, Nat.le_refl _, by simp, rfl, hA0, ha, fun _ => Nat.le_refl _⟩) (fun j σ hI => ?_) (by decide +kernel))
  refine genP fun gP hgP => ?_
  obtain ⟨rr, fs, ex, X, rfl, hex, rfl, hra, hfl, hdiv, hX, hr, hXD⟩ := (hv _ _).mp hI
  refine hgP ?_
  clear hgP
  clear hI
  walk_at "mine ev"
  refine ⟨_, .len _ (by simp; (first | lia | omega)), ?_⟩
  walk_at "mine ev"
  refine ⟨_, .len _ (by simp; (first | lia | omega)), ?_⟩
  walk_at "mine ev"
  rw [List.length_map, List.length_map]
  by_cases hlt : b.length ≤ rr.length
  · have hrne : rr ≠ [] := by rintro rfl; simp at hlt; exact hbne (by simpa using hlt)
    have hX2 : X + 2 * B + 1 ≤ dB a.length b.length A B := by
      refine Nat.le_trans ?_ (hXD hlt)
      have : 1 ≤ 2 ^ (rr.length + 1 - b.length) := Nat.one_le_two_pow
      calc X + 2 * B + 1 = 1 * (X + 2 * B + 1) := by (first | lia | omega)
        _ ≤ _ := Nat.mul_le_mul_right _ this
    have hX3 : 2 * (X + 2 * B + 1) ≤ dB a.length b.length A B := by
      refine Nat.le_trans ?_ (hXD hlt)
      have : 2 ^ 1 ≤ 2 ^ (rr.length + 1 - b.length) := Nat.pow_le_pow_right (by decide) (by (first | lia | omega))
      exact Nat.mul_le_mul_right _ this
    rw [show decide ((rr.length : Int) ≥ (b.length : Int)) = true by simp; (first | lia | omega)]
    have hpow : (rr.length : Int) - (b.length : Int) = ((rr.length - b.length : Nat) : Int) := by (first | lia | omega)
    have hnum : Bt (X + B) (plead rr / plead b) := (hr.lead hX).div (hb.lead hB0) hB0
    have hsc := hb.drop.pscale hnum
    have hra' : Bp (B + (X + B)) (praise (pscale b.dropLast (plead rr / plead b)) (rr.length - b.length)) := hsc.praise (by (first | lia | omega)) _
    have hrl := divRest_len (b := b) (r := rr) hb0 hlt
    have hb9 : b.dropLast.length ≤ 100 := by rw [List.length_dropLast]; (first | lia | omega)
    have hr9 : rr.dropLast.length ≤ 100 := by rw [List.length_dropLast]; (first | lia | omega)
    have hs9 := pscale_len b.dropLast (plead rr / plead b)
    have hp9 := praise_len (pscale b.dropLast (plead rr / plead b)) (rr.length - b.length)
    have step : divLoop b (a.length + 1) (divRest b rr) (fs.set (rr.length - b.length) (plead rr / plead b)) = divLoop b (a.length + 1) a (List.replicate (a.length + 1 - b.length) 0) := by
      rw [← hdiv, divLoop_fuel hb0 (a.length + 1) a.length (divRest b rr) _ (by (first | lia | omega)) (by (first | lia | omega))]
      conv => rhs; unfold divLoop
      rw [if_neg (by (first | lia | omega))]; rfl
    have hnext : b.length ≤ (divRest b rr).length → 2 ^ ((divRest b rr).length + 1 - b.length) * (X + (B + (X + B)) + 1 + 2 * B + 1) ≤ dB a.length b.length A B := fun hle => by
      refine Nat.le_trans ?_ (hXD hlt)
      have e1 : rr.length + 1 - b.length = (rr.length - b.length) + 1 := by (first | lia | omega)
      have e2 : 2 ^ ((divRest b rr).length + 1 - b.length) ≤ 2 ^ (rr.length - b.length) := Nat.pow_le_pow_right (by decide) (Nat.sub_le_sub_right hrl _)
      rw [e1, Nat.pow_succ, Nat.mul_assoc]
      calc _ ≤ 2 ^ (rr.length - b.length) * (X + (B + (X + B)) + 1 + 2 * B + 1) := Nat.mul_le_mul_right _ e2
        _ ≤ _ := Nat.mul_le_mul_left _ (by (first | lia | omega))
    have hset : (fs.map R).set (rr.length - b.length) (R (plead rr / plead b)) = (fs.set (rr.length - b.length) (plead rr / plead b)).map R := by rw [List.map_set]
    obtain ⟨tl, hset1, hlow⟩ : ∃ tl : St, (∀ p n, St.set (St.set ex "power" p) "number" n = (("power" : Str), p) :: (("number" : Str), n) :: tl) ∧ ∀ l, St.set tl "lower" l = [(("lower" : Str), l)] := by
      rcases hex with rfl | ⟨x, y, z, rfl⟩
      · exact ⟨[], fun _ _ => rfl, fun _ => rfl⟩
      · exact ⟨[D1 "lower" z], fun _ _ => rfl, fun _ => rfl⟩
    show Exec _ _ _ _ _ _ _ _
    refine ex_cons (ex_tup2 GL (n := 20) (m := 20) ?_ (by decide +kernel) (by decide +kernel) (by decide +kernel) (by decide +kernel))
    walk_at "mine ev"
    refine ip_last (plead rr) (by (first | lia | omega)) (last_of hrne) ?_
    walk_at "mine ev"
    refine ip_last (plead b) (by (first | lia | omega)) (last_of hbne) ?_
    walk_at "mine ev"
    refine ⟨_, .rdiv _ _ ((hr.lead hX).mono (by (first | lia | omega))) ((hb.lead hB0).mono (by (first | lia | omega))) h0, ?_⟩
    walk_at "mine ev"
    refine ⟨_, .len _ (by simp; (first | lia | omega)), ?_⟩
    walk_at "mine ev"
    refine ⟨_, .len _ (by simp; (first | lia | omega)), ?_⟩
    walk_at "mine ev"
    refine ⟨by simp, ?_⟩
    rw [List.length_map, List.length_map, hpow]
    show Exec _ _ _ _ _ _ (D1 "a" (P a) :: D1 "b" (P b) :: O1 "found" (fs.map R) :: D1 "rest" (P rr) :: St.set (St.set ex "power" _) "number" _) _
    rw [hset1]
    refine ex_cons (ex_setItem GL (n := 20) (m := 20) (xs := fs.map R) (.tail _ (.tail _ (.head _))) ?_ (by decide +kernel) (by decide +kernel) (by decide +kernel) rfl)
    walk_at "mine ev"
    refine ⟨by (first | lia | omega), by simp; (first | lia | omega), by simp; (first | lia | omega), ?_⟩
    rw [Int.toNat_natCast, hset]
    show Exec _ _ _ _ _ _ (D1 "a" (P a) :: D1 "b" (P b) :: O1 "found" _ :: D1 "rest" (P rr) :: D1 "power" _ :: D1 "number" _ :: _) _
    refine ex_cons (ex_set GL (n := 20) (m := 20) ?_ (by decide +kernel) (by decide +kernel) rfl)
    walk_at "mine ev"
    refine pp_butLast (by (first | lia | omega)) ?_
    walk_at "mine ev"
    refine pp_butLast (by (first | lia | omega)) ?_
    walk_at "mine ev"
    refine ⟨_, .qscale _ _ (by (first | lia | omega)) (hb.drop.mono (by (first | lia | omega))) (hnum.mono (by (first | lia | omega))), ?_⟩
    walk_at "mine ev"
    refine ⟨_, .qraise _ _ (by (first | lia | omega)) (by (first | lia | omega)), ?_⟩
    walk_at "mine ev"
    refine ⟨_, .qsub _ _ (by (first | lia | omega)) (by (first | lia | omega)) (hr.drop.mono (by (first | lia | omega))) (hra'.mono (by (first | lia | omega))), ?_⟩
    show Exec _ _ _ _ _ _ (D1 "a" (P a) :: D1 "b" (P b) :: O1 "found" _ :: D1 "rest" (P rr) :: D1 "power" _ :: D1 "number" _ :: St.set tl "lower" _) _
    rw [hlow]
    refine ex_cons (ex_set GL (n := 20) (m := 20) ?_ (by decide +kernel) (by decide +kernel) rfl)
    walk_at "mine ev"
    exact ex_nil ⟨(divRest b rr).length, hrl, (hv _ _).mpr ⟨divRest b rr, _, _, X + (B + (X + B)) + 1, rfl, .inr ⟨_, _, _, rfl⟩, rfl, by (first | lia | omega), by rw [List.length_set]; exact hfl, step, by (first | lia | omega), divRest_bits hr hb hX hB0, hnext⟩⟩
  · rw [show decide ((rr.length : Int) ≥ (b.length : Int)) = false by simp; (first | lia | omega)]
    have hres : divLoop b (a.length + 1) a (List.replicate (a.length + 1 - b.length) 0) = (fs, rr) := by
      rw [← hdiv]; unfold divLoop; rw [if_pos (by (first | lia | omega))]
    show Exec _ _ _ _ _ _ _ _
    refine ex_cons (ex_return GL (n := 20) (m := 20) ?_ (by decide +kernel))
    walk_at "mine ev"
    refine ⟨_, .qtrim _ (by (first | lia | omega)), ?_⟩
    walk_at "mine ev"
    refine ⟨by simp, ?_⟩
    simp only [pdiv, hres]
end
theorem foldl_max_le {f : Nat → Nat} {N : Nat} : ∀ {l : List Nat} {m : Nat}, l.foldl (fun m r => max m (f r)) m ≤ N → m ≤ N ∧ ∀ r ∈ l, f r ≤ N
  | [], m, h => ⟨h, fun _ hr => by cases hr⟩
  | x :: l, m, h => by
    obtain ⟨h1, h2⟩ := foldl_max_le (l := l) (m := max m (f x)) h
    refine ⟨by (first | lia | omega), fun r hr => ?_⟩
    rcases List.mem_cons.mp hr with e | hr
    · rw [e]; (first | lia | omega)
    · exact h2 r hr
theorem gB_fuel : ∀ (f1 f2 la lb A B : Nat), lb < f1 → lb < f2 → gB f1 la lb A B = gB f2 la lb A B
  | 0, _, _, _, _, _, h, _ => by (first | lia | omega)
  | _, 0, _, _, _, _, _, h => by (first | lia | omega)
  | f1 + 1, f2 + 1, la, lb, A, B, h1, h2 => by
    unfold gB
    split
    · rfl
    · have key : ∀ (l : List Nat) (m : Nat), (∀ r ∈ l, r < lb) → l.foldl (fun m r => max m (gB f1 lb r B (2 * dB la lb A B))) m = l.foldl (fun m r => max m (gB f2 lb r B (2 * dB la lb A B))) m := by
        intro l
        induction l with
        | nil => intro m _; rfl
        | cons x l ih =>
          intro m hl
          rw [List.foldl_cons, List.foldl_cons, gB_fuel f1 f2 lb x B _ (by have := hl x (.head _); (first | lia | omega)) (by have := hl x (.head _); (first | lia | omega))]
          exact ih _ fun r hr => hl r (.tail _ hr)
      exact key _ _ fun r hr => by have := List.mem_range.mp hr; (first | lia | omega)
theorem plead_snoc (l : List Rat) (c : Rat) : plead (l ++ [c]) = c := by
  unfold plead; simp
theorem trim_form : ∀ (l : List Rat), trim l = [] ∨ ∃ m c, trim l = m ++ [c] ∧ c ≠ 0
  | [] => .inl rfl
  | a :: r => by
    unfold trim
    split
    · exact .inl rfl
    · rename_i h
      rcases trim_form r with e | ⟨m, c, e, hc⟩
      · rw [e] at h ⊢
        have ha : a ≠ 0 := fun q => h ⟨rfl, q⟩
        exact .inr ⟨[], a, rfl, ha⟩
      · exact .inr ⟨a :: m, c, by rw [e]; rfl, hc⟩
theorem trim_lead {l : List Rat} (h : trim l ≠ []) : plead (trim l) ≠ 0 := by
  rcases trim_form l with e | ⟨m, c, e, hc⟩
  · exact absurd e h
  · rw [e, plead_snoc]; exact hc
theorem plead_map (f : Rat → Rat) {p : List Rat} (h : p ≠ []) : plead (p.map f) = f (plead p) := by
  unfold plead
  rw [List.getLastD_eq_getLast?, List.getLastD_eq_getLast?, List.getLast?_map, List.getLast?_eq_some_getLast h]; rfl
theorem divLoop_lead {b : List Rat} : ∀ (fuel : Nat) (r fs : List Rat), (r ≠ [] → plead r ≠ 0) → (divLoop b fuel r fs).2 ≠ [] → plead (divLoop b fuel r fs).2 ≠ 0
  | 0, r, fs, h, hn => h hn
  | fuel + 1, r, fs, h, hn => by
    unfold divLoop at hn ⊢
    split
    · rename_i hlt
      rw [if_pos hlt] at hn
      exact h hn
    · rename_i hlt
      rw [if_neg hlt] at hn
      exact divLoop_lead fuel _ _ (fun q => trim_lead q) hn
theorem pdiv_rest_lead {a b : List Rat} (ha : a ≠ [] → plead a ≠ 0) (h : (pdiv a b).2 ≠ []) : plead (pdiv a b).2 ≠ 0 := divLoop_lead _ _ _ ha h
theorem pmonic_len {p : List Rat} (hl : p ≠ [] → plead p ≠ 0) : (pmonic p).length = p.length := by
  unfold pmonic
  split
  · rename_i e; rw [e]
  · rename_i e
    unfold pscale
    rw [if_pos]
    · simp
    · intro h
      have := Rat.mul_inv_cancel _ (hl e)
      rw [h] at this
      simp at this
theorem pmonic_lead {p : List Rat} (hl : p ≠ [] → plead p ≠ 0) (h : pmonic p ≠ []) : plead (pmonic p) ≠ 0 := by
  have hp : p ≠ [] := by rintro rfl; exact h rfl
  unfold pmonic at h ⊢
  rw [if_neg hp] at h ⊢
  unfold pscale at h ⊢
  split
  · rw [plead_map _ hp, Rat.mul_inv_cancel _ (hl hp)]; decide
  · rename_i q
    rw [if_neg q] at h
    exact absurd rfl h
theorem divLoop_rest_le {b : List Rat} (hb0 : 0 < b.length) : ∀ (fuel : Nat) (r fs : List Rat), (divLoop b fuel r fs).2.length ≤ r.length
  | 0, r, fs => Nat.le_refl _
  | fuel + 1, r, fs => by
    unfold divLoop
    split
    · exact Nat.le_refl _
    · have hl := divRest_len (b := b) (r := r) hb0 (by (first | lia | omega))
      exact Nat.le_trans (divLoop_rest_le hb0 fuel (divRest b r) _) (Nat.le_of_lt hl)
theorem pdiv_rest_le {a b : List Rat} (hb0 : 0 < b.length) : (pdiv a b).2.length ≤ a.length := divLoop_rest_le hb0 _ _ _
theorem gcdLoop_fuel : ∀ (f1 f2 : Nat) (a b : List Rat), (a ≠ [] → plead a ≠ 0) → (b ≠ [] → plead b ≠ 0) → b.length < f1 → b.length < f2 → gcdLoop f1 a b = gcdLoop f2 a b
  | 0, _, _, _, _, _, h, _ => by (first | lia | omega)
  | _, 0, _, _, _, _, _, h => by (first | lia | omega)
  | f1 + 1, f2 + 1, a, b, ha, hb, h1, h2 => by
    unfold gcdLoop
    split
    · rfl
    · rename_i hbn
      have hb0 := List.length_pos_iff.mpr hbn
      have hl := pdiv_rest_len (a := a) hb0
      have hm := pmonic_len (p := (pdiv a b).2) (pdiv_rest_lead ha)
      exact gcdLoop_fuel f1 f2 b _ hb (pmonic_lead (pdiv_rest_lead ha)) (by (first | lia | omega)) (by (first | lia | omega))
theorem gcd_bits : ∀ (fuel : Nat) (a b : List Rat) (A B : Nat), 0 < A → 0 < B → Bp A a → Bp B b → (a ≠ [] → plead a ≠ 0) → (b ≠ [] → plead b ≠ 0) → b.length < fuel →
    2 ≤ (pmonic (gcdLoop fuel a b)).length → ∀ N, gR fuel a.length b.length A B ≤ N → Bp N (pmonic (gcdLoop fuel a b))
  | 0, _, _, _, _, _, _, _, _, _, _, h => by (first | lia | omega)
  | fuel + 1, a, b, A, B, hA, hB, ha, hb, hla, hlb, hf => fun h2 N hN => by
    unfold gcdLoop at h2 ⊢
    unfold gR at hN
    by_cases hbn : b = []
    · rw [if_pos hbn] at h2 ⊢
      rw [if_pos (by rw [hbn]; rfl)] at hN
      have hl := pmonic_len hla
      rw [if_pos (by (first | lia | omega))] at hN
      exact (ha.pmonic hA).mono (by (first | lia | omega))
    · have hb0 := List.length_pos_iff.mpr hbn
      rw [if_neg hbn] at h2 ⊢
      rw [if_neg (by (first | lia | omega))] at hN
      have hl := pdiv_rest_len (a := a) hb0
      have hle := pdiv_rest_le (a := a) hb0
      have hm := pmonic_len (p := (pdiv a b).2) (pdiv_rest_lead hla)
      have hbits := (pdiv_bits ha hb hA hB hb0).1
      have hC : 0 < dB a.length b.length A B := by
        unfold dB
        exact Nat.mul_pos (Nat.pow_pos (by decide)) (by (first | lia | omega))
      have := (foldl_max_le hN).2 (pmonic (pdiv a b).2).length (List.mem_range.mpr (by (first | lia | omega)))
      exact gcd_bits fuel b _ B (2 * dB a.length b.length A B) hB (by (first | lia | omega)) hb ((hbits.pmonic hC).mono (by (first | lia | omega))) hlb (pmonic_lead (pdiv_rest_lead hla)) (by (first | lia | omega)) h2 N this
section
variable {prog : Program} {w : World} {hT : Heap} {mg mb : Str → Option Value} {k : Nat}
theorem qmonic_ok (C : Cx prog hT mg mb) (GL : Glob prog w hT mg mb k Fn Gl (gsOf ["len", "rinv", "qscale"])) (pf : PF hT mg (rc 22)) : Ok prog w hT mg mb (k + 1) "qmonic" := by
  refine ok_of_body C pf rfl ["p"] (fun pm code doc vals h => by obtain ⟨a, rfl⟩ := len_one h; rfl) (by decide +kernel) fun ds r hF => ?_
  replace hF := hF.inv id_qmonic
  obtain ⟨p, h1, hp, hl, rfl, rfl⟩ := hF
  refine ⟨rfl, ?_⟩
  refine ex_cons (ex_return GL (n := 20) (m := 20) ?_ (by decide +kernel))
  walk_at "mine ev"
  refine ⟨_, .len _ (by simp; (first | lia | omega)), ?_⟩
  walk_at "mine ev"
  rw [List.length_map]
  by_cases h0 : p = []
  · subst h0
    show evE _ _ _ _ _ _
    walk_at "mine ev"
    exact ⟨by simp, rfl⟩
  · have hpos := List.length_pos_iff.mpr h0
    rw [show decide ((p.length : Int) > 0) = true by simp; (first | lia | omega)]
    show evE _ _ _ _ _ _
    walk_at "mine ev"
    refine ip_last (plead p) (by (first | lia | omega)) (last_of h0) ?_
    walk_at "mine ev"
    refine ⟨_, .rinv _ (hl h0), ?_⟩
    walk_at "mine ev"
    refine ⟨_, .qscale _ _ h1 hp ((hp.lead (by (first | lia | omega))).inv (by (first | lia | omega))), ?_⟩
    rw [pmonic, if_neg h0]
theorem qgcd_ok (C : Cx prog hT mg mb) (GL : Glob prog w hT mg mb k Fn Gl (gsOf ["len", "qdivmod", "qmonic"])) (pf : PF hT mg (rc 23)) : Ok prog w hT mg mb (k + 1) "qgcd" := by
  refine ok_of_body C pf rfl ["a", "b"] (fun pm code doc vals h => by obtain ⟨a, b, rfl⟩ := len_two h; rfl) (by decide +kernel) fun ds r hF => ?_
  replace hF := hF.inv id_qgcd
  refine genP fun gP hgP => ?_
  obtain ⟨a, b, A, B, hA, hB, ha, hb, h1, h2, hla, hlb, hG, rfl, rfl⟩ := hF
  refine hgP ?_
  clear hgP
  refine ⟨rfl, ?_⟩
  refine ex_cons (ex_while GL (n := 20) (m := 20) (fun j σ => ∃ x y X Y, σ = [D1 "a" (P x), D1 "b" (P y)] ∧ j = y.length ∧ gcdLoop (y.length + 1) x y = gcdLoop (b.length + 1) a b ∧ 0 < X ∧ 0 < Y ∧ Bp X x ∧ Bp Y y ∧ x.length ≤ 100 ∧ y.length ≤ 100 ∧
    (x ≠ [] → plead x ≠ 0) ∧ (y ≠ [] → plead y ≠ 0) ∧ gB (y.length + 1) x.length y.length X Y ≤ 400000) (j := b.length) ⟨a, b, A, B, rfl, rfl, rfl, hA, hB, ha, hb, h1, h2, hla, hlb, hG⟩ (fun j σ hI => ?_) (by decide +kernel))
  refine genP fun gP hgP => ?_
  obtain ⟨x, y, X, Y, rfl, rfl, hg, hX, hY, hx, hy, hx1, hy1, hlx, hly, hGB⟩ := hI
  refine hgP ?_
  clear hgP
  walk_at "mine ev"
  refine ⟨_, .len _ (by simp; (first | lia | omega)), ?_⟩
  walk_at "mine ev"
  rw [List.length_map]
  unfold gB at hGB
  by_cases h0 : y = []
  · rw [show decide ((y.length : Int) > 0) = false by rw [h0]; rfl]
    rw [if_pos (by rw [h0]; rfl)] at hGB
    have hgx : gcdLoop (b.length + 1) a b = x := by rw [← hg, gcdLoop, if_pos h0]
    show Exec _ _ _ _ _ _ _ _
    refine ex_cons (ex_return GL (n := 20) (m := 20) ?_ (by decide +kernel))
    walk_at "mine ev"
    refine ⟨_, .qmonic _ (by (first | lia | omega)) (hx.mono (by (first | lia | omega))) hlx, ?_⟩
    rw [pgcd, hgx]
  · have hpos := List.length_pos_iff.mpr h0
    rw [if_neg (by (first | lia | omega))] at hGB
    have hl := pdiv_rest_len (a := x) hpos
    have hle := pdiv_rest_le (a := x) hpos
    have hm := pmonic_len (p := (pdiv x y).2) (pdiv_rest_lead hlx)
    have hbits := (pdiv_bits hx hy hX hY hpos).1
    have hC : 0 < dB x.length y.length X Y := by
      unfold dB
      exact Nat.mul_pos (Nat.pow_pos (by decide)) (by (first | lia | omega))
    obtain ⟨g1, g2⟩ := foldl_max_le hGB
    rw [show decide ((y.length : Int) > 0) = true by simp; (first | lia | omega)]
    show Exec _ _ _ _ _ _ _ _
    refine ex_cons (ex_tup2 GL (n := 20) (m := 20) ?_ (by decide +kernel) (by decide +kernel) (by decide +kernel) (by decide +kernel))
    walk_at "mine ev"
    refine ⟨_, .qdivmod _ _ X Y hX hY hx hy hx1 hy1 (hly h0) (by (first | lia | omega)), ?_⟩
    walk_at "mine ev"
    refine ⟨_, .qmonic _ (by (first | lia | omega)) (hbits.mono (by (first | lia | omega))) (pdiv_rest_lead hlx), ?_⟩
    walk_at "mine ev"
    refine ⟨by simp, ?_⟩
    refine ex_nil ⟨(pmonic (pdiv x y).2).length, by (first | lia | omega), y, pmonic (pdiv x y).2, Y, 2 * dB x.length y.length X Y, rfl, rfl, ?_, hY, by (first | lia | omega), hy, (hbits.pmonic hC).mono (by (first | lia | omega)), hy1, by (first | lia | omega), hly, pmonic_lead (pdiv_rest_lead hlx), ?_⟩
    · rw [← hg]
      conv => rhs; unfold gcdLoop
      rw [if_neg h0]
      exact gcdLoop_fuel _ _ _ _ hly (pmonic_lead (pdiv_rest_lead hlx)) (by (first | lia | omega)) (by (first | lia | omega))
    · rw [gB_fuel _ y.length _ _ _ _ (by (first | lia | omega)) (by (first | lia | omega))]
      exact g2 _ (List.mem_range.mpr (by (first | lia | omega)))
end
theorem canLayAll_map {α : Type} {e : α → PyData} (h : ∀ x, (e x).canLay0 = true) : ∀ xs : List α, PyData.canLayAll0 (xs.map e) = true
  | [] => rfl
  | x :: xs => by
    show ((e x).canLay0 && PyData.canLayAll0 (xs.map e)) = true
    rw [h x, canLayAll_map h xs]; rfl
theorem depthAll_map {α : Type} {e : α → PyData} {n : Nat} (h : ∀ x, (e x).depth ≤ n) : ∀ xs : List α, PyData.depthAll (xs.map e) ≤ n
  | [] => by simp [PyData.depthAll]
  | x :: xs => by
    show max (e x).depth (PyData.depthAll (xs.map e)) ≤ n
    have := h x
    have := depthAll_map h xs
    (first | lia | omega)
theorem eqvAll_map {α : Type} [DecidableEq α] {e : α → PyData} (h : ∀ x y, PyData.eqv (e x) (e y) = decide (x = y)) : ∀ xs ys : List α, PyData.eqvAll (xs.map e) (ys.map e) = decide (xs = ys)
  | [], [] => rfl
  | [], y :: ys => by simp [PyData.eqvAll]
  | x :: xs, [] => by simp [PyData.eqvAll]
  | x :: xs, y :: ys => by
    show (PyData.eqv (e x) (e y) && PyData.eqvAll (xs.map e) (ys.map e)) = _
    rw [h x y, eqvAll_map h xs ys]
    by_cases a : x = y <;> by_cases b : xs = ys <;> simp [a, b]
theorem eqv_I (x y : Int) : PyData.eqv (I x) (I y) = decide (x = y) := by
  by_cases e : x = y <;> simp [PyData.eqv, e]
theorem eqv_R (x y : Rat) : PyData.eqv (R x) (R y) = decide (x = y) := by
  show (PyData.eqv (I x.num) (I y.num) && (PyData.eqv (I x.den) (I y.den) && true)) = _
  rw [eqv_I, eqv_I]
  by_cases e : x = y
  · simp [e]
  · have : ¬ (x.num = y.num ∧ x.den = y.den) := fun q => e (Rat.ext q.1 q.2)
    by_cases a : x.num = y.num
    · have b : ¬ x.den = y.den := fun b => this ⟨a, b⟩
      simp [e, a]; (first | lia | omega)
    · simp [e, a]
theorem lay_R (x : Rat) : (R x).canLay0 = true := rfl
theorem lay_I (x : Int) : (I x).canLay0 = true := rfl
theorem dep_R (x : Rat) : (R x).depth ≤ 1 := by simp [PyData.depth, PyData.depthAll]
theorem dep_I (x : Int) : (I x).depth ≤ 0 := by simp [PyData.depth]
section
variable {QB : Bool → Prop}
theorem cp_eqL {α : Type} [DecidableEq α] {e : α → PyData} {n : Nat} {xs ys : List α} (h1 : ∀ x, (e x).canLay0 = true) (h2 : ∀ x, (e x).depth ≤ n) (h3 : ∀ x y, PyData.eqv (e x) (e y) = decide (x = y)) (hn : n ≤ 60) (h : QB (decide (xs = ys))) : cmpP .Eq (.list (xs.map e)) (.list (ys.map e)) QB := by
  refine ⟨canLayAll_map h1 xs, canLayAll_map h1 ys, ?_, ?_⟩
  · have := depthAll_map h2 xs
    show PyData.depthAll (xs.map e) + 1 ≤ 64
    (first | lia | omega)
  · show QB (PyData.eqvAll (xs.map e) (ys.map e))
    rw [eqvAll_map h3]; exact h
theorem cp_neL {α : Type} [DecidableEq α] {e : α → PyData} {n : Nat} {xs ys : List α} (h1 : ∀ x, (e x).canLay0 = true) (h2 : ∀ x, (e x).depth ≤ n) (h3 : ∀ x y, PyData.eqv (e x) (e y) = decide (x = y)) (hn : n ≤ 60) (h : QB (decide (xs ≠ ys))) : cmpP .NotEq (.list (xs.map e)) (.list (ys.map e)) QB := by
  refine ⟨canLayAll_map h1 xs, canLayAll_map h1 ys, ?_, ?_⟩
  · have := depthAll_map h2 xs
    show PyData.depthAll (xs.map e) + 1 ≤ 64
    (first | lia | omega)
  · show QB (!PyData.eqvAll (xs.map e) (ys.map e))
    rw [eqvAll_map h3]
    have : (!decide (xs = ys)) = decide (xs ≠ ys) := by simp
    rw [this]; exact h
theorem cp_eqP {p q : List Rat} (h : QB (decide (p = q))) : cmpP .Eq (P p) (P q) QB := cp_eqL lay_R dep_R eqv_R (by decide) h
theorem cp_neP {p q : List Rat} (h : QB (decide (p ≠ q))) : cmpP .NotEq (P p) (P q) QB := cp_neL lay_R dep_R eqv_R (by decide) h
theorem cp_eqV {p q : List Int} (h : QB (decide (p = q))) : cmpP .Eq (V p) (V q) QB := cp_eqL lay_I dep_I eqv_I (by decide) h
theorem cp_neV {p q : List Int} (h : QB (decide (p ≠ q))) : cmpP .NotEq (V p) (V q) QB := cp_neL lay_I dep_I eqv_I (by decide) h
theorem lay_V (x : List Int) : (V x).canLay0 = true := canLayAll_map lay_I x
theorem dep_V (x : List Int) : (V x).depth ≤ 1 := by
  have := depthAll_map dep_I x
  show PyData.depthAll (x.map I) + 1 ≤ 1
  (first | lia | omega)
theorem eqv_V (x y : List Int) : PyData.eqv (V x) (V y) = decide (x = y) := eqvAll_map eqv_I x y
theorem cp_eqM {p q : List (List Int)} (h : QB (decide (p = q))) : cmpP .Eq (M p) (M q) QB := cp_eqL (e := V) lay_V dep_V eqv_V (by decide) h
theorem cp_neM {p q : List (List Int)} (h : QB (decide (p ≠ q))) : cmpP .NotEq (M p) (M q) QB := cp_neL (e := V) lay_V dep_V eqv_V (by decide) h
theorem cp_eqR {p q : Rat} (h : QB (decide (p = q))) : cmpP .Eq (R p) (R q) QB := by
  refine ⟨rfl, rfl, ?_, ?_⟩
  · have := dep_R p
    (first | lia | omega)
  · rw [eqv_R]; exact h
end
theorem gB_small : ∀ la, la ≤ 3 → ∀ lb, lb ≤ 4 → gB (lb + 1) la lb 5 5 ≤ 400000 := by decide +kernel
theorem gR_small : ∀ la, la ≤ 3 → ∀ lb, lb ≤ 4 → gR (lb + 1) la lb 5 5 ≤ 2000 := by decide +kernel
theorem gcdLoop_len : ∀ (fuel : Nat) (a b : List Rat) (N : Nat), (a ≠ [] → plead a ≠ 0) → (b ≠ [] → plead b ≠ 0) → a.length ≤ N → b.length ≤ N → (gcdLoop fuel a b).length ≤ N ∧ ((gcdLoop fuel a b) ≠ [] → plead (gcdLoop fuel a b) ≠ 0)
  | 0, a, b, N, ha, hb, h1, h2 => ⟨h1, ha⟩
  | fuel + 1, a, b, N, ha, hb, h1, h2 => by
    unfold gcdLoop
    split
    · exact ⟨h1, ha⟩
    · rename_i hbn
      have hb0 := List.length_pos_iff.mpr hbn
      have hl := pdiv_rest_len (a := a) hb0
      have hm := pmonic_len (p := (pdiv a b).2) (pdiv_rest_lead ha)
      exact gcdLoop_len fuel b _ N hb (pmonic_lead (pdiv_rest_lead ha)) h2 (by (first | lia | omega))
theorem pgcd_len {a b : List Rat} {N : Nat} (ha : a ≠ [] → plead a ≠ 0) (hb : b ≠ [] → plead b ≠ 0) (h1 : a.length ≤ N) (h2 : b.length ≤ N) : (pgcd a b).length ≤ N ∧ (pgcd a b ≠ [] → plead (pgcd a b) ≠ 0) := by
  obtain ⟨q1, q2⟩ := gcdLoop_len (b.length + 1) a b N ha hb h1 h2
  exact ⟨by unfold pgcd; rw [pmonic_len q2]; exact q1, pmonic_lead q2⟩
theorem divLoop_flen {b : List Rat} : ∀ (fuel : Nat) (r fs : List Rat), (divLoop b fuel r fs).1.length = fs.length
  | 0, r, fs => rfl
  | fuel + 1, r, fs => by
    unfold divLoop
    split
    · rfl
    · rw [divLoop_flen fuel]; simp
theorem pdiv_len (a b : List Rat) : (pdiv a b).1.length ≤ a.length + 1 - b.length := by
  have h := trim_len (divLoop b (a.length + 1) a (List.replicate (a.length + 1 - b.length) 0)).1
  rw [divLoop_flen, List.length_replicate] at h
  exact h
theorem fmakeS_bits {top bottom : List Rat} (ht : Bp 5 top) (hb : Bp 5 bottom) (h1 : top.length ≤ 3) (h2 : bottom.length ≤ 4) (hl : top ≠ [] → plead top ≠ 0) (hlb : plead bottom ≠ 0) :
    Bp 100000 (fmakeS top bottom).1 ∧ Bp 100000 (fmakeS top bottom).2 ∧ (fmakeS top bottom).1.length ≤ 4 ∧ (fmakeS top bottom).2.length ≤ 4 := by
  unfold fmakeS
  split
  · refine ⟨(fun c hc => by cases hc), (fun c hc => ?_), by simp, by simp⟩
    rw [List.mem_singleton.mp hc]
    exact ⟨Nat.one_lt_two_pow (by decide), Nat.one_lt_two_pow (by decide)⟩
  · have hbn : bottom ≠ [] := by rintro rfl; exact hlb rfl
    have hpos := List.length_pos_iff.mpr hbn
    obtain ⟨hcl, hclead⟩ := pgcd_len (N := 4) hl (fun _ => hlb) (by (first | lia | omega)) h2
    have hG : 1 < (pgcd top bottom).length → Bp 2000 (pgcd top bottom) := fun h => gcd_bits (bottom.length + 1) top bottom 5 5 (by decide) (by decide) ht hb hl (fun _ => hlb) (by (first | lia | omega)) h 2000 (gR_small _ h1 _ h2)
    generalize pgcd top bottom = c at *
    dsimp only
    have main : ∀ x : List Rat, Bp 5 x → x.length ≤ 4 → Bp 40000 (if c.length > 1 then (pdiv x c).1 else x) ∧ (if c.length > 1 then (pdiv x c).1 else x).length ≤ 4 := fun x hx hxl => by
      split
      · rename_i hc
        have := (pdiv_bits hx (hG hc) (by decide) (by decide) (by (first | lia | omega))).2
        refine ⟨this.mono ?_, by have := pdiv_len x c; (first | lia | omega)⟩
        have e : 2 ^ (x.length + 1 - c.length) ≤ 2 ^ 3 := Nat.pow_le_pow_right (by decide) (by (first | lia | omega))
        have : dB x.length c.length 5 2000 ≤ 8 * (5 + 2 * 2000 + 1) := Nat.mul_le_mul_right _ e
        (first | lia | omega)
      · exact ⟨hx.mono (by decide), hxl⟩
    obtain ⟨t1, t2⟩ := main top ht (by (first | lia | omega))
    obtain ⟨b1, b2⟩ := main bottom hb h2
    have hs := (b1.lead (by decide)).inv (by decide)
    refine ⟨(t1.pscale hs).mono (by decide), (b1.pscale hs).mono (by decide), ?_, ?_⟩
    · have := pscale_len (if c.length > 1 then (pdiv top c).1 else top) (plead (if c.length > 1 then (pdiv bottom c).1 else bottom))⁻¹
      (first | lia | omega)
    · have := pscale_len (if c.length > 1 then (pdiv bottom c).1 else bottom) (plead (if c.length > 1 then (pdiv bottom c).1 else bottom))⁻¹
      (first | lia | omega)
section
variable {prog : Program} {w : World} {hT : Heap} {mg mb : Str → Option Value} {k : Nat}
theorem fmake_ok (C : Cx prog hT mg mb) (GL : Glob prog w hT mg mb k Fn Gl (gsOf ["qgcd", "qdegree", "qdivmod", "rinv", "qlead", "qscale"])) (pf : PF hT mg (rc 25)) : Ok prog w hT mg mb (k + 1) "fmake" := by
  refine ok_of_body C pf rfl ["top", "bottom"] (fun pm code doc vals h => by obtain ⟨a, b, rfl⟩ := len_two h; rfl) (by decide +kernel) fun ds r hF => ?_
  replace hF := hF.inv id_fmake
  refine genP fun gP hgP => ?_
  obtain ⟨top, bottom, ht, hb, h1, h2, hl, hlb, hq, rfl, rfl⟩ := hF
  refine hgP ?_
  clear hgP
  refine ⟨rfl, ?_⟩
  have hbn : bottom ≠ [] := by rintro rfl; exact hlb rfl
  have hpos := List.length_pos_iff.mpr hbn
  refine ex_cons (ex_if GL (n := 20) (m := 20) ?_ (by decide +kernel))
  walk_at "mine ev"
  refine ⟨by simp, ?_⟩
  refine cp_eqP (q := []) ?_
  rw [show decide (bottom = []) = false by simp [hbn]]
  refine ex_nil ?_
  show Exec _ _ _ _ _ _ [D1 "top" (P top), D1 "bottom" (P bottom)] _
  refine ex_cons (ex_if GL (n := 20) (m := 20) ?_ (by decide +kernel))
  walk_at "mine ev"
  refine ⟨by simp, ?_⟩
  refine cp_eqP (q := []) ?_
  by_cases h0 : top = []
  · rw [show decide (top = []) = true by simp [h0]]
    show Exec _ _ _ _ _ _ _ _
    refine ex_cons (ex_return GL (n := 20) (m := 20) ?_ (by decide +kernel))
    walk_at "mine ev"
    rw [fmakeS, if_pos h0]
  · rw [show decide (top = []) = false by simp [h0]]
    refine ex_nil ?_
    show Exec _ _ _ _ _ _ [D1 "top" (P top), D1 "bottom" (P bottom)] _
    obtain ⟨hcl, hclead⟩ := pgcd_len (N := 4) hl (fun _ => hlb) (by (first | lia | omega)) h2
    have hG : 1 < (pgcd top bottom).length → Bp 2000 (pgcd top bottom) := fun h => gcd_bits (bottom.length + 1) top bottom 5 5 (by decide) (by decide) ht hb hl (fun _ => hlb) (by (first | lia | omega)) h 2000 (gR_small _ h1 _ h2)
    have hq' := hq h0
    have hS : fmakeS top bottom = (let c := pgcd top bottom
      let t := if c.length > 1 then (pdiv top c).1 else top
      let b := if c.length > 1 then (pdiv bottom c).1 else bottom
      (pscale t (plead b)⁻¹, pscale b (plead b)⁻¹)) := by rw [fmakeS, if_neg h0]
    refine ex_cons (ex_set GL (n := 20) (m := 20) ?_ (by decide +kernel) (by decide +kernel) rfl)
    walk_at "mine ev"
    refine ⟨_, .qgcd _ _ 5 5 (by decide) (by decide) ht hb (by (first | lia | omega)) (by (first | lia | omega)) hl (fun _ => hlb) (gB_small _ h1 _ h2), ?_⟩
    generalize pgcd top bottom = c at *
    show Exec _ _ _ _ _ _ [D1 "top" (P top), D1 "bottom" (P bottom), D1 "common" (P c)] _
    have fin : ∀ t b : List Rat, Bp 40000 t → Bp 40000 b → t.length ≤ 4 → b.length ≤ 4 → plead b ≠ 0 → fmakeS top bottom = (pscale t (plead b)⁻¹, pscale b (plead b)⁻¹) →
        Exec prog w hT k (rc 25).scope (rc 25).body.tail.tail.tail.tail [D1 "top" (P t), D1 "bottom" (P b), D1 "common" (P c)] (fun o => o = .ret (.tuple [P (fmakeS top bottom).1, P (fmakeS top bottom).2])) := fun t b ht hb htl hbl hb0 e => by
      refine ex_cons (ex_set GL (n := 20) (m := 20) ?_ (by decide +kernel) (by decide +kernel) rfl)
      walk_at "mine ev"
      refine ⟨_, .qlead _ (by (first | lia | omega)), ?_⟩
      walk_at "mine ev"
      refine ⟨_, .rinv _ hb0, ?_⟩
      show Exec _ _ _ _ _ _ [D1 "top" (P t), D1 "bottom" (P b), D1 "common" (P c), D1 "scale" (R (plead b)⁻¹)] _
      have hs := (hb.lead (by decide)).inv (by decide)
      refine ex_cons (ex_return GL (n := 20) (m := 20) ?_ (by decide +kernel))
      walk_at "mine ev"
      refine ⟨_, .qscale _ _ (by (first | lia | omega)) (ht.mono (by decide)) (hs.mono (by decide)), ?_⟩
      walk_at "mine ev"
      refine ⟨_, .qscale _ _ (by (first | lia | omega)) (hb.mono (by decide)) (hs.mono (by decide)), ?_⟩
      walk_at "mine ev"
      refine ⟨by simp, ?_⟩
      rw [e]
    refine ex_cons (ex_if GL (n := 20) (m := 20) ?_ (by decide +kernel))
    walk_at "mine ev"
    refine ⟨_, .qdegree _ (by (first | lia | omega)), ?_⟩
    walk_at "mine ev"
    by_cases hc : 1 < c.length
    · rw [show decide (((c.length : Int) - 1) > 0) = true by simp; (first | lia | omega)]
      have main : ∀ x : List Rat, Bp 5 x → x.length ≤ 4 → dB x.length c.length 5 2000 + 2000 ≤ 40000 ∧ Bp 40000 (pdiv x c).1 ∧ (pdiv x c).1.length ≤ 4 := fun x hx hxl => by
        have := (pdiv_bits hx (hG hc) (by decide) (by decide) (by (first | lia | omega))).2
        have e : 2 ^ (x.length + 1 - c.length) ≤ 2 ^ 3 := Nat.pow_le_pow_right (by decide) (by (first | lia | omega))
        have e2 : dB x.length c.length 5 2000 ≤ 8 * (5 + 2 * 2000 + 1) := Nat.mul_le_mul_right _ e
        exact ⟨by (first | lia | omega), this.mono (by (first | lia | omega)), by have := pdiv_len x c; (first | lia | omega)⟩
      obtain ⟨t0, t1, t2⟩ := main top ht (by (first | lia | omega))
      obtain ⟨b0, b1, b2⟩ := main bottom hb h2
      have hcn : c ≠ [] := by rintro rfl; simp at hc
      show Exec _ _ _ _ _ _ _ _
      refine ex_cons (ex_tup2 GL (n := 20) (m := 20) ?_ (by decide +kernel) (by decide +kernel) (by decide +kernel) (by decide +kernel))
      walk_at "mine ev"
      refine ⟨_, .qdivmod _ _ 5 2000 (by decide) (by decide) ht (hG hc) (by (first | lia | omega)) (by (first | lia | omega)) (hclead hcn) (by (first | lia | omega)), ?_⟩
      walk_at "mine ev"
      refine ⟨_, .qdivmod _ _ 5 2000 (by decide) (by decide) hb (hG hc) (by (first | lia | omega)) (by (first | lia | omega)) (hclead hcn) (by (first | lia | omega)), ?_⟩
      walk_at "mine ev"
      refine ⟨by simp, ?_⟩
      refine ex_nil (fin _ _ t1 b1 t2 b2 (hq' hc) ?_)
      rw [hS]; dsimp only; rw [if_pos hc, if_pos hc]
    · rw [show decide (((c.length : Int) - 1) > 0) = false by simp; (first | lia | omega)]
      refine ex_nil (fin _ _ (ht.mono (by decide)) (hb.mono (by decide)) (by (first | lia | omega)) h2 hlb ?_)
      rw [hS]; dsimp only; rw [if_neg hc, if_neg hc]
end
theorem enumV {steps : List Int} {K : List PyData → Prop} (h : steps.length ≤ 10000) (hK : K ((List.range steps.length).map fun (i : Nat) => PyData.tuple [I (i : Int), I (steps.getD i 0)])) : enumP [V steps] K := by
  refine ⟨by simpa using h, ?_⟩
  have : (rangeD 0 ((steps.map PyData.int).length : Int)).zipWith (fun i x => PyData.tuple [i, x]) (steps.map PyData.int) = (List.range steps.length).map fun (i : Nat) => PyData.tuple [I (i : Int), I (steps.getD i 0)] := by
    apply List.ext_getElem?
    intro i
    simp only [rangeD, List.getElem?_zipWith, List.getElem?_map, List.length_map, Int.sub_zero, Int.toNat_natCast, List.getD_eq_getElem?_getD]
    by_cases hi : i < steps.length
    · simp [hi]
    · simp [hi]
  rw [this]; exact hK
theorem zipV {xs ys : List Int} {K : List PyData → Prop} (h1 : xs.length ≤ 10000) (h2 : ys.length ≤ 10000) (hK : K ((xs.zip ys).map fun p => PyData.tuple [I p.1, I p.2])) : zipP [V xs, V ys] K := by
  refine ⟨by simpa using h1, by simpa using h2, ?_⟩
  have : ∀ xs ys : List Int, (xs.map PyData.int).zipWith (fun x y => PyData.tuple [x, y]) (ys.map PyData.int) = (xs.zip ys).map fun p => PyData.tuple [I p.1, I p.2] := by
    intro xs
    induction xs with
    | nil => intro ys; simp
    | cons x xs ih => intro ys; cases ys with
      | nil => simp
      | cons y ys => simp [ih ys]
  rw [this]; exact hK
section
variable {prog : Program} {w : World} {hT : Heap} {k : Nat} {sc : Scope} {body : List Stmt}
theorem forP_range {x : Str} {n : Nat} {K : Out → Prop} (Iv : Nat → St → Prop) : ∀ (m i : Nat) (σ : St), i + m = n → Iv i σ →
    (∀ i, i < n → ∀ σ, Iv i σ → Exec prog w hT k sc body (σ.set x (.d (I (i : Int)))) (fun o => match o with | .next σ' => Iv (i + 1) σ' | .ret d => K (.ret d))) → (∀ σ, Iv n σ → K (.next σ)) →
    forP x (fun σ K => Exec prog w hT k sc body σ K) ((List.range' i m).map fun (i : Nat) => I (i : Int)) σ K
  | 0, i, σ, e, h, _, hend => hend σ (by have : i = n := by (first | lia | omega)
                                         exact this ▸ h)
  | m + 1, i, σ, e, h, step, hend => by
    rw [List.range'_succ, List.map_cons]
    refine (step i (by (first | lia | omega)) σ h).mono fun o ho => ?_
    cases o with
    | next σ' => exact forP_range Iv m (i + 1) σ' (by (first | lia | omega)) ho step hend
    | ret d => exact ho
theorem forP_rg {x : Str} {n : Nat} {K : Out → Prop} {σ : St} (Iv : Nat → St → Prop) (h : Iv 0 σ)
    (step : ∀ i, i < n → ∀ σ, Iv i σ → Exec prog w hT k sc body (σ.set x (.d (I (i : Int)))) (fun o => match o with | .next σ' => Iv (i + 1) σ' | .ret d => K (.ret d))) (hend : ∀ σ, Iv n σ → K (.next σ)) :
    forP x (fun σ K => Exec prog w hT k sc body σ K) ((List.range n).map fun (i : Nat) => I (i : Int)) σ K := by
  rw [List.range_eq_range']
  exact forP_range Iv n 0 σ (by (first | lia | omega)) h step hend
end
theorem Bz.mono {n m : Nat} {x : Int} (h : Bz n x) (hnm : n ≤ m) : Bz m x := Nat.lt_of_lt_of_le h (Nat.pow_le_pow_right (by decide) hnm)
theorem Bz.zero {n : Nat} : Bz n 0 := Nat.pow_pos (by decide)
theorem Bz.mul {n m : Nat} {x y : Int} (hx : Bz n x) (hy : Bz m y) : Bz (n + m) (x * y) := by
  unfold Bz; rw [Int.natAbs_mul]; exact mul_lt_pow hx hy
theorem sum_abs_le {N : Nat} : ∀ {l : List Int}, (∀ x ∈ l, x.natAbs ≤ N) → l.sum.natAbs ≤ l.length * N
  | [], _ => by simp
  | x :: l, h => by
    rw [List.sum_cons, List.length_cons]
    have h1 := h x (.head _)
    have h2 := sum_abs_le (l := l) fun y hy => h y (.tail _ hy)
    have h3 := Int.natAbs_add_le x l.sum
    rw [Nat.add_mul, Nat.one_mul]
    (first | lia | omega)
theorem sum_bits {n : Nat} {l : List Int} (h : ∀ x ∈ l, Bz n x) (hl : l.length ≤ 4) : Bz (n + 2) l.sum := by
  have h1 := sum_abs_le (N := 2 ^ n - 1) (l := l) fun x hx => by
    have := h x hx
    unfold Bz at this
    (first | omega | lia)
  have h2 : l.length * (2 ^ n - 1) ≤ 4 * (2 ^ n - 1) := Nat.mul_le_mul_right _ hl
  have h3 : 0 < 2 ^ n := Nat.pow_pos (by decide)
  unfold Bz
  rw [Nat.pow_add]
  (first | omega | lia)
theorem getD_bits {n : Nat} {l : List Int} (h : ∀ x ∈ l, Bz n x) (i : Nat) : Bz n (l.getD i 0) := by
  rw [List.getD_eq_getElem?_getD]
  cases e : l[i]? with
  | none => exact Bz.zero
  | some c => exact h c (List.mem_of_getElem? e)
theorem getD_row {n : Nat} {m : List (List Int)} (h : Bm n m) (i : Nat) : ∀ x ∈ m.getD i [], Bz n x := by
  rw [List.getD_eq_getElem?_getD]
  cases e : m[i]? with
  | none => intro x hx; cases hx
  | some c => exact h c (List.mem_of_getElem? e)
section
variable {prog : Program} {w : World} {hT : Heap} {mg mb : Str → Option Value} {k : Nat}
theorem unit_rows_ok (C : Cx prog hT mg mb) (GL : Glob prog w hT mg mb k Fn Gl (gsOf ["range"])) (pf : PF hT mg (rc 1)) : Ok prog w hT mg mb (k + 1) "unit_rows" := by
  refine ok_of_body C pf rfl ["n"] (fun pm code doc vals h => by obtain ⟨a, rfl⟩ := len_one h; rfl) (by decide +kernel) fun ds r hF => ?_
  replace hF := hF.inv id_unit_rows
  obtain ⟨n, hn, rfl, rfl⟩ := hF
  refine ⟨rfl, ?_⟩
  refine ex_cons (ex_return GL (n := 20) (m := 20) ?_ (by decide +kernel))
  walk_at "mine ev"
  refine ei_range ?_
  walk_at "mine ev"
  refine rp_1 (by (first | lia | omega)) (by (first | lia | omega)) ?_
  rw [Int.toNat_natCast]
  refine mapP_enc (enc := V) (fun i => (List.range n).map fun j => if i = j then 1 else 0) (fun i hi Q hQ => ?_) rfl
  show evE _ _ _ _ _ _
  walk_at "mine ev"
  refine ei_range ?_
  walk_at "mine ev"
  refine rp_1 (by (first | lia | omega)) (by (first | lia | omega)) ?_
  rw [Int.toNat_natCast]
  refine mapP_enc (enc := I) (fun j => if i = j then 1 else 0) (fun j hj Q hQ => ?_) hQ
  show evE _ _ _ _ _ _
  walk_at "mine ev"
  by_cases e : i = j
  · rw [show decide ((i : Int) = (j : Int)) = true by simp [e]]
    show evE _ _ _ _ _ _
    walk_at "mine ev"
    rw [if_pos e] at hQ; exact hQ
  · rw [show decide ((i : Int) = (j : Int)) = false by simp; (first | lia | omega)]
    show evE _ _ _ _ _ _
    walk_at "mine ev"
    rw [if_neg e] at hQ; exact hQ
theorem whole_mul_ok (C : Cx prog hT mg mb) (GL : Glob prog w hT mg mb k Fn Gl (gsOf ["range", "len", "sum"])) (pf : PF hT mg (rc 2)) : Ok prog w hT mg mb (k + 1) "whole_mul" := by
  refine ok_of_body C pf rfl ["a", "b"] (fun pm code doc vals h => by obtain ⟨a, b, rfl⟩ := len_two h; rfl) (by decide +kernel) fun ds r hF => ?_
  replace hF := hF.inv id_whole_mul
  refine genP fun gP hgP => ?_
  obtain ⟨a, b, ha, hb, h1, h2, h3, h4, h5, rfl, rfl⟩ := hF
  refine hgP ?_
  clear hgP
  refine ⟨rfl, ?_⟩
  refine ex_cons (ex_set GL (n := 20) (m := 20) ?_ (by decide +kernel) (by decide +kernel) rfl)
  refine cutE (I ((b.headD []).length : Int)) (fun Q' hQ' => ?_) ?_
  · walk_at "mine ev"
    refine ⟨_, .len _ (by simp; (first | lia | omega)), ?_⟩
    walk_at "mine ev"
    rw [List.length_map]
    by_cases h0 : b = []
    · subst h0
      show evE _ _ _ _ _ _
      walk_at "mine ev"
      exact hQ'
    · have hpos := List.length_pos_iff.mpr h0
      rw [show decide ((b.length : Int) > 0) = true by simp; (first | lia | omega)]
      show evE _ _ _ _ _ _
      walk_at "mine ev"
      refine ip_map (b.headD []) (by (first | lia | omega)) (by (first | lia | omega)) ?_ ?_
      · cases b with
        | nil => exact absurd rfl h0
        | cons x l => rfl
      · walk_at "mine ev"
        refine ⟨_, .len _ (by rw [List.length_map]; (first | lia | omega)), ?_⟩
        rw [List.length_map]; exact hQ'
  · show Exec _ _ _ _ _ _ [D1 "a" (M a), D1 "b" (M b), D1 "width" (I _)] _
    refine ex_cons (ex_return GL (n := 20) (m := 20) ?_ (by decide +kernel))
    walk_at "mine ev"
    refine ei_name rfl ⟨by simp; (first | lia | omega), ?_⟩
    refine mapP_enc (enc := V) (fun row => (List.range (b.headD []).length).map fun j => ((List.range b.length).map fun k => row.getD k 0 * (b.getD k []).getD j 0).sum) (fun row hrow Q hQ => ?_) rfl
    show evE _ _ _ _ _ _
    walk_at "mine ev"
    refine ei_range ?_
    walk_at "mine ev"
    refine rp_1 (by (first | lia | omega)) (by (first | lia | omega)) ?_
    rw [Int.toNat_natCast]
    refine mapP_enc (enc := I) (fun j => ((List.range b.length).map fun k => row.getD k 0 * (b.getD k []).getD j 0).sum) (fun j hj Q hQ => ?_) hQ
    show evE _ _ _ _ _ _
    walk_at "mine ev"
    refine ei_range ?_
    walk_at "mine ev"
    refine ⟨_, .len _ (by simp; (first | lia | omega)), ?_⟩
    rw [List.length_map]
    walk_at "mine ev"
    refine rp_1 (by (first | lia | omega)) (by (first | lia | omega)) ?_
    rw [Int.toNat_natCast]
    refine mapP_enc (enc := I) (fun k => row.getD k 0 * (b.getD k []).getD j 0) (fun k hk Q hQ => ?_) ?_
    · have hk' := List.mem_range.mp hk
      have hj' := List.mem_range.mp hj
      have hb' : b.getD k [] ∈ b := by
        rw [List.getD_eq_getElem?_getD, List.getElem?_eq_getElem hk']; exact List.getElem_mem _
      show evE _ _ _ _ _ _
      walk_at "mine ev"
      have := h1 row hrow
      have := h2 _ hb'
      refine ip_map (row.getD k 0) (by (first | lia | omega)) (by (first | lia | omega)) (by rw [Int.toNat_natCast]; exact getD_of_get (by (first | lia | omega))) ?_
      walk_at "mine ev"
      refine ip_map (b.getD k []) (by (first | lia | omega)) (by (first | lia | omega)) (by rw [Int.toNat_natCast]; exact getD_of_get hk') ?_
      walk_at "mine ev"
      refine ip_map ((b.getD k []).getD j 0) (by (first | lia | omega)) (by (first | lia | omega)) (by rw [Int.toNat_natCast]; exact getD_of_get (by (first | lia | omega))) ?_
      exact bp_mul ((getD_bits (ha row hrow) k).sm (by decide)) ((getD_bits (hb _ hb') j).sm (by decide)) hQ
    · walk_at "mine ev"
      exact ⟨_, .sum _, hQ⟩
theorem next_number_ok (C : Cx prog hT mg mb) (GL : Glob prog w hT mg mb k Fn Gl (gsOf ["sum", "len", "enumerate"])) (pf : PF hT mg (rc 26)) : Ok prog w hT mg mb (k + 1) "next_number" := by
  refine ok_of_body C pf rfl ["steps", "row"] (fun pm code doc vals h => by obtain ⟨a, b, rfl⟩ := len_two h; rfl) (by decide +kernel) fun ds r hF => ?_
  replace hF := hF.inv id_next_number
  refine genP fun gP hgP => ?_
  obtain ⟨steps, row, h1, h2, hs, hr, rfl, rfl⟩ := hF
  refine hgP ?_
  clear hgP
  refine ⟨rfl, ?_⟩
  refine ex_cons (ex_return GL (n := 20) (m := 20) ?_ (by decide +kernel))
  walk_at "mine ev"
  refine ei_enum ?_
  walk_at "mine ev"
  refine enumV (by (first | lia | omega)) ?_
  refine mapP_enc (enc := I) (fun i => steps.getD i 0 * row.getD (row.length - 1 - i) 0) (fun i hi Q hQ => ?_) ?_
  · have hi' := List.mem_range.mp hi
    show evE _ _ _ _ _ _
    walk_at "mine ev"
    refine ⟨_, .len _ (by simp; (first | lia | omega)), ?_⟩
    walk_at "mine ev"
    rw [List.length_map]
    have e : ((row.length : Int) - 1 - (i : Int)).toNat = row.length - 1 - i := by (first | exact tnA _ _ | exact tnB _ _ | exact tnI _ | exact Int.toNat_sub _ _ | lia | omega)
    refine ip_map (row.getD (row.length - 1 - i) 0) (by (first | lia | omega)) (by (first | lia | omega)) (by rw [e]; exact getD_of_get (by (first | lia | omega))) ?_
    exact bp_mul ((getD_bits hs i).sm (by decide)) ((getD_bits hr _).sm (by decide)) hQ
  · walk_at "mine ev"
    exact ⟨_, .sum _, rfl⟩
end
theorem next_bits {steps row : List Int} {X : Nat} (hs : ∀ x ∈ steps, Bz 8 x) (hr : ∀ x ∈ row, Bz X x) (hl : steps.length ≤ 4) : Bz (X + 10) (nextS steps row) := by
  unfold nextS
  refine (sum_bits (n := 8 + X) (fun x hx => ?_) (by simpa using hl)).mono (by (first | lia | omega))
  obtain ⟨i, _, rfl⟩ := List.mem_map.mp hx
  exact (getD_bits hs i).mul (getD_bits hr _)
section
variable {prog : Program} {w : World} {hT : Heap} {mg mb : Str → Option Value} {k : Nat}
theorem recurrence_row_ok (C : Cx prog hT mg mb) (GLl : LoadsG mg mb "list" (.type "list")) (GL : Glob prog w hT mg mb k Fn Gl (gsOf ["len", "list", "next_number"])) (pf : PF hT mg (rc 27)) : Ok prog w hT mg mb (k + 1) "recurrence_row" := by
  refine ok_of_body C pf rfl ["steps", "first", "many"] (fun pm code doc vals h => by obtain ⟨a, b, c, rfl⟩ := len_three h; rfl) (by decide +kernel) fun ds r hF => ?_
  replace hF := hF.inv id_recurrence_row
  obtain ⟨steps, first, many, h1, h2, h3, hs, hf, rfl, rfl⟩ := hF
  refine ⟨rfl, ?_⟩
  refine ex_cons (ex_if GL (n := 20) (m := 20) ?_ (by decide +kernel))
  walk_at "mine ev"
  refine ⟨_, .len _ (by simp; (first | lia | omega)), ?_⟩
  walk_at "mine ev"
  refine ⟨_, .len _ (by simp; (first | lia | omega)), ?_⟩
  walk_at "mine ev"
  rw [List.length_map, List.length_map, show decide ((first.length : Int) ≠ (steps.length : Int)) = false by simp [h1]]
  refine ex_nil ?_
  show Exec _ _ _ _ _ _ [D1 "steps" (V steps), D1 "first" (V first), D1 "many" (I many)] _
  refine ex_cons (ex_own GL GLl (n := 20) (m := 20) ?_ (by decide +kernel) (by decide +kernel) rfl)
  refine ⟨rfl, ?_⟩
  walk_at "mine ev"
  refine ⟨_, rfl, by simp; (first | lia | omega), ?_⟩
  show Exec _ _ _ _ _ _ [D1 "steps" (V steps), D1 "first" (V first), D1 "many" (I many), O1 "found" (first.map I)] _
  refine ex_cons (ex_while GL (n := 20) (m := 20) (fun j σ => ∃ row, σ = [D1 "steps" (V steps), D1 "first" (V first), D1 "many" (I many), O1 "found" (row.map I)] ∧ j = many - row.length ∧ growS steps (many - row.length) row = rowS steps first many ∧
    steps.length ≤ row.length ∧ row.length ≤ 20 ∧ ∀ x ∈ row, Bz (8 + 10 * row.length) x) (j := many - first.length) ⟨first, rfl, rfl, rfl, by (first | lia | omega), by (first | lia | omega), fun x hx => (hf x hx).mono (by (first | lia | omega))⟩ (fun j σ hI => ?_) (by decide +kernel))
  obtain ⟨row, rfl, rfl, hg, hl, hl2, hr⟩ := hI
  walk_at "mine ev"
  refine ⟨_, .len _ (by simp; (first | lia | omega)), ?_⟩
  walk_at "mine ev"
  rw [List.length_map]
  by_cases hlt : row.length < many
  · rw [show decide ((row.length : Int) < (many : Int)) = true by simp; (first | lia | omega)]
    have e1 : many - row.length = (many - (row ++ [nextS steps row]).length) + 1 := by simp; (first | lia | omega)
    show Exec _ _ _ _ _ _ _ _
    refine ex_cons (ex_appendF GL (n := 20) (m := 20) (xs := row.map I) (.tail _ (.tail _ (.tail _ (.head _)))) (by simp; (first | lia | omega)) ?_ (by decide +kernel) (by decide +kernel) (by decide +kernel))
    walk_at "mine ev"
    refine ⟨_, .next_number _ _ hl (by (first | lia | omega)) (fun x hx => (hs x hx).mono (by decide)) (fun x hx => (hr x hx).mono (by (first | lia | omega))), ?_⟩
    refine ⟨rfl, ?_⟩
    refine ex_nil ⟨many - (row ++ [nextS steps row]).length, by (first | lia | omega), row ++ [nextS steps row], ?_, rfl, ?_, by simp; (first | lia | omega), by simp; (first | lia | omega), fun x hx => ?_⟩
    · rw [List.map_append]; rfl
    · rw [← hg]; conv => rhs; rw [e1]
      rfl
    · rcases List.mem_append.mp hx with hx | hx
      · exact (hr x hx).mono (by simp; (first | lia | omega))
      · rw [List.mem_singleton.mp hx]
        exact (next_bits hs hr (by (first | lia | omega))).mono (by simp; (first | lia | omega))
  · rw [show decide ((row.length : Int) < (many : Int)) = false by simp; (first | lia | omega)]
    show Exec _ _ _ _ _ _ _ _
    refine ex_cons (ex_return GL (n := 20) (m := 20) ?_ (by decide +kernel))
    walk_at "mine ev"
    refine pp_upto (by (first | lia | omega)) (by (first | lia | omega)) (by (first | lia | omega)) ?_
    rw [show many - row.length = 0 by (first | lia | omega)] at hg
    rw [← hg]; rfl
theorem step_matrix_ok (C : Cx prog hT mg mb) (GLl : LoadsG mg mb "list" (.type "list")) (GL : Glob prog w hT mg mb k Fn Gl (gsOf ["len", "list", "range"])) (pf : PF hT mg (rc 28)) : Ok prog w hT mg mb (k + 1) "step_matrix" := by
  refine ok_of_body C pf rfl ["steps"] (fun pm code doc vals h => by obtain ⟨a, rfl⟩ := len_one h; rfl) (by decide +kernel) fun ds r hF => ?_
  replace hF := hF.inv id_step_matrix
  obtain ⟨steps, h1, rfl, rfl⟩ := hF
  refine ⟨rfl, ?_⟩
  refine ex_cons (ex_set GL (n := 20) (m := 20) ?_ (by decide +kernel) (by decide +kernel) rfl)
  walk_at "mine ev"
  refine ⟨_, .len _ (by simp; (first | lia | omega)), ?_⟩
  rw [List.length_map]
  show Exec _ _ _ _ _ _ [D1 "steps" (V steps), D1 "size" (I steps.length)] _
  refine ex_cons (ex_own GL GLl (n := 20) (m := 20) ?_ (by decide +kernel) (by decide +kernel) rfl)
  show evEs _ _ _ _ _ _
  walk_at "mine ev"
  refine ⟨_, .list _ (by simp; (first | lia | omega)), ?_⟩
  walk_at "mine ev"
  refine ⟨by simp, ?_⟩
  show Exec _ _ _ _ _ _ [D1 "steps" (V steps), D1 "size" (I steps.length), O1 "found" [V steps]] _
  refine ex_cons (ex_for GL (n := 20) (m := 20) ?_ (by decide +kernel) (by decide +kernel) (by decide +kernel))
  walk_at "mine ev"
  refine rp_1 (by (first | lia | omega)) (by (first | lia | omega)) ?_
  have e0 : ((steps.length : Int) - 1).toNat = steps.length - 1 := by (first | exact tnA _ _ | exact tnB _ _ | exact tnI _ | exact Int.toNat_sub _ _ | lia | omega)
  rw [e0]
  let row : Nat → List Int := fun i => (List.range steps.length).map fun spot => if spot = i then 1 else 0
  refine forP_rg (fun i σ => ∃ ex, σ = D1 "steps" (V steps) :: D1 "size" (I steps.length) :: O1 "found" ((steps :: (List.range i).map row).map V) :: ex ∧ (ex = [] ∨ ∃ v, ex = [D1 "at" v])) ⟨[], rfl, .inl rfl⟩ (fun i hi σ hI => ?_) (fun σ hI => ?_)
  · obtain ⟨ex, rfl, hex⟩ := hI
    have fin : Exec prog w hT k (rc 28).scope (forB (nthS 2 (rc 28).body)) [D1 "steps" (V steps), D1 "size" (I steps.length), O1 "found" ((steps :: (List.range i).map row).map V), D1 "at" (I i)]
        (fun o => match o with | .next σ' => ∃ ex, σ' = D1 "steps" (V steps) :: D1 "size" (I steps.length) :: O1 "found" ((steps :: (List.range (i + 1)).map row).map V) :: ex ∧ (ex = [] ∨ ∃ v, ex = [D1 "at" v]) | .ret d => (match Out.ret d with | .next σ' => Exec prog w hT k (rc 28).scope (rc 28).body.tail.tail.tail σ' (fun o => o = .ret (M (stepM steps))) | .ret d => Out.ret d = .ret (M (stepM steps)))) := by
      refine ex_cons (ex_append GL (n := 20) (m := 20) (xs := (steps :: (List.range i).map row).map V) (.tail _ (.tail _ (.head _))) (by simp; (first | lia | omega)) ?_ (by decide +kernel) (by decide +kernel) (by decide +kernel))
      walk_at "mine ev"
      refine ei_range ?_
      walk_at "mine ev"
      refine rp_1 (by (first | lia | omega)) (by (first | lia | omega)) ?_
      rw [Int.toNat_natCast]
      refine mapP_enc (enc := I) (fun spot => if spot = i then 1 else 0) (fun j hj Q hQ => ?_) ?_
      · show evE _ _ _ _ _ _
        walk_at "mine ev"
        by_cases e : j = i
        · rw [show decide ((j : Int) = (i : Int)) = true by simp [e]]
          show evE _ _ _ _ _ _
          walk_at "mine ev"
          rw [if_pos e] at hQ; exact hQ
        · rw [show decide ((j : Int) = (i : Int)) = false by simp; (first | lia | omega)]
          show evE _ _ _ _ _ _
          walk_at "mine ev"
          rw [if_neg e] at hQ; exact hQ
      · refine ex_nil ⟨[D1 "at" (I i)], ?_, .inr ⟨_, rfl⟩⟩
        have : (steps :: (List.range (i + 1)).map row).map V = (steps :: (List.range i).map row).map V ++ [V (row i)] := by
          rw [List.range_succ, List.map_append, List.map_cons, List.map_cons, List.map_append]; rfl
        rw [this]; rfl
    rcases hex with rfl | ⟨v, rfl⟩
    · exact fin
    · exact fin
  · obtain ⟨ex, rfl, hex⟩ := hI
    show Exec _ _ _ _ _ _ _ _
    refine ex_cons (ex_return GL (n := 20) (m := 20) ?_ (by decide +kernel))
    walk_at "mine ev"
    rfl
end
structure Sq (N X : Nat) (m : List (List Int)) : Prop where
  len : m.length = N
  row : ∀ r ∈ m, r.length = N
  bits : Bm X m
theorem Sq.mono {N X Y : Nat} {m : List (List Int)} (h : Sq N X m) (hxy : X ≤ Y) : Sq N Y m := ⟨h.len, h.row, fun r hr x hx => (h.bits r hr x hx).mono hxy⟩
theorem Sq.head {N X : Nat} {m : List (List Int)} (h : Sq N X m) : (m.headD []).length = N := by
  obtain ⟨h1, h2, _⟩ := h
  cases m with
  | nil => simpa using h1
  | cons r l => exact h2 r (.head _)
theorem mmul_sq {N X Y : Nat} {a b : List (List Int)} (ha : Sq N X a) (hb : Sq N Y b) (hN : N ≤ 4) : Sq N (X + Y + 2) (mmul a b) := by
  refine ⟨by simp [mmul, ha.len], fun r hr => ?_, fun r hr x hx => ?_⟩
  · obtain ⟨row, _, rfl⟩ := List.mem_map.mp hr
    rw [List.length_map, List.length_range, hb.head]
  · obtain ⟨row, hrow, rfl⟩ := List.mem_map.mp hr
    obtain ⟨j, _, rfl⟩ := List.mem_map.mp hx
    refine sum_bits (fun y hy => ?_) (by simp; rw [hb.len]; (first | omega | lia))
    obtain ⟨k, _, rfl⟩ := List.mem_map.mp hy
    exact (getD_bits (ha.bits row hrow) k).mul (getD_bits (getD_row hb.bits k) j)
theorem idm_sq (N : Nat) : Sq N 1 (idm N) := by
  refine ⟨by simp [idm], fun r hr => ?_, fun r hr x hx => ?_⟩
  · obtain ⟨row, _, rfl⟩ := List.mem_map.mp hr
    simp
  · obtain ⟨row, _, rfl⟩ := List.mem_map.mp hr
    obtain ⟨j, _, rfl⟩ := List.mem_map.mp hx
    split <;> (unfold Bz; decide)
theorem raiseLoop_fuel : ∀ (f1 f2 n : Nat) (f s : List (List Int)), n < f1 → n < f2 → raiseLoop f1 n f s = raiseLoop f2 n f s
  | 0, _, _, _, _, h, _ => by (first | lia | omega)
  | _, 0, _, _, _, _, h => by (first | lia | omega)
  | f1 + 1, f2 + 1, n, f, s, h1, h2 => by
    unfold raiseLoop
    split
    · rfl
    · exact raiseLoop_fuel f1 f2 (n / 2) _ _ (by (first | lia | omega)) (by (first | lia | omega))
theorem raiseLoop_sq {N : Nat} (hN : N ≤ 4) : ∀ (fuel n X : Nat) (f s : List (List Int)), n < fuel → Sq N X f → Sq N X s → Sq N (X * 4 ^ n + 2 * 4 ^ n) (raiseLoop fuel n f s)
  | 0, _, _, _, _, h, _, _ => by (first | lia | omega)
  | fuel + 1, n, X, f, s, h, hf, hs => by
    unfold raiseLoop
    split
    · rename_i e
      subst e
      exact hf.mono (by simp)
    · rename_i hn
      have h1 : Sq N (X + X + 2) (if n % 2 = 1 then mmul f s else f) := by
        split
        · exact mmul_sq hf hs hN
        · exact hf.mono (by (first | lia | omega))
      have h2 : Sq N (X + X + 2) (if n / 2 > 0 then mmul s s else s) := by
        split
        · exact mmul_sq hs hs hN
        · exact hs.mono (by (first | lia | omega))
      refine (raiseLoop_sq hN fuel (n / 2) (X + X + 2) _ _ (by (first | lia | omega)) h1 h2).mono ?_
      have e : 4 ^ (n / 2 + 1) ≤ 4 ^ n := Nat.pow_le_pow_right (by decide) (by (first | lia | omega))
      rw [Nat.pow_succ] at e
      rw [← Nat.add_mul, ← Nat.add_mul]
      calc (X + X + 2 + 2) * 4 ^ (n / 2) ≤ ((X + 2) * 4) * 4 ^ (n / 2) := Nat.mul_le_mul_right _ (by (first | lia | omega))
        _ = (X + 2) * (4 ^ (n / 2) * 4) := by rw [Nat.mul_assoc, Nat.mul_comm 4]
        _ ≤ (X + 2) * 4 ^ n := Nat.mul_le_mul_left _ e
section
variable {prog : Program} {w : World} {hT : Heap} {mg mb : Str → Option Value} {k : Nat}
theorem matrix_raised_ok (C : Cx prog hT mg mb) (GL : Glob prog w hT mg mb k Fn Gl (gsOf ["len", "unit_rows", "whole_mul"])) (pf : PF hT mg (rc 29)) : Ok prog w hT mg mb (k + 1) "matrix_raised" := by
  refine ok_of_body C pf rfl ["a", "n"] (fun pm code doc vals h => by obtain ⟨a, b, rfl⟩ := len_two h; rfl) (by decide +kernel) fun ds r hF => ?_
  replace hF := hF.inv id_matrix_raised
  refine genP fun gP hgP => ?_
  obtain ⟨a, n, h1, h2, h3, ha, rfl, rfl⟩ := hF
  refine hgP ?_
  clear hgP
  refine ⟨rfl, ?_⟩
  refine ex_cons (ex_tup2 GL (n := 20) (m := 20) ?_ (by decide +kernel) (by decide +kernel) (by decide +kernel) (by decide +kernel))
  walk_at "mine ev"
  refine ⟨_, .len _ (by simp; (first | lia | omega)), ?_⟩
  rw [List.length_map]
  walk_at "mine ev"
  refine ⟨_, .unit_rows _ (by (first | lia | omega)), ?_⟩
  walk_at "mine ev"
  refine ⟨by simp, ?_⟩
  show Exec _ _ _ _ _ _ [D1 "a" (M a), D1 "n" (I n), D1 "square" (M a), D1 "found" (M (idm a.length))] _
  refine ex_cons (ex_while GL (n := 20) (m := 20) (fun j σ => ∃ f sq t X, σ = [D1 "a" (M a), D1 "n" (I j), D1 "square" (M sq), D1 "found" (M f)] ∧ raiseLoop (j + 1) j f sq = raiseS a n ∧ Sq a.length X f ∧ Sq a.length X sq ∧ j * 2 ^ t ≤ 20 ∧ X ≤ 10 * 4 ^ t)
    (j := n) ⟨idm a.length, a, 0, 8, rfl, rfl, (idm_sq _).mono (by decide), ⟨rfl, h1, ha⟩, by (first | lia | omega), by (first | lia | omega)⟩ (fun j σ hI => ?_) (by decide +kernel))
  refine genP fun gP hgP => ?_
  obtain ⟨f, sq, t, X, rfl, hg, hf, hs, ht, hX⟩ := hI
  refine hgP ?_
  clear hgP
  walk_at "mine ev"
  by_cases h0 : j = 0
  · subst h0
    show Exec _ _ _ _ _ _ _ _
    refine ex_cons (ex_return GL (n := 20) (m := 20) ?_ (by decide +kernel))
    walk_at "mine ev"
    rw [← hg]; rfl
  · have hpos : 0 < j := by (first | lia | omega)
    have ht4 : t ≤ 4 := by
      have h2 : 2 ^ t ≤ 20 := Nat.le_trans (Nat.le_mul_of_pos_left _ hpos) ht
      by_cases c : t ≤ 4
      · exact c
      · have : 2 ^ 5 ≤ 2 ^ t := Nat.pow_le_pow_right (by decide) (by (first | lia | omega))
        (first | lia | omega)
    have hX4 : X ≤ 2560 := by
      have : 4 ^ t ≤ 4 ^ 4 := Nat.pow_le_pow_right (by decide) ht4
      (first | lia | omega)
    have hmm : ∀ x y : List (List Int), Sq a.length X x → Sq a.length X y → Fn "whole_mul" [M x, M y] (M (mmul x y)) := fun x y hx hy =>
      .whole_mul x y (fun r hr z hz => (hx.bits r hr z hz).mono (by (first | lia | omega))) (fun r hr z hz => (hy.bits r hr z hz).mono (by (first | lia | omega))) (fun r hr => by rw [hx.row r hr, hy.len]; exact Nat.le_refl _)
        (fun r hr => by rw [hy.row r hr, hy.head]; exact Nat.le_refl _) (by rw [hy.len]; (first | lia | omega)) (by rw [hy.head]; (first | lia | omega)) (by rw [hx.len]; (first | lia | omega))
    have hNext : ∀ (f' sq' : List (List Int)), f' = (if j % 2 = 1 then mmul f sq else f) → sq' = (if j / 2 > 0 then mmul sq sq else sq) →
        ∃ f sq t X, ([D1 "a" (M a), D1 "n" (I ((j / 2 : Nat) : Int)), D1 "square" (M sq'), D1 "found" (M f')] : St) = [D1 "a" (M a), D1 "n" (I ((j / 2 : Nat) : Int)), D1 "square" (M sq), D1 "found" (M f)] ∧ raiseLoop (j / 2 + 1) (j / 2) f sq = raiseS a n ∧ Sq a.length X f ∧ Sq a.length X sq ∧ (j / 2) * 2 ^ t ≤ 20 ∧ X ≤ 10 * 4 ^ t := fun f' sq' e1 e2 => by
      refine ⟨f', sq', t + 1, X + X + 2, rfl, ?_, ?_, ?_, ?_, ?_⟩
      · rw [← hg, raiseLoop_fuel (j / 2 + 1) j _ _ _ (by (first | lia | omega)) (by (first | lia | omega)), e1, e2]
        conv => rhs; unfold raiseLoop
        rw [if_neg h0]
      · rw [e1]; split
        · exact mmul_sq hf hs (by (first | lia | omega))
        · exact hf.mono (by (first | lia | omega))
      · rw [e2]; split
        · exact mmul_sq hs hs (by (first | lia | omega))
        · exact hs.mono (by (first | lia | omega))
      · rw [Nat.pow_succ]
        have : j / 2 * (2 ^ t * 2) = (j / 2 * 2) * 2 ^ t := by rw [Nat.mul_assoc, Nat.mul_comm 2]
        rw [this]
        exact Nat.le_trans (Nat.mul_le_mul_right _ (by (first | lia | omega))) ht
      · rw [Nat.pow_succ]
        have : 1 ≤ 4 ^ t := Nat.one_le_pow _ _ (by decide)
        (first | lia | omega)
    have half : ((j : Int).fdiv 2) = ((j / 2 : Nat) : Int) := by rw [Int.fdiv_eq_ediv_of_nonneg _ (by decide)]; rfl
    have hmod : ((j : Int).fmod 2) = ((j % 2 : Nat) : Int) := by rw [Int.fmod_eq_emod_of_nonneg _ (by decide)]; rfl
    rw [show decide ((j : Int) > 0) = true by simp; (first | lia | omega)]
    have rest : ∀ f', f' = (if j % 2 = 1 then mmul f sq else f) → Exec prog w hT k (rc 29).scope ((whB (nthS 1 (rc 29).body)).drop 1) [D1 "a" (M a), D1 "n" (I j), D1 "square" (M sq), D1 "found" (M f')]
        (fun o => match o with | .next σ' => ∃ j', j' < j ∧ ∃ f sq t X, σ' = [D1 "a" (M a), D1 "n" (I j'), D1 "square" (M sq), D1 "found" (M f)] ∧ raiseLoop (j' + 1) j' f sq = raiseS a n ∧ Sq a.length X f ∧ Sq a.length X sq ∧ j' * 2 ^ t ≤ 20 ∧ X ≤ 10 * 4 ^ t | .ret d => (match Out.ret d with | .next σ' => Exec prog w hT k (rc 29).scope (rc 29).body.tail.tail σ' (fun o => o = .ret (M (raiseS a n))) | .ret d => Out.ret d = .ret (M (raiseS a n)))) := fun f' e1 => by
      refine ex_cons (ex_set GL (n := 20) (m := 20) ?_ (by decide +kernel) (by decide +kernel) rfl)
      walk_at "mine ev"
      refine bp_div (by decide) ?_
      rw [half]
      show Exec _ _ _ _ _ _ [D1 "a" (M a), D1 "n" (I ((j / 2 : Nat) : Int)), D1 "square" (M sq), D1 "found" (M f')] _
      refine ex_cons (ex_set GL (n := 20) (m := 20) ?_ (by decide +kernel) (by decide +kernel) rfl)
      walk_at "mine ev"
      by_cases hh : j / 2 > 0
      · rw [show decide (((j / 2 : Nat) : Int) > 0) = true by simp only [decide_eq_true_eq]; (first | lia | omega)]
        show evE _ _ _ _ _ _
        walk_at "mine ev"
        refine ⟨_, hmm _ _ hs hs, ?_⟩
        exact ex_nil ⟨j / 2, Nat.div_lt_self (Nat.pos_of_ne_zero fun e => by rw [e] at hh; exact absurd hh (by decide)) (by decide), hNext _ _ e1 (by rw [if_pos hh])⟩
      · rw [show decide (((j / 2 : Nat) : Int) > 0) = false by simp only [decide_eq_false_iff_not]; (first | lia | omega)]
        show evE _ _ _ _ _ _
        walk_at "mine ev"
        exact ex_nil ⟨j / 2, by (first | lia | omega), hNext _ _ e1 (by rw [if_neg hh])⟩
    show Exec _ _ _ _ _ _ _ _
    refine ex_cons (ex_if GL (n := 20) (m := 20) ?_ (by decide +kernel))
    walk_at "mine ev"
    refine bp_mod (by decide) ?_
    walk_at "mine ev"
    rw [hmod]
    by_cases hm : j % 2 = 1
    · rw [show decide (((j % 2 : Nat) : Int) = 1) = true by simp only [decide_eq_true_eq]; (first | lia | omega)]
      show Exec _ _ _ _ _ _ _ _
      refine ex_cons (ex_set GL (n := 20) (m := 20) ?_ (by decide +kernel) (by decide +kernel) rfl)
      walk_at "mine ev"
      refine ⟨_, hmm _ _ hf hs, ?_⟩
      exact ex_nil (rest _ (by rw [if_pos hm]))
    · rw [show decide (((j % 2 : Nat) : Int) = 1) = false by simp only [decide_eq_false_iff_not]; (first | lia | omega)]
      exact ex_nil (rest _ (by rw [if_neg hm]))
end
theorem stepM_sq {steps : List Int} (hs : ∀ x ∈ steps, Bz 8 x) (hn : 0 < steps.length) : Sq steps.length 8 (stepM steps) := by
  refine ⟨by simp [stepM]; (first | lia | omega), fun r hr => ?_, fun r hr x hx => ?_⟩
  · rcases List.mem_cons.mp hr with rfl | hr
    · rfl
    · obtain ⟨i, _, rfl⟩ := List.mem_map.mp hr
      simp
  · rcases List.mem_cons.mp hr with rfl | hr
    · exact hs x hx
    · obtain ⟨i, _, rfl⟩ := List.mem_map.mp hr
      obtain ⟨j, _, rfl⟩ := List.mem_map.mp hx
      split <;> (unfold Bz; decide)
theorem zip_sum : ∀ xs ys : List Int, ((xs.zip ys).map fun p => p.1 * p.2).sum = (xs.zipWith (· * ·) ys).sum
  | [], _ => by simp
  | _ :: _, [] => by simp
  | x :: xs, y :: ys => by simp [zip_sum xs ys]
section
variable {prog : Program} {w : World} {hT : Heap} {mg mb : Str → Option Value} {k : Nat}
theorem number_at_ok (C : Cx prog hT mg mb) (GL : Glob prog w hT mg mb k Fn Gl (gsOf ["len", "matrix_raised", "step_matrix", "sum", "zip"])) (pf : PF hT mg (rc 30)) : Ok prog w hT mg mb (k + 1) "number_at" := by
  refine ok_of_body C pf rfl ["steps", "first", "n"] (fun pm code doc vals h => by obtain ⟨a, b, c, rfl⟩ := len_three h; rfl) (by decide +kernel) fun ds r hF => ?_
  replace hF := hF.inv id_number_at
  refine genP fun gP hgP => ?_
  obtain ⟨steps, first, n, h1, h2, h3, hs, hf, rfl, rfl⟩ := hF
  refine hgP ?_
  clear hgP
  refine ⟨rfl, ?_⟩
  refine ex_cons (ex_if GL (n := 20) (m := 20) ?_ (by decide +kernel))
  walk_at "mine ev"
  refine ⟨_, .len _ (by simp; (first | lia | omega)), ?_⟩
  walk_at "mine ev"
  rw [List.length_map]
  by_cases hlt : n < steps.length
  · rw [show decide ((n : Int) < (steps.length : Int)) = true by simp; (first | lia | omega)]
    show Exec _ _ _ _ _ _ _ _
    refine ex_cons (ex_return GL (n := 20) (m := 20) ?_ (by decide +kernel))
    walk_at "mine ev"
    refine ip_map (first.getD n 0) (by (first | lia | omega)) (by (first | lia | omega)) (by rw [Int.toNat_natCast]; exact getD_of_get (by (first | lia | omega))) ?_
    rw [numberS, if_pos hlt]
  · rw [show decide ((n : Int) < (steps.length : Int)) = false by simp; (first | lia | omega)]
    refine ex_nil ?_
    show Exec _ _ _ _ _ _ [D1 "steps" (V steps), D1 "first" (V first), D1 "n" (I n)] _
    refine ex_cons (ex_if GL (n := 20) (m := 20) ?_ (by decide +kernel))
    walk_at "mine ev"
    refine ⟨_, .len _ (by simp; (first | lia | omega)), ?_⟩
    walk_at "mine ev"
    rw [List.length_map]
    by_cases h0 : steps.length = 0
    · rw [show decide ((steps.length : Int) = 0) = true by simp only [decide_eq_true_eq]; (first | lia | omega)]
      show Exec _ _ _ _ _ _ _ _
      refine ex_cons (ex_return GL (n := 20) (m := 20) ?_ (by decide +kernel))
      walk_at "mine ev"
      rw [numberS, if_neg hlt, if_pos h0]
    · rw [show decide ((steps.length : Int) = 0) = false by simp only [decide_eq_false_iff_not]; (first | lia | omega)]
      refine ex_nil ?_
      show Exec _ _ _ _ _ _ [D1 "steps" (V steps), D1 "first" (V first), D1 "n" (I n)] _
      have hS := stepM_sq hs (by (first | lia | omega))
      have hR : Sq steps.length (8 * 4 ^ (n - steps.length + 1) + 2 * 4 ^ (n - steps.length + 1)) (raiseS (stepM steps) (n - steps.length + 1)) := by
        unfold raiseS
        exact raiseLoop_sq (by (first | lia | omega)) _ _ 8 _ _ (by (first | lia | omega)) (by rw [hS.len]; exact (idm_sq _).mono (by decide)) hS
      refine ex_cons (ex_set GL (n := 20) (m := 20) ?_ (by decide +kernel) (by decide +kernel) rfl)
      walk_at "mine ev"
      refine ⟨_, .step_matrix _ (by (first | lia | omega)), ?_⟩
      walk_at "mine ev"
      refine ⟨_, .len _ (by simp; (first | lia | omega)), ?_⟩
      walk_at "mine ev"
      rw [List.length_map]
      have e1 : (n : Int) - (steps.length : Int) + 1 = ((n - steps.length + 1 : Nat) : Int) := by (first | lia | omega)
      rw [e1]
      refine ⟨_, .matrix_raised _ _ (fun r hr => by rw [hS.row r hr, hS.len]) (by rw [hS.len]; (first | lia | omega)) (by (first | lia | omega)) hS.bits, ?_⟩
      have hval : numberS steps first n = (((raiseS (stepM steps) (n - steps.length + 1)).headD []).zipWith (· * ·) first.reverse).sum := by rw [numberS, if_neg hlt, if_neg h0]
      generalize raiseS (stepM steps) (n - steps.length + 1) = rm at *
      show Exec _ _ _ _ _ _ [D1 "steps" (V steps), D1 "first" (V first), D1 "n" (I n), D1 "raised" (M rm)] _
      refine ex_cons (ex_return GL (n := 20) (m := 20) ?_ (by decide +kernel))
      walk_at "mine ev"
      refine ei_zip ?_
      walk_at "mine ev"
      have hhd := hR.head
      have hin : rm.headD [] ∈ rm := by
        cases rm with
        | nil => have := hR.len; simp at this; (first | lia | omega)
        | cons r l => exact .head _
      refine ip_map (rm.headD []) (by decide) (by decide) ?_ ?_
      · cases rm with
        | nil => have := hR.len; simp at this; (first | lia | omega)
        | cons r l => rfl
      walk_at "mine ev"
      refine pp_rev (by (first | lia | omega)) ?_
      walk_at "mine ev"
      refine zipV (by (first | lia | omega)) (by simp; (first | lia | omega)) ?_
      refine mapP_enc (enc := I) (fun p => p.1 * p.2) (fun p hp Q hQ => ?_) ?_
      · have hp1 := List.of_mem_zip hp
        show evE _ _ _ _ _ _
        walk_at "mine ev"
        have hb1 : Bz 1000000 p.1 := (hR.bits _ hin _ hp1.1).mono (by
          have : 4 ^ (n - steps.length + 1) ≤ 4 ^ 8 := Nat.pow_le_pow_right (by decide) (by (first | lia | omega))
          (first | lia | omega))
        exact bp_mul (hb1.sm (by decide)) ((hf _ (List.mem_reverse.mp hp1.2)).sm (by decide)) hQ
      · walk_at "mine ev"
        refine ⟨_, .sum _, ?_⟩
        rw [hval, ← zip_sum]
theorem law_numbers_ok (C : Cx prog hT mg mb) (GLl : LoadsG mg mb "list" (.type "list")) (GL : Glob prog w hT mg mb k Fn Gl (gsOf ["len", "list", "range"])) (pf : PF hT mg (rc 35)) : Ok prog w hT mg mb (k + 1) "_law_numbers" := by
  refine ok_of_body C pf rfl ["steps", "first", "many"] (fun pm code doc vals h => by obtain ⟨a, b, c, rfl⟩ := len_three h; rfl) (by decide +kernel) fun ds r hF => ?_
  replace hF := hF.inv id_law_numbers
  obtain ⟨steps, first, many, h1, h2, h3, hs, hf, rfl, rfl⟩ := hF
  refine ⟨rfl, ?_⟩
  refine ex_cons (ex_own GL GLl (n := 20) (m := 20) ?_ (by decide +kernel) (by decide +kernel) rfl)
  refine ⟨rfl, ?_⟩
  walk_at "mine ev"
  refine ⟨_, rfl, by simp; (first | lia | omega), ?_⟩
  show Exec _ _ _ _ _ _ [D1 "steps" (V steps), D1 "first" (V first), D1 "many" (I many), O1 "found" (first.map I)] _
  refine ex_cons (ex_while GL (n := 20) (m := 20) (fun j σ => ∃ row ex, σ = D1 "steps" (V steps) :: D1 "first" (V first) :: D1 "many" (I many) :: O1 "found" (row.map I) :: ex ∧ (ex = [] ∨ (∃ x, ex = [D1 "total" x]) ∨ ∃ x y, ex = [D1 "total" x, D1 "at" y]) ∧ j = many - row.length ∧ growS steps (many - row.length) row = rowS steps first many ∧
    steps.length ≤ row.length ∧ row.length ≤ 20 ∧ ∀ x ∈ row, Bz (8 + 10 * row.length) x) (j := many - first.length) ⟨first, [], rfl, .inl rfl, rfl, rfl, by (first | lia | omega), by (first | lia | omega), fun x hx => (hf x hx).mono (by (first | lia | omega))⟩ (fun j σ hI => ?_) (by decide +kernel))
  obtain ⟨row, ex, rfl, hex, rfl, hg, hl, hl2, hr⟩ := hI
  walk_at "mine ev"
  refine ⟨_, .len _ (by simp; (first | lia | omega)), ?_⟩
  walk_at "mine ev"
  rw [List.length_map]
  by_cases hlt : row.length < many
  · rw [show decide ((row.length : Int) < (many : Int)) = true by simp; (first | lia | omega)]
    have e1 : many - row.length = (many - (row ++ [nextS steps row]).length) + 1 := by simp; (first | lia | omega)
    let f : Nat → Int := fun i => steps.getD i 0 * row.getD (row.length - 1 - i) 0
    have hsum : ((List.range steps.length).map f).sum = nextS steps row := rfl
    have e2 : (row.map I) ++ [I (nextS steps row)] = (row ++ [nextS steps row]).map I := by rw [List.map_append]; rfl
    have e0 : (((steps.length : Nat) : Int)).toNat = steps.length := Int.toNat_natCast _
    have step : ∀ i, i < steps.length → Exec prog w hT k (rc 35).scope (forB (nthS 1 (whB (nthS 1 (rc 35).body)))) (D1 "steps" (V steps) :: D1 "first" (V first) :: D1 "many" (I many) :: O1 "found" (row.map I) :: [D1 "total" (I ((List.range i).map f).sum), D1 "at" (I i)]) (fun o => o = .next (D1 "steps" (V steps) :: D1 "first" (V first) :: D1 "many" (I many) :: O1 "found" (row.map I) :: [D1 "total" (I ((List.range (i + 1)).map f).sum), D1 "at" (I i)])) := fun i hi => by
      refine ex_cons (ex_setF GL (n := 20) (m := 20) ?_ (by decide +kernel) (by decide +kernel) rfl)
      walk_at "mine ev"
      refine ip_map (steps.getD i 0) (by (first | lia | omega)) (by (first | lia | omega)) (by rw [Int.toNat_natCast]; exact getD_of_get hi) ?_
      walk_at "mine ev"
      refine ⟨_, .len _ (by simp; (first | lia | omega)), ?_⟩
      walk_at "mine ev"
      rw [List.length_map]
      have e : ((row.length : Int) - 1 - (i : Int)).toNat = row.length - 1 - i := by (first | exact tnA _ _ | exact tnB _ _ | exact tnI _ | exact Int.toNat_sub _ _ | lia | omega)
      refine ip_map (row.getD (row.length - 1 - i) 0) (by (first | lia | omega)) (by (first | lia | omega)) (by rw [e]; exact getD_of_get (by (first | lia | omega))) ?_
      refine bp_mul ((getD_bits hs i).sm (by decide)) ((getD_bits hr _).sm (by (first | lia | omega))) ?_
      walk_at "mine ev"
      refine ⟨rfl, ex_nil ?_⟩
      have : ((List.range (i + 1)).map f).sum = ((List.range i).map f).sum + f i := by
        rw [List.range_succ, List.map_append, List.sum_append]; simp
      rw [this]; rfl
    have BODY : ∀ ex, (ex = [] ∨ (∃ x, ex = [D1 "total" x]) ∨ ∃ x y, ex = [D1 "total" x, D1 "at" y]) → Exec prog w hT k (rc 35).scope (whB (nthS 1 (rc 35).body)) (D1 "steps" (V steps) :: D1 "first" (V first) :: D1 "many" (I many) :: O1 "found" (row.map I) :: ex)
        (fun o => ∃ ex', ((∃ x, ex' = [D1 "total" x]) ∨ ∃ x y, ex' = [D1 "total" x, D1 "at" y]) ∧ o = .next (D1 "steps" (V steps) :: D1 "first" (V first) :: D1 "many" (I many) :: O1 "found" ((row ++ [nextS steps row]).map I) :: ex')) := fun ex hex => by
      obtain ⟨tl, h1', h3', htl⟩ : ∃ tl : St, (∀ a, St.set ex "total" a = (("total" : Str), a) :: tl) ∧ (∀ a, St.set tl "at" a = [(("at" : Str), a)]) ∧ (tl = [] ∨ ∃ z, tl = [D1 "at" z]) := by
        rcases hex with rfl | ⟨x, rfl⟩ | ⟨x, y, rfl⟩
        · exact ⟨[], fun _ => rfl, fun _ => rfl, .inl rfl⟩
        · exact ⟨[], fun _ => rfl, fun _ => rfl, .inl rfl⟩
        · exact ⟨[D1 "at" y], fun _ => rfl, fun _ => rfl, .inr ⟨_, rfl⟩⟩
      refine ex_cons (ex_set GL (n := 20) (m := 20) ?_ (by decide +kernel) (by decide +kernel) rfl)
      walk_at "mine ev"
      show Exec _ _ _ _ _ _ (_ :: _ :: _ :: _ :: St.set ex "total" _) _
      rw [h1']
      refine ex_cons (ex_for GL (n := 20) (m := 20) ?_ (by decide +kernel) (by decide +kernel) (by decide +kernel))
      walk_at "mine ev"
      refine ⟨_, .len _ (by simp; (first | lia | omega)), ?_⟩
      rw [List.length_map]
      walk_at "mine ev"
      refine rp_1 (by (first | lia | omega)) (by (first | lia | omega)) ?_
      rw [e0]
      refine forP_rg (fun i σ => ∃ tl' : St, σ = D1 "steps" (V steps) :: D1 "first" (V first) :: D1 "many" (I many) :: O1 "found" (row.map I) :: D1 "total" (I ((List.range i).map f).sum) :: tl' ∧ (∀ a, St.set tl' "at" a = [(("at" : Str), a)]) ∧ (tl' = [] ∨ ∃ z, tl' = [D1 "at" z])) ⟨tl, rfl, h3', htl⟩ (fun i hi σ hI => ?_) (fun σ hI => ?_)
      · obtain ⟨tl', rfl, h4, -⟩ := hI
        show Exec _ _ _ _ _ _ (_ :: _ :: _ :: _ :: D1 "total" _ :: St.set tl' "at" _) _
        rw [h4]
        refine Exec.mono (step i hi) fun o ho => ?_
        subst ho
        exact ⟨_, rfl, fun _ => rfl, .inr ⟨_, rfl⟩⟩
      · obtain ⟨tl', rfl, -, h5⟩ := hI
        rw [hsum]
        show Exec _ _ _ _ _ _ _ _
        refine ex_cons (ex_append GL (n := 20) (m := 20) (xs := row.map I) (.tail _ (.tail _ (.tail _ (.head _)))) (by simp; (first | lia | omega)) ?_ (by decide +kernel) (by decide +kernel) (by decide +kernel))
        walk_at "mine ev"
        rw [e2]
        refine ex_nil ⟨_, ?_, rfl⟩
        rcases h5 with rfl | ⟨z, rfl⟩
        · exact .inl ⟨_, rfl⟩
        · exact .inr ⟨_, _, rfl⟩
    show Exec _ _ _ _ _ _ _ _
    refine Exec.mono (BODY ex hex) fun o ho => ?_
    obtain ⟨ex', hex', rfl⟩ := ho
    refine ⟨many - (row ++ [nextS steps row]).length, by (first | lia | omega), row ++ [nextS steps row], ex', rfl, .inr hex', rfl, ?_, by simp; (first | lia | omega), by simp; (first | lia | omega), fun x hx => ?_⟩
    · rw [← hg]; conv => rhs; rw [e1]
      rfl
    · rcases List.mem_append.mp hx with hx | hx
      · exact (hr x hx).mono (by simp; (first | lia | omega))
      · rw [List.mem_singleton.mp hx]
        exact (next_bits hs hr (by (first | lia | omega))).mono (by simp; (first | lia | omega))
  · rw [show decide ((row.length : Int) < (many : Int)) = false by simp; (first | lia | omega)]
    rw [show many - row.length = 0 by (first | lia | omega)] at hg
    have hrow : row = rowS steps first many := hg
    show Exec _ _ _ _ _ _ _ _
    refine ex_cons (ex_return GL (n := 20) (m := 20) ?_ (by decide +kernel))
    walk_at "mine ev"
    rw [← hrow]
end
noncomputable def sh (f : Nat → Rat) : Nat → Rat
  | 0 => 0
  | n + 1 => f n
noncomputable def act : List Rat → (Nat → Rat) → Nat → Rat
  | [], _, _ => 0
  | a :: p, f, n => a * f n + sh (act p f) n
noncomputable def shk : Nat → (Nat → Rat) → Nat → Rat
  | 0, f => f
  | k + 1, f => sh (shk k f)
noncomputable def one : Nat → Rat
  | 0 => 1
  | _ + 1 => 0
theorem sh_add (f g : Nat → Rat) (n : Nat) : sh (fun m => f m + g m) n = sh f n + sh g n := by
  cases n <;> simp [sh, Rat.add_zero]
theorem sh_smul (c : Rat) (f : Nat → Rat) (n : Nat) : sh (fun m => c * f m) n = c * sh f n := by
  cases n <;> simp [sh]
theorem sh_zero (n : Nat) : sh (fun _ => 0) n = 0 := by cases n <;> rfl
theorem sh_congr {f g : Nat → Rat} (h : ∀ n, f n = g n) (n : Nat) : sh f n = sh g n := by
  rw [show f = g from funext h]
theorem act_congr {f g : Nat → Rat} (h : ∀ n, f n = g n) (p : List Rat) (n : Nat) : act p f n = act p g n := by
  rw [show f = g from funext h]
theorem act_cons (a : Rat) (p : List Rat) (f : Nat → Rat) (n : Nat) : act (a :: p) f n = a * f n + sh (act p f) n := rfl
theorem act_nil (f : Nat → Rat) (n : Nat) : act [] f n = 0 := rfl
theorem act_add : ∀ (p : List Rat) (f g : Nat → Rat) (n : Nat), act p (fun m => f m + g m) n = act p f n + act p g n
  | [], _, _, _ => by simp [act, Rat.add_zero]
  | a :: p, f, g, n => by
    rw [act_cons, act_cons, act_cons, sh_congr (act_add p f g), sh_add]
    grind
theorem act_smul : ∀ (p : List Rat) (c : Rat) (f : Nat → Rat) (n : Nat), act p (fun m => c * f m) n = c * act p f n
  | [], _, _, _ => by simp [act]
  | a :: p, c, f, n => by
    rw [act_cons, act_cons, sh_congr (act_smul p c f), sh_smul]
    grind
theorem act_sh : ∀ (p : List Rat) (f : Nat → Rat) (n : Nat), act p (sh f) n = sh (act p f) n
  | [], _, n => by rw [act_nil]; cases n <;> rfl
  | a :: p, f, n => by
    rw [act_cons, sh_congr (act_sh p f)]
    cases n with
    | zero => simp [sh, Rat.add_zero]
    | succ n => rfl
theorem act_zero (p : List Rat) (n : Nat) : act p (fun _ => 0) n = 0 := by
  have := act_smul p 0 (fun _ => 0) n
  simp only [Rat.zero_mul] at this
  exact this
theorem act_comm : ∀ (p q : List Rat) (f : Nat → Rat) (n : Nat), act p (act q f) n = act q (act p f) n
  | [], q, f, n => by
    rw [act_nil, act_congr (g := fun _ => 0) (fun m => act_nil f m), act_zero]
  | a :: p, q, f, n => by
    rw [act_cons, sh_congr (act_comm p q f)]
    have e : ∀ m, act (a :: p) f m = (fun m => (fun m => a * f m) m + sh (act p f) m) m := fun m => rfl
    rw [act_congr e q, act_add, act_smul, act_sh]
theorem act_ext : ∀ (p q : List Rat), (∀ i, p.getD i 0 = q.getD i 0) → ∀ (f : Nat → Rat) (n : Nat), act p f n = act q f n
  | [], [], _, _, _ => rfl
  | [], b :: q, h, f, n => by
    have h0 : (0 : Rat) = b := by simpa using h 0
    have := act_ext [] q (fun i => by simpa using h (i + 1)) f
    rw [act_cons, sh_congr (fun m => (this m).symm), ← h0, act_nil, Rat.zero_mul, Rat.zero_add]
    exact (sh_zero n).symm
  | a :: p, [], h, f, n => by
    have h0 : a = 0 := by simpa using h 0
    have := act_ext p [] (fun i => by simpa using h (i + 1)) f
    rw [act_cons, sh_congr this, h0, act_nil, Rat.zero_mul, Rat.zero_add]
    exact sh_zero n
  | a :: p, b :: q, h, f, n => by
    have h0 : a = b := by simpa using h 0
    rw [act_cons, act_cons, h0, sh_congr (act_ext p q (fun i => by simpa using h (i + 1)) f)]
theorem trim_getD : ∀ (l : List Rat) (i : Nat), (trim l).getD i 0 = l.getD i 0
  | [], i => rfl
  | a :: r, i => by
    unfold trim
    split
    · rename_i h
      cases i with
      | zero => simp [h.2]
      | succ i => rw [List.getD_cons_succ, ← trim_getD r i, h.1]; simp
    · cases i with
      | zero => rfl
      | succ i => rw [List.getD_cons_succ, List.getD_cons_succ, trim_getD r i]
theorem act_trim (l : List Rat) (f : Nat → Rat) (n : Nat) : act (trim l) f n = act l f n := act_ext _ _ (trim_getD l) f n
noncomputable def za : List Rat → List Rat → List Rat
  | [], q => q
  | p, [] => p
  | a :: p, b :: q => (a + b) :: za p q
theorem za_getD : ∀ (p q : List Rat) (i : Nat), (za p q).getD i 0 = p.getD i 0 + q.getD i 0
  | [], q, i => by simp [za, Rat.zero_add]
  | a :: p, [], i => by simp [za, Rat.add_zero]
  | a :: p, b :: q, 0 => by simp [za]
  | a :: p, b :: q, i + 1 => by simpa [za] using za_getD p q i
theorem act_za : ∀ (p q : List Rat) (f : Nat → Rat) (n : Nat), act (za p q) f n = act p f n + act q f n
  | [], q, f, n => by rw [act_nil, Rat.zero_add]; rfl
  | a :: p, [], f, n => by rw [act_nil, Rat.add_zero]; rfl
  | a :: p, b :: q, f, n => by
    show act ((a + b) :: za p q) f n = _
    rw [act_cons, act_cons, act_cons, sh_congr (act_za p q f), sh_add]
    grind
theorem act_padd (p q : List Rat) (f : Nat → Rat) (n : Nat) : act (padd p q) f n = act p f n + act q f n := by
  rw [← act_za]
  refine act_ext _ _ (fun i => ?_) f n
  unfold padd
  rw [trim_getD, za_getD]
  by_cases h : i < max p.length q.length
  · rw [List.getD_eq_getElem?_getD, List.getElem?_map, List.getElem?_range h]; rfl
  · rw [getD_out (by simp; (first | lia | omega)), getD_out (by (first | lia | omega)), getD_out (by (first | lia | omega)), Rat.add_zero]
theorem act_map (c : Rat) : ∀ (p : List Rat) (f : Nat → Rat) (n : Nat), act (p.map (· * c)) f n = c * act p f n
  | [], f, n => by simp [act]
  | a :: p, f, n => by
    rw [List.map_cons, act_cons, act_cons, sh_congr (act_map c p f), sh_smul]
    grind
theorem act_pscale (p : List Rat) (c : Rat) (f : Nat → Rat) (n : Nat) : act (pscale p c) f n = c * act p f n := by
  unfold pscale
  split
  · exact act_map c p f n
  · rename_i h
    have : c = 0 := Classical.not_not.mp h
    rw [this, act_nil, Rat.zero_mul]
theorem act_pneg (p : List Rat) (f : Nat → Rat) (n : Nat) : act (pneg p) f n = -act p f n := by
  have : pneg p = p.map (· * (-1)) := List.map_congr_left fun c _ => by grind
  rw [this, act_map]
  grind
theorem act_psub (p q : List Rat) (f : Nat → Rat) (n : Nat) : act (psub p q) f n = act p f n - act q f n := by
  unfold psub
  rw [act_padd, act_pneg]; grind
theorem shk_congr {f g : Nat → Rat} (h : ∀ n, f n = g n) (k n : Nat) : shk k f n = shk k g n := by
  rw [show f = g from funext h]
theorem act_rep (p : List Rat) (f : Nat → Rat) : ∀ (k n : Nat), act (List.replicate k 0 ++ p) f n = shk k (act p f) n
  | 0, n => rfl
  | k + 1, n => by
    rw [List.replicate_succ, List.cons_append, act_cons, sh_congr (act_rep p f k), Rat.zero_mul, Rat.zero_add]; rfl
theorem shk_zero (k n : Nat) : shk k (fun _ => 0) n = 0 := by
  induction k generalizing n with
  | zero => rfl
  | succ k ih => show sh (shk k _) n = 0; rw [sh_congr ih]; exact sh_zero n
theorem act_praise (p : List Rat) (k : Nat) (f : Nat → Rat) (n : Nat) : act (praise p k) f n = shk k (act p f) n := by
  unfold praise
  split
  · rename_i h
    rw [h, act_nil, shk_congr (g := fun _ => 0) (fun m => act_nil f m), shk_zero]
  · exact act_rep p f k n
theorem shk_add (f g : Nat → Rat) (k n : Nat) : shk k (fun m => f m + g m) n = shk k f n + shk k g n := by
  induction k generalizing n with
  | zero => rfl
  | succ k ih => show sh (shk k _) n = sh (shk k f) n + sh (shk k g) n; rw [sh_congr ih, sh_add]
theorem shk_smul (c : Rat) (f : Nat → Rat) (k n : Nat) : shk k (fun m => c * f m) n = c * shk k f n := by
  induction k generalizing n with
  | zero => rfl
  | succ k ih => show sh (shk k _) n = c * sh (shk k f) n; rw [sh_congr ih, sh_smul]
theorem shk_shk (f : Nat → Rat) (j : Nat) : ∀ (k n : Nat), shk k (shk j f) n = shk (k + j) f n
  | 0, n => by rw [Nat.zero_add]; rfl
  | k + 1, n => by
    have : k + 1 + j = (k + j) + 1 := by (first | lia | omega)
    rw [this]
    show sh (shk k (shk j f)) n = sh (shk (k + j) f) n
    exact sh_congr (shk_shk f j k) n
theorem act_last : ∀ (p : List Rat) (c : Rat) (f : Nat → Rat) (n : Nat), act (p ++ [c]) f n = act p f n + c * shk p.length f n
  | [], c, f, n => by
    rw [List.nil_append, act_cons, act_nil]
    have : sh (act [] f) n = 0 := by cases n <;> rfl
    rw [this]
    show c * f n + 0 = 0 + c * f n
    grind
  | a :: p, c, f, n => by
    rw [List.cons_append, act_cons, act_cons, sh_congr (act_last p c f), sh_add, sh_smul]
    show a * f n + (sh (act p f) n + c * sh (shk p.length f) n) = a * f n + sh (act p f) n + c * sh (shk p.length f) n
    grind
theorem split_last {p : List Rat} (h : p ≠ []) : p = p.dropLast ++ [plead p] := by
  unfold plead
  rw [List.getLastD_eq_getLast?, List.getLast?_eq_some_getLast h]
  exact (List.dropLast_concat_getLast h).symm
theorem divRest_act {b r : List Rat} (hb : plead b ≠ 0) (h : b.length ≤ r.length) (f : Nat → Rat) (n : Nat) :
    act r f n = act (divRest b r) f n + (plead r / plead b) * shk (r.length - b.length) (act b f) n := by
  have hbn : b ≠ [] := by rintro rfl; exact hb rfl
  have hpos := List.length_pos_iff.mpr hbn
  have hrn : r ≠ [] := by rintro rfl; simp at h; exact hbn h
  have e1 : act r f n = act r.dropLast f n + plead r * shk r.dropLast.length f n := by
    conv => lhs; rw [split_last hrn]
    exact act_last _ _ _ _
  have e2 : ∀ m, act b f m = (fun m => (fun m => act b.dropLast f m) m + (fun m => plead b * shk b.dropLast.length f m) m) m := fun m => by
    conv => lhs; rw [split_last hbn]
    exact act_last _ _ _ _
  unfold divRest
  rw [act_psub, act_praise, shk_congr (act_pscale b.dropLast (plead r / plead b) f), shk_smul, e1, shk_congr e2, shk_add, shk_smul, shk_shk]
  have e3 : r.length - b.length + b.dropLast.length = r.dropLast.length := by
    rw [List.length_dropLast, List.length_dropLast]; (first | lia | omega)
  rw [e3]
  have e4 : plead r / plead b * plead b = plead r := Rat.div_mul_cancel hb
  have e5 : plead r / plead b * (plead b * shk r.dropLast.length f n) = plead r * shk r.dropLast.length f n := by
    rw [← Rat.mul_assoc, e4]
  rw [Rat.mul_add, e5]
  show _ = _ - _ * shk _ (act b.dropLast f) n + (_ * shk _ (act b.dropLast f) n + _)
  grind
theorem act_set : ∀ (p : List Rat) (k : Nat) (c : Rat) (f : Nat → Rat) (n : Nat), k < p.length → p.getD k 0 = 0 → act (p.set k c) f n = act p f n + c * shk k f n
  | [], k, c, f, n, h, _ => by simp at h
  | a :: p, 0, c, f, n, h, h0 => by
    have ha : a = 0 := by simpa using h0
    rw [List.set_cons_zero, act_cons, act_cons, ha]
    show c * f n + _ = 0 * f n + _ + c * f n
    grind
  | a :: p, k + 1, c, f, n, h, h0 => by
    rw [List.set_cons_succ, act_cons, act_cons, sh_congr (act_set p k c f · (by simpa using h) (by simpa using h0)), sh_add, sh_smul]
    show _ = _ + c * sh (shk k f) n
    grind
theorem divLoop_act {b : List Rat} (hb : plead b ≠ 0) : ∀ (fuel : Nat) (r fs : List Rat), r.length < fs.length + b.length → (∀ j, j + b.length ≤ r.length → fs.getD j 0 = 0) → ∀ (f : Nat → Rat) (n : Nat),
    act fs (act b f) n + act r f n = act (divLoop b fuel r fs).1 (act b f) n + act (divLoop b fuel r fs).2 f n
  | 0, r, fs, _, _, f, n => rfl
  | fuel + 1, r, fs, hl, hz, f, n => by
    unfold divLoop
    split
    · rfl
    · rename_i hlt
      have hb0 : 0 < b.length := List.length_pos_iff.mpr (by rintro rfl; exact hb rfl)
      have hrl := divRest_len (b := b) (r := r) hb0 (by (first | lia | omega))
      have ih := divLoop_act hb fuel (divRest b r) (fs.set (r.length - b.length) (plead r / plead b)) (by rw [List.length_set]; (first | lia | omega)) (fun j hj => by
        rw [List.getD_eq_getElem?_getD, List.getElem?_set_ne (by (first | lia | omega)), ← List.getD_eq_getElem?_getD]
        exact hz j (by (first | lia | omega))) f n
      rw [act_set fs _ _ _ _ (by (first | lia | omega)) (hz _ (by (first | lia | omega)))] at ih
      have := divRest_act hb (r := r) (by (first | lia | omega)) f n
      refine Eq.trans ?_ ih
      rw [this]; grind
theorem pdiv_act {a b : List Rat} (hb : plead b ≠ 0) (f : Nat → Rat) (n : Nat) : act a f n = act (pdiv a b).1 (act b f) n + act (pdiv a b).2 f n := by
  have hb0 : 0 < b.length := List.length_pos_iff.mpr (by rintro rfl; exact hb rfl)
  have := divLoop_act hb (a.length + 1) a (List.replicate (a.length + 1 - b.length) 0) (by simp; (first | omega | lia)) (fun j hj => by
    rw [List.getD_eq_getElem?_getD]
    by_cases c : j < a.length + 1 - b.length
    · rw [List.getElem?_replicate, if_pos c]; rfl
    · rw [List.getElem?_replicate, if_neg c]; rfl) f n
  have e : act (List.replicate (a.length + 1 - b.length) (0 : Rat)) (act b f) n = 0 := by
    have := act_rep [] (act b f) (a.length + 1 - b.length) n
    rw [List.append_nil] at this
    rw [this, shk_congr (g := fun _ => 0) (fun m => act_nil _ m), shk_zero]
  rw [e, Rat.zero_add] at this
  unfold pdiv
  dsimp only
  rw [act_trim]
  exact this
noncomputable def Dv (c p : List Rat) : Prop := ∃ q : List Rat, ∀ f n, act p f n = act q (act c f) n
noncomputable def pmul : List Rat → List Rat → List Rat
  | [], _ => []
  | a :: q, p => za (p.map (· * a)) (0 :: pmul q p)
theorem act_pmul : ∀ (q p : List Rat) (f : Nat → Rat) (n : Nat), act (pmul q p) f n = act q (act p f) n
  | [], p, f, n => rfl
  | a :: q, p, f, n => by
    show act (za (p.map (· * a)) (0 :: pmul q p)) f n = _
    rw [act_za, act_map, act_cons, act_cons, sh_congr (act_pmul q p f)]
    grind
theorem act_one1 (f : Nat → Rat) (n : Nat) : act [1] f n = f n := by
  rw [act_cons]
  have : sh (act [] f) n = 0 := by cases n <;> rfl
  rw [this]; grind
theorem dv_refl (c : List Rat) : Dv c c := ⟨[1], fun f n => (act_one1 _ n).symm⟩
theorem dv_nil (c : List Rat) : Dv c [] := ⟨[], fun f n => rfl⟩
theorem dv_comb {c a b r q : List Rat} (hb : Dv c b) (hr : Dv c r) (h : ∀ f n, act a f n = act q (act b f) n + act r f n) : Dv c a := by
  obtain ⟨qb, hb⟩ := hb
  obtain ⟨qr, hr⟩ := hr
  refine ⟨za (pmul q qb) qr, fun f n => ?_⟩
  rw [h, act_za, act_pmul, hr, act_congr (hb f)]
theorem dv_scale {c r r' : List Rat} (k : Rat) (hr : Dv c r') (h : ∀ f n, act r f n = k * act r' f n) : Dv c r := by
  obtain ⟨q, hq⟩ := hr
  exact ⟨q.map (· * k), fun f n => by rw [h, act_map, hq]⟩
theorem dv_trans_scale {c c' p : List Rat} (k : Rat) (h : Dv c p) (hc : ∀ f n, act c f n = k * act c' f n) : Dv c' p := by
  obtain ⟨q, hq⟩ := h
  refine ⟨q.map (· * k), fun f n => ?_⟩
  rw [hq, act_map, act_congr (hc f), act_smul]
theorem pmonic_act {p : List Rat} (hl : p ≠ [] → plead p ≠ 0) (f : Nat → Rat) (n : Nat) : act p f n = plead p * act (pmonic p) f n := by
  unfold pmonic
  split
  · rename_i h
    rw [h]; simp [act]
  · rename_i h
    rw [act_pscale, ← Rat.mul_assoc, Rat.mul_inv_cancel _ (hl h), Rat.one_mul]
theorem gcdLoop_dv : ∀ (fuel : Nat) (a b : List Rat), b.length < fuel → (a ≠ [] → plead a ≠ 0) → (b ≠ [] → plead b ≠ 0) → Dv (gcdLoop fuel a b) a ∧ Dv (gcdLoop fuel a b) b
  | 0, _, _, h, _, _ => by (first | lia | omega)
  | fuel + 1, a, b, h, ha, hb => by
    unfold gcdLoop
    split
    · rename_i h0
      rw [h0]
      exact ⟨dv_refl a, dv_nil a⟩
    · rename_i hbn
      have hb0 := List.length_pos_iff.mpr hbn
      have hl := pdiv_rest_len (a := a) hb0
      have hm := pmonic_len (p := (pdiv a b).2) (pdiv_rest_lead ha)
      obtain ⟨h1, h2⟩ := gcdLoop_dv fuel b (pmonic (pdiv a b).2) (by (first | lia | omega)) hb (pmonic_lead (pdiv_rest_lead ha))
      exact ⟨dv_comb h1 (dv_scale _ h2 (pmonic_act (pdiv_rest_lead ha))) (pdiv_act (hb hbn)), h1⟩
theorem pgcd_dv {a b : List Rat} (ha : a ≠ [] → plead a ≠ 0) (hb : b ≠ [] → plead b ≠ 0) : Dv (pgcd a b) a ∧ Dv (pgcd a b) b := by
  obtain ⟨h1, h2⟩ := gcdLoop_dv (b.length + 1) a b (by (first | lia | omega)) ha hb
  have hl := (gcdLoop_len (b.length + 1) a b (max a.length b.length) ha hb (by (first | lia | omega)) (by (first | lia | omega))).2
  exact ⟨dv_trans_scale _ h1 (pmonic_act hl), dv_trans_scale _ h2 (pmonic_act hl)⟩
theorem act_delta : ∀ (p : List Rat) (n : Nat), act p one n = p.getD n 0
  | [], n => by simp [act]
  | a :: p, 0 => by
    show a * 1 + 0 = a
    grind
  | a :: p, n + 1 => by
    rw [act_cons, List.getD_cons_succ, ← act_delta p n]
    show a * 0 + act p one n = act p one n
    grind
theorem act_top : ∀ (p : List Rat) (f : Nat → Rat) (d : Nat), p ≠ [] → (∀ j, d < j → f j = 0) → act p f (d + p.length - 1) = plead p * f d
  | [], _, _, h, _ => absurd rfl h
  | [a], f, d, _, _ => by
    show a * f (d + 1 - 1) + sh (act [] f) (d + 1 - 1) = a * f d
    have : sh (act [] f) (d + 1 - 1) = 0 := by cases (d + 1 - 1) <;> rfl
    rw [this, Nat.add_sub_cancel]; grind
  | a :: b :: p, f, d, _, hf => by
    have ih := act_top (b :: p) f d (by simp) hf
    have e : d + (a :: b :: p).length - 1 = (d + (b :: p).length - 1) + 1 := by simp; (first | lia | omega)
    rw [e, act_cons, hf _ (by simp; (first | lia | omega))]
    show a * 0 + act (b :: p) f (d + (b :: p).length - 1) = plead (a :: b :: p) * f d
    rw [ih]
    have : plead (a :: b :: p) = plead (b :: p) := by
      unfold plead; rw [List.getLastD_eq_getLast?, List.getLastD_eq_getLast?, List.getLast?_cons_cons]
    rw [this]; grind
theorem lead_getD {c : List Rat} (h : c ≠ []) : c.getD (c.length - 1) 0 = plead c := by
  unfold plead
  rw [List.getLastD_eq_getLast?, List.getLast?_eq_getElem?, List.getD_eq_getElem?_getD]
theorem div_exact {a c : List Rat} (h : Dv c a) (hc : plead c ≠ 0) (f : Nat → Rat) (n : Nat) : act a f n = act (pdiv a c).1 (act c f) n := by
  have hcn : c ≠ [] := by rintro rfl; exact hc rfl
  have hpos := List.length_pos_iff.mpr hcn
  obtain ⟨q, hq⟩ := h
  have e : ∀ f n, act (psub q (pdiv a c).1) (act c f) n = act (pdiv a c).2 f n := fun f n => by
    have := pdiv_act hc (a := a) f n
    rw [act_psub, ← hq f n, this]; grind
  have hs : psub q (pdiv a c).1 = [] := by
    refine Classical.byContradiction fun hne => ?_
    have hlead : plead (psub q (pdiv a c).1) ≠ 0 := trim_lead hne
    have hg : ∀ j, c.length - 1 < j → act c one j = 0 := fun j hj => by
      rw [act_delta]; exact getD_out (by (first | omega | lia))
    have h1 := act_top (psub q (pdiv a c).1) (act c one) (c.length - 1) hne hg
    rw [e, act_delta, act_delta, lead_getD hcn] at h1
    have hr := pdiv_rest_len (a := a) hpos
    have hp2 := List.length_pos_iff.mpr hne
    rw [getD_out (by (first | omega | lia))] at h1
    rcases Rat.mul_eq_zero.mp h1.symm with h | h
    · exact hlead h
    · exact hc h
  have h2 := e f n
  rw [hs, act_nil] at h2
  rw [pdiv_act hc, ← h2]; grind
theorem act_local : ∀ (p : List Rat) (f g : Nat → Rat) (n : Nat), (∀ m, m ≤ n → f m = g m) → act p f n = act p g n
  | [], _, _, _, _ => rfl
  | a :: p, f, g, n, h => by
    rw [act_cons, act_cons, h n (Nat.le_refl _)]
    congr 1
    cases n with
    | zero => rfl
    | succ n => exact act_local p f g n fun m hm => h m (by (first | lia | omega))
theorem act_inj {c : List Rat} (h0 : c.getD 0 0 ≠ 0) {f g : Nat → Rat} (h : ∀ n, act c f n = act c g n) : ∀ n, f n = g n := by
  cases c with
  | nil => exact absurd rfl h0
  | cons a p =>
    have ha : a ≠ 0 := h0
    intro n
    induction n using Nat.strongRecOn with
    | ind n ih =>
      have hn := h n
      rw [act_cons, act_cons] at hn
      have hs : sh (act p f) n = sh (act p g) n := by
        cases n with
        | zero => rfl
        | succ n => exact act_local p f g n fun m hm => ih m (by (first | lia | omega))
      rw [hs] at hn
      have h2 : a * f n = a * g n := by grind
      have : a * (f n - g n) = 0 := by grind
      rcases Rat.mul_eq_zero.mp this with h | h
      · exact absurd h ha
      · grind
theorem act_zero0 (p : List Rat) (f : Nat → Rat) : act p f 0 = p.getD 0 0 * f 0 := by
  cases p with
  | nil => simp [act]
  | cons a p =>
    show a * f 0 + 0 = a * f 0
    grind
structure Short (t b : List Rat) (f : Nat → Rat) : Prop where
  eq : ∀ n, act b f n = act t one n
  b0 : b.getD 0 0 ≠ 0
  bl : plead b ≠ 0
  tl : t ≠ [] → plead t ≠ 0
theorem quot_ok {top bottom : List Rat} (hl : top ≠ [] → plead top ≠ 0) (hlb : plead bottom ≠ 0) (h1 : bottom.getD 0 0 = 1) : plead (pgcd top bottom) ≠ 0 ∧ plead (pdiv bottom (pgcd top bottom)).1 ≠ 0 ∧ (top ≠ [] → (pdiv top (pgcd top bottom)).1 ≠ [] → plead (pdiv top (pgcd top bottom)).1 ≠ 0) := by
  obtain ⟨d1, d2⟩ := pgcd_dv hl (fun _ => hlb)
  have hN := (pgcd_len (N := max top.length bottom.length) hl (fun _ => hlb) (by (first | lia | omega)) (by (first | lia | omega))).2
  have hcn : pgcd top bottom ≠ [] := by
    intro e
    obtain ⟨q, hq⟩ := d2
    have := hq one 0
    rw [e, act_delta, h1, act_congr (g := fun _ => 0) (fun m => act_nil _ m), act_zero] at this
    exact absurd this (by decide)
  have hc := hN hcn
  refine ⟨hc, ?_, fun _ h => trim_lead h⟩
  refine trim_lead fun e => ?_
  have := div_exact d2 hc one 0
  have e' : (pdiv bottom (pgcd top bottom)).1 = [] := e
  rw [e', act_delta, h1, act_nil] at this
  exact absurd this (by decide)
theorem scale_short {t b : List Rat} {f : Nat → Rat} (s : Rat) (hs : s ≠ 0) (h : Short t b f) : Short (pscale t s) (pscale b s) f := by
  have hbn : b ≠ [] := by rintro rfl; exact h.bl rfl
  have lead : ∀ p : List Rat, p ≠ [] → plead p ≠ 0 → plead (pscale p s) ≠ 0 := fun p hp hl => by
    unfold pscale
    rw [if_pos hs, plead_map _ hp]
    exact fun e => (Rat.mul_eq_zero.mp e).elim hl hs
  refine ⟨fun n => ?_, ?_, lead b hbn h.bl, fun q => ?_⟩
  · rw [act_pscale, act_pscale, h.eq]
  · have := act_pscale b s one 0
    rw [act_delta, act_delta] at this
    rw [this]
    exact fun e => (Rat.mul_eq_zero.mp e).elim hs h.b0
  · have ht : t ≠ [] := by
      rintro rfl
      apply q
      unfold pscale; split <;> rfl
    exact lead t ht (h.tl ht)
theorem fmakeS_short {top bottom : List Rat} (hl : top ≠ [] → plead top ≠ 0) (hlb : plead bottom ≠ 0) (h1 : bottom.getD 0 0 = 1) {f : Nat → Rat} (hf : ∀ n, act bottom f n = act top one n) :
    Short (fmakeS top bottom).1 (fmakeS top bottom).2 f := by
  unfold fmakeS
  split
  · rename_i h0
    have hz : ∀ n, f n = 0 := act_inj (c := bottom) (g := fun _ => 0) (by rw [h1]; decide) fun n => by
      rw [hf, h0, act_nil, act_zero]
    exact ⟨fun n => by rw [act_one1, hz, act_nil], by decide, by decide, fun h => absurd rfl h⟩
  · rename_i h0
    obtain ⟨hc, hq, hqt⟩ := quot_ok hl hlb h1
    obtain ⟨d1, d2⟩ := pgcd_dv hl (fun _ => hlb)
    dsimp only
    split
    · rename_i hlen
      have e1 := div_exact d1 hc
      have e2 := div_exact d2 hc
      have hb1 : act bottom one 0 = 1 := by rw [act_delta, h1]
      have hb2 : (pdiv bottom (pgcd top bottom)).1.getD 0 0 * (pgcd top bottom).getD 0 0 = 1 := by
        have := e2 one 0
        rw [hb1, act_zero0, act_delta] at this
        exact this.symm
      have hc0 : (pgcd top bottom).getD 0 0 ≠ 0 := fun e => by rw [e, Rat.mul_zero] at hb2; exact absurd hb2 (by decide)
      have hq0 : (pdiv bottom (pgcd top bottom)).1.getD 0 0 ≠ 0 := fun e => by rw [e, Rat.zero_mul] at hb2; exact absurd hb2 (by decide)
      refine scale_short _ (fun e => ?_) ⟨act_inj hc0 fun n => ?_, hq0, hq, hqt h0⟩
      · have := Rat.mul_inv_cancel _ hq
        rw [e, Rat.mul_zero] at this
        exact absurd this (by decide)
      · rw [act_comm, ← e2, hf, e1, act_comm]
    · refine scale_short _ (fun e => ?_) ⟨hf, by rw [h1]; decide, hlb, hl⟩
      have := Rat.mul_inv_cancel _ hlb
      rw [e, Rat.mul_zero] at this
      exact absurd this (by decide)
theorem growS_len (steps : List Int) : ∀ (m : Nat) (row : List Int), (growS steps m row).length = row.length + m
  | 0, row => rfl
  | m + 1, row => by
    show (growS steps m (row ++ [nextS steps row])).length = _
    rw [growS_len steps m]; simp; (first | lia | omega)
theorem growS_add (steps : List Int) : ∀ (m d : Nat) (row : List Int), growS steps (m + d) row = growS steps d (growS steps m row)
  | 0, d, row => by rw [Nat.zero_add]; rfl
  | m + 1, d, row => by
    rw [show m + 1 + d = (m + d) + 1 by (first | lia | omega)]
    exact growS_add steps m d (row ++ [nextS steps row])
theorem getD_append_left {l m : List Int} {j : Nat} (h : j < l.length) : (l ++ m).getD j 0 = l.getD j 0 := by
  rw [List.getD_eq_getElem?_getD, List.getElem?_append_left h, ← List.getD_eq_getElem?_getD]
theorem growS_get (steps : List Int) : ∀ (m : Nat) (row : List Int) (j : Nat), j < row.length → (growS steps m row).getD j 0 = row.getD j 0
  | 0, row, j, _ => rfl
  | m + 1, row, j, h => by
    show (growS steps m (row ++ [nextS steps row])).getD j 0 = _
    rw [growS_get steps m _ j (by simp; (first | lia | omega)), getD_append_left h]
noncomputable def rowF (steps first : List Int) (n : Nat) : Int := (growS steps (n + 1) first).getD n 0
theorem rowF_eq {steps first : List Int} {m n : Nat} (h : n < first.length + m) : (growS steps m first).getD n 0 = rowF steps first n := by
  unfold rowF
  have h1 := growS_get steps (n + 1) (growS steps m first) n (by rw [growS_len]; (first | omega | lia))
  have h2 := growS_get steps m (growS steps (n + 1) first) n (by rw [growS_len]; (first | omega | lia))
  rw [← growS_add] at h1 h2
  rw [← h1, ← h2, Nat.add_comm]
theorem rowF_first {steps first : List Int} {n : Nat} (h : n < first.length) : rowF steps first n = first.getD n 0 := growS_get _ _ _ _ h
theorem nextS_eq (steps row : List Int) (f : Nat → Int) (h : ∀ j, j < row.length → row.getD j 0 = f j) (hl : steps.length ≤ row.length) :
    nextS steps row = ((List.range steps.length).map fun i => steps.getD i 0 * f (row.length - 1 - i)).sum := by
  unfold nextS
  congr 1
  refine List.map_congr_left fun i hi => ?_
  have := List.mem_range.mp hi
  rw [h _ (by (first | omega | lia))]
theorem rowF_rec {steps first : List Int} (hl : first.length = steps.length) {n : Nat} (hn : steps.length ≤ n) :
    rowF steps first n = ((List.range steps.length).map fun i => steps.getD i 0 * rowF steps first (n - 1 - i)).sum := by
  obtain ⟨d, rfl⟩ := Nat.exists_eq_add_of_le hn
  have e : growS steps (d + 1) first = growS steps d first ++ [nextS steps (growS steps d first)] := by
    rw [growS_add]; rfl
  have hlen : (growS steps d first).length = steps.length + d := by rw [growS_len, hl]
  rw [← rowF_eq (m := d + 1) (by (first | lia | omega)), e, List.getD_eq_getElem?_getD, List.getElem?_append_right (by (first | lia | omega)), hlen, Nat.sub_self]
  show nextS steps (growS steps d first) = _
  rw [nextS_eq steps _ (rowF steps first) (fun j hj => rowF_eq (by (first | lia | omega))) (by (first | lia | omega)), hlen]
theorem rowS_len {steps first : List Int} {many : Nat} : (rowS steps first many).length = max first.length many := by
  unfold rowS; rw [growS_len]; (first | lia | omega)
theorem rowS_get {steps first : List Int} {many n : Nat} (h : n < max first.length many) : (rowS steps first many).getD n 0 = rowF steps first n := rowF_eq (by (first | omega | lia))
theorem list_eq_range {l : List Int} {f : Nat → Int} {n : Nat} (hl : l.length = n) (h : ∀ j, j < n → l.getD j 0 = f j) : l = (List.range n).map f := by
  apply List.ext_getElem?
  intro j
  by_cases hj : j < n
  · have := h j hj
    rw [List.getD_eq_getElem?_getD, List.getElem?_eq_getElem (by (first | lia | omega))] at this
    rw [List.getElem?_eq_getElem (by (first | lia | omega)), List.getElem?_map, List.getElem?_range hj]
    simp at this
    simp [this]
  · rw [List.getElem?_eq_none (by (first | lia | omega)), List.getElem?_eq_none (by simp; (first | lia | omega))]
theorem rowS_range {steps first : List Int} {many : Nat} (h : first.length ≤ many) : rowS steps first many = (List.range many).map (rowF steps first) :=
  list_eq_range (by rw [rowS_len]; (first | lia | omega)) fun j hj => rowS_get (by (first | lia | omega))
theorem cast_sum : ∀ l : List Int, ((l.sum : Int) : Rat) = (l.map fun (x : Int) => (x : Rat)).sum
  | [] => rfl
  | x :: l => by rw [List.sum_cons, List.map_cons, List.sum_cons, ← cast_sum l, Rat.intCast_add]
theorem neg_sum {α : Type} (g : α → Rat) : ∀ l : List α, (l.map fun x => -g x).sum = -(l.map g).sum
  | [] => rfl
  | x :: l => by rw [List.map_cons, List.sum_cons, List.map_cons, List.sum_cons, neg_sum g l]; grind
theorem act_sum : ∀ (p : List Rat) (f : Nat → Rat) (m : Nat), act p f m = ((List.range (min (m + 1) p.length)).map fun i => p.getD i 0 * f (m - i)).sum
  | [], f, m => by simp [act]
  | a :: p, f, m => by
    have e : min (m + 1) (a :: p).length = min m p.length + 1 := by simp
    rw [e, List.range_succ_eq_map, List.map_cons, List.sum_cons, List.map_map, act_cons]
    congr 1
    cases m with
    | zero => simp [sh]
    | succ m =>
      show act p f m = _
      rw [act_sum p f m]
      congr 1
      refine List.map_congr_left fun i hi => ?_
      show p.getD i 0 * f (m - i) = (a :: p).getD (i + 1) 0 * f (m + 1 - (i + 1))
      rw [List.getD_cons_succ, Nat.add_sub_add_right]
theorem bot_top {steps first : List Int} (hl : first.length = steps.length) (n : Nat) :
    act (botS steps) (fun n => (rowF steps first n : Rat)) n = act ((topS steps first).map fun (x : Int) => (x : Rat)) one n := by
  rw [act_delta]
  have hs : sh (act (steps.map fun (s : Int) => ((-s : Int) : Rat)) (fun n => (rowF steps first n : Rat))) n = -((((List.range (min n steps.length)).map fun i => steps.getD i 0 * rowF steps first (n - 1 - i)).sum : Int) : Rat) := by
    cases n with
    | zero => simp [sh]
    | succ m =>
      show act _ _ m = _
      rw [act_sum, List.length_map, cast_sum, List.map_map, ← neg_sum]
      congr 1
      refine List.map_congr_left fun i hi => ?_
      have hi' := List.mem_range.mp hi
      have e : (steps.map fun (s : Int) => ((-s : Int) : Rat)).getD i 0 = -((steps.getD i 0 : Int) : Rat) := by
        rw [List.getD_eq_getElem?_getD, List.getElem?_map, List.getD_eq_getElem?_getD, List.getElem?_eq_getElem (by (first | lia | omega))]
        exact Rat.intCast_neg _
      show _ * ((rowF steps first (m - i) : Int) : Rat) = -(((steps.getD i 0 * rowF steps first (m + 1 - 1 - i) : Int)) : Rat)
      rw [e, Rat.intCast_mul, Nat.add_sub_cancel]; grind
  unfold botS
  rw [act_cons, hs]
  by_cases hn : n < steps.length
  · have ht : ((topS steps first).map fun (x : Int) => (x : Rat)).getD n 0 = ((first.getD n 0 - ((List.range n).map fun back => steps.getD back 0 * first.getD (n - (back + 1)) 0).sum : Int) : Rat) := by
      rw [List.getD_eq_getElem?_getD, List.getElem?_map, topS, List.getElem?_map, List.getElem?_range hn]; rfl
    have hsum : ((List.range (min n steps.length)).map fun i => steps.getD i 0 * rowF steps first (n - 1 - i)).sum = ((List.range n).map fun back => steps.getD back 0 * first.getD (n - (back + 1)) 0).sum := by
      rw [show min n steps.length = n by (first | lia | omega)]
      congr 1
      refine List.map_congr_left fun i hi => ?_
      have hi' := List.mem_range.mp hi
      rw [rowF_first (by (first | lia | omega)), show n - 1 - i = n - (i + 1) by (first | lia | omega)]
    rw [ht, hsum, rowF_first (by (first | lia | omega)), Rat.intCast_sub]; grind
  · have ht : ((topS steps first).map fun (x : Int) => (x : Rat)).getD n 0 = 0 := getD_out (by simp [topS]; (first | lia | omega))
    rw [ht, show min n steps.length = steps.length by (first | lia | omega), ← rowF_rec hl (by (first | lia | omega))]; grind
theorem trimBot {steps : List Int} : plead (trim (botS steps)) ≠ 0 ∧ (trim (botS steps)).getD 0 0 = 1 := by
  have h1 : (trim (botS steps)).getD 0 0 = 1 := by rw [trim_getD]; rfl
  refine ⟨trim_lead fun e => ?_, h1⟩
  rw [e] at h1
  exact absurd h1 (by decide)
theorem generatingS_short {steps first : List Int} (hl : first.length = steps.length) : Short (generatingS steps first).1 (generatingS steps first).2 (fun n => (rowF steps first n : Rat)) := by
  unfold generatingS
  exact fmakeS_short (fun h => trim_lead h) trimBot.1 trimBot.2 fun n => by rw [act_trim, bot_top hl, act_trim]
theorem foldl_sub {g : Nat → Rat} : ∀ (l : List Nat) (a : Rat), l.foldl (fun acc i => acc - g i) a = a - (l.map g).sum
  | [], a => by simp; grind
  | x :: l, a => by rw [List.foldl_cons, foldl_sub l, List.map_cons, List.sum_cons]; grind
theorem range_getD {f : Nat → Rat} {n j : Nat} (h : j < n) : ((List.range n).map f).getD j 0 = f j := by
  rw [List.getD_eq_getElem?_getD, List.getElem?_map, List.getElem?_range h]; rfl
theorem serNum_eq {t b : List Rat} {f : Nat → Rat} (h : Short t b f) (j : Nat) : serNum t b ((List.range j).map f) = f j := by
  have hbn : b ≠ [] := by rintro rfl; exact h.bl rfl
  have hpos := List.length_pos_iff.mpr hbn
  unfold serNum
  have hlen : ((List.range j).map f).length = j := by simp
  rw [hlen, foldl_sub]
  have he := h.eq j
  rw [act_delta, act_sum, show min (j + 1) b.length = min j (b.length - 1) + 1 from minD hpos, List.range_succ_eq_map, List.map_cons, List.sum_cons, List.map_map] at he
  have hm : ((List.range (min j (b.length - 1))).map fun back => b.getD (back + 1) 0 * ((List.range j).map f).getD (j - (back + 1)) 0) = (List.range (min j (b.length - 1))).map ((fun i => b.getD i 0 * f (j - i)) ∘ Nat.succ) :=
    List.map_congr_left fun i hi => by
      have hi' := List.mem_range.mp hi
      rw [range_getD (Nat.sub_lt (Nat.lt_of_le_of_lt (Nat.zero_le _) (Nat.lt_of_lt_of_le hi' (Nat.min_le_left _ _))) (Nat.succ_pos _))]; rfl
  rw [hm, ← he]
  have : b.getD 0 0 * f (j - 0) + (List.map ((fun i => b.getD i 0 * f (j - i)) ∘ Nat.succ) (List.range (min j (b.length - 1)))).sum - (List.map ((fun i => b.getD i 0 * f (j - i)) ∘ Nat.succ) (List.range (min j (b.length - 1)))).sum = f j * b.getD 0 0 := by
    rw [Nat.sub_zero]; grind
  rw [this]
  exact Rat.mul_div_cancel h.b0
theorem serS_eq {t b : List Rat} {f : Nat → Rat} (h : Short t b f) : ∀ (m j : Nat), serS t b m ((List.range j).map f) = (List.range (j + m)).map f
  | 0, j => rfl
  | m + 1, j => by
    show serS t b m ((List.range j).map f ++ [serNum t b ((List.range j).map f)]) = _
    have : (List.range j).map f ++ [serNum t b ((List.range j).map f)] = (List.range (j + 1)).map f := by
      rw [serNum_eq h, List.range_succ, List.map_append]; rfl
    rw [this, serS_eq h m (j + 1), show j + 1 + m = j + (m + 1) by (first | lia | omega)]
theorem serS_mem {t b : List Rat} : ∀ (m : Nat) (found : List Rat) (c : Rat), c ∈ found → c ∈ serS t b m found
  | 0, found, c, h => h
  | m + 1, found, c, h => serS_mem m _ c (List.mem_append.mpr (.inl h))
structure Sd (N : Nat) (m : List (List Int)) : Prop where
  len : m.length = N
  row : ∀ r ∈ m, r.length = N
theorem Sq.sd {N X : Nat} {m : List (List Int)} (h : Sq N X m) : Sd N m := ⟨h.len, h.row⟩
theorem Sd.head {N : Nat} {m : List (List Int)} (h : Sd N m) : (m.headD []).length = N := by
  obtain ⟨h1, h2⟩ := h
  cases m with
  | nil => simpa using h1
  | cons r l => exact h2 r (.head _)
noncomputable def dotN (N : Nat) (r v : List Int) : Int := ((List.range N).map fun k => r.getD k 0 * v.getD k 0).sum
noncomputable def mv (N : Nat) (m : List (List Int)) (v : List Int) : List Int := m.map fun r => dotN N r v
theorem getDi {f : Nat → Int} {n j : Nat} (h : j < n) : ((List.range n).map f).getD j 0 = f j := by
  rw [List.getD_eq_getElem?_getD, List.getElem?_map, List.getElem?_range h]; rfl
theorem getDr {f : Nat → List Int} {n j : Nat} (h : j < n) : ((List.range n).map f).getD j [] = f j := by
  rw [List.getD_eq_getElem?_getD, List.getElem?_map, List.getElem?_range h]; rfl
theorem mv_get {N : Nat} {m : List (List Int)} (v : List Int) {k : Nat} (h : k < m.length) : (mv N m v).getD k 0 = dotN N (m.getD k []) v := by
  rw [List.getD_eq_getElem?_getD, mv, List.getElem?_map, List.getElem?_eq_getElem h, List.getD_eq_getElem?_getD, List.getElem?_eq_getElem h]; rfl
theorem sum_add {α : Type} (f g : α → Int) : ∀ l : List α, (l.map fun x => f x + g x).sum = (l.map f).sum + (l.map g).sum
  | [] => rfl
  | x :: l => by simp only [List.map_cons, List.sum_cons, sum_add f g l]; (first | lia | omega)
theorem sum_zero {α : Type} : ∀ l : List α, (l.map fun _ => (0 : Int)).sum = 0
  | [] => rfl
  | x :: l => by simp only [List.map_cons, List.sum_cons, sum_zero l]; rfl
theorem sum_mul {α : Type} (f : α → Int) (c : Int) : ∀ l : List α, (l.map f).sum * c = (l.map fun x => f x * c).sum
  | [] => by simp
  | x :: l => by simp only [List.map_cons, List.sum_cons, ← sum_mul f c l, Int.add_mul]
theorem mul_sum {α : Type} (f : α → Int) (c : Int) : ∀ l : List α, c * (l.map f).sum = (l.map fun x => c * f x).sum
  | [] => by simp
  | x :: l => by simp only [List.map_cons, List.sum_cons, ← mul_sum f c l, Int.mul_add]
theorem sum_comm {α β : Type} (F : α → β → Int) (l' : List β) : ∀ l : List α, (l.map fun j => (l'.map fun k => F j k).sum).sum = (l'.map fun k => (l.map fun j => F j k).sum).sum
  | [] => by simp [sum_zero]
  | x :: l => by simp only [List.map_cons, List.sum_cons, sum_comm F l' l, ← sum_add]
theorem mmul_sd {N : Nat} {a b : List (List Int)} (ha : Sd N a) (hb : Sd N b) : Sd N (mmul a b) := by
  refine ⟨by simp [mmul, ha.len], fun r hr => ?_⟩
  obtain ⟨row, _, rfl⟩ := List.mem_map.mp hr
  rw [List.length_map, List.length_range, hb.head]
theorem mmul_mv {N : Nat} {a b : List (List Int)} (ha : Sd N a) (hb : Sd N b) (v : List Int) : mv N (mmul a b) v = mv N a (mv N b v) := by
  unfold mmul
  rw [mv, List.map_map, mv]
  refine List.map_congr_left fun row hrow => ?_
  show dotN N ((List.range (b.headD []).length).map _) v = dotN N row (mv N b v)
  rw [hb.head, hb.len]
  unfold dotN
  have e1 : ((List.range N).map fun k => ((List.range N).map fun j => ((List.range N).map fun k => row.getD k 0 * (b.getD k []).getD j 0).sum).getD k 0 * v.getD k 0) =
      (List.range N).map fun j => ((List.range N).map fun k => row.getD k 0 * (b.getD k []).getD j 0 * v.getD j 0).sum :=
    List.map_congr_left fun j hj => by rw [getDi (List.mem_range.mp hj), sum_mul]
  have e2 : ((List.range N).map fun k => row.getD k 0 * (mv N b v).getD k 0) = (List.range N).map fun k => ((List.range N).map fun j => row.getD k 0 * (b.getD k []).getD j 0 * v.getD j 0).sum :=
    List.map_congr_left fun k hk => by
      rw [mv_get v (by rw [hb.len]; exact List.mem_range.mp hk), dotN, mul_sum]
      congr 1
      exact List.map_congr_left fun j _ => by rw [Int.mul_assoc]
  rw [e1, e2]
  exact sum_comm _ _ _
noncomputable def basis (N j : Nat) : List Int := (List.range N).map fun i => if i = j then 1 else 0
theorem sum_pick (g : Nat → Int) (j : Nat) : ∀ N, j < N → ((List.range N).map fun i => g i * (if i = j then (1 : Int) else 0)).sum = g j
  | 0, h => by (first | lia | omega)
  | N + 1, h => by
    rw [List.range_succ, List.map_append, List.sum_append]
    by_cases e : j = N
    · subst e
      have : ((List.range j).map fun i => g i * (if i = j then (1 : Int) else 0)) = (List.range j).map fun _ => 0 := List.map_congr_left fun i hi => by
        have := List.mem_range.mp hi
        rw [if_neg (by (first | lia | omega)), Int.mul_zero]
      rw [this, sum_zero]; simp
    · rw [sum_pick g j N (by (first | lia | omega))]
      simp [show ¬ N = j by (first | lia | omega)]
theorem dot_basis {N j : Nat} (r : List Int) (hj : j < N) : dotN N r (basis N j) = r.getD j 0 := by
  unfold dotN
  have : ((List.range N).map fun k => r.getD k 0 * (basis N j).getD k 0) = (List.range N).map fun k => r.getD k 0 * (if k = j then (1 : Int) else 0) :=
    List.map_congr_left fun k hk => by rw [basis, getDi (List.mem_range.mp hk)]
  rw [this, sum_pick _ _ _ hj]
theorem list_ext_getD {l m : List Int} (hl : l.length = m.length) (h : ∀ j, j < l.length → l.getD j 0 = m.getD j 0) : l = m := by
  apply List.ext_getElem hl
  intro j h1 h2
  have := h j h1
  rw [List.getD_eq_getElem?_getD, List.getElem?_eq_getElem h1, List.getD_eq_getElem?_getD, List.getElem?_eq_getElem h2] at this
  exact this
theorem mat_eq {N : Nat} {a b : List (List Int)} (ha : Sd N a) (hb : Sd N b) (h : ∀ i, i < N → ∀ j, j < N → (a.getD i []).getD j 0 = (b.getD i []).getD j 0) : a = b := by
  apply List.ext_getElem (by rw [ha.len, hb.len])
  intro i h1 h2
  have e1 : a.getD i [] = a[i] := by rw [List.getD_eq_getElem?_getD, List.getElem?_eq_getElem h1]; rfl
  have e2 : b.getD i [] = b[i] := by rw [List.getD_eq_getElem?_getD, List.getElem?_eq_getElem h2]; rfl
  have l1 := ha.row _ (List.getElem_mem h1)
  have l2 := hb.row _ (List.getElem_mem h2)
  refine list_ext_getD (by rw [l1, l2]) fun j hj => ?_
  have := h i (by rw [← ha.len]; exact h1) j (by rw [l1] at hj; exact hj)
  rwa [e1, e2] at this
theorem mat_ext {N : Nat} {a b : List (List Int)} (ha : Sd N a) (hb : Sd N b) (h : ∀ v, v.length = N → mv N a v = mv N b v) : a = b :=
  mat_eq ha hb fun i hi j hj => by
    have := congrArg (fun l => l.getD i 0) (h (basis N j) (by simp [basis]))
    rw [mv_get _ (by rw [ha.len]; exact hi), mv_get _ (by rw [hb.len]; exact hi), dot_basis _ hj, dot_basis _ hj] at this
    exact this
theorem idm_sd (N : Nat) : Sd N (idm N) := (idm_sq N).sd
theorem idm_mv {N : Nat} {v : List Int} (hv : v.length = N) : mv N (idm N) v = v := by
  refine list_ext_getD (by simp [mv, idm, hv]) fun j hj => ?_
  have hj' : j < N := by simpa [mv, idm] using hj
  rw [mv_get _ (by simpa [idm] using hj'), idm, getDr hj']
  unfold dotN
  have : ((List.range N).map fun k => ((List.range N).map fun j_1 => if j = j_1 then (1 : Int) else 0).getD k 0 * v.getD k 0) = (List.range N).map fun k => v.getD k 0 * (if k = j then (1 : Int) else 0) :=
    List.map_congr_left fun k hk => by
      rw [getDi (List.mem_range.mp hk), Int.mul_comm]
      by_cases e : j = k
      · rw [if_pos e, if_pos e.symm]
      · rw [if_neg e, if_neg (fun q => e q.symm)]
  rw [this, sum_pick _ _ _ hj']
theorem mv_len {N : Nat} {m : List (List Int)} (h : Sd N m) (v : List Int) : (mv N m v).length = N := by simp [mv, h.len]
noncomputable def itm (N : Nat) (a : List (List Int)) : Nat → List Int → List Int
  | 0, v => v
  | n + 1, v => itm N a n (mv N a v)
theorem itm_add (N : Nat) (a : List (List Int)) : ∀ (m n : Nat) (v : List Int), itm N a (m + n) v = itm N a n (itm N a m v)
  | 0, n, v => by rw [Nat.zero_add]; rfl
  | m + 1, n, v => by rw [show m + 1 + n = (m + n) + 1 by (first | lia | omega)]; exact itm_add N a m n _
theorem itm_sq {N : Nat} {s : List (List Int)} (hs : Sd N s) : ∀ (m : Nat) (v : List Int), itm N (mmul s s) m v = itm N s (2 * m) v
  | 0, v => rfl
  | m + 1, v => by
    show itm N (mmul s s) m (mv N (mmul s s) v) = _
    rw [itm_sq hs m, mmul_mv hs hs, show 2 * (m + 1) = (2 * m) + 1 + 1 by (first | lia | omega)]; rfl
theorem itm_succ' (N : Nat) (a : List (List Int)) (n : Nat) (v : List Int) : itm N a (n + 1) v = mv N a (itm N a n v) := itm_add N a n 1 v
theorem raiseLoop_sd {N : Nat} : ∀ (fuel n : Nat) (f s : List (List Int)), n < fuel → Sd N f → Sd N s → Sd N (raiseLoop fuel n f s) ∧ ∀ v, mv N (raiseLoop fuel n f s) v = mv N f (itm N s n v)
  | 0, _, _, _, h, _, _ => by (first | lia | omega)
  | fuel + 1, n, f, s, h, hf, hs => by
    unfold raiseLoop
    split
    · rename_i e
      subst e
      exact ⟨hf, fun v => rfl⟩
    · rename_i hn
      have h1 : Sd N (if n % 2 = 1 then mmul f s else f) := by
        split
        · exact mmul_sd hf hs
        · exact hf
      have h2 : Sd N (if n / 2 > 0 then mmul s s else s) := by
        split
        · exact mmul_sd hs hs
        · exact hs
      obtain ⟨q1, q2⟩ := raiseLoop_sd fuel (n / 2) _ _ (by (first | lia | omega)) h1 h2
      refine ⟨q1, fun v => ?_⟩
      rw [q2]
      have e1 : itm N (if n / 2 > 0 then mmul s s else s) (n / 2) v = itm N s (2 * (n / 2)) v := by
        split
        · exact itm_sq hs _ _
        · rename_i h0
          rw [show n / 2 = 0 by (first | lia | omega)]
      rw [e1]
      split
      · rename_i hm
        rw [mmul_mv hf hs, ← itm_succ', show 2 * (n / 2) + 1 = n by (first | lia | omega)]
      · rename_i hm
        rw [show 2 * (n / 2) = n by (first | lia | omega)]
theorem raise_sd {N : Nat} {a : List (List Int)} (ha : Sd N a) (n : Nat) : Sd N (raiseS a n) := by
  unfold raiseS
  exact (raiseLoop_sd _ _ _ _ (by (first | lia | omega)) (by rw [ha.len]; exact idm_sd N) ha).1
theorem itm_len {N : Nat} {a : List (List Int)} (ha : Sd N a) : ∀ (n : Nat) (v : List Int), v.length = N → (itm N a n v).length = N
  | 0, v, h => h
  | n + 1, v, h => itm_len ha n _ (mv_len ha v)
theorem raise_mv {N : Nat} {a : List (List Int)} (ha : Sd N a) (n : Nat) {v : List Int} (hv : v.length = N) : mv N (raiseS a n) v = itm N a n v := by
  unfold raiseS
  rw [ha.len, (raiseLoop_sd _ _ _ _ (by (first | lia | omega)) (idm_sd N) ha).2, idm_mv (itm_len ha n v hv)]
theorem prod_eq {N : Nat} {a b : List (List Int)} (ha : Sd N a) (hb : Sd N b) : prodS a b = mmul a b := by
  unfold prodS mmul
  rw [hb.head, hb.len, ha.len]
  apply List.ext_getElem (by simp [ha.len])
  intro i h1 h2
  have hi : i < a.length := by rw [ha.len]; simpa using h1
  simp only [List.getElem_map, List.getElem_range]
  have e1 : a.getD i [] = a[i] := by rw [List.getD_eq_getElem?_getD, List.getElem?_eq_getElem hi]; rfl
  rw [e1]
noncomputable def powP (a : List (List Int)) : Nat → List (List Int)
  | 0 => idm a.length
  | n + 1 => prodS (powP a n) a
theorem powP_sd {N : Nat} {a : List (List Int)} (ha : Sd N a) : ∀ n, Sd N (powP a n)
  | 0 => by show Sd N (idm a.length); rw [ha.len]; exact idm_sd N
  | n + 1 => by
    show Sd N (prodS (powP a n) a)
    rw [prod_eq (powP_sd ha n) ha]; exact mmul_sd (powP_sd ha n) ha
theorem powP_mv {N : Nat} {a : List (List Int)} (ha : Sd N a) : ∀ (n : Nat) {v : List Int}, v.length = N → mv N (powP a n) v = itm N a n v
  | 0, v, hv => by show mv N (idm a.length) v = v; rw [ha.len]; exact idm_mv hv
  | n + 1, v, hv => by
    show mv N (prodS (powP a n) a) v = _
    rw [prod_eq (powP_sd ha n) ha, mmul_mv (powP_sd ha n) ha, powP_mv ha n (mv_len ha v)]; rfl
theorem raise_eq {N : Nat} {a : List (List Int)} (ha : Sd N a) (n : Nat) : raiseS a n = powP a n :=
  mat_ext (raise_sd ha n) (powP_sd ha n) fun v hv => by rw [raise_mv ha n hv, powP_mv ha n hv]
theorem raise_add {N : Nat} {a : List (List Int)} (ha : Sd N a) (m n : Nat) : raiseS a (m + n) = prodS (powP a m) (raiseS a n) := by
  rw [prod_eq (powP_sd ha m) (raise_sd ha n)]
  refine mat_ext (raise_sd ha _) (mmul_sd (powP_sd ha m) (raise_sd ha n)) fun v hv => ?_
  rw [raise_mv ha _ hv, mmul_mv (powP_sd ha m) (raise_sd ha n), raise_mv ha n hv, powP_mv ha m (itm_len ha n v hv), Nat.add_comm, itm_add]
noncomputable def state (f : Nat → Int) (N k : Nat) : List Int := (List.range N).map fun i => f (k + N - 1 - i)
theorem stepM_sd {steps : List Int} (hn : 0 < steps.length) : Sd steps.length (stepM steps) := by
  refine ⟨by simp [stepM]; (first | lia | omega), fun r hr => ?_⟩
  rcases List.mem_cons.mp hr with rfl | hr
  · rfl
  · obtain ⟨i, _, rfl⟩ := List.mem_map.mp hr
    simp
theorem step_state {steps first : List Int} (hl : first.length = steps.length) (hn : 0 < steps.length) (k : Nat) :
    mv steps.length (stepM steps) (state (rowF steps first) steps.length k) = state (rowF steps first) steps.length (k + 1) := by
  have hS := stepM_sd hn
  refine list_ext_getD (by rw [mv_len hS]; simp [state]) fun j hj => ?_
  rw [mv_len hS] at hj
  rw [mv_get _ (by rw [hS.len]; exact hj)]
  show _ = ((List.range steps.length).map _).getD j 0
  rw [getDi hj]
  have hst : ∀ i, i < steps.length → (state (rowF steps first) steps.length k).getD i 0 = rowF steps first (k + steps.length - 1 - i) := fun i hi => getDi hi
  cases j with
  | zero =>
    show dotN steps.length steps _ = _
    rw [show k + 1 + steps.length - 1 - 0 = k + steps.length by (first | lia | omega), rowF_rec hl (by (first | lia | omega))]
    unfold dotN
    congr 1
    exact List.map_congr_left fun i hi => by rw [hst i (List.mem_range.mp hi)]
  | succ j =>
    have e : (stepM steps).getD (j + 1) [] = (List.range steps.length).map fun spot => if spot = j then 1 else 0 := by
      show (((List.range (steps.length - 1)).map _)).getD j [] = _
      rw [getDr (by (first | lia | omega))]
    rw [e]
    unfold dotN
    have : ((List.range steps.length).map fun k_1 => ((List.range steps.length).map fun spot => if spot = j then (1 : Int) else 0).getD k_1 0 * (state (rowF steps first) steps.length k).getD k_1 0) =
        (List.range steps.length).map fun i => (state (rowF steps first) steps.length k).getD i 0 * (if i = j then (1 : Int) else 0) :=
      List.map_congr_left fun i hi => by rw [getDi (List.mem_range.mp hi), Int.mul_comm]
    rw [this, sum_pick (fun i => (state (rowF steps first) steps.length k).getD i 0) j _ (by (first | lia | omega)), hst j (by (first | lia | omega))]
    congr 1; (first | lia | omega)
theorem itm_state {steps first : List Int} (hl : first.length = steps.length) (hn : 0 < steps.length) : ∀ (m k : Nat), itm steps.length (stepM steps) m (state (rowF steps first) steps.length k) = state (rowF steps first) steps.length (k + m)
  | 0, k => rfl
  | m + 1, k => by
    show itm _ _ m (mv _ _ _) = _
    rw [step_state hl hn, itm_state hl hn m, show k + 1 + m = k + (m + 1) by (first | lia | omega)]
theorem led_eq {steps first : List Int} (hl : first.length = steps.length) (hn : 0 < steps.length) (m k : Nat) :
    dotN steps.length ((powP (stepM steps) m).getD 0 []) (state (rowF steps first) steps.length k) = rowF steps first (k + m + steps.length - 1) := by
  have hS := stepM_sd hn
  have h := congrArg (fun l => l.getD 0 0) (powP_mv hS m (v := state (rowF steps first) steps.length k) (by simp [state]))
  rw [mv_get _ (by rw [(powP_sd hS m).len]; exact hn), itm_state hl hn] at h
  rw [h]
  show ((List.range steps.length).map _).getD 0 0 = _
  rw [getDi hn, Nat.sub_zero]
theorem zip_dot : ∀ (N : Nat) (r v : List Int), r.length = N → v.length = N → (r.zipWith (· * ·) v).sum = dotN N r v
  | 0, [], [], _, _ => rfl
  | N + 1, a :: r, b :: v, h1, h2 => by
    rw [List.zipWith_cons_cons, List.sum_cons, zip_dot N r v (by simpa using h1) (by simpa using h2)]
    unfold dotN
    rw [List.range_succ_eq_map, List.map_cons, List.sum_cons, List.map_map]; rfl
theorem numberS_eq {steps first : List Int} (hl : first.length = steps.length) (n : Nat) : numberS steps first n = rowF steps first n := by
  unfold numberS
  by_cases h : n < steps.length
  · rw [if_pos h, rowF_first (by (first | lia | omega))]
  · rw [if_neg h]
    by_cases h0 : steps.length = 0
    · rw [if_pos h0, rowF_rec hl (by (first | lia | omega)), h0]; rfl
    · rw [if_neg h0]
      have hn : 0 < steps.length := by (first | lia | omega)
      have hS := stepM_sd hn
      have hR := raise_sd hS (n - steps.length + 1)
      rw [zip_dot steps.length _ _ hR.head (by simp [hl])]
      have e : first.reverse = state (rowF steps first) steps.length 0 := by
        refine list_ext_getD (by simp [state, hl]) fun j hj => ?_
        have hj' : j < steps.length := by simpa [hl] using hj
        show _ = ((List.range steps.length).map _).getD j 0
        rw [getDi hj', rowF_first (by (first | lia | omega)), List.getD_eq_getElem?_getD, List.getElem?_reverse (by (first | lia | omega)), List.getD_eq_getElem?_getD]
        congr 2; (first | lia | omega)
      have e2 : (raiseS (stepM steps) (n - steps.length + 1)).headD [] = (powP (stepM steps) (n - steps.length + 1)).getD 0 [] := by
        rw [raise_eq hS]
        cases (powP (stepM steps) (n - steps.length + 1)) <;> rfl
      rw [e, e2, led_eq hl hn]
      congr 1; (first | lia | omega)
theorem stepM_eq (steps : List Int) : stepM steps = steps :: (idm steps.length).take (steps.length - 1) := by
  unfold stepM idm
  congr 1
  rw [← List.map_take, List.take_range, show min (steps.length - 1) steps.length = steps.length - 1 by (first | lia | omega)]
  refine List.map_congr_left fun i _ => List.map_congr_left fun j _ => ?_
  by_cases e : j = i
  · rw [if_pos e, if_pos e.symm]
  · rw [if_neg e, if_neg fun q => e q.symm]
section
variable {prog : Program} {w : World} {hT : Heap} {k : Nat} {sc : Scope} {body : List Stmt}
theorem forP_range1 {x : Str} {n : Nat} {K : Out → Prop} (Iv : Nat → St → Prop) : ∀ (m i : Nat) (σ : St), i + m = n → Iv i σ →
    (∀ i, i < n → ∀ σ, Iv i σ → Exec prog w hT k sc body (σ.set x (.d (I ((i : Int) + 1)))) (fun o => match o with | .next σ' => Iv (i + 1) σ' | .ret d => K (.ret d))) → (∀ σ, Iv n σ → K (.next σ)) →
    forP x (fun σ K => Exec prog w hT k sc body σ K) ((List.range' i m).map fun (i : Nat) => I ((i : Int) + 1)) σ K
  | 0, i, σ, e, h, _, hend => hend σ (by have : i = n := by (first | lia | omega)
                                         exact this ▸ h)
  | m + 1, i, σ, e, h, step, hend => by
    rw [List.range'_succ, List.map_cons]
    refine (step i (by (first | lia | omega)) σ h).mono fun o ho => ?_
    cases o with
    | next σ' => exact forP_range1 Iv m (i + 1) σ' (by (first | lia | omega)) ho step hend
    | ret d => exact ho
theorem forP_rg1 {x : Str} {n : Nat} {K : Out → Prop} {σ : St} (Iv : Nat → St → Prop) (h : Iv 0 σ)
    (step : ∀ i, i < n → ∀ σ, Iv i σ → Exec prog w hT k sc body (σ.set x (.d (I ((i : Int) + 1)))) (fun o => match o with | .next σ' => Iv (i + 1) σ' | .ret d => K (.ret d))) (hend : ∀ σ, Iv n σ → K (.next σ)) :
    forP x (fun σ K => Exec prog w hT k sc body σ K) ((List.range n).map fun (i : Nat) => I ((i : Int) + 1)) σ K := by
  rw [List.range_eq_range']
  exact forP_range1 Iv n 0 σ (by (first | lia | omega)) h step hend
end
section
variable {prog : Program} {w : World} {hT : Heap} {mg mb : Str → Option Value} {k : Nat}
theorem series_numbers_ok (C : Cx prog hT mg mb) (GLl : LoadsG mg mb "list" (.type "list")) (GL : Glob prog w hT mg mb k Fn Gl (gsOf ["len", "min", "range", "rsub", "rmul", "rdiv"])) (pf : PF hT mg (rc 32)) : Ok prog w hT mg mb (k + 1) "series_numbers" := by
  refine ok_of_body C pf rfl ["f", "many"] (fun pm code doc vals h => by obtain ⟨a, b, rfl⟩ := len_two h; rfl) (by decide +kernel) fun ds r hF => ?_
  replace hF := hF.inv id_series_numbers
  obtain ⟨top, bottom, many, h0, h1, h2, h3, ht, hb, hf, rfl, rfl⟩ := hF
  refine ⟨rfl, ?_⟩
  have hbn : bottom ≠ [] := by rintro rfl; exact h0 rfl
  have hpos := List.length_pos_iff.mpr hbn
  let tb : PyData := .tuple [P top, P bottom]
  refine ex_cons (ex_unpack GL (n := 20) (m := 20) ?_ (by decide +kernel) (by decide +kernel) (by decide +kernel) rfl rfl)
  walk_at "mine ev"
  show Exec _ _ _ _ _ _ [D1 "f" tb, D1 "many" (I many), D1 "top" (P top), D1 "bottom" (P bottom)] _
  refine ex_cons (ex_if GL (n := 20) (m := 20) ?_ (by decide +kernel))
  walk_at "mine ev"
  refine ip_map (bottom.getD 0 0) (by decide) (by decide) (getD_of_get hpos) ?_
  walk_at "mine ev"
  refine cp_eqR (q := 0) ?_
  rw [show decide (bottom.getD 0 0 = 0) = false by simp only [decide_eq_false_iff_not]; exact h0]
  refine ex_nil ?_
  show Exec _ _ _ _ _ _ [D1 "f" tb, D1 "many" (I many), D1 "top" (P top), D1 "bottom" (P bottom)] _
  refine ex_cons (ex_own GL GLl (n := 20) (m := 20) ?_ (by decide +kernel) (by decide +kernel) rfl)
  show evEs _ _ _ _ _ _
  walk_at "mine ev"
  refine ⟨by simp, ?_⟩
  show Exec _ _ _ _ _ _ [D1 "f" tb, D1 "many" (I many), D1 "top" (P top), D1 "bottom" (P bottom), O1 "found" (([] : List Rat).map R)] _
  let base : List Rat → St → St := fun fs ex => D1 "f" tb :: D1 "many" (I many) :: D1 "top" (P top) :: D1 "bottom" (P bottom) :: O1 "found" (fs.map R) :: ex
  let acc : Nat → List Rat → Nat → Rat := fun n fs i => (List.range i).foldl (fun acc back => acc - bottom.getD (back + 1) 0 * fs.getD (fs.length - (back + 1)) 0) (top.getD fs.length 0)
  have accS : ∀ n fs i, acc n fs (i + 1) = acc n fs i - bottom.getD (i + 1) 0 * fs.getD (fs.length - (i + 1)) 0 := fun n fs i => by
    show List.foldl _ _ (List.range (i + 1)) = _
    rw [List.range_succ, List.foldl_append]; rfl
  have accB : ∀ n fs, (∀ c ∈ fs, Bt 1000 c) → ∀ i, Bt (100000 + 101001 * i) (acc n fs i) := fun n fs hfs i => by
    induction i with
    | zero => exact (ht.getD (by decide) _).mono (by (first | lia | omega))
    | succ i ih =>
      rw [accS n fs i]
      have hp : Bt (100000 + 1000) (bottom.getD (i + 1) 0 * fs.getD (fs.length - (i + 1)) 0) := (hb.getD (by decide) _).mul (Bp.getD (p := fs) hfs (by decide) _)
      exact (ih.sub hp).mono (by (first | lia | omega))
  have step : ∀ (fs : List Rat) (i : Nat), (∀ c ∈ fs, Bt 1000 c) → fs.length ≤ 20 → i < min fs.length (bottom.length - 1) → Exec prog w hT k (rc 32).scope (forB (nthS 1 (forB (nthS 3 (rc 32).body))))
      (base fs [D1 "n" (I fs.length), D1 "number" (R (acc 0 fs i)), D1 "back" (I ((i : Int) + 1))]) (fun o => o = .next (base fs [D1 "n" (I fs.length), D1 "number" (R (acc 0 fs (i + 1))), D1 "back" (I ((i : Int) + 1))])) := fun fs i hfs hfl hi => by
    refine ex_cons (ex_setF GL (n := 20) (m := 20) ?_ (by decide +kernel) (by decide +kernel) rfl)
    walk_at "mine ev"
    have e1 : ((i : Int) + 1).toNat = i + 1 := by (first | exact tnA _ _ | exact tnB _ _ | exact tnI _ | exact Int.toNat_sub _ _ | lia | omega)
    have e2 : ((fs.length : Int) - ((i : Int) + 1)).toNat = fs.length - (i + 1) := by (first | exact tnA _ _ | exact tnB _ _ | exact tnI _ | exact Int.toNat_sub _ _ | lia | omega)
    refine ip_map (bottom.getD (i + 1) 0) (by (first | lia | omega)) (by (first | lia | omega)) (by rw [e1]; exact getD_of_get (Nat.add_lt_of_lt_sub (Nat.lt_of_lt_of_le hi (Nat.min_le_right _ _)))) ?_
    walk_at "mine ev"
    refine ip_map (fs.getD (fs.length - (i + 1)) 0) (by (first | lia | omega)) (by (first | lia | omega)) (by rw [e2]; exact getD_of_get (Nat.sub_lt (Nat.lt_of_le_of_lt (Nat.zero_le _) (Nat.lt_of_lt_of_le hi (Nat.min_le_left _ _))) (Nat.succ_pos _))) ?_
    walk_at "mine ev"
    have hp : Bt (100000 + 1000) (bottom.getD (i + 1) 0 * fs.getD (fs.length - (i + 1)) 0) := (hb.getD (by decide) _).mul (Bp.getD (p := fs) hfs (by decide) _)
    refine ⟨_, .rmul _ _ ((hb.getD (by decide) _).mono (by decide)) ((Bp.getD (p := fs) hfs (by decide) _).mono (by decide)), ?_⟩
    walk_at "mine ev"
    refine ⟨_, .rsub _ _ ((accB 0 fs hfs i).mono (bndA hi h2)) (hp.mono (by decide)), ?_⟩
    refine ⟨rfl, ex_nil ?_⟩
    rw [← accS 0]; rfl
  have BODY : ∀ (fs : List Rat) (ex : St), (∀ c ∈ fs, Bt 1000 c) → fs.length ≤ 20 → (ex = [] ∨ (∃ x y, ex = [D1 "n" x, D1 "number" y]) ∨ ∃ x y z, ex = [D1 "n" x, D1 "number" y, D1 "back" z]) →
      Exec prog w hT k (rc 32).scope (forB (nthS 3 (rc 32).body)) ((base fs ex).set "n" (.d (I fs.length)))
        (fun o => ∃ ex', ((∃ x y, ex' = [D1 "n" x, D1 "number" y]) ∨ ∃ x y z, ex' = [D1 "n" x, D1 "number" y, D1 "back" z]) ∧ o = .next (base (fs ++ [serNum top bottom fs]) ex')) := fun fs ex hfs hfl hex => by
    have e2 : (fs.map R) ++ [R (serNum top bottom fs)] = (fs ++ [serNum top bottom fs]).map R := by rw [List.map_append]; rfl
    have hfin : acc 0 fs (min fs.length (bottom.length - 1)) / bottom.getD 0 0 = serNum top bottom fs := rfl
    have hmin : min (fs.length : Int) ((bottom.length : Int) - 1) + 1 = ((min fs.length (bottom.length - 1) + 1 : Nat) : Int) := minC hpos
    have hz : (((min fs.length (bottom.length - 1) + 1 : Nat) : Int) - 1).toNat = min fs.length (bottom.length - 1) := by (first | exact tnA _ _ | exact tnB _ _ | exact tnI _ | exact Int.toNat_sub _ _ | lia | omega)
    obtain ⟨tl0, tl, h0', h1', h2', h3', htl⟩ : ∃ tl0 tl : St, Sto.get (hid (base fs (D1 "n" (I fs.length) :: tl0))) "R0" = none ∧ (∀ a, St.set ex "n" a = (("n" : Str), a) :: tl0) ∧ (∀ a, St.set tl0 "number" a = (("number" : Str), a) :: tl) ∧ (∀ a, St.set tl "back" a = [(("back" : Str), a)]) ∧ (tl = [] ∨ ∃ z, tl = [D1 "back" z]) := by
      rcases hex with rfl | ⟨x, y, rfl⟩ | ⟨x, y, z, rfl⟩
      · exact ⟨[], [], rfl, fun _ => rfl, fun _ => rfl, fun _ => rfl, .inl rfl⟩
      · exact ⟨[D1 "number" y], [], rfl, fun _ => rfl, fun _ => rfl, fun _ => rfl, .inl rfl⟩
      · exact ⟨[D1 "number" y, D1 "back" z], [D1 "back" z], rfl, fun _ => rfl, fun _ => rfl, fun _ => rfl, .inr ⟨_, rfl⟩⟩
    show Exec _ _ _ _ _ _ (_ :: _ :: _ :: _ :: _ :: St.set ex "n" _) _
    rw [h1']
    refine ex_cons (ex_set GL (n := 20) (m := 20) ?_ (by decide +kernel) (by decide +kernel) rfl)
    refine cutE (R (acc 0 fs 0)) (fun Q' hQ' => ?_) ?_
    · walk_at "mine ev"
      refine ⟨_, .len _ (by simp; (first | lia | omega)), ?_⟩
      walk_at "mine ev"
      rw [List.length_map]
      by_cases hi : fs.length < top.length
      · rw [show decide ((fs.length : Int) < (top.length : Int)) = true by simp; (first | lia | omega)]
        show evE _ _ _ _ _ _
        walk_at "mine ev"
        exact ip_map (top.getD fs.length 0) (by (first | lia | omega)) (by (first | lia | omega)) (by rw [Int.toNat_natCast]; exact getD_of_get hi) hQ'
      · rw [show decide ((fs.length : Int) < (top.length : Int)) = false by simp; (first | lia | omega)]
        show evE _ _ _ _ _ _
        walk_at "mine ev"
        have : acc 0 fs 0 = 0 := getD_out (by (first | lia | omega))
        rw [this] at hQ'
        exact ee_glob h0' rfl hQ'
    · show Exec _ _ _ _ _ _ (_ :: _ :: _ :: _ :: _ :: D1 "n" (I fs.length) :: St.set tl0 "number" _) _
      rw [h2']
      refine ex_cons (ex_for GL (n := 20) (m := 20) ?_ (by decide +kernel) (by decide +kernel) (by decide +kernel))
      walk_at "mine ev"
      refine ⟨_, .len _ (by simp; (first | lia | omega)), ?_⟩
      walk_at "mine ev"
      refine ⟨_, .min _ _, ?_⟩
      walk_at "mine ev"
      rw [List.length_map, hmin]
      refine rp_2 (by (first | lia | omega)) (by (first | lia | omega)) ?_
      rw [hz]
      refine forP_rg1 (fun i σ => ∃ tl' : St, σ = base fs (D1 "n" (I fs.length) :: D1 "number" (R (acc 0 fs i)) :: tl') ∧ (∀ a, St.set tl' "back" a = [(("back" : Str), a)]) ∧ (tl' = [] ∨ ∃ z, tl' = [D1 "back" z])) ⟨tl, rfl, h3', htl⟩ (fun i hi σ hI => ?_) (fun σ hI => ?_)
      · obtain ⟨tl', rfl, h4, -⟩ := hI
        show Exec _ _ _ _ _ _ (_ :: _ :: _ :: _ :: _ :: D1 "n" _ :: D1 "number" _ :: St.set tl' "back" _) _
        rw [h4]
        refine Exec.mono (step fs i hfs hfl hi) fun o ho => ?_
        subst ho
        exact ⟨_, rfl, fun _ => rfl, .inr ⟨_, rfl⟩⟩
      · obtain ⟨tl', rfl, -, h5⟩ := hI
        show Exec _ _ _ _ _ _ _ _
        refine ex_cons (ex_append GL (n := 20) (m := 20) (xs := fs.map R) (.tail _ (.tail _ (.tail _ (.tail _ (.head _))))) (by simp; (first | lia | omega)) ?_ (by decide +kernel) (by decide +kernel) (by decide +kernel))
        walk_at "mine ev"
        refine ip_map (bottom.getD 0 0) (by decide) (by decide) (getD_of_get hpos) ?_
        walk_at "mine ev"
        refine ⟨_, .rdiv _ _ ((accB 0 fs hfs _).mono (bndB h2)) ((hb.getD (by decide) _).mono (by decide)) h0, ?_⟩
        rw [hfin, e2]
        refine ex_nil ⟨_, ?_, rfl⟩
        rcases h5 with rfl | ⟨z, rfl⟩
        · exact .inl ⟨_, _, rfl⟩
        · exact .inr ⟨_, _, _, rfl⟩
  refine ex_cons (ex_for GL (n := 20) (m := 20) ?_ (by decide +kernel) (by decide +kernel) (by decide +kernel))
  walk_at "mine ev"
  refine rp_1 (by (first | lia | omega)) (by (first | lia | omega)) ?_
  rw [Int.toNat_natCast]
  refine forP_rg (fun i σ => ∃ fs ex, σ = base fs ex ∧ fs.length = i ∧ serS top bottom (many - i) fs = serS top bottom many [] ∧ (ex = [] ∨ (∃ x y, ex = [D1 "n" x, D1 "number" y]) ∨ ∃ x y z, ex = [D1 "n" x, D1 "number" y, D1 "back" z])) ⟨[], [], rfl, rfl, rfl, .inl rfl⟩ (fun i hi σ hI => ?_) (fun σ hI => ?_)
  · obtain ⟨fs, ex, rfl, rfl, hs, hex⟩ := hI
    refine Exec.mono (BODY fs ex (fun c hc => hf c (by rw [← hs]; exact serS_mem _ _ _ hc)) (by (first | lia | omega)) hex) fun o ho => ?_
    obtain ⟨ex', hex', rfl⟩ := ho
    refine ⟨fs ++ [serNum top bottom fs], ex', rfl, by simp, ?_, .inr hex'⟩
    rw [← hs]
    conv => rhs; rw [show many - fs.length = (many - (fs.length + 1)) + 1 by (first | lia | omega)]
    rfl
  · obtain ⟨fs, ex, rfl, hfl, hs, hex⟩ := hI
    have hfs : fs = serS top bottom many [] := by rw [← hs, Nat.sub_self]; rfl
    show Exec _ _ _ _ _ _ _ _
    refine ex_cons (ex_return GL (n := 20) (m := 20) ?_ (by decide +kernel))
    walk_at "mine ev"
    rw [← hfs]
end
section
variable {prog : Program} {w : World} {hT : Heap} {mg mb : Str → Option Value} {k : Nat} {F : Tab} {G : Str → Option PyData} {gs : List Str × List Str} {sc : Scope} {σ : St} {K : Out → Prop}
theorem ex_rng (GL : Glob prog w hT mg mb k F G gs) {n m : Nat} {x : Str} {p p1 p2 pos : Pos} {args : List Expr}
    (h : evEs F G n (full σ) args (fun ds => match ds with | [.int b] => K (.next (σ.set x (.rng 0 b))) | _ => False)) (hok : args.all (okE gs m sc) = true) (hx : isVar sc x = true) (hr : sc.names.lookup ("range" : Str) = some .globalImplicit) :
    Ex1 prog w hT k sc (.Assign [.Name x p] (.Call (.Name "range" p1) args [] p2) pos) σ K := fun env e1 e2 A s B U own E hA hS => by
  subst e1
  refine wpAny_Assign_Name ?_ (noComp_swaps rfl _ _ _)
  refine call_go GL.cx (fun m es ρ env K A s W E => (sound_all GL n).2.1 m es ρ env K A s W E) h hok e2 hA hS.full (by decide +kernel) hr GL.range (.inr (.inl ⟨_, rfl⟩)) fun vs ds s₁ hK r ks => ?_
  split at hK
  · rename_i b
    cases r with
    | cons r1 r2 =>
    cases r1; cases r2
    have hS1 := hS.keeps (Keeps.heap ks)
    refine PySem.call_range_1 ?_
    exact assign_done e2 hS (Keeps.trans ks ⟨_, _, rfl, fun b o q => Heap.get?_push_of_some _ q⟩) hx (.inr ⟨0, b, rfl, rfl⟩) ⟨_, _, _, _, rfl, fun q => Nat.lt_irrefl _ (hS1.w.low _ q), IsRange.new _ _ _ _ _ _ _⟩ hK
  · exact hK.elim
end
theorem rangeD_n (n : Nat) : rangeD 0 (n : Int) = (List.range n).map fun (i : Nat) => I (i : Int) := by
  unfold rangeD
  rw [Int.sub_zero, Int.toNat_natCast]
  exact List.map_congr_left fun i _ => by simp
theorem ei_rngN {F : Tab} {G : Str → Option PyData} {n : Nat} {ρ : Sto} {K : List PyData → Prop} {x : Str} {p : Pos} {N : Nat} (e : ρ.get x = some (.rng 0 (N : Int))) (hN : N ≤ 10000) (h : K ((List.range N).map fun (i : Nat) => I (i : Int))) : evIt F G (n + 1) ρ (.Name x p) K :=
  ei_rng e ⟨by decide, by decide, by (first | lia | omega), by (first | lia | omega), by rw [rangeD_n]; simpa using hN, by rw [rangeD_n]; exact h⟩
section
variable {prog : Program} {w : World} {hT : Heap} {mg mb : Str → Option Value} {k : Nat}
theorem law_product_ok (C : Cx prog hT mg mb) (GL : Glob prog w hT mg mb k Fn Gl (gsOf ["len", "range", "sum"])) (pf : PF hT mg (rc 36)) : Ok prog w hT mg mb (k + 1) "_law_product" := by
  refine ok_of_body C pf rfl ["one", "other"] (fun pm code doc vals h => by obtain ⟨a, b, rfl⟩ := len_two h; rfl) (by decide +kernel) fun ds r hF => ?_
  replace hF := hF.inv id_law_product
  refine genP fun gP hgP => ?_
  obtain ⟨a, b, ha, hb, h1, h2, h3, h4, rfl, rfl⟩ := hF
  refine hgP ?_
  clear hgP
  refine ⟨rfl, ?_⟩
  refine ex_cons (ex_rng GL (n := 20) (m := 20) ?_ (by decide +kernel) (by decide +kernel) (by decide +kernel))
  walk_at "mine ev"
  refine ⟨_, .len _ (by simp; (first | lia | omega)), ?_⟩
  rw [List.length_map]
  walk_at "mine ev"
  show Exec _ _ _ _ _ _ [D1 "one" (M a), D1 "other" (M b), ("size", TV.rng 0 (a.length : Int))] _
  refine ex_cons (ex_return GL (n := 20) (m := 20) ?_ (by decide +kernel))
  walk_at "mine ev"
  refine ei_rngN (N := a.length) rfl (by (first | lia | omega)) ?_
  refine mapP_enc (enc := V) (fun row => (List.range a.length).map fun column => ((List.range a.length).map fun at' => (a.getD row []).getD at' 0 * (b.getD at' []).getD column 0).sum) (fun row hrow Q hQ => ?_) rfl
  show evE _ _ _ _ _ _
  walk_at "mine ev"
  refine ei_rngN (N := a.length) rfl (by (first | lia | omega)) ?_
  refine mapP_enc (enc := I) (fun column => ((List.range a.length).map fun at' => (a.getD row []).getD at' 0 * (b.getD at' []).getD column 0).sum) (fun column hcol Q hQ => ?_) hQ
  show evE _ _ _ _ _ _
  walk_at "mine ev"
  refine ei_rngN (N := a.length) rfl (by (first | lia | omega)) ?_
  refine mapP_enc (enc := I) (fun at' => (a.getD row []).getD at' 0 * (b.getD at' []).getD column 0) (fun at' hat Q hQ => ?_) ?_
  · have hr' := List.mem_range.mp hrow
    have hc' := List.mem_range.mp hcol
    have ha' := List.mem_range.mp hat
    have m1 : a.getD row [] ∈ a := by
      rw [List.getD_eq_getElem?_getD, List.getElem?_eq_getElem hr']; exact List.getElem_mem _
    have m2 : b.getD at' [] ∈ b := by
      rw [List.getD_eq_getElem?_getD, List.getElem?_eq_getElem (by (first | lia | omega))]; exact List.getElem_mem _
    have l1 := h1 _ m1
    have l2 := h2 _ m2
    show evE _ _ _ _ _ _
    walk_at "mine ev"
    refine ip_map (a.getD row []) (by (first | lia | omega)) (by (first | lia | omega)) (by rw [Int.toNat_natCast]; exact getD_of_get hr') ?_
    walk_at "mine ev"
    refine ip_map ((a.getD row []).getD at' 0) (by (first | lia | omega)) (by (first | lia | omega)) (by rw [Int.toNat_natCast]; exact getD_of_get (by (first | lia | omega))) ?_
    walk_at "mine ev"
    refine ip_map (b.getD at' []) (by (first | lia | omega)) (by (first | lia | omega)) (by rw [Int.toNat_natCast]; exact getD_of_get (by (first | lia | omega))) ?_
    walk_at "mine ev"
    refine ip_map ((b.getD at' []).getD column 0) (by (first | lia | omega)) (by (first | lia | omega)) (by rw [Int.toNat_natCast]; exact getD_of_get (by (first | lia | omega))) ?_
    exact bp_mul ((getD_bits (ha _ m1) _).sm (by decide)) ((getD_bits (hb _ m2) _).sm (by decide)) hQ
  · walk_at "mine ev"
    exact ⟨_, .sum _, hQ⟩
theorem R_int (x : Int) : R ((x : Int) : Rat) = .tuple [I x, I 1] := rfl
theorem Bz.cast {n : Nat} {x : Int} (h : Bz n x) (hn : 0 < n) : Bt n (x : Rat) := ⟨h, Nat.one_lt_two_pow (by (first | lia | omega))⟩
theorem top_bits {steps first : List Int} (h1 : first.length = steps.length) (h2 : steps.length ≤ 3) (hs : ∀ x ∈ steps, -2 ≤ x ∧ x ≤ 2) (hf : ∀ x ∈ first, -3 ≤ x ∧ x ≤ 3) : Bp 5 ((topS steps first).map fun (x : Int) => (x : Rat)) := by
  intro c hc
  obtain ⟨x, hx, rfl⟩ := List.mem_map.mp hc
  refine Bz.cast ?_ (by decide)
  obtain ⟨i, hi, rfl⟩ := List.mem_map.mp hx
  have hi' := List.mem_range.mp hi
  have h3 : (first.getD i 0).natAbs ≤ 3 := by
    have : first.getD i 0 ∈ first := by
      rw [List.getD_eq_getElem?_getD, List.getElem?_eq_getElem (by (first | lia | omega))]; exact List.getElem_mem _
    have := hf _ this
    (first | lia | omega)
  have hsum := sum_abs_le (N := 6) (l := (List.range i).map fun back => steps.getD back 0 * first.getD (i - (back + 1)) 0) fun y hy => by
    obtain ⟨j, hj, rfl⟩ := List.mem_map.mp hy
    have hj' := List.mem_range.mp hj
    rw [Int.natAbs_mul]
    have a1 : steps.getD j 0 ∈ steps := by
      rw [List.getD_eq_getElem?_getD, List.getElem?_eq_getElem (by (first | lia | omega))]; exact List.getElem_mem _
    have a2 : first.getD (i - (j + 1)) 0 ∈ first := by
      rw [List.getD_eq_getElem?_getD, List.getElem?_eq_getElem (by (first | lia | omega))]; exact List.getElem_mem _
    have b1 := hs _ a1
    have b2 := hf _ a2
    have c1 : (steps.getD j 0).natAbs ≤ 2 := by (first | lia | omega)
    have c2 : (first.getD (i - (j + 1)) 0).natAbs ≤ 3 := by (first | lia | omega)
    exact Nat.mul_le_mul c1 c2
  rw [List.length_map, List.length_range] at hsum
  unfold Bz
  have := Int.natAbs_sub_le (first.getD i 0) (((List.range i).map fun back => steps.getD back 0 * first.getD (i - (back + 1)) 0).sum)
  (first | lia | omega)
theorem bot_bits {steps : List Int} (hs : ∀ x ∈ steps, -2 ≤ x ∧ x ≤ 2) : Bp 5 (botS steps) := by
  intro c hc
  rcases List.mem_cons.mp hc with rfl | hc
  · exact ⟨by decide, by decide⟩
  · obtain ⟨x, hx, rfl⟩ := List.mem_map.mp hc
    refine Bz.cast ?_ (by decide)
    have := hs _ hx
    unfold Bz
    (first | omega | lia)
end
section
variable {prog : Program} {w : World} {hT : Heap} {mg mb : Str → Option Value} {k : Nat}
theorem trim_bits {n : Nat} {p : List Rat} (h : Bp n p) : Bp n (trim p) := fun c hc => h c (trim_mem hc)
theorem generating_ok (C : Cx prog hT mg mb) (GLl : LoadsG mg mb "list" (.type "list")) (GL : Glob prog w hT mg mb k Fn Gl (gsOf ["len", "range", "sum", "fmake"])) (pf : PF hT mg (rc 31)) : Ok prog w hT mg mb (k + 1) "generating" := by
  refine ok_of_body C pf rfl ["steps", "first"] (fun pm code doc vals h => by obtain ⟨a, b, rfl⟩ := len_two h; rfl) (by decide +kernel) fun ds r hF => ?_
  replace hF := hF.inv id_generating
  obtain ⟨steps, first, h1, h2, hs, hf, rfl, rfl⟩ := hF
  refine ⟨rfl, ?_⟩
  let tp : List Rat := (topS steps first).map fun (x : Int) => (x : Rat)
  let nm : Nat → Int := fun at' => first.getD at' 0 - ((List.range at').map fun back => steps.getD back 0 * first.getD (at' - (back + 1)) 0).sum
  refine ex_cons (ex_own GL GLl (n := 20) (m := 20) ?_ (by decide +kernel) (by decide +kernel) rfl)
  show evE _ _ _ _ _ _
  walk_at "mine ev"
  refine ⟨by simp, ?_⟩
  walk_at "mine ev"
  refine ei_name rfl ⟨by simp; (first | lia | omega), ?_⟩
  refine mapP_enc (enc := R) (fun (s : Int) => ((-s : Int) : Rat)) (fun s _ Q hQ => ?_) ?_
  · show evE _ _ _ _ _ _
    walk_at "mine ev"
    exact ⟨by simp, hQ⟩
  refine ⟨by simp; (first | lia | omega), ?_⟩
  show Exec _ _ _ _ _ _ [D1 "steps" (V steps), D1 "first" (V first), O1 "bottom" ((botS steps).map R)] _
  refine ex_cons (ex_own GL GLl (n := 20) (m := 20) ?_ (by decide +kernel) (by decide +kernel) rfl)
  show evEs _ _ _ _ _ _
  walk_at "mine ev"
  refine ⟨by simp, ?_⟩
  let base : List Rat → List Rat → St → St := fun b t ex => D1 "steps" (V steps) :: D1 "first" (V first) :: O1 "bottom" (b.map R) :: O1 "top" (t.map R) :: ex
  show Exec _ _ _ _ _ _ (base (botS steps) [] []) _
  have BODY : ∀ (i : Nat) (t : List Rat) (ex : St), i < steps.length → t.length = i → (ex = [] ∨ ∃ x y, ex = [D1 "at" x, D1 "number" y]) →
      Exec prog w hT k (rc 31).scope (forB (nthS 2 (rc 31).body)) ((base (botS steps) t ex).set "at" (.d (I i)))
        (fun o => ∃ x y, o = .next (base (botS steps) (t ++ [((nm i : Int) : Rat)]) [D1 "at" x, D1 "number" y])) := fun i t ex hi ht hex => by
    have e2 : (t.map R) ++ [R ((nm i : Int) : Rat)] = (t ++ [((nm i : Int) : Rat)]).map R := by rw [List.map_append]; rfl
    obtain ⟨tl, h1', h2'⟩ : ∃ tl : St, (∀ a, St.set ex "at" a = (("at" : Str), a) :: tl) ∧ ∀ a, St.set tl "number" a = [(("number" : Str), a)] := by
      rcases hex with rfl | ⟨x, y, rfl⟩
      · exact ⟨[], fun _ => rfl, fun _ => rfl⟩
      · exact ⟨[D1 "number" y], fun _ => rfl, fun _ => rfl⟩
    show Exec _ _ _ _ _ _ (_ :: _ :: _ :: _ :: St.set ex "at" _) _
    rw [h1']
    refine ex_cons (ex_set GL (n := 20) (m := 20) ?_ (by decide +kernel) (by decide +kernel) rfl)
    walk_at "mine ev"
    refine ip_map (first.getD i 0) (by (first | lia | omega)) (by (first | lia | omega)) (by rw [Int.toNat_natCast]; exact getD_of_get (by (first | lia | omega))) ?_
    walk_at "mine ev"
    refine ei_range ?_
    walk_at "mine ev"
    refine rp_2 (by (first | lia | omega)) (by (first | lia | omega)) ?_
    rw [show ((i : Int) + 1 - 1).toNat = i by (first | exact tnA _ _ | exact tnB _ _ | exact tnI _ | exact Int.toNat_sub _ _ | lia | omega)]
    refine mapP_enc (enc := I) (fun back => steps.getD back 0 * first.getD (i - (back + 1)) 0) (fun back hb Q hQ => ?_) ?_
    · have hb' := List.mem_range.mp hb
      show evE _ _ _ _ _ _
      walk_at "mine ev"
      refine ip_map (steps.getD back 0) (by (first | lia | omega)) (by (first | lia | omega)) (by rw [show ((back : Int) + 1 - 1).toNat = back by (first | exact tnA _ _ | exact tnB _ _ | exact tnI _ | exact Int.toNat_sub _ _ | lia | omega)]; exact getD_of_get (by (first | lia | omega))) ?_
      walk_at "mine ev"
      refine ip_map (first.getD (i - (back + 1)) 0) (by (first | lia | omega)) (by (first | lia | omega)) (by rw [show ((i : Int) - ((back : Int) + 1)).toNat = i - (back + 1) by (first | exact tnA _ _ | exact tnB _ _ | exact tnI _ | exact Int.toNat_sub _ _ | lia | omega)]; exact getD_of_get (by (first | lia | omega))) ?_
      have a1 : steps.getD back 0 ∈ steps := by
        rw [List.getD_eq_getElem?_getD, List.getElem?_eq_getElem (by (first | lia | omega))]; exact List.getElem_mem _
      have a2 : first.getD (i - (back + 1)) 0 ∈ first := by
        rw [List.getD_eq_getElem?_getD, List.getElem?_eq_getElem (by (first | lia | omega))]; exact List.getElem_mem _
      have b1 := hs _ a1
      have b2 := hf _ a2
      refine bp_mul (Bz.sm (n := 3) ?_ (by decide)) (Bz.sm (n := 3) ?_ (by decide)) hQ
      · unfold Bz; (first | lia | omega)
      · unfold Bz; (first | lia | omega)
    · walk_at "mine ev"
      refine ⟨_, .sum _, ?_⟩
      walk_at "mine ev"
      show Exec _ _ _ _ _ _ (_ :: _ :: _ :: _ :: D1 "at" (I i) :: St.set tl "number" (.d (I (nm i)))) _
      rw [h2']
      refine ex_cons (ex_append GL (n := 20) (m := 20) (xs := t.map R) (.tail _ (.tail _ (.tail _ (.head _)))) (by simp; (first | lia | omega)) ?_ (by decide +kernel) (by decide +kernel) (by decide +kernel))
      walk_at "mine ev"
      refine ⟨by simp, ?_⟩
      refine ex_nil ⟨I i, I (nm i), ?_⟩
      rw [← R_int, e2]; rfl
  refine ex_cons (ex_for GL (n := 20) (m := 20) ?_ (by decide +kernel) (by decide +kernel) (by decide +kernel))
  walk_at "mine ev"
  refine ⟨_, .len _ (by simp; (first | lia | omega)), ?_⟩
  rw [List.length_map]
  walk_at "mine ev"
  refine rp_1 (by (first | lia | omega)) (by (first | lia | omega)) ?_
  rw [Int.toNat_natCast]
  refine forP_rg (fun i σ => ∃ ex, σ = base (botS steps) ((List.range i).map fun j => ((nm j : Int) : Rat)) ex ∧ (ex = [] ∨ ∃ x y, ex = [D1 "at" x, D1 "number" y])) ⟨[], rfl, .inl rfl⟩ (fun i hi σ hI => ?_) (fun σ hI => ?_)
  · obtain ⟨ex, rfl, hex⟩ := hI
    refine Exec.mono (BODY i _ ex hi (by simp) hex) fun o ho => ?_
    obtain ⟨x, y, rfl⟩ := ho
    refine ⟨_, ?_, .inr ⟨x, y, rfl⟩⟩
    rw [List.range_succ, List.map_append]; rfl
  obtain ⟨ex, rfl, hex⟩ := hI
  have htp : ((List.range steps.length).map fun j => ((nm j : Int) : Rat)) = tp := by
    show _ = (topS steps first).map _
    rw [topS, List.map_map]; rfl
  rw [htp]
  have hbB : Bp 5 (trim (botS steps)) := trim_bits (bot_bits hs)
  have htB : Bp 5 (trim tp) := trim_bits (top_bits h1 h2 hs hf)
  have htl : (trim tp).length ≤ 3 := by
    have := trim_len tp
    have : tp.length = steps.length := by simp [tp, topS]
    (first | lia | omega)
  have hbl : (trim (botS steps)).length ≤ 4 := by
    have := trim_len (botS steps)
    have : (botS steps).length = steps.length + 1 := by simp [botS]
    (first | lia | omega)
  have hlead : trim tp ≠ [] → plead (trim tp) ≠ 0 := fun h => trim_lead h
  have END : ∀ ex, (ex = [] ∨ ∃ x y, ex = [D1 "at" x, D1 "number" y]) → Exec prog w hT k (rc 31).scope ((rc 31).body.drop 5) (base (trim (botS steps)) (trim tp) ex) (fun o => o = .ret (.tuple [P (generatingS steps first).1, P (generatingS steps first).2])) := fun ex hex => by
    refine ex_cons (ex_return GL (n := 20) (m := 20) ?_ (by decide +kernel))
    walk_at "mine ev"
    exact ⟨_, .fmake _ _ htB hbB htl hbl hlead trimBot.1 (fun h0 _ => (quot_ok hlead trimBot.1 trimBot.2).2.1), rfl⟩
  have form : ∀ l : List Rat, l ≠ [] → plead l = 0 → ∃ m, l = m ++ [0] ∧ trim l = trim m := fun l h e => by
    have := split_last h
    rw [e] at this
    refine ⟨l.dropLast, this, ?_⟩
    conv => lhs; rw [this]
    exact trim_snoc0 _
  have stay : ∀ l : List Rat, plead l ≠ 0 → trim l = l := fun l h => by
    have hn : l ≠ [] := by rintro rfl; exact h rfl
    rw [split_last hn]; exact trim_snoc h _
  have BOT : ∀ ex, (ex = [] ∨ ∃ x y, ex = [D1 "at" x, D1 "number" y]) → Exec prog w hT k (rc 31).scope ((rc 31).body.drop 4) (base (botS steps) (trim tp) ex) (fun o => o = .ret (.tuple [P (generatingS steps first).1, P (generatingS steps first).2])) := fun ex hex => by
    refine ex_cons (ex_while GL (n := 20) (m := 20) (fun j σ => ∃ b, σ = base b (trim tp) ex ∧ b.length = j ∧ trim b = trim (botS steps) ∧ b.length ≤ 4) (j := (botS steps).length) ⟨botS steps, rfl, rfl, rfl, by simp [botS]; (first | lia | omega)⟩ (fun j σ hI => ?_) (by decide +kernel))
    obtain ⟨b, rfl, rfl, hb, hbl⟩ := hI
    have hbn : b ≠ [] := by
      rintro rfl
      have := trimBot (steps := steps)
      rw [← hb] at this
      exact this.1 rfl
    have hz : Sto.get (full (base b (trim tp) ex)) "R0" = none := by rcases hex with rfl | ⟨x, y, rfl⟩ <;> rfl
    walk_at "mine ev"
    refine ip_last (plead b) (by (first | lia | omega)) (last_of hbn) ?_
    walk_at "mine ev"
    refine ee_glob hz rfl ?_
    refine cp_eqR (q := 0) ?_
    by_cases h0 : plead b = 0
    · rw [show decide (plead b = 0) = true by simp [h0]]
      obtain ⟨m, rfl, hm⟩ := form b hbn h0
      show Exec _ _ _ _ _ _ _ _
      refine ex_cons (ex_pop (xs := m.map R) (y := R 0) (by rw [← List.map_singleton (f := R), ← List.map_append]; exact .tail _ (.tail _ (.head _))) (by simp at hbl ⊢; (first | lia | omega)) ?_ (by decide +kernel) (by decide +kernel))
      exact ex_nil ⟨m.length, by simp, m, rfl, rfl, by rw [← hm]; exact hb, by simp at hbl; (first | lia | omega)⟩
    · rw [show decide (plead b = 0) = false by simp [h0]]
      have : b = trim (botS steps) := by rw [← hb, stay b h0]
      rw [this]
      show Exec _ _ _ _ _ _ _ _
      exact END ex hex
  have TOP : Exec prog w hT k (rc 31).scope ((rc 31).body.drop 3) (base (botS steps) tp ex) (fun o => o = .ret (.tuple [P (generatingS steps first).1, P (generatingS steps first).2])) := by
    refine ex_cons (ex_while GL (n := 20) (m := 20) (fun j σ => ∃ t, σ = base (botS steps) t ex ∧ t.length = j ∧ trim t = trim tp ∧ t.length ≤ 3) (j := tp.length) ⟨tp, rfl, rfl, rfl, by simp [tp, topS]; (first | lia | omega)⟩ (fun j σ hI => ?_) (by decide +kernel))
    obtain ⟨t, rfl, rfl, htt, htl⟩ := hI
    have hz : Sto.get (full (base (botS steps) t ex)) "R0" = none := by rcases hex with rfl | ⟨x, y, rfl⟩ <;> rfl
    walk_at "mine ev"
    refine ⟨_, .len _ (by simp; (first | lia | omega)), ?_⟩
    walk_at "mine ev"
    rw [List.length_map]
    by_cases hn : t = []
    · rw [show decide ((t.length : Int) > 0) = false by rw [hn]; rfl]
      have : t = trim tp := by rw [← htt, hn]; rfl
      rw [this]
      show Exec _ _ _ _ _ _ _ _
      exact BOT ex hex
    · have hpos := List.length_pos_iff.mpr hn
      rw [show decide ((t.length : Int) > 0) = true by simp; (first | lia | omega)]
      show evBs _ _ _ _ _ _ _
      walk_at "mine ev"
      refine ip_last (plead t) (by (first | lia | omega)) (last_of hn) ?_
      walk_at "mine ev"
      refine ee_glob hz rfl ?_
      refine cp_eqR (q := 0) ?_
      by_cases h0 : plead t = 0
      · rw [show decide (plead t = 0) = true by simp [h0]]
        obtain ⟨m, rfl, hm⟩ := form t hn h0
        show evBs _ _ _ _ _ _ _
        refine bs_nil ?_
        show Exec _ _ _ _ _ _ _ _
        refine ex_cons (ex_pop (xs := m.map R) (y := R 0) (by rw [← List.map_singleton (f := R), ← List.map_append]; exact .tail _ (.tail _ (.tail _ (.head _)))) (by simp at htl ⊢; (first | lia | omega)) ?_ (by decide +kernel) (by decide +kernel))
        exact ex_nil ⟨m.length, by simp, m, rfl, rfl, by rw [← hm]; exact htt, by simp at htl; (first | lia | omega)⟩
      · rw [show decide (plead t = 0) = false by simp [h0]]
        have : t = trim tp := by rw [← htt, stay t h0]
        rw [this]
        show Exec _ _ _ _ _ _ _ _
        exact BOT ex hex
  exact TOP
end
structure XC where
  Fr : Addr → Prop
  p : Addr
  P : Addr
  cells : List Int
noncomputable abbrev Non : Addr → Prop := fun _ => False
noncomputable abbrev XS := Nat × Bool
structure XOk (x : XC) (A : Around) (hT : Heap) (B U : Addr → Prop) (n : XS) (h : Heap) : Prop where
  subF : ∀ a, x.Fr a → B a
  dictF : ∀ a, x.Fr a → ¬ U a → ∃ o es k, h.get? a = some o ∧ o.data = .dict es k
  bp : B x.p
  bP : B x.P
  frames : ∃ l, A.frames = some l ∧ ∀ env ∈ l, env.scope.kind ≠ .module ∧ ∃ L, env.frame = some L ∧ x.Fr L
  pool : ∃ q t, h.PlainList x.p #[.ref q, .int (n.1 : Int) t] ∧ Rd (PW B h) (.ref q) (V x.cells)
  tab : ∃ ps, h.get? x.P = some (tabObj ps) ∧ (n.2 = true → ps = #[])
structure KeepX (x : XC) (Z : Addr → Prop) (s s' : Shared) : Prop where
  same : ∃ h tk, s' = { s with heap := h, toks := tk }
  keep : ∀ b o, ¬ Z b → ¬ x.Fr b → b ≠ x.p → b ≠ x.P → s.heap.get? b = some o → s'.heap.get? b = some o
  slots : ∀ b o, ¬ Z b → x.Fr b → s.heap.get? b = some o → ∃ sl, s'.heap.get? b = some { o with slots := sl }
  tab : ∀ ps, s.heap.get? x.P = some (tabObj ps) → ∃ ps', s'.heap.get? x.P = some (tabObj ps')
  live : ∀ b o, s.heap.get? b = some o → ∃ o', s'.heap.get? b = some o'
section
variable {x : XC} {A : Around} {hT h h' : Heap} {B U Z : Addr → Prop} {n : XS} {s s' s₁ s₂ : Shared} {env : Env} {σ : St}
theorem KeepX.trans (a : KeepX x Z s s₁) (b : KeepX x Z s₁ s₂) : KeepX x Z s s₂ := by
  obtain ⟨⟨h, t, rfl⟩, a1, a2, a3, a4⟩ := a
  obtain ⟨⟨h', t', rfl⟩, b1, b2, b3, b4⟩ := b
  refine ⟨⟨h', t', rfl⟩, fun c o z f p q e => b1 c o z f p q (a1 c o z f p q e), fun c o z f e => ?_, fun ps e => let ⟨ps', e'⟩ := a3 ps e; b3 ps' e', fun c o e => let ⟨o', e'⟩ := a4 c o e; b4 c o' e'⟩
  obtain ⟨sl, e1⟩ := a2 c o z f e
  obtain ⟨sl', e2⟩ := b2 c _ z f e1
  exact ⟨sl', e2⟩
theorem KeepX.ofKeeps (k : Keeps s s') : KeepX x Z s s' := by
  obtain ⟨h, t, rfl, hk⟩ := k
  exact ⟨⟨h, t, rfl⟩, fun b o _ _ _ _ e => hk b o e, fun b o _ _ e => ⟨o.slots, hk b o e⟩, fun ps e => ⟨ps, hk _ _ e⟩, fun b o e => ⟨o, hk b o e⟩⟩
theorem KeepX.wide (a : KeepX x Non s s') : KeepX x Z s s' :=
  ⟨a.same, fun b o _ => a.keep b o id, fun b o _ => a.slots b o id, a.tab, a.live⟩
theorem KeepX.refl (s : Shared) : KeepX x Z s s := .ofKeeps (Keeps.refl s)
theorem XOk.keeps (a : XOk x A hT B U n h) (hk : ∀ b o, h.get? b = some o → h'.get? b = some o) : XOk x A hT B U n h' :=
  ⟨a.subF, fun b f u => let ⟨o, es, k, e, d⟩ := a.dictF b f u; ⟨o, es, k, hk _ _ e, d⟩, a.bp, a.bP, a.frames, let ⟨q, t, ⟨k, e⟩, r⟩ := a.pool; ⟨q, t, ⟨k, hk _ _ e⟩, r.keeps hk⟩, let ⟨ps, e, f⟩ := a.tab; ⟨ps, hk _ _ e, f⟩⟩
theorem XOk.fldP (a : XOk x A hT B Non n h) {o : Obj} (e : h.get? x.P = some o) : (∀ v, o.data ≠ .cell v) ∧ (∀ es k, o.data ≠ .dict es k) ∧ (∀ vs k, o.data ≠ .seq vs k) := by
  obtain ⟨ps, e', _⟩ := a.tab
  rw [e] at e'; cases e'
  exact ⟨fun v q => (by cases q), fun es k q => (by cases q), fun es k q => (by cases q)⟩
theorem XOk.fldp (a : XOk x A hT B Non n h) {o : Obj} (e : h.get? x.p = some o) : (∀ v, o.data ≠ .cell v) ∧ (∀ es k, o.data ≠ .dict es k) := by
  refine genP fun gP hgP => ?_
  obtain ⟨q, t, ⟨k, e'⟩, _⟩ := a.pool
  refine hgP ?_
  clear hgP
  rw [e] at e'; cases e'
  exact ⟨fun v q => (by cases q), fun es k q => (by cases q)⟩
theorem KeepX.pw (k : KeepX x Z s s') (hZ : ∀ a, Z a → B a) (a : XOk x A hT B Non n s.heap) : ∀ b o, PW B s.heap b o → PW B s'.heap b o := fun b o q =>
  ⟨k.keep b o (fun z => q.2 (hZ b z)) (fun z => q.2 (a.subF b z)) (fun z => q.2 (z ▸ a.bp)) (fun z => q.2 (z ▸ a.bP)) q.1, q.2⟩
theorem KeepX.ns (k : KeepX x Z s s') (a : XOk x A hT B Non n s.heap) {c : Addr} {m : Str → Option Value} (hc : ¬ Z c) (q : s.heap.Ns c m) : s'.heap.Ns c m := by
  refine genP fun gP hgP => ?_
  obtain ⟨o, es, ep, e, d, r⟩ := q
  refine hgP ?_
  clear hgP
  by_cases f : x.Fr c
  · obtain ⟨sl, e'⟩ := k.slots c o hc f e
    exact ⟨_, es, ep, e', d, r⟩
  · exact ⟨o, es, ep, k.keep c o hc f (fun z => (a.fldp (z ▸ e)).2 _ _ d) (fun z => (a.fldP (z ▸ e)).2.1 _ _ d) e, d, r⟩
theorem KeepX.cell (k : KeepX x Z s s') (a : XOk x A hT B Non n s.heap) {c : Addr} {v : Option Value} (hc : ¬ Z c) (q : s.heap.IsCell c v) : s'.heap.IsCell c v := by
  obtain ⟨o, e, d⟩ := q
  by_cases f : x.Fr c
  · obtain ⟨sl, e'⟩ := k.slots c o hc f e
    exact ⟨_, e', d⟩
  · exact ⟨o, k.keep c o hc f (fun z => (a.fldp (z ▸ e)).1 _ d) (fun z => (a.fldP (z ▸ e)).1 _ d) e, d⟩
theorem KeepX.sees (k : KeepX x Non s s') (a : XOk x A hT B Non n s.heap) {y : Str} {v : Value} (q : Sees env s.heap y v) : Sees env s'.heap y v := by
  rcases q with ⟨k1, m, b, c⟩ | ⟨k1, c, b, d⟩
  · exact .inl ⟨k1, m, k.ns a id b, c⟩
  · exact .inr ⟨k1, c, b, k.cell a id d⟩
theorem BO_none : BO B (fun _ => none) = B := by
  funext a
  exact propext ⟨fun h => h.elim id fun ⟨_, q⟩ => (by cases q), Or.inl⟩
theorem KeepX.up (k : KeepX x Non s s') (a : XOk x A hT B Non n s.heap) (hw : WOk B hT s.heap) (hU : Up hT s.heap) : Up hT s'.heap := fun b o e => by
  have nb : ¬ B b := fun q => by rw [hw.old b q] at e; cases e
  exact k.keep b o id (fun z => nb (a.subF b z)) (fun z => nb (z ▸ a.bp)) (fun z => nb (z ▸ a.bP)) (hU b o e)
theorem KeepX.wok (k : KeepX x Non s s') (hw : WOk B hT s.heap) : WOk B hT s'.heap :=
  ⟨hw.old, fun a q => let ⟨b, o, hb, ho⟩ := hw.has a q; let ⟨o', ho'⟩ := k.live b o ho; ⟨b, o', hb, ho'⟩⟩
theorem SOk.keepX (S : SOk hT B U env σ (fun _ => none) s.heap) (a : XOk x A hT B Non n s.heap) (k : KeepX x Non s s') : SOk hT B U env σ (fun _ => none) s'.heap := by
  have hw : WOk B hT s.heap := S.wB
  have s1 : ∀ z sv, Sees1 env (BO B fun _ => none) s.heap z sv → Sees1 env (BO B fun _ => none) s'.heap z sv := fun z sv q =>
    let ⟨n, u, c, b⟩ := q; ⟨n, u, k.sees a c, b.mono (by rw [BO_none]; exact k.pw (fun _ => False.elim) a)⟩
  refine ⟨k.up a hw S.up, by rw [BO_none]; exact k.wok hw, S.sub, fun z hz => ?_, fun z c e => ?_, S.offB, S.inj, S.keys, fun z v m => s1 z _ (S.vd z v m), fun z c d m => s1 z _ (S.vr z c d m), fun z xs m => ?_, S.ow, fun z v m => let ⟨n, q⟩ := S.vv z v m; ⟨n, k.sees a q⟩⟩
  · obtain ⟨c, p, uc⟩ := S.frame z hz
    refine ⟨c, ?_, uc⟩
    rcases p with ⟨k1, e, m, q⟩ | ⟨k1, e, v, q⟩
    · exact .inl ⟨k1, e, m, k.ns a id q⟩
    · exact .inr ⟨k1, e, v, k.cell a id q⟩
  · obtain ⟨v, q⟩ := S.cells z c e
    exact ⟨v, k.cell a id q⟩
  · refine genP fun gP hgP => ?_
    obtain ⟨_, b, vs, e1, _⟩ := S.vo z xs m
    refine hgP ?_
    clear hgP
    cases e1
structure XOff (x : XC) (U : Addr → Prop) (env : Env) : Prop where
  p : ¬ U x.p
  P : ¬ U x.P
  F : ∀ a, x.Fr a → U a → a = env.locals
  loc : ∃ v, env.kindOf v = some .local
theorem XOk.relU (a : XOk x A hT B Non n s.heap) (hUB : ∀ a, U a → B a) (f : XOff x U env) (r : Rel U (fun _ => none) s (fun _ => none) s') : XOk x A hT B U n s'.heap := by
  have kp : ∀ b o, ¬ U b → s.heap.get? b = some o → s'.heap.get? b = some o := fun b o hu e => r.keep b o hu (fun _ q => by cases q) e
  refine ⟨a.subF, fun b fb ub => ?_, a.bp, a.bP, a.frames, ?_, ?_⟩
  · refine genP fun gP hgP => ?_
    obtain ⟨o, es, k, e, d⟩ := a.dictF b fb id
    refine hgP ?_
    clear hgP
    exact ⟨o, es, k, kp b o ub e, d⟩
  · refine genP fun gP hgP => ?_
    obtain ⟨q, t, ⟨k, e⟩, r⟩ := a.pool
    refine hgP ?_
    clear hgP
    exact ⟨q, t, ⟨k, kp _ _ f.p e⟩, r.mono fun b o z => ⟨kp b o (fun u => z.2 (hUB b u)) z.1, z.2⟩⟩
  · obtain ⟨ps, e, q⟩ := a.tab
    exact ⟨ps, kp _ _ f.P e, q⟩
theorem XOk.dict (a : XOk x A hT B U n s.heap) (S : SOk hT B U env σ (fun _ => none) s.heap) (f : XOff x U env) : XOk x A hT B Non n s.heap := by
  refine ⟨a.subF, fun b fb _ => ?_, a.bp, a.bP, a.frames, a.pool, a.tab⟩
  by_cases ub : U b
  · obtain ⟨v, hv⟩ := f.loc
    obtain ⟨c, p, _⟩ := S.frame v (.inl hv)
    rcases p with ⟨_, e, m, o, es, ep, ho, hd, _⟩ | ⟨k1, _⟩
    · rw [f.F b fb ub, ← e]
      exact ⟨o, es, ep, ho, hd⟩
    · rw [hv] at k1; cases k1
  · exact a.dictF b fb ub
theorem XOk.rel (a : XOk x A hT B Non n s.heap) (S : SOk hT B U env σ (fun _ => none) s'.heap) (f : XOff x U env) (r : Rel U (fun _ => none) s (fun _ => none) s') : XOk x A hT B Non n s'.heap :=
  (a.relU S.sub f r).dict S f
theorem XOk.weak (a : XOk x A hT B Non n h) : XOk x A hT B U n h := ⟨a.subF, fun b f _ => a.dictF b f id, a.bp, a.bP, a.frames, a.pool, a.tab⟩
theorem KeepX.ofRel (f : XOff x U env) (r : Rel U (fun _ => none) s (fun _ => none) s') : KeepX x U s s' :=
  ⟨r.same, fun b o u _ _ _ e => r.keep b o u (fun _ q => by cases q) e, fun b o u _ e => ⟨o.slots, r.keep b o u (fun _ q => (by cases q)) e⟩, fun ps e => ⟨ps, r.keep _ _ f.P (fun _ q => (by cases q)) e⟩, r.live⟩
end
noncomputable def ArgR (P : Addr → Obj → Prop) (v : Value) : TV → Prop
  | .d d => Rd P v d
  | .val u => v = u
  | _ => False
theorem ArgR.mono {P P' : Addr → Obj → Prop} (hs : ∀ a o, P a o → P' a o) {v : Value} : ∀ {tv : TV}, ArgR P v tv → ArgR P' v tv
  | .d _, h => Rd.mono hs h
  | .val _, h => h
  | .rng _ _, h => h.elim
  | .own _, h => h.elim
inductive ArgAll (P : Addr → Obj → Prop) : List Value → List TV → Prop
  | nil : ArgAll P [] []
  | cons {v : Value} {vs : List Value} {t : TV} {ts : List TV} : ArgR P v t → ArgAll P vs ts → ArgAll P (v :: vs) (t :: ts)
theorem ArgAll.mono {P P' : Addr → Obj → Prop} (hs : ∀ a o, P a o → P' a o) : ∀ {vs : List Value} {ts : List TV}, ArgAll P vs ts → ArgAll P' vs ts
  | _, _, .nil => .nil
  | _, _, .cons h r => .cons (h.mono hs) (r.mono hs)
theorem ArgAll.length {P : Addr → Obj → Prop} : ∀ {vs : List Value} {ts : List TV}, ArgAll P vs ts → vs.length = ts.length
  | _, _, .nil => rfl
  | _, _, .cons _ r => by rw [List.length_cons, List.length_cons, r.length]
theorem zip_memT {P : Addr → Obj → Prop} {x : Str} {tv : TV} : ∀ {names : List Str} {vs : List Value} {ts : List TV}, ArgAll P vs ts → (x, tv) ∈ names.zip ts → ∃ v, (x, v) ∈ names.zip vs ∧ ArgR P v tv
  | [], _, _, _, h => by cases h
  | n :: ns, _, _, .nil, h => by cases h
  | n :: ns, _, _, .cons (v := v) (t := t) r rs, h => by
    rw [List.zip_cons_cons] at h
    rcases List.mem_cons.mp h with e | h
    · cases e; exact ⟨v, .head _, r⟩
    · obtain ⟨v', e2, e3⟩ := zip_memT rs h
      exact ⟨v', .tail _ e2, e3⟩
section
variable {prog : Program} {w : World} {hT : Heap} {mg mb : Str → Option Value} {k : Nat}
theorem frame_laid {a : Addr} {fd : FuncData} {names : List Str}
    (hgl : fd.globals = mainGlobals) (hbu : fd.builtins = builtinsNs) (hsc : scopeOk fd.scope names = true)
    {ts : List TV} (hlen : ts.length = names.length) {A : Around} {s s₁ : Shared} {W : Addr → Prop} {vs : List Value} {env : Env} (hA : AIn (k + 1) A) (hU : Up hT s.heap) (hW : WOk W hT s.heap) (r : ArgAll (PW W s.heap) vs ts)
    (henv : callEnvC fd s.heap.objs.size a = env) (X : InCallC s env.locals (bindL env.kindOf (names.zip vs) fun _ => none) env.cells (bindC env.kindOf (names.zip vs) fun _ => none) s₁) :
    ∃ U : Addr → Prop, env.scope = fd.scope ∧ env.code = fd.code ∧ env.frame = some env.locals ∧ EnvOk env ∧ AIn k (A.deeper env) ∧ Keeps s s₁ ∧ U env.locals ∧ (∀ z, U z → s.heap.objs.size ≤ z) ∧ (∃ m, s₁.heap.Ns env.locals m) ∧
      SOk hT (fun z => W z ∨ U z) U env (names.zip ts) (fun _ => none) s₁.heap := by
  unfold scopeOk at hsc
  simp only [Bool.and_eq_true, beq_iff_eq, Bool.not_eq_true', decide_eq_true_eq, List.all_eq_true] at hsc
  refine genP fun gP hgP => ?_
  obtain ⟨⟨⟨⟨⟨s1, s2⟩, s3⟩, s4⟩, s5⟩, s6⟩ := hsc
  refine hgP ?_
  clear hgP
  have hvl : vs.length = names.length := by rw [r.length, hlen]
  have hvar : ∀ x ∈ names, (fd.scope.names.lookup x = some .local ∨ fd.scope.names.lookup x = some .cell) ∧ x ≠ (".0" : Str) := fun x hx => by
    have := s5 x hx
    unfold isVar at this
    simpa using this
  have noFree : ∀ x, fd.scope.names.lookup x ≠ some .free := fun x e => by
    have := s6 _ (mem_of_lookup e)
    simp at this
  have memN : ∀ {x v}, (x, v) ∈ names.zip vs → x ∈ names := fun {x v} h => (List.of_mem_zip h).1
  have esc : env.scope = fd.scope := by rw [← henv]; rfl
  have ecode : env.code = fd.code := by rw [← henv]; rfl
  have efr : env.frame = some env.locals := by rw [← henv]; rfl
  have ek : ∀ x, env.kindOf x = fd.scope.names.lookup x := fun x => by rw [← henv]; rfl
  have eL : env.locals = s.heap.objs.size := by rw [← henv]; rfl
  have ec : env.cells = cellsFrom (s.heap.objs.size + 1) fd.scope.names [] := by rw [← henv]; rfl
  have hI := X.toInCall
  let U : Addr → Prop := fun z => z = env.locals ∨ ∃ n, env.cells.lookup n = some z
  let B : Addr → Prop := fun z => W z ∨ U z
  have Ulow : ∀ z, U z → s.heap.objs.size ≤ z := by
    rintro z (rfl | ⟨n, q⟩)
    · exact hI.fresh
    · exact Nat.le_of_lt (Nat.lt_of_le_of_lt hI.fresh (X.above n z (mem_of_lookup q)))
  have Unot : ∀ z o, s.heap.get? z = some o → ¬ U z := fun z o e q => absurd (Heap.lt_size e) (Nat.not_lt.mpr (Ulow z q))
  have cellC : ∀ x, fd.scope.names.lookup x = some .cell → ∃ c, env.cells.lookup x = some c := fun x e => by
    rw [ec]; exact Option.isSome_iff_exists.mp (cellsFrom_some _ _ _ (.inl e))
  have hE : EnvOk env := by
    refine ⟨by rw [esc]; exact s1, by rw [← henv]; exact hgl, by rw [← henv]; exact hbu, fun x hx => ?_, fun x y c e1 e2 => name_of_addr X.apart (mem_of_lookup e1) (mem_of_lookup e2)⟩
    rw [ek] at hx
    rcases hx with hx | hx
    · exact cellC x hx
    · exact absurd hx (noFree x)
  have hmono : ∀ b o, PW W s.heap b o → PW (BO B fun _ => none) s₁.heap b o := fun b o q => ⟨hI.keep b o q.1, fun z => by
    rcases z with (z | z) | ⟨_, z⟩
    · exact q.2 z
    · exact Unot b o q.1 z
    · cases z⟩
  have hzk : ((names.zip vs).map (·.1)) = names := by
    rw [zip_keys, hvl, List.take_length]
  have see : ∀ {x v}, (x, v) ∈ names.zip vs → Sees env s₁.heap x v := fun {x v} e2 => by
    rcases (hvar x (memN e2)).1 with q | q
    · exact .inl ⟨by rw [ek]; exact q, _, hI.ns, bindL_get (by rw [hzk]; exact s4) (by rw [ek]; exact q) e2⟩
    · obtain ⟨c, hc⟩ := cellC x q
      refine .inr ⟨.inl (by rw [ek]; exact q), c, hc, ?_⟩
      have := X.cell x c hc
      rwa [bindC_get (by rw [hzk]; exact s4) (by rw [ek, q]; simp) e2] at this
  have hS : SOk hT B U env (names.zip ts) (fun _ => none) s₁.heap := by
    refine ⟨fun b o e => hI.keep b o (hU b o e), ⟨fun z q => ?_, fun z q => ?_⟩, fun z q => .inr q, fun x hx => ?_, fun x c e => ⟨_, X.cell x c e⟩, fun _ _ e => by (cases e), fun _ _ _ e => by (cases e), ?_, fun x v m => ?_, fun x p q m => ?_, fun x xs m => ?_, fun _ _ e => by (cases e), fun x v m => ?_⟩
    · rcases q with (q | q) | ⟨_, q⟩
      · exact hW.old z q
      · cases e : hT.get? z with
        | none => rfl
        | some o => exact absurd q (Unot z o (hU z o e))
      · cases q
    · rcases q with (q | q | ⟨n, q⟩) | ⟨_, q⟩
      · refine genP fun gP hgP => ?_
        obtain ⟨b, o, hb, ho⟩ := hW.has z q
        refine hgP ?_
        clear hgP
        exact ⟨b, o, hb, hI.keep b o ho⟩
      · refine genP fun gP hgP => ?_
        obtain ⟨o, es, ep, ho, _⟩ := hI.ns
        refine hgP ?_
        clear hgP
        exact ⟨_, o, Nat.le_of_eq q, ho⟩
      · obtain ⟨o, ho, _⟩ := X.cell n z q
        exact ⟨_, o, Nat.le_refl _, ho⟩
      · cases q
    · rcases hx with hx | hx
      · exact ⟨env.locals, .inl ⟨hx, rfl, _, hI.ns⟩, .inl rfl⟩
      · obtain ⟨c, hc⟩ := cellC x (by rw [← ek]; exact hx)
        exact ⟨c, .inr ⟨hx, hc, _, X.cell x c hc⟩, .inr ⟨x, hc⟩⟩
    · rw [zip_keys, hlen, List.take_length]; exact s4
    · obtain ⟨v', e2, e3⟩ := zip_memT r m
      exact ⟨(hvar x (memN e2)).2, v', see e2, Rd.mono hmono e3⟩
    · obtain ⟨v', e2, e3⟩ := zip_memT r m
      exact e3.elim
    · obtain ⟨v', e2, e3⟩ := zip_memT r m
      exact e3.elim
    · obtain ⟨v', e2, e3⟩ := zip_memT r m
      have e4 : v' = v := e3
      subst e4
      exact ⟨(hvar x (memN e2)).2, see e2⟩
  refine ⟨U, esc, ecode, efr, hE, hA.deeper (by rw [esc]; exact s3) (by rw [esc]; exact s2) hE.bui hE.glob, ?_, .inl rfl, Ulow, ⟨_, hI.ns⟩, hS⟩
  refine genP fun gP hgP => ?_
  obtain ⟨h₁, tk, e1, _⟩ := X.done
  refine hgP ?_
  clear hgP
  subst e1
  exact ⟨h₁, tk, rfl, hI.keep⟩
theorem fn_kind {sc : Scope} {names : List Str} (hsc : scopeOk sc names = true) {vs : List Value} {n : Nat} : (∀ x ∈ names.zip vs, sc.names.lookup x.1 = some .local ∨ (sc.names.lookup x.1 = some .cell ∧ ((cellsFrom n sc.names []).lookup x.1).isSome = true)) ∧ sc.isCoroutine = false ∧ sc.isGenerator = false ∧ sc.kind = .function := by
  unfold scopeOk at hsc
  simp only [Bool.and_eq_true, beq_iff_eq, Bool.not_eq_true', decide_eq_true_eq, List.all_eq_true] at hsc
  refine genP fun gP hgP => ?_
  obtain ⟨⟨⟨⟨⟨s1, s2⟩, s3⟩, s4⟩, s5⟩, s6⟩ := hsc
  refine hgP ?_
  clear hgP
  refine ⟨fun x hx => ?_, s2, s3, s1⟩
  obtain ⟨y, v⟩ := x
  have hv : (sc.names.lookup y = some .local ∨ sc.names.lookup y = some .cell) ∧ y ≠ (".0" : Str) := by
    have := s5 y (List.of_mem_zip hx).1
    unfold isVar at this
    simpa using this
  rcases hv.1 with e | e
  · exact .inl e
  · exact .inr ⟨e, cellsFrom_some _ _ _ (.inl e)⟩
theorem fn_enter (C : Cx prog hT mg mb) {a : Addr} {fo : Obj} {fd : FuncData} {body : List Stmt} {names : List Str} (hcode : ∀ {h : Heap}, Up hT h → h.CodeRec fd.code fd.qualname) (hd : fo.data = .func fd) (hbody : fd.body = .stmts body) (hclo : fd.closure = [])
    (hgl : fd.globals = mainGlobals) (hbu : fd.builtins = builtinsNs) (hbind : ∀ vals : List Value, vals.length = names.length → bindArgs fd ⟨vals, []⟩ = pure (names.zip vals)) (hsc : scopeOk fd.scope names = true)
    {ts : List TV} (hlen : ts.length = names.length) {A : Around} {s : Shared} {W : Addr → Prop} {vs : List Value} {R : Result → Shared → Prop} (hA : AIn (k + 1) A) (ho : s.heap.get? a = some fo) (hU : Up hT s.heap) (hW : WOk W hT s.heap) (r : ArgAll (PW W s.heap) vs ts)
    (h : ∀ (env : Env) (s₁ : Shared) (U : Addr → Prop), env.scope = fd.scope → env.code = fd.code → env.frame = some env.locals → EnvOk env → AIn k (A.deeper env) → Keeps s s₁ → U env.locals → (∀ z, U z → s.heap.objs.size ≤ z) → (∃ m, s₁.heap.Ns env.locals m) →
      SOk hT (fun z => W z ∨ U z) U env (names.zip ts) (fun _ => none) s₁.heap →
      wpAny (model prog w) (A.deeper env) (execs body env) (fun f s' => R (.ok (.ret (match f with | .ret v => v | _ => .none))) s')
        (fun e s' => wpAny (model prog w) (A.deeper env) (leaving env e) (fun _ s'' => R (.error e) s'') (fun e' s'' => R (.error e') s'') s') s₁) :
    codeAny (model prog w) A (.call (.ref a) ⟨vs, []⟩) R s := by
  refine genP fun gP hgP => ?_
  obtain ⟨k1, k2, k3, k4⟩ := fn_kind hsc (vs := vs) (n := s.heap.objs.size + 1)
  refine hgP ?_
  clear hgP
  refine codeAny_call_cells (fd := fd) (binds := names.zip vs) (by have := hA.depth; (first | lia | omega)) ho hd (C.nolimit.keeps hU) (hcode hU) hbody (hbind vs (by rw [r.length, hlen])) hclo k1 (fun s₁ X => ?_) k2 k3 k4
  refine genP fun gP hgP => ?_
  obtain ⟨U, a1, a2, a3, a4, a5, a6, a7, a8, a9, a10⟩ := frame_laid hgl hbu hsc hlen hA hU hW r rfl X
  refine hgP ?_
  clear hgP
  exact h _ s₁ U a1 a2 a3 a4 a5 a6 a7 a8 a9 a10
theorem fn_enterE (C : Cx prog hT mg mb) {a : Addr} {fo : Obj} {fd : FuncData} {body : Expr} {names : List Str} (hd : fo.data = .func fd) (hbody : fd.body = .expr body) (hclo : fd.closure = [])
    (hgl : fd.globals = mainGlobals) (hbu : fd.builtins = builtinsNs) (hbind : ∀ vals : List Value, vals.length = names.length → bindArgs fd ⟨vals, []⟩ = pure (names.zip vals)) (hsc : scopeOk fd.scope names = true)
    {ts : List TV} (hlen : ts.length = names.length) {A : Around} {s : Shared} {W : Addr → Prop} {vs : List Value} {R : Result → Shared → Prop} (hA : AIn (k + 1) A) (ho : s.heap.get? a = some fo) (hcd : s.heap.CodeRec fd.code fd.qualname) (hU : Up hT s.heap) (hW : WOk W hT s.heap) (r : ArgAll (PW W s.heap) vs ts)
    (h : ∀ (env : Env) (s₁ : Shared) (U : Addr → Prop), env.scope = fd.scope → env.code = fd.code → env.frame = some env.locals → EnvOk env → AIn k (A.deeper env) → Keeps s s₁ → U env.locals → (∀ z, U z → s.heap.objs.size ≤ z) → (∃ m, s₁.heap.Ns env.locals m) →
      SOk hT (fun z => W z ∨ U z) U env (names.zip ts) (fun _ => none) s₁.heap →
      wpAny (model prog w) (A.deeper env) (eval body env) (fun v s' => R (.ok (.ret v)) s')
        (fun e s' => wpAny (model prog w) (A.deeper env) (leaving env e) (fun _ s'' => R (.error e) s'') (fun e' s'' => R (.error e') s'') s') s₁) :
    codeAny (model prog w) A (.call (.ref a) ⟨vs, []⟩) R s := by
  refine genP fun gP hgP => ?_
  obtain ⟨k1, k2, k3, k4⟩ := fn_kind hsc (vs := vs) (n := s.heap.objs.size + 1)
  refine hgP ?_
  clear hgP
  refine kla_callFunE (by have := hA.depth; (first | lia | omega)) ho hd k2 k3 hbody hcd ?_
  rw [hbind vs (by rw [r.length, hlen]), hclo]
  refine wpAny_pure (wpAny_newFunctionEnv_cells k4 k1 fun env he s₁ X => ?_)
  subst he
  refine genP fun gP hgP => ?_
  obtain ⟨U, a1, a2, a3, a4, a5, a6, a7, a8, a9, a10⟩ := frame_laid (a := a) hgl hbu hsc hlen hA hU hW r rfl X
  refine hgP ?_
  clear hgP
  exact ⟨(C.nolimit.keeps hU).keeps X.toInCall.keep, kla_codeExpr (h _ s₁ U a1 a2 a3 a4 a5 a6 a7 a8 a9 a10)⟩
end
noncomputable def XGood (x : XC) (A : Around) (hT : Heap) (B : Addr → Prop) (s : Shared) (K : PyData → XS → Prop) (v : Value) (s' : Shared) : Prop :=
  ∃ d n', K d n' ∧ Rd (PW B s'.heap) v d ∧ XOk x A hT B Non n' s'.heap ∧ KeepX x Non s s'
noncomputable def XE (prog : Program) (w : World) (hT : Heap) (k : Nat) (sc : Scope) (x : XC) (σ : St) (n : XS) (e : Expr) (K : PyData → XS → Prop) : Prop :=
  ∀ (env : Env), env.scope = sc → EnvOk env → ∀ (A : Around) (s : Shared) (B U : Addr → Prop) (E : Value → Shared → Prop), AIn k A → SOk hT B U env σ (fun _ => none) s.heap → XOk x A hT B Non n s.heap → XOff x U env →
    wpAny (model prog w) A (eval e env) (XGood x A hT B s K) E s
noncomputable def XB (prog : Program) (w : World) (hT : Heap) (k : Nat) (sc : Scope) (x : XC) (σ : St) (n : XS) (e : Expr) (K : Bool → XS → Prop) : Prop :=
  ∀ (env : Env), env.scope = sc → EnvOk env → ∀ (A : Around) (s : Shared) (B U : Addr → Prop) (E : Value → Shared → Prop), AIn k A → SOk hT B U env σ (fun _ => none) s.heap → XOk x A hT B Non n s.heap → XOff x U env →
    wpAny (model prog w) A (isTrue e env (eval e env)) (fun b s' => ∃ n', K b n' ∧ XOk x A hT B Non n' s'.heap ∧ KeepX x Non s s') E s
noncomputable def XBs (prog : Program) (w : World) (hT : Heap) (k : Nat) (sc : Scope) (x : XC) (σ : St) (n : XS) (op : BoolOp) (es : List Expr) (K : Bool → XS → Prop) : Prop :=
  ∀ (env : Env), env.scope = sc → EnvOk env → ∀ (A : Around) (s : Shared) (B U : Addr → Prop) (E : Value → Shared → Prop), AIn k A → SOk hT B U env σ (fun _ => none) s.heap → XOk x A hT B Non n s.heap → XOff x U env →
    wpAny (model prog w) A (allTrue op es env) (fun b s' => ∃ n', K b n' ∧ XOk x A hT B Non n' s'.heap ∧ KeepX x Non s s') E s
noncomputable def XA (prog : Program) (w : World) (hT : Heap) (k : Nat) (sc : Scope) (x : XC) (σ : St) (n : XS) (e : Expr) (K : TV → XS → Prop) : Prop :=
  ∀ (env : Env), env.scope = sc → EnvOk env → ∀ (A : Around) (s : Shared) (B U : Addr → Prop) (E : Value → Shared → Prop), AIn k A → SOk hT B U env σ (fun _ => none) s.heap → XOk x A hT B Non n s.heap → XOff x U env →
    wpAny (model prog w) A (eval e env) (fun v s' => ∃ t n', K t n' ∧ ArgR (PW B s'.heap) v t ∧ XOk x A hT B Non n' s'.heap ∧ KeepX x Non s s') E s
noncomputable def XAs (prog : Program) (w : World) (hT : Heap) (k : Nat) (sc : Scope) (x : XC) (σ : St) (n : XS) (es : List Expr) (K : List TV → XS → Prop) : Prop :=
  ∀ (env : Env), env.scope = sc → EnvOk env → ∀ (A : Around) (s : Shared) (B U : Addr → Prop) (E : Value → Shared → Prop), AIn k A → SOk hT B U env σ (fun _ => none) s.heap → XOk x A hT B Non n s.heap → XOff x U env →
    wpAny (model prog w) A (spliced (es.map fun e => (false, eval e env))) (fun vs s' => ∃ ts n', K ts n' ∧ ArgAll (PW B s'.heap) vs ts ∧ XOk x A hT B Non n' s'.heap ∧ KeepX x Non s s') E s
noncomputable def XCall (prog : Program) (w : World) (hT : Heap) (k : Nat) (x : XC) (fv : Value) (ts : List TV) (n : XS) (K : PyData → XS → Prop) : Prop :=
  ∀ (A : Around) (s : Shared) (B : Addr → Prop) (vs : List Value) (E : Value → Shared → Prop), AIn k A → Up hT s.heap → WOk B hT s.heap → XOk x A hT B Non n s.heap → ArgAll (PW B s.heap) vs ts →
    wpAny (model prog w) A (call fv vs) (XGood x A hT B s K) E s
noncomputable def XAfter (x : XC) (A : Around) (hT : Heap) (B U : Addr → Prop) (env : Env) (K : Out → XS → Prop) (s : Shared) (f : Flow) (s' : Shared) : Prop := match f with
  | .next => ∃ σ' n', K (.next σ') n' ∧ SOk hT B U env σ' (fun _ => none) s'.heap ∧ XOk x A hT B Non n' s'.heap ∧ KeepX x U s s'
  | .ret v => ∃ d n', K (.ret d) n' ∧ Rd (PW B s'.heap) v d ∧ XOk x A hT B U n' s'.heap ∧ KeepX x U s s'
  | _ => False
noncomputable def XEx1 (prog : Program) (w : World) (hT : Heap) (k : Nat) (sc : Scope) (x : XC) (st : Stmt) (σ : St) (n : XS) (K : Out → XS → Prop) : Prop :=
  ∀ (env : Env), env.scope = sc → EnvOk env → ∀ (A : Around) (s : Shared) (B U : Addr → Prop) (E : Value → Shared → Prop), AIn k A → SOk hT B U env σ (fun _ => none) s.heap → XOk x A hT B Non n s.heap → XOff x U env →
    wpAny (model prog w) A (exec st env) (XAfter x A hT B U env K s) E s
noncomputable def XExec (prog : Program) (w : World) (hT : Heap) (k : Nat) (sc : Scope) (x : XC) (sts : List Stmt) (σ : St) (n : XS) (K : Out → XS → Prop) : Prop :=
  ∀ (env : Env), env.scope = sc → EnvOk env → ∀ (A : Around) (s : Shared) (B U : Addr → Prop) (E : Value → Shared → Prop), AIn k A → SOk hT B U env σ (fun _ => none) s.heap → XOk x A hT B Non n s.heap → XOff x U env →
    wpAny (model prog w) A (execs sts env) (XAfter x A hT B U env K s) E s
noncomputable def noOwn (σ : St) : Bool := σ.all fun p => match p.2 with | .own _ => false | _ => true
theorem noOwn_ {σ : St} (h : noOwn σ = true) {x : Str} {xs : List PyData} (m : (x, TV.own xs) ∈ σ) : False := by
  have := List.all_eq_true.mp h _ m
  simp at this
section
variable {prog : Program} {w : World} {hT : Heap} {mg mb : Str → Option Value} {k : Nat} {F : Tab} {G : Str → Option PyData} {gs : List Str × List Str} {sc : Scope} {σ : St} {x : XC} {n : XS}
theorem XGood.pre {A : Around} {B : Addr → Prop} {s s₁ s' : Shared} {K : PyData → XS → Prop} {v : Value} (a : KeepX x Non s s₁) (g : XGood x A hT B s₁ K v s') : XGood x A hT B s K v s' :=
  let ⟨d, n', h1, h2, h3, h4⟩ := g; ⟨d, n', h1, h2, h3, a.trans h4⟩
theorem xe_pure (GL : Glob prog w hT mg mb k F G gs) {i m : Nat} {e : Expr} {K : PyData → XS → Prop} (h : evE F G i (full σ) e (fun d => K d n)) (hok : okE gs m sc e = true) : XE prog w hT k sc x σ n e K :=
  fun env e1 e2 A s B U E hA hS hX hF => by
    subst e1
    refine wpAny_mono (soundE GL h hok e2 hA hS.full) (fun v s₁ y => ?_) fun _ _ e => e
    obtain ⟨d, hd, rd, ks⟩ := y
    exact ⟨d, n, hd, rd, hX.keeps (Keeps.heap ks), .ofKeeps ks⟩
theorem xe_bin (C : Cx prog hT mg mb) {l r : Expr} {op : Operator} {p : Pos} {K : PyData → XS → Prop} (h : XE prog w hT k sc x σ n l (fun a n1 => XE prog w hT k sc x σ n1 r (fun b n2 => binP op a b (fun d => K d n2)))) : XE prog w hT k sc x σ n (.BinOp l op r p) K :=
  fun env e1 e2 A s B U E hA hS hX hF => by
    refine wpAny_BinOp (wpAny_mono (h env e1 e2 A s B U E hA hS hX hF) (fun va s₁ y => ?_) fun _ _ e => e)
    refine genP fun gP hgP => ?_
    obtain ⟨a, n1, ha, ra, x1, k1⟩ := y
    refine hgP ?_
    clear hgP
    have hS1 := hS.keepX hX k1
    refine wpAny_mono (ha env e1 e2 A s₁ B U E hA hS1 x1 hF) (fun vb s₂ y => ?_) fun _ _ e => e
    refine genP fun gP hgP => ?_
    obtain ⟨b, n2, hb, rb, x2, k2⟩ := y
    refine hgP ?_
    clear hgP
    have hS2 := hS1.keepX x1 k2
    refine wpAny_mono (bin_sound (W := B) C hA hS2.up hS2.wB.low (ra.mono (k2.pw (fun _ => False.elim) x1)) rb hb) (fun v s₃ y => ?_) fun _ _ e => e
    refine genP fun gP hgP => ?_
    obtain ⟨d, hd, rd, ks⟩ := y
    refine hgP ?_
    clear hgP
    exact ⟨d, n2, hd, rd, x2.keeps (Keeps.heap ks), (k1.trans k2).trans (.ofKeeps ks)⟩
theorem xe_cmp {l r : Expr} {op : CmpOp} {p : Pos} {K : PyData → XS → Prop} (hm : behindInMarks op r = false) (h : XE prog w hT k sc x σ n l (fun a n1 => XE prog w hT k sc x σ n1 r (fun b n2 => cmpP op a b (fun c => K (.bool c) n2)))) : XE prog w hT k sc x σ n (.Compare l [op] [r] p) K :=
  fun env e1 e2 A s B U E hA hS hX hF => by
    refine wpAny_Compare1 (hm := hm) (wpAny_mono (h env e1 e2 A s B U E hA hS hX hF) (fun va s₁ y => ?_) fun _ _ e => e)
    refine genP fun gP hgP => ?_
    obtain ⟨a, n1, ha, ra, x1, k1⟩ := y
    refine hgP ?_
    clear hgP
    have hS1 := hS.keepX hX k1
    refine wpAny_mono (ha env e1 e2 A s₁ B U E hA hS1 x1 hF) (fun vb s₂ y => ?_) fun _ _ e => e
    refine genP fun gP hgP => ?_
    obtain ⟨b, n2, hb, rb, x2, k2⟩ := y
    refine hgP ?_
    clear hgP
    refine wpAny_mono (cmp_sound (W := B) hA (ra.mono (k2.pw (fun _ => False.elim) x1)) rb hb) (fun vc s₃ y => ?_) fun _ _ e => e
    refine genP fun gP hgP => ?_
    obtain ⟨c, hc, rfl, rfl⟩ := y
    refine hgP ?_
    clear hgP
    exact ⟨_, n2, hc, .bool c, x2, k1.trans k2⟩
theorem xe_or {a b : Expr} {p : Pos} {K : PyData → XS → Prop} (h : XE prog w hT k sc x σ n a (fun d n1 => truthP d fun t => match t with | true => K d n1 | false => XE prog w hT k sc x σ n1 b K)) : XE prog w hT k sc x σ n (.BoolOp .Or [a, b] p) K :=
  fun env e1 e2 A s B U E hA hS hX hF => by
    refine wpAny_Or2 (wpAny_mono (h env e1 e2 A s B U E hA hS hX hF) (fun v s₁ y => ?_) fun _ _ e => e)
    refine genP fun gP hgP => ?_
    obtain ⟨d, n1, hd, rd, x1, k1⟩ := y
    refine hgP ?_
    clear hgP
    refine wpAny_mono (truth_sound rd hd) (fun t s₂ y => ?_) fun _ _ e => e
    obtain ⟨hb, rfl⟩ := y
    cases t with
    | true => exact ⟨d, n1, hb, rd, x1, k1⟩
    | false => exact wpAny_mono (hb env e1 e2 A s₂ B U E hA (hS.keepX hX k1) x1 hF) (fun v s₃ y => y.pre k1) fun _ _ e => e
theorem xb_cmp {l r : Expr} {op : CmpOp} {p : Pos} {K : Bool → XS → Prop} (hm : behindInMarks op r = false) (h : XE prog w hT k sc x σ n l (fun a n1 => XE prog w hT k sc x σ n1 r (fun b n2 => cmpP op a b (fun c => K c n2)))) : XB prog w hT k sc x σ n (.Compare l [op] [r] p) K :=
  fun env e1 e2 A s B U E hA hS hX hF => by
    refine wpAny_isTrue_Compare1 (hm := hm) (wpAny_mono (h env e1 e2 A s B U E hA hS hX hF) (fun va s₁ y => ?_) fun _ _ e => e)
    refine genP fun gP hgP => ?_
    obtain ⟨a, n1, ha, ra, x1, k1⟩ := y
    refine hgP ?_
    clear hgP
    have hS1 := hS.keepX hX k1
    refine wpAny_mono (ha env e1 e2 A s₁ B U E hA hS1 x1 hF) (fun vb s₂ y => ?_) fun _ _ e => e
    refine genP fun gP hgP => ?_
    obtain ⟨b, n2, hb, rb, x2, k2⟩ := y
    refine hgP ?_
    clear hgP
    refine wpAny_mono (cmp_sound (W := B) hA (ra.mono (k2.pw (fun _ => False.elim) x1)) rb hb) (fun vc s₃ y => ?_) fun _ _ e => e
    refine genP fun gP hgP => ?_
    obtain ⟨c, hc, rfl, rfl⟩ := y
    refine hgP ?_
    clear hgP
    exact wpAny_truthy_bool ⟨n2, hc, x2, k1.trans k2⟩
theorem xb_call {f : Expr} {args : List Expr} {kws : List Keyword} {p : Pos} {K : Bool → XS → Prop} (h : XE prog w hT k sc x σ n (.Call f args kws p) (fun d n1 => truthP d fun t => K t n1)) : XB prog w hT k sc x σ n (.Call f args kws p) K :=
  fun env e1 e2 A s B U E hA hS hX hF => by
    refine wpAny_isTrue_value (wpAny_mono (h env e1 e2 A s B U E hA hS hX hF) (fun v s₁ y => ?_) fun _ _ e => e)
    refine genP fun gP hgP => ?_
    obtain ⟨d, n1, hd, rd, x1, k1⟩ := y
    refine hgP ?_
    clear hgP
    refine wpAny_mono (truth_sound rd hd) (fun t s₂ y => ?_) fun _ _ e => e
    obtain ⟨hb, rfl⟩ := y
    exact ⟨n1, hb, x1, k1⟩
theorem xb_not {e : Expr} {p : Pos} {K : Bool → XS → Prop} (h : XB prog w hT k sc x σ n e (fun t n1 => K (!t) n1)) : XB prog w hT k sc x σ n (.UnaryOp .Not e p) K :=
  fun env e1 e2 A s B U E hA hS hX hF => wpAny_isTrue_Not (wpAny_mono (h env e1 e2 A s B U E hA hS hX hF) (fun b s₁ y => y) fun _ _ e => e)
theorem xb_bool {op : BoolOp} {es : List Expr} {p : Pos} {K : Bool → XS → Prop} (h : XBs prog w hT k sc x σ n op es K) : XB prog w hT k sc x σ n (.BoolOp op es p) K :=
  fun env e1 e2 A s B U E hA hS hX hF => wpAny_isTrue_BoolOp (h env e1 e2 A s B U E hA hS hX hF)
theorem xbs_nil {op : BoolOp} {K : Bool → XS → Prop} (h : K (op == .And) n) : XBs prog w hT k sc x σ n op [] K :=
  fun env e1 e2 A s B U E hA hS hX hF => by cases op <;> exact wpAny_pure ⟨n, h, hX, .refl s⟩
theorem xbs_or {e : Expr} {es : List Expr} {K : Bool → XS → Prop} (h : XB prog w hT k sc x σ n e (fun t n1 => match t with | true => K true n1 | false => XBs prog w hT k sc x σ n1 .Or es K)) : XBs prog w hT k sc x σ n .Or (e :: es) K :=
  fun env e1 e2 A s B U E hA hS hX hF => by
    refine wpAny_allTrue_Or_cons (wpAny_mono (h env e1 e2 A s B U E hA hS hX hF) (fun b s₁ y => ?_) fun _ _ e => e)
    refine genP fun gP hgP => ?_
    obtain ⟨n1, hb, x1, k1⟩ := y
    refine hgP ?_
    clear hgP
    cases b with
    | true => exact ⟨n1, hb, x1, k1⟩
    | false => exact wpAny_mono (hb env e1 e2 A s₁ B U E hA (hS.keepX hX k1) x1 hF) (fun b s₂ y => let ⟨n2, a, b, c⟩ := y; ⟨n2, a, b, k1.trans c⟩) fun _ _ e => e
theorem xa_e {e : Expr} {K : TV → XS → Prop} (h : XE prog w hT k sc x σ n e (fun d n1 => K (.d d) n1)) : XA prog w hT k sc x σ n e K :=
  fun env e1 e2 A s B U E hA hS hX hF => wpAny_mono (h env e1 e2 A s B U E hA hS hX hF) (fun v s₁ y => let ⟨d, n1, a, b, c⟩ := y; ⟨_, n1, a, b, c⟩) fun _ _ e => e
theorem xa_val {y : Str} {p : Pos} {v : Value} {K : TV → XS → Prop} (hm : (y, TV.val v) ∈ σ) (hn : okName y = true) (h : K (.val v) n) : XA prog w hT k sc x σ n (.Name y p) K :=
  fun env e1 e2 A s B U E hA hS hX hF => by
    obtain ⟨n1, n2⟩ := okName_ hn
    exact name_sees e2.kind (hS.vv y v hm).2 ⟨_, n, h, rfl, hX, .refl s⟩ n1.1 n1.2
theorem xa_glob (C : Cx prog hT mg mb) {y : Str} {p : Pos} {v : Value} {K : TV → XS → Prop} (hl : LoadsG mg mb y v) (hx : sc.names.lookup y = some .globalImplicit) (hd : (y == ("__debug__" : Str)) = false) (h : K (.val v) n) : XA prog w hT k sc x σ n (.Name y p) K :=
  fun env e1 e2 A s B U E hA hS hX hF => by
    subst e1
    exact global_loads C hS.up e2.kind e2.glob e2.bui hx hl ⟨_, n, h, rfl, hX, .refl s⟩ hd
theorem xas_nil {K : List TV → XS → Prop} (h : K [] n) : XAs prog w hT k sc x σ n [] K :=
  fun env e1 e2 A s B U E hA hS hX hF => PySem.Calls.spliced_nil ⟨[], n, h, .nil, hX, .refl s⟩
theorem xas_cons {e : Expr} {es : List Expr} {K : List TV → XS → Prop} (h : XA prog w hT k sc x σ n e (fun t n1 => XAs prog w hT k sc x σ n1 es (fun ts n2 => K (t :: ts) n2))) : XAs prog w hT k sc x σ n (e :: es) K :=
  fun env e1 e2 A s B U E hA hS hX hF => by
    refine PySem.Calls.spliced_cons (wpAny_mono (h env e1 e2 A s B U E hA hS hX hF) (fun v s₁ y => ?_) fun _ _ e => e)
    refine genP fun gP hgP => ?_
    obtain ⟨t, n1, ht, rt, x1, k1⟩ := y
    refine hgP ?_
    clear hgP
    refine wpAny_mono (ht env e1 e2 A s₁ B U E hA (hS.keepX hX k1) x1 hF) (fun vs s₂ y => ?_) fun _ _ e => e
    refine genP fun gP hgP => ?_
    obtain ⟨ts, n2, hts, rts, x2, k2⟩ := y
    refine hgP ?_
    clear hgP
    exact ⟨t :: ts, n2, hts, .cons (rt.mono (k2.pw (fun _ => False.elim) x1)) rts, x2, k1.trans k2⟩
theorem star_plain : ∀ {es : List Expr} {env : Env}, es.all notStar = true → starEach es env = es.map fun e => (false, eval e env)
  | [], _, _ => rfl
  | e :: es, env, h => by
    rw [List.all_cons, Bool.and_eq_true] at h
    have ih := star_plain (env := env) h.2
    cases e
    case Starred => exact ff h.1
    all_goals exact congrArg (List.cons _) ih
theorem xe_call (C : Cx prog hT mg mb) {g : Str} {p q : Pos} {e : Expr} {es : List Expr} {fv : Value} {K : PyData → XS → Prop} (hl : LoadsG mg mb g fv) (hk : Kept hT fv) (hs : (e :: es).all notStar = true) (hx : sc.names.lookup g = some .globalImplicit) (hg : (g == ("__debug__" : Str)) = false)
    (h : XAs prog w hT k sc x σ n (e :: es) (fun ts n1 => XCall prog w hT k x fv ts n1 K)) : XE prog w hT k sc x σ n (.Call (.Name g p) (e :: es) [] q) K :=
  fun env e1 e2 A s B U E hA hS hX hF => by
    have e1' := e1
    subst e1
    rw [arm_eval_Call_Name']
    refine wpAny_bind (global_loads C hS.up e2.kind e2.glob e2.bui hx hl ?_ hg)
    show wpAny _ A (callWith q fv [] (backTo q (starEach (e :: es) env)) []) _ E s
    rw [star_plain hs, back_plain]
    refine callWith_kept (hT := hT) hk (back_any (e :: es)) (PySem.Calls.evalArgs_plain (wpAny_mono (h env e1' e2 A s B U E hA hS hX hF) (fun vs s₁ y => ?_) fun _ _ e => e))
    refine genP fun gP hgP => ?_
    obtain ⟨ts, n1, hts, rts, x1, k1⟩ := y
    refine hgP ?_
    clear hgP
    have hS1 := hS.keepX hX k1
    exact ⟨rfl, hS1.up, wpAny_mono (hts A s₁ B vs E hA hS1.up hS1.wB x1 rts) (fun v s₂ y => y.pre k1) fun _ _ e => e⟩
theorem XAfter.pre {A : Around} {B U : Addr → Prop} {env : Env} {K : Out → XS → Prop} {s s₁ s' : Shared} {f : Flow} (a : KeepX x U s s₁) (g : XAfter x A hT B U env K s₁ f s') : XAfter x A hT B U env K s f s' := by
  cases f with
  | next => obtain ⟨σ', n', h1, h2, h3, h4⟩ := g; exact ⟨σ', n', h1, h2, h3, a.trans h4⟩
  | ret v => obtain ⟨σ', n', h1, h2, h3, h4⟩ := g; exact ⟨σ', n', h1, h2, h3, a.trans h4⟩
  | _ => exact g
theorem x_nil {K : Out → XS → Prop} (h : K (.next σ) n) : XExec prog w hT k sc x [] σ n K :=
  fun env e1 e2 A s B U E hA hS hX hF => wpAny_execs_nil ⟨σ, n, h, hS, hX, .refl s⟩
theorem x_cons {st : Stmt} {rest : List Stmt} {K : Out → XS → Prop} (h : XEx1 prog w hT k sc x st σ n (fun o m => match o with | .next σ' => XExec prog w hT k sc x rest σ' m K | .ret d => K (.ret d) m)) : XExec prog w hT k sc x (st :: rest) σ n K :=
  fun env e1 e2 A s B U E hA hS hX hF => by
    refine wpAny_execs_cons (wpAny_mono (h env e1 e2 A s B U E hA hS hX hF) (fun f s' y => ?_) fun _ _ e => e)
    cases f with
    | next =>
      refine genP fun gP hgP => ?_
      obtain ⟨σ', n', h1, h2, h3, h4⟩ := y
      refine hgP ?_
      clear hgP
      exact wpAny_mono (h1 env e1 e2 A s' B U E hA h2 h3 hF) (fun f s'' z => z.pre h4) fun _ _ e => e
    | ret v => exact y
    | brk => exact y
    | cont => exact y
theorem x_lift {st : Stmt} {K : Out → XS → Prop} (h : Ex1 prog w hT k sc st σ (fun o => (match o with | .next σ' => noOwn σ' = true | .ret _ => True) ∧ K o n)) : XEx1 prog w hT k sc x st σ n K :=
  fun env e1 e2 A s B U E hA hS hX hF => by
    refine wpAny_mono (h env e1 e2 A s B U _ E hA hS) (fun f s' y => ?_) fun _ _ e => e
    cases f with
    | next =>
      refine genP fun gP hgP => ?_
      obtain ⟨σ', own', ⟨h1, h2⟩, h3, h4⟩ := y
      refine hgP ?_
      clear hgP
      have e0 : own' = fun _ => none := by
        funext z
        cases e : own' z with
        | none => rfl
        | some a =>
          obtain ⟨xs, m⟩ := h3.ow z a e
          exact (noOwn_ h1 m).elim
      subst e0
      exact ⟨σ', n, h2, h3, hX.rel h3 hF h4, .ofRel hF h4⟩
    | ret v =>
      refine genP fun gP hgP => ?_
      obtain ⟨d, ⟨_, h2⟩, h3, h4⟩ := y
      refine hgP ?_
      clear hgP
      exact ⟨d, n, h2, h3, hX.relU hS.sub hF h4, .ofRel hF h4⟩
    | brk => exact y
    | cont => exact y
theorem x_liftAll {sts : List Stmt} {K : Out → XS → Prop} (h : Exec prog w hT k sc sts σ (fun o => (match o with | .next σ' => noOwn σ' = true | .ret _ => True) ∧ K o n)) : XExec prog w hT k sc x sts σ n K :=
  fun env e1 e2 A s B U E hA hS hX hF => by
    refine wpAny_mono (h env e1 e2 A s B U _ E hA hS) (fun f s' y => ?_) fun _ _ e => e
    cases f with
    | next =>
      refine genP fun gP hgP => ?_
      obtain ⟨σ', own', ⟨h1, h2⟩, h3, h4⟩ := y
      refine hgP ?_
      clear hgP
      have e0 : own' = fun _ => none := by
        funext z
        cases e : own' z with
        | none => rfl
        | some a =>
          obtain ⟨xs, m⟩ := h3.ow z a e
          exact (noOwn_ h1 m).elim
      subst e0
      exact ⟨σ', n, h2, h3, hX.rel h3 hF h4, .ofRel hF h4⟩
    | ret v =>
      refine genP fun gP hgP => ?_
      obtain ⟨d, ⟨_, h2⟩, h3, h4⟩ := y
      refine hgP ?_
      clear hgP
      exact ⟨d, n, h2, h3, hX.relU hS.sub hF h4, .ofRel hF h4⟩
    | brk => exact y
    | cont => exact y
theorem x_return {e : Expr} {pos : Pos} {K : Out → XS → Prop} (h : XE prog w hT k sc x σ n e (fun d m => K (.ret d) m)) : XEx1 prog w hT k sc x (.Return (some e) pos) σ n K :=
  fun env e1 e2 A s B U E hA hS hX hF => by
    refine wpAny_Return_some (wpAny_mono (h env e1 e2 A s B U E hA hS hX hF) (fun v s₁ y => ?_) fun _ _ e => e)
    refine genP fun gP hgP => ?_
    obtain ⟨d, n1, hd, rd, x1, k1⟩ := y
    refine hgP ?_
    clear hgP
    exact ⟨d, n1, hd, rd, x1.weak, k1.wide⟩
theorem x_if {test : Expr} {body orelse : List Stmt} {pos : Pos} {K : Out → XS → Prop} (h : XB prog w hT k sc x σ n test (fun b m => match b with | true => XExec prog w hT k sc x body σ m K | false => XExec prog w hT k sc x orelse σ m K)) : XEx1 prog w hT k sc x (.If test body orelse pos) σ n K :=
  fun env e1 e2 A s B U E hA hS hX hF => by
    refine wpAny_If (wpAny_mono (h env e1 e2 A s B U E hA hS hX hF) (fun b s₁ y => ?_) fun _ _ e => e)
    refine genP fun gP hgP => ?_
    obtain ⟨n1, hb, x1, k1⟩ := y
    refine hgP ?_
    clear hgP
    have hS1 := hS.keepX hX k1
    cases b with
    | true => exact wpAny_mono (hb env e1 e2 A s₁ B U E hA hS1 x1 hF) (fun f s₂ y => y.pre k1.wide) fun _ _ e => e
    | false => exact wpAny_mono (hb env e1 e2 A s₁ B U E hA hS1 x1 hF) (fun f s₂ y => y.pre k1.wide) fun _ _ e => e
theorem own_drop_none (y : Str) : ownDrop (fun _ => none) y = fun _ => none := by
  funext z
  unfold ownDrop
  split <;> rfl
theorem xstore {A : Around} {B U : Addr → Prop} {E : Value → Shared → Prop} {env : Env} {s : Shared} {y : Str} {v : Value} {tv : TV} {K : Out → XS → Prop} (e2 : EnvOk env) (hS : SOk hT B U env σ (fun _ => none) s.heap) (hX : XOk x A hT B Non n s.heap) (hF : XOff x U env) (hx : isVar env.scope y = true)
    (r : ArgR (PW B s.heap) v tv) (hK : K (.next (σ.set y tv)) n) : wpAny (model prog w) A (storeName env y v) (fun _ => XAfter x A hT B U env K s .next) E s := by
  refine genP fun gP hgP => ?_
  obtain ⟨h0, a, pa, ua⟩ := var_place hS hx
  refine hgP ?_
  clear hgP
  refine store_frame e2 pa ua fun h' tk st => ?_
  have hS' : SOk hT B U env (σ.set y tv) (ownDrop (fun _ => none) y) h' := by
    refine hS.setT (fun d e => ?_) (fun a b e => ?_) (fun u e => ?_) (fun xs e => ?_) h0 st
    · subst e; rw [BO_none]; exact r
    · subst e; exact r.elim
    · subst e; exact r
    · subst e; exact r.elim
  rw [own_drop_none] at hS'
  have hR : Rel U (fun _ => none) s (fun _ => none) { s with heap := h', toks := tk } := ⟨⟨h', tk, rfl⟩, fun b o hu _ e => st.keep b o hu e, fun _ _ e => by (cases e), fun b o e => st.live b o e⟩
  exact ⟨_, n, hK, hS', hX.rel (s' := { s with heap := h', toks := tk }) hS' hF hR, .ofRel hF hR⟩
theorem x_set {y : Str} {p pos : Pos} {e : Expr} {K : Out → XS → Prop} (h : XE prog w hT k sc x σ n e (fun d m => K (.next (σ.set y (.d d))) m)) (hx : isVar sc y = true) (hc : noComp e = true) : XEx1 prog w hT k sc x (.Assign [.Name y p] e pos) σ n K :=
  fun env e1 e2 A s B U E hA hS hX hF => by
    subst e1
    refine wpAny_Assign_Name (wpAny_mono (h env rfl e2 A s B U E hA hS hX hF) (fun v s₁ z => ?_) fun _ _ e => e) (noComp_swaps hc _ _ _)
    refine genP fun gP hgP => ?_
    obtain ⟨d, n1, hd, rd, x1, k1⟩ := z
    refine hgP ?_
    clear hgP
    exact wpAny_mono (xstore (K := K) (tv := .d d) e2 (hS.keepX hX k1) x1 hF hx rd hd) (fun _ s₂ z => z.pre k1.wide) fun _ _ e => e
end
noncomputable abbrev XC.at (x : XC) (L : Addr) : XC := { x with Fr := fun z => x.Fr z ∨ z = L }
section
variable {prog : Program} {w : World} {hT : Heap} {mg mb : Str → Option Value} {k : Nat} {x : XC} {n n' : XS} {A : Around} {W U : Addr → Prop} {env : Env} {s s₁ s' : Shared}
theorem xok_enter (hX : XOk x A hT W Non n s.heap) (ks : Keeps s s₁) (hlow : ∀ z, U z → s.heap.objs.size ≤ z) (uL : U env.locals) (ns : ∃ m, s₁.heap.Ns env.locals m) (hfr : env.frame = some env.locals) (hk : env.scope.kind = .function) :
    XOk (x.at env.locals) (A.deeper env) hT (fun z => W z ∨ U z) Non n s₁.heap := by
  have Unot : ∀ z o, s.heap.get? z = some o → ¬ U z := fun z o e q => absurd (Heap.lt_size e) (Nat.not_lt.mpr (hlow z q))
  refine ⟨fun a q => ?_, fun a q _ => ?_, .inl hX.bp, .inl hX.bP, ?_, ?_, ?_⟩
  · rcases q with q | rfl
    · exact .inl (hX.subF a q)
    · exact .inr uL
  · rcases q with q | rfl
    · refine genP fun gP hgP => ?_
      obtain ⟨o, es, j, e, d⟩ := hX.dictF a q id
      refine hgP ?_
      clear hgP
      exact ⟨o, es, j, Keeps.heap ks _ _ e, d⟩
    · refine genP fun gP hgP => ?_
      obtain ⟨m, o, es, ep, e, d, _⟩ := ns
      refine hgP ?_
      clear hgP
      exact ⟨o, es, ep, e, d⟩
  · obtain ⟨l, hl, hf⟩ := hX.frames
    refine ⟨env :: l, by show A.frames.map _ = _; rw [hl]; rfl, fun e he => ?_⟩
    rcases List.mem_cons.mp he with rfl | he
    · exact ⟨by rw [hk]; decide, _, hfr, .inr rfl⟩
    · refine genP fun gP hgP => ?_
      obtain ⟨a, L, b, c⟩ := hf e he
      refine hgP ?_
      clear hgP
      exact ⟨a, L, b, .inl c⟩
  · refine genP fun gP hgP => ?_
    obtain ⟨q, t, ⟨j, e⟩, r⟩ := hX.pool
    refine hgP ?_
    clear hgP
    exact ⟨q, t, ⟨j, Keeps.heap ks _ _ e⟩, r.mono fun b o z => ⟨Keeps.heap ks _ _ z.1, fun u => u.elim z.2 (Unot b o z.1)⟩⟩
  · obtain ⟨ps, e, f⟩ := hX.tab
    exact ⟨ps, Keeps.heap ks _ _ e, f⟩
theorem xoff_enter (hX : XOk x A hT W Non n s.heap) (hlow : ∀ z, U z → s.heap.objs.size ≤ z) (loc : ∃ v, env.kindOf v = some .local) : XOff (x.at env.locals) U env := by
  have Unot : ∀ z o, s.heap.get? z = some o → ¬ U z := fun z o e q => absurd (Heap.lt_size e) (Nat.not_lt.mpr (hlow z q))
  refine ⟨fun q => ?_, fun q => ?_, fun a f u => ?_, loc⟩
  · obtain ⟨_, _, ⟨j, e⟩, _⟩ := hX.pool
    exact Unot _ _ e q
  · obtain ⟨ps, e, _⟩ := hX.tab
    exact Unot _ _ e q
  · rcases f with f | f
    · obtain ⟨o, _, _, e, _⟩ := hX.dictF a f id
      exact absurd u (Unot a o e)
    · exact f
theorem xok_leave (hX : XOk x A hT W Non n s.heap) (ks : Keeps s s₁) (hlow : ∀ z, U z → s.heap.objs.size ≤ z) (uL : U env.locals) (h : XOk (x.at env.locals) (A.deeper env) hT (fun z => W z ∨ U z) U n' s'.heap) (hk : KeepX (x.at env.locals) U s₁ s') :
    XOk x A hT W Non n' s'.heap ∧ KeepX x Non s s' := by
  have Unot : ∀ z o, s.heap.get? z = some o → ¬ U z := fun z o e q => absurd (Heap.lt_size e) (Nat.not_lt.mpr (hlow z q))
  refine genP fun gP hgP => ?_
  obtain ⟨g, tk, rfl, hh⟩ := ks
  refine hgP ?_
  clear hgP
  refine ⟨⟨hX.subF, fun a f _ => ?_, hX.bp, hX.bP, hX.frames, ?_, h.tab⟩, ?_, fun b o _ f p P e => ?_, fun b o _ f e => ?_, fun ps e => hk.tab ps (hh _ _ e), fun b o e => hk.live b o (hh _ _ e)⟩
  · refine genP fun gP hgP => ?_
    obtain ⟨o, _, _, e, _⟩ := hX.dictF a f id
    refine hgP ?_
    clear hgP
    exact h.dictF a (.inl f) (Unot a o e)
  · refine genP fun gP hgP => ?_
    obtain ⟨q, t, e, r⟩ := h.pool
    refine hgP ?_
    clear hgP
    exact ⟨q, t, e, r.mono fun b o z => ⟨z.1, fun u => z.2 (.inl u)⟩⟩
  · obtain ⟨h', t', e⟩ := hk.same
    exact ⟨h', t', e⟩
  · exact hk.keep b o (Unot b o e) (fun z => z.elim f fun z => Unot b o e (z ▸ uL)) p P (hh _ _ e)
  · exact hk.slots b o (Unot b o e) (.inl f) (hh _ _ e)
structure FnIs (hT : Heap) (a : Addr) (fd : FuncData) (body : List Stmt) (names : List Str) : Prop where
  get : ∃ fo, hT.get? a = some fo ∧ fo.data = .func fd
  code : hT.CodeRec fd.code fd.qualname
  body : fd.body = .stmts body
  clo : fd.closure = []
  glob : fd.globals = mainGlobals
  bui : fd.builtins = builtinsNs
  bind : ∀ vals : List Value, vals.length = names.length → bindArgs fd ⟨vals, []⟩ = pure (names.zip vals)
  sc : scopeOk fd.scope names = true
theorem FnIs.of {d : DefRec} {g : Str} (pf : PF hT mg d) (hg : d.name = g) (names : List Str) (hbind : ∀ (pm code doc : Value) (vals : List Value), vals.length = names.length → bindArgs (Calls.docDef d.name d.params d.body d.scope pm code doc) ⟨vals, []⟩ = pure (names.zip vals)) (hsc : scopeOk d.scope names = true) :
    ∃ a fd, mg g = some (.ref a) ∧ FnIs hT a fd d.body names ∧ fd.scope = d.scope := by
  refine genP fun gP hgP => ?_
  obtain ⟨a, o, pm, code, doc, h1, h2, h3, h4⟩ := pf
  refine hgP ?_
  clear hgP
  rw [hg] at h1
  exact ⟨a, _, h1, ⟨⟨o, h2, h3⟩, h4, rfl, rfl, rfl, rfl, hbind pm code doc, hsc⟩, rfl⟩
theorem FnIs.kept {a : Addr} {fd : FuncData} {body : List Stmt} {names : List Str} (f : FnIs hT a fd body names) : Kept hT (.ref a) :=
  let ⟨fo, h1, h2⟩ := f.get; .inr (.inr ⟨a, fo, fd, rfl, h1, h2⟩)
theorem xfn (C : Cx prog hT mg mb) {a : Addr} {fd : FuncData} {body : List Stmt} {names : List Str} (f : FnIs hT a fd body names) (hloc : ∃ v, fd.scope.names.lookup v = some .local) {ts : List TV} (hlen : ts.length = names.length) {K : PyData → XS → Prop}
    (hF : ∀ L, XExec prog w hT k fd.scope (x.at L) body (names.zip ts) n (fun o m => match o with | .ret d => K d m | .next _ => False)) : XCall prog w hT (k + 1) x (.ref a) ts n K := fun A s W vs E hA hU hW hX r => by
  obtain ⟨fo, h1, h2⟩ := f.get
  refine wpAny_call (fn_enter C (k := k) (fun hU => f.code.keeps hU) h2 f.body f.clo f.glob f.bui f.bind f.sc hlen hA (hU a fo h1) hU hW r fun env s₁ U e1 e2 e3 e4 e5 ks uL hlow ns hS => ?_)
  have hX1 := xok_enter (env := env) hX ks hlow uL ns e3 e4.kind
  have hF1 : XOff (x.at env.locals) U env := xoff_enter hX hlow (by obtain ⟨v, hv⟩ := hloc; exact ⟨v, by show env.scope.names.lookup v = _; rw [e1]; exact hv⟩)
  refine wpAny_mono (hF env.locals env e1 e4 (A.deeper env) s₁ _ U _ e5 hS hX1 hF1) (fun fl s' y => ?_) fun _ _ e => e
  cases fl with
  | next => obtain ⟨_, _, q, _⟩ := y; exact q.elim
  | ret v =>
    obtain ⟨d, n', q1, q2, q3, q4⟩ := y
    obtain ⟨z1, z2⟩ := xok_leave (env := env) hX ks hlow uL q3 q4
    exact ⟨d, n', q1, q2.mono fun b o q => ⟨q.1, fun z => q.2 (.inl z)⟩, z1, z2⟩
  | brk => exact y.elim
  | cont => exact y.elim
end
section
variable {hT : Heap} {B U : Addr → Prop} {env : Env} {r : St} {h : Heap} {y : Str} {p : Addr} {vs : Array Value} {xs : List PyData}
noncomputable abbrev ownAt (y : Str) (p : Addr) : Str → Option Addr := fun z => if z = y then some p else none
noncomputable abbrev Off (B : Addr → Prop) (p : Addr) : Addr → Prop := fun a => B a ∧ a ≠ p
theorem BO_off (bp : B p) : BO (Off B p) (ownAt y p) = B := by
  funext a
  refine propext ⟨fun q => ?_, fun q => ?_⟩
  · rcases q with q | ⟨z, q⟩
    · exact q.1
    · unfold ownAt at q
      split at q
      · cases q; exact bp
      · cases q
  · by_cases e : a = p
    · exact .inr ⟨y, by rw [e]; simp [ownAt]⟩
    · exact .inl ⟨q, e⟩
theorem SOk.toOwn (S : SOk hT B U env ((y, .val (.ref p)) :: r) (fun _ => none) h) (bp : B p) (up : ¬ U p) (hpl : h.PlainList p vs) (hr : RdAll (PW B h) vs.toList xs) (nr : noOwn r = true) : SOk hT (Off B p) U env ((y, .own xs) :: r) (ownAt y p) h := by
  have e0 := BO_off (y := y) bp
  have sw : ∀ {z sv}, Sees1 env (BO B fun _ => none) h z sv → Sees1 env (BO (Off B p) (ownAt y p)) h z sv := fun q => by rw [e0]; rw [BO_none] at q; exact q
  refine ⟨S.up, by rw [e0]; exact S.wB, fun a u => ⟨S.sub a u, fun e => up (e ▸ u)⟩, S.frame, S.cells, fun z a e q => ?_, fun z z' a e e' => ?_, S.keys, fun z v m => ?_, fun z a b m => ?_, fun z ys m => ?_, fun z a e => ?_, fun z v m => ?_⟩
  · unfold ownAt at e
    split at e
    · cases e; exact q.2 rfl
    · cases e
  · unfold ownAt at e e'
    split at e
    · split at e'
      · rename_i a b; exact a.trans b.symm
      · cases e'
    · cases e
  · rcases List.mem_cons.mp m with m | m
    · cases m
    · exact sw (S.vd z v (.tail _ m))
  · rcases List.mem_cons.mp m with m | m
    · cases m
    · exact sw (S.vr z a b (.tail _ m))
  · rcases List.mem_cons.mp m with m | m
    · cases m
      obtain ⟨n0, q⟩ := S.vv y _ (.head _)
      exact ⟨n0, p, vs, by simp [ownAt], q, hpl, by rw [e0]; exact hr⟩
    · exact (noOwn_ nr m).elim
  · unfold ownAt at e
    split at e
    · rename_i hz
      subst hz
      exact ⟨xs, .head _⟩
    · cases e
  · rcases List.mem_cons.mp m with m | m
    · cases m
    · exact S.vv z v (.tail _ m)
theorem SOk.toData (S : SOk hT (Off B p) U env ((y, .own xs) :: r) (ownAt y p) h) (nr : noOwn r = true) : SOk hT (Off B p) U env ((y, .d (.list xs)) :: r) (fun _ => none) h := by
  have sw : ∀ {z sv}, Sees1 env (BO (Off B p) (ownAt y p)) h z sv → Sees1 env (BO (Off B p) fun _ => none) h z sv := fun q =>
    let ⟨n, u, a, b⟩ := q; ⟨n, u, a, b.mono fun c o z => ⟨z.1, fun t => z.2 (.inl (by rw [BO_none] at t; exact t))⟩⟩
  refine ⟨S.up, by rw [BO_none]; exact S.wB, S.sub, S.frame, S.cells, fun _ _ e => (by cases e), fun _ _ _ e => (by cases e), S.keys, fun z v m => ?_, fun z a b m => ?_, fun z ys m => ?_, fun _ _ e => (by cases e), fun z v m => ?_⟩
  · rcases List.mem_cons.mp m with m | m
    · cases m
      refine genP fun gP hgP => ?_
      obtain ⟨n0, a, vs, e1, e2, e3, e4⟩ := S.vo y xs (.head _)
      refine hgP ?_
      clear hgP
      refine ⟨n0, .ref a, e2, ?_⟩
      rw [BO_none]
      exact Rd.ofList e3.isList (S.offB y a e1) (e4.mono fun c o z => ⟨z.1, fun t => z.2 (.inl t)⟩)
    · exact sw (S.vd z v (.tail _ m))
  · rcases List.mem_cons.mp m with m | m
    · cases m
    · exact sw (S.vr z a b (.tail _ m))
  · rcases List.mem_cons.mp m with m | m
    · cases m
    · exact (noOwn_ nr m).elim
  · rcases List.mem_cons.mp m with m | m
    · cases m
    · exact S.vv z v (.tail _ m)
end
section
variable {prog : Program} {w : World} {hT : Heap} {mg mb : Str → Option Value} {k : Nat} {x : XC} {n : XS}
theorem draw_ok (C : Cx prog hT mg mb) (GL : Glob prog w hT mg mb k Fn Gl (gsOf ["len", "abs"])) {a : Addr} {fd : FuncData} (f : FnIs hT a fd (rc 33).body ["pool", "many"]) (hsc : fd.scope = (rc 33).scope) (hc : x.cells.length ≤ 30) (hn : n.1 ≤ 1000) {m : Int} (hm : 0 < m) (hm2 : m ≤ 1000) :
    XCall prog w hT (k + 1) x (.ref a) [.val (.ref x.p), .d (I m)] n (fun d n' => n' = (n.1 + 1, n.2) ∧ ∃ v : Int, d = I v ∧ 0 ≤ v ∧ v < m) := fun A s W vs E hA hU hW hX r => by
  obtain ⟨fo, h1, h2⟩ := f.get
  refine wpAny_call (fn_enter C (k := k) (fun hU => f.code.keeps hU) h2 f.body f.clo f.glob f.bui f.bind f.sc rfl hA (hU a fo h1) hU hW r fun env s₁ U e1 e2 e3 e4 e5 ks uL hlow ns hS => ?_)
  refine genQE fun Q1 E1 hQ1 _ => ?_
  rw [hsc] at e1
  have hX1 := xok_enter (env := env) hX ks hlow uL ns e3 e4.kind
  have hF1 : XOff (x.at env.locals) U env := xoff_enter hX hlow ⟨"many", by show env.scope.names.lookup _ = _; rw [e1]; rfl⟩
  refine genP fun gP hgP => ?_
  obtain ⟨q, t, ⟨j, ep⟩, rq⟩ := hX1.pool
  refine hgP ?_
  clear hgP
  let B : Addr → Prop := fun z => W z ∨ U z
  have bp : B x.p := hX1.bp
  let σ0 : St := [("pool", .own [V x.cells, I (n.1 : Int)]), ("many", .d (I m))]
  have hS0 : SOk hT (Off B x.p) U env σ0 (ownAt "pool" x.p) s₁.heap :=
    SOk.toOwn (y := "pool") (r := [("many", .d (I m))]) hS bp hF1.p ⟨j, ep⟩ (.cons rq (.cons (.int _ _) .nil)) rfl
  have hA1 := e5
  show wpAny _ _ (execs (rc 33).body env) _ _ _
  refine wpAny_execs_cons (PySem.wpAny_Assign_Subscript (wpAny_mono (soundE (Q := fun d => d = I ((n.1 : Int) + 1)) (n := 20) (m := 20) (ρ := full σ0) GL ?_ (by rw [e1]; decide +kernel) e4 hA1 hS0.full) (fun v s₂ y => ?_) fun _ _ e => e) rfl)
  · walk_at "mine ev"
    refine ⟨by decide, by decide, _, rfl, ?_⟩
    walk_at "mine ev"
    exact rfl
  refine genP fun gP hgP => ?_
  obtain ⟨d, rfl, rd, ks2⟩ := y
  refine hgP ?_
  clear hgP
  cases rd
  rename_i tv
  have hS2 := hS0.keeps (Keeps.heap ks2)
  refine own_name e4 hS2 (.head _) ⟨rfl, rfl⟩ fun c ws hc1 se pl rr => ?_
  have ec : c = x.p := by
    have : some x.p = some c := hc1
    exact (Option.some.inj this).symm
  subst ec
  refine wpAny_Constant_int ?_
  obtain ⟨j2, ho2⟩ := pl
  have hwl := rr.length
  rw [Array.length_toList] at hwl
  have hwl' : ws.size = 2 := hwl
  refine ki_setAt (items := ws) (n := j2) ho2 (by decide) (by (first | lia | omega)) (by (first | lia | omega)) ?_
  have hs : Heap.SameBut x.p s₂.heap (s₂.heap.update x.p (Obj.mapSeq (·.setIfInBounds (1 : Int).toNat (.int ((n.1 : Int) + 1) tv)))) := Heap.SameBut.update ..
  have hpl3 : (s₂.heap.update x.p (Obj.mapSeq (·.setIfInBounds (1 : Int).toNat (.int ((n.1 : Int) + 1) tv)))).PlainList x.p (ws.setIfInBounds (1 : Int).toNat (.int ((n.1 : Int) + 1) tv)) := ⟨_, PySem.IsL.update ho2 _⟩
  have hS3 : SOk hT (Off B x.p) U env (σ0.set "pool" (.own [V x.cells, I ((n.1 : Int) + 1)])) (ownAt "pool" x.p) _ := hS2.chgOwn (y := "pool") (xs := [V x.cells, I ((n.1 : Int) + 1)]) (by decide) (by simp [ownAt]) se hs hpl3 (by
    rw [Array.toList_setIfInBounds]
    exact rr.set (Rd.int _ _) 1)
  generalize s₂.heap.update x.p (Obj.mapSeq (·.setIfInBounds (1 : Int).toNat (.int ((n.1 : Int) + 1) tv))) = h₃ at hs hpl3 hS3
  have hS4 : SOk hT (Off B x.p) U env [("pool", .d (.list [V x.cells, I ((n.1 : Int) + 1)])), ("many", .d (I m))] (fun _ => none) h₃ := SOk.toData (y := "pool") (r := [("many", .d (I m))]) hS3 rfl
  have BODY : Exec prog w hT k (rc 33).scope ((rc 33).body.drop 1) [D1 "pool" (.list [V x.cells, I ((n.1 : Int) + 1)]), D1 "many" (I m)] (fun o => ∃ v : Int, o = .ret (I v) ∧ 0 ≤ v ∧ v < m) := by
    refine ex_cons (ex_if GL (n := 20) (m := 20) ?_ (by decide +kernel))
    walk_at "mine ev"
    refine ⟨by decide, by decide, _, rfl, ?_⟩
    walk_at "mine ev"
    refine ⟨by decide, by decide, _, rfl, ?_⟩
    refine ⟨_, .len _ (by simp; (first | lia | omega)), ?_⟩
    walk_at "mine ev"
    rw [List.length_map]
    by_cases hle : ((n.1 : Int) + 1) ≤ x.cells.length
    · rw [show decide (((n.1 : Int) + 1) ≤ x.cells.length) = true by simpa using hle]
      show Exec _ _ _ _ _ _ _ _
      refine ex_cons (ex_return GL (n := 20) (m := 20) ?_ (by decide +kernel))
      walk_at "mine ev"
      refine ⟨by decide, by decide, _, rfl, ?_⟩
      walk_at "mine ev"
      refine ⟨by decide, by decide, _, rfl, ?_⟩
      walk_at "mine ev"
      refine ip_map (e := I) (x.cells.getD n.1 0) (by (first | lia | omega)) (by (first | lia | omega)) (by rw [show ((n.1 : Int) + 1 - 1).toNat = n.1 by (first | exact tnA _ _ | exact tnB _ _ | exact tnI _ | exact Int.toNat_sub _ _ | lia | omega)]; exact getD_of_get (by (first | lia | omega))) ?_
      walk_at "mine ev"
      refine ⟨_, .abs _, ?_⟩
      walk_at "mine ev"
      exact bp_mod (by (first | lia | omega)) ⟨_, rfl, Int.fmod_nonneg_of_pos _ hm, Int.fmod_lt_of_pos _ hm⟩
    · rw [show decide (((n.1 : Int) + 1) ≤ x.cells.length) = false by simpa using hle]
      show Exec _ _ _ _ _ _ _ _
      refine ex_nil ?_
      show Exec _ _ _ _ _ _ _ _
      refine ex_cons (ex_return GL (n := 20) (m := 20) ?_ (by decide +kernel))
      walk_at "mine ev"
      refine ⟨by decide, by decide, _, rfl, ?_⟩
      refine bp_mul (Bz.sm (n := 10) (by unfold Bz; decide) (by decide)) (Bz.sm (n := 11) (by unfold Bz; (first | lia | omega)) (by decide)) ?_
      walk_at "mine ev"
      refine ⟨by decide, by decide, _, rfl, ?_⟩
      walk_at "mine ev"
      refine bp_div (by decide) ?_
      walk_at "mine ev"
      exact bp_mod (by (first | lia | omega)) ⟨_, rfl, Int.fmod_nonneg_of_pos _ hm, Int.fmod_lt_of_pos _ hm⟩
  refine wpAny_mono (BODY env e1 e4 (A.deeper env) { s₂ with heap := h₃, toks := _ } _ U (fun _ => none) _ hA1 hS4) (fun fl s' y => ?_) fun _ _ e => e
  cases fl with
  | next => obtain ⟨_, _, ⟨_, q, _⟩, _⟩ := y; cases q
  | ret v =>
    refine hQ1 _ _ ?_
    refine genP fun gP hgP => ?_
    obtain ⟨d, ⟨i, q1, q2, q3⟩, rd, hR⟩ := y
    refine hgP ?_
    clear hgP
    cases q1
    cases rd
    have kp : ∀ b o, ¬ U b → h₃.get? b = some o → s'.heap.get? b = some o := fun b o hu e => hR.keep b o hu (fun _ q => by cases q) e
    have k2 : ∀ b o, b ≠ x.p → s₁.heap.get? b = some o → h₃.get? b = some o := fun b o hb e => hs.extBut b o hb (Keeps.heap ks2 b o e)
    have kk : KeepX (x.at env.locals) U s₁ s' := by
      refine ⟨?_, fun b o u _ hp _ e => kp b o u (k2 b o hp e), fun b o u fb e => ?_, fun ps e => ?_, fun b o e => ?_⟩
      · refine genP fun gP hgP => ?_
        obtain ⟨g2, t2, e2', _⟩ := ks2
        refine hgP ?_
        clear hgP
        obtain ⟨g3, t3, e3'⟩ := hR.same
        subst e2'
        exact ⟨g3, t3, e3'⟩
      · refine ⟨o.slots, kp b o u (k2 b o (fun hb => ?_) e)⟩
        refine genP fun gP hgP => ?_
        obtain ⟨o', es, i', e', d'⟩ := hX1.dictF b fb id
        refine hgP ?_
        clear hgP
        rw [hb, ep] at e'; cases e'; cases d'
      · refine ⟨ps, kp _ _ hF1.P (k2 _ _ (fun hb => ?_) e)⟩
        have e' : s₁.heap.get? x.P = some (tabObj ps) := e
        rw [show x.P = x.p from hb, ep] at e'; cases e'
      · by_cases hb : b = x.p
        · obtain ⟨c3, e3'⟩ := hpl3
          exact hR.live b _ (hb ▸ e3')
        · exact hR.live b o (k2 b o hb e)
    have xx : XOk (x.at env.locals) (A.deeper env) hT (fun z => W z ∨ U z) U (n.1 + 1, n.2) s'.heap := by
      refine ⟨hX1.subF, fun b fb ub => ?_, hX1.bp, hX1.bP, hX1.frames, ?_, ?_⟩
      · refine genP fun gP hgP => ?_
        obtain ⟨o', es, i', e', d'⟩ := hX1.dictF b fb id
        refine hgP ?_
        clear hgP
        refine ⟨o', es, i', kp b o' ub (k2 b o' (fun hb => ?_) e'), d'⟩
        rw [hb, ep] at e'; cases e'; cases d'
      · obtain ⟨c3, e3'⟩ := hpl3
        have rr2 : RdAll (PW B s₂.heap) ws.toList [V x.cells, I (n.1 : Int)] := by
          have := rr
          rw [BO_off (y := "pool") bp] at this
          exact this
        obtain ⟨wl⟩ := ws
        have rr3 : RdAll (PW B s₂.heap) wl [V x.cells, I (n.1 : Int)] := rr2
        refine genP fun gP hgP => ?_
        obtain ⟨u0, wl', e, r0, r1⟩ := rr3.consI
        refine hgP ?_
        clear hgP
        refine genP fun gP hgP => ?_
        obtain ⟨u1, wl2, e', r2, r3⟩ := r1.consI
        refine hgP ?_
        clear hgP
        rw [e', r3.nilI] at e
        subst e
        refine genP fun gP hgP => ?_
        obtain ⟨q0, vs0, rfl, _, hl0, _⟩ := id r0.isList
        refine hgP ?_
        clear hgP
        refine ⟨q0, tv, ⟨c3, kp _ _ hF1.p e3'⟩, Rd.mono (fun b o z => ⟨kp b o (fun u => z.2 (.inr u)) (hs.extBut b o (fun hb => z.2 (hb ▸ bp)) z.1), z.2⟩) r0⟩
      · obtain ⟨ps, e', i'⟩ := hX1.tab
        refine ⟨ps, kp _ _ hF1.P (k2 _ _ (fun hb => ?_) e'), i'⟩
        have e'' : s₁.heap.get? x.P = some (tabObj ps) := e'
        rw [show x.P = x.p from hb, ep] at e''; cases e''
    obtain ⟨z1, z2⟩ := xok_leave (env := env) hX ks hlow uL xx kk
    exact ⟨_, _, ⟨rfl, i, rfl, q2, q3⟩, .int _ _, z1, z2⟩
  | brk => exact y.elim
  | cont => exact y.elim
end
section
variable {prog : Program} {w : World} {A : Around} {E : Value → Shared → Prop} {h : Heap} {g : Array GenState} {d : Drawn} {t : Nat} {os : OsState}
variable {nm q : Str} {C N : Addr} {bs bm : List Value} {hdct : Bool} {sn : List Str} {sub : List Value} {ab : Bool} {col : Option Bool} {dd : Option Addr} {k0 k1 k2 k3 k5 : Option Value} {B newId initId : String}
noncomputable abbrev excObj (C t0 : Addr) : Obj := { cls := .ref C, data := .fields #[.ref t0, .none, .none, .none, .bool false, .none] }
theorem exc_init_call {e t0 : Addr} {v : Value} {Q : Value → Shared → Prop}
    (hC : h.get? C = some (excClassObj nm q C N bs [.type "Exception", .type "BaseException", .type "object"] hdct sn sub ab col dd k0 k1 k2 k3 k5 "Exception.__new__")) (he : h.get? e = some (excObj C t0))
    (hq : ∀ h' T, (∀ b o, b ≠ e → h.get? b = some o → h'.get? b = some o) → h'.get? e = some (excObj C T) → Q .none ⟨h', g, d, t, os⟩) :
    wpAny (model prog w) A (call (.builtin "Exception.__init__") [.ref e, v]) Q E ⟨h, g, d, t, os⟩ := by
  have F := PySem.F.excBase_Exception
  refine wpAny_call (codeAny_call_builtin F.init.plain F.initEntry (wpAny_check_init_sub F hC he rfl ?_))
  wp_walk
  refine hq _ h.objs.size (fun b o hb e1 => ?_) ?_
  · rw [Heap.get?_update_other _ _ (Ne.symm hb)]
    exact Heap.get?_push_of_some _ e1
  · rw [Heap.get?_update_self _ (Heap.get?_push_of_some _ he) rfl]
    rfl
structure EC where
  nm : Str
  q : Str
  bs : List Value
  sn : List Str
  sub : List Value
  ab : Bool
  col : Option Bool
  dd : Option Addr
  k0 : Option Value
  k1 : Option Value
  k2 : Option Value
  k3 : Option Value
  k5 : Option Value
structure ClsK (h : Heap) (C N fI : Addr) (mN : Str → Option Value) : Prop where
  cls : ∃ r : EC, h.get? C = some (excClassObj r.nm r.q C N r.bs [.type "Exception", .type "BaseException", .type "object"] true r.sn r.sub r.ab r.col r.dd r.k0 r.k1 r.k2 r.k3 r.k5 "Exception.__new__")
  ns : h.Ns N mN
  init : mN "__init__" = some (.ref fI)
  noSet : mN "__setattr__" = none
  noKind : mN "kind" = none
  noText : mN "text" = none
end
open Builtin Builtin.ObjectAttr
section
variable {prog : Program} {w : World} {A : Around} {E : Value → Shared → Prop} {h : Heap} {g : Array GenState} {d : Drawn} {t : Nat} {os : OsState}
variable {nm q : Str} {C N : Addr} {bs bm : List Value} {sn : List Str} {sub : List Value} {ab : Bool} {col : Option Bool} {dd : Option Addr} {k0 k1 k2 k3 k5 : Option Value} {newId : String}
theorem store_first0 {e : Addr} {o : Obj} {mN : Str → Option Value} {name : Str} {v : Value} {tk : Tok} {Q : Fin → Shared → Prop}
    (hC : h.get? C = some (excClassObj nm q C N bs [.type "Exception", .type "BaseException", .type "object"] true sn sub ab col dd k0 k1 k2 k3 k5 newId)) (hn : h.Ns N mN) (hna : mN name = none)
    (hB : typeLookup (.type "Exception") name = pure none) (he : h.get? e = some o) (hc : o.cls = .ref C) (hnc : ∀ c, o.data ≠ .cls c) (hdn : o.dict = none)
    (hq : wpAny (model prog w) A (storeInDict h.objs.size (.str name tk) name v) Q E ⟨(h.push { cls := .type "dict", data := .dict #[] }).update e fun o => { cls := o.cls, dict := some h.objs.size, data := o.data, slots := o.slots }, g, d, t, os⟩) :
    wpAny (model prog w) A (Builtin.«object.__setattr__» ⟨[.ref e, .str name tk, v], []⟩) Q E ⟨h, g, d, t, os⟩ := by
  have SF := PySem.F.store_Exception
  have hpass := SF.passes (.ref e)
  unfold Builtin.«object.__setattr__»
  repeat (first | rw [refuse_eq] | (rw [refuseLoop_ref, hpass]) | (with_reducible refine wpAny_loadPart_at he ?_; rw [hc]) | with_reducible refine wpAny_mroOf_exc hC ?_ | (with_reducible refine wpAny_typeLookup_exc hC hn SF.mro hB ?_; rw [hna]) | wp_step)
  rw [hdn, if_neg (by simp [typeHasDict])]
  split
  · rename_i hcd
    cases hcd
  split
  · rename_i c hcd
    exact absurd hcd (hnc c)
  · refine wpAny_bind (wpAny_alloc' ?_)
    refine wpAny_bind (wpAny_update' (Heap.get?_push_of_some _ he) ?_)
    exact wpAny_pure hq
theorem store_first1 {e : Addr} {o : Obj} {name : Str} {v : Value} {tk : Tok} {Q : Fin → Shared → Prop} (he : h.get? e = some o)
    (hq : ∀ h' tk', h'.get? e = some { o with dict := some h.objs.size } → h'.Ns1 h.objs.size (fun y => if y = name then some v else none) → (∀ b ob, b ≠ e → h.get? b = some ob → h'.get? b = some ob) → Q (.done (.ret .none)) ⟨h', g, d, tk', os⟩) :
    wpAny (model prog w) A (storeInDict h.objs.size (.str name tk) name v) Q E ⟨(h.push { cls := .type "dict", data := .dict #[] }).update e fun o => { cls := o.cls, dict := some h.objs.size, data := o.data, slots := o.slots }, g, d, t, os⟩ := by
  have hes : e ≠ h.objs.size := Nat.ne_of_lt (Heap.lt_size he)
  have he₁ : (h.push { cls := .type "dict", data := .dict #[] }).get? e = some o := Heap.get?_push_of_some _ he
  have keep₂ : ∀ b ob, b ≠ e → h.get? b = some ob → ((h.push { cls := .type "dict", data := .dict #[] }).update e fun o => { cls := o.cls, dict := some h.objs.size, data := o.data, slots := o.slots }).get? b = some ob :=
    fun b ob hb q => (Heap.get?_update_ne _ _ _ _ hb).trans (Heap.get?_push_of_some _ q)
  have hd₂ : ((h.push { cls := .type "dict", data := .dict #[] }).update e fun o => { cls := o.cls, dict := some h.objs.size, data := o.data, slots := o.slots }).get? h.objs.size = some { cls := .type "dict", data := .dict #[] } :=
    (Heap.get?_update_ne _ _ _ _ hes.symm).trans (Heap.get?_push_at rfl rfl)
  have he₂ : ((h.push { cls := .type "dict", data := .dict #[] }).update e fun o => { cls := o.cls, dict := some h.objs.size, data := o.data, slots := o.slots }).get? e = some { o with dict := some h.objs.size } := by
    refine Heap.get?_update_self _ he₁ ?_
    have hfr := (Heap.get?_some_iff.mp he).2
    obtain ⟨oc, od, odt, osl⟩ := o
    cases odt <;> first | rfl | exact hfr
  generalize (h.push { cls := .type "dict", data := .dict #[] }).update e (fun o => { cls := o.cls, dict := some h.objs.size, data := o.data, slots := o.slots }) = h₂ at *
  have hn₂ : h₂.Ns h.objs.size (fun _ => none) := ⟨_, #[], _, hd₂, rfl, fun e he => absurd he (by simp), fun _ => rfl⟩
  unfold storeInDict newKeyGuard
  refine wpAny_bind (wpAny_pure (wpAny_bind (wpAny_nsSet1 (Heap.Ns1.of_empty hn₂) fun h' hn' hs => ?_)))
  obtain ⟨oD, esD, epD, hoD, hdD, hcD⟩ := hn'.count (Within.cons name v Within.nil)
  refine wpAny_bind (wpAny_lookBehind hoD (by rw [hdD]; exact pastItsLine_dict (Nat.le_trans hcD (by rw [List.length_cons, List.length_nil, sizeLine_eq]; (first | lia | omega)))) ?_)
  clear hoD hdD hcD
  wp_walk
  exact hq h' _ ((hs.2 e hes).trans he₂) hn' fun b ob hb q => (hs.2 b (Nat.ne_of_lt (Heap.lt_size q))).trans (keep₂ b ob hb q)
theorem store_firstC {bm : List Value} {sa owner : String} (SF : StoreFacts "Exception" bm sa owner) {e : Addr} {o : Obj} {name : Str} {v : Value} {tk : Tok} {R : Result → Shared → Prop}
    (hC : h.get? C = some (excClassObj nm q C N bs bm true sn sub ab col dd k0 k1 k2 k3 k5 newId)) (he : h.get? e = some o) (hc : o.cls = .ref C)
    (hq : ∀ Q : Fin → Shared → Prop, (∀ s', R (.ok (.ret .none)) s' → Q (.done (.ret .none)) s') → wpAny (model prog w) A.in1 (Builtin.«object.__setattr__» ⟨[.ref e, .str name tk, v], []⟩) Q (fun e s' => R (.error e) s') ⟨h, g, d, t, os⟩) :
    codeAny (model prog w) A (.call (.builtin sa) ⟨[.ref e, .str name tk, v], []⟩) R ⟨h, g, d, t, os⟩ :=
  codeAny_call_builtin SF.slot.plain SF.entry (wpAny_check_sa SF hC he hc (hq _ fun _ x => x))
theorem store_firstS {bm : List Value} {sa owner : String} (SF : StoreFacts "Exception" bm sa owner) {e : Addr} {o : Obj} {mN : Str → Option Value} {name : Str} {v : Value} {Q : Unit → Shared → Prop}
    (hC : h.get? C = some (excClassObj nm q C N bs bm true sn sub ab col dd k0 k1 k2 k3 k5 newId)) (hn : h.Ns N mN) (hns : mN "__setattr__" = none) (he : h.get? e = some o) (hc : o.cls = .ref C)
    (hq : ∀ (tk t' : Nat) (A' : Around) (E' : Value → Shared → Prop) (Q' : Fin → Shared → Prop), (∀ s', Q () s' → Q' (.done (.ret .none)) s') → wpAny (model prog w) A' (Builtin.«object.__setattr__» ⟨[.ref e, .str name tk, v], []⟩) Q' E' ⟨h, g, d, t', os⟩) :
    wpAny (model prog w) A (setAttr (.ref e) name v) Q E ⟨h, g, d, t, os⟩ := by
  have f3 := SF.slot.bind (.ref e)
  unfold setAttr callSpecial? specialOf
  repeat (any_goals (first | assumption | (with_reducible refine wpAny_loadPart_at he ?_; rw [hc]) | (with_reducible refine wpAny_typeLookup_exc hC hn SF.mro SF.slot.lookup ?_; rw [hns]) | wp_step))
  refine store_firstC SF hC he hc fun Q' hQ' => hq _ _ _ _ _ fun s' hs' => hQ' _ ?_
  obtain ⟨h', g', d', t', os'⟩ := s'
  repeat (any_goals (first | assumption | wp_step))
theorem store_first {e : Addr} {o : Obj} {mN : Str → Option Value} {name : Str} {v : Value} {Q : Unit → Shared → Prop}
    (hC : h.get? C = some (excClassObj nm q C N bs [.type "Exception", .type "BaseException", .type "object"] true sn sub ab col dd k0 k1 k2 k3 k5 newId)) (hn : h.Ns N mN) (hns : mN "__setattr__" = none) (hna : mN name = none)
    (hB : typeLookup (.type "Exception") name = pure none) (he : h.get? e = some o) (hc : o.cls = .ref C) (hnc : ∀ c, o.data ≠ .cls c) (hdn : o.dict = none)
    (hq : ∀ h' tk', h'.get? e = some { o with dict := some h.objs.size } → h'.Ns1 h.objs.size (fun y => if y = name then some v else none) → (∀ b ob, b ≠ e → h.get? b = some ob → h'.get? b = some ob) → Q () ⟨h', g, d, tk', os⟩) :
    wpAny (model prog w) A (setAttr (.ref e) name v) Q E ⟨h, g, d, t, os⟩ :=
  store_firstS PySem.F.store_Exception hC hn hns he hc fun tk t' A' E' Q' hQ' => store_first0 hC hn hna hB he hc hnc hdn (store_first1 he fun h' tk' a b c => hQ' _ (hq h' tk' a b c))
end
open Builtin Builtin.ObjectAttr
section
variable {prog : Program} {w : World} {A : Around} {E : Value → Shared → Prop} {h : Heap} {g : Array GenState} {d : Drawn} {t : Nat} {os : OsState}
variable {nm q : Str} {C N : Addr} {bs bm : List Value} {sn : List Str} {sub : List Value} {ab : Bool} {col : Option Bool} {dd : Option Addr} {k0 k1 k2 k3 k5 : Option Value} {newId : String}
theorem load_entryX {x : Addr} {o : Obj} {mN mA : Str → Option Value} {name : Str} {v : Value} {dx : Addr} {tk : Tok} {Q : Fin → Shared → Prop} (hm : mroOf (.type "Exception") = pure bm)
    (hC : h.get? C = some (excClassObj nm q C N bs bm true sn sub ab col dd k0 k1 k2 k3 k5 newId)) (hn : h.Ns N mN) (hna : mN name = none)
    (hB : typeLookup (.type "Exception") name = pure none) (hx : h.get? x = some o) (hc : o.cls = .ref C) (hnc : ∀ c, o.data ≠ .cls c) (hdx : o.dict = some dx) (hns : h.Ns dx mA) (hv : mA name = some v) (hq : Q (.done (.ret v)) ⟨h, g, d, t, os⟩) :
    wpAny (model prog w) A (Builtin.«object.__getattribute__» ⟨[.ref x, .str name tk], []⟩) Q E ⟨h, g, d, t, os⟩ := by
  unfold Builtin.«object.__getattribute__»
  repeat (any_goals (first | assumption | (with_reducible refine wpAny_loadPart_at hx ?_; rw [hc]) | (with_reducible refine wpAny_typeLookup_exc hC hn hm hB ?_; rw [hna]) | wp_step))
  unfold instanceDict
  repeat (any_goals (first | assumption | (with_reducible refine wpAny_loadPart_at hx ?_; rw [hc]) | with_reducible refine wpAny_loadPart_at hC ?_ | wp_step))
  split
  · rename_i c hcd
    exact absurd hcd (hnc c)
  repeat (any_goals (first | assumption | (with_reducible refine wpAny_loadPart_at hx ?_; rw [hc]) | with_reducible refine wpAny_loadPart_at hC ?_ | wp_step))
  rw [hdx]
  repeat (first | (with_reducible refine wpAny_nsGet hns ?_; rw [hv]) | wp_step)
  exact hq
theorem load_callX (FB : ExcAttrBase "Exception" bm) {x : Addr} {o : Obj} {mN mA : Str → Option Value} {name : Str} {v : Value} {dx : Addr} {tk : Tok} {R : Result → Shared → Prop} (hsub : bm.contains (.type "BaseException") = true)
    (hC : h.get? C = some (excClassObj nm q C N bs bm true sn sub ab col dd k0 k1 k2 k3 k5 newId)) (hn : h.Ns N mN) (hna : mN name = none)
    (hB : typeLookup (.type "Exception") name = pure none) (hx : h.get? x = some o) (hc : o.cls = .ref C) (hnc : ∀ c, o.data ≠ .cls c) (hdx : o.dict = some dx) (hns : h.Ns dx mA) (hv : mA name = some v) (hq : R (.ok (.ret v)) ⟨h, g, d, t, os⟩) :
    codeAny (model prog w) A (.call (.builtin "BaseException.__getattribute__") ⟨[.ref x, .str name tk], []⟩) R ⟨h, g, d, t, os⟩ := by
  have hcB : (Value.ref C :: bm).contains (.type "BaseException") = true := by rw [List.contains_cons, hsub, Bool.or_true]
  have check : wpAny (model prog w) A.in1 (checkBuiltinCall "BaseException.__getattribute__" ⟨[.ref x, .str name tk], []⟩) (fun _ s' => s' = ⟨h, g, d, t, os⟩) (fun e s' => R (.error e) s') ⟨h, g, d, t, os⟩ := by
    have hk : builtinKind "BaseException.__getattribute__" = some .slot := by decide +kernel
    have hsplit : splitId "BaseException.__getattribute__" = some ("BaseException", "__getattribute__") := by decide +kernel
    have ha := PySem.F.args_bexc_ga (.ref x) (.str name tk)
    simp only [checkBuiltinCall, hk, hsplit]
    refine wpAny_bind ?_
    unfold isInstance
    repeat (first | (with_reducible refine wpAny_loadPart_at hx ?_; rw [hc]) | (with_reducible refine wpAny_isSubtype_exc hC ?_; rw [hcB]) | wp_step)
    rfl
  refine codeAny_call_builtin FB.ga.plain PySem.F.entry_bexc_ga (wpAny_mono check (fun _ s' e => ?_) fun _ _ e => e)
  subst e
  exact load_entryX FB.mro hC hn hna hB hx hc hnc hdx hns hv hq
theorem load_attrX (FB : ExcAttrBase "Exception" bm) {x : Addr} {o : Obj} {mN mA : Str → Option Value} {name : Str} {v : Value} {dx : Addr} {expr : Bool} {Q : Value → Shared → Prop} (hsub : bm.contains (.type "BaseException") = true)
    (hC : h.get? C = some (excClassObj nm q C N bs bm true sn sub ab col dd k0 k1 k2 k3 k5 newId)) (hn : h.Ns N mN) (hna : mN name = none) (hng : mN "__getattribute__" = none) (hng2 : mN "__getattr__" = none)
    (hB : typeLookup (.type "Exception") name = pure none) (hx : h.get? x = some o) (hc : o.cls = .ref C) (hnc : ∀ c, o.data ≠ .cls c) (hdx : o.dict = some dx) (hns : h.Ns dx mA) (hv : mA name = some v) (hh : handedOut v = pure v) (hq : Q v ⟨h, g, d, t + 1, os⟩) :
    wpAny (model prog w) A (getAttr (.ref x) name expr) Q E ⟨h, g, d, t, os⟩ := by
  have f3 := FB.ga.bind (.ref x)
  have hx0 : (expr && onTheHeap (Value.builtin "BaseException.__getattribute__")) = false := by cases expr <;> rfl
  have hx2 : (Value.builtin "BaseException.__getattribute__" == Value.builtin "object.__getattribute__") = false := by decide +kernel
  have hx1 : (onTheHeap (Value.ref C) && Value.builtin "BaseException.__getattribute__" == Value.builtin "object.__getattribute__") = false := by rw [hx2]; rfl
  unfold getAttr getAttrBy
  repeat (any_goals (first | assumption | (with_reducible refine wpAny_loadPart_at hx ?_; rw [hc]) | (with_reducible refine wpAny_typeLookup_exc hC hn FB.mro FB.ga.lookup ?_; rw [hng]) | (with_reducible refine wpAny_typeLookup_exc hC hn FB.mro FB.noGetattr ?_; rw [hng2]) | wp_step))
  refine load_callX FB hsub hC hn hna hB hx hc hnc hdx hns hv ?_
  repeat (any_goals (first | assumption | wp_step))
end
section
variable {M : Model} {A : Around} {E : Value → Shared → Prop} {env : Env}
variable {nm q : Str} {C N : Addr} {bs bm : List Value} {hdct : Bool} {sn : List Str} {sub : List Value} {ab : Bool} {col : Option Bool} {dd : Option Addr} {k0 k1 k2 k3 k5 : Option Value} {newId : String}
theorem raise_inst {s : Shared} {x : Sem Value} {Q : Flow → Shared → Prop} (hbase : bm.contains (.type "BaseException") = true) (hh : A.handled = none)
    (h : wpAny M A x (fun v s₁ => ∃ e t dct sl, v = .ref e ∧ s₁.heap.get? C = some (excClassObj nm q C N bs bm hdct sn sub ab col dd k0 k1 k2 k3 k5 newId) ∧
      s₁.heap.get? e = some { cls := .ref C, dict := dct, data := .fields #[.ref t, .none, .none, .none, .bool false, .none], slots := sl } ∧ E (.ref e) s₁) E s) :
    wpAny M A (raiseStmt env (some x) none) Q E s := by
  have hcB : (Value.ref C :: bm).contains (.type "BaseException") = true := by rw [List.contains_cons, hbase, Bool.or_true]
  unfold raiseStmt
  refine wpAny_bind (wpAny_mono h (fun v s₁ h₁ => ?_) fun _ _ x => x)
  obtain ⟨e, t, dct, sl, rfl, hC, he, hE⟩ := h₁
  obtain ⟨hp, g, d, tk, os⟩ := s₁
  repeat (first | with_reducible refine wpAny_loadPart_at he ?_ | with_reducible refine wpAny_loadPart_at hC ?_ | (with_reducible refine wpAny_isSubtype_exc hC ?_; rw [hcB]) | wp_step)
  exact PySem.wpAny_raiseNew_none hh hE
end
structure ExcAt (h₀ : Heap) (C : Addr) (kind : Str) (e : Addr) (h : Heap) : Prop where
  e0 : h₀.get? e = none
  obj : ∃ vs dx sl mA tk, h.get? e = some { cls := .ref C, dict := some dx, data := .fields vs, slots := sl } ∧ h.Ns dx mA ∧ mA "kind" = some (.str kind tk) ∧ vs.size = 6 ∧
    (vs[1]? = some .none ∨ ∃ T oT ts, vs[1]? = some (.ref T) ∧ h₀.get? T = none ∧ T ≠ e ∧ h.get? T = some oT ∧ oT.data = .fields ts ∧ ts[3]? = some .none)
noncomputable def Noted (e : Addr) (h : Heap) : Prop := ∃ o vs T oT ts, h.get? e = some o ∧ o.data = .fields vs ∧ vs[1]? = some (.ref T) ∧ h.get? T = some oT ∧ oT.data = .fields ts ∧ ts[3]? = some .none
structure NoteK (S : List Addr) (h₀ h h' : Heap) : Prop where
  keep : ∀ b o o₀, b ∉ S → h₀.get? b = some o₀ → h.get? b = some o → h'.get? b = some o
  slots : ∀ b o, b ∈ S → h.get? b = some o → ∃ sl, h'.get? b = some { o with slots := sl }
  live : ∀ b o, h.get? b = some o → ∃ o', h'.get? b = some o'
theorem mapFields_is {o : Obj} {vs : Array Value} (hd : o.data = .fields vs) (f : Array Value → Array Value) : o.mapFields f = { o with data := .fields (f vs) } := by
  obtain ⟨c, d, dt, sl⟩ := o
  simp only at hd
  subst hd
  rfl
section
variable {M : Model} {A : Around} {E : Value → Shared → Prop} {s : Shared} {base h₀ : Heap} {env : Env} {outer : List Env} {L e C : Addr} {kind : Str}
theorem new_entry {head : Value} {hadNext : Bool} {Q : Unit → Shared → Prop} {vs : Array Value} {dx : Addr} {sl : Array (Option Value)} {mA : Str → Option Value} {tk : Tok}
    (hfr : A.frames = some (env :: outer)) (hl : s.heap.FunFrames base (env :: outer)) (hf : env.frame = some L) (h0 : ∀ b o, h₀.get? b = some o → ∃ o', s.heap.get? b = some o') (e0 : h₀.get? e = none)
    (he : s.heap.get? e = some { cls := .ref C, dict := some dx, data := .fields vs, slots := sl }) (hn : s.heap.Ns dx mA) (hk : mA "kind" = some (.str kind tk)) (hsz : vs.size = 6)
    (h : ∀ h', NoteK ((env :: outer).filterMap (·.frame)) h₀ s.heap h' → ExcAt h₀ C kind e h' → Noted e h' → Q () { s with heap := h' }) :
    wpAny M A (do let a ← frameOf env; let pl ← entryPlaceOf L hadNext; let b ← EntryCells.newEntry head a .none (rawInt L) .none pl; setField (.ref e) 1 b) (fun _ s' => wpAny M A (setFlight (.ref e) none) Q E s') E s := by
  generalize hS : (env :: outer).filterMap (·.frame) = S at h
  have hmem : ∀ b, b ∈ S → ∃ o, s.heap.get? b = some o ∧ ∀ vs, o.data ≠ .fields vs := fun b hb => (hl.mem (hS ▸ hb)).2
  refine wpAny_bind (PySem.wpAny_frameOf_fun hfr hl hf fun h₁ hs₁ => ?_)
  rw [hS] at hs₁
  refine wpAny_bind (PySem.wpAny_entryPlaceOf fun pl hpl => ?_)
  unfold EntryCells.newEntry newFields
  refine wpAny_bind (wpAny_newObj_type ?_ (hpl.sizeOk5 _ _ _ _ _))
  have heS : e ∉ S := fun hm => by
    obtain ⟨o, ho, hnf⟩ := hmem e hm
    rw [he] at ho; cases ho; exact hnf vs rfl
  have he₁ : h₁.get? e = some _ := (hs₁.2.1 e heS).trans he
  have he₂ := Heap.get?_push_of_some (h := h₁) { cls := .type "traceback", dict := none, data := .fields ([head, .ref L, .none, rawInt L, .none] ++ (if pl.isEmpty then List.replicate 6 Value.none else pl)).toArray } he₁
  refine wpAny_setField he₂ rfl (by (first | lia | omega)) ?_
  have hTe : h₁.objs.size ≠ e := Nat.ne_of_gt (Heap.lt_size he₁)
  have he₃ := Heap.get?_update_self (Obj.mapFields (·.setIfInBounds 1 (Value.ref h₁.objs.size))) he₂ rfl
  have hT₃ := (Heap.get?_update_other (h₁.push { cls := .type "traceback", dict := none, data := .fields ([head, .ref L, .none, rawInt L, .none] ++ (if pl.isEmpty then List.replicate 6 Value.none else pl)).toArray })
    (Obj.mapFields (·.setIfInBounds 1 (Value.ref h₁.objs.size))) (Ne.symm hTe)).trans (Heap.get?_push_size h₁ rfl)
  unfold setFlight
  refine wpAny_bind (wpAny_field he₃ (Obj.data_mapFields rfl _) (x := .ref h₁.objs.size) (by simp [hsz]) ?_)
  rw [if_pos (show (Value.ref h₁.objs.size != Value.none) = true from by simp)]
  refine wpAny_setField hT₃ rfl (by simp only [List.size_toArray, List.length_append, List.length_cons, List.length_nil] <;> (first | lia | omega)) ?_
  have keep : ∀ b o, b ≠ e → h₁.get? b = some o →
      (((h₁.push { cls := .type "traceback", dict := none, data := .fields ([head, .ref L, .none, rawInt L, .none] ++ (if pl.isEmpty then List.replicate 6 Value.none else pl)).toArray }).update e (Obj.mapFields (·.setIfInBounds 1 (Value.ref h₁.objs.size)))).update h₁.objs.size
        (Obj.mapFields (·.setIfInBounds 3 ((none : Option Addr).elim Value.none fun f => rawInt f)))).get? b = some o := fun b o hbe hb => by
    have hbT : h₁.objs.size ≠ b := Nat.ne_of_gt (Heap.lt_size hb)
    rw [Heap.get?_update_other _ _ hbT, Heap.get?_update_other _ _ (Ne.symm hbe)]
    exact Heap.get?_push_of_some _ hb
  have hT₄ := Heap.get?_update_self (Obj.mapFields (·.setIfInBounds 3 ((none : Option Addr).elim Value.none fun f => rawInt f))) hT₃ rfl
  have he₄ := (Heap.get?_update_other _ (Obj.mapFields (·.setIfInBounds 3 ((none : Option Addr).elim Value.none fun f => rawInt f))) hTe).trans he₃
  generalize ((h₁.push { cls := .type "traceback", dict := none, data := .fields ([head, .ref L, .none, rawInt L, .none] ++ (if pl.isEmpty then List.replicate 6 Value.none else pl)).toArray }).update e (Obj.mapFields (·.setIfInBounds 1 (Value.ref h₁.objs.size)))).update h₁.objs.size
        (Obj.mapFields (·.setIfInBounds 3 ((none : Option Addr).elim Value.none fun f => rawInt f))) = h₄ at keep hT₄ he₄
  have hTd := Obj.data_mapFields (o := { cls := .type "traceback", dict := none, data := .fields ([head, .ref L, .none, rawInt L, .none] ++ (if pl.isEmpty then List.replicate 6 Value.none else pl)).toArray }) rfl (·.setIfInBounds 3 ((none : Option Addr).elim Value.none fun f => rawInt f))
  have h3 : ((([head, .ref L, .none, rawInt L, .none] ++ (if pl.isEmpty then List.replicate 6 Value.none else pl)).toArray.setIfInBounds 3 ((none : Option Addr).elim Value.none fun f => rawInt f)))[3]? = some Value.none := by
    first | (simp; done) | (rcases hpl with rfl | ⟨_, _, _, _, _, _, _, rfl⟩ <;> simp)
  have hnew : s.heap.get? h₁.objs.size = none := by
    rw [hs₁.1]; exact Heap.get?_none_of_le (Nat.le_refl _)
  have hv1 : (vs.setIfInBounds 1 (Value.ref h₁.objs.size))[1]? = some (.ref h₁.objs.size) := by simp [hsz]
  refine h h₄ ⟨fun b o o₀ hbS hb0 hb => ?_, fun b o hbS hb => ?_, fun b o hb => ?_⟩ ⟨e0, _, dx, sl, mA, tk, he₄, ?_, hk, by simpa using hsz, .inr ⟨_, _, _, hv1, ?_, hTe, hT₄, hTd, h3⟩⟩ ⟨_, _, _, _, _, he₄, rfl, hv1, hT₄, hTd, h3⟩
  · exact keep b o (fun q => by rw [q, e0] at hb0; cases hb0) ((hs₁.2.1 b hbS).trans hb)
  · obtain ⟨sl', hb1⟩ := hs₁.2.2 b o hb
    exact ⟨sl', keep b _ (fun q => heS (q ▸ hbS)) hb1⟩
  · by_cases hbe : b = e
    · exact ⟨_, hbe ▸ he₄⟩
    · obtain ⟨sl', hb1⟩ := hs₁.2.2 b o hb
      exact ⟨_, keep b _ hbe hb1⟩
  · refine genP fun gP hgP => ?_
    obtain ⟨o, es, ep, ho, hd, r⟩ := hn
    refine hgP ?_
    clear hgP
    obtain ⟨sl', hb1⟩ := hs₁.2.2 dx o ho
    exact ⟨_, es, ep, keep dx _ (fun q => by rw [q, he] at ho; cases ho; cases hd) hb1, hd, r⟩
  · cases q : h₀.get? h₁.objs.size with
    | none => rfl
    | some o =>
      obtain ⟨o', ho'⟩ := h0 _ o q
      rw [hnew] at ho'; cases ho'
theorem note_step {Q : Unit → Shared → Prop} (hfr : A.frames = some (env :: outer)) (hl : s.heap.FunFrames base (env :: outer)) (hf : env.frame = some L) (h0 : ∀ b o, h₀.get? b = some o → ∃ o', s.heap.get? b = some o') (hx : ExcAt h₀ C kind e s.heap)
    (h : ∀ h', NoteK ((env :: outer).filterMap (·.frame)) h₀ s.heap h' → ExcAt h₀ C kind e h' → Noted e h' → Q () { s with heap := h' }) :
    wpAny M A (noteFrame (.ref e) env) (fun _ s' => wpAny M A (setFlight (.ref e) none) Q E s') E s := by
  refine genP fun gP hgP => ?_
  obtain ⟨e0, vs, dx, sl, mA, tk, he, hn, hk, hsz, hT⟩ := hx
  refine hgP ?_
  clear hgP
  unfold noteFrame
  simp only [hf]
  rcases hT with h1 | ⟨T, oT, ts, h1, hT0, hTe, hT, hdT, h3⟩
  · refine wpAny_bind (wpAny_field he rfl h1 ?_)
    rw [if_neg (by decide)]
    exact new_entry hfr hl hf h0 e0 he hn hk hsz h
  · refine wpAny_bind (wpAny_field he rfl h1 ?_)
    rw [if_pos (show (Value.ref T != Value.none) = true from by simp)]
    refine wpAny_bind (wpAny_field hT hdT h3 ?_)
    rw [if_neg (show ¬ ((Value.none == rawInt L) = true) from by simp [rawInt])]
    refine wpAny_bind (wpAny_setField hT hdT (Array.getElem?_eq_some_iff.mp h3).1 ?_)
    have other : ∀ b, b ≠ T → (s.heap.update T (Obj.mapFields (·.setIfInBounds 3 Value.none))).get? b = s.heap.get? b := fun b hb => Heap.get?_update_other _ _ (Ne.symm hb)
    have self := Heap.get?_update_self (Obj.mapFields (·.setIfInBounds 3 Value.none)) hT (Obj.isFreed_of_fields (Obj.data_mapFields hdT _))
    have noRecord : ∀ b o, s.heap.get? b = some o → (∀ vs, o.data ≠ .fields vs) → b ≠ T := fun b o hb hnf q => by
      rw [q, hT] at hb; cases hb; exact hnf ts hdT
    refine new_entry (s := { s with heap := s.heap.update T (Obj.mapFields (·.setIfInBounds 3 Value.none)) }) hfr (hl.of_keeps fun b o hb hnf => ⟨o, (other b (noRecord b o hb hnf)).trans hb, rfl⟩) hf (fun b o e => ?_) e0 ((other e (Ne.symm hTe)).trans he) ?_ hk hsz fun h' q1 q2 q3 => h h' ⟨fun b o o₀ hbS hb0 hb => ?_, fun b o hbS hb => ?_, fun b o hb => ?_⟩ q2 q3
    · obtain ⟨o', ho'⟩ := h0 b o e
      exact ⟨o', (other b (fun q => by rw [q, hT0] at e; cases e)).trans ho'⟩
    · refine genP fun gP hgP => ?_
      obtain ⟨o, es, ep, ho, hd, r⟩ := hn
      refine hgP ?_
      clear hgP
      exact ⟨o, es, ep, (other dx (noRecord dx o ho (fun vs q => by rw [hd] at q; cases q))).trans ho, hd, r⟩
    · exact q1.keep b o o₀ hbS hb0 ((other b (fun q => by rw [q, hT0] at hb0; cases hb0)).trans hb)
    · refine genP fun gP hgP => ?_
      obtain ⟨_, o', ho', hnf⟩ := hl.mem hbS
      refine hgP ?_
      clear hgP
      rw [hb] at ho'; cases ho'
      exact q1.slots b o hbS ((other b (noRecord b o hb hnf)).trans hb)
    · by_cases hb' : b = T
      · subst hb'
        exact q1.live b _ self
      · exact q1.live b o ((other b hb').trans hb)
end
noncomputable def clsBody : Stmt → List Stmt
  | .ClassDef _ _ _ b _ _ _ _ _ _ _ => b
  | _ => []
noncomputable def rcI : DefRec := rcS (nthS 0 (clsBody (nthS 0 view.main.body)))
theorem meta_Exception : typeOf (.type "Exception") = pure (.type "type") := by
  first
    | exact typeOf_of_metatype (by decide +kernel)
    | rfl
theorem find_init : findCls [] (.type "Exception") (.type "type") "__init__" = some (.val (.builtin "Exception.__init__")) := by first | rfl | kernel_rfl
section
variable {prog : Program} {w : World} {hT : Heap} {mg mb : Str → Option Value} {k : Nat}
theorem empty_fr {h : Heap} {m : Str → Option Value} (n : h.Ns mainGlobals m) : Fr ({} : Heap) mainGlobals h m :=
  ⟨n, fun b o e => (by rw [show ({} : Heap).get? b = none from Heap.get?_none_of_le (Nat.zero_le _)] at e; cases e), Nat.zero_le _⟩
theorem get_init {A : Around} {E : Value → Shared → Prop} {s : Shared} {pl : Sem Bool} {Q : Value × List Value → Shared → Prop} (n : s.heap.Ns mainGlobals mg) (h : Q (.builtin "Exception.__init__", []) { s with toks := s.toks + 1 }) :
    wpAny (model prog w) A (getMethod (.type "Exception") "__init__" pl) Q E s :=
  method_type (K := []) (empty_fr n) (fun a o e => by cases e) meta_Exception (by decide +kernel) find_init rfl h
end
section
variable {prog : Program} {w : World} {hT : Heap} {mg mb : Str → Option Value} {k : Nat}
theorem str_add {A : Around} {E : Value → Shared → Prop} {s : Shared} {x y : Str} {t u : Tok} {Q : Value → Shared → Prop} (hs : x.length + y.length ≤ 16777216) (h : ∀ t' k, Q (.str (x ++ y) t') { s with toks := k }) : wpAny (model prog w) A (binaryOp .Add (.str x t) (.str y u)) Q E s :=
  PySem.W.KOpn.add hs fun t' k _ => h t' k
theorem noKind_Exception : typeLookup (.type "Exception") "kind" = pure none := by
  rw [typeLookup_type, builtinLookup_eq_fast]; kernel_rfl
theorem noText_Exception : typeLookup (.type "Exception") "text" = pure none := by
  rw [typeLookup_type, builtinLookup_eq_fast]; kernel_rfl
theorem init_body (C : Cx prog hT mg mb) {CA N fI : Addr} {mN : Str → Option Value} (K : ClsK hT CA N fI mN) (hExc : LoadsG mg mb "Exception" (.type "Exception"))
    {env : Env} {A : Around} {s : Shared} {e t0 : Addr} {kd tx : Str} {t1 t2 : Tok} {m : Str → Option Value} {E : Value → Shared → Prop} {R : Flow → Shared → Prop} (e1 : env.scope = rcI.scope) (e2 : EnvOk env) (hU : Up hT s.heap) (hn : s.heap.Ns env.locals m) (m1 : m "self" = some (.ref e)) (m2 : m "kind" = some (.str kd t1)) (m3 : m "text" = some (.str tx t2))
    (he : s.heap.get? e = some (excObj CA t0)) (he0 : hT.get? e = none) (hk : kd.length ≤ 1000) (ht : tx.length ≤ 1000)
    (h : ∀ h' tk, (∀ b o, b ≠ e → s.heap.get? b = some o → h'.get? b = some o) → (∃ vs dx sl mA, h'.get? e = some { cls := .ref CA, dict := some dx, data := .fields vs, slots := sl } ∧ (∃ T, vs = #[.ref T, .none, .none, .none, .bool false, .none]) ∧ h'.Ns dx mA ∧ mA "kind" = some (.str kd t1)) → R .next { s with heap := h', toks := tk }) :
    wpAny (model prog w) A (execs rcI.body env) R E s := by
  have kl : ∀ x : Str, (x == "self" || x == "kind" || x == "text") = true → env.kindOf x = some .local := fun x hx => by
    show env.scope.names.lookup x = _
    rw [e1]
    simp only [Bool.or_eq_true, beq_iff_eq] at hx
    rcases hx with (rfl | rfl) | rfl <;> rfl
  have nm : ∀ {h : Heap} {tk : Nat} {x : Str} {p : Pos} {v : Value} {A : Around} {E : Value → Shared → Prop} {Q : Value → Shared → Prop}, (x == "self" || x == "kind" || x == "text") = true → h.Ns env.locals m → m x = some v → Q v { s with heap := h, toks := tk } → wpAny (model prog w) A (eval (.Name x p) env) Q E { s with heap := h, toks := tk } := fun {h tk x p v A E Q} hx n hv q => by
    refine name_sees e2.kind (.inl ⟨kl x hx, m, n, hv⟩) q ?_ ?_
    all_goals
      simp only [Bool.or_eq_true, beq_iff_eq] at hx
      rcases hx with (rfl | rfl) | rfl <;> rfl
  have hne : env.locals ≠ e := fun q => by
    refine genP fun gP hgP => ?_
    obtain ⟨o, es, ep, ho, hd, _⟩ := hn
    refine hgP ?_
    clear hgP
    rw [q, he] at ho; cases ho; cases hd
  refine genP fun gP hgP => ?_
  obtain ⟨⟨⟨nm', q', bs, sn, sub, ab, col, dd, k0, k1, k2, k3, k5⟩, hC⟩, hN, hi, hsA, hnk, hnt⟩ := K
  refine hgP ?_
  clear hgP
  have upk : ∀ {h : Heap}, (∀ b o, b ≠ e → s.heap.get? b = some o → h.get? b = some o) → ∀ b o, hT.get? b = some o → h.get? b = some o := fun hk b o eb => hk b o (fun q => by rw [q, he0] at eb; cases eb) (hU b o eb)
  have nsk : ∀ {h : Heap}, (∀ b o, b ≠ e → s.heap.get? b = some o → h.get? b = some o) → h.Ns env.locals m := fun hk => hn.at' fun o eo => hk _ o hne eo
  refine PySem.wpAny_execs_cons (wpAny_Expr_any ?_ (by unfold interactive; rw [e2.kind]; rfl) rfl)
  refine methodCall_KW (kws := []) (pl := _) ?_
  refine global_loads C hU e2.kind e2.glob e2.bui (by show env.scope.names.lookup _ = _; rw [e1]; rfl) hExc ?_ rfl
  refine get_init (C.g.keeps hU) ?_
  show wpAny _ _ (callWith _ (.builtin "Exception.__init__") [] (backTo _ (starEach _ env)) []) _ _ _
  rw [star_plain (by rfl), back_plain]
  refine PySem.Calls.callWith_builtin rfl (PySem.Calls.evalArgs_plain ?_)
  refine PySem.Calls.spliced_cons (nm rfl hn m1 ?_)
  refine PySem.Calls.spliced_cons (wpAny_BinOp (wpAny_BinOp (nm rfl hn m2 (wpAny_Constant_str ?_))))
  refine str_add (by show _ + (": " : Str).length ≤ _; have : (": " : Str).length ≤ 10 := by decide +kernel
                     (first | lia | omega)) fun t' k' => ?_
  refine nm rfl hn m3 (str_add (by have : (": " : Str).length ≤ 10 := by decide +kernel
                                   rw [PySem.Str.length_append]; (first | lia | omega)) fun t'' k'' => ?_)
  refine PySem.Calls.spliced_nil ?_
  refine exc_init_call (hU _ _ hC) he fun h₁ T hk1 he1 => ?_
  have n1 := nsk hk1
  refine PySem.wpAny_execs_cons (plainObj_wpAny_Assign_Attribute ?_ rfl)
  refine nm rfl n1 m2 (nm rfl n1 m1 ?_)
  refine store_first (upk hk1 _ _ hC) (hN.keeps (upk hk1)) hsA hnk noKind_Exception he1 rfl (fun c q => by cases q) rfl fun h₂ tk2 he2 hD hk2 => ?_
  have hk2' : ∀ b o, b ≠ e → s.heap.get? b = some o → h₂.get? b = some o := fun b o hb eb => hk2 b o hb (hk1 b o hb eb)
  have n2 := nsk hk2'
  refine PySem.wpAny_execs_cons (plainObj_wpAny_Assign_Attribute ?_ rfl)
  refine nm rfl n2 m3 (nm rfl n2 m1 ?_)
  have hdx : h₁.objs.size ≠ e := Nat.ne_of_gt (Heap.lt_size he1)
  have hxC : e ≠ CA := fun q => by rw [← q, he0] at hC; cases hC
  refine store_attr PySem.F.store_Exception (upk hk2' _ _ hC) (hN.keeps (upk hk2')) hsA hnt noText_Exception hxC ⟨_, he2, rfl, (fun c q => by cases q), .inr ⟨_, rfl, hdx, hD⟩⟩ (fun h₃ tk3 hI hk3 hsame => ?_) (Within.cons _ _ Within.nil)
  · refine PySem.wpAny_execs_nil ?_
    refine genP fun gP hgP => ?_
    obtain ⟨o₁, ho1, c1, c2, c3, c4⟩ := hsame _ he2
    refine hgP ?_
    clear hgP
    have c4' := c4 _ rfl
    refine genP fun gP hgP => ?_
    obtain ⟨o₂, ho2, _, _, hI⟩ := hI
    refine hgP ?_
    clear hgP
    rw [ho1] at ho2; cases ho2
    rcases hI with ⟨q, _⟩ | ⟨dx, q1, q2, q3⟩
    · rw [c4'] at q; cases q
    · refine genP fun gP hgP => ?_
      obtain ⟨oc, od, odt, osl⟩ := o₁
      refine hgP ?_
      clear hgP
      simp only at c1 c2 c3 c4' q1
      subst c1 c2 c3 q1
      refine h h₃ tk3 (fun b o hb eb => hk3 b o hb (fun o₀ dx' e0 ed => ?_) (hk2' b o hb eb)) ⟨_, dx, _, _, ho1, ⟨T, rfl⟩, q3.ns, by show (if ("kind" : Str) = "text" then _ else (if ("kind" : Str) = "kind" then _ else _)) = _; rw [if_neg (by decide +kernel), if_pos rfl]⟩
      rw [he2] at e0; cases e0; cases ed
      intro hq
      rw [hq] at eb
      exact absurd (Heap.lt_size (hk1 _ o hdx eb)) (Nat.lt_irrefl _)
end
theorem tc_weight (C : Addr) (rest : List Value) : (Code.builtin "type.__call__" ⟨.ref C :: rest, []⟩).weight = 1 := by
  first | rfl | kernel_rfl
theorem tc_units (C : Addr) (rest : List Value) : (Code.builtin "type.__call__" ⟨.ref C :: rest, []⟩).cUnits = 1 := by
  first | rfl | kernel_rfl
theorem tc_envs (C : Addr) (rest : List Value) : (Code.builtin "type.__call__" ⟨.ref C :: rest, []⟩).envs = [] := by
  first | rfl | kernel_rfl
theorem ain_tc {k : Nat} {A : Around} {C : Addr} {rest : List Value} (h : AIn (k + 1) A) : AIn k (A.under (.builtin "type.__call__" ⟨.ref C :: rest, []⟩)) := by
  refine genP fun gP hgP => ?_
  obtain ⟨a, b, c, e, l, f, g⟩ := h
  refine hgP ?_
  clear hgP
  refine ⟨a, ?_, ?_, e, l, ?_, g⟩
  · show A.depth + _ + k + 120 < _
    rw [tc_weight]; (first | lia | omega)
  · show A.units + _ + 10 * k + 200 < _
    rw [tc_units]; (first | lia | omega)
  · show pushEnvs (Code.builtin "type.__call__" ⟨.ref C :: rest, []⟩).envs A.frames = some (e :: l)
    rw [tc_envs, f]; rfl
section
variable {prog : Program} {w : World} {hT : Heap} {mg mb : Str → Option Value} {k : Nat}
structure CasIs (hT : Heap) (mg mb : Str → Option Value) (CA : Addr) : Prop where
  cls : ∃ N fI mN fd, ClsK hT CA N fI mN ∧ (mN "__getattribute__" = none ∧ mN "__getattr__" = none) ∧ FnIs hT fI fd rcI.body ["self", "kind", "text"] ∧ fd.scope = rcI.scope ∧ ∃ fo, hT.get? fI = some fo ∧ fo.data = .func fd ∧ fo.cls = .type "function"
  name : LoadsG mg mb "CasFail" (.ref CA)
  exc : LoadsG mg mb "Exception" (.type "Exception")
theorem raise_cas (C : Cx prog hT mg mb) {CA : Addr} (D : CasIs hT mg mb CA) {env : Env} (e2 : EnvOk env) (hx : env.kindOf "CasFail" = some .globalImplicit) {A : Around} {s : Shared} (hA : AIn (k + 2) A) (hU : Up hT s.heap)
    {kd tx : Str} {a1 a2 : Nat} {p1 p2 p3 cp pos : Pos} (hk : kd.length ≤ 1000) (ht : tx.length ≤ 1000) {Q : Flow → Shared → Prop} {E : Value → Shared → Prop}
    (h : ∀ e s', ExcAt s.heap CA kd e s'.heap → Keeps s s' → E (.ref e) s') :
    wpAny (model prog w) A (exec (.Raise (some (.Call (.Name "CasFail" p1) [.Constant (.str kd) a1 p2, .Constant (.str tx) a2 p3] [] cp)) none pos) env) Q E s := by
  refine genP fun gP hgP => ?_
  obtain ⟨⟨N, fI, mN, fd, K, _, fI_is, hsc, fo, ho, hd, hfc⟩, hl, hExc⟩ := D
  refine hgP ?_
  clear hgP
  refine genP fun gP hgP => ?_
  obtain ⟨⟨⟨nm', q', bs, sn, sub, ab, col, dd, k0, k1, k2, k3, k5⟩, hC⟩, hN, hi, hsA, hnk, hnt⟩ := id K
  refine hgP ?_
  clear hgP
  rw [arm_exec_Raise]
  simp only [show ∀ e : Expr, evalOpt (some e) env = some (eval e env) from fun _ => rfl, show evalOpt none env = none from rfl, Option.map]
  refine wpAny_bind (wpAny_standAt (raise_inst (C := CA) (nm := nm') (q := q') (N := N) (bs := bs) (bm := [.type "Exception", .type "BaseException", .type "object"]) (hdct := true) (sn := sn) (sub := sub) (ab := ab) (col := col) (dd := dd) (k0 := k0) (k1 := k1) (k2 := k2) (k3 := k3) (k5 := k5) (newId := "Exception.__new__") (by decide) hA.handled ?_))
  refine wpAny_bind (wpAny_mono (Q := fun v s₁ => ∃ e t dct sl, v = .ref e ∧ s₁.heap.get? CA = some (excClassObj nm' q' CA N bs [.type "Exception", .type "BaseException", .type "object"] true sn sub ab col dd k0 k1 k2 k3 k5 "Exception.__new__") ∧
      s₁.heap.get? e = some { cls := .ref CA, dict := dct, data := .fields #[.ref t, .none, .none, .none, .bool false, .none], slots := sl } ∧ E (.ref e) s₁) (E := E) ?_ (fun v s₁ z => wpAny_bind (wpAny_standAt (wpAny_pure z))) fun _ _ e => e)
  refine genQE fun Q1 E1 hQ1 _ => ?_
  rw [arm_eval_Call_Name']
  refine wpAny_bind (global_loads C hU e2.kind e2.glob e2.bui hx hl ?_ rfl)
  show wpAny _ A (callWith cp (.ref CA) [] (backTo cp (starEach [.Constant (.str kd) a1 p2, .Constant (.str tx) a2 p3] env)) []) _ E1 s
  rw [star_plain (by rfl), back_plain]
  refine callWith_of (P := fun h => h.get? CA = some (excClassObj nm' q' CA N bs [.type "Exception", .type "BaseException", .type "object"] true sn sub ab col dd k0 k1 k2 k3 k5 "Exception.__new__")) rfl (fun h X => ⟨.machine, .inr (.inl rfl), fun A Q E s kk q => ?_⟩) (PySem.Calls.evalArgs_plain ?_)
  · refine genP fun gP hgP => ?_
    obtain ⟨hp, g, d, tk, os⟩ := s
    refine hgP ?_
    clear hgP
    exact wpAny_keeperOf_exc (kk _ _ X) q
  refine PySem.Calls.spliced_cons (wpAny_Constant_str ?_)
  refine PySem.Calls.spliced_cons (wpAny_Constant_str ?_)
  refine PySem.Calls.spliced_nil ⟨hU _ _ hC, ?_⟩
  show wpAny _ _ (call (.ref CA) [.str kd s.toks, .str tx (s.toks + 1)]) _ _ _
  refine wpAny_call_exc_init (g := s.gens) (d := s.drawn) (os := s.os) PySem.F.excBase_Exception (hU _ _ hC) (hN.keeps hU) hi (hU _ _ ho) hfc fun h' e hm => ?_
  have hU1 : Up hT h' := fun b o eb => hm.keeps b o (hU b o eb)
  have he0 : hT.get? e = none := by
    cases q : hT.get? e with
    | none => rfl
    | some o => have n := hm.new; rw [hU e o q] at n; cases n
  refine wpAny_call (fn_enter (ts := [.val (.ref e), .val (.str kd s.toks), .val (.str tx (s.toks + 1))]) (W := Non) C (k := k) (fun hU => fI_is.code.keeps hU) hd fI_is.body fI_is.clo fI_is.glob fI_is.bui fI_is.bind fI_is.sc rfl (ain_tc hA) (hU1 _ _ ho) hU1 ⟨fun _ q => q.elim, fun _ q => q.elim⟩ (.cons rfl (.cons rfl (.cons rfl .nil))) fun env1 s₁ U q1 q2 q3 q4 q5 ks uL hlow ns hS => ?_)
  rw [hsc] at q1
  obtain ⟨m, hn⟩ := ns
  have hv : ∀ x v, (x, TV.val v) ∈ ([("self", .val (.ref e)), ("kind", .val (.str kd s.toks)), ("text", .val (.str tx (s.toks + 1)))] : St) → env1.scope.names.lookup x = some .local → m x = some v := fun x v hm hloc => by
    rcases (hS.vv x v hm).2 with ⟨_, m', n', e'⟩ | ⟨kk | kk, _⟩
    · rw [ns_same hn n']; exact e'
    · have : env1.scope.names.lookup x = some .cell := kk
      rw [hloc] at this; cases this
    · have : env1.scope.names.lookup x = some .free := kk
      rw [hloc] at this; cases this
  refine genP fun gP hgP => ?_
  obtain ⟨t0, he, _, _⟩ := hm.there
  refine hgP ?_
  clear hgP
  refine init_body C K hExc q1 q4 (fun b o eb => Keeps.heap ks b o (hU1 b o eb)) hn (hv "self" _ (.head _) (by rw [q1]; rfl)) (hv "kind" _ (.tail _ (.head _)) (by rw [q1]; rfl)) (hv "text" _ (.tail _ (.tail _ (.head _))) (by rw [q1]; rfl)) (Keeps.heap ks _ _ he) he0 hk ht fun h2 tk hkp hob => ?_
  refine genP fun gP hgP => ?_
  obtain ⟨vs, dx, sl, mA, r1, ⟨T, rfl⟩, r3, r4⟩ := hob
  refine hgP ?_
  clear hgP
  have kk : ∀ b o, s.heap.get? b = some o → h2.get? b = some o := fun b o eb => hkp b o (fun q => by have n := hm.new; rw [← q] at n; rw [show s.heap.get? b = some o from eb] at n; cases n) (Keeps.heap ks b o (hm.keeps b o eb))
  refine genP fun gP hgP => ?_
  obtain ⟨g1, tk1, rfl, _⟩ := ks
  refine hgP ?_
  clear hgP
  exact ⟨rfl, hQ1 _ _ ⟨e, T, some dx, sl, rfl, kk _ _ (hU _ _ hC), r1, h e _ ⟨hm.new, _, dx, sl, mA, _, r1, r3, r4, rfl, .inl rfl⟩ ⟨h2, tk, rfl, kk⟩⟩⟩
end
theorem ExcAt.older {h₀ h₁ h : Heap} {C e : Addr} {kd : Str} (x : ExcAt h₁ C kd e h) (k : ∀ b o, h₀.get? b = some o → ∃ o', h₁.get? b = some o') : ExcAt h₀ C kd e h := by
  have nn : ∀ b, h₁.get? b = none → h₀.get? b = none := fun b e1 => by
    cases q : h₀.get? b with
    | none => rfl
    | some o => obtain ⟨o', e2⟩ := k b o q; rw [e1] at e2; cases e2
  refine genP fun gP hgP => ?_
  obtain ⟨e0, vs, dx, sl, mA, tk, he, hn, hk, hsz, hT⟩ := x
  refine hgP ?_
  clear hgP
  refine ⟨nn _ e0, vs, dx, sl, mA, tk, he, hn, hk, hsz, hT.imp id fun ⟨T, oT, ts, a, b, r⟩ => ⟨T, oT, ts, a, nn _ b, r⟩⟩
section
variable {prog : Program} {w : World} {hT : Heap} {mg mb : Str → Option Value} {k : Nat} {x : XC} {n : XS} {A : Around} {B U Z : Addr → Prop} {s s' : Shared} {h h' : Heap} {S : List Addr}
theorem XOk.funs (hX : XOk x A hT B Non n h) (hw : ∀ a, B a → hT.get? a = none) {l : List Env} (hl : A.frames = some l) : h.FunFrames hT l ∧ ∀ b ∈ l.filterMap (·.frame), x.Fr b := by
  obtain ⟨l', hl', hf⟩ := hX.frames
  rw [hl] at hl'; cases hl'
  clear hl
  induction l with
  | nil => exact ⟨trivial, fun b hb => by cases hb⟩
  | cons env r ih =>
    obtain ⟨i1, i2⟩ := ih fun e he => hf e (.tail _ he)
    refine genP fun gP hgP => ?_
    obtain ⟨a, L, b, c⟩ := hf env (.head _)
    refine hgP ?_
    clear hgP
    refine genP fun gP hgP => ?_
    obtain ⟨o, es, j, e, d⟩ := hX.dictF L c id
    refine hgP ?_
    clear hgP
    refine ⟨⟨a, ⟨L, o, b, hw L (hX.subF L c), e, fun vs q => by rw [d] at q; cases q⟩, i1⟩, fun z hz => ?_⟩
    rw [List.filterMap_cons, b] at hz
    rcases List.mem_cons.mp hz with rfl | hz
    · exact c
    · exact i2 z hz
theorem XOk.notP (hX : XOk x A hT B Non n h) : ¬ x.Fr x.P := fun q => by
  obtain ⟨o, es, j, e, d⟩ := hX.dictF _ q id
  exact (hX.fldP e).2.1 _ _ d
theorem XOk.notp (hX : XOk x A hT B Non n h) : ¬ x.Fr x.p := fun q => by
  obtain ⟨o, es, j, e, d⟩ := hX.dictF _ q id
  exact (hX.fldp e).2 _ _ d
theorem XOk.pP (hX : XOk x A hT B Non n h) : x.p ≠ x.P := fun q => by
  obtain ⟨_, _, ⟨j, e⟩, _⟩ := hX.pool
  exact (hX.fldP (q ▸ e)).2.2 _ _ rfl
theorem XOk.keepU (a : XOk x A hT B Non n s.heap) (hUB : ∀ a, U a → B a) (k : KeepX x U s s') (hp : ∀ o, s.heap.get? x.p = some o → s'.heap.get? x.p = some o) (hP : ∀ o, s.heap.get? x.P = some o → s'.heap.get? x.P = some o) : XOk x A hT B U n s'.heap := by
  refine ⟨a.subF, fun b f u => ?_, a.bp, a.bP, a.frames, ?_, ?_⟩
  · refine genP fun gP hgP => ?_
    obtain ⟨o, es, j, e, d⟩ := a.dictF b f id
    refine hgP ?_
    clear hgP
    obtain ⟨sl, e'⟩ := k.slots b o u f e
    exact ⟨_, es, j, e', d⟩
  · refine genP fun gP hgP => ?_
    obtain ⟨q, t, ⟨j, e⟩, r⟩ := a.pool
    refine hgP ?_
    clear hgP
    exact ⟨q, t, ⟨j, hp _ e⟩, r.mono (k.pw hUB a)⟩
  · obtain ⟨ps, e, f⟩ := a.tab
    exact ⟨ps, hP _ e, f⟩
theorem KeepX.note (k : KeepX x Z s s') (hS : ∀ b ∈ S, x.Fr b) (hP : x.P ∉ S) (NK : NoteK S s.heap s'.heap h') : KeepX x Z s { s' with heap := h' } := by
  obtain ⟨⟨g, t, rfl⟩, k1, k2, k3, k4⟩ := k
  refine ⟨⟨h', t, rfl⟩, fun b o z f p P e => NK.keep b o o (fun q => f (hS b q)) e (k1 b o z f p P e), fun b o z f e => ?_, fun ps e => ?_, fun b o e => ?_⟩
  · obtain ⟨sl, e1⟩ := k2 b o z f e
    by_cases hb : b ∈ S
    · obtain ⟨sl', e2⟩ := NK.slots b _ hb e1
      exact ⟨sl', e2⟩
    · exact ⟨sl, NK.keep b _ o hb e e1⟩
  · obtain ⟨ps', e1⟩ := k3 ps e
    exact ⟨ps', NK.keep _ _ _ hP e e1⟩
  · obtain ⟨o', e1⟩ := k4 b o e
    exact NK.live b o' e1
theorem KeepX.own (k : KeepX x Non s s') {L : Addr} (uL : U L) (hP : x.P ≠ L) {tk : Nat} (h1 : ∀ b o o₀, b ≠ L → s.heap.get? b = some o₀ → s'.heap.get? b = some o → h'.get? b = some o) (h2 : ∃ o, h'.get? L = some o) : KeepX x U s { s' with heap := h', toks := tk } := by
  obtain ⟨⟨g, t, rfl⟩, k1, k2, k3, k4⟩ := k
  refine ⟨⟨h', tk, rfl⟩, fun b o z f p P e => h1 b o o (fun q => z (q ▸ uL)) e (k1 b o id f p P e), fun b o z f e => ?_, fun ps e => ?_, fun b o e => ?_⟩
  · obtain ⟨sl, e1⟩ := k2 b o id f e
    exact ⟨sl, h1 b _ o (fun q => z (q ▸ uL)) e e1⟩
  · obtain ⟨ps', e1⟩ := k3 ps e
    exact ⟨ps', h1 _ _ _ hP e e1⟩
  · by_cases hb : b = L
    · rw [hb]; exact h2
    · obtain ⟨o', e1⟩ := k4 b o e
      exact ⟨o', h1 b o' o hb e e1⟩
noncomputable def XRaise (prog : Program) (w : World) (hT : Heap) (k : Nat) (CA : Addr) (x : XC) (H : Heap → Prop) (fv : Value) (ts : List TV) (n : XS) (kd : Str) : Prop :=
  ∀ (A : Around) (s : Shared) (B : Addr → Prop) (vs : List Value) (Q E : Value → Shared → Prop), AIn k A → Up hT s.heap → WOk B hT s.heap → XOk x A hT B Non n s.heap → H s.heap → ArgAll (PW B s.heap) vs ts →
    (∀ e s', ExcAt s.heap CA kd e s'.heap → Noted e s'.heap → XOk x A hT B Non n s'.heap → KeepX x Non s s' → (∀ o, s.heap.get? x.p = some o → s'.heap.get? x.p = some o) → (∀ o, s.heap.get? x.P = some o → s'.heap.get? x.P = some o) → E (.ref e) s') → wpAny (model prog w) A (call fv vs) Q E s
noncomputable def RaiseIn (prog : Program) (w : World) (hT : Heap) (k : Nat) (CA : Addr) (sc : Scope) (kd : Str) (body : List Stmt) (σ : St) : Prop :=
  ∀ (env : Env), env.scope = sc → EnvOk env → ∀ (A : Around) (s : Shared) (B U : Addr → Prop) (Q : Flow → Shared → Prop) (E : Value → Shared → Prop), AIn k A → SOk hT B U env σ (fun _ => none) s.heap →
    (∀ e s' σ', ExcAt s.heap CA kd e s'.heap → Rel U (fun _ => none) s (fun _ => none) s' → SOk hT B U env σ' (fun _ => none) s'.heap → E (.ref e) s') → wpAny (model prog w) A (execs body env) Q E s
theorem leave_raised {CA e : Addr} {kd : Str} {W : Addr → Prop} {env : Env} {s₁ : Shared} {Q : Unit → Shared → Prop} {E : Value → Shared → Prop} (hX : XOk x A hT W Non n s.heap) (hW : WOk W hT s.heap) (ks : Keeps s s₁) (hlow : ∀ z, U z → s.heap.objs.size ≤ z) (uL : U env.locals) (ef : env.frame = some env.locals)
    (hX1 : XOk (x.at env.locals) (A.deeper env) hT (fun z => W z ∨ U z) Non n s₁.heap) (hF1 : XOff (x.at env.locals) U env) (hx : ExcAt s₁.heap CA kd e s'.heap) (k1 : KeepX (x.at env.locals) U s₁ s') (hX2 : XOk (x.at env.locals) (A.deeper env) hT (fun z => W z ∨ U z) Non n s'.heap)
    (kp : ∀ o, s₁.heap.get? x.p = some o → s'.heap.get? x.p = some o) (kP : ∀ o, s₁.heap.get? x.P = some o → s'.heap.get? x.P = some o) (old : ∀ a, (W a ∨ U a) → hT.get? a = none)
    (h : ∀ s'', ExcAt s.heap CA kd e s''.heap → Noted e s''.heap → XOk x A hT W Non n s''.heap → KeepX x Non s s'' → (∀ o, s.heap.get? x.p = some o → s''.heap.get? x.p = some o) → (∀ o, s.heap.get? x.P = some o → s''.heap.get? x.P = some o) → Q () s'') : wpAny (model prog w) (A.deeper env) (leaving env (.ref e)) Q E s' := by
  obtain ⟨l, hl, _⟩ := hX.frames
  have hfr : (A.deeper env).frames = some (env :: l) := by show A.frames.map _ = _; rw [hl]; rfl
  obtain ⟨f1, f2⟩ := hX2.funs old hfr
  unfold leaving
  refine wpAny_bind (note_step hfr f1 ef (fun b o e => k1.live b o e) hx fun h' NK hx' hn' => ?_)
  have hPS : x.P ∉ (env :: l).filterMap (·.frame) := fun q => hX2.notP (f2 _ q)
  have hpS : x.p ∉ (env :: l).filterMap (·.frame) := fun q => hX2.notp (f2 _ q)
  have k2 := k1.note f2 hPS NK
  have x2 := hX1.keepU (s' := { s' with heap := h' }) (fun a u => .inr u) k2 (fun o e => NK.keep _ _ _ hpS e (kp o e)) (fun o e => NK.keep _ _ _ hPS e (kP o e))
  obtain ⟨z1, z2⟩ := xok_leave (env := env) hX ks hlow uL x2 k2
  exact h _ (hx'.older fun b o e => ⟨o, Keeps.heap ks b o e⟩) hn' z1 z2 (fun o e => NK.keep _ _ _ hpS (Keeps.heap ks _ _ e) (kp o (Keeps.heap ks _ _ e))) (fun o e => NK.keep _ _ _ hPS (Keeps.heap ks _ _ e) (kP o (Keeps.heap ks _ _ e)))
theorem xfn_raise (C : Cx prog hT mg mb) {CA a : Addr} {kd : Str} {fd : FuncData} {body : List Stmt} {names : List Str} (f : FnIs hT a fd body names) (hloc : ∃ v, fd.scope.names.lookup v = some .local) {ts : List TV} (hlen : ts.length = names.length)
    {H : Heap → Prop} (hF : RaiseIn prog w hT k CA fd.scope kd body (names.zip ts)) : XRaise prog w hT (k + 1) CA x H (.ref a) ts n kd := fun A s W vs Q E hA hU hW hX _ r hE => by
  obtain ⟨fo, h1, h2⟩ := f.get
  refine wpAny_call (fn_enter C (k := k) (fun hU => f.code.keeps hU) h2 f.body f.clo f.glob f.bui f.bind f.sc hlen hA (hU a fo h1) hU hW r fun env s₁ U e1 e2 e3 e4 e5 ks uL hlow ns hS => ?_)
  have hX1 := xok_enter (env := env) hX ks hlow uL ns e3 e4.kind
  have hF1 : XOff (x.at env.locals) U env := xoff_enter hX hlow (by obtain ⟨v, hv⟩ := hloc; exact ⟨v, by show env.scope.names.lookup v = _; rw [e1]; exact hv⟩)
  refine hF env e1 e4 (A.deeper env) s₁ _ U _ _ e5 hS fun e s' σ' hx hR hS' => ?_
  have kk : ∀ b o, ¬ U b → s₁.heap.get? b = some o → s'.heap.get? b = some o := fun b o u e => hR.keep b o u (fun _ q => by cases q) e
  exact leave_raised hX hW ks hlow uL e3 hX1 hF1 hx (.ofRel hF1 hR) (hX1.rel hS' hF1 hR) (fun o e => kk _ o hF1.p e) (fun o e => kk _ o hF1.P e) hS.wB.old fun s'' a b c d e' f' => hE e s'' a b c d e' f'
end
section
variable {prog : Program} {w : World} {hT : Heap} {mg mb : Str → Option Value} {k : Nat} {x : XC} {n : XS} {A : Around} {B U Z : Addr → Prop} {s s' : Shared} {h h' : Heap} {S : List Addr} {H : Heap → Prop}
theorem raise_if (C : Cx prog hT mg mb) {CA : Addr} (D : CasIs hT mg mb CA) {F : Tab} {G : Str → Option PyData} {gs : List Str × List Str} (GL : Glob prog w hT mg mb (k + 2) F G gs) {i m : Nat} {test : Expr} {kd tx : Str} {a1 a2 : Nat} {p1 p2 p3 cp pos ip : Pos} {rest : List Stmt} {sc : Scope} {σ : St}
    (ht : evB F G i (full σ) test (fun b => b = true)) (hok : okE gs m sc test = true) (hx : sc.names.lookup ("CasFail" : Str) = some .globalImplicit) (hk : kd.length ≤ 1000) (htx : tx.length ≤ 1000) :
    RaiseIn prog w hT (k + 2) CA sc kd (.If test [.Raise (some (.Call (.Name "CasFail" p1) [.Constant (.str kd) a1 p2, .Constant (.str tx) a2 p3] [] cp)) none pos] [] ip :: rest) σ :=
  fun env e1 e2 A s B U Q E hA hS hE => by
    subst e1
    refine PySem.wpAny_execs_cons (wpAny_If (wpAny_mono (soundB GL ht hok e2 hA hS.full) (fun b s₁ y => ?_) fun _ _ e => e))
    obtain ⟨rfl, ks⟩ := y
    have hS1 := hS.keeps (Keeps.heap ks)
    refine PySem.wpAny_execs_cons (raise_cas C D e2 hx hA hS1.up hk htx fun e s₂ hx2 ks2 => ?_)
    have kk := Keeps.trans ks ks2
    refine hE e s₂ σ (hx2.older fun b o e => ⟨o, Keeps.heap ks b o e⟩) (Rel.ofKeeps kk) (hS.keeps (Keeps.heap kk))
theorem raise_behind {CA : Addr} {st : Stmt} {rest : List Stmt} {sc : Scope} {σ σ' : St} {kd : Str} (h1 : Ex1 prog w hT k sc st σ (fun o => o = .next σ')) (hno : noOwn σ' = true) (h : RaiseIn prog w hT k CA sc kd rest σ') : RaiseIn prog w hT k CA sc kd (st :: rest) σ :=
  fun env e1 e2 A s B U Q E hA hS hE => by
    refine PySem.wpAny_execs_cons (wpAny_mono (h1 env e1 e2 A s B U _ E hA hS) (fun f s₁ y => ?_) fun _ _ e => e)
    cases f with
    | next =>
      refine genP fun gP hgP => ?_
      obtain ⟨σ1, own', q1, hS1, hR⟩ := y
      refine hgP ?_
      clear hgP
      cases q1
      have e0 : own' = fun _ => none := by
        funext z
        cases e : own' z with
        | none => rfl
        | some a =>
          obtain ⟨xs, m⟩ := hS1.ow z a e
          exact (noOwn_ hno m).elim
      subst e0
      refine h env e1 e2 A s₁ B U Q E hA hS1 fun e s₂ σ2 a b c => hE e s₂ σ2 (a.older fun b o e => hR.live b o e) (hR.trans (fun _ _ e => by cases e) (fun _ _ e => by cases e) b) c
    | ret v => obtain ⟨_, q, _⟩ := y; cases q
    | brk => exact y.elim
    | cont => exact y.elim
theorem rr_raises (C : Cx prog hT mg mb) {CA : Addr} (D : CasIs hT mg mb CA) (GL : Glob prog w hT mg mb (k + 2) Fn Gl (gsOf ["len", "list", "next_number"])) {a : Addr} {fd : FuncData} (f : FnIs hT a fd (rc 27).body ["steps", "first", "many"]) (hsc : fd.scope = (rc 27).scope) {steps first : List Int} {many : Int} (hl : first.length ≠ steps.length) (h1 : first.length ≤ 100) (h2 : steps.length ≤ 100) :
    XRaise prog w hT (k + 3) CA x H (.ref a) [.d (V steps), .d (V first), .d (I many)] n "shape" := by
  refine xfn_raise C f ⟨"steps", by rw [hsc]; rfl⟩ rfl ?_
  rw [hsc]
  refine raise_if C D GL (i := 20) (m := 20) ?_ (by decide +kernel) rfl (by decide +kernel) (by decide +kernel)
  show evB _ _ _ _ _ _
  walk_at "mine ev"
  refine ⟨_, .len _ (by simp; (first | lia | omega)), ?_⟩
  walk_at "mine ev"
  refine ⟨_, .len _ (by simp; (first | lia | omega)), ?_⟩
  walk_at "mine ev"
  rw [List.length_map, List.length_map]
  exact decide_eq_true (by (first | lia | omega))
theorem sn_raises (C : Cx prog hT mg mb) {CA : Addr} (D : CasIs hT mg mb CA) (GL : Glob prog w hT mg mb (k + 2) Fn Gl (gsOf ["len", "min", "range", "rsub", "rmul", "rdiv"])) {a : Addr} {fd : FuncData} (f : FnIs hT a fd (rc 32).body ["f", "many"]) (hsc : fd.scope = (rc 32).scope) {top bottom : List Rat} {many : Int} (h0 : bottom ≠ []) (hz : bottom.getD 0 0 = 0) :
    XRaise prog w hT (k + 3) CA x H (.ref a) [.d (.tuple [P top, P bottom]), .d (I many)] n "domain" := by
  refine xfn_raise C f ⟨"top", by rw [hsc]; rfl⟩ rfl ?_
  rw [hsc]
  have hpos := List.length_pos_iff.mpr h0
  refine raise_behind (σ' := [D1 "f" (.tuple [P top, P bottom]), D1 "many" (I many), D1 "top" (P top), D1 "bottom" (P bottom)]) (ex_unpack GL (n := 20) (m := 20) ?_ (by decide +kernel) (by decide +kernel) (by decide +kernel) rfl rfl) rfl ?_
  · walk_at "mine ev"
    exact rfl
  refine raise_if C D GL (i := 20) (m := 20) ?_ (by decide +kernel) rfl (by decide +kernel) (by decide +kernel)
  walk_at "mine ev"
  refine ip_map (bottom.getD 0 0) (by decide) (by decide) (getD_of_get hpos) ?_
  walk_at "mine ev"
  refine cp_eqR (q := 0) ?_
  exact decide_eq_true hz
end
section
variable {M : Model} {A : Around} {E : Value → Shared → Prop} {s : Shared} {h₀ : Heap} {e C : Addr} {kind : Str}
theorem flight_step {Q : Unit → Shared → Prop} (hx : ExcAt h₀ C kind e s.heap) (hn : Noted e s.heap)
    (h : ∀ h', (∀ b o o₀, h₀.get? b = some o₀ → s.heap.get? b = some o → h'.get? b = some o) → ExcAt h₀ C kind e h' → Q () { s with heap := h' }) : wpAny M A (setFlight (.ref e) none) Q E s := by
  refine genP fun gP hgP => ?_
  obtain ⟨e0, vs, dx, sl, mA, tk, he, hns, hk, hsz, hT⟩ := hx
  refine hgP ?_
  clear hgP
  refine genP fun gP hgP => ?_
  obtain ⟨o', vs', T', oT', ts', he', hd', h1', hT', hdT', h3'⟩ := hn
  refine hgP ?_
  clear hgP
  rw [he] at he'; cases he'; cases hd'
  rcases hT with q | ⟨T, oT, ts, h1, hT0, hTe, hT, hdT, h3⟩
  · rw [q] at h1'; cases h1'
  rw [h1] at h1'; cases h1'
  rw [hT] at hT'; cases hT'
  rw [hdT] at hdT'; cases hdT'
  refine wpAny_setFlight_none he rfl h1 hT hdT (Array.getElem?_eq_some_iff.mp h3).1 (h _ (fun b o o₀ q0 q1 => ?_) ⟨e0, vs, dx, sl, mA, tk, ?_, ?_, hk, hsz, .inr ⟨_, _, _, h1, hT0, hTe, Heap.get?_update_self _ hT (Obj.isFreed_of_fields (Obj.data_mapFields hdT _)), Obj.data_mapFields hdT _, ?_⟩⟩)
  · rw [Heap.get?_update_other _ _ (fun q => by rw [q, q0] at hT0; cases hT0)]; exact q1
  · rw [Heap.get?_update_other _ _ hTe]; exact he
  · refine genP fun gP hgP => ?_
    obtain ⟨o, es, ep, ho, hd, r⟩ := hns
    refine hgP ?_
    clear hgP
    refine ⟨o, es, ep, ?_, hd, r⟩
    rw [Heap.get?_update_other _ _ (fun q => by rw [← q, hT] at ho; cases ho; rw [hdT] at hd; cases hd)]; exact ho
  · have hlt := (Array.getElem?_eq_some_iff.mp h3).1
    simp [hlt]
end
section
variable {prog : Program} {w : World} {hT : Heap} {mg mb : Str → Option Value} {k : Nat} {x : XC} {n : XS}
theorem kind_ok (C : Cx prog hT mg mb) {CA : Addr} (D : CasIs hT mg mb CA) (GL : Glob prog w hT mg mb k Fn Gl (gsOf [])) {a q : Addr} {fd : FuncData} (f : FnIs hT a fd (rc 34).body ["work", "args"]) (hsc : fd.scope = (rc 34).scope) {H : Heap → Prop} (hH : ∀ h h', H h → (∀ b o, h.get? b = some o → h'.get? b = some o) → H h') (hF : ∀ h, H h → FnAt q h)
    {d0 d1 d2 : PyData} {kd : Str} (hR : ∀ L, XRaise prog w hT k CA (x.at L) H (.ref q) [.d d0, .d d1, .d d2] n kd)
    {A : Around} {s : Shared} {W : Addr → Prop} {vs : List Value} {E : Value → Shared → Prop} (hA : AIn (k + 1) A) (hU : Up hT s.heap) (hW : WOk W hT s.heap) (hX : XOk x A hT W Non n s.heap) (hHs : H s.heap) (r : ArgAll (PW W s.heap) vs [.val (.ref q), .d (.tuple [d0, d1, d2])]) :
    wpAny (model prog w) A (call (.ref a) vs) (XGood x A hT W s (fun d n' => d = .str kd ∧ n' = n)) E s := by
  obtain ⟨fo, h1, h2⟩ := f.get
  refine wpAny_call (fn_enter C (k := k) (fun hU => f.code.keeps hU) h2 f.body f.clo f.glob f.bui f.bind f.sc rfl hA (hU a fo h1) hU hW r fun env s₁ U e1 e2 e3 e4 e5 ks uL hlow ns hS => ?_)
  rw [hsc] at e1
  have hX1 := xok_enter (env := env) hX ks hlow uL ns e3 e4.kind
  have hF1 : XOff (x.at env.locals) U env := xoff_enter hX hlow ⟨"args", by show env.scope.names.lookup _ = _; rw [e1]; rfl⟩
  have hH1 : H s₁.heap := hH _ _ hHs (Keeps.heap ks)
  obtain ⟨l, hl, _⟩ := hX.frames
  have hfr : (A.deeper env).frames = some (env :: l) := by show A.frames.map _ = _; rw [hl]; rfl
  refine genQE fun Q1 E1 hQ1 _ => ?_
  refine PySem.wpAny_execs_cons (genQE fun Q2 E2 hQ2 _ => wpAny_Try_except ?_)
  refine PySem.wpAny_execs_cons (genQE fun Q3 E3 _ hE3 => wpAny_Expr_any ?_ (by unfold interactive; rw [e4.kind]; rfl) rfl)
  rw [arm_eval_Call_Name']
  refine wpAny_bind (name_sees e4.kind (hS.vv "work" _ (.head _)).2 ?_ rfl rfl)
  show wpAny _ _ (callWith _ (.ref q) [] (backTo _ (starEach _ env)) []) _ _ _
  rw [star_plain (by rfl), back_plain]
  refine callWith_of (P := FnAt q) (by rfl) keeps_F (PySem.Calls.evalArgs_plain ?_)
  show wpAny _ _ (spliced (List.map (fun e => (false, eval e env)) [_, _, _])) _ _ _
  refine (wpAny_mono (soundEs (K := fun ds => ds = [d0, d1, d2]) (n := 20) (m := 20) GL ?_ (by rw [e1]; decide +kernel) e4 e5 hS.full) (fun ws s₂ y => ?_) fun _ _ e => e)
  · walk_at "mine ew"
    refine ⟨by decide, by decide, _, rfl, ?_⟩
    walk_at "mine ew"
    refine ⟨by decide, by decide, _, rfl, ?_⟩
    walk_at "mine ew"
    refine ⟨by decide, by decide, _, rfl, ?_⟩
    walk_at "mine ew"
    exact rfl
  refine genP fun gP hgP => ?_
  obtain ⟨ds, rfl, rds, ks2⟩ := y
  refine hgP ?_
  clear hgP
  have hS2 := hS.keeps (Keeps.heap ks2)
  have hX2 := hX1.keeps (Keeps.heap ks2)
  have hH2 : H s₂.heap := hH _ _ hH1 (Keeps.heap ks2)
  refine ⟨hF _ hH2, ?_⟩
  have ra : ArgAll (PW (fun z => W z ∨ U z) s₂.heap) ws [.d d0, .d d1, .d d2] := by
    cases rds with
    | cons a1 r1 =>
    cases r1 with
    | cons a2 r2 =>
    cases r2 with
    | cons a3 r3 =>
    cases r3
    exact .cons a1 (.cons a2 (.cons a3 .nil))
  refine hR env.locals (A.deeper env) s₂ _ ws _ _ e5 hS2.up hS2.wB hX2 hH2 ra fun e s₃ hx hno hX3 kx hp hP => ?_
  refine hE3 _ _ ?_
  clear hE3
  obtain ⟨f1, f2⟩ := hX3.funs hS.wB.old hfr
  refine note_step hfr f1 e3 (fun b o e => kx.live b o e) hx fun h₄ NK hx4 hno4 => ?_
  have hPS : x.P ∉ (env :: l).filterMap (·.frame) := fun q => hX3.notP (f2 _ q)
  have hpS : x.p ∉ (env :: l).filterMap (·.frame) := fun q => hX3.notp (f2 _ q)
  have k4 := kx.note f2 hPS NK
  have hp4 : ∀ o, s₂.heap.get? x.p = some o → h₄.get? x.p = some o := fun o e => NK.keep _ _ _ hpS e (hp o e)
  have hP4 : ∀ o, s₂.heap.get? x.P = some o → h₄.get? x.P = some o := fun o e => NK.keep _ _ _ hPS e (hP o e)
  have hX4 : XOk (x.at env.locals) (A.deeper env) hT (fun z => W z ∨ U z) Non n h₄ := hX2.keepU (s' := { s₃ with heap := h₄ }) (fun _ => False.elim) k4 hp4 hP4
  have hS4 : SOk hT (fun z => W z ∨ U z) U env _ (fun _ => none) h₄ := hS2.keepX (s' := { s₃ with heap := h₄ }) hX2 k4
  refine genP fun gP hgP => ?_
  obtain ⟨⟨N, fI, mN, fdI, K, hng, fI_is, hscI, foI, hoI, hdI, hfcI⟩, hlC, hExc⟩ := id D
  refine hgP ?_
  clear hgP
  refine genP fun gP hgP => ?_
  obtain ⟨⟨⟨nm', q', bs, sn, sub, ab, col, dd, k0, k1, k2, k3, k5⟩, hC⟩, hN, hi, hsA, hnk, hnt⟩ := id K
  refine hgP ?_
  clear hgP
  refine genP fun gP hgP => ?_
  obtain ⟨_, vs4, dx4, sl4, mA4, tk4, he4, _⟩ := id hx4
  refine hgP ?_
  clear hgP
  refine wpAny_handleBy_cons (codeAny_handlers_test ?_) (by intro q; cases q)
  refine global_loads (s := { s₃ with heap := h₄ }) C hS4.up e4.kind e4.glob e4.bui (by show env.scope.names.lookup _ = _; rw [e1]; rfl) hlC ?_ rfl
  refine wpAny_excMatches_sub_self (hS4.up _ _ hC) he4 rfl (by decide) ?_
  refine codeAny_handlers_suite_as (genQE fun Q4 E4 hQ4 _ => flight_step hx4 hno4 fun h₅ kh5 hx5 => ?_)
  have hLloc : env.kindOf "args" = some .local := by show env.scope.names.lookup _ = _; rw [e1]; rfl
  have hLc : env.kindOf "caught" = some .local := by show env.scope.names.lookup _ = _; rw [e1]; rfl
  obtain ⟨m2, hn2⟩ : ∃ m, s₂.heap.Ns env.locals m := by
    obtain ⟨m, hm⟩ := ns
    exact ⟨m, (hm.keeps (Keeps.heap ks2))⟩
  have hLne : ∀ {h : Heap} {m : Str → Option Value} {b : Addr} {o : Obj} {v : Array Value}, h.Ns env.locals m → h.get? b = some o → o.data = .fields v → b ≠ env.locals := fun {h m b o v} hn ho hd q => by
    refine genP fun gP hgP => ?_
    obtain ⟨o', es, ep, ho', hd', _⟩ := hn
    refine hgP ?_
    clear hgP
    rw [q, ho'] at ho; cases ho; rw [hd] at hd'; cases hd'
  have hn4 : h₄.Ns env.locals m2 := k4.ns hX2 id hn2
  refine genP fun gP hgP => ?_
  obtain ⟨oL2, _, _, hoL2, _, _⟩ := id hn2
  refine hgP ?_
  clear hgP
  have hn5 : h₅.Ns env.locals m2 := hn4.at' fun o ho => kh5 _ _ _ hoL2 ho
  have prop : (env.scope.kind == .class || (env.scope.kind == .module && env.locals != env.globals)) = false := by rw [e4.kind]; rfl
  refine hQ4 _ _ ?_
  clear hQ4
  refine wpAny_storeName_local hLc hn5 (fun h₆ hn6 hs6 => ?_) prop
  refine genQE fun Q5 E5 hQ5 _ => ?_
  refine genP fun gP hgP => ?_
  obtain ⟨_, vs5, dx5, sl5, mA5, tk5, he5, hd5, hk5, _⟩ := id hx5
  refine hgP ?_
  clear hgP
  have he6 : h₆.get? e = some { cls := .ref CA, dict := some dx5, data := .fields vs5, slots := sl5 } := hs6.extBut _ _ (hLne hn5 he5 rfl) he5
  have eL : e ≠ env.locals := hLne hn5 he5 rfl
  have hdx6 : ∃ m, h₆.Ns dx5 m ∧ m "kind" = some (.str kd tk5) := by
    by_cases hdL : dx5 = env.locals
    · have := ns_same (hdL ▸ hd5) hn5
      refine ⟨_, hdL ▸ hn6, ?_⟩
      show (if ("kind" : Str) = "caught" then _ else _) = _
      rw [if_neg (by decide +kernel), ← this]; exact hk5
    · exact ⟨mA5, hd5.sameBut hs6 hdL, hk5⟩
  obtain ⟨m6, hd6, hk6⟩ := hdx6
  have up6 : Up hT h₆ := fun b o eb => by
    have hb2 := hS2.up b o eb
    have nb : ¬ (W b ∨ U b) := fun q => by rw [hS.wB.old b q] at eb; cases eb
    exact hs6.extBut b o (fun q => nb (.inr (q ▸ uL))) (kh5 b o o hb2 (hS4.up b o eb))
  refine PySem.wpAny_execs_cons (wpAny_Return_some (Attribute_name ?_))
  refine name_sees e4.kind (.inl ⟨hLc, _, hn6, if_pos rfl⟩) ?_ rfl rfl
  refine load_attrX PySem.F.attrBase_Exception (by decide) (up6 _ _ hC) (hN.keeps up6) hnk hng.1 hng.2 noKind_Exception he6 rfl (fun c q => by cases q) rfl hd6 hk6 rfl ?_
  refine hQ5 _ _ ?_
  clear hQ5
  refine wpAny_nameGoes hLc hn6 prop fun h₇ m7 hn7 hs7 => ?_
  have K7 : ∀ tk : Nat, KeepX (x.at env.locals) U s₂ { s₃ with heap := h₇, toks := tk } := fun tk => k4.own (s' := { s₃ with heap := h₄ }) (tk := tk) uL (fun q => hX3.notP (.inr q)) (fun b o o₀ hb q0 q1 => hs7.extBut b o hb (hs6.extBut b o hb (kh5 b o o₀ q0 q1))) (let ⟨o, _, _, ho, _⟩ := hn7; ⟨o, ho⟩)
  have kk7 : ∀ b o o₀, b ≠ env.locals → s₂.heap.get? b = some o₀ → h₄.get? b = some o → h₇.get? b = some o := fun b o o₀ hb q0 q1 => hs7.extBut b o hb (hs6.extBut b o hb (kh5 b o o₀ q0 q1))
  have hX7 : XOk (x.at env.locals) (A.deeper env) hT (fun z => W z ∨ U z) U n h₇ := by
    have pL : x.p ≠ env.locals := fun q => hX3.notp (.inr q)
    have PL : x.P ≠ env.locals := fun q => hX3.notP (.inr q)
    exact hX2.keepU (s' := { s₃ with heap := h₇, toks := 0 }) (fun a u => .inr u) (K7 0) (fun o e => kk7 _ _ _ pL e (hp4 o e)) (fun o e => kk7 _ _ _ PL e (hP4 o e))
  have fin : ∀ tk : Nat, XGood x A hT W s (fun d n' => d = .str kd ∧ n' = n) (.str kd tk5) { s₃ with heap := h₇, toks := tk } := fun tk => by
    obtain ⟨z1, z2⟩ := xok_leave (env := env) (s' := { s₃ with heap := h₇, toks := tk }) hX ks hlow uL hX7 (KeepX.trans (.ofKeeps ks2) (K7 tk))
    exact ⟨_, n, ⟨rfl, rfl⟩, .str _ _, z1, z2⟩
  exact hQ2 _ _ (hQ1 _ _ (fin _))
end
section
variable {QB : Bool → Prop}
theorem cp_eqS {x y : Str} (hx : (PyData.str x).canLay0 = true) (hy : (PyData.str y).canLay0 = true) (h : QB (decide (x = y))) : cmpP .Eq (.str x) (.str y) QB := by
  refine ⟨hx, hy, by simp [PyData.depth], ?_⟩
  have : PyData.eqv (.str x) (.str y) = decide (x = y) := by
    by_cases e : x = y <;> simp [PyData.eqv, e]
  rw [this]; exact h
theorem cp_neS {x y : Str} (hx : (PyData.str x).canLay0 = true) (hy : (PyData.str y).canLay0 = true) (h : QB (decide (x ≠ y))) : cmpP .NotEq (.str x) (.str y) QB := by
  refine ⟨hx, hy, by simp [PyData.depth], ?_⟩
  have : (!PyData.eqv (.str x) (.str y)) = decide (x ≠ y) := by
    by_cases e : x = y <;> simp [PyData.eqv, e]
  rw [this]; exact h
end
section
variable {prog : Program} {w : World} {hT : Heap} {mg mb : Str → Option Value} {k : Nat} {F : Tab} {G : Str → Option PyData} {gs : List Str × List Str} {sc : Scope} {σ : St} {K : Out → Prop}
theorem tup_evalN (GL : Glob prog w hT mg mb k F G gs) {n m : Nat} {es : List Expr} {kk : Nat} {vp : Pos} {ρ : Sto} {env : Env} {K : List PyData → Prop} {A : Around} {s : Shared} {W : Addr → Prop} {E : Value → Shared → Prop} (h : evEs F G n ρ es (fun ds => ds.length ≤ 10000 ∧ K ds)) (hok : es.all (okE gs m env.scope) = true) (he : EnvOk env) (hA : AIn k A) (hS : StOk hT W env ρ s.heap) :
    wpAny (model prog w) A (eval (.Tuple es kk vp) env) (fun v s₁ => ∃ t vs ds, v = .ref t ∧ (∀ b o, s.heap.get? b = some o → b < t) ∧ IsTup s₁.heap t vs ∧ K ds ∧ RdAll (PW W s₁.heap) vs.toList ds ∧ Keeps s s₁) E s := by
  refine wpAny_Tuple ?_
  rw [okE_plain hok, back_plain]
  refine wpAny_mono (soundEs GL h hok he hA hS) (fun vs s₁ x => ?_) fun _ _ e => e
  refine genP fun gP hgP => ?_
  obtain ⟨ds, ⟨h1, h2⟩, rds, ks⟩ := x
  refine hgP ?_
  clear hgP
  refine ⟨by rw [rds.length, sizeLine_eq]; (first | lia | omega), s₁.heap.objs.size, vs.toArray, ds, rfl, fun b o e => Heap.lt_size (Keeps.heap ks b o e), ⟨_, Heap.get?_push_size _ rfl, rfl, 0, rfl⟩, h2, ?_, Keeps.trans ks (Keeps.push _ _)⟩
  simpa using rds.keeps fun b o e => Heap.get?_push_of_some _ e
theorem ex_forT (GL : Glob prog w hT mg mb k F G gs) {n m : Nat} {x : Str} {p vp pos : Pos} {kk : Nat} {es : List Expr} {body : List Stmt}
    (h : evEs F G n (full σ) es (fun ds => ds.length ≤ 10000 ∧ (∀ d ∈ ds, ∃ z : Int, d = I z) ∧ forP x (fun σ K => Exec prog w hT k sc body σ K) ds σ K)) (hok : es.all (okE gs m sc) = true) (hx : isVar sc x = true) :
    Ex1 prog w hT k sc (.For (.Name x p) (.Tuple es kk vp) body [] pos) σ K := fun env e1 e2 A s B U own E hA hS => by
  have e1' := e1
  subst e1
  refine wpAny_For ?_
  refine wpAny_mono (tup_evalN GL h hok e2 hA hS.full) (fun xv s₁ z => ?_) fun _ _ e => e
  refine genP fun gP hgP => ?_
  obtain ⟨t, vs, items, rfl, hlt, ht, ⟨hints, hF⟩, r, ks⟩ := z
  refine hgP ?_
  clear hgP
  have ht' : s₁.heap.IsTuple t vs := ht
  have hlen : items.length = vs.size := by have := r.length; rw [Array.length_toList] at this; exact this.symm
  refine wpAny_pyIter_tuple ht' ?_
  have ks3 : Keeps s { s₁ with heap := s₁.heap.push { cls := .type "tuple_iterator", data := .fields #[.ref t, .int 0 0] } } := Keeps.trans ks (Keeps.push s₁ _)
  have hk3 : ∀ b o, s₁.heap.get? b = some o → (s₁.heap.push { cls := .type "tuple_iterator", data := .fields #[.ref t, .int 0 0] }).get? b = some o := fun b o e => Heap.get?_push_of_some _ e
  have htl : t < s₁.heap.objs.size := by obtain ⟨_, ho, _⟩ := ht; exact Heap.lt_size ho
  have st0 : (s₁.heap.push { cls := .type "tuple_iterator", data := .fields #[.ref t, .int 0 0] }).IsTupleIter s₁.heap.objs.size t 0 ∧ (s₁.heap.push { cls := .type "tuple_iterator", data := .fields #[.ref t, .int 0 0] }).IsTuple t vs := ⟨⟨_, Heap.get?_push_size _ rfl, rfl, rfl⟩, ht'.push _⟩
  have hlive1 : ∀ b o, s₁.heap.get? b = some o → b < s₁.heap.objs.size := fun b o q => Heap.lt_size q
  revert st0 ks3 hk3 htl hlive1
  generalize s₁.heap.push { cls := .type "tuple_iterator", data := .fields #[.ref t, .int 0 0] } = h₃
  generalize s₁.heap.objs.size = I
  intro ks3 hk3 htl st0 hlive1
  have hne : t ≠ I := Nat.ne_of_lt htl
  have hlive : ∀ b o, s.heap.get? b = some o → b < I := fun b o q => hlive1 b o (Keeps.heap ks b o q)
  have none_of : ∀ {h : Heap} {z : Addr}, (∀ b o, h.get? b = some o → b < z) → h.get? z = none := fun {h z} hz => by
    cases q : h.get? z with
    | none => rfl
    | some o => exact absurd (hz z o q) (Nat.lt_irrefl _)
  have hnewt := none_of hlt
  have hnewI1 := none_of hlive1
  have hnewI := none_of hlive
  have hBt : ∀ z, BO B own z → z < t := fun z q => by
    refine genP fun gP hgP => ?_
    obtain ⟨b, o, hb, ho⟩ := hS.w.has z q
    refine hgP ?_
    clear hgP
    exact Nat.lt_of_le_of_lt hb (hlt b o ho)
  have hUt : ∀ z, U z → z ≠ t := fun z q => Nat.ne_of_lt (hBt z (.inl (hS.sub z q)))
  have hUI : ∀ z, U z → z ≠ I := fun z q => Nat.ne_of_lt (Nat.lt_trans (hBt z (.inl (hS.sub z q))) htl)
  have hS1 := hS.black hnewt (Keeps.heap ks) (let ⟨o, ho, _⟩ := ht; ⟨o, ho⟩)
  obtain ⟨oI, hoI, _⟩ := id st0.1
  have hS3 := hS1.black hnewI1 hk3 ⟨_, hoI⟩
  refine for_walk (B' := fun z => (B z ∨ z = t) ∨ z = I) e2 hx hA (Walks.tuple (prog := prog) (w := w) (A := A) hA.handled I t hne vs) hlen (fun i v hi hv => ?_) (fun i h q => ?_) hlive (fun b hb => ?_) (fun _ q => .inl (.inl q)) (.inr rfl) hS hS3 st0 ks3 hF fun f s' q => q
  · obtain ⟨d, hd, rd⟩ := r.getV (k := i) (v := v) (by rw [Array.getElem?_toList]; exact hv)
    obtain ⟨z, rfl⟩ := hints d (List.mem_of_getElem? hd)
    cases rd
    exact ⟨_, _, rfl, hd⟩
  · refine genP fun gP hgP => ?_
    obtain ⟨o, e1, e2, e3⟩ := q.1
    refine hgP ?_
    clear hgP
    exact ⟨o, e1, (fun v e => by rw [e] at e3; cases e3), (fun es n e => by rw [e] at e3; cases e3)⟩
  · rcases List.mem_cons.mp hb with rfl | hb
    · exact ⟨.inr rfl, fun q => hUI _ q rfl⟩
    · rw [List.mem_singleton.mp hb]
      exact ⟨.inl (.inr rfl), fun q => hUt _ q rfl⟩
end
section
variable {prog : Program} {w : World} {hT : Heap} {mg mb : Str → Option Value} {k : Nat} {F : Tab} {G : Str → Option PyData} {gs : List Str × List Str} {sc : Scope} {σ : St} {x : XC} {n : XS}
theorem XCall.more {j : Nat} {fv : Value} {ts : List TV} {K : PyData → XS → Prop} (h : XCall prog w hT j x fv ts n K) (hj : j ≤ k) : XCall prog w hT k x fv ts n K := fun A s B vs E hA => h A s B vs E (hA.less hj)
theorem XCall.mono {fv : Value} {ts : List TV} {K K' : PyData → XS → Prop} (h : XCall prog w hT k x fv ts n K) (hK : ∀ d m, K d m → K' d m) : XCall prog w hT k x fv ts n K' := fun A s B vs E hA hU hW hX r =>
  wpAny_mono (h A s B vs E hA hU hW hX r) (fun v s' y => let ⟨d, m, a, b⟩ := y; ⟨d, m, hK d m a, b⟩) fun _ _ e => e
theorem XRaise.more {j : Nat} {CA : Addr} {H : Heap → Prop} {fv : Value} {ts : List TV} {kd : Str} (h : XRaise prog w hT j CA x H fv ts n kd) (hj : j ≤ k) : XRaise prog w hT k CA x H fv ts n kd := fun A s B vs Q E hA => h A s B vs Q E (hA.less hj)
noncomputable def isNo3 (sc : Scope) (x1 x2 x3 : Str) (e1 e2 e3 : Expr) : Bool :=
  sc.kind == .function && sc.names.lookup x2 != some .local && notStar e1 && notStar e2 && notStar e3
theorem sw3_no {env : Env} {x1 x2 x3 : Str} {p1 p2 p3 tp vp : Pos} {e1 e2 e3 : Expr} {k1 k2 : Nat} (h : isNo3 env.scope x1 x2 x3 e1 e2 e3 = true) : swappedStores [.Tuple [.Name x1 p1, .Name x2 p2, .Name x3 p3] k1 tp] (.Tuple [e1, e2, e3] k2 vp) env = pure none := by
  unfold isNo3 at h
  simp only [Bool.and_eq_true, bne_iff_ne] at h
  refine genP fun gP hgP => ?_
  obtain ⟨⟨⟨⟨h1, h2⟩, h3⟩, h4⟩, h5⟩ := h
  refine hgP ?_
  clear hgP
  refine sw_skip (a := .Name x2 p2) ?_ (.tail _ (.head _)) ?_
  · show (isStar e1 || (isStar e2 || (isStar e3 || false))) = false
    rw [star_of h3, star_of h4, star_of h5]; rfl
  · show (if (env.scope.names.lookup x2 == some .local && p2.line == p1.line) = true then some x2 else none) = none
    rw [beq_eq_false_iff_ne.mpr h2]; rfl
theorem x_tup3 {x1 x2 x3 : Str} {p1 p2 p3 tp vp pos : Pos} {e1 e2 e3 : Expr} {k1 k2 : Nat} {K : Out → XS → Prop}
    (h : XAs prog w hT k sc x σ n [e1, e2, e3] (fun ts m => ∃ a b c, ts = [.d a, .d b, .d c] ∧ K (.next (((σ.set x1 (.d a)).set x2 (.d b)).set x3 (.d c))) m)) (hsw : isNo3 sc x1 x2 x3 e1 e2 e3 = true)
    (h1 : isVar sc x1 = true) (h2 : isVar sc x2 = true) (h3 : isVar sc x3 = true) : XEx1 prog w hT k sc x (.Assign [.Tuple [.Name x1 p1, .Name x2 p2, .Name x3 p3] k1 tp] (.Tuple [e1, e2, e3] k2 vp) pos) σ n K :=
  fun env q1 q2 A s B U E hA hS hX hF => by
    subst q1
    have hst : [e1, e2, e3].all notStar = true := by
      unfold isNo3 at hsw
      simp only [Bool.and_eq_true] at hsw
      simp [hsw.1.1.2, hsw.1.2, hsw.2]
    refine Assign_Tuple (wpAny_Tuple ?_) rfl (sw3_no hsw)
    rw [star_plain hst, back_plain]
    refine wpAny_mono (h env rfl q2 A s B U E hA hS hX hF) (fun vs s₁ y => ?_) fun _ _ e => e
    refine genP fun gP hgP => ?_
    obtain ⟨ts, m, ⟨a, b, c, rfl, hK⟩, r, x1', kx⟩ := y
    refine hgP ?_
    clear hgP
    cases r with
    | cons r1 r =>
    cases r with
    | cons r2 r =>
    cases r with
    | cons r3 r =>
    cases r
    rename_i u1 u2 u3
    refine ⟨by rw [sizeLine_eq]; show 3 ≤ _; (first | lia | omega), ?_⟩
    have ks3 : Keeps s₁ { s₁ with heap := s₁.heap.push { cls := .type "tuple", data := .seq [u1, u2, u3].toArray } } := Keeps.push _ _
    have ht : IsTup (s₁.heap.push { cls := .type "tuple", data := .seq [u1, u2, u3].toArray }) s₁.heap.objs.size #[u1, u2, u3] := ⟨_, Heap.get?_push_size _ rfl, rfl, 0, rfl⟩
    refine assign_Tuple_tuple (s := { s₁ with heap := s₁.heap.push { cls := .type "tuple", data := .seq [u1, u2, u3].toArray } }) hA.handled ht rfl rfl fun h' he => ?_
    have ks4 := Keeps.trans ks3 (ext_keeps he)
    have hS4 := (hS.keepX hX kx).keeps (Keeps.heap ks4)
    have hX4 := x1'.keeps (Keeps.heap ks4)
    refine genQE fun Q1 E1 hQ1 _ => ?_
    show wpAny _ A (assignInOrder [assign (.Name x1 p1) env, assign (.Name x2 p2) env, assign (.Name x3 p3) env] [u1, u2, u3]) _ _ _
    unfold assignInOrder
    refine wpAny_bind (wpAny_holding (wpAny_assign_Name (wpAny_mono (xstore (tv := .d a) (K := fun o m' => o = .next (σ.set x1 (.d a)) ∧ m' = m) q2 hS4 hX4 hF h1 (Rd.keeps r1 (Keeps.heap ks4)) ⟨rfl, rfl⟩) (fun _ s₂ z => ?_) fun _ _ e => e)))
    refine genP fun gP hgP => ?_
    obtain ⟨σ1, m1, ⟨e1', rfl⟩, hS5, hX5, k5⟩ := z
    refine hgP ?_
    clear hgP
    cases e1'
    have pw5 := k5.pw (fun a q => hS4.sub a q) hX4
    unfold assignInOrder
    refine wpAny_bind (wpAny_holding (wpAny_assign_Name (wpAny_mono (xstore (tv := .d b) (K := fun o m' => o = .next ((σ.set x1 (.d a)).set x2 (.d b)) ∧ m' = m1) q2 hS5 hX5 hF h2 ((Rd.keeps r2 (Keeps.heap ks4)).mono pw5) ⟨rfl, rfl⟩) (fun _ s₃ z => ?_) fun _ _ e => e)))
    refine genP fun gP hgP => ?_
    obtain ⟨σ2, m2, ⟨e2', rfl⟩, hS6, hX6, k6⟩ := z
    refine hgP ?_
    clear hgP
    cases e2'
    have pw6 := k6.pw (fun a q => hS5.sub a q) hX5
    unfold assignInOrder
    refine wpAny_bind (wpAny_holding (wpAny_assign_Name (wpAny_mono (xstore (tv := .d c) (K := K) q2 hS6 hX6 hF h3 (((Rd.keeps r3 (Keeps.heap ks4)).mono pw5).mono pw6) hK) (fun _ s₄ z => ?_) fun _ _ e => e)))
    unfold assignInOrder
    exact wpAny_pure (hQ1 _ _ (z.pre ((kx.wide.trans (.ofKeeps ks4)).trans (k5.trans k6))))
end
theorem growS_bits {steps : List Int} (hs : ∀ x ∈ steps, Bz 8 x) (hl : steps.length ≤ 4) : ∀ (m : Nat) (row : List Int), (∀ x ∈ row, Bz (8 + 10 * row.length) x) → ∀ x ∈ growS steps m row, Bz (8 + 10 * (row.length + m)) x
  | 0, row, h, x, hx => h x hx
  | m + 1, row, h, x, hx => by
    have := growS_bits hs hl m (row ++ [nextS steps row]) (fun y hy => ?_) x hx
    · rw [List.length_append] at this
      exact this.mono (by simp; (first | lia | omega))
    · rcases List.mem_append.mp hy with hy | hy
      · exact (h y hy).mono (by simp; (first | lia | omega))
      · rw [List.mem_singleton.mp hy]
        exact (next_bits hs h hl).mono (by simp; (first | lia | omega))
theorem rowS_bits {steps first : List Int} {many : Nat} (hs : ∀ x ∈ steps, Bz 8 x) (hf : ∀ x ∈ first, Bz 8 x) (hl : steps.length ≤ 4) (h2 : first.length ≤ 4) (hm : many ≤ 20) : ∀ x ∈ rowS steps first many, Bz 1000 x := fun x hx =>
  (growS_bits hs hl _ first (fun y hy => (hf y hy).mono (by (first | lia | omega))) x hx).mono (by (first | lia | omega))
theorem raise_sq {N : Nat} (hN : N ≤ 4) {a : List (List Int)} (ha : Sq N 8 a) {n : Nat} (hn : n ≤ 8) : Sq N 1000000 (raiseS a n) := by
  have h := raiseLoop_sq hN (n + 1) n 8 (idm a.length) a (by (first | lia | omega)) (by rw [ha.len]; exact (idm_sq N).mono (by (first | lia | omega))) ha
  refine Sq.mono h ?_
  have : 4 ^ n ≤ 4 ^ 8 := Nat.pow_le_pow_right (by decide) hn
  have e : 4 ^ 8 = 65536 := by decide
  (first | lia | omega)
theorem bz_small {v : List Int} {c : Nat} (h : ∀ x ∈ v, -(c : Int) ≤ x ∧ x ≤ c) (hc : c < 256) : ∀ x ∈ v, Bz 8 x := fun x hx => by
  have := h x hx
  unfold Bz
  have e : 2 ^ 8 = 256 := by decide
  (first | omega | lia)
section
variable {prog : Program} {w : World} {hT : Heap} {mg mb : Str → Option Value} {k : Nat} {x : XC} {n : XS}
noncomputable def DrawOk (prog : Program) (w : World) (hT : Heap) (mg mb : Str → Option Value) (k : Nat) (x : XC) : Prop :=
  ∃ a, LoadsG mg mb "_law_draw" (.ref a) ∧ Kept hT (.ref a) ∧ ∀ (L : Addr) (n : XS) (m : Int), n.1 ≤ 1000 → 0 < m → m ≤ 1000 → XCall prog w hT k (x.at L) (.ref a) [.val (.ref x.p), .d (I m)] n (fun d n' => n' = (n.1 + 1, n.2) ∧ ∃ v : Int, d = I v ∧ 0 ≤ v ∧ v < m)
theorem powers_ok (C : Cx prog hT mg mb) (GL : Glob prog w hT mg mb k Fn Gl (gsOf ["len", "range", "step_matrix", "int", "list", "_law_product", "matrix_raised", "_law_numbers", "sum"])) (hD : DrawOk prog w hT mg mb k x)
    {a : Addr} {fd : FuncData} (f : FnIs hT a fd (rc 37).body ["pool", "steps", "first"]) (hsc : fd.scope = (rc 37).scope) {steps first : List Int} (h1 : first.length = steps.length) (h2 : steps.length ≤ 3) (hs : ∀ x ∈ steps, Bz 8 x) (hf : ∀ x ∈ first, Bz 8 x) (hn : n.1 ≤ 900) :
    XCall prog w hT (k + 1) x (.ref a) [.val (.ref x.p), .d (V steps), .d (V first)] n (fun d n' => d = .bool true ∧ n' = (n.1 + 2, n.2)) := by
  obtain ⟨da, hl, hk, hdraw⟩ := hD
  refine xfn C f ⟨"steps", by rw [hsc]; rfl⟩ rfl fun L => ?_
  rw [hsc]
  let σ0 : St := [("pool", .val (.ref x.p)), D1 "steps" (V steps), D1 "first" (V first)]
  show XExec _ _ _ _ _ _ _ σ0 _ _
  refine x_cons (x_tup3 ?_ (by decide +kernel) (by decide +kernel) (by decide +kernel) (by decide +kernel))
  refine xas_cons (xa_e (xe_call C hl hk rfl rfl rfl (xas_cons (xa_val (.head _) rfl (xas_cons (xa_e (xe_pure GL (i := 20) (m := 20) ?_ (by decide +kernel))))))))
  walk_at "mine ev"
  refine xas_nil (XCall.mono (hdraw L n 5 (by (first | lia | omega)) (by decide) (by decide)) fun d n1 hd1 => ?_)
  obtain ⟨rfl, v1, rfl, a1, b1⟩ := hd1
  obtain ⟨here, rfl⟩ := Int.eq_ofNat_of_zero_le a1
  refine xas_cons (xa_e (xe_call C hl hk rfl rfl rfl (xas_cons (xa_val (.head _) rfl (xas_cons (xa_e (xe_pure GL (i := 20) (m := 20) ?_ (by decide +kernel))))))))
  walk_at "mine ev"
  refine xas_nil (XCall.mono (hdraw L (n.1 + 1, n.2) 5 (by show n.1 + 1 ≤ 1000; (first | lia | omega)) (by decide) (by decide)) fun d n2 hd2 => ?_)
  obtain ⟨rfl, v2, rfl, a2, b2⟩ := hd2
  obtain ⟨there, rfl⟩ := Int.eq_ofNat_of_zero_le a2
  refine xas_cons (xa_e (xe_pure GL (i := 20) (m := 20) ?_ (by decide +kernel)))
  walk_at "mine ev"
  refine ⟨_, .len _ (by simp; (first | lia | omega)), ?_⟩
  rw [List.length_map]
  refine xas_nil ⟨_, _, _, rfl, ?_⟩
  have b1' : here < 5 := by (first | lia | omega)
  have b2' : there < 5 := by (first | lia | omega)
  refine x_liftAll (Exec.mono (K := fun o => o = .ret (.bool true)) ?_ fun o ho => by subst ho; exact ⟨trivial, rfl, rfl⟩)
  let base : St → St := fun ex => ("pool", .val (.ref x.p)) :: D1 "steps" (V steps) :: D1 "first" (V first) :: D1 "here" (I here) :: D1 "there" (I there) :: D1 "size" (I steps.length) :: ex
  show Exec _ _ _ _ _ _ (base []) _
  refine ex_cons (ex_tup2n GL (n := 20) (m := 20) ?_ (by decide +kernel) (by decide +kernel) (by decide +kernel) (by decide +kernel))
  walk_at "mine ev"
  refine ⟨_, .step_matrix steps (by (first | lia | omega)), ?_⟩
  walk_at "mine ev"
  refine ei_range ?_
  walk_at "mine ev"
  refine rp_1 (by (first | lia | omega)) (by (first | lia | omega)) ?_
  rw [Int.toNat_natCast]
  refine mapP_enc (enc := V) (fun i => (List.range steps.length).map fun j => if i = j then 1 else 0) (fun i hi Q hQ => ?_) ?_
  · show evE _ _ _ _ _ _
    walk_at "mine ev"
    refine ei_range ?_
    walk_at "mine ev"
    refine rp_1 (by (first | lia | omega)) (by (first | lia | omega)) ?_
    rw [Int.toNat_natCast]
    refine mapP_enc (enc := I) (fun j => if i = j then 1 else 0) (fun j hj Q hQ => ?_) hQ
    show evE _ _ _ _ _ _
    walk_at "mine ev"
    refine ⟨_, .intB _, ?_⟩
    have : (if decide ((i : Int) = (j : Int)) = true then (1 : Int) else 0) = if i = j then 1 else 0 := by
      by_cases e : i = j
      · simp [e]
      · have e' : ¬ (i : Int) = (j : Int) := by (first | lia | omega)
        simp [e, e']
    rw [this]; exact hQ
  walk_at "mine ev"
  refine ⟨by simp, ?_⟩
  show Exec _ _ _ _ _ _ (base [D1 "matrix" (M (stepM steps)), D1 "due" (M (idm steps.length))]) _
  refine ex_cons (ex_if GL (n := 20) (m := 20) ?_ (by decide +kernel))
  walk_at "mine ev"
  by_cases h0 : steps.length = 0
  · rw [show decide ((steps.length : Int) = 0) = true by simp [h0]]
    show Exec _ _ _ _ _ _ _ _
    refine ex_cons (ex_return GL (n := 20) (m := 20) ?_ (by decide +kernel))
    walk_at "mine ev"
    exact rfl
  rw [show decide ((steps.length : Int) = 0) = false by simp; intro e; exact h0 (by rw [e]; rfl)]
  show Exec _ _ _ _ _ _ _ _
  refine ex_nil ?_
  have hpos : 0 < steps.length := Nat.pos_of_ne_zero h0
  have hSq := stepM_sq hs hpos
  have hSd := hSq.sd
  show Exec _ _ _ _ _ _ _ _
  refine ex_cons (ex_if GL (n := 20) (m := 20) ?_ (by decide +kernel))
  walk_at "mine ev"
  refine ⟨_, .list _ (by simp; (first | lia | omega)), ?_⟩
  walk_at "mine ev"
  refine ⟨by simp, ?_⟩
  walk_at "mine ev"
  refine ⟨rfl, by simp [idm]; (first | lia | omega), by (first | lia | omega), by (first | lia | omega), ?_⟩
  have e1 : (if 0 ≤ (steps.length : Int) - 1 then ((steps.length : Int) - 1).toNat else ((steps.length : Int) - 1 + ((idm steps.length).map V).length).toNat) = steps.length - 1 := by
    rw [if_pos (by (first | lia | omega))]; (first | lia | omega)
  rw [e1]
  refine ⟨by simp [idm]; (first | lia | omega), ?_⟩
  have e2 : ([PyData.list (steps.map I)] ++ ((idm steps.length).map V).take (steps.length - 1)) = (steps :: (idm steps.length).take (steps.length - 1)).map V := by
    rw [← List.map_take]; rfl
  show cmpP .NotEq (M (stepM steps)) (.list ([PyData.list (steps.map I)] ++ ((idm steps.length).map V).take (steps.length - 1))) _
  rw [e2]
  refine cp_neM ?_
  rw [← stepM_eq, show decide (stepM steps ≠ stepM steps) = false by simp]
  show Exec _ _ _ _ _ _ _ _
  refine ex_nil ?_
  show Exec _ _ _ _ _ _ _ _
  have sq : ∀ i, i ≤ 8 → Sq steps.length 1000000 (powP (stepM steps) i) := fun i hi => by
    rw [← raise_eq hSd]; exact raise_sq (by (first | lia | omega)) hSq hi
  refine ex_cons (ex_for GL (n := 20) (m := 20) ?_ (by decide +kernel) (by decide +kernel) (by decide +kernel))
  walk_at "mine ev"
  refine rp_1 (by (first | lia | omega)) (by (first | lia | omega)) ?_
  rw [Int.toNat_natCast]
  refine forP_rg (fun i σ => ∃ ex, σ = base (D1 "matrix" (M (stepM steps)) :: D1 "due" (M (powP (stepM steps) i)) :: ex) ∧ (ex = [] ∨ ∃ y, ex = [D1 "turn" y])) ⟨[], ?_, .inl rfl⟩ (fun i hi σ hI => ?_) (fun σ hI => ?_)
  · show base _ = base [D1 "matrix" (M (stepM steps)), D1 "due" (M (idm (stepM steps).length))]
    rw [hSd.len]
  · obtain ⟨ex, rfl, hex⟩ := hI
    have s1 := sq i (by (first | lia | omega))
    have s2 := hSq
    have hst : ∀ a, St.set ex "turn" a = [(("turn" : Str), a)] := by rcases hex with rfl | ⟨y, rfl⟩ <;> exact fun _ => rfl
    show Exec _ _ _ _ _ _ (base (D1 "matrix" _ :: D1 "due" _ :: St.set ex "turn" _)) _
    rw [hst]
    · refine ex_cons (ex_set GL (n := 20) (m := 20) ?_ (by decide +kernel) (by decide +kernel) rfl)
      walk_at "mine ev"
      refine ⟨_, .law_product _ _ s1.bits (fun r hr z hz => (s2.bits r hr z hz).mono (by (first | lia | omega))) (fun r hr => by rw [s1.row r hr, s1.len]) (fun r hr => by rw [s2.row r hr, s1.len]) (by rw [s2.len, s1.len]) (by rw [s1.len]; (first | lia | omega)), ?_⟩
      exact ex_nil ⟨[D1 "turn" (I i)], rfl, .inr ⟨_, rfl⟩⟩
  obtain ⟨ex, rfl, hex⟩ := hI
  have shere := sq here (by (first | lia | omega))
  have sthere := sq there (by (first | lia | omega))
  have END2 : ∀ ex : St, (ex = [] ∨ ∃ y, ex = [D1 "turn" y]) → Exec prog w hT k (rc 37).scope ((rc 37).body.drop 7) (base (D1 "matrix" (M (stepM steps)) :: D1 "due" (M (powP (stepM steps) here)) :: ex)) (fun o => o = .ret (.bool true)) := fun ex hex => by
    rcases hex with rfl | ⟨y, rfl⟩
    all_goals
      show Exec _ _ _ _ _ _ _ _
      refine ex_cons (ex_set GL (n := 20) (m := 20) ?_ (by decide +kernel) (by decide +kernel) rfl)
      walk_at "mine ev"
      refine ⟨_, .law_numbers steps first (there + here + steps.length) h1 h2 (by (first | lia | omega)) hs hf, ?_⟩
      show Exec _ _ _ _ _ _ _ _
      refine ex_cons (ex_set GL (n := 20) (m := 20) ?_ (by decide +kernel) (by decide +kernel) rfl)
      walk_at "mine ev"
      refine ei_range ?_
      walk_at "mine ev"
      refine rp_1 (by (first | lia | omega)) (by (first | lia | omega)) ?_
      rw [Int.toNat_natCast]
      have hrl : (rowS steps first (there + here + steps.length)).length = there + here + steps.length := by rw [rowS_len, h1]; (first | lia | omega)
      refine mapP_enc (enc := I) (fun at' => ((powP (stepM steps) here).getD 0 []).getD at' 0 * (rowS steps first (there + here + steps.length)).getD (there + steps.length - 1 - at') 0) (fun at' hat Q hQ => ?_) ?_
      · have hat' := List.mem_range.mp hat
        have hm : (powP (stepM steps) here).getD 0 [] ∈ powP (stepM steps) here := by
          rw [List.getD_eq_getElem?_getD, List.getElem?_eq_getElem (by rw [shere.len]; exact hpos)]; exact List.getElem_mem _
        have hl1 := shere.row _ hm
        show evE _ _ _ _ _ _
        walk_at "mine ev"
        refine ip_map ((powP (stepM steps) here).getD 0 []) (by decide) (by decide) (getD_of_get (by rw [shere.len]; exact hpos)) ?_
        walk_at "mine ev"
        refine ip_map (((powP (stepM steps) here).getD 0 []).getD at' 0) (by (first | lia | omega)) (by (first | lia | omega)) (by rw [Int.toNat_natCast]; exact getD_of_get (by (first | lia | omega))) ?_
        walk_at "mine ev"
        refine ip_map ((rowS steps first (there + here + steps.length)).getD (there + steps.length - 1 - at') 0) (by (first | lia | omega)) (by (first | lia | omega)) (by rw [show ((there : Int) + (steps.length : Int) - 1 - (at' : Int)).toNat = there + steps.length - 1 - at' by (first | exact tnA _ _ | exact tnB _ _ | exact tnI _ | exact Int.toNat_sub _ _ | lia | omega)]; exact getD_of_get (by rw [hrl]; exact lmB hpos)) ?_
        exact bp_mul ((getD_bits (shere.bits _ hm) _).sm (by decide)) ((getD_bits (rowS_bits hs hf (by (first | lia | omega)) (by (first | lia | omega)) (by (first | lia | omega))) _).sm (by decide)) hQ
      walk_at "mine ev"
      refine ⟨_, .sum _, ?_⟩
      show Exec _ _ _ _ _ _ _ _
      refine ex_cons (ex_return GL (n := 20) (m := 20) ?_ (by decide +kernel))
      walk_at "mine ev"
      refine ip_map ((rowS steps first (there + here + steps.length)).getD (there + here + steps.length - 1) 0) (by (first | lia | omega)) (by (first | lia | omega)) (by rw [show ((there : Int) + (here : Int) + (steps.length : Int) - 1).toNat = there + here + steps.length - 1 by (first | exact tnA _ _ | exact tnB _ _ | exact tnI _ | exact Int.toNat_sub _ _ | lia | omega)]; exact getD_of_get (by rw [hrl]; exact Nat.sub_lt (Nat.lt_of_lt_of_le hpos (Nat.le_add_left _ _)) Nat.one_pos)) ?_
      refine cp_eq ?_
      have key := led_eq h1 hpos here there
      have el : ((List.range steps.length).map fun at' => ((powP (stepM steps) here).getD 0 []).getD at' 0 * (rowS steps first (there + here + steps.length)).getD (there + steps.length - 1 - at') 0).sum = dotN steps.length ((powP (stepM steps) here).getD 0 []) (state (rowF steps first) steps.length there) := by
        unfold dotN
        congr 1
        refine List.map_congr_left fun i hi => ?_
        have hi' := List.mem_range.mp hi
        rw [rowS_get (Nat.lt_of_lt_of_le (lmB hpos) (Nat.le_max_right _ _))]
        unfold state
        rw [getDi hi']
      rw [el, key, rowS_get (lmA hpos), show there + here + steps.length - 1 = there + here + steps.length - 1 from rfl]
      simp
  have END : ∀ ex : St, (ex = [] ∨ ∃ y, ex = [D1 "turn" y]) → Exec prog w hT k (rc 37).scope ((rc 37).body.drop 5) (base (D1 "matrix" (M (stepM steps)) :: D1 "due" (M (powP (stepM steps) here)) :: ex)) (fun o => o = .ret (.bool true)) := fun ex hex => by
    refine ex_cons (ex_if GL (n := 20) (m := 20) ?_ (by decide +kernel))
    walk_at "mine ev"
    refine ⟨_, .matrix_raised (stepM steps) here (fun r hr => by rw [hSq.row r hr, hSq.len]) (by rw [hSq.len]; exact h2) (by (first | lia | omega)) hSq.bits, ?_⟩
    walk_at "mine ev"
    refine cp_neM ?_
    rw [raise_eq hSd, show decide (powP (stepM steps) here ≠ powP (stepM steps) here) = false by simp]
    show Exec _ _ _ _ _ _ _ _
    refine ex_nil ?_
    show Exec _ _ _ _ _ _ _ _
    refine ex_cons (ex_if GL (n := 20) (m := 20) ?_ (by decide +kernel))
    walk_at "mine ev"
    refine ⟨_, .matrix_raised (stepM steps) (here + there) (fun r hr => by rw [hSq.row r hr, hSq.len]) (by rw [hSq.len]; exact h2) (by (first | lia | omega)) hSq.bits, ?_⟩
    walk_at "mine ev"
    refine ⟨_, .matrix_raised (stepM steps) there (fun r hr => by rw [hSq.row r hr, hSq.len]) (by rw [hSq.len]; exact h2) (by (first | lia | omega)) hSq.bits, ?_⟩
    rw [raise_eq hSd there]
    refine ⟨_, .law_product _ _ shere.bits sthere.bits (fun r hr => by rw [shere.row r hr, shere.len]) (fun r hr => by rw [sthere.row r hr, shere.len]) (by rw [sthere.len, shere.len]) (by rw [shere.len]; (first | lia | omega)), ?_⟩
    refine cp_neM ?_
    rw [raise_add hSd here there, raise_eq hSd there, show ∀ m : List (List Int), decide (m ≠ m) = false by intro m; simp]
    show Exec _ _ _ _ _ _ _ _
    refine ex_nil ?_
    exact END2 ex hex
  exact END ex hex
end
theorem rowS_take {steps first : List Int} {m N : Nat} (h : m ≤ N) : (rowS steps first m).take m = (rowS steps first N).take m := by
  refine list_ext_getD (by rw [List.length_take, List.length_take, rowS_len, rowS_len]; (first | lia | omega)) fun j hj => ?_
  rw [List.length_take, rowS_len] at hj
  rw [List.getD_eq_getElem?_getD, List.getD_eq_getElem?_getD, List.getElem?_take_of_lt (Nat.lt_of_lt_of_le hj (Nat.min_le_left _ _)), List.getElem?_take_of_lt (Nat.lt_of_lt_of_le hj (Nat.min_le_left _ _)), ← List.getD_eq_getElem?_getD, ← List.getD_eq_getElem?_getD, rowS_get (Nat.lt_of_lt_of_le hj (Nat.min_le_right _ _)), rowS_get (Nat.lt_of_lt_of_le (Nat.lt_of_lt_of_le hj (Nat.min_le_right _ _)) (Nat.max_le.mpr ⟨Nat.le_max_left _ _, Nat.le_trans h (Nat.le_max_right _ _)⟩))]
theorem nextS_row {steps first : List Int} (hl : first.length = steps.length) {N : Nat} (h : steps.length < N) : nextS steps ((rowS steps first N).take steps.length) = (rowS steps first N).getD steps.length 0 := by
  have hlen : ((rowS steps first N).take steps.length).length = steps.length := by rw [List.length_take, rowS_len]; (first | lia | omega)
  rw [nextS_eq steps _ (rowF steps first) (fun j hj => ?_) (by (first | lia | omega)), rowS_get (by (first | lia | omega)), rowF_rec hl (Nat.le_refl _), hlen]
  rw [hlen] at hj
  rw [List.getD_eq_getElem?_getD, List.getElem?_take_of_lt (by (first | lia | omega)), ← List.getD_eq_getElem?_getD, rowS_get (by (first | lia | omega))]
section
variable {prog : Program} {w : World} {hT : Heap} {mg mb : Str → Option Value} {k : Nat} {sc : Scope} {body : List Stmt} {x : XC} {n : XS}
theorem forP_all {y : Str} {K : Out → Prop} (Iv : St → Prop) : ∀ {ds : List Int} {σ : St}, Iv σ →
    (∀ d ∈ ds, ∀ σ, Iv σ → Exec prog w hT k sc body (σ.set y (.d (I d))) (fun o => match o with | .next σ' => Iv σ' | .ret d => K (.ret d))) → (∀ σ, Iv σ → K (.next σ)) →
    forP y (fun σ K => Exec prog w hT k sc body σ K) (ds.map I) σ K
  | [], σ, h, _, hend => hend σ h
  | d :: ds, σ, h, step, hend => by
    refine (step d (.head _) σ h).mono fun o ho => ?_
    cases o with
    | next σ' => exact forP_all Iv ho (fun e he => step e (.tail _ he)) hend
    | ret d => exact ho
noncomputable def orR : Expr → List Expr
  | .BoolOp _ es _ => es.drop 1
  | _ => []
noncomputable def ifT : Stmt → Expr
  | .If t _ _ _ => t
  | _ => .Constant .none 0 default
noncomputable def KindOk (prog : Program) (w : World) (hT : Heap) (mg mb : Str → Option Value) (k : Nat) (x : XC) (f : Value) (ds : List PyData) (n : XS) (kd : Str) : Prop :=
  ∃ a, LoadsG mg mb "_law_kind" (.ref a) ∧ Kept hT (.ref a) ∧ ∀ L, XCall prog w hT k (x.at L) (.ref a) [.val f, .d (.tuple ds)] n (fun d n' => d = .str kd ∧ n' = n)
theorem rows_ok (C : Cx prog hT mg mb) (GL : Glob prog w hT mg mb k Fn Gl (gsOf ["len", "range", "max", "_law_numbers", "recurrence_row", "number_at", "next_number"]))
    {rr : Addr} (hrr : LoadsG mg mb "recurrence_row" (.ref rr)) {a : Addr} {fd : FuncData} (f : FnIs hT a fd (rc 38).body ["steps", "first"]) (hsc : fd.scope = (rc 38).scope)
    {steps first : List Int} (h1 : first.length = steps.length) (h2 : steps.length ≤ 3) (hs : ∀ x ∈ steps, Bz 8 x) (hf : ∀ x ∈ first, Bz 8 x)
    (hK1 : KindOk prog w hT mg mb k x (.ref rr) [V steps, V (first ++ [1]), I 5] n "shape") (hK2 : 0 < steps.length → KindOk prog w hT mg mb k x (.ref rr) [V steps, V (first.drop 1), I 5] n "shape") :
    XCall prog w hT (k + 1) x (.ref a) [.d (V steps), .d (V first)] n (fun d n' => d = .bool true ∧ n' = n) := by
  refine xfn C f ⟨"many", by rw [hsc]; rfl⟩ rfl fun L => ?_
  rw [hsc]
  let base : St → St := fun ex => D1 "steps" (V steps) :: D1 "first" (V first) :: ex
  show XExec _ _ _ _ _ _ _ (base []) _ _
  refine x_cons (x_lift (ex_set GL (n := 20) (m := 20) ?_ (by decide +kernel) (by decide +kernel) rfl))
  walk_at "mine ev"
  refine ⟨_, .len _ (by simp; (first | lia | omega)), rfl, ?_⟩
  rw [List.length_map]
  show XExec _ _ _ _ _ _ _ (base [D1 "size" (I steps.length)]) _ _
  refine x_cons (x_lift (ex_set GL (n := 20) (m := 20) ?_ (by decide +kernel) (by decide +kernel) rfl))
  walk_at "mine ev"
  refine ⟨_, .law_numbers steps first 9 h1 h2 (by decide) hs hf, rfl, ?_⟩
  show XExec _ _ _ _ _ _ _ (base [D1 "size" (I steps.length), D1 "due" (V (rowS steps first 9))]) _ _
  have hdl : (rowS steps first 9).length = 9 := by rw [rowS_len]; (first | lia | omega)
  refine x_cons (x_lift (ex_forT GL (n := 20) (m := 20) ?_ (by decide +kernel) (by decide +kernel)))
  walk_at "mine ev"
  refine ⟨_, .max _ _, ?_⟩
  walk_at "mine ev"
  refine ⟨by simp, fun d hd => ?_, ?_⟩
  · simp only [List.mem_cons, List.not_mem_nil, or_false] at hd
    rcases hd with rfl | rfl | rfl | rfl | rfl <;> exact ⟨_, rfl⟩
  refine forP_all (ds := [0, max 0 ((steps.length : Int) - 1), steps.length, (steps.length : Int) + 1, 9]) (fun σ => ∃ ex, σ = base (D1 "size" (I steps.length) :: D1 "due" (V (rowS steps first 9)) :: ex) ∧ (ex = [] ∨ ∃ y, ex = [D1 "many" y])) ⟨[], rfl, .inl rfl⟩ (fun d hd σ hI => ?_) (fun σ hI => ?_)
  · obtain ⟨m, rfl, hm⟩ : ∃ m : Nat, d = m ∧ m ≤ 9 := by
      simp only [List.mem_cons, List.not_mem_nil, or_false] at hd
      rcases hd with rfl | rfl | rfl | rfl | rfl
      · exact ⟨0, rfl, by (first | lia | omega)⟩
      · exact ⟨steps.length - 1, by (first | lia | omega), by (first | lia | omega)⟩
      · exact ⟨steps.length, rfl, by (first | lia | omega)⟩
      · exact ⟨steps.length + 1, rfl, by (first | lia | omega)⟩
      · exact ⟨9, rfl, by (first | lia | omega)⟩
    obtain ⟨ex, rfl, hex⟩ := hI
    have hst : ∀ a, St.set ex "many" a = [(("many" : Str), a)] := by rcases hex with rfl | ⟨y, rfl⟩ <;> exact fun _ => rfl
    show Exec _ _ _ _ _ _ (base (D1 "size" _ :: D1 "due" _ :: St.set ex "many" _)) _
    rw [hst]
    refine ex_cons (ex_if GL (n := 20) (m := 20) ?_ (by decide +kernel))
    walk_at "mine ev"
    refine ⟨_, .recurrence_row steps first m h1 h2 (by (first | lia | omega)) hs hf, ?_⟩
    walk_at "mine ev"
    refine pp_upto (by (first | lia | omega)) (by (first | lia | omega)) (by (first | lia | omega)) ?_
    refine cp_neV ?_
    rw [Int.toNat_natCast, rowS_take hm, show decide ((rowS steps first 9).take m ≠ (rowS steps first 9).take m) = false by simp]
    show Exec _ _ _ _ _ _ _ _
    refine ex_nil ?_
    exact ex_nil ⟨_, rfl, .inr ⟨_, rfl⟩⟩
  obtain ⟨ex, rfl, hex⟩ := hI
  refine ⟨by rcases hex with rfl | ⟨y, rfl⟩ <;> rfl, ?_⟩
  have hT2 : ∀ ex : St, (ex = [] ∨ ∃ y, ex = [D1 "many" y]) → ∀ K : Bool → Prop, K false → evB Fn Gl 20 (full (base (D1 "size" (I steps.length) :: D1 "due" (V (rowS steps first 9)) :: ex))) (ifT (nthS 4 (rc 38).body)) K := fun ex hex K hK => by
    show evB _ _ 20 _ (.BoolOp _ _ _) _
    walk_at "mine ev"
    by_cases h0 : steps.length = 0
    · rw [show decide ((steps.length : Int) > 0) = false by simp [h0]]
      exact hK
    rw [show decide ((steps.length : Int) > 0) = true by simp; (first | lia | omega)]
    show evBs _ _ _ _ _ _ _
    walk_at "mine ev"
    refine pp_upto (by (first | lia | omega)) (by (first | lia | omega)) (by (first | lia | omega)) ?_
    walk_at "mine ev"
    rw [Int.toNat_natCast]
    have htl : ((rowS steps first 9).take steps.length).length = steps.length := by rw [List.length_take, hdl]; (first | lia | omega)
    refine ⟨_, .next_number steps ((rowS steps first 9).take steps.length) (by (first | lia | omega)) (by (first | lia | omega)) (fun z hz => (hs z hz).mono (by decide)) (fun z hz => (rowS_bits hs hf (by (first | lia | omega)) (by (first | lia | omega)) (by decide) z (List.mem_of_mem_take hz)).mono (by decide)), ?_⟩
    walk_at "mine ev"
    refine ip_map ((rowS steps first 9).getD steps.length 0) (by (first | lia | omega)) (by (first | lia | omega)) (by rw [Int.toNat_natCast]; exact getD_of_get (by (first | lia | omega))) ?_
    refine cp_ne ?_
    rw [nextS_row h1 (by (first | lia | omega)), show ∀ z : Int, decide (z ≠ z) = false by intro z; simp]
    exact hK
  have END : ∀ ex : St, (ex = [] ∨ ∃ y, ex = [D1 "many" y]) → XExec prog w hT k (rc 38).scope (x.at L) ((rc 38).body.drop 3) (base (D1 "size" (I steps.length) :: D1 "due" (V (rowS steps first 9)) :: ex)) n (fun o m => match o with | .ret d => d = .bool true ∧ m = n | .next _ => False) := fun ex hex => by
    have hno : noOwn (base (D1 "size" (I steps.length) :: D1 "due" (V (rowS steps first 9)) :: ex)) = true := by rcases hex with rfl | ⟨y, rfl⟩ <;> rfl
    refine x_cons (x_lift (ex_if GL (n := 20) (m := 20) ?_ (by decide +kernel)))
    walk_at "mine ev"
    refine ei_range ?_
    walk_at "mine ev"
    refine rp_1 (by decide) (by decide) ?_
    refine mapP_enc (enc := I) (fun j => rowF steps first j) (fun j hj Q hQ => ?_) ?_
    · have hj' : j < 9 := List.mem_range.mp hj
      show evE _ _ _ _ _ _
      walk_at "mine ev"
      refine ⟨_, .number_at steps first j h1 h2 (by (first | lia | omega)) hs hf, ?_⟩
      rw [numberS_eq h1]
      exact hQ
    walk_at "mine ev"
    refine cp_neV ?_
    rw [show (List.range (9 : Int).toNat).map (fun j => rowF steps first j) = rowS steps first 9 from (rowS_range (by (first | lia | omega))).symm, show decide (rowS steps first 9 ≠ rowS steps first 9) = false by simp]
    show Exec _ _ _ _ _ _ _ _
    refine ex_nil ⟨hno, ?_⟩
    show XExec _ _ _ _ _ _ _ _ _ _
    refine x_cons (x_lift (ex_if GL (n := 20) (m := 20) ?_ (by decide +kernel)))
    refine hT2 _ hex _ ?_
    show Exec _ _ _ _ _ _ _ _
    refine ex_nil ⟨hno, ?_⟩
    show XExec _ _ _ _ _ _ _ _ _ _
    obtain ⟨ka, hkl, hkk, hkc⟩ := hK1
    refine x_cons (x_if (xb_cmp rfl (xe_call C hkl hkk (by first | rfl | (rcases hex with rfl | ⟨y, rfl⟩ <;> rfl)) (by first | rfl | (rcases hex with rfl | ⟨y, rfl⟩ <;> rfl)) (by first | rfl | (rcases hex with rfl | ⟨y, rfl⟩ <;> rfl)) (xas_cons (xa_glob C hrr (by first | rfl | (rcases hex with rfl | ⟨y, rfl⟩ <;> rfl)) (by first | rfl | (rcases hex with rfl | ⟨y, rfl⟩ <;> rfl)) (xas_cons (xa_e (xe_pure GL (i := 20) (m := 20) ?_ (by decide +kernel)))))))))
    walk_at "mine ev"
    refine ⟨by decide, ?_⟩
    refine bp_cat (xs := first.map I) (ys := [I 1]) (by rw [List.length_map]; show first.length + 1 ≤ 10000; (first | lia | omega)) ?_
    walk_at "mine ev"
    refine ⟨by simp, ?_⟩
    have ecat : (PyData.list (first.map I ++ [I 1])) = V (first ++ [1]) := by show _ = PyData.list ((first ++ [1]).map I); rw [List.map_append]; rfl
    refine xas_nil ?_
    show XCall _ _ _ _ _ _ [.val (.ref rr), .d (.tuple [V steps, .list (first.map I ++ [I 1]), I 5])] _ _
    rw [ecat]
    refine (hkc L).mono fun d m hd => ?_
    obtain ⟨rfl, rfl⟩ := hd
    refine xe_pure GL (i := 20) (m := 20) ?_ (by decide +kernel)
    walk_at "mine ev"
    refine cp_neS (by decide +kernel) (by decide +kernel) ?_
    show XExec _ _ _ _ _ _ _ _ _ _
    refine x_nil ?_
    show XExec _ _ _ _ _ _ _ _ _ _
    refine x_cons (x_return (xe_or (xe_pure GL (i := 20) (m := 20) ?_ (by decide +kernel))))
    walk_at "mine ev"
    by_cases h0 : steps.length = 0
    · rw [show decide ((steps.length : Int) = 0) = true by simp [h0]]
      exact ⟨rfl, rfl⟩
    rw [show decide ((steps.length : Int) = 0) = false from decide_eq_false (by (first | lia | omega))]
    show XE _ _ _ _ _ _ _ _ _ _
    obtain ⟨ka2, hkl2, hkk2, hkc2⟩ := hK2 (by (first | lia | omega))
    refine xe_cmp rfl (xe_call C hkl2 hkk2 (by first | rfl | (rcases hex with rfl | ⟨y, rfl⟩ <;> rfl)) (by first | rfl | (rcases hex with rfl | ⟨y, rfl⟩ <;> rfl)) (by first | rfl | (rcases hex with rfl | ⟨y, rfl⟩ <;> rfl)) (xas_cons (xa_glob C hrr (by first | rfl | (rcases hex with rfl | ⟨y, rfl⟩ <;> rfl)) (by first | rfl | (rcases hex with rfl | ⟨y, rfl⟩ <;> rfl)) (xas_cons (xa_e (xe_pure GL (i := 20) (m := 20) ?_ (by decide +kernel)))))))
    walk_at "mine ev"
    refine pp_from (by (first | lia | omega)) (by decide) (by decide) ?_
    walk_at "mine ev"
    refine ⟨by simp, ?_⟩
    refine xas_nil ((hkc2 L).mono fun d m hd => ?_)
    obtain ⟨rfl, rfl⟩ := hd
    refine xe_pure GL (i := 20) (m := 20) ?_ (by decide +kernel)
    walk_at "mine ev"
    exact cp_eqS (by decide +kernel) (by decide +kernel) ⟨rfl, rfl⟩
  exact END ex hex
end
theorem ArgAll.ofRd {P : Addr → Obj → Prop} : ∀ {vs : List Value} {ds : List PyData}, RdAll P vs ds → ArgAll P vs (ds.map TV.d)
  | _, _, .nil => .nil
  | _, _, .cons a b => .cons a (ArgAll.ofRd b)
section
variable {prog : Program} {w : World} {hT : Heap} {mg mb : Str → Option Value} {k : Nat} {x : XC} {n : XS}
theorem lam_make (C : Cx prog hT mg mb) {env : Env} {A : Around} {s : Shared} {B : Addr → Prop} {E : Value → Shared → Prop} {Q : Value → Shared → Prop} {c : Addr} {params : Arguments} {body : Expr} {scope : Scope} {pos : Pos}
    (e2 : EnvOk env) (hcode : env.code = .ref c) (hC : CodeHd hT c x.P) (hb : hT.BuiltinsAt mg x.P) (hU : Up hT s.heap) (hW : WOk B hT s.heap) (hX : XOk x A hT B Non n s.heap) (hn : n.2 = true) (hdef : defaultsOf params env = ([], [])) (hcl : closureFor scope env = pure [])
    (h : ∀ q pm c' ctv s', KeepX x Non s s' → XOk x A hT B Non (n.1, false) s'.heap → s'.heap.get? q = some (kla_obj "<lambda>" (env.qual ++ "<lambda>") params body scope [] pm c' ctv) → s'.heap.CodeRec (.ref c') (env.qual ++ "<lambda>") → Q (.ref q) s') :
    wpAny (model prog w) A (eval (.Lambda params body scope pos) env) Q E s := by
  obtain ⟨ps, hP, hps⟩ := hX.tab
  cases hps hn
  have hgs := C.g.keeps hU
  have hgP : mainGlobals ≠ x.P := fun q => by
    refine genP fun gP hgP => ?_
    obtain ⟨o, es, ep, e, hd, _⟩ := hgs
    refine hgP ?_
    clear hgP
    exact (hX.fldP (q ▸ e)).2.1 _ _ hd
  refine genP fun gP hgP => ?_
  obtain ⟨bm, ob, b1, b2, b3, b4, b5, b6⟩ := hb
  refine hgP ?_
  clear hgP
  refine kla_eval hdef (kla_makeFunction (mg := mg) hcl e2.glob hgs hcode (hC.keeps hU) hP trivial rfl hgP ⟨bm, ob, b1, b2, b3, b4, hU _ _ b5, b6⟩ fun c' ctv h' tk hx hge hlt hrec htb => ?_)
  have kp : ∀ b o, b ≠ x.P → s.heap.get? b = some o → (h'.push (kla_obj "<lambda>" (env.qual ++ "<lambda>") params body scope [] ((mg "__name__").getD .none) c' ctv)).get? b = some o := fun b o hb e => Heap.get?_push_of_some _ (hx b o hb e)
  have htb' := Heap.get?_push_of_some (kla_obj "<lambda>" (env.qual ++ "<lambda>") params body scope [] ((mg "__name__").getD .none) c' ctv) htb
  have hgq := Heap.get?_push_size h' (show Obj.isFreed (kla_obj "<lambda>" (env.qual ++ "<lambda>") params body scope [] ((mg "__name__").getD .none) c' ctv) = false from rfl)
  have hrec' := hrec.push (kla_obj "<lambda>" (env.qual ++ "<lambda>") params body scope [] ((mg "__name__").getD .none) c' ctv)
  generalize h'.push (kla_obj "<lambda>" (env.qual ++ "<lambda>") params body scope [] ((mg "__name__").getD .none) c' ctv) = h₂ at kp htb' hgq hrec'
  have KX : KeepX x Non s { s with heap := h₂, toks := tk } := by
    refine ⟨⟨h₂, tk, rfl⟩, fun b o _ _ _ hb e => kp b o hb e, fun b o _ f e => ⟨o.slots, kp b o (fun q => hX.notP (q ▸ f)) e⟩, fun ps _ => ⟨_, htb'⟩, fun b o e => ?_⟩
    by_cases hb : b = x.P
    · exact ⟨_, hb ▸ htb'⟩
    · exact ⟨o, kp b o hb e⟩
  refine h h'.objs.size _ c' ctv _ KX ⟨hX.subF, fun a f _ => ?_, hX.bp, hX.bP, hX.frames, ?_, ⟨_, htb', fun q => by cases q⟩⟩ hgq hrec'
  · refine genP fun gP hgP => ?_
    obtain ⟨o, es, j, e, d⟩ := hX.dictF a f id
    refine hgP ?_
    clear hgP
    exact ⟨o, es, j, kp a o (fun q => hX.notP (q ▸ f)) e, d⟩
  · refine genP fun gP hgP => ?_
    obtain ⟨q, t, ⟨j, e⟩, r⟩ := hX.pool
    refine hgP ?_
    clear hgP
    exact ⟨q, t, ⟨j, kp _ _ hX.pP e⟩, r.mono (KX.pw (fun _ => False.elim) hX)⟩
structure LamAt (params : Arguments) (body : Expr) (scope : Scope) (q : Addr) (h : Heap) : Prop where
  is : ∃ qual pm c' ctv, h.get? q = some (kla_obj "<lambda>" qual params body scope [] pm c' ctv) ∧ h.CodeRec (.ref c') qual
theorem LamAt.keeps {params : Arguments} {body : Expr} {scope : Scope} {q : Addr} {h h' : Heap} (a : LamAt params body scope q h) (k : ∀ b o, h.get? b = some o → h'.get? b = some o) : LamAt params body scope q h' :=
  let ⟨qual, pm, c', ctv, e, r⟩ := a.is; ⟨qual, pm, c', ctv, k _ _ e, r.keeps k⟩
theorem LamAt.fn {params : Arguments} {body : Expr} {scope : Scope} {q : Addr} {h : Heap} (a : LamAt params body scope q h) : FnAt q h :=
  let ⟨qual, pm, c', ctv, e, r⟩ := a.is; ⟨_, _, _, _, e⟩
theorem lam_raise (C : Cx prog hT mg mb) (GL : Glob prog w hT mg mb k Fn Gl (gsOf [])) {CA : Addr} {kd : Str} {names : List Str} {params : Arguments} {scope : Scope} {g : Str} {p1 p2 : Pos} {e0 : Expr} {es : List Expr} {q : Addr}
    (hbind : ∀ (qual : Str) (pm cd ct : Value) (vals : List Value), vals.length = names.length → bindArgs (kla_fn "<lambda>" qual params (.Call (.Name g p1) (e0 :: es) [] p2) scope [] pm cd ct) ⟨vals, []⟩ = pure (names.zip vals)) (hsc : scopeOk scope names = true) (hloc : ∃ v, scope.names.lookup v = some .local)
    {ts : List PyData} {ds : List PyData} (hlen : ts.length = names.length) {fv : Value} (hl : LoadsG mg mb g fv) (hk : Kept hT fv) (hs : (e0 :: es).all notStar = true) (hx : scope.names.lookup g = some .globalImplicit) (hg : (g == ("__debug__" : Str)) = false)
    {i m : Nat} (hev : evEs Fn Gl i (full (names.zip (ts.map TV.d))) (e0 :: es) (fun r => r = ds)) (hok : (e0 :: es).all (okE (gsOf []) m scope) = true)
    (hR : ∀ L, XRaise prog w hT k CA (x.at L) (fun _ => True) fv (ds.map TV.d) n kd) :
    XRaise prog w hT (k + 1) CA x (LamAt params (.Call (.Name g p1) (e0 :: es) [] p2) scope q) (.ref q) (ts.map TV.d) n kd := fun A s W vs Q E hA hU hW hX hH r hE => by
  refine genP fun gP hgP => ?_
  obtain ⟨qual, pm, c', ctv, ho, hrec⟩ := hH.is
  refine hgP ?_
  clear hgP
  refine wpAny_call (fn_enterE C (k := k) (fo := kla_obj "<lambda>" qual params (.Call (.Name g p1) (e0 :: es) [] p2) scope [] pm c' ctv) (fd := kla_fn "<lambda>" qual params (.Call (.Name g p1) (e0 :: es) [] p2) scope [] pm (.ref c') ctv) rfl rfl rfl rfl rfl (hbind qual pm (.ref c') ctv) hsc (by rw [List.length_map]; exact hlen) hA ho hrec hU hW r fun env s₁ U e1 e2 e3 e4 e5 ks uL hlow ns hS => ?_)
  have e1' : env.scope = scope := e1
  have hX1 := xok_enter (env := env) hX ks hlow uL ns e3 e4.kind
  have hF1 : XOff (x.at env.locals) U env := xoff_enter hX hlow (by obtain ⟨v, hv⟩ := hloc; exact ⟨v, by show env.scope.names.lookup v = _; rw [e1']; exact hv⟩)
  rw [arm_eval_Call_Name']
  refine wpAny_bind (global_loads C hS.up e4.kind e4.glob e4.bui (by show env.scope.names.lookup _ = _; rw [e1']; exact hx) hl ?_ hg)
  show wpAny _ _ (callWith p2 fv [] (backTo p2 (starEach (e0 :: es) env)) []) _ _ _
  rw [star_plain hs, back_plain]
  refine callWith_kept (hT := hT) hk (back_any (e0 :: es)) (PySem.Calls.evalArgs_plain (wpAny_mono (soundEs (m := m) GL hev (by rw [e1']; exact hok) e4 e5 hS.full) (fun ws s₂ y => ?_) fun _ _ e => e))
  refine genP fun gP hgP => ?_
  obtain ⟨rs, rfl, rds, ks2⟩ := y
  refine hgP ?_
  clear hgP
  have hS2 := hS.keeps (Keeps.heap ks2)
  have hX2 := hX1.keeps (Keeps.heap ks2)
  have ra : ArgAll (PW (fun z => W z ∨ U z) s₂.heap) ws (rs.map TV.d) := ArgAll.ofRd rds
  refine ⟨rfl, hS2.up, hR env.locals (A.deeper env) s₂ _ ws _ _ e5 hS2.up hS2.wB hX2 trivial ra fun e s₃ hx3 hno hX3 kx hp hP => ?_⟩
  exact leave_raised hX hW ks hlow uL e3 hX1 hF1 (hx3.older fun b o e => ⟨o, Keeps.heap ks2 b o e⟩) (KeepX.trans (.ofKeeps ks2) kx.wide) (hX3.weak) (fun o e => hp o (Keeps.heap ks2 _ _ e)) (fun o e => hP o (Keeps.heap ks2 _ _ e)) hS.wB.old fun s'' a b c d e' f' => hE e s'' a b c d e' f'
end
noncomputable def XExecC (prog : Program) (w : World) (hT : Heap) (k : Nat) (sc : Scope) (cd : Value) (x : XC) (sts : List Stmt) (σ : St) (n : XS) (K : Out → XS → Prop) : Prop :=
  ∀ (env : Env), env.scope = sc → env.code = cd → EnvOk env → ∀ (A : Around) (s : Shared) (B U : Addr → Prop) (E : Value → Shared → Prop), AIn k A → SOk hT B U env σ (fun _ => none) s.heap → XOk x A hT B Non n s.heap → XOff x U env →
    wpAny (model prog w) A (execs sts env) (XAfter x A hT B U env K s) E s
section
variable {prog : Program} {w : World} {hT : Heap} {mg mb : Str → Option Value} {k : Nat} {x : XC} {n : XS} {sc : Scope} {σ : St} {cd : Value}
theorem xc_of {sts : List Stmt} {K : Out → XS → Prop} (h : XExec prog w hT k sc x sts σ n K) : XExecC prog w hT k sc cd x sts σ n K := fun env e1 _ => h env e1
theorem xc_cons {st : Stmt} {rest : List Stmt} {K : Out → XS → Prop} (h : XEx1 prog w hT k sc x st σ n (fun o m => match o with | .next σ' => XExecC prog w hT k sc cd x rest σ' m K | .ret d => K (.ret d) m)) : XExecC prog w hT k sc cd x (st :: rest) σ n K :=
  fun env e1 ec e2 A s B U E hA hS hX hF => by
    refine PySem.wpAny_execs_cons (wpAny_mono (h env e1 e2 A s B U E hA hS hX hF) (fun f s' y => ?_) fun _ _ e => e)
    cases f with
    | next =>
      refine genP fun gP hgP => ?_
      obtain ⟨σ', n', h1, h2, h3, h4⟩ := y
      refine hgP ?_
      clear hgP
      exact wpAny_mono (h1 env e1 ec e2 A s' B U E hA h2 h3 hF) (fun f s'' z => z.pre h4) fun _ _ e => e
    | ret v => exact y
    | brk => exact y
    | cont => exact y
theorem xfnC (C : Cx prog hT mg mb) {a : Addr} {fd : FuncData} {body : List Stmt} {names : List Str} (f : FnIs hT a fd body names) (hloc : ∃ v, fd.scope.names.lookup v = some .local) {ts : List TV} (hlen : ts.length = names.length) {K : PyData → XS → Prop}
    (hF : ∀ L, XExecC prog w hT k fd.scope fd.code (x.at L) body (names.zip ts) n (fun o m => match o with | .ret d => K d m | .next _ => False)) : XCall prog w hT (k + 1) x (.ref a) ts n K := fun A s W vs E hA hU hW hX r => by
  obtain ⟨fo, h1, h2⟩ := f.get
  refine wpAny_call (fn_enter C (k := k) (fun hU => f.code.keeps hU) h2 f.body f.clo f.glob f.bui f.bind f.sc hlen hA (hU a fo h1) hU hW r fun env s₁ U e1 e2 e3 e4 e5 ks uL hlow ns hS => ?_)
  have hX1 := xok_enter (env := env) hX ks hlow uL ns e3 e4.kind
  have hF1 : XOff (x.at env.locals) U env := xoff_enter hX hlow (by obtain ⟨v, hv⟩ := hloc; exact ⟨v, by show env.scope.names.lookup v = _; rw [e1]; exact hv⟩)
  refine wpAny_mono (hF env.locals env e1 e2 e4 (A.deeper env) s₁ _ U _ e5 hS hX1 hF1) (fun fl s' y => ?_) fun _ _ e => e
  cases fl with
  | next => obtain ⟨_, _, q, _⟩ := y; exact q.elim
  | ret v =>
    obtain ⟨d, n', q1, q2, q3, q4⟩ := y
    obtain ⟨z1, z2⟩ := xok_leave (env := env) hX ks hlow uL q3 q4
    exact ⟨d, n', q1, q2.mono fun b o q => ⟨q.1, fun z => q.2 (.inl z)⟩, z1, z2⟩
  | brk => exact y.elim
  | cont => exact y.elim
theorem lam_kind (C : Cx prog hT mg mb) {CA : Addr} (D : CasIs hT mg mb CA) (GL0 : Glob prog w hT mg mb k Fn Gl (gsOf [])) {a : Addr} {fd : FuncData} (f : FnIs hT a fd (rc 34).body ["work", "args"]) (hsc : fd.scope = (rc 34).scope) (hl : LoadsG mg mb "_law_kind" (.ref a))
    {gs : List Str × List Str} (GL : Glob prog w hT mg mb (k + 1) Fn Gl gs) {c : Addr} {params : Arguments} {body : Expr} {scope : Scope} {lpos tpos p1 p2 : Pos} {kk : Nat} {es : List Expr} {d0 d1 d2 : PyData} {kd : Str} {i m : Nat}
    {env : Env} (e2 : EnvOk env) (hcode : env.code = .ref c) (hC : CodeHd hT c x.P) (hb : hT.BuiltinsAt mg x.P) (hdef : defaultsOf params env = ([], [])) (hcl : closureFor scope env = pure []) (hx : env.scope.names.lookup ("_law_kind" : Str) = some .globalImplicit)
    {A : Around} {s : Shared} {B U : Addr → Prop} {E : Value → Shared → Prop} (hA : AIn (k + 1) A) (hS : SOk hT B U env σ (fun _ => none) s.heap) (hX : XOk x A hT B Non n s.heap) (hn : n.2 = true)
    (hev : evE Fn Gl i (full σ) (.Tuple es kk tpos) (fun d => d = .tuple [d0, d1, d2])) (hok : okE gs m env.scope (.Tuple es kk tpos) = true)
    (hR : ∀ q L, XRaise prog w hT k CA (x.at L) (LamAt params body scope q) (.ref q) [.d d0, .d d1, .d d2] (n.1, false) kd) :
    wpAny (model prog w) A (eval (.Call (.Name "_law_kind" p1) [.Lambda params body scope lpos, .Tuple es kk tpos] [] p2) env) (XGood x A hT B s (fun d n' => d = .str kd ∧ n' = (n.1, false))) E s := by
  have hW : WOk B hT s.heap := hS.wB
  rw [arm_eval_Call_Name']
  refine wpAny_bind (global_loads C hS.up e2.kind e2.glob e2.bui hx hl ?_ rfl)
  show wpAny _ _ (callWith p2 (.ref a) [] (backTo p2 (starEach _ env)) []) _ _ _
  rw [star_plain (by rfl), back_plain]
  refine callWith_kept (hT := hT) f.kept (back_any _) (PySem.Calls.evalArgs_plain ?_)
  refine PySem.Calls.spliced_cons (lam_make C e2 hcode hC hb hS.up hW hX hn hdef hcl fun q pm c' ctv s₁ K1 X1 hq hrec => ?_)
  have hS1 := hS.keepX hX K1
  refine PySem.Calls.spliced_cons (wpAny_mono (soundE (m := m) GL hev hok e2 hA hS1.full) (fun v s₂ y => ?_) fun _ _ e => e)
  refine genP fun gP hgP => ?_
  obtain ⟨d, rfl, rd, ks⟩ := y
  refine hgP ?_
  clear hgP
  have hS2 := hS1.keeps (Keeps.heap ks)
  have hX2 := X1.keeps (Keeps.heap ks)
  refine PySem.Calls.spliced_nil ⟨rfl, hS2.up, ?_⟩
  have hlam : LamAt params body scope q s₂.heap := LamAt.keeps ⟨_, _, _, _, hq, hrec⟩ (Keeps.heap ks)
  refine wpAny_mono (kind_ok (k := k) C D GL0 f hsc (H := LamAt params body scope q) (fun h h' a k => a.keeps k) (fun h a => a.fn) (hR q) hA hS2.up hS2.wB hX2 hlam (.cons rfl (.cons rd .nil))) (fun v s₃ y => ?_) fun _ _ e => e
  refine genP fun gP hgP => ?_
  obtain ⟨d, n', ⟨rfl, rfl⟩, rv, X3, K3⟩ := y
  refine hgP ?_
  clear hgP
  exact ⟨_, _, ⟨rfl, rfl⟩, rv, X3, (K1.trans (.ofKeeps ks)).trans K3⟩
theorem xc_if_lam (C : Cx prog hT mg mb) {CA : Addr} (D : CasIs hT mg mb CA) (GL0 : Glob prog w hT mg mb k Fn Gl (gsOf [])) {a : Addr} {fd : FuncData} (f : FnIs hT a fd (rc 34).body ["work", "args"]) (hsc : fd.scope = (rc 34).scope) (hl : LoadsG mg mb "_law_kind" (.ref a))
    {gs : List Str × List Str} (GL : Glob prog w hT mg mb (k + 1) Fn Gl gs) {c : Addr} {params : Arguments} {body : Expr} {scope : Scope} {lpos tpos p1 p2 p3 p4 ip : Pos} {kk cc : Nat} {es : List Expr} {d0 d1 d2 : PyData} {kd : Str} {i m : Nat} {ibody rest : List Stmt} {K : Out → XS → Prop}
    (hcd : cd = .ref c) (hC : CodeHd hT c x.P) (hb : hT.BuiltinsAt mg x.P) (hn : n.2 = true) (hkd : (PyData.str kd).canLay0 = true)
    (hev : evE Fn Gl i (full σ) (.Tuple es kk tpos) (fun d => d = .tuple [d0, d1, d2])) (hok : okE gs m sc (.Tuple es kk tpos) = true) (hx : sc.names.lookup ("_law_kind" : Str) = some .globalImplicit)
    (hdef : ∀ env : Env, defaultsOf params env = ([], [])) (hcl : ∀ env : Env, closureFor scope env = pure [])
    (hR : ∀ q L, XRaise prog w hT k CA (x.at L) (LamAt params body scope q) (.ref q) [.d d0, .d d1, .d d2] (n.1, false) kd)
    (hK : XExecC prog w hT (k + 1) sc cd x rest σ (n.1, false) K) :
    XExecC prog w hT (k + 1) sc cd x (.If (.Compare (.Call (.Name "_law_kind" p1) [.Lambda params body scope lpos, .Tuple es kk tpos] [] p2) [.NotEq] [.Constant (.str kd) cc p3] p4) ibody [] ip :: rest) σ n K :=
  fun env e1 ec e2 A s B U E hA hS hX hF => by
    have e1' := e1
    subst e1
    refine PySem.wpAny_execs_cons (wpAny_If (wpAny_isTrue_Compare1 (hm := rfl) (wpAny_mono (lam_kind C D GL0 f hsc hl GL e2 (ec.trans hcd) hC hb (hdef env) (hcl env) hx hA hS hX hn hev hok hR) (fun v s₁ y => ?_) fun _ _ e => e)))
    refine genP fun gP hgP => ?_
    obtain ⟨d, n', ⟨rfl, rfl⟩, rv, X1, K1⟩ := y
    refine hgP ?_
    clear hgP
    have hS1 := hS.keepX hX K1
    refine wpAny_Constant_str ?_
    refine wpAny_mono (cmp_sound (W := B) hA (s := { s₁ with toks := s₁.toks + 1 }) rv (.str _ _) (Q := fun b => b = false) (cp_neS hkd hkd (by simp))) (fun vc s₃ y => ?_) fun _ _ e => e
    refine genP fun gP hgP => ?_
    obtain ⟨b, rfl, rfl, rfl⟩ := y
    refine hgP ?_
    clear hgP
    refine wpAny_truthy_bool ?_
    refine PySem.wpAny_execs_nil ?_
    exact wpAny_mono (hK env e1' ec e2 A { s₁ with toks := s₁.toks + 1 } B U E hA hS1 X1 hF) (fun f s₂ z => z.pre (K1.wide.trans (.ofKeeps (Keeps.toks s₁ _)))) fun _ _ e => e
end
section
variable {steps first : List Int}
theorem gen_sizes (h1 : first.length = steps.length) (h2 : steps.length ≤ 3) (hs : ∀ x ∈ steps, -2 ≤ x ∧ x ≤ 2) (hf : ∀ x ∈ first, -3 ≤ x ∧ x ≤ 3) :
    Bp 100000 (generatingS steps first).1 ∧ Bp 100000 (generatingS steps first).2 ∧ (generatingS steps first).1.length ≤ 4 ∧ (generatingS steps first).2.length ≤ 4 := by
  refine fmakeS_bits (trim_bits (top_bits h1 h2 hs hf)) (trim_bits (bot_bits hs)) ?_ ?_ (fun h => trim_lead h) trimBot.1
  · have := trim_len ((topS steps first).map fun (x : Int) => (x : Rat))
    have e : ((topS steps first).map fun (x : Int) => (x : Rat)).length = steps.length := by simp [topS]
    (first | lia | omega)
  · have := trim_len (botS steps)
    have e : (botS steps).length = steps.length + 1 := by simp [botS]
    (first | lia | omega)
theorem gen_row (h1 : first.length = steps.length) (h2 : steps.length ≤ 3) : serS (generatingS steps first).1 (generatingS steps first).2 8 [] = (rowS steps first 8).map fun (x : Int) => (x : Rat) := by
  have := serS_eq (generatingS_short h1) 8 0
  rw [show (List.range 0).map _ = ([] : List Rat) from rfl] at this
  rw [this, rowS_range (by (first | lia | omega)), List.map_map]
  rfl
theorem bt_int {n : Nat} {x : Int} (h : Bz n x) (hn : 0 < n) : Bt n ((x : Int) : Rat) := by
  refine ⟨h, ?_⟩
  show (1 : Nat) < 2 ^ n
  exact Nat.one_lt_two_pow (by (first | lia | omega))
theorem gen_zero (h1 : first.length = steps.length) (h2 : steps.length ≤ 3) (hs : ∀ x ∈ steps, -2 ≤ x ∧ x ≤ 2) (hf : ∀ x ∈ first, -3 ≤ x ∧ x ≤ 3) (h0 : rowS steps first 8 = List.replicate 8 0) : (generatingS steps first).1 = [] := by
  have S := generatingS_short h1
  have hl := (gen_sizes h1 h2 hs hf).2.2.1
  apply Classical.byContradiction
  intro hne
  have hlead := S.tl hne
  have he := S.eq ((generatingS steps first).1.length - 1)
  rw [act_delta, lead_getD hne] at he
  apply hlead
  rw [← he, act_local _ _ (fun _ => 0) _ (fun m hm => ?_), act_zero]
  have : (rowS steps first 8).getD m 0 = rowF steps first m := rowS_get (by (first | omega | lia))
  show ((rowF steps first m : Int) : Rat) = 0
  rw [← this, h0, List.getD_eq_getElem?_getD, List.getElem?_replicate]
  split <;> rfl
end
section
variable {prog : Program} {w : World} {hT : Heap} {mg mb : Str → Option Value} {k : Nat} {x : XC} {n : XS}
theorem told_eq {t : Nat} (ht : t = 2 ∨ t = 3 ∨ t = 4) : ∃ l : List Rat, serS [1] [((t : Int) : Rat), -1] 4 [] = l ∧ (∀ c ∈ l, Bt 1000 c) ∧ PyData.list [.tuple [I 1, I t], .tuple [I 1, I ((t : Int) ^ 2)], .tuple [I 1, I ((t : Int) ^ 3)], .tuple [I 1, I ((t : Int) ^ 4)]] = P l := by
  have e : ∀ (d : Nat) (q : Rat), q.num = 1 → q.den = d → R q = .tuple [I 1, I d] := fun d q h1 h2 => by
    show PyData.tuple [.int q.num, .int q.den] = _
    rw [h1, h2]
  have go : ∀ (a b c d : Nat) (q1 q2 q3 q4 : Rat), R q1 = .tuple [I 1, I a] → R q2 = .tuple [I 1, I b] → R q3 = .tuple [I 1, I c] → R q4 = .tuple [I 1, I d] → PyData.list [.tuple [I 1, I a], .tuple [I 1, I b], .tuple [I 1, I c], .tuple [I 1, I d]] = P [q1, q2, q3, q4] := fun a b c d q1 q2 q3 q4 h1 h2 h3 h4 => by
    show _ = PyData.list [R q1, R q2, R q3, R q4]
    rw [h1, h2, h3, h4]
  rcases ht with rfl | rfl | rfl
  · exact ⟨[mkRat 1 2, mkRat 1 4, mkRat 1 8, mkRat 1 16], by decide +kernel, by unfold Bt; decide +kernel, go 2 4 8 16 _ _ _ _ (e _ _ (by decide +kernel) (by decide +kernel)) (e _ _ (by decide +kernel) (by decide +kernel)) (e _ _ (by decide +kernel) (by decide +kernel)) (e _ _ (by decide +kernel) (by decide +kernel))⟩
  · exact ⟨[mkRat 1 3, mkRat 1 9, mkRat 1 27, mkRat 1 81], by decide +kernel, by unfold Bt; decide +kernel, go 3 9 27 81 _ _ _ _ (e _ _ (by decide +kernel) (by decide +kernel)) (e _ _ (by decide +kernel) (by decide +kernel)) (e _ _ (by decide +kernel) (by decide +kernel)) (e _ _ (by decide +kernel) (by decide +kernel))⟩
  · exact ⟨[mkRat 1 4, mkRat 1 16, mkRat 1 64, mkRat 1 256], by decide +kernel, by unfold Bt; decide +kernel, go 4 16 64 256 _ _ _ _ (e _ _ (by decide +kernel) (by decide +kernel)) (e _ _ (by decide +kernel) (by decide +kernel)) (e _ _ (by decide +kernel) (by decide +kernel)) (e _ _ (by decide +kernel) (by decide +kernel))⟩
theorem last_of' {p : List Rat} (h : p ≠ []) : p.getLast? = some (plead p) := last_of h
theorem num_ne {q : Rat} (h : q ≠ 0) : q.num ≠ 0 := fun e => h (by
  have := Rat.num_eq_zero.mp e
  exact this)
noncomputable def DrawOk' (prog : Program) (w : World) (hT : Heap) (mg mb : Str → Option Value) (k : Nat) (x : XC) : Prop := DrawOk prog w hT mg mb k x
noncomputable def SnRaises (prog : Program) (w : World) (hT : Heap) (mg mb : Str → Option Value) (k : Nat) (CA : Addr) : Prop :=
  ∃ fv, LoadsG mg mb "series_numbers" fv ∧ Kept hT fv ∧ ∀ (x : XC) (n : XS) (top bottom : List Rat) (many : Int), bottom ≠ [] → bottom.getD 0 0 = 0 → XRaise prog w hT k CA x (fun _ => True) fv [.d (.tuple [P top, P bottom]), .d (I many)] n "domain"
theorem series_ok (C : Cx prog hT mg mb) {CA : Addr} (D : CasIs hT mg mb CA) (GL0 : Glob prog w hT mg mb k Fn Gl (gsOf [])) (GL1 : Glob prog w hT mg mb (k + 1) Fn Gl (gsOf [])) (GL : Glob prog w hT mg mb (k + 2) Fn Gl (gsOf ["generating", "_law_numbers", "series_numbers"])) (hD : DrawOk prog w hT mg mb (k + 2) x)
    (hSN : SnRaises prog w hT mg mb k CA) {ka : Addr} {kfd : FuncData} (kf : FnIs hT ka kfd (rc 34).body ["work", "args"]) (khsc : kfd.scope = (rc 34).scope) (khl : LoadsG mg mb "_law_kind" (.ref ka))
    {a : Addr} {fd : FuncData} (f : FnIs hT a fd (rc 39).body ["pool", "steps", "first"]) (hsc : fd.scope = (rc 39).scope) {c : Addr} (hcd : fd.code = .ref c) (hC : CodeHd hT c x.P) (hb : hT.BuiltinsAt mg x.P) {steps first : List Int} (h1 : first.length = steps.length) (h2 : steps.length ≤ 3) (hs : ∀ x ∈ steps, -2 ≤ x ∧ x ≤ 2) (hf : ∀ x ∈ first, -3 ≤ x ∧ x ≤ 3) (hn : n.1 ≤ 900) (hn2 : n.2 = true) :
    XCall prog w hT (k + 3) x (.ref a) [.val (.ref x.p), .d (V steps), .d (V first)] n (fun d n' => d = .bool true) := by
  obtain ⟨da, hl, hk, hdraw⟩ := hD
  obtain ⟨hB1, hB2, hL1, hL2⟩ := gen_sizes h1 h2 hs hf
  have S := generatingS_short h1
  have hrow := gen_row h1 h2
  have hzero := gen_zero h1 h2 hs hf
  have hs8 := bz_small (v := steps) (c := 2) (fun z hz => hs z hz) (by decide)
  have hf8 := bz_small (v := first) (c := 3) (fun z hz => hf z hz) (by decide)
  have hG : Fn "generating" [V steps, V first] (.tuple [P (generatingS steps first).1, P (generatingS steps first).2]) := .generating steps first h1 h2 hs hf
  refine xfnC C f ⟨"row", by rw [hsc]; rfl⟩ rfl fun L => ?_
  rw [hsc]
  generalize (generatingS steps first).1 = top at *
  generalize (generatingS steps first).2 = bottom at *
  have hbn : bottom ≠ [] := by rintro rfl; exact S.bl rfl
  have hbpos := List.length_pos_iff.mpr hbn
  let base : St → St := fun ex => ("pool", .val (.ref x.p)) :: D1 "steps" (V steps) :: D1 "first" (V first) :: D1 "top" (P top) :: D1 "bottom" (P bottom) :: ex
  refine xc_cons (x_lift (ex_unpack GL (n := 20) (m := 20) ?_ (by decide +kernel) (by decide +kernel) (by decide +kernel) rfl rfl))
  show evE _ _ _ (full [("pool", .val (.ref x.p)), D1 "steps" (V steps), D1 "first" (V first)]) _ _
  walk_at "mine ev"
  refine ⟨_, hG, rfl, ?_⟩
  show XExecC _ _ _ _ _ _ _ _ (base []) _ _
  refine xc_cons (x_lift (ex_set GL (n := 20) (m := 20) ?_ (by decide +kernel) (by decide +kernel) rfl))
  walk_at "mine ev"
  refine ⟨_, .law_numbers steps first 8 h1 h2 (by decide) hs8 hf8, rfl, ?_⟩
  show XExecC _ _ _ _ _ _ _ _ (base [D1 "row" (V (rowS steps first 8))]) _ _
  have hT1 : ∀ Q : Bool → Prop, Q false → evB Fn Gl 20 (full (base [D1 "row" (V (rowS steps first 8))])) (ifT (nthS 2 (rc 39).body)) Q := fun Q hQ => by
    have hB : ∀ Q : Bool → Prop, Q false → evBs Fn Gl 18 (full (base [D1 "row" (V (rowS steps first 8))])) .Or (orR (ifT (nthS 2 (rc 39).body))) Q := fun Q hQ => by
      show evBs _ _ 18 _ .Or [.Compare _ _ _ _, .Compare _ _ _ _] _
      walk_at "mine ev"
      refine ip_last (plead bottom) (by (first | lia | omega)) (last_of hbn) ?_
      walk_at "mine ev"
      rw [show decide ((plead bottom).num = 0) = false from decide_eq_false (num_ne S.bl)]
      show evBs _ _ _ _ _ _ _
      walk_at "mine ev"
      refine ip_map (bottom.getD 0 0) (by decide) (by decide) (getD_of_get hbpos) ?_
      walk_at "mine ev"
      rw [show decide ((bottom.getD 0 0).num = 0) = false from decide_eq_false (num_ne S.b0)]
      show evBs _ _ _ _ _ _ _
      walk_at "mine ev"
      exact hQ
    show evB _ _ 20 _ (.BoolOp _ (.BoolOp _ _ _ :: _) _) _
    refine eb_bool (bs_or (eb_bool ?_))
    walk_at "mine ev"
    refine ⟨by decide, cp_neP (q := []) ?_⟩
    by_cases h0 : top = []
    · rw [show decide (top ≠ []) = false from decide_eq_false (fun q => q h0)]
      exact hB Q hQ
    rw [show decide (top ≠ []) = true from decide_eq_true h0]
    show evBs _ _ _ _ _ _ _
    walk_at "mine ev"
    refine ip_last (plead top) (by (first | lia | omega)) (last_of h0) ?_
    walk_at "mine ev"
    rw [show decide ((plead top).num = 0) = false from decide_eq_false (num_ne (S.tl h0))]
    exact hB Q hQ
  refine xc_cons (x_lift (ex_if GL (n := 20) (m := 20) (hT1 _ ?_) (by decide +kernel)))
  refine ex_nil ⟨rfl, ?_⟩
  show XExecC _ _ _ _ _ _ _ _ _ _ _
  have hser : Fn "series_numbers" [.tuple [P top, P bottom], I 8] (P (serS top bottom 8 [])) := by
    refine .series_numbers top bottom 8 S.b0 (by (first | lia | omega)) (by (first | lia | omega)) (by decide) hB1 hB2 fun z hz => ?_
    rw [hrow] at hz
    obtain ⟨y, hy, rfl⟩ := List.mem_map.mp hz
    exact bt_int (rowS_bits hs8 hf8 (by (first | lia | omega)) (by (first | lia | omega)) (by decide) y hy) (by decide)
  have hrl : (rowS steps first 8).length = 8 := by rw [rowS_len]; (first | lia | omega)
  refine xc_cons (x_lift (ex_if GL (n := 20) (m := 20) ?_ (by decide +kernel)))
  walk_at "mine ev"
  refine ⟨by simp, _, hser, ?_⟩
  walk_at "mine ev"
  refine ei_name rfl ⟨by simp; (first | lia | omega), ?_⟩
  refine mapP_enc (enc := R) (fun (z : Int) => ((z : Int) : Rat)) (fun z _ Q hQ => ?_) ?_
  · show evE _ _ _ _ _ _
    walk_at "mine ev"
    exact ⟨by simp, hQ⟩
  walk_at "mine ev"
  refine cp_neP ?_
  rw [hrow, show ∀ l : List Rat, decide (l ≠ l) = false by intro l; simp]
  show Exec _ _ _ _ _ _ _ _
  refine ex_nil ⟨rfl, ?_⟩
  show XExecC _ _ _ _ _ _ _ _ _ _ _
  have hT2 : ∀ Q : Bool → Prop, Q false → evB Fn Gl 20 (full (base [D1 "row" (V (rowS steps first 8))])) (ifT (nthS 4 (rc 39).body)) Q := fun Q hQ => by
    show evB _ _ 20 _ (.BoolOp _ _ _) _
    walk_at "mine ev"
    refine ⟨by simp, ?_⟩
    walk_at "mine ev"
    refine bp_rep (xs := [I 0]) (n := 8) ⟨by decide, by decide, by decide⟩ ?_
    show cmpP .Eq (V (rowS steps first 8)) (V (List.replicate 8 0)) _
    refine cp_eqV ?_
    by_cases h0 : rowS steps first 8 = List.replicate 8 0
    · rw [show decide (rowS steps first 8 = List.replicate 8 0) = true from decide_eq_true h0]
      show evBs _ _ _ _ _ _ _
      walk_at "mine ev"
      refine ⟨by decide, cp_neP (q := []) ?_⟩
      rw [show decide (top ≠ []) = false from decide_eq_false (fun q => q (hzero h0))]
      exact hQ
    · rw [show decide (rowS steps first 8 = List.replicate 8 0) = false from decide_eq_false h0]
      exact hQ
  refine xc_cons (x_lift (ex_if GL (n := 20) (m := 20) (hT2 _ ?_) (by decide +kernel)))
  refine ex_nil ⟨rfl, ?_⟩
  show XExecC _ _ _ _ _ _ _ _ _ _ _
  refine xc_cons (x_set (xe_bin C (xe_bin C (xe_pure GL (i := 20) (m := 20) ?_ (by decide +kernel)))) (by decide +kernel) rfl)
  walk_at "mine ev"
  refine ⟨by simp, ?_⟩
  walk_at "mine ev"
  refine ⟨by simp, ?_⟩
  refine xe_bin C (xe_pure GL (i := 20) (m := 20) ?_ (by decide +kernel))
  walk_at "mine ev"
  refine xe_call C hl hk rfl rfl rfl (xas_cons (xa_val (.head _) rfl (xas_cons (xa_e (xe_pure GL (i := 20) (m := 20) ?_ (by decide +kernel))))))
  walk_at "mine ev"
  refine xas_nil (XCall.mono (hdraw L n 2 (by (first | lia | omega)) (by decide) (by decide)) fun d n1 hd1 => ?_)
  obtain ⟨rfl, v1, rfl, a1, b1⟩ := hd1
  walk_at "mine ev"
  obtain ⟨y1, rfl⟩ := Int.eq_ofNat_of_zero_le a1
  have hy1 : y1 < 2 := by (first | lia | omega)
  refine bp_rep (xs := [R 0]) (n := 1 + (y1 : Int)) ⟨by simp; (first | lia | omega), by (first | lia | omega), by (first | lia | omega)⟩ ?_
  refine xe_pure GL (i := 20) (m := 20) ?_ (by decide +kernel)
  walk_at "mine ev"
  refine ⟨by simp, ?_⟩
  walk_at "mine ev"
  refine ⟨by simp, ?_⟩
  refine bp_cat (xs := (List.replicate (1 + (y1 : Int)).toNat [R 0]).flatten) (ys := [R 1]) (by simp; (first | lia | omega)) ?_
  obtain ⟨pole, hp0, hp1, hpe⟩ : ∃ pole : List Rat, pole ≠ [] ∧ pole.getD 0 0 = 0 ∧ (PyData.list ((List.replicate (1 + (y1 : Int)).toNat [R 0]).flatten ++ [R 1])) = P pole := by
    obtain rfl | rfl : y1 = 0 ∨ y1 = 1 := by (first | lia | omega)
    · exact ⟨[0, 1], by simp, rfl, rfl⟩
    · exact ⟨[0, 0, 1], by simp, rfl, rfl⟩
  rw [hpe]
  show XExecC _ _ _ _ _ _ _ _ (base [D1 "row" (V (rowS steps first 8)), D1 "pole" (P pole)]) _ _
  obtain ⟨sv, sl, sk, hsr⟩ := hSN
  refine xc_if_lam (k := k + 1) C D GL1 kf khsc khl GL (i := 20) (m := 20) (d0 := P [1]) (d1 := P pole) (d2 := I 3) hcd hC hb hn2 (by decide +kernel) ?_ (by decide +kernel) (by decide +kernel) (fun env => rfl) (fun env => rfl) (fun q L' => ?_) ?_
  · walk_at "mine ev"
    refine ⟨by simp, ?_⟩
    walk_at "mine ev"
    refine ⟨by simp, ?_⟩
    walk_at "mine ev"
    exact ⟨by simp, rfl⟩
  · refine lam_raise (ts := [P [1], P pole, I 3]) (ds := [.tuple [P [1], P pole], I 3]) (names := ["above", "below", "many"]) C GL0 (fun qual pm cd ct vals h => by obtain ⟨a, b, c, rfl⟩ := len_three h; rfl) (by decide +kernel) ⟨"above", rfl⟩ rfl sl sk rfl (by decide +kernel) (by decide +kernel) (i := 20) (m := 20) ?_ (by decide +kernel) (fun L2 => hsr _ _ [1] pole 3 hp0 hp1)
    walk_at "mine ev"
    refine ⟨by simp, ?_⟩
    walk_at "mine ev"
    exact rfl
  refine xc_of ?_
  show XExec _ _ _ _ _ _ _ (base [D1 "row" (V (rowS steps first 8)), D1 "pole" (P pole)]) _ _
  refine x_cons (x_set (xe_bin C (xe_pure GL (i := 20) (m := 20) ?_ (by decide +kernel))) (by decide +kernel) rfl)
  walk_at "mine ev"
  refine xe_call C hl hk rfl rfl rfl (xas_cons (xa_val (.head _) rfl (xas_cons (xa_e (xe_pure GL (i := 20) (m := 20) ?_ (by decide +kernel))))))
  walk_at "mine ev"
  refine xas_nil (XCall.mono (hdraw L (n.1 + 1, false) 3 (by show n.1 + 1 ≤ 1000; (first | lia | omega)) (by decide) (by decide)) fun d n1 hd1 => ?_)
  obtain ⟨rfl, v1, rfl, a2, b2⟩ := hd1
  obtain ⟨y2, rfl⟩ := Int.eq_ofNat_of_zero_le a2
  have hy2 : y2 < 3 := by (first | lia | omega)
  walk_at "mine ev"
  obtain ⟨t, hte, ht⟩ : ∃ t : Nat, (2 : Int) + (y2 : Int) = t ∧ (t = 2 ∨ t = 3 ∨ t = 4) := ⟨2 + y2, by (first | lia | omega), by (first | lia | omega)⟩
  rw [hte]
  obtain ⟨l, hl1, hl2, hl3⟩ := told_eq ht
  have ht0 : ((t : Int) : Rat) ≠ 0 := by rcases ht with rfl | rfl | rfl <;> decide +kernel
  have hBt : Bt 5 ((t : Int) : Rat) := bt_int (by unfold Bz; rcases ht with rfl | rfl | rfl <;> decide) (by decide)
  have hser2 : Fn "series_numbers" [.tuple [P [1], P [((t : Int) : Rat), -1]], I 4] (P (serS [1] [((t : Int) : Rat), -1] 4 [])) := by
    refine .series_numbers [1] [((t : Int) : Rat), -1] 4 ht0 (by decide) (by simp) (by decide) (fun z hz => ?_) (fun z hz => ?_) (by rw [hl1]; exact hl2)
    · rw [List.mem_singleton.mp hz]
      exact ⟨Nat.one_lt_two_pow (by decide), Nat.one_lt_two_pow (by decide)⟩
    · rcases List.mem_cons.mp hz with rfl | hz
      · exact hBt.mono (by decide)
      · rw [List.mem_singleton.mp hz]
        exact ⟨Nat.one_lt_two_pow (by decide), Nat.one_lt_two_pow (by decide)⟩
  rw [hl1] at hser2
  let base2 : St → St := fun ex => base (D1 "row" (V (rowS steps first 8)) :: D1 "pole" (P pole) :: D1 "two" (I t) :: ex)
  show XExec _ _ _ _ _ _ _ (base2 []) _ _
  refine x_liftAll (Exec.mono (K := fun o => o = .ret (.bool true)) ?_ fun o ho => by subst ho; exact ⟨trivial, rfl⟩)
  refine ex_cons (ex_set GL (n := 20) (m := 20) ?_ (by decide +kernel) (by decide +kernel) rfl)
  walk_at "mine ev"
  refine ⟨by simp, ?_⟩
  walk_at "mine ev"
  refine ⟨by simp, ?_⟩
  walk_at "mine ev"
  refine ⟨by simp, ?_⟩
  walk_at "mine ev"
  refine ⟨by simp, ?_⟩
  walk_at "mine ev"
  refine ⟨by simp, ?_⟩
  walk_at "mine ev"
  refine ⟨by simp, ?_⟩
  walk_at "mine ev"
  refine ⟨_, hser2, ?_⟩
  show Exec _ _ _ _ _ _ (base2 [D1 "told" (P l)]) _
  refine ex_cons (ex_return GL (n := 20) (m := 20) ?_ (by decide +kernel))
  have hpw : ∀ j : Nat, j ≤ 4 → ∀ Q : PyData → Prop, Q (I ((t : Int) ^ j)) → binP .Pow (I t) (I (j : Int)) Q := fun j hj Q hQ => by
    refine ⟨by (first | lia | omega), by (first | lia | omega), by rcases ht with rfl | rfl | rfl <;> decide, ?_⟩
    rw [Int.toNat_natCast]; exact hQ
  walk_at "mine ev"
  refine ⟨by simp, ?_⟩
  walk_at "mine ev"
  refine hpw 2 (by decide) _ ?_
  refine ⟨by simp, ?_⟩
  walk_at "mine ev"
  refine hpw 3 (by decide) _ ?_
  refine ⟨by simp, ?_⟩
  walk_at "mine ev"
  refine hpw 4 (by decide) _ ?_
  refine ⟨by simp, ?_⟩
  walk_at "mine ev"
  refine ⟨by simp, ?_⟩
  rw [hl3]
  refine cp_eqP ?_
  simp
end
structure ItX (prog : Program) (w : World) (A : Around) (W : Addr → Prop) (s : Shared) (target : Expr) (items : List PyData) (it : Value) (s₂ : Shared) : Prop where
  ex : ∃ (hb : Heap) (I : Addr) (fp wr : List Addr) (P Md : Nat → Value → Heap → Prop) (St : Nat → Heap → Prop), (∀ b ∈ fp, b ∈ wr) ∧ ItE prog w A W s target items it s₂ hb I fp wr P Md St
  keeps : Keeps s s₂
section
variable {prog : Program} {w : World} {A : Around} {E : Value → Shared → Prop} {s s₀ : Shared} {hT : Heap} {W : Addr → Prop} {k : Nat}
theorem itx_range {target : Expr} {r : Addr} {a b : Int} {t u v : Tok} (hA : AIn k A) (ht : isName target = true) (ks : Keeps s₀ s) (hr : IsRange s.heap r a b 1 t u v) (ha : -10000 ≤ a) (ha' : a ≤ 10000) (hb : b ≤ 10000) (hb' : -1000000 ≤ b) :
    wpAny (model prog w) A (pyIter (.ref r)) (fun it s₂ => ItX prog w A W s₀ target (rangeD a b) it s₂) E s := by
  have hsm : Builtin.Range.small a b 1 = true := small_one (by (first | lia | omega)) (by (first | lia | omega)) (by (first | lia | omega)) (by (first | lia | omega))
  have hsz : Builtin.Range.rangeSize a b 1 = ((b - a).toNat : Int) := by rw [rangeSize_one]; split <;> (first | lia | omega)
  refine wpAny_pyIter_range hr hsm ⟨?_, Keeps.trans ks (Keeps.push s _)⟩
  have T := Walks.range (prog := prog) (w := w) (A := A) hA.handled s.heap.objs.size a 1 (b - a).toNat
  have el : (rangeD a b).length = (b - a).toNat := by simp [rangeD]
  rw [← el] at T
  refine ⟨s.heap, s.heap.objs.size, _, _, _, _, _, (fun b hb => hb), Keeps.heap ks, fun b o q => Heap.get?_push_of_some _ q, ?_, rfl, KTurns.ofWalks T fun i v s Q E _ q => go_name ht q, T.self, ?_, fun b hb => ?_, fun b hb => ?_, fun i v h hi hp => ?_⟩
  · show _ ≤ (s.heap.push _).objs.size
    rw [Heap.size_push]; exact Nat.le_succ _
  · show IsRangeIter _ _ _ _ _
    rw [hsz, el]
    simpa using Heap.get?_push_size _ rfl
  · show b < (s.heap.push _).objs.size
    rw [Heap.size_push, List.mem_singleton.mp hb]; exact Nat.lt_succ_self _
  · rw [List.mem_singleton.mp hb]; exact Nat.le_refl _
  · obtain ⟨tk, rfl⟩ := hp
    rw [el] at hi
    refine ⟨.int (a + i), by simp [rangeD, hi], ?_⟩
    have e1 : a + (i : Int) * 1 = a + (i : Int) := by (first | lia | omega)
    cases target <;> first | exact ff ht | skip
    rw [e1]
    exact .int _ _
end
section
variable {prog : Program} {w : World} {hT : Heap} {mg mb : Str → Option Value} {k : Nat} {x : XC} {n : XS} {sc : Scope} {σ : St}
set_option maxHeartbeats 1600000 in
theorem xcomp_core {A : Around} {E : Value → Shared → Prop} {s : Shared} {env : Env} {B U₀ : Addr → Prop} {elt target iter : Expr} {scope : Scope} {pos : Pos} {pos0 : Pos} {u : Value → Sem Unit} {Q : Value → Shared → Prop} (Kd : PyData → Prop) {items : List PyData} (hE : EnvOk env) (hS : SOk hT B U₀ env σ (fun _ => none) s.heap) (hX : XOk x A hT B Non n s.heap) (hA : AIn k A)
    (hc : compOk env.scope scope (tgts target) = true) (hfold : ∀ x, foldedSetIterable iter env x = pure x)
    (helt : ∀ (W' : Addr → Prop) (cenv : Env) (i : Nat) (s' : Shared) (E' : Value → Shared → Prop), i < items.length → cenv.scope = relabS scope env.scope → EnvOk cenv → Up hT s'.heap → WOk W' hT s'.heap → XOk x A hT W' Non (n.1 + i, n.2) s'.heap →
      (∀ y v, (y, TV.val v) ∈ σ → scope.names.lookup y = some .free → Sees cenv s'.heap y v) →
      wpAny (model prog w) A (eval elt cenv) (XGood x A hT W' s' (fun d m => Kd d ∧ m = (n.1 + (i + 1), n.2))) E' s')
    (hfin : ∀ (D C : Addr) (h : Heap) (tk : Nat) (ys : List PyData) (m : Str → Option Value), ys.length = items.length → (∀ d ∈ ys, Kd d) → h.Ns C m → s.heap.get? C = none → ¬ B C → KeepX x Non s { s with heap := h, toks := tk } → XOk x A hT (fun a => B a ∨ a = C) Non (n.1 + items.length, n.2) h → Rd (PW (fun a => B a ∨ a = C) h) (.ref D) (.list ys) →
      wpAny (model prog w) A (u (.ref D)) (fun _ s'' => ∃ m, s''.heap.Ns C m ∧ ∀ h', Heap.SameBut C s''.heap h' → Q .none { s'' with heap := h' }) E { s with heap := h, toks := tk })
    (hlen : items.length ≤ 10000) (hmt : ∀ d ∈ items, bindP target d ([] : Sto) (fun _ => True))
    (hit : wpAny (model prog w) A (eval iter env) (fun xv s₁ => wpAny (model prog w) A (pyIter xv) (fun it s₂ => ItX prog w A B s target items it s₂) E s₁) E s) :
    wpAny (model prog w) A (comprehension (.ListComp elt [⟨target, iter, [], 0⟩] scope pos) scope env pos0 (newList []) false (eval iter env) (some u)) Q E s := by
  refine genP fun gP hgP => ?_
  obtain ⟨c1, c2, c3, c4, c5, c6, c7, c8, c9⟩ := compOk_parts hc
  refine hgP ?_
  clear hgP
  have hfree : ∀ n, (n, NameKind.free) ∈ scope.names → ∃ c, env.cells.lookup n = some c := fun n hn => hE.cover n (c6 n hn)
  have hclos := closure_is (scope := scope) (env := env) hfree
  refine wpAny_comprehension_free (use := some u) rfl hfold hclos c1 (fun x hx hl => ?_) (wpAny_mono hit (fun xv s₁ h₁ => wpAny_mono h₁ (fun it s₂ h₂ => ?_) fun _ _ e => e) fun _ _ e => e)
  · obtain ⟨n, kd⟩ := x
    have : kd = .local := hl
    subst this
    exact mem_lookup_nodup c2 hx
  refine genP fun gP hgP => ?_
  obtain ⟨⟨hb, I, fp, wr, P, Md, St, hfw, kb, kb2, hbs, rfl, T, self, st0, hfp, hwr, hPi⟩, ks⟩ := h₂
  refine hgP ?_
  clear hgP
  refine genP fun gP hgP => ?_
  obtain ⟨g2, tk2, rfl, kk⟩ := id ks
  refine hgP ?_
  clear hgP
  refine wpAny_newObj_type (hd := by size_fits) ?_
  refine newComp (s := { s with heap := g2.push { cls := .type "list", data := .seq ([] : List Value).toArray }, toks := tk2 }) fun own h₃ hown hns hcell hap hk₃ => ?_
  have hD : ({ s with heap := g2, toks := tk2 } : Shared).heap.objs.size = g2.objs.size := rfl
  rw [hD]
  dsimp only at kb2 hbs st0 hfp
  have hpl₃ : h₃.PlainList g2.objs.size #[] := ⟨0, hk₃ _ _ (Heap.get?_push_size _ rfl)⟩
  have k23 : ∀ b o, g2.get? b = some o → h₃.get? b = some o := fun b o e => hk₃ b o (Heap.get?_push_of_some _ e)
  generalize hDe : g2.objs.size = D at *
  have hCe : ({ s with heap := g2.push { cls := .type "list", data := .seq ([] : List Value).toArray }, toks := tk2 } : Shared).heap.objs.size = D + 1 := by
    show (g2.push _).objs.size = _
    rw [Heap.size_push, hDe]
  rw [hCe] at hns hown hcell ⊢
  dsimp only at hns hk₃ hcell ⊢
  let U : Addr → Prop := cU D own
  let Nw : Addr → Prop := cN D own wr
  let W' : Addr → Prop := fun a => B a ∨ Nw a
  let cenv : Env := cenvOf env scope (D + 1) own
  have CS : CompSet env scope target D own hb wr := comp_set hE hc hown (fun n c q => (hcell n c q).2) hap hbs hfp hwr T.sub fun x c e => by
    obtain ⟨v, o, ho, _⟩ := hS.cells x c e
    exact Nat.lt_succ_of_lt (hDe ▸ Heap.lt_size (kk c o ho))
  obtain ⟨ownHigh, wrLow, high, offNw, offU_D, offU_wr, notWr_D, notWr_U, hEc, kind0, cellsC, ownKind, placeT⟩ := CS
  have offS : ∀ b o, s.heap.get? b = some o → ¬ Nw b := fun b o e => offNw b o (kb b o e)
  have FrS : ∀ a, x.Fr a → ¬ Nw a := fun a f => by
    refine genP fun gP hgP => ?_
    obtain ⟨o, _, _, e, _⟩ := hX.dictF a f id
    refine hgP ?_
    clear hgP
    exact offS a o e
  have pS : ¬ Nw x.p := by
    refine genP fun gP hgP => ?_
    obtain ⟨_, _, ⟨_, e⟩, _⟩ := hX.pool
    refine hgP ?_
    clear hgP
    exact offS _ _ e
  have PS : ¬ Nw x.P := by
    obtain ⟨_, e, _⟩ := hX.tab
    exact offS _ _ e
  have stepK : ∀ {h h' : Heap} {tk tk' : Nat}, (∀ b o, ¬ Nw b → h.get? b = some o → h'.get? b = some o) → KeepX x Non s { s with heap := h, toks := tk } → KeepX x Non s { s with heap := h', toks := tk' } := fun {h h' tk tk'} hk a => by
    refine ⟨⟨h', tk', rfl⟩, fun b o z f p P e => hk b o (offS b o e) (a.keep b o z f p P e), fun b o z f e => ?_, fun ps e => ?_, fun b o e => ?_⟩
    · obtain ⟨sl, e'⟩ := a.slots b o z f e
      exact ⟨sl, hk b _ (offS b o e) e'⟩
    · obtain ⟨ps', e'⟩ := a.tab ps e
      exact ⟨ps', hk _ _ PS e'⟩
    · obtain ⟨o', e'⟩ := a.live b o e
      exact ⟨o', hk b _ (offS b o e) e'⟩
  have stepX : ∀ {h h' : Heap} {m : XS}, (∀ b o, ¬ Nw b → h.get? b = some o → h'.get? b = some o) → XOk x A hT W' Non m h → XOk x A hT W' Non m h' := fun {h h' m} hk a => by
    refine ⟨a.subF, fun b f u => ?_, a.bp, a.bP, a.frames, ?_, ?_⟩
    · refine genP fun gP hgP => ?_
      obtain ⟨o, es, j, e, d⟩ := a.dictF b f u
      refine hgP ?_
      clear hgP
      exact ⟨o, es, j, hk b o (FrS b f) e, d⟩
    · refine genP fun gP hgP => ?_
      obtain ⟨q, t, ⟨j, e⟩, r⟩ := a.pool
      refine hgP ?_
      clear hgP
      exact ⟨q, t, ⟨j, hk _ _ pS e⟩, r.mono fun b o z => ⟨hk b o (fun u => z.2 (.inr u)) z.1, z.2⟩⟩
    · obtain ⟨ps, e, f⟩ := a.tab
      exact ⟨ps, hk _ _ PS e, f⟩
  have kS3 : ∀ b o, s.heap.get? b = some o → h₃.get? b = some o := fun b o e => k23 b o (kb2 b o (kb b o e))
  have KX3 : ∀ tk : Nat, KeepX x Non s { s with heap := h₃, toks := tk } := fun tk => .ofKeeps ⟨h₃, tk, rfl, kS3⟩
  have XX3 : XOk x A hT W' Non (n.1 + 0, n.2) h₃ := by
    refine ⟨fun a f => .inl (hX.subF a f), fun b f u => ?_, .inl hX.bp, .inl hX.bP, hX.frames, ?_, ?_⟩
    · refine genP fun gP hgP => ?_
      obtain ⟨o, es, j, e, d⟩ := hX.dictF b f u
      refine hgP ?_
      clear hgP
      exact ⟨o, es, j, kS3 b o e, d⟩
    · refine genP fun gP hgP => ?_
      obtain ⟨q, t, ⟨j, e⟩, r⟩ := hX.pool
      refine hgP ?_
      clear hgP
      exact ⟨q, t, ⟨j, kS3 _ _ e⟩, r.mono fun b o z => ⟨kS3 b o z.1, fun u => u.elim z.2 (offS b o z.1)⟩⟩
    · obtain ⟨ps, e, f⟩ := hX.tab
      exact ⟨ps, kS3 _ _ e, f⟩
  have upW : ∀ {h : Heap} {tk : Nat}, KeepX x Non s { s with heap := h, toks := tk } → Up hT h := fun {h tk} a => KeepX.up a hX hS.wB hS.up
  let X : Nat → Heap → Tok → List PyData → Prop := fun i h tk ys => (∀ d ∈ ys, Kd d) ∧ KeepX x Non s { s with heap := h, toks := tk } ∧ XOk x A hT W' Non (n.1 + i, n.2) h
  let J : Nat → Shared → Prop := fun kk' s' => ∃ i h tk vs ys, CJ s W' items.length St D cenv own X kk' s' i h tk vs ys
  have loop : ∀ tk, codeAny (model prog w) A (.compLoop (.ListComp elt [⟨target, iter, [], 0⟩] scope pos) 0 (.ref I) (.ref D) cenv) (compPost (model prog w) A E (some u) Q (.ref D) (D + 1)) { s with heap := h₃, toks := tk } := by
    intro tk
    refine compLoop_any J (fun kk' s' hJ E' => ?_) (items.length + 1) ⟨0, h₃, tk, #[], [], rfl, rfl, Nat.zero_le _, ?_, hpl₃, .nil, rfl, ⟨fun _ q => (by cases q), KX3 tk, XX3⟩, .inl ⟨kind0, rfl, _, hns⟩,
      fun n c e => .inr ⟨ownKind n c e, cellsC n c e, _, (hcell n c (mem_of_lookup e)).1⟩⟩
    · refine genP fun gP hgP => ?_
      obtain ⟨i, h, tk, vs, ys, rfl, rfl, hi, st, hpl, hr, hyl, ⟨hyk, hKX, hXX⟩, h7, h8⟩ := hJ
      refine hgP ?_
      clear hgP
      have plKeep : ∀ {h₁ : Heap}, (∀ b o, b ∉ wr → h.get? b = some o → h₁.get? b = some o) → Place cenv h₁ (".0" : Str) (D + 1) ∧ (∀ n c, own.lookup n = some c → Place cenv h₁ n c) := fun {h₁} hk₁ => by
        have one : ∀ {x a}, U a → Place cenv h x a → Place cenv h₁ x a := fun {x a} ua p => by
          have na := notWr_U a ua
          rcases p with ⟨q, e, m, n⟩ | ⟨q, e, v, o, ho, hd⟩
          · exact .inl ⟨q, e, m, n.at' fun o e => hk₁ a o na e⟩
          · exact .inr ⟨q, e, v, o, hk₁ a o na ho, hd⟩
        exact ⟨one (.inl rfl) h7, fun n c e => one (.inr ⟨n, e⟩) (h8 n c e)⟩
      by_cases hlt : i < items.length
      · refine T.item i _ _ _ hlt st fun v h₁ tk₁ hMd hk₁ => ?_
        dsimp only at hk₁ ⊢
        refine T.go i v _ _ _ hMd fun h₂ hP st₂ hk₂ => ?_
        dsimp only at hk₂ hP ⊢
        have hk12 : ∀ b o, b ∉ wr → h.get? b = some o → h₂.get? b = some o := fun b o hb' e => hk₂ b o hb' (hk₁ b o hb' e)
        obtain ⟨d, hd, hB⟩ := hPi i v h₂ hlt hP
        obtain ⟨p7, p8⟩ := plKeep hk12
        refine assign_sound (U := U) (P := PW B hb) (ρ := []) hA.handled hEc c3 (placeT p7 p8) hB (hmt d (List.mem_of_getElem? hd)) fun h₄ tk₄ new bd _ => ?_
        have k14 : ∀ b o, ¬ Nw b → h.get? b = some o → h₄.get? b = some o := fun b o hb' e => bd.keep b o (fun q => hb' (.inr (.inr q))) (hk12 b o (fun q => hb' (.inr (.inl q))) e)
        have hKX4 : KeepX x Non s { s with heap := h₄, toks := tk₄ } := stepK k14 hKX
        have hXX4 := stepX k14 hXX
        have plD4 : h₄.PlainList D vs := by
          obtain ⟨n, e⟩ := hpl
          exact ⟨n, bd.keep D _ offU_D (hk12 D _ notWr_D e)⟩
        have st4 : St (i + 1) h₄ := T.frame _ _ _ st₂ fun b hbf o e => bd.keep b o (by
          rintro (q | ⟨n, q⟩)
          · have := hfp b hbf; rw [q] at this; exact absurd (Nat.lt_of_succ_lt this) (Nat.lt_irrefl _)
          · have h1 := hfp b hbf; have h2 := ownHigh n b q
            exact absurd (Nat.lt_of_lt_of_le h1 (Nat.le_trans (Nat.le_succ_of_le (Nat.le_succ _)) h2)) (Nat.lt_irrefl _)) e
        have p47 := bd.place _ _ p7
        have p48 : ∀ n c, own.lookup n = some c → Place cenv h₄ n c := fun n c e => bd.place _ _ (p8 n c e)
        have hW4 : WOk W' hT h₄ := by
          refine ⟨fun a q => ?_, fun a q => ?_⟩
          · rcases q with q | q
            · exact hS.wB.old a q
            · cases e : hT.get? a with
              | none => rfl
              | some o => exact absurd q (offS a o (hS.up a o e))
          · rcases q with q | rfl | q | rfl | ⟨n, q⟩
            · exact (hKX4.wok hS.wB).has a q
            · obtain ⟨n, e⟩ := plD4
              exact ⟨_, _, Nat.le_refl _, e⟩
            · obtain ⟨n, e⟩ := plD4
              exact ⟨_, _, Nat.le_of_lt (wrLow a q), e⟩
            · obtain ⟨o, ho, _⟩ := p47.nt
              exact ⟨_, o, Nat.le_refl _, ho⟩
            · obtain ⟨o, ho, _⟩ := (p48 n a q).nt
              exact ⟨_, o, Nat.le_refl _, ho⟩
        have sees4 : ∀ y v, (y, TV.val v) ∈ σ → scope.names.lookup y = some .free → Sees cenv h₄ y v := fun y v hm e4 => by
          have q1 := hKX4.sees hX (hS.vv y v hm).2
          have hxm : (y, NameKind.free) ∈ scope.names := mem_of_lookup e4
          obtain ⟨c, hc'⟩ := Option.isSome_iff_exists.mp (clo_some (cells := env.cells) (x := y) (names := scope.names) (acc := []) (.inl hxm))
          have hec := (clo_lookup hfree hc').resolve_right (by simp)
          have hno : own.lookup y = none := by
            cases q : own.lookup y with
            | none => rfl
            | some c' =>
              have := mem_of_lookup q
              rw [hown] at this
              have := mem_lookup_nodup c2 (cellsFrom_mem _ _ _ _ this)
              rw [e4] at this; cases this
          refine .inr ⟨?_, c, ?_, ?_⟩
          · rw [show cenv.kindOf y = _ from cenv_kind env scope (D + 1) own y, e4]
            simp only [Option.map_some]
            split
            · exact .inl rfl
            · exact .inr rfl
          · show (own ++ cloOf env.cells scope.names []).lookup y = some c
            rw [List.lookup_append, hno, hc']; rfl
          · rcases q1 with ⟨k1, _⟩ | ⟨_, c2', k2, hcell'⟩
            · rcases c6 y hxm with q | q
              · rw [show env.kindOf y = env.scope.names.lookup y from rfl, q] at k1; cases k1
              · rw [show env.kindOf y = env.scope.names.lookup y from rfl, q] at k1; cases k1
            · rw [hec] at k2
              cases k2
              exact hcell'
        refine wpAny_mono (helt W' cenv i _ E' hlt rfl hEc (upW hKX4) hW4 hXX4 sees4) (fun y s₅ hy => ?_) fun _ _ e => e
        refine genP fun gP hgP => ?_
        obtain ⟨dy, m5, ⟨hKy, rfl⟩, hRy, hXX5, hK5⟩ := hy
        refine hgP ?_
        clear hgP
        obtain ⟨h₅, tk₅, rfl⟩ := hK5.same
        have k45 : ∀ b o, Nw b → h₄.get? b = some o → h₅.get? b = some o := fun b o q e => hK5.keep b o id (fun f => FrS b f q) (fun e => pS (e ▸ q)) (fun e => PS (e ▸ q)) e
        have pw45 := hK5.pw (fun _ => False.elim) hXX4
        dsimp only at hRy hXX5 pw45 ⊢
        have hKX5 : KeepX x Non s { s with heap := h₅, toks := tk₅ } := hKX4.trans hK5
        have plD5 : h₅.PlainList D vs := plD4.at fun o e => k45 D o (.inl rfl) e
        have hvs : vs.size = i := by
          have := hr.length
          rw [Array.length_toList] at this
          (first | lia | omega)
        refine wpAny_list_append_plain plD5 (fun h₆ pl6 hs6 => ?_) (by rw [sizeLine_eq]; (first | lia | omega))
        have k56 : ∀ b o, b ≠ D → h₅.get? b = some o → h₆.get? b = some o := fun b o hb' e => hs6.extBut b o hb' e
        have kN : ∀ b o, Nw b → b ≠ D → h₄.get? b = some o → h₆.get? b = some o := fun b o q hd e => k56 b o hd (k45 b o q e)
        have k56n : ∀ b o, ¬ Nw b → h₅.get? b = some o → h₆.get? b = some o := fun b o q e => k56 b o (fun z => q (.inl z)) e
        have fpN : ∀ b ∈ fp, ∀ o, h₄.get? b = some o → h₆.get? b = some o := fun b hbf o e => by
          have hbD : b ≠ D := fun q => by have := hfp b hbf; rw [q] at this; exact Nat.lt_irrefl _ this
          exact kN b o (.inr (.inl (hfw b hbf))) hbD e
        refine ⟨items.length + 1 - (i + 1), by (first | lia | omega), i + 1, h₆, tk₅, vs.push y, ys ++ [dy], rfl, rfl, hlt, ?_, pl6, ?_, by simp [hyl], ⟨?_, stepK k56n hKX5, stepX k56n hXX5⟩, ?_, ?_⟩
        · exact T.frame _ _ _ st4 fun b hbf o e => fpN b hbf o e
        · rw [Array.toList_push]
          refine RdAll.append (hr.mono fun a o z => ?_) (.cons (hRy.mono fun a o x => ⟨hs6.extBut a o (fun q => x.2 (.inr (.inl q))) x.1, x.2⟩) .nil)
          obtain ⟨e5, n5⟩ := pw45 a o ⟨k14 a o (fun q => z.2 (.inr q)) z.1, z.2⟩
          exact ⟨k56 a o (fun q => n5 (.inr (.inl q))) e5, n5⟩
        · intro d hd
          rcases List.mem_append.mp hd with hd | hd
          · exact hyk d hd
          · rw [List.mem_singleton.mp hd]; exact hKy
        · have off : D + 1 ≠ D := Nat.succ_ne_self D
          rcases p47 with ⟨q, e, m, n⟩ | ⟨q, e, v, o, ho, hd'⟩
          · exact .inl ⟨q, e, m, n.at' fun o e => kN _ o (.inr (.inr (.inl rfl))) off e⟩
          · exact .inr ⟨q, e, v, o, kN _ o (.inr (.inr (.inl rfl))) off ho, hd'⟩
        · intro n c e
          have off : c ≠ D := fun q => offU_D (.inr ⟨n, q ▸ e⟩)
          rcases p48 n c e with ⟨q, e', m, nn⟩ | ⟨q, e', v, o, ho, hd'⟩
          · exact .inl ⟨q, e', m, nn.at' fun o e' => kN _ o (.inr (.inr (.inr ⟨n, e⟩))) off e'⟩
          · exact .inr ⟨q, e', v, o, kN _ o (.inr (.inr (.inr ⟨n, e⟩))) off ho, hd'⟩
      · have hin : i = items.length := by (first | lia | omega)
        subst hin
        refine T.done _ _ _ st fun h₁ tk₁ hk₁ => ?_
        dsimp only at hk₁ ⊢
        obtain ⟨p7, p8⟩ := plKeep hk₁
        have hn7 : ∃ m, h₁.Ns (D + 1) m := by
          rcases p7 with ⟨_, _, m, n⟩ | ⟨k1, _⟩
          · exact ⟨m, n⟩
          · rw [kind0] at k1; cases k1
        obtain ⟨m, n7⟩ := hn7
        have kAll : ∀ b o, ¬ Nw b → h.get? b = some o → h₁.get? b = some o := fun b o hb' e => hk₁ b o (fun q => hb' (.inr (.inl q))) e
        have hDW : ¬ B D := fun q => by
          refine genP fun gP hgP => ?_
          obtain ⟨b, o, hab, ho⟩ := hS.wB.has D q
          refine hgP ?_
          clear hgP
          exact absurd (Nat.lt_of_le_of_lt hab (hDe ▸ Heap.lt_size (kk b o ho))) (Nat.lt_irrefl _)
        have hCW : ¬ B (D + 1) := fun q => by
          refine genP fun gP hgP => ?_
          obtain ⟨b, o, hab, ho⟩ := hS.wB.has _ q
          refine hgP ?_
          clear hgP
          exact absurd (Nat.lt_of_lt_of_le (Nat.lt_of_lt_of_le (Nat.lt_succ_self D) hab) (Nat.le_of_lt (hDe ▸ Heap.lt_size (kk b o ho)))) (Nat.lt_irrefl _)
        have hCs : s.heap.get? (D + 1) = none := by
          cases q : s.heap.get? (D + 1) with
          | none => rfl
          | some o => exact absurd (.inr (.inr (.inl rfl))) (offS _ o q)
        obtain ⟨nn, hl⟩ := hpl
        have hl' : h₁.get? D = some { cls := .type "list", data := .seq vs nn } := hk₁ D _ notWr_D hl
        have hX' := stepX kAll hXX
        have sub : ∀ a, (B a ∨ a = D + 1) → W' a := fun a q => q.elim .inl fun q => .inr (.inr (.inr (.inl q)))
        refine hfin D (D + 1) h₁ tk₁ ys m hyl hyk n7 hCs hCW (stepK kAll hKX) ⟨fun a f => .inl (hX.subF a f), hX'.dictF, .inl hX.bp, .inl hX.bP, hX.frames, ?_, hX'.tab⟩ (Rd.list (o := { cls := .type "list", data := .seq vs nn }) ⟨hl', fun q => q.elim hDW (Nat.ne_of_lt (Nat.lt_succ_self D))⟩ rfl rfl (hr.mono fun a o x => ⟨kAll a o (fun q => x.2 (.inr q)) x.1, fun q => x.2 (sub a q)⟩))
        refine genP fun gP hgP => ?_
        obtain ⟨q, t, e, r⟩ := hX'.pool
        refine hgP ?_
        clear hgP
        exact ⟨q, t, e, r.mono fun b o z => ⟨z.1, fun u => z.2 (sub b u)⟩⟩
    · exact T.frame 0 _ _ st0 fun b hbf o e => k23 b o e
  refine codeAny_compStart_list (loop tk2) (self 0 _ _ _ (T.frame 0 _ _ st0 fun b hbf o e => k23 b o e) (loop tk2))
theorem SOk.keepXN {A : Around} {B U : Addr → Prop} {env : Env} {s s' : Shared} (S : SOk hT B U env σ (fun _ => none) s.heap) (a : XOk x A hT B Non n s.heap) (k : KeepX x Non s s') {N : Addr → Prop} (hN : ∀ b, N b → s.heap.get? b = none) (hl : ∀ b, N b → ∃ c o, b ≤ c ∧ s'.heap.get? c = some o) :
    SOk hT (fun z => B z ∨ N z) U env σ (fun _ => none) s'.heap := by
  have hw : WOk B hT s.heap := S.wB
  have hw' : WOk B hT s'.heap := k.wok hw
  have pw : ∀ b o, PW B s.heap b o → PW (fun z => B z ∨ N z) s'.heap b o := fun b o q => ⟨(k.pw (fun _ => False.elim) a b o q).1, fun z => z.elim q.2 fun z => by have e := q.1; rw [hN b z] at e; cases e⟩
  have s1 : ∀ z sv, Sees1 env (BO B fun _ => none) s.heap z sv → Sees1 env (BO (fun z => B z ∨ N z) fun _ => none) s'.heap z sv := fun z sv q =>
    let ⟨n, u, c, b⟩ := q; ⟨n, u, k.sees a c, b.mono (by rw [BO_none, BO_none]; exact pw)⟩
  refine ⟨k.up a hw S.up, ?_, fun a q => .inl (S.sub a q), fun z hz => ?_, fun z c e => ?_, fun _ _ e => (by cases e), S.inj, S.keys, fun z v m => s1 z _ (S.vd z v m), fun z c d m => s1 z _ (S.vr z c d m), fun z xs m => ?_, S.ow, fun z v m => let ⟨n, q⟩ := S.vv z v m; ⟨n, k.sees a q⟩⟩
  · rw [BO_none]
    refine ⟨fun z q => q.elim (hw'.old z) fun q => ?_, fun z q => q.elim (hw'.has z) (hl z)⟩
    cases e : hT.get? z with
    | none => rfl
    | some o => have e2 := hN z q; rw [S.up z o e] at e2; cases e2
  · obtain ⟨c, p, uc⟩ := S.frame z hz
    refine ⟨c, ?_, uc⟩
    rcases p with ⟨k1, e, m, q⟩ | ⟨k1, e, v, q⟩
    · exact .inl ⟨k1, e, m, k.ns a id q⟩
    · exact .inr ⟨k1, e, v, k.cell a id q⟩
  · obtain ⟨v, q⟩ := S.cells z c e
    exact ⟨v, k.cell a id q⟩
  · refine genP fun gP hgP => ?_
    obtain ⟨_, b, vs, e1, _⟩ := S.vo z xs m
    refine hgP ?_
    clear hgP
    cases e1
theorem SOk.dropN {B U N : Addr → Prop} {env : Env} {h h' : Heap} (S : SOk hT (fun z => B z ∨ N z) U env σ (fun _ => none) h) (hk : ∀ b o, ¬ N b → h.get? b = some o → h'.get? b = some o) (hU : ∀ a, U a → B a ∧ ¬ N a) (cel : ∀ x c, env.cells.lookup x = some c → ¬ N c) (lv : ∀ a, B a → ∃ b o, a ≤ b ∧ h'.get? b = some o) :
    SOk hT B U env σ (fun _ => none) h' := by
  have hw : WOk (fun z => B z ∨ N z) hT h := S.wB
  have loc : ∀ x, env.kindOf x = some .local → ¬ N env.locals := fun x e => by
    obtain ⟨c, p, uc⟩ := S.frame x (.inl e)
    rcases p with ⟨_, e1, _⟩ | ⟨k1, _⟩
    · rw [← e1]; exact (hU c uc).2
    · rw [e] at k1; cases k1
  have sk : ∀ {y v}, Sees env h y v → Sees env h' y v := fun {y v} q => by
    rcases q with ⟨k1, m, b, c⟩ | ⟨k1, c, b, d⟩
    · exact .inl ⟨k1, m, b.at' fun o e => hk _ o (loc y k1) e, c⟩
    · obtain ⟨o, e, d⟩ := d
      exact .inr ⟨k1, c, b, o, hk c o (cel y c b) e, d⟩
  have pw : ∀ b o, PW (fun z => B z ∨ N z) h b o → PW B h' b o := fun b o q => ⟨hk b o (fun z => q.2 (.inr z)) q.1, fun z => q.2 (.inl z)⟩
  have s1 : ∀ z sv, Sees1 env (BO (fun z => B z ∨ N z) fun _ => none) h z sv → Sees1 env (BO B fun _ => none) h' z sv := fun z sv q =>
    let ⟨n, u, c, b⟩ := q; ⟨n, u, sk c, b.mono (by rw [BO_none, BO_none]; exact pw)⟩
  refine ⟨fun b o e => hk b o (fun q => by have := hw.old b (.inr q); rw [e] at this; cases this) (S.up b o e), ?_, fun a q => (hU a q).1, fun z hz => ?_, fun z c e => ?_, fun _ _ e => (by cases e), S.inj, S.keys, fun z v m => s1 z _ (S.vd z v m), fun z c d m => s1 z _ (S.vr z c d m), fun z xs m => ?_, S.ow, fun z v m => let ⟨n, q⟩ := S.vv z v m; ⟨n, sk q⟩⟩
  · rw [BO_none]
    exact ⟨fun z q => hw.old z (.inl q), lv⟩
  · obtain ⟨c, p, uc⟩ := S.frame z hz
    refine ⟨c, ?_, uc⟩
    rcases p with ⟨k1, e, m, q⟩ | ⟨k1, e, v, o, ho, hd⟩
    · exact .inl ⟨k1, e, m, q.at' fun o e' => hk _ o (hU c uc).2 e'⟩
    · exact .inr ⟨k1, e, v, o, hk _ o (hU c uc).2 ho, hd⟩
  · refine genP fun gP hgP => ?_
    obtain ⟨v, o, ho, hd⟩ := S.cells z c e
    refine hgP ?_
    clear hgP
    exact ⟨v, o, hk c o (cel z c e) ho, hd⟩
  · refine genP fun gP hgP => ?_
    obtain ⟨_, b, vs, e1, _⟩ := S.vo z xs m
    refine hgP ?_
    clear hgP
    cases e1
end
section
variable {prog : Program} {w : World} {hT : Heap} {mg mb : Str → Option Value} {k : Nat} {x : XC} {n : XS} {sc : Scope} {σ : St}
theorem x_comp {F : Tab} {G : Str → Option PyData} {gs : List Str × List Str} (GL : Glob prog w hT mg mb k F G gs) {elt : Expr} {y t z : Str} {py pt p1 p2 p3 cpos pos : Pos} {scope : Scope} {K : Out → XS → Prop} (Kd : PyData → Prop) {N : Nat}
    (hz : (full σ).get z = some (.d (I N))) (hN : N ≤ 100) (hok : okE gs 20 sc (.Name z p2) = true) (hr : sc.names.lookup ("range" : Str) = some .globalImplicit)
    (hsw : ∀ env : Env, env.scope = sc → swapsWith (.ListComp elt [⟨.Name t pt, .Call (.Name "range" p1) [.Name z p2] [] p3, [], 0⟩] scope cpos) (some (.Name y py)) pos.line env = pure true)
    (hc : compOk sc scope [t] = true) (hy : isVar sc y = true)
    (helt : ∀ (W' : Addr → Prop) (cenv : Env) (i : Nat) (A : Around) (s' : Shared) (E' : Value → Shared → Prop), i < N → AIn k A → cenv.scope = relabS scope sc → EnvOk cenv → Up hT s'.heap → WOk W' hT s'.heap → XOk x A hT W' Non (n.1 + i, n.2) s'.heap →
      (∀ y v, (y, TV.val v) ∈ σ → scope.names.lookup y = some .free → Sees cenv s'.heap y v) →
      wpAny (model prog w) A (eval elt cenv) (XGood x A hT W' s' (fun d m => Kd d ∧ m = (n.1 + (i + 1), n.2))) E' s')
    (hK : ∀ ds : List PyData, ds.length = N → (∀ d ∈ ds, Kd d) → K (.next (σ.set y (.d (.list ds)))) (n.1 + N, n.2)) :
    XEx1 prog w hT k sc x (.Assign [.Name y py] (.ListComp elt [⟨.Name t pt, .Call (.Name "range" p1) [.Name z p2] [] p3, [], 0⟩] scope cpos) pos) σ n K :=
  fun env e1 e2 A s B U E hA hS hX hF => by
    subst e1
    rw [exec_Assign_Name_used _ _ _ _ (hsw env rfl)]
    refine wpAny_bind (wpAny_standAt (wpAny_bind ?_))
    show wpAny _ A (do let _ ← comprehension (.ListComp elt [⟨.Name t pt, .Call (.Name "range" p1) [.Name z p2] [] p3, [], 0⟩] scope cpos) scope env _ (newList []) false (eval (.Call (.Name "range" p1) [.Name z p2] [] p3) env) (some (assign (.Name y py) env))) _ _ s
    have items_len : (rangeD 0 (N : Int)).length = N := by rw [rangeD_n]; simp
    refine wpAny_bind (wpAny_mono (xcomp_core (Q := fun _ s' => XAfter x A hT B U env K s .next s') Kd (items := rangeD 0 (N : Int)) e2 hS hX hA hc (fun _ => rfl) (fun W' cenv i s' E' hi => by rw [items_len] at hi; exact helt W' cenv i A s' E' hi hA) ?_ (by rw [items_len]; (first | lia | omega)) (fun d hd => trivial) ?_)
      (fun _ s' hq => wpAny_pure (wpAny_pure hq)) fun _ _ e => e)
    · rw [items_len]
      intro D C h tk ys m hl hk hns hCs hCB hKX hXX rd
      have hCl : ∀ b, b = C → ∃ c o, b ≤ c ∧ h.get? c = some o := fun b hb => by
        subst hb
        refine genP fun gP hgP => ?_
        obtain ⟨o, _, _, ho, _⟩ := hns
        refine hgP ?_
        clear hgP
        exact ⟨b, o, Nat.le_refl _, ho⟩
      have hS1 : SOk hT (fun z => B z ∨ z = C) U env σ (fun _ => none) h := hS.keepXN (s' := { s with heap := h, toks := tk }) hX hKX (N := fun a => a = C) (fun b hb => hb ▸ hCs) hCl
      have hUC : ∀ a, U a → B a ∧ ¬ a = C := fun a u => ⟨hS.sub a u, fun e => hCB (e ▸ hS.sub a u)⟩
      have hCF : ¬ x.Fr C := fun f => by obtain ⟨o, _, _, e, _⟩ := hX.dictF C f id; rw [hCs] at e; cases e
      have hCp : C ≠ x.p := fun q => by obtain ⟨_, _, ⟨_, e⟩, _⟩ := hX.pool; rw [← q, hCs] at e; cases e
      have hCP : C ≠ x.P := fun q => by obtain ⟨_, e, _⟩ := hX.tab; rw [← q, hCs] at e; cases e
      refine wpAny_assign_Name (wpAny_mono (xstore (K := K) (tv := .d (.list ys)) (s := { s with heap := h, toks := tk }) e2 hS1 hXX hF hy rd (hK ys hl hk)) (fun _ s'' z => ?_) fun _ _ e => e)
      refine genP fun gP hgP => ?_
      obtain ⟨σ', n', z1, z2, z3, z4⟩ := z
      refine hgP ?_
      clear hgP
      refine ⟨m, hns.at' fun o e => z4.keep C o (fun u => (hUC C u).2 rfl) hCF hCp hCP e, fun h' hsb => ?_⟩
      have kN : ∀ b o, ¬ b = C → s''.heap.get? b = some o → h'.get? b = some o := fun b o hb e => hsb.extBut b o hb e
      have lv : ∀ b o, s.heap.get? b = some o → ∃ o', h'.get? b = some o' := fun b o e => by
        obtain ⟨o1, e1⟩ := hKX.live b o e
        obtain ⟨o2, e2⟩ := z4.live b o1 e1
        exact ⟨o2, kN b o2 (fun q => by rw [q, hCs] at e; cases e) e2⟩
      have hS2 : SOk hT B U env σ' (fun _ => none) h' := z2.dropN (N := fun a => a = C) kN hUC (fun y c e q => by obtain ⟨v, o, ho, _⟩ := hS.cells y c e; rw [q, hCs] at ho; cases ho) (fun a q => by
        refine genP fun gP hgP => ?_
        obtain ⟨b, o, hb, ho⟩ := hS.wB.has a q
        refine hgP ?_
        clear hgP
        obtain ⟨o', ho'⟩ := lv b o ho
        exact ⟨b, o', hb, ho'⟩)
      refine ⟨σ', n', z1, hS2, ⟨hX.subF, fun b f _ => ?_, hX.bp, hX.bP, hX.frames, ?_, ?_⟩, ?_⟩
      · refine genP fun gP hgP => ?_
        obtain ⟨o, es, j, e, d⟩ := z3.dictF b f id
        refine hgP ?_
        clear hgP
        exact ⟨o, es, j, kN b o (fun q => hCF (q ▸ f)) e, d⟩
      · refine genP fun gP hgP => ?_
        obtain ⟨q, t, ⟨j, e⟩, r⟩ := z3.pool
        refine hgP ?_
        clear hgP
        exact ⟨q, t, ⟨j, kN _ _ (Ne.symm hCp) e⟩, r.mono fun b o z => ⟨kN b o (fun u => z.2 (.inr u)) z.1, fun u => z.2 (.inl u)⟩⟩
      · obtain ⟨ps, e, f⟩ := z3.tab
        exact ⟨ps, kN _ _ (Ne.symm hCP) e, f⟩
      · have k1 : KeepX x U s s'' := KeepX.trans hKX.wide z4
        refine genP fun gP hgP => ?_
        obtain ⟨⟨g, t', rfl⟩, k2, k3, k4, k5⟩ := k1
        refine hgP ?_
        clear hgP
        refine ⟨⟨h', t', rfl⟩, fun b o u f p P e => kN b o (fun q => by rw [q, hCs] at e; cases e) (k2 b o u f p P e), fun b o u f e => ?_, fun ps e => ?_, lv⟩
        · obtain ⟨sl, e'⟩ := k3 b o u f e
          exact ⟨sl, kN b _ (fun q => hCF (q ▸ f)) e'⟩
        · obtain ⟨ps', e'⟩ := k4 ps e
          exact ⟨ps', kN _ _ (Ne.symm hCP) e'⟩
    · refine call_go (K := fun ds => ds = [I N]) (m := 20) (n := 2) GL.cx (fun m es ρ env K A s W E => (sound_all GL 2).2.1 m es ρ env K A s W E) (es_cons (ee_name hz (es_nil rfl))) (by simpa using hok) e2 hA hS.full (by decide +kernel) hr GL.range (.inr (.inl ⟨_, rfl⟩)) fun vs ds s₁ hK' r ks => ?_
      subst hK'
      cases r with
      | cons r1 r2 =>
      cases r1; cases r2
      refine PySem.call_range_1 ?_
      exact itx_range (s₀ := s) (k := k) hA rfl (Keeps.trans ks ⟨_, _, rfl, fun b o q => Heap.get?_push_of_some _ q⟩) (IsRange.new _ _ _ _ _ _ _) (by decide) (by decide) (by (first | lia | omega)) (by (first | lia | omega))
theorem draw_elt (C : Cx prog hT mg mb) {da : Addr} {m c : Int} (hl : LoadsG mg mb "_law_draw" (.ref da)) (hk : Kept hT (.ref da)) (hdraw : XCall prog w hT k x (.ref da) [.val (.ref x.p), .d (I m)] n (fun d n' => n' = (n.1 + 1, n.2) ∧ ∃ v : Int, d = I v ∧ 0 ≤ v ∧ v < m))
    {cenv : Env} (hE : EnvOk cenv) (hx : cenv.kindOf "_law_draw" = some .globalImplicit) {A : Around} {s : Shared} {W' : Addr → Prop} {E : Value → Shared → Prop} (hA : AIn k A) (hU : Up hT s.heap) (hW : WOk W' hT s.heap) (hX : XOk x A hT W' Non n s.heap) (hp : Sees cenv s.heap "pool" (.ref x.p))
    {q1 q2 q3 q4 q5 q6 : Pos} {a a' : Nat} :
    wpAny (model prog w) A (eval (.BinOp (.Call (.Name "_law_draw" q1) [.Name "pool" q2, .Constant (.int m) a q3] [] q4) .Sub (.Constant (.int c) a' q5) q6) cenv) (XGood x A hT W' s (fun d n' => (∃ v : Int, d = I v ∧ -c ≤ v ∧ v < m - c) ∧ n' = (n.1 + 1, n.2))) E s := by
  refine wpAny_BinOp ?_
  rw [arm_eval_Call_Name']
  refine wpAny_bind (global_loads C hU hE.kind hE.glob hE.bui hx hl ?_ rfl)
  show wpAny _ A (callWith q4 (.ref da) [] (backTo q4 (starEach _ cenv)) []) _ E s
  rw [star_plain (by rfl), back_plain]
  refine callWith_kept (hT := hT) hk (back_any _) (PySem.Calls.evalArgs_plain ?_)
  refine PySem.Calls.spliced_cons (name_sees hE.kind hp ?_ rfl rfl)
  refine PySem.Calls.spliced_cons (wpAny_Constant_int ?_)
  refine PySem.Calls.spliced_nil ⟨rfl, hU, ?_⟩
  refine wpAny_mono (hdraw A { s with toks := s.toks + 1 } W' _ E hA hU hW hX (.cons rfl (.cons (.int _ _) .nil))) (fun v s₁ y => ?_) fun _ _ e => e
  refine genP fun gP hgP => ?_
  obtain ⟨d, n', ⟨rfl, v, rfl, h1, h2⟩, rd, hX1, hK1⟩ := y
  refine hgP ?_
  clear hgP
  refine wpAny_Constant_int ?_
  refine wpAny_mono (bin_sound (s := { s₁ with toks := s₁.toks + 1 }) (W := W') C hA (show Up hT s₁.heap from KeepX.up hK1 hX hW hU) (show WOk W' hT s₁.heap from KeepX.wok hK1 hW).low rd (.int _ _) (Q := fun d => d = I (v - c)) (bp_sub rfl)) (fun u s₃ y => ?_) fun _ _ e => e
  refine genP fun gP hgP => ?_
  obtain ⟨d, rfl, rd2, ks⟩ := y
  refine hgP ?_
  clear hgP
  exact ⟨_, _, ⟨⟨_, rfl, by (first | lia | omega), by (first | lia | omega)⟩, rfl⟩, rd2, hX1.keeps (Keeps.heap ks), (KeepX.trans (.ofKeeps (Keeps.toks s _)) hK1).trans (KeepX.trans (.ofKeeps (Keeps.toks s₁ _)) (.ofKeeps ks))⟩
theorem ints_of {lo hi : Int} : ∀ {ds : List PyData}, (∀ d ∈ ds, ∃ v : Int, d = I v ∧ lo ≤ v ∧ v < hi) → ∃ l : List Int, ds = l.map I ∧ ∀ z ∈ l, lo ≤ z ∧ z < hi
  | [], _ => ⟨[], rfl, fun _ h => by cases h⟩
  | d :: ds, h => by
    obtain ⟨v, rfl, h1, h2⟩ := h d (.head _)
    obtain ⟨l, rfl, hl⟩ := ints_of fun d hd => h d (.tail _ hd)
    refine ⟨v :: l, rfl, fun z hz => ?_⟩
    rcases List.mem_cons.mp hz with rfl | hz
    · exact ⟨h1, h2⟩
    · exact hl z hz
end
section
variable {prog : Program} {w : World} {hT : Heap} {mg mb : Str → Option Value} {k : Nat} {x : XC} {n : XS}
structure Calls1 (hT : Heap) (mg mb : Str → Option Value) (g : Str) (a : Addr) : Prop where
  l : LoadsG mg mb g (.ref a)
  k : Kept hT (.ref a)
theorem law_rest (C : Cx prog hT mg mb) (GL : Glob prog w hT mg mb k Fn Gl (gsOf ["range"])) {da pa ra sa : Addr} {P0 : Addr} (hP0 : x.P = P0) (hx : x.cells.length ≤ 30)
    (D : Calls1 hT mg mb "_law_draw" da) (hD : ∀ (x : XC) (n : XS) (m : Int), x.cells.length ≤ 30 → n.1 ≤ 1000 → 0 < m → m ≤ 1000 → XCall prog w hT k x (.ref da) [.val (.ref x.p), .d (I m)] n (fun d n' => n' = (n.1 + 1, n.2) ∧ ∃ v : Int, d = I v ∧ 0 ≤ v ∧ v < m))
    (W : Calls1 hT mg mb "_law_powers_right" pa) (hW : ∀ (x : XC) (n : XS) (steps first : List Int), x.cells.length ≤ 30 → first.length = steps.length → steps.length ≤ 3 → (∀ z ∈ steps, -2 ≤ z ∧ z ≤ 2) → (∀ z ∈ first, -3 ≤ z ∧ z ≤ 3) → n.1 ≤ 900 →
      XCall prog w hT k x (.ref pa) [.val (.ref x.p), .d (V steps), .d (V first)] n (fun d n' => d = .bool true ∧ n' = (n.1 + 2, n.2)))
    (R : Calls1 hT mg mb "_law_rows_right" ra) (hR : ∀ (x : XC) (n : XS) (steps first : List Int), first.length = steps.length → steps.length ≤ 3 → (∀ z ∈ steps, -2 ≤ z ∧ z ≤ 2) → (∀ z ∈ first, -3 ≤ z ∧ z ≤ 3) →
      XCall prog w hT k x (.ref ra) [.d (V steps), .d (V first)] n (fun d n' => d = .bool true ∧ n' = n))
    (S : Calls1 hT mg mb "_law_series_right" sa) (hS : ∀ (x : XC) (n : XS) (steps first : List Int), x.P = P0 → x.cells.length ≤ 30 → first.length = steps.length → steps.length ≤ 3 → (∀ z ∈ steps, -2 ≤ z ∧ z ≤ 2) → (∀ z ∈ first, -3 ≤ z ∧ z ≤ 3) → n.1 ≤ 900 → n.2 = true →
      XCall prog w hT k x (.ref sa) [.val (.ref x.p), .d (V steps), .d (V first)] n (fun d n' => d = .bool true)) {args : PyData} :
    XExec prog w hT k (rc 40).scope x ((rc 40).body.drop 1) [D1 "script" args, ("pool", .val (.ref x.p))] (0, true) (fun o m => o = .ret (.bool true)) := by
  let base : St → St := fun ex => D1 "script" args :: ("pool", .val (.ref x.p)) :: ex
  refine x_cons (x_set (xe_call C D.l D.k rfl rfl rfl (xas_cons (xa_val (.tail _ (.head _)) rfl (xas_cons (xa_e (xe_pure GL (i := 20) (m := 20) ?_ (by decide +kernel))))))) (by decide +kernel) rfl)
  walk_at "mine ev"
  refine xas_nil (XCall.mono (hD x (0, true) 4 hx (by decide) (by decide) (by decide)) fun d n1 hd1 => ?_)
  obtain ⟨rfl, v1, rfl, a1, b1⟩ := hd1
  obtain ⟨N, rfl⟩ := Int.eq_ofNat_of_zero_le a1
  have hN : N ≤ 3 := by (first | lia | omega)
  show XExec _ _ _ _ _ _ _ (base [D1 "size" (I N)]) (1, true) _
  have hbk : ∀ env : Env, env.scope = (rc 40).scope → env.blockKind = .function := fun env e => by
    unfold Env.blockKind; rw [e]; rfl
  refine x_cons (x_comp GL (N := N) (fun d => ∃ v : Int, d = I v ∧ -2 ≤ v ∧ v < 5 - 2) rfl (by (first | lia | omega)) (by decide +kernel) (by decide +kernel) (fun env e => ?_) (by decide +kernel) (by decide +kernel)
    (fun W' cenv i A s' E' hi hA hcs hE hU hW' hX' hsee => draw_elt C D.l D.k (hD x _ 5 hx (by show 1 + i ≤ 1000; (first | lia | omega)) (by decide) (by decide)) hE (by show cenv.scope.names.lookup _ = _; rw [hcs]; decide +kernel) hA hU hW' hX' (hsee "pool" _ (.tail _ (.head _)) (by decide +kernel))) (fun ds hl hds => ?_))
  · have e1 := hbk env e
    have e2 : env.kindOf "steps" = some .local := by show env.scope.names.lookup _ = _; rw [e]; decide +kernel
    unfold swapsWith
    simp only [e1, e2]
    rfl
  obtain ⟨steps, rfl, hst⟩ := ints_of hds
  rw [List.length_map] at hl
  show XExec _ _ _ _ _ _ _ (base [D1 "size" (I N), D1 "steps" (V steps)]) (1 + N, true) _
  refine x_cons (x_comp GL (N := N) (fun d => ∃ v : Int, d = I v ∧ -3 ≤ v ∧ v < 7 - 3) rfl (by (first | lia | omega)) (by decide +kernel) (by decide +kernel) (fun env e => ?_) (by decide +kernel) (by decide +kernel)
    (fun W' cenv i A s' E' hi hA hcs hE hU hW' hX' hsee => draw_elt C D.l D.k (hD x _ 7 hx (by show 1 + N + i ≤ 1000; (first | lia | omega)) (by decide) (by decide)) hE (by show cenv.scope.names.lookup _ = _; rw [hcs]; decide +kernel) hA hU hW' hX' (hsee "pool" _ (.tail _ (.head _)) (by decide +kernel))) (fun ds hl2 hds2 => ?_))
  · have e1 := hbk env e
    have e2 : env.kindOf "first" = some .local := by show env.scope.names.lookup _ = _; rw [e]; decide +kernel
    unfold swapsWith
    simp only [e1, e2]
    rfl
  obtain ⟨first, rfl, hft⟩ := ints_of hds2
  rw [List.length_map] at hl2
  show XExec _ _ _ _ _ _ _ (base [D1 "size" (I N), D1 "steps" (V steps), D1 "first" (V first)]) (1 + N + N, true) _
  have h1 : first.length = steps.length := by (first | lia | omega)
  have h2 : steps.length ≤ 3 := by (first | lia | omega)
  have hs : ∀ z ∈ steps, -2 ≤ z ∧ z ≤ 2 := fun z hz => by have := hst z hz; (first | lia | omega)
  have hf : ∀ z ∈ first, -3 ≤ z ∧ z ≤ 3 := fun z hz => by have := hft z hz; (first | lia | omega)
  refine x_cons (x_if (xb_bool (xbs_or (xb_not (xb_call (xe_call C W.l W.k rfl rfl rfl (xas_cons (xa_val (.tail _ (.head _)) rfl (xas_cons (xa_e (xe_pure GL (i := 20) (m := 20) ?_ (by decide +kernel))))))))))))
  walk_at "mine ev"
  refine xas_cons (xa_e (xe_pure GL (i := 20) (m := 20) ?_ (by decide +kernel)))
  walk_at "mine ev"
  refine xas_nil (XCall.mono (hW x _ steps first hx h1 h2 hs hf (by show 1 + N + N ≤ 900; (first | lia | omega))) fun d n1 hd1 => ?_)
  obtain ⟨rfl, rfl⟩ := hd1
  show truthP (.bool true) _
  show XBs _ _ _ _ _ _ _ _ _ _ _
  refine xbs_or (xb_not (xb_call (xe_call C R.l R.k rfl rfl rfl (xas_cons (xa_e (xe_pure GL (i := 20) (m := 20) ?_ (by decide +kernel)))))))
  walk_at "mine ev"
  refine xas_cons (xa_e (xe_pure GL (i := 20) (m := 20) ?_ (by decide +kernel)))
  walk_at "mine ev"
  refine xas_nil (XCall.mono (hR x _ steps first h1 h2 hs hf) fun d n1 hd1 => ?_)
  obtain ⟨rfl, rfl⟩ := hd1
  show XBs _ _ _ _ _ _ _ _ _ _ _
  refine xbs_nil ?_
  show XExec _ _ _ _ _ _ _ _ _ _
  refine x_nil ?_
  show XExec _ _ _ _ _ _ _ _ _ _
  refine x_cons (x_return (xe_call C S.l S.k rfl rfl rfl (xas_cons (xa_val (.tail _ (.head _)) rfl (xas_cons (xa_e (xe_pure GL (i := 20) (m := 20) ?_ (by decide +kernel))))))))
  walk_at "mine ev"
  refine xas_cons (xa_e (xe_pure GL (i := 20) (m := 20) ?_ (by decide +kernel)))
  walk_at "mine ev"
  refine xas_nil (XCall.mono (hS x _ steps first hP0 hx h1 h2 hs hf (by show 1 + N + N + 2 ≤ 900; (first | lia | omega)) rfl) fun d n1 hd1 => ?_)
  subst hd1
  rfl
end
section
variable {prog : Program} {w : World} {hT : Heap} {mg mb : Str → Option Value} {k : Nat}
noncomputable def OkAll (prog : Program) (w : World) (hT : Heap) (mg mb : Str → Option Value) (k : Nat) : List Str → Prop
  | [] => True
  | g :: r => Ok prog w hT mg mb k g ∧ OkAll prog w hT mg mb k r
theorem OkAll.get : ∀ {fs : List Str}, OkAll prog w hT mg mb k fs → ∀ g, fs.contains g = true → Ok prog w hT mg mb k g
  | [], _, g, h => by simp at h
  | f :: fs, hf, g, h => by
    rw [List.contains_cons, Bool.or_eq_true] at h
    rcases h with h | h
    · rw [beq_iff_eq.mp h]; exact hf.1
    · exact OkAll.get hf.2 g h
structure Base (prog : Program) (hT : Heap) (mg mb : Str → Option Value) : Prop where
  C : Cx prog hT mg mb
  const : ∀ x d, Gl x = some d → ∃ v, mg x = some v ∧ Rd (fun a o => hT.get? a = some o) v d
  range : LoadsG mg mb "range" (.type "range")
  enum : LoadsG mg mb "enumerate" (.type "enumerate")
  zip : LoadsG mg mb "zip" (.type "zip")
  list : LoadsG mg mb "list" (.type "list")
  int : LoadsG mg mb "int" (.type "int")
  abs : LoadsG mg mb "abs" (.builtin "abs")
  len : LoadsG mg mb "len" (.builtin "len")
  max : LoadsG mg mb "max" (.builtin "max")
  min : LoadsG mg mb "min" (.builtin "min")
  sum : LoadsG mg mb "sum" (.builtin "sum")
theorem gl_name {x : Str} {d : PyData} (e : Gl x = some d) : (["R0", "R1", "F0"] : List Str).contains x = true := by
  unfold Gl at e
  split at e
  · rename_i q; subst q; decide +kernel
  · split at e
    · rename_i q; subst q; decide +kernel
    · split at e
      · rename_i q; subst q; decide +kernel
      · cases e
theorem glob_of (B : Base prog hT mg mb) {fs : List Str} (h : OkAll prog w hT mg mb k fs) : Glob prog w hT mg mb k Fn Gl (gsOf fs) :=
  ⟨B.C, fun g hg => h.get g hg, fun x d e => ⟨gl_name e, B.const x d e⟩, B.range, B.enum, B.zip⟩
theorem ok_no {g : Str} {fv : Value} (hl : LoadsG mg mb g fv) (hk : Kept hT fv) (h : ∀ ds d, ¬ Fn g ds d) : Ok prog w hT mg mb k g := ⟨fv, hl, hk, fun ds d hF => absurd hF (h ds d)⟩
theorem no_range : ∀ ds d, ¬ Fn "range" ds d := fun ds d hF => by
  have q : fns.lookup ("range" : Str) = none := by kernel_rfl
  unfold Fn at hF
  rw [q] at hF; exact hF
theorem no_enum : ∀ ds d, ¬ Fn "enumerate" ds d := fun ds d hF => by
  have q : fns.lookup ("enumerate" : Str) = none := by kernel_rfl
  unfold Fn at hF
  rw [q] at hF; exact hF
theorem no_zip : ∀ ds d, ¬ Fn "zip" ds d := fun ds d hF => by
  have q : fns.lookup ("zip" : Str) = none := by kernel_rfl
  unfold Fn at hF
  rw [q] at hF; exact hF
structure Lib (prog : Program) (w : World) (hT : Heap) (mg mb : Str → Option Value) (k : Nat) : Prop where
  base : Base prog hT mg mb
  generating : Ok prog w hT mg mb k "generating"
  series_numbers : Ok prog w hT mg mb k "series_numbers"
  law_numbers : Ok prog w hT mg mb k "_law_numbers"
  law_product : Ok prog w hT mg mb k "_law_product"
  step_matrix : Ok prog w hT mg mb k "step_matrix"
  matrix_raised : Ok prog w hT mg mb k "matrix_raised"
  recurrence_row : Ok prog w hT mg mb k "recurrence_row"
  number_at : Ok prog w hT mg mb k "number_at"
  next_number : Ok prog w hT mg mb k "next_number"
  rsub : Ok prog w hT mg mb k "rsub"
  rmul : Ok prog w hT mg mb k "rmul"
  rdiv : Ok prog w hT mg mb k "rdiv"
theorem lib_ok (B : Base prog hT mg mb) (pf : ∀ n, (1 ≤ n ∧ n ≤ 3) ∨ (6 ≤ n ∧ n ≤ 23) ∨ (25 ≤ n ∧ n ≤ 40) → PF hT mg (rc n)) : Lib prog w hT mg mb 9 := by
  have C := B.C
  have L := B.list
  have oR : ∀ {k}, Ok prog w hT mg mb k "range" := ok_no B.range (.inr (.inl ⟨_, rfl⟩)) no_range
  have oE : ∀ {k}, Ok prog w hT mg mb k "enumerate" := ok_no B.enum (.inr (.inl ⟨_, rfl⟩)) no_enum
  have oZ : ∀ {k}, Ok prog w hT mg mb k "zip" := ok_no B.zip (.inr (.inl ⟨_, rfl⟩)) no_zip
  have abs : ∀ {k}, Ok prog w hT mg mb k "abs" := ok_abs B.abs
  have len : ∀ {k}, Ok prog w hT mg mb k "len" := ok_len B.len
  have max : ∀ {k}, Ok prog w hT mg mb k "max" := ok_max B.max
  have min : ∀ {k}, Ok prog w hT mg mb k "min" := ok_min B.min
  have list : ∀ {k}, Ok prog w hT mg mb k "list" := ok_list B.list
  have sum : ∀ {k}, Ok prog w hT mg mb k "sum" := ok_sum B.sum
  have gcd : Ok prog w hT mg mb 1 "gcd" := gcd_ok C (glob_of B ⟨abs, trivial⟩) (pf 3 (by decide))
  have rat : Ok prog w hT mg mb 2 "rat" := rat_ok C (glob_of B ⟨gcd, trivial⟩) (pf 6 (by decide))
  have radd : Ok prog w hT mg mb 3 "radd" := radd_ok C (glob_of B ⟨rat, trivial⟩) (pf 7 (by decide))
  have rsub : Ok prog w hT mg mb 3 "rsub" := rsub_ok C (glob_of B ⟨rat, trivial⟩) (pf 8 (by decide))
  have rmul : Ok prog w hT mg mb 3 "rmul" := rmul_ok C (glob_of B ⟨rat, trivial⟩) (pf 9 (by decide))
  have rdiv : Ok prog w hT mg mb 3 "rdiv" := rdiv_ok C (glob_of B ⟨rat, trivial⟩) (pf 10 (by decide))
  have rneg : Ok prog w hT mg mb 1 "rneg" := rneg_ok C (glob_of B trivial) (pf 11 (by decide))
  have rinv : Ok prog w hT mg mb 3 "rinv" := rinv_ok C (glob_of B ⟨rat, trivial⟩) (pf 12 (by decide))
  have qtrim : Ok prog w hT mg mb 1 "qtrim" := qtrim_ok C (glob_of B ⟨len, list, trivial⟩) (pf 13 (by decide))
  have qdegree : Ok prog w hT mg mb 1 "qdegree" := qdegree_ok C (glob_of B ⟨len, trivial⟩) (pf 14 (by decide))
  have qlead : Ok prog w hT mg mb 1 "qlead" := qlead_ok C (glob_of B ⟨len, trivial⟩) (pf 15 (by decide))
  have qadd : Ok prog w hT mg mb 4 "qadd" := qadd_ok C (glob_of B ⟨len, max, radd, qtrim.more (by decide), oR, trivial⟩) (pf 16 (by decide))
  have qneg : Ok prog w hT mg mb 2 "qneg" := qneg_ok C (glob_of B ⟨rneg, trivial⟩) (pf 17 (by decide))
  have qsub : Ok prog w hT mg mb 5 "qsub" := qsub_ok C (glob_of B ⟨qadd, qneg.more (by decide), trivial⟩) (pf 18 (by decide))
  have qscale : Ok prog w hT mg mb 4 "qscale" := qscale_ok C (glob_of B ⟨rmul, trivial⟩) (pf 19 (by decide))
  have qraise : Ok prog w hT mg mb 1 "qraise" := qraise_ok C (glob_of B ⟨len, list, trivial⟩) (pf 20 (by decide))
  have qdivmod : Ok prog w hT mg mb 6 "qdivmod" := qdivmod_ok C L (glob_of B ⟨len, max, list, rdiv.more (by decide), qscale.more (by decide), qraise.more (by decide), qsub, qtrim.more (by decide), trivial⟩) (pf 21 (by decide))
  have qmonic : Ok prog w hT mg mb 5 "qmonic" := qmonic_ok C (glob_of B ⟨len, rinv.more (by decide), qscale, trivial⟩) (pf 22 (by decide))
  have qgcd : Ok prog w hT mg mb 7 "qgcd" := qgcd_ok C (glob_of B ⟨len, qdivmod, qmonic.more (by decide), trivial⟩) (pf 23 (by decide))
  have fmake : Ok prog w hT mg mb 8 "fmake" := fmake_ok C (glob_of B ⟨qgcd, qdegree.more (by decide), qdivmod.more (by decide), rinv.more (by decide), qlead.more (by decide), qscale.more (by decide), trivial⟩) (pf 25 (by decide))
  have unit_rows : Ok prog w hT mg mb 1 "unit_rows" := unit_rows_ok C (glob_of B ⟨oR, trivial⟩) (pf 1 (by decide))
  have whole_mul : Ok prog w hT mg mb 1 "whole_mul" := whole_mul_ok C (glob_of B ⟨oR, len, sum, trivial⟩) (pf 2 (by decide))
  have next_number : Ok prog w hT mg mb 1 "next_number" := next_number_ok C (glob_of B ⟨sum, len, oE, trivial⟩) (pf 26 (by decide))
  have recurrence_row : Ok prog w hT mg mb 2 "recurrence_row" := recurrence_row_ok C L (glob_of B ⟨len, list, next_number, trivial⟩) (pf 27 (by decide))
  have step_matrix : Ok prog w hT mg mb 1 "step_matrix" := step_matrix_ok C L (glob_of B ⟨len, list, oR, trivial⟩) (pf 28 (by decide))
  have matrix_raised : Ok prog w hT mg mb 2 "matrix_raised" := matrix_raised_ok C (glob_of B ⟨len, unit_rows, whole_mul, trivial⟩) (pf 29 (by decide))
  have number_at : Ok prog w hT mg mb 3 "number_at" := number_at_ok C (glob_of B ⟨len, matrix_raised, step_matrix.more (by decide), sum, oZ, trivial⟩) (pf 30 (by decide))
  have generating : Ok prog w hT mg mb 9 "generating" := generating_ok C L (glob_of B ⟨len, oR, sum, fmake, trivial⟩) (pf 31 (by decide))
  have series_numbers : Ok prog w hT mg mb 4 "series_numbers" := series_numbers_ok C L (glob_of B ⟨len, min, oR, rsub, rmul, rdiv, trivial⟩) (pf 32 (by decide))
  have law_numbers : Ok prog w hT mg mb 1 "_law_numbers" := law_numbers_ok C L (glob_of B ⟨len, list, oR, trivial⟩) (pf 35 (by decide))
  have law_product : Ok prog w hT mg mb 1 "_law_product" := law_product_ok C (glob_of B ⟨len, oR, sum, trivial⟩) (pf 36 (by decide))
  exact ⟨B, generating, series_numbers.more (by decide), law_numbers.more (by decide), law_product.more (by decide), step_matrix.more (by decide), matrix_raised.more (by decide), recurrence_row.more (by decide), number_at.more (by decide), next_number.more (by decide), rsub.more (by decide), rmul.more (by decide), rdiv.more (by decide)⟩
end
section
variable {prog : Program} {w : World} {hT : Heap} {mg mb : Str → Option Value}
theorem SOk.ownVal {B U : Addr → Prop} {env : Env} {r : St} {h : Heap} {y : Str} {p : Addr} {xs : List PyData} (S : SOk hT B U env (r ++ [(y, .own xs)]) (ownAt y p) h) (nr : noOwn r = true) : SOk hT (fun a => B a ∨ a = p) U env (r ++ [(y, .val (.ref p))]) (fun _ => none) h := by
  have e0 : BO (fun a => B a ∨ a = p) (fun _ => none) = BO B (ownAt y p) := by
    funext a
    refine propext ⟨fun q => ?_, fun q => ?_⟩
    · rcases q with (q | rfl) | ⟨_, q⟩
      · exact .inl q
      · exact .inr ⟨y, by simp [ownAt]⟩
      · cases q
    · rcases q with q | ⟨z, q⟩
      · exact .inl (.inl q)
      · unfold ownAt at q
        split at q
        · cases q; exact .inl (.inr rfl)
        · cases q
  have inr : ∀ {z : Str} {t : TV}, (z, t) ∈ r ++ [(y, TV.val (.ref p))] → (z, t) ∈ r ∨ (z = y ∧ t = .val (.ref p)) := fun m => by
    rcases List.mem_append.mp m with m | m
    · exact .inl m
    · have := List.mem_singleton.mp m
      cases this
      exact .inr ⟨rfl, rfl⟩
  refine ⟨S.up, by rw [e0]; exact S.w, fun a u => .inl (S.sub a u), S.frame, S.cells, fun _ _ e => (by cases e), fun _ _ _ e => (by cases e), ?_, fun z v m => ?_, fun z a b m => ?_, fun z ys m => ?_, fun _ _ e => (by cases e), fun z v m => ?_⟩
  · have := S.keys
    rw [List.map_append] at this ⊢
    exact this
  · rw [e0]
    rcases inr m with m | ⟨_, m⟩
    · exact S.vd z v (List.mem_append_left _ m)
    · cases m
  · rw [e0]
    rcases inr m with m | ⟨_, m⟩
    · exact S.vr z a b (List.mem_append_left _ m)
    · cases m
  · rcases inr m with m | ⟨_, m⟩
    · exact (noOwn_ nr m).elim
    · cases m
  · rcases inr m with m1 | ⟨rfl, m1⟩
    · exact S.vv z v (List.mem_append_left _ m1)
    · cases m1
      refine genP fun gP hgP => ?_
      obtain ⟨n0, a, vs, e1, e2, _⟩ := S.vo z xs (List.mem_append_right _ (.head _))
      refine hgP ?_
      clear hgP
      have : a = p := by
        unfold ownAt at e1
        rw [if_pos rfl] at e1
        exact (Option.some.inj e1).symm
      subst this
      exact ⟨n0, e2⟩
theorem ei_sub {F : Tab} {G : Str → Option PyData} {n : Nat} {ρ : Sto} {K : List PyData → Prop} {v i : Expr} {p : Pos} (h : evE F G n ρ (.Subscript v i p) (fun d => seqP d K)) : evIt F G (n + 1) ρ (.Subscript v i p) K := h
noncomputable def env0 : Env := { (default : Env) with scope := { (default : Scope) with isGenerator := false, isCoroutine := false }, builtins := builtinsNs, globals := mainGlobals }
noncomputable def A0 : Around := { callerA with frames := some [env0] }
theorem ain0 : AIn 15 A0 := ⟨rfl, by decide +kernel, by decide +kernel, env0, [], rfl, rfl, rfl, rfl, rfl⟩
set_option maxHeartbeats 1000000 in
theorem law_entry (B0 : Base prog hT mg mb) {P0 : Addr} (GLi : Glob prog w hT mg mb 14 Fn Gl (gsOf ["int"]))
    (hrest : ∀ (x : XC) (args : PyData), x.P = P0 → x.cells.length ≤ 30 → XExec prog w hT 14 (rc 40).scope x ((rc 40).body.drop 1) [D1 "script" args, ("pool", .val (.ref x.p))] (0, true) (fun o m => o = .ret (.bool true)))
    {fa : Addr} {fd : FuncData} (f : FnIs hT fa fd (rc 40).body ["script"]) (hsc : fd.scope = (rc 40).scope) {s : Shared} (hU : Up hT s.heap) (hP : s.heap.get? P0 = some (tabObj #[])) (hP0 : hT.get? P0 = none) {l : Addr} {scr : List Int}
    (hl : Rd (PW (fun a => a = P0) s.heap) (.ref l) (V scr)) (hlen : scr.length ≤ 63) :
    codeAny (model prog w) callerA (.call (.ref fa) ⟨[.ref l], []⟩) (fun r s' => r = .ok (.ret (.bool true)) ∧ (∀ b o, hT.get? b = some o → s'.heap.get? b = some o) ∧ s'.os = s.os ∧ s'.gens = s.gens ∧ ∃ ps, s'.heap.get? P0 = some (tabObj ps)) s := by
  have C := B0.C
  obtain ⟨fo, h1, h2⟩ := f.get
  refine genP fun gP hgP => ?_
  obtain ⟨k1, k2, k3, k4⟩ := fn_kind f.sc (vs := [Value.ref l]) (n := s.heap.objs.size + 1)
  refine hgP ?_
  clear hgP
  have hW : WOk (fun a => a = P0) hT s.heap := ⟨fun a q => q ▸ hP0, fun a q => ⟨P0, _, Nat.le_of_eq q, hP⟩⟩
  refine codeAny_call_cells (fd := fd) (binds := (["script"] : List Str).zip [Value.ref l]) (by decide +kernel) (hU _ _ h1) h2 (C.nolimit.keeps hU) (f.code.keeps hU) f.body (f.bind _ rfl) f.clo k1 (fun s₁ X => ?_) k2 k3 k4
  generalize hee : callEnvC fd s.heap.objs.size fa = env at X ⊢
  refine genQE fun Q1 E1 hQ1 _ => ?_
  refine genP fun gP hgP => ?_
  obtain ⟨U, a1, a2, a3, a4, a5, a6, a7, a8, a9, a10⟩ := frame_laid (k := 14) (a := fa) (ts := [.d (V scr)]) f.glob f.bui f.sc rfl ain0 hU hW (.cons hl .nil) hee X
  refine hgP ?_
  clear hgP
  rw [hsc] at a1
  have hA : AIn 14 (callerA.deeper env) := by
    refine ⟨rfl, by show callerA.depth + 1 + 14 + 120 < _; decide +kernel, by show callerA.units + 3 + 10 * 14 + 200 < _; decide +kernel, env, [], rfl, ?_, ?_, a4.bui, a4.glob⟩
    · rw [a1]; rfl
    · rw [a1]; rfl
  have Unot : ∀ z o, s.heap.get? z = some o → ¬ U z := fun z o e q => absurd (Heap.lt_size e) (Nat.not_lt.mpr (a8 z q))
  let B : Addr → Prop := fun z => z = P0 ∨ U z
  let cells : List Int := scr.take 30
  have first : Ex1 prog w hT 14 (rc 40).scope (nthS 0 (rc 40).body) [D1 "script" (V scr)] (fun o => o = .next ([D1 "script" (V scr)] ++ [O1 "pool" [V cells, I 0]])) := by
    refine ex_own GLi B0.list (n := 20) (m := 20) ?_ (by decide +kernel) (by decide +kernel) rfl
    show evEs _ _ _ _ _ _
    walk_at "mine ev"
    refine ei_sub ?_
    walk_at "mine ev"
    refine pp_upto (by (first | lia | omega)) (by decide) (by decide) ?_
    refine ⟨by simp; (first | lia | omega), ?_⟩
    refine mapP_enc (enc := I) (fun z => z) (fun z _ Q hQ => ?_) ?_
    · show evE _ _ _ _ _ _
      walk_at "mine ev"
      exact ⟨_, .intI _, hQ⟩
    walk_at "mine ev"
    refine ⟨by simp, ?_⟩
    rw [List.map_id']
    rfl
  refine PySem.wpAny_execs_cons (wpAny_mono (first env a1 a4 (callerA.deeper env) s₁ B U (fun _ => none) _ hA a10) (fun fl s₂ y => ?_) fun _ _ e => e)
  cases fl with
  | ret v => obtain ⟨d, q, _⟩ := y; cases q
  | brk => exact y.elim
  | cont => exact y.elim
  | next =>
  refine genP fun gP hgP => ?_
  obtain ⟨σ', own', q1, hS2, hR⟩ := y
  refine hgP ?_
  clear hgP
  cases q1
  refine genP fun gP hgP => ?_
  obtain ⟨n0, p, vs, e1, e2', hpl, hrd⟩ := hS2.vo "pool" _ (.tail _ (.head _))
  refine hgP ?_
  clear hgP
  have eo : own' = ownAt "pool" p := by
    funext z
    unfold ownAt
    by_cases hz : z = "pool"
    · rw [if_pos hz, hz]; exact e1
    · rw [if_neg hz]
      cases e : own' z with
      | none => rfl
      | some b =>
        obtain ⟨xs, m⟩ := hS2.ow z b e
        rcases List.mem_cons.mp m with m | m
        · cases m
        · exact absurd (congrArg Prod.fst (List.mem_singleton.mp m)) hz
  subst eo
  have hS3 : SOk hT (fun a => B a ∨ a = p) U env ([D1 "script" (V scr)] ++ [(("pool" : Str), TV.val (.ref p))]) (fun _ => none) s₂.heap := hS2.ownVal rfl
  have kp : ∀ b o, ¬ U b → s₁.heap.get? b = some o → s₂.heap.get? b = some o := fun b o hu e => hR.keep b o hu (fun _ q => by cases q) e
  have pB : ¬ B p := hS2.offB "pool" p (by simp [ownAt])
  have pU : ¬ U p := fun u => pB (.inr u)
  have pP : p ≠ P0 := fun q => pB (.inl q)
  have PU : ¬ U P0 := Unot P0 _ hP
  have hP2 : s₂.heap.get? P0 = some (tabObj #[]) := kp _ _ PU (Keeps.heap a6 _ _ hP)
  let x : XC := ⟨fun a => a = env.locals, p, P0, cells⟩
  have hF : XOff x U env := ⟨pU, PU, fun a e _ => e, "size", by show env.scope.names.lookup _ = _; rw [a1]; rfl⟩
  have hX : XOk x (callerA.deeper env) hT (fun a => B a ∨ a = p) Non (0, true) s₂.heap := by
    refine ⟨fun a e => .inl (.inr (by have q : a = env.locals := e; rw [q]; exact a7)), fun a e _ => ?_, .inr rfl, .inl (.inl rfl), ⟨[env], rfl, fun e he => ?_⟩, ?_, ⟨_, hP2, fun _ => rfl⟩⟩
    · obtain ⟨c, pc, uc⟩ := hS3.frame "size" (.inl (by show env.scope.names.lookup _ = _; rw [a1]; rfl))
      rcases pc with ⟨_, e1, m, o, es, ep, ho, hd, _⟩ | ⟨kk, _⟩
      · have : a = env.locals := e
        rw [this, ← e1]
        exact ⟨o, es, ep, ho, hd⟩
      · have : env.scope.names.lookup ("size" : Str) = some .cell := kk
        rw [a1] at this
        exact absurd this (by decide +kernel)
    · rw [List.mem_singleton.mp he]
      exact ⟨by rw [a4.kind]; decide, _, a3, rfl⟩
    · obtain ⟨vl⟩ := vs
      have e0 : BO B (ownAt "pool" p) = fun a => B a ∨ a = p := by
        funext a
        refine propext ⟨fun q => ?_, fun q => ?_⟩
        · rcases q with q | ⟨z, q⟩
          · exact .inl q
          · unfold ownAt at q
            split at q
            · cases q; exact .inr rfl
            · cases q
        · rcases q with q | rfl
          · exact .inl q
          · exact .inr ⟨"pool", by simp [ownAt]⟩
      rw [e0] at hrd
      refine genP fun gP hgP => ?_
      obtain ⟨u0, u1, rfl, r0, r1⟩ := RdAll.two (vs := vl) hrd
      refine hgP ?_
      clear hgP
      refine genP fun gP hgP => ?_
      obtain ⟨q0, vs0, rfl, _, _, _⟩ := id r0.isList
      refine hgP ?_
      clear hgP
      cases r1
      exact ⟨q0, _, hpl, r0⟩
  refine wpAny_mono (hrest x (V scr) rfl (by show (scr.take 30).length ≤ 30; rw [List.length_take]; (first | lia | omega)) env a1 a4 (callerA.deeper env) s₂ _ U _ hA hS3 hX hF) (fun fl s₃ y => ?_) fun _ _ e => e
  cases fl with
  | next => obtain ⟨_, _, q, _⟩ := y; cases q
  | brk => exact y.elim
  | cont => exact y.elim
  | ret v =>
  refine genP fun gP hgP => ?_
  obtain ⟨d, n', q1, rd, hX3, hK3⟩ := y
  refine hgP ?_
  clear hgP
  cases q1
  cases rd
  have U0 : ∀ b o, hT.get? b = some o → ¬ U b := fun b o e => Unot b o (hU b o e)
  refine hQ1 _ _ ⟨rfl, fun b o e => ?_, ?_, ?_, let ⟨ps, e, _⟩ := hX3.tab; ⟨ps, e⟩⟩
  · have e1 := kp b o (U0 b o e) (Keeps.heap a6 _ _ (hU b o e))
    have nold : ∀ a, (B a ∨ a = p) → a ≠ b := fun a q hq => by
      have := hS3.wB.old a q
      rw [hq, e] at this; cases this
    exact hK3.keep b o (U0 b o e) (fun q => nold _ (.inl (.inr a7)) (show env.locals = b from (show b = env.locals from q).symm)) (fun q => nold p (.inr rfl) q.symm) (fun q => nold P0 (.inl (.inl rfl)) q.symm) e1
  · refine genP fun gP hgP => ?_
    obtain ⟨g1, t1, e1, _⟩ := a6
    refine hgP ?_
    clear hgP
    obtain ⟨g2, t2, e2⟩ := hR.same
    obtain ⟨g3, t3, e3⟩ := hK3.same
    rw [e3, e2, e1]
  · refine genP fun gP hgP => ?_
    obtain ⟨g1, t1, e1, _⟩ := a6
    refine hgP ?_
    clear hgP
    obtain ⟨g2, t2, e2⟩ := hR.same
    obtain ⟨g3, t3, e3⟩ := hK3.same
    rw [e3, e2, e1]
end
noncomputable def rdEach (f : Value → PyData → Bool) : List Value → List PyData → Bool
  | [], [] => true
  | v :: vs, d :: ds => f v d && rdEach f vs ds
  | _, _ => false
noncomputable def refOf : Value → Option Addr
  | .ref a => some a
  | _ => none
theorem refOf_is {v : Value} {a : Addr} (h : refOf v = some a) : v = .ref a := by
  cases v <;> first | (cases h; rfl) | cases h
noncomputable def seqOf (h : Heap) (T : String) (a : Addr) : Option (Array Value) := (h.get? a).bind fun o => if o.cls = .type T then (match o.data with
  | .seq vs _ => some vs
  | _ => none) else none
theorem seqOf_is {h : Heap} {T : String} {a : Addr} {vs : Array Value} (e : seqOf h T a = some vs) : ∃ o n, h.get? a = some o ∧ o.cls = .type T ∧ o.data = .seq vs n := by
  obtain ⟨o, ho, e⟩ := Option.bind_eq_some_iff.mp e
  by_cases c : o.cls = .type T
  · rw [if_pos c] at e
    obtain ⟨cls, dd, data, sl⟩ := o
    cases data <;> first | (cases e; done) | skip
    cases e
    exact ⟨_, _, ho, c, rfl⟩
  · rw [if_neg c] at e; cases e
noncomputable def clsOf (o : Obj) : Option ClassData := match o.data with
  | .cls cd => some cd
  | _ => none
theorem clsOf_is {o : Obj} {cd : ClassData} (e : clsOf o = some cd) : o.data = .cls cd := by
  obtain ⟨cls, dd, data, sl⟩ := o
  cases data <;> first | (cases e; rfl) | cases e
noncomputable def fnOf (o : Obj) : Option FuncData := match o.data with
  | .func fd => some fd
  | _ => none
theorem fnOf_is {o : Obj} {fd : FuncData} (e : fnOf o = some fd) : o.data = .func fd := by
  obtain ⟨cls, dd, data, sl⟩ := o
  cases data <;> first | (cases e; rfl) | cases e
noncomputable def rdOk (h : Heap) : Nat → Value → PyData → Bool
  | 0, _, _ => false
  | n + 1, v, d => match d with
    | .int j => (match v with
      | .int i _ => i == j
      | _ => false)
    | .tuple ds => (refOf v).elim false fun a => (seqOf h "tuple" a).elim false fun vs => rdEach (rdOk h n) vs.toList ds
    | .list ds => (refOf v).elim false fun a => (seqOf h "list" a).elim false fun vs => rdEach (rdOk h n) vs.toList ds
    | _ => false
noncomputable abbrev Solid (h : Heap) (a : Addr) (o : Obj) : Prop := h.get? a = some o ∧ o ≠ tabObj #[]
theorem rdEach_is {h : Heap} {f : Value → PyData → Bool} (hf : ∀ v d, f v d = true → Rd (Solid h) v d) : ∀ {vs : List Value} {ds : List PyData}, rdEach f vs ds = true → RdAll (Solid h) vs ds
  | [], [], _ => .nil
  | v :: vs, d :: ds, e => by
    have e' := Bool.and_eq_true_iff.mp e
    exact .cons (hf _ _ e'.1) (rdEach_is hf e'.2)
  | [], _ :: _, e => by cases e
  | _ :: _, [], e => by cases e
theorem rdOk_is {h : Heap} {n : Nat} : ∀ {v : Value} {d : PyData}, rdOk h n v d = true → Rd (Solid h) v d := by
  induction n with
  | zero => intro v d e; exact ff e
  | succ n ih =>
    intro v d e
    cases d <;> first | exact ff e | skip
    case int j =>
      cases v <;> first | exact ff e | skip
      rw [← eq_of_beq e]; exact .int _ _
    case tuple ds =>
      obtain ⟨a, e1, e⟩ := elimB_is e
      obtain ⟨vs, e2, e⟩ := elimB_is e
      obtain ⟨o, m, q, c, d⟩ := seqOf_is e2
      rw [refOf_is e1]
      exact .tuple ⟨q, fun z => by rw [z] at c; cases c⟩ c d (rdEach_is (fun v d => ih) e)
    case list ds =>
      obtain ⟨a, e1, e⟩ := elimB_is e
      obtain ⟨vs, e2, e⟩ := elimB_is e
      obtain ⟨o, m, q, c, d⟩ := seqOf_is e2
      rw [refOf_is e1]
      exact .list ⟨q, fun z => by rw [z] at c; cases c⟩ c d (rdEach_is (fun v d => ih) e)
noncomputable def nthO (l : List (Option Value)) (n : Nat) : Option Value := (l[n]?).getD none
noncomputable def clsGoodB (C : Addr) (o : Obj) (cd : ClassData) : Bool := decide (o.cls = .type "type") && (decide (cd.mro = [.ref C, .type "Exception", .type "BaseException", .type "object"]) &&
  (decide (o.slots.toList = [nthO o.slots.toList 0, nthO o.slots.toList 1, nthO o.slots.toList 2, nthO o.slots.toList 3, some (.builtin "Exception.__new__"), nthO o.slots.toList 5]) && (!cd.hasDel && cd.hasDict)))
noncomputable def clsSeen (h : Heap) (C : Addr) : Option Addr := (h.get? C).bind fun o => (clsOf o).bind fun cd => if clsGoodB C o cd = true then some cd.ns else none
theorem clsSeen_is {h : Heap} {C N : Addr} (e : clsSeen h C = some N) : ∃ r : EC, h.get? C = some (excClassObj r.nm r.q C N r.bs [.type "Exception", .type "BaseException", .type "object"] true r.sn r.sub r.ab r.col r.dd r.k0 r.k1 r.k2 r.k3 r.k5 "Exception.__new__") := by
  obtain ⟨o, ho, e1⟩ := Option.bind_eq_some_iff.mp e
  clear e
  obtain ⟨cd, hd, e⟩ := Option.bind_eq_some_iff.mp e1
  clear e1
  by_cases c : clsGoodB C o cd = true
  · rw [if_pos c] at e
    have eN : cd.ns = N := Option.some.inj e
    clear e
    have hd := clsOf_is hd
    obtain ⟨c1, c⟩ := Bool.and_eq_true_iff.mp c
    obtain ⟨c2, c⟩ := Bool.and_eq_true_iff.mp c
    obtain ⟨c3, c⟩ := Bool.and_eq_true_iff.mp c
    obtain ⟨c4, c5⟩ := Bool.and_eq_true_iff.mp c
    have hob : o = { cls := .type "type", dict := o.dict, data := .cls cd, slots := ⟨[nthO o.slots.toList 0, nthO o.slots.toList 1, nthO o.slots.toList 2, nthO o.slots.toList 3, some (.builtin "Exception.__new__"), nthO o.slots.toList 5]⟩ } := by
      rw [← of_decide_eq_true c3, ← of_decide_eq_true c1, ← hd]
    have hcd : cd = { name := cd.name, bases := cd.bases, mro := [.ref C, .type "Exception", .type "BaseException", .type "object"], ns := N, qualname := cd.qualname, hasDict := true, slotNames := cd.slotNames, subclasses := cd.subclasses, abstract := cd.abstract, collection := cd.collection, hasDel := false } := by
      rw [← of_decide_eq_true c2, ← eN, ← c5, ← (Bool.not_eq_true' _).mp c4]
    rw [hcd] at hob
    exact ⟨⟨cd.name, cd.qualname, cd.bases, cd.slotNames, cd.subclasses, cd.abstract, cd.collection, o.dict, nthO o.slots.toList 0, nthO o.slots.toList 1, nthO o.slots.toList 2, nthO o.slots.toList 3, nthO o.slots.toList 5⟩, ho.trans (congrArg some hob)⟩
  · rw [if_neg c] at e; cases e
noncomputable def fnSeen (h : Heap) (f : Value) : Option FuncData := (refOf f).bind fun a => (h.get? a).bind fun o => (fnOf o).bind fun fd => if o.cls = .type "function" ∧ h.codeRecOk fd.code fd.qualname = true then some fd else none
theorem fnSeen_is {h : Heap} {f : Value} {fd : FuncData} (e : fnSeen h f = some fd) : ∃ a fo, f = .ref a ∧ h.get? a = some fo ∧ fo.data = .func fd ∧ fo.cls = .type "function" ∧ h.CodeRec fd.code fd.qualname := by
  obtain ⟨a, e1, e⟩ := Option.bind_eq_some_iff.mp e
  obtain ⟨o, e2, e⟩ := Option.bind_eq_some_iff.mp e
  obtain ⟨fd', e3, e⟩ := Option.bind_eq_some_iff.mp e
  by_cases c : o.cls = .type "function" ∧ h.codeRecOk fd'.code fd'.qualname = true
  · rw [if_pos c] at e
    cases e
    exact ⟨a, o, refOf_is e1, e2, fnOf_is e3, c.1, .of_ok c.2⟩
  · rw [if_neg c] at e; cases e
noncomputable def casSeen (h : Heap) : Option FuncData := (h.nsMap mainGlobals "CasFail").bind fun v => (refOf v).bind fun C => (clsSeen h C).bind fun N =>
  if h.isNs N = true ∧ (h.nsMap N "__setattr__").isNone = true ∧ (h.nsMap N "kind").isNone = true ∧ (h.nsMap N "text").isNone = true ∧ (h.nsMap N "__getattribute__").isNone = true ∧ (h.nsMap N "__getattr__").isNone = true then (h.nsMap N "__init__").bind fun f => fnSeen h f else none
noncomputable abbrev Fields := Arguments × FuncBody × Scope × List (Str × Addr) × Addr × Addr × Value × Value
noncomputable def fieldsOf (fd : FuncData) : Fields := (fd.params, fd.body, fd.scope, fd.closure, fd.globals, fd.builtins, fd.defaults, fd.kwdefaults)
noncomputable def due : Fields := (rcI.params, .stmts rcI.body, rcI.scope, [], mainGlobals, builtinsNs, .none, .none)
noncomputable def rdAt (h : Heap) (x : Str) (d : PyData) : Bool := match h.nsMap mainGlobals x with
  | some v => rdOk h 4 v d
  | none => false
theorem rdAt_is {h : Heap} {x : Str} {d : PyData} (e : rdAt h x d = true) : ∃ v, h.nsMap mainGlobals x = some v ∧ Rd (Solid h) v d := by
  unfold rdAt at e
  split at e
  · rename_i v q
    exact ⟨v, q, rdOk_is e⟩
  · cases e
structure CasAt (h : Heap) (mg : Str → Option Value) (C N f : Addr) (fd : FuncData) (mN : Str → Option Value) : Prop where
  name : mg "CasFail" = some (.ref C)
  cls : ClsK h C N f mN
  get : mN "__getattribute__" = none ∧ mN "__getattr__" = none
  fn : ∃ fo, h.get? f = some fo ∧ fo.data = .func fd ∧ fo.cls = .type "function"
  code : h.CodeRec fd.code fd.qualname
  due : fieldsOf fd = due
structure Facts (h : Heap) : Prop where
  ex : ∃ mg, h.Ns mainGlobals mg ∧ (∃ v, mg "R0" = some v ∧ Rd (Solid h) v (.tuple [.int 0, .int 1])) ∧ (∃ v, mg "R1" = some v ∧ Rd (Solid h) v (.tuple [.int 1, .int 1])) ∧ (∃ v, mg "F0" = some v ∧ Rd (Solid h) v (.tuple [.list [], .list [.tuple [.int 1, .int 1]]])) ∧
    ∃ C N f fd mN, CasAt h mg C N f fd mN
noncomputable def seen (s : Shared) : Bool × Option Fields := (s.heap.isNs mainGlobals && (rdAt s.heap "R0" (.tuple [.int 0, .int 1]) && (rdAt s.heap "R1" (.tuple [.int 1, .int 1]) && rdAt s.heap "F0" (.tuple [.list [], .list [.tuple [.int 1, .int 1]]]))), (casSeen s.heap).map fieldsOf)
theorem seen_is {s : Shared} (e : seen s = (true, some due)) : Facts s.heap := by
  obtain ⟨e1, e2⟩ := Prod.mk.inj e
  obtain ⟨n1, e1⟩ := Bool.and_eq_true_iff.mp e1
  obtain ⟨r0, e1⟩ := Bool.and_eq_true_iff.mp e1
  obtain ⟨r1, f0⟩ := Bool.and_eq_true_iff.mp e1
  obtain ⟨fd, c1, c2⟩ := Option.map_eq_some_iff.mp e2
  refine ⟨_, .of_isNs n1, rdAt_is r0, rdAt_is r1, rdAt_is f0, ?_⟩
  obtain ⟨v, hC, c1⟩ := Option.bind_eq_some_iff.mp c1
  obtain ⟨C, hv, c1⟩ := Option.bind_eq_some_iff.mp c1
  obtain ⟨N, hN, c1⟩ := Option.bind_eq_some_iff.mp c1
  rw [refOf_is hv] at hC
  by_cases c : s.heap.isNs N = true ∧ (s.heap.nsMap N "__setattr__").isNone = true ∧ (s.heap.nsMap N "kind").isNone = true ∧ (s.heap.nsMap N "text").isNone = true ∧ (s.heap.nsMap N "__getattribute__").isNone = true ∧ (s.heap.nsMap N "__getattr__").isNone = true
  · rw [if_pos c] at c1
    refine genP fun gP hgP => ?_
    obtain ⟨i1, i2, i3, i4, i5, i6⟩ := c
    refine hgP ?_
    clear hgP
    obtain ⟨f, i7, c1⟩ := Option.bind_eq_some_iff.mp c1
    refine genP fun gP hgP => ?_
    obtain ⟨a, fo, q, g1, g2, g3, g4⟩ := fnSeen_is c1
    refine hgP ?_
    clear hgP
    rw [q] at i7
    have no : ∀ {x : Option Value}, x.isNone = true → x = none := fun {x} => Option.isNone_iff_eq_none.mp
    exact ⟨C, N, a, fd, _, hC, ⟨clsSeen_is hN, .of_isNs i1, i7, no i2, no i3, no i4⟩, ⟨no i5, no i6⟩, ⟨fo, g1, g2, g3⟩, g4, c2⟩
  · rw [if_neg c] at c1; cases c1
theorem Facts.map {h h' : Heap} (F : Facts h) (hn : ∀ a m, h.Ns a m → h'.Ns a m) (hr : ∀ a o, Solid h a o → Solid h' a o) (hk : ∀ a o, h.get? a = some o → o ≠ tabObj #[] → h'.get? a = some o) : Facts h' := by
  refine genP fun gP hgP => ?_
  obtain ⟨mg, g, ⟨v0, a0, b0⟩, ⟨v1, a1, b1⟩, ⟨v2, a2, b2⟩, C, N, f, fd, mN, c1, ⟨⟨rr, c2⟩, c3, c4, c5, c6, c7⟩, c8, ⟨fo, d1, d2, d3⟩, ⟨cc, co, vs, t, e1, e2, e3, e4⟩, c9⟩ := F.ex
  refine hgP ?_
  clear hgP
  exact ⟨mg, hn _ _ g, ⟨v0, a0, b0.mono hr⟩, ⟨v1, a1, b1.mono hr⟩, ⟨v2, a2, b2.mono hr⟩, C, N, f, fd, mN, c1, ⟨⟨rr, hk _ _ c2 (fun z => by cases z)⟩, hn _ _ c3, c4, c5, c6, c7⟩, c8,
    ⟨fo, hk _ _ d1 (fun z => by rw [z] at d3; cases d3), d2, d3⟩, ⟨cc, co, vs, t, e1, hk _ _ e2 (fun z => by rw [z] at e3; cases e3; simp at e4), e3, e4⟩, c9⟩
theorem Facts.keeps {h h' : Heap} (F : Facts h) (k : ∀ b o, h.get? b = some o → h'.get? b = some o) : Facts h' := F.map (fun _ _ n => n.keeps k) (fun a o q => ⟨k a o q.1, q.2⟩) fun a o e _ => k a o e
noncomputable def HK : Hook := ⟨Bool × Option Fields, seen, fun _ => (true, some due), fun _ h => Facts h, fun _ s e => seen_is e, fun _ _ _ F k => F.keeps k⟩
theorem left : LeftO PySem.Challenge.rw_pf0043_01.row.prog view ["F0"] (fun s => xlAt view [] s && recOk (RowW.records PySem.Challenge.rw_pf0043_01.row.toRowW) s) HK.obs HK.val 2954 := by
  intro w
  kernel_rfl
theorem recs_are : recsOf view = [1, 2, 3, 6, 7, 8, 9, 10, 11, 12, 13, 14, 15, 16, 17, 18, 19, 20, 21, 22, 23, 25, 26, 27, 28, 29, 30, 31, 32, 33, 34, 35, 36, 37, 38, 39, 40].map rc := by rfl
section
variable {h : Heap} {mg mb : Str → Option Value} {loose : List Str} {mean : ExcName → Option Value} {c P : Addr}
noncomputable abbrev GH (h : Heap) (c P : Addr) : Heap := ghostOf h [(c, P)]
structure Head (loose : List Str) (mean : ExcName → Option Value) (mg mb : Str → Option Value) (h : Heap) (c P : Addr) : Prop where
  F : Facts h
  T : Top view loose mean mg mb h
  tabs : TabsAt [(c, P)] h
  code : ∃ a fo fd, mg "_law_series_right" = some (.ref a) ∧ h.get? a = some fo ∧ fo.data = .func fd ∧ fd.code = .ref c
  free : ∀ x ∈ (["range", "enumerate", "zip", "list", "int", "abs", "len", "max", "min", "sum", "Exception"] : List Str), mg x = none
theorem Head.mem (n : Nat) (hn : (1 ≤ n ∧ n ≤ 3) ∨ (6 ≤ n ∧ n ≤ 23) ∨ (25 ≤ n ∧ n ≤ 40)) : rc n ∈ recsOf view := by
  rw [recs_are]
  refine List.mem_map_of_mem ?_
  have key : ∀ n < 41, ((1 ≤ n ∧ n ≤ 3) ∨ (6 ≤ n ∧ n ≤ 23) ∨ (25 ≤ n ∧ n ≤ 40)) → n ∈ [1, 2, 3, 6, 7, 8, 9, 10, 11, 12, 13, 14, 15, 16, 17, 18, 19, 20, 21, 22, 23, 25, 26, 27, 28, 29, 30, 31, 32, 33, 34, 35, 36, 37, 38, 39, 40] := by decide
  exact key n (by (first | lia | omega)) hn
theorem free_ok : (["range", "enumerate", "zip", "list", "int", "abs", "len", "max", "min", "sum", "Exception"] : List Str).all (fun x => !startupNames.contains x && !(looseW view ["F0"]).contains x && !((recsOf view).map (·.name)).contains x && !((litsOf view).map (·.1)).contains x && !((clssOf view (looseW view ["F0"])).map (·.name)).contains x) = true := by decide +kernel
theorem head_of (F : Facts h) (T : Top view (looseW view ["F0"]) mean mg mb h) : ∃ c P, Head (looseW view ["F0"]) mean mg mb h c P := by
  refine genP fun gP hgP => ?_
  obtain ⟨a, o, fd, c, P, h1, h2, h3, h4, h5, h6⟩ := T.tab _ (Head.mem 39 (by decide))
  refine hgP ?_
  clear hgP
  refine ⟨c, P, F, T, fun q hq => ?_, ⟨a, o, fd, h1, h2, h3, h4⟩, fun x hx => ?_⟩
  · rw [List.mem_singleton.mp hq]
    exact ⟨CodeHd.of h5 h6, h6.2⟩
  · have := List.all_eq_true.mp free_ok x hx
    simp only [Bool.and_eq_true, Bool.not_eq_true', List.contains_eq_mem, decide_eq_false_iff_not] at this
    refine genP fun gP hgP => ?_
    obtain ⟨⟨⟨⟨q1, q2⟩, q3⟩, q4⟩, q5⟩ := this
    refine hgP ?_
    clear hgP
    exact T.free x q1 q2 q3 q4 q5
theorem Head.FG (H : Head loose mean mg mb h c P) : Facts (GH h c P) := H.F.map (fun _ _ n => ghost_ns H.tabs n) (fun a o q => ⟨ghost_get H.tabs q.1 q.2, q.2⟩) fun a o e q => ghost_get H.tabs e q
theorem Head.pf (H : Head loose mean mg mb h c P) (n : Nat) (hn : (1 ≤ n ∧ n ≤ 3) ∨ (6 ≤ n ∧ n ≤ 23) ∨ (25 ≤ n ∧ n ≤ 40)) : PF (GH h c P) mg (rc n) := by
  refine genP fun gP hgP => ?_
  obtain ⟨a, o, pm, code, doc, h1, h2, h3, c, oc, vs, t, h4, h5, h6, h7⟩ := H.T.fn _ (Head.mem n hn)
  refine hgP ?_
  clear hgP
  refine ⟨a, o, pm, code, doc, h1, ghost_get H.tabs h2 (fun q => by rw [q] at h3; cases h3), h3, c, oc, vs, t, h4, ghost_get H.tabs h5 (fun q => by rw [q] at h6; cases h6; simp at h7), h6, h7⟩
theorem Head.boot (H : Head loose mean mg mb h c P) {x : Str} {v : Value} (h1 : (["range", "enumerate", "zip", "list", "int", "abs", "len", "max", "min", "sum", "Exception"] : List Str).contains x = true) (h2 : bootBuiltins x = some v) (h3 : x ≠ "__name__") : LoadsG mg mb x v :=
  .inr ⟨H.free x (by simpa using h1), by rw [H.T.builtins x h3]; exact h2⟩
theorem Head.seer (H : Head loose mean mg mb h c P) : (GH h c P).NoSeer := by
  have S := H.T.seer (by rfl)
  have hT := H.tabs
  exact ⟨let ⟨mc, a, b⟩ := S.statics; ⟨mc, ghost_ns hT a, b⟩, let ⟨mc, a, b⟩ := S.mods; ⟨mc, ghost_ns hT a, b⟩, let ⟨mc, a, b⟩ := S.imp; ⟨mc, ghost_ns hT a, b⟩,
    let ⟨mg, bm, ob, a, b, c, d, e⟩ := S.main; ⟨mg, bm, ob, ghost_ns hT a, b, ghost_get hT c (fun q => by rw [q] at d; cases d), d, e⟩⟩
theorem Head.base (H : Head loose mean mg mb h c P) {prog : Program} (ht : prog.given.tree = none) : Base prog (GH h c P) mg mb := by
  have T' := ghost_top H.tabs H.T
  refine genP fun gP hgP => ?_
  obtain ⟨mg', g, ⟨v0, a0, b0⟩, ⟨v1, a1, b1⟩, ⟨v2, a2, b2⟩, _⟩ := H.FG.ex
  refine hgP ?_
  clear hgP
  have e := ns_same g T'.g
  subst e
  have bt : ∀ {x : Str} {v : Value}, (["range", "enumerate", "zip", "list", "int", "abs", "len", "max", "min", "sum", "Exception"] : List Str).contains x = true → bootBuiltins x = some v → x ≠ "__name__" → LoadsG mg' mb x v := H.boot
  refine ⟨⟨T'.g, T'.b, T'.nolimit, H.seer, ht⟩, fun x d e => ?_, bt (by decide +kernel) (by decide +kernel) (by decide +kernel), bt (by decide +kernel) (by decide +kernel) (by decide +kernel), bt (by decide +kernel) (by decide +kernel) (by decide +kernel), bt (by decide +kernel) (by decide +kernel) (by decide +kernel),
    bt (by decide +kernel) (by decide +kernel) (by decide +kernel), bt (by decide +kernel) (by decide +kernel) (by decide +kernel), bt (by decide +kernel) (by decide +kernel) (by decide +kernel), bt (by decide +kernel) (by decide +kernel) (by decide +kernel), bt (by decide +kernel) (by decide +kernel) (by decide +kernel), bt (by decide +kernel) (by decide +kernel) (by decide +kernel)⟩
  have mo : ∀ a o, Solid (GH h c P) a o → (GH h c P).get? a = some o := fun a o q => q.1
  unfold Gl at e
  split at e
  · rename_i q
    subst q; cases e
    exact ⟨v0, a0, b0.mono mo⟩
  · split at e
    · rename_i q
      subst q; cases e
      exact ⟨v1, a1, b1.mono mo⟩
    · split at e
      · rename_i q
        subst q; cases e
        exact ⟨v2, a2, b2.mono mo⟩
      · cases e
theorem Head.cas (H : Head loose mean mg mb h c P) : ∃ C, CasIs (GH h c P) mg mb C := by
  have T' := ghost_top H.tabs H.T
  refine genP fun gP hgP => ?_
  obtain ⟨mg', g, _, _, _, C, N, f, fd, mN, c1, c2, c3, ⟨fo, d1, d2, d3⟩, c4, c5⟩ := H.FG.ex
  refine hgP ?_
  clear hgP
  have e := ns_same g T'.g
  subst e
  unfold fieldsOf due at c5
  refine genP fun gP hgP => ?_
  obtain ⟨nm, qn, params, fb, scope, globals, closure, defaults, kwdefaults, doc, pm, ann, code, ct, bui⟩ := fd
  refine hgP ?_
  clear hgP
  simp only [Prod.mk.injEq] at c5
  refine genP fun gP hgP => ?_
  obtain ⟨rfl, rfl, rfl, rfl, rfl, rfl, rfl, rfl⟩ := c5
  refine hgP ?_
  clear hgP
  exact ⟨C, ⟨⟨N, f, mN, _, c2, c3, ⟨⟨fo, d1, d2⟩, c4, rfl, rfl, rfl, rfl, fun vals h => (by obtain ⟨a, b, c, rfl⟩ := len_three h; rfl), (by show scopeOk rcI.scope _ = true; decide +kernel)⟩, rfl, ⟨fo, d1, d2, d3⟩⟩, .inl c1, H.boot (by decide +kernel) (by decide +kernel) (by decide +kernel)⟩⟩
theorem Head.hd (H : Head loose mean mg mb h c P) : CodeHd (GH h c P) c P := (ghost_code H.tabs).1
theorem Head.tab (H : Head loose mean mg mb h c P) : h.get? P = some (tabObj #[]) := (H.tabs (c, P) (.head _)).2
theorem Head.none (H : Head loose mean mg mb h c P) : (GH h c P).get? P = .none := hideAll_none _ (by simp)
theorem Head.up (H : Head loose mean mg mb h c P) : Up (GH h c P) h := fun b o e => of_hideAll _ e
theorem Head.bui (H : Head loose mean mg mb h c P) : (GH h c P).BuiltinsAt mg P := by
  have T' := ghost_top H.tabs H.T
  refine genP fun gP hgP => ?_
  obtain ⟨bm, ob, b1, b2, b3, b4, b5, b6⟩ := T'.bmain
  refine hgP ?_
  clear hgP
  refine ⟨bm, ob, b1, b2, fun q => ?_, fun q => ?_, b3, b4, b5, b6⟩
  · refine genP fun gP hgP => ?_
    obtain ⟨o, es, ep, e, hd, _⟩ := T'.g
    refine hgP ?_
    clear hgP
    rw [q, e] at b3; cases b3; rw [hd] at b6; cases b6
  · rw [q, H.none] at b3; cases b3
end
section
variable {prog : Program} {w : World} {hT : Heap} {mg mb : Str → Option Value} {k : Nat}
theorem OkAll.one {g : Str} {r : List Str} {j : Nat} (a : Ok prog w hT mg mb j g) (hj : j ≤ k) (b : OkAll prog w hT mg mb k r) : OkAll prog w hT mg mb k (g :: r) := ⟨a.more hj, b⟩
theorem kindOk_of (C : Cx prog hT mg mb) {CA : Addr} (D : CasIs hT mg mb CA) (GL0 : Glob prog w hT mg mb k Fn Gl (gsOf [])) {a q : Addr} {fd : FuncData} (f : FnIs hT a fd (rc 34).body ["work", "args"]) (hsc : fd.scope = (rc 34).scope) (hl : LoadsG mg mb "_law_kind" (.ref a)) {d0 d1 d2 : PyData} {kd : Str} {x : XC} {n : XS}
    (hq : ∃ fo fd, hT.get? q = some fo ∧ fo.data = .func fd) (hR : ∀ x : XC, XRaise prog w hT k CA x (FnAt q) (.ref q) [.d d0, .d d1, .d d2] n kd) : KindOk prog w hT mg mb (k + 1) x (.ref q) [d0, d1, d2] n kd :=
  ⟨a, hl, f.kept, fun L A s B vs E hA hU hW hX r => kind_ok C D GL0 f hsc (H := FnAt q) (fun h h' ⟨oc, od, fd, sl, e⟩ k => ⟨oc, od, fd, sl, k _ _ e⟩) (fun h a => a) (fun L' => hR _) hA hU hW hX (by
    obtain ⟨⟨oc, od, dt, sl⟩, fd, e, hd⟩ := hq
    simp only at hd
    subst hd
    exact ⟨oc, od, fd, sl, hU _ _ e⟩) r⟩
theorem ints_rd {W : Addr → Prop} {h : Heap} : ∀ {vs : List Value} {ns : List Int}, IntsAre vs ns → RdAll (PW W h) vs (ns.map PyData.int)
  | _, _, .nil => .nil
  | _, _, .cons n t r => .cons (.int n t) (ints_rd r)
theorem head_law {loose : List Str} {mean : ExcName → Option Value} {s : Shared} {c P : Addr} (H : Head loose mean mg mb s.heap c P) (ht : prog.given.tree = none) {fa l : Addr} {scr : List Int} {vs : Array Value} (hfa : mg "law" = some (.ref fa)) (hl : s.heap.IsList l vs) (hi : IntsAre vs.toList scr) (hlen : scr.length ≤ 63) :
    codeAny (model prog w) callerA (.call (.ref fa) ⟨[.ref l], []⟩) (fun r s' => r = .ok (.ret (.bool true)) ∧ (∀ b o, (GH s.heap c P).get? b = some o → s'.heap.get? b = some o) ∧ s'.os = s.os ∧ s'.gens = s.gens ∧ ∃ ps, s'.heap.get? P = some (tabObj ps)) s := by
  have B := H.base ht
  have C := B.C
  obtain ⟨CA, D⟩ := H.cas
  have pf := H.pf
  have L := lib_ok (w := w) B pf
  have oR : ∀ {k}, Ok prog w (GH s.heap c P) mg mb k "range" := ok_no B.range (.inr (.inl ⟨_, rfl⟩)) no_range
  have abs : ∀ {k}, Ok prog w (GH s.heap c P) mg mb k "abs" := ok_abs B.abs
  have len : ∀ {k}, Ok prog w (GH s.heap c P) mg mb k "len" := ok_len B.len
  have max : ∀ {k}, Ok prog w (GH s.heap c P) mg mb k "max" := ok_max B.max
  have min : ∀ {k}, Ok prog w (GH s.heap c P) mg mb k "min" := ok_min B.min
  have list : ∀ {k}, Ok prog w (GH s.heap c P) mg mb k "list" := ok_list B.list
  have int : ∀ {k}, Ok prog w (GH s.heap c P) mg mb k "int" := ok_int B.int
  have sum : ∀ {k}, Ok prog w (GH s.heap c P) mg mb k "sum" := ok_sum B.sum
  refine genP fun gP hgP => ?_
  obtain ⟨da, dfd, dm, dF, dS⟩ := FnIs.of (pf 33 (by decide)) rfl ["pool", "many"] (fun pm code doc vals h => by obtain ⟨a, b, rfl⟩ := len_two h; rfl) (by decide +kernel)
  refine hgP ?_
  clear hgP
  refine genP fun gP hgP => ?_
  obtain ⟨ka, kfd, km, kF, kS⟩ := FnIs.of (pf 34 (by decide)) rfl ["work", "args"] (fun pm code doc vals h => by obtain ⟨a, b, rfl⟩ := len_two h; rfl) (by decide +kernel)
  refine hgP ?_
  clear hgP
  refine genP fun gP hgP => ?_
  obtain ⟨pa, pfd, pm', pF, pS⟩ := FnIs.of (pf 37 (by decide)) rfl ["pool", "steps", "first"] (fun pm code doc vals h => by obtain ⟨a, b, c, rfl⟩ := len_three h; rfl) (by decide +kernel)
  refine hgP ?_
  clear hgP
  refine genP fun gP hgP => ?_
  obtain ⟨ra, rfd, rm, rF, rS⟩ := FnIs.of (pf 38 (by decide)) rfl ["steps", "first"] (fun pm code doc vals h => by obtain ⟨a, b, rfl⟩ := len_two h; rfl) (by decide +kernel)
  refine hgP ?_
  clear hgP
  refine genP fun gP hgP => ?_
  obtain ⟨sa, sfd, sm, sF, sS⟩ := FnIs.of (pf 39 (by decide)) rfl ["pool", "steps", "first"] (fun pm code doc vals h => by obtain ⟨a, b, c, rfl⟩ := len_three h; rfl) (by decide +kernel)
  refine hgP ?_
  clear hgP
  refine genP fun gP hgP => ?_
  obtain ⟨la, lfd, lm, lF, lS⟩ := FnIs.of (pf 40 (by decide)) rfl ["script"] (fun pm code doc vals h => by obtain ⟨a, rfl⟩ := len_one h; rfl) (by decide +kernel)
  refine hgP ?_
  clear hgP
  refine genP fun gP hgP => ?_
  obtain ⟨qa, qfd, qm, qF, qS⟩ := FnIs.of (pf 27 (by decide)) rfl ["steps", "first", "many"] (fun pm code doc vals h => by obtain ⟨a, b, c, rfl⟩ := len_three h; rfl) (by decide +kernel)
  refine hgP ?_
  clear hgP
  refine genP fun gP hgP => ?_
  obtain ⟨na, nfd, nm, nF, nS⟩ := FnIs.of (pf 32 (by decide)) rfl ["f", "many"] (fun pm code doc vals h => by obtain ⟨a, b, rfl⟩ := len_two h; rfl) (by decide +kernel)
  refine hgP ?_
  clear hgP
  have hD : ∀ (x : XC) (n : XS) (m : Int), x.cells.length ≤ 30 → n.1 ≤ 1000 → 0 < m → m ≤ 1000 → XCall prog w (GH s.heap c P) 10 x (.ref da) [.val (.ref x.p), .d (I m)] n (fun d n' => n' = (n.1 + 1, n.2) ∧ ∃ v : Int, d = I v ∧ 0 ≤ v ∧ v < m) := fun x n m hc hn hm hm2 =>
    draw_ok C (glob_of (k := 9) B ⟨len, abs, trivial⟩) dF dS hc hn hm hm2
  have hDk : ∀ {k : Nat}, 10 ≤ k → ∀ x : XC, x.cells.length ≤ 30 → DrawOk prog w (GH s.heap c P) mg mb k x := fun hk x hc => ⟨da, .inl dm, dF.kept, fun L n m hn hm hm2 => (hD (x.at L) n m hc hn hm hm2).more hk⟩
  have small : ∀ (steps first : List Int), (∀ z ∈ steps, -2 ≤ z ∧ z ≤ 2) → (∀ z ∈ first, -3 ≤ z ∧ z ≤ 3) → (∀ z ∈ steps, Bz 8 z) ∧ (∀ z ∈ first, Bz 8 z) := fun steps first hs hf =>
    ⟨bz_small (c := 2) (fun z hz => hs z hz) (by decide), bz_small (c := 3) (fun z hz => hf z hz) (by decide)⟩
  have hRR : ∀ (x : XC) (n : XS) (steps first : List Int), first.length ≠ steps.length → first.length ≤ 100 → steps.length ≤ 100 → XRaise prog w (GH s.heap c P) 10 CA x (FnAt qa) (.ref qa) [.d (V steps), .d (V first), .d (I 5)] n "shape" := fun x n steps first h1 h2 h3 =>
    rr_raises (k := 7) C D (glob_of B ⟨len, list, L.next_number, trivial⟩) qF qS h1 h2 h3
  have hSN : SnRaises prog w (GH s.heap c P) mg mb 10 CA := ⟨.ref na, .inl nm, nF.kept, fun x n top bottom many h0 hz =>
    sn_raises (k := 7) C D (glob_of B ⟨len, min, oR, L.rsub, L.rmul, L.rdiv, trivial⟩) nF nS h0 hz⟩
  have qg : ∃ fo fd, (GH s.heap c P).get? qa = some fo ∧ fo.data = .func fd := let ⟨fo, a, b⟩ := qF.get; ⟨fo, _, a, b⟩
  have hcode : sfd.code = .ref c := by
    obtain ⟨fo, a, b⟩ := sF.get
    refine genP fun gP hgP => ?_
    obtain ⟨a', fo', fd', e1, e2, e3, e4⟩ := H.code
    refine hgP ?_
    clear hgP
    have q : some (Value.ref sa) = some (.ref a') := sm.symm.trans e1
    cases q
    rw [H.up _ _ a] at e2; cases e2
    rw [b] at e3; cases e3
    exact e4
  have hrest : ∀ (x : XC) (args : PyData), x.P = P → x.cells.length ≤ 30 → XExec prog w (GH s.heap c P) 14 (rc 40).scope x ((rc 40).body.drop 1) [D1 "script" args, ("pool", .val (.ref x.p))] (0, true) (fun o m => o = .ret (.bool true)) := fun x args hP hc => by
    refine law_rest (da := da) (pa := pa) (ra := ra) (sa := sa) C (glob_of B ⟨oR, trivial⟩) hP hc ⟨.inl dm, dF.kept⟩ (fun x n m a b c d => (hD x n m a b c d).more (by decide)) ⟨.inl pm', pF.kept⟩ (fun x n steps first hc h1 h2 hs hf hn => ?_) ⟨.inl rm, rF.kept⟩ (fun x n steps first h1 h2 hs hf => ?_) ⟨.inl sm, sF.kept⟩ (fun x n steps first hP hc h1 h2 hs hf hn hn2 => ?_)
    · obtain ⟨b1, b2⟩ := small steps first hs hf
      exact (powers_ok (k := 10) C (glob_of B ⟨len, oR, L.step_matrix.more (by decide), int, list, L.law_product.more (by decide), L.matrix_raised.more (by decide), L.law_numbers.more (by decide), sum, trivial⟩) (hDk (by decide) x hc) pF pS h1 h2 b1 b2 hn).more (by decide)
    · obtain ⟨b1, b2⟩ := small steps first hs hf
      exact (rows_ok (k := 11) C (glob_of B ⟨len, oR, max, L.law_numbers.more (by decide), L.recurrence_row.more (by decide), L.number_at.more (by decide), L.next_number.more (by decide), trivial⟩) (.inl qm) rF rS h1 h2 b1 b2
        (kindOk_of C D (glob_of B trivial) kF kS (.inl km) qg fun x => hRR x n _ _ (by simp; (first | lia | omega)) (by simp; (first | lia | omega)) (by (first | lia | omega)))
        (fun hpos => kindOk_of C D (glob_of B trivial) kF kS (.inl km) qg fun x => hRR x n _ _ (by simp; (first | lia | omega)) (by simp; (first | lia | omega)) (by (first | lia | omega)))).more (by decide)
    · exact (series_ok (k := 10) C D (glob_of B trivial) (glob_of B trivial) (glob_of B ⟨L.generating.more (by decide), L.law_numbers.more (by decide), L.series_numbers.more (by decide), trivial⟩) (hDk (by decide) x hc) hSN kF kS (.inl km) sF sS hcode (hP ▸ H.hd) (hP ▸ H.bui) h1 h2 hs hf hn hn2).more (by decide)
  have ela : la = fa := by
    have : mg (rc 40).name = some (.ref fa) := hfa
    have e : some (Value.ref la) = some (.ref fa) := lm.symm.trans hfa
    cases e; rfl
  subst ela
  have hPl : l ≠ P := fun q => by
    refine genP fun gP hgP => ?_
    obtain ⟨o, ho, hc, _⟩ := hl
    refine hgP ?_
    clear hgP
    rw [q, H.tab] at ho; cases ho; cases hc
  exact law_entry B (P0 := P) (glob_of B ⟨int, trivial⟩) hrest lF lS H.up H.tab H.none (Rd.ofList hl hPl (ints_rd hi)) hlen
end
theorem finish {w : World} {s₁ : Shared} {mg mb : Str → Option Value} {mean : ExcName → Option Value} {cl : Str → Option Addr} {mean' : ExcName → Option Value} (F : Facts s₁.heap) (T : Top view (looseW view ["F0"]) mean mg mb s₁.heap)
    (hg : s₁.gens = #[]) {fa l : Addr} {scr : List Int} {vs : List Value} (hfa : mg "law" = some (.ref fa)) (hl : s₁.heap.IsList l vs.toArray) (hi : IntsAre vs scr) (hlen : ¬ ((63 : Nat) : Int) < (scr.length : Int)) :
    codeAny (model PySem.Challenge.rw_pf0043_01.row.prog w) callerA (.call (.ref fa) ⟨[.ref l], []⟩) (GoodWG PySem.Challenge.rw_pf0043_01.row.claim cl mean' [ofPy (PyData.list (List.map PyData.int scr))] s₁) s₁ := by
  obtain ⟨c, P, H⟩ := head_of F T
  refine kn_post (tabs := [(c, P)]) H.tabs (fun _ _ => rfl) (codeAny_mono (head_law H rfl hfa hl hi (by (first | lia | omega))) fun r s' x => ?_)
  obtain ⟨e, k, os, g, gr⟩ := x
  refine ⟨⟨.inl ⟨.bool true, ofPy (.bool true), [], e, fun _ => rfl, ?_, ?_, fun _ => ⟨List.nodup_nil, fun _ h => by cases h⟩⟩, k, os, g.trans hg⟩, gr, trivial⟩
  · exact .bool true
  · wrow_post
end Mine
theorem PySem.Challenge.cw_pf0043_01_holds : PySem.Challenge.rw_pf0043_01.Holds := by
  refine holds_law Mine.lawOk fun said => ?_
  refine holds_open (q := Mine.view) (loose := ["F0"]) (Xt := fun s => xlAt Mine.view [] s && recOk (RowW.records PySem.Challenge.rw_pf0043_01.row.toRowW) s) (XP := XL Mine.view []) (Yf := Mine.HK.obs) (Ya := Mine.HK.val) (YP := Mine.HK.says) (N := 2954)
    Mine.left Mine.HK.of Mine.HK.keeps (fun s e => xl_of s (Bool.and_eq_true_iff.mp e).1) XL.keeps (by rfl) (by rfl) (by rfl) (fun s e => recFacts_of (Bool.and_eq_true_iff.mp e).2) (by rfl) said (by decide +kernel) ⟨rfl, rfl, rfl, rfl, rfl, by decide +kernel⟩ ?hw ?hc
  case hw => exact ⟨[.list []], by decide +kernel, by decide +kernel⟩
  intro w s₀ s₁ mg mb G Y fa o pm cd doc dV kV ho hd' hcd hD hmg hg args vals as hpre hlay hrd hwl hlo
  refine Ground.open G ?_
  intro T B D TE TW
  clear D TE TW B
  wrow_args hpre hlay hrd hwl hlo
  first | refine callC_kw (enter_call ?_) | refine enter_call ?_
  exact Mine.finish Y T hg hmg (by assumption) (by assumption) (by assumption)
