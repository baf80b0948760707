import PyProof.Rows.All
import Wide.All
import OpenK.AllK
import Wide.FinOn
import PySem.Challenge.RW_tk0012_01
set_option Elab.async false
set_option maxRecDepth 100000
set_option linter.unusedVariables false
set_option linter.unusedSimpArgs false
section
set_option maxRecDepth 100000
namespace Mine
open PySem PySem.Calls PyProof.Rows

/-- abstract data: a list is a place in an abstract heap; `ext` a list of the world's that nobody changes -/
inductive DV where
  | none
  | bool (b : Bool)
  | int (i : Int)
  | tup (ds : List DV)
  | ext (ds : List DV)
  | ref (i : Nat)

abbrev DH := List (List DV)

mutual
inductive VR (S h : Heap) (adr : List Addr) : Value → DV → Prop
  | none : VR S h adr Value.none DV.none
  | bool (b : Bool) : VR S h adr (Value.bool b) (DV.bool b)
  | int (i : Int) (t : Tok) : VR S h adr (Value.int i t) (DV.int i)
  | tup {a : Addr} {vs : List Value} {ds : List DV} : h.IsTuple a vs.toArray → VRs S h adr vs ds → VR S h adr (Value.ref a) (DV.tup ds)
  | ext {a : Addr} {vs : List Value} {ds : List DV} : S.IsList a vs.toArray → VRs S h adr vs ds → VR S h adr (Value.ref a) (DV.ext ds)
  | ref {a : Addr} {i : Nat} : adr[i]? = some a → VR S h adr (Value.ref a) (DV.ref i)
inductive VRs (S h : Heap) (adr : List Addr) : List Value → List DV → Prop
  | nil : VRs S h adr [] []
  | cons {v : Value} {vs : List Value} {d : DV} {ds : List DV} : VR S h adr v d → VRs S h adr vs ds → VRs S h adr (v :: vs) (d :: ds)
end

theorem VR.int_inv {S h : Heap} {adr : List Addr} {v : Value} {i : Int} (x : VR S h adr v (.int i)) : ∃ t, v = .int i t := by cases x with | int _ t => exact ⟨t, rfl⟩
theorem VR.bool_inv {S h : Heap} {adr : List Addr} {v : Value} {b : Bool} (x : VR S h adr v (.bool b)) : v = .bool b := by cases x; rfl
theorem VR.ref_inv {S h : Heap} {adr : List Addr} {v : Value} {i : Nat} (x : VR S h adr v (.ref i)) : ∃ a, v = .ref a ∧ adr[i]? = some a := by cases x with | ref h => exact ⟨_, rfl, h⟩
theorem VR.tup_inv {S h : Heap} {adr : List Addr} {v : Value} {ds : List DV} (x : VR S h adr v (.tup ds)) : ∃ a vs, v = .ref a ∧ h.IsTuple a (List.toArray vs) ∧ VRs S h adr vs ds := by cases x with | tup h r => exact ⟨_, _, rfl, h, r⟩
theorem VR.ext_inv {S h : Heap} {adr : List Addr} {v : Value} {ds : List DV} (x : VR S h adr v (.ext ds)) : ∃ a vs, v = .ref a ∧ S.IsList a (List.toArray vs) ∧ VRs S h adr vs ds := by cases x with | ext h r => exact ⟨_, _, rfl, h, r⟩
theorem VRs.cons_inv {S h : Heap} {adr : List Addr} {vs : List Value} {d : DV} {ds : List DV} (x : VRs S h adr vs (d :: ds)) : ∃ v us, vs = v :: us ∧ VR S h adr v d ∧ VRs S h adr us ds := by cases x with | cons h r => exact ⟨_, _, rfl, h, r⟩
theorem VRs.nil_inv {S h : Heap} {adr : List Addr} {vs : List Value} (x : VRs S h adr vs []) : vs = [] := by cases x; rfl
mutual
theorem VR.mono {S h h' : Heap} {adr adr' : List Addr} (ht : ∀ a (vs : Array Value), h.IsTuple a vs → h'.IsTuple a vs) (ha : ∀ (i : Nat) (a : Addr), adr[i]? = some a → adr'[i]? = some a) :
    ∀ {v : Value} {d : DV}, VR S h adr v d → VR S h' adr' v d
  | _, _, .none => .none
  | _, _, .bool b => .bool b
  | _, _, .int i t => .int i t
  | _, _, .tup h r => .tup (ht _ _ h) (VRs.mono ht ha r)
  | _, _, .ext h r => .ext h (VRs.mono ht ha r)
  | _, _, .ref h => .ref (ha _ _ h)
theorem VRs.mono {S h h' : Heap} {adr adr' : List Addr} (ht : ∀ a (vs : Array Value), h.IsTuple a vs → h'.IsTuple a vs) (ha : ∀ (i : Nat) (a : Addr), adr[i]? = some a → adr'[i]? = some a) :
    ∀ {vs : List Value} {ds : List DV}, VRs S h adr vs ds → VRs S h' adr' vs ds
  | _, _, .nil => .nil
  | _, _, .cons h r => .cons (VR.mono ht ha h) (VRs.mono ht ha r)
end
section
variable {S h : Heap} {adr : List Addr} {vs ws : List Value} {ds es : List DV} {v : Value} {d : DV}
theorem VRs.length (x : VRs S h adr vs ds) : vs.length = ds.length := by
  induction vs generalizing ds with
  | nil => cases x; rfl
  | cons v vs ih => cases x with | cons _ r => rw [List.length_cons, List.length_cons, ih r]
theorem VRs.append (x : VRs S h adr vs ds) (y : VRs S h adr ws es) : VRs S h adr (vs ++ ws) (ds ++ es) := by
  induction vs generalizing ds with
  | nil => cases x; exact y
  | cons v vs ih => cases x with | cons h r => exact .cons h (ih r)
theorem VRs.get (x : VRs S h adr vs ds) {k : Nat} (hk : ds[k]? = some d) : ∃ v, vs[k]? = some v ∧ VR S h adr v d := by
  induction vs generalizing ds k with
  | nil => cases x; simp at hk
  | cons v vs ih =>
    cases x with
    | cons h r =>
      cases k with
      | zero => simp at hk; subst hk; exact ⟨v, rfl, h⟩
      | succ k => simpa using ih r (by simpa using hk)
theorem VRs.getV (x : VRs S h adr vs ds) {k : Nat} (hk : vs[k]? = some v) : ∃ d, ds[k]? = some d ∧ VR S h adr v d := by
  induction vs generalizing ds k with
  | nil => simp at hk
  | cons v vs ih =>
    cases x with
    | cons h r =>
      cases k with
      | zero => simp at hk; subst hk; exact ⟨_, rfl, h⟩
      | succ k => simpa using ih r (by simpa using hk)
theorem VRs.none_of (x : VRs S h adr vs ds) {k : Nat} (hk : ds[k]? = none) : vs[k]? = none := by
  rw [List.getElem?_eq_none_iff] at hk ⊢
  rw [x.length]; exact hk
theorem VRs.take (x : VRs S h adr vs ds) (k : Nat) : VRs S h adr (vs.take k) (ds.take k) := by
  induction vs generalizing ds k with
  | nil => cases x; simp; exact .nil
  | cons v vs ih =>
    cases x with
    | cons h r =>
      cases k with
      | zero => exact .nil
      | succ k => exact .cons h (ih r k)
theorem VRs.set (x : VRs S h adr vs ds) (y : VR S h adr v d) (k : Nat) : VRs S h adr (vs.set k v) (ds.set k d) := by
  induction vs generalizing ds k with
  | nil => cases x; exact .nil
  | cons u vs ih =>
    cases x with
    | cons h r =>
      cases k with
      | zero => exact .cons y r
      | succ k => exact .cons h (ih r k)
theorem VRs.one (x : VR S h adr v d) : VRs S h adr [v] [d] := .cons x .nil
theorem VRs.snoc (x : VRs S h adr vs ds) (y : VR S h adr v d) : VRs S h adr (vs ++ [v]) (ds ++ [d]) := x.append (.one y)
end

/-- the abstract heap lies in the heap -/
structure LR (S h : Heap) (adr : List Addr) (H : DH) : Prop where
  len : adr.length = H.length
  at_ : ∀ (i : Nat) (a : Addr) (ds : List DV), adr[i]? = some a → H[i]? = some ds → ∃ vs : List Value, h.PlainList a vs.toArray ∧ VRs S h adr vs ds
  nodup : adr.Nodup
  own : ∀ a ∈ adr, S.get? a = Option.none

/-- what stands stays: all but the lists in adr; adr grows by new places -/
structure Ext (adr : List Addr) (h : Heap) (adr' : List Addr) (h' : Heap) : Prop where
  pre : ∃ ex : List Addr, adr' = adr ++ ex ∧ ∀ a ∈ ex, h.get? a = Option.none
  keep : ∀ b o, h.get? b = some o → b ∉ adr → h'.get? b = some o
  tup : ∀ a (vs : Array Value), h.IsTuple a vs → h'.IsTuple a vs
  nd : adr'.Nodup

theorem Ext.refl {adr : List Addr} (hn : adr.Nodup) (h : Heap) : Ext adr h adr h := ⟨⟨[], by simp, by simp⟩, fun _ _ e _ => e, fun _ _ x => x, hn⟩
theorem Ext.get {a a' : List Addr} {h h' : Heap} (x : Ext a h a' h') (i : Nat) (b : Addr) (e : a[i]? = some b) : a'[i]? = some b := by
  obtain ⟨⟨ex, rfl, _⟩, _⟩ := x
  rw [List.getElem?_append_left (List.getElem?_eq_some_iff.mp e).1]; exact e
theorem Ext.trans {a a' a'' : List Addr} {h h' h'' : Heap} (x : Ext a h a' h') (y : Ext a' h' a'' h'') : Ext a h a'' h'' := by
  obtain ⟨⟨ex, rfl, hex⟩, k, t, _⟩ := x
  obtain ⟨⟨ex', rfl, hex'⟩, k', t', nd⟩ := y
  refine ⟨⟨ex ++ ex', by simp, fun b hb => ?_⟩, fun b o e n => k' b o (k b o e n) ?_, fun a vs x => t' a vs (t a vs x), nd⟩
  · rcases List.mem_append.mp hb with hb | hb
    · exact hex b hb
    · cases q : h.get? b with
      | none => rfl
      | some o =>
        have hm : b ∉ a := fun hm => (List.nodup_append.mp nd).2.2 b (List.mem_append_left _ hm) b hb rfl
        have := k b o q hm; rw [hex' b hb] at this; cases this
  · intro hb
    rcases List.mem_append.mp hb with hb | hb
    · exact n hb
    · rw [hex b hb] at e; cases e
theorem VR.up {S h h' : Heap} {adr adr' : List Addr} {v : Value} {d : DV} (x : VR S h adr v d) (y : Ext adr h adr' h') : VR S h' adr' v d := x.mono y.tup y.get
theorem VRs.up {S h h' : Heap} {adr adr' : List Addr} {v : List Value} {d : List DV} (x : VRs S h adr v d) (y : Ext adr h adr' h') : VRs S h' adr' v d := x.mono y.tup y.get

structure DS where
  vars : List (Nat × DV)
  heap : DH

noncomputable def setv (x : Nat) (d : DV) : List (Nat × DV) → List (Nat × DV)
  | [] => [(x, d)]
  | (y, e) :: r => if y == x then (x, d) :: r else (y, e) :: setv x d r
theorem lookup_setv (x : Nat) (d : DV) (z : Nat) : ∀ l : List (Nat × DV), (setv x d l).lookup z = if z = x then some d else l.lookup z
  | [] => by
    by_cases h : z = x
    · subst h; simp [setv]
    · simp [setv, List.lookup, h, beq_eq_false_iff_ne.mpr h]
  | (y, e) :: r => by
    unfold setv
    by_cases hy : y = x
    · subst hy
      simp only [beq_self_eq_true, if_true, List.lookup_cons]
      by_cases h : z = y
      · subst h; simp
      · simp [h, beq_eq_false_iff_ne.mpr h]
    · simp only [beq_eq_false_iff_ne.mpr hy, Bool.false_eq_true, if_false, List.lookup_cons, lookup_setv x d z r]
      by_cases h : z = x
      · subst h
        have : (z == y) = false := beq_eq_false_iff_ne.mpr fun e => hy e.symm
        simp [this]
      · simp [h]

/-- the world: what the top has left, the names' table -/
structure Gl (S : Heap) (nm : Nat → Str) (mg mb : Str → Option Value) : Prop where
  g : S.Ns mainGlobals mg
  b : S.Ns builtinsNs mb
  nolimit : S.NoLimit
  bn : ∀ x : Str, x ≠ "__name__" → mb x = bootBuiltins x
  inj : ∀ x z, nm x = nm z → x = z

structure EnvOK (env : Env) (sc : Scope) : Prop where
  sc : env.scope = sc
  kind : env.scope.kind = .function
  glob : env.globals = mainGlobals
  blt : env.builtins = builtinsNs

structure ActOK (k : Nat) (A : Around) : Prop where
  handled : A.handled = Option.none
  depth : A.depth + k < recursionLimit
  units : A.units + 8 * k + 50 < cLine

noncomputable def NameIs (env : Env) (h : Heap) (m : Str → Option Value) (x : Str) (v : Value) : Prop :=
  (env.kindOf x = some .local ∧ m x = some v) ∨ (env.kindOf x = some .cell ∧ ∃ c, env.cells.lookup x = some c ∧ h.IsCell c (some v))

structure Rel (S : Heap) (nm : Nat → Str) (env : Env) (h : Heap) (σ : DS) (m : Str → Option Value) (adr : List Addr) : Prop where
  ns : h.Ns env.locals m
  base : ∀ b o, S.get? b = some o → h.get? b = some o
  lr : LR S h adr σ.heap
  vars : ∀ x d, σ.vars.lookup x = some d → ∃ v, NameIs env h m (nm x) v ∧ VR S h adr v d
  fresh : S.get? env.locals = Option.none
  cells : ∀ x c, env.cells.lookup x = some c → S.get? c = Option.none ∧ ∃ v, h.IsCell c v
  cinj : ∀ x y c, env.cells.lookup x = some c → env.cells.lookup y = some c → x = y
  cex : ∀ x, env.kindOf x = some .cell → ∃ c, env.cells.lookup x = some c

theorem LR.notNs {S h : Heap} {adr : List Addr} {H : DH} (x : LR S h adr H) {L : Addr} {m : Str → Option Value} (n : h.Ns L m) : L ∉ adr := by
  intro hm
  obtain ⟨i, hi, rfl⟩ := List.getElem_of_mem hm
  obtain ⟨vs, ⟨n', ho⟩, _⟩ := x.at_ i _ (H[i]'(x.len ▸ hi)) (List.getElem?_eq_getElem hi) (List.getElem?_eq_getElem (x.len ▸ hi))
  obtain ⟨o', _, _, ho', hd', _⟩ := n
  rw [ho] at ho'; cases ho'; cases hd'
theorem LR.notCell {S h : Heap} {adr : List Addr} {H : DH} (x : LR S h adr H) {c : Addr} {v : Option Value} (n : h.IsCell c v) : c ∉ adr := by
  intro hm
  obtain ⟨i, hi, rfl⟩ := List.getElem_of_mem hm
  obtain ⟨vs, ⟨n', ho⟩, _⟩ := x.at_ i _ (H[i]'(x.len ▸ hi)) (List.getElem?_eq_getElem hi) (List.getElem?_eq_getElem (x.len ▸ hi))
  obtain ⟨o', ho', hd'⟩ := n
  rw [ho] at ho'; cases ho'; cases hd'
theorem LR.notTup {S h : Heap} {adr : List Addr} {H : DH} (x : LR S h adr H) {c : Addr} {v : Array Value} (n : h.IsTuple c v) : c ∉ adr := by
  intro hm
  obtain ⟨i, hi, rfl⟩ := List.getElem_of_mem hm
  obtain ⟨vs, ⟨n', ho⟩, _⟩ := x.at_ i _ (H[i]'(x.len ▸ hi)) (List.getElem?_eq_getElem hi) (List.getElem?_eq_getElem (x.len ▸ hi))
  obtain ⟨o', ho', hc', _⟩ := n
  rw [ho] at ho'; cases ho'; simp at hc'

theorem NameIs.keep {env : Env} {h h' : Heap} {m : Str → Option Value} {x : Str} {v : Value} (y : NameIs env h m x v) (k : ∀ c, env.cells.lookup x = some c → ∀ o, h.get? c = some o → h'.get? c = some o) : NameIs env h' m x v := by
  rcases y with y | ⟨e, c, hc, o, ho, hd⟩
  · exact .inl y
  · exact .inr ⟨e, c, hc, o, k c hc o ho, hd⟩

/-- a step of the heap that keeps frame and cells: the frame's facts stay, given the lists' own -/
theorem Rel.step {S : Heap} {nm : Nat → Str} {env : Env} {h h' : Heap} {σ : DS} {m : Str → Option Value} {adr adr' : List Addr} {H' : DH} (R : Rel S nm env h σ m adr) (x : Ext adr h adr' h') (lr : LR S h' adr' H') :
    Rel S nm env h' ⟨σ.vars, H'⟩ m adr' := by
  have hc : ∀ x c, env.cells.lookup x = some c → ∀ o, h.get? c = some o → h'.get? c = some o := fun y c e o ho => by
    obtain ⟨_, v, hv⟩ := R.cells y c e
    exact x.keep c o ho (R.lr.notCell hv)
  refine ⟨?_, fun b o e => x.keep b o (R.base b o e) fun hm => ?_, lr, fun y d e => ?_, R.fresh, fun y c e => ?_, R.cinj, R.cex⟩
  · obtain ⟨o, es, ep, ho, r⟩ := R.ns
    exact ⟨o, es, ep, x.keep _ o ho (R.lr.notNs R.ns), r⟩
  · rw [R.lr.own b hm] at e; cases e
  · obtain ⟨v, hv, hr⟩ := R.vars y d e
    exact ⟨v, hv.keep (hc _), hr.up x⟩
  · obtain ⟨a, v, o, ho, hd⟩ := R.cells y c e
    exact ⟨a, v, o, hc y c e o ho, hd⟩

theorem LR.keeps {S h h' : Heap} {adr : List Addr} {H : DH} (x : LR S h adr H) (k : ∀ b o, h.get? b = some o → h'.get? b = some o) : LR S h' adr H := by
  refine ⟨x.len, fun i a ds e e' => ?_, x.nodup, x.own⟩
  obtain ⟨vs, ⟨n, ho⟩, hv⟩ := x.at_ i a ds e e'
  exact ⟨vs, ⟨n, k _ _ ho⟩, hv.mono (fun a vs ⟨o, ho, r⟩ => ⟨o, k _ _ ho, r⟩) fun _ _ e => e⟩
theorem Ext.keeps {adr : List Addr} {h h' : Heap} (hn : adr.Nodup) (k : ∀ b o, h.get? b = some o → h'.get? b = some o) : Ext adr h adr h' :=
  ⟨⟨[], by simp, by simp⟩, fun b o e _ => k b o e, fun a vs ⟨o, ho, r⟩ => ⟨o, k _ _ ho, r⟩, hn⟩
end Mine
end
section
set_option maxRecDepth 100000
namespace Mine
open PySem PySem.Calls PyProof.Rows

abbrev EX := DS → Option (DV × DH)
abbrev TX := DS → Option (Bool × DH)
abbrev AX := DS → Option (List DV × DH)

section
variable (prog : Program) (w : World) (S : Heap) (nm : Nat → Str)

noncomputable def RetE (env : Env) (σ : DS) (m : Str → Option Value) (adr : List Addr) (s : Shared) (v : DV) (H' : DH) (Q : Value → Shared → Prop) : Prop :=
  ∀ v' h' tk' adr', Rel S nm env h' ⟨σ.vars, H'⟩ m adr' → Ext adr s.heap adr' h' → VR S h' adr' v' v → Q v' { s with heap := h', toks := tk' }
noncomputable def RetT (env : Env) (σ : DS) (m : Str → Option Value) (adr : List Addr) (s : Shared) (b : Bool) (H' : DH) (Q : Bool → Shared → Prop) : Prop :=
  ∀ h' tk' adr', Rel S nm env h' ⟨σ.vars, H'⟩ m adr' → Ext adr s.heap adr' h' → Q b { s with heap := h', toks := tk' }
noncomputable def RetA (env : Env) (σ : DS) (m : Str → Option Value) (adr : List Addr) (s : Shared) (vs : List DV) (H' : DH) (Q : List Value → Shared → Prop) : Prop :=
  ∀ vs' h' tk' adr', Rel S nm env h' ⟨σ.vars, H'⟩ m adr' → Ext adr s.heap adr' h' → VRs S h' adr' vs' vs → Q vs' { s with heap := h', toks := tk' }

/-- a tree of a value, told by d -/
structure SndE (sc : Scope) (k : Nat) (e : Expr) (d : EX) : Prop where
  ok : ∀ env A σ v H' s m adr (Q : Value → Shared → Prop) (E : Value → Shared → Prop), EnvOK env sc → ActOK k A → d σ = some (v, H') → Rel S nm env s.heap σ m adr →
    RetE S nm env σ m adr s v H' Q → wpAny (model prog w) A (eval e env) Q E s
structure SndT (sc : Scope) (k : Nat) (e : Expr) (d : TX) : Prop where
  ok : ∀ env A σ b H' s m adr (Q : Bool → Shared → Prop) (E : Value → Shared → Prop), EnvOK env sc → ActOK k A → d σ = some (b, H') → Rel S nm env s.heap σ m adr →
    RetT S nm env σ m adr s b H' Q → wpAny (model prog w) A (isTrue e env (eval e env)) Q E s
structure SndA (sc : Scope) (k : Nat) (es : List Expr) (d : AX) : Prop where
  ok : ∀ pos env A σ vs H' s m adr (Q : List Value → Shared → Prop) (E : Value → Shared → Prop), EnvOK env sc → ActOK k A → d σ = some (vs, H') → Rel S nm env s.heap σ m adr →
    RetA S nm env σ m adr s vs H' Q → wpAny (model prog w) A (spliced (backTo pos (starEach es env))) Q E s
end

/-- one expression behind another: what the first gave stays -/
noncomputable def seq2 (d1 d2 : EX) (f : DV → DV → DH → Option (DV × DH)) : EX := fun σ =>
  match d1 σ with
  | none => none
  | some (a, H1) => match d2 ⟨σ.vars, H1⟩ with
    | none => none
    | some (b, H2) => f a b H2

section
variable {prog : Program} {w : World} {S : Heap} {nm : Nat → Str} {sc : Scope} {k : Nat}

theorem RetE.up {env : Env} {σ : DS} {m : Str → Option Value} {adr adr' : List Addr} {s : Shared} {v : DV} {H1 H' : DH} {Q : Value → Shared → Prop} {h' : Heap} {tk' : Nat}
    (x : RetE S nm env σ m adr s v H' Q) (e : Ext adr s.heap adr' h') : RetE S nm env ⟨σ.vars, H1⟩ m adr' { s with heap := h', toks := tk' } v H' Q :=
  fun v' h'' tk'' adr'' R E V => x v' h'' tk'' adr'' R (e.trans E) V
theorem RetT.up {env : Env} {σ : DS} {m : Str → Option Value} {adr adr' : List Addr} {s : Shared} {v : Bool} {H1 H' : DH} {Q : Bool → Shared → Prop} {h' : Heap} {tk' : Nat}
    (x : RetT S nm env σ m adr s v H' Q) (e : Ext adr s.heap adr' h') : RetT S nm env ⟨σ.vars, H1⟩ m adr' { s with heap := h', toks := tk' } v H' Q :=
  fun h'' tk'' adr'' R E => x h'' tk'' adr'' R (e.trans E)

/-- an operation on two values whose tree is known at every state -/
structure Op2 (prog : Program) (w : World) (S : Heap) (nm : Nat → Str) (k : Nat) (t : Value → Value → Sem Value) (f : DV → DV → DH → Option (DV × DH)) : Prop where
  ok : ∀ env sc A σ a b v H' s m adr a' b' (Q : Value → Shared → Prop) (E : Value → Shared → Prop), EnvOK env sc → ActOK k A → f a b σ.heap = some (v, H') → Rel S nm env s.heap σ m adr →
    VR S s.heap adr a' a → VR S s.heap adr b' b → RetE S nm env σ m adr s v H' Q → wpAny (model prog w) A (t a' b') Q E s

theorem seq2_two {d1 d2 : EX} {f : DV → DV → DH → Option (DV × DH)} {e1 e2 : Expr} {t : Value → Value → Sem Value} (h1 : SndE prog w S nm sc k e1 d1) (h2 : SndE prog w S nm sc k e2 d2) (h : Op2 prog w S nm k t f)
    {env : Env} {A : Around} {σ : DS} {v : DV} {H' : DH} {s : Shared} {m : Str → Option Value} {adr : List Addr} {Q : Value → Shared → Prop} {E : Value → Shared → Prop} (he : EnvOK env sc) (hA : ActOK k A)
    (hd : seq2 d1 d2 f σ = some (v, H')) (R : Rel S nm env s.heap σ m adr) (ret : RetE S nm env σ m adr s v H' Q) :
    wpAny (model prog w) A (eval e1 env) (fun a s₁ => wpAny (model prog w) A (eval e2 env) (fun b s₂ => wpAny (model prog w) A (t a b) Q E s₂) E s₁) E s := by
  unfold seq2 at hd
  split at hd
  · cases hd
  · rename_i a H1 q1
    split at hd
    · cases hd
    · rename_i b H2 q2
      refine h1.ok env A σ a H1 s m adr _ E he hA q1 R fun a' h1' tk1 adr1 R1 E1 V1 => ?_
      refine h2.ok env A ⟨σ.vars, H1⟩ b H2 _ m adr1 _ E he hA q2 R1 fun b' h2' tk2 adr2 R2 E2 V2 => ?_
      exact h.ok env sc A ⟨σ.vars, H2⟩ a b v H' _ m adr2 a' b' Q E he hA hd R2 (V1.up E2) V2 ((ret.up (H1 := H1) (tk' := tk1) E1).up E2)

theorem SndE.bin {d1 d2 : EX} {f : DV → DV → DH → Option (DV × DH)} {l r : Expr} {op : Operator} {pos : Pos} (h1 : SndE prog w S nm sc k l d1) (h2 : SndE prog w S nm sc k r d2)
    (h : Op2 prog w S nm k (fun a b => binaryOp op a b) f) : SndE prog w S nm sc k (.BinOp l op r pos) (seq2 d1 d2 f) :=
  ⟨fun env A σ v H' s m adr Q E he hA hd R ret => wpAny_BinOp (seq2_two h1 h2 h he hA hd R ret)⟩
theorem SndE.cmp {d1 d2 : EX} {f : DV → DV → DH → Option (DV × DH)} {l r : Expr} {op : CmpOp} {pos : Pos} (h1 : SndE prog w S nm sc k l d1) (h2 : SndE prog w S nm sc k r d2)
    (h : Op2 prog w S nm k (fun a b => compareOp op a b) f) (hm : behindInMarks op r = false) : SndE prog w S nm sc k (.Compare l [op] [r] pos) (seq2 d1 d2 f) :=
  ⟨fun env A σ v H' s m adr Q E he hA hd R ret => wpAny_Compare1 (seq2_two h1 h2 h he hA hd R ret) hm⟩

/-- the truth of a bool -/
noncomputable def toT (d : EX) : TX := fun σ => match d σ with
  | some (.bool b, H) => some (b, H)
  | _ => none
theorem SndT.cmp {d1 d2 : EX} {f : DV → DV → DH → Option (DV × DH)} {l r : Expr} {op : CmpOp} {pos : Pos} (h1 : SndE prog w S nm sc k l d1) (h2 : SndE prog w S nm sc k r d2)
    (h : Op2 prog w S nm k (fun a b => compareOp op a b) f) (hm : behindInMarks op r = false) : SndT prog w S nm sc k (.Compare l [op] [r] pos) (toT (seq2 d1 d2 f)) := by
  constructor
  intro env A σ b H' s m adr Q E he hA hd R ret
  unfold toT at hd
  split at hd
  · rename_i b0 H0 q
    cases hd
    refine wpAny_isTrue_Compare1 ?_ hm
    refine seq2_two h1 h2 (t := fun a b => compareOp op a b) (Q := fun c s₃ => wpAny (model prog w) A (truthy c) Q E s₃) h he hA q R fun v' h' tk' adr' R' E' V' => ?_
    cases V'
    exact wpAny_truthy_bool (ret h' tk' adr' R' E')
  · cases hd
noncomputable def orT (d1 d2 : TX) : TX := fun σ => match d1 σ with
  | none => none
  | some (true, H) => some (true, H)
  | some (false, H) => d2 ⟨σ.vars, H⟩
theorem SndT.or2 {d1 d2 : TX} {e1 e2 : Expr} {pos : Pos} (h1 : SndT prog w S nm sc k e1 d1) (h2 : SndT prog w S nm sc k e2 d2) : SndT prog w S nm sc k (.BoolOp .Or [e1, e2] pos) (orT d1 d2) := by
  constructor
  intro env A σ b H' s m adr Q E he hA hd R ret
  unfold orT at hd
  refine isTrue_or ?_
  split at hd
  · cases hd
  · rename_i H q
    cases hd
    exact h1.ok env A σ true H' s m adr _ E he hA q R fun h' tk' adr' R' E' => by
      rw [if_pos rfl]; exact ret h' tk' adr' R' E'
  · rename_i H q
    refine h1.ok env A σ false H s m adr _ E he hA q R fun h' tk' adr' R' E' => ?_
    rw [if_neg (by simp)]
    refine isTrue_or ?_
    refine h2.ok env A ⟨σ.vars, H⟩ b H' _ m adr' _ E he hA hd R' fun h'' tk'' adr'' R'' E'' => ?_
    have r := ret h'' tk'' adr'' R'' (E'.trans E'')
    cases b with
    | true => rw [if_pos rfl]; exact r
    | false => rw [if_neg (by simp)]; exact isTrue_or_nil r
/-- the value of «a or b» of two bools -/
noncomputable def orE (d1 d2 : EX) : EX := fun σ => match d1 σ with
  | some (.bool true, H) => some (.bool true, H)
  | some (.bool false, H) => d2 ⟨σ.vars, H⟩
  | _ => none
theorem SndE.or2 {d1 d2 : EX} {e1 e2 : Expr} {pos : Pos} (h1 : SndE prog w S nm sc k e1 d1) (h2 : SndE prog w S nm sc k e2 d2) : SndE prog w S nm sc k (.BoolOp .Or [e1, e2] pos) (orE d1 d2) := by
  constructor
  intro env A σ b H' s m adr Q E he hA hd R ret
  unfold orE at hd
  refine BoolOp_or ?_
  split at hd
  · rename_i H q
    cases hd
    refine h1.ok env A σ _ H' s m adr _ E he hA q R fun v' h' tk' adr' R' E' V' => ?_
    cases V'
    refine wpAny_truthy_bool ?_
    rw [if_pos rfl]; exact ret _ h' tk' adr' R' E' (.bool _)
  · rename_i H q
    refine h1.ok env A σ _ H s m adr _ E he hA q R fun v' h' tk' adr' R' E' V' => ?_
    cases V'
    refine wpAny_truthy_bool ?_
    rw [if_neg (by simp)]
    refine BoolOp_one ?_
    exact h2.ok env A ⟨σ.vars, H⟩ b H' _ m adr' _ E he hA hd R' (ret.up E')
  · cases hd
noncomputable def iteE (t : TX) (a b : EX) : EX := fun σ => match t σ with
  | none => none
  | some (true, H) => a ⟨σ.vars, H⟩
  | some (false, H) => b ⟨σ.vars, H⟩
theorem SndE.ite {t : TX} {a b : EX} {et ea eb : Expr} {pos : Pos} (ht : SndT prog w S nm sc k et t) (h1 : SndE prog w S nm sc k ea a) (h2 : SndE prog w S nm sc k eb b) : SndE prog w S nm sc k (.IfExp et ea eb pos) (iteE t a b) := by
  constructor
  intro env A σ v H' s m adr Q E he hA hd R ret
  unfold iteE at hd
  refine IfExp_ ?_
  split at hd
  · cases hd
  · rename_i H q
    refine ht.ok env A σ true H s m adr _ E he hA q R fun h' tk' adr' R' E' => ?_
    rw [if_pos rfl]
    exact h1.ok env A ⟨σ.vars, H⟩ v H' _ m adr' _ E he hA hd R' (ret.up E')
  · rename_i H q
    refine ht.ok env A σ false H s m adr _ E he hA q R fun h' tk' adr' R' E' => ?_
    rw [if_neg (by simp)]
    exact h2.ok env A ⟨σ.vars, H⟩ v H' _ m adr' _ E he hA hd R' (ret.up E')

theorem SndE.intC {i : Int} {kd : Nat} {pos : Pos} : SndE prog w S nm sc k (.Constant (.int i) kd pos) (fun σ => some (.int i, σ.heap)) := by
  constructor
  intro env A σ v H' s m adr Q E he hA hd R ret
  cases hd
  exact wpAny_Constant_int (ret _ _ _ adr R (.refl R.lr.nodup _) (.int _ _))
theorem SndE.boolC {b : Bool} {kd : Nat} {pos : Pos} : SndE prog w S nm sc k (.Constant (.bool b) kd pos) (fun σ => some (.bool b, σ.heap)) := by
  constructor
  intro env A σ v H' s m adr Q E he hA hd R ret
  cases hd
  exact wpAny_Constant_bool (ret _ _ s.toks adr R (.refl R.lr.nodup _) (.bool _))
theorem SndE.noneC {kd : Nat} {pos : Pos} : SndE prog w S nm sc k (.Constant .none kd pos) (fun σ => some (.none, σ.heap)) := by
  constructor
  intro env A σ v H' s m adr Q E he hA hd R ret
  cases hd
  exact wpAny_Constant_none (ret _ _ s.toks adr R (.refl R.lr.nodup _) .none)
theorem SndT.boolC {b : Bool} {kd : Nat} {pos : Pos} : SndT prog w S nm sc k (.Constant (.bool b) kd pos) (fun σ => some (b, σ.heap)) := by
  constructor
  intro env A σ v H' s m adr Q E he hA hd R ret
  cases hd
  refine isTrue_plain (wpAny_Constant_bool (wpAny_truthy_bool ?_))
  exact ret _ s.toks adr R (.refl R.lr.nodup _)

noncomputable def getE (x : Nat) : EX := fun σ => (σ.vars.lookup x).map fun d => (d, σ.heap)
theorem SndE.name {x : Nat} {id : Str} {pos : Pos} (hx : nm x = id) (hb : (id == ("__debug__" : Str)) = false) : SndE prog w S nm sc k (.Name id pos) (getE x) := by
  constructor
  intro env A σ v H' s m adr Q E he hA hd R ret
  obtain ⟨d, q, e⟩ := Option.map_eq_some_iff.mp hd
  cases e
  obtain ⟨v', hn, hv⟩ := R.vars x _ q
  rw [hx] at hn
  refine wpAny_Name ?_ hb
  have fin := ret v' s.heap s.toks adr R (.refl R.lr.nodup _) hv
  rcases hn with ⟨hl, hm⟩ | ⟨hl, c, hc, hv'⟩
  · exact wpAny_loadName_local he.kind hl R.ns hm fin
  · exact wpAny_loadName_cell he.kind hl hc hv' fin
theorem SndT.ofBool {d : EX} {e : Expr} (h : SndE prog w S nm sc k e d) (he' : ∀ (env : Env) (whole : Sem Value), isTrue e env whole = (do let v ← whole; standAt e.pos; holding [v] (truthy v))) : SndT prog w S nm sc k e (toT d) := by
  constructor
  intro env A σ b H' s m adr Q E he hA hd R ret
  unfold toT at hd
  split at hd
  · rename_i b0 H0 q
    cases hd
    refine isTrue_plain (h.ok env A σ _ _ s m adr _ E he hA q R fun v' h' tk' adr' R' E' V' => ?_) (he' env _)
    cases V'
    exact wpAny_truthy_bool (ret h' tk' adr' R' E')
  · cases hd
end
end Mine
end
section
set_option maxRecDepth 100000
namespace Mine
open PySem PySem.Calls PyProof.Rows

section
variable {prog : Program} {w : World} {S : Heap} {nm : Nat → Str} {sc : Scope} {k : Nat}

theorem fresh_of (h : Heap) {a : Addr} (e : h.objs.size ≤ a) : h.get? a = Option.none := by
  cases q : h.get? a with
  | none => rfl
  | some o => exact absurd (Heap.lt_size q) (Nat.not_lt.mpr e)

/-- any object pushed: nothing else changes -/
theorem Rel.push {env : Env} {h : Heap} {σ : DS} {m : Str → Option Value} {adr : List Addr} (R : Rel S nm env h σ m adr) (o : Obj) : Rel S nm env (h.push o) σ m adr ∧ Ext adr h adr (h.push o) := by
  have k : ∀ b x, h.get? b = some x → (h.push o).get? b = some x := fun b x e => Heap.get?_push_of_some o e
  exact ⟨R.step (.keeps R.lr.nodup k) (R.lr.keeps k), .keeps R.lr.nodup k⟩

/-- a heap in which all stays -/
theorem Rel.keeps {env : Env} {h h' : Heap} {σ : DS} {m : Str → Option Value} {adr : List Addr} (R : Rel S nm env h σ m adr) (k : ∀ b o, h.get? b = some o → h'.get? b = some o) :
    Rel S nm env h' σ m adr ∧ Ext adr h adr h' := ⟨R.step (.keeps R.lr.nodup k) (R.lr.keeps k), .keeps R.lr.nodup k⟩

/-- a new list joins the abstract heap -/
theorem Rel.newList {env : Env} {h h' : Heap} {σ : DS} {m : Str → Option Value} {adr : List Addr} {a : Addr} {vs : List Value} {ds : List DV} (R : Rel S nm env h σ m adr)
    (hk : ∀ b o, h.get? b = some o → h'.get? b = some o) (ha : h.get? a = Option.none) (hl : h'.PlainList a vs.toArray) (hv : VRs S h adr vs ds) :
    Rel S nm env h' ⟨σ.vars, σ.heap ++ [ds]⟩ m (adr ++ [a]) ∧ Ext adr h (adr ++ [a]) h' ∧ VR S h' (adr ++ [a]) (.ref a) (.ref σ.heap.length) := by
  have hn : a ∉ adr := by
    intro hm
    obtain ⟨i, hi, rfl⟩ := List.getElem_of_mem hm
    obtain ⟨vs, ⟨_, ho⟩, _⟩ := R.lr.at_ i _ (σ.heap[i]'(R.lr.len ▸ hi)) (List.getElem?_eq_getElem hi) (List.getElem?_eq_getElem (R.lr.len ▸ hi))
    rw [ha] at ho; cases ho
  have hnd : (adr ++ [a]).Nodup := List.nodup_append.mpr ⟨R.lr.nodup, by simp, fun x hx y hy e => hn (by simp at hy; subst hy; subst e; exact hx)⟩
  have x : Ext adr h (adr ++ [a]) h' := ⟨⟨[a], rfl, by simp [ha]⟩, fun b o e _ => hk b o e, fun a vs ⟨o, ho, r⟩ => ⟨o, hk _ _ ho, r⟩, hnd⟩
  have hS : S.get? a = Option.none := by
    cases q : S.get? a with
    | none => rfl
    | some o => rw [R.base a o q] at ha; cases ha
  have lr : LR S h' (adr ++ [a]) (σ.heap ++ [ds]) := by
    refine ⟨by simp [R.lr.len], fun i b es e e' => ?_, hnd, fun b hb => ?_⟩
    · by_cases hi : i < adr.length
      · rw [List.getElem?_append_left hi] at e
        rw [List.getElem?_append_left (R.lr.len ▸ hi)] at e'
        obtain ⟨vs', ⟨n, ho⟩, hv'⟩ := R.lr.at_ i b es e e'
        exact ⟨vs', ⟨n, hk _ _ ho⟩, hv'.up x⟩
      · have hi' : i = adr.length := by
          have := (List.getElem?_eq_some_iff.mp e).1
          simp at this; omega
        subst hi'
        simp at e
        rw [R.lr.len] at e'
        simp at e'
        subst e; subst e'
        exact ⟨vs, hl, hv.up x⟩
    · rcases List.mem_append.mp hb with hb | hb
      · exact R.lr.own b hb
      · simp at hb; subst hb; exact hS
  exact ⟨R.step x lr, x, .ref (by rw [← R.lr.len]; simp)⟩
theorem Rel.pushList {env : Env} {h : Heap} {σ : DS} {m : Str → Option Value} {adr : List Addr} {vs : List Value} {ds : List DV} (R : Rel S nm env h σ m adr) (hv : VRs S h adr vs ds) (o : Obj) (ho : o = { cls := .type "list", data := .seq vs.toArray }) :
    Rel S nm env (h.push o) ⟨σ.vars, σ.heap ++ [ds]⟩ m (adr ++ [h.objs.size]) ∧ Ext adr h (adr ++ [h.objs.size]) (h.push o) ∧
      VR S (h.push o) (adr ++ [h.objs.size]) (.ref h.objs.size) (.ref σ.heap.length) := by
  subst ho
  exact R.newList (fun b x e => Heap.get?_push_of_some _ e) (fresh_of h (Nat.le_refl _)) ⟨_, Heap.get?_push_size _ rfl⟩ hv
theorem Rel.pushTup {env : Env} {h : Heap} {σ : DS} {m : Str → Option Value} {adr : List Addr} {vs : List Value} {ds : List DV} (R : Rel S nm env h σ m adr) (hv : VRs S h adr vs ds) :
    Rel S nm env (h.push { cls := .type "tuple", data := .seq vs.toArray }) σ m adr ∧ Ext adr h adr (h.push { cls := .type "tuple", data := .seq vs.toArray }) ∧
      VR S (h.push { cls := .type "tuple", data := .seq vs.toArray }) adr (.ref h.objs.size) (.tup ds) := by
  obtain ⟨R', x⟩ := R.push { cls := .type "tuple", data := .seq vs.toArray }
  exact ⟨R', x, .tup ⟨_, Heap.get?_push_size _ rfl, rfl, _, rfl⟩ (hv.up x)⟩

/-! argument lists, displays -/
noncomputable def notStar : Expr → Bool
  | .Starred _ _ => false
  | _ => true
theorem starCons {e : Expr} {es : List Expr} (h : notStar e = true) : ∀ env, starEach (e :: es) env = (false, eval e env) :: starEach es env := by
  intro env
  cases e <;> first | rfl | cases h
theorem starOne {e : Expr} (h : notStar e = true) : ∀ env, starEach [e] env = [(false, eval e env)] := fun env => starCons h env
noncomputable def nilA : AX := fun σ => some ([], σ.heap)
noncomputable def consA (d : EX) (r : AX) : AX := fun σ => match d σ with
  | none => none
  | some (v, H) => match r ⟨σ.vars, H⟩ with
    | none => none
    | some (vs, H') => some (v :: vs, H')
theorem SndA.nil : SndA prog w S nm sc k [] nilA := by
  constructor
  intro pos env A σ vs H' s m adr Q E he hA hd R ret
  cases hd
  exact wpAny_items_nil (ret _ _ s.toks adr R (.refl R.lr.nodup _) .nil)
theorem SndA.cons {e : Expr} {es : List Expr} {d : EX} {r : AX} (h : SndE prog w S nm sc k e d) (hr : SndA prog w S nm sc k es r) (hs : ∀ env, starEach (e :: es) env = (false, eval e env) :: starEach es env) :
    SndA prog w S nm sc k (e :: es) (consA d r) := by
  constructor
  intro pos env A σ vs H' s m adr Q E he hA hd R ret
  unfold consA at hd
  split at hd
  · cases hd
  · rename_i v H1 q1
    split at hd
    · cases hd
    · rename_i vs' H2 q2
      cases hd
      refine wpAny_items_cons ?_ (hs env)
      refine h.ok env A σ v H1 s m adr _ E he hA q1 R fun v' h1 tk1 adr1 R1 E1 V1 => ?_
      refine hr.ok pos env A ⟨σ.vars, H1⟩ vs' _ _ m adr1 _ E he hA q2 R1 fun us h2 tk2 adr2 R2 E2 V2 => ?_
      exact ret _ h2 tk2 adr2 R2 (E1.trans E2) (.cons (V1.up E2) V2)

noncomputable def tupE (r : AX) : EX := fun σ => match r σ with
  | none => none
  | some (vs, H) => if vs.length ≤ 1000 then some (.tup vs, H) else none
theorem SndE.tuple {es : List Expr} {r : AX} {n : Nat} {pos : Pos} (h : SndA prog w S nm sc k es r) : SndE prog w S nm sc k (.Tuple es n pos) (tupE r) := by
  constructor
  intro env A σ v H' s m adr Q E he hA hd R ret
  unfold tupE at hd
  split at hd
  · cases hd
  · rename_i vs H1 q
    split at hd
    · rename_i hsz
      cases hd
      refine wpAny_Tuple (h.ok pos env A σ vs _ s m adr _ E he hA q R fun us h1 tk1 adr1 R1 E1 V1 => ⟨?_, ?_⟩)
      · rw [V1.length, sizeLine_eq]; omega
      · obtain ⟨R2, E2, V2⟩ := R1.pushTup V1
        exact ret _ _ tk1 adr1 R2 (E1.trans E2) V2
    · cases hd
noncomputable def lstE (r : AX) : EX := fun σ => match r σ with
  | none => none
  | some (vs, H) => if vs.length ≤ 1000 then some (.ref H.length, H ++ [vs]) else none
theorem SndE.list {es : List Expr} {r : AX} {pos : Pos} (h : SndA prog w S nm sc k es r) : SndE prog w S nm sc k (.List es pos) (lstE r) := by
  constructor
  intro env A σ v H' s m adr Q E he hA hd R ret
  unfold lstE at hd
  split at hd
  · cases hd
  · rename_i vs H1 q
    split at hd
    · rename_i hsz
      cases hd
      refine wpAny_List (h.ok pos env A σ vs _ s m adr _ E he hA q R fun us h1 tk1 adr1 R1 E1 V1 => ⟨?_, ?_⟩)
      · rw [V1.length, sizeLine_eq]; omega
      · obtain ⟨R2, E2, V2⟩ := R1.pushList V1 _ rfl
        exact ret _ _ tk1 _ R2 (E1.trans E2) V2
    · cases hd

end
end Mine
end
section
set_option maxRecDepth 100000
namespace Mine
open PySem PySem.Calls PyProof.Rows PySem.SeqAt

/-! equality of plain data -/
noncomputable def zipEq (f : DV → DV → Option Bool) : List DV → List DV → Option Bool
  | x :: xs, y :: ys => match f x y, zipEq f xs ys with
    | some a, some b => some (a && b)
    | _, _ => none
  | _, _ => some true
noncomputable def peq : Nat → DV → DV → Option Bool
  | _, .bool a, .bool b => some (a == b)
  | _, .int a, .int b => some (a == b)
  | n + 1, .tup xs, .tup ys => (zipEq (peq n) xs ys).map fun b => b && xs.length == ys.length
  | _, _, _ => none

mutual
inductive Plain : DV → Prop
  | bool (b) : Plain (.bool b)
  | int (i) : Plain (.int i)
  | tup {ds} : Plains ds → Plain (.tup ds)
inductive Plains : List DV → Prop
  | nil : Plains []
  | cons {d ds} : Plain d → Plains ds → Plains (d :: ds)
end

section
variable {S h : Heap} {adr : List Addr}
theorem isTuple_inj {a : Addr} {vs ws : List Value} (x : h.IsTuple a vs.toArray) (y : h.IsTuple a ws.toArray) : vs = ws := by
  obtain ⟨o, ho, _, n, hd⟩ := x
  obtain ⟨o', ho', _, n', hd'⟩ := y
  rw [ho] at ho'; cases ho'; rw [hd] at hd'; simpa using (Data.seq.inj hd').1
mutual
theorem VR.det : ∀ {v : Value} {d d' : DV}, Plain d → Plain d' → VR S h adr v d → VR S h adr v d' → d = d'
  | _, _, _, .bool b, _, .bool _, y => by cases y; rfl
  | _, _, _, .int i, _, .int _ _, y => by cases y; rfl
  | _, _, _, .tup p, q, .tup x r, y => by
    cases y with
    | tup x' r' =>
      have e := isTuple_inj x x'
      subst e
      cases q with
      | tup q => rw [VRs.det p q r r']
    | ext _ _ => cases q
    | ref _ => cases q
theorem VRs.det : ∀ {vs : List Value} {ds ds' : List DV}, Plains ds → Plains ds' → VRs S h adr vs ds → VRs S h adr vs ds' → ds = ds'
  | _, _, _, .nil, _, .nil, y => by cases y; rfl
  | _, _, _, .cons p p', q, .cons x r, y => by
    cases y with
    | cons x' r' =>
      cases q with
      | cons q q' => rw [VR.det p q x x', VRs.det p' q' r r']
end

theorem zipEq_get {f : DV → DV → Option Bool} : ∀ {xs ys : List DV} {b : Bool}, zipEq f xs ys = some b →
    ∃ e : Nat → Bool, (∀ j x y, xs[j]? = some x → ys[j]? = some y → f x y = some (e j)) ∧ b = (List.range (min xs.length ys.length)).all e
  | [], ys, b, q => ⟨fun _ => true, fun j x y e => by simp at e, by simp [zipEq] at q; try simp [q]⟩
  | x :: xs, [], b, q => ⟨fun _ => true, fun j x y e e' => by simp at e', by simp [zipEq] at q; try simp [q]⟩
  | x :: xs, y :: ys, b, q => by
    unfold zipEq at q
    split at q
    · rename_i a b' q1 q2
      obtain ⟨e, he, hb⟩ := zipEq_get q2
      cases q
      refine ⟨fun j => match j with | 0 => a | j + 1 => e j, fun j x' y' ex ey => ?_, ?_⟩
      · cases j with
        | zero => simp at ex ey; subst ex; subst ey; exact q1
        | succ j => exact he j x' y' (by simpa using ex) (by simpa using ey)
      · subst hb
        have : min (x :: xs).length (y :: ys).length = min xs.length ys.length + 1 := by simp [Nat.add_min_add_right]
        rw [this, List.range_succ_eq_map, List.all_cons, List.all_map]
        rfl
    · cases q

theorem peq_tup {n : Nat} {x y : DV} {b : Bool} (q : peq n x y = some b) : (∃ a c, x = .bool a ∧ y = .bool c ∧ b = (a == c)) ∨ (∃ a c, x = .int a ∧ y = .int c ∧ b = (a == c)) ∨
    (∃ n' xs ys c, n = n' + 1 ∧ x = .tup xs ∧ y = .tup ys ∧ zipEq (peq n') xs ys = some c ∧ b = (c && xs.length == ys.length)) := by
  unfold peq at q
  split at q
  · cases q; exact .inl ⟨_, _, rfl, rfl, rfl⟩
  · cases q; exact .inr (.inl ⟨_, _, rfl, rfl, rfl⟩)
  · obtain ⟨c, q, e⟩ := Option.map_eq_some_iff.mp q
    exact .inr (.inr ⟨_, _, _, c, rfl, rfl, rfl, q, e.symm⟩)
  · cases q

/-- same tuple: a comparison of what lies in it with itself -/
theorem zipEq_same {n : Nat} (ih : ∀ (v : Value) (d d' : DV) (b : Bool), VR S h adr v d → VR S h adr v d' → peq n d d' = some b → b = true) :
    ∀ {vs : List Value} {xs ys : List DV} {b : Bool}, VRs S h adr vs xs → VRs S h adr vs ys → zipEq (peq n) xs ys = some b → b = true
  | [], _, _, b, .nil, .nil, q => by simp [zipEq] at q; try simp [q]
  | _ :: _, _, _, b, .cons x r, .cons x' r', q => by
    unfold zipEq at q
    split at q
    · rename_i a b' q1 q2
      cases q
      rw [ih _ _ _ _ x x' q1, zipEq_same ih r r' q2]; rfl
    · cases q
theorem peq_same : ∀ (n : Nat) (v : Value) (d d' : DV) (b : Bool), VR S h adr v d → VR S h adr v d' → peq n d d' = some b → b = true := by
  intro n
  induction n with
  | zero =>
    intro v d d' b x y q
    rcases peq_tup q with ⟨a, c, rfl, rfl, rfl⟩ | ⟨a, c, rfl, rfl, rfl⟩ | ⟨n', xs, ys, c, e, _⟩
    · cases x; cases y; simp
    · cases x; cases y; simp
    · cases e
  | succ n ih =>
    intro v d d' b x y q
    rcases peq_tup q with ⟨a, c, rfl, rfl, rfl⟩ | ⟨a, c, rfl, rfl, rfl⟩ | ⟨n', xs, ys, c, e, rfl, rfl, q, rfl⟩
    · cases x; cases y; simp
    · cases x; cases y; simp
    · cases e
      cases x with
      | tup x r => cases y with
        | tup y r' =>
          have e := isTuple_inj x y
          subst e
          rw [zipEq_same ih r r' q, ← r.length, ← r'.length]; simp
end

section
variable {S : Heap} {s : Shared} {adr : List Addr}
theorem eqAt_of : ∀ (n : Nat) (A : Around) {u v : Value} {x y : DV} {b : Bool}, A.units + n < cLine → VR S s.heap adr u x → VR S s.heap adr v y → peq n x y = some b → EqAt A s u v b := by
  intro n
  induction n with
  | zero =>
    intro A u v x y b hu hx hy q
    rcases peq_tup q with ⟨a, c, rfl, rfl, rfl⟩ | ⟨a, c, rfl, rfl, rfl⟩ | ⟨n', xs, ys, c, e, _⟩
    · cases hx; cases hy; exact .bool_bool _ _
    · cases hx; cases hy; exact .int_int _ _ _ _
    · cases e
  | succ n ih =>
    intro A u v x y b hu hx hy q
    rcases peq_tup q with ⟨a, c, rfl, rfl, rfl⟩ | ⟨a, c, rfl, rfl, rfl⟩ | ⟨n', xs, ys, c, e, rfl, rfl, q', rfl⟩
    · cases hx; cases hy; exact .bool_bool _ _
    · cases hx; cases hy; exact .int_int _ _ _ _
    · cases e
      have hxy := hx
      have hyx := hy
      cases hx with
      | @tup a vs _ x1 r1 => cases hy with
        | @tup a' vs' _ y1 r2 =>
          by_cases e : a = a'
          · subst e
            rw [peq_same (n + 1) _ _ _ _ hxy hyx q]
            exact .same _
          · obtain ⟨e', he, hb⟩ := zipEq_get q'
            refine .of_refs e ?_
            have := RcAt.tuples (A := A) (s := s) (e := e') x1 y1 (Nat.lt_of_le_of_lt (Nat.le_add_right _ _) hu) fun j h1 h2 => by
              have h1' : j < vs.length := by simpa using h1
              have h2' : j < vs'.length := by simpa using h2
              obtain ⟨d1, e1, v1⟩ := r1.getV (List.getElem?_eq_getElem h1')
              obtain ⟨d2, e2, v2⟩ := r2.getV (List.getElem?_eq_getElem h2')
              have := ih A.in1 (by show A.units + 1 + n < cLine; omega) v1 v2 (he j d1 d2 e1 e2)
              simpa using this
            rw [hb]
            simpa [r1.length, r2.length] using this
end
end Mine
end
section
set_option maxRecDepth 100000
namespace Mine
open PySem PySem.Calls PyProof.Rows PySem.SeqAt

noncomputable def smallI (a : Int) : Bool := decide (a.natAbs < 1073741824)
theorem smallI_lt {a : Int} (h : smallI a = true) : a.natAbs < 1073741824 := by simpa [smallI] using h

noncomputable def fAdd : DV → DV → DH → Option (DV × DH)
  | .int a, .int b, H => some (.int (a + b), H)
  | .ref i, .ref j, H => match H[i]?, H[j]? with
    | some xs, some ys => if xs.length + ys.length ≤ 1000 then some (.ref H.length, H ++ [xs ++ ys]) else none
    | _, _ => none
  | _, _, _ => none
noncomputable def b2 (b : Bool) : Int := if b then 1 else 0
noncomputable def fSub : DV → DV → DH → Option (DV × DH)
  | .int a, .int b, H => some (.int (a - b), H)
  | .bool a, .bool b, H => some (.int (b2 a - b2 b), H)
  | _, _, _ => none
noncomputable def fMul : DV → DV → DH → Option (DV × DH)
  | .int a, .int b, H => if smallI a then some (.int (a * b), H) else none
  | .ref i, .int n, H => match H[i]? with
    | some xs => if 0 ≤ n ∧ n ≤ 1000 ∧ xs.length * n.toNat ≤ 1000 then some (.ref H.length, H ++ [(List.replicate n.toNat xs).flatten]) else none
    | none => none
  | _, _, _ => none
noncomputable def fDiv : DV → DV → DH → Option (DV × DH)
  | .int a, .int b, H => if b ≠ 0 ∧ smallI b then some (.int (a.fdiv b), H) else none
  | _, _, _ => none
noncomputable def fMod : DV → DV → DH → Option (DV × DH)
  | .int a, .int b, H => if b ≠ 0 then some (.int (a.fmod b), H) else none
  | _, _, _ => none
noncomputable def fLt : DV → DV → DH → Option (DV × DH)
  | .int a, .int b, H => some (.bool (decide (a < b)), H)
  | _, _, _ => none
noncomputable def fLe : DV → DV → DH → Option (DV × DH)
  | .int a, .int b, H => some (.bool (decide (a ≤ b)), H)
  | _, _, _ => none
noncomputable def fGt : DV → DV → DH → Option (DV × DH)
  | .int a, .int b, H => some (.bool (decide (b < a)), H)
  | _, _, _ => none
noncomputable def fGe : DV → DV → DH → Option (DV × DH)
  | .int a, .int b, H => some (.bool (decide (b ≤ a)), H)
  | _, _, _ => none
/-- == at the top: lists by their items -/
noncomputable def deq (a b : DV) (H : DH) : Option Bool := match a, b with
  | .ref i, .ref j => match H[i]?, H[j]? with
    | some xs, some ys => if xs.length = ys.length then zipEq (peq 8) xs ys else some false
    | _, _ => none
  | a, b => peq 8 a b
noncomputable def fEq (a b : DV) (H : DH) : Option (DV × DH) := (deq a b H).map fun c => (.bool c, H)
noncomputable def fNe (a b : DV) (H : DH) : Option (DV × DH) := (deq a b H).map fun c => (.bool (!c), H)

section
variable {prog : Program} {w : World} {S : Heap} {nm : Nat → Str} {sc : Scope} {k : Nat}

theorem getL {h : Heap} {adr : List Addr} {H : DH} (x : LR S h adr H) {v : Value} {i : Nat} (hv : VR S h adr v (.ref i)) {ds : List DV} (e : H[i]? = some ds) :
    ∃ a vs, v = .ref a ∧ h.IsList a (List.toArray vs) ∧ VRs S h adr vs ds ∧ adr[i]? = some a := by
  obtain ⟨a, rfl, hi⟩ := hv.ref_inv
  obtain ⟨vs, hl, hr⟩ := x.at_ i _ ds hi e
  exact ⟨_, vs, rfl, hl.isList, hr, hi⟩
theorem getP {h : Heap} {adr : List Addr} {H : DH} (x : LR S h adr H) {v : Value} {i : Nat} (hv : VR S h adr v (.ref i)) {ds : List DV} (e : H[i]? = some ds) :
    ∃ a vs, v = .ref a ∧ h.PlainList a (List.toArray vs) ∧ VRs S h adr vs ds ∧ adr[i]? = some a := by
  obtain ⟨a, rfl, hi⟩ := hv.ref_inv
  obtain ⟨vs, hl, hr⟩ := x.at_ i _ ds hi e
  exact ⟨_, vs, rfl, hl, hr, hi⟩

theorem op_add : Op2 prog w S nm k (fun a b => binaryOp .Add a b) fAdd := by
  constructor
  intro env sc A σ a b v H' s m adr a' b' Q E he hA hf R ha hb ret
  unfold fAdd at hf
  split at hf
  · cases hf; obtain ⟨_, rfl⟩ := ha.int_inv; obtain ⟨_, rfl⟩ := hb.int_inv
    exact add_int (ret _ _ _ adr R (.refl R.lr.nodup _) (.int _ _))
  · rename_i i j
    split at hf
    · rename_i xs ys q1 q2
      split at hf
      · rename_i hsz
        cases hf
        obtain ⟨l, vs, rfl, hl, hv, _⟩ := getL R.lr ha q1
        obtain ⟨b, ws, rfl, hb', hw, _⟩ := getL R.lr hb q2
        obtain ⟨⟨cls, dd, data, sl⟩, ho, hc, n, hd⟩ := id hl
        obtain ⟨⟨cls2, dd2, data2, sl2⟩, ho2, hc2, n2, hd2⟩ := id hb'
        simp only at hc hd hc2 hd2
        subst hc hd hc2 hd2
        have e : vs.toArray ++ ws.toArray = (vs ++ ws).toArray := by simp
        refine concat_meets ⟨_, ho, rfl⟩ ⟨_, ho2, rfl⟩ noFill_list_add seq_list_add PySem.F.slot_list_add PySem.F.entry_list_add (PySem.F.args_list_add_2 _ _) (list_addW l b vs.toArray ws.toArray n n2 dd dd2 sl sl2 (by simp [hv.length, hw.length, sizeLine_eq]; omega)) ⟨ho, ho2, ?_⟩
        rw [e]
        obtain ⟨R2, E2, V2⟩ := R.pushList (hv.append hw) _ rfl
        exact ret _ _ s.toks _ R2 E2 V2
      · cases hf
    · cases hf
  · cases hf
theorem op_sub : Op2 prog w S nm k (fun a b => binaryOp .Sub a b) fSub := by
  constructor
  intro env sc A σ a b v H' s m adr a' b' Q E he hA hf R ha hb ret
  unfold fSub at hf
  split at hf
  · cases hf; obtain ⟨_, rfl⟩ := ha.int_inv; obtain ⟨_, rfl⟩ := hb.int_inv
    exact sub_int (ret _ _ _ adr R (.refl R.lr.nodup _) (.int _ _))
  · cases hf; cases ha.bool_inv; cases hb.bool_inv
    refine sub_bool ?_
    exact ret _ _ _ adr R (.refl R.lr.nodup _) (.int _ _)
  · cases hf
theorem op_mul : Op2 prog w S nm k (fun a b => binaryOp .Mult a b) fMul := by
  constructor
  intro env sc A σ a b v H' s m adr a' b' Q E he hA hf R ha hb ret
  unfold fMul at hf
  split at hf
  · split at hf
    · rename_i hs
      have := smallI_lt hs
      cases hf; obtain ⟨_, rfl⟩ := ha.int_inv; obtain ⟨_, rfl⟩ := hb.int_inv
      exact mul_int (ret _ _ _ adr R (.refl R.lr.nodup _) (.int _ _)) (.of_left (intBits_le_64 (by omega) (by omega)))
    · cases hf
  · rename_i i n
    split at hf
    · rename_i xs q
      split at hf
      · rename_i hn
        obtain ⟨h0, h1, h2⟩ := hn
        cases hf
        obtain ⟨l, vs, rfl, hl, hv, _⟩ := getL R.lr ha q
        obtain ⟨_, rfl⟩ := hb.int_inv
        obtain ⟨⟨cls, d, data, sl⟩, ho, hcl, k, hd⟩ := id hl
        simp only at hcl hd
        subst hcl hd
        have hlv := hv.length
        have hsz : vs.toArray.size * n.toNat ≤ 1000 := by simpa [hlv] using h2
        refine wpAny_binaryOp_repeat_ref (T := "list") (U := "int") (by decide) ⟨_, ho, rfl⟩ (fun s' => typeIs_int s' n _) noFill_list_mul F.fills_int_mul F.slot_int_rmul repeat_list F.slot_int_index.lookup
          (call_meets F.slot_int_rmul (typeIs_int s n _) F.entry_int_rmul (F.args_int_rmul_2 _ _) (lm_int_rmul_list_any n _ l vs.toArray k d sl)
            ⟨ho, rfl, ⟨_, ho, rfl⟩, call_meets F.slot_list_mul ⟨_, ho, rfl⟩ F.entry_list_mul (F.args_list_mul_2 _ _)
              (lm_list_mul_any l vs.toArray k d sl n _ (by simp [Builtin.List.listFitsIndex]; omega) (by omega) (by simp [Builtin.List.listTooLong, sizeLine]; simp at hsz; omega))
              ⟨ho, ?_⟩⟩)
        have hr : VRs S s.heap adr (List.replicate n.toNat vs).flatten (List.replicate n.toNat xs).flatten := by
          generalize n.toNat = c
          induction c with
          | zero => exact .nil
          | succ c ih => simp only [List.replicate_succ, List.flatten_cons]; exact hv.append ih
        obtain ⟨R2, E2, V2⟩ := R.pushList hr { cls := .type "list", data := .seq (List.foldl (fun x1 x2 => x1 ++ x2) #[] (List.replicate (if vs.toArray.isEmpty = true then 0 else n.toNat) vs.toArray)) } (by rw [listMul_foldl_if])
        exact ret _ _ s.toks _ R2 E2 V2
      · cases hf
    · cases hf
  · cases hf
theorem op_div : Op2 prog w S nm k (fun a b => binaryOp .FloorDiv a b) fDiv := by
  constructor
  intro env sc A σ a b v H' s m adr a' b' Q E he hA hf R ha hb ret
  unfold fDiv at hf
  split at hf
  · split at hf
    · rename_i hb0
      cases hf; obtain ⟨_, rfl⟩ := ha.int_inv; obtain ⟨_, rfl⟩ := hb.int_inv
      exact floordiv_int hb0.1 (ret _ _ _ adr R (.refl R.lr.nodup _) (.int _ _)) (.inl (PyProof.noPylong_small (smallI_lt hb0.2)))
    · cases hf
  · cases hf
theorem op_mod : Op2 prog w S nm k (fun a b => binaryOp .Mod a b) fMod := by
  constructor
  intro env sc A σ a b v H' s m adr a' b' Q E he hA hf R ha hb ret
  unfold fMod at hf
  split at hf
  · split at hf
    · rename_i hb0
      cases hf; obtain ⟨_, rfl⟩ := ha.int_inv; obtain ⟨_, rfl⟩ := hb.int_inv
      exact mod_int hb0 (ret _ _ _ adr R (.refl R.lr.nodup _) (.int _ _))
    · cases hf
  · cases hf
noncomputable def fCmp (p : Int → Int → Bool) : DV → DV → DH → Option (DV × DH)
  | .int a, .int b, H => some (.bool (p a b), H)
  | _, _, _ => none
theorem op_cmp {t : Value → Value → Sem Value} {p : Int → Int → Bool} (ht : ∀ {A : Around} {x y : Int} {u v : Tok} {s : Shared} {Q : Value → Shared → Prop} {E : Value → Shared → Prop}, Q (.bool (p x y)) s → wpAny (model prog w) A (t (.int x u) (.int y v)) Q E s) :
    Op2 prog w S nm k t (fCmp p) := by
  constructor
  intro env sc A σ a b v H' s m adr a' b' Q E he hA hf R ha hb ret
  unfold fCmp at hf
  split at hf
  · cases hf; obtain ⟨_, rfl⟩ := ha.int_inv; obtain ⟨_, rfl⟩ := hb.int_inv
    exact ht (ret _ _ s.toks adr R (.refl R.lr.nodup _) (.bool _))
  · cases hf
theorem op_lt : Op2 prog w S nm k (fun a b => compareOp .Lt a b) fLt := op_cmp (p := fun a b => decide (a < b)) fun h => lt_int h
theorem op_le : Op2 prog w S nm k (fun a b => compareOp .LtE a b) fLe := op_cmp (p := fun a b => decide (a ≤ b)) fun h => le_int h
theorem op_gt : Op2 prog w S nm k (fun a b => compareOp .Gt a b) fGt := op_cmp (p := fun a b => decide (b < a)) fun h => gt_int h
theorem op_ge : Op2 prog w S nm k (fun a b => compareOp .GtE a b) fGe := op_cmp (p := fun a b => decide (b ≤ a)) fun h => ge_int h

theorem rc_of {A : Around} {s : Shared} {σ : DS} {m : Str → Option Value} {adr : List Addr} {env : Env} {a b : DV} {a' b' : Value} {c : Bool} (hu : A.units + 20 < cLine) (R : Rel S nm env s.heap σ m adr)
    (ha : VR S s.heap adr a' a) (hb : VR S s.heap adr b' b) (q : deq a b σ.heap = some c) : RcAt A s a' b' c ∧ RcNeAt A s a' b' (!c) := by
  have hu0 : A.units < cLine := by omega
  have plain : peq 8 a b = some c → RcAt A s a' b' c ∧ RcNeAt A s a' b' (!c) := by
    intro q
    rcases peq_tup q with ⟨x, y, rfl, rfl, rfl⟩ | ⟨x, y, rfl, rfl, rfl⟩ | ⟨n', xs, ys, z, e, rfl, rfl, q', rfl⟩
    · cases ha.bool_inv; cases hb.bool_inv; exact ⟨fun prog w E Q hq => eq_bool hq, .bool_bool _ _⟩
    · obtain ⟨_, rfl⟩ := ha.int_inv; obtain ⟨_, rfl⟩ := hb.int_inv; exact ⟨fun prog w E Q hq => eq_int hq, .int_int _ _ _ _⟩
    · cases e
      obtain ⟨a, vs, rfl, x1, r1⟩ := ha.tup_inv
      obtain ⟨a', vs', rfl, y1, r2⟩ := hb.tup_inv
      obtain ⟨e', he, hb⟩ := zipEq_get q'
      have hE : ∀ j (h1 : j < vs.toArray.size) (h2 : j < vs'.toArray.size), EqAt A.in1 s vs.toArray[j] vs'.toArray[j] (e' j) := fun j h1 h2 => by
        have h1' : j < vs.length := by simpa using h1
        have h2' : j < vs'.length := by simpa using h2
        obtain ⟨d1, e1, v1⟩ := r1.getV (List.getElem?_eq_getElem h1')
        obtain ⟨d2, e2, v2⟩ := r2.getV (List.getElem?_eq_getElem h2')
        have := eqAt_of 7 A.in1 (by show A.units + 1 + 7 < cLine; omega) v1 v2 (he j d1 d2 e1 e2)
        simpa using this
      have h1 := RcAt.tuples (A := A) (s := s) (e := e') x1 y1 hu0 hE
      have h2 := RcNeAt.tuples (A := A) (s := s) (e := e') x1 y1 hu0 hE
      rw [hb]
      exact ⟨by simpa [r1.length, r2.length] using h1, by simpa [r1.length, r2.length] using h2⟩
  unfold deq at q
  split at q
  · rename_i i j
    split at q
    · rename_i xs ys q1 q2
      obtain ⟨l, vs, rfl, hl, hv, _⟩ := getL R.lr ha q1
      obtain ⟨l', ws, rfl, hl', hw, _⟩ := getL R.lr hb q2
      split at q
      · rename_i hlen
        obtain ⟨e', he, hb⟩ := zipEq_get q
        have hE : ∀ j (h1 : j < vs.toArray.size) (h2 : j < ws.toArray.size), EqAt A.in1 s vs.toArray[j] ws.toArray[j] (e' j) := fun j h1 h2 => by
          have h1' : j < vs.length := by simpa using h1
          have h2' : j < ws.length := by simpa using h2
          obtain ⟨d1, e1, v1⟩ := hv.getV (List.getElem?_eq_getElem h1')
          obtain ⟨d2, e2, v2⟩ := hw.getV (List.getElem?_eq_getElem h2')
          have := eqAt_of 8 A.in1 (by show A.units + 1 + 8 < cLine; omega) v1 v2 (he j d1 d2 e1 e2)
          simpa using this
        have hsz : vs.toArray.size = ws.toArray.size := by simp [hv.length, hw.length, hlen]
        have h1 := RcAt.lists (A := A) (s := s) (e := e') hl hl' hsz hu0 hE
        have h2 := RcNeAt.lists (A := A) (s := s) (e := e') hl hl' hsz hu0 hE
        rw [hb, ← hlen, Nat.min_self]
        exact ⟨by simpa [hv.length] using h1, by simpa [hv.length] using h2⟩
      · rename_i hlen
        cases q
        have hsz : (vs.toArray.size != ws.toArray.size) = true := by simp [hv.length, hw.length, hlen]
        exact ⟨.lists_lengths hl hl' hsz hu0, .lists_lengths hl hl' hsz hu0⟩
    · cases q
  · exact plain q
theorem op_eq : Op2 prog w S nm k (fun a b => compareOp .Eq a b) fEq := by
  constructor
  intro env sc A σ a b v H' s m adr a' b' Q E he hA hf R ha hb ret
  obtain ⟨c, q, e⟩ := Option.map_eq_some_iff.mp hf
  cases e
  exact (rc_of (by have := hA.units; omega) R ha hb q).1 prog w E Q (ret _ _ s.toks adr R (.refl R.lr.nodup _) (.bool _))
theorem op_ne : Op2 prog w S nm k (fun a b => compareOp .NotEq a b) fNe := by
  constructor
  intro env sc A σ a b v H' s m adr a' b' Q E he hA hf R ha hb ret
  obtain ⟨c, q, e⟩ := Option.map_eq_some_iff.mp hf
  cases e
  exact (rc_of (by have := hA.units; omega) R ha hb q).2 prog w E Q (ret _ _ s.toks adr R (.refl R.lr.nodup _) (.bool _))
end
end Mine
end
section
set_option maxRecDepth 100000
namespace Mine
open PySem PySem.Calls PyProof.Rows PySem.SeqAt

noncomputable def idx (i : Int) (n : Nat) : Option Nat := if 0 ≤ i ∧ i < n then some i.toNat else if i < 0 ∧ -(n : Int) ≤ i then some (i + n).toNat else none
noncomputable def fItem : DV → DV → DH → Option (DV × DH)
  | .tup ds, .int i, H => if ds.length ≤ 1000000 then ((idx i ds.length).bind fun j => ds[j]?).map fun d => (d, H) else none
  | .ref l, .int i, H => match H[l]? with
    | some ds => if ds.length ≤ 1000000 then ((idx i ds.length).bind fun j => ds[j]?).map fun d => (d, H) else none
    | none => none
  | _, _, _ => none
noncomputable def upto (u : Int) (ds : List DV) : List DV := if 0 ≤ u then ds.take u.toNat else ds.take (ds.length - (-u).toNat)
noncomputable def fUpto : DV → DV → DH → Option (DV × DH)
  | .ref l, .int u, H => match H[l]? with
    | some ds => if ds.length ≤ 1000000 then some (.ref H.length, H ++ [upto u ds]) else none
    | none => none
  | .ext ds, .int u, H => if ds.length ≤ 1000000 then some (.ref H.length, H ++ [upto u ds]) else none
  | _, _, _ => none
noncomputable def fNeg : DV → DH → Option (DV × DH)
  | .int a, H => some (.int (-a), H)
  | _, _ => none
noncomputable def map1 (d : EX) (f : DV → DH → Option (DV × DH)) : EX := fun σ => match d σ with
  | none => none
  | some (v, H) => f v H

theorem seqIndex_of {i : Int} {n j : Nat} (h : idx i n = some j) : seqIndex? i n = some j := by
  unfold idx at h
  unfold seqIndex?
  split at h
  · rename_i hc
    cases h
    simp only [Int.not_lt.mpr hc.1, if_false]
    rw [if_pos (by simp only [Bool.and_eq_true, decide_eq_true_eq]; exact ⟨hc.1, hc.2⟩)]
  · split at h
    · rename_i hc
      cases h
      simp only [hc.1, if_true]
      rw [if_pos (by simp only [Bool.and_eq_true, decide_eq_true_eq]; omega)]
    · cases h
theorem idx_lt {i : Int} {n j : Nat} (h : idx i n = some j) : -(n : Int) ≤ i ∧ i < n ∧ ((0 ≤ i ∧ j = i.toNat) ∨ (i < 0 ∧ j = (i + n).toNat)) := by
  unfold idx at h
  split at h
  · cases h; omega
  · split at h
    · cases h; omega
    · cases h

section
variable {prog : Program} {w : World} {S : Heap} {nm : Nat → Str} {sc : Scope} {k : Nat}

theorem getItem_is {env : Env} {A : Around} {σ : DS} {a b v : DV} {H' : DH} {s : Shared} {m : Str → Option Value} {adr : List Addr} {a' b' : Value} {Q : Value → Shared → Prop} {E : Value → Shared → Prop}
    (hf : fItem a b σ.heap = some (v, H')) (R : Rel S nm env s.heap σ m adr) (ha : VR S s.heap adr a' a) (hb : VR S s.heap adr b' b) (ret : RetE S nm env σ m adr s v H' Q) :
    wpAny (model prog w) A (getItem a' b') Q E s ∧ ∃ T id, s.TypeIs a' T ∧ typeLookup (.type T) "__getitem__" = pure (some (.builtin id)) := by
  have one : ∀ {ds : List DV} {vs : List Value} {i : Int}, VRs S s.heap adr vs ds → ds.length ≤ 1000000 → (((idx i ds.length).bind fun j => ds[j]?).map fun d => (d, σ.heap)) = some (v, H') →
      ∃ j x, idx i vs.length = some j ∧ vs[j]? = some x ∧ Q x s ∧ vs.length ≤ 1000000 := fun {ds vs i} hv hlen hf => by
    obtain ⟨d, q, e⟩ := Option.map_eq_some_iff.mp hf
    cases e
    obtain ⟨j, hj, hd⟩ := Option.bind_eq_some_iff.mp q
    obtain ⟨x, hx, hvx⟩ := hv.get hd
    exact ⟨j, x, by rw [hv.length]; exact hj, hx, ret x s.heap s.toks adr R (.refl R.lr.nodup _) hvx, by rw [hv.length]; exact hlen⟩
  unfold fItem at hf
  split at hf
  · rename_i ds i
    split at hf
    · rename_i hlen
      obtain ⟨t, vs, rfl, ht, hv⟩ := ha.tup_inv
      obtain ⟨j, x, hj, hx, hq, hl⟩ := one hv hlen hf
      obtain ⟨u, rfl⟩ := hb.int_inv
      have hT : IsTup s.heap t vs.toArray := ht
      have hb := idx_lt hj
      exact ⟨getItem_tuple hT (by omega) (by omega) (by simpa using seqIndex_of hj) (by simpa using hx) hq, _, _, hT.typeIs, slot_tuple_getitem.lookup⟩
    · cases hf
  · rename_i l i
    split at hf
    · rename_i ds q
      split at hf
      · rename_i hlen
        obtain ⟨t, vs, rfl, hl, hv, _⟩ := getL R.lr ha q
        obtain ⟨j, x, hj, hx, hq, hln⟩ := one hv hlen hf
        obtain ⟨u, rfl⟩ := hb.int_inv
        refine ⟨?_, _, _, hl.typeIs, slot_list_getitem.lookup⟩
        have hb := idx_lt hj
        rcases hb.2.2 with ⟨h0, e⟩ | ⟨h0, e⟩
        · exact wpAny_getItem_list hl h0 (by omega) (by subst e; simpa using hx) hq
        · exact wpAny_getItem_list_neg hl h0 (by simpa using hb.1) (by omega) (by subst e; simpa using hx) hq
      · cases hf
    · cases hf
  · cases hf

theorem SndE.item {d1 d2 : EX} {e1 e2 : Expr} {pos : Pos} (h1 : SndE prog w S nm sc k e1 d1) (h2 : SndE prog w S nm sc k e2 d2)
    (hs : ∀ o i, subscripted e2 false o i = operate [o, i] (getItem o i)) : SndE prog w S nm sc k (.Subscript e1 e2 pos) (seq2 d1 d2 fItem) := by
  constructor
  intro env A σ v H' s m adr Q E he hA hd R ret
  refine Subscript_ (seq2_two (t := fun a b => subscriptTail e1 e2 a b) h1 h2 ?_ he hA hd R ret)
  constructor
  intro env sc A σ a b v H' s m adr a' b' Q E he hA hf R ha hb ret
  obtain ⟨hg, T, id, hT, hl⟩ := getItem_is (prog := prog) (w := w) (A := A) (E := E) hf R ha hb ret
  exact tail_any hT hl hg (hs _ _)

theorem slice_upto_is {vs : List Value} {ds : List DV} {h : Heap} {adr : List Addr} (hv : VRs S h adr vs ds) (u : Int) : VRs S h adr (slicePick vs.toArray none (some u) none).toList (upto u ds) := by
  unfold upto
  split
  · rename_i h0
    have e : u = (u.toNat : Int) := by omega
    rw [e, slicePick_upto']
    simpa [← e] using hv.take u.toNat
  · rename_i h0
    have e : u = -(((-u).toNat : Nat) : Int) := by omega
    generalize (-u).toNat = c at e ⊢
    rw [e, slicePick_butLast vs.toArray c (by omega)]
    have := hv.take (ds.length - c)
    simpa [hv.length] using this

theorem SndE.upto {d1 d2 : EX} {e1 e2 : Expr} {p pos : Pos} (h1 : SndE prog w S nm sc k e1 d1) (h2 : SndE prog w S nm sc k e2 d2) :
    SndE prog w S nm sc k (.Subscript e1 (.Slice none (some e2) none p) pos) (seq2 d1 d2 fUpto) := by
  constructor
  intro env A σ v H' s m adr Q E he hA hd R ret
  refine Subscript_ ?_
  unfold seq2 at hd
  split at hd
  · cases hd
  rename_i a H1 q1
  split at hd
  · cases hd
  rename_i b H2 q2
  refine h1.ok env A σ a H1 s m adr _ E he hA q1 R fun a' h1' tk1 adr1 R1 E1 V1 => ?_
  refine wpAny_Slice ?_
  refine wpAny_pure ?_
  show wpAny _ _ (eval e2 env) _ _ _
  refine h2.ok env A ⟨σ.vars, H1⟩ b H2 _ m adr1 _ E he hA q2 R1 fun b' h2' tk2 adr2 R2 E2 V2 => ?_
  refine wpAny_pure ?_
  have ha := V1.up E2
  have main : ∀ {l : Addr} {vs : List Value} {ds : List DV} {u : Int}, a' = .ref l → b = .int u → h2'.IsList l vs.toArray → VRs S h2' adr2 vs ds → ds.length ≤ 1000000 → v = .ref H2.length → H' = H2 ++ [Mine.upto u ds] →
      wpAny (model prog w) A (subscriptTail e1 (.Slice none (some e2) none p) a' (.ref h2'.objs.size)) Q E { s with heap := h2'.push { cls := .type "slice", data := .fields #[.none, b', .none] }, toks := tk2 } := by
    intro l vs ds u ea eb hl hv hlen ev eH
    subst ea; subst eb; subst ev; subst eH
    obtain ⟨t, rfl⟩ := V2.int_inv
    obtain ⟨R3, E3⟩ := R2.push { cls := .type "slice", data := .fields #[.none, .int u t, .none] }
    have hl1 : (h2'.push { cls := .type "slice", data := .fields #[.none, .int u t, .none] }).IsList l vs.toArray := hl.push _
    refine tail_any (ops := [.ref h2'.objs.size, .ref l]) (Heap.IsList.typeIs (s := { s with heap := _, toks := tk2 }) hl1) slot_list_getitem.lookup (wpAny_getItem_list_slice (s := { s with heap := _, toks := tk2 }) hl1 (Heap.IsSliceOf.new ..) .none (.int u t) .none (by simp) ?_ (by simp [hv.length, sizeLine_eq]; omega)) rfl
    have hw := slice_upto_is (hv.up E3) u
    obtain ⟨R4, E4, V4⟩ := R3.pushList (vs := (slicePick vs.toArray none (some u) none).toList) hw { cls := .type "list", data := .seq (slicePick vs.toArray none (some u) none) } (by simp)
    exact ret _ _ tk2 _ R4 (((E1.trans E2).trans E3).trans E4) V4
  unfold fUpto at hd
  split at hd
  · split at hd
    · rename_i ds q
      split at hd
      · rename_i hlen
        cases hd
        obtain ⟨t, vs, rfl, hl, hv, _⟩ := getL R2.lr ha q
        exact main rfl rfl hl hv hlen rfl rfl
      · cases hd
    · cases hd
  · split at hd
    · rename_i hlen
      cases hd
      obtain ⟨a, vs, rfl, hl, hv⟩ := ha.ext_inv
      obtain ⟨o, ho, r⟩ := hl
      exact main rfl rfl ⟨o, R2.base _ _ ho, r⟩ hv hlen rfl rfl
    · cases hd
  · cases hd

theorem SndE.neg {d : EX} {e : Expr} {pos : Pos} (h : SndE prog w S nm sc k e d) : SndE prog w S nm sc k (.UnaryOp .USub e pos) (map1 d fNeg) := by
  constructor
  intro env A σ v H' s m adr Q E he hA hd R ret
  unfold map1 at hd
  split at hd
  · cases hd
  · rename_i v0 H0 q
    refine UnaryOp_ (h.ok env A σ v0 H0 s m adr _ E he hA q R fun v' h' tk' adr' R' E' V' => ?_)
    unfold fNeg at hd
    split at hd
    · cases hd
      obtain ⟨_, rfl⟩ := V'.int_inv
      exact neg_int (ret _ _ _ adr' R' E' (.int _ _))
    · cases hd
end
end Mine
end
section
set_option maxRecDepth 100000
namespace Mine
open PySem PySem.Calls PyProof.Rows PySem.SeqAt

inductive DF where
  | next
  | brk
  | ret (v : DV)
inductive FR (S h : Heap) (adr : List Addr) : Flow → DF → Prop
  | next : FR S h adr .next .next
  | brk : FR S h adr .brk .brk
  | ret {v : Value} {d : DV} : VR S h adr v d → FR S h adr (.ret v) (.ret d)

structure ExtS (env : Env) (adr : List Addr) (h : Heap) (adr' : List Addr) (h' : Heap) : Prop where
  pre : ∃ ex : List Addr, adr' = adr ++ ex ∧ ∀ a ∈ ex, h.get? a = Option.none
  keep : ∀ b o, h.get? b = some o → b ∉ adr → b ≠ env.locals → (∀ x c, env.cells.lookup x = some c → b ≠ c) → h'.get? b = some o
  tup : ∀ a (vs : Array Value), h.IsTuple a vs → h'.IsTuple a vs
  nd : adr'.Nodup
  live : ∀ b, h'.get? b = Option.none → h.get? b = Option.none
theorem LR.live {S h : Heap} {adr : List Addr} {H : DH} (x : LR S h adr H) {b : Addr} (hm : b ∈ adr) : ∃ o, h.get? b = some o := by
  obtain ⟨i, hi, rfl⟩ := List.getElem_of_mem hm
  obtain ⟨vs, ⟨n', ho⟩, _⟩ := x.at_ i _ (H[i]'(x.len ▸ hi)) (List.getElem?_eq_getElem hi) (List.getElem?_eq_getElem (x.len ▸ hi))
  exact ⟨_, ho⟩
theorem Ext.s {env : Env} {S : Heap} {adr adr' : List Addr} {h h' : Heap} {H' : DH} (x : Ext adr h adr' h') (lr : LR S h' adr' H') : ExtS env adr h adr' h' :=
  ⟨x.pre, fun b o e n _ _ => x.keep b o e n, x.tup, x.nd, fun b e => by
    cases q : h.get? b with
    | none => rfl
    | some o =>
      by_cases hb : b ∈ adr
      · obtain ⟨ex, rfl, _⟩ := x.pre
        obtain ⟨o', ho'⟩ := lr.live (List.mem_append_left _ hb)
        rw [e] at ho'; cases ho'
      · rw [x.keep b o q hb] at e; cases e⟩
theorem ExtS.get {env : Env} {a a' : List Addr} {h h' : Heap} (x : ExtS env a h a' h') (i : Nat) (b : Addr) (e : a[i]? = some b) : a'[i]? = some b := by
  obtain ⟨⟨ex, rfl, _⟩, _⟩ := x
  rw [List.getElem?_append_left (List.getElem?_eq_some_iff.mp e).1]; exact e
theorem ExtS.trans {env : Env} {a a' a'' : List Addr} {h h' h'' : Heap} (x : ExtS env a h a' h') (y : ExtS env a' h' a'' h'') : ExtS env a h a'' h'' := by
  obtain ⟨⟨ex, rfl, hex⟩, k, t, _, l⟩ := x
  obtain ⟨⟨ex', rfl, hex'⟩, k', t', nd, l'⟩ := y
  refine ⟨⟨ex ++ ex', by simp, fun b hb => ?_⟩, fun b o e n hL hc => k' b o (k b o e n hL hc) ?_ hL hc, fun a vs x => t' a vs (t a vs x), nd, fun b e => l b (l' b e)⟩
  · rcases List.mem_append.mp hb with hb | hb
    · exact hex b hb
    · exact l b (hex' b hb)
  · intro hb
    rcases List.mem_append.mp hb with hb | hb
    · exact n hb
    · rw [hex b hb] at e; cases e
theorem VR.upS {env : Env} {S h h' : Heap} {adr adr' : List Addr} {v : Value} {d : DV} (x : VR S h adr v d) (y : ExtS env adr h adr' h') : VR S h' adr' v d := x.mono y.tup y.get
theorem VRs.upS {env : Env} {S h h' : Heap} {adr adr' : List Addr} {v : List Value} {d : List DV} (x : VRs S h adr v d) (y : ExtS env adr h adr' h') : VRs S h' adr' v d := x.mono y.tup y.get

abbrev SX := DS → Option (DF × DS)
abbrev GX := DV → DS → Option DS
section
variable (prog : Program) (w : World) (S : Heap) (nm : Nat → Str)
noncomputable def RetS (env : Env) (adr : List Addr) (s : Shared) (f : DF) (σ' : DS) (Q : Flow → Shared → Prop) : Prop :=
  ∀ f' h' tk' m' adr', Rel S nm env h' σ' m' adr' → ExtS env adr s.heap adr' h' → FR S h' adr' f' f → Q f' { s with heap := h', toks := tk' }
noncomputable def RetG (env : Env) (adr : List Addr) (s : Shared) (σ' : DS) (Q : Unit → Shared → Prop) : Prop :=
  ∀ h' tk' m' adr', Rel S nm env h' σ' m' adr' → ExtS env adr s.heap adr' h' → Q () { s with heap := h', toks := tk' }
structure SndS (sc : Scope) (k : Nat) (st : Stmt) (d : SX) : Prop where
  ok : ∀ env A σ f σ' s m adr (Q : Flow → Shared → Prop) (E : Value → Shared → Prop), EnvOK env sc → ActOK k A → d σ = some (f, σ') → Rel S nm env s.heap σ m adr →
    RetS S nm env adr s f σ' Q → wpAny (model prog w) A (exec st env) Q E s
structure SndB (sc : Scope) (k : Nat) (st : List Stmt) (d : SX) : Prop where
  ok : ∀ env A σ f σ' s m adr (Q : Flow → Shared → Prop) (E : Value → Shared → Prop), EnvOK env sc → ActOK k A → d σ = some (f, σ') → Rel S nm env s.heap σ m adr →
    RetS S nm env adr s f σ' Q → wpAny (model prog w) A (execs st env) Q E s
/-- a target of an assignment -/
structure SndG (sc : Scope) (k : Nat) (tgt : Expr) (g : GX) : Prop where
  ok : ∀ env A σ v v' σ' s m adr (Q : Unit → Shared → Prop) (E : Value → Shared → Prop), EnvOK env sc → ActOK k A → g v σ = some σ' → Rel S nm env s.heap σ m adr → VR S s.heap adr v' v →
    RetG S nm env adr s σ' Q → wpAny (model prog w) A (assign tgt env v') Q E s
end

section
variable {prog : Program} {w : World} {S : Heap} {nm : Nat → Str} {sc : Scope} {k : Nat}

theorem RetS.up {env : Env} {adr adr' : List Addr} {s : Shared} {f : DF} {σ' : DS} {Q : Flow → Shared → Prop} {h' : Heap} {tk' : Nat} (x : RetS S nm env adr s f σ' Q) (e : ExtS env adr s.heap adr' h') :
    RetS S nm env adr' { s with heap := h', toks := tk' } f σ' Q := fun f' h'' tk'' m'' adr'' R E V => x f' h'' tk'' m'' adr'' R (e.trans E) V
theorem RetG.up {env : Env} {adr adr' : List Addr} {s : Shared} {σ' : DS} {Q : Unit → Shared → Prop} {h' : Heap} {tk' : Nat} (x : RetG S nm env adr s σ' Q) (e : ExtS env adr s.heap adr' h') :
    RetG S nm env adr' { s with heap := h', toks := tk' } σ' Q := fun h'' tk'' m'' adr'' R E => x h'' tk'' m'' adr'' R (e.trans E)
theorem ExtS.refl {env : Env} {adr : List Addr} {h : Heap} (hn : adr.Nodup) : ExtS env adr h adr h := ⟨⟨[], by simp, by simp⟩, fun _ _ e _ _ _ => e, fun _ _ x => x, hn, fun _ e => e⟩

/-- a change at one place that is neither a list nor a tuple -/
theorem ext_one {env : Env} {h h' : Heap} {adr : List Addr} {H : DH} {b : Addr} (lr : LR S h adr H) (hb : b ∉ adr) (ht : ∀ vs, ¬ h.IsTuple b vs) (hs : Heap.SameBut b h h') (hl : ∃ o, h'.get? b = some o)
    (hx : b = env.locals ∨ ∃ x, env.cells.lookup x = some b) : LR S h' adr H ∧ ExtS env adr h adr h' := by
  have kp : ∀ c o, c ≠ b → h.get? c = some o → h'.get? c = some o := fun c o n e => (hs.2 c n).trans e
  have tup : ∀ a (vs : Array Value), h.IsTuple a vs → h'.IsTuple a vs := fun a vs x => by
    have n : a ≠ b := fun e => ht vs (e ▸ x)
    obtain ⟨o, ho, r⟩ := x
    exact ⟨o, kp a o n ho, r⟩
  refine ⟨⟨lr.len, fun i a ds e e' => ?_, lr.nodup, lr.own⟩, ⟨[], by simp, by simp⟩, fun c o e _ hL hc => kp c o ?_ e, tup, lr.nodup, fun c e => ?_⟩
  · obtain ⟨vs, ⟨n, ho⟩, hv⟩ := lr.at_ i a ds e e'
    exact ⟨vs, ⟨n, kp a _ (fun q => hb (q ▸ List.mem_of_getElem? e)) ho⟩, hv.mono tup fun _ _ e => e⟩
  · rintro rfl
    rcases hx with rfl | ⟨x, hx⟩
    · exact hL rfl
    · exact hc x c hx rfl
  · by_cases n : c = b
    · subst n; obtain ⟨o, ho⟩ := hl; rw [e] at ho; cases ho
    · rw [hs.2 c n] at e; exact e

theorem store_ok (hi : ∀ x z, nm x = nm z → x = z) {env : Env} {A : Around} {σ : DS} {s : Shared} {m : Str → Option Value} {adr : List Addr} {x : Nat} {id : Str} {v : DV} {v' : Value} {Q : Unit → Shared → Prop} {E : Value → Shared → Prop}
    (he : EnvOK env sc) (hx : nm x = id) (hk : sc.names.lookup id = some .local ∨ sc.names.lookup id = some .cell) (R : Rel S nm env s.heap σ m adr) (hv : VR S s.heap adr v' v)
    (ret : RetG S nm env adr s ⟨setv x v σ.vars, σ.heap⟩ Q) : wpAny (model prog w) A (storeName env id v') Q E s := by
  subst hx
  rw [← he.sc] at hk
  rcases hk with hk | hk
  · refine wpAny_storeName_local hk R.ns (fun h' hn hs => ?_) (by rw [he.kind]; rfl)
    obtain ⟨o, _, _, ho, hd, _⟩ := id hn
    obtain ⟨lr, ex⟩ := ext_one (env := env) R.lr (R.lr.notNs R.ns) (fun vs ⟨o, ho, _, n, hd⟩ => by
      obtain ⟨o', _, _, ho', hd', _⟩ := R.ns
      rw [ho] at ho'; cases ho'; rw [hd] at hd'; cases hd') hs ⟨o, ho⟩ (.inl rfl)
    have cellNe : ∀ {c y}, s.heap.IsCell c y → c ≠ env.locals := fun {c y} ⟨o, ho, hd⟩ e => by
      obtain ⟨o', _, _, ho', hd', _⟩ := R.ns
      subst e; rw [ho] at ho'; cases ho'; rw [hd] at hd'; cases hd'
    refine ret h' _ _ adr ⟨hn, fun b o e => (hs.2 b fun q => ?_).trans (R.base b o e), lr, fun z d e => ?_, R.fresh, fun y c e => ?_, R.cinj, R.cex⟩ ex
    · rw [q, R.fresh] at e; cases e
    · rw [lookup_setv] at e
      split at e
      · rename_i hz
        cases e; subst hz
        exact ⟨v', .inl ⟨hk, by simp⟩, hv.upS ex⟩
      · rename_i hz
        obtain ⟨u, hu, hvu⟩ := R.vars z d e
        refine ⟨u, ?_, hvu.upS ex⟩
        rcases hu with ⟨a, b⟩ | ⟨a, c, hc, hcell⟩
        · exact .inl ⟨a, by show (if nm z = nm x then some v' else m (nm z)) = some u; rw [if_neg fun q => hz (hi _ _ q)]; exact b⟩
        · exact .inr ⟨a, c, hc, hcell.sameBut hs (cellNe hcell)⟩
    · obtain ⟨a, u, hcell⟩ := R.cells y c e
      exact ⟨a, u, hcell.sameBut hs (cellNe hcell)⟩
  · obtain ⟨c, hc⟩ := R.cex _ hk
    obtain ⟨hS, u, hcell⟩ := R.cells _ _ hc
    refine wpAny_storeName_cell he.kind hk hc hcell fun h' hn hs => ?_
    obtain ⟨o, ho, hd⟩ := id hn
    obtain ⟨lr, ex⟩ := ext_one (env := env) R.lr (R.lr.notCell hcell) (fun vs ⟨o, ho, _, n, hd⟩ => by
      obtain ⟨o', ho', hd'⟩ := hcell
      rw [ho] at ho'; cases ho'; rw [hd] at hd'; cases hd') hs ⟨o, ho⟩ (.inr ⟨_, hc⟩)
    have nsNe : env.locals ≠ c := fun e => by
      obtain ⟨o', _, _, ho', hd', _⟩ := R.ns
      obtain ⟨o, ho, hd⟩ := hcell
      rw [e, ho] at ho'; cases ho'; rw [hd] at hd'; cases hd'
    refine ret h' s.toks m adr ⟨R.ns.sameBut hs nsNe, fun b o e => (hs.2 b fun q => ?_).trans (R.base b o e), lr, fun z d e => ?_, R.fresh, fun y c' e => ?_, R.cinj, R.cex⟩ ex
    · rw [q, hS] at e; cases e
    · rw [lookup_setv] at e
      split at e
      · rename_i hz
        cases e; subst hz
        exact ⟨v', .inr ⟨hk, c, hc, hn⟩, hv.upS ex⟩
      · rename_i hz
        obtain ⟨u, hu, hvu⟩ := R.vars z d e
        refine ⟨u, ?_, hvu.upS ex⟩
        rcases hu with ⟨a, b⟩ | ⟨a, c', hc', hcell'⟩
        · exact .inl ⟨a, b⟩
        · exact .inr ⟨a, c', hc', hcell'.sameBut hs fun q => hz (hi _ _ (R.cinj _ _ _ hc' (q ▸ hc)))⟩
    · by_cases q : c' = c
      · subst q; exact ⟨hS, _, hn⟩
      · obtain ⟨a, u, hcell'⟩ := R.cells y c' e
        exact ⟨a, u, hcell'.sameBut hs q⟩

/-! targets -/
noncomputable def setG (x : Nat) : GX := fun v σ => some ⟨setv x v σ.vars, σ.heap⟩
theorem SndG.name (hi : ∀ x z, nm x = nm z → x = z) {x : Nat} {id : Str} {pos : Pos} (hx : nm x = id) (hk : sc.names.lookup id = some .local ∨ sc.names.lookup id = some .cell) : SndG prog w S nm sc k (.Name id pos) (setG x) := by
  constructor
  intro env A σ v v' σ' s m adr Q E he hA hd R hv ret
  cases hd
  exact wpAny_assign_Name (store_ok hi he hx hk R hv ret)
end
end Mine
end
section
set_option maxRecDepth 100000
namespace Mine
open PySem PySem.Calls PyProof.Rows PySem.SeqAt

section
variable {prog : Program} {w : World} {S : Heap} {nm : Nat → Str} {sc : Scope} {k : Nat}

theorem fitsI {k : Int} (h1 : -(2 ^ 62) ≤ k) (h2 : k < 2 ^ 62) : Builtin.List.listFitsIndex k = true := by
  unfold Builtin.List.listFitsIndex
  simp only [Bool.and_eq_true, decide_eq_true_eq]
  omega
theorem plain_set {h : Heap} {l : Addr} {items : Array Value} {n : Nat} (ho : h.get? l = some { cls := .type "list", data := .seq items n }) (j : Nat) (v : Value) :
    (h.update l (Obj.mapSeq (·.setIfInBounds j v))).PlainList l (items.setIfInBounds j v) := by
  refine ⟨?n, ?_⟩
  rotate_left
  · rw [Heap.get?_update_self _ ho (Obj.isFreed_of_seq (Obj.data_mapSeq (o := { cls := .type "list", data := .seq items n }) rfl _).choose_spec)]
    rfl

theorem setItem_at {A : Around} {s : Shared} {E : Value → Shared → Prop} {l : Addr} {items : Array Value} {k : Int} {t : Tok} {v : Value} {j : Nat} {Q : Unit → Shared → Prop} (hl : s.heap.PlainList l items) (hj : idx k items.size = some j) (hn : items.size ≤ 1000000)
    (hQ : ∀ h', h'.PlainList l (items.setIfInBounds j v) → Heap.SameBut l s.heap h' → Q () { s with heap := h' }) : wpAny (model prog w) A (setItem (.ref l) (.int k t) v) Q E s := by
  obtain ⟨n, ho⟩ := id hl
  have hT := hl.isList.typeIs
  have hb := idx_lt hj
  have hlt : j < items.size := by omega
  have hx' : items[j]? = some items[j] := Array.getElem?_eq_getElem hlt
  have hfin := plain_set ho j v
  unfold setItem
  try with_reducible refine wpAny_holding ?_
  first | refine wpAny_bind (wpAny_pure ?_) | skip
  refine wpAny_bind (wpAny_sequenceKey hT (by decide) ?_)
  refine wpAny_bind (wpAny_callSpecial?_slot (name := Str.ofString "__setitem__") hT slot_list_setitem
    (wpAny_call_entry slot_list_setitem hT entry_list_setitem ?_ (args_list_setitem _ _ _)))
  show wpAny _ _ (Builtin.List.listSubscript? (.int k t) >>= _) _ _ s
  refine wpAny_bind (wpAny_listSubscript_int (fitsI (by omega) (by omega)) ?_)
  rcases hb.2.2 with ⟨h0, e⟩ | ⟨h0, e⟩
  · obtain ⟨i, rfl⟩ := Int.eq_ofNat_of_zero_le h0
    have e' : j = i := by omega
    subst e'
    show wpAny _ _ ((seqItemAt l j >>= fun r => pure (r.map (j, ·))) >>= _) _ _ s
    refine wpAny_bind (wpAny_bind (wpAny_seqItemAt ho rfl (wpAny_pure ?_)))
    rw [hx']
    show wpAny _ _ (setSeqItemAt l j v >>= _) _ _ s
    refine wpAny_bind (wpAny_setSeqItemAt ho rfl ?_)
    first
      | exact wpAny_bind (wpAny_pure (wpAny_pure ⟨.none, rfl, wpAny_pure (hQ _ hfin (Heap.SameBut.update ..))⟩))
      | exact wpAny_pure ⟨.none, rfl, wpAny_pure (hQ _ hfin (Heap.SameBut.update ..))⟩
  · have hidx := seqIndex_of hj
    obtain ⟨i, rfl⟩ : ∃ i : Nat, k = Int.negSucc i := by
      cases k with
      | ofNat n => exact absurd h0 (Int.not_lt.mpr (Int.natCast_nonneg n))
      | negSucc n => exact ⟨n, rfl⟩
    show wpAny _ _ ((Builtin.List.listItems (.ref l) >>= fun xs => pure ((seqIndex? (Int.negSucc i) xs.size).bind fun i => xs[i]?.map (i, ·))) >>= _) _ _ s
    refine wpAny_bind (wpAny_bind ?_)
    show wpAny _ _ (seqItems? (.ref l) >>= _) _ _ s
    refine wpAny_bind (wpAny_seqItems ho rfl (wpAny_pure (wpAny_pure ?_)))
    simp only [Option.getD_some]
    rw [hidx]
    simp only [Option.bind_some, hx', Option.map_some]
    show wpAny _ _ (setSeqItemAt l j v >>= _) _ _ s
    refine wpAny_bind (wpAny_setSeqItemAt ho rfl ?_)
    first
      | exact wpAny_bind (wpAny_pure (wpAny_pure ⟨.none, rfl, wpAny_pure (hQ _ hfin (Heap.SameBut.update ..))⟩))
      | exact wpAny_pure ⟨.none, rfl, wpAny_pure (hQ _ hfin (Heap.SameBut.update ..))⟩

theorem nodup_at {l : List Addr} (hn : l.Nodup) {i j : Nat} {a : Addr} (hne : i ≠ j) (e : l[i]? = some a) (e' : l[j]? = some a) : False := by
  obtain ⟨h1, h1'⟩ := List.getElem?_eq_some_iff.mp e
  obtain ⟨h2, h2'⟩ := List.getElem?_eq_some_iff.mp e'
  have hp := List.pairwise_iff_getElem.mp hn
  rcases Nat.lt_or_gt_of_ne hne with h | h
  · exact hp i j h1 h2 h (h1'.trans h2'.symm)
  · exact hp j i h2 h1 h (h2'.trans h1'.symm)

/-- one list of the abstract heap changes -/
theorem Rel.setList {env : Env} {h h' : Heap} {σ : DS} {m : Str → Option Value} {adr : List Addr} {i : Nat} {a : Addr} {vs : List Value} {ds : List DV} (R : Rel S nm env h σ m adr) (ha : adr[i]? = some a)
    (hl : h'.PlainList a vs.toArray) (hs : Heap.SameBut a h h') (hv : VRs S h adr vs ds) : Rel S nm env h' ⟨σ.vars, σ.heap.set i ds⟩ m adr ∧ Ext adr h adr h' := by
  have hm : a ∈ adr := List.mem_of_getElem? ha
  have tup : ∀ b (vs : Array Value), h.IsTuple b vs → h'.IsTuple b vs := fun b vs x => by
    have n : b ≠ a := fun e => R.lr.notTup x (e ▸ hm)
    obtain ⟨o, ho, r⟩ := x
    exact ⟨o, (hs.2 b n).trans ho, r⟩
  have x : Ext adr h adr h' := ⟨⟨[], by simp, by simp⟩, fun b o e n => (hs.2 b fun q => n (q ▸ hm)).trans e, tup, R.lr.nodup⟩
  refine ⟨R.step x ⟨by simp [R.lr.len], fun j b es e e' => ?_, R.lr.nodup, R.lr.own⟩, x⟩
  by_cases hj : i = j
  · subst hj
    rw [ha] at e; cases e
    have hlt : i < σ.heap.length := by rw [← R.lr.len]; exact (List.getElem?_eq_some_iff.mp ha).1
    rw [List.getElem?_set_self hlt] at e'; cases e'
    exact ⟨vs, hl, hv.up x⟩
  · rw [List.getElem?_set_ne hj] at e'
    obtain ⟨us, ⟨n, ho⟩, hu⟩ := R.lr.at_ j b es e e'
    have n' : b ≠ a := fun q => by
      subst q
      exact nodup_at R.lr.nodup hj ha e
    exact ⟨us, ⟨n, (hs.2 b n').trans ho⟩, hu.up x⟩

noncomputable def setIt : DV → DV → DV → DH → Option DH
  | .ref l, .int i, v, H => match H[l]? with
    | some ds => if ds.length ≤ 1000000 then (idx i ds.length).map fun j => H.set l (ds.set j v) else none
    | none => none
  | _, _, _, _ => none
noncomputable def itemG (d1 d2 : EX) : GX := fun v σ => match d1 σ with
  | none => none
  | some (a, H1) => match d2 ⟨σ.vars, H1⟩ with
    | none => none
    | some (b, H2) => (setIt a b v H2).map fun H3 => ⟨σ.vars, H3⟩
theorem SndG.item {d1 d2 : EX} {e1 e2 : Expr} {pos : Pos} (h1 : SndE prog w S nm sc k e1 d1) (h2 : SndE prog w S nm sc k e2 d2) : SndG prog w S nm sc k (.Subscript e1 e2 pos) (itemG d1 d2) := by
  constructor
  intro env A σ v v' σ' s m adr Q E he hA hd R hv ret
  unfold itemG at hd
  split at hd
  · cases hd
  rename_i a H1 q1
  split at hd
  · cases hd
  rename_i b H2 q2
  obtain ⟨H3, q3, e⟩ := Option.map_eq_some_iff.mp hd
  cases e
  rw [assign_Subscript]
  refine wpAny_bind (wpAny_holding (h1.ok env A σ a H1 s m adr _ E he hA q1 R fun a' h1' tk1 adr1 R1 E1 V1 => wpAny_bind (wpAny_holding ?_)))
  refine h2.ok env A ⟨σ.vars, H1⟩ b H2 _ m adr1 _ E he hA q2 R1 fun b' h2' tk2 adr2 R2 E2 V2 => wpAny_bind (wpAny_standAt (wpAny_bind (wpAny_holding ?_)))
  have ha := V1.up E2
  have hv2 := (hv.up E1).up E2
  unfold setIt at q3
  split at q3
  · rename_i l i
    split at q3
    · rename_i ds q
      split at q3
      · rename_i hlen
        obtain ⟨j, hj, e⟩ := Option.map_eq_some_iff.mp q3
        subst e
        obtain ⟨t, vs, rfl, hl, hvs, hadr⟩ := getP R2.lr ha q
        obtain ⟨u, rfl⟩ := V2.int_inv
        refine setItem_at hl (by simpa [hvs.length] using hj) (by simp [hvs.length]; exact hlen) fun h3 hl3 hs3 => wpAny_release ?_
        obtain ⟨R3, E3⟩ := R2.setList (vs := vs.set j v') hadr (by simpa using hl3) hs3 (hvs.set hv2 j)
        exact ret h3 tk2 m adr2 R3 (((E1.trans E2).trans E3).s R3.lr)
      · cases q3
    · cases q3
  · cases q3

/-! a tuple of targets -/
noncomputable def listG : List GX → List DV → DS → Option DS
  | [], [], σ => some σ
  | g :: gs, v :: vs, σ => match g v σ with
    | none => none
    | some σ' => listG gs vs σ'
  | _, _, _ => none
structure SndGs (prog : Program) (w : World) (S : Heap) (nm : Nat → Str) (sc : Scope) (k : Nat) (ts : List (Env → Value → Sem Unit)) (g : List GX) : Prop where
  ok : ∀ env A σ vs vs' σ' s m adr (Q : Unit → Shared → Prop) (E : Value → Shared → Prop), EnvOK env sc → ActOK k A → listG g vs σ = some σ' → Rel S nm env s.heap σ m adr → VRs S s.heap adr vs' vs →
    RetG S nm env adr s σ' Q → wpAny (model prog w) A (assignInOrder (ts.map fun t => t env) vs') Q E s
theorem SndGs.nil : SndGs prog w S nm sc k [] [] := by
  constructor
  intro env A σ vs vs' σ' s m adr Q E he hA hd R hv ret
  cases vs with
  | nil => cases hv; cases hd; exact wpAny_pure (ret s.heap s.toks m adr R (.refl R.lr.nodup))
  | cons => cases hd
theorem SndGs.cons' {t : Env → Value → Sem Unit} {ts : List (Env → Value → Sem Unit)} {g : GX} {gs : List GX}
    (h : ∀ env A σ v v' σ' s m adr (Q : Unit → Shared → Prop) (E : Value → Shared → Prop), EnvOK env sc → ActOK k A → g v σ = some σ' → Rel S nm env s.heap σ m adr → VR S s.heap adr v' v → RetG S nm env adr s σ' Q → wpAny (model prog w) A (t env v') Q E s)
    (hs : SndGs prog w S nm sc k ts gs) : SndGs prog w S nm sc k (t :: ts) (g :: gs) := by
  constructor
  intro env A σ vs vs' σ' s m adr Q E he hA hd R hv ret
  cases vs with
  | nil => cases hd
  | cons v vs =>
    obtain ⟨v', us, rfl, h1, h2⟩ := hv.cons_inv
    unfold listG at hd
    split at hd
    · cases hd
    · rename_i σ1 q1
      show wpAny _ _ (do holding us (t env v'); assignInOrder (ts.map fun t => t env) us) _ _ _
      refine wpAny_bind (wpAny_holding (h env A σ v v' σ1 s m adr _ E he hA q1 R h1 fun h' tk' m' adr' R' E' => ?_))
      exact hs.ok env A σ1 vs us σ' _ m' adr' Q E he hA hd R' (h2.upS E') (ret.up E')
theorem SndGs.cons {t : Expr} {ts : List (Env → Value → Sem Unit)} {g : GX} {gs : List GX} (h : SndG prog w S nm sc k t g) (hs : SndGs prog w S nm sc k ts gs) : SndGs prog w S nm sc k ((fun env => assign t env) :: ts) (g :: gs) :=
  SndGs.cons' (fun env A σ v v' σ' s m adr Q E he hA hd R hv ret => h.ok env A σ v v' σ' s m adr Q E he hA hd R hv ret) hs
noncomputable def tupG (gs : List GX) : GX := fun v σ => match v with
  | .tup ds => if ds.length = gs.length then listG gs ds σ else none
  | _ => none
theorem SndG.tuple {elts : List Expr} {ts : List (Env → Value → Sem Unit)} {gs : List GX} {n : Nat} {pos : Pos} (hs : SndGs prog w S nm sc k ts gs) (ht : ∀ env, assignEach elts env = ts.map fun t => (false, t env)) (hl : ts.length = gs.length) :
    SndG prog w S nm sc k (.Tuple elts n pos) (tupG gs) := by
  constructor
  intro env A σ v v' σ' s m adr Q E he hA hd R hv ret
  unfold tupG at hd
  split at hd
  · rename_i ds
    split at hd
    · rename_i hlen
      obtain ⟨a, vs, rfl, hT, hvs⟩ := hv.tup_inv
      refine wpAny_assign_Tuple hA.handled hT (by rw [ht env]; simp [hvs.length, hlen, hl]) ?_ fun h' hx => ?_
      · rw [ht env]
        clear hl ht hs
        induction ts with
        | nil => rfl
        | cons t ts ih => simp
      · have kp : ∀ b o, s.heap.get? b = some o → h'.get? b = some o := fun b o e => hx b o (Nat.ne_of_lt (Heap.lt_size e)) e
        obtain ⟨R', E'⟩ := R.keeps kp
        rw [ht env, List.map_map]
        have := hs.ok env A σ ds vs σ' { s with heap := h' } m adr Q E he hA hd R' (hvs.up E') (ret.up (tk' := s.toks) (E'.s R'.lr))
        simpa [Function.comp_def] using this
    · cases hd
  · cases hd
end
end Mine
end
section
set_option maxRecDepth 100000
namespace Mine
open PySem PySem.Calls PyProof.Rows PySem.SeqAt

section
variable {prog : Program} {w : World} {S : Heap} {nm : Nat → Str} {sc : Scope} {k : Nat}

/-! plain statements -/
noncomputable def asgS (d : EX) (g : GX) : SX := fun σ => match d σ with
  | none => none
  | some (v, H) => (g v ⟨σ.vars, H⟩).map fun σ' => (.next, σ')
theorem SndS.assign {d : EX} {g : GX} {tgt value : Expr} {pos : Pos} (h : SndE prog w S nm sc k value d) (hg : SndG prog w S nm sc k tgt g)
    (he' : ∀ env, (assignEach [tgt] env).map (·.2) = [PySem.assign tgt env])
    (hs : ∀ env, EnvOK env sc → swapsWithSole [tgt] value pos.line env = pure false) (hw : ∀ env, EnvOK env sc → swappedStores [tgt] value env = pure Option.none) : SndS prog w S nm sc k (.Assign [tgt] value pos) (asgS d g) := by
  constructor
  intro env A σ f σ' s m adr Q E he hA hd R ret
  unfold asgS at hd
  split at hd
  · cases hd
  rename_i v H q
  obtain ⟨σ1, q1, e⟩ := Option.map_eq_some_iff.mp hd
  cases e
  refine wpAny_Assign_stores (h.ok env A σ v H s m adr _ E he hA q R fun v' h' tk' adr' R' E' V' => ?_) (hs env he) (hw env he)
  rw [he' env]
  show wpAny _ _ (PySem.assign tgt env v') _ _ _
  exact hg.ok env A ⟨σ.vars, H⟩ v v' σ' _ m adr' _ E he hA q1 R' V' fun h'' tk'' m'' adr'' R'' E'' => ret .next h'' tk'' m'' adr'' R'' ((E'.s R'.lr).trans E'') .next

/-- two or three names, stored from behind -/
noncomputable def swG (xs : List Nat) : GX := fun v σ => match v with
  | .tup ds => if ds.length = xs.length then listG (xs.reverse.map setG) ds.reverse σ else none
  | _ => none
theorem VRs.reverse {h : Heap} {adr : List Addr} : ∀ {vs : List Value} {ds : List DV}, VRs S h adr vs ds → VRs S h adr vs.reverse ds.reverse
  | _, _, .nil => .nil
  | _, _, .cons x r => by simp only [List.reverse_cons]; exact r.reverse.append (.one x)
theorem SndGs.names (hi : ∀ x z, nm x = nm z → x = z) : ∀ {xs : List Nat} {ids : List Str}, xs.map nm = ids → (∀ id ∈ ids, sc.names.lookup id = some .local ∨ sc.names.lookup id = some .cell) →
    SndGs prog w S nm sc k (ids.map fun n env v => bindName env n v) (xs.map setG)
  | [], _, rfl, _ => SndGs.nil
  | x :: xs, _, rfl, hk => SndGs.cons' (fun env A σ v v' σ' s m adr Q E he hA hd R hv ret => by
      cases hd
      exact wpAny_bindName (store_ok hi he rfl (hk _ (by simp)) R hv ret)) (SndGs.names hi rfl fun id h => hk id (by simp [h]))
theorem SndS.assignSw (hi : ∀ x z, nm x = nm z → x = z) {d : EX} {xs : List Nat} {ids : List Str} {elts : List Expr} {n : Nat} {tpos : Pos} {value : Expr} {pos : Pos} (h : SndE prog w S nm sc k value d)
    (hx : xs.map nm = ids) (hk0 : ∀ x ∈ xs, sc.names.lookup (nm x) = some .local ∨ sc.names.lookup (nm x) = some .cell)
    (hs : ∀ env, EnvOK env sc → swapsWithSole [.Tuple elts n tpos] value pos.line env = pure false) (hw : ∀ env, EnvOK env sc → swappedStores [.Tuple elts n tpos] value env = pure (some ids)) :
    SndS prog w S nm sc k (.Assign [.Tuple elts n tpos] value pos) (asgS d (swG xs)) := by
  have hk : ∀ id ∈ ids, sc.names.lookup id = some .local ∨ sc.names.lookup id = some .cell := fun id h => by
    subst hx
    obtain ⟨x, hx, e⟩ := List.mem_map.mp h
    subst e; exact hk0 x hx
  constructor
  intro env A σ f σ' s m adr Q E he hA hd R ret
  unfold asgS at hd
  split at hd
  · cases hd
  rename_i v H q
  obtain ⟨σ1, q1, e⟩ := Option.map_eq_some_iff.mp hd
  cases e
  refine Assign_Tuple_swapped (h.ok env A σ v H s m adr _ E he hA q R fun v' h' tk' adr' R' E' V' => ?_) (hs env he) (hw env he)
  unfold swG at q1
  split at q1
  · rename_i ds
    split at q1
    · rename_i hlen
      obtain ⟨a, vs, rfl, hT, hvs⟩ := V'.tup_inv
      have hsz : ids.length = vs.toArray.size := by subst hx; simp [hvs.length, hlen]
      rw [hsz]
      refine wpAny_unpackItems_tuple hA.handled hT fun h2 hx2 => ?_
      have kp : ∀ b o, h'.get? b = some o → h2.get? b = some o := fun b o e => hx2 b o (Nat.ne_of_lt (Heap.lt_size e)) e
      obtain ⟨R2, E2⟩ := R'.keeps kp
      have hr : xs.reverse.map nm = ids.reverse := by subst hx; simp
      have := (SndGs.names (prog := prog) (w := w) (S := S) (k := k) hi hr (fun id h => hk id (by simpa using h))).ok env A ⟨σ.vars, H⟩ ds.reverse vs.reverse σ' { s with heap := h2, toks := tk' } m adr' (fun _ => Q .next) E he hA q1 R2
        (hvs.up E2).reverse fun h'' tk'' m'' adr'' R'' E'' => ret .next h'' tk'' m'' adr'' R'' (((E'.trans E2).s R2.lr).trans E'') .next
      simpa [List.map_reverse, Function.comp_def] using this
    · cases q1
  · cases q1

theorem app_eq {id : Str} {e : Expr} {p apos pos : Pos} {env : Env} (hst : starEach [e] env = [(false, eval e env)]) (hl : (apos.endLine == pos.line) = true) :
    eval (.Call (.Attribute (.Name id p) "append" apos) [e] [] pos) env = (do
      let ov ← eval (.Name id p) env
      standAt apos.atName
      let (f, first) ← holding [ov] (getMethod ov "append" (do return (← importBound (.Name id p) env).getD true))
      callWith pos f first (backTo pos (starEach [e] env)) []) := by
  rw [arm_eval_Call]
  have hf : methodCallForm ([e].length + ([] : List Keyword).length) (backTo pos (starEach [e] env)) (backToKw pos (keywordEach [] env)) = true := by rw [hst]; rfl
  have hp : methodCallPos true (.Name id p) env apos pos = pure pos := by
    unfold methodCallPos
    rw [hl]; rfl
  unfold methodCall
  simp only [hf, hp]
  rfl
/-- x.append(e) -/
noncomputable def appS (x : Nat) (d : EX) : SX := fun σ => match σ.vars.lookup x with
  | some (.ref l) => (match d σ with
    | none => none
    | some (v, H) => match σ.heap[l]?, H[l]? with
      | some _, some ds => if ds.length ≤ 1000000 then some (.next, ⟨σ.vars, H.set l (ds ++ [v])⟩) else none
      | _, _ => none)
  | _ => none
theorem SndS.append {x : Nat} {id : Str} {d : EX} {e : Expr} {p apos pos spos : Pos} (hx : nm x = id) (hb : (id == ("__debug__" : Str)) = false) (h : SndE prog w S nm sc k e d)
    (hs : ∀ env, EnvOK env sc → swapsWith (.Call (.Attribute (.Name id p) "append" apos) [e] [] pos) Option.none spos.line env = pure false)
    (hst : ∀ env, starEach [e] env = [(false, eval e env)])
    (hl : (apos.endLine == pos.line) = true) :
    SndS prog w S nm sc k (.Expr (.Call (.Attribute (.Name id p) "append" apos) [e] [] pos) spos) (appS x d) := by
  constructor
  intro env A σ f σ' s m adr Q E he hA hd R ret
  unfold appS at hd
  split at hd
  · rename_i l q
    split at hd
    · cases hd
    rename_i v H q1
    split at hd
    · rename_i ds0 ds q0 q2
      split at hd
      · rename_i hlen
        cases hd
        refine wpAny_Expr ?_ (by unfold interactive; rw [he.kind]; rfl) (hs env he)
        refine MethodCall_ ?_ (app_eq (hst env) hl)
        refine (SndE.name (prog := prog) (S := S) (sc := sc) (k := k) hx hb).ok env A σ (.ref l) σ.heap s m adr _ E he hA (by unfold getE; rw [q]; rfl) R fun v' h' tk' adr' R' E' V' => ?_
        obtain ⟨a, vs, rfl, ⟨n, ho⟩, hvs, hadr⟩ := getP R'.lr V' q0
        refine Calls.getMethod_list_append ho rfl rfl ?_
        refine callWith_method1 ?_ (by rw [hst env]; rfl) rfl
        have hA1 := SndA.cons (prog := prog) (w := w) (S := S) (nm := nm) h (SndA.nil (prog := prog) (w := w) (S := S) (nm := nm) (sc := sc) (k := k)) (fun env => by rw [hst env]; rfl)
        refine hA1.ok pos env A σ [v] H _ m adr' _ E he hA (by simp [consA, nilA, q1]) R' fun us h2 tk2 adr2 R2 E2 V2 => ?_
        obtain ⟨u, us, rfl, W2, W3⟩ := V2.cons_inv
        cases W3.nil_inv
        obtain ⟨a2, vs2, e2, hp2, hvs2, hadr2⟩ := getP R2.lr (V'.up E2) q2
        cases e2
        refine wpAny_list_append_plain hp2 (fun h3 hp3 hs3 => ?_) (by simp [hvs2.length, sizeLine_eq]; omega)
        obtain ⟨R3, E3⟩ := R2.setList (vs := vs2 ++ [u]) hadr2 (by simpa using hp3) hs3 (hvs2.snoc W2)
        exact ret .next h3 tk2 m adr2 R3 (((E'.trans E2).trans E3).s R3.lr) .next
      · cases hd
    · cases hd
  · cases hd

noncomputable def ifS (t : TX) (a b : SX) : SX := fun σ => match t σ with
  | none => none
  | some (true, H) => a ⟨σ.vars, H⟩
  | some (false, H) => b ⟨σ.vars, H⟩
theorem SndS.ite {t : TX} {a b : SX} {et : Expr} {ba bb : List Stmt} {pos : Pos} (ht : SndT prog w S nm sc k et t) (h1 : SndB prog w S nm sc k ba a) (h2 : SndB prog w S nm sc k bb b) : SndS prog w S nm sc k (.If et ba bb pos) (ifS t a b) := by
  constructor
  intro env A σ f σ' s m adr Q E he hA hd R ret
  unfold ifS at hd
  refine wpAny_If ?_
  split at hd
  · cases hd
  · rename_i H q
    refine ht.ok env A σ true H s m adr _ E he hA q R fun h' tk' adr' R' E' => ?_
    rw [if_pos rfl]
    exact h1.ok env A ⟨σ.vars, H⟩ f σ' _ m adr' Q E he hA hd R' (ret.up (E'.s R'.lr))
  · rename_i H q
    refine ht.ok env A σ false H s m adr _ E he hA q R fun h' tk' adr' R' E' => ?_
    rw [if_neg (by simp)]
    exact h2.ok env A ⟨σ.vars, H⟩ f σ' _ m adr' Q E he hA hd R' (ret.up (E'.s R'.lr))
noncomputable def retS (d : EX) : SX := fun σ => (d σ).map fun p => (.ret p.1, ⟨σ.vars, p.2⟩)
theorem SndS.ret {d : EX} {e : Expr} {pos : Pos} (h : SndE prog w S nm sc k e d) : SndS prog w S nm sc k (.Return (some e) pos) (retS d) := by
  constructor
  intro env A σ f σ' s m adr Q E he hA hd R ret
  obtain ⟨⟨v, H⟩, q, e⟩ := Option.map_eq_some_iff.mp hd
  cases e
  exact wpAny_Return_some (h.ok env A σ v H s m adr _ E he hA q R fun v' h' tk' adr' R' E' V' => ret _ h' tk' m adr' R' (E'.s R'.lr) (.ret V'))
noncomputable def brkS : SX := fun σ => some (.brk, σ)
theorem SndS.brk {pos : Pos} : SndS prog w S nm sc k (.Break pos) brkS := by
  constructor
  intro env A σ f σ' s m adr Q E he hA hd R ret
  cases hd
  exact wpAny_Break (ret .brk s.heap s.toks m adr R (.refl R.lr.nodup) .brk)
/-- a statement that is not reached -/
noncomputable def noS : SX := fun _ => none
theorem SndS.no {st : Stmt} : SndS prog w S nm sc k st noS := ⟨fun env A σ f σ' s m adr Q E he hA hd R ret => by cases hd⟩
noncomputable def nilB : SX := fun σ => some (.next, σ)
noncomputable def consB (a b : SX) : SX := fun σ => match a σ with
  | some (.next, σ') => b σ'
  | r => r
theorem SndB.nil : SndB prog w S nm sc k [] nilB := by
  constructor
  intro env A σ f σ' s m adr Q E he hA hd R ret
  cases hd
  exact wpAny_execs_nil (ret .next s.heap s.toks m adr R (.refl R.lr.nodup) .next)
theorem SndB.cons {st : Stmt} {rest : List Stmt} {a b : SX} (h1 : SndS prog w S nm sc k st a) (h2 : SndB prog w S nm sc k rest b) : SndB prog w S nm sc k (st :: rest) (consB a b) := by
  constructor
  intro env A σ f σ' s m adr Q E he hA hd R ret
  unfold consB at hd
  refine wpAny_execs_cons ?_
  split at hd
  · rename_i σ1 q
    refine h1.ok env A σ .next σ1 s m adr _ E he hA q R fun f' h' tk' m' adr' R' E' V' => ?_
    cases V'
    exact h2.ok env A σ1 f σ' _ m' adr' Q E he hA hd R' (ret.up E')
  · rename_i hne
    refine h1.ok env A σ f σ' s m adr _ E he hA hd R fun f' h' tk' m' adr' R' E' V' => ?_
    have r := ret f' h' tk' m' adr' R' E' V'
    cases V' with
    | next => exact absurd hd (hne σ')
    | brk => exact r
    | ret _ => exact r

/-! while -/
noncomputable def whileS (t : TX) (b : SX) : Nat → SX
  | 0, _ => none
  | n + 1, σ => match t σ with
    | none => none
    | some (false, H) => some (.next, ⟨σ.vars, H⟩)
    | some (true, H) => match b ⟨σ.vars, H⟩ with
      | none => none
      | some (.next, σ') => whileS t b n σ'
      | some (.brk, σ') => some (.next, σ')
      | some (.ret v, σ') => some (.ret v, σ')
/-- a turn's end -/
inductive Turn (next : DS → Option (DF × DS)) (r : Option (DF × DS)) : DF → DS → Prop
  | next {σ2 : DS} {f : DF} {σ' : DS} (h : r = some (.next, σ2)) (q : next σ2 = some (f, σ')) : Turn next r f σ'
  | brk {σ2 : DS} (h : r = some (.brk, σ2)) : Turn next r .next σ2
  | ret {v : DV} {σ2 : DS} (h : r = some (.ret v, σ2)) : Turn next r (.ret v) σ2
theorem turn_ok {next : DS → Option (DF × DS)} {I : Nat → Shared → Prop} {b : SX} {body : List Stmt} {env : Env} {A : Around} {σ2 σ' : DS} {f : DF} {s : Shared} {m : Str → Option Value} {adr : List Addr} {Q : Flow → Shared → Prop} {E : Value → Shared → Prop} {n : Nat}
    (hb : SndB prog w S nm sc k body b) (he : EnvOK env sc) (hA : ActOK k A) (R : Rel S nm env s.heap σ2 m adr) (q : Turn next (b σ2) f σ')
    (hn : ∀ σ3 h3 tk3 m3 adr3, next σ3 = some (f, σ') → Rel S nm env h3 σ3 m3 adr3 → ExtS env adr s.heap adr3 h3 → I n { s with heap := h3, toks := tk3 })
    (ret : RetS S nm env adr s f σ' Q) :
    wpAny (model prog w) A (execs body env) (fun f' s₃ => match f' with
      | .next | .cont => ∃ m, m < n + 1 ∧ I m s₃
      | .brk => Q .next s₃
      | .ret v => Q (.ret v) s₃) E s := by
  cases q with
  | next h q =>
    refine hb.ok env A σ2 .next _ s m adr _ E he hA h R fun f' h3 tk3 m3 adr3 R3 E3 V3 => ?_
    cases V3
    exact ⟨n, Nat.lt_succ_self _, hn _ h3 tk3 m3 adr3 q R3 E3⟩
  | brk h =>
    refine hb.ok env A σ2 .brk _ s m adr _ E he hA h R fun f' h3 tk3 m3 adr3 R3 E3 V3 => ?_
    cases V3
    exact ret .next h3 tk3 m3 adr3 R3 E3 .next
  | ret h =>
    refine hb.ok env A σ2 (.ret _) _ s m adr _ E he hA h R fun f' h3 tk3 m3 adr3 R3 E3 V3 => ?_
    cases V3 with
    | ret V => exact ret _ h3 tk3 m3 adr3 R3 E3 (.ret V)
inductive WhStep (t : TX) (b : SX) (n : Nat) (σ : DS) : DF → DS → Prop
  | stop {H : DH} (h : t σ = some (false, H)) : WhStep t b n σ .next ⟨σ.vars, H⟩
  | turn {H : DH} {f : DF} {σ' : DS} (h : t σ = some (true, H)) (q : Turn (whileS t b n) (b ⟨σ.vars, H⟩) f σ') : WhStep t b n σ f σ'
theorem while_inv {t : TX} {b : SX} {n : Nat} {σ σ' : DS} {f : DF} (q : whileS t b (n + 1) σ = some (f, σ')) : WhStep t b n σ f σ' := by
  unfold whileS at q
  split at q
  · cases q
  · rename_i h; cases q; exact .stop h
  · rename_i h
    refine .turn h ?_
    split at q
    · cases q
    · rename_i e; exact .next e q
    · rename_i e; cases q; exact .brk e
    · rename_i e; cases q; exact .ret e
/-- between the turns -/
inductive LoopAt (S : Heap) (nm : Nat → Str) (env : Env) (s : Shared) (adr : List Addr) (P : DS → List Addr → Heap → Prop) : Shared → Prop
  | mk {h : Heap} {tk : Nat} {m : Str → Option Value} {adr' : List Addr} {σ1 : DS} (R : Rel S nm env h σ1 m adr') (E : ExtS env adr s.heap adr' h) (q : P σ1 adr' h) : LoopAt S nm env s adr P { s with heap := h, toks := tk }
theorem RetS.up' {env : Env} {adr adr' : List Addr} {s : Shared} {h' : Heap} {tk : Nat} {f : DF} {σ' : DS} {Q : Flow → Shared → Prop} (ret : RetS S nm env adr s f σ' Q) (E1 : ExtS env adr s.heap adr' h') : RetS S nm env adr' { s with heap := h', toks := tk } f σ' Q :=
  fun f' h2 tk2 m2 adr2 R2 E2 V2 => ret f' h2 tk2 m2 adr2 R2 (E1.trans E2) V2
theorem SndS.while {t : TX} {b : SX} {et : Expr} {body : List Stmt} {pos : Pos} (n : Nat) (ht : SndT prog w S nm sc k et t) (hb : SndB prog w S nm sc k body b) : SndS prog w S nm sc k (.While et body [] pos) (whileS t b n) := by
  constructor
  intro env A σ f σ' s m adr Q E he hA hd R ret
  refine wpAny_While ?_
  refine codeAny_whileLoop (fun n s' => LoopAt S nm env s adr (fun σ1 _ _ => whileS t b n σ1 = some (f, σ')) s') ?_ n (.mk (tk := s.toks) R (.refl R.lr.nodup) hd)
  intro n s' I
  cases I with
  | @mk h tk m' adr' σ1 R1 E1 q =>
  cases n with
  | zero => cases q
  | succ n =>
    cases while_inv q with
    | stop q1 =>
      refine ht.ok env A σ1 false _ _ m' adr' _ _ he hA q1 R1 fun h2 tk2 adr2 R2 E2 => ?_
      rw [if_neg Bool.false_ne_true]
      exact wpAny_execs_nil (ret .next h2 tk2 m' adr2 R2 (E1.trans (E2.s R2.lr)) .next)
    | turn q1 q2 =>
      refine ht.ok env A σ1 true _ _ m' adr' _ _ he hA q1 R1 fun h2 tk2 adr2 R2 E2 => ?_
      rw [if_pos rfl]
      have E12 := E1.trans (E2.s R2.lr)
      exact turn_ok (Q := Q) hb he hA R2 q2 (fun σ3 h3 tk3 m3 adr3 q R3 E3 => .mk R3 (E12.trans E3) q) (ret.up' E12)
end
end Mine
end
section
set_option maxRecDepth 100000
namespace Mine
open PySem PySem.Calls PyProof.Rows PySem.SeqAt

/-! iterators -/
inductive DI where
  | lst (l i : Nat)
  | rng (x left : Int)
  | enm (l i : Nat)
noncomputable def ItAt (h : Heap) (adr : List Addr) (I J : Addr) : DI → Prop
  | .lst l i => J = I ∧ ∃ a, adr[l]? = some a ∧ h.IsListIter I a i
  | .rng x left => J = I ∧ IsRangeIter h I x left 1
  | .enm l i => I ≠ J ∧ ∃ a old, adr[l]? = some a ∧ IsEnum h I J i old ∧ h.IsListIter J a i
noncomputable def itNext : DI → DH → Option (Option (DV × DI))
  | .lst l i, H => match H[l]? with
    | none => none
    | some ds => match ds[i]? with
      | none => some none
      | some v => some (some (v, .lst l (i + 1)))
  | .rng x left, _ => if left ≤ 0 then some none else some (some (.int x, .rng (x + 1) (left - 1)))
  | .enm l i, H => match H[l]? with
    | none => none
    | some ds => match ds[i]? with
      | none => some none
      | some v => some (some (.tup [.int i, v], .enm l (i + 1)))

/-- an object of fields: neither list nor tuple, dict, cell -/
noncomputable def FieldsAt (h : Heap) (I : Addr) : Prop := ∃ o fs, h.get? I = some o ∧ o.data = .fields fs
noncomputable def But (I J : Addr) (h h' : Heap) : Prop := ∀ b o, b ≠ I → b ≠ J → h.get? b = some o → h'.get? b = some o
theorem ItAt.fields {h : Heap} {adr : List Addr} {I J : Addr} {it : DI} (x : ItAt h adr I J it) : FieldsAt h I ∧ FieldsAt h J := by
  cases it with
  | lst l i => obtain ⟨rfl, a, _, o, ho, _, hd⟩ := x; exact ⟨⟨o, _, ho, hd⟩, ⟨o, _, ho, hd⟩⟩
  | rng y left => obtain ⟨rfl, hr⟩ := x; exact ⟨⟨_, _, hr, rfl⟩, ⟨_, _, hr, rfl⟩⟩
  | enm l i => obtain ⟨_, a, old, _, he, o, ho, _, hd⟩ := x; exact ⟨⟨_, _, he, rfl⟩, ⟨o, _, ho, hd⟩⟩

section
variable {prog : Program} {w : World} {S : Heap} {nm : Nat → Str} {sc : Scope} {k : Nat}

theorem FieldsAt.notAdr {h : Heap} {adr : List Addr} {H : DH} {I : Addr} (x : FieldsAt h I) (lr : LR S h adr H) : I ∉ adr := by
  intro hm
  obtain ⟨i, hi, rfl⟩ := List.getElem_of_mem hm
  obtain ⟨vs, ⟨n', ho⟩, _⟩ := lr.at_ i _ (H[i]'(lr.len ▸ hi)) (List.getElem?_eq_getElem hi) (List.getElem?_eq_getElem (lr.len ▸ hi))
  obtain ⟨o, fs, ho', hd⟩ := x
  rw [ho] at ho'; cases ho'; cases hd
theorem FieldsAt.notTup {h : Heap} {I : Addr} (x : FieldsAt h I) (vs : Array Value) : ¬ h.IsTuple I vs := by
  rintro ⟨o', ho', _, n, hd'⟩
  obtain ⟨o, fs, ho, hd⟩ := x
  rw [ho] at ho'; cases ho'; rw [hd] at hd'; cases hd'
theorem FieldsAt.notNs {h : Heap} {I : Addr} {m : Str → Option Value} (x : FieldsAt h I) : ¬ h.Ns I m := by
  rintro ⟨o', _, _, ho', hd', _⟩
  obtain ⟨o, fs, ho, hd⟩ := x
  rw [ho] at ho'; cases ho'; rw [hd] at hd'; cases hd'
theorem FieldsAt.notCell {h : Heap} {I : Addr} {v : Option Value} (x : FieldsAt h I) : ¬ h.IsCell I v := by
  rintro ⟨o', ho', hd'⟩
  obtain ⟨o, fs, ho, hd⟩ := x
  rw [ho] at ho'; cases ho'; rw [hd] at hd'; cases hd'

theorem But.tup {I J : Addr} {h h' : Heap} (x : But I J h h') (hI : FieldsAt h I) (hJ : FieldsAt h J) (a : Addr) (vs : Array Value) (t : h.IsTuple a vs) : h'.IsTuple a vs := by
  obtain ⟨o, ho, r⟩ := id t
  exact ⟨o, x a o (fun e => hI.notTup vs (e ▸ t)) (fun e => hJ.notTup vs (e ▸ t)) ho, r⟩

theorem Rel.but {env : Env} {h h' : Heap} {σ : DS} {m : Str → Option Value} {adr : List Addr} {I J : Addr} (R : Rel S nm env h σ m adr) (hI : FieldsAt h I) (hJ : FieldsAt h J) (sI : S.get? I = none) (sJ : S.get? J = none) (x : But I J h h') :
    Rel S nm env h' σ m adr := by
  have tup := x.tup hI hJ
  have cell : ∀ {c v}, h.IsCell c v → h'.IsCell c v := fun {c v} y => by
    obtain ⟨o, ho, hd⟩ := id y
    exact ⟨o, x c o (fun e => hI.notCell (e ▸ y)) (fun e => hJ.notCell (e ▸ y)) ho, hd⟩
  refine ⟨?_, fun b o e => x b o (fun q => by rw [q, sI] at e; cases e) (fun q => by rw [q, sJ] at e; cases e) (R.base b o e), ⟨R.lr.len, fun i a ds e e' => ?_, R.lr.nodup, R.lr.own⟩, fun z d e => ?_, R.fresh, fun y c e => ?_, R.cinj, R.cex⟩
  · obtain ⟨o, es, ep, ho, r⟩ := R.ns
    exact ⟨o, es, ep, x _ o (fun e => hI.notNs (m := m) (e ▸ R.ns)) (fun e => hJ.notNs (m := m) (e ▸ R.ns)) ho, r⟩
  · obtain ⟨vs, ⟨n, ho⟩, hv⟩ := R.lr.at_ i a ds e e'
    have hm : a ∈ adr := List.mem_of_getElem? e
    exact ⟨vs, ⟨n, x a _ (fun e => hI.notAdr R.lr (e ▸ hm)) (fun e => hJ.notAdr R.lr (e ▸ hm)) ho⟩, hv.mono tup fun _ _ e => e⟩
  · obtain ⟨u, hu, hvu⟩ := R.vars z d e
    refine ⟨u, ?_, hvu.mono tup fun _ _ e => e⟩
    rcases hu with y | ⟨a, c, hc, y⟩
    · exact .inl y
    · exact .inr ⟨a, c, hc, cell y⟩
  · obtain ⟨a, u, y⟩ := R.cells y c e
    exact ⟨a, u, cell y⟩

theorem ExtS.but {env : Env} {a0 adr : List Addr} {h0 h h' : Heap} {I J : Addr} (x : ExtS env a0 h0 adr h) (y : But I J h h') (hI : FieldsAt h I) (hJ : FieldsAt h J) (nI : h0.get? I = none) (nJ : h0.get? J = none) : ExtS env a0 h0 adr h' := by
  refine ⟨x.pre, fun b o e n hL hc => y b o (fun q => by rw [q, nI] at e; cases e) (fun q => by rw [q, nJ] at e; cases e) (x.keep b o e n hL hc), fun a vs t => y.tup hI hJ a vs (x.tup a vs t), x.nd, fun b e => ?_⟩
  by_cases q : b = I
  · rw [q]; exact nI
  · by_cases q' : b = J
    · rw [q']; exact nJ
    · cases q2 : h.get? b with
      | none => exact x.live b q2
      | some o => rw [y b o q q' q2] at e; cases e

/-- one turn of an iterator with a plain name as its target -/
theorem it_item {env : Env} {A : Around} {s : Shared} {σ : DS} {m : Str → Option Value} {adr : List Addr} {I J : Addr} {it it' : DI} {v : DV} {E : Value → Shared → Prop} {Q : Option Value → Shared → Prop} (R : Rel S nm env s.heap σ m adr) (hit : ItAt s.heap adr I J it)
    (sI : S.get? I = none) (sJ : S.get? J = none) (hn : itNext it σ.heap = some (some (v, it'))) (hne : ∀ l i, it ≠ .enm l i)
    (hQ : ∀ v' h' tk', Rel S nm env h' σ m adr → ItAt h' adr I J it' → VR S h' adr v' v → But I J s.heap h' → Q (some v') { s with heap := h', toks := tk' }) : wpAny (model prog w) A (pyNext (.ref I)) Q E s := by
  obtain ⟨fI, fJ⟩ := hit.fields
  cases it with
  | lst l i =>
    obtain ⟨rfl, a, ha, hit⟩ := hit
    dsimp only [itNext] at hn
    split at hn
    · cases hn
    rename_i ds q
    split at hn
    · cases hn
    rename_i v0 q1
    cases hn
    obtain ⟨vs, hl, hv⟩ := R.lr.at_ l a ds ha q
    obtain ⟨u, hu, hvu⟩ := hv.get q1
    refine wpAny_pyNext_list_item hit hl.isList (x := u) (by simpa using hu) fun h' hit' hs' => ?_
    have bt : But J J s.heap h' := fun b o n _ e => (hs'.2 b n).trans e
    exact hQ u h' s.toks (R.but fI fJ sI sJ bt) ⟨rfl, a, ha, hit'⟩ (hvu.mono (bt.tup fI fJ) fun _ _ e => e) bt
  | rng x left =>
    obtain ⟨rfl, hit⟩ := hit
    dsimp only [itNext] at hn
    split at hn
    · cases hn
    rename_i hl
    cases hn
    refine wpAny_pyNext_range_item hit (by omega) fun h' hit' hs' => ?_
    have bt : But J J s.heap h' := fun b o n _ e => (hs'.2 b n).trans e
    exact hQ _ h' _ (R.but fI fJ sI sJ bt) ⟨rfl, hit'⟩ (.int _ _) bt
  | enm l i => exact absurd rfl (hne l i)
theorem it_end {env : Env} {A : Around} {s : Shared} {σ : DS} {m : Str → Option Value} {adr : List Addr} {I J : Addr} {it : DI} {E : Value → Shared → Prop} {Q : Option Value → Shared → Prop} (hh : A.handled = none) (R : Rel S nm env s.heap σ m adr) (hit : ItAt s.heap adr I J it)
    (hn : itNext it σ.heap = some none)
    (hQ : ∀ h' tk', But I J s.heap h' → Q none { s with heap := h', toks := tk' }) : wpAny (model prog w) A (pyNext (.ref I)) Q E s := by
  cases it with
  | lst l i =>
    obtain ⟨rfl, a, ha, hit⟩ := hit
    dsimp only [itNext] at hn
    split at hn
    · cases hn
    rename_i ds q
    split at hn
    · rename_i q1
      obtain ⟨vs, hl, hv⟩ := R.lr.at_ l a ds ha q
      exact wpAny_pyNext_list_end hh hit hl.isList (by simpa using hv.none_of q1) fun h' hs' => hQ h' s.toks fun b o n _ e => hs' b o n e
    · cases hn
  | rng x left =>
    obtain ⟨rfl, hit⟩ := hit
    dsimp only [itNext] at hn
    split at hn
    · rename_i hl
      exact wpAny_pyNext_range_end hh hit hl fun h' hs' => hQ h' s.toks fun b o n _ e => hs' b o n e
    · cases hn
  | enm l i =>
    obtain ⟨hne, a, old, ha, he, hit⟩ := hit
    dsimp only [itNext] at hn
    split at hn
    · cases hn
    rename_i ds q
    split at hn
    · rename_i q1
      obtain ⟨vs, hl, hv⟩ := R.lr.at_ l a ds ha q
      exact wpAny_pyNext_enum_end hh he hit hl.isList (by simpa using hv.none_of q1) fun h' hs' => hQ h' s.toks fun b o _ n e => hs' b o n e
    · cases hn
/-- one turn of an enumeration; the target is a tuple -/
theorem it_enum {env : Env} {A : Around} {s : Shared} {σ : DS} {m : Str → Option Value} {adr : List Addr} {I J : Addr} {l i : Nat} {it' : DI} {v : DV} {elts : List Expr} {n : Nat} {pos : Pos} {E : Value → Shared → Prop} {Q : Value → Shared → Prop} (R : Rel S nm env s.heap σ m adr) (hit : ItAt s.heap adr I J (.enm l i))
    (sI : S.get? I = none) (sJ : S.get? J = none) (hn : itNext (.enm l i) σ.heap = some (some (v, it')))
    (hQ : ∀ v' h' tk', Rel S nm env h' σ m adr → ItAt h' adr I J it' → VR S h' adr v' v → But I J s.heap h' → Q v' { s with heap := h', toks := tk' }) :
    wpAny (model prog w) A (pyNext (.ref I)) (fun r s₁ => ∃ v', r = some v' ∧ wpAny (model prog w) A (letOwnedTupleGo (.Tuple elts n pos) (.ref I) v') (fun _ s₂ => Q v' s₂) E s₁) E s := by
  obtain ⟨fI, fJ⟩ := hit.fields
  obtain ⟨hne, a, old, ha, he, hit⟩ := hit
  dsimp only [itNext] at hn
  split at hn
  · cases hn
  rename_i ds q
  split at hn
  · cases hn
  rename_i v0 q1
  cases hn
  obtain ⟨vs, hl, hv⟩ := R.lr.at_ l a ds ha q
  obtain ⟨u, hu, hvu⟩ := hv.get q1
  refine wpAny_pyNext_enum_item he hit hl.isList (x := u) (by simpa using hu) hne fun h₁ heo hit₁ ht₁ hz₁ hk₁ => ⟨_, rfl, ?_⟩
  refine wpAny_letOwnedTupleGo_enum heo fun h₂ he₂ hs₂ => ?_
  replace hs₂ : Heap.SameBut I h₁ h₂ := hs₂
  have bt : But I J s.heap h₂ := fun b o n n' e => (hs₂.2 b n).trans (hk₁ b o n n' e)
  have hlt : I < s.heap.objs.size := Heap.lt_size he
  have ht₂ : h₂.IsTuple s.heap.objs.size #[.int i s.toks, u] := ⟨_, (hs₂.2 _ (Nat.ne_of_gt hlt)).trans ht₁, rfl, _, rfl⟩
  refine hQ _ h₂ _ (R.but fI fJ sI sJ bt) ⟨hne, a, u, ha, ?_, hit₁.extBut hs₂.extBut (Ne.symm hne)⟩ ?_ bt
  · have : ((i + 1 : Nat) : Int) = (i : Int) + 1 := by push_cast; rfl
    rw [this]; exact he₂
  · exact .tup (vs := [.int i s.toks, u]) ht₂ (.cons (.int _ _) (.cons (hvu.mono (bt.tup fI fJ) fun _ _ e => e) .nil))
end
end Mine
end
section
set_option maxRecDepth 100000
namespace Mine
open PySem PySem.Calls PyProof.Rows PySem.SeqAt

section
variable {prog : Program} {w : World} {S : Heap} {nm : Nat → Str} {mg mb : Str → Option Value} {sc : Scope} {k : Nat}

/-- a global name of the text's -/
theorem nameG (G : Gl S nm mg mb) {env : Env} {A : Around} {σ : DS} {s : Shared} {m : Str → Option Value} {adr : List Addr} {id : Str} {v : Value} {p : Pos} {Q : Value → Shared → Prop} {E : Value → Shared → Prop} (he : EnvOK env sc) (R : Rel S nm env s.heap σ m adr)
    (hx : sc.names.lookup id = some .globalImplicit) (hb : (id == ("__debug__" : Str)) = false) (hm : mg id = some v) (h : Q v s) : wpAny (model prog w) A (eval (.Name id p) env) Q E s :=
  Name_function_global he.kind (by rw [← he.sc] at hx; exact hx) (loadGlobal_global (env := env) (by rw [he.glob]; exact G.g.keeps R.base) hm h) hb
theorem nameB (G : Gl S nm mg mb) {env : Env} {A : Around} {σ : DS} {s : Shared} {m : Str → Option Value} {adr : List Addr} {id : Str} {v : Value} {p : Pos} {Q : Value → Shared → Prop} {E : Value → Shared → Prop} (he : EnvOK env sc) (R : Rel S nm env s.heap σ m adr)
    (hx : sc.names.lookup id = some .globalImplicit) (hb : (id == ("__debug__" : Str)) = false) (hm : mg id = none) (hn : id ≠ "__name__") (hv : bootBuiltins id = some v) (h : Q v s) : wpAny (model prog w) A (eval (.Name id p) env) Q E s :=
  Name_function_global he.kind (by rw [← he.sc] at hx; exact hx) (loadGlobal_builtin (env := env) (by rw [he.glob]; exact G.g.keeps R.base) hm (by rw [he.blt]; exact G.b.keeps R.base) ((G.bn id hn).trans hv) h) hb

/-- a built-in's name, told once -/
structure BName (sc : Scope) (mg : Str → Option Value) (id : Str) (v : Value) : Prop where
  kind : sc.names.lookup id = some .globalImplicit
  dbg : (id == ("__debug__" : Str)) = false
  miss : mg id = none
  main : id ≠ "__name__"
  val : bootBuiltins id = some v
structure GName (sc : Scope) (mg : Str → Option Value) (id : Str) (v : Value) : Prop where
  kind : sc.names.lookup id = some .globalImplicit
  dbg : (id == ("__debug__" : Str)) = false
  val : mg id = some v

/-- a call of a built-in function of one argument -/
structure Op1 (prog : Program) (w : World) (S : Heap) (nm : Nat → Str) (k : Nat) (t : Value → Sem Value) (f : DV → DH → Option (DV × DH)) : Prop where
  ok : ∀ env sc A σ a v H' s m adr a' (Q : Value → Shared → Prop) (E : Value → Shared → Prop), EnvOK env sc → ActOK k A → f a σ.heap = some (v, H') → Rel S nm env s.heap σ m adr → VR S s.heap adr a' a →
    RetE S nm env σ m adr s v H' Q → wpAny (model prog w) A (t a') Q E s
theorem SndE.callB (G : Gl S nm mg mb) {id : Str} {b : String} {e : Expr} {d : EX} {f : DV → DH → Option (DV × DH)} {p pos : Pos} (hn : BName sc mg id (.builtin b)) (h : SndE prog w S nm sc k e d) (hs : ∀ env, starEach [e] env = [(false, eval e env)])
    (hf : Op1 prog w S nm k (fun v => call (.builtin b) [v]) f) : SndE prog w S nm sc k (.Call (.Name id p) [e] [] pos) (map1 d f) := by
  constructor
  intro env A σ v H' s m adr Q E he hA hd R ret
  unfold map1 at hd
  split at hd
  · cases hd
  · rename_i v0 H0 q
    refine Call_Name1 ?_ (hs env)
    refine nameB G he R hn.kind hn.dbg hn.miss hn.main hn.val ?_
    refine _root_.PySem.callWith_builtin1 (h.ok env A σ v0 H0 s m adr _ E he hA q R fun v' h' tk' adr' R' E' V' => ?_)
    exact hf.ok env sc A ⟨σ.vars, H0⟩ v0 v H' _ m adr' v' Q E he hA hd R' V' (ret.up E')
noncomputable def fLen : DV → DH → Option (DV × DH)
  | .ref l, H => match H[l]? with
    | some ds => if ds.length ≤ 1000000 then some (.int ds.length, H) else none
    | none => none
  | _, _ => none
noncomputable def fAbs : DV → DH → Option (DV × DH)
  | .int a, H => some (.int (if a < 0 then -a else a), H)
  | _, _ => none
noncomputable def intsOf : List DV → Option (List Int)
  | [] => some []
  | .int i :: r => (intsOf r).map (i :: ·)
  | _ :: _ => none
noncomputable def fSum : DV → DH → Option (DV × DH)
  | .ref l, H => match H[l]? with
    | some ds => (intsOf ds).map fun xs => (.int xs.sum, H)
    | none => none
  | _, _ => none
theorem op_len : Op1 prog w S nm k (fun v => call (.builtin "len") [v]) fLen := by
  constructor
  intro env sc A σ a v H' s m adr a' Q E he hA hf R ha ret
  unfold fLen at hf
  split at hf
  · split at hf
    · rename_i ds q
      split at hf
      · rename_i hlen
        cases hf
        obtain ⟨t, vs, rfl, hl, hv, _⟩ := getL R.lr ha q
        refine call_len_list hl (by simp [hv.length]; omega) ?_
        have e : ((vs.toArray.size : Nat) : Int) = (ds.length : Int) := by simp [hv.length]
        rw [e]
        exact ret _ _ _ adr R (.refl R.lr.nodup _) (.int _ _)
      · cases hf
    · cases hf
  · cases hf
theorem op_abs : Op1 prog w S nm k (fun v => call (.builtin "abs") [v]) fAbs := by
  constructor
  intro env sc A σ a v H' s m adr a' Q E he hA hf R ha ret
  unfold fAbs at hf
  split at hf
  · cases hf; obtain ⟨_, rfl⟩ := ha.int_inv
    exact call_abs_int fun u tk => ret _ _ _ adr R (.refl R.lr.nodup _) (.int _ _)
  · cases hf
theorem ints_are {h : Heap} {adr : List Addr} : ∀ {ds : List DV} {vs : List Value} {xs : List Int}, VRs S h adr vs ds → intsOf ds = some xs → IntsAre vs xs
  | [], _, _, .nil, q => by cases q; exact .nil
  | d :: ds, _, _, .cons x r, q => by
    unfold intsOf at q
    split at q
    · rename_i e; cases e
    · rename_i i r' e
      cases e
      obtain ⟨ys, q1, e⟩ := Option.map_eq_some_iff.mp q
      subst e
      cases x
      exact .cons _ _ (ints_are r q1)
    · cases q
theorem op_sum : Op1 prog w S nm k (fun v => call (.builtin "sum") [v]) fSum := by
  constructor
  intro env sc A σ a v H' s m adr a' Q E he hA hf R ha ret
  unfold fSum at hf
  split at hf
  · split at hf
    · rename_i ds q
      obtain ⟨xs, q1, e⟩ := Option.map_eq_some_iff.mp hf
      cases e
      obtain ⟨t, vs, rfl, hl, hv, _⟩ := getL R.lr ha q
      have hi := ints_are hv q1
      obtain ⟨ys, hys⟩ := hi.allInts.items
      rw [hys] at hl
      refine sum_intListG hA.handled hl fun h' tk t' hk => ?_
      have e : preSum (numAt ys) ys.size = xs.sum := by
        rw [preSum_eq, List.take_of_length_le (by simp), ← nums_intItems, ← hys, show vs.toArray.toList = vs from rfl, hi.numsOf]
      rw [e]
      obtain ⟨R', E'⟩ := R.keeps hk
      exact ret _ _ _ adr R' E' (.int _ _)
    · cases hf
  · cases hf

/-! sources of loops -/
abbrev IX := DS → Option (DI × DH)
structure SndI (prog : Program) (w : World) (S : Heap) (nm : Nat → Str) (sc : Scope) (k : Nat) (e : Expr) (d : IX) : Prop where
  ok : ∀ env A σ it H' s m adr (Q : Value → Shared → Prop) (E : Value → Shared → Prop), EnvOK env sc → ActOK k A → d σ = some (it, H') → Rel S nm env s.heap σ m adr →
    (∀ I J h' tk' adr', Rel S nm env h' ⟨σ.vars, H'⟩ m adr' → Ext adr s.heap adr' h' → ItAt h' adr' I J it → s.heap.get? I = none → s.heap.get? J = none → Q (.ref I) { s with heap := h', toks := tk' }) →
    wpAny (model prog w) A (eval e env) (fun x s₁ => wpAny (model prog w) A (pyIter x) Q E s₁) E s
noncomputable def lstI (d : EX) : IX := fun σ => match d σ with
  | some (.ref l, H) => (match H[l]? with
    | some _ => some (.lst l 0, H)
    | none => none)
  | _ => none
theorem Ext.noneOf {adr adr' : List Addr} {h h' : Heap} {S : Heap} {H' : DH} (x : Ext adr h adr' h') (lr : LR S h' adr' H') {b : Addr} (e : h'.get? b = none) : h.get? b = none := (x.s (env := default) lr).live b e
theorem SndI.list {e : Expr} {d : EX} (h : SndE prog w S nm sc k e d) : SndI prog w S nm sc k e (lstI d) := by
  constructor
  intro env A σ it H' s m adr Q E he hA hd R ret
  unfold lstI at hd
  split at hd
  · rename_i l H q
    split at hd
    · rename_i ds q1
      cases hd
      refine h.ok env A σ _ _ s m adr _ E he hA q R fun v' h' tk' adr' R' E' V' => ?_
      obtain ⟨a, vs, rfl, hl, hv, hadr⟩ := getL R'.lr V' q1
      refine wpAny_pyIter_list hl ?_
      obtain ⟨R2, E2⟩ := R'.push { cls := .type "list_iterator", data := .fields #[.ref a, .int 0 0] }
      have nn : s.heap.get? h'.objs.size = none := E'.noneOf R'.lr (fresh_of h' (Nat.le_refl _))
      exact ret _ h'.objs.size _ tk' adr' R2 (E'.trans E2) ⟨rfl, a, hadr, _, Heap.get?_push_size _ rfl, rfl, rfl⟩ nn nn
    · cases hd
  · cases hd
noncomputable def range2 (a b : Int) : Option DI := if smallI a && smallI b then some (.rng a (if a < b then b - a else 0)) else none
noncomputable def rngI (d : EX) : IX := fun σ => match d σ with
  | some (.int b, H) => (range2 0 b).map fun it => (it, H)
  | _ => none
noncomputable def rngI2 (d1 d2 : EX) : IX := fun σ => match d1 σ with
  | some (.int a, H) => (match d2 ⟨σ.vars, H⟩ with
    | some (.int b, H') => (range2 a b).map fun it => (it, H')
    | _ => none)
  | _ => none
theorem range2_is {a b : Int} {it : DI} (h : range2 a b = some it) : it = .rng a (Builtin.Range.rangeSize a b 1) ∧ Builtin.Range.small a b 1 = true := by
  unfold range2 at h
  split at h
  · rename_i hs
    rw [Bool.and_eq_true] at hs
    have h1 := smallI_lt hs.1
    have h2 := smallI_lt hs.2
    cases h
    have e : Builtin.Range.rangeSize a b 1 = if a < b then b - a else 0 := by
      unfold Builtin.Range.rangeSize
      simp only [show (1 : Int) > 0 from by decide, if_true, Int.ediv_one]
      split <;> omega
    refine ⟨by rw [e], ?_⟩
    unfold Builtin.Range.small
    rw [e]
    simp only [Builtin.Range.rangeFitsLong, Bool.and_eq_true, Bool.or_eq_true, decide_eq_true_eq, show (1 : Int) > 0 from by decide, if_true]
    refine ⟨⟨⟨⟨by omega, by omega⟩, by omega⟩, ?_⟩, .inr ?_⟩
    · split <;> omega
    · omega
  · cases h
theorem range_it {env : Env} {A : Around} {σ : DS} {a b : Int} {it : DI} {s : Shared} {m : Str → Option Value} {adr : List Addr} {t u v : Tok} {Q : Value → Shared → Prop} {E : Value → Shared → Prop} (hr : range2 a b = some it) (R : Rel S nm env s.heap σ m adr)
    (ret : ∀ I J h' tk' adr', Rel S nm env h' σ m adr' → Ext adr s.heap adr' h' → ItAt h' adr' I J it → s.heap.get? I = none → s.heap.get? J = none → Q (.ref I) { s with heap := h', toks := tk' }) {tk : Nat} :
    wpAny (model prog w) A (pyIter (.ref s.heap.objs.size)) Q E { s with heap := s.heap.push { cls := .type "range", data := .fields #[.int a t, .int b u, .int 1 v] }, toks := tk } := by
  obtain ⟨rfl, hsm⟩ := range2_is hr
  obtain ⟨R1, E1⟩ := R.push { cls := .type "range", data := .fields #[.int a t, .int b u, .int 1 v] }
  refine wpAny_pyIter_range (s := { s with heap := _, toks := tk }) (IsRange.new _ _ _ _ _ _ _) hsm ?_
  obtain ⟨R2, E2⟩ := R1.push { cls := .type "range_iterator", data := .fields #[rawInt a, rawInt (Builtin.Range.rangeSize a b 1), rawInt 1] }
  have nn : s.heap.get? (s.heap.push { cls := .type "range", data := .fields #[.int a t, .int b u, .int 1 v] }).objs.size = none := fresh_of _ (by rw [Heap.size_push]; exact Nat.le_succ _)
  exact ret _ _ _ tk adr R2 (E1.trans E2) ⟨rfl, Heap.get?_push_size _ rfl⟩ nn nn
theorem SndI.range (G : Gl S nm mg mb) {id : Str} {e : Expr} {d : EX} {p pos : Pos} (hn : BName sc mg id (.type "range")) (h : SndE prog w S nm sc k e d) (hs : ∀ env, starEach [e] env = [(false, eval e env)]) :
    SndI prog w S nm sc k (.Call (.Name id p) [e] [] pos) (rngI d) := by
  constructor
  intro env A σ it H' s m adr Q E he hA hd R ret
  unfold rngI at hd
  split at hd
  · rename_i b H q
    obtain ⟨it', q1, e⟩ := Option.map_eq_some_iff.mp hd
    cases e
    refine Call_ ?_
    refine nameB G he R hn.kind hn.dbg hn.miss hn.main hn.val ?_
    refine callWith_type1 ?_ (by rw [hs env]; rfl) rfl
    refine (SndA.cons h SndA.nil (fun env => by rw [hs env]; rfl)).ok pos env A σ [.int b] H' s m adr _ E he hA (by simp [consA, nilA, q]) R fun us h1 tk1 adr1 R1 E1 V1 => ?_
    obtain ⟨_, _, rfl, W1, W2⟩ := V1.cons_inv
    cases W2.nil_inv; obtain ⟨_, rfl⟩ := W1.int_inv
    refine call_range_1 (range_it (s := { s with heap := h1, toks := tk1 }) q1 R1 fun I J h' tk' adr' R' E' X nI nJ => ?_)
    exact ret I J h' tk' adr' R' (E1.trans E') X (E1.noneOf R1.lr nI) (E1.noneOf R1.lr nJ)
  · cases hd
theorem SndI.range2 (G : Gl S nm mg mb) {id : Str} {e1 e2 : Expr} {d1 d2 : EX} {p pos : Pos} (hn : BName sc mg id (.type "range")) (h1 : SndE prog w S nm sc k e1 d1) (h2 : SndE prog w S nm sc k e2 d2) (hs1 : ∀ env, starEach [e1, e2] env = (false, eval e1 env) :: starEach [e2] env)
    (hs2 : ∀ env, starEach [e2] env = [(false, eval e2 env)]) : SndI prog w S nm sc k (.Call (.Name id p) [e1, e2] [] pos) (rngI2 d1 d2) := by
  constructor
  intro env A σ it H' s m adr Q E he hA hd R ret
  unfold rngI2 at hd
  split at hd
  · rename_i a H q
    split at hd
    · rename_i b H2 q2
      obtain ⟨it', q1, e⟩ := Option.map_eq_some_iff.mp hd
      cases e
      refine Call_ ?_
      refine nameB G he R hn.kind hn.dbg hn.miss hn.main hn.val ?_
      refine callWith_type1 ?_ (hs1 env) (by rw [hs2 env]; rfl)
      refine (SndA.cons h1 (SndA.cons h2 SndA.nil (fun env => by rw [hs2 env]; rfl)) hs1).ok pos env A σ [.int a, .int b] H' s m adr _ E he hA (by simp [consA, nilA, q, q2]) R fun us h1 tk1 adr1 R1 E1 V1 => ?_
      obtain ⟨_, _, rfl, W1, V2⟩ := V1.cons_inv
      obtain ⟨_, _, rfl, W2, W3⟩ := V2.cons_inv
      cases W3.nil_inv; obtain ⟨_, rfl⟩ := W2.int_inv; obtain ⟨_, rfl⟩ := W1.int_inv
      refine call_range_2 (range_it (s := { s with heap := h1, toks := tk1 }) q1 R1 fun I J h' tk' adr' R' E' X nI nJ => ?_)
      exact ret I J h' tk' adr' R' (E1.trans E') X (E1.noneOf R1.lr nI) (E1.noneOf R1.lr nJ)
    · cases hd
  · cases hd
noncomputable def enmI (d : EX) : IX := fun σ => match d σ with
  | some (.ref l, H) => (match H[l]? with
    | some _ => some (.enm l 0, H)
    | none => none)
  | _ => none
theorem SndI.enum (G : Gl S nm mg mb) {id : Str} {e : Expr} {d : EX} {p pos : Pos} (hn : BName sc mg id (.type "enumerate")) (h : SndE prog w S nm sc k e d) (hs : ∀ env, starEach [e] env = [(false, eval e env)]) :
    SndI prog w S nm sc k (.Call (.Name id p) [e] [] pos) (enmI d) := by
  constructor
  intro env A σ it H' s m adr Q E he hA hd R ret
  unfold enmI at hd
  split at hd
  · rename_i l H q
    split at hd
    · rename_i ds q1
      cases hd
      refine Call_ ?_
      refine nameB G he R hn.kind hn.dbg hn.miss hn.main hn.val ?_
      refine callWith_type1 ?_ (by rw [hs env]; rfl) rfl
      refine (SndA.cons h SndA.nil (fun env => by rw [hs env]; rfl)).ok pos env A σ [.ref l] H' s m adr _ E he hA (by simp [consA, nilA, q]) R fun us h1 tk1 adr1 R1 E1 V1 => ?_
      obtain ⟨_, _, rfl, W1, W2⟩ := V1.cons_inv
      cases W2.nil_inv
      obtain ⟨a, vs, rfl, hl, hv, hadr⟩ := getL R1.lr W1 q1
      refine call_enumerate_list hl fun h' he' hit hz hk => ?_
      refine wpAny_pyIter_enum he' ?_
      obtain ⟨R2, E2⟩ := R1.keeps hk
      have n1 : s.heap.get? h1.objs.size = none := E1.noneOf R1.lr (fresh_of h1 (Nat.le_refl _))
      have n2 : s.heap.get? (h1.objs.size + 1) = none := E1.noneOf R1.lr (fresh_of h1 (Nat.le_succ _))
      exact ret _ h1.objs.size h' tk1 adr1 R2 (E1.trans E2) ⟨Nat.succ_ne_self _, a, .none, hadr, he', hit⟩ n2 n1
    · cases hd
  · cases hd
end
end Mine
end
section
set_option maxRecDepth 100000
namespace Mine
open PySem PySem.Calls PyProof.Rows PySem.SeqAt

noncomputable def forGo (g : GX) (b : SX) : Nat → DI → SX
  | 0, _, _ => none
  | n + 1, it, σ => match itNext it σ.heap with
    | none => none
    | some none => some (.next, σ)
    | some (some (v, it')) => match g v σ with
      | none => none
      | some σ1 => match b σ1 with
        | none => none
        | some (.next, σ2) => forGo g b n it' σ2
        | some (.brk, σ2) => some (.next, σ2)
        | some (.ret r, σ2) => some (.ret r, σ2)
noncomputable def forS (src : IX) (g : GX) (b : SX) (n : Nat) : SX := fun σ => match src σ with
  | none => none
  | some (it, H) => forGo g b n it ⟨σ.vars, H⟩
noncomputable def DI.isEnm : DI → Bool
  | .enm _ _ => true
  | _ => false

section
variable {prog : Program} {w : World} {S : Heap} {nm : Nat → Str} {mg mb : Str → Option Value} {sc : Scope} {k : Nat}

theorem ItAt.upS {env : Env} {h h' : Heap} {adr adr' : List Addr} {I J : Addr} {it : DI} {σ : DS} {m : Str → Option Value} (x : ItAt h adr I J it) (R : Rel S nm env h σ m adr) (e : ExtS env adr h adr' h') : ItAt h' adr' I J it := by
  obtain ⟨fI, fJ⟩ := x.fields
  have kp : ∀ {b}, FieldsAt h b → ∀ o, h.get? b = some o → h'.get? b = some o := fun {b} f o ho =>
    e.keep b o ho (f.notAdr R.lr) (fun q => f.notNs (m := m) (q ▸ R.ns)) fun y c hc q => by
      obtain ⟨_, v, hv⟩ := R.cells y c hc
      exact f.notCell (q ▸ hv)
  cases it with
  | lst l i =>
    obtain ⟨rfl, a, ha, o, ho, r⟩ := x
    exact ⟨rfl, a, e.get _ _ ha, o, kp fI o ho, r⟩
  | rng y left =>
    obtain ⟨rfl, hr⟩ := x
    exact ⟨rfl, kp fI _ hr⟩
  | enm l i =>
    obtain ⟨hne, a, old, ha, he, o, ho, r⟩ := x
    exact ⟨hne, a, old, e.get _ _ ha, kp fI _ he, o, kp fJ o ho, r⟩
theorem itNext_enm {it it' : DI} {H : DH} {v : DV} (h : itNext it H = some (some (v, it'))) : it'.isEnm = it.isEnm := by
  cases it with
  | lst l i =>
    dsimp only [itNext] at h
    split at h
    · cases h
    split at h
    · cases h
    cases h; rfl
  | rng x left =>
    dsimp only [itNext] at h
    split at h
    · cases h
    cases h; rfl
  | enm l i =>
    dsimp only [itNext] at h
    split at h
    · cases h
    split at h
    · cases h
    cases h; rfl

inductive FoStep (g : GX) (b : SX) (n : Nat) (it : DI) (σ : DS) : DF → DS → Prop
  | stop (h : itNext it σ.heap = some none) : FoStep g b n it σ .next σ
  | turn {v : DV} {it' : DI} {σ1 : DS} {f : DF} {σ' : DS} (h : itNext it σ.heap = some (some (v, it'))) (hg : g v σ = some σ1) (q : Turn (forGo g b n it') (b σ1) f σ') : FoStep g b n it σ f σ'
theorem forGo_inv {g : GX} {b : SX} {n : Nat} {it : DI} {σ σ' : DS} {f : DF} (q : forGo g b (n + 1) it σ = some (f, σ')) : FoStep g b n it σ f σ' := by
  unfold forGo at q
  split at q
  · cases q
  · rename_i h; cases q; exact .stop h
  · rename_i h
    split at q
    · cases q
    rename_i hg
    refine .turn h hg ?_
    split at q
    · cases q
    · rename_i e; exact .next e q
    · rename_i e; cases q; exact .brk e
    · rename_i e; cases q; exact .ret e
/-- what all loops share: the turn's end -/
theorem for_any {tgt : Expr} {body : List Stmt} {iter : Expr} {pos : Pos} {src : IX} {g : GX} {b : SX} (n : Nat) (en : Bool) (hsrc : SndI prog w S nm sc k iter src) (hb : SndB prog w S nm sc k body b)
    (hg : SndG prog w S nm sc k tgt g)
    (hen : ∀ σ it H, src σ = some (it, H) → it.isEnm = en)
    (hs : ∀ env x, foldedSetIterable iter env x = pure x)
    (hgo : ∀ {env : Env} {A : Around} {s : Shared} {σ : DS} {m : Str → Option Value} {adr : List Addr} {I J : Addr} {it it' : DI} {v : DV} {E : Value → Shared → Prop} {Q : Value → Shared → Prop}, it.isEnm = en → Rel S nm env s.heap σ m adr → ItAt s.heap adr I J it →
      S.get? I = none → S.get? J = none → itNext it σ.heap = some (some (v, it')) →
      (∀ v' h' tk', Rel S nm env h' σ m adr → ItAt h' adr I J it' → VR S h' adr v' v → But I J s.heap h' → Q v' { s with heap := h', toks := tk' }) →
      wpAny (model prog w) A (pyNext (.ref I)) (fun r s₁ => ∃ v', r = some v' ∧ wpAny (model prog w) A (letOwnedTupleGo tgt (.ref I) v') (fun _ s₂ => Q v' s₂) E s₁) E s) :
    SndS prog w S nm sc k (.For tgt iter body [] pos) (forS src g b n) := by
  constructor
  intro env A σ f σ' s m adr Q E he hA hd R ret
  unfold forS at hd
  split at hd
  · cases hd
  rename_i it0 H0 q0
  refine wpAny_For ?_ (hs env)
  refine hsrc.ok env A σ it0 H0 s m adr _ E he hA q0 R fun I J h1 tk1 adr1 R1 E1 X1 nI nJ => ?_
  have sI : S.get? I = none := by
    cases q : S.get? I with
    | none => rfl
    | some o => rw [R.base I o q] at nI; cases nI
  have sJ : S.get? J = none := by
    cases q : S.get? J with
    | none => rfl
    | some o => rw [R.base J o q] at nJ; cases nJ
  refine codeAny_forLoop_any (fun n s' => LoopAt S nm env s adr (fun σ1 adr' h => ∃ it, ItAt h adr' I J it ∧ it.isEnm = en ∧ forGo g b n it σ1 = some (f, σ')) s') ?_ n (.mk (h := h1) (tk := tk1) R1 (E1.s R1.lr) ⟨it0, X1, hen _ _ _ q0, hd⟩)
  intro n s' I0
  cases I0 with
  | @mk h tk m' adr' σ1 R2 E2 p =>
  obtain ⟨it, X2, hn2, q⟩ := p
  cases n with
  | zero => cases q
  | succ n =>
    obtain ⟨fI, fJ⟩ := X2.fields
    cases forGo_inv q with
    | stop hnx =>
      refine it_end hA.handled R2 X2 hnx fun h' tk' bt => ?_
      exact wpAny_execs_nil (ret .next h' tk' m' adr' (R2.but fI fJ sI sJ bt) (E2.but bt fI fJ nI nJ) .next)
    | @turn v it' σ2 _ _ hnx qg qt =>
      have fin : ∀ v' h' tk', Rel S nm env h' σ1 m' adr' → ItAt h' adr' I J it' → VR S h' adr' v' v → But I J h h' →
          wpAny (model prog w) A (PySem.assign tgt env v') (fun _ s₂ => wpAny (model prog w) A (execs body env) (fun f' s₃ => match f' with
            | .next | .cont => ∃ m, m < n + 1 ∧ LoopAt S nm env s adr (fun σ1 adr' h => ∃ it, ItAt h adr' I J it ∧ it.isEnm = en ∧ forGo g b m it σ1 = some (f, σ')) s₃
            | .brk => Q .next s₃
            | .ret v => Q (.ret v) s₃) (notedBy (model prog w) A env fun e s' => cameBackBy (model prog w) A env E e s') s₂) (notedBy (model prog w) A env fun e s' => cameBackBy (model prog w) A env E e s') { s with heap := h', toks := tk' } := by
        intro v' h' tk' R3 X3 V3 bt
        refine hg.ok env A σ1 v v' σ2 _ m' adr' _ _ he hA qg R3 V3 fun h4 tk4 m4 adr4 R4 E4 => ?_
        have E34 := (E2.but bt fI fJ nI nJ).trans E4
        exact turn_ok (Q := Q) (I := fun m s' => LoopAt S nm env s adr (fun σ1 adr' h => ∃ it, ItAt h adr' I J it ∧ it.isEnm = en ∧ forGo g b m it σ1 = some (f, σ')) s') hb he hA R4 qt (fun σ3 h5 tk5 m5 adr5 q R5 E5 => .mk R5 (E34.trans E5) ⟨it', (X3.upS R3 E4).upS R4 E5, (itNext_enm hnx).trans hn2, q⟩) (ret.up' E34)
      refine wpAny_mono (hgo hn2 R2 X2 sI sJ hnx fin) (fun r s₁ hr => ?_) fun _ _ x => x
      obtain ⟨v', rfl, hr⟩ := hr
      exact hr

theorem SndS.for {x : Str} {px : Pos} {body : List Stmt} {iter : Expr} {pos : Pos} {src : IX} {g : GX} {b : SX} (n : Nat) (hsrc : SndI prog w S nm sc k iter src) (hb : SndB prog w S nm sc k body b)
    (hg : SndG prog w S nm sc k (.Name x px) g) (hen : ∀ σ it H, src σ = some (it, H) → it.isEnm = false) (hs : ∀ env x, foldedSetIterable iter env x = pure x) :
    SndS prog w S nm sc k (.For (.Name x px) iter body [] pos) (forS src g b n) := by
  refine for_any n false hsrc hb hg hen hs fun {env A s σ m adr I J it it' v E Q} hn R X sI sJ hnx fin => ?_
  refine it_item R X sI sJ hnx (fun l i e => by rw [e] at hn; cases hn) fun v' h' tk' R' X' V' bt => ⟨v', rfl, ?_⟩
  exact wpAny_of_eq (a := ()) rfl (fin v' h' tk' R' X' V' bt)
theorem SndS.forE {elts : List Expr} {c : Nat} {px : Pos} {body : List Stmt} {iter : Expr} {pos : Pos} {src : IX} {g : GX} {b : SX} (n : Nat) (hsrc : SndI prog w S nm sc k iter src) (hb : SndB prog w S nm sc k body b)
    (hg : SndG prog w S nm sc k (.Tuple elts c px) g) (hen : ∀ σ it H, src σ = some (it, H) → it.isEnm = true) (hs : ∀ env x, foldedSetIterable iter env x = pure x) :
    SndS prog w S nm sc k (.For (.Tuple elts c px) iter body [] pos) (forS src g b n) := by
  refine for_any n true hsrc hb hg hen hs fun {env A s σ m adr I J it it' v E Q} hn R X sI sJ hnx fin => ?_
  cases it with
  | lst _ _ => cases hn
  | rng _ _ => cases hn
  | enm l i => exact it_enum R X sI sJ hnx fin
theorem lstI_not {d : EX} (σ : DS) (it : DI) (H : DH) (h : lstI d σ = some (it, H)) : it.isEnm = false := by
  unfold lstI at h
  split at h
  · split at h
    · cases h; rfl
    · cases h
  · cases h
theorem rngI_not {d : EX} (σ : DS) (it : DI) (H : DH) (h : rngI d σ = some (it, H)) : it.isEnm = false := by
  unfold rngI at h
  split at h
  · obtain ⟨_, q, e⟩ := Option.map_eq_some_iff.mp h
    cases e; rw [(range2_is q).1]; rfl
  · cases h
theorem rngI2_not {d1 d2 : EX} (σ : DS) (it : DI) (H : DH) (h : rngI2 d1 d2 σ = some (it, H)) : it.isEnm = false := by
  unfold rngI2 at h
  split at h
  · split at h
    · obtain ⟨_, q, e⟩ := Option.map_eq_some_iff.mp h
      cases e; rw [(range2_is q).1]; rfl
    · cases h
  · cases h
theorem enmI_is {d : EX} (σ : DS) (it : DI) (H : DH) (h : enmI d σ = some (it, H)) : it.isEnm = true := by
  unfold enmI at h
  split at h
  · split at h
    · cases h; rfl
    · cases h
  · cases h

/-! calls of the text's own defs -/
abbrev FX := List DV → DH → Option (DV × DH)
noncomputable def FunOK (prog : Program) (w : World) (S : Heap) (k : Nat) (f : Addr) (g : FX) : Prop :=
  ∀ A ds vs H v H' s adr (Q : Value → Shared → Prop) (E : Value → Shared → Prop), ActOK k A → g ds H = some (v, H') → (∀ b o, S.get? b = some o → s.heap.get? b = some o) → LR S s.heap adr H → VRs S s.heap adr vs ds →
    (∀ v' h' tk' adr', LR S h' adr' H' → Ext adr s.heap adr' h' → VR S h' adr' v' v → Q v' { s with heap := h', toks := tk' }) → wpAny (model prog w) A (call (.ref f) vs) Q E s
noncomputable def callE (a : AX) (g : FX) : EX := fun σ => match a σ with
  | none => none
  | some (vs, H) => g vs H
theorem FunOK.mono {k k' : Nat} {f : Addr} {g : FX} (h : FunOK prog w S k f g) (hk : k ≤ k') : FunOK prog w S k' f g := fun A ds vs H v H' s adr Q E hA => h A ds vs H v H' s adr Q E ⟨hA.handled, by have := hA.depth; omega, by have := hA.units; omega⟩
theorem FunOK.of {k : Nat} {f : Addr} {g g' : FX} (h : FunOK prog w S k f g) (hg : ∀ ds H v H', g' ds H = some (v, H') → g ds H = some (v, H')) : FunOK prog w S k f g' := fun A ds vs H v H' s adr Q E hA q => h A ds vs H v H' s adr Q E hA (hg _ _ _ _ q)
theorem SndE.call (G : Gl S nm mg mb) {id : Str} {f : Addr} {o : Obj} {fd : FuncData} {e : Expr} {es : List Expr} {a : AX} {g : FX} {p pos : Pos} (hn : GName sc mg id (.ref f)) (ho : S.get? f = some o) (hdat : o.data = .func fd)
    (ha : SndA prog w S nm sc k (e :: es) a) (hf : FunOK prog w S k f g) (hs : ∀ env, starEach (e :: es) env = (false, eval e env) :: starEach es env) : SndE prog w S nm sc k (.Call (.Name id p) (e :: es) [] pos) (callE a g) := by
  constructor
  intro env A σ v H' s m adr Q E he hA hd R ret
  unfold callE at hd
  split at hd
  · cases hd
  rename_i vs H q
  refine Call_ ?_
  refine nameG G he R hn.kind hn.dbg hn.val ?_
  refine callWith_def hdat ?_ (hs env)
  refine ha.ok pos env A σ vs H s m adr _ E he hA q R fun us h1 tk1 adr1 R1 E1 V1 => ⟨R1.base _ _ ho, ?_⟩
  refine hf A vs us H v H' _ adr1 Q E hA hd R1.base R1.lr V1 fun v' h' tk' adr' lr E' V' => ?_
  exact ret v' h' tk' adr' (R1.step E' lr) (E1.trans E') V'

/-- a def's body as a function of its arguments -/
noncomputable def funD (xs : List Nat) (b : SX) : FX := fun ds H => if ds.length = xs.length then (match b ⟨xs.zip ds, H⟩ with
  | some (.ret v, σ') => some (v, σ'.heap)
  | _ => none) else none
end
end Mine
end
section
set_option maxRecDepth 100000
namespace Mine
open PySem PySem.Calls PyProof.Rows PySem.SeqAt

noncomputable def relS (scope sc : Scope) : Scope :=
  { scope with names := scope.names.map fun (n, k) => if (k == .free && sc.kind == .function && sc.names.lookup n == some .cell) then (n, .cell) else (n, k) }
noncomputable def testC : Option TX → TX
  | none => fun σ => some (true, σ.heap)
  | some t => t
noncomputable def compGo (x : Nat) (c : Option TX) (e : EX) (l0 : Nat) : Nat → DI → List (Nat × DV) → DH → Option DH
  | 0, _, _, _ => none
  | n + 1, it, vs, H => match itNext it H with
    | none => none
    | some none => some H
    | some (some (v, it')) => match testC c ⟨setv x v vs, H⟩ with
      | none => none
      | some (false, H1) => compGo x c e l0 n it' (setv x v vs) H1
      | some (true, H1) => match e ⟨setv x v vs, H1⟩ with
        | none => none
        | some (r, H2) => match H2[l0]? with
          | some ds => if ds.length ≤ 1000000 then compGo x c e l0 n it' (setv x v vs) (H2.set l0 (ds ++ [r])) else none
          | none => none
noncomputable def compE (src : IX) (caps : List Nat) (x : Nat) (c : Option TX) (e : EX) (n : Nat) : EX := fun σ => match src σ with
  | none => none
  | some (it, H) => (compGo x c e H.length n it (σ.vars.filter fun p => caps.contains p.1) (H ++ [[]])).map fun H' => (.ref H.length, H')

section
variable {prog : Program} {w : World} {S : Heap} {nm : Nat → Str} {mg mb : Str → Option Value} {sc : Scope} {k : Nat}

theorem lookup_filter {caps : List Nat} {y : Nat} {d : DV} : ∀ {l : List (Nat × DV)}, (l.filter fun p => caps.contains p.1).lookup y = some d → l.lookup y = some d ∧ y ∈ caps
  | [], e => by simp at e
  | (z, b) :: r, e => by
    rw [List.filter_cons] at e
    by_cases hz : caps.contains z = true
    · rw [if_pos hz, List.lookup_cons] at e
      rw [List.lookup_cons]
      by_cases q : y = z
      · subst q
        simp only [beq_self_eq_true] at e ⊢
        exact ⟨e, by simpa using hz⟩
      · simp only [beq_eq_false_iff_ne.mpr q] at e ⊢
        exact lookup_filter e
    · rw [if_neg hz] at e
      obtain ⟨h1, h2⟩ := lookup_filter e
      rw [List.lookup_cons]
      have q : (y == z) = false := beq_eq_false_iff_ne.mpr fun q => hz (by subst q; simpa using h2)
      simp only [q]
      exact ⟨h1, h2⟩

/-- a change at one place that nothing speaks of -/
theorem Rel.but1 {env : Env} {h h' : Heap} {σ : DS} {m : Str → Option Value} {adr : List Addr} {b : Addr} (R : Rel S nm env h σ m adr) (nA : b ∉ adr) (nT : ∀ vs, ¬ h.IsTuple b vs) (nL : env.locals ≠ b) (nC : ∀ x c, env.cells.lookup x = some c → c ≠ b)
    (sb : S.get? b = none) (hk : ∀ a o, a ≠ b → h.get? a = some o → h'.get? a = some o) : Rel S nm env h' σ m adr := by
  have tup : ∀ a (vs : Array Value), h.IsTuple a vs → h'.IsTuple a vs := fun a vs t => by
    obtain ⟨o, ho, r⟩ := id t
    exact ⟨o, hk a o (fun e => nT vs (e ▸ t)) ho, r⟩
  refine ⟨?_, fun c o e => hk c o (fun q => by rw [q, sb] at e; cases e) (R.base c o e), ⟨R.lr.len, fun i a ds e e' => ?_, R.lr.nodup, R.lr.own⟩, fun z d e => ?_, R.fresh, fun y c e => ?_, R.cinj, R.cex⟩
  · obtain ⟨o, es, ep, ho, r⟩ := R.ns
    exact ⟨o, es, ep, hk _ o nL ho, r⟩
  · obtain ⟨vs, ⟨n, ho⟩, hv⟩ := R.lr.at_ i a ds e e'
    exact ⟨vs, ⟨n, hk a _ (fun q => nA (q ▸ List.mem_of_getElem? e)) ho⟩, hv.mono tup fun _ _ e => e⟩
  · obtain ⟨u, hu, hvu⟩ := R.vars z d e
    exact ⟨u, hu.keep fun c hc o ho => hk c o (nC _ c hc) ho, hvu.mono tup fun _ _ e => e⟩
  · obtain ⟨a, u, o, ho, hd⟩ := R.cells y c e
    exact ⟨a, u, o, hk c o (nC y c e) ho, hd⟩
theorem Ext.but1 {a0 adr : List Addr} {h0 h h' : Heap} {b : Addr} (x : Ext a0 h0 adr h) (nb : h0.get? b = none) (nT : ∀ vs, ¬ h.IsTuple b vs) (hk : ∀ a o, a ≠ b → h.get? a = some o → h'.get? a = some o) : Ext a0 h0 adr h' :=
  ⟨x.pre, fun a o e n => hk a o (fun q => by rw [q, nb] at e; cases e) (x.keep a o e n), fun a vs t => by
    obtain ⟨o, ho, r⟩ := x.tup a vs t
    refine ⟨o, hk a o (fun q => nT vs ?_) ho, r⟩
    rw [← q]; exact ⟨o, ho, r⟩, x.nd⟩
theorem ns_notTup {h : Heap} {b : Addr} {m : Str → Option Value} (n : h.Ns b m) (vs : Array Value) : ¬ h.IsTuple b vs := by
  rintro ⟨o, ho, _, c, hd⟩
  obtain ⟨o', _, _, ho', hd', _⟩ := n
  rw [ho] at ho'; cases ho'; rw [hd] at hd'; cases hd'

/-! closures -/
noncomputable def closOf (cells : List (Str × Addr)) : List (Str × NameKind) → List (Str × Addr) → List (Str × Addr)
  | [], cs => cs
  | (n, k) :: r, cs => closOf cells r (if k == .free then (n, (cells.lookup n).getD 0) :: cs else cs)
theorem closureFor_is {scope : Scope} {env : Env} (h : ∀ p ∈ scope.names, p.2 = NameKind.free → ∃ c, env.cells.lookup p.1 = some c) : closureFor scope env = pure (closOf env.cells scope.names []) := by
  unfold closureFor
  generalize ([] : List (Str × Addr)) = cs
  show (forIn scope.names cs _ >>= _) = _
  have : ∀ (l : List (Str × NameKind)) (cs : List (Str × Addr)), (∀ p ∈ l, p.2 = NameKind.free → ∃ c, env.cells.lookup p.1 = some c) →
      (forIn l cs fun (x : Str × NameKind) (r : List (Str × Addr)) => match x with
        | (name, kind) => (do if (kind == NameKind.free) = true then do let a ← cellOf env name; pure (ForInStep.yield ((name, a) :: r)) else pure (ForInStep.yield r) : Sem (ForInStep (List (Str × Addr))))) = pure (closOf env.cells l cs) := by
    intro l
    induction l with
    | nil => intro cs _; rfl
    | cons p r ih =>
      intro cs hl
      obtain ⟨n, kd⟩ := p
      rw [List.forIn_cons]
      by_cases hk : (kd == NameKind.free) = true
      · obtain ⟨c, hc⟩ := hl (n, kd) (by simp) (by simpa using hk)
        have e : cellOf env n = pure c := by unfold cellOf; simp only at hc; rw [hc]
        simp only [hk, if_true, e, pure_bind]
        rw [ih _ fun p hp => hl p (by simp [hp])]
        simp only [closOf, hk, if_true]
        simp only at hc
        rw [hc]; rfl
      · simp only [hk, if_false, pure_bind, Bool.false_eq_true]
        rw [ih _ fun p hp => hl p (by simp [hp])]
        simp only [closOf, hk, if_false, Bool.false_eq_true]
  exact (congrArg (· >>= _) (this scope.names cs h)).trans (by rfl)
end
end Mine
end
section
set_option maxRecDepth 100000
namespace Mine
open PySem PySem.Calls PyProof.Rows PySem.SeqAt

section
variable {prog : Program} {w : World} {S : Heap} {nm : Nat → Str} {mg mb : Str → Option Value} {sc : Scope} {k : Nat}

theorem closOf_sub {cells : List (Str × Addr)} : ∀ {l : List (Str × NameKind)} {cs : List (Str × Addr)}, (∀ p ∈ l, p.2 = NameKind.free → ∃ c, cells.lookup p.1 = some c) → (∀ p ∈ cs, cells.lookup p.1 = some p.2) →
    ∀ p ∈ closOf cells l cs, cells.lookup p.1 = some p.2
  | [], cs, _, hc => hc
  | (n, k) :: r, cs, hl, hc => by
    unfold closOf
    refine closOf_sub (fun p hp => hl p (by simp [hp])) fun p hp => ?_
    split at hp
    · rename_i hk
      obtain ⟨c, e⟩ := hl (n, k) (by simp) (by simpa using hk)
      rcases List.mem_cons.mp hp with rfl | hp
      · simp only at e ⊢; rw [e]; rfl
      · exact hc p hp
    · exact hc p hp
theorem closOf_mem {cells : List (Str × Addr)} : ∀ {l : List (Str × NameKind)} {cs : List (Str × Addr)} {x : Str}, ((x, NameKind.free) ∈ l ∨ ∃ p ∈ cs, p.1 = x) → ∃ p ∈ closOf cells l cs, p.1 = x
  | [], cs, x, h => by
    rcases h with h | h
    · cases h
    · exact h
  | (n, k) :: r, cs, x, h => by
    unfold closOf
    refine closOf_mem ?_
    rcases h with h | ⟨p, hp, e⟩
    · rcases List.mem_cons.mp h with h | h
      · cases h
        exact .inr ⟨(n, (cells.lookup n).getD 0), by simp, rfl⟩
      · exact .inl h
    · refine .inr ⟨p, ?_, e⟩
      split
      · exact .tail _ hp
      · exact hp
theorem lookup_some_of {α β : Type} [BEq α] [LawfulBEq α] : ∀ {l : List (α × β)} {x : α}, (∃ p ∈ l, p.1 = x) → ∃ v, l.lookup x = some v ∧ (x, v) ∈ l
  | [], _, ⟨_, h, _⟩ => by cases h
  | (a, b) :: r, x, h => by
    rw [List.lookup_cons]
    by_cases q : x = a
    · subst q; simp
    · have : (x == a) = false := beq_eq_false_iff_ne.mpr q
      simp only [this]
      obtain ⟨p, hp, e⟩ := h
      rcases List.mem_cons.mp hp with rfl | hp
      · exact absurd e.symm q
      · obtain ⟨v, hv, hm⟩ := lookup_some_of ⟨p, hp, e⟩
        exact ⟨v, hv, .tail _ hm⟩
theorem lookup_memP {α β : Type} [BEq α] [LawfulBEq α] : ∀ {l : List (α × β)} {x : α} {v : β}, l.lookup x = some v → (x, v) ∈ l
  | (a, b) :: r, x, v, e => by
    rw [List.lookup_cons] at e
    split at e
    · rename_i q
      cases e; simp only [beq_iff_eq] at q; subst q; exact .head _
    · exact .tail _ (lookup_memP e)

/-- what is asked of a block's names -/
structure CompOK (nm : Nat → Str) (sc scope : Scope) (x : Nat) (caps : List Nat) : Prop where
  kind : scope.kind = .function
  nocell : ∀ p ∈ scope.names, p.2 ≠ .cell
  free : ∀ p ∈ scope.names, p.2 = NameKind.free → sc.names.lookup p.1 = some .cell
  locals : ∀ p ∈ scope.names, p.2 = .local → scope.names.lookup p.1 = some .local
  own : scope.names.lookup (nm x) = some .local
  caps : ∀ y ∈ caps, sc.names.lookup (nm y) = some .cell ∧ (nm y, NameKind.free) ∈ scope.names ∧ (relS scope sc).names.lookup (nm y) = some .cell

inductive CoEnd (x : Nat) (c : Option TX) (e : EX) (l0 n : Nat) (it' : DI) (vs : List (Nat × DV)) (H : DH) : DH → Prop
  | no {H1 H' : DH} (ht : testC c ⟨vs, H⟩ = some (false, H1)) (q : compGo x c e l0 n it' vs H1 = some H') : CoEnd x c e l0 n it' vs H H'
  | yes {H1 H2 H' : DH} {r : DV} {ds : List DV} (ht : testC c ⟨vs, H⟩ = some (true, H1)) (he : e ⟨vs, H1⟩ = some (r, H2)) (hl : H2[l0]? = some ds) (hn : ds.length ≤ 1000000) (q : compGo x c e l0 n it' vs (H2.set l0 (ds ++ [r])) = some H') : CoEnd x c e l0 n it' vs H H'
inductive CoStep (x : Nat) (c : Option TX) (e : EX) (l0 n : Nat) (it : DI) (vs : List (Nat × DV)) (H : DH) : DH → Prop
  | stop (h : itNext it H = some none) : CoStep x c e l0 n it vs H H
  | turn {v : DV} {it' : DI} {H' : DH} (h : itNext it H = some (some (v, it'))) (q : CoEnd x c e l0 n it' (setv x v vs) H H') : CoStep x c e l0 n it vs H H'
theorem compGo_inv {x : Nat} {c : Option TX} {e : EX} {l0 n : Nat} {it : DI} {vs : List (Nat × DV)} {H H' : DH} (q : compGo x c e l0 (n + 1) it vs H = some H') : CoStep x c e l0 n it vs H H' := by
  unfold compGo at q
  split at q
  · cases q
  · rename_i h; cases q; exact .stop h
  · rename_i h
    refine .turn h ?_
    split at q
    · cases q
    · rename_i ht; exact .no ht q
    · rename_i ht
      split at q
      · cases q
      rename_i he
      split at q
      · rename_i hl
        split at q
        · rename_i hn; exact .yes ht he hl hn q
        · cases q
      · cases q
/-- between the block's turns -/
inductive CompAt (S : Heap) (nm : Nat → Str) (cenv : Env) (x : Nat) (c : Option TX) (e : EX) (l0 : Nat) (I J D : Addr) (s0 : Shared) (adr0 : List Addr) (H' : DH) (n : Nat) : Shared → Prop
  | mk {h : Heap} {tk : Nat} {mC : Str → Option Value} {adr : List Addr} {it : DI} {vs : List (Nat × DV)} {H : DH} (q : compGo x c e l0 n it vs H = some H') (hn : it.isEnm = false) (R : Rel S nm cenv h ⟨vs, H⟩ mC adr) (E : Ext adr0 s0.heap adr h) (X : ItAt h adr I J it) (hD : adr[l0]? = some D) :
    CompAt S nm cenv x c e l0 I J D s0 adr0 H' n { s0 with heap := h, toks := tk }
/-- the block's loop -/
theorem comp_loop {env cenv : Env} {A : Around} {scope : Scope} {pos : Pos} {elt iter : Expr} {x : Nat} {px : Pos} {ifs : List Expr} {c : Option TX} {e : EX} {C I J D : Addr} {l0 : Nat}
    (hinj : ∀ x z, nm x = nm z → x = z)
    (hc : ifs = [] ∧ c = none ∨ ∃ ce t, ifs = [ce] ∧ c = some t ∧ SndT prog w S nm (relS scope sc) k ce t) (hel : SndE prog w S nm (relS scope sc) k elt e)
    (he : EnvOK cenv (relS scope sc)) (hA : ActOK k A) (hC : cenv.locals = C) (hx : cenv.kindOf (nm x) = some .local) (s0 : Shared) (adr0 : List Addr) (H' : DH) (R : Result → Shared → Prop)
    (nI : s0.heap.get? I = none) (nJ : s0.heap.get? J = none) (nC : s0.heap.get? C = none) (sI : S.get? I = none) (sJ : S.get? J = none) (sC : S.get? C = none)
    (hR : ∀ h tk mC adr vs, Rel S nm cenv h ⟨vs, H'⟩ mC adr → Ext adr0 s0.heap adr h → adr[l0]? = some D → R (.ok .next) { s0 with heap := h, toks := tk }) :
    ∀ (n : Nat) (it : DI) (vs : List (Nat × DV)) (H : DH) (h : Heap) (tk : Nat) (mC : Str → Option Value) (adr : List Addr), compGo x c e l0 n it vs H = some H' → it.isEnm = false → Rel S nm cenv h ⟨vs, H⟩ mC adr → Ext adr0 s0.heap adr h → ItAt h adr I J it →
      adr[l0]? = some D →
      codeAny (model prog w) A (.compLoop (.ListComp elt [⟨.Name (nm x) px, iter, ifs, 0⟩] scope pos) 0 (.ref I) (.ref D) cenv) R { s0 with heap := h, toks := tk } := by
  intro n it vs H h tk mC adr hq hen R0 E0 X0 hD
  refine codeAny_compLoop_tests (fun n s' => CompAt S nm cenv x c e l0 I J D s0 adr0 H' n s') ?_ n (.mk hq hen R0 E0 X0 hD)
  intro n s' I0
  cases I0 with
  | @mk h tk mC adr it vs H q hn R1 E1 X1 hD1 =>
  have extBut : ∀ {h' : Heap} {adr : List Addr} {h : Heap} {it : DI}, Ext adr0 s0.heap adr h → ItAt h adr I J it → But I J h h' → Ext adr0 s0.heap adr h' := fun {h' adr h it} E X bt => by
    obtain ⟨fI, fJ⟩ := X.fields
    exact ⟨E.pre, fun b o e n => bt b o (fun q => by rw [q, nI] at e; cases e) (fun q => by rw [q, nJ] at e; cases e) (E.keep b o e n), fun a vs t => bt.tup fI fJ a vs (E.tup a vs t), E.nd⟩
  cases n with
  | zero => cases q
  | succ n =>
    obtain ⟨fI, fJ⟩ := X1.fields
    cases compGo_inv q with
    | stop hnx =>
      refine it_end hA.handled R1 X1 hnx fun h' tk' bt => ?_
      exact hR h' tk' mC adr vs (R1.but fI fJ sI sJ bt) (extBut E1 X1 bt) hD1
    | @turn v it' _ hnx qe =>
      refine it_item R1 X1 sI sJ hnx (fun l i e => by rw [e] at hn; cases hn) fun v' h2 tk2 R2 X2 V2 bt => ?_
      have E2 := extBut E1 X1 bt
      -- the block's own name is stored
      refine wpAny_assign_Name (wpAny_storeName_local hx R2.ns (fun h3 hn3 hs3 => ?_) (by rw [he.kind]; rfl))
      rw [hC] at hn3 hs3
      have fI2 := X2.fields
      have nsC : h2.Ns C mC := hC ▸ R2.ns
      have tup3 : ∀ a (vs : Array Value), h2.IsTuple a vs → h3.IsTuple a vs := fun a vs t => by
        have n : a ≠ C := fun q => ns_notTup nsC vs (q ▸ t)
        obtain ⟨o, ho, r⟩ := t
        exact ⟨o, (hs3.2 a n).trans ho, r⟩
      have hCadr : C ∉ adr := R2.lr.notNs nsC
      have lr3 : LR S h3 adr H := ⟨R2.lr.len, fun i a ds e e' => by
        obtain ⟨us, ⟨n, ho⟩, hu⟩ := R2.lr.at_ i a ds e e'
        exact ⟨us, ⟨n, (hs3.2 a fun q => hCadr (q ▸ List.mem_of_getElem? e)).trans ho⟩, hu.mono tup3 fun _ _ e => e⟩, R2.lr.nodup, R2.lr.own⟩
      have cellNe : ∀ {c y}, h2.IsCell c y → c ≠ C := fun {c y} ⟨o, ho, hd⟩ e => by
        obtain ⟨o', _, _, ho', hd', _⟩ := nsC
        subst e; rw [ho] at ho'; cases ho'; rw [hd] at hd'; cases hd'
      have R3 : Rel S nm cenv h3 ⟨setv x v vs, H⟩ (fun y => if y = nm x then some v' else mC y) adr := by
        refine ⟨hC ▸ hn3, fun b o e => (hs3.2 b fun q => by rw [q, sC] at e; cases e).trans (R2.base b o e), lr3, fun z d e => ?_, R2.fresh, fun y c' e => ?_, R2.cinj, R2.cex⟩
        · rw [lookup_setv] at e
          split at e
          · rename_i hz
            cases e; subst hz
            exact ⟨v', .inl ⟨hx, by simp⟩, V2.mono tup3 fun _ _ e => e⟩
          · rename_i hz
            obtain ⟨u, hu, hvu⟩ := R2.vars z d e
            refine ⟨u, ?_, hvu.mono tup3 fun _ _ e => e⟩
            rcases hu with ⟨a, b⟩ | ⟨a, c', hc', hcell⟩
            · exact .inl ⟨a, by show (if nm z = nm x then some v' else mC (nm z)) = some u; rw [if_neg fun q => hz (hinj _ _ q)]; exact b⟩
            · exact .inr ⟨a, c', hc', hcell.sameBut hs3 (cellNe hcell)⟩
        · obtain ⟨a, u, hcell⟩ := R2.cells y c' e
          exact ⟨a, u, hcell.sameBut hs3 (cellNe hcell)⟩
      have E3 : Ext adr0 s0.heap adr h3 := ⟨E2.pre, fun b o e n => (hs3.2 b fun q => by rw [q, nC] at e; cases e).trans (E2.keep b o e n), fun a vs t => tup3 a vs (E2.tup a vs t), E2.nd⟩
      have X3 : ItAt h3 adr I J it' := X2.upS R2 ⟨⟨[], by simp, by simp⟩, fun b o e _ hL _ => (hs3.2 b (hC ▸ hL)).trans e, tup3, R2.lr.nodup, fun b e => by
        by_cases q : b = C
        · obtain ⟨o, _, _, ho, _⟩ := hn3
          rw [q, ho] at e; cases e
        · rw [hs3.2 b q] at e; exact e⟩
      -- the test
      have test : ∀ (Q : Bool → Shared → Prop) (E : Value → Shared → Prop) b H1, testC c ⟨setv x v vs, H⟩ = some (b, H1) →
          (∀ h' tk' adr', Rel S nm cenv h' ⟨setv x v vs, H1⟩ (fun y => if y = nm x then some v' else mC y) adr' → Ext adr h3 adr' h' → Q b { s0 with heap := h', toks := tk' }) →
          wpAny (model prog w) A (forIn ifs true fun c r => if r = true then do let ok ← isTrue c cenv (eval c cenv); pure (ForInStep.yield ok) else pure (ForInStep.yield r)) Q E { s0 with heap := h3, toks := tk2 + 1 } := by
        intro Q E b H1 qt hQ
        rcases hc with ⟨rfl, rfl⟩ | ⟨ce, t, rfl, rfl, ht⟩
        · cases qt
          exact wpAny_tests_nil (hQ h3 _ adr R3 (.refl R3.lr.nodup h3))
        · exact wpAny_tests_one (ht.ok cenv A _ b H1 _ _ adr Q E he hA qt R3 hQ)
      cases qe with
      | no qt q =>
        refine test _ _ false _ qt fun h4 tk4 adr4 R4 E4 => ?_
        rw [if_neg Bool.false_ne_true]
        exact ⟨n, Nat.lt_succ_self _, .mk q ((itNext_enm hnx).trans hn) R4 (E3.trans E4) (X3.upS R3 (E4.s R4.lr)) (E4.get _ _ hD1)⟩
      | yes qt qe q2 hlen q =>
        refine test _ _ true _ qt fun h4 tk4 adr4 R4 E4 => ?_
        rw [if_pos rfl]
        have X4 := X3.upS R3 (E4.s R4.lr)
        refine hel.ok cenv A _ _ _ _ _ adr4 _ _ he hA qe R4 fun u h5 tk5 adr5 R5 E5 V5 => ?_
        have X5 := X4.upS R4 (E5.s R5.lr)
        have hD5 := E5.get _ _ (E4.get _ _ hD1)
        obtain ⟨us, hp, hus⟩ := R5.lr.at_ l0 D _ hD5 q2
        refine wpAny_list_append_plain hp (fun h6 hp6 hs6 => ?_) (by simp [hus.length, sizeLine_eq]; omega)
        obtain ⟨R6, E6⟩ := R5.setList (vs := us ++ [u]) hD5 (by simpa using hp6) hs6 (hus.snoc V5)
        exact ⟨n, Nat.lt_succ_self _, .mk q ((itNext_enm hnx).trans hn) R6 (((E3.trans E4).trans E5).trans E6) (X5.upS R5 (E6.s R6.lr)) hD5⟩
end
end Mine
end
section
set_option maxRecDepth 100000
namespace Mine
open PySem PySem.Calls PyProof.Rows PySem.SeqAt

section
variable {prog : Program} {w : World} {S : Heap} {nm : Nat → Str} {mg mb : Str → Option Value} {sc : Scope} {k : Nat}

theorem comp_core {env : Env} {A : Around} {scope : Scope} {pos : Pos} {elt iter : Expr} {x : Nat} {px : Pos} {ifs : List Expr} {src : IX} {caps : List Nat} {c : Option TX} {e : EX} {n : Nat} {σ : DS} {v : DV} {H' : DH} {s : Shared} {m : Str → Option Value} {adr : List Addr}
    (hinj : ∀ x z, nm x = nm z → x = z) (O : CompOK nm sc scope x caps) (hsrc : SndI prog w S nm sc k iter src) (hen : ∀ σ it H, src σ = some (it, H) → it.isEnm = false)
    (hc : ifs = [] ∧ c = none ∨ ∃ ce t, ifs = [ce] ∧ c = some t ∧ SndT prog w S nm (relS scope sc) k ce t) (hel : SndE prog w S nm (relS scope sc) k elt e)
    (he : EnvOK env sc) (hA : ActOK k A) (hd : compE src caps x c e n σ = some (v, H')) (R : Rel S nm env s.heap σ m adr) (RR : Value → Addr → Result → Shared → Prop) (E : Value → Shared → Prop)
    (hRR : ∀ D C h' tk' adr' mC, Rel S nm env h' ⟨σ.vars, H'⟩ m adr' → Ext adr s.heap adr' h' → VR S h' adr' (.ref D) v → h'.Ns C mC → s.heap.get? C = none → RR (.ref D) C (.ok .next) { s with heap := h', toks := tk' }) :
    wpAny (model prog w) A (eval iter env) (fun xv s₁ => wpAny (model prog w) A (pyIter xv) (fun it s₂ => wpAny (model prog w) A (newList []) (fun acc s₃ =>
      wpAny (model prog w) A (newFunctionEnv scope env.globals (closOf env.cells scope.names []) [] env.qual none .none (some env)) (fun cenv s₄ =>
        codeAny (model prog w) A (.compStart (.ListComp elt [⟨.Name (nm x) px, iter, ifs, 0⟩] scope pos) 0 it acc { cenv with scope := relabel scope env }) (RR acc cenv.locals) s₄) E s₃) E s₂) E s₁) E s := by
  unfold compE at hd
  split at hd
  · cases hd
  rename_i it0 H0 q0
  obtain ⟨H1, q1, e1⟩ := Option.map_eq_some_iff.mp hd
  cases e1
  refine hsrc.ok env A σ it0 H0 s m adr _ E he hA q0 R fun I J h1 tk1 adr1 R1 E1 X1 nI nJ => ?_
  have sN : ∀ {b}, s.heap.get? b = none → S.get? b = none := fun {b} nb => by
    cases q : S.get? b with
    | none => rfl
    | some o => rw [R.base b o q] at nb; cases nb
  refine wpAny_newObj_type (wpAny_newFunctionEnv O.nocell (by intro y hy; simp at hy) (fun h3 hns hsb => ?_) O.kind)
  dsimp only at hns hsb ⊢
  -- the list D, the block's dict C
  have hD := R1.pushList (vs := []) (ds := []) .nil { cls := .type "list", dict := none, data := .seq ([] : List Value).toArray } rfl
  obtain ⟨R2, E2, V2⟩ := hD
  generalize hH2 : h1.push { cls := .type "list", dict := none, data := .seq ([] : List Value).toArray } = h2 at hns hsb R2 E2 V2
  have hDs : h2.objs.size = h1.objs.size + 1 := by rw [← hH2, Heap.size_push]
  have k3 : ∀ b o, h2.get? b = some o → h3.get? b = some o := fun b o e => by
    have hlt : b ≠ h2.objs.size := Nat.ne_of_lt (Heap.lt_size e)
    exact hsb.extBut b o hlt (Heap.get?_push_of_some _ e)
  obtain ⟨R3, E3⟩ := R2.keeps k3
  have X3 : ItAt h3 (adr1 ++ [h1.objs.size]) I J it0 := (X1.upS R1 (E2.s R2.lr)).upS R2 (E3.s R3.lr)
  have Eall := (E1.trans E2).trans E3
  have nC : s.heap.get? h2.objs.size = none := (E1.trans E2).noneOf R2.lr (fresh_of h2 (Nat.le_refl _))
  have hrel : relabel scope env = relS scope sc := by rw [← he.sc]; rfl
  -- the block's own frame
  have hfree : ∀ p ∈ scope.names, p.2 = NameKind.free → ∃ c, env.cells.lookup p.1 = some c := fun p hp hf => R.cex p.1 (by unfold Env.kindOf; rw [he.sc]; exact O.free p hp hf)
  have hsub := closOf_sub (cells := env.cells) (l := scope.names) (cs := []) hfree (fun _ h => nomatch h)
  have hlk : ∀ y c, (closOf env.cells scope.names []).lookup y = some c → env.cells.lookup y = some c := fun y c e => hsub _ (lookup_memP e)
  let cenv : Env := compEnvC scope (closOf env.cells scope.names []) h2.objs.size env
  have hcs : cenv.scope = relS scope sc := hrel
  have heC : EnvOK cenv (relS scope sc) := ⟨hcs, by rw [hcs]; exact O.kind, he.glob, he.blt⟩
  have hx : cenv.kindOf (nm x) = some .local := by
    show (relabel scope env).names.lookup (nm x) = some .local
    exact lookup_relabel_local O.own
  have RC : Rel S nm cenv h3 ⟨σ.vars.filter fun p => caps.contains p.1, H0 ++ [[]]⟩ (fun x => ([] : List (Str × Value)).reverse.lookup x) (adr1 ++ [h1.objs.size]) := by
    refine ⟨hns, R3.base, R3.lr, fun y d e => ?_, sN nC, fun y c e => R3.cells y c (hlk y c e), fun y z c e e' => R.cinj y z c (hlk y c e) (hlk z c e'), fun y e => ?_⟩
    · obtain ⟨e, hy⟩ := lookup_filter e
      obtain ⟨hk1, hk2, hk3⟩ := O.caps y hy
      obtain ⟨u, hu, hvu⟩ := R3.vars y d e
      refine ⟨u, .inr ⟨by unfold Env.kindOf; rw [hcs]; exact hk3, ?_⟩, hvu⟩
      rcases hu with ⟨a, _⟩ | ⟨_, c, hc, hcell⟩
      · unfold Env.kindOf at a; rw [he.sc, hk1] at a; cases a
      · obtain ⟨p, hp, e⟩ := closOf_mem (cells := env.cells) (l := scope.names) (cs := []) (x := nm y) (.inl hk2)
        obtain ⟨c', hc', hm⟩ := lookup_some_of ⟨p, hp, e⟩
        have := hlk _ _ hc'
        rw [hc] at this; cases this
        exact ⟨c, hc', hcell⟩
    · unfold Env.kindOf at e
      rw [hcs] at e
      obtain ⟨p, hp, e'⟩ := List.mem_map.mp (lookup_memP e)
      obtain ⟨n0, k0⟩ := p
      have hn := O.nocell _ hp
      simp only at e'
      split at e'
      · rename_i hcnd
        cases e'
        simp only [Bool.and_eq_true, beq_iff_eq] at hcnd
        have hk0 := hcnd.1.1
        subst hk0
        obtain ⟨p, hp', e⟩ := closOf_mem (cells := env.cells) (l := scope.names) (cs := []) (x := y) (.inl hp)
        obtain ⟨c', hc', hm⟩ := lookup_some_of ⟨p, hp', e⟩
        exact ⟨c', hc'⟩
      · cases e'
        exact absurd rfl hn
  have loop : ∀ s₃ : Shared, s₃ = { s with heap := h3, toks := tk1 + ([] : List (Str × Value)).length } →
      codeAny (model prog w) A (.compLoop (.ListComp elt [⟨.Name (nm x) px, iter, ifs, 0⟩] scope pos) 0 (.ref I) (.ref h1.objs.size) cenv) (RR (.ref h1.objs.size) h2.objs.size) s₃ := by
    rintro s₃ rfl
    refine comp_loop (env := env) (C := h2.objs.size) (I := I) (J := J) (D := h1.objs.size) (l0 := H0.length) hinj hc hel heC hA rfl hx s adr H' _ nI nJ nC (sN nI) (sN nJ) (sN nC) (fun h tk mC adr2 vs R4 E4 hD4 => ?_) n it0 _ _ h3 _ _ _ q1 (hen _ _ _ q0) RC Eall X3 ?_
    · exact hRR _ _ h tk adr2 mC (R.step E4 R4.lr) E4 (.ref hD4) R4.ns nC
    · cases V2 with
      | ref h => exact h
  have hlen : ([] : List (Str × Value)).length = 0 := rfl
  refine codeAny_compStart_list (loop _ rfl) ?_
  cases it0 with
  | lst l i =>
    obtain ⟨_, a, _, hit⟩ := X3
    exact wpAny_pyIter_listiter hit (loop _ rfl)
  | rng y left =>
    obtain ⟨_, hr⟩ := X3
    exact wpAny_pyIter_rangeiter hr (loop _ rfl)
  | enm l i => have := hen _ _ _ q0; cases this

theorem eval_Comp {env : Env} {elt iter : Expr} {x : Str} {px pos : Pos} {ifs : List Expr} {scope : Scope} : eval (.ListComp elt [⟨.Name x px, iter, ifs, 0⟩] scope pos) env =
    comprehension (.ListComp elt [⟨.Name x px, iter, ifs, 0⟩] scope pos) scope env (firstIterPos [⟨.Name x px, iter, ifs, 0⟩] pos) (newList []) false (eval iter env) := rfl

/-- what stands behind the block: its dict may lose its names -/
theorem back {env : Env} {σ : DS} {s : Shared} {m : Str → Option Value} {adr adr' : List Addr} {h' h'' : Heap} {C : Addr} {mC : Str → Option Value} {H' : DH} (he : EnvOK env sc) (R : Rel S nm env s.heap σ m adr) (nC : s.heap.get? C = none) (R' : Rel S nm env h' ⟨σ.vars, H'⟩ m adr') (E' : Ext adr s.heap adr' h') (hn : h'.Ns C mC)
    (hs : Heap.SameBut C h' h'') : Rel S nm env h'' ⟨σ.vars, H'⟩ m adr' ∧ Ext adr s.heap adr' h'' := by
  have sC : S.get? C = none := by
    cases q : S.get? C with
    | none => rfl
    | some o => rw [R.base C o q] at nC; cases nC
  have kp : ∀ a o, a ≠ C → h'.get? a = some o → h''.get? a = some o := fun a o n e => (hs.2 a n).trans e
  refine ⟨R'.but1 (R'.lr.notNs hn) (ns_notTup hn) (fun q => ?_) (fun x c e q => ?_) sC kp, E'.but1 nC (ns_notTup hn) kp⟩
  · obtain ⟨o, _, _, ho, _⟩ := R.ns
    rw [q, nC] at ho; cases ho
  · obtain ⟨_, v, o, ho, _⟩ := R.cells x c e
    rw [q, nC] at ho; cases ho

theorem SndE.comp {scope : Scope} {pos : Pos} {elt iter : Expr} {x : Nat} {id : Str} {px : Pos} {ifs : List Expr} {src : IX} {caps : List Nat} {c : Option TX} {e : EX} (n : Nat)
    (hinj : ∀ x z, nm x = nm z → x = z) (hid : nm x = id) (O : CompOK nm sc scope x caps) (hsrc : SndI prog w S nm sc k iter src) (hen : ∀ σ it H, src σ = some (it, H) → it.isEnm = false)
    (hc : ifs = [] ∧ c = none ∨ ∃ ce t, ifs = [ce] ∧ c = some t ∧ SndT prog w S nm (relS scope sc) k ce t) (hel : SndE prog w S nm (relS scope sc) k elt e) (hs : ∀ env x, foldedSetIterable iter env x = pure x) :
    SndE prog w S nm sc k (.ListComp elt [⟨.Name id px, iter, ifs, 0⟩] scope pos) (compE src caps x c e n) := by
  subst hid
  constructor
  intro env A σ v H' s m adr Q E he hA hd R ret
  have hfree : ∀ p ∈ scope.names, p.2 = NameKind.free → ∃ c, env.cells.lookup p.1 = some c := fun p hp hf => R.cex p.1 (by unfold Env.kindOf; rw [he.sc]; exact O.free p hp hf)
  show wpAny _ _ (eval _ env) _ _ _
  rw [eval_Comp]
  refine wpAny_comprehension_free (use := none) rfl (hs env) (closureFor_is hfree) O.kind O.locals ?_
  refine comp_core hinj O hsrc hen hc hel he hA hd R (fun acc C => compPost (model prog w) A E none Q acc C) E fun D C h' tk' adr' mC R' E' V' hn nC => ?_
  refine ⟨mC, hn, fun h'' hs'' => ?_⟩
  obtain ⟨R2, E2⟩ := back he R nC R' E' hn hs''
  refine ret _ h'' tk' adr' R2 E2 ?_
  cases V' with
  | tup h _ => exact absurd hd (by unfold compE; split <;> simp)
  | ext h _ => exact absurd hd (by unfold compE; split <;> simp)
  | ref h => exact .ref h

theorem SndS.assignComp {scope : Scope} {pos spos ypos : Pos} {elt iter : Expr} {x y : Nat} {id idy : Str} {px : Pos} {ifs : List Expr} {src : IX} {caps : List Nat} {c : Option TX} {e : EX} (n : Nat)
    (hinj : ∀ x z, nm x = nm z → x = z) (hid : nm x = id) (hidy : nm y = idy) (hk : sc.names.lookup idy = some .local) (O : CompOK nm sc scope x caps) (hsrc : SndI prog w S nm sc k iter src) (hen : ∀ σ it H, src σ = some (it, H) → it.isEnm = false)
    (hc : ifs = [] ∧ c = none ∨ ∃ ce t, ifs = [ce] ∧ c = some t ∧ SndT prog w S nm (relS scope sc) k ce t) (hel : SndE prog w S nm (relS scope sc) k elt e) (hs : ∀ env x, foldedSetIterable iter env x = pure x)
    (hsw : ∀ env, EnvOK env sc → swapsWith (.ListComp elt [⟨.Name id px, iter, ifs, 0⟩] scope pos) (some (.Name idy ypos)) spos.line env = pure true) :
    SndS prog w S nm sc k (.Assign [.Name idy ypos] (.ListComp elt [⟨.Name id px, iter, ifs, 0⟩] scope pos) spos) (asgS (compE src caps x c e n) (setG y)) := by
  subst hid
  constructor
  intro env A σ f σ' s m adr Q E he hA hd R ret
  unfold asgS at hd
  split at hd
  · cases hd
  rename_i v H1 q1
  cases hd
  have hfree : ∀ p ∈ scope.names, p.2 = NameKind.free → ∃ c, env.cells.lookup p.1 = some c := fun p hp hf => R.cex p.1 (by unfold Env.kindOf; rw [he.sc]; exact O.free p hp hf)
  show wpAny _ _ (exec _ env) _ _ _
  rw [exec_Assign_Name_used _ _ _ _ (hsw env he)]
  refine wpAny_bind (wpAny_standAt (wpAny_bind ?_))
  show wpAny _ A (do let _ ← comprehension (.ListComp elt [⟨.Name (nm x) px, iter, ifs, 0⟩] scope pos) scope env _ (newList []) false (eval iter env) (some (PySem.assign (.Name idy ypos) env))) _ _ s
  refine wpAny_bind (wpAny_mono (wpAny_comprehension_free (use := some (PySem.assign (.Name idy ypos) env)) (Q := fun _ s' => Q .next s') rfl (hs env) (closureFor_is hfree) O.kind O.locals ?_) (fun _ s' hq => wpAny_pure (wpAny_pure hq)) fun _ _ e => e)
  refine comp_core hinj O hsrc hen hc hel he hA q1 R (fun acc C => compPost (model prog w) A E (some (PySem.assign (.Name idy ypos) env)) (fun _ s' => Q .next s') acc C) E fun D C h' tk' adr' mC R' E' V' hn nC => ?_
  show wpAny _ A (PySem.assign (.Name idy ypos) env (.ref D)) _ _ _
  refine wpAny_assign_Name (store_ok hinj he hidy (.inl hk) R' V' fun h2 tk2 m2 adr2 R2 E2 => ?_)
  have cL : env.locals ≠ C := fun q => by
    obtain ⟨o, _, _, ho, _⟩ := R.ns
    rw [q, nC] at ho; cases ho
  have cC : ∀ x c, env.cells.lookup x = some c → c ≠ C := fun x c e q => by
    obtain ⟨_, v, o, ho, _⟩ := R.cells x c e
    rw [q, nC] at ho; cases ho
  have sC : S.get? C = none := by
    cases q : S.get? C with
    | none => rfl
    | some o => rw [R.base C o q] at nC; cases nC
  have hn2 : h2.Ns C mC := by
    obtain ⟨o, es, ep, ho, r⟩ := hn
    exact ⟨o, es, ep, E2.keep C o ho (R'.lr.notNs ⟨o, es, ep, ho, r⟩) (Ne.symm cL) (fun x c e q => cC x c e q.symm), r⟩
  refine ⟨mC, hn2, fun h3 hs3 => ?_⟩
  have kp : ∀ a o, a ≠ C → h2.get? a = some o → h3.get? a = some o := fun a o n e => (hs3.2 a n).trans e
  have R3 := R2.but1 (R2.lr.notNs hn2) (ns_notTup hn2) cL cC sC kp
  have X : ExtS env adr s.heap adr2 h2 := (E'.s R'.lr).trans E2
  refine ret .next h3 tk2 m2 adr2 R3 ⟨X.pre, fun b o e n hL hc => kp b o (fun q => by rw [q, nC] at e; cases e) (X.keep b o e n hL hc), fun a vs t => ?_, X.nd, fun b e => ?_⟩ .next
  · obtain ⟨o, ho, r⟩ := X.tup a vs t
    exact ⟨o, kp a o (fun q => ns_notTup hn2 vs (q ▸ ⟨o, ho, r⟩)) ho, r⟩
  · by_cases q : b = C
    · rw [q]; exact nC
    · rw [hs3.2 b q] at e; exact X.live b e
end
end Mine
end
section
set_option maxRecDepth 100000
namespace Mine
open PySem PySem.Calls PyProof.Rows PySem.SeqAt

section
variable {prog : Program} {w : World} {S : Heap} {nm : Nat → Str} {mg mb : Str → Option Value} {sc : Scope} {k : Nat}

theorem bindL_other {kd : Str → Option NameKind} : ∀ {l : List (Str × Value)} {m : Str → Option Value} {y : Str}, (∀ p ∈ l, p.1 ≠ y) → bindL kd l m y = m y
  | [], _, _, _ => rfl
  | (n, v) :: r, m, y, h => by
    unfold bindL
    rw [bindL_other fun p hp => h p (.tail _ hp)]
    split
    · have := h (n, v) (.head _)
      show (if y = n then some v else m y) = m y
      rw [if_neg fun e => this e.symm]
    · rfl
theorem bindC_other {kd : Str → Option NameKind} : ∀ {l : List (Str × Value)} {m : Str → Option Value} {y : Str}, (∀ p ∈ l, p.1 ≠ y) → bindC kd l m y = m y
  | [], _, _, _ => rfl
  | (n, v) :: r, m, y, h => by
    unfold bindC
    rw [bindC_other fun p hp => h p (.tail _ hp)]
    split
    · rfl
    · have := h (n, v) (.head _)
      show (if y = n then some v else m y) = m y
      rw [if_neg fun e => this e.symm]
theorem bind_get (hinj : ∀ x z, nm x = nm z → x = z) {kd : Str → Option NameKind} {h : Heap} {adr : List Addr} : ∀ {xs : List Nat} {vs : List Value} {ds : List DV} (m cm : Str → Option Value), xs.Nodup → VRs S h adr vs ds → vs.length = xs.length →
    ∀ x d, (xs.zip ds).lookup x = some d → ∃ v, VR S h adr v d ∧ x ∈ xs ∧ (kd (nm x) = some .local → bindL kd ((xs.map nm).zip vs) m (nm x) = some v) ∧ (kd (nm x) = some .cell → bindC kd ((xs.map nm).zip vs) cm (nm x) = some v)
  | [], _, _, _, _, _, _, _, x, d, e => by simp at e
  | y :: ys, _, _, m, cm, hnd, hv, hl, x, d, e => by
    cases hv with
    | nil => simp at hl
    | @cons u us c cs h1 h2 =>
      have hnd' := List.nodup_cons.mp hnd
      rw [List.zip_cons_cons, List.lookup_cons] at e
      by_cases hxy : x = y
      · subst hxy
        simp at e; subst e
        have oth : ∀ p ∈ (ys.map nm).zip us, p.1 ≠ nm x := fun p hp q => by
          obtain ⟨z, hz, e'⟩ := List.mem_map.mp (List.of_mem_zip hp).1
          have := hinj z x (e'.trans q)
          subst this; exact hnd'.1 hz
        refine ⟨u, h1, by simp, fun hk => ?_, fun hk => ?_⟩
        · rw [List.map_cons, List.zip_cons_cons]
          unfold bindL
          rw [bindL_other oth, if_pos hk]
          show (if nm x = nm x then some u else m (nm x)) = some u
          rw [if_pos rfl]
        · rw [List.map_cons, List.zip_cons_cons]
          unfold bindC
          rw [bindC_other oth, if_neg (by rw [hk]; simp)]
          show (if nm x = nm x then some u else cm (nm x)) = some u
          rw [if_pos rfl]
      · rw [beq_eq_false_iff_ne.mpr hxy] at e
        rw [List.map_cons, List.zip_cons_cons]
        unfold bindL bindC
        obtain ⟨v, h3, h4, h5, h6⟩ := bind_get hinj (kd := kd) (if kd (nm y) = some .local then fun z => if z = nm y then some u else m z else m) (if kd (nm y) = some .local then cm else fun z => if z = nm y then some u else cm z) hnd'.2 h2 (by simpa using hl) x d e
        exact ⟨v, h3, by simp [h4], h5, h6⟩

/-- a def with cells -/
theorem FunOK.defC (G : Gl S nm mg mb) {f : Addr} {o : Obj} {fd : FuncData} {body : List Stmt} {xs : List Nat} {b : SX} (ho : S.get? f = some o) (hdat : o.data = .func fd) (hcd : S.CodeRec fd.code fd.qualname) (hbody : fd.body = .stmts body)
    (hg : fd.globals = mainGlobals) (hbl : fd.builtins = builtinsNs) (hcl : fd.closure = [])
    (hbind : ∀ vs : List Value, vs.length = xs.length → bindArgs fd ⟨vs, []⟩ = pure ((xs.map nm).zip vs)) (hnd : xs.Nodup)
    (hloc : ∀ x ∈ xs, fd.scope.names.lookup (nm x) = some .local ∨ fd.scope.names.lookup (nm x) = some .cell)
    (hco : fd.scope.isCoroutine = false) (hgen : fd.scope.isGenerator = false) (hkd : fd.scope.kind = .function)
    (hb : SndB prog w S nm fd.scope k body b) : FunOK prog w S (k + 1) f (funD xs b) := by
  intro A ds vs H v H' s adr Q E hA hd hS lr hvs ret
  unfold funD at hd
  split at hd
  · rename_i hlen
    split at hd
    · rename_i v0 σ' q
      cases hd
      have hlv : vs.length = xs.length := hvs.length.trans hlen
      have hnames : ∀ y ∈ (xs.map nm).zip vs, ∃ x ∈ xs, nm x = y.1 := fun y hy => by
        obtain ⟨x, hx, e⟩ := List.mem_map.mp (List.of_mem_zip hy).1
        exact ⟨x, hx, e⟩
      refine wpAny_call ?_
      refine codeAny_call_cells (by have := hA.depth; omega) (hS _ _ ho) hdat (G.nolimit.keeps hS) (hcd.keeps hS) hbody (hbind vs hlv) hcl ?_ (fun s₁ x => ?_) hco hgen hkd
      · intro y hy
        obtain ⟨x, hx, e⟩ := hnames y hy
        rw [← e]
        rcases hloc x hx with h | h
        · exact .inl h
        · exact .inr ⟨h, PySem.W.cellsFrom_some _ _ _ (.inl h)⟩
      · obtain ⟨h₁, tk, rfl, hk⟩ := x.done
        have nL : s.heap.get? s.heap.objs.size = none := fresh_of _ (Nat.le_refl _)
        have sN : ∀ {b}, s.heap.get? b = none → S.get? b = none := fun {b} nb => by
          cases q : S.get? b with
          | none => rfl
          | some o => rw [hS _ o q] at nb; cases nb
        have lr0 := lr.keeps hk
        have E0 : Ext adr s.heap adr h₁ := .keeps lr.nodup hk
        have cN : ∀ n c, (callEnvC fd s.heap.objs.size f).cells.lookup n = some c → s.heap.get? c = none := fun n c e => by
          have := x.above n c (lookup_memP e)
          exact fresh_of _ (Nat.le_of_lt this)
        have R0 : Rel S nm (callEnvC fd s.heap.objs.size f) h₁ ⟨xs.zip ds, H⟩ (bindL (callEnvC fd s.heap.objs.size f).kindOf ((xs.map nm).zip vs) fun _ => none) adr := by
          refine ⟨x.toInCall.ns, fun b o e => hk b o (hS b o e), lr0, fun y d e => ?_, sN nL, fun y c e => ⟨sN (cN y c e), _, x.cell y c e⟩, fun y z c e e' => ?_, fun y e => ?_⟩
          · obtain ⟨v, hv, hm, h1, h2⟩ := bind_get G.inj (kd := (callEnvC fd s.heap.objs.size f).kindOf) (fun _ => none) (fun _ => none) hnd hvs hlv y d e
            refine ⟨v, ?_, hv.up E0⟩
            rcases hloc y hm with h | h
            · exact .inl ⟨h, h1 h⟩
            · have hc := PySem.W.cellsFrom_some fd.scope.names (s.heap.objs.size + 1) [] (.inl h)
              obtain ⟨c, hc⟩ := Option.isSome_iff_exists.mp hc
              refine .inr ⟨h, c, hc, ?_⟩
              have := x.cell _ c hc
              rw [h2 h] at this; exact this
          · exact name_of_addr x.apart (lookup_memP e) (lookup_memP e')
          · exact Option.isSome_iff_exists.mp (PySem.W.cellsFrom_some fd.scope.names (s.heap.objs.size + 1) [] (.inl e))
        have he : EnvOK (callEnvC fd s.heap.objs.size f) fd.scope := ⟨rfl, hkd, hg, hbl⟩
        have hA' : ActOK k (A.deeper (callEnvC fd s.heap.objs.size f)) := ⟨hA.handled, by have := hA.depth; show A.depth + 1 + k < _; omega, by have := hA.units; show A.units + 3 + 8 * k + 50 < _; omega⟩
        refine hb.ok _ _ _ (.ret v) σ' _ _ adr _ _ he hA' q R0 fun f' h' tk' m' adr' R' E' V' => ?_
        cases V' with
        | ret V =>
          have E1 : Ext adr s.heap adr' h' := by
            refine ⟨?_, fun b o e n => E'.keep b o (hk b o e) n (fun q => ?_) fun x c hc q => ?_, fun a vs t => E'.tup a vs (E0.tup a vs t), E'.nd⟩
            · obtain ⟨ex, e, hex⟩ := E'.pre
              refine ⟨ex, e, fun a ha => ?_⟩
              cases q : s.heap.get? a with
              | none => rfl
              | some o => have := hex a ha; simp only at this; rw [hk a o q] at this; cases this
            · rw [q] at e
              have : (callEnvC fd s.heap.objs.size f).locals = s.heap.objs.size := rfl
              rw [this, nL] at e; cases e
            · rw [q, cN x c hc] at e; cases e
          exact ret _ h' tk' adr' R'.lr E1 V
    · cases hd
  · cases hd

/-! int(..) of an int; a type's call with one argument -/
theorem SndE.callT (G : Gl S nm mg mb) {id : Str} {b : String} {e : Expr} {d : EX} {f : DV → DH → Option (DV × DH)} {p pos : Pos} (hn : BName sc mg id (.type b)) (h : SndE prog w S nm sc k e d) (hs : ∀ env, starEach [e] env = [(false, eval e env)])
    (hf : Op1 prog w S nm k (fun v => PySem.call (.type b) [v]) f) : SndE prog w S nm sc k (.Call (.Name id p) [e] [] pos) (map1 d f) := by
  constructor
  intro env A σ v H' s m adr Q E he hA hd R ret
  unfold map1 at hd
  split at hd
  · cases hd
  · rename_i v0 H0 q
    refine Call_Name1 ?_ (hs env)
    refine nameB G he R hn.kind hn.dbg hn.miss hn.main hn.val ?_
    refine _root_.PySem.callWith_type1 (h.ok env A σ v0 H0 s m adr _ E he hA q R fun v' h' tk' adr' R' E' V' => ?_)
    exact hf.ok env sc A ⟨σ.vars, H0⟩ v0 v H' _ m adr' v' Q E he hA hd R' V' (ret.up E')
noncomputable def fInt : DV → DH → Option (DV × DH)
  | .int a, H => some (.int a, H)
  | _, _ => none
theorem op_int : Op1 prog w S nm k (fun v => call (.type "int") [v]) fInt := by
  constructor
  intro env sc A σ a v H' s m adr a' Q E he hA hf R ha ret
  unfold fInt at hf
  split at hf
  · cases hf; obtain ⟨_, rfl⟩ := ha.int_inv
    exact call_int_int (ret _ _ s.toks adr R (.refl R.lr.nodup _) (.int _ _))
  · cases hf

/-! «not in» a list of plain data -/
noncomputable def plainB : Nat → DV → Bool
  | _, .bool _ => true
  | _, .int _ => true
  | n + 1, .tup ds => ds.all (plainB n)
  | _, _ => false
theorem plain_of : ∀ (n : Nat) (d : DV), plainB n d = true → Plain d
  | 0, .bool b, _ => .bool b
  | n + 1, .bool b, _ => .bool b
  | 0, .int b, _ => .int b
  | n + 1, .int b, _ => .int b
  | n + 1, .tup ds, h => by
    have all : ∀ ds : List DV, (∀ d ∈ ds, plainB n d = true) → Plains ds := fun ds => by
      induction ds with
      | nil => exact fun _ => .nil
      | cons d ds ih => exact fun h => .cons (plain_of n d (h d (by simp))) (ih fun d' hd => h d' (by simp [hd]))
    exact .tup (all ds (by simpa [plainB] using h))
  | 0, .tup ds, h => by simp [plainB] at h
  | 0, .none, h => by simp [plainB] at h
  | n + 1, .none, h => by simp [plainB] at h
  | 0, .ext _, h => by simp [plainB] at h
  | n + 1, .ext _, h => by simp [plainB] at h
  | 0, .ref _, h => by simp [plainB] at h
  | n + 1, .ref _, h => by simp [plainB] at h
noncomputable def anyEq (x : DV) : List DV → Option Bool
  | [] => some false
  | d :: r => if plainB 4 d then (match peq 8 d x, anyEq x r with
    | some a, some b => some (a || b)
    | _, _ => none) else none
noncomputable def fNotIn : DV → DV → DH → Option (DV × DH)
  | x, .ref l, H => match H[l]? with
    | some ds => (anyEq x ds).map fun b => (.bool (!b), H)
    | none => none
  | _, _, _ => none
theorem op_notIn : Op2 prog w S nm k (fun a b => compareOp .NotIn a b) fNotIn := by
  constructor
  intro env sc A σ a b v H' s m adr a' b' Q E he hA hf R ha hb ret
  cases b with
  | ref l =>
    unfold fNotIn at hf
    dsimp only at hf
    split at hf
    · rename_i ds q
      obtain ⟨c, q1, e⟩ := Option.map_eq_some_iff.mp hf
      cases e
      obtain ⟨t, vs, rfl, hl, hv, _⟩ := getL R.lr hb q
      have hu : A.units + 20 < cLine := by have := hA.units; omega
      let e : Value → Bool := fun y => @decide (∃ d, Plain d ∧ VR S s.heap adr y d ∧ peq 8 d a = some true) (Classical.propDecidable _)
      have key : ∀ {ds : List DV} {vs : List Value} {c : Bool}, VRs S s.heap adr vs ds → anyEq a ds = some c → (∀ y ∈ vs, EqAt A.in1 s y a' (e y)) ∧ vs.any e = c := by
        intro ds
        induction ds with
        | nil => intro vs c hv h; cases hv; cases h; exact ⟨(fun _ h => nomatch h), rfl⟩
        | cons d r ih =>
          intro vs c hv h
          cases hv with
          | @cons y us _ _ h1 h2 =>
            unfold anyEq at h
            split at h
            · rename_i hp
              split at h
              · rename_i x1 x2 p1 p2
                cases h
                obtain ⟨i1, i2⟩ := ih h2 p2
                have hpl := plain_of _ _ hp
                have ey : e y = x1 := by
                  cases x1 with
                  | true => exact @decide_eq_true _ (Classical.propDecidable _) ⟨d, hpl, h1, p1⟩
                  | false =>
                    refine @decide_eq_false _ (Classical.propDecidable _) ?_
                    rintro ⟨d', hp', h', p'⟩
                    have := VR.det hpl hp' h1 h'
                    subst this
                    rw [p1] at p'; cases p'
                refine ⟨fun z hz => ?_, by rw [List.any_cons, i2, ey]⟩
                rcases List.mem_cons.mp hz with rfl | hz
                · rw [ey]; exact eqAt_of 8 A.in1 (by show A.units + 1 + 8 < cLine; omega) h1 ha p1
                · exact i1 z hz
              · cases h
            · cases h
      obtain ⟨k1, k2⟩ := key hv q1
      refine notIn_listAt e hl (fun y hy => k1 y (by simpa using hy)) ?_
      have e2 : vs.toArray.any e = c := by rw [← k2]; simp
      rw [e2]
      exact ret _ _ s.toks adr R (.refl R.lr.nodup _) (.bool _)
    · cases hf
  | none => cases hf
  | bool _ => cases hf
  | int _ => cases hf
  | tup _ => cases hf
  | ext _ => cases hf
end
end Mine
end
section
set_option maxRecDepth 100000
namespace Mine
open PySem PySem.Calls PyProof.Rows PySem.SeqAt

/-! short names for leaves -/
noncomputable def cE (v : DV) : EX := fun σ => some (v, σ.heap)
noncomputable def cT (b : Bool) : TX := fun σ => some (b, σ.heap)
noncomputable def notT (d : TX) : TX := fun σ => match d σ with
  | none => none
  | some (b, H) => some (!b, H)
noncomputable def andT (d1 d2 : TX) : TX := fun σ => match d1 σ with
  | none => none
  | some (false, H) => some (false, H)
  | some (true, H) => d2 ⟨σ.vars, H⟩

section
variable {prog : Program} {w : World} {S : Heap} {nm : Nat → Str} {mg mb : Str → Option Value} {sc : Scope} {k : Nat}
theorem SndE.cI {i : Int} {kd : Nat} {pos : Pos} : SndE prog w S nm sc k (.Constant (.int i) kd pos) (cE (.int i)) := SndE.intC
theorem SndE.cB {b : Bool} {kd : Nat} {pos : Pos} : SndE prog w S nm sc k (.Constant (.bool b) kd pos) (cE (.bool b)) := SndE.boolC
theorem SndE.cN {kd : Nat} {pos : Pos} : SndE prog w S nm sc k (.Constant .none kd pos) (cE .none) := SndE.noneC
theorem SndT.cB {b : Bool} {kd : Nat} {pos : Pos} : SndT prog w S nm sc k (.Constant (.bool b) kd pos) (cT b) := SndT.boolC
theorem SndT.notT {d : TX} {e : Expr} {pos : Pos} (h : SndT prog w S nm sc k e d) : SndT prog w S nm sc k (.UnaryOp .Not e pos) (notT d) := by
  constructor
  intro env A σ b H' s m adr Q E he hA hd R ret
  unfold Mine.notT at hd
  split at hd
  · cases hd
  · rename_i b0 H0 q
    cases hd
    exact isTrue_not (h.ok env A σ b0 _ s m adr _ E he hA q R fun h' tk' adr' R' E' => ret h' tk' adr' R' E')
theorem SndT.and2 {d1 d2 : TX} {e1 e2 : Expr} {pos : Pos} (h1 : SndT prog w S nm sc k e1 d1) (h2 : SndT prog w S nm sc k e2 d2) : SndT prog w S nm sc k (.BoolOp .And [e1, e2] pos) (andT d1 d2) := by
  constructor
  intro env A σ b H' s m adr Q E he hA hd R ret
  unfold andT at hd
  refine isTrue_and ?_
  split at hd
  · cases hd
  · rename_i H q
    cases hd
    refine h1.ok env A σ false _ s m adr _ E he hA q R fun h' tk' adr' R' E' => ?_
    rw [if_neg (by simp)]; exact ret h' tk' adr' R' E'
  · rename_i H q
    refine h1.ok env A σ true H s m adr _ E he hA q R fun h' tk' adr' R' E' => ?_
    rw [if_pos rfl]
    refine isTrue_and ?_
    refine h2.ok env A ⟨σ.vars, H⟩ b H' _ m adr' _ E he hA hd R' fun h'' tk'' adr'' R'' E'' => ?_
    have r := ret h'' tk'' adr'' R'' (E'.trans E'')
    cases b with
    | true => rw [if_pos rfl]; exact isTrue_and_nil r
    | false => rw [if_neg (by simp)]; exact r

/-- the name stands for a def of the text's that g tells -/
noncomputable def FnOK (prog : Program) (w : World) (S : Heap) (mg : Str → Option Value) (k : Nat) (name : Str) (g : FX) : Prop :=
  ∃ f o fd, mg name = some (.ref f) ∧ S.get? f = some o ∧ o.data = .func fd ∧ FunOK prog w S k f g
theorem FnOK.mono {k k' : Nat} {name : Str} {g : FX} (h : FnOK prog w S mg k name g) (hk : k ≤ k') : FnOK prog w S mg k' name g := by
  obtain ⟨f, o, fd, a, b, c, d⟩ := h
  exact ⟨f, o, fd, a, b, c, d.mono hk⟩
theorem FnOK.of {k : Nat} {name : Str} {g g' : FX} (h : FnOK prog w S mg k name g) (hg : ∀ ds H v H', g' ds H = some (v, H') → g ds H = some (v, H')) : FnOK prog w S mg k name g' := by
  obtain ⟨f, o, fd, a, b, c, d⟩ := h
  exact ⟨f, o, fd, a, b, c, d.of hg⟩
theorem SndE.callF (G : Gl S nm mg mb) {id : Str} {e : Expr} {es : List Expr} {a : AX} {g : FX} {p pos : Pos} {name : Str} (hf : FnOK prog w S mg k name g) (hid : name = id) (hk : sc.names.lookup id = some .globalImplicit) (hb : (id == ("__debug__" : Str)) = false)
    (ha : SndA prog w S nm sc k (e :: es) a) (hs : ∀ env, starEach (e :: es) env = (false, eval e env) :: starEach es env) : SndE prog w S nm sc k (.Call (.Name id p) (e :: es) [] pos) (callE a g) := by
  subst hid
  obtain ⟨f, o, fd, h1, h2, h3, h4⟩ := hf
  exact SndE.call G ⟨hk, hb, h1⟩ h2 h3 ha h4 hs

noncomputable def DefAt (S : Heap) (mg : Str → Option Value) (d : DefRec) : Prop :=
  ∃ a o pm code doc, mg d.name = some (.ref a) ∧ S.get? a = some o ∧ o.data = .func (docDef d.name d.params d.body d.scope pm code doc) ∧ S.CodeRec code d.name
theorem FnOK.def (G : Gl S nm mg mb) {d : DefRec} {xs : List Nat} {b : SX} (hd : DefAt S mg d) (hbind : ∀ pm code doc (vs : List Value), vs.length = xs.length → bindArgs (docDef d.name d.params d.body d.scope pm code doc) ⟨vs, []⟩ = pure ((xs.map nm).zip vs))
    (hnd : xs.Nodup) (hloc : ∀ x ∈ xs, d.scope.names.lookup (nm x) = some .local ∨ d.scope.names.lookup (nm x) = some .cell) (hco : d.scope.isCoroutine = false) (hgen : d.scope.isGenerator = false) (hkd : d.scope.kind = .function)
    (hb : SndB prog w S nm d.scope k d.body b) : FnOK prog w S mg (k + 1) d.name (funD xs b) := by
  obtain ⟨a, o, pm, code, doc, h1, h2, h3, h4⟩ := hd
  exact ⟨a, o, _, h1, h2, h3, FunOK.defC G h2 h3 h4 rfl rfl rfl rfl (hbind pm code doc) hnd hloc hco hgen hkd hb⟩

/-- swapped stores, at every frame of the scope's -/
theorem sw_of {targets : List Expr} {value : Expr} {r : Option (List Str)} (h : ∀ L g c q f cd fr b, swappedStores targets value ⟨sc, L, g, c, q, f, cd, fr, b⟩ = pure r) : ∀ env, EnvOK env sc → swappedStores targets value env = pure r := by
  intro env he
  obtain ⟨sc', L, g, c, q, f, cd, fr, b⟩ := env
  obtain ⟨e, _, _, _⟩ := he
  simp only at e
  subst e
  exact h L g c q f cd fr b
theorem swc_of {value : Expr} {t : Option Expr} {line : Nat} {r : Bool} (h : ∀ L g c q f cd fr b, swapsWith value t line ⟨sc, L, g, c, q, f, cd, fr, b⟩ = pure r) : ∀ env, EnvOK env sc → swapsWith value t line env = pure r := by
  intro env he
  obtain ⟨sc', L, g, c, q, f, cd, fr, b⟩ := env
  obtain ⟨e, _, _, _⟩ := he
  simp only at e
  subst e
  exact h L g c q f cd fr b
end
end Mine
end
section
set_option maxRecDepth 100000
namespace Mine
open PySem PySem.Calls PyProof.Rows PySem.SeqAt

/-! a call seen on a small heap of its own: only its arguments' lists, only its result's list -/
mutual
noncomputable def bq : DV → DV → Bool
  | .none, .none => true
  | .bool a, .bool b => a == b
  | .int a, .int b => a == b
  | .tup a, .tup b => bqs a b
  | _, _ => false
noncomputable def bqs : List DV → List DV → Bool
  | [], [] => true
  | a :: r, b :: q => bq a b && bqs r q
  | _, _ => false
end
mutual
noncomputable def flat : DV → Bool
  | .none => true
  | .bool _ => true
  | .int _ => true
  | .tup ds => flats ds
  | _ => false
noncomputable def flats : List DV → Bool
  | [] => true
  | d :: ds => flat d && flats ds
end
mutual
theorem bq_eq : ∀ {a b : DV}, bq a b = true → a = b
  | .none, b, h => by cases b <;> simp_all [bq]
  | .bool x, b, h => by cases b <;> simp_all [bq]
  | .int x, b, h => by cases b <;> simp_all [bq]
  | .tup x, b, h => by
    cases b with
    | tup y => rw [bqs_eq (a := x) (b := y) (by simpa [bq] using h)]
    | _ => simp [bq] at h
  | .ext x, b, h => by cases b <;> simp [bq] at h
  | .ref x, b, h => by cases b <;> simp [bq] at h
theorem bqs_eq : ∀ {a b : List DV}, bqs a b = true → a = b
  | [], b, h => by cases b <;> simp_all [bqs]
  | x :: r, b, h => by
    cases b with
    | nil => simp [bqs] at h
    | cons y q =>
      simp only [bqs, Bool.and_eq_true] at h
      rw [bq_eq h.1, bqs_eq h.2]
end
section
variable {S h : Heap}
mutual
theorem VR.flat : ∀ {v : Value} {d : DV} {adr : List Addr} (adr' : List Addr), flat d = true → VR S h adr v d → VR S h adr' v d
  | _, _, _, _, _, .none => .none
  | _, _, _, _, _, .bool b => .bool b
  | _, _, _, _, _, .int i t => .int i t
  | _, _, _, a', f, .tup x r => .tup x (VRs.flat a' (by simpa [Mine.flat] using f) r)
  | _, _, _, _, f, .ext _ _ => by simp [Mine.flat] at f
  | _, _, _, _, f, .ref _ => by simp [Mine.flat] at f
theorem VRs.flat : ∀ {v : List Value} {d : List DV} {adr : List Addr} (adr' : List Addr), flats d = true → VRs S h adr v d → VRs S h adr' v d
  | _, _, _, _, _, .nil => .nil
  | _, _, _, a', f, .cons x r => by
    simp only [Mine.flats, Bool.and_eq_true] at f
    exact .cons (VR.flat a' f.1 x) (VRs.flat a' f.2 r)
end
end

/-- the arguments on a small heap: is: the places of their lists, kept apart -/
noncomputable def pick : List DV → DH → List Nat → Option (List DV × List Nat)
  | [], _, is => some ([], is)
  | .ref i :: ds, H, is => match H[i]? with
    | none => none
    | some xs => if flats xs && !is.contains i then match pick ds H (is ++ [i]) with
      | none => none
      | some (es, js) => some (.ref is.length :: es, js) else none
  | d :: ds, H, is => if flat d then match pick ds H is with
      | none => none
      | some (es, js) => some (d :: es, js) else none
noncomputable def bqq : List (List DV) → List (List DV) → Bool
  | [], [] => true
  | a :: r, b :: q => bqs a b && bqq r q
  | _, _ => false
/-- what a call gives on a small heap: a plain value, or a list of its own -/
noncomputable def fin (n : Nat) (H1 : DH) : DV → Option (DV × Option (List DV))
  | .ref j => (H1[j]?).bind fun ys => if flats ys && decide (n ≤ j) then some (.none, some ys) else none
  | v => if flat v then some (v, none) else none
noncomputable def out (g : FX) (es : List DV) (Hs : DH) : Option (DV × Option (List DV)) := (g es Hs).bind fun p => if bqq (p.2.take Hs.length) Hs then fin Hs.length p.2 p.1 else none
noncomputable def put (H : DH) : DV × Option (List DV) → DV × DH
  | (v, none) => (v, H)
  | (_, some ys) => (.ref H.length, H ++ [ys])
noncomputable def frm (g : FX) : FX := fun ds H => (pick ds H []).bind fun p => (out g p.1 (p.2.map fun i => H[i]?.getD [])).map (put H)
theorem bqq_eq : ∀ {a b : List (List DV)}, bqq a b = true → a = b
  | [], b, h => by cases b <;> simp_all [bqq]
  | x :: r, b, h => by
    cases b with
    | nil => simp [bqq] at h
    | cons y q =>
      simp only [bqq, Bool.and_eq_true] at h
      rw [bqs_eq h.1, bqq_eq h.2]

theorem fin_inv {n : Nat} {H1 : DH} {v : DV} {r : DV × Option (List DV)} (h : fin n H1 v = some r) : (r = (v, none) ∧ flat v = true) ∨ ∃ j ys, v = .ref j ∧ r = (.none, some ys) ∧ H1[j]? = some ys ∧ flats ys = true ∧ n ≤ j := by
  have plain : (if flat v then some (v, none) else none) = some r → r = (v, none) ∧ flat v = true := fun h => by
    by_cases hf : flat v = true
    · rw [if_pos hf] at h; cases h; exact ⟨rfl, hf⟩
    · rw [if_neg hf] at h; cases h
  cases v with
  | ref j =>
    obtain ⟨ys, q, h⟩ := Option.bind_eq_some_iff.mp h
    by_cases hc : (flats ys && decide (n ≤ j)) = true
    · rw [if_pos hc] at h; cases h
      rw [Bool.and_eq_true, decide_eq_true_eq] at hc
      exact .inr ⟨j, ys, rfl, rfl, q, hc⟩
    · rw [if_neg hc] at h; cases h
  | none => exact .inl (plain h)
  | bool b => exact .inl (plain h)
  | int b => exact .inl (plain h)
  | tup b => exact .inl (plain h)
  | ext b => exact .inl (plain h)
theorem frm_inv {g : FX} {ds : List DV} {H H' : DH} {v : DV} (h : frm g ds H = some (v, H')) : ∃ es is v1 H1, pick ds H [] = some (es, is) ∧ g es (is.map fun i => H[i]?.getD []) = some (v1, H1) ∧ bqq (H1.take is.length) (is.map fun i => H[i]?.getD []) = true ∧
    ((v = v1 ∧ H' = H ∧ flat v1 = true) ∨ ∃ j ys, v1 = .ref j ∧ v = .ref H.length ∧ H' = H ++ [ys] ∧ H1[j]? = some ys ∧ flats ys = true ∧ is.length ≤ j) := by
  obtain ⟨⟨es, is⟩, q, h⟩ := Option.bind_eq_some_iff.mp h
  obtain ⟨r, ho, e⟩ := Option.map_eq_some_iff.mp h
  obtain ⟨⟨v1, H1⟩, q1, ho⟩ := Option.bind_eq_some_iff.mp ho
  rw [List.length_map] at ho
  by_cases hb : bqq (H1.take is.length) (is.map fun i => H[i]?.getD []) = true
  · rw [if_pos hb] at ho
    refine ⟨es, is, v1, H1, q, q1, hb, ?_⟩
    rcases fin_inv ho with ⟨rfl, hf⟩ | ⟨j, ys, rfl, rfl, hj, hy, hn⟩
    · cases e; exact .inl ⟨rfl, rfl, hf⟩
    · cases e; exact .inr ⟨j, ys, rfl, rfl, rfl, hj, hy, hn⟩
  · rw [if_neg hb] at ho; cases ho
section
variable {prog : Program} {w : World} {S : Heap} {k : Nat}
structure PickOK (S h : Heap) (adr : List Addr) (H : DH) (vs : List Value) (es : List DV) (is : List Nat) : Prop where
  nd : is.Nodup
  inn : ∀ i ∈ is, ∃ xs, H[i]? = some xs ∧ flats xs = true
  rel : ∀ ex, VRs S h (is.map (fun i => adr[i]?.getD 0) ++ ex) vs es
theorem pick_ok {h : Heap} {adr : List Addr} {H : DH} (lr : LR S h adr H) : ∀ {ds : List DV} {vs : List Value} {es : List DV} {is js : List Nat}, VRs S h adr vs ds → pick ds H is = some (es, js) → is.Nodup → (∀ i ∈ is, ∃ xs, H[i]? = some xs ∧ flats xs = true) →
    PickOK S h adr H vs es js ∧ ∃ ex, js = is ++ ex
  | [], vs, es, is, js, hv, hp, nd, inn => by
    cases hv
    simp only [pick, Option.some.injEq, Prod.mk.injEq] at hp
    obtain ⟨rfl, rfl⟩ := hp
    exact ⟨⟨nd, inn, fun _ => .nil⟩, [], by simp⟩
  | d :: ds, vs, es, is, js, hv, hp, nd, inn => by
    cases hv with
    | @cons v vs' _ _ hd hr =>
      have other : flat d = true → (match pick ds H is with
          | none => none
          | some (es, js) => some (d :: es, js)) = some (es, js) → PickOK S h adr H (v :: vs') es js ∧ ∃ ex, js = is ++ ex := by
        intro hf hp
        split at hp
        · cases hp
        · rename_i es' js' q
          cases hp
          obtain ⟨P, ex, e⟩ := pick_ok lr hr q nd inn
          exact ⟨⟨P.nd, P.inn, fun x => .cons (VR.flat _ hf hd) (P.rel x)⟩, ex, e⟩
      cases d with
      | ref i =>
        unfold pick at hp
        split at hp
        · cases hp
        · rename_i xs q
          split at hp
          · rename_i c
            simp only [Bool.and_eq_true, Bool.not_eq_true', List.contains_eq_mem, decide_eq_false_iff_not] at c
            split at hp
            · cases hp
            · rename_i es' js' q'
              cases hp
              have nd' : (is ++ [i]).Nodup := List.nodup_append.mpr ⟨nd, by simp, fun a ha b hb e => by
                rw [List.mem_singleton] at hb; subst hb; subst e; exact c.2 ha⟩
              obtain ⟨P, ex, e⟩ := pick_ok lr hr q' nd' (fun j hj => by
                rcases List.mem_append.mp hj with hj | hj
                · exact inn j hj
                · rw [List.mem_singleton] at hj; subst hj; exact ⟨xs, q, c.1⟩)
              refine ⟨⟨P.nd, P.inn, fun x => .cons ?_ (P.rel x)⟩, [i] ++ ex, by rw [e, List.append_assoc]⟩
              cases hd with
              | ref ha =>
                refine .ref ?_
                rw [e]
                simp [List.map_append, ha]
          · cases hp
      | none => exact other rfl (by unfold pick at hp; rw [if_pos (show flat DV.none = true from rfl)] at hp; exact hp)
      | bool b => exact other rfl (by unfold pick at hp; rw [if_pos (show flat (DV.bool b) = true from rfl)] at hp; exact hp)
      | int b => exact other rfl (by unfold pick at hp; rw [if_pos (show flat (DV.int b) = true from rfl)] at hp; exact hp)
      | ext b => unfold pick at hp; rw [if_neg (by simp [flat])] at hp; cases hp
      | tup b =>
        unfold pick at hp
        split at hp
        · rename_i c; exact other c hp
        · cases hp

theorem FunOK.frm {f : Addr} {g : FX} (hg : FunOK prog w S k f g) : FunOK prog w S k f (frm g) := by
  intro A ds vs H v H' s adr Q E hA hd hS lr hvs ret
  obtain ⟨es, is, v1, H1, q, q1, hb, fin⟩ := frm_inv hd
  obtain ⟨P, _, _⟩ := pick_ok lr hvs q List.nodup_nil (fun _ h => nomatch h)
  have hin : ∀ i ∈ is, ∃ a xs, adr[i]? = some a ∧ H[i]? = some xs ∧ flats xs = true := fun i hi => by
    obtain ⟨xs, e, f⟩ := P.inn i hi
    have hl : i < adr.length := by rw [lr.len]; exact (List.getElem?_eq_some_iff.mp e).1
    exact ⟨adr[i], xs, List.getElem?_eq_getElem hl, e, f⟩
  have key : ∀ (i : Nat) (a : Addr) (xs : List DV), (is.map fun i => adr[i]?.getD 0)[i]? = some a → (is.map fun i => H[i]?.getD [])[i]? = some xs → ∃ m : Nat, m ∈ is ∧ adr[m]? = some a ∧ H[m]? = some xs ∧ flats xs = true := by
    intro i a xs e1 e2
    rw [List.getElem?_map] at e1 e2
    obtain ⟨m, hm, e⟩ := Option.map_eq_some_iff.mp e1
    rw [hm] at e2
    obtain ⟨a', xs', h1, h2, h3⟩ := hin m (List.mem_of_getElem? hm)
    rw [h1] at e; rw [Option.map_some, h2] at e2
    simp only [Option.getD_some] at e e2
    simp only [Option.getD_some, Option.some.injEq] at e2
    exact ⟨m, List.mem_of_getElem? hm, by rw [h1, e], by rw [h2, e2], e2 ▸ h3⟩
  have hmem : ∀ a ∈ (is.map fun i => adr[i]?.getD 0), a ∈ adr := fun a ha => by
    obtain ⟨i, hi, e⟩ := List.mem_map.mp ha
    obtain ⟨a', xs', h1, h2, h3⟩ := hin i hi
    rw [h1] at e; subst e; exact List.mem_of_getElem? h1
  have ndm : (is.map fun i => adr[i]?.getD 0).Nodup := by
    refine List.pairwise_map.mpr (P.nd.imp_of_mem fun {i j} hi hj hne e => hne ?_)
    obtain ⟨a, _, h1, _, _⟩ := hin i hi
    obtain ⟨b, _, h2, _, _⟩ := hin j hj
    rw [h1, h2] at e
    simp only [Option.getD_some] at e
    subst e
    have l1 := List.getElem?_eq_some_iff.mp h1
    have l2 := List.getElem?_eq_some_iff.mp h2
    exact (List.getElem_inj lr.nodup).mp (l1.2.trans l2.2.symm)
  have lr0 : LR S s.heap (is.map fun i => adr[i]?.getD 0) (is.map fun i => H[i]?.getD []) := by
    refine ⟨by simp, fun i a xs e1 e2 => ?_, ndm, fun a ha => lr.own a (hmem a ha)⟩
    obtain ⟨m, _, h1, h2, h3⟩ := key i a xs e1 e2
    obtain ⟨us, p, r⟩ := lr.at_ m a xs h1 h2
    exact ⟨us, p, VRs.flat _ h3 r⟩
  refine hg A es vs _ v1 H1 s _ Q E hA q1 hS lr0 (by simpa using P.rel []) fun v' h' tk' adr' lr' E' V' => ?_
  obtain ⟨ex, rfl, fresh⟩ := E'.pre
  -- the old lists
  have hlen : (is.map fun i => adr[i]?.getD 0).length = is.length := by simp
  have old : ∀ (i : Nat) (a : Addr) (xs : List DV), adr[i]? = some a → H[i]? = some xs → ∃ us : List Value, h'.PlainList a us.toArray ∧ VRs S h' adr us xs := by
    intro i a xs e1 e2
    by_cases hm : a ∈ (is.map fun i => adr[i]?.getD 0)
    · obtain ⟨n, hn, e⟩ := List.getElem_of_mem hm
      have hn' : n < is.length := by simpa using hn
      have e3 : (is.map fun i => adr[i]?.getD 0)[n]? = some a := by rw [List.getElem?_eq_getElem hn, e]
      have e4 : (is.map fun i => H[i]?.getD [])[n]? = some ((is.map fun i => H[i]?.getD [])[n]'(by simpa using hn')) := List.getElem?_eq_getElem _
      obtain ⟨m, hmi, h1, h2, h3⟩ := key n a _ e3 e4
      have : m = i := by
        have l1 := List.getElem?_eq_some_iff.mp h1
        have l2 := List.getElem?_eq_some_iff.mp e1
        exact (List.getElem_inj lr.nodup).mp (l1.2.trans l2.2.symm)
      subst this
      rw [e2] at h2; injection h2 with h2
      rw [← h2] at e4 h3
      have e5 : H1[n]? = some xs := by
        have := congrArg (fun l => l[n]?) (bqq_eq hb)
        simp only [List.getElem?_take, hn', if_true] at this
        rw [this]; exact e4
      obtain ⟨us, p, r⟩ := lr'.at_ n a xs (by rw [List.getElem?_append_left hn]; exact e3) e5
      exact ⟨us, p, VRs.flat _ h3 r⟩
    · obtain ⟨us, ⟨n, ho⟩, r⟩ := lr.at_ i a xs e1 e2
      exact ⟨us, ⟨n, E'.keep _ _ ho hm⟩, r.mono E'.tup fun _ _ e => e⟩
  have live : ∀ a ∈ adr, s.heap.get? a ≠ none := fun a ha e => by
    obtain ⟨i, hi, rfl⟩ := List.getElem_of_mem ha
    obtain ⟨us, ⟨n, ho⟩, r⟩ := lr.at_ i _ (H[i]'(lr.len ▸ hi)) (List.getElem?_eq_getElem hi) (List.getElem?_eq_getElem (lr.len ▸ hi))
    rw [ho] at e; cases e
  have keepE : ∀ b o, s.heap.get? b = some o → b ∉ adr → h'.get? b = some o := fun b o e hn => E'.keep b o e fun hm => hn (hmem b hm)
  rcases fin with ⟨rfl, rfl, c⟩ | ⟨j, ys, rfl, rfl, rfl, qy, c⟩
  rotate_left
  · have c : flats ys = true ∧ is.length ≤ j := c
    cases V' with
    | @ref a _ ha =>
      rw [List.getElem?_append_right (by rw [hlen]; exact c.2)] at ha
      have hax : a ∈ ex := List.mem_of_getElem? ha
      have nda : a ∉ adr := fun hm => live a hm (fresh a hax)
      have nd2 : (adr ++ [a]).Nodup := List.nodup_append.mpr ⟨lr.nodup, by simp, fun x hx y hy e => by
        rw [List.mem_singleton] at hy; subst hy; subst e; exact nda hx⟩
      have up : ∀ (i : Nat) (b : Addr), adr[i]? = some b → (adr ++ [a])[i]? = some b := fun i b e => by
        rw [List.getElem?_append_left (List.getElem?_eq_some_iff.mp e).1]; exact e
      refine ret _ h' tk' (adr ++ [a]) ⟨by simp [lr.len], fun i b xs e1 e2 => ?_, nd2, fun b hb => ?_⟩ ⟨⟨[a], rfl, fun b hb => by rw [List.mem_singleton] at hb; subst hb; exact fresh _ hax⟩, keepE, E'.tup, nd2⟩ (.ref (by rw [← lr.len]; simp))
      · by_cases hi : i < adr.length
        · rw [List.getElem?_append_left hi] at e1
          rw [List.getElem?_append_left (lr.len ▸ hi)] at e2
          obtain ⟨us, p, r⟩ := old i b xs e1 e2
          exact ⟨us, p, r.mono (fun _ _ x => x) up⟩
        · have hi' : i = adr.length := by
            have := (List.getElem?_eq_some_iff.mp e1).1
            simp at this; omega
          subst hi'
          simp at e1; subst e1
          rw [lr.len] at e2
          simp at e2; subst e2
          obtain ⟨us, p, r⟩ := lr'.at_ j a ys (by rw [List.getElem?_append_right (by rw [hlen]; exact c.2)]; exact ha) qy
          exact ⟨us, p, VRs.flat _ c.1 r⟩
      · rcases List.mem_append.mp hb with hb | hb
        · exact lr.own b hb
        · rw [List.mem_singleton] at hb; subst hb
          exact lr'.own _ (List.mem_append_right _ hax)
  · exact ret _ h' tk' adr ⟨lr.len, old, lr.nodup, lr.own⟩ ⟨⟨[], by simp, by simp⟩, keepE, E'.tup, lr.nodup⟩ (VR.flat _ c V')
theorem FnOK.frm {mg : Str → Option Value} {name : Str} {g : FX} (h : FnOK prog w S mg k name g) : FnOK prog w S mg k name (frm g) := by
  obtain ⟨f, o, fd, a, b, c, d⟩ := h
  exact ⟨f, o, fd, a, b, c, d.frm⟩
end
end Mine
end
section
set_option maxRecDepth 100000
namespace Mine
/-! plain functions on whole numbers for the program's small defs -/
noncomputable def absN (a : Int) : Int := if a < 0 then -a else a
noncomputable def gcdN : Nat → Int → Int → Option Int
  | 0, _, _ => none
  | n + 1, a, b => if b = 0 then some a else gcdN n b (a.fmod b)
noncomputable def ratN (t b : Int) : Option (Int × Int) := if b = 0 then none else match gcdN 100 (absN t) (absN b) with
  | none => none
  | some g => if 0 < b then (if g ≠ 0 ∧ smallI g then some (t.fdiv g, b.fdiv g) else none) else (if 0 - g ≠ 0 ∧ smallI (0 - g) then some (t.fdiv (0 - g), b.fdiv (0 - g)) else none)
noncomputable def rsubN (a b c d : Int) : Option (Int × Int) := if smallI a ∧ smallI c ∧ smallI b then ratN (a * d - c * b) (b * d) else none
noncomputable def rcmpN (a b c d : Int) : Option Int := if smallI a ∧ smallI c then some (b2 (decide (0 < a * d - c * b)) - b2 (decide (a * d - c * b < 0))) else none
noncomputable def floorN (a b : Int) : Option Int := if b ≠ 0 ∧ smallI b then some (a.fdiv b) else none
noncomputable def rowN : Nat → Int → Int → List Int → Option (List Int)
  | 0, _, _, _ => none
  | n + 1, a, b, acc => match floorN a b with
    | none => none
    | some q => match rsubN a b q 1 with
      | none => none
      | some (c, d) => if acc.length ≤ 1000000 then (if c = 0 then some (acc ++ [q]) else match ratN d c with
        | none => none
        | some (e, f) => rowN n e f (acc ++ [q])) else none
noncomputable def distN (a b c d : Int) : Option (Int × Int) := match rsubN a b c d with
  | none => none
  | some (x, y) => some (absN x, y)
noncomputable def nearN (a b c d e f : Int) : Option (Int × Int) := match distN a b c d with
  | none => none
  | some (x, y) => match distN a b e f with
    | none => none
    | some (z, u) => match rcmpN x y z u with
      | none => none
      | some k => if k = 0 then (if d ≤ f then some (c, d) else some (e, f)) else if k < 0 then some (c, d) else some (e, f)
/-- the loop of best_approximation: (before, here) -/
noncomputable def bestGo (m : Int) : List Int → Int → Int → Int → Int → Option (Int × Int × Int × Int)
  | [], a, b, c, d => some (a, b, c, d)
  | q :: r, a, b, c, d => if smallI q then (if m < q * d + b then some (a, b, c, d) else bestGo m r c d (q * c + a) (q * d + b)) else none
noncomputable def bestN (a b m : Int) : Option (Int × Int × List Int) := if m < 1 then none else if b ≤ m then none else match rowN 100 a b [] with
  | none => none
  | some row => if row.length < 100 then match bestGo m row 0 1 1 0 with
    | none => none
    | some (x, y, z, u) => if u ≠ 0 ∧ smallI u then
        (if smallI ((m - y).fdiv u) then
          (if 0 < y + (m - y).fdiv u * u then match nearN a b z u (x + (m - y).fdiv u * z) (y + (m - y).fdiv u * u) with
            | none => none
            | some (g, h) => some (g, h, row) else some (z, u, row)) else none) else none
    else none

/-! plain functions as functions on argument lists -/
noncomputable def asI : DV → Option Int
  | .int a => some a
  | _ => none
noncomputable def two : List DV → Option (DV × DV)
  | [x, y] => some (x, y)
  | _ => none
noncomputable def asP : DV → Option (Int × Int)
  | .tup ds => (two ds).bind fun p => (asI p.1).bind fun a => (asI p.2).bind fun b => some (a, b)
  | _ => none
theorem asI_eq {d : DV} {a : Int} (h : asI d = some a) : d = .int a := by
  cases d with
  | int b => cases h; rfl
  | _ => cases h
theorem two_eq {ds : List DV} {p : DV × DV} (h : two ds = some p) : ds = [p.1, p.2] := by
  rcases ds with _ | ⟨x, _ | ⟨y, _ | ⟨z, ds⟩⟩⟩
  · cases h
  · cases h
  · cases h; rfl
  · cases h
theorem asP_eq {d : DV} {p : Int × Int} (h : asP d = some p) : d = .tup [.int p.1, .int p.2] := by
  cases d with
  | tup ds =>
    obtain ⟨q, h1, h⟩ := Option.bind_eq_some_iff.mp h
    obtain ⟨a, h2, h⟩ := Option.bind_eq_some_iff.mp h
    obtain ⟨b, h3, h⟩ := Option.bind_eq_some_iff.mp h
    cases h
    rw [two_eq h1, asI_eq h2, asI_eq h3]
  | _ => cases h
abbrev NR := Option (DV × DH)
noncomputable def fII (f : Int → Int → DH → NR) : FX := fun ds H => (two ds).bind fun p => (asI p.1).bind fun a => (asI p.2).bind fun b => f a b H
noncomputable def fP (f : Int → Int → DH → NR) : FX := fun ds H => match ds with
  | [x] => (asP x).bind fun p => f p.1 p.2 H
  | _ => none
noncomputable def fPP (f : Int → Int → Int → Int → DH → NR) : FX := fun ds H => (two ds).bind fun p => (asP p.1).bind fun a => (asP p.2).bind fun b => f a.1 a.2 b.1 b.2 H
noncomputable def fPI (f : Int → Int → Int → DH → NR) : FX := fun ds H => (two ds).bind fun p => (asP p.1).bind fun a => (asI p.2).bind fun b => f a.1 a.2 b H
noncomputable def fPPP (f : Int → Int → Int → Int → Int → Int → DH → NR) : FX := fun ds H => match ds with
  | x :: ds => (asP x).bind fun a => fPP (f a.1 a.2) ds H
  | _ => none
theorem fII_inv {f ds H r} (h : fII f ds H = some r) : ∃ a b, ds = [.int a, .int b] ∧ f a b H = some r := by
  obtain ⟨p, h1, h⟩ := Option.bind_eq_some_iff.mp h
  obtain ⟨a, h2, h⟩ := Option.bind_eq_some_iff.mp h
  obtain ⟨b, h3, h⟩ := Option.bind_eq_some_iff.mp h
  exact ⟨a, b, by rw [two_eq h1, asI_eq h2, asI_eq h3], h⟩
theorem fP_inv {f ds H r} (h : fP f ds H = some r) : ∃ a b, ds = [.tup [.int a, .int b]] ∧ f a b H = some r := by
  rcases ds with _ | ⟨x, _ | ⟨y, ds⟩⟩
  · cases h
  · obtain ⟨p, h1, h⟩ := Option.bind_eq_some_iff.mp h
    exact ⟨p.1, p.2, by rw [asP_eq h1], h⟩
  · cases h
theorem fPP_inv {f ds H r} (h : fPP f ds H = some r) : ∃ a b c d, ds = [.tup [.int a, .int b], .tup [.int c, .int d]] ∧ f a b c d H = some r := by
  obtain ⟨p, h1, h⟩ := Option.bind_eq_some_iff.mp h
  obtain ⟨a, h2, h⟩ := Option.bind_eq_some_iff.mp h
  obtain ⟨b, h3, h⟩ := Option.bind_eq_some_iff.mp h
  exact ⟨a.1, a.2, b.1, b.2, by rw [two_eq h1, asP_eq h2, asP_eq h3], h⟩
theorem fPI_inv {f ds H r} (h : fPI f ds H = some r) : ∃ a b m, ds = [.tup [.int a, .int b], .int m] ∧ f a b m H = some r := by
  obtain ⟨p, h1, h⟩ := Option.bind_eq_some_iff.mp h
  obtain ⟨a, h2, h⟩ := Option.bind_eq_some_iff.mp h
  obtain ⟨b, h3, h⟩ := Option.bind_eq_some_iff.mp h
  exact ⟨a.1, a.2, b, by rw [two_eq h1, asP_eq h2, asI_eq h3], h⟩
theorem fPPP_inv {f ds H r} (h : fPPP f ds H = some r) : ∃ a b c d e g, ds = [.tup [.int a, .int b], .tup [.int c, .int d], .tup [.int e, .int g]] ∧ f a b c d e g H = some r := by
  rcases ds with _ | ⟨x, ds⟩
  · cases h
  · obtain ⟨p, h1, h⟩ := Option.bind_eq_some_iff.mp h
    obtain ⟨a, b, c, d, e, h⟩ := fPP_inv h
    exact ⟨p.1, p.2, a, b, c, d, by rw [asP_eq h1, e], h⟩
noncomputable def N_gcd : FX := fII fun a b H => (gcdN 100 (absN a) (absN b)).map fun g => (.int g, H)
noncomputable def N_rat : FX := fII fun a b H => (ratN a b).map fun g => (.tup [.int g.1, .int g.2], H)
noncomputable def N_rsub : FX := fPP fun a b c d H => (rsubN a b c d).map fun g => (.tup [.int g.1, .int g.2], H)
noncomputable def N_rinv : FX := fP fun a b H => (ratN b a).map fun g => (.tup [.int g.1, .int g.2], H)
noncomputable def N_rcompare : FX := fPP fun a b c d H => (rcmpN a b c d).map fun g => (.int g, H)
noncomputable def N_rfloor : FX := fP fun a b H => (floorN a b).map fun g => (.int g, H)
noncomputable def N_fraction_row : FX := fP fun a b H => (rowN 100 a b []).map fun g => (.ref H.length, H ++ [g.map .int])
noncomputable def N_distance : FX := fPP fun a b c d H => (distN a b c d).map fun g => (.tup [.int g.1, .int g.2], H)
noncomputable def N_nearer : FX := fPPP fun a b c d e f H => (nearN a b c d e f).map fun g => (.tup [.int g.1, .int g.2], H)
noncomputable def N_best_approximation : FX := fPI fun a b m H => (bestN a b m).map fun g => (.tup [.int g.1, .int g.2.1], H ++ [g.2.2.map .int])
theorem N_gcd_at (a b : Int) (H : DH) : N_gcd [.int a, .int b] H = (gcdN 100 (absN a) (absN b)).map fun g => (.int g, H) := by rfl
theorem N_rat_at (a b : Int) (H : DH) : N_rat [.int a, .int b] H = (ratN a b).map fun g => (.tup [.int g.1, .int g.2], H) := by rfl
theorem N_rsub_at (a b c d : Int) (H : DH) : N_rsub [.tup [.int a, .int b], .tup [.int c, .int d]] H = (rsubN a b c d).map fun g => (.tup [.int g.1, .int g.2], H) := by rfl
theorem N_rinv_at (a b : Int) (H : DH) : N_rinv [.tup [.int a, .int b]] H = (ratN b a).map fun g => (.tup [.int g.1, .int g.2], H) := by rfl
theorem N_rcompare_at (a b c d : Int) (H : DH) : N_rcompare [.tup [.int a, .int b], .tup [.int c, .int d]] H = (rcmpN a b c d).map fun g => (.int g, H) := by rfl
theorem N_rfloor_at (a b : Int) (H : DH) : N_rfloor [.tup [.int a, .int b]] H = (floorN a b).map fun g => (.int g, H) := by rfl
theorem N_fraction_row_at (a b : Int) (H : DH) : N_fraction_row [.tup [.int a, .int b]] H = (rowN 100 a b []).map fun g => (.ref H.length, H ++ [g.map .int]) := by rfl
theorem N_distance_at (a b c d : Int) (H : DH) : N_distance [.tup [.int a, .int b], .tup [.int c, .int d]] H = (distN a b c d).map fun g => (.tup [.int g.1, .int g.2], H) := by rfl
theorem N_nearer_at (a b c d e f : Int) (H : DH) : N_nearer [.tup [.int a, .int b], .tup [.int c, .int d], .tup [.int e, .int f]] H = (nearN a b c d e f).map fun g => (.tup [.int g.1, .int g.2], H) := by rfl
/-- convergents: (one, other, found) -/
noncomputable def convGo : List Int → Int → Int → Int → Int → List (Int × Int) → Option (List (Int × Int))
  | [], _, _, _, _, acc => some acc
  | q :: r, a, b, c, d, acc => if smallI q then convGo r (q * a + c) (q * b + d) a b (acc ++ [if 0 ≤ q * b + d then (q * a + c, q * b + d) else (0 - (q * a + c), 0 - (q * b + d))]) else none
noncomputable def dv (r : Int × Int) : DV := .tup [.int r.1, .int r.2]
noncomputable def rowOf (H : DH) : List DV → Option (Nat × List Int)
  | [.ref i] => (H[i]?).bind fun xs => (intsOf xs).bind fun row => if row.length < 100 then some (i, row) else none
  | _ => none
noncomputable def N_convergents : FX := fun ds H => (rowOf H ds).bind fun p => (convGo p.2 1 0 0 1 []).map fun g => (.ref H.length, H ++ [g.map dv])
noncomputable def valueN (g : List (Int × Int)) : Option (Int × Int) := (g.getLast?).bind fun p => ratN p.1 p.2
noncomputable def N_fraction_value : FX := fun ds H => (rowOf H ds).bind fun p => if p.2 = [] then none else (convGo p.2 1 0 0 1 []).bind fun g => if g.length ≤ 1000000 then (valueN g).map fun v => (dv v, H ++ [g.map dv]) else none
theorem intsOf_eq : ∀ {xs : List DV} {row : List Int}, intsOf xs = some row → xs = row.map .int
  | [], _, h => by cases h; rfl
  | d :: r, row, h => by
    cases d with
    | int a =>
      obtain ⟨q, e, h⟩ := Option.map_eq_some_iff.mp h
      cases h
      rw [intsOf_eq e]; rfl
    | _ => cases h
theorem rowOf_inv {H : DH} {ds : List DV} {p : Nat × List Int} (h : rowOf H ds = some p) : ds = [.ref p.1] ∧ H[p.1]? = some (p.2.map .int) ∧ p.2.length < 100 := by
  rcases ds with _ | ⟨x, _ | ⟨y, ds⟩⟩
  · cases h
  · cases x with
    | ref i =>
      obtain ⟨xs, h1, h⟩ := Option.bind_eq_some_iff.mp h
      obtain ⟨row, h2, h⟩ := Option.bind_eq_some_iff.mp h
      by_cases hl : row.length < 100
      · rw [if_pos hl] at h
        cases h
        exact ⟨rfl, by rw [h1, intsOf_eq h2], hl⟩
      · rw [if_neg hl] at h; cases h
    | _ => cases h
  · cases x <;> cases h
/-! single steps, for small proofs -/
theorem seq2_some {d1 d2 : EX} {f : DV → DV → DH → Option (DV × DH)} {σ : DS} {a b : DV} {H1 H2 : DH} (h1 : d1 σ = some (a, H1)) (h2 : d2 ⟨σ.vars, H1⟩ = some (b, H2)) : seq2 d1 d2 f σ = f a b H2 := by
  unfold seq2; rw [h1]; show (match d2 ⟨σ.vars, H1⟩ with | none => none | some (b, H2) => f a b H2) = _; rw [h2]
theorem mul_ok {a b : Int} {H : DH} (h : smallI a = true) : fMul (.int a) (.int b) H = some (.int (a * b), H) := if_pos h
theorem ifS_t {t : TX} {a b : SX} {σ : DS} {H : DH} (h : t σ = some (true, H)) : ifS t a b σ = a ⟨σ.vars, H⟩ := by unfold ifS; rw [h]
theorem ifS_f {t : TX} {a b : SX} {σ : DS} {H : DH} (h : t σ = some (false, H)) : ifS t a b σ = b ⟨σ.vars, H⟩ := by unfold ifS; rw [h]
theorem iteE_t {t : TX} {a b : EX} {σ : DS} {H : DH} (h : t σ = some (true, H)) : iteE t a b σ = a ⟨σ.vars, H⟩ := by unfold iteE; rw [h]
theorem iteE_f {t : TX} {a b : EX} {σ : DS} {H : DH} (h : t σ = some (false, H)) : iteE t a b σ = b ⟨σ.vars, H⟩ := by unfold iteE; rw [h]
theorem asgS_some {d : EX} {g : GX} {σ σ' : DS} {v : DV} {H : DH} (h : d σ = some (v, H)) (hg : g v ⟨σ.vars, H⟩ = some σ') : asgS d g σ = some (.next, σ') := by unfold asgS; rw [h]; show (g v ⟨σ.vars, H⟩).map _ = _; rw [hg]; rfl
theorem retS_some {d : EX} {σ : DS} {v : DV} {H : DH} (h : d σ = some (v, H)) : retS d σ = some (.ret v, ⟨σ.vars, H⟩) := by unfold retS; rw [h]; rfl
theorem consB_next {a b : SX} {σ σ' : DS} (h : a σ = some (.next, σ')) : consB a b σ = b σ' := by unfold consB; rw [h]
theorem consB_ret {a b : SX} {σ σ' : DS} {v : DV} (h : a σ = some (.ret v, σ')) : consB a b σ = some (.ret v, σ') := by unfold consB; rw [h]
theorem funD_ret {xs : List Nat} {b : SX} {ds : List DV} {H : DH} {v : DV} {σ' : DS} (hl : ds.length = xs.length) (h : b ⟨xs.zip ds, H⟩ = some (.ret v, σ')) : funD xs b ds H = some (v, σ'.heap) := by
  unfold funD; rw [if_pos hl, h]
theorem funD_ex {xs : List Nat} {b : SX} {ds : List DV} {H H' : DH} {v : DV} (hl : ds.length = xs.length) (h : ∃ vs, b ⟨xs.zip ds, H⟩ = some (.ret v, ⟨vs, H'⟩)) : funD xs b ds H = some (v, H') := by
  obtain ⟨vs, h⟩ := h; exact funD_ret hl h
theorem callE_some {a : AX} {g : FX} {σ : DS} {vs : List DV} {H : DH} (h : a σ = some (vs, H)) : callE a g σ = g vs H := by unfold callE; rw [h]
theorem getE_some {x : Nat} {σ : DS} {v : DV} (h : σ.vars.lookup x = some v) : getE x σ = some (v, σ.heap) := by unfold getE; rw [h]; rfl
theorem consA_some {d : EX} {r : AX} {σ : DS} {v : DV} {vs : List DV} {H H' : DH} (h : d σ = some (v, H)) (hr : r ⟨σ.vars, H⟩ = some (vs, H')) : consA d r σ = some (v :: vs, H') := by
  unfold consA; rw [h]; show (match r ⟨σ.vars, H⟩ with | none => none | some (vs, H') => some (v :: vs, H')) = _; rw [hr]
theorem tupE_some {r : AX} {σ : DS} {vs : List DV} {H : DH} (h : r σ = some (vs, H)) (hl : vs.length ≤ 1000) : tupE r σ = some (.tup vs, H) := by
  unfold tupE; rw [h]; exact if_pos hl
theorem mod_ok {a b : Int} {H : DH} (h : b ≠ 0) : fMod (.int a) (.int b) H = some (.int (a.fmod b), H) := if_pos h
theorem div_ok {a b : Int} {H : DH} (h : b ≠ 0 ∧ smallI b) : fDiv (.int a) (.int b) H = some (.int (a.fdiv b), H) := if_pos h
theorem whileS_f {t : TX} {b : SX} {n : Nat} {σ : DS} {H : DH} (h : t σ = some (false, H)) : whileS t b (n + 1) σ = some (.next, ⟨σ.vars, H⟩) := by unfold whileS; rw [h]
theorem whileS_n {t : TX} {b : SX} {n : Nat} {σ σ' : DS} {H : DH} (h : t σ = some (true, H)) (hb : b ⟨σ.vars, H⟩ = some (.next, σ')) : whileS t b (n + 1) σ = whileS t b n σ' := by
  rw [whileS, h]; simp only [hb]
theorem whileS_r {t : TX} {b : SX} {n : Nat} {σ σ' : DS} {H : DH} {v : DV} (h : t σ = some (true, H)) (hb : b ⟨σ.vars, H⟩ = some (.ret v, σ')) : whileS t b (n + 1) σ = some (.ret v, σ') := by
  rw [whileS, h]; simp only [hb]
theorem appS_some {x l : Nat} {d : EX} {σ : DS} {v : DV} {ds : List DV} (hx : σ.vars.lookup x = some (.ref l)) (hd : d σ = some (v, σ.heap)) (hl : σ.heap[l]? = some ds) (hn : ds.length ≤ 1000000) : appS x d σ = some (.next, ⟨σ.vars, σ.heap.set l (ds ++ [v])⟩) := by
  simp only [appS, hx, hd, hl, if_pos hn]
theorem forGo_b {g : GX} {b : SX} {n : Nat} {it it' : DI} {σ σ1 σ2 : DS} {v : DV} (hi : itNext it σ.heap = some (some (v, it'))) (hg : g v σ = some σ1) (hb : b σ1 = some (.brk, σ2)) : forGo g b (n + 1) it σ = some (.next, σ2) := by simp only [forGo, hi, hg, hb]
theorem forGo_ret {g : GX} {b : SX} {n : Nat} {it it' : DI} {σ σ1 σ2 : DS} {v r : DV} (hi : itNext it σ.heap = some (some (v, it'))) (hg : g v σ = some σ1) (hb : b σ1 = some (.ret r, σ2)) : forGo g b (n + 1) it σ = some (.ret r, σ2) := by simp only [forGo, hi, hg, hb]
theorem forGo_next {g : GX} {b : SX} {n : Nat} {it it' : DI} {σ σ1 σ2 : DS} {v : DV} (hi : itNext it σ.heap = some (some (v, it'))) (hg : g v σ = some σ1) (hb : b σ1 = some (.next, σ2)) : forGo g b (n + 1) it σ = forGo g b n it' σ2 := by simp only [forGo, hi, hg, hb]
theorem forGo_end {g : GX} {b : SX} {n : Nat} {it : DI} {σ : DS} (hi : itNext it σ.heap = some none) : forGo g b (n + 1) it σ = some (.next, σ) := by simp only [forGo, hi]
theorem last_get (H : DH) (xs : List DV) : (H ++ [xs])[H.length]? = some xs := by simp
theorem last_set (H : DH) (xs ys : List DV) : (H ++ [xs]).set H.length ys = H ++ [ys] := by simp [List.set_append_right]
theorem map1_some {d : EX} {f : DV → DH → Option (DV × DH)} {σ : DS} {a : DV} {H : DH} (h : d σ = some (a, H)) : map1 d f σ = f a H := by unfold map1; rw [h]
theorem item_ok {H : DH} {l j : Nat} {i : Int} {ds : List DV} {d : DV} (hl : H[l]? = some ds) (hn : ds.length ≤ 1000000) (hi : idx i ds.length = some j) (hd : ds[j]? = some d) : fItem (.ref l) (.int i) H = some (d, H) := by
  simp only [fItem, hl, if_pos hn, hi, Option.bind_some, hd, Option.map_some]
theorem len_ok {H : DH} {l : Nat} {ds : List DV} (hl : H[l]? = some ds) (hn : ds.length ≤ 1000000) : fLen (.ref l) H = some (.int ds.length, H) := by
  simp only [fLen, hl, if_pos hn]
theorem idx_nat {k n : Nat} (h : k < n) : idx k n = some k := by
  unfold idx
  rw [if_pos ⟨by omega, by omega⟩]; rfl
end Mine
end
section
set_option maxRecDepth 100000
namespace Mine
open PySem
noncomputable def names : List Str := [Str.ofString "a", Str.ofString "b", Str.ofString "top", Str.ofString "bottom", Str.ofString "g", Str.ofString "off", Str.ofString "r", Str.ofString "found", Str.ofString "whole", Str.ofString "row", Str.ofString "one", Str.ofString "other", Str.ofString "side", Str.ofString "most", Str.ofString "before", Str.ofString "here", Str.ofString "later", Str.ofString "many", Str.ofString "between", Str.ofString "pool", Str.ofString "spot", Str.ofString "low", Str.ofString "high", Str.ofString "turns", Str.ofString "turn", Str.ofString "at", Str.ofString "s", Str.ofString "n", Str.ofString "figure", Str.ofString "way", Str.ofString "due", Str.ofString "script", Str.ofString "cell", Str.ofString "place", Str.ofString "shared", Str.ofString "others", Str.ofString "less", Str.ofString "more"]
noncomputable def nm (i : Nat) : Str := match names[i]? with
  | some s => s
  | none => ⟨#[1114112 + i]⟩
theorem nm_small : ∀ x < 38, ∀ z < 38, nm x = nm z → x = z := by decide +kernel
theorem nm_low : ∀ x < 38, ∀ c ∈ (nm x).cps, c < 1114112 := by decide +kernel
theorem nm_big {i : Nat} (h : 38 ≤ i) : nm i = ⟨#[1114112 + i]⟩ := by
  unfold nm
  rw [List.getElem?_eq_none (by exact h)]
theorem nm_inj : ∀ x z, nm x = nm z → x = z := by
  intro x z h
  by_cases hx : x < 38
  · by_cases hz : z < 38
    · exact nm_small x hx z hz h
    · rw [nm_big (Nat.le_of_not_lt hz)] at h
      have := nm_low x hx (1114112 + z) (by rw [h]; simp)
      omega
  · by_cases hz : z < 38
    · rw [nm_big (Nat.le_of_not_lt hx)] at h
      have := nm_low z hz (1114112 + x) (by rw [← h]; simp)
      omega
    · rw [nm_big (Nat.le_of_not_lt hx), nm_big (Nat.le_of_not_lt hz)] at h
      simp at h; exact h
noncomputable def d_gcd : SX := (consB (asgS (tupE (consA (map1 (getE 0) fAbs) (consA (map1 (getE 1) fAbs) nilA))) (swG [0, 1]))
  (consB (whileS (toT (seq2 (getE 1) (cE (.int 0)) fNe)) (consB (asgS (tupE (consA (getE 1) (consA (seq2 (getE 0) (getE 1) fMod) nilA))) (swG [0, 1]))
  nilB) 100)
  (consB (retS (getE 0))
  nilB)))
noncomputable def F_gcd : FX := funD [0, 1] d_gcd
noncomputable def d_rat : SX := (consB (ifS (toT (seq2 (getE 3) (cE (.int 0)) fEq)) (consB noS
  nilB) nilB)
  (consB (asgS (iteE (toT (seq2 (getE 3) (cE (.int 0)) fGt)) (callE (consA (getE 2) (consA (getE 3) nilA)) N_gcd) (seq2 (cE (.int 0)) (callE (consA (getE 2) (consA (getE 3) nilA)) N_gcd) fSub)) (setG 4))
  (consB (retS (tupE (consA (seq2 (getE 2) (getE 4) fDiv) (consA (seq2 (getE 3) (getE 4) fDiv) nilA))))
  nilB)))
noncomputable def F_rat : FX := funD [2, 3] d_rat
noncomputable def d_rsub : SX := (consB (retS (callE (consA (seq2 (seq2 (seq2 (getE 0) (cE (.int 0)) fItem) (seq2 (getE 1) (cE (.int 1)) fItem) fMul) (seq2 (seq2 (getE 1) (cE (.int 0)) fItem) (seq2 (getE 0) (cE (.int 1)) fItem) fMul) fSub) (consA (seq2 (seq2 (getE 0) (cE (.int 1)) fItem) (seq2 (getE 1) (cE (.int 1)) fItem) fMul) nilA)) N_rat))
  nilB)
noncomputable def F_rsub : FX := funD [0, 1] d_rsub
noncomputable def d_rinv : SX := (consB (retS (callE (consA (seq2 (getE 0) (cE (.int 1)) fItem) (consA (seq2 (getE 0) (cE (.int 0)) fItem) nilA)) N_rat))
  nilB)
noncomputable def F_rinv : FX := funD [0] d_rinv
noncomputable def d_rcompare : SX := (consB (asgS (seq2 (seq2 (seq2 (getE 0) (cE (.int 0)) fItem) (seq2 (getE 1) (cE (.int 1)) fItem) fMul) (seq2 (seq2 (getE 1) (cE (.int 0)) fItem) (seq2 (getE 0) (cE (.int 1)) fItem) fMul) fSub) (setG 5))
  (consB (retS (seq2 (seq2 (getE 5) (cE (.int 0)) fGt) (seq2 (getE 5) (cE (.int 0)) fLt) fSub))
  nilB))
noncomputable def F_rcompare : FX := funD [0, 1] d_rcompare
noncomputable def d_rfloor : SX := (consB (retS (seq2 (seq2 (getE 0) (cE (.int 0)) fItem) (seq2 (getE 0) (cE (.int 1)) fItem) fDiv))
  nilB)
noncomputable def F_rfloor : FX := funD [0] d_rfloor
noncomputable def d_fraction_row : SX := (consB (asgS (lstE nilA) (setG 7))
  (consB (whileS (cT true) (consB (asgS (callE (consA (getE 6) nilA) N_rfloor) (setG 8))
  (consB (appS 7 (getE 8))
  (consB (asgS (callE (consA (getE 6) (consA (tupE (consA (getE 8) (consA (cE (.int 1)) nilA))) nilA)) N_rsub) (setG 6))
  (consB (ifS (toT (seq2 (seq2 (getE 6) (cE (.int 0)) fItem) (cE (.int 0)) fEq)) (consB (retS (getE 7))
  nilB) nilB)
  (consB (asgS (callE (consA (getE 6) nilA) N_rinv) (setG 6))
  nilB))))) 100)
  nilB))
noncomputable def F_fraction_row : FX := funD [6] d_fraction_row
noncomputable def d_convergents : SX := (consB (asgS (tupE (consA (lstE nilA) (consA (tupE (consA (cE (.int 1)) (consA (cE (.int 0)) nilA))) (consA (tupE (consA (cE (.int 0)) (consA (cE (.int 1)) nilA))) nilA)))) (swG [7, 10, 11]))
  (consB (forS (lstI (getE 9)) (setG 8) (consB (asgS (tupE (consA (tupE (consA (seq2 (seq2 (getE 8) (seq2 (getE 10) (cE (.int 0)) fItem) fMul) (seq2 (getE 11) (cE (.int 0)) fItem) fAdd) (consA (seq2 (seq2 (getE 8) (seq2 (getE 10) (cE (.int 1)) fItem) fMul) (seq2 (getE 11) (cE (.int 1)) fItem) fAdd) nilA))) (consA (getE 10) nilA))) (swG [10, 11]))
  (consB (appS 7 (iteE (toT (seq2 (seq2 (getE 10) (cE (.int 1)) fItem) (cE (.int 0)) fGe)) (getE 10) (tupE (consA (seq2 (cE (.int 0)) (seq2 (getE 10) (cE (.int 0)) fItem) fSub) (consA (seq2 (cE (.int 0)) (seq2 (getE 10) (cE (.int 1)) fItem) fSub) nilA)))))
  nilB)) 100)
  (consB (retS (getE 7))
  nilB)))
noncomputable def F_convergents : FX := funD [9] d_convergents
noncomputable def d_fraction_value : SX := (consB (ifS (toT (seq2 (map1 (getE 9) fLen) (cE (.int 0)) fEq)) (consB noS
  nilB) nilB)
  (consB (asgS (seq2 (callE (consA (getE 9) nilA) N_convergents) (map1 (cE (.int 1)) fNeg) fItem) (tupG [(setG 2), (setG 3)]))
  (consB (retS (callE (consA (getE 2) (consA (getE 3) nilA)) N_rat))
  nilB)))
noncomputable def F_fraction_value : FX := funD [9] d_fraction_value
noncomputable def d_distance : SX := (consB (asgS (callE (consA (getE 0) (consA (getE 1) nilA)) N_rsub) (setG 7))
  (consB (retS (tupE (consA (map1 (seq2 (getE 7) (cE (.int 0)) fItem) fAbs) (consA (seq2 (getE 7) (cE (.int 1)) fItem) nilA))))
  nilB))
noncomputable def F_distance : FX := funD [0, 1] d_distance
noncomputable def d_nearer : SX := (consB (asgS (callE (consA (callE (consA (getE 6) (consA (getE 10) nilA)) N_distance) (consA (callE (consA (getE 6) (consA (getE 11) nilA)) N_distance) nilA)) N_rcompare) (setG 12))
  (consB (ifS (toT (seq2 (getE 12) (cE (.int 0)) fEq)) (consB (retS (iteE (toT (seq2 (seq2 (getE 10) (cE (.int 1)) fItem) (seq2 (getE 11) (cE (.int 1)) fItem) fLe)) (getE 10) (getE 11)))
  nilB) nilB)
  (consB (retS (iteE (toT (seq2 (getE 12) (cE (.int 0)) fLt)) (getE 10) (getE 11)))
  nilB)))
noncomputable def F_nearer : FX := funD [6, 10, 11] d_nearer
noncomputable def d_best_approximation : SX := (consB (ifS (toT (seq2 (getE 13) (cE (.int 1)) fLt)) (consB noS
  nilB) nilB)
  (consB (ifS (toT (seq2 (seq2 (getE 6) (cE (.int 1)) fItem) (getE 13) fLe)) (consB (retS (getE 6))
  nilB) nilB)
  (consB (asgS (tupE (consA (tupE (consA (cE (.int 0)) (consA (cE (.int 1)) nilA))) (consA (tupE (consA (cE (.int 1)) (consA (cE (.int 0)) nilA))) nilA))) (tupG [(setG 14), (setG 15)]))
  (consB (forS (lstI (callE (consA (getE 6) nilA) N_fraction_row)) (setG 8) (consB (asgS (tupE (consA (seq2 (seq2 (getE 8) (seq2 (getE 15) (cE (.int 0)) fItem) fMul) (seq2 (getE 14) (cE (.int 0)) fItem) fAdd) (consA (seq2 (seq2 (getE 8) (seq2 (getE 15) (cE (.int 1)) fItem) fMul) (seq2 (getE 14) (cE (.int 1)) fItem) fAdd) nilA))) (setG 16))
  (consB (ifS (toT (seq2 (seq2 (getE 16) (cE (.int 1)) fItem) (getE 13) fGt)) (consB brkS
  nilB) nilB)
  (consB (asgS (tupE (consA (getE 15) (consA (getE 16) nilA))) (swG [14, 15]))
  nilB))) 100)
  (consB (asgS (seq2 (seq2 (getE 13) (seq2 (getE 14) (cE (.int 1)) fItem) fSub) (seq2 (getE 15) (cE (.int 1)) fItem) fDiv) (setG 17))
  (consB (asgS (tupE (consA (seq2 (seq2 (getE 14) (cE (.int 0)) fItem) (seq2 (getE 17) (seq2 (getE 15) (cE (.int 0)) fItem) fMul) fAdd) (consA (seq2 (seq2 (getE 14) (cE (.int 1)) fItem) (seq2 (getE 17) (seq2 (getE 15) (cE (.int 1)) fItem) fMul) fAdd) nilA))) (setG 18))
  (consB (retS (iteE (toT (seq2 (seq2 (getE 18) (cE (.int 1)) fItem) (cE (.int 0)) fGt)) (callE (consA (getE 6) (consA (getE 15) (consA (getE 18) nilA))) N_nearer) (getE 15)))
  nilB)))))))
noncomputable def F_best_approximation : FX := funD [6, 13] d_best_approximation
noncomputable def d_law_draw : SX := (consB (asgS (seq2 (getE 19) (cE (.int 1)) fItem) (setG 20))
  (consB (asgS (seq2 (getE 20) (cE (.int 1)) fAdd) (itemG (getE 19) (cE (.int 1))))
  (consB (ifS (toT (seq2 (getE 20) (map1 (seq2 (getE 19) (cE (.int 0)) fItem) fLen) fLt)) (consB (retS (seq2 (map1 (seq2 (seq2 (getE 19) (cE (.int 0)) fItem) (getE 20) fItem) fAbs) (getE 17) fMod))
  nilB) nilB)
  (consB (retS (seq2 (seq2 (tupE (consA (cE (.int 6)) (consA (cE (.int 18)) (consA (cE (.int 4)) (consA (cE (.int 13)) (consA (cE (.int 22)) nilA)))))) (seq2 (getE 20) (cE (.int 5)) fMod) fItem) (getE 17) fMod))
  nilB))))
noncomputable def F_law_draw : FX := funD [19, 17] d_law_draw
noncomputable def d_law_ratio : SX := (consB (asgS (tupE (consA (getE 2) (consA (getE 3) nilA))) (swG [10, 11]))
  (consB (whileS (toT (seq2 (getE 11) (cE (.int 0)) fNe)) (consB (asgS (tupE (consA (getE 11) (consA (seq2 (getE 10) (getE 11) fMod) nilA))) (swG [10, 11]))
  nilB) 100)
  (consB (retS (tupE (consA (seq2 (getE 2) (getE 10) fDiv) (consA (seq2 (getE 3) (getE 10) fDiv) nilA))))
  nilB)))
noncomputable def F_law_ratio : FX := funD [2, 3] d_law_ratio
noncomputable def d_law_way : SX := (consB (asgS (tupE (consA (lstE nilA) (consA (tupE (consA (cE (.int 0)) (consA (cE (.int 1)) nilA))) (consA (tupE (consA (cE (.int 1)) (consA (cE (.int 0)) nilA))) (consA (tupE (consA (cE (.int 1)) (consA (cE (.int 1)) nilA))) nilA))))) (tupG [(setG 7), (setG 21), (setG 22), (setG 15)]))
  (consB (whileS (toT (seq2 (getE 15) (getE 6) fNe)) (consB (appS 7 (tupE (consA (getE 21) (consA (getE 15) (consA (getE 22) nilA)))))
  (consB (ifS (toT (seq2 (seq2 (seq2 (getE 15) (cE (.int 0)) fItem) (seq2 (getE 6) (cE (.int 1)) fItem) fMul) (seq2 (seq2 (getE 6) (cE (.int 0)) fItem) (seq2 (getE 15) (cE (.int 1)) fItem) fMul) fLt)) (consB (asgS (getE 15) (setG 21))
  nilB) (consB (asgS (getE 15) (setG 22))
  nilB))
  (consB (asgS (tupE (consA (seq2 (seq2 (getE 21) (cE (.int 0)) fItem) (seq2 (getE 22) (cE (.int 0)) fItem) fAdd) (consA (seq2 (seq2 (getE 21) (cE (.int 1)) fItem) (seq2 (getE 22) (cE (.int 1)) fItem) fAdd) nilA))) (setG 15))
  nilB))) 100)
  (consB (retS (seq2 (getE 7) (lstE (consA (tupE (consA (getE 21) (consA (getE 15) (consA (getE 22) nilA)))) nilA)) fAdd))
  nilB)))
noncomputable def F_law_way : FX := funD [6] d_law_way
noncomputable def d_law_runs : SX := (consB (asgS (tupE (consA (lstE (consA (cE (.int 0)) nilA)) (consA (cE (.bool true)) nilA))) (swG [7, 12]))
  (consB (forS (lstI (getE 23)) (setG 24) (consB (ifS (toT (seq2 (getE 24) (getE 12) fNe)) (consB (asgS (tupE (consA (seq2 (getE 7) (lstE (consA (cE (.int 0)) nilA)) fAdd) (consA (getE 24) nilA))) (swG [7, 12]))
  nilB) nilB)
  (consB (asgS (seq2 (seq2 (getE 7) (map1 (cE (.int 1)) fNeg) fItem) (cE (.int 1)) fAdd) (itemG (getE 7) (map1 (cE (.int 1)) fNeg)))
  nilB)) 100)
  (consB (asgS (seq2 (seq2 (getE 7) (map1 (cE (.int 1)) fNeg) fItem) (cE (.int 1)) fAdd) (itemG (getE 7) (map1 (cE (.int 1)) fNeg)))
  (consB (retS (getE 7))
  nilB))))
noncomputable def F_law_runs : FX := funD [23] d_law_runs
noncomputable def d_law_turns : SX := (consB (asgS (lstE nilA) (setG 7))
  (consB (forS (enmI (getE 9)) (tupG [(setG 25), (setG 17)]) (consB (asgS (seq2 (getE 7) (seq2 (lstE (consA (seq2 (seq2 (getE 25) (cE (.int 2)) fMod) (cE (.int 0)) fEq) nilA)) (getE 17) fMul) fAdd) (setG 7))
  nilB) 100)
  (consB (retS (seq2 (getE 7) (map1 (cE (.int 1)) fNeg) fUpto))
  nilB)))
noncomputable def F_law_turns : FX := funD [9] d_law_turns
noncomputable def d_law_nearer : SX := (consB (asgS (seq2 (seq2 (seq2 (seq2 (seq2 (getE 6) (cE (.int 0)) fItem) (seq2 (getE 21) (cE (.int 1)) fItem) fMul) (seq2 (seq2 (getE 21) (cE (.int 0)) fItem) (seq2 (getE 6) (cE (.int 1)) fItem) fMul) fSub) (seq2 (getE 22) (cE (.int 1)) fItem) fMul) (seq2 (seq2 (seq2 (seq2 (getE 22) (cE (.int 0)) fItem) (seq2 (getE 6) (cE (.int 1)) fItem) fMul) (seq2 (seq2 (getE 6) (cE (.int 0)) fItem) (seq2 (getE 22) (cE (.int 1)) fItem) fMul) fSub) (seq2 (getE 21) (cE (.int 1)) fItem) fMul) fSub) (setG 5))
  (consB (ifS (toT (seq2 (getE 5) (cE (.int 0)) fEq)) (consB (asgS (seq2 (seq2 (getE 21) (cE (.int 1)) fItem) (seq2 (getE 22) (cE (.int 1)) fItem) fSub) (setG 5))
  nilB) nilB)
  (consB (retS (iteE (toT (seq2 (getE 5) (cE (.int 0)) fEq)) (lstE (consA (getE 21) (consA (getE 22) nilA))) (lstE (consA (iteE (toT (seq2 (getE 5) (cE (.int 0)) fLt)) (getE 21) (getE 22)) nilA))))
  nilB)))
noncomputable def F_law_nearer : FX := funD [6, 21, 22] d_law_nearer
noncomputable def d_law_simplest : SX := (consB (forS (rngI2 (cE (.int 1)) (seq2 (seq2 (getE 6) (cE (.int 1)) fItem) (cE (.int 1)) fAdd)) (setG 3) (consB (asgS (seq2 (cE (.int 0)) (seq2 (seq2 (cE (.int 0)) (seq2 (seq2 (getE 6) (cE (.int 0)) fItem) (getE 3) fMul) fSub) (seq2 (getE 6) (cE (.int 1)) fItem) fDiv) fSub) (setG 2))
  (consB (ifS (toT (seq2 (seq2 (getE 2) (seq2 (getE 26) (cE (.int 1)) fItem) fMul) (seq2 (seq2 (getE 26) (cE (.int 0)) fItem) (getE 3) fMul) fLe)) (consB (retS (tupE (consA (getE 2) (consA (getE 3) nilA))))
  nilB) nilB)
  nilB)) 100)
  (consB (retS (cE .none))
  nilB))
noncomputable def F_law_simplest : FX := funD [6, 26] d_law_simplest
noncomputable def d_law_stern : SX := (consB (asgS (lstE (consA (cE (.int 0)) (consA (cE (.int 1)) nilA))) (setG 7))
  (consB (forS (rngI2 (cE (.int 2)) (seq2 (getE 27) (cE (.int 2)) fAdd)) (setG 25) (consB (appS 7 (seq2 (seq2 (getE 7) (seq2 (getE 25) (cE (.int 2)) fDiv) fItem) (iteE (toT (seq2 (seq2 (getE 25) (cE (.int 2)) fMod) (cE (.int 1)) fEq)) (seq2 (getE 7) (seq2 (seq2 (getE 25) (cE (.int 2)) fDiv) (cE (.int 1)) fAdd) fItem) (cE (.int 0))) fAdd))
  nilB) 100)
  (consB (retS (tupE (consA (seq2 (getE 7) (getE 27) fItem) (consA (seq2 (getE 7) (seq2 (getE 27) (cE (.int 1)) fAdd) fItem) nilA))))
  nilB)))
noncomputable def F_law_stern : FX := funD [27] d_law_stern
noncomputable def d_law_lots : SX := (consB (asgS (tupE (consA (lstE (consA (cE (.int 0)) nilA)) (consA (cE (.int 1)) nilA))) (swG [7, 28]))
  (consB (whileS (toT (seq2 (getE 27) (cE (.int 0)) fGt)) (consB (ifS (toT (seq2 (seq2 (getE 27) (cE (.int 2)) fMod) (getE 28) fNe)) (consB (asgS (tupE (consA (seq2 (getE 7) (lstE (consA (cE (.int 0)) nilA)) fAdd) (consA (seq2 (cE (.int 1)) (getE 28) fSub) nilA))) (swG [7, 28]))
  nilB) nilB)
  (consB (asgS (tupE (consA (seq2 (seq2 (getE 7) (map1 (cE (.int 1)) fNeg) fItem) (cE (.int 1)) fAdd) (consA (seq2 (getE 27) (cE (.int 2)) fDiv) nilA))) (tupG [(itemG (getE 7) (map1 (cE (.int 1)) fNeg)), (setG 27)]))
  nilB)) 100)
  (consB (retS (getE 7))
  nilB)))
noncomputable def F_law_lots : FX := funD [27] d_law_lots
noncomputable def d_law_ends_right : SX := (consB (asgS (iteE (toT (seq2 (seq2 (map1 (getE 9) fLen) (cE (.int 2)) fMod) (cE (.int 1)) fEq)) (tupE (consA (seq2 (seq2 (getE 29) (map1 (cE (.int 1)) fNeg) fItem) (cE (.int 0)) fItem) (consA (seq2 (seq2 (getE 29) (map1 (cE (.int 1)) fNeg) fItem) (cE (.int 2)) fItem) nilA))) (tupE (consA (seq2 (seq2 (getE 29) (map1 (cE (.int 1)) fNeg) fItem) (cE (.int 2)) fItem) (consA (seq2 (seq2 (getE 29) (map1 (cE (.int 1)) fNeg) fItem) (cE (.int 0)) fItem) nilA)))) (tupG [(setG 21), (setG 22)]))
  (consB (asgS (seq2 (compE (rngI (seq2 (map1 (getE 9) fLen) (cE (.int 1)) fSub)) [9, 29] 25 none (seq2 (seq2 (getE 29) (map1 (seq2 (getE 9) (seq2 (getE 25) (cE (.int 1)) fAdd) fUpto) fSum) fItem) (iteE (toT (seq2 (seq2 (getE 25) (cE (.int 2)) fMod) (cE (.int 0)) fEq)) (cE (.int 0)) (cE (.int 2))) fItem) 100) (lstE (consA (getE 6) nilA)) fAdd) (setG 30))
  (consB (ifS (orT (toT (seq2 (callE (consA (getE 9) nilA) N_convergents) (getE 30) fNe)) (toT (seq2 (callE (consA (seq2 (seq2 (getE 9) (map1 (cE (.int 1)) fNeg) fUpto) (lstE (consA (seq2 (seq2 (getE 9) (map1 (cE (.int 1)) fNeg) fItem) (cE (.int 1)) fSub) nilA)) fAdd) nilA) N_fraction_value) (getE 21) fNe))) (consB (retS (cE (.bool false)))
  nilB) nilB)
  (consB (retS (orE (seq2 (map1 (getE 9) fLen) (cE (.int 1)) fEq) (seq2 (callE (consA (seq2 (getE 9) (map1 (cE (.int 1)) fNeg) fUpto) nilA) N_fraction_value) (getE 22) fEq)))
  nilB))))
noncomputable def F_law_ends_right : FX := funD [6, 29, 9] d_law_ends_right
noncomputable def law_0 : SX := (asgS (lstE (consA (compE (lstI (seq2 (getE 31) (cE (.int 5)) fUpto)) [] 32 none (map1 (getE 32) fInt) 100) (consA (cE (.int 0)) nilA))) (setG 19))
noncomputable def law_1 : SX := (asgS (tupE (consA (seq2 (cE (.int 1)) (callE (consA (getE 19) (consA (cE (.int 12)) nilA)) F_law_draw) fAdd) (consA (seq2 (cE (.int 1)) (callE (consA (getE 19) (consA (cE (.int 30)) nilA)) F_law_draw) fAdd) nilA))) (swG [3, 2]))
noncomputable def law_2 : SX := (asgS (callE (consA (getE 2) (consA (getE 3) nilA)) (frm F_law_ratio)) (setG 6))
noncomputable def law_3 : SX := (asgS (tupE (consA (seq2 (cE (.int 1)) (callE (consA (getE 19) (consA (cE (.int 12)) nilA)) F_law_draw) fAdd) (consA (seq2 (cE (.int 1)) (callE (consA (getE 19) (consA (cE (.int 30)) nilA)) F_law_draw) fAdd) nilA))) (swG [3, 2]))
noncomputable def law_4 : SX := (asgS (tupE (consA (callE (consA (getE 2) (consA (getE 3) nilA)) (frm F_law_ratio)) (consA (seq2 (cE (.int 1)) (callE (consA (getE 19) (consA (cE (.int 31)) nilA)) F_law_draw) fAdd) nilA))) (swG [26, 27]))
noncomputable def law_5 : SX := (asgS (tupE (consA (callE (consA (getE 6) nilA) (frm F_law_way)) (consA (callE (consA (getE 6) nilA) (frm N_fraction_row)) nilA))) (swG [29, 9]))
noncomputable def law_6 : SX := (asgS (compE (lstI (seq2 (getE 29) (map1 (cE (.int 1)) fNeg) fUpto)) [6] 33 none (seq2 (seq2 (seq2 (seq2 (getE 33) (cE (.int 1)) fItem) (cE (.int 0)) fItem) (seq2 (getE 6) (cE (.int 1)) fItem) fMul) (seq2 (seq2 (getE 6) (cE (.int 0)) fItem) (seq2 (seq2 (getE 33) (cE (.int 1)) fItem) (cE (.int 1)) fItem) fMul) fLt) 100) (setG 23))
noncomputable def law_7 : SX := (ifS (orT (toT (seq2 (getE 9) (callE (consA (getE 23) nilA) (frm F_law_runs)) fNe)) (notT (toT (callE (consA (getE 6) (consA (getE 29) (consA (getE 9) nilA))) (frm F_law_ends_right))))) (consB (retS (cE (.bool false)))
  nilB) nilB)
noncomputable def law_8 : SX := (forS (rngI2 (cE (.int 1)) (seq2 (getE 6) (cE (.int 1)) fItem)) (setG 13) (consB (asgS (seq2 (compE (lstI (getE 29)) [13] 33 (some (toT (seq2 (seq2 (seq2 (getE 33) (cE (.int 1)) fItem) (cE (.int 1)) fItem) (getE 13) fGt))) (getE 33) 100) (cE (.int 0)) fItem) (tupG [(setG 21), (setG 15), (setG 22)]))
  (consB (ifS (toT (seq2 (callE (consA (getE 6) (consA (getE 13) nilA)) (frm N_best_approximation)) (callE (consA (getE 6) (consA (getE 21) (consA (getE 22) nilA))) (frm F_law_nearer)) fNotIn)) (consB (retS (cE (.bool false)))
  nilB) nilB)
  nilB)) 100)
noncomputable def law_9 : SX := (asgS (tupE (consA (lstE nilA) (consA (callE (consA (callE (consA (getE 26) nilA) (frm N_fraction_row)) nilA) (frm F_law_turns)) nilA))) (swG [34, 35]))
noncomputable def law_10 : SX := (forS (enmI (callE (consA (getE 9) nilA) (frm F_law_turns))) (tupG [(setG 25), (setG 24)]) (consB (ifS (andT (toT (seq2 (map1 (getE 34) fLen) (getE 25) fEq)) (toT (seq2 (seq2 (getE 35) (seq2 (getE 25) (cE (.int 1)) fAdd) fUpto) (seq2 (getE 34) (lstE (consA (getE 24) nilA)) fAdd) fEq))) (consB (appS 34 (getE 24))
  nilB) nilB)
  nilB) 100)
noncomputable def law_11 : SX := (asgS (iteE (toT (seq2 (seq2 (seq2 (getE 6) (cE (.int 0)) fItem) (seq2 (getE 26) (cE (.int 1)) fItem) fMul) (seq2 (seq2 (getE 26) (cE (.int 0)) fItem) (seq2 (getE 6) (cE (.int 1)) fItem) fMul) fLe)) (tupE (consA (getE 6) (consA (getE 26) nilA))) (tupE (consA (getE 26) (consA (getE 6) nilA)))) (tupG [(setG 36), (setG 37)]))
noncomputable def law_12 : SX := (ifS (toT (seq2 (callE (consA (callE (consA (getE 34) nilA) (frm F_law_runs)) nilA) (frm N_fraction_value)) (callE (consA (getE 36) (consA (getE 37) nilA)) (frm F_law_simplest)) fNe)) (consB (retS (cE (.bool false)))
  nilB) nilB)
noncomputable def law_13 : SX := (retS (seq2 (callE (consA (callE (consA (getE 27) nilA) (frm F_law_lots)) nilA) (frm N_fraction_value)) (callE (consA (getE 27) nilA) (frm F_law_stern)) fEq))
noncomputable def d_law : SX := (consB law_0
  (consB law_1
  (consB law_2
  (consB law_3
  (consB law_4
  (consB law_5
  (consB law_6
  (consB law_7
  (consB law_8
  (consB law_9
  (consB law_10
  (consB law_11
  (consB law_12
  (consB law_13
  nilB))))))))))))))
noncomputable def F_law : FX := funD [31] d_law
end Mine
end
section
set_option maxRecDepth 100000
namespace Mine
theorem peq_int (n : Nat) (a b : Int) : peq n (.int a) (.int b) = some (a == b) := by cases n <;> rfl
theorem tup2 {r : AX} {σ : DS} {x y : DV} {H : DH} (h : r σ = some ([x, y], H)) : tupE r σ = some (.tup [x, y], H) := tupE_some h (by simp)
theorem gcd_loop (H : DH) : ∀ (n : Nat) (a b g : Int), gcdN n a b = some g →
    whileS (toT (seq2 (getE 1) (cE (.int 0)) fNe)) (consB (asgS (tupE (consA (getE 1) (consA (seq2 (getE 0) (getE 1) fMod) nilA))) (swG [0, 1])) nilB) n ⟨[(0, .int a), (1, .int b)], H⟩ = some (.next, ⟨[(0, .int g), (1, .int 0)], H⟩) := by
  intro n
  induction n with
  | zero => intro a b g h; cases h
  | succ n ih =>
    intro a b g h
    have t : toT (seq2 (getE 1) (cE (.int 0)) fNe) ⟨[(0, .int a), (1, .int b)], H⟩ = some (!(b == 0), H) := rfl
    unfold gcdN at h
    by_cases hb : b = 0
    · rw [if_pos hb] at h
      cases h
      subst hb
      exact whileS_f t
    · rw [if_neg hb] at h
      rw [beq_eq_false_iff_ne.mpr hb] at t
      have m : seq2 (getE 0) (getE 1) fMod ⟨[(0, .int a), (1, .int b)], H⟩ = some (.int (a.fmod b), H) := (seq2_some rfl rfl).trans (mod_ok hb)
      exact (whileS_n t ((consB_next (asgS_some (tup2 (consA_some rfl (consA_some m rfl))) rfl)).trans rfl)).trans (ih _ _ _ h)
theorem N_gcd_ok (ds : List DV) (H : DH) (v : DV) (H' : DH) (h0 : N_gcd ds H = some (v, H')) : F_gcd ds H = some (v, H') := by
  obtain ⟨a, b, rfl, h⟩ := fII_inv h0
  obtain ⟨g, q, e⟩ := Option.map_eq_some_iff.mp h
  cases e
  have e1 : asgS (tupE (consA (map1 (getE 0) fAbs) (consA (map1 (getE 1) fAbs) nilA))) (swG [0, 1]) ⟨[(0, .int a), (1, .int b)], H⟩ = some (.next, ⟨[(0, .int (absN a)), (1, .int (absN b))], H⟩) := rfl
  exact funD_ex rfl ⟨_, (consB_next e1).trans ((consB_next (gcd_loop H 100 _ _ _ q)).trans (consB_ret rfl))⟩
theorem N_rat_ok (ds : List DV) (H : DH) (v : DV) (H' : DH) (h0 : N_rat ds H = some (v, H')) : F_rat ds H = some (v, H') := by
  obtain ⟨a, b, rfl, h⟩ := fII_inv h0
  clear h0
  obtain ⟨g, q, e⟩ := Option.map_eq_some_iff.mp h
  cases e
  unfold ratN at q
  by_cases hb : b = 0
  · rw [if_pos hb] at q; cases q
  rw [if_neg hb] at q
  cases q0 : gcdN 100 (absN a) (absN b) with
  | none => rw [q0] at q; cases q
  | some g0 =>
    rw [q0] at q
    simp only at q
    have t : toT (seq2 (getE 3) (cE (.int 0)) fEq) ⟨[(2, .int a), (3, .int b)], H⟩ = some (b == 0, H) := rfl
    rw [beq_eq_false_iff_ne.mpr hb] at t
    have c : callE (consA (getE 2) (consA (getE 3) nilA)) N_gcd ⟨[(2, .int a), (3, .int b)], H⟩ = some (.int g0, H) := (callE_some rfl).trans ((N_gcd_at a b H).trans (by rw [q0]; rfl))
    have t2 : toT (seq2 (getE 3) (cE (.int 0)) fGt) ⟨[(2, .int a), (3, .int b)], H⟩ = some (decide (0 < b), H) := rfl
    have fin : ∀ k : Int, k ≠ 0 ∧ smallI k → iteE (toT (seq2 (getE 3) (cE (.int 0)) fGt)) (callE (consA (getE 2) (consA (getE 3) nilA)) N_gcd) (seq2 (cE (.int 0)) (callE (consA (getE 2) (consA (getE 3) nilA)) N_gcd) fSub) ⟨[(2, .int a), (3, .int b)], H⟩ = some (.int k, H) →
        F_rat [.int a, .int b] H = some (.tup [.int (a.fdiv k), .int (b.fdiv k)], H) := fun k hk hi =>
      funD_ex rfl ⟨_, (consB_next (ifS_f t)).trans ((consB_next (asgS_some hi rfl)).trans (consB_ret (retS_some (tup2 (consA_some ((seq2_some rfl rfl).trans (div_ok hk)) (consA_some ((seq2_some rfl rfl).trans (div_ok hk)) rfl))))))⟩
    by_cases hp : 0 < b
    · rw [if_pos hp] at q
      rw [decide_eq_true hp] at t2
      by_cases hc : g0 ≠ 0 ∧ smallI g0
      · rw [if_pos hc] at q; cases q
        exact fin g0 hc ((iteE_t t2).trans c)
      · rw [if_neg hc] at q; cases q
    · rw [if_neg hp] at q
      rw [decide_eq_false hp] at t2
      by_cases hc : 0 - g0 ≠ 0 ∧ smallI (0 - g0)
      · rw [if_pos hc] at q; cases q
        exact fin (0 - g0) hc ((iteE_f t2).trans ((seq2_some rfl c).trans rfl))
      · rw [if_neg hc] at q; cases q
theorem N_rsub_ok (ds : List DV) (H : DH) (v : DV) (H' : DH) (h0 : N_rsub ds H = some (v, H')) : F_rsub ds H = some (v, H') := by
  obtain ⟨a, b, c, d, rfl, h⟩ := fPP_inv h0
  clear h0
  obtain ⟨g, q, e⟩ := Option.map_eq_some_iff.mp h
  cases e
  unfold rsubN at q
  by_cases hc : smallI a ∧ smallI c ∧ smallI b
  · rw [if_pos hc] at q
    have m := seq2_some (σ := ⟨[(0, .tup [.int a, .int b]), (1, .tup [.int c, .int d])], H⟩) (f := fSub) ((seq2_some (d1 := seq2 (getE 0) (cE (.int 0)) fItem) (d2 := seq2 (getE 1) (cE (.int 1)) fItem) (f := fMul) rfl rfl).trans (mul_ok hc.1)) ((seq2_some (d1 := seq2 (getE 1) (cE (.int 0)) fItem) (d2 := seq2 (getE 0) (cE (.int 1)) fItem) (f := fMul) rfl rfl).trans (mul_ok hc.2.1))
    have n := (seq2_some (σ := ⟨[(0, .tup [.int a, .int b]), (1, .tup [.int c, .int d])], H⟩) (d1 := seq2 (getE 0) (cE (.int 1)) fItem) (d2 := seq2 (getE 1) (cE (.int 1)) fItem) (f := fMul) rfl rfl).trans (mul_ok hc.2.2)
    exact funD_ex rfl ⟨_, consB_ret (retS_some ((callE_some (consA_some m (consA_some n rfl))).trans ((N_rat_at _ _ _).trans (by rw [q]; rfl))))⟩
  · rw [if_neg hc] at q; cases q
theorem N_rinv_ok (ds : List DV) (H : DH) (v : DV) (H' : DH) (h0 : N_rinv ds H = some (v, H')) : F_rinv ds H = some (v, H') := by
  obtain ⟨a, b, rfl, h⟩ := fP_inv h0
  exact funD_ex rfl ⟨_, consB_ret (retS_some ((callE_some rfl).trans ((N_rat_at _ _ _).trans h)))⟩
theorem N_rcompare_ok (ds : List DV) (H : DH) (v : DV) (H' : DH) (h0 : N_rcompare ds H = some (v, H')) : F_rcompare ds H = some (v, H') := by
  obtain ⟨a, b, c, d, rfl, h⟩ := fPP_inv h0
  clear h0
  obtain ⟨g, q, e⟩ := Option.map_eq_some_iff.mp h
  cases e
  unfold rcmpN at q
  by_cases hc : smallI a ∧ smallI c
  · rw [if_pos hc] at q
    cases q
    have m := (seq2_some (σ := ⟨[(0, .tup [.int a, .int b]), (1, .tup [.int c, .int d])], H⟩) (f := fSub) ((seq2_some (d1 := seq2 (getE 0) (cE (.int 0)) fItem) (d2 := seq2 (getE 1) (cE (.int 1)) fItem) (f := fMul) rfl rfl).trans (mul_ok hc.1)) ((seq2_some (d1 := seq2 (getE 1) (cE (.int 0)) fItem) (d2 := seq2 (getE 0) (cE (.int 1)) fItem) (f := fMul) rfl rfl).trans (mul_ok hc.2)))
    exact funD_ex rfl ⟨_, (consB_next (asgS_some m rfl)).trans (consB_ret rfl)⟩
  · rw [if_neg hc] at q; cases q
theorem N_rfloor_ok (ds : List DV) (H : DH) (v : DV) (H' : DH) (h0 : N_rfloor ds H = some (v, H')) : F_rfloor ds H = some (v, H') := by
  obtain ⟨a, b, rfl, h⟩ := fP_inv h0
  clear h0
  obtain ⟨g, q, e⟩ := Option.map_eq_some_iff.mp h
  cases e
  unfold floorN at q
  by_cases hc : b ≠ 0 ∧ smallI b
  · rw [if_pos hc] at q
    cases q
    exact funD_ex rfl ⟨_, consB_ret (retS_some ((seq2_some rfl rfl).trans (div_ok hc)))⟩
  · rw [if_neg hc] at q; cases q
theorem N_distance_ok (ds : List DV) (H : DH) (v : DV) (H' : DH) (h0 : N_distance ds H = some (v, H')) : F_distance ds H = some (v, H') := by
  obtain ⟨a, b, c, d, rfl, h⟩ := fPP_inv h0
  clear h0
  obtain ⟨g, q, e⟩ := Option.map_eq_some_iff.mp h
  cases e
  unfold distN at q
  cases q0 : rsubN a b c d with
  | none => rw [q0] at q; cases q
  | some x =>
    rw [q0] at q
    cases q
    exact funD_ex rfl ⟨_, (consB_next (asgS_some ((callE_some rfl).trans ((N_rsub_at a b c d H).trans (by rw [q0]; rfl))) rfl)).trans (consB_ret rfl)⟩
theorem N_nearer_ok (ds : List DV) (H : DH) (v : DV) (H' : DH) (h0 : N_nearer ds H = some (v, H')) : F_nearer ds H = some (v, H') := by
  obtain ⟨a, b, c, d, e, f, rfl, h⟩ := fPPP_inv h0
  clear h0
  obtain ⟨g, q, e'⟩ := Option.map_eq_some_iff.mp h
  cases e'
  unfold nearN at q
  cases q1 : distN a b c d with
  | none => rw [q1] at q; cases q
  | some x =>
  rw [q1] at q
  cases q2 : distN a b e f with
  | none => rw [q2] at q; cases q
  | some z =>
  rw [q2] at q
  simp only at q
  cases q3 : rcmpN x.1 x.2 z.1 z.2 with
  | none => rw [q3] at q; cases q
  | some k =>
  rw [q3] at q
  simp only at q
  have c1 : callE (consA (getE 6) (consA (getE 10) nilA)) N_distance ⟨[(6, .tup [.int a, .int b]), (10, .tup [.int c, .int d]), (11, .tup [.int e, .int f])], H⟩ = some (.tup [.int x.1, .int x.2], H) := (callE_some rfl).trans ((N_distance_at a b c d H).trans (by rw [q1]; rfl))
  have c2 : callE (consA (getE 6) (consA (getE 11) nilA)) N_distance ⟨[(6, .tup [.int a, .int b]), (10, .tup [.int c, .int d]), (11, .tup [.int e, .int f])], H⟩ = some (.tup [.int z.1, .int z.2], H) := (callE_some rfl).trans ((N_distance_at a b e f H).trans (by rw [q2]; rfl))
  have e1 := asgS_some (g := setG 12) ((callE_some (consA_some c1 (consA_some (r := nilA) c2 rfl))).trans ((N_rcompare_at x.1 x.2 z.1 z.2 H).trans (by rw [q3]; rfl))) rfl
  refine funD_ex rfl ?_
  show ∃ vs, consB _ _ ⟨[(6, .tup [.int a, .int b]), (10, .tup [.int c, .int d]), (11, .tup [.int e, .int f])], H⟩ = some (_, ⟨vs, _⟩)
  rw [consB_next e1]
  show ∃ vs, consB _ _ ⟨[(6, .tup [.int a, .int b]), (10, .tup [.int c, .int d]), (11, .tup [.int e, .int f]), (12, .int k)], H⟩ = some (_, ⟨vs, _⟩)
  have t : toT (seq2 (getE 12) (cE (.int 0)) fEq) ⟨[(6, .tup [.int a, .int b]), (10, .tup [.int c, .int d]), (11, .tup [.int e, .int f]), (12, .int k)], H⟩ = some (k == 0, H) := rfl
  by_cases hk : k = 0
  · subst hk
    rw [if_pos rfl] at q
    have t2 : toT (seq2 (seq2 (getE 10) (cE (.int 1)) fItem) (seq2 (getE 11) (cE (.int 1)) fItem) fLe) ⟨[(6, .tup [.int a, .int b]), (10, .tup [.int c, .int d]), (11, .tup [.int e, .int f]), (12, .int 0)], H⟩ = some (decide (d ≤ f), H) := rfl
    by_cases hd : d ≤ f
    · rw [if_pos hd] at q; cases q
      rw [decide_eq_true hd] at t2
      exact ⟨_, consB_ret ((ifS_t t).trans (consB_ret (retS_some ((iteE_t t2).trans rfl))))⟩
    · rw [if_neg hd] at q; cases q
      rw [decide_eq_false hd] at t2
      exact ⟨_, consB_ret ((ifS_t t).trans (consB_ret (retS_some ((iteE_f t2).trans rfl))))⟩
  · rw [if_neg hk] at q
    rw [beq_eq_false_iff_ne.mpr hk] at t
    have t2 : toT (seq2 (getE 12) (cE (.int 0)) fLt) ⟨[(6, .tup [.int a, .int b]), (10, .tup [.int c, .int d]), (11, .tup [.int e, .int f]), (12, .int k)], H⟩ = some (decide (k < 0), H) := rfl
    by_cases hd : k < 0
    · rw [if_pos hd] at q; cases q
      rw [decide_eq_true hd] at t2
      exact ⟨_, (consB_next (ifS_f t)).trans (consB_ret (retS_some ((iteE_t t2).trans rfl)))⟩
    · rw [if_neg hd] at q; cases q
      rw [decide_eq_false hd] at t2
      exact ⟨_, (consB_next (ifS_f t)).trans (consB_ret (retS_some ((iteE_f t2).trans rfl)))⟩
noncomputable def rowBody : SX := (consB (asgS (callE (consA (getE 6) nilA) N_rfloor) (setG 8))
  (consB (appS 7 (getE 8))
  (consB (asgS (callE (consA (getE 6) (consA (tupE (consA (getE 8) (consA (cE (.int 1)) nilA))) nilA)) N_rsub) (setG 6))
  (consB (ifS (toT (seq2 (seq2 (getE 6) (cE (.int 0)) fItem) (cE (.int 0)) fEq)) (consB (retS (getE 7))
  nilB) nilB)
  (consB (asgS (callE (consA (getE 6) nilA) N_rinv) (setG 6))
  nilB)))))
theorem row_loop (H : DH) : ∀ (n : Nat) (a b : Int) (acc xs : List Int) (ex : List (Nat × DV)), rowN n a b acc = some xs →
    ∃ vs', whileS (cT true) rowBody n ⟨(6, .tup [.int a, .int b]) :: (7, .ref H.length) :: ex, H ++ [acc.map .int]⟩ = some (.ret (.ref H.length), ⟨vs', H ++ [xs.map .int]⟩) := by
  intro n
  induction n with
  | zero => intro a b acc xs ex h; cases h
  | succ n ih =>
    intro a b acc xs ex h
    unfold rowN at h
    cases q0 : floorN a b with
    | none => rw [q0] at h; cases h
    | some q =>
    rw [q0] at h
    simp only at h
    cases q1 : rsubN a b q 1 with
    | none => rw [q1] at h; cases h
    | some c =>
    rw [q1] at h
    simp only at h
    by_cases hl : acc.length ≤ 1000000
    rotate_left
    · rw [if_neg hl] at h; cases h
    rw [if_pos hl] at h
    have k8 : (setv 8 (.int q) ex).lookup 8 = some (.int q) := by rw [lookup_setv, if_pos rfl]
    have hm : (acc ++ [q]).map DV.int = acc.map .int ++ [.int q] := by simp
    have e1 : asgS (callE (consA (getE 6) nilA) N_rfloor) (setG 8) ⟨(6, .tup [.int a, .int b]) :: (7, .ref H.length) :: ex, H ++ [acc.map .int]⟩ = some (.next, ⟨(6, .tup [.int a, .int b]) :: (7, .ref H.length) :: setv 8 (.int q) ex, H ++ [acc.map .int]⟩) :=
      asgS_some ((callE_some rfl).trans ((N_rfloor_at a b _).trans (by rw [q0]; rfl))) rfl
    have g8 : ∀ p K, getE 8 ⟨(6, p) :: (7, .ref H.length) :: setv 8 (.int q) ex, K⟩ = some (.int q, K) := fun p K => getE_some k8
    have e2 : appS 7 (getE 8) ⟨(6, .tup [.int a, .int b]) :: (7, .ref H.length) :: setv 8 (.int q) ex, H ++ [acc.map .int]⟩ = some (.next, ⟨(6, .tup [.int a, .int b]) :: (7, .ref H.length) :: setv 8 (.int q) ex, H ++ [(acc ++ [q]).map .int]⟩) :=
      (appS_some rfl (g8 _ _) (last_get _ _) (by rw [List.length_map]; exact hl)).trans (by rw [hm]; show some (DF.next, (⟨_, (H ++ [acc.map DV.int]).set H.length _⟩ : DS)) = _; rw [last_set])
    have e3 : asgS (callE (consA (getE 6) (consA (tupE (consA (getE 8) (consA (cE (.int 1)) nilA))) nilA)) N_rsub) (setG 6) ⟨(6, .tup [.int a, .int b]) :: (7, .ref H.length) :: setv 8 (.int q) ex, H ++ [(acc ++ [q]).map .int]⟩ = some (.next, ⟨(6, .tup [.int c.1, .int c.2]) :: (7, .ref H.length) :: setv 8 (.int q) ex, H ++ [(acc ++ [q]).map .int]⟩) :=
      asgS_some ((callE_some (consA_some rfl (consA_some (tup2 (consA_some (g8 _ _) rfl)) rfl))).trans ((N_rsub_at a b q 1 _).trans (by rw [q1]; rfl))) rfl
    have t : toT (seq2 (seq2 (getE 6) (cE (.int 0)) fItem) (cE (.int 0)) fEq) ⟨(6, .tup [.int c.1, .int c.2]) :: (7, .ref H.length) :: setv 8 (.int q) ex, H ++ [(acc ++ [q]).map .int]⟩ = some (c.1 == 0, H ++ [(acc ++ [q]).map .int]) := rfl
    by_cases hc : c.1 = 0
    · rw [if_pos hc] at h
      cases h
      rw [beq_iff_eq.mpr hc] at t
      exact ⟨_, whileS_r rfl ((consB_next e1).trans ((consB_next e2).trans ((consB_next e3).trans (consB_ret ((ifS_t t).trans (consB_ret rfl))))))⟩
    · rw [if_neg hc] at h
      rw [beq_eq_false_iff_ne.mpr hc] at t
      cases q2 : ratN c.2 c.1 with
      | none => rw [q2] at h; cases h
      | some e =>
        rw [q2] at h
        obtain ⟨vs', hi⟩ := ih e.1 e.2 (acc ++ [q]) xs (setv 8 (.int q) ex) h
        refine ⟨vs', (whileS_n rfl ((consB_next e1).trans ((consB_next e2).trans ((consB_next e3).trans ((consB_next (ifS_f t)).trans ((consB_next (asgS_some ((callE_some rfl).trans ((N_rinv_at c.1 c.2 _).trans (by rw [q2]; rfl))) rfl)).trans rfl)))))).trans hi⟩
theorem N_fraction_row_ok (ds : List DV) (H : DH) (v : DV) (H' : DH) (h0 : N_fraction_row ds H = some (v, H')) : F_fraction_row ds H = some (v, H') := by
  obtain ⟨a, b, rfl, h⟩ := fP_inv h0
  clear h0
  obtain ⟨g, q, e⟩ := Option.map_eq_some_iff.mp h
  cases e
  obtain ⟨vs', e⟩ := row_loop H 100 a b [] g [] q
  have e1 : asgS (lstE nilA) (setG 7) ⟨[(6, .tup [.int a, .int b])], H⟩ = some (.next, ⟨[(6, .tup [.int a, .int b]), (7, .ref H.length)], H ++ [[]]⟩) := rfl
  exact funD_ex rfl ⟨vs', (consB_next e1).trans (consB_ret e)⟩
/-- the loop of best_approximation over the row -/
noncomputable def bestBody : SX := (consB (asgS (tupE (consA (seq2 (seq2 (getE 8) (seq2 (getE 15) (cE (.int 0)) fItem) fMul) (seq2 (getE 14) (cE (.int 0)) fItem) fAdd) (consA (seq2 (seq2 (getE 8) (seq2 (getE 15) (cE (.int 1)) fItem) fMul) (seq2 (getE 14) (cE (.int 1)) fItem) fAdd) nilA))) (setG 16))
  (consB (ifS (toT (seq2 (seq2 (getE 16) (cE (.int 1)) fItem) (getE 13) fGt)) (consB brkS
  nilB) nilB)
  (consB (asgS (tupE (consA (getE 15) (consA (getE 16) nilA))) (swG [14, 15]))
  nilB)))
/-- the state of that loop -/
noncomputable def bestV (r : DV) (m a b c d : Int) (ex : List (Nat × DV)) : List (Nat × DV) := (6, r) :: (13, .int m) :: (14, .tup [.int a, .int b]) :: (15, .tup [.int c, .int d]) :: ex
theorem best_loop (H : DH) (m : Int) (r : DV) (row : List Int) (hrow : row.length < 100) : ∀ (n i : Nat) (a b c d x y z u : Int) (ex : List (Nat × DV)), n + i = 100 → i ≤ row.length →
    bestGo m (row.drop i) a b c d = some (x, y, z, u) →
    ∃ ex', forGo (setG 8) bestBody n (.lst H.length i) ⟨bestV r m a b c d ex, H ++ [row.map .int]⟩ = some (.next, ⟨bestV r m x y z u ex', H ++ [row.map .int]⟩) := by
  intro n
  induction n with
  | zero => intro i a b c d x y z u ex hn hi; omega
  | succ n ih =>
    intro i a b c d x y z u ex hn hi h
    by_cases hlt : i < row.length
    · have hg : itNext (.lst H.length i) (H ++ [row.map .int]) = some (some (.int row[i], .lst H.length (i + 1))) := by simp [itNext, last_get, hlt]
      rw [List.drop_eq_getElem_cons hlt] at h
      unfold bestGo at h
      generalize row[i] = q at h hg
      by_cases hs : smallI q
      rotate_left
      · rw [if_neg hs] at h; cases h
      rw [if_pos hs] at h
      have k8 : (setv 8 (.int q) ex).lookup 8 = some (.int q) := by rw [lookup_setv, if_pos rfl]
      have k16 : ∀ t ex, (setv 16 t ex).lookup 16 = some t := fun t ex => by rw [lookup_setv, if_pos rfl]
      have g8 : ∀ K, getE 8 ⟨bestV r m a b c d (setv 8 (.int q) ex), K⟩ = some (.int q, K) := fun K => getE_some k8
      have g16 : ∀ t e K, getE 16 ⟨bestV r m a b c d (setv 16 t e), K⟩ = some (t, K) := fun t e K => getE_some (k16 t e)
      have m1 := fun (j : Int) (y x : Int) (K : DH) (h1 : seq2 (getE 15) (cE (.int j)) fItem ⟨bestV r m a b c d (setv 8 (.int q) ex), K⟩ = some (.int y, K)) (h2 : seq2 (getE 14) (cE (.int j)) fItem ⟨bestV r m a b c d (setv 8 (.int q) ex), K⟩ = some (.int x, K)) =>
        (seq2_some (f := fAdd) ((seq2_some (f := fMul) (g8 K) h1).trans (mul_ok hs)) h2).trans (c := some (DV.int (q * y + x), K)) rfl
      have e1 : asgS (tupE (consA (seq2 (seq2 (getE 8) (seq2 (getE 15) (cE (.int 0)) fItem) fMul) (seq2 (getE 14) (cE (.int 0)) fItem) fAdd) (consA (seq2 (seq2 (getE 8) (seq2 (getE 15) (cE (.int 1)) fItem) fMul) (seq2 (getE 14) (cE (.int 1)) fItem) fAdd) nilA))) (setG 16) ⟨bestV r m a b c d (setv 8 (.int q) ex), H ++ [row.map .int]⟩ = some (.next, ⟨bestV r m a b c d (setv 16 (.tup [.int (q * c + a), .int (q * d + b)]) (setv 8 (.int q) ex)), H ++ [row.map .int]⟩) :=
        asgS_some (tup2 (consA_some (m1 0 c a _ rfl rfl) (consA_some (m1 1 d b _ rfl rfl) rfl))) rfl
      have t : toT (seq2 (seq2 (getE 16) (cE (.int 1)) fItem) (getE 13) fGt) ⟨bestV r m a b c d (setv 16 (.tup [.int (q * c + a), .int (q * d + b)]) (setv 8 (.int q) ex)), H ++ [row.map .int]⟩ = some (decide (m < q * d + b), H ++ [row.map .int]) := by
        unfold toT
        rw [seq2_some (f := fGt) ((seq2_some (f := fItem) (g16 _ _ _) rfl).trans rfl) rfl]
        rfl
      by_cases hm : m < q * d + b
      · rw [if_pos hm] at h
        cases h
        rw [decide_eq_true hm] at t
        exact ⟨_, forGo_b hg rfl ((consB_next e1).trans (by unfold consB; rw [ifS_t t]; rfl))⟩
      · rw [if_neg hm] at h
        rw [decide_eq_false hm] at t
        obtain ⟨ex', e⟩ := ih (i + 1) c d _ _ x y z u (setv 16 (.tup [.int (q * c + a), .int (q * d + b)]) (setv 8 (.int q) ex)) (by omega) (by omega) h
        exact ⟨ex', (forGo_next hg rfl ((consB_next e1).trans ((consB_next (ifS_f t)).trans ((consB_next (asgS_some (tup2 (consA_some rfl (consA_some (g16 _ _ _) rfl))) rfl)).trans rfl)))).trans e⟩
    · have hi' : i = row.length := by omega
      subst hi'
      rw [List.drop_length] at h
      cases h
      exact ⟨ex, forGo_end (by simp [itNext, last_get])⟩
theorem N_best_approximation_ok (ds : List DV) (H : DH) (v : DV) (H' : DH) (h0 : N_best_approximation ds H = some (v, H')) : F_best_approximation ds H = some (v, H') := by
  obtain ⟨a, b, m, rfl, h⟩ := fPI_inv h0
  clear h0
  obtain ⟨g, q, e⟩ := Option.map_eq_some_iff.mp h
  cases e
  unfold bestN at q
  by_cases h1 : m < 1
  · rw [if_pos h1] at q; cases q
  rw [if_neg h1] at q
  by_cases h2 : b ≤ m
  · rw [if_pos h2] at q; cases q
  rw [if_neg h2] at q
  cases q1 : rowN 100 a b [] with
  | none => rw [q1] at q; cases q
  | some row =>
  rw [q1] at q
  simp only at q
  by_cases hl : row.length < 100
  rotate_left
  · rw [if_neg hl] at q; cases q
  rw [if_pos hl] at q
  cases q2 : bestGo m row 0 1 1 0 with
  | none => rw [q2] at q; cases q
  | some w =>
  obtain ⟨x, y, z, u⟩ := w
  rw [q2] at q
  simp only at q
  by_cases hu : u ≠ 0 ∧ smallI u
  rotate_left
  · rw [if_neg hu] at q; cases q
  rw [if_pos hu] at q
  generalize hk : (m - y).fdiv u = k at q
  by_cases hs : smallI k
  rotate_left
  · rw [if_neg hs] at q; cases q
  rw [if_pos hs] at q
  obtain ⟨ex, e⟩ := best_loop H m (.tup [.int a, .int b]) row hl 100 0 0 1 1 0 x y z u [] rfl (Nat.zero_le _) q2
  have t1 : toT (seq2 (getE 13) (cE (.int 1)) fLt) ⟨[(6, .tup [.int a, .int b]), (13, .int m)], H⟩ = some (decide (m < 1), H) := rfl
  have t2 : toT (seq2 (seq2 (getE 6) (cE (.int 1)) fItem) (getE 13) fLe) ⟨[(6, .tup [.int a, .int b]), (13, .int m)], H⟩ = some (decide (b ≤ m), H) := rfl
  rw [decide_eq_false h1] at t1
  rw [decide_eq_false h2] at t2
  have e3 : asgS (tupE (consA (tupE (consA (cE (.int 0)) (consA (cE (.int 1)) nilA))) (consA (tupE (consA (cE (.int 1)) (consA (cE (.int 0)) nilA))) nilA))) (tupG [(setG 14), (setG 15)]) ⟨[(6, .tup [.int a, .int b]), (13, .int m)], H⟩ = some (.next, ⟨bestV (.tup [.int a, .int b]) m 0 1 1 0 [], H⟩) := rfl
  have e4 : forS (lstI (callE (consA (getE 6) nilA) N_fraction_row)) (setG 8) bestBody 100 ⟨bestV (.tup [.int a, .int b]) m 0 1 1 0 [], H⟩ = forGo (setG 8) bestBody 100 (.lst H.length 0) ⟨bestV (.tup [.int a, .int b]) m 0 1 1 0 [], H ++ [row.map .int]⟩ := by
    have c : callE (consA (getE 6) nilA) N_fraction_row ⟨bestV (.tup [.int a, .int b]) m 0 1 1 0 [], H⟩ = some (.ref H.length, H ++ [row.map .int]) := (callE_some rfl).trans ((N_fraction_row_at a b H).trans (by rw [q1]; rfl))
    simp only [forS, lstI, c, last_get]
  have k17 : ∀ t e, (setv 17 t e).lookup 17 = some t := fun t e => by rw [lookup_setv, if_pos rfl]
  have k18 : ∀ t e, (setv 18 t e).lookup 18 = some t := fun t e => by rw [lookup_setv, if_pos rfl]
  have e5 : asgS (seq2 (seq2 (getE 13) (seq2 (getE 14) (cE (.int 1)) fItem) fSub) (seq2 (getE 15) (cE (.int 1)) fItem) fDiv) (setG 17) ⟨bestV (.tup [.int a, .int b]) m x y z u ex, H ++ [row.map .int]⟩ = some (.next, ⟨bestV (.tup [.int a, .int b]) m x y z u (setv 17 (.int k) ex), H ++ [row.map .int]⟩) :=
    asgS_some ((seq2_some rfl rfl).trans ((div_ok hu).trans (by rw [hk]))) rfl
  have g17 : ∀ K, getE 17 ⟨bestV (.tup [.int a, .int b]) m x y z u (setv 17 (.int k) ex), K⟩ = some (.int k, K) := fun K => getE_some (k17 _ _)
  have m1 := fun (j : Int) (y' x' : Int) (K : DH) (h1 : seq2 (getE 15) (cE (.int j)) fItem ⟨bestV (.tup [.int a, .int b]) m x y z u (setv 17 (.int k) ex), K⟩ = some (.int y', K)) (h2 : seq2 (getE 14) (cE (.int j)) fItem ⟨bestV (.tup [.int a, .int b]) m x y z u (setv 17 (.int k) ex), K⟩ = some (.int x', K)) =>
    (seq2_some (f := fAdd) h2 ((seq2_some (f := fMul) (g17 K) h1).trans (mul_ok hs))).trans (c := some (DV.int (x' + k * y'), K)) rfl
  have e6 : asgS (tupE (consA (seq2 (seq2 (getE 14) (cE (.int 0)) fItem) (seq2 (getE 17) (seq2 (getE 15) (cE (.int 0)) fItem) fMul) fAdd) (consA (seq2 (seq2 (getE 14) (cE (.int 1)) fItem) (seq2 (getE 17) (seq2 (getE 15) (cE (.int 1)) fItem) fMul) fAdd) nilA))) (setG 18) ⟨bestV (.tup [.int a, .int b]) m x y z u (setv 17 (.int k) ex), H ++ [row.map .int]⟩ = some (.next, ⟨bestV (.tup [.int a, .int b]) m x y z u (setv 18 (.tup [.int (x + k * z), .int (y + k * u)]) (setv 17 (.int k) ex)), H ++ [row.map .int]⟩) :=
    asgS_some (tup2 (consA_some (m1 0 z x _ rfl rfl) (consA_some (m1 1 u y _ rfl rfl) rfl))) rfl
  generalize setv 17 (.int k) ex = ex1 at e5 e6
  have g18 : ∀ K, getE 18 ⟨bestV (.tup [.int a, .int b]) m x y z u (setv 18 (.tup [.int (x + k * z), .int (y + k * u)]) ex1), K⟩ = some (.tup [.int (x + k * z), .int (y + k * u)], K) := fun K => getE_some (k18 _ _)
  generalize setv 18 (.tup [.int (x + k * z), .int (y + k * u)]) ex1 = ex2 at e6 g18
  have t7 : toT (seq2 (seq2 (getE 18) (cE (.int 1)) fItem) (cE (.int 0)) fGt) ⟨bestV (.tup [.int a, .int b]) m x y z u ex2, H ++ [row.map .int]⟩ = some (decide (0 < y + k * u), H ++ [row.map .int]) := by
    unfold toT
    rw [seq2_some (f := fGt) ((seq2_some (f := fItem) (g18 _) rfl).trans rfl) rfl]
    rfl
  have e7 : iteE (toT (seq2 (seq2 (getE 18) (cE (.int 1)) fItem) (cE (.int 0)) fGt)) (callE (consA (getE 6) (consA (getE 15) (consA (getE 18) nilA))) N_nearer) (getE 15) ⟨bestV (.tup [.int a, .int b]) m x y z u ex2, H ++ [row.map .int]⟩ = some (.tup [.int g.1, .int g.2.1], H ++ [g.2.2.map .int]) := by
    by_cases hp : 0 < y + k * u
    · rw [if_pos hp] at q
      rw [decide_eq_true hp] at t7
      cases q3 : nearN a b z u (x + k * z) (y + k * u) with
      | none => rw [q3] at q; cases q
      | some g1 =>
        rw [q3] at q
        cases q
        exact (iteE_t t7).trans ((callE_some (consA_some rfl (consA_some rfl (consA_some (g18 _) rfl)))).trans ((N_nearer_at _ _ _ _ _ _ _).trans (by rw [q3]; rfl)))
    · rw [if_neg hp] at q
      rw [decide_eq_false hp] at t7
      cases q
      exact (iteE_f t7).trans rfl
  exact funD_ex rfl ⟨_, (consB_next (ifS_f t1)).trans ((consB_next (ifS_f t2)).trans ((consB_next e3).trans ((consB_next (e4.trans e)).trans ((consB_next e5).trans ((consB_next e6).trans (consB_ret (retS_some e7)))))))⟩
/-- the loop of convergents -/
noncomputable def convBody : SX := (consB (asgS (tupE (consA (tupE (consA (seq2 (seq2 (getE 8) (seq2 (getE 10) (cE (.int 0)) fItem) fMul) (seq2 (getE 11) (cE (.int 0)) fItem) fAdd) (consA (seq2 (seq2 (getE 8) (seq2 (getE 10) (cE (.int 1)) fItem) fMul) (seq2 (getE 11) (cE (.int 1)) fItem) fAdd) nilA))) (consA (getE 10) nilA))) (swG [10, 11]))
  (consB (appS 7 (iteE (toT (seq2 (seq2 (getE 10) (cE (.int 1)) fItem) (cE (.int 0)) fGe)) (getE 10) (tupE (consA (seq2 (cE (.int 0)) (seq2 (getE 10) (cE (.int 0)) fItem) fSub) (consA (seq2 (cE (.int 0)) (seq2 (getE 10) (cE (.int 1)) fItem) fSub) nilA)))))
  nilB))
noncomputable def convV (i L : Nat) (a b c d : Int) (ex : List (Nat × DV)) : List (Nat × DV) := (9, .ref i) :: (11, dv (c, d)) :: (10, dv (a, b)) :: (7, .ref L) :: ex
theorem conv_loop (H : DH) (i : Nat) (row : List Int) (hrow : row.length < 100) (hi : H[i]? = some (row.map .int)) : ∀ (n k : Nat) (a b c d : Int) (acc g : List (Int × Int)) (ex : List (Nat × DV)), n + k = 100 → k ≤ row.length → acc.length ≤ k →
    convGo (row.drop k) a b c d acc = some g →
    ∃ a' b' c' d' ex', forGo (setG 8) convBody n (.lst i k) ⟨convV i H.length a b c d ex, H ++ [acc.map dv]⟩ = some (.next, ⟨convV i H.length a' b' c' d' ex', H ++ [g.map dv]⟩) := by
  have iH : i < H.length := (List.getElem?_eq_some_iff.mp hi).1
  intro n
  induction n with
  | zero => intro k a b c d acc g ex hn hk; omega
  | succ n ih =>
    intro k a b c d acc g ex hn hk ha h
    have hl : (H ++ [acc.map dv])[i]? = some (row.map .int) := by rw [List.getElem?_append_left iH]; exact hi
    by_cases hlt : k < row.length
    · have hg : itNext (.lst i k) (H ++ [acc.map dv]) = some (some (.int row[k], .lst i (k + 1))) := by simp [itNext, hl, hlt]
      rw [List.drop_eq_getElem_cons hlt] at h
      unfold convGo at h
      generalize row[k] = q at h hg
      by_cases hs : smallI q
      rotate_left
      · rw [if_neg hs] at h; cases h
      rw [if_pos hs] at h
      have g8 : ∀ K, getE 8 ⟨convV i H.length a b c d (setv 8 (.int q) ex), K⟩ = some (.int q, K) := fun K => getE_some (show (setv 8 (.int q) ex).lookup 8 = _ by rw [lookup_setv, if_pos rfl])
      have m1 := fun (j : Int) (y x : Int) (K : DH) (h1 : seq2 (getE 10) (cE (.int j)) fItem ⟨convV i H.length a b c d (setv 8 (.int q) ex), K⟩ = some (.int y, K)) (h2 : seq2 (getE 11) (cE (.int j)) fItem ⟨convV i H.length a b c d (setv 8 (.int q) ex), K⟩ = some (.int x, K)) =>
        (seq2_some (f := fAdd) ((seq2_some (f := fMul) (g8 K) h1).trans (mul_ok hs)) h2).trans (c := some (DV.int (q * y + x), K)) rfl
      have e1 := asgS_some (g := swG [10, 11]) (σ' := ⟨convV i H.length (q * a + c) (q * b + d) a b (setv 8 (.int q) ex), H ++ [acc.map dv]⟩) (tup2 (consA_some (tup2 (consA_some (m1 0 a c (H ++ [acc.map dv]) rfl rfl) (consA_some (r := nilA) (m1 1 b d _ rfl rfl) rfl))) (consA_some (d := getE 10) (r := nilA) rfl rfl))) rfl
      generalize q * a + c = x at h e1
      generalize q * b + d = y at h e1
      have s8 : setG 8 (.int q) ⟨convV i H.length a b c d ex, H ++ [acc.map dv]⟩ = some ⟨convV i H.length a b c d (setv 8 (.int q) ex), H ++ [acc.map dv]⟩ := rfl
      generalize setv 8 (.int q) ex = ex1 at e1 s8
      have t : toT (seq2 (seq2 (getE 10) (cE (.int 1)) fItem) (cE (.int 0)) fGe) ⟨convV i H.length x y a b ex1, H ++ [acc.map dv]⟩ = some (decide (0 ≤ y), H ++ [acc.map dv]) := rfl
      have v : iteE (toT (seq2 (seq2 (getE 10) (cE (.int 1)) fItem) (cE (.int 0)) fGe)) (getE 10) (tupE (consA (seq2 (cE (.int 0)) (seq2 (getE 10) (cE (.int 0)) fItem) fSub) (consA (seq2 (cE (.int 0)) (seq2 (getE 10) (cE (.int 1)) fItem) fSub) nilA))) ⟨convV i H.length x y a b ex1, H ++ [acc.map dv]⟩ = some (dv (if 0 ≤ y then (x, y) else (0 - x, 0 - y)), H ++ [acc.map dv]) := by
        by_cases hy : 0 ≤ y
        · rw [decide_eq_true hy] at t
          rw [if_pos hy]
          exact (iteE_t t).trans rfl
        · rw [decide_eq_false hy] at t
          rw [if_neg hy]
          exact (iteE_f t).trans rfl
      generalize (if 0 ≤ y then (x, y) else (0 - x, 0 - y)) = z at h v
      have e2 := (appS_some (x := 7) (l := H.length) rfl v (last_get _ _) (by rw [List.length_map]; omega)).trans (c := some (DF.next, ⟨convV i H.length x y a b ex1, H ++ [(acc ++ [z]).map dv]⟩)) (by
        show some (DF.next, (⟨_, (H ++ [acc.map dv]).set H.length _⟩ : DS)) = _
        rw [last_set, List.map_append]; rfl)
      obtain ⟨a', b', c', d', ex', e⟩ := ih (k + 1) x y a b (acc ++ [z]) g ex1 (by omega) (by omega) (by simp; omega) h
      exact ⟨a', b', c', d', ex', (forGo_next hg s8 ((consB_next e1).trans ((consB_next e2).trans rfl))).trans e⟩
    · have hk' : k = row.length := by omega
      subst hk'
      rw [List.drop_length] at h
      cases h
      exact ⟨a, b, c, d, ex, forGo_end (by simp [itNext, hl])⟩
theorem N_convergents_ok (ds : List DV) (H : DH) (v : DV) (H' : DH) (h0 : N_convergents ds H = some (v, H')) : F_convergents ds H = some (v, H') := by
  obtain ⟨⟨i, row⟩, hp, h⟩ := Option.bind_eq_some_iff.mp h0
  obtain ⟨rfl, hi, hl⟩ := rowOf_inv hp
  obtain ⟨g, q, e⟩ := Option.map_eq_some_iff.mp h
  cases e
  simp only at hi hl q
  have iH : i < H.length := (List.getElem?_eq_some_iff.mp hi).1
  obtain ⟨a', b', c', d', ex', e⟩ := conv_loop H i row hl hi 100 0 1 0 0 1 [] g [] rfl (Nat.zero_le _) (Nat.le_refl _) q
  have e1 : asgS (tupE (consA (lstE nilA) (consA (tupE (consA (cE (.int 1)) (consA (cE (.int 0)) nilA))) (consA (tupE (consA (cE (.int 0)) (consA (cE (.int 1)) nilA))) nilA)))) (swG [7, 10, 11]) ⟨[(9, .ref i)], H⟩ = some (.next, ⟨convV i H.length 1 0 0 1 [], H ++ [[]]⟩) := rfl
  have hl0 : (H ++ [([] : List (Int × Int)).map dv])[i]? = some (row.map .int) := by rw [List.getElem?_append_left iH]; exact hi
  have e2 : forS (lstI (getE 9)) (setG 8) convBody 100 ⟨convV i H.length 1 0 0 1 [], H ++ [[]]⟩ = some (.next, ⟨convV i H.length a' b' c' d' ex', H ++ [g.map dv]⟩) := by
    have l : lstI (getE 9) ⟨convV i H.length 1 0 0 1 [], H ++ [[]]⟩ = some (.lst i 0, H ++ [[]]) := by
      unfold lstI
      rw [getE_some (show (convV i H.length 1 0 0 1 []).lookup 9 = some (.ref i) from rfl)]
      simp only [show (H ++ [([] : List DV)])[i]? = some (row.map .int) from hl0]
    unfold forS
    rw [l]
    exact e
  exact funD_ex rfl ⟨_, (consB_next e1).trans ((consB_next e2).trans (consB_ret rfl))⟩
theorem N_fraction_value_ok (ds : List DV) (H : DH) (v : DV) (H' : DH) (h0 : N_fraction_value ds H = some (v, H')) : F_fraction_value ds H = some (v, H') := by
  obtain ⟨⟨i, row⟩, hp, h⟩ := Option.bind_eq_some_iff.mp h0
  have hp' := rowOf_inv hp
  obtain ⟨rfl, hi, hl⟩ := hp'
  simp only at hi hl h hp
  by_cases hr : row = []
  · rw [if_pos hr] at h; cases h
  rw [if_neg hr] at h
  obtain ⟨g, q, h⟩ := Option.bind_eq_some_iff.mp h
  by_cases hg : g.length ≤ 1000000
  rotate_left
  · rw [if_neg hg] at h; cases h
  rw [if_pos hg] at h
  obtain ⟨w, hw, e⟩ := Option.map_eq_some_iff.mp h
  cases e
  obtain ⟨p, hlast, hrat⟩ := Option.bind_eq_some_iff.mp hw
  have hlr : (row.map DV.int).length ≤ 1000000 := by rw [List.length_map]; omega
  have hne : ¬ ((row.map DV.int).length : Int) = 0 := by
    rw [List.length_map]
    have := List.length_pos_iff.mpr hr
    omega
  have t : toT (seq2 (map1 (getE 9) fLen) (cE (.int 0)) fEq) ⟨[(9, .ref i)], H⟩ = some (((row.map DV.int).length : Int) == 0, H) := by
    unfold toT
    rw [seq2_some (f := fEq) ((map1_some (f := fLen) rfl).trans (len_ok hi hlr)) rfl]
    rfl
  rw [beq_eq_false_iff_ne.mpr hne] at t
  have hN : N_convergents [.ref i] H = some (.ref H.length, H ++ [g.map dv]) := by
    unfold N_convergents
    rw [hp, Option.bind_some, q]; rfl
  have c : callE (consA (getE 9) nilA) N_convergents ⟨[(9, .ref i)], H⟩ = some (.ref H.length, H ++ [g.map dv]) := (callE_some rfl).trans hN
  have hgl : 0 < g.length := by
    cases g with
    | nil => cases hlast
    | cons a r => simp
  have hx : idx (-1) (g.map dv).length = some (g.length - 1) := by
    rw [List.length_map]
    unfold idx
    rw [if_neg (by omega), if_pos (by omega)]
    congr 1; omega
  have hd : (g.map dv)[g.length - 1]? = some (dv p) := by
    rw [List.getElem?_map, ← List.getLast?_eq_getElem?, hlast]; rfl
  have e2 := asgS_some (g := tupG [(setG 2), (setG 3)]) (σ' := ⟨[(9, .ref i), (2, .int p.1), (3, .int p.2)], H ++ [g.map dv]⟩) ((seq2_some (d2 := map1 (cE (.int 1)) fNeg) (f := fItem) c rfl).trans (item_ok (last_get _ _) (by rw [List.length_map]; exact hg) hx hd)) rfl
  exact funD_ex rfl ⟨_, (consB_next (ifS_f t)).trans ((consB_next e2).trans (consB_ret (retS_some ((callE_some rfl).trans ((N_rat_at p.1 p.2 _).trans (by rw [hrat]; rfl))))))⟩
end Mine
end
section
set_option maxRecDepth 100000
namespace Mine
open PySem PySem.Calls PyProof.Rows PySem.SeqAt
noncomputable def recOf : Stmt → DefRec
  | .FunctionDef name a b _ _ _ sc _ _ pos => ⟨name, a, b, sc, pos⟩
  | _ => ⟨Str.empty, ⟨[], [], none, [], [], none, []⟩, [], ⟨.function, [], false, false, []⟩, ⟨0, 0, 0, 0⟩⟩
noncomputable def rcd (i : Nat) : DefRec := recOf ((PySem.Challenge.pw_tk0012_01.main.body)[i]?.getD (.Pass ⟨0, 0, 0, 0⟩))
theorem dbg_0 : (nm 0 == ("__debug__" : Str)) = false := by decide
theorem dbg_1 : (nm 1 == ("__debug__" : Str)) = false := by decide
theorem dbg_2 : (nm 2 == ("__debug__" : Str)) = false := by decide
theorem dbg_3 : (nm 3 == ("__debug__" : Str)) = false := by decide
theorem dbg_4 : (nm 4 == ("__debug__" : Str)) = false := by decide
theorem dbg_5 : (nm 5 == ("__debug__" : Str)) = false := by decide
theorem dbg_6 : (nm 6 == ("__debug__" : Str)) = false := by decide
theorem dbg_7 : (nm 7 == ("__debug__" : Str)) = false := by decide
theorem dbg_8 : (nm 8 == ("__debug__" : Str)) = false := by decide
theorem dbg_9 : (nm 9 == ("__debug__" : Str)) = false := by decide
theorem dbg_10 : (nm 10 == ("__debug__" : Str)) = false := by decide
theorem dbg_11 : (nm 11 == ("__debug__" : Str)) = false := by decide
theorem dbg_12 : (nm 12 == ("__debug__" : Str)) = false := by decide
theorem dbg_13 : (nm 13 == ("__debug__" : Str)) = false := by decide
theorem dbg_14 : (nm 14 == ("__debug__" : Str)) = false := by decide
theorem dbg_15 : (nm 15 == ("__debug__" : Str)) = false := by decide
theorem dbg_16 : (nm 16 == ("__debug__" : Str)) = false := by decide
theorem dbg_17 : (nm 17 == ("__debug__" : Str)) = false := by decide
theorem dbg_18 : (nm 18 == ("__debug__" : Str)) = false := by decide
theorem dbg_19 : (nm 19 == ("__debug__" : Str)) = false := by decide
theorem dbg_20 : (nm 20 == ("__debug__" : Str)) = false := by decide
theorem dbg_21 : (nm 21 == ("__debug__" : Str)) = false := by decide
theorem dbg_22 : (nm 22 == ("__debug__" : Str)) = false := by decide
theorem dbg_23 : (nm 23 == ("__debug__" : Str)) = false := by decide
theorem dbg_24 : (nm 24 == ("__debug__" : Str)) = false := by decide
theorem dbg_25 : (nm 25 == ("__debug__" : Str)) = false := by decide
theorem dbg_26 : (nm 26 == ("__debug__" : Str)) = false := by decide
theorem dbg_27 : (nm 27 == ("__debug__" : Str)) = false := by decide
theorem dbg_28 : (nm 28 == ("__debug__" : Str)) = false := by decide
theorem dbg_29 : (nm 29 == ("__debug__" : Str)) = false := by decide
theorem dbg_30 : (nm 30 == ("__debug__" : Str)) = false := by decide
theorem dbg_31 : (nm 31 == ("__debug__" : Str)) = false := by decide
theorem dbg_32 : (nm 32 == ("__debug__" : Str)) = false := by decide
theorem dbg_33 : (nm 33 == ("__debug__" : Str)) = false := by decide
theorem dbg_34 : (nm 34 == ("__debug__" : Str)) = false := by decide
theorem dbg_35 : (nm 35 == ("__debug__" : Str)) = false := by decide
theorem dbg_36 : (nm 36 == ("__debug__" : Str)) = false := by decide
theorem dbg_37 : (nm 37 == ("__debug__" : Str)) = false := by decide
structure Cx (S : Heap) (mg mb : Str → Option Value) : Prop where
  G : Gl S nm mg mb
  miss_abs : mg "abs" = none
  miss_enumerate : mg "enumerate" = none
  miss_int : mg "int" = none
  miss_len : mg "len" = none
  miss_range : mg "range" = none
  miss_sum : mg "sum" = none
theorem boot_abs : bootBuiltins "abs" = some (.builtin "abs") := by boot_fast
theorem boot_enumerate : bootBuiltins "enumerate" = some (.type "enumerate") := by boot_fast
theorem boot_int : bootBuiltins "int" = some (.type "int") := by boot_fast
theorem boot_len : bootBuiltins "len" = some (.builtin "len") := by boot_fast
theorem boot_range : bootBuiltins "range" = some (.type "range") := by boot_fast
theorem boot_sum : bootBuiltins "sum" = some (.builtin "sum") := by boot_fast
section
variable {prog : Program} {w : World} {S : Heap} {mg mb : Str → Option Value}
theorem lk_gcd_0 : (rcd 3).scope.names.lookup (nm 0) = some .local := by kernel_rfl
theorem lk_gcd_1 : (rcd 3).scope.names.lookup (nm 1) = some .local := by kernel_rfl
theorem bn_gcd_0_abs (C : Cx S mg mb) : BName (rcd 3).scope mg "abs" (.builtin "abs") := ⟨by kernel_rfl, by decide, C.miss_abs, by decide, boot_abs⟩
theorem snd_gcd (C : Cx S mg mb)  : SndB prog w S nm (rcd 3).scope 0 (rcd 3).body d_gcd := by
  unfold d_gcd
  exact (SndB.cons (SndS.assignSw C.G.inj (xs := [0, 1]) (SndE.tuple (SndA.cons (SndE.callB C.G (bn_gcd_0_abs C) (SndE.name (x := 0) rfl dbg_0) (starOne rfl) op_abs) (SndA.cons (SndE.callB C.G (bn_gcd_0_abs C) (SndE.name (x := 1) rfl dbg_1) (starOne rfl) op_abs) SndA.nil (starCons rfl)) (starCons rfl))) rfl (by simp only [List.forall_mem_cons]; exact ⟨.inl lk_gcd_0, .inl lk_gcd_1, fun _ h => nomatch h⟩) (fun _ _ => rfl) (sw_of fun _ _ _ _ _ _ _ _ => by kernel_rfl))
  (SndB.cons (SndS.while 100 (SndT.cmp (SndE.name (x := 1) rfl dbg_1) SndE.cI op_ne (by with_unfolding_all rfl)) (SndB.cons (SndS.assignSw C.G.inj (xs := [0, 1]) (SndE.tuple (SndA.cons (SndE.name (x := 1) rfl dbg_1) (SndA.cons (SndE.bin (SndE.name (x := 0) rfl dbg_0) (SndE.name (x := 1) rfl dbg_1) op_mod) SndA.nil (starCons rfl)) (starCons rfl))) rfl (by simp only [List.forall_mem_cons]; exact ⟨.inl lk_gcd_0, .inl lk_gcd_1, fun _ h => nomatch h⟩) (fun _ _ => rfl) (sw_of fun _ _ _ _ _ _ _ _ => by kernel_rfl))
  SndB.nil))
  (SndB.cons (SndS.ret (SndE.name (x := 0) rfl dbg_0))
  SndB.nil)))
theorem ok_gcd (C : Cx S mg mb) (hd : DefAt S mg (rcd 3))  : FnOK prog w S mg 1 "gcd" F_gcd :=
  FnOK.def C.G (d := rcd 3) (xs := [0, 1]) hd (by intro pm code doc vs h; match vs, h with | [a0, a1], _ => rfl) (by decide) (by simp only [List.forall_mem_cons]; exact ⟨.inl lk_gcd_0, .inl lk_gcd_1, fun _ h => nomatch h⟩) rfl rfl rfl (snd_gcd C )
theorem lk_rat_3 : (rcd 5).scope.names.lookup (nm 3) = some .local := by kernel_rfl
theorem lk_rat_4 : (rcd 5).scope.names.lookup (nm 4) = some .local := by kernel_rfl
theorem lk_rat_2 : (rcd 5).scope.names.lookup (nm 2) = some .local := by kernel_rfl
theorem gk_rat_gcd : (rcd 5).scope.names.lookup (Str.ofString "gcd") = some .globalImplicit := by kernel_rfl
theorem snd_rat (C : Cx S mg mb) (H_gcd : FnOK prog w S mg 1 "gcd" F_gcd) : SndB prog w S nm (rcd 5).scope 1 (rcd 5).body d_rat := by
  unfold d_rat
  exact (SndB.cons (SndS.ite (SndT.cmp (SndE.name (x := 3) rfl dbg_3) SndE.cI op_eq (by with_unfolding_all rfl)) (SndB.cons SndS.no
  SndB.nil) SndB.nil)
  (SndB.cons (SndS.assign (SndE.ite (SndT.cmp (SndE.name (x := 3) rfl dbg_3) SndE.cI op_gt (by with_unfolding_all rfl)) (SndE.callF C.G ((H_gcd.of N_gcd_ok).mono (by decide)) rfl gk_rat_gcd (by decide) (SndA.cons (SndE.name (x := 2) rfl dbg_2) (SndA.cons (SndE.name (x := 3) rfl dbg_3) SndA.nil (starCons rfl)) (starCons rfl)) (starCons rfl)) (SndE.bin SndE.cI (SndE.callF C.G ((H_gcd.of N_gcd_ok).mono (by decide)) rfl gk_rat_gcd (by decide) (SndA.cons (SndE.name (x := 2) rfl dbg_2) (SndA.cons (SndE.name (x := 3) rfl dbg_3) SndA.nil (starCons rfl)) (starCons rfl)) (starCons rfl)) op_sub)) (SndG.name C.G.inj (x := 4) rfl (.inl lk_rat_4)) (fun _ => rfl) (fun _ _ => rfl) (fun _ _ => rfl))
  (SndB.cons (SndS.ret (SndE.tuple (SndA.cons (SndE.bin (SndE.name (x := 2) rfl dbg_2) (SndE.name (x := 4) rfl dbg_4) op_div) (SndA.cons (SndE.bin (SndE.name (x := 3) rfl dbg_3) (SndE.name (x := 4) rfl dbg_4) op_div) SndA.nil (starCons rfl)) (starCons rfl))))
  SndB.nil)))
theorem ok_rat (C : Cx S mg mb) (hd : DefAt S mg (rcd 5)) (H_gcd : FnOK prog w S mg 1 "gcd" F_gcd) : FnOK prog w S mg 2 "rat" F_rat :=
  FnOK.def C.G (d := rcd 5) (xs := [2, 3]) hd (by intro pm code doc vs h; match vs, h with | [a0, a1], _ => rfl) (by decide) (by simp only [List.forall_mem_cons]; exact ⟨.inl lk_rat_2, .inl lk_rat_3, fun _ h => nomatch h⟩) rfl rfl rfl (snd_rat C H_gcd)
theorem lk_rsub_0 : (rcd 6).scope.names.lookup (nm 0) = some .local := by kernel_rfl
theorem lk_rsub_1 : (rcd 6).scope.names.lookup (nm 1) = some .local := by kernel_rfl
theorem gk_rsub_rat : (rcd 6).scope.names.lookup (Str.ofString "rat") = some .globalImplicit := by kernel_rfl
theorem snd_rsub (C : Cx S mg mb) (H_rat : FnOK prog w S mg 2 "rat" F_rat) : SndB prog w S nm (rcd 6).scope 2 (rcd 6).body d_rsub := by
  unfold d_rsub
  exact (SndB.cons (SndS.ret (SndE.callF C.G ((H_rat.of N_rat_ok).mono (by decide)) rfl gk_rsub_rat (by decide) (SndA.cons (SndE.bin (SndE.bin (SndE.item (SndE.name (x := 0) rfl dbg_0) SndE.cI (fun _ _ => rfl)) (SndE.item (SndE.name (x := 1) rfl dbg_1) SndE.cI (fun _ _ => rfl)) op_mul) (SndE.bin (SndE.item (SndE.name (x := 1) rfl dbg_1) SndE.cI (fun _ _ => rfl)) (SndE.item (SndE.name (x := 0) rfl dbg_0) SndE.cI (fun _ _ => rfl)) op_mul) op_sub) (SndA.cons (SndE.bin (SndE.item (SndE.name (x := 0) rfl dbg_0) SndE.cI (fun _ _ => rfl)) (SndE.item (SndE.name (x := 1) rfl dbg_1) SndE.cI (fun _ _ => rfl)) op_mul) SndA.nil (starCons rfl)) (starCons rfl)) (starCons rfl)))
  SndB.nil)
theorem ok_rsub (C : Cx S mg mb) (hd : DefAt S mg (rcd 6)) (H_rat : FnOK prog w S mg 2 "rat" F_rat) : FnOK prog w S mg 3 "rsub" F_rsub :=
  FnOK.def C.G (d := rcd 6) (xs := [0, 1]) hd (by intro pm code doc vs h; match vs, h with | [a0, a1], _ => rfl) (by decide) (by simp only [List.forall_mem_cons]; exact ⟨.inl lk_rsub_0, .inl lk_rsub_1, fun _ h => nomatch h⟩) rfl rfl rfl (snd_rsub C H_rat)
theorem lk_rinv_0 : (rcd 7).scope.names.lookup (nm 0) = some .local := by kernel_rfl
theorem gk_rinv_rat : (rcd 7).scope.names.lookup (Str.ofString "rat") = some .globalImplicit := by kernel_rfl
theorem snd_rinv (C : Cx S mg mb) (H_rat : FnOK prog w S mg 2 "rat" F_rat) : SndB prog w S nm (rcd 7).scope 2 (rcd 7).body d_rinv := by
  unfold d_rinv
  exact (SndB.cons (SndS.ret (SndE.callF C.G ((H_rat.of N_rat_ok).mono (by decide)) rfl gk_rinv_rat (by decide) (SndA.cons (SndE.item (SndE.name (x := 0) rfl dbg_0) SndE.cI (fun _ _ => rfl)) (SndA.cons (SndE.item (SndE.name (x := 0) rfl dbg_0) SndE.cI (fun _ _ => rfl)) SndA.nil (starCons rfl)) (starCons rfl)) (starCons rfl)))
  SndB.nil)
theorem ok_rinv (C : Cx S mg mb) (hd : DefAt S mg (rcd 7)) (H_rat : FnOK prog w S mg 2 "rat" F_rat) : FnOK prog w S mg 3 "rinv" F_rinv :=
  FnOK.def C.G (d := rcd 7) (xs := [0]) hd (by intro pm code doc vs h; match vs, h with | [a0], _ => rfl) (by decide) (by simp only [List.forall_mem_cons]; exact ⟨.inl lk_rinv_0, fun _ h => nomatch h⟩) rfl rfl rfl (snd_rinv C H_rat)
theorem lk_rcompare_0 : (rcd 8).scope.names.lookup (nm 0) = some .local := by kernel_rfl
theorem lk_rcompare_1 : (rcd 8).scope.names.lookup (nm 1) = some .local := by kernel_rfl
theorem lk_rcompare_5 : (rcd 8).scope.names.lookup (nm 5) = some .local := by kernel_rfl
theorem snd_rcompare (C : Cx S mg mb)  : SndB prog w S nm (rcd 8).scope 0 (rcd 8).body d_rcompare := by
  unfold d_rcompare
  exact (SndB.cons (SndS.assign (SndE.bin (SndE.bin (SndE.item (SndE.name (x := 0) rfl dbg_0) SndE.cI (fun _ _ => rfl)) (SndE.item (SndE.name (x := 1) rfl dbg_1) SndE.cI (fun _ _ => rfl)) op_mul) (SndE.bin (SndE.item (SndE.name (x := 1) rfl dbg_1) SndE.cI (fun _ _ => rfl)) (SndE.item (SndE.name (x := 0) rfl dbg_0) SndE.cI (fun _ _ => rfl)) op_mul) op_sub) (SndG.name C.G.inj (x := 5) rfl (.inl lk_rcompare_5)) (fun _ => rfl) (fun _ _ => rfl) (fun _ _ => rfl))
  (SndB.cons (SndS.ret (SndE.bin (SndE.cmp (SndE.name (x := 5) rfl dbg_5) SndE.cI op_gt (by with_unfolding_all rfl)) (SndE.cmp (SndE.name (x := 5) rfl dbg_5) SndE.cI op_lt (by with_unfolding_all rfl)) op_sub))
  SndB.nil))
theorem ok_rcompare (C : Cx S mg mb) (hd : DefAt S mg (rcd 8))  : FnOK prog w S mg 1 "rcompare" F_rcompare :=
  FnOK.def C.G (d := rcd 8) (xs := [0, 1]) hd (by intro pm code doc vs h; match vs, h with | [a0, a1], _ => rfl) (by decide) (by simp only [List.forall_mem_cons]; exact ⟨.inl lk_rcompare_0, .inl lk_rcompare_1, fun _ h => nomatch h⟩) rfl rfl rfl (snd_rcompare C )
theorem lk_rfloor_0 : (rcd 9).scope.names.lookup (nm 0) = some .local := by kernel_rfl
theorem snd_rfloor (C : Cx S mg mb)  : SndB prog w S nm (rcd 9).scope 0 (rcd 9).body d_rfloor := by
  unfold d_rfloor
  exact (SndB.cons (SndS.ret (SndE.bin (SndE.item (SndE.name (x := 0) rfl dbg_0) SndE.cI (fun _ _ => rfl)) (SndE.item (SndE.name (x := 0) rfl dbg_0) SndE.cI (fun _ _ => rfl)) op_div))
  SndB.nil)
theorem ok_rfloor (C : Cx S mg mb) (hd : DefAt S mg (rcd 9))  : FnOK prog w S mg 1 "rfloor" F_rfloor :=
  FnOK.def C.G (d := rcd 9) (xs := [0]) hd (by intro pm code doc vs h; match vs, h with | [a0], _ => rfl) (by decide) (by simp only [List.forall_mem_cons]; exact ⟨.inl lk_rfloor_0, fun _ h => nomatch h⟩) rfl rfl rfl (snd_rfloor C )
theorem lk_fraction_row_7 : (rcd 11).scope.names.lookup (nm 7) = some .local := by kernel_rfl
theorem lk_fraction_row_6 : (rcd 11).scope.names.lookup (nm 6) = some .local := by kernel_rfl
theorem lk_fraction_row_8 : (rcd 11).scope.names.lookup (nm 8) = some .local := by kernel_rfl
theorem gk_fraction_row_rfloor : (rcd 11).scope.names.lookup (Str.ofString "rfloor") = some .globalImplicit := by kernel_rfl
theorem gk_fraction_row_rinv : (rcd 11).scope.names.lookup (Str.ofString "rinv") = some .globalImplicit := by kernel_rfl
theorem gk_fraction_row_rsub : (rcd 11).scope.names.lookup (Str.ofString "rsub") = some .globalImplicit := by kernel_rfl
theorem snd_fraction_row (C : Cx S mg mb) (H_rsub : FnOK prog w S mg 3 "rsub" F_rsub) (H_rinv : FnOK prog w S mg 3 "rinv" F_rinv) (H_rfloor : FnOK prog w S mg 1 "rfloor" F_rfloor) : SndB prog w S nm (rcd 11).scope 3 (rcd 11).body d_fraction_row := by
  unfold d_fraction_row
  exact (SndB.cons (SndS.assign (SndE.list SndA.nil) (SndG.name C.G.inj (x := 7) rfl (.inl lk_fraction_row_7)) (fun _ => rfl) (fun _ _ => rfl) (fun _ _ => rfl))
  (SndB.cons (SndS.while 100 SndT.cB (SndB.cons (SndS.assign (SndE.callF C.G ((H_rfloor.of N_rfloor_ok).mono (by decide)) rfl gk_fraction_row_rfloor (by decide) (SndA.cons (SndE.name (x := 6) rfl dbg_6) SndA.nil (starCons rfl)) (starCons rfl)) (SndG.name C.G.inj (x := 8) rfl (.inl lk_fraction_row_8)) (fun _ => rfl) (fun _ _ => rfl) (fun _ _ => rfl))
  (SndB.cons (SndS.append (x := 7) rfl dbg_7 (SndE.name (x := 8) rfl dbg_8) (fun _ _ => rfl) (starOne rfl) rfl)
  (SndB.cons (SndS.assign (SndE.callF C.G ((H_rsub.of N_rsub_ok).mono (by decide)) rfl gk_fraction_row_rsub (by decide) (SndA.cons (SndE.name (x := 6) rfl dbg_6) (SndA.cons (SndE.tuple (SndA.cons (SndE.name (x := 8) rfl dbg_8) (SndA.cons SndE.cI SndA.nil (starCons rfl)) (starCons rfl))) SndA.nil (starCons rfl)) (starCons rfl)) (starCons rfl)) (SndG.name C.G.inj (x := 6) rfl (.inl lk_fraction_row_6)) (fun _ => rfl) (fun _ _ => rfl) (fun _ _ => rfl))
  (SndB.cons (SndS.ite (SndT.cmp (SndE.item (SndE.name (x := 6) rfl dbg_6) SndE.cI (fun _ _ => rfl)) SndE.cI op_eq (by with_unfolding_all rfl)) (SndB.cons (SndS.ret (SndE.name (x := 7) rfl dbg_7))
  SndB.nil) SndB.nil)
  (SndB.cons (SndS.assign (SndE.callF C.G ((H_rinv.of N_rinv_ok).mono (by decide)) rfl gk_fraction_row_rinv (by decide) (SndA.cons (SndE.name (x := 6) rfl dbg_6) SndA.nil (starCons rfl)) (starCons rfl)) (SndG.name C.G.inj (x := 6) rfl (.inl lk_fraction_row_6)) (fun _ => rfl) (fun _ _ => rfl) (fun _ _ => rfl))
  SndB.nil))))))
  SndB.nil))
theorem ok_fraction_row (C : Cx S mg mb) (hd : DefAt S mg (rcd 11)) (H_rsub : FnOK prog w S mg 3 "rsub" F_rsub) (H_rinv : FnOK prog w S mg 3 "rinv" F_rinv) (H_rfloor : FnOK prog w S mg 1 "rfloor" F_rfloor) : FnOK prog w S mg 4 "fraction_row" F_fraction_row :=
  FnOK.def C.G (d := rcd 11) (xs := [6]) hd (by intro pm code doc vs h; match vs, h with | [a0], _ => rfl) (by decide) (by simp only [List.forall_mem_cons]; exact ⟨.inl lk_fraction_row_6, fun _ h => nomatch h⟩) rfl rfl rfl (snd_fraction_row C H_rsub H_rinv H_rfloor)
theorem lk_convergents_7 : (rcd 12).scope.names.lookup (nm 7) = some .local := by kernel_rfl
theorem lk_convergents_10 : (rcd 12).scope.names.lookup (nm 10) = some .local := by kernel_rfl
theorem lk_convergents_11 : (rcd 12).scope.names.lookup (nm 11) = some .local := by kernel_rfl
theorem lk_convergents_9 : (rcd 12).scope.names.lookup (nm 9) = some .local := by kernel_rfl
theorem lk_convergents_8 : (rcd 12).scope.names.lookup (nm 8) = some .local := by kernel_rfl
theorem snd_convergents (C : Cx S mg mb)  : SndB prog w S nm (rcd 12).scope 0 (rcd 12).body d_convergents := by
  unfold d_convergents
  exact (SndB.cons (SndS.assignSw C.G.inj (xs := [7, 10, 11]) (SndE.tuple (SndA.cons (SndE.list SndA.nil) (SndA.cons (SndE.tuple (SndA.cons SndE.cI (SndA.cons SndE.cI SndA.nil (starCons rfl)) (starCons rfl))) (SndA.cons (SndE.tuple (SndA.cons SndE.cI (SndA.cons SndE.cI SndA.nil (starCons rfl)) (starCons rfl))) SndA.nil (starCons rfl)) (starCons rfl)) (starCons rfl))) rfl (by simp only [List.forall_mem_cons]; exact ⟨.inl lk_convergents_7, .inl lk_convergents_10, .inl lk_convergents_11, fun _ h => nomatch h⟩) (fun _ _ => rfl) (sw_of fun _ _ _ _ _ _ _ _ => by kernel_rfl))
  (SndB.cons (SndS.for 100 (SndI.list (SndE.name (x := 9) rfl dbg_9)) (SndB.cons (SndS.assignSw C.G.inj (xs := [10, 11]) (SndE.tuple (SndA.cons (SndE.tuple (SndA.cons (SndE.bin (SndE.bin (SndE.name (x := 8) rfl dbg_8) (SndE.item (SndE.name (x := 10) rfl dbg_10) SndE.cI (fun _ _ => rfl)) op_mul) (SndE.item (SndE.name (x := 11) rfl dbg_11) SndE.cI (fun _ _ => rfl)) op_add) (SndA.cons (SndE.bin (SndE.bin (SndE.name (x := 8) rfl dbg_8) (SndE.item (SndE.name (x := 10) rfl dbg_10) SndE.cI (fun _ _ => rfl)) op_mul) (SndE.item (SndE.name (x := 11) rfl dbg_11) SndE.cI (fun _ _ => rfl)) op_add) SndA.nil (starCons rfl)) (starCons rfl))) (SndA.cons (SndE.name (x := 10) rfl dbg_10) SndA.nil (starCons rfl)) (starCons rfl))) rfl (by simp only [List.forall_mem_cons]; exact ⟨.inl lk_convergents_10, .inl lk_convergents_11, fun _ h => nomatch h⟩) (fun _ _ => rfl) (sw_of fun _ _ _ _ _ _ _ _ => by kernel_rfl))
  (SndB.cons (SndS.append (x := 7) rfl dbg_7 (SndE.ite (SndT.cmp (SndE.item (SndE.name (x := 10) rfl dbg_10) SndE.cI (fun _ _ => rfl)) SndE.cI op_ge (by with_unfolding_all rfl)) (SndE.name (x := 10) rfl dbg_10) (SndE.tuple (SndA.cons (SndE.bin SndE.cI (SndE.item (SndE.name (x := 10) rfl dbg_10) SndE.cI (fun _ _ => rfl)) op_sub) (SndA.cons (SndE.bin SndE.cI (SndE.item (SndE.name (x := 10) rfl dbg_10) SndE.cI (fun _ _ => rfl)) op_sub) SndA.nil (starCons rfl)) (starCons rfl)))) (fun _ _ => rfl) (starOne rfl) rfl)
  SndB.nil)) (SndG.name C.G.inj (x := 8) rfl (.inl lk_convergents_8)) lstI_not (fun _ _ => rfl))
  (SndB.cons (SndS.ret (SndE.name (x := 7) rfl dbg_7))
  SndB.nil)))
theorem ok_convergents (C : Cx S mg mb) (hd : DefAt S mg (rcd 12))  : FnOK prog w S mg 1 "convergents" F_convergents :=
  FnOK.def C.G (d := rcd 12) (xs := [9]) hd (by intro pm code doc vs h; match vs, h with | [a0], _ => rfl) (by decide) (by simp only [List.forall_mem_cons]; exact ⟨.inl lk_convergents_9, fun _ h => nomatch h⟩) rfl rfl rfl (snd_convergents C )
theorem lk_fraction_value_3 : (rcd 13).scope.names.lookup (nm 3) = some .local := by kernel_rfl
theorem lk_fraction_value_9 : (rcd 13).scope.names.lookup (nm 9) = some .local := by kernel_rfl
theorem lk_fraction_value_2 : (rcd 13).scope.names.lookup (nm 2) = some .local := by kernel_rfl
theorem gk_fraction_value_convergents : (rcd 13).scope.names.lookup (Str.ofString "convergents") = some .globalImplicit := by kernel_rfl
theorem gk_fraction_value_rat : (rcd 13).scope.names.lookup (Str.ofString "rat") = some .globalImplicit := by kernel_rfl
theorem bn_fraction_value_0_len (C : Cx S mg mb) : BName (rcd 13).scope mg "len" (.builtin "len") := ⟨by kernel_rfl, by decide, C.miss_len, by decide, boot_len⟩
theorem snd_fraction_value (C : Cx S mg mb) (H_rat : FnOK prog w S mg 2 "rat" F_rat) (H_convergents : FnOK prog w S mg 1 "convergents" F_convergents) : SndB prog w S nm (rcd 13).scope 2 (rcd 13).body d_fraction_value := by
  unfold d_fraction_value
  exact (SndB.cons (SndS.ite (SndT.cmp (SndE.callB C.G (bn_fraction_value_0_len C) (SndE.name (x := 9) rfl dbg_9) (starOne rfl) op_len) SndE.cI op_eq (by with_unfolding_all rfl)) (SndB.cons SndS.no
  SndB.nil) SndB.nil)
  (SndB.cons (SndS.assign (SndE.item (SndE.callF C.G ((H_convergents.of N_convergents_ok).mono (by decide)) rfl gk_fraction_value_convergents (by decide) (SndA.cons (SndE.name (x := 9) rfl dbg_9) SndA.nil (starCons rfl)) (starCons rfl)) (SndE.neg SndE.cI) (fun _ _ => rfl)) (SndG.tuple (SndGs.cons (SndG.name C.G.inj (x := 2) rfl (.inl lk_fraction_value_2)) (SndGs.cons (SndG.name C.G.inj (x := 3) rfl (.inl lk_fraction_value_3)) SndGs.nil)) (fun _ => rfl) rfl) (fun _ => rfl) (fun _ _ => rfl) (fun _ _ => rfl))
  (SndB.cons (SndS.ret (SndE.callF C.G ((H_rat.of N_rat_ok).mono (by decide)) rfl gk_fraction_value_rat (by decide) (SndA.cons (SndE.name (x := 2) rfl dbg_2) (SndA.cons (SndE.name (x := 3) rfl dbg_3) SndA.nil (starCons rfl)) (starCons rfl)) (starCons rfl)))
  SndB.nil)))
theorem ok_fraction_value (C : Cx S mg mb) (hd : DefAt S mg (rcd 13)) (H_rat : FnOK prog w S mg 2 "rat" F_rat) (H_convergents : FnOK prog w S mg 1 "convergents" F_convergents) : FnOK prog w S mg 3 "fraction_value" F_fraction_value :=
  FnOK.def C.G (d := rcd 13) (xs := [9]) hd (by intro pm code doc vs h; match vs, h with | [a0], _ => rfl) (by decide) (by simp only [List.forall_mem_cons]; exact ⟨.inl lk_fraction_value_9, fun _ h => nomatch h⟩) rfl rfl rfl (snd_fraction_value C H_rat H_convergents)
theorem lk_distance_0 : (rcd 14).scope.names.lookup (nm 0) = some .local := by kernel_rfl
theorem lk_distance_1 : (rcd 14).scope.names.lookup (nm 1) = some .local := by kernel_rfl
theorem lk_distance_7 : (rcd 14).scope.names.lookup (nm 7) = some .local := by kernel_rfl
theorem gk_distance_rsub : (rcd 14).scope.names.lookup (Str.ofString "rsub") = some .globalImplicit := by kernel_rfl
theorem bn_distance_0_abs (C : Cx S mg mb) : BName (rcd 14).scope mg "abs" (.builtin "abs") := ⟨by kernel_rfl, by decide, C.miss_abs, by decide, boot_abs⟩
theorem snd_distance (C : Cx S mg mb) (H_rsub : FnOK prog w S mg 3 "rsub" F_rsub) : SndB prog w S nm (rcd 14).scope 3 (rcd 14).body d_distance := by
  unfold d_distance
  exact (SndB.cons (SndS.assign (SndE.callF C.G ((H_rsub.of N_rsub_ok).mono (by decide)) rfl gk_distance_rsub (by decide) (SndA.cons (SndE.name (x := 0) rfl dbg_0) (SndA.cons (SndE.name (x := 1) rfl dbg_1) SndA.nil (starCons rfl)) (starCons rfl)) (starCons rfl)) (SndG.name C.G.inj (x := 7) rfl (.inl lk_distance_7)) (fun _ => rfl) (fun _ _ => rfl) (fun _ _ => rfl))
  (SndB.cons (SndS.ret (SndE.tuple (SndA.cons (SndE.callB C.G (bn_distance_0_abs C) (SndE.item (SndE.name (x := 7) rfl dbg_7) SndE.cI (fun _ _ => rfl)) (starOne rfl) op_abs) (SndA.cons (SndE.item (SndE.name (x := 7) rfl dbg_7) SndE.cI (fun _ _ => rfl)) SndA.nil (starCons rfl)) (starCons rfl))))
  SndB.nil))
theorem ok_distance (C : Cx S mg mb) (hd : DefAt S mg (rcd 14)) (H_rsub : FnOK prog w S mg 3 "rsub" F_rsub) : FnOK prog w S mg 4 "distance" F_distance :=
  FnOK.def C.G (d := rcd 14) (xs := [0, 1]) hd (by intro pm code doc vs h; match vs, h with | [a0, a1], _ => rfl) (by decide) (by simp only [List.forall_mem_cons]; exact ⟨.inl lk_distance_0, .inl lk_distance_1, fun _ h => nomatch h⟩) rfl rfl rfl (snd_distance C H_rsub)
theorem lk_nearer_10 : (rcd 15).scope.names.lookup (nm 10) = some .local := by kernel_rfl
theorem lk_nearer_11 : (rcd 15).scope.names.lookup (nm 11) = some .local := by kernel_rfl
theorem lk_nearer_6 : (rcd 15).scope.names.lookup (nm 6) = some .local := by kernel_rfl
theorem lk_nearer_12 : (rcd 15).scope.names.lookup (nm 12) = some .local := by kernel_rfl
theorem gk_nearer_distance : (rcd 15).scope.names.lookup (Str.ofString "distance") = some .globalImplicit := by kernel_rfl
theorem gk_nearer_rcompare : (rcd 15).scope.names.lookup (Str.ofString "rcompare") = some .globalImplicit := by kernel_rfl
theorem snd_nearer (C : Cx S mg mb) (H_rcompare : FnOK prog w S mg 1 "rcompare" F_rcompare) (H_distance : FnOK prog w S mg 4 "distance" F_distance) : SndB prog w S nm (rcd 15).scope 4 (rcd 15).body d_nearer := by
  unfold d_nearer
  exact (SndB.cons (SndS.assign (SndE.callF C.G ((H_rcompare.of N_rcompare_ok).mono (by decide)) rfl gk_nearer_rcompare (by decide) (SndA.cons (SndE.callF C.G ((H_distance.of N_distance_ok).mono (by decide)) rfl gk_nearer_distance (by decide) (SndA.cons (SndE.name (x := 6) rfl dbg_6) (SndA.cons (SndE.name (x := 10) rfl dbg_10) SndA.nil (starCons rfl)) (starCons rfl)) (starCons rfl)) (SndA.cons (SndE.callF C.G ((H_distance.of N_distance_ok).mono (by decide)) rfl gk_nearer_distance (by decide) (SndA.cons (SndE.name (x := 6) rfl dbg_6) (SndA.cons (SndE.name (x := 11) rfl dbg_11) SndA.nil (starCons rfl)) (starCons rfl)) (starCons rfl)) SndA.nil (starCons rfl)) (starCons rfl)) (starCons rfl)) (SndG.name C.G.inj (x := 12) rfl (.inl lk_nearer_12)) (fun _ => rfl) (fun _ _ => rfl) (fun _ _ => rfl))
  (SndB.cons (SndS.ite (SndT.cmp (SndE.name (x := 12) rfl dbg_12) SndE.cI op_eq (by with_unfolding_all rfl)) (SndB.cons (SndS.ret (SndE.ite (SndT.cmp (SndE.item (SndE.name (x := 10) rfl dbg_10) SndE.cI (fun _ _ => rfl)) (SndE.item (SndE.name (x := 11) rfl dbg_11) SndE.cI (fun _ _ => rfl)) op_le (by with_unfolding_all rfl)) (SndE.name (x := 10) rfl dbg_10) (SndE.name (x := 11) rfl dbg_11)))
  SndB.nil) SndB.nil)
  (SndB.cons (SndS.ret (SndE.ite (SndT.cmp (SndE.name (x := 12) rfl dbg_12) SndE.cI op_lt (by with_unfolding_all rfl)) (SndE.name (x := 10) rfl dbg_10) (SndE.name (x := 11) rfl dbg_11)))
  SndB.nil)))
theorem ok_nearer (C : Cx S mg mb) (hd : DefAt S mg (rcd 15)) (H_rcompare : FnOK prog w S mg 1 "rcompare" F_rcompare) (H_distance : FnOK prog w S mg 4 "distance" F_distance) : FnOK prog w S mg 5 "nearer" F_nearer :=
  FnOK.def C.G (d := rcd 15) (xs := [6, 10, 11]) hd (by intro pm code doc vs h; match vs, h with | [a0, a1, a2], _ => rfl) (by decide) (by simp only [List.forall_mem_cons]; exact ⟨.inl lk_nearer_6, .inl lk_nearer_10, .inl lk_nearer_11, fun _ h => nomatch h⟩) rfl rfl rfl (snd_nearer C H_rcompare H_distance)
theorem lk_best_approximation_14 : (rcd 16).scope.names.lookup (nm 14) = some .local := by kernel_rfl
theorem lk_best_approximation_18 : (rcd 16).scope.names.lookup (nm 18) = some .local := by kernel_rfl
theorem lk_best_approximation_15 : (rcd 16).scope.names.lookup (nm 15) = some .local := by kernel_rfl
theorem lk_best_approximation_16 : (rcd 16).scope.names.lookup (nm 16) = some .local := by kernel_rfl
theorem lk_best_approximation_17 : (rcd 16).scope.names.lookup (nm 17) = some .local := by kernel_rfl
theorem lk_best_approximation_13 : (rcd 16).scope.names.lookup (nm 13) = some .local := by kernel_rfl
theorem lk_best_approximation_6 : (rcd 16).scope.names.lookup (nm 6) = some .local := by kernel_rfl
theorem lk_best_approximation_8 : (rcd 16).scope.names.lookup (nm 8) = some .local := by kernel_rfl
theorem gk_best_approximation_fraction_row : (rcd 16).scope.names.lookup (Str.ofString "fraction_row") = some .globalImplicit := by kernel_rfl
theorem gk_best_approximation_nearer : (rcd 16).scope.names.lookup (Str.ofString "nearer") = some .globalImplicit := by kernel_rfl
theorem snd_best_approximation (C : Cx S mg mb) (H_fraction_row : FnOK prog w S mg 4 "fraction_row" F_fraction_row) (H_nearer : FnOK prog w S mg 5 "nearer" F_nearer) : SndB prog w S nm (rcd 16).scope 5 (rcd 16).body d_best_approximation := by
  unfold d_best_approximation
  exact (SndB.cons (SndS.ite (SndT.cmp (SndE.name (x := 13) rfl dbg_13) SndE.cI op_lt (by with_unfolding_all rfl)) (SndB.cons SndS.no
  SndB.nil) SndB.nil)
  (SndB.cons (SndS.ite (SndT.cmp (SndE.item (SndE.name (x := 6) rfl dbg_6) SndE.cI (fun _ _ => rfl)) (SndE.name (x := 13) rfl dbg_13) op_le (by with_unfolding_all rfl)) (SndB.cons (SndS.ret (SndE.name (x := 6) rfl dbg_6))
  SndB.nil) SndB.nil)
  (SndB.cons (SndS.assign (SndE.tuple (SndA.cons (SndE.tuple (SndA.cons SndE.cI (SndA.cons SndE.cI SndA.nil (starCons rfl)) (starCons rfl))) (SndA.cons (SndE.tuple (SndA.cons SndE.cI (SndA.cons SndE.cI SndA.nil (starCons rfl)) (starCons rfl))) SndA.nil (starCons rfl)) (starCons rfl))) (SndG.tuple (SndGs.cons (SndG.name C.G.inj (x := 14) rfl (.inl lk_best_approximation_14)) (SndGs.cons (SndG.name C.G.inj (x := 15) rfl (.inl lk_best_approximation_15)) SndGs.nil)) (fun _ => rfl) rfl) (fun _ => rfl) (fun _ _ => rfl) (sw_of fun _ _ _ _ _ _ _ _ => by kernel_rfl))
  (SndB.cons (SndS.for 100 (SndI.list (SndE.callF C.G ((H_fraction_row.of N_fraction_row_ok).mono (by decide)) rfl gk_best_approximation_fraction_row (by decide) (SndA.cons (SndE.name (x := 6) rfl dbg_6) SndA.nil (starCons rfl)) (starCons rfl))) (SndB.cons (SndS.assign (SndE.tuple (SndA.cons (SndE.bin (SndE.bin (SndE.name (x := 8) rfl dbg_8) (SndE.item (SndE.name (x := 15) rfl dbg_15) SndE.cI (fun _ _ => rfl)) op_mul) (SndE.item (SndE.name (x := 14) rfl dbg_14) SndE.cI (fun _ _ => rfl)) op_add) (SndA.cons (SndE.bin (SndE.bin (SndE.name (x := 8) rfl dbg_8) (SndE.item (SndE.name (x := 15) rfl dbg_15) SndE.cI (fun _ _ => rfl)) op_mul) (SndE.item (SndE.name (x := 14) rfl dbg_14) SndE.cI (fun _ _ => rfl)) op_add) SndA.nil (starCons rfl)) (starCons rfl))) (SndG.name C.G.inj (x := 16) rfl (.inl lk_best_approximation_16)) (fun _ => rfl) (fun _ _ => rfl) (fun _ _ => rfl))
  (SndB.cons (SndS.ite (SndT.cmp (SndE.item (SndE.name (x := 16) rfl dbg_16) SndE.cI (fun _ _ => rfl)) (SndE.name (x := 13) rfl dbg_13) op_gt (by with_unfolding_all rfl)) (SndB.cons SndS.brk
  SndB.nil) SndB.nil)
  (SndB.cons (SndS.assignSw C.G.inj (xs := [14, 15]) (SndE.tuple (SndA.cons (SndE.name (x := 15) rfl dbg_15) (SndA.cons (SndE.name (x := 16) rfl dbg_16) SndA.nil (starCons rfl)) (starCons rfl))) rfl (by simp only [List.forall_mem_cons]; exact ⟨.inl lk_best_approximation_14, .inl lk_best_approximation_15, fun _ h => nomatch h⟩) (fun _ _ => rfl) (sw_of fun _ _ _ _ _ _ _ _ => by kernel_rfl))
  SndB.nil))) (SndG.name C.G.inj (x := 8) rfl (.inl lk_best_approximation_8)) lstI_not (fun _ _ => rfl))
  (SndB.cons (SndS.assign (SndE.bin (SndE.bin (SndE.name (x := 13) rfl dbg_13) (SndE.item (SndE.name (x := 14) rfl dbg_14) SndE.cI (fun _ _ => rfl)) op_sub) (SndE.item (SndE.name (x := 15) rfl dbg_15) SndE.cI (fun _ _ => rfl)) op_div) (SndG.name C.G.inj (x := 17) rfl (.inl lk_best_approximation_17)) (fun _ => rfl) (fun _ _ => rfl) (fun _ _ => rfl))
  (SndB.cons (SndS.assign (SndE.tuple (SndA.cons (SndE.bin (SndE.item (SndE.name (x := 14) rfl dbg_14) SndE.cI (fun _ _ => rfl)) (SndE.bin (SndE.name (x := 17) rfl dbg_17) (SndE.item (SndE.name (x := 15) rfl dbg_15) SndE.cI (fun _ _ => rfl)) op_mul) op_add) (SndA.cons (SndE.bin (SndE.item (SndE.name (x := 14) rfl dbg_14) SndE.cI (fun _ _ => rfl)) (SndE.bin (SndE.name (x := 17) rfl dbg_17) (SndE.item (SndE.name (x := 15) rfl dbg_15) SndE.cI (fun _ _ => rfl)) op_mul) op_add) SndA.nil (starCons rfl)) (starCons rfl))) (SndG.name C.G.inj (x := 18) rfl (.inl lk_best_approximation_18)) (fun _ => rfl) (fun _ _ => rfl) (fun _ _ => rfl))
  (SndB.cons (SndS.ret (SndE.ite (SndT.cmp (SndE.item (SndE.name (x := 18) rfl dbg_18) SndE.cI (fun _ _ => rfl)) SndE.cI op_gt (by with_unfolding_all rfl)) (SndE.callF C.G ((H_nearer.of N_nearer_ok).mono (by decide)) rfl gk_best_approximation_nearer (by decide) (SndA.cons (SndE.name (x := 6) rfl dbg_6) (SndA.cons (SndE.name (x := 15) rfl dbg_15) (SndA.cons (SndE.name (x := 18) rfl dbg_18) SndA.nil (starCons rfl)) (starCons rfl)) (starCons rfl)) (starCons rfl)) (SndE.name (x := 15) rfl dbg_15)))
  SndB.nil)))))))
theorem ok_best_approximation (C : Cx S mg mb) (hd : DefAt S mg (rcd 16)) (H_fraction_row : FnOK prog w S mg 4 "fraction_row" F_fraction_row) (H_nearer : FnOK prog w S mg 5 "nearer" F_nearer) : FnOK prog w S mg 6 "best_approximation" F_best_approximation :=
  FnOK.def C.G (d := rcd 16) (xs := [6, 13]) hd (by intro pm code doc vs h; match vs, h with | [a0, a1], _ => rfl) (by decide) (by simp only [List.forall_mem_cons]; exact ⟨.inl lk_best_approximation_6, .inl lk_best_approximation_13, fun _ h => nomatch h⟩) rfl rfl rfl (snd_best_approximation C H_fraction_row H_nearer)
theorem lk_law_draw_17 : (rcd 18).scope.names.lookup (nm 17) = some .local := by kernel_rfl
theorem lk_law_draw_19 : (rcd 18).scope.names.lookup (nm 19) = some .local := by kernel_rfl
theorem lk_law_draw_20 : (rcd 18).scope.names.lookup (nm 20) = some .local := by kernel_rfl
theorem bn_law_draw_0_abs (C : Cx S mg mb) : BName (rcd 18).scope mg "abs" (.builtin "abs") := ⟨by kernel_rfl, by decide, C.miss_abs, by decide, boot_abs⟩
theorem bn_law_draw_0_len (C : Cx S mg mb) : BName (rcd 18).scope mg "len" (.builtin "len") := ⟨by kernel_rfl, by decide, C.miss_len, by decide, boot_len⟩
theorem snd_law_draw (C : Cx S mg mb)  : SndB prog w S nm (rcd 18).scope 0 (rcd 18).body d_law_draw := by
  unfold d_law_draw
  exact (SndB.cons (SndS.assign (SndE.item (SndE.name (x := 19) rfl dbg_19) SndE.cI (fun _ _ => rfl)) (SndG.name C.G.inj (x := 20) rfl (.inl lk_law_draw_20)) (fun _ => rfl) (fun _ _ => rfl) (fun _ _ => rfl))
  (SndB.cons (SndS.assign (SndE.bin (SndE.name (x := 20) rfl dbg_20) SndE.cI op_add) (SndG.item (SndE.name (x := 19) rfl dbg_19) SndE.cI) (fun _ => rfl) (fun _ _ => rfl) (fun _ _ => rfl))
  (SndB.cons (SndS.ite (SndT.cmp (SndE.name (x := 20) rfl dbg_20) (SndE.callB C.G (bn_law_draw_0_len C) (SndE.item (SndE.name (x := 19) rfl dbg_19) SndE.cI (fun _ _ => rfl)) (starOne rfl) op_len) op_lt (by with_unfolding_all rfl)) (SndB.cons (SndS.ret (SndE.bin (SndE.callB C.G (bn_law_draw_0_abs C) (SndE.item (SndE.item (SndE.name (x := 19) rfl dbg_19) SndE.cI (fun _ _ => rfl)) (SndE.name (x := 20) rfl dbg_20) (fun _ _ => rfl)) (starOne rfl) op_abs) (SndE.name (x := 17) rfl dbg_17) op_mod))
  SndB.nil) SndB.nil)
  (SndB.cons (SndS.ret (SndE.bin (SndE.item (SndE.tuple (SndA.cons SndE.cI (SndA.cons SndE.cI (SndA.cons SndE.cI (SndA.cons SndE.cI (SndA.cons SndE.cI SndA.nil (starCons rfl)) (starCons rfl)) (starCons rfl)) (starCons rfl)) (starCons rfl))) (SndE.bin (SndE.name (x := 20) rfl dbg_20) SndE.cI op_mod) (fun _ _ => rfl)) (SndE.name (x := 17) rfl dbg_17) op_mod))
  SndB.nil))))
theorem ok_law_draw (C : Cx S mg mb) (hd : DefAt S mg (rcd 18))  : FnOK prog w S mg 1 "_law_draw" F_law_draw :=
  FnOK.def C.G (d := rcd 18) (xs := [19, 17]) hd (by intro pm code doc vs h; match vs, h with | [a0, a1], _ => rfl) (by decide) (by simp only [List.forall_mem_cons]; exact ⟨.inl lk_law_draw_19, .inl lk_law_draw_17, fun _ h => nomatch h⟩) rfl rfl rfl (snd_law_draw C )
theorem lk_law_ratio_3 : (rcd 19).scope.names.lookup (nm 3) = some .local := by kernel_rfl
theorem lk_law_ratio_10 : (rcd 19).scope.names.lookup (nm 10) = some .local := by kernel_rfl
theorem lk_law_ratio_11 : (rcd 19).scope.names.lookup (nm 11) = some .local := by kernel_rfl
theorem lk_law_ratio_2 : (rcd 19).scope.names.lookup (nm 2) = some .local := by kernel_rfl
theorem snd_law_ratio (C : Cx S mg mb)  : SndB prog w S nm (rcd 19).scope 0 (rcd 19).body d_law_ratio := by
  unfold d_law_ratio
  exact (SndB.cons (SndS.assignSw C.G.inj (xs := [10, 11]) (SndE.tuple (SndA.cons (SndE.name (x := 2) rfl dbg_2) (SndA.cons (SndE.name (x := 3) rfl dbg_3) SndA.nil (starCons rfl)) (starCons rfl))) rfl (by simp only [List.forall_mem_cons]; exact ⟨.inl lk_law_ratio_10, .inl lk_law_ratio_11, fun _ h => nomatch h⟩) (fun _ _ => rfl) (sw_of fun _ _ _ _ _ _ _ _ => by kernel_rfl))
  (SndB.cons (SndS.while 100 (SndT.cmp (SndE.name (x := 11) rfl dbg_11) SndE.cI op_ne (by with_unfolding_all rfl)) (SndB.cons (SndS.assignSw C.G.inj (xs := [10, 11]) (SndE.tuple (SndA.cons (SndE.name (x := 11) rfl dbg_11) (SndA.cons (SndE.bin (SndE.name (x := 10) rfl dbg_10) (SndE.name (x := 11) rfl dbg_11) op_mod) SndA.nil (starCons rfl)) (starCons rfl))) rfl (by simp only [List.forall_mem_cons]; exact ⟨.inl lk_law_ratio_10, .inl lk_law_ratio_11, fun _ h => nomatch h⟩) (fun _ _ => rfl) (sw_of fun _ _ _ _ _ _ _ _ => by kernel_rfl))
  SndB.nil))
  (SndB.cons (SndS.ret (SndE.tuple (SndA.cons (SndE.bin (SndE.name (x := 2) rfl dbg_2) (SndE.name (x := 10) rfl dbg_10) op_div) (SndA.cons (SndE.bin (SndE.name (x := 3) rfl dbg_3) (SndE.name (x := 10) rfl dbg_10) op_div) SndA.nil (starCons rfl)) (starCons rfl))))
  SndB.nil)))
theorem ok_law_ratio (C : Cx S mg mb) (hd : DefAt S mg (rcd 19))  : FnOK prog w S mg 1 "_law_ratio" F_law_ratio :=
  FnOK.def C.G (d := rcd 19) (xs := [2, 3]) hd (by intro pm code doc vs h; match vs, h with | [a0, a1], _ => rfl) (by decide) (by simp only [List.forall_mem_cons]; exact ⟨.inl lk_law_ratio_2, .inl lk_law_ratio_3, fun _ h => nomatch h⟩) rfl rfl rfl (snd_law_ratio C )
theorem lk_law_way_7 : (rcd 20).scope.names.lookup (nm 7) = some .local := by kernel_rfl
theorem lk_law_way_15 : (rcd 20).scope.names.lookup (nm 15) = some .local := by kernel_rfl
theorem lk_law_way_22 : (rcd 20).scope.names.lookup (nm 22) = some .local := by kernel_rfl
theorem lk_law_way_21 : (rcd 20).scope.names.lookup (nm 21) = some .local := by kernel_rfl
theorem lk_law_way_6 : (rcd 20).scope.names.lookup (nm 6) = some .local := by kernel_rfl
theorem snd_law_way (C : Cx S mg mb)  : SndB prog w S nm (rcd 20).scope 0 (rcd 20).body d_law_way := by
  unfold d_law_way
  exact (SndB.cons (SndS.assign (SndE.tuple (SndA.cons (SndE.list SndA.nil) (SndA.cons (SndE.tuple (SndA.cons SndE.cI (SndA.cons SndE.cI SndA.nil (starCons rfl)) (starCons rfl))) (SndA.cons (SndE.tuple (SndA.cons SndE.cI (SndA.cons SndE.cI SndA.nil (starCons rfl)) (starCons rfl))) (SndA.cons (SndE.tuple (SndA.cons SndE.cI (SndA.cons SndE.cI SndA.nil (starCons rfl)) (starCons rfl))) SndA.nil (starCons rfl)) (starCons rfl)) (starCons rfl)) (starCons rfl))) (SndG.tuple (SndGs.cons (SndG.name C.G.inj (x := 7) rfl (.inl lk_law_way_7)) (SndGs.cons (SndG.name C.G.inj (x := 21) rfl (.inl lk_law_way_21)) (SndGs.cons (SndG.name C.G.inj (x := 22) rfl (.inl lk_law_way_22)) (SndGs.cons (SndG.name C.G.inj (x := 15) rfl (.inl lk_law_way_15)) SndGs.nil)))) (fun _ => rfl) rfl) (fun _ => rfl) (fun _ _ => rfl) (sw_of fun _ _ _ _ _ _ _ _ => by kernel_rfl))
  (SndB.cons (SndS.while 100 (SndT.cmp (SndE.name (x := 15) rfl dbg_15) (SndE.name (x := 6) rfl dbg_6) op_ne (by with_unfolding_all rfl)) (SndB.cons (SndS.append (x := 7) rfl dbg_7 (SndE.tuple (SndA.cons (SndE.name (x := 21) rfl dbg_21) (SndA.cons (SndE.name (x := 15) rfl dbg_15) (SndA.cons (SndE.name (x := 22) rfl dbg_22) SndA.nil (starCons rfl)) (starCons rfl)) (starCons rfl))) (fun _ _ => rfl) (starOne rfl) rfl)
  (SndB.cons (SndS.ite (SndT.cmp (SndE.bin (SndE.item (SndE.name (x := 15) rfl dbg_15) SndE.cI (fun _ _ => rfl)) (SndE.item (SndE.name (x := 6) rfl dbg_6) SndE.cI (fun _ _ => rfl)) op_mul) (SndE.bin (SndE.item (SndE.name (x := 6) rfl dbg_6) SndE.cI (fun _ _ => rfl)) (SndE.item (SndE.name (x := 15) rfl dbg_15) SndE.cI (fun _ _ => rfl)) op_mul) op_lt (by with_unfolding_all rfl)) (SndB.cons (SndS.assign (SndE.name (x := 15) rfl dbg_15) (SndG.name C.G.inj (x := 21) rfl (.inl lk_law_way_21)) (fun _ => rfl) (fun _ _ => rfl) (fun _ _ => rfl))
  SndB.nil) (SndB.cons (SndS.assign (SndE.name (x := 15) rfl dbg_15) (SndG.name C.G.inj (x := 22) rfl (.inl lk_law_way_22)) (fun _ => rfl) (fun _ _ => rfl) (fun _ _ => rfl))
  SndB.nil))
  (SndB.cons (SndS.assign (SndE.tuple (SndA.cons (SndE.bin (SndE.item (SndE.name (x := 21) rfl dbg_21) SndE.cI (fun _ _ => rfl)) (SndE.item (SndE.name (x := 22) rfl dbg_22) SndE.cI (fun _ _ => rfl)) op_add) (SndA.cons (SndE.bin (SndE.item (SndE.name (x := 21) rfl dbg_21) SndE.cI (fun _ _ => rfl)) (SndE.item (SndE.name (x := 22) rfl dbg_22) SndE.cI (fun _ _ => rfl)) op_add) SndA.nil (starCons rfl)) (starCons rfl))) (SndG.name C.G.inj (x := 15) rfl (.inl lk_law_way_15)) (fun _ => rfl) (fun _ _ => rfl) (fun _ _ => rfl))
  SndB.nil))))
  (SndB.cons (SndS.ret (SndE.bin (SndE.name (x := 7) rfl dbg_7) (SndE.list (SndA.cons (SndE.tuple (SndA.cons (SndE.name (x := 21) rfl dbg_21) (SndA.cons (SndE.name (x := 15) rfl dbg_15) (SndA.cons (SndE.name (x := 22) rfl dbg_22) SndA.nil (starCons rfl)) (starCons rfl)) (starCons rfl))) SndA.nil (starCons rfl))) op_add))
  SndB.nil)))
theorem ok_law_way (C : Cx S mg mb) (hd : DefAt S mg (rcd 20))  : FnOK prog w S mg 1 "_law_way" F_law_way :=
  FnOK.def C.G (d := rcd 20) (xs := [6]) hd (by intro pm code doc vs h; match vs, h with | [a0], _ => rfl) (by decide) (by simp only [List.forall_mem_cons]; exact ⟨.inl lk_law_way_6, fun _ h => nomatch h⟩) rfl rfl rfl (snd_law_way C )
theorem lk_law_runs_7 : (rcd 21).scope.names.lookup (nm 7) = some .local := by kernel_rfl
theorem lk_law_runs_12 : (rcd 21).scope.names.lookup (nm 12) = some .local := by kernel_rfl
theorem lk_law_runs_24 : (rcd 21).scope.names.lookup (nm 24) = some .local := by kernel_rfl
theorem lk_law_runs_23 : (rcd 21).scope.names.lookup (nm 23) = some .local := by kernel_rfl
theorem snd_law_runs (C : Cx S mg mb)  : SndB prog w S nm (rcd 21).scope 0 (rcd 21).body d_law_runs := by
  unfold d_law_runs
  exact (SndB.cons (SndS.assignSw C.G.inj (xs := [7, 12]) (SndE.tuple (SndA.cons (SndE.list (SndA.cons SndE.cI SndA.nil (starCons rfl))) (SndA.cons SndE.cB SndA.nil (starCons rfl)) (starCons rfl))) rfl (by simp only [List.forall_mem_cons]; exact ⟨.inl lk_law_runs_7, .inl lk_law_runs_12, fun _ h => nomatch h⟩) (fun _ _ => rfl) (sw_of fun _ _ _ _ _ _ _ _ => by kernel_rfl))
  (SndB.cons (SndS.for 100 (SndI.list (SndE.name (x := 23) rfl dbg_23)) (SndB.cons (SndS.ite (SndT.cmp (SndE.name (x := 24) rfl dbg_24) (SndE.name (x := 12) rfl dbg_12) op_ne (by with_unfolding_all rfl)) (SndB.cons (SndS.assignSw C.G.inj (xs := [7, 12]) (SndE.tuple (SndA.cons (SndE.bin (SndE.name (x := 7) rfl dbg_7) (SndE.list (SndA.cons SndE.cI SndA.nil (starCons rfl))) op_add) (SndA.cons (SndE.name (x := 24) rfl dbg_24) SndA.nil (starCons rfl)) (starCons rfl))) rfl (by simp only [List.forall_mem_cons]; exact ⟨.inl lk_law_runs_7, .inl lk_law_runs_12, fun _ h => nomatch h⟩) (fun _ _ => rfl) (sw_of fun _ _ _ _ _ _ _ _ => by kernel_rfl))
  SndB.nil) SndB.nil)
  (SndB.cons (SndS.assign (SndE.bin (SndE.item (SndE.name (x := 7) rfl dbg_7) (SndE.neg SndE.cI) (fun _ _ => rfl)) SndE.cI op_add) (SndG.item (SndE.name (x := 7) rfl dbg_7) (SndE.neg SndE.cI)) (fun _ => rfl) (fun _ _ => rfl) (fun _ _ => rfl))
  SndB.nil)) (SndG.name C.G.inj (x := 24) rfl (.inl lk_law_runs_24)) lstI_not (fun _ _ => rfl))
  (SndB.cons (SndS.assign (SndE.bin (SndE.item (SndE.name (x := 7) rfl dbg_7) (SndE.neg SndE.cI) (fun _ _ => rfl)) SndE.cI op_add) (SndG.item (SndE.name (x := 7) rfl dbg_7) (SndE.neg SndE.cI)) (fun _ => rfl) (fun _ _ => rfl) (fun _ _ => rfl))
  (SndB.cons (SndS.ret (SndE.name (x := 7) rfl dbg_7))
  SndB.nil))))
theorem ok_law_runs (C : Cx S mg mb) (hd : DefAt S mg (rcd 21))  : FnOK prog w S mg 1 "_law_runs" F_law_runs :=
  FnOK.def C.G (d := rcd 21) (xs := [23]) hd (by intro pm code doc vs h; match vs, h with | [a0], _ => rfl) (by decide) (by simp only [List.forall_mem_cons]; exact ⟨.inl lk_law_runs_23, fun _ h => nomatch h⟩) rfl rfl rfl (snd_law_runs C )
theorem lk_law_turns_25 : (rcd 22).scope.names.lookup (nm 25) = some .local := by kernel_rfl
theorem lk_law_turns_7 : (rcd 22).scope.names.lookup (nm 7) = some .local := by kernel_rfl
theorem lk_law_turns_17 : (rcd 22).scope.names.lookup (nm 17) = some .local := by kernel_rfl
theorem lk_law_turns_9 : (rcd 22).scope.names.lookup (nm 9) = some .local := by kernel_rfl
theorem bn_law_turns_0_enumerate (C : Cx S mg mb) : BName (rcd 22).scope mg "enumerate" (.type "enumerate") := ⟨by kernel_rfl, by decide, C.miss_enumerate, by decide, boot_enumerate⟩
theorem snd_law_turns (C : Cx S mg mb)  : SndB prog w S nm (rcd 22).scope 0 (rcd 22).body d_law_turns := by
  unfold d_law_turns
  exact (SndB.cons (SndS.assign (SndE.list SndA.nil) (SndG.name C.G.inj (x := 7) rfl (.inl lk_law_turns_7)) (fun _ => rfl) (fun _ _ => rfl) (fun _ _ => rfl))
  (SndB.cons (SndS.forE 100 (SndI.enum C.G (bn_law_turns_0_enumerate C) (SndE.name (x := 9) rfl dbg_9) (starOne rfl)) (SndB.cons (SndS.assign (SndE.bin (SndE.name (x := 7) rfl dbg_7) (SndE.bin (SndE.list (SndA.cons (SndE.cmp (SndE.bin (SndE.name (x := 25) rfl dbg_25) SndE.cI op_mod) SndE.cI op_eq (by with_unfolding_all rfl)) SndA.nil (starCons rfl))) (SndE.name (x := 17) rfl dbg_17) op_mul) op_add) (SndG.name C.G.inj (x := 7) rfl (.inl lk_law_turns_7)) (fun _ => rfl) (fun _ _ => rfl) (fun _ _ => rfl))
  SndB.nil) (SndG.tuple (SndGs.cons (SndG.name C.G.inj (x := 25) rfl (.inl lk_law_turns_25)) (SndGs.cons (SndG.name C.G.inj (x := 17) rfl (.inl lk_law_turns_17)) SndGs.nil)) (fun _ => rfl) rfl) enmI_is (fun _ _ => rfl))
  (SndB.cons (SndS.ret (SndE.upto (SndE.name (x := 7) rfl dbg_7) (SndE.neg SndE.cI)))
  SndB.nil)))
theorem ok_law_turns (C : Cx S mg mb) (hd : DefAt S mg (rcd 22))  : FnOK prog w S mg 1 "_law_turns" F_law_turns :=
  FnOK.def C.G (d := rcd 22) (xs := [9]) hd (by intro pm code doc vs h; match vs, h with | [a0], _ => rfl) (by decide) (by simp only [List.forall_mem_cons]; exact ⟨.inl lk_law_turns_9, fun _ h => nomatch h⟩) rfl rfl rfl (snd_law_turns C )
theorem lk_law_nearer_22 : (rcd 23).scope.names.lookup (nm 22) = some .local := by kernel_rfl
theorem lk_law_nearer_21 : (rcd 23).scope.names.lookup (nm 21) = some .local := by kernel_rfl
theorem lk_law_nearer_5 : (rcd 23).scope.names.lookup (nm 5) = some .local := by kernel_rfl
theorem lk_law_nearer_6 : (rcd 23).scope.names.lookup (nm 6) = some .local := by kernel_rfl
theorem snd_law_nearer (C : Cx S mg mb)  : SndB prog w S nm (rcd 23).scope 0 (rcd 23).body d_law_nearer := by
  unfold d_law_nearer
  exact (SndB.cons (SndS.assign (SndE.bin (SndE.bin (SndE.bin (SndE.bin (SndE.item (SndE.name (x := 6) rfl dbg_6) SndE.cI (fun _ _ => rfl)) (SndE.item (SndE.name (x := 21) rfl dbg_21) SndE.cI (fun _ _ => rfl)) op_mul) (SndE.bin (SndE.item (SndE.name (x := 21) rfl dbg_21) SndE.cI (fun _ _ => rfl)) (SndE.item (SndE.name (x := 6) rfl dbg_6) SndE.cI (fun _ _ => rfl)) op_mul) op_sub) (SndE.item (SndE.name (x := 22) rfl dbg_22) SndE.cI (fun _ _ => rfl)) op_mul) (SndE.bin (SndE.bin (SndE.bin (SndE.item (SndE.name (x := 22) rfl dbg_22) SndE.cI (fun _ _ => rfl)) (SndE.item (SndE.name (x := 6) rfl dbg_6) SndE.cI (fun _ _ => rfl)) op_mul) (SndE.bin (SndE.item (SndE.name (x := 6) rfl dbg_6) SndE.cI (fun _ _ => rfl)) (SndE.item (SndE.name (x := 22) rfl dbg_22) SndE.cI (fun _ _ => rfl)) op_mul) op_sub) (SndE.item (SndE.name (x := 21) rfl dbg_21) SndE.cI (fun _ _ => rfl)) op_mul) op_sub) (SndG.name C.G.inj (x := 5) rfl (.inl lk_law_nearer_5)) (fun _ => rfl) (fun _ _ => rfl) (fun _ _ => rfl))
  (SndB.cons (SndS.ite (SndT.cmp (SndE.name (x := 5) rfl dbg_5) SndE.cI op_eq (by with_unfolding_all rfl)) (SndB.cons (SndS.assign (SndE.bin (SndE.item (SndE.name (x := 21) rfl dbg_21) SndE.cI (fun _ _ => rfl)) (SndE.item (SndE.name (x := 22) rfl dbg_22) SndE.cI (fun _ _ => rfl)) op_sub) (SndG.name C.G.inj (x := 5) rfl (.inl lk_law_nearer_5)) (fun _ => rfl) (fun _ _ => rfl) (fun _ _ => rfl))
  SndB.nil) SndB.nil)
  (SndB.cons (SndS.ret (SndE.ite (SndT.cmp (SndE.name (x := 5) rfl dbg_5) SndE.cI op_eq (by with_unfolding_all rfl)) (SndE.list (SndA.cons (SndE.name (x := 21) rfl dbg_21) (SndA.cons (SndE.name (x := 22) rfl dbg_22) SndA.nil (starCons rfl)) (starCons rfl))) (SndE.list (SndA.cons (SndE.ite (SndT.cmp (SndE.name (x := 5) rfl dbg_5) SndE.cI op_lt (by with_unfolding_all rfl)) (SndE.name (x := 21) rfl dbg_21) (SndE.name (x := 22) rfl dbg_22)) SndA.nil (starCons rfl)))))
  SndB.nil)))
theorem ok_law_nearer (C : Cx S mg mb) (hd : DefAt S mg (rcd 23))  : FnOK prog w S mg 1 "_law_nearer" F_law_nearer :=
  FnOK.def C.G (d := rcd 23) (xs := [6, 21, 22]) hd (by intro pm code doc vs h; match vs, h with | [a0, a1, a2], _ => rfl) (by decide) (by simp only [List.forall_mem_cons]; exact ⟨.inl lk_law_nearer_6, .inl lk_law_nearer_21, .inl lk_law_nearer_22, fun _ h => nomatch h⟩) rfl rfl rfl (snd_law_nearer C )
theorem lk_law_simplest_3 : (rcd 24).scope.names.lookup (nm 3) = some .local := by kernel_rfl
theorem lk_law_simplest_6 : (rcd 24).scope.names.lookup (nm 6) = some .local := by kernel_rfl
theorem lk_law_simplest_26 : (rcd 24).scope.names.lookup (nm 26) = some .local := by kernel_rfl
theorem lk_law_simplest_2 : (rcd 24).scope.names.lookup (nm 2) = some .local := by kernel_rfl
theorem bn_law_simplest_0_range (C : Cx S mg mb) : BName (rcd 24).scope mg "range" (.type "range") := ⟨by kernel_rfl, by decide, C.miss_range, by decide, boot_range⟩
theorem snd_law_simplest (C : Cx S mg mb)  : SndB prog w S nm (rcd 24).scope 0 (rcd 24).body d_law_simplest := by
  unfold d_law_simplest
  exact (SndB.cons (SndS.for 100 (SndI.range2 C.G (bn_law_simplest_0_range C) SndE.cI (SndE.bin (SndE.item (SndE.name (x := 6) rfl dbg_6) SndE.cI (fun _ _ => rfl)) SndE.cI op_add) (starCons rfl) (starOne rfl)) (SndB.cons (SndS.assign (SndE.bin SndE.cI (SndE.bin (SndE.bin SndE.cI (SndE.bin (SndE.item (SndE.name (x := 6) rfl dbg_6) SndE.cI (fun _ _ => rfl)) (SndE.name (x := 3) rfl dbg_3) op_mul) op_sub) (SndE.item (SndE.name (x := 6) rfl dbg_6) SndE.cI (fun _ _ => rfl)) op_div) op_sub) (SndG.name C.G.inj (x := 2) rfl (.inl lk_law_simplest_2)) (fun _ => rfl) (fun _ _ => rfl) (fun _ _ => rfl))
  (SndB.cons (SndS.ite (SndT.cmp (SndE.bin (SndE.name (x := 2) rfl dbg_2) (SndE.item (SndE.name (x := 26) rfl dbg_26) SndE.cI (fun _ _ => rfl)) op_mul) (SndE.bin (SndE.item (SndE.name (x := 26) rfl dbg_26) SndE.cI (fun _ _ => rfl)) (SndE.name (x := 3) rfl dbg_3) op_mul) op_le (by with_unfolding_all rfl)) (SndB.cons (SndS.ret (SndE.tuple (SndA.cons (SndE.name (x := 2) rfl dbg_2) (SndA.cons (SndE.name (x := 3) rfl dbg_3) SndA.nil (starCons rfl)) (starCons rfl))))
  SndB.nil) SndB.nil)
  SndB.nil)) (SndG.name C.G.inj (x := 3) rfl (.inl lk_law_simplest_3)) rngI2_not (fun _ _ => rfl))
  (SndB.cons (SndS.ret SndE.cN)
  SndB.nil))
theorem ok_law_simplest (C : Cx S mg mb) (hd : DefAt S mg (rcd 24))  : FnOK prog w S mg 1 "_law_simplest" F_law_simplest :=
  FnOK.def C.G (d := rcd 24) (xs := [6, 26]) hd (by intro pm code doc vs h; match vs, h with | [a0, a1], _ => rfl) (by decide) (by simp only [List.forall_mem_cons]; exact ⟨.inl lk_law_simplest_6, .inl lk_law_simplest_26, fun _ h => nomatch h⟩) rfl rfl rfl (snd_law_simplest C )
theorem lk_law_stern_25 : (rcd 25).scope.names.lookup (nm 25) = some .local := by kernel_rfl
theorem lk_law_stern_7 : (rcd 25).scope.names.lookup (nm 7) = some .local := by kernel_rfl
theorem lk_law_stern_27 : (rcd 25).scope.names.lookup (nm 27) = some .local := by kernel_rfl
theorem bn_law_stern_0_range (C : Cx S mg mb) : BName (rcd 25).scope mg "range" (.type "range") := ⟨by kernel_rfl, by decide, C.miss_range, by decide, boot_range⟩
theorem snd_law_stern (C : Cx S mg mb)  : SndB prog w S nm (rcd 25).scope 0 (rcd 25).body d_law_stern := by
  unfold d_law_stern
  exact (SndB.cons (SndS.assign (SndE.list (SndA.cons SndE.cI (SndA.cons SndE.cI SndA.nil (starCons rfl)) (starCons rfl))) (SndG.name C.G.inj (x := 7) rfl (.inl lk_law_stern_7)) (fun _ => rfl) (fun _ _ => rfl) (fun _ _ => rfl))
  (SndB.cons (SndS.for 100 (SndI.range2 C.G (bn_law_stern_0_range C) SndE.cI (SndE.bin (SndE.name (x := 27) rfl dbg_27) SndE.cI op_add) (starCons rfl) (starOne rfl)) (SndB.cons (SndS.append (x := 7) rfl dbg_7 (SndE.bin (SndE.item (SndE.name (x := 7) rfl dbg_7) (SndE.bin (SndE.name (x := 25) rfl dbg_25) SndE.cI op_div) (fun _ _ => rfl)) (SndE.ite (SndT.cmp (SndE.bin (SndE.name (x := 25) rfl dbg_25) SndE.cI op_mod) SndE.cI op_eq (by with_unfolding_all rfl)) (SndE.item (SndE.name (x := 7) rfl dbg_7) (SndE.bin (SndE.bin (SndE.name (x := 25) rfl dbg_25) SndE.cI op_div) SndE.cI op_add) (fun _ _ => rfl)) SndE.cI) op_add) (fun _ _ => rfl) (starOne rfl) rfl)
  SndB.nil) (SndG.name C.G.inj (x := 25) rfl (.inl lk_law_stern_25)) rngI2_not (fun _ _ => rfl))
  (SndB.cons (SndS.ret (SndE.tuple (SndA.cons (SndE.item (SndE.name (x := 7) rfl dbg_7) (SndE.name (x := 27) rfl dbg_27) (fun _ _ => rfl)) (SndA.cons (SndE.item (SndE.name (x := 7) rfl dbg_7) (SndE.bin (SndE.name (x := 27) rfl dbg_27) SndE.cI op_add) (fun _ _ => rfl)) SndA.nil (starCons rfl)) (starCons rfl))))
  SndB.nil)))
theorem ok_law_stern (C : Cx S mg mb) (hd : DefAt S mg (rcd 25))  : FnOK prog w S mg 1 "_law_stern" F_law_stern :=
  FnOK.def C.G (d := rcd 25) (xs := [27]) hd (by intro pm code doc vs h; match vs, h with | [a0], _ => rfl) (by decide) (by simp only [List.forall_mem_cons]; exact ⟨.inl lk_law_stern_27, fun _ h => nomatch h⟩) rfl rfl rfl (snd_law_stern C )
theorem lk_law_lots_28 : (rcd 26).scope.names.lookup (nm 28) = some .local := by kernel_rfl
theorem lk_law_lots_7 : (rcd 26).scope.names.lookup (nm 7) = some .local := by kernel_rfl
theorem lk_law_lots_27 : (rcd 26).scope.names.lookup (nm 27) = some .local := by kernel_rfl
theorem snd_law_lots (C : Cx S mg mb)  : SndB prog w S nm (rcd 26).scope 0 (rcd 26).body d_law_lots := by
  unfold d_law_lots
  exact (SndB.cons (SndS.assignSw C.G.inj (xs := [7, 28]) (SndE.tuple (SndA.cons (SndE.list (SndA.cons SndE.cI SndA.nil (starCons rfl))) (SndA.cons SndE.cI SndA.nil (starCons rfl)) (starCons rfl))) rfl (by simp only [List.forall_mem_cons]; exact ⟨.inl lk_law_lots_7, .inl lk_law_lots_28, fun _ h => nomatch h⟩) (fun _ _ => rfl) (sw_of fun _ _ _ _ _ _ _ _ => by kernel_rfl))
  (SndB.cons (SndS.while 100 (SndT.cmp (SndE.name (x := 27) rfl dbg_27) SndE.cI op_gt (by with_unfolding_all rfl)) (SndB.cons (SndS.ite (SndT.cmp (SndE.bin (SndE.name (x := 27) rfl dbg_27) SndE.cI op_mod) (SndE.name (x := 28) rfl dbg_28) op_ne (by with_unfolding_all rfl)) (SndB.cons (SndS.assignSw C.G.inj (xs := [7, 28]) (SndE.tuple (SndA.cons (SndE.bin (SndE.name (x := 7) rfl dbg_7) (SndE.list (SndA.cons SndE.cI SndA.nil (starCons rfl))) op_add) (SndA.cons (SndE.bin SndE.cI (SndE.name (x := 28) rfl dbg_28) op_sub) SndA.nil (starCons rfl)) (starCons rfl))) rfl (by simp only [List.forall_mem_cons]; exact ⟨.inl lk_law_lots_7, .inl lk_law_lots_28, fun _ h => nomatch h⟩) (fun _ _ => rfl) (sw_of fun _ _ _ _ _ _ _ _ => by kernel_rfl))
  SndB.nil) SndB.nil)
  (SndB.cons (SndS.assign (SndE.tuple (SndA.cons (SndE.bin (SndE.item (SndE.name (x := 7) rfl dbg_7) (SndE.neg SndE.cI) (fun _ _ => rfl)) SndE.cI op_add) (SndA.cons (SndE.bin (SndE.name (x := 27) rfl dbg_27) SndE.cI op_div) SndA.nil (starCons rfl)) (starCons rfl))) (SndG.tuple (SndGs.cons (SndG.item (SndE.name (x := 7) rfl dbg_7) (SndE.neg SndE.cI)) (SndGs.cons (SndG.name C.G.inj (x := 27) rfl (.inl lk_law_lots_27)) SndGs.nil)) (fun _ => rfl) rfl) (fun _ => rfl) (fun _ _ => rfl) (sw_of fun _ _ _ _ _ _ _ _ => by kernel_rfl))
  SndB.nil)))
  (SndB.cons (SndS.ret (SndE.name (x := 7) rfl dbg_7))
  SndB.nil)))
theorem ok_law_lots (C : Cx S mg mb) (hd : DefAt S mg (rcd 26))  : FnOK prog w S mg 1 "_law_lots" F_law_lots :=
  FnOK.def C.G (d := rcd 26) (xs := [27]) hd (by intro pm code doc vs h; match vs, h with | [a0], _ => rfl) (by decide) (by simp only [List.forall_mem_cons]; exact ⟨.inl lk_law_lots_27, fun _ h => nomatch h⟩) rfl rfl rfl (snd_law_lots C )
theorem lk_law_ends_right_30 : (rcd 27).scope.names.lookup (nm 30) = some .local := by kernel_rfl
theorem lk_law_ends_right_22 : (rcd 27).scope.names.lookup (nm 22) = some .local := by kernel_rfl
theorem lk_law_ends_right_21 : (rcd 27).scope.names.lookup (nm 21) = some .local := by kernel_rfl
theorem lk_law_ends_right_6 : (rcd 27).scope.names.lookup (nm 6) = some .local := by kernel_rfl
theorem lk_law_ends_right_9 : (rcd 27).scope.names.lookup (nm 9) = some .cell := by kernel_rfl
theorem lk_law_ends_right_29 : (rcd 27).scope.names.lookup (nm 29) = some .cell := by kernel_rfl
theorem gk_law_ends_right_convergents : (rcd 27).scope.names.lookup (Str.ofString "convergents") = some .globalImplicit := by kernel_rfl
theorem gk_law_ends_right_fraction_value : (rcd 27).scope.names.lookup (Str.ofString "fraction_value") = some .globalImplicit := by kernel_rfl
theorem bn_law_ends_right_0_len (C : Cx S mg mb) : BName (rcd 27).scope mg "len" (.builtin "len") := ⟨by kernel_rfl, by decide, C.miss_len, by decide, boot_len⟩
theorem bn_law_ends_right_0_range (C : Cx S mg mb) : BName (rcd 27).scope mg "range" (.type "range") := ⟨by kernel_rfl, by decide, C.miss_range, by decide, boot_range⟩
theorem bn_law_ends_right_1_sum (C : Cx S mg mb) {scope : Scope} (h : (relS scope (rcd 27).scope).names.lookup (Str.ofString "sum") = some .globalImplicit) : BName (relS scope (rcd 27).scope) mg "sum" (.builtin "sum") := ⟨h, by decide, C.miss_sum, by decide, boot_sum⟩
theorem snd_law_ends_right (C : Cx S mg mb) (H_convergents : FnOK prog w S mg 1 "convergents" F_convergents) (H_fraction_value : FnOK prog w S mg 3 "fraction_value" F_fraction_value) : SndB prog w S nm (rcd 27).scope 3 (rcd 27).body d_law_ends_right := by
  unfold d_law_ends_right
  exact (SndB.cons (SndS.assign (SndE.ite (SndT.cmp (SndE.bin (SndE.callB C.G (bn_law_ends_right_0_len C) (SndE.name (x := 9) rfl dbg_9) (starOne rfl) op_len) SndE.cI op_mod) SndE.cI op_eq (by with_unfolding_all rfl)) (SndE.tuple (SndA.cons (SndE.item (SndE.item (SndE.name (x := 29) rfl dbg_29) (SndE.neg SndE.cI) (fun _ _ => rfl)) SndE.cI (fun _ _ => rfl)) (SndA.cons (SndE.item (SndE.item (SndE.name (x := 29) rfl dbg_29) (SndE.neg SndE.cI) (fun _ _ => rfl)) SndE.cI (fun _ _ => rfl)) SndA.nil (starCons rfl)) (starCons rfl))) (SndE.tuple (SndA.cons (SndE.item (SndE.item (SndE.name (x := 29) rfl dbg_29) (SndE.neg SndE.cI) (fun _ _ => rfl)) SndE.cI (fun _ _ => rfl)) (SndA.cons (SndE.item (SndE.item (SndE.name (x := 29) rfl dbg_29) (SndE.neg SndE.cI) (fun _ _ => rfl)) SndE.cI (fun _ _ => rfl)) SndA.nil (starCons rfl)) (starCons rfl)))) (SndG.tuple (SndGs.cons (SndG.name C.G.inj (x := 21) rfl (.inl lk_law_ends_right_21)) (SndGs.cons (SndG.name C.G.inj (x := 22) rfl (.inl lk_law_ends_right_22)) SndGs.nil)) (fun _ => rfl) rfl) (fun _ => rfl) (fun _ _ => rfl) (fun _ _ => rfl))
  (SndB.cons (SndS.assign (SndE.bin (SndE.comp 100 C.G.inj rfl (CompOK.mk rfl (by decide) (by decide) (by decide) rfl (by decide)) (SndI.range C.G (bn_law_ends_right_0_range C) (SndE.bin (SndE.callB C.G (bn_law_ends_right_0_len C) (SndE.name (x := 9) rfl dbg_9) (starOne rfl) op_len) SndE.cI op_sub) (starOne rfl)) rngI_not (.inl ⟨rfl, rfl⟩) (SndE.item (SndE.item (SndE.name (x := 29) rfl dbg_29) (SndE.callB C.G (bn_law_ends_right_1_sum C (by kernel_rfl)) (SndE.upto (SndE.name (x := 9) rfl dbg_9) (SndE.bin (SndE.name (x := 25) rfl dbg_25) SndE.cI op_add)) (starOne rfl) op_sum) (fun _ _ => rfl)) (SndE.ite (SndT.cmp (SndE.bin (SndE.name (x := 25) rfl dbg_25) SndE.cI op_mod) SndE.cI op_eq (by with_unfolding_all rfl)) SndE.cI SndE.cI) (fun _ _ => rfl)) (fun _ _ => rfl)) (SndE.list (SndA.cons (SndE.name (x := 6) rfl dbg_6) SndA.nil (starCons rfl))) op_add) (SndG.name C.G.inj (x := 30) rfl (.inl lk_law_ends_right_30)) (fun _ => rfl) (fun _ _ => rfl) (fun _ _ => rfl))
  (SndB.cons (SndS.ite (SndT.or2 (SndT.cmp (SndE.callF C.G ((H_convergents.of N_convergents_ok).mono (by decide)) rfl gk_law_ends_right_convergents (by decide) (SndA.cons (SndE.name (x := 9) rfl dbg_9) SndA.nil (starCons rfl)) (starCons rfl)) (SndE.name (x := 30) rfl dbg_30) op_ne (by with_unfolding_all rfl)) (SndT.cmp (SndE.callF C.G ((H_fraction_value.of N_fraction_value_ok).mono (by decide)) rfl gk_law_ends_right_fraction_value (by decide) (SndA.cons (SndE.bin (SndE.upto (SndE.name (x := 9) rfl dbg_9) (SndE.neg SndE.cI)) (SndE.list (SndA.cons (SndE.bin (SndE.item (SndE.name (x := 9) rfl dbg_9) (SndE.neg SndE.cI) (fun _ _ => rfl)) SndE.cI op_sub) SndA.nil (starCons rfl))) op_add) SndA.nil (starCons rfl)) (starCons rfl)) (SndE.name (x := 21) rfl dbg_21) op_ne (by with_unfolding_all rfl))) (SndB.cons (SndS.ret SndE.cB)
  SndB.nil) SndB.nil)
  (SndB.cons (SndS.ret (SndE.or2 (SndE.cmp (SndE.callB C.G (bn_law_ends_right_0_len C) (SndE.name (x := 9) rfl dbg_9) (starOne rfl) op_len) SndE.cI op_eq (by with_unfolding_all rfl)) (SndE.cmp (SndE.callF C.G ((H_fraction_value.of N_fraction_value_ok).mono (by decide)) rfl gk_law_ends_right_fraction_value (by decide) (SndA.cons (SndE.upto (SndE.name (x := 9) rfl dbg_9) (SndE.neg SndE.cI)) SndA.nil (starCons rfl)) (starCons rfl)) (SndE.name (x := 22) rfl dbg_22) op_eq (by with_unfolding_all rfl))))
  SndB.nil))))
theorem ok_law_ends_right (C : Cx S mg mb) (hd : DefAt S mg (rcd 27)) (H_convergents : FnOK prog w S mg 1 "convergents" F_convergents) (H_fraction_value : FnOK prog w S mg 3 "fraction_value" F_fraction_value) : FnOK prog w S mg 4 "_law_ends_right" F_law_ends_right :=
  FnOK.def C.G (d := rcd 27) (xs := [6, 29, 9]) hd (by intro pm code doc vs h; match vs, h with | [a0, a1, a2], _ => rfl) (by decide) (by simp only [List.forall_mem_cons]; exact ⟨.inl lk_law_ends_right_6, .inr lk_law_ends_right_29, .inr lk_law_ends_right_9, fun _ h => nomatch h⟩) rfl rfl rfl (snd_law_ends_right C H_convergents H_fraction_value)
theorem lk_law_25 : (rcd 28).scope.names.lookup (nm 25) = some .local := by kernel_rfl
theorem lk_law_3 : (rcd 28).scope.names.lookup (nm 3) = some .local := by kernel_rfl
theorem lk_law_15 : (rcd 28).scope.names.lookup (nm 15) = some .local := by kernel_rfl
theorem lk_law_22 : (rcd 28).scope.names.lookup (nm 22) = some .local := by kernel_rfl
theorem lk_law_36 : (rcd 28).scope.names.lookup (nm 36) = some .local := by kernel_rfl
theorem lk_law_21 : (rcd 28).scope.names.lookup (nm 21) = some .local := by kernel_rfl
theorem lk_law_37 : (rcd 28).scope.names.lookup (nm 37) = some .local := by kernel_rfl
theorem lk_law_13 : (rcd 28).scope.names.lookup (nm 13) = some .cell := by kernel_rfl
theorem lk_law_27 : (rcd 28).scope.names.lookup (nm 27) = some .local := by kernel_rfl
theorem lk_law_35 : (rcd 28).scope.names.lookup (nm 35) = some .local := by kernel_rfl
theorem lk_law_19 : (rcd 28).scope.names.lookup (nm 19) = some .local := by kernel_rfl
theorem lk_law_6 : (rcd 28).scope.names.lookup (nm 6) = some .cell := by kernel_rfl
theorem lk_law_9 : (rcd 28).scope.names.lookup (nm 9) = some .local := by kernel_rfl
theorem lk_law_26 : (rcd 28).scope.names.lookup (nm 26) = some .local := by kernel_rfl
theorem lk_law_31 : (rcd 28).scope.names.lookup (nm 31) = some .local := by kernel_rfl
theorem lk_law_34 : (rcd 28).scope.names.lookup (nm 34) = some .local := by kernel_rfl
theorem lk_law_2 : (rcd 28).scope.names.lookup (nm 2) = some .local := by kernel_rfl
theorem lk_law_24 : (rcd 28).scope.names.lookup (nm 24) = some .local := by kernel_rfl
theorem lk_law_23 : (rcd 28).scope.names.lookup (nm 23) = some .local := by kernel_rfl
theorem lk_law_29 : (rcd 28).scope.names.lookup (nm 29) = some .local := by kernel_rfl
theorem gk_law_law_draw : (rcd 28).scope.names.lookup (Str.ofString "_law_draw") = some .globalImplicit := by kernel_rfl
theorem gk_law_law_ends_right : (rcd 28).scope.names.lookup (Str.ofString "_law_ends_right") = some .globalImplicit := by kernel_rfl
theorem gk_law_law_lots : (rcd 28).scope.names.lookup (Str.ofString "_law_lots") = some .globalImplicit := by kernel_rfl
theorem gk_law_law_nearer : (rcd 28).scope.names.lookup (Str.ofString "_law_nearer") = some .globalImplicit := by kernel_rfl
theorem gk_law_law_ratio : (rcd 28).scope.names.lookup (Str.ofString "_law_ratio") = some .globalImplicit := by kernel_rfl
theorem gk_law_law_runs : (rcd 28).scope.names.lookup (Str.ofString "_law_runs") = some .globalImplicit := by kernel_rfl
theorem gk_law_law_simplest : (rcd 28).scope.names.lookup (Str.ofString "_law_simplest") = some .globalImplicit := by kernel_rfl
theorem gk_law_law_stern : (rcd 28).scope.names.lookup (Str.ofString "_law_stern") = some .globalImplicit := by kernel_rfl
theorem gk_law_law_turns : (rcd 28).scope.names.lookup (Str.ofString "_law_turns") = some .globalImplicit := by kernel_rfl
theorem gk_law_law_way : (rcd 28).scope.names.lookup (Str.ofString "_law_way") = some .globalImplicit := by kernel_rfl
theorem gk_law_best_approximation : (rcd 28).scope.names.lookup (Str.ofString "best_approximation") = some .globalImplicit := by kernel_rfl
theorem gk_law_fraction_row : (rcd 28).scope.names.lookup (Str.ofString "fraction_row") = some .globalImplicit := by kernel_rfl
theorem gk_law_fraction_value : (rcd 28).scope.names.lookup (Str.ofString "fraction_value") = some .globalImplicit := by kernel_rfl
theorem bn_law_0_enumerate (C : Cx S mg mb) : BName (rcd 28).scope mg "enumerate" (.type "enumerate") := ⟨by kernel_rfl, by decide, C.miss_enumerate, by decide, boot_enumerate⟩
theorem bn_law_0_len (C : Cx S mg mb) : BName (rcd 28).scope mg "len" (.builtin "len") := ⟨by kernel_rfl, by decide, C.miss_len, by decide, boot_len⟩
theorem bn_law_0_range (C : Cx S mg mb) : BName (rcd 28).scope mg "range" (.type "range") := ⟨by kernel_rfl, by decide, C.miss_range, by decide, boot_range⟩
theorem bn_law_1_int (C : Cx S mg mb) {scope : Scope} (h : (relS scope (rcd 28).scope).names.lookup (Str.ofString "int") = some .globalImplicit) : BName (relS scope (rcd 28).scope) mg "int" (.type "int") := ⟨h, by decide, C.miss_int, by decide, boot_int⟩
theorem snd_law (C : Cx S mg mb) (H_fraction_row : FnOK prog w S mg 4 "fraction_row" F_fraction_row) (H_fraction_value : FnOK prog w S mg 3 "fraction_value" F_fraction_value) (H_best_approximation : FnOK prog w S mg 6 "best_approximation" F_best_approximation) (H_law_draw : FnOK prog w S mg 1 "_law_draw" F_law_draw) (H_law_ratio : FnOK prog w S mg 1 "_law_ratio" F_law_ratio) (H_law_way : FnOK prog w S mg 1 "_law_way" F_law_way) (H_law_runs : FnOK prog w S mg 1 "_law_runs" F_law_runs) (H_law_turns : FnOK prog w S mg 1 "_law_turns" F_law_turns) (H_law_nearer : FnOK prog w S mg 1 "_law_nearer" F_law_nearer) (H_law_simplest : FnOK prog w S mg 1 "_law_simplest" F_law_simplest) (H_law_stern : FnOK prog w S mg 1 "_law_stern" F_law_stern) (H_law_lots : FnOK prog w S mg 1 "_law_lots" F_law_lots) (H_law_ends_right : FnOK prog w S mg 4 "_law_ends_right" F_law_ends_right) : SndB prog w S nm (rcd 28).scope 6 (rcd 28).body d_law := by
  unfold d_law
  exact (SndB.cons (SndS.assign (SndE.list (SndA.cons (SndE.comp 100 C.G.inj rfl (CompOK.mk rfl (by decide) (by decide) (by decide) rfl (by decide)) (SndI.list (SndE.upto (SndE.name (x := 31) rfl dbg_31) SndE.cI)) lstI_not (.inl ⟨rfl, rfl⟩) (SndE.callT C.G (bn_law_1_int C (by kernel_rfl)) (SndE.name (x := 32) rfl dbg_32) (starOne rfl) op_int) (fun _ _ => rfl)) (SndA.cons SndE.cI SndA.nil (starCons rfl)) (starCons rfl))) (SndG.name C.G.inj (x := 19) rfl (.inl lk_law_19)) (fun _ => rfl) (fun _ _ => rfl) (fun _ _ => rfl))
  (SndB.cons (SndS.assignSw C.G.inj (xs := [3, 2]) (SndE.tuple (SndA.cons (SndE.bin SndE.cI (SndE.callF C.G (H_law_draw.mono (by decide)) rfl gk_law_law_draw (by decide) (SndA.cons (SndE.name (x := 19) rfl dbg_19) (SndA.cons SndE.cI SndA.nil (starCons rfl)) (starCons rfl)) (starCons rfl)) op_add) (SndA.cons (SndE.bin SndE.cI (SndE.callF C.G (H_law_draw.mono (by decide)) rfl gk_law_law_draw (by decide) (SndA.cons (SndE.name (x := 19) rfl dbg_19) (SndA.cons SndE.cI SndA.nil (starCons rfl)) (starCons rfl)) (starCons rfl)) op_add) SndA.nil (starCons rfl)) (starCons rfl))) rfl (by simp only [List.forall_mem_cons]; exact ⟨.inl lk_law_3, .inl lk_law_2, fun _ h => nomatch h⟩) (fun _ _ => rfl) (sw_of fun _ _ _ _ _ _ _ _ => by kernel_rfl))
  (SndB.cons (SndS.assign (SndE.callF C.G (H_law_ratio.frm.mono (by decide)) rfl gk_law_law_ratio (by decide) (SndA.cons (SndE.name (x := 2) rfl dbg_2) (SndA.cons (SndE.name (x := 3) rfl dbg_3) SndA.nil (starCons rfl)) (starCons rfl)) (starCons rfl)) (SndG.name C.G.inj (x := 6) rfl (.inr lk_law_6)) (fun _ => rfl) (fun _ _ => rfl) (fun _ _ => rfl))
  (SndB.cons (SndS.assignSw C.G.inj (xs := [3, 2]) (SndE.tuple (SndA.cons (SndE.bin SndE.cI (SndE.callF C.G (H_law_draw.mono (by decide)) rfl gk_law_law_draw (by decide) (SndA.cons (SndE.name (x := 19) rfl dbg_19) (SndA.cons SndE.cI SndA.nil (starCons rfl)) (starCons rfl)) (starCons rfl)) op_add) (SndA.cons (SndE.bin SndE.cI (SndE.callF C.G (H_law_draw.mono (by decide)) rfl gk_law_law_draw (by decide) (SndA.cons (SndE.name (x := 19) rfl dbg_19) (SndA.cons SndE.cI SndA.nil (starCons rfl)) (starCons rfl)) (starCons rfl)) op_add) SndA.nil (starCons rfl)) (starCons rfl))) rfl (by simp only [List.forall_mem_cons]; exact ⟨.inl lk_law_3, .inl lk_law_2, fun _ h => nomatch h⟩) (fun _ _ => rfl) (sw_of fun _ _ _ _ _ _ _ _ => by kernel_rfl))
  (SndB.cons (SndS.assignSw C.G.inj (xs := [26, 27]) (SndE.tuple (SndA.cons (SndE.callF C.G (H_law_ratio.frm.mono (by decide)) rfl gk_law_law_ratio (by decide) (SndA.cons (SndE.name (x := 2) rfl dbg_2) (SndA.cons (SndE.name (x := 3) rfl dbg_3) SndA.nil (starCons rfl)) (starCons rfl)) (starCons rfl)) (SndA.cons (SndE.bin SndE.cI (SndE.callF C.G (H_law_draw.mono (by decide)) rfl gk_law_law_draw (by decide) (SndA.cons (SndE.name (x := 19) rfl dbg_19) (SndA.cons SndE.cI SndA.nil (starCons rfl)) (starCons rfl)) (starCons rfl)) op_add) SndA.nil (starCons rfl)) (starCons rfl))) rfl (by simp only [List.forall_mem_cons]; exact ⟨.inl lk_law_26, .inl lk_law_27, fun _ h => nomatch h⟩) (fun _ _ => rfl) (sw_of fun _ _ _ _ _ _ _ _ => by kernel_rfl))
  (SndB.cons (SndS.assignSw C.G.inj (xs := [29, 9]) (SndE.tuple (SndA.cons (SndE.callF C.G (H_law_way.frm.mono (by decide)) rfl gk_law_law_way (by decide) (SndA.cons (SndE.name (x := 6) rfl dbg_6) SndA.nil (starCons rfl)) (starCons rfl)) (SndA.cons (SndE.callF C.G ((H_fraction_row.of N_fraction_row_ok).frm.mono (by decide)) rfl gk_law_fraction_row (by decide) (SndA.cons (SndE.name (x := 6) rfl dbg_6) SndA.nil (starCons rfl)) (starCons rfl)) SndA.nil (starCons rfl)) (starCons rfl))) rfl (by simp only [List.forall_mem_cons]; exact ⟨.inl lk_law_29, .inl lk_law_9, fun _ h => nomatch h⟩) (fun _ _ => rfl) (sw_of fun _ _ _ _ _ _ _ _ => by kernel_rfl))
  (SndB.cons (SndS.assignComp 100 C.G.inj rfl (y := 23) rfl lk_law_23 (CompOK.mk rfl (by decide) (by decide) (by decide) rfl (by decide)) (SndI.list (SndE.upto (SndE.name (x := 29) rfl dbg_29) (SndE.neg SndE.cI))) lstI_not (.inl ⟨rfl, rfl⟩) (SndE.cmp (SndE.bin (SndE.item (SndE.item (SndE.name (x := 33) rfl dbg_33) SndE.cI (fun _ _ => rfl)) SndE.cI (fun _ _ => rfl)) (SndE.item (SndE.name (x := 6) rfl dbg_6) SndE.cI (fun _ _ => rfl)) op_mul) (SndE.bin (SndE.item (SndE.name (x := 6) rfl dbg_6) SndE.cI (fun _ _ => rfl)) (SndE.item (SndE.item (SndE.name (x := 33) rfl dbg_33) SndE.cI (fun _ _ => rfl)) SndE.cI (fun _ _ => rfl)) op_mul) op_lt (by with_unfolding_all rfl)) (fun _ _ => rfl) (swc_of fun _ _ _ _ _ _ _ _ => by kernel_rfl))
  (SndB.cons (SndS.ite (SndT.or2 (SndT.cmp (SndE.name (x := 9) rfl dbg_9) (SndE.callF C.G (H_law_runs.frm.mono (by decide)) rfl gk_law_law_runs (by decide) (SndA.cons (SndE.name (x := 23) rfl dbg_23) SndA.nil (starCons rfl)) (starCons rfl)) op_ne (by with_unfolding_all rfl)) (SndT.notT (SndT.ofBool (SndE.callF C.G (H_law_ends_right.frm.mono (by decide)) rfl gk_law_law_ends_right (by decide) (SndA.cons (SndE.name (x := 6) rfl dbg_6) (SndA.cons (SndE.name (x := 29) rfl dbg_29) (SndA.cons (SndE.name (x := 9) rfl dbg_9) SndA.nil (starCons rfl)) (starCons rfl)) (starCons rfl)) (starCons rfl)) (fun _ _ => rfl)))) (SndB.cons (SndS.ret SndE.cB)
  SndB.nil) SndB.nil)
  (SndB.cons (SndS.for 100 (SndI.range2 C.G (bn_law_0_range C) SndE.cI (SndE.item (SndE.name (x := 6) rfl dbg_6) SndE.cI (fun _ _ => rfl)) (starCons rfl) (starOne rfl)) (SndB.cons (SndS.assign (SndE.item (SndE.comp 100 C.G.inj rfl (CompOK.mk rfl (by decide) (by decide) (by decide) rfl (by decide)) (SndI.list (SndE.name (x := 29) rfl dbg_29)) lstI_not (.inr ⟨_, _, rfl, rfl, (SndT.cmp (SndE.item (SndE.item (SndE.name (x := 33) rfl dbg_33) SndE.cI (fun _ _ => rfl)) SndE.cI (fun _ _ => rfl)) (SndE.name (x := 13) rfl dbg_13) op_gt (by with_unfolding_all rfl))⟩) (SndE.name (x := 33) rfl dbg_33) (fun _ _ => rfl)) SndE.cI (fun _ _ => rfl)) (SndG.tuple (SndGs.cons (SndG.name C.G.inj (x := 21) rfl (.inl lk_law_21)) (SndGs.cons (SndG.name C.G.inj (x := 15) rfl (.inl lk_law_15)) (SndGs.cons (SndG.name C.G.inj (x := 22) rfl (.inl lk_law_22)) SndGs.nil))) (fun _ => rfl) rfl) (fun _ => rfl) (fun _ _ => rfl) (fun _ _ => rfl))
  (SndB.cons (SndS.ite (SndT.cmp (SndE.callF C.G ((H_best_approximation.of N_best_approximation_ok).frm.mono (by decide)) rfl gk_law_best_approximation (by decide) (SndA.cons (SndE.name (x := 6) rfl dbg_6) (SndA.cons (SndE.name (x := 13) rfl dbg_13) SndA.nil (starCons rfl)) (starCons rfl)) (starCons rfl)) (SndE.callF C.G (H_law_nearer.frm.mono (by decide)) rfl gk_law_law_nearer (by decide) (SndA.cons (SndE.name (x := 6) rfl dbg_6) (SndA.cons (SndE.name (x := 21) rfl dbg_21) (SndA.cons (SndE.name (x := 22) rfl dbg_22) SndA.nil (starCons rfl)) (starCons rfl)) (starCons rfl)) (starCons rfl)) op_notIn (by with_unfolding_all rfl)) (SndB.cons (SndS.ret SndE.cB)
  SndB.nil) SndB.nil)
  SndB.nil)) (SndG.name C.G.inj (x := 13) rfl (.inr lk_law_13)) rngI2_not (fun _ _ => rfl))
  (SndB.cons (SndS.assignSw C.G.inj (xs := [34, 35]) (SndE.tuple (SndA.cons (SndE.list SndA.nil) (SndA.cons (SndE.callF C.G (H_law_turns.frm.mono (by decide)) rfl gk_law_law_turns (by decide) (SndA.cons (SndE.callF C.G ((H_fraction_row.of N_fraction_row_ok).frm.mono (by decide)) rfl gk_law_fraction_row (by decide) (SndA.cons (SndE.name (x := 26) rfl dbg_26) SndA.nil (starCons rfl)) (starCons rfl)) SndA.nil (starCons rfl)) (starCons rfl)) SndA.nil (starCons rfl)) (starCons rfl))) rfl (by simp only [List.forall_mem_cons]; exact ⟨.inl lk_law_34, .inl lk_law_35, fun _ h => nomatch h⟩) (fun _ _ => rfl) (sw_of fun _ _ _ _ _ _ _ _ => by kernel_rfl))
  (SndB.cons (SndS.forE 100 (SndI.enum C.G (bn_law_0_enumerate C) (SndE.callF C.G (H_law_turns.frm.mono (by decide)) rfl gk_law_law_turns (by decide) (SndA.cons (SndE.name (x := 9) rfl dbg_9) SndA.nil (starCons rfl)) (starCons rfl)) (starOne rfl)) (SndB.cons (SndS.ite (SndT.and2 (SndT.cmp (SndE.callB C.G (bn_law_0_len C) (SndE.name (x := 34) rfl dbg_34) (starOne rfl) op_len) (SndE.name (x := 25) rfl dbg_25) op_eq (by with_unfolding_all rfl)) (SndT.cmp (SndE.upto (SndE.name (x := 35) rfl dbg_35) (SndE.bin (SndE.name (x := 25) rfl dbg_25) SndE.cI op_add)) (SndE.bin (SndE.name (x := 34) rfl dbg_34) (SndE.list (SndA.cons (SndE.name (x := 24) rfl dbg_24) SndA.nil (starCons rfl))) op_add) op_eq (by with_unfolding_all rfl))) (SndB.cons (SndS.append (x := 34) rfl dbg_34 (SndE.name (x := 24) rfl dbg_24) (fun _ _ => rfl) (starOne rfl) rfl)
  SndB.nil) SndB.nil)
  SndB.nil) (SndG.tuple (SndGs.cons (SndG.name C.G.inj (x := 25) rfl (.inl lk_law_25)) (SndGs.cons (SndG.name C.G.inj (x := 24) rfl (.inl lk_law_24)) SndGs.nil)) (fun _ => rfl) rfl) enmI_is (fun _ _ => rfl))
  (SndB.cons (SndS.assign (SndE.ite (SndT.cmp (SndE.bin (SndE.item (SndE.name (x := 6) rfl dbg_6) SndE.cI (fun _ _ => rfl)) (SndE.item (SndE.name (x := 26) rfl dbg_26) SndE.cI (fun _ _ => rfl)) op_mul) (SndE.bin (SndE.item (SndE.name (x := 26) rfl dbg_26) SndE.cI (fun _ _ => rfl)) (SndE.item (SndE.name (x := 6) rfl dbg_6) SndE.cI (fun _ _ => rfl)) op_mul) op_le (by with_unfolding_all rfl)) (SndE.tuple (SndA.cons (SndE.name (x := 6) rfl dbg_6) (SndA.cons (SndE.name (x := 26) rfl dbg_26) SndA.nil (starCons rfl)) (starCons rfl))) (SndE.tuple (SndA.cons (SndE.name (x := 26) rfl dbg_26) (SndA.cons (SndE.name (x := 6) rfl dbg_6) SndA.nil (starCons rfl)) (starCons rfl)))) (SndG.tuple (SndGs.cons (SndG.name C.G.inj (x := 36) rfl (.inl lk_law_36)) (SndGs.cons (SndG.name C.G.inj (x := 37) rfl (.inl lk_law_37)) SndGs.nil)) (fun _ => rfl) rfl) (fun _ => rfl) (fun _ _ => rfl) (fun _ _ => rfl))
  (SndB.cons (SndS.ite (SndT.cmp (SndE.callF C.G ((H_fraction_value.of N_fraction_value_ok).frm.mono (by decide)) rfl gk_law_fraction_value (by decide) (SndA.cons (SndE.callF C.G (H_law_runs.frm.mono (by decide)) rfl gk_law_law_runs (by decide) (SndA.cons (SndE.name (x := 34) rfl dbg_34) SndA.nil (starCons rfl)) (starCons rfl)) SndA.nil (starCons rfl)) (starCons rfl)) (SndE.callF C.G (H_law_simplest.frm.mono (by decide)) rfl gk_law_law_simplest (by decide) (SndA.cons (SndE.name (x := 36) rfl dbg_36) (SndA.cons (SndE.name (x := 37) rfl dbg_37) SndA.nil (starCons rfl)) (starCons rfl)) (starCons rfl)) op_ne (by with_unfolding_all rfl)) (SndB.cons (SndS.ret SndE.cB)
  SndB.nil) SndB.nil)
  (SndB.cons (SndS.ret (SndE.cmp (SndE.callF C.G ((H_fraction_value.of N_fraction_value_ok).frm.mono (by decide)) rfl gk_law_fraction_value (by decide) (SndA.cons (SndE.callF C.G (H_law_lots.frm.mono (by decide)) rfl gk_law_law_lots (by decide) (SndA.cons (SndE.name (x := 27) rfl dbg_27) SndA.nil (starCons rfl)) (starCons rfl)) SndA.nil (starCons rfl)) (starCons rfl)) (SndE.callF C.G (H_law_stern.frm.mono (by decide)) rfl gk_law_law_stern (by decide) (SndA.cons (SndE.name (x := 27) rfl dbg_27) SndA.nil (starCons rfl)) (starCons rfl)) op_eq (by with_unfolding_all rfl)))
  SndB.nil))))))))))))))
theorem ok_law (C : Cx S mg mb) (hd : DefAt S mg (rcd 28)) (H_fraction_row : FnOK prog w S mg 4 "fraction_row" F_fraction_row) (H_fraction_value : FnOK prog w S mg 3 "fraction_value" F_fraction_value) (H_best_approximation : FnOK prog w S mg 6 "best_approximation" F_best_approximation) (H_law_draw : FnOK prog w S mg 1 "_law_draw" F_law_draw) (H_law_ratio : FnOK prog w S mg 1 "_law_ratio" F_law_ratio) (H_law_way : FnOK prog w S mg 1 "_law_way" F_law_way) (H_law_runs : FnOK prog w S mg 1 "_law_runs" F_law_runs) (H_law_turns : FnOK prog w S mg 1 "_law_turns" F_law_turns) (H_law_nearer : FnOK prog w S mg 1 "_law_nearer" F_law_nearer) (H_law_simplest : FnOK prog w S mg 1 "_law_simplest" F_law_simplest) (H_law_stern : FnOK prog w S mg 1 "_law_stern" F_law_stern) (H_law_lots : FnOK prog w S mg 1 "_law_lots" F_law_lots) (H_law_ends_right : FnOK prog w S mg 4 "_law_ends_right" F_law_ends_right) : FnOK prog w S mg 7 "law" F_law :=
  FnOK.def C.G (d := rcd 28) (xs := [31]) hd (by intro pm code doc vs h; match vs, h with | [a0], _ => rfl) (by decide) (by simp only [List.forall_mem_cons]; exact ⟨.inl lk_law_31, fun _ h => nomatch h⟩) rfl rfl rfl (snd_law C H_fraction_row H_fraction_value H_best_approximation H_law_draw H_law_ratio H_law_way H_law_runs H_law_turns H_law_nearer H_law_simplest H_law_stern H_law_lots H_law_ends_right)
end
end Mine
end
section
open PySem PySem.W PyProof.Rows
set_option maxRecDepth 100000
set_option maxHeartbeats 8000000
namespace Mine
/-- the top as the head sees it: the text without the rows that set __name__ -/
noncomputable def view : Program := { PySem.Challenge.pw_tk0012_01 with main := { PySem.Challenge.pw_tk0012_01.main with body := [1, 3, 5, 6, 7, 8, 9, 11, 12, 13, 14, 15, 16, 18, 19, 20, 21, 22, 23, 24, 25, 26, 27, 28].filterMap fun i => PySem.Challenge.pw_tk0012_01.main.body[i]? } }
theorem topView {v : Program} {mean : ExcName → Option Value} {mg mb : Str → Option Value} {h : Heap} (e : v = view) (T : Top v (looseW v []) mean mg mb h) : Top view (looseW view []) mean mg mb h := by
  subst e; exact T
end Mine
end
section
open PySem PySem.W PyProof.Rows
set_option maxRecDepth 100000
set_option maxHeartbeats 8000000
namespace Mine
/-- the defs of the top, as records -/
theorem recs_eq : recsOf view = [3, 5, 6, 7, 8, 9, 11, 12, 13, 14, 15, 16, 18, 19, 20, 21, 22, 23, 24, 25, 26, 27, 28].map rcd := by kernel_rfl
theorem rin {i : Nat} (h : i ∈ [3, 5, 6, 7, 8, 9, 11, 12, 13, 14, 15, 16, 18, 19, 20, 21, 22, 23, 24, 25, 26, 27, 28]) : rcd i ∈ recsOf view := recs_eq ▸ List.mem_map_of_mem h
theorem rin_3 : rcd 3 ∈ recsOf view := rin (by decide)
theorem rin_5 : rcd 5 ∈ recsOf view := rin (by decide)
theorem rin_6 : rcd 6 ∈ recsOf view := rin (by decide)
theorem rin_7 : rcd 7 ∈ recsOf view := rin (by decide)
theorem rin_8 : rcd 8 ∈ recsOf view := rin (by decide)
theorem rin_9 : rcd 9 ∈ recsOf view := rin (by decide)
theorem rin_11 : rcd 11 ∈ recsOf view := rin (by decide)
theorem rin_12 : rcd 12 ∈ recsOf view := rin (by decide)
theorem rin_13 : rcd 13 ∈ recsOf view := rin (by decide)
theorem rin_14 : rcd 14 ∈ recsOf view := rin (by decide)
theorem rin_15 : rcd 15 ∈ recsOf view := rin (by decide)
theorem rin_16 : rcd 16 ∈ recsOf view := rin (by decide)
theorem rin_18 : rcd 18 ∈ recsOf view := rin (by decide)
theorem rin_19 : rcd 19 ∈ recsOf view := rin (by decide)
theorem rin_20 : rcd 20 ∈ recsOf view := rin (by decide)
theorem rin_21 : rcd 21 ∈ recsOf view := rin (by decide)
theorem rin_22 : rcd 22 ∈ recsOf view := rin (by decide)
theorem rin_23 : rcd 23 ∈ recsOf view := rin (by decide)
theorem rin_24 : rcd 24 ∈ recsOf view := rin (by decide)
theorem rin_25 : rcd 25 ∈ recsOf view := rin (by decide)
theorem rin_26 : rcd 26 ∈ recsOf view := rin (by decide)
theorem rin_27 : rcd 27 ∈ recsOf view := rin (by decide)
theorem rin_28 : rcd 28 ∈ recsOf view := rin (by decide)
end Mine
end
section
open PySem PySem.W PyProof.Rows
set_option maxRecDepth 100000
set_option maxHeartbeats 8000000
namespace Mine

section
variable {prog : Program} {w : World} {S : Heap} {mg mb : Str → Option Value}
theorem all_ok (C : Cx S mg mb) (T : ∀ d ∈ recsOf view, DefAt S mg d) : FnOK prog w S mg 7 "law" F_law := by
  have H_gcd : FnOK prog w S mg 1 "gcd" F_gcd := ok_gcd C (T _ rin_3)
  have H_rat : FnOK prog w S mg 2 "rat" F_rat := ok_rat C (T _ rin_5) H_gcd
  have H_rsub : FnOK prog w S mg 3 "rsub" F_rsub := ok_rsub C (T _ rin_6) H_rat
  have H_rinv : FnOK prog w S mg 3 "rinv" F_rinv := ok_rinv C (T _ rin_7) H_rat
  have H_rcompare : FnOK prog w S mg 1 "rcompare" F_rcompare := ok_rcompare C (T _ rin_8)
  have H_rfloor : FnOK prog w S mg 1 "rfloor" F_rfloor := ok_rfloor C (T _ rin_9)
  have H_fraction_row : FnOK prog w S mg 4 "fraction_row" F_fraction_row := ok_fraction_row C (T _ rin_11) H_rsub H_rinv H_rfloor
  have H_convergents : FnOK prog w S mg 1 "convergents" F_convergents := ok_convergents C (T _ rin_12)
  have H_fraction_value : FnOK prog w S mg 3 "fraction_value" F_fraction_value := ok_fraction_value C (T _ rin_13) H_rat H_convergents
  have H_distance : FnOK prog w S mg 4 "distance" F_distance := ok_distance C (T _ rin_14) H_rsub
  have H_nearer : FnOK prog w S mg 5 "nearer" F_nearer := ok_nearer C (T _ rin_15) H_rcompare H_distance
  have H_best_approximation : FnOK prog w S mg 6 "best_approximation" F_best_approximation := ok_best_approximation C (T _ rin_16) H_fraction_row H_nearer
  have H_law_draw : FnOK prog w S mg 1 "_law_draw" F_law_draw := ok_law_draw C (T _ rin_18)
  have H_law_ratio : FnOK prog w S mg 1 "_law_ratio" F_law_ratio := ok_law_ratio C (T _ rin_19)
  have H_law_way : FnOK prog w S mg 1 "_law_way" F_law_way := ok_law_way C (T _ rin_20)
  have H_law_runs : FnOK prog w S mg 1 "_law_runs" F_law_runs := ok_law_runs C (T _ rin_21)
  have H_law_turns : FnOK prog w S mg 1 "_law_turns" F_law_turns := ok_law_turns C (T _ rin_22)
  have H_law_nearer : FnOK prog w S mg 1 "_law_nearer" F_law_nearer := ok_law_nearer C (T _ rin_23)
  have H_law_simplest : FnOK prog w S mg 1 "_law_simplest" F_law_simplest := ok_law_simplest C (T _ rin_24)
  have H_law_stern : FnOK prog w S mg 1 "_law_stern" F_law_stern := ok_law_stern C (T _ rin_25)
  have H_law_lots : FnOK prog w S mg 1 "_law_lots" F_law_lots := ok_law_lots C (T _ rin_26)
  have H_law_ends_right : FnOK prog w S mg 4 "_law_ends_right" F_law_ends_right := ok_law_ends_right C (T _ rin_27) H_convergents H_fraction_value
  have H_law : FnOK prog w S mg 7 "law" F_law := ok_law C (T _ rin_28) H_fraction_row H_fraction_value H_best_approximation H_law_draw H_law_ratio H_law_way H_law_runs H_law_turns H_law_nearer H_law_simplest H_law_stern H_law_lots H_law_ends_right
  exact H_law
end

structure LawT (ns : List Int) : Prop where
  ok : ∃ H, F_law [.ext (ns.map .int)] [] = some (.bool true, H)
theorem vrs_ints {S h : Heap} {adr : List Addr} : ∀ {vs : List Value} {ns : List Int}, IntsAre vs ns → VRs S h adr vs (ns.map .int)
  | _, _, .nil => .nil
  | _, _, .cons n t r => .cons (.int n t) (vrs_ints r)
theorem reach {w : World} {s₁ : Shared} {mg mb : Str → Option Value} {fa la : Addr} {vs : List Value} {ns : List Int} {Q : Value → Shared → Prop} {E : Value → Shared → Prop} {prog : Program}
    (C : Cx s₁.heap mg mb) (T : ∀ d ∈ recsOf view, DefAt s₁.heap mg d) (hmg : mg "law" = some (.ref fa)) (hl : s₁.heap.IsList la vs.toArray) (hi : IntsAre vs ns) (hF : LawT ns)
    (ret : ∀ h' tk', (∀ b o, s₁.heap.get? b = some o → h'.get? b = some o) → Q (.bool true) { s₁ with heap := h', toks := tk' }) :
    wpAny (model prog w) callerA (call (.ref fa) [.ref la]) Q E s₁ := by
  obtain ⟨H, hF⟩ := hF.ok
  obtain ⟨f, o, fd, h1, h2, h3, h4⟩ := all_ok (prog := prog) (w := w) C T
  have e : f = fa := by
    rw [hmg] at h1; injection h1 with h1; injection h1 with h1; exact h1.symm
  subst e
  refine h4 callerA [.ext (ns.map .int)] [.ref la] [] (.bool true) H s₁ [] Q E ⟨rfl, by decide +kernel, by decide +kernel⟩ hF (fun _ _ e => e) ⟨rfl, fun i a ds e => by simp at e, List.nodup_nil, fun a ha => nomatch ha⟩ (.cons (.ext hl (vrs_ints hi)) .nil) fun v' h' tk' adr' lr ex vr => ?_
  cases vr
  exact ret h' tk' fun b o e => ex.keep b o e (fun hm => nomatch hm)
end Mine
end
section
open PySem PySem.W PyProof.Rows
set_option maxRecDepth 100000
set_option maxHeartbeats 8000000
namespace Mine
/-- the built-in names that the text calls -/
noncomputable def called : List Str := ["abs", "enumerate", "int", "len", "range", "sum"]
theorem not_startup : ∀ x ∈ called, x ∉ startupNames := by decide +kernel
theorem not_loose : ∀ x ∈ called, x ∉ looseW view [] := by decide +kernel
theorem not_def : ∀ x ∈ called, x ∉ (recsOf view).map (·.name) := by rw [recs_eq]; decide +kernel
theorem not_lit : ∀ x ∈ called, x ∉ (litsOf view).map (·.1) := by decide +kernel
theorem not_cls : ∀ x ∈ called, x ∉ (clssOf view (looseW view [])).map (·.name) := by decide +kernel
theorem missing {loose : List Str} {mean : ExcName → Option Value} {mg mb : Str → Option Value} {h : Heap} (T : Top view loose mean mg mb h) (hl : loose = looseW view []) :
    mg "abs" = none ∧ mg "enumerate" = none ∧ mg "int" = none ∧ mg "len" = none ∧ mg "range" = none ∧ mg "sum" = none := by
  subst hl
  have key : ∀ x ∈ called, mg x = none := fun x hx => T.free x (not_startup x hx) (not_loose x hx) (not_def x hx) (not_lit x hx) (not_cls x hx)
  exact ⟨key _ (by simp [called]), key _ (by simp [called]), key _ (by simp [called]), key _ (by simp [called]), key _ (by simp [called]), key _ (by simp [called])⟩
end Mine
end
section
set_option maxRecDepth 100000
namespace Mine
theorem frm_v {g : FX} {ds es : List DV} {H : DH} {is : List Nat} {v : DV} (hp : pick ds H [] = some (es, is)) (ho : out g es (is.map fun i => H[i]?.getD []) = some (v, none)) : frm g ds H = some (v, H) := by
  unfold frm
  rw [hp, Option.bind_some, ho]; rfl
theorem frm_l {g : FX} {ds es : List DV} {H : DH} {is : List Nat} {v : DV} {ys : List DV} (hp : pick ds H [] = some (es, is)) (ho : out g es (is.map fun i => H[i]?.getD []) = some (v, some ys)) : frm g ds H = some (.ref H.length, H ++ [ys]) := by
  unfold frm
  rw [hp, Option.bind_some, ho]; rfl
theorem out_list {g : FX} {es : List DV} {H1 : DH} {j : Nat} {ys : List DV} (h : g es [] = some (.ref j, H1)) (hj : H1[j]? = some ys) (hf : flats ys = true) : out g es [] = some (.none, some ys) := by
  unfold out
  rw [h, Option.bind_some]
  show (H1[j]?).bind _ = _
  rw [hj, Option.bind_some, hf]; rfl
theorem pick_ref1 {H : DH} {i : Nat} {xs : List DV} (hi : H[i]? = some xs) (hf : flats xs = true) : pick [.ref i] H [] = some ([.ref 0], [i]) := by
  simp [pick, hi, hf]
theorem frmR_v {g : FX} {H : DH} {i : Nat} {xs : List DV} {v : DV} (hi : H[i]? = some xs) (hf : flats xs = true) (ho : out g [.ref 0] [xs] = some (v, none)) : frm g [.ref i] H = some (v, H) :=
  frm_v (pick_ref1 hi hf) (by simpa [hi] using ho)
theorem frmR_l {g : FX} {H : DH} {i : Nat} {xs ys : List DV} {v : DV} (hi : H[i]? = some xs) (hf : flats xs = true) (ho : out g [.ref 0] [xs] = some (v, some ys)) : frm g [.ref i] H = some (.ref H.length, H ++ [ys]) :=
  frm_l (pick_ref1 hi hf) (by simpa [hi] using ho)

/-! the tree of the ratios -/
noncomputable def pthGo : Nat → Int → Int → Int → Int → Int → Int → List Bool
  | 0, _, _, _, _, _, _ => []
  | n + 1, la, lb, ha, hb, a, b => if la + ha = a ∧ lb + hb = b then [] else
      if (la + ha) * b < a * (lb + hb) then true :: pthGo n (la + ha) (lb + hb) ha hb a b else false :: pthGo n la lb (la + ha) (lb + hb) a b
noncomputable def pth (r : Int × Int) : List Bool := pthGo 45 0 1 1 0 r.1 r.2
noncomputable def ratsOf (b : Nat) : List (Int × Int) := (List.range 30).filterMap fun a => if Nat.gcd (a + 1) b = 1 then some ((a + 1 : Nat), (b : Nat)) else none
noncomputable def rats : List (Int × Int) := (List.range 12).flatMap fun b => ratsOf (b + 1)
noncomputable def bools (p : List Bool) : List DV := p.map .bool

/-! tables: bottom by bottom -/
theorem below_succ {P : Nat → Prop} {n : Nat} (h : ∀ b < n, P b) (k : P n) : ∀ b < n + 1, P b := fun b hb => (Nat.lt_succ_iff_lt_or_eq.mp hb).elim (h b) fun e => e ▸ k
theorem by12 {P : Nat → Prop} (h0 : P 0) (h1 : P 1) (h2 : P 2) (h3 : P 3) (h4 : P 4) (h5 : P 5) (h6 : P 6) (h7 : P 7) (h8 : P 8) (h9 : P 9) (h10 : P 10) (h11 : P 11) : ∀ b < 12, P b :=
  below_succ (below_succ (below_succ (below_succ (below_succ (below_succ (below_succ (below_succ (below_succ (below_succ (below_succ (below_succ (fun _ h => absurd h (Nat.not_lt_zero _)) h0) h1) h2) h3) h4) h5) h6) h7) h8) h9) h10) h11
theorem all_of {f : Int × Int → Bool} (h : ∀ b < 12, (ratsOf (b + 1)).all f = true) : (rats.all f) = true := by
  rw [List.all_eq_true]
  intro r hr
  obtain ⟨b, hb, hr⟩ := List.mem_flatMap.mp hr
  exact List.all_eq_true.mp (h b (List.mem_range.mp hb)) r hr
/-- _law_ratio ends among the ratios -/
noncomputable def ratioOK (t b : Nat) : Bool := match out F_law_ratio [.int (1 + (t : Int)), .int (1 + (b : Int))] [] with
  | some (.tup [.int x, .int y], none) => rats.any fun r => r.1 == x && r.2 == y
  | _ => false
theorem ratio_tab : ∀ b < 12, ∀ t < 30, ratioOK t b = true := by12 (P := fun b => ∀ t < 30, ratioOK t b = true) (by decide +kernel) (by decide +kernel) (by decide +kernel) (by decide +kernel) (by decide +kernel) (by decide +kernel) (by decide +kernel) (by decide +kernel) (by decide +kernel) (by decide +kernel) (by decide +kernel) (by decide +kernel)
theorem ratio_ok {t b : Int} (ht : 0 ≤ t) (ht' : t < 30) (hb : 0 ≤ b) (hb' : b < 12) (H : DH) : ∃ r ∈ rats, frm F_law_ratio [.int (1 + t), .int (1 + b)] H = some (dv r, H) := by
  have h := ratio_tab b.toNat (by omega) t.toNat (by omega)
  unfold ratioOK at h
  rw [Int.toNat_of_nonneg ht, Int.toNat_of_nonneg hb] at h
  split at h
  · rename_i x y q
    obtain ⟨r, hr, e⟩ := List.any_eq_true.mp h
    simp only [Bool.and_eq_true, beq_iff_eq] at e
    refine ⟨r, hr, ?_⟩
    rw [dv, e.1, e.2]
    exact frm_v (is := []) rfl q
  · cases h
/-- the row of a ratio, and the turns of the row -/
noncomputable def rowOK (r : Int × Int) : Bool := match out N_fraction_row [dv r] [] with
  | some (.none, some ys) => flats ys && (match out F_law_turns [.ref 0] [ys] with
    | some (.none, some ts) => bqs ts (bools (pth r))
    | _ => false)
  | _ => false
theorem row_tab : (rats.all rowOK) = true := all_of (by12 (P := fun b => (ratsOf (b + 1)).all rowOK = true) (by decide +kernel) (by decide +kernel) (by decide +kernel) (by decide +kernel) (by decide +kernel) (by decide +kernel) (by decide +kernel) (by decide +kernel) (by decide +kernel) (by decide +kernel) (by decide +kernel) (by decide +kernel))
structure RowIs (r : Int × Int) (ys : List DV) : Prop where
  row : out N_fraction_row [dv r] [] = some (.none, some ys)
  flat : flats ys = true
  turns : out F_law_turns [.ref 0] [ys] = some (.none, some (bools (pth r)))
theorem row_ok {r : Int × Int} (hr : r ∈ rats) : ∃ ys, RowIs r ys := by
  have h := List.all_eq_true.mp row_tab r hr
  unfold rowOK at h
  split at h
  · rename_i ys q
    simp only [Bool.and_eq_true] at h
    obtain ⟨h1, h2⟩ := h
    split at h2
    · rename_i ts q2
      rw [bqs_eq h2] at q2
      exact ⟨ys, q, h1, q2⟩
    · cases h2
  · cases h
/-- the value of the runs of a path is its end -/
noncomputable def valOK (r : Int × Int) : Bool := match out F_law_runs [.ref 0] [bools (pth r)] with
  | some (.none, some ys) => flats ys && (match out N_fraction_value [.ref 0] [ys] with
    | some (v, none) => bq v (dv r)
    | _ => false)
  | _ => false
theorem val_tab : (rats.all valOK) = true := all_of (by12 (P := fun b => (ratsOf (b + 1)).all valOK = true) (by decide +kernel) (by decide +kernel) (by decide +kernel) (by decide +kernel) (by decide +kernel) (by decide +kernel) (by decide +kernel) (by decide +kernel) (by decide +kernel) (by decide +kernel) (by decide +kernel) (by decide +kernel))
structure ValIs (r : Int × Int) (ys : List DV) : Prop where
  runs : out F_law_runs [.ref 0] [bools (pth r)] = some (.none, some ys)
  flat : flats ys = true
  val : out N_fraction_value [.ref 0] [ys] = some (dv r, none)
theorem val_ok {r : Int × Int} (hr : r ∈ rats) : ∃ ys, ValIs r ys := by
  have h := List.all_eq_true.mp val_tab r hr
  unfold valOK at h
  split at h
  · rename_i ys q
    simp only [Bool.and_eq_true] at h
    obtain ⟨h1, h2⟩ := h
    split at h2
    · rename_i v q2
      rw [bq_eq h2] at q2
      exact ⟨ys, q, h1, q2⟩
    · cases h2
  · cases h
/-- the last row: n's lots and its stern pair -/
noncomputable def numOK (n : Nat) : Bool := match out F_law_lots [.int (1 + (n : Int))] [] with
  | some (.none, some ys) => flats ys && (match out N_fraction_value [.ref 0] [ys] with
    | some (.tup [.int x, .int y], none) => (match out F_law_stern [.int (1 + (n : Int))] [] with
      | some (.tup [.int z, .int u], none) => x == z && y == u
      | _ => false)
    | _ => false)
  | _ => false
theorem num_tab : ∀ n < 31, numOK n = true := by decide +kernel
structure NumIs (n : Int) (ys : List DV) (x y : Int) : Prop where
  lots : out F_law_lots [.int n] [] = some (.none, some ys)
  flat : flats ys = true
  val : out N_fraction_value [.ref 0] [ys] = some (.tup [.int x, .int y], none)
  stern : out F_law_stern [.int n] [] = some (.tup [.int x, .int y], none)
theorem num_ok {n : Int} (h0 : 0 ≤ n) (h1 : n < 31) : ∃ ys x y, NumIs (1 + n) ys x y := by
  have h := num_tab n.toNat (by omega)
  unfold numOK at h
  rw [Int.toNat_of_nonneg h0] at h
  split at h
  · rename_i ys q
    simp only [Bool.and_eq_true] at h
    obtain ⟨h1, h2⟩ := h
    split at h2
    · rename_i x y q2
      split at h2
      · rename_i z u q3
        simp only [Bool.and_eq_true, beq_iff_eq] at h2
        rw [← h2.1, ← h2.2] at q3
        exact ⟨ys, x, y, q, h1, q2, q3⟩
      · cases h2
    · cases h2
  · cases h
end Mine
end
section
set_option maxRecDepth 100000
namespace Mine
/-! statement 8: the nearest ratio with a bottom up to a bound, against the walls of the way -/
abbrev W4 := Int × Int × Int × Int
noncomputable def wayGo : Nat → Int → Int → Int → Int → Int → Int → List W4
  | 0, _, _, _, _, _, _ => []
  | n + 1, la, lb, ha, hb, a, b => (la, lb, ha, hb) :: if la + ha = a ∧ lb + hb = b then [] else if (la + ha) * b < a * (lb + hb) then wayGo n (la + ha) (lb + hb) ha hb a b else wayGo n la lb (la + ha) (lb + hb) a b
noncomputable def wayN (r : Int × Int) : List W4 := wayGo 45 0 1 1 0 r.1 r.2
noncomputable def lowW (w : W4) : Int × Int := (w.1, w.2.1)
noncomputable def highW (w : W4) : Int × Int := (w.2.2.1, w.2.2.2)
noncomputable def midW (w : W4) : Int × Int := (w.1 + w.2.2.1, w.2.1 + w.2.2.2)
noncomputable def plc (w : W4) : DV := .tup [dv (lowW w), dv (midW w), dv (highW w)]
noncomputable def past (m : Int) (w : W4) : Bool := decide (m < (midW w).2)
noncomputable def offN (r l h : Int × Int) : Int := (r.1 * l.2 - l.1 * r.2) * h.2 - (h.1 * r.2 - r.1 * h.2) * l.2
noncomputable def nearL (r l h : Int × Int) : Option (List (Int × Int)) :=
  if smallI r.1 ∧ smallI l.1 ∧ smallI h.1 ∧ smallI (r.1 * l.2 - l.1 * r.2) ∧ smallI (h.1 * r.2 - r.1 * h.2) then
    some (if offN r l h = 0 then (if l.2 - h.2 = 0 then [l, h] else [if l.2 - h.2 < 0 then l else h]) else [if offN r l h < 0 then l else h])
  else none
noncomputable def okM (r : Int × Int) (m : Int) : Bool := match (wayN r).filter (past m) with
  | [] => false
  | w :: _ => match bestN r.1 r.2 m with
    | none => false
    | some (x, y, _) => match nearL r (lowW w) (highW w) with
      | none => false
      | some l => l.any fun z => z.1 == x && z.2 == y
noncomputable def all8 (r : Int × Int) : Bool := (List.range 11).all fun j => decide (r.2 ≤ (j : Int) + 1) || okM r ((j : Int) + 1)
theorem tab8 : (rats.all all8) = true := all_of (by12 (P := fun b => (ratsOf (b + 1)).all all8 = true) (by decide +kernel) (by decide +kernel) (by decide +kernel) (by decide +kernel) (by decide +kernel) (by decide +kernel) (by decide +kernel) (by decide +kernel) (by decide +kernel) (by decide +kernel) (by decide +kernel) (by decide +kernel))
theorem wayGo_length : ∀ n la lb ha hb a b, (wayGo n la lb ha hb a b).length ≤ n := by
  intro n
  induction n with
  | zero => intro la lb ha hb a b; simp [wayGo]
  | succ n ih =>
    intro la lb ha hb a b
    unfold wayGo
    rw [List.length_cons]
    refine Nat.succ_le_succ ?_
    split
    · simp
    · split <;> exact ih _ _ _ _ _ _
theorem flats_dv : ∀ xs : List (Int × Int), flats (xs.map dv) = true
  | [] => rfl
  | a :: r => by rw [List.map_cons, flats, flats_dv r]; rfl
/-- the end of _law_nearer: the nearer wall -/
theorem near_last (r l h : Int × Int) {o : Int} (ho : ¬ o = 0) : retS (iteE (toT (seq2 (getE 5) (cE (.int 0)) fEq)) (lstE (consA (getE 21) (consA (getE 22) nilA))) (lstE (consA (iteE (toT (seq2 (getE 5) (cE (.int 0)) fLt)) (getE 21) (getE 22)) nilA))) ⟨[(6, dv r), (21, dv l), (22, dv h), (5, .int o)], []⟩ =
    some (.ret (.ref 0), ⟨[(6, dv r), (21, dv l), (22, dv h), (5, .int o)], [[if o < 0 then l else h].map dv]⟩) := by
  have q0 : toT (seq2 (getE 5) (cE (.int 0)) fEq) ⟨[(6, dv r), (21, dv l), (22, dv h), (5, .int o)], []⟩ = some (o == 0, []) := rfl
  have q1 : toT (seq2 (getE 5) (cE (.int 0)) fLt) ⟨[(6, dv r), (21, dv l), (22, dv h), (5, .int o)], []⟩ = some (decide (o < 0), []) := rfl
  have u : iteE (toT (seq2 (getE 5) (cE (.int 0)) fLt)) (getE 21) (getE 22) ⟨[(6, dv r), (21, dv l), (22, dv h), (5, .int o)], []⟩ = some (dv (if o < 0 then l else h), []) := by
    by_cases hn : o < 0
    · rw [decide_eq_true hn] at q1
      rw [iteE_t q1, if_pos hn]; rfl
    · rw [decide_eq_false hn] at q1
      rw [iteE_f q1, if_neg hn]; rfl
  rw [beq_eq_false_iff_ne.mpr ho] at q0
  refine retS_some ((iteE_f q0).trans ?_)
  unfold lstE consA
  rw [u]
  rfl
theorem near_ok {r l h : Int × Int} {xs : List (Int × Int)} (e : nearL r l h = some xs) : out F_law_nearer [dv r, dv l, dv h] [] = some (.none, some (xs.map dv)) := by
  refine out_list (H1 := [xs.map dv]) (j := 0) ?_ rfl (flats_dv xs)
  unfold nearL at e
  by_cases hs : smallI r.1 ∧ smallI l.1 ∧ smallI h.1 ∧ smallI (r.1 * l.2 - l.1 * r.2) ∧ smallI (h.1 * r.2 - r.1 * h.2)
  rotate_left
  · rw [if_neg hs] at e; cases e
  rw [if_pos hs] at e
  obtain ⟨s1, s2, s3, s4, s5⟩ := hs
  cases e
  have m1 : seq2 (seq2 (getE 6) (cE (.int 0)) fItem) (seq2 (getE 21) (cE (.int 1)) fItem) fMul ⟨[(6, dv r), (21, dv l), (22, dv h)], []⟩ = some (.int (r.1 * l.2), []) := (seq2_some rfl rfl).trans (mul_ok s1)
  have m2 : seq2 (seq2 (getE 21) (cE (.int 0)) fItem) (seq2 (getE 6) (cE (.int 1)) fItem) fMul ⟨[(6, dv r), (21, dv l), (22, dv h)], []⟩ = some (.int (l.1 * r.2), []) := (seq2_some rfl rfl).trans (mul_ok s2)
  have m3 : seq2 (seq2 (getE 22) (cE (.int 0)) fItem) (seq2 (getE 6) (cE (.int 1)) fItem) fMul ⟨[(6, dv r), (21, dv l), (22, dv h)], []⟩ = some (.int (h.1 * r.2), []) := (seq2_some rfl rfl).trans (mul_ok s3)
  have m4 : seq2 (seq2 (getE 6) (cE (.int 0)) fItem) (seq2 (getE 22) (cE (.int 1)) fItem) fMul ⟨[(6, dv r), (21, dv l), (22, dv h)], []⟩ = some (.int (r.1 * h.2), []) := (seq2_some rfl rfl).trans (mul_ok s1)
  have m5 := (seq2_some (f := fMul) ((seq2_some (f := fSub) m1 m2).trans rfl) (show seq2 (getE 22) (cE (.int 1)) fItem ⟨[(6, dv r), (21, dv l), (22, dv h)], []⟩ = some (.int h.2, []) from rfl)).trans (mul_ok s4)
  have m6 := (seq2_some (f := fMul) ((seq2_some (f := fSub) m3 m4).trans rfl) (show seq2 (getE 21) (cE (.int 1)) fItem ⟨[(6, dv r), (21, dv l), (22, dv h)], []⟩ = some (.int l.2, []) from rfl)).trans (mul_ok s5)
  have e1 := asgS_some (g := setG 5) ((seq2_some (f := fSub) m5 m6).trans rfl) rfl
  refine funD_ex rfl ?_
  unfold d_law_nearer
  show ∃ vs, consB _ _ ⟨[(6, dv r), (21, dv l), (22, dv h)], []⟩ = some (_, ⟨vs, _⟩)
  rw [consB_next e1]
  show ∃ vs, consB _ _ ⟨[(6, dv r), (21, dv l), (22, dv h), (5, .int (offN r l h))], []⟩ = some (_, ⟨vs, _⟩)
  generalize offN r l h = o
  by_cases ho : o = 0
  · subst ho
    rw [if_pos rfl]
    have i0 : ∀ b, consB (ifS (toT (seq2 (getE 5) (cE (.int 0)) fEq)) (consB (asgS (seq2 (seq2 (getE 21) (cE (.int 1)) fItem) (seq2 (getE 22) (cE (.int 1)) fItem) fSub) (setG 5)) nilB) nilB) b ⟨[(6, dv r), (21, dv l), (22, dv h), (5, .int 0)], []⟩ = b ⟨[(6, dv r), (21, dv l), (22, dv h), (5, .int (l.2 - h.2))], []⟩ := fun _ => rfl
    rw [i0]
    by_cases hk : l.2 - h.2 = 0
    · rw [hk, if_pos rfl]; exact ⟨_, rfl⟩
    · rw [if_neg hk]
      exact ⟨_, consB_ret (near_last r l h hk)⟩
  · rw [if_neg ho]
    have q0 : toT (seq2 (getE 5) (cE (.int 0)) fEq) ⟨[(6, dv r), (21, dv l), (22, dv h), (5, .int o)], []⟩ = some (o == 0, []) := rfl
    rw [beq_eq_false_iff_ne.mpr ho] at q0
    exact ⟨_, (consB_next (ifS_f q0)).trans (consB_ret (near_last r l h ho))⟩
theorem any_dv (g : Int × Int) : ∀ xs : List (Int × Int), anyEq (dv g) (xs.map dv) = some (xs.any fun z => z.1 == g.1 && z.2 == g.2)
  | [] => rfl
  | a :: r => by
    have e : peq 8 (dv a) (dv g) = some (a.1 == g.1 && a.2 == g.2) := by
      show (zipEq (peq 7) [.int a.1, .int a.2] [.int g.1, .int g.2]).map _ = _
      simp [zipEq, peq_int]
    have p : plainB 4 (dv a) = true := rfl
    rw [List.map_cons, anyEq, if_pos p, e, any_dv g r]
    rfl
theorem filter_lookup {caps : List Nat} {y : Nat} (hy : caps.contains y = true) : ∀ l : List (Nat × DV), (l.filter fun p => caps.contains p.1).lookup y = l.lookup y
  | [] => rfl
  | (z, b) :: r => by
    rw [List.filter_cons, List.lookup_cons]
    by_cases q : y = z
    · subst q
      rw [if_pos hy, List.lookup_cons]
      simp
    · rw [beq_eq_false_iff_ne.mpr q]
      simp only
      split
      · rw [List.lookup_cons, beq_eq_false_iff_ne.mpr q]
        exact filter_lookup hy r
      · exact filter_lookup hy r
noncomputable def cond8 : TX := toT (seq2 (seq2 (seq2 (getE 33) (cE (.int 1)) fItem) (cE (.int 1)) fItem) (getE 13) fGt)
theorem cond8_ok {m : Int} {w : W4} {vs : List (Nat × DV)} {K : DH} (h : vs.lookup 13 = some (.int m)) : cond8 ⟨setv 33 (plc w) vs, K⟩ = some (past m w, K) := by
  have a : (setv 33 (plc w) vs).lookup 33 = some (plc w) := by rw [lookup_setv, if_pos rfl]
  have b : (setv 33 (plc w) vs).lookup 13 = some (.int m) := by rw [lookup_setv, if_neg (by decide)]; exact h
  have i1 : fItem (plc w) (.int 1) K = some (dv (midW w), K) := rfl
  have i2 : fItem (dv (midW w)) (.int 1) K = some (.int (midW w).2, K) := rfl
  simp only [cond8, toT, seq2, getE, a, b, Option.map_some, cE, i1, i2, fGt]
  rfl
theorem comp8 {m : Int} {l l0 : Nat} {ws : List W4} (hw : ws.length < 100) (hne : l ≠ l0) : ∀ (n i : Nat) (vs : List (Nat × DV)) (K : DH) (acc : List DV), n + i = 100 → i ≤ ws.length → vs.lookup 13 = some (.int m) → K[l]? = some (ws.map plc) → K[l0]? = some acc → acc.length ≤ i →
    ∃ K', compGo 33 (some cond8) (getE 33) l0 n (.lst l i) vs K = some K' ∧ K'[l0]? = some (acc ++ ((ws.drop i).filter (past m)).map plc) ∧ ∀ j, j ≠ l0 → K'[j]? = K[j]? := by
  intro n
  induction n with
  | zero => intro i vs K acc hn hi; omega
  | succ n ih =>
    intro i vs K acc hn hi h13 hl h0 ha
    by_cases hlt : i < ws.length
    · have hit : itNext (.lst l i) K = some (some (plc ws[i], .lst l (i + 1))) := by simp [itNext, hl, hlt]
      have h13' : (setv 33 (plc ws[i]) vs).lookup 13 = some (.int m) := by rw [lookup_setv, if_neg (by decide)]; exact h13
      have h33 : (setv 33 (plc ws[i]) vs).lookup 33 = some (plc ws[i]) := by rw [lookup_setv, if_pos rfl]
      rw [List.drop_eq_getElem_cons hlt, List.filter_cons]
      cases hp : past m ws[i] with
      | false =>
        obtain ⟨K', e, e0, ej⟩ := ih (i + 1) _ K acc (by omega) (by omega) h13' hl h0 (by omega)
        refine ⟨K', ?_, e0, ej⟩
        simp only [compGo, hit, testC, cond8_ok h13, hp]
        exact e
      | true =>
        have l0K : l0 < K.length := (List.getElem?_eq_some_iff.mp h0).1
        obtain ⟨K', e, e0, ej⟩ := ih (i + 1) _ (K.set l0 (acc ++ [plc ws[i]])) (acc ++ [plc ws[i]]) (by omega) (by omega) h13' (by rw [List.getElem?_set_ne hne.symm]; exact hl) (by rw [List.getElem?_set_self l0K]) (by simp; omega)
        have hle : acc.length ≤ 1000000 := by omega
        refine ⟨K', ?_, ?_, fun j hj => ?_⟩
        · simp only [compGo, hit, testC, cond8_ok h13, hp, getE, h33, Option.map_some, h0, if_pos hle]
          exact e
        · rw [e0]; simp
        · rw [ej j hj, List.getElem?_set_ne hj.symm]
    · have hi' : i = ws.length := by omega
      subst hi'
      have hit : itNext (.lst l ws.length) K = some none := by simp [itNext, hl]
      refine ⟨K, by simp only [compGo, hit], ?_, fun _ _ => rfl⟩
      rw [List.drop_length, List.filter_nil, List.map_nil, List.append_nil]
      exact h0
noncomputable def body8 : SX := (consB (asgS (seq2 (compE (lstI (getE 29)) [13] 33 (some cond8) (getE 33) 100) (cE (.int 0)) fItem) (tupG [(setG 21), (setG 15), (setG 22)]))
  (consB (ifS (toT (seq2 (callE (consA (getE 6) (consA (getE 13) nilA)) (frm N_best_approximation)) (callE (consA (getE 6) (consA (getE 21) (consA (getE 22) nilA))) (frm F_law_nearer)) fNotIn)) (consB (retS (cE (.bool false)))
  nilB) nilB)
  nilB))
theorem wayN_length (r : Int × Int) : (wayN r).length ≤ 45 := wayGo_length 45 _ _ _ _ _ _
theorem body8_ok {r : Int × Int} {m : Int} (ok : okM r m = true) {V : List (Nat × DV)} {K : DH} {l : Nat} (v13 : V.lookup 13 = some (.int m)) (v29 : V.lookup 29 = some (.ref l)) (v6 : V.lookup 6 = some (dv r)) (hl : K[l]? = some ((wayN r).map plc)) :
    ∃ V' K', body8 ⟨V, K⟩ = some (.next, ⟨V', K'⟩) ∧ (∀ x, x ≠ 21 → x ≠ 15 → x ≠ 22 → V'.lookup x = V.lookup x) ∧ ∀ j, j < K.length → K'[j]? = K[j]? := by
  have lK : l < K.length := (List.getElem?_eq_some_iff.mp hl).1
  have hw := wayN_length r
  obtain ⟨K1, e1, e2, e3⟩ := comp8 (m := m) (l := l) (l0 := K.length) (ws := wayN r) (by omega) (by omega) 100 0 (V.filter fun p => [13].contains p.1) (K ++ [[]]) [] rfl (Nat.zero_le _)
    ((filter_lookup (by decide) V).trans v13) (by rw [List.getElem?_append_left lK]; exact hl) (by simp) (by simp)
  rw [List.drop_zero, List.nil_append] at e2
  have up1 : ∀ j, j < K.length → K1[j]? = K[j]? := fun j hj => by rw [e3 j (by omega), List.getElem?_append_left hj]
  unfold okM at ok
  have hf := List.length_filter_le (past m) (wayN r)
  generalize (wayN r).filter (past m) = fs at ok e2 hf
  cases fs with
  | nil => cases ok
  | cons w rest =>
    simp only at ok
    cases hb : bestN r.1 r.2 m with
    | none => rw [hb] at ok; cases ok
    | some g =>
      obtain ⟨x, y, row⟩ := g
      rw [hb] at ok
      simp only at ok
      cases hn : nearL r (lowW w) (highW w) with
      | none => rw [hn] at ok; cases ok
      | some xs =>
        rw [hn] at ok
        simp only at ok
        have c1 : compE (lstI (getE 29)) [13] 33 (some cond8) (getE 33) 100 ⟨V, K⟩ = some (.ref K.length, K1) := by
          simp only [compE, lstI, getE, v29, Option.map_some, hl, e1]
        have c2 : fItem (.ref K.length) (.int 0) K1 = some (plc w, K1) := by
          have hle : ((w :: rest).map plc).length ≤ 1000000 := by rw [List.length_map]; omega
          have hix : idx 0 ((w :: rest).map plc).length = some 0 := by
            unfold idx
            rw [if_pos ⟨by decide, by simp⟩]; rfl
          simp only [fItem, e2, if_pos hle, hix]
          rfl
        have a1 : asgS (seq2 (compE (lstI (getE 29)) [13] 33 (some cond8) (getE 33) 100) (cE (.int 0)) fItem) (tupG [(setG 21), (setG 15), (setG 22)]) ⟨V, K⟩ = some (.next, ⟨setv 22 (dv (highW w)) (setv 15 (dv (midW w)) (setv 21 (dv (lowW w)) V)), K1⟩) := by
          simp only [asgS, seq2, c1, cE, c2]
          rfl
        have kx : ∀ z, z ≠ 21 → z ≠ 15 → z ≠ 22 → (setv 22 (dv (highW w)) (setv 15 (dv (midW w)) (setv 21 (dv (lowW w)) V))).lookup z = V.lookup z := fun z h1 h2 h3 => by
          rw [lookup_setv, if_neg h3, lookup_setv, if_neg h2, lookup_setv, if_neg h1]
        have k21 : (setv 22 (dv (highW w)) (setv 15 (dv (midW w)) (setv 21 (dv (lowW w)) V))).lookup 21 = some (dv (lowW w)) := by
          rw [lookup_setv, if_neg (by decide), lookup_setv, if_neg (by decide), lookup_setv, if_pos rfl]
        have k22 : (setv 22 (dv (highW w)) (setv 15 (dv (midW w)) (setv 21 (dv (lowW w)) V))).lookup 22 = some (dv (highW w)) := by
          rw [lookup_setv, if_pos rfl]
        generalize setv 22 (dv (highW w)) (setv 15 (dv (midW w)) (setv 21 (dv (lowW w)) V)) = V2 at a1 kx k21 k22
        have j6 := (kx 6 (by decide) (by decide) (by decide)).trans v6
        have j13 := (kx 13 (by decide) (by decide) (by decide)).trans v13
        have ob : out N_best_approximation [dv r, .int m] [] = some (dv (x, y), none) := by
          have : N_best_approximation [dv r, .int m] [] = some (dv (x, y), [row.map .int]) := by
            show (bestN r.1 r.2 m).map _ = _
            rw [hb]; rfl
          unfold out
          rw [this]
          rfl
        have fb : frm N_best_approximation [dv r, .int m] K1 = some (dv (x, y), K1) := frm_v (is := []) rfl ob
        have fn : frm F_law_nearer [dv r, dv (lowW w), dv (highW w)] K1 = some (.ref K1.length, K1 ++ [xs.map dv]) := frm_l (is := []) rfl (near_ok hn)
        have ni : fNotIn (dv (x, y)) (.ref K1.length) (K1 ++ [xs.map dv]) = some (.bool false, K1 ++ [xs.map dv]) := by
          have lg : (K1 ++ [xs.map dv])[K1.length]? = some (xs.map dv) := by simp
          simp only [fNotIn, lg, any_dv, ok, Option.map_some, Bool.not_true]
        have t : toT (seq2 (callE (consA (getE 6) (consA (getE 13) nilA)) (frm N_best_approximation)) (callE (consA (getE 6) (consA (getE 21) (consA (getE 22) nilA))) (frm F_law_nearer)) fNotIn) ⟨V2, K1⟩ = some (false, K1 ++ [xs.map dv]) := by
          simp only [toT, seq2, callE, consA, getE, nilA, j6, j13, k21, k22, Option.map_some, fb, fn, ni]
        refine ⟨V2, K1 ++ [xs.map dv], ?_, kx, fun j hj => ?_⟩
        · unfold body8
          rw [consB_next a1]
          simp only [consB, ifS, t, nilB]
        · have : K1.length ≥ K.length := by
            rcases Nat.lt_or_ge K1.length K.length with h | h
            · have := up1 K1.length h
              rw [List.getElem?_eq_none (Nat.le_refl _), List.getElem?_eq_getElem h] at this
              cases this
            · exact h
          rw [List.getElem?_append_left (by omega)]
          exact up1 j hj
theorem loop8 {r : Int × Int} (ok : ∀ m, 1 ≤ m → m < r.2 → okM r m = true) {l : Nat} : ∀ (n : Nat) (x : Int) (V : List (Nat × DV)) (K : DH), r.2 - x < n → 1 ≤ x → x ≤ r.2 → V.lookup 29 = some (.ref l) → V.lookup 6 = some (dv r) → K[l]? = some ((wayN r).map plc) →
    ∃ V' K', forGo (setG 13) body8 n (.rng x (r.2 - x)) ⟨V, K⟩ = some (.next, ⟨V', K'⟩) ∧ (∀ z, z ≠ 13 → z ≠ 21 → z ≠ 15 → z ≠ 22 → V'.lookup z = V.lookup z) ∧ ∀ j, j < K.length → K'[j]? = K[j]? := by
  intro n
  induction n with
  | zero => intro x V K h1 h2 h3; omega
  | succ n ih =>
    intro x V K h1 h2 h3 v29 v6 hl
    by_cases hx : x < r.2
    · have hit : itNext (.rng x (r.2 - x)) K = some (some (.int x, .rng (x + 1) (r.2 - (x + 1)))) := by
        have e : r.2 - x - 1 = r.2 - (x + 1) := by omega
        simp only [itNext, if_neg (show ¬ r.2 - x ≤ 0 by omega), e]
      have k13 : (setv 13 (.int x) V).lookup 13 = some (.int x) := by rw [lookup_setv, if_pos rfl]
      have kz : ∀ z, z ≠ 13 → (setv 13 (.int x) V).lookup z = V.lookup z := fun z h => by rw [lookup_setv, if_neg h]
      obtain ⟨V1, K1, e1, f1, g1⟩ := body8_ok (ok x h2 hx) k13 ((kz 29 (by decide)).trans v29) ((kz 6 (by decide)).trans v6) hl
      have lK : l < K.length := (List.getElem?_eq_some_iff.mp hl).1
      have le1 : K.length ≤ K1.length := by
        rcases Nat.lt_or_ge K1.length K.length with h | h
        · have := g1 K1.length h
          rw [List.getElem?_eq_none (Nat.le_refl _), List.getElem?_eq_getElem h] at this
          cases this
        · exact h
      obtain ⟨V', K', e, f, g⟩ := ih (x + 1) V1 K1 (by omega) (by omega) (by omega) ((f1 29 (by decide) (by decide) (by decide)).trans ((kz 29 (by decide)).trans v29)) ((f1 6 (by decide) (by decide) (by decide)).trans ((kz 6 (by decide)).trans v6)) ((g1 l lK).trans hl)
      refine ⟨V', K', ?_, fun z h13 h21 h15 h22 => ?_, fun j hj => ?_⟩
      · simp only [forGo, hit, setG, e1]
        exact e
      · rw [f z h13 h21 h15 h22, f1 z h21 h15 h22, kz z h13]
      · rw [g j (by omega), g1 j hj]
    · have e : x = r.2 := by omega
      subst e
      have hit : itNext (.rng r.2 (r.2 - r.2)) K = some none := by simp [itNext]
      exact ⟨V, K, by simp only [forGo, hit], fun _ _ _ _ _ => rfl, fun _ _ => rfl⟩
theorem ok8 {r : Int × Int} (hr : r ∈ rats) (hb : r.2 ≤ 12) (m : Int) (h1 : 1 ≤ m) (h2 : m < r.2) : okM r m = true := by
  have h := List.all_eq_true.mp (List.all_eq_true.mp tab8 r hr) (m - 1).toNat (List.mem_range.mpr (by omega))
  rw [Int.toNat_of_nonneg (by omega), Bool.or_eq_true, decide_eq_true_eq, Int.sub_add_cancel] at h
  rcases h with h | h
  · omega
  · exact h
theorem eq8 {r : Int × Int} (hr : r ∈ rats) (h1 : 1 ≤ r.2) (hb : r.2 ≤ 12) {V : List (Nat × DV)} {K : DH} {l : Nat} (v29 : V.lookup 29 = some (.ref l)) (v6 : V.lookup 6 = some (dv r)) (hl : K[l]? = some ((wayN r).map plc)) :
    ∃ V' K', law_8 ⟨V, K⟩ = some (.next, ⟨V', K'⟩) ∧ (∀ z, z ≠ 13 → z ≠ 21 → z ≠ 15 → z ≠ 22 → V'.lookup z = V.lookup z) ∧ ∀ j, j < K.length → K'[j]? = K[j]? := by
  obtain ⟨V', K', e, f, g⟩ := loop8 (ok8 hr hb) (l := l) 100 1 V K (by omega) (by decide) h1 v29 v6 hl
  refine ⟨V', K', ?_, f, g⟩
  have s1 : smallI r.2 = true := by unfold smallI; simp only [decide_eq_true_eq]; omega
  have i1 : fItem (dv r) (.int 1) K = some (.int r.2, K) := rfl
  have hif : (if (1 : Int) < r.2 then r.2 - 1 else 0) = r.2 - 1 := by split <;> omega
  have e2 : rngI2 (cE (.int 1)) (seq2 (getE 6) (cE (.int 1)) fItem) ⟨V, K⟩ = some (.rng 1 (r.2 - 1), K) := by
    simp only [rngI2, cE, seq2, getE, v6, Option.map_some, i1, range2, s1, Bool.and_true, hif]
    rfl
  unfold law_8 forS
  rw [e2]
  exact e
end Mine
end
section
set_option maxRecDepth 100000
namespace Mine
open PyProof.Rows
/-- the part of the law that looks at one ratio alone, but for statement 8 -/
noncomputable def blk : SX := consB law_5 (consB law_6 (consB law_7 nilB))
noncomputable def stB (r : Int × Int) (x s n t u : DV) (h0 h1 h2 : List DV) : DS := ⟨[(31, x), (19, .ref 2), (2, t), (3, u), (6, dv r), (27, n), (26, s)], [h0, h1, h2]⟩
/-- a list that a name stands for -/
noncomputable def listAt (σ : DS) (x : Nat) : Option (List DV) := match σ.vars.lookup x with
  | some (.ref i) => σ.heap[i]?
  | _ => none
noncomputable def rowD (r : Int × Int) : List DV := match rowN 100 r.1 r.2 [] with
  | some g => g.map .int
  | none => []
noncomputable def resB (r : Int × Int) (res : Option (DF × DS)) : Option (Bool × Option DV × Option DV × Option DV) := match res with
  | some (.next, σ) => (match listAt σ 9, listAt σ 29 with
    | some a, some b => some (bqs a (rowD r) && bqs b ((wayN r).map plc), σ.vars.lookup 6, σ.vars.lookup 26, σ.vars.lookup 27)
    | _, _ => none)
  | _ => none
noncomputable def goodB (rs : List (Int × Int)) : Prop := ∀ (x s n t u : DV) (h0 h1 h2 : List DV), (rs.map fun r => resB r (blk (stB r x s n t u h0 h1 h2))) = rs.map fun r => some (true, some (dv r), some s, some n)
theorem blk_1_0 : goodB [(1, 1), (2, 1), (3, 1), (4, 1)] := by intro x s n t u h0 h1 h2; kernel_rfl
theorem blk_1_1 : goodB [(5, 1), (6, 1), (7, 1), (8, 1)] := by intro x s n t u h0 h1 h2; kernel_rfl
theorem blk_1_2 : goodB [(9, 1), (10, 1), (11, 1), (12, 1)] := by intro x s n t u h0 h1 h2; kernel_rfl
theorem blk_1_3 : goodB [(13, 1), (14, 1), (15, 1), (16, 1)] := by intro x s n t u h0 h1 h2; kernel_rfl
theorem blk_1_4 : goodB [(17, 1), (18, 1), (19, 1), (20, 1)] := by intro x s n t u h0 h1 h2; kernel_rfl
theorem blk_1_5 : goodB [(21, 1), (22, 1), (23, 1), (24, 1)] := by intro x s n t u h0 h1 h2; kernel_rfl
theorem blk_1_6 : goodB [(25, 1), (26, 1), (27, 1), (28, 1)] := by intro x s n t u h0 h1 h2; kernel_rfl
theorem blk_1_7 : goodB [(29, 1), (30, 1)] := by intro x s n t u h0 h1 h2; kernel_rfl
theorem blk_2_0 : goodB [(1, 2), (3, 2), (5, 2), (7, 2)] := by intro x s n t u h0 h1 h2; kernel_rfl
theorem blk_2_1 : goodB [(9, 2), (11, 2), (13, 2), (15, 2)] := by intro x s n t u h0 h1 h2; kernel_rfl
theorem blk_2_2 : goodB [(17, 2), (19, 2), (21, 2), (23, 2)] := by intro x s n t u h0 h1 h2; kernel_rfl
theorem blk_2_3 : goodB [(25, 2), (27, 2), (29, 2)] := by intro x s n t u h0 h1 h2; kernel_rfl
theorem blk_3_0 : goodB [(1, 3), (2, 3), (4, 3), (5, 3)] := by intro x s n t u h0 h1 h2; kernel_rfl
theorem blk_3_1 : goodB [(7, 3), (8, 3), (10, 3), (11, 3)] := by intro x s n t u h0 h1 h2; kernel_rfl
theorem blk_3_2 : goodB [(13, 3), (14, 3), (16, 3), (17, 3)] := by intro x s n t u h0 h1 h2; kernel_rfl
theorem blk_3_3 : goodB [(19, 3), (20, 3), (22, 3), (23, 3)] := by intro x s n t u h0 h1 h2; kernel_rfl
theorem blk_3_4 : goodB [(25, 3), (26, 3), (28, 3), (29, 3)] := by intro x s n t u h0 h1 h2; kernel_rfl
theorem blk_4_0 : goodB [(1, 4), (3, 4), (5, 4), (7, 4)] := by intro x s n t u h0 h1 h2; kernel_rfl
theorem blk_4_1 : goodB [(9, 4), (11, 4), (13, 4), (15, 4)] := by intro x s n t u h0 h1 h2; kernel_rfl
theorem blk_4_2 : goodB [(17, 4), (19, 4), (21, 4), (23, 4)] := by intro x s n t u h0 h1 h2; kernel_rfl
theorem blk_4_3 : goodB [(25, 4), (27, 4), (29, 4)] := by intro x s n t u h0 h1 h2; kernel_rfl
theorem blk_5_0 : goodB [(1, 5), (2, 5), (3, 5), (4, 5)] := by intro x s n t u h0 h1 h2; kernel_rfl
theorem blk_5_1 : goodB [(6, 5), (7, 5), (8, 5), (9, 5)] := by intro x s n t u h0 h1 h2; kernel_rfl
theorem blk_5_2 : goodB [(11, 5), (12, 5), (13, 5), (14, 5)] := by intro x s n t u h0 h1 h2; kernel_rfl
theorem blk_5_3 : goodB [(16, 5), (17, 5), (18, 5), (19, 5)] := by intro x s n t u h0 h1 h2; kernel_rfl
theorem blk_5_4 : goodB [(21, 5), (22, 5), (23, 5), (24, 5)] := by intro x s n t u h0 h1 h2; kernel_rfl
theorem blk_5_5 : goodB [(26, 5), (27, 5), (28, 5), (29, 5)] := by intro x s n t u h0 h1 h2; kernel_rfl
theorem blk_6_0 : goodB [(1, 6), (5, 6), (7, 6), (11, 6)] := by intro x s n t u h0 h1 h2; kernel_rfl
theorem blk_6_1 : goodB [(13, 6), (17, 6), (19, 6), (23, 6)] := by intro x s n t u h0 h1 h2; kernel_rfl
theorem blk_6_2 : goodB [(25, 6), (29, 6)] := by intro x s n t u h0 h1 h2; kernel_rfl
theorem blk_7_0 : goodB [(1, 7), (2, 7), (3, 7), (4, 7)] := by intro x s n t u h0 h1 h2; kernel_rfl
theorem blk_7_1 : goodB [(5, 7), (6, 7), (8, 7), (9, 7)] := by intro x s n t u h0 h1 h2; kernel_rfl
theorem blk_7_2 : goodB [(10, 7), (11, 7), (12, 7), (13, 7)] := by intro x s n t u h0 h1 h2; kernel_rfl
theorem blk_7_3 : goodB [(15, 7), (16, 7), (17, 7), (18, 7)] := by intro x s n t u h0 h1 h2; kernel_rfl
theorem blk_7_4 : goodB [(19, 7), (20, 7), (22, 7), (23, 7)] := by intro x s n t u h0 h1 h2; kernel_rfl
theorem blk_7_5 : goodB [(24, 7), (25, 7), (26, 7), (27, 7)] := by intro x s n t u h0 h1 h2; kernel_rfl
theorem blk_7_6 : goodB [(29, 7), (30, 7)] := by intro x s n t u h0 h1 h2; kernel_rfl
theorem blk_8_0 : goodB [(1, 8), (3, 8), (5, 8), (7, 8)] := by intro x s n t u h0 h1 h2; kernel_rfl
theorem blk_8_1 : goodB [(9, 8), (11, 8), (13, 8), (15, 8)] := by intro x s n t u h0 h1 h2; kernel_rfl
theorem blk_8_2 : goodB [(17, 8), (19, 8), (21, 8), (23, 8)] := by intro x s n t u h0 h1 h2; kernel_rfl
theorem blk_8_3 : goodB [(25, 8), (27, 8), (29, 8)] := by intro x s n t u h0 h1 h2; kernel_rfl
theorem blk_9_0 : goodB [(1, 9), (2, 9), (4, 9), (5, 9)] := by intro x s n t u h0 h1 h2; kernel_rfl
theorem blk_9_1 : goodB [(7, 9), (8, 9), (10, 9), (11, 9)] := by intro x s n t u h0 h1 h2; kernel_rfl
theorem blk_9_2 : goodB [(13, 9), (14, 9), (16, 9), (17, 9)] := by intro x s n t u h0 h1 h2; kernel_rfl
theorem blk_9_3 : goodB [(19, 9), (20, 9), (22, 9), (23, 9)] := by intro x s n t u h0 h1 h2; kernel_rfl
theorem blk_9_4 : goodB [(25, 9), (26, 9), (28, 9), (29, 9)] := by intro x s n t u h0 h1 h2; kernel_rfl
theorem blk_10_0 : goodB [(1, 10), (3, 10), (7, 10), (9, 10)] := by intro x s n t u h0 h1 h2; kernel_rfl
theorem blk_10_1 : goodB [(11, 10), (13, 10), (17, 10), (19, 10)] := by intro x s n t u h0 h1 h2; kernel_rfl
theorem blk_10_2 : goodB [(21, 10), (23, 10), (27, 10), (29, 10)] := by intro x s n t u h0 h1 h2; kernel_rfl
theorem blk_11_0 : goodB [(1, 11), (2, 11), (3, 11), (4, 11)] := by intro x s n t u h0 h1 h2; kernel_rfl
theorem blk_11_1 : goodB [(5, 11), (6, 11), (7, 11), (8, 11)] := by intro x s n t u h0 h1 h2; kernel_rfl
theorem blk_11_2 : goodB [(9, 11), (10, 11), (12, 11), (13, 11)] := by intro x s n t u h0 h1 h2; kernel_rfl
theorem blk_11_3 : goodB [(14, 11), (15, 11), (16, 11), (17, 11)] := by intro x s n t u h0 h1 h2; kernel_rfl
theorem blk_11_4 : goodB [(18, 11), (19, 11), (20, 11), (21, 11)] := by intro x s n t u h0 h1 h2; kernel_rfl
theorem blk_11_5 : goodB [(23, 11), (24, 11), (25, 11), (26, 11)] := by intro x s n t u h0 h1 h2; kernel_rfl
theorem blk_11_6 : goodB [(27, 11), (28, 11), (29, 11), (30, 11)] := by intro x s n t u h0 h1 h2; kernel_rfl
theorem blk_12_0 : goodB [(1, 12), (5, 12), (7, 12), (11, 12)] := by intro x s n t u h0 h1 h2; kernel_rfl
theorem blk_12_1 : goodB [(13, 12), (17, 12), (19, 12), (23, 12)] := by intro x s n t u h0 h1 h2; kernel_rfl
theorem blk_12_2 : goodB [(25, 12), (29, 12)] := by intro x s n t u h0 h1 h2; kernel_rfl
theorem good_app {a b : List (Int × Int)} (h : goodB a) (k : goodB b) : goodB (a ++ b) := by
  intro x s n t u h0 h1 h2
  rw [List.map_append, List.map_append, h, k]
theorem all_1 : goodB (ratsOf 1) := good_app blk_1_0 (good_app blk_1_1 (good_app blk_1_2 (good_app blk_1_3 (good_app blk_1_4 (good_app blk_1_5 (good_app blk_1_6 (blk_1_7)))))))
theorem all_2 : goodB (ratsOf 2) := good_app blk_2_0 (good_app blk_2_1 (good_app blk_2_2 (blk_2_3)))
theorem all_3 : goodB (ratsOf 3) := good_app blk_3_0 (good_app blk_3_1 (good_app blk_3_2 (good_app blk_3_3 (blk_3_4))))
theorem all_4 : goodB (ratsOf 4) := good_app blk_4_0 (good_app blk_4_1 (good_app blk_4_2 (blk_4_3)))
theorem all_5 : goodB (ratsOf 5) := good_app blk_5_0 (good_app blk_5_1 (good_app blk_5_2 (good_app blk_5_3 (good_app blk_5_4 (blk_5_5)))))
theorem all_6 : goodB (ratsOf 6) := good_app blk_6_0 (good_app blk_6_1 (blk_6_2))
theorem all_7 : goodB (ratsOf 7) := good_app blk_7_0 (good_app blk_7_1 (good_app blk_7_2 (good_app blk_7_3 (good_app blk_7_4 (good_app blk_7_5 (blk_7_6))))))
theorem all_8 : goodB (ratsOf 8) := good_app blk_8_0 (good_app blk_8_1 (good_app blk_8_2 (blk_8_3)))
theorem all_9 : goodB (ratsOf 9) := good_app blk_9_0 (good_app blk_9_1 (good_app blk_9_2 (good_app blk_9_3 (blk_9_4))))
theorem all_10 : goodB (ratsOf 10) := good_app blk_10_0 (good_app blk_10_1 (blk_10_2))
theorem all_11 : goodB (ratsOf 11) := good_app blk_11_0 (good_app blk_11_1 (good_app blk_11_2 (good_app blk_11_3 (good_app blk_11_4 (good_app blk_11_5 (blk_11_6))))))
theorem all_12 : goodB (ratsOf 12) := good_app blk_12_0 (good_app blk_12_1 (blk_12_2))
theorem all_b : goodB rats := good_app all_1 (good_app all_2 (good_app all_3 (good_app all_4 (good_app all_5 (good_app all_6 (good_app all_7 (good_app all_8 (good_app all_9 (good_app all_10 (good_app all_11 (all_12)))))))))))
end Mine
end
section
set_option maxRecDepth 100000
namespace Mine
noncomputable def walkGo : List Bool → Int → Int → Int → Int → Int × Int × Int × Int
  | [], la, lb, ha, hb => (la, lb, ha, hb)
  | true :: p, la, lb, ha, hb => walkGo p (la + ha) (lb + hb) ha hb
  | false :: p, la, lb, ha, hb => walkGo p la lb (la + ha) (lb + hb)
noncomputable def walk (p : List Bool) : Int × Int × Int × Int := walkGo p 0 1 1 0
noncomputable def inR (a b : Int) : Bool := decide (1 ≤ a ∧ a ≤ 30 ∧ 1 ≤ b ∧ b ≤ 12) && Nat.gcd a.toNat b.toNat == 1
theorem rats_iff {r : Int × Int} : r ∈ rats ↔ inR r.1 r.2 = true := by
  unfold rats ratsOf inR
  simp only [List.mem_flatMap, List.mem_range, List.mem_filterMap, Bool.and_eq_true, decide_eq_true_eq, beq_iff_eq]
  constructor
  · rintro ⟨b, hb, a, ha, h⟩
    split at h
    · rename_i hg
      simp only [Option.some.injEq] at h
      subst h
      refine ⟨⟨by simp; omega, by simp; omega, by simp; omega, by simp; omega⟩, ?_⟩
      simpa using hg
    · cases h
  · rintro ⟨⟨h1, h2, h3, h4⟩, hg⟩
    refine ⟨r.2.toNat - 1, by omega, r.1.toNat - 1, by omega, ?_⟩
    have e1 : r.1.toNat - 1 + 1 = r.1.toNat := by omega
    have e2 : r.2.toNat - 1 + 1 = r.2.toNat := by omega
    rw [e1, e2, if_pos hg, Int.toNat_of_nonneg (by omega), Int.toNat_of_nonneg (by omega)]
/-- at the k-th place of the way to r -/
noncomputable def stepOK (r : Int × Int) (p : List Bool) (k : Nat) : Bool := match walk (p.take k) with
  | (la, lb, ha, hb) => inR (la + ha) (lb + hb) && (pth (la + ha, lb + hb) == p.take k) && decide (la * r.2 < r.1 * lb) && decide (r.1 * hb < ha * r.2) && decide (lb + hb ≤ r.2) && (match p[k]? with
    | none => la + ha == r.1 && lb + hb == r.2
    | some true => decide ((la + ha) * r.2 < r.1 * (lb + hb))
    | some false => decide (r.1 * (lb + hb) < (la + ha) * r.2))
noncomputable def wayOK (r : Int × Int) : Bool := (List.range ((pth r).length + 1)).all fun k => stepOK r (pth r) k
theorem way_tab : (rats.all wayOK) = true := all_of (by12 (P := fun b => (ratsOf (b + 1)).all wayOK = true) (by decide +kernel) (by decide +kernel) (by decide +kernel) (by decide +kernel) (by decide +kernel) (by decide +kernel) (by decide +kernel) (by decide +kernel) (by decide +kernel) (by decide +kernel) (by decide +kernel) (by decide +kernel))
/-- no smaller bottom between the place's two walls -/
noncomputable def gapOK (x : Int × Int) : Bool := match walk (pth x) with
  | (la, lb, ha, hb) => decide (0 < lb) && decide (0 ≤ hb) && decide ((la * x.2).fdiv lb + 1 = x.1) && (List.range 12).all fun j => (decide (x.2 ≤ (j : Int) + 1)) || decide (ha * ((j : Int) + 1) ≤ ((la * ((j : Int) + 1)).fdiv lb + 1) * hb)
theorem gap_tab : (rats.all gapOK) = true := by decide +kernel

/-- x is the place where the ways to r and s part -/
structure Step (r x : Int × Int) (p : List Bool) (k : Nat) (la lb ha hb : Int) : Prop where
  mem : x ∈ rats
  way : pth x = p.take k
  wk : walk (p.take k) = (la, lb, ha, hb)
  eq : x = (la + ha, lb + hb)
  lo : la * r.2 < r.1 * lb
  hi : r.1 * hb < ha * r.2
  bot : x.2 ≤ r.2
  here : p[k]? = none → x = r
  more : p[k]? = some true → x.1 * r.2 < r.1 * x.2
  less : p[k]? = some false → r.1 * x.2 < x.1 * r.2
theorem step_ok {r : Int × Int} (hr : r ∈ rats) {k : Nat} (hk : k ≤ (pth r).length) : ∃ x la lb ha hb, Step r x (pth r) k la lb ha hb := by
  have h := List.all_eq_true.mp (List.all_eq_true.mp way_tab r hr) k (List.mem_range.mpr (by omega))
  simp only [stepOK] at h
  generalize hw : walk ((pth r).take k) = w at h
  obtain ⟨la, lb, ha, hb⟩ := w
  simp only [Bool.and_eq_true, decide_eq_true_eq, beq_iff_eq] at h
  obtain ⟨⟨⟨⟨⟨h1, h2⟩, h3⟩, h4⟩, h6⟩, h5⟩ := h
  refine ⟨(la + ha, lb + hb), la, lb, ha, hb, rats_iff.mpr h1, h2, hw, rfl, h3, h4, h6, fun e => ?_, fun e => ?_, fun e => ?_⟩
  · rw [e] at h5; simp only [Bool.and_eq_true, beq_iff_eq] at h5; exact Prod.ext h5.1 h5.2
  · rw [e] at h5; simpa using h5
  · rw [e] at h5; simpa using h5
structure Gap (x : Int × Int) (la lb ha hb : Int) : Prop where
  wk : walk (pth x) = (la, lb, ha, hb)
  lb0 : 0 < lb
  hb0 : 0 ≤ hb
  last : (la * x.2).fdiv lb + 1 = x.1
  gap : ∀ j : Int, 1 ≤ j → j < x.2 → ha * j ≤ ((la * j).fdiv lb + 1) * hb
theorem rats_le {r : Int × Int} (hr : r ∈ rats) : 1 ≤ r.1 ∧ r.1 ≤ 30 ∧ 1 ≤ r.2 ∧ r.2 ≤ 12 := by
  have := rats_iff.mp hr
  simp only [inR, Bool.and_eq_true, decide_eq_true_eq] at this
  exact this.1
theorem gap_ok {x : Int × Int} (hx : x ∈ rats) : ∃ la lb ha hb, Gap x la lb ha hb := by
  have h := List.all_eq_true.mp gap_tab x hx
  unfold gapOK at h
  generalize hw : walk (pth x) = w at h
  obtain ⟨la, lb, ha, hb⟩ := w
  simp only [Bool.and_eq_true, decide_eq_true_eq, List.all_eq_true, Bool.or_eq_true, List.mem_range] at h
  obtain ⟨⟨⟨h1, h2⟩, h3⟩, h4⟩ := h
  refine ⟨la, lb, ha, hb, hw, h1, h2, h3, fun j hj hj' => ?_⟩
  have hb := (rats_le hx).2.2.2
  have := h4 (j - 1).toNat (by omega)
  rw [Int.toNat_of_nonneg (by omega)] at this
  rw [Int.sub_add_cancel] at this
  rcases this with h | h
  · omega
  · exact h

/-! the first fraction at or above l whose value is at most m's -/
noncomputable def topAt (p q j : Int) : Int := 0 - (0 - p * j).fdiv q
theorem fdiv_le {a q : Int} (hq : 0 < q) : a.fdiv q * q ≤ a ∧ a < (a.fdiv q + 1) * q := by
  have h1 := Int.mul_fdiv_add_fmod a q
  have h2 := Int.fmod_nonneg_of_pos a hq
  have h3 := Int.fmod_lt_of_pos a hq
  rw [Int.add_mul, Int.mul_comm (a.fdiv q) q]
  omega
theorem topAt_ge {p q j : Int} (hq : 0 < q) : p * j ≤ topAt p q j * q ∧ (topAt p q j - 1) * q < p * j := by
  have ⟨h1, h2⟩ := fdiv_le (a := 0 - p * j) hq
  unfold topAt
  rw [Int.add_mul] at h2
  rw [Int.sub_mul, Int.sub_mul, Int.sub_mul]
  omega
structure Between (x l m : Int × Int) (la lb ha hb : Int) : Prop where
  l0 : 0 < l.2
  m0 : 0 < m.2
  x0 : 0 < x.2
  lo : la * l.2 < l.1 * lb
  hi : m.1 * hb < ha * m.2
  lx : l.1 * x.2 ≤ x.1 * l.2
  xm : x.1 * m.2 ≤ m.1 * x.2
theorem top_low {x l m : Int × Int} {la lb ha hb : Int} (B : Between x l m la lb ha hb) (hlb : 0 < lb) {j : Int} (hj : 0 < j) : (la * j).fdiv lb + 1 ≤ topAt l.1 l.2 j := by
  have ⟨h1, _⟩ := topAt_ge (p := l.1) (j := j) B.l0
  have ⟨h2, _⟩ := fdiv_le (a := la * j) hlb
  refine Int.not_lt.mp fun hc => ?_
  have h3 : topAt l.1 l.2 j ≤ (la * j).fdiv lb := by omega
  have h4 : topAt l.1 l.2 j * lb ≤ la * j := Int.le_trans (Int.mul_le_mul_of_nonneg_right h3 (by omega)) h2
  have h5 : topAt l.1 l.2 j * lb * l.2 ≤ la * j * l.2 := Int.mul_le_mul_of_nonneg_right h4 (by have := B.l0; omega)
  have h6 : l.1 * j * lb ≤ topAt l.1 l.2 j * l.2 * lb := Int.mul_le_mul_of_nonneg_right h1 (by omega)
  have h7 : la * l.2 * j < l.1 * lb * j := Int.mul_lt_mul_of_pos_right B.lo hj
  have e1 : topAt l.1 l.2 j * lb * l.2 = topAt l.1 l.2 j * l.2 * lb := by ac_rfl
  have e2 : la * j * l.2 = la * l.2 * j := by ac_rfl
  have e3 : l.1 * j * lb = l.1 * lb * j := by ac_rfl
  omega
theorem no_before {x l m : Int × Int} {la lb ha hb : Int} (B : Between x l m la lb ha hb) (G : Gap x la lb ha hb) {j : Int} (hj : 1 ≤ j) (hx : j < x.2) : ¬ topAt l.1 l.2 j * m.2 ≤ m.1 * j := by
  intro hc
  have h1 := top_low B G.lb0 (j := j) (by omega)
  have h2 := G.gap j hj hx
  have h3 : ((la * j).fdiv lb + 1) * hb ≤ topAt l.1 l.2 j * hb := Int.mul_le_mul_of_nonneg_right h1 G.hb0
  have h4 : ha * j * m.2 ≤ topAt l.1 l.2 j * hb * m.2 := Int.mul_le_mul_of_nonneg_right (Int.le_trans h2 h3) (by have := B.m0; omega)
  have h5 : topAt l.1 l.2 j * m.2 * hb ≤ m.1 * j * hb := Int.mul_le_mul_of_nonneg_right hc G.hb0
  have h6 : m.1 * hb * j < ha * m.2 * j := Int.mul_lt_mul_of_pos_right B.hi (by omega)
  have e1 : topAt l.1 l.2 j * hb * m.2 = topAt l.1 l.2 j * m.2 * hb := by ac_rfl
  have e2 : ha * j * m.2 = ha * m.2 * j := by ac_rfl
  have e3 : m.1 * j * hb = m.1 * hb * j := by ac_rfl
  omega
theorem at_x {x l m : Int × Int} {la lb ha hb : Int} (B : Between x l m la lb ha hb) (G : Gap x la lb ha hb) : topAt l.1 l.2 x.2 = x.1 := by
  have h1 := top_low B G.lb0 B.x0
  rw [G.last] at h1
  have ⟨_, h2⟩ := topAt_ge (p := l.1) (j := x.2) B.l0
  have h3 : (topAt l.1 l.2 x.2 - 1) * l.2 < x.1 * l.2 := Int.lt_of_lt_of_le h2 B.lx
  have h4 := Int.lt_of_mul_lt_mul_right h3 (by have := B.l0; omega)
  omega
theorem top_small {p q j : Int} (hp : 1 ≤ p) (hp' : p ≤ 30) (hq : 0 < q) (hj : 1 ≤ j) (hj' : j ≤ 12) : smallI (topAt p q j) = true := by
  have ⟨h1, h2⟩ := topAt_ge (p := p) (j := j) hq
  have h3 : p * j ≤ 30 * 12 := Int.mul_le_mul hp' hj' (by omega) (by omega)
  have h4 : 0 < p * j := Int.mul_pos (by omega) (by omega)
  have h5 : 0 < topAt p q j := by
    refine Int.not_le.mp fun hc => ?_
    have := Int.mul_le_mul_of_nonneg_right hc (Int.le_of_lt hq)
    omega
  have h6 : topAt p q j - 1 < 360 := by
    refine Int.not_le.mp fun hc => ?_
    have : (topAt p q j - 1) * 1 ≤ (topAt p q j - 1) * q := Int.mul_le_mul_of_nonneg_left (by omega) (by omega)
    omega
  unfold smallI
  simp only [decide_eq_true_eq]
  omega

noncomputable def simpBody : SX := (consB (asgS (seq2 (cE (.int 0)) (seq2 (seq2 (cE (.int 0)) (seq2 (seq2 (getE 6) (cE (.int 0)) fItem) (getE 3) fMul) fSub) (seq2 (getE 6) (cE (.int 1)) fItem) fDiv) fSub) (setG 2))
  (consB (ifS (toT (seq2 (seq2 (getE 2) (seq2 (getE 26) (cE (.int 1)) fItem) fMul) (seq2 (seq2 (getE 26) (cE (.int 0)) fItem) (getE 3) fMul) fLe)) (consB (retS (tupE (consA (getE 2) (consA (getE 3) nilA))))
  nilB) nilB)
  nilB))
/-- the state of the loop of _law_simplest -/
noncomputable def simpV (l m : Int × Int) (ex : List (Nat × DV)) : List (Nat × DV) := (6, dv l) :: (26, dv m) :: ex
theorem simp_body {l m : Int × Int} {j k : Int} {ex : List (Nat × DV)} (hk : topAt l.1 l.2 j = k) (s1 : smallI l.1 = true) (s2 : l.2 ≠ 0 ∧ smallI l.2) (s3 : smallI k = true) (s4 : smallI m.1 = true) :
    ∃ ex', simpBody ⟨simpV l m (setv 3 (.int j) ex), []⟩ = if k * m.2 ≤ m.1 * j then some (.ret (dv (k, j)), ⟨simpV l m ex', []⟩) else some (.next, ⟨simpV l m ex', []⟩) := by
  have g3 : getE 3 ⟨simpV l m (setv 3 (.int j) ex), []⟩ = some (.int j, []) := getE_some (show (setv 3 (.int j) ex).lookup 3 = _ by rw [lookup_setv, if_pos rfl])
  have m3 := (seq2_some (σ := ⟨simpV l m (setv 3 (.int j) ex), []⟩) (d2 := seq2 (getE 6) (cE (.int 1)) fItem) (f := fDiv) ((seq2_some (d1 := cE (.int 0)) (f := fSub) rfl ((seq2_some (d1 := seq2 (getE 6) (cE (.int 0)) fItem) (f := fMul) rfl g3).trans (mul_ok s1))).trans rfl) rfl).trans (div_ok s2)
  have m4 := (seq2_some (σ := ⟨simpV l m (setv 3 (.int j) ex), []⟩) (d1 := cE (.int 0)) (f := fSub) rfl m3).trans (show fSub (.int 0) (.int ((0 - l.1 * j).fdiv l.2)) [] = some (.int k, []) by rw [← hk]; rfl)
  have e1 : asgS _ (setG 2) _ = some (_, ⟨simpV l m (setv 2 (.int k) (setv 3 (.int j) ex)), []⟩) := asgS_some m4 rfl
  have g2 : getE 2 ⟨simpV l m (setv 2 (.int k) (setv 3 (.int j) ex)), []⟩ = some (.int k, []) := getE_some (show (setv 2 (.int k) (setv 3 (.int j) ex)).lookup 2 = _ by rw [lookup_setv, if_pos rfl])
  have g3' : getE 3 ⟨simpV l m (setv 2 (.int k) (setv 3 (.int j) ex)), []⟩ = some (.int j, []) := getE_some (show (setv 2 (.int k) (setv 3 (.int j) ex)).lookup 3 = _ by rw [lookup_setv, if_neg (by decide), lookup_setv, if_pos rfl])
  refine ⟨setv 2 (.int k) (setv 3 (.int j) ex), ?_⟩
  unfold simpBody
  refine (consB_next e1).trans ?_
  generalize setv 2 (.int k) (setv 3 (.int j) ex) = ex2 at g2 g3'
  have n := (seq2_some (f := fLe) ((seq2_some (d2 := seq2 (getE 26) (cE (.int 1)) fItem) (f := fMul) g2 rfl).trans (mul_ok s3)) ((seq2_some (d1 := seq2 (getE 26) (cE (.int 0)) fItem) (f := fMul) rfl g3').trans (mul_ok s4))).trans (c := some (DV.bool (decide (k * m.2 ≤ m.1 * j)), [])) rfl
  by_cases hc : k * m.2 ≤ m.1 * j
  · rw [if_pos hc]
    rw [decide_eq_true hc] at n
    exact consB_ret ((ifS_t (by unfold toT; rw [n])).trans (consB_ret (retS_some (tup2 (consA_some g2 (consA_some g3' rfl))))))
  · rw [if_neg hc]
    rw [decide_eq_false hc] at n
    exact (consB_next (ifS_f (by unfold toT; rw [n]))).trans rfl
theorem simp_loop {x l m : Int × Int} {la lb ha hb : Int} (B : Between x l m la lb ha hb) (G : Gap x la lb ha hb) (hl : l ∈ rats) (hm : m ∈ rats) (hx : x ∈ rats) (hxl : x.2 ≤ l.2) : ∀ (n : Nat) (j : Int) (ex : List (Nat × DV)), (n : Int) + j = 101 → 1 ≤ j → j ≤ x.2 →
    ∃ vs', forGo (setG 3) simpBody n (.rng j (l.2 + 1 - j)) ⟨simpV l m ex, []⟩ = some (.ret (dv x), ⟨vs', []⟩) := by
  intro n
  induction n with
  | zero => intro j ex h1 h2 h3; have := (rats_le hx).2.2.2; omega
  | succ n ih =>
    intro j ex h1 h2 h3
    have bl := rats_le hl
    have bm := rats_le hm
    have s1 : smallI l.1 = true := by unfold smallI; simp only [decide_eq_true_eq]; omega
    have s2 : smallI l.2 = true := by unfold smallI; simp only [decide_eq_true_eq]; omega
    have s3 : smallI (topAt l.1 l.2 j) = true := top_small bl.1 bl.2.1 B.l0 h2 (by have := (rats_le hx).2.2.2; omega)
    have s4 : smallI m.1 = true := by unfold smallI; simp only [decide_eq_true_eq]; omega
    have hle : ¬ (l.2 + 1 - j ≤ 0) := by omega
    obtain ⟨ex', hb⟩ := simp_body (ex := ex) rfl s1 ⟨by have := B.l0; omega, s2⟩ s3 s4
    have hi : itNext (.rng j (l.2 + 1 - j)) [] = some (some (.int j, .rng (j + 1) (l.2 + 1 - j - 1))) := by simp only [itNext, if_neg hle]
    by_cases hc : topAt l.1 l.2 j * m.2 ≤ m.1 * j
    · have hj : j = x.2 := by
        refine Int.le_antisymm h3 (Int.not_lt.mp fun hlt => ?_)
        exact no_before B G h2 hlt hc
      rw [if_pos hc] at hb
      subst hj
      rw [at_x B G] at hb
      exact ⟨_, forGo_ret hi rfl hb⟩
    · rw [if_neg hc] at hb
      have hj : j < x.2 := by
        refine Int.lt_iff_le_and_ne.mpr ⟨h3, fun e => hc ?_⟩
        rw [e, at_x B G]
        exact B.xm
      have e : l.2 + 1 - j - 1 = l.2 + 1 - (j + 1) := by omega
      rw [e] at hi
      obtain ⟨vs', h⟩ := ih (j + 1) ex' (by omega) (by omega) (by omega)
      exact ⟨vs', (forGo_next hi rfl hb).trans h⟩
theorem simplest_ok {x l m : Int × Int} {la lb ha hb : Int} (B : Between x l m la lb ha hb) (G : Gap x la lb ha hb) (hl : l ∈ rats) (hm : m ∈ rats) (hx : x ∈ rats) (hxl : x.2 ≤ l.2) : out F_law_simplest [dv l, dv m] [] = some (dv x, none) := by
  have bl := rats_le hl
  obtain ⟨vs', e⟩ := simp_loop B G hl hm hx hxl 100 1 [] rfl (Int.le_refl 1) (rats_le hx).2.2.1
  have s2 : smallI (l.2 + 1) = true := by unfold smallI; simp only [decide_eq_true_eq]; omega
  have hr : range2 1 (l.2 + 1) = some (.rng 1 (l.2 + 1 - 1)) := by
    unfold range2
    rw [s2]
    show some (DI.rng 1 (if 1 < l.2 + 1 then l.2 + 1 - 1 else 0)) = _
    rw [if_pos (by omega)]
  have e1 : rngI2 (cE (.int 1)) (seq2 (seq2 (getE 6) (cE (.int 1)) fItem) (cE (.int 1)) fAdd) ⟨simpV l m [], []⟩ = some (.rng 1 (l.2 + 1 - 1), []) := by
    show (range2 1 (l.2 + 1)).map _ = _
    rw [hr]; rfl
  have e2 : forS (rngI2 (cE (.int 1)) (seq2 (seq2 (getE 6) (cE (.int 1)) fItem) (cE (.int 1)) fAdd)) (setG 3) simpBody 100 ⟨simpV l m [], []⟩ = some (.ret (dv x), ⟨vs', []⟩) := by
    unfold forS
    rw [e1]; exact e
  have e4 : F_law_simplest [dv l, dv m] [] = some (dv x, []) := funD_ex rfl ⟨vs', consB_ret e2⟩
  unfold out
  rw [e4]
  rfl

/-! where two ways part -/
noncomputable def cp : List Bool → List Bool → List Bool
  | a :: r, b :: q => if a = b then a :: cp r q else []
  | _, _ => []
structure Parts (p q : List Bool) (k : Nat) : Prop where
  left : cp p q = p.take k
  right : cp p q = q.take k
  lp : k ≤ p.length
  lq : k ≤ q.length
  len : (cp p q).length = k
  apart : ∀ b, p[k]? = some b → q[k]? = some b → False
theorem parts : ∀ p q : List Bool, Parts p q (cp p q).length
  | [], q => ⟨by simp [cp], by simp [cp], by simp [cp], by simp [cp], rfl, fun b h => by simp at h⟩
  | a :: r, [] => ⟨by simp [cp], by simp [cp], by simp [cp], by simp [cp], rfl, fun b h h' => by simp at h'⟩
  | a :: r, b :: q => by
    by_cases h : a = b
    · subst h
      have P := parts r q
      have e : cp (a :: r) (a :: q) = a :: cp r q := by simp [cp]
      rw [e]
      refine ⟨?_, ?_, ?_, ?_, by rw [e], fun b h1 h2 => P.apart b (by simpa using h1) (by simpa using h2)⟩
      · rw [e, List.length_cons, List.take_succ_cons, ← P.left]
      · rw [e, List.length_cons, List.take_succ_cons, ← P.right]
      · have := P.lp; simp; exact this
      · have := P.lq; simp; exact this
    · have e : cp (a :: r) (b :: q) = [] := by simp [cp, h]
      rw [e]
      refine ⟨by simp [e], by simp [e], by simp, by simp, by rw [e], fun c h1 h2 => h ?_⟩
      simp at h1 h2
      rw [h1, h2]
theorem trans_le {a b c d e f : Int} (hb : 0 < b) (hd : 0 < d) (hf : 0 < f) (h1 : a * d ≤ c * b) (h2 : c * f ≤ e * d) : a * f ≤ e * b := by
  have h3 : a * d * f ≤ c * b * f := Int.mul_le_mul_of_nonneg_right h1 (by omega)
  have h4 : c * f * b ≤ e * d * b := Int.mul_le_mul_of_nonneg_right h2 (by omega)
  have e1 : a * d * f = a * f * d := by ac_rfl
  have e2 : c * b * f = c * f * b := by ac_rfl
  have e3 : e * d * b = e * b * d := by ac_rfl
  exact Int.le_of_mul_le_mul_right (by omega : a * f * d ≤ e * b * d) hd
noncomputable def lessOf (r s : Int × Int) : Int × Int := if r.1 * s.2 ≤ s.1 * r.2 then r else s
noncomputable def moreOf (r s : Int × Int) : Int × Int := if r.1 * s.2 ≤ s.1 * r.2 then s else r
theorem meet {r s : Int × Int} (hr : r ∈ rats) (hs : s ∈ rats) : ∃ x ∈ rats, pth x = cp (pth r) (pth s) ∧ out F_law_simplest [dv (lessOf r s), dv (moreOf r s)] [] = some (dv x, none) := by
  have P := parts (pth r) (pth s)
  generalize hk : (cp (pth r) (pth s)).length = k at P
  obtain ⟨x, la, lb, ha, hb, A⟩ := step_ok hr P.lp
  obtain ⟨y, la', lb', ha', hb', B⟩ := step_ok hs P.lq
  have hw := A.wk
  rw [← P.left] at hw
  have hw' := B.wk
  rw [← P.right, hw] at hw'
  simp only [Prod.mk.injEq] at hw'
  obtain ⟨rfl, rfl, rfl, rfl⟩ := hw'
  have hyx : y = x := B.eq.trans A.eq.symm
  subst hyx
  have hway : pth y = cp (pth r) (pth s) := by rw [A.way, P.left]
  obtain ⟨la', lb', ha', hb', G⟩ := gap_ok A.mem
  have hw' := G.wk
  rw [hway, hw] at hw'
  simp only [Prod.mk.injEq] at hw'
  obtain ⟨rfl, rfl, rfl, rfl⟩ := hw'
  have br := rats_le hr
  have bs := rats_le hs
  have bx := rats_le A.mem
  refine ⟨y, A.mem, hway, ?_⟩
  have low : ∀ t, t ∈ rats → Step t y (pth t) k la lb ha hb → t.1 * y.2 ≤ y.1 * t.2 ∨ (pth t)[k]? = some true := by
    intro t ht T
    cases h : (pth t)[k]? with
    | none => left; rw [T.here h]; exact Int.le_refl _
    | some b => cases b with
      | true => exact .inr rfl
      | false => left; exact Int.le_of_lt (T.less h)
  have high : ∀ t, t ∈ rats → Step t y (pth t) k la lb ha hb → y.1 * t.2 ≤ t.1 * y.2 ∨ (pth t)[k]? = some false := by
    intro t ht T
    cases h : (pth t)[k]? with
    | none => left; rw [T.here h]; exact Int.le_refl _
    | some b => cases b with
      | false => exact .inr rfl
      | true => left; exact Int.le_of_lt (T.more h)
  have lowx : (lessOf r s).1 * y.2 ≤ y.1 * (lessOf r s).2 := by
    unfold lessOf
    split
    · rename_i hc
      rcases low r hr A with h | h
      · exact h
      · rcases low s hs B with h' | h'
        · exact trans_le (by omega) (by omega) (by omega) hc h'
        · exact absurd h' fun h' => P.apart _ h h'
    · rename_i hc
      rcases low s hs B with h | h
      · exact h
      · rcases low r hr A with h' | h'
        · have := B.more h
          exact absurd (trans_le (a := r.1) (b := r.2) (c := y.1) (d := y.2) (e := s.1) (f := s.2) (by omega) (by omega) (by omega) h' (by omega)) hc
        · exact absurd h fun h => P.apart _ h' h
  have highx : y.1 * (moreOf r s).2 ≤ (moreOf r s).1 * y.2 := by
    unfold moreOf
    split
    · rename_i hc
      rcases high s hs B with h | h
      · exact h
      · rcases high r hr A with h' | h'
        · exact trans_le (by omega) (by omega) (by omega) h' hc
        · exact absurd h fun h => P.apart _ h' h
    · rename_i hc
      rcases high r hr A with h | h
      · exact h
      · rcases high s hs B with h' | h'
        · have := A.less h
          exact absurd (trans_le (a := r.1) (b := r.2) (c := y.1) (d := y.2) (e := s.1) (f := s.2) (by omega) (by omega) (by omega) (by omega) h') hc
        · exact absurd h' fun h' => P.apart _ h h'
  have mem : lessOf r s ∈ rats ∧ moreOf r s ∈ rats := by
    unfold lessOf moreOf
    split <;> exact ⟨by assumption, by assumption⟩
  have lo : la * (lessOf r s).2 < (lessOf r s).1 * lb := by
    unfold lessOf
    split
    · exact A.lo
    · exact B.lo
  have hi : (moreOf r s).1 * hb < ha * (moreOf r s).2 := by
    unfold moreOf
    split
    · exact B.hi
    · exact A.hi
  have bl := rats_le mem.1
  have bm := rats_le mem.2
  have Bt : Between y (lessOf r s) (moreOf r s) la lb ha hb := ⟨by omega, by omega, by omega, lo, hi, lowx, highx⟩
  refine simplest_ok Bt G mem.1 mem.2 A.mem ?_
  unfold lessOf
  split
  · exact A.bot
  · exact B.bot
end Mine
end
section
set_option maxRecDepth 100000
namespace Mine
theorem res_all {r : Int × Int} (hr : r ∈ rats) (x s n t u : DV) (h0 h1 h2 : List DV) : resB r (blk (stB r x s n t u h0 h1 h2)) = some (true, some (dv r), some s, some n) :=
  List.map_inj_left.mp (all_b x s n t u h0 h1 h2) r hr
structure After (r : Int × Int) (s n : DV) (σ : DS) (i : Nat) (xs : List DV) : Prop where
  row : σ.vars.lookup 9 = some (.ref i)
  at_ : σ.heap[i]? = some xs
  is : RowIs r xs
  r : σ.vars.lookup 6 = some (dv r)
  s : σ.vars.lookup 26 = some s
  n : σ.vars.lookup 27 = some n
theorem list_at {σ : DS} {x : Nat} {xs : List DV} (h : listAt σ x = some xs) : ∃ i, σ.vars.lookup x = some (.ref i) ∧ σ.heap[i]? = some xs := by
  unfold listAt at h
  split at h
  · exact ⟨_, by assumption, h⟩
  · cases h
theorem flats_int : ∀ g : List Int, flats (g.map .int) = true
  | [] => rfl
  | a :: r => by rw [List.map_cons, flats, flats_int r]; rfl
theorem row_is {r : Int × Int} {ys : List DV} (h : out N_fraction_row [dv r] [] = some (.none, some ys)) : rowD r = ys := by
  have hN := N_fraction_row_at r.1 r.2 []
  unfold rowD
  cases hg : rowN 100 r.1 r.2 [] with
  | none =>
    rw [hg] at hN
    have h' : out N_fraction_row [DV.tup [.int r.1, .int r.2]] [] = some (.none, some ys) := h
    unfold out at h'
    rw [hN] at h'; cases h'
  | some g =>
    rw [hg] at hN
    have := (out_list (ys := g.map .int) hN rfl (flats_int g)).symm.trans h
    cases this; rfl
theorem consB_split {a b : SX} {σ σ' : DS} (h : consB a b σ = some (.next, σ')) : ∃ σ1, a σ = some (.next, σ1) ∧ b σ1 = some (.next, σ') := by
  unfold consB at h
  split at h
  · rename_i σ1 q
    exact ⟨σ1, q, h⟩
  · rename_i hn
    exact absurd h (hn _)
theorem chain3 {a b c d : SX} {σ σ' : DS} (h : consB a (consB b (consB c nilB)) σ = some (.next, σ')) : consB a (consB b (consB c d)) σ = d σ' := by
  obtain ⟨σ1, h1, h⟩ := consB_split h
  obtain ⟨σ2, h2, h⟩ := consB_split h
  obtain ⟨σ3, h3, h⟩ := consB_split h
  cases h
  rw [consB_next h1, consB_next h2, consB_next h3]
/-- statements 5..8 -/
theorem blk_ok {r : Int × Int} (hr : r ∈ rats) (x s n t u : DV) (h0 h1 h2 : List DV) : ∃ σ i xs, (∀ e, consB law_5 (consB law_6 (consB law_7 (consB law_8 e))) (stB r x s n t u h0 h1 h2) = e σ) ∧ After r s n σ i xs := by
  have h := res_all hr x s n t u h0 h1 h2
  obtain ⟨ys, Y⟩ := row_ok hr
  have hb := rats_le hr
  unfold resB at h
  split at h
  rotate_left
  · cases h
  rename_i σ q
  obtain ⟨V, H⟩ := σ
  split at h
  rotate_left
  · cases h
  rename_i a b qa qb
  simp only [Option.some.injEq, Prod.mk.injEq, Bool.and_eq_true] at h
  obtain ⟨⟨ha, hw⟩, v6, v26, v27⟩ := h
  obtain ⟨i, i9, iH⟩ := list_at qa
  obtain ⟨l, l29, lH⟩ := list_at qb
  rw [bqs_eq hw] at lH
  rw [bqs_eq ha, row_is Y.row] at iH
  obtain ⟨V', H', e, f, g⟩ := eq8 hr hb.2.2.1 hb.2.2.2 l29 v6 lH
  refine ⟨⟨V', H'⟩, i, ys, fun d => ?_, (f 9 (by decide) (by decide) (by decide) (by decide)).trans i9, (g i (List.getElem?_eq_some_iff.mp iH).1).trans iH, Y, (f 6 (by decide) (by decide) (by decide) (by decide)).trans v6, (f 26 (by decide) (by decide) (by decide) (by decide)).trans v26, (f 27 (by decide) (by decide) (by decide) (by decide)).trans v27⟩
  rw [chain3 q, consB_next e]

/-! the loop that gathers the shared turns -/
theorem zip_bools : ∀ xs ys : List Bool, xs.length = ys.length → zipEq (peq 8) (bools xs) (bools ys) = some (decide (xs = ys))
  | [], [], _ => by simp [bools, zipEq]
  | x :: xs, y :: ys, h => by
    have ih := zip_bools xs ys (by simpa using h)
    unfold bools at ih ⊢
    have e : peq 8 (DV.bool x) (.bool y) = some (x == y) := rfl
    simp only [List.map_cons, zipEq, ih, e]
    cases x <;> cases y <;> simp
  | [], _ :: _, h => by simp at h
  | _ :: _, [], h => by simp at h
theorem deq_bools {K : DH} {i j : Nat} {xs ys : List Bool} (hi : K[i]? = some (bools xs)) (hj : K[j]? = some (bools ys)) : deq (.ref i) (.ref j) K = some (decide (xs = ys)) := by
  simp only [deq, hi, hj]
  split
  · rename_i h
    exact zip_bools xs ys (by simpa [bools] using h)
  · rename_i h
    have : ¬ xs = ys := fun e => h (by rw [e])
    simp [this]
noncomputable def body10 : SX := (consB (ifS (andT (toT (seq2 (map1 (getE 34) fLen) (getE 25) fEq)) (toT (seq2 (seq2 (getE 35) (seq2 (getE 25) (cE (.int 1)) fAdd) fUpto) (seq2 (getE 34) (lstE (consA (getE 24) nilA)) fAdd) fEq))) (consB (appS 34 (getE 24))
  nilB) nilB)
  nilB)
structure Inv (p q l : Nat) (sh ts tr : List Bool) (K : DH) : Prop where
  sh : K[p]? = some (bools sh)
  ts : K[q]? = some (bools ts)
  tr : K[l]? = some (bools tr)
  pq : p ≠ q
  pl : p ≠ l
noncomputable def nextSh (sh ts : List Bool) (i : Nat) (t : Bool) : List Bool := if sh.length = i ∧ ts.take (i + 1) = sh ++ [t] then sh ++ [t] else sh
theorem bools_length (p : List Bool) : (bools p).length = p.length := by simp [bools]
theorem body10_ok {p q l i : Nat} {sh ts tr : List Bool} {t : Bool} {K : DH} {V : List (Nat × DV)} (I : Inv p q l sh ts tr K) (v34 : V.lookup 34 = some (.ref p)) (v35 : V.lookup 35 = some (.ref q)) (v25 : V.lookup 25 = some (.int i)) (v24 : V.lookup 24 = some (.bool t))
    (hsh : sh.length ≤ 100) (hts : ts.length ≤ 100) : ∃ K', body10 ⟨V, K⟩ = some (.next, ⟨V, K'⟩) ∧ Inv p q l (nextSh sh ts i t) ts tr K' := by
  have c1 : (bools sh).length ≤ 1000000 := by rw [bools_length]; omega
  have c2 : (bools ts).length ≤ 1000000 := by rw [bools_length]; omega
  have e1 : toT (seq2 (map1 (getE 34) fLen) (getE 25) fEq) ⟨V, K⟩ = some (decide (sh.length = i), K) := by
    have key : ((sh.length : Int) == (i : Int)) = decide (sh.length = i) := by
      rw [Bool.eq_iff_iff]; simp; omega
    have c3 : sh.length ≤ 1000000 := by omega
    simp only [toT, seq2, map1, getE, v34, Option.map_some, fLen, I.sh, bools_length, c3, if_true, v25, fEq, deq, peq_int, bools_length, key]
  by_cases hi : sh.length = i
  · have hu : upto ((i : Int) + 1) (bools ts) = bools (ts.take (i + 1)) := by
      unfold upto bools
      rw [if_pos (by omega)]
      have : ((i : Int) + 1).toNat = i + 1 := by omega
      rw [this, List.map_take]
    have e2 : toT (seq2 (seq2 (getE 35) (seq2 (getE 25) (cE (.int 1)) fAdd) fUpto) (seq2 (getE 34) (lstE (consA (getE 24) nilA)) fAdd) fEq) ⟨V, K⟩ = some (decide (ts.take (i + 1) = sh ++ [t]), K ++ [bools (ts.take (i + 1))] ++ [[.bool t]] ++ [bools (sh ++ [t])]) := by
      have p1 : p < K.length := (List.getElem?_eq_some_iff.mp I.sh).1
      have a1 : ((K ++ [bools (ts.take (i + 1))]) ++ [[DV.bool t]])[p]? = some (bools sh) := by
        rw [List.getElem?_append_left (by simp; omega), List.getElem?_append_left p1]; exact I.sh
      have a2 : ((K ++ [bools (ts.take (i + 1))]) ++ [[DV.bool t]])[(K ++ [bools (ts.take (i + 1))]).length]? = some [.bool t] := last_get _ _
      have a3 : bools sh ++ [DV.bool t] = bools (sh ++ [t]) := by simp [bools]
      have a4 : (bools sh).length + [DV.bool t].length ≤ 1000 := by rw [bools_length]; simp; omega
      have a5 : ((K ++ [bools (ts.take (i + 1))]) ++ [[DV.bool t]] ++ [bools (sh ++ [t])])[((K ++ [bools (ts.take (i + 1))]) ++ [[DV.bool t]]).length]? = some (bools (sh ++ [t])) := last_get _ _
      have a6 : ((K ++ [bools (ts.take (i + 1))]) ++ [[DV.bool t]] ++ [bools (sh ++ [t])])[K.length]? = some (bools (ts.take (i + 1))) := by
        rw [List.getElem?_append_left (by simp), List.getElem?_append_left (by simp)]; exact last_get _ _
      have d1 : deq (.ref K.length) (.ref ((K ++ [bools (ts.take (i + 1))]) ++ [[DV.bool t]]).length) ((K ++ [bools (ts.take (i + 1))]) ++ [[DV.bool t]] ++ [bools (sh ++ [t])]) = some (decide (ts.take (i + 1) = sh ++ [t])) := deq_bools a6 a5
      have f1 : seq2 (getE 35) (seq2 (getE 25) (cE (.int 1)) fAdd) fUpto ⟨V, K⟩ = some (.ref K.length, K ++ [bools (ts.take (i + 1))]) := by
        simp only [seq2, getE, v35, Option.map_some, v25, cE, fAdd, fUpto, I.ts, c2, if_true, hu]
      have f2 : seq2 (getE 34) (lstE (consA (getE 24) nilA)) fAdd ⟨V, K ++ [bools (ts.take (i + 1))]⟩ = some (.ref ((K ++ [bools (ts.take (i + 1))]) ++ [[DV.bool t]]).length, (K ++ [bools (ts.take (i + 1))]) ++ [[DV.bool t]] ++ [bools (sh ++ [t])]) := by
        have a0 : [DV.bool t].length ≤ 1000 := by simp
        simp only [seq2, getE, v34, Option.map_some, lstE, consA, v24, nilA, if_pos a0, fAdd, a1, a2, if_pos a4, a3]
      unfold toT
      rw [seq2, f1]
      simp only
      rw [f2]
      simp only [fEq, d1, Option.map_some]
    have p1 : p < K.length := (List.getElem?_eq_some_iff.mp I.sh).1
    have q1 : q < K.length := (List.getElem?_eq_some_iff.mp I.ts).1
    have l1 : l < K.length := (List.getElem?_eq_some_iff.mp I.tr).1
    have up : ∀ m, m < K.length → (K ++ [bools (ts.take (i + 1))] ++ [[DV.bool t]] ++ [bools (sh ++ [t])])[m]? = K[m]? := fun m hm => by
      rw [List.getElem?_append_left (by simp; omega), List.getElem?_append_left (by simp; omega), List.getElem?_append_left hm]
    have hA : andT (toT (seq2 (map1 (getE 34) fLen) (getE 25) fEq)) (toT (seq2 (seq2 (getE 35) (seq2 (getE 25) (cE (.int 1)) fAdd) fUpto) (seq2 (getE 34) (lstE (consA (getE 24) nilA)) fAdd) fEq)) ⟨V, K⟩ = some (decide (ts.take (i + 1) = sh ++ [t]), K ++ [bools (ts.take (i + 1))] ++ [[.bool t]] ++ [bools (sh ++ [t])]) := by
      unfold andT
      rw [e1, decide_eq_true hi]
      exact e2
    by_cases hc : ts.take (i + 1) = sh ++ [t]
    · rw [decide_eq_true hc] at hA
      refine ⟨(K ++ [bools (ts.take (i + 1))] ++ [[DV.bool t]] ++ [bools (sh ++ [t])]).set p (bools sh ++ [.bool t]), ?_, ?_⟩
      · have a : appS 34 (getE 24) ⟨V, K ++ [bools (ts.take (i + 1))] ++ [[DV.bool t]] ++ [bools (sh ++ [t])]⟩ = some (.next, ⟨V, (K ++ [bools (ts.take (i + 1))] ++ [[DV.bool t]] ++ [bools (sh ++ [t])]).set p (bools sh ++ [.bool t])⟩) := by
          simp only [appS, v34, getE, v24, Option.map_some, up p p1, I.sh, c1, if_true]
        have b : ifS (andT (toT (seq2 (map1 (getE 34) fLen) (getE 25) fEq)) (toT (seq2 (seq2 (getE 35) (seq2 (getE 25) (cE (.int 1)) fAdd) fUpto) (seq2 (getE 34) (lstE (consA (getE 24) nilA)) fAdd) fEq))) (consB (appS 34 (getE 24)) nilB) nilB ⟨V, K⟩ = some (.next, ⟨V, (K ++ [bools (ts.take (i + 1))] ++ [[DV.bool t]] ++ [bools (sh ++ [t])]).set p (bools sh ++ [.bool t])⟩) := by
          unfold ifS
          rw [hA]
          exact (consB_next a).trans rfl
        exact (consB_next b).trans rfl
      · have e : nextSh sh ts i t = sh ++ [t] := by simp [nextSh, hi, hc]
        rw [e]
        refine ⟨?_, ?_, ?_, I.pq, I.pl⟩
        · rw [List.getElem?_set_self (by simp; omega)]; simp [bools]
        · rw [List.getElem?_set_ne I.pq, up q q1]; exact I.ts
        · rw [List.getElem?_set_ne I.pl, up l l1]; exact I.tr
    · rw [decide_eq_false hc] at hA
      refine ⟨K ++ [bools (ts.take (i + 1))] ++ [[DV.bool t]] ++ [bools (sh ++ [t])], ?_, ?_⟩
      · have b : ifS (andT (toT (seq2 (map1 (getE 34) fLen) (getE 25) fEq)) (toT (seq2 (seq2 (getE 35) (seq2 (getE 25) (cE (.int 1)) fAdd) fUpto) (seq2 (getE 34) (lstE (consA (getE 24) nilA)) fAdd) fEq))) (consB (appS 34 (getE 24)) nilB) nilB ⟨V, K⟩ = some (.next, ⟨V, K ++ [bools (ts.take (i + 1))] ++ [[DV.bool t]] ++ [bools (sh ++ [t])]⟩) := by
          unfold ifS
          rw [hA]
          rfl
        exact (consB_next b).trans rfl
      · have e : nextSh sh ts i t = sh := by simp [nextSh, hc]
        rw [e]
        exact ⟨(up p p1).trans I.sh, (up q q1).trans I.ts, (up l l1).trans I.tr, I.pq, I.pl⟩
  · refine ⟨K, ?_, ?_⟩
    · have b : ifS (andT (toT (seq2 (map1 (getE 34) fLen) (getE 25) fEq)) (toT (seq2 (seq2 (getE 35) (seq2 (getE 25) (cE (.int 1)) fAdd) fUpto) (seq2 (getE 34) (lstE (consA (getE 24) nilA)) fAdd) fEq))) (consB (appS 34 (getE 24)) nilB) nilB ⟨V, K⟩ = some (.next, ⟨V, K⟩) := by
        unfold ifS andT
        rw [e1, decide_eq_false hi]
        rfl
      exact (consB_next b).trans rfl
    · have e : nextSh sh ts i t = sh := by simp [nextSh, hi]
      rw [e]
      exact I
theorem nextSh_cp {tr ts : List Bool} {i : Nat} (hi : i < tr.length) : nextSh ((cp tr ts).take i) ts i tr[i] = (cp tr ts).take (i + 1) := by
  have P := parts tr ts
  generalize hk : (cp tr ts).length = k at P
  by_cases h : i < k
  · have h1 : ((cp tr ts).take i).length = i := by rw [List.length_take]; omega
    have h2 : (cp tr ts).take (i + 1) = (cp tr ts).take i ++ [tr[i]] := by
      rw [List.take_add_one, List.getElem?_eq_getElem (by omega)]
      have : (cp tr ts)[i]'(by omega) = tr[i] := by
        have := P.left
        simp only [this, List.getElem_take]
      rw [this]; rfl
    have h3 : ts.take (i + 1) = (cp tr ts).take (i + 1) := by
      rw [P.right, List.take_take, Nat.min_eq_left (by omega)]
    unfold nextSh
    rw [if_pos ⟨h1, by rw [h3, h2]⟩, h2]
  · have h1 : (cp tr ts).take i = cp tr ts := List.take_of_length_le (by omega)
    have h2 : (cp tr ts).take (i + 1) = cp tr ts := List.take_of_length_le (by omega)
    unfold nextSh
    rw [h1, h2, if_neg]
    rintro ⟨h3, h4⟩
    have h5 : i = k := by omega
    subst h5
    refine P.apart tr[i] (List.getElem?_eq_getElem hi) ?_
    have := congrArg (fun l => l[i]?) h4
    simp only [List.getElem?_take] at this
    rw [if_pos (by omega), List.getElem?_append_right (by omega), hk] at this
    simpa using this
theorem loop10 {p q l : Nat} {ts tr : List Bool} (htr : tr.length < 100) (hts : ts.length ≤ 100) : ∀ (n i : Nat) (V : List (Nat × DV)) (K : DH), n + i = 100 → i ≤ tr.length → Inv p q l ((cp tr ts).take i) ts tr K → V.lookup 34 = some (.ref p) → V.lookup 35 = some (.ref q) →
    ∃ V' K', forGo (tupG [setG 25, setG 24]) body10 n (.enm l i) ⟨V, K⟩ = some (.next, ⟨V', K'⟩) ∧ Inv p q l (cp tr ts) ts tr K' ∧ ∀ x, x ≠ 24 → x ≠ 25 → V'.lookup x = V.lookup x := by
  intro n
  induction n with
  | zero => intro i V K h1 h2; omega
  | succ n ih =>
    intro i V K h1 h2 I v34 v35
    by_cases hi : i < tr.length
    · have hit : itNext (.enm l i) K = some (some (.tup [.int i, .bool tr[i]], .enm l (i + 1))) := by
        simp [itNext, I.tr, bools, hi]
      have hg : tupG [setG 25, setG 24] (.tup [.int i, .bool tr[i]]) ⟨V, K⟩ = some ⟨setv 24 (.bool tr[i]) (setv 25 (.int i) V), K⟩ := by
        simp [tupG, listG, setG]
      have hl : ((cp tr ts).take i).length ≤ 100 := by rw [List.length_take]; omega
      obtain ⟨K', hb, I'⟩ := body10_ok (i := i) (t := tr[i]) (V := setv 24 (.bool tr[i]) (setv 25 (.int i) V)) I (by rw [lookup_setv, lookup_setv]; simpa using v34) (by rw [lookup_setv, lookup_setv]; simpa using v35) (by rw [lookup_setv, lookup_setv]; simp) (by rw [lookup_setv]; simp) hl hts
      rw [nextSh_cp hi] at I'
      rw [forGo_next hit hg hb]
      obtain ⟨V', K'', h, I'', hV⟩ := ih (i + 1) (setv 24 (.bool tr[i]) (setv 25 (.int i) V)) K' (by omega) (by omega) I' (by rw [lookup_setv, lookup_setv]; simpa using v34) (by rw [lookup_setv, lookup_setv]; simpa using v35)
      refine ⟨V', K'', h, I'', fun x h24 h25 => ?_⟩
      rw [hV x h24 h25, lookup_setv, if_neg h24, lookup_setv, if_neg h25]
    · have e : i = tr.length := by omega
      subst e
      have hit : itNext (.enm l tr.length) K = some none := by
        simp [itNext, I.tr, bools]
      refine ⟨V, K, by simp [forGo, hit], ?_, fun _ _ _ => rfl⟩
      have P := parts tr ts
      have : (cp tr ts).take tr.length = cp tr ts := List.take_of_length_le P.lp
      rw [this] at I
      exact I
end Mine
end
section
set_option maxRecDepth 100000
namespace Mine
theorem bools_flat : ∀ p : List Bool, flats (bools p) = true
  | [] => rfl
  | b :: p => by
    have := bools_flat p
    simp only [bools, List.map_cons, flats, flat, Bool.true_and] at this ⊢
    exact this
theorem pthGo_length : ∀ n la lb ha hb a b, (pthGo n la lb ha hb a b).length ≤ n := by
  intro n
  induction n with
  | zero => intro la lb ha hb a b; simp [pthGo]
  | succ n ih =>
    intro la lb ha hb a b
    unfold pthGo
    split
    · simp
    · split <;> (simp only [List.length_cons]; exact Nat.succ_le_succ (ih _ _ _ _ _ _))
theorem pth_length (r : Int × Int) : (pth r).length ≤ 45 := pthGo_length 45 _ _ _ _ _ _
theorem frm_row {r : Int × Int} {xs : List DV} (R : RowIs r xs) (H : DH) : frm N_fraction_row [dv r] H = some (.ref H.length, H ++ [xs]) := frm_l (is := []) rfl R.row
theorem frm_turns {r : Int × Int} {xs : List DV} {H : DH} {i : Nat} (R : RowIs r xs) (hi : H[i]? = some xs) : frm F_law_turns [.ref i] H = some (.ref H.length, H ++ [bools (pth r)]) := frmR_l hi R.flat R.turns

theorem eq9 {r s : Int × Int} {V : List (Nat × DV)} {H : DH} {ys : List DV} (Y : RowIs s ys) (v26 : V.lookup 26 = some (dv s)) :
    law_9 ⟨V, H⟩ = some (.next, ⟨setv 34 (.ref H.length) (setv 35 (.ref (H ++ [[]] ++ [ys]).length) V), H ++ [[]] ++ [ys] ++ [bools (pth s)]⟩) := by
  have e1 := frm_row Y (H ++ [[]])
  have e2 := frm_turns (H := H ++ [[]] ++ [ys]) (i := (H ++ [[]]).length) Y (last_get _ _)
  have e0 : ([] : List DV).length ≤ 1000 := by simp
  have e3 : ∀ a b : DV, [a, b].length ≤ 1000 := by intro a b; simp
  have e4 : ∀ a b : DV, [a, b].length = [34, 35].length := by intro a b; rfl
  simp only [law_9, asgS, tupE, consA, lstE, nilA, if_pos e0, callE, getE, v26, Option.map_some, e1, e2, if_pos (e3 _ _), swG, if_pos (e4 _ _), List.reverse_cons, List.reverse_nil, List.nil_append, List.cons_append, List.map_cons, List.map_nil, listG, setG]
theorem eq10 {r s : Int × Int} {V : List (Nat × DV)} {H : DH} {i p q : Nat} {xs : List DV} (X : RowIs r xs) (v9 : V.lookup 9 = some (.ref i)) (hi : H[i]? = some xs) (v34 : V.lookup 34 = some (.ref p)) (v35 : V.lookup 35 = some (.ref q))
    (hp : H[p]? = some (bools [])) (hq : H[q]? = some (bools (pth s))) (hpq : p ≠ q) :
    ∃ V' K', law_10 ⟨V, H⟩ = some (.next, ⟨V', K'⟩) ∧ K'[p]? = some (bools (cp (pth r) (pth s))) ∧ ∀ x, x ≠ 24 → x ≠ 25 → V'.lookup x = V.lookup x := by
  have e2 := frm_turns (H := H) (i := i) X hi
  have p1 : p < H.length := (List.getElem?_eq_some_iff.mp hp).1
  have q1 : q < H.length := (List.getElem?_eq_some_iff.mp hq).1
  have I : Inv p q H.length ((cp (pth r) (pth s)).take 0) (pth s) (pth r) (H ++ [bools (pth r)]) := by
    refine ⟨?_, ?_, last_get _ _, hpq, by omega⟩
    · rw [List.getElem?_append_left p1]; simpa using hp
    · rw [List.getElem?_append_left q1]; exact hq
  have l1 := pth_length r
  have l2 := pth_length s
  obtain ⟨V', K', h, I', hV⟩ := loop10 (by omega) (by omega) 100 0 V _ rfl (Nat.zero_le _) I v34 v35
  refine ⟨V', K', ?_, I'.sh, hV⟩
  unfold body10 at h
  rw [← h]
  have e3 : enmI (callE (consA (getE 9) nilA) (frm F_law_turns)) ⟨V, H⟩ = some (.enm H.length 0, H ++ [bools (pth r)]) := by
    simp only [enmI, callE, consA, getE, v9, Option.map_some, nilA, e2, last_get]
  unfold law_10 forS
  rw [e3]
theorem eq11 {r s : Int × Int} (hr : r ∈ rats) (hs : s ∈ rats) {V : List (Nat × DV)} {H : DH} (v6 : V.lookup 6 = some (dv r)) (v26 : V.lookup 26 = some (dv s)) :
    law_11 ⟨V, H⟩ = some (.next, ⟨setv 37 (dv (moreOf r s)) (setv 36 (dv (lessOf r s)) V), H⟩) := by
  have br := rats_le hr
  have bs := rats_le hs
  have s1 : smallI r.1 = true := by unfold smallI; simp only [decide_eq_true_eq]; omega
  have s2 : smallI s.1 = true := by unfold smallI; simp only [decide_eq_true_eq]; omega
  unfold dv at v6 v26
  by_cases h : r.1 * s.2 ≤ s.1 * r.2 <;> simp [law_11, asgS, iteE, toT, seq2, getE, v6, v26, cE, fItem, idx, fMul, s1, s2, fLe, h, tupE, consA, nilA, tupG, listG, setG, lessOf, moreOf, dv]
theorem eq12 {l m x : Int × Int} {p : List Bool} {zs : List DV} (Z : ValIs x zs) (hp : pth x = p) {V : List (Nat × DV)} {H : DH} {i : Nat} (v34 : V.lookup 34 = some (.ref i)) (hi : H[i]? = some (bools p)) (v36 : V.lookup 36 = some (dv l)) (v37 : V.lookup 37 = some (dv m))
    (hsim : out F_law_simplest [dv l, dv m] [] = some (dv x, none)) : ∃ K, law_12 ⟨V, H⟩ = some (.next, ⟨V, K⟩) := by
  subst hp
  have e1 : frm F_law_runs [.ref i] H = some (.ref H.length, H ++ [zs]) := frmR_l hi (bools_flat _) Z.runs
  have e2 : frm N_fraction_value [.ref H.length] (H ++ [zs]) = some (dv x, H ++ [zs]) := frmR_v (last_get _ _) Z.flat Z.val
  have e3 : frm F_law_simplest [dv l, dv m] (H ++ [zs]) = some (dv x, H ++ [zs]) := frm_v (is := []) rfl hsim
  have e4 : peq 8 (dv x) (dv x) = some true := by
    simp [dv, peq, zipEq]
  refine ⟨H ++ [zs], ?_⟩
  have e5 : deq (dv x) (dv x) (H ++ [zs]) = some true := e4
  simp only [law_12, ifS, toT, seq2, callE, consA, getE, v34, Option.map_some, nilA, e1, e2, v36, v37, e3, fNe, e5, Bool.not_true, nilB]
theorem eq13 {n x y : Int} {ys : List DV} (N : NumIs n ys x y) {V : List (Nat × DV)} {H : DH} (v27 : V.lookup 27 = some (.int n)) : ∃ K, law_13 ⟨V, H⟩ = some (.ret (.bool true), ⟨V, K⟩) := by
  have e1 : frm F_law_lots [.int n] H = some (.ref H.length, H ++ [ys]) := frm_l (is := []) rfl N.lots
  have e2 : frm N_fraction_value [.ref H.length] (H ++ [ys]) = some (.tup [.int x, .int y], H ++ [ys]) := frmR_v (last_get _ _) N.flat N.val
  have e3 : frm F_law_stern [.int n] (H ++ [ys]) = some (.tup [.int x, .int y], H ++ [ys]) := frm_v (is := []) rfl N.stern
  have e4 : peq 8 (.tup [.int x, .int y]) (.tup [.int x, .int y]) = some true := by
    simp [peq, zipEq]
  have e5 : deq (.tup [.int x, .int y]) (.tup [.int x, .int y]) (H ++ [ys]) = some true := e4
  refine ⟨H ++ [ys], ?_⟩
  simp only [law_13, retS, seq2, callE, consA, getE, v27, Option.map_some, nilA, e1, e2, e3, fEq, e5]
/-- all behind the draws -/
theorem behind {r s : Int × Int} (hr : r ∈ rats) (hs : s ∈ rats) {n : Int} (n0 : 0 ≤ n) (n1 : n < 31) (x t u : DV) (h0 h1 h2 : List DV) :
    ∃ σ, consB law_5 (consB law_6 (consB law_7 (consB law_8 (consB law_9 (consB law_10 (consB law_11 (consB law_12 (consB law_13 nilB)))))))) (stB r x (dv s) (.int (1 + n)) t u h0 h1 h2) = some (.ret (.bool true), σ) := by
  obtain ⟨σ, i, xs, hb, A⟩ := blk_ok hr x (dv s) (.int (1 + n)) t u h0 h1 h2
  rw [hb]
  obtain ⟨V, H⟩ := σ
  obtain ⟨a9, ai, X, a6, a26, a27⟩ := A
  simp only at a9 ai a6 a26 a27
  obtain ⟨ys, Y⟩ := row_ok hs
  obtain ⟨y, hy, hway, hsim⟩ := meet hr hs
  obtain ⟨zs, Z⟩ := val_ok hy
  obtain ⟨ws, c, d, N⟩ := num_ok n0 n1
  rw [consB_next (eq9 (r := r) Y a26)]
  have hi : i < H.length := (List.getElem?_eq_some_iff.mp ai).1
  have k34 : (setv 34 (.ref H.length) (setv 35 (.ref (H ++ [[]] ++ [ys]).length) V)).lookup 34 = some (.ref H.length) := by rw [lookup_setv, if_pos rfl]
  have k35 : (setv 34 (.ref H.length) (setv 35 (.ref (H ++ [[]] ++ [ys]).length) V)).lookup 35 = some (.ref (H ++ [[]] ++ [ys]).length) := by rw [lookup_setv, if_neg (by decide), lookup_setv, if_pos rfl]
  have kx : ∀ z, z ≠ 34 → z ≠ 35 → (setv 34 (.ref H.length) (setv 35 (.ref (H ++ [[]] ++ [ys]).length) V)).lookup z = V.lookup z := fun z h1 h2 => by rw [lookup_setv, if_neg h1, lookup_setv, if_neg h2]
  generalize setv 34 (.ref H.length) (setv 35 (.ref (H ++ [[]] ++ [ys]).length) V) = V1 at k34 k35 kx ⊢
  obtain ⟨V2, K2, q10, sh, kV⟩ := eq10 (r := r) (s := s) (H := H ++ [[]] ++ [ys] ++ [bools (pth s)]) (i := i) X ((kx 9 (by decide) (by decide)).trans a9)
    (by rw [List.getElem?_append_left (by simp; omega), List.getElem?_append_left (by simp; omega), List.getElem?_append_left hi]; exact ai) k34 k35
    (by rw [List.getElem?_append_left (by simp), List.getElem?_append_left (by simp)]; exact last_get _ _) (last_get _ _) (by simp)
  rw [consB_next q10]
  have j6 : V2.lookup 6 = some (dv r) := (kV 6 (by decide) (by decide)).trans ((kx 6 (by decide) (by decide)).trans a6)
  have j26 : V2.lookup 26 = some (dv s) := (kV 26 (by decide) (by decide)).trans ((kx 26 (by decide) (by decide)).trans a26)
  have j27 : V2.lookup 27 = some (.int (1 + n)) := (kV 27 (by decide) (by decide)).trans ((kx 27 (by decide) (by decide)).trans a27)
  have j34 : V2.lookup 34 = some (.ref H.length) := (kV 34 (by decide) (by decide)).trans k34
  rw [consB_next (eq11 hr hs j6 j26)]
  obtain ⟨K3, q12⟩ := eq12 (l := lessOf r s) (m := moreOf r s) (V := setv 37 (dv (moreOf r s)) (setv 36 (dv (lessOf r s)) V2)) (H := K2) (i := H.length) Z hway
    (by rw [lookup_setv, if_neg (by decide), lookup_setv, if_neg (by decide)]; exact j34) sh (by rw [lookup_setv, if_neg (by decide), lookup_setv, if_pos rfl]) (by rw [lookup_setv, if_pos rfl]) hsim
  rw [consB_next q12]
  obtain ⟨K4, q13⟩ := eq13 (V := setv 37 (dv (moreOf r s)) (setv 36 (dv (lessOf r s)) V2)) (H := K3) N (by rw [lookup_setv, if_neg (by decide), lookup_setv, if_neg (by decide)]; exact j27)
  exact ⟨_, consB_ret q13⟩
/-! the draws -/
theorem abs_draw (a m : Int) (hm : 0 < m) : 0 ≤ a.fmod m ∧ a.fmod m < m := ⟨Int.fmod_nonneg_of_pos a hm, Int.fmod_lt_of_pos a hm⟩
theorem draw {cs : List Int} (hl : cs.length ≤ 5) {k : Nat} (hk : k < 5) {m : Int} (hm : 0 < m) (h0 : List DV) : ∃ d, 0 ≤ d ∧ d < m ∧
    F_law_draw [.ref 2, .int m] [h0, cs.map .int, [.ref 1, .int k]] = some (.int d, [h0, cs.map .int, [.ref 1, .int ((k : Int) + 1)]]) := by
  have hm' : m ≠ 0 := by omega
  have hle : (cs.map DV.int).length ≤ 1000000 := by rw [List.length_map]; omega
  have e1 : asgS (seq2 (getE 19) (cE (.int 1)) fItem) (setG 20) ⟨[(19, .ref 2), (17, .int m)], [h0, cs.map .int, [.ref 1, .int k]]⟩ = some (.next, ⟨[(19, .ref 2), (17, .int m), (20, .int k)], [h0, cs.map .int, [.ref 1, .int k]]⟩) := rfl
  have e2 : asgS (seq2 (getE 20) (cE (.int 1)) fAdd) (itemG (getE 19) (cE (.int 1))) ⟨[(19, .ref 2), (17, .int m), (20, .int k)], [h0, cs.map .int, [.ref 1, .int k]]⟩ = some (.next, ⟨[(19, .ref 2), (17, .int m), (20, .int k)], [h0, cs.map .int, [.ref 1, .int ((k : Int) + 1)]]⟩) := rfl
  have gt : ∀ K, K = [h0, cs.map DV.int, [.ref 1, .int ((k : Int) + 1)]] → seq2 (getE 20) (map1 (seq2 (getE 19) (cE (.int 0)) fItem) fLen) fLt ⟨[(19, .ref 2), (17, .int m), (20, .int k)], K⟩ = some (.bool (decide ((k : Int) < ((cs.map DV.int).length : Nat))), K) := fun K hK => by
    subst hK
    exact (seq2_some rfl ((map1_some rfl).trans (len_ok (l := 1) rfl hle))).trans rfl
  have t : toT (seq2 (getE 20) (map1 (seq2 (getE 19) (cE (.int 0)) fItem) fLen) fLt) ⟨[(19, .ref 2), (17, .int m), (20, .int k)], [h0, cs.map .int, [.ref 1, .int ((k : Int) + 1)]]⟩ = some (decide ((k : Int) < ((cs.map DV.int).length : Nat)), [h0, cs.map .int, [.ref 1, .int ((k : Int) + 1)]]) := by
    unfold toT; rw [gt _ rfl]
  by_cases h : k < cs.length
  · refine ⟨(absN cs[k]).fmod m, (abs_draw _ _ hm).1, (abs_draw _ _ hm).2, ?_⟩
    have hg : (cs.map DV.int)[k]? = some (.int cs[k]) := by simp [h]
    have hx : idx k (cs.map DV.int).length = some k := idx_nat (by rw [List.length_map]; exact h)
    rw [decide_eq_true (by rw [List.length_map]; omega)] at t
    exact funD_ex rfl ⟨_, (consB_next e1).trans ((consB_next e2).trans (consB_ret ((ifS_t t).trans (consB_ret (retS_some ((seq2_some ((map1_some ((seq2_some (d1 := seq2 (getE 19) (cE (.int 0)) fItem) (f := fItem) rfl rfl).trans (item_ok (l := 1) rfl hle hx hg))).trans (b := some (.int (absN cs[k]), _)) rfl) rfl).trans (mod_ok hm')))))))⟩
  · rw [decide_eq_false (by rw [List.length_map]; omega)] at t
    have e4 : ∀ K : DH, ∃ a : Int, seq2 (tupE (consA (cE (.int 6)) (consA (cE (.int 18)) (consA (cE (.int 4)) (consA (cE (.int 13)) (consA (cE (.int 22)) nilA)))))) (seq2 (getE 20) (cE (.int 5)) fMod) fItem ⟨[(19, .ref 2), (17, .int m), (20, .int k)], K⟩ = some (.int a, K) := by
      intro K
      have hk5 : k = 0 ∨ k = 1 ∨ k = 2 ∨ k = 3 ∨ k = 4 := by omega
      rcases hk5 with rfl | rfl | rfl | rfl | rfl <;> exact ⟨_, rfl⟩
    obtain ⟨a, e4⟩ := e4 [h0, cs.map .int, [.ref 1, .int ((k : Int) + 1)]]
    refine ⟨a.fmod m, (abs_draw _ _ hm).1, (abs_draw _ _ hm).2, ?_⟩
    exact funD_ex rfl ⟨_, (consB_next e1).trans ((consB_next e2).trans ((consB_next (ifS_f t)).trans (consB_ret (retS_some ((seq2_some e4 rfl).trans (mod_ok hm'))))))⟩
/-- the pool -/
theorem front0 (ns : List Int) (h : ns.length ≤ 63) : law_0 ⟨[(31, .ext (ns.map .int))], []⟩ = some (.next, ⟨[(31, .ext (ns.map .int)), (19, .ref 2)], [(ns.take 5).map .int, (ns.take 5).map .int, [.ref 1, .int 0]]⟩) := by
  have hle : ns.length ≤ 1000000 := by omega
  have hu : upto 5 (ns.map DV.int) = (ns.take 5).map .int := by
    unfold upto
    rw [if_pos (by decide), List.map_take]
    rfl
  have hs : seq2 (getE 31) (cE (.int 5)) fUpto ⟨[(31, .ext (ns.map .int))], []⟩ = some (.ref 0, [(ns.take 5).map .int]) := by
    simp [seq2, getE, List.lookup, cE, fUpto, hle, hu]
  have hl : (ns.take 5).length ≤ 5 := by rw [List.length_take]; omega
  have hc : compE (lstI (seq2 (getE 31) (cE (.int 5)) fUpto)) [] 32 none (map1 (getE 32) fInt) 100 ⟨[(31, .ext (ns.map .int))], []⟩ = some (.ref 1, [(ns.take 5).map .int, (ns.take 5).map .int]) := by
    unfold compE lstI
    rw [hs]
    generalize ns.take 5 = cs at hl
    match cs, hl with
    | [], _ => rfl
    | [a], _ => rfl
    | [a, b], _ => rfl
    | [a, b, c], _ => rfl
    | [a, b, c, d], _ => rfl
    | [a, b, c, d, e], _ => rfl
    | _ :: _ :: _ :: _ :: _ :: _ :: _, h => simp at h
  have e0 : ∀ a b : DV, [a, b].length ≤ 1000 := by intro a b; simp
  simp only [law_0, asgS, lstE, consA, hc, cE, nilA, if_pos (e0 _ _), setG, Option.map_some, setv]
  rfl
theorem pair_draw {cs : List Int} (hl : cs.length ≤ 5) {k : Nat} (hk : k < 4) {V : List (Nat × DV)} (v19 : V.lookup 19 = some (.ref 2)) (h0 : List DV) : ∃ b t : Int, 0 ≤ b ∧ b < 12 ∧ 0 ≤ t ∧ t < 30 ∧
    law_1 ⟨V, [h0, cs.map .int, [.ref 1, .int k]]⟩ = some (.next, ⟨setv 3 (.int (1 + b)) (setv 2 (.int (1 + t)) V), [h0, cs.map .int, [.ref 1, .int ((k : Int) + 1 + 1)]]⟩) := by
  obtain ⟨b, b0, b1, eb⟩ := draw hl (k := k) (by omega) (m := 12) (by decide) h0
  obtain ⟨t, t0, t1, et⟩ := draw hl (k := k + 1) (by omega) (m := 30) (by decide) h0
  have hk1 : ((k + 1 : Nat) : Int) = (k : Int) + 1 := by omega
  rw [hk1] at et
  refine ⟨b, t, b0, b1, t0, t1, ?_⟩
  have e3 : ∀ a b : DV, [a, b].length ≤ 1000 := by intro a b; simp
  have e4 : ∀ a b : DV, [a, b].length = [3, 2].length := by intro a b; rfl
  simp only [law_1, asgS, tupE, consA, seq2, cE, callE, getE, v19, Option.map_some, nilA, eb, et, fAdd, if_pos (e3 _ _), swG, if_pos (e4 _ _), List.reverse_cons, List.reverse_nil, List.nil_append, List.cons_append, List.map_cons, List.map_nil, listG, setG]
theorem law_eq (ns : List Int) (h : ns.length ≤ 63) : ∃ H, F_law [.ext (ns.map .int)] [] = some (.bool true, H) := by
  have hl : (ns.take 5).length ≤ 5 := by rw [List.length_take]; omega
  have e0 := front0 ns h
  generalize (ns.take 5) = cs at hl e0
  obtain ⟨b, t, b0, b1, t0, t1, e1⟩ := pair_draw hl (k := 0) (by decide) (V := [(31, .ext (ns.map .int)), (19, .ref 2)]) rfl (cs.map .int)
  obtain ⟨r, hr, e2⟩ := ratio_ok t0 t1 b0 b1 [cs.map .int, cs.map .int, [.ref 1, .int (2 : Nat)]]
  obtain ⟨b', t', b0', b1', t0', t1', e3⟩ := pair_draw hl (k := 2) (by decide) (V := [(31, .ext (ns.map .int)), (19, .ref 2), (2, .int (1 + t)), (3, .int (1 + b)), (6, dv r)]) rfl (cs.map .int)
  obtain ⟨s, hs, e4⟩ := ratio_ok t0' t1' b0' b1' [cs.map .int, cs.map .int, [.ref 1, .int (4 : Nat)]]
  obtain ⟨n, n0, n1, e5⟩ := draw hl (k := 4) (by decide) (m := 31) (by decide) (cs.map .int)
  have f1 : law_1 ⟨[(31, .ext (ns.map .int)), (19, .ref 2)], [cs.map .int, cs.map .int, [.ref 1, .int 0]]⟩ = some (.next, ⟨[(31, .ext (ns.map .int)), (19, .ref 2), (2, .int (1 + t)), (3, .int (1 + b))], [cs.map .int, cs.map .int, [.ref 1, .int (2 : Nat)]]⟩) := e1
  have f2 : law_2 ⟨[(31, .ext (ns.map .int)), (19, .ref 2), (2, .int (1 + t)), (3, .int (1 + b))], [cs.map .int, cs.map .int, [.ref 1, .int (2 : Nat)]]⟩ = some (.next, ⟨[(31, .ext (ns.map .int)), (19, .ref 2), (2, .int (1 + t)), (3, .int (1 + b)), (6, dv r)], [cs.map .int, cs.map .int, [.ref 1, .int (2 : Nat)]]⟩) := by
    simp only [law_2, asgS, callE, consA, nilA, getE, List.lookup, beq_self_eq_true, Option.map_some, show ((2 : Nat) == 31) = false from rfl, show ((2 : Nat) == 19) = false from rfl, show ((3 : Nat) == 31) = false from rfl, show ((3 : Nat) == 19) = false from rfl, show ((3 : Nat) == 2) = false from rfl, show ((19 : Nat) == 31) = false from rfl, e2]
    rfl
  have f3 : law_3 ⟨[(31, .ext (ns.map .int)), (19, .ref 2), (2, .int (1 + t)), (3, .int (1 + b)), (6, dv r)], [cs.map .int, cs.map .int, [.ref 1, .int (2 : Nat)]]⟩ = some (.next, ⟨[(31, .ext (ns.map .int)), (19, .ref 2), (2, .int (1 + t')), (3, .int (1 + b')), (6, dv r)], [cs.map .int, cs.map .int, [.ref 1, .int (4 : Nat)]]⟩) := e3
  have f4 : law_4 ⟨[(31, .ext (ns.map .int)), (19, .ref 2), (2, .int (1 + t')), (3, .int (1 + b')), (6, dv r)], [cs.map .int, cs.map .int, [.ref 1, .int (4 : Nat)]]⟩ = some (.next, stB r (.ext (ns.map .int)) (dv s) (.int (1 + n)) (.int (1 + t')) (.int (1 + b')) (cs.map .int) (cs.map .int) [.ref 1, .int (5 : Nat)]) := by
    simp only [law_4, asgS, tupE, consA, callE, nilA, getE, List.lookup, beq_self_eq_true, Option.map_some, show ((2 : Nat) == 31) = false from rfl, show ((2 : Nat) == 19) = false from rfl, show ((3 : Nat) == 31) = false from rfl, show ((3 : Nat) == 19) = false from rfl, show ((3 : Nat) == 2) = false from rfl, show ((19 : Nat) == 31) = false from rfl, e4, seq2, cE, e5, fAdd]
    rfl
  obtain ⟨σ, e6⟩ := behind hr hs n0 n1 (.ext (ns.map .int)) (.int (1 + t')) (.int (1 + b')) (cs.map .int) (cs.map .int) [.ref 1, .int (5 : Nat)]
  have e7 : d_law ⟨[(31, .ext (ns.map .int))], []⟩ = some (.ret (.bool true), σ) := by
    unfold d_law
    exact (consB_next e0).trans ((consB_next f1).trans ((consB_next f2).trans ((consB_next f3).trans ((consB_next f4).trans e6))))
  refine ⟨σ.heap, ?_⟩
  simp [F_law, funD, e7]
end Mine
end
open PySem PySem.W PyProof.Rows
set_option maxHeartbeats 8000000 in
theorem PySem.Challenge.cw_tk0012_01_holds : PySem.Challenge.rw_tk0012_01.Holds := by
  w_on
  o_law
  o_head Hook.none
  case hw => w_witness2
  intro w s₀ s₁ mg mb G Y fa o pm cd doc dV kV ho hd hcd hD hmg hg args vals as hpre hlay hrd hwl hlo
  clear hd hcd hD Y
  have hmg' : mg (Str.ofString "law") = some (.ref fa) := hmg
  clear hmg
  have T := Mine.topView (by kernel_rfl) G.T
  have U := Mine.missing T rfl
  have C : Mine.Cx s₁.heap mg mb := ⟨⟨T.g, T.b, T.nolimit, T.builtins, Mine.nm_inj⟩, U.1, U.2.1, U.2.2.1, U.2.2.2.1, U.2.2.2.2.1, U.2.2.2.2.2⟩
  have TF := T.fn
  clear T U G
  wrow_args hpre hlay hrd hwl hlo
  rename IntsAre _ _ => hI
  rename Heap.IsList _ _ _ => hL
  refine Mine.reach C TF hmg' hL hI ⟨Mine.law_eq _ (by omega)⟩ fun h' tk' keep => ?_
  refine GoodW.toG ⟨.inl ⟨.bool true, .bool true, [], rfl, ?_, .bool true, ?_, unshared_nil⟩, keep, rfl, hg⟩
  · clear TF C hmg'
    exact fun cls => rfl
  · clear TF C hmg'
    exact postW_of (X := true) (by kernel_rfl) (by kernel_rfl) rfl
