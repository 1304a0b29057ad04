import PyProof.Rows.All
import Wide.All
import OpenK.AllK
import Wide.FinOn
import PySem.Challenge.RW_np0128_01
open PySem PySem.W PyProof.Rows PySem.Spec PySem.Calls
set_option Elab.async false
set_option maxRecDepth 100000
set_option autoImplicit false
set_option linter.unusedVariables false
set_option linter.unusedSimpArgs false

namespace NP

/-- plain values: ints, strs (their signs' numbers), tuples; lists and dicts by their number in the store -/
inductive V where
  | none
  | bool (b : Bool)
  | int (i : Int)
  | str (l : List Nat)
  | tup (l : List V)
  | loc (n : Nat)

inductive Ob where
  | list (l : List V)
  | dict (l : List (Int × V))

structure St where
  env : List (Option V)
  obs : List Ob
  pin : List Nat

inductive All2 {α β : Type} (R : α → β → Prop) : List α → List β → Prop
  | nil : All2 R [] []
  | cons {a b l m} : R a b → All2 R l m → All2 R (a :: l) (b :: m)

section
variable {α β : Type} {R : α → β → Prop}
theorem All2.len {l : List α} {m : List β} (h : All2 R l m) : l.length = m.length := by
  induction h with
  | nil => rfl
  | cons _ _ ih => simp [ih]
theorem All2.mono {R' : α → β → Prop} (f : ∀ a b, R a b → R' a b) {l : List α} {m : List β} (h : All2 R l m) : All2 R' l m := by
  induction h with
  | nil => exact .nil
  | cons h _ ih => exact .cons (f _ _ h) ih
theorem All2.app {l l' : List α} {m m' : List β} (h : All2 R l m) (h' : All2 R l' m') : All2 R (l ++ l') (m ++ m') := by
  induction h with
  | nil => exact h'
  | cons a _ ih => exact .cons a ih
theorem All2.get {l : List α} {m : List β} (h : All2 R l m) : ∀ {i : Nat} {a : α}, l[i]? = some a → ∃ b, m[i]? = some b ∧ R a b := by
  induction h with
  | nil => intro i a e; cases e
  | cons r _ ih =>
    intro i a e
    cases i with
    | zero => cases e; exact ⟨_, rfl, r⟩
    | succ i => exact ih (i := i) e
theorem All2.get' {l : List α} {m : List β} (h : All2 R l m) : ∀ {i : Nat} {b : β}, m[i]? = some b → ∃ a, l[i]? = some a ∧ R a b := by
  induction h with
  | nil => intro i a e; cases e
  | cons r _ ih =>
    intro i a e
    cases i with
    | zero => cases e; exact ⟨_, rfl, r⟩
    | succ i => exact ih (i := i) e
theorem All2.set {l : List α} {m : List β} (h : All2 R l m) {a : α} {b : β} (r : R a b) : ∀ i : Nat, All2 R (l.set i a) (m.set i b) := by
  induction h with
  | nil => intro i; exact .nil
  | cons r' t ih =>
    intro i
    cases i with
    | zero => exact .cons r t
    | succ i => exact .cons r' (ih i)
theorem All2.nil_inv {m : List β} (h : All2 R [] m) : m = [] := by cases h; rfl
theorem All2.cons_inv {a : α} {l : List α} {m : List β} (h : All2 R (a :: l) m) : ∃ b m', m = b :: m' ∧ R a b ∧ All2 R l m' := by
  cases h with
  | cons r t => exact ⟨_, _, rfl, r, t⟩
theorem All2.one {a : α} {m : List β} (h : All2 R [a] m) : ∃ b, m = [b] ∧ R a b := by
  obtain ⟨b, m', rfl, r, t⟩ := h.cons_inv
  exact ⟨b, by rw [t.nil_inv], r⟩
theorem All2.two {a a' : α} {m : List β} (h : All2 R [a, a'] m) : ∃ b b', m = [b, b'] ∧ R a b ∧ R a' b' := by
  obtain ⟨b, m', rfl, r, t⟩ := h.cons_inv
  obtain ⟨b', rfl, r'⟩ := t.one
  exact ⟨b, b', rfl, r, r'⟩
theorem All2.three {a a' a'' : α} {m : List β} (h : All2 R [a, a', a''] m) : ∃ b b' b'', m = [b, b', b''] ∧ R a b ∧ R a' b' ∧ R a'' b'' := by
  obtain ⟨b, m', rfl, r, t⟩ := h.cons_inv
  obtain ⟨b', b'', rfl, r', r''⟩ := t.two
  exact ⟨b, b', b'', rfl, r, r', r''⟩
theorem All2.drop {l : List α} {m : List β} (h : All2 R l m) : ∀ i : Nat, All2 R (l.drop i) (m.drop i) := by
  induction h with
  | nil => intro i; simpa using All2.nil
  | cons r t ih =>
    intro i
    cases i with
    | zero => exact .cons r t
    | succ i => exact ih i
theorem All2.take {l : List α} {m : List β} (h : All2 R l m) : ∀ i : Nat, All2 R (l.take i) (m.take i) := by
  induction h with
  | nil => intro i; simpa using All2.nil
  | cons r t ih =>
    intro i
    cases i with
    | zero => exact .nil
    | succ i => exact .cons r (ih i)
theorem All2.replicate {a : α} {b : β} (r : R a b) : ∀ n : Nat, All2 R (List.replicate n a) (List.replicate n b)
  | 0 => .nil
  | n + 1 => .cons r (All2.replicate r n)
end

abbrev Led := List (Addr × Obj)
abbrev adr (M : Led) : List Addr := M.map (·.1)
abbrev tupObj (ws : List Value) : Obj := { cls := .type "tuple", data := .seq ws.toArray }
abbrev lstObj (ws : List Value) (n : Nat) : Obj := { cls := .type "list", data := .seq ws.toArray n }
abbrev sv (l : List Nat) : PySem.Str := ⟨l.toArray⟩

noncomputable def TupO (o : Obj) (ws : List Value) : Prop := o.cls = .type "tuple" ∧ ∃ n, o.data = .seq ws.toArray n

/-- the model's value w is the plain value v -/
inductive Rv (T : Led) (ad : List Addr) : V → Value → Prop
  | none : Rv T ad .none .none
  | bool (b : Bool) : Rv T ad (.bool b) (.bool b)
  | int (i : Int) (t : Tok) : Rv T ad (.int i) (.int i t)
  | str (l : List Nat) (t : Tok) : Rv T ad (.str l) (.str (sv l) t)
  | tup (vs : List V) (ws : List Value) (a : Addr) (o : Obj) : (a, o) ∈ T → TupO o ws → vs.length = ws.length →
      (∀ (i : Nat) (v : V) (w : Value), vs[i]? = some v → ws[i]? = some w → Rv T ad v w) → Rv T ad (.tup vs) (.ref a)
  | loc (n : Nat) (a : Addr) : ad[n]? = some a → Rv T ad (.loc n) (.ref a)

theorem prefix_get {α : Type} {l l' : List α} (h : l <+: l') {i : Nat} {a : α} (e : l[i]? = some a) : l'[i]? = some a := by
  obtain ⟨t, rfl⟩ := h
  rw [List.getElem?_append_left (by
    rcases Nat.lt_or_ge i l.length with h | h
    · exact h
    · rw [List.getElem?_eq_none h] at e; cases e)]
  exact e

theorem Rv.mono' {T T' : Led} {ad ad' : List Addr} (hT : ∀ a o, (a, o) ∈ T → o.cls = .type "tuple" → (a, o) ∈ T') (ha : ad <+: ad') {v : V} {w : Value} (h : Rv T ad v w) : Rv T' ad' v w := by
  induction h with
  | none => exact .none
  | bool b => exact .bool b
  | int i t => exact .int i t
  | str l t => exact .str l t
  | tup vs ws a o hm ho hl _ ih => exact .tup vs ws a o (hT a o hm ho.1) ho hl ih
  | loc n a e => exact .loc n a (prefix_get ha e)
theorem Rv.mono {T T' : Led} {ad ad' : List Addr} (hT : T <+: T') (ha : ad <+: ad') {v : V} {w : Value} (h : Rv T ad v w) : Rv T' ad' v w := h.mono' (fun _ _ hm _ => hT.subset hm) ha

theorem Rv.tupOf {T : Led} {ad : List Addr} {vs : List V} {ws : List Value} {a : Addr} {o : Obj} (hm : (a, o) ∈ T) (ho : TupO o ws) (h : All2 (Rv T ad) vs ws) : Rv T ad (.tup vs) (.ref a) :=
  .tup vs ws a o hm ho h.len fun i v w e1 e2 => by
    obtain ⟨w', e3, r⟩ := h.get e1
    rw [e2] at e3; cases e3; exact r
theorem all2_of_idx {α β : Type} {R : α → β → Prop} : ∀ {vs : List α} {ws : List β}, vs.length = ws.length → (∀ (i : Nat) (v : α) (w : β), vs[i]? = some v → ws[i]? = some w → R v w) → All2 R vs ws
  | [], [], _, _ => .nil
  | [], _ :: _, e, _ => by cases e
  | _ :: _, [], e, _ => by cases e
  | v :: vs, w :: ws, e, h => .cons (h 0 v w rfl rfl) (all2_of_idx (by simpa using e) fun i v w a b => h (i + 1) v w (by simpa using a) (by simpa using b))
theorem Rv.tup_inv {T : Led} {ad : List Addr} {vs : List V} {w : Value} (h : Rv T ad (.tup vs) w) : ∃ ws a o, w = .ref a ∧ (a, o) ∈ T ∧ TupO o ws ∧ All2 (Rv T ad) vs ws := by
  cases h with
  | tup _ ws a o hm ho hl h => exact ⟨ws, a, o, rfl, hm, ho, all2_of_idx hl h⟩
theorem Rv.int_inv {T : Led} {ad : List Addr} {i : Int} {w : Value} (h : Rv T ad (.int i) w) : ∃ t, w = .int i t := by cases h; exact ⟨_, rfl⟩
theorem Rv.str_inv {T : Led} {ad : List Addr} {l : List Nat} {w : Value} (h : Rv T ad (.str l) w) : ∃ t, w = .str (sv l) t := by cases h; exact ⟨_, rfl⟩
theorem Rv.bool_inv {T : Led} {ad : List Addr} {b : Bool} {w : Value} (h : Rv T ad (.bool b) w) : w = .bool b := by cases h; rfl
theorem Rv.loc_inv {T : Led} {ad : List Addr} {n : Nat} {w : Value} (h : Rv T ad (.loc n) w) : ∃ a, w = .ref a ∧ ad[n]? = some a := by cases h with | loc _ a e => exact ⟨a, rfl, e⟩

/-- what stays through a proof: the program, the world, the written part of the heap, the top's facts -/
structure Prm where
  prog : Program
  w : World
  K : Frag
  p : Program
  lo : List PySem.Str
  mean : ExcName → Option Value
  mg : PySem.Str → Option Value
  mb : PySem.Str → Option Value
  σ : Shared

noncomputable def RO (P : Prm) (T : Led) (ad : List Addr) : Ob → Obj → Prop
  | .list vs, o => ∃ ws n, o = lstObj ws n ∧ All2 (Rv T ad) vs ws
  | .dict kvs, o => ∃ kws : List (Int × Value), o.IsDictOf (intKind P.prog P.w) kws ∧ All2 (fun (p : Int × V) (q : Int × Value) => p.1 = q.1 ∧ Rv T ad p.2 q.2) kvs kws
theorem RO.mono' {P : Prm} {T T' : Led} {ad ad' : List Addr} (hT : ∀ a o, (a, o) ∈ T → o.cls = .type "tuple" → (a, o) ∈ T') (ha : ad <+: ad') {ob : Ob} {o : Obj} (h : RO P T ad ob o) : RO P T' ad' ob o := by
  cases ob with
  | list vs =>
    obtain ⟨ws, n, e, h⟩ := h
    exact ⟨ws, n, e, h.mono fun _ _ r => r.mono' hT ha⟩
  | dict kvs =>
    obtain ⟨kws, e, h⟩ := h
    exact ⟨kws, e, h.mono fun _ _ r => ⟨r.1, r.2.mono' hT ha⟩⟩
theorem RO.mono {P : Prm} {T T' : Led} {ad ad' : List Addr} (hT : T <+: T') (ha : ad <+: ad') {ob : Ob} {o : Obj} (h : RO P T ad ob o) : RO P T' ad' ob o := h.mono' (fun _ _ hm _ => hT.subset hm) ha

/-- a def: what its frames bear -/
structure Fn where
  qual : PySem.Str
  scope : Scope
  f : Addr
  cdv : Value
  names : List PySem.Str

abbrev Fn.ev (fn : Fn) (L : Addr) : Env := envOf fn.qual fn.scope L fn.f fn.cdv

structure Fn.Ok (fn : Fn) : Prop where
  kind : fn.scope.kind = .function
  loc : ∀ x ∈ fn.names, fn.scope.names.lookup x = some .local
  nd : fn.names.Nodup
  dbg : ∀ x ∈ fn.names, (x == ("__debug__" : PySem.Str)) = false

structure Cx (P : Prm) (fn : Fn) (k : Nat) (A : Around) (h₀ : Heap) (L : Addr) : Prop where
  hh : A.handled = none
  room : A.depth + k < recursionLimit
  un : A.units + 20 * k + 100 < cLine
  gd : ∃ g, A.guards = some g ∧ g = []
  bel : ∃ A₀ base outer, Below A₀ base outer h₀ ∧ A.frames = some (fn.ev L :: outer)
  X : P.K.In h₀
  top : Top P.p P.lo P.mean P.mg P.mb h₀
  ok : fn.Ok

noncomputable def EnvR (T : Led) (ad : List Addr) (names : List PySem.Str) (env : List (Option V)) (m : PySem.Str → Option Value) : Prop :=
  ∀ (i : Nat) (x : PySem.Str) (v : V), names[i]? = some x → env[i]? = some (some v) → ∃ w, m x = some w ∧ Rv T ad v w

structure Rel (P : Prm) (fn : Fn) (h₀ : Heap) (L : Addr) (T M : Led) (st : St) (s : Shared) : Prop where
  fr : ∃ m, Fr h₀ L s.heap m ∧ EnvR T (adr M) fn.names st.env m
  el : st.env.length = fn.names.length
  nw : News h₀ L s.heap (T ++ M)
  nd : (adr M).Nodup
  tn : (adr T).Nodup
  tp : ∀ p ∈ T, p.1 ∉ adr M
  ob : All2 (fun (o : Ob) (p : Addr × Obj) => RO P T (adr M) o p.2) st.obs M
  lo : All2 (fun (o : Ob) (p : Addr × Obj) => (∃ kvs, o = .dict kvs) → (p.1 == sysModules) = false) st.obs M
  gens : s.gens = P.σ.gens
  drawn : s.drawn = P.σ.drawn
  os : s.os = P.σ.os

/-- from one state to a later one: nothing known is lost; the pinned objects stand as they stood -/
structure Grow (st st' : St) (T M T' M' : Led) : Prop where
  t : T <+: T'
  m : adr M <+: adr M'
  pin : st'.pin = st.pin
  keep : ∀ (n : Nat), n ∈ st.pin → n < M.length → M'[n]? = M[n]?
theorem Grow.refl {st st' : St} {T M : Led} (h : st'.pin = st.pin := by rfl) : Grow st st' T M T M := ⟨List.prefix_refl _, List.prefix_refl _, h, fun _ _ _ => rfl⟩
theorem Grow.trans {st st' st'' : St} {T M T' M' T'' M'' : Led} (a : Grow st st' T M T' M') (b : Grow st' st'' T' M' T'' M'') : Grow st st'' T M T'' M'' :=
  ⟨a.t.trans b.t, a.m.trans b.m, b.pin.trans a.pin, fun n h hl => (b.keep n (a.pin ▸ h) (Nat.lt_of_lt_of_le hl (by have := a.m.length_le; simpa using this))).trans (a.keep n h hl)⟩
theorem Grow.rv {st st' : St} {T M T' M' : Led} (g : Grow st st' T M T' M') {v : V} {w : Value} (h : Rv T (adr M) v w) : Rv T' (adr M') v w := h.mono g.t g.m
theorem Grow.rvs {st st' : St} {T M T' M' : Led} (g : Grow st st' T M T' M') {v : List V} {w : List Value} (h : All2 (Rv T (adr M)) v w) : All2 (Rv T' (adr M')) v w := h.mono fun _ _ r => g.rv r

theorem Grow.put {st st' st'' : St} {T M T' M' : Led} (g : Grow st st' T M T' M') {n : Nat} {p : Addr × Obj} (ea : adr (M'.set n p) = adr M') (hn : M.length ≤ n ∨ n ∉ st.pin) (h : st''.pin = st'.pin := by rfl) : Grow st st'' T M T' (M'.set n p) :=
  ⟨g.t, ea ▸ g.m, h.trans g.pin, fun i hi hl => by
    rw [List.getElem?_set_ne (fun e => by subst e; rcases hn with hn | hn; exact absurd hl (Nat.not_lt.mpr hn); exact hn hi)]
    exact g.keep i hi hl⟩

abbrev NoE : Value → Shared → Prop := fun _ _ => False

/-- the expression e does what F says -/
structure SE (P : Prm) (fn : Fn) (k : Nat) (e : Expr) (F : St → Option (V × St)) : Prop where
  h : ∀ (A : Around) (h₀ : Heap) (L : Addr), Cx P fn k A h₀ L → ∀ (T M : Led) (st : St) (s : Shared), Rel P fn h₀ L T M st s →
    ∀ (v : V) (st' : St), F st = some (v, st') → ∀ (Q : Value → Shared → Prop),
      (∀ T' M' s' x, Grow st st' T M T' M' → Rel P fn h₀ L T' M' st' s' → Rv T' (adr M') v x → Q x s') →
      wpAny (model P.prog P.w) A (eval e (fn.ev L)) Q NoE s

/-- the test e does what F says -/
structure SB (P : Prm) (fn : Fn) (k : Nat) (e : Expr) (F : St → Option (Bool × St)) : Prop where
  h : ∀ (A : Around) (h₀ : Heap) (L : Addr), Cx P fn k A h₀ L → ∀ (T M : Led) (st : St) (s : Shared), Rel P fn h₀ L T M st s →
    ∀ (v : Bool) (st' : St), F st = some (v, st') → ∀ (Q : Bool → Shared → Prop),
      (∀ T' M' s', Grow st st' T M T' M' → Rel P fn h₀ L T' M' st' s' → Q v s') →
      wpAny (model P.prog P.w) A (isTrue e (fn.ev L) (eval e (fn.ev L))) Q NoE s

/-- expressions, one behind another (a display's items, a call's arguments) -/
structure SEs (P : Prm) (fn : Fn) (k : Nat) (es : List Expr) (F : St → Option (List V × St)) : Prop where
  h : ∀ (A : Around) (h₀ : Heap) (L : Addr), Cx P fn k A h₀ L → ∀ (pos : Pos) (T M : Led) (st : St) (s : Shared), Rel P fn h₀ L T M st s →
    ∀ (vs : List V) (st' : St), F st = some (vs, st') → ∀ (Q : List Value → Shared → Prop),
      (∀ T' M' s' xs, Grow st st' T M T' M' → Rel P fn h₀ L T' M' st' s' → All2 (Rv T' (adr M')) vs xs → Q xs s') →
      wpAny (model P.prog P.w) A (spliced (backTo pos (starEach es (fn.ev L)))) Q NoE s

inductive Fl where
  | next | brk | cont | ret (v : V)

inductive RFl (T : Led) (ad : List Addr) : Fl → Flow → Prop
  | next : RFl T ad .next .next
  | brk : RFl T ad .brk .brk
  | cont : RFl T ad .cont .cont
  | ret (v : V) (w : Value) : Rv T ad v w → RFl T ad (.ret v) (.ret w)

structure S1 (P : Prm) (fn : Fn) (k : Nat) (c : Stmt) (G : St → Option (Fl × St)) : Prop where
  h : ∀ (A : Around) (h₀ : Heap) (L : Addr), Cx P fn k A h₀ L → ∀ (T M : Led) (st : St) (s : Shared), Rel P fn h₀ L T M st s →
    ∀ (fl : Fl) (st' : St), G st = some (fl, st') → ∀ (Q : Flow → Shared → Prop),
      (∀ T' M' s' x, Grow st st' T M T' M' → Rel P fn h₀ L T' M' st' s' → RFl T' (adr M') fl x → Q x s') →
      wpAny (model P.prog P.w) A (exec c (fn.ev L)) Q NoE s

structure SS (P : Prm) (fn : Fn) (k : Nat) (c : List Stmt) (G : St → Option (Fl × St)) : Prop where
  h : ∀ (A : Around) (h₀ : Heap) (L : Addr), Cx P fn k A h₀ L → ∀ (T M : Led) (st : St) (s : Shared), Rel P fn h₀ L T M st s →
    ∀ (fl : Fl) (st' : St), G st = some (fl, st') → ∀ (Q : Flow → Shared → Prop),
      (∀ T' M' s' x, Grow st st' T M T' M' → Rel P fn h₀ L T' M' st' s' → RFl T' (adr M') fl x → Q x s') →
      wpAny (model P.prog P.w) A (execs c (fn.ev L)) Q NoE s

/-- storing a value to a target -/
structure SA (P : Prm) (fn : Fn) (k : Nat) (tg : Expr) (H : V → St → Option St) : Prop where
  h : ∀ (A : Around) (h₀ : Heap) (L : Addr), Cx P fn k A h₀ L → ∀ (T M : Led) (st : St) (s : Shared), Rel P fn h₀ L T M st s →
    ∀ (v : V) (x : Value) (st' : St), Rv T (adr M) v x → H v st = some st' → ∀ (Q : Unit → Shared → Prop),
      (∀ T' M' s', Grow st st' T M T' M' → Rel P fn h₀ L T' M' st' s' → Q () s') →
      wpAny (model P.prog P.w) A (assign tg (fn.ev L) x) Q NoE s

-- the frame's map, a name stored
theorem Rel.stored {P : Prm} {fn : Fn} {h₀ : Heap} {L : Addr} {T M : Led} {st : St} {s : Shared} (R : Rel P fn h₀ L T M st s) (ok : fn.Ok) {i : Nat} {x : PySem.Str} (hx : fn.names[i]? = some x)
    {v : V} {w : Value} (hv : Rv T (adr M) v w) {m : PySem.Str → Option Value} (F : Fr h₀ L s.heap m) (E : EnvR T (adr M) fn.names st.env m) {h' : Heap} {tk : Nat}
    (F' : Fr h₀ L h' (fun y => if y = x then some w else m y)) (N' : News h₀ L h' (T ++ M)) :
    Rel P fn h₀ L T M { st with env := st.env.set i (some v) } { s with heap := h', toks := tk } where
  fr := ⟨_, F', fun j y u hy hu => by
    by_cases hji : j = i
    · subst hji
      rw [hx] at hy; cases hy
      have hlt : j < st.env.length := by
        rw [R.el]
        rcases Nat.lt_or_ge j fn.names.length with h | h
        · exact h
        · rw [List.getElem?_eq_none h] at hx; cases hx
      have hu' : (st.env.set j (some v))[j]? = some (some u) := hu
      rw [List.getElem?_set_self hlt] at hu'
      cases hu'
      exact ⟨w, by simp, hv⟩
    · have hu' : (st.env.set i (some v))[j]? = some (some u) := hu
      rw [List.getElem?_set_ne (Ne.symm hji)] at hu'
      obtain ⟨z, hz, r⟩ := E j y u hy hu'
      refine ⟨z, ?_, r⟩
      have : y ≠ x := fun e => by
        subst e
        have h1 : j < fn.names.length := by
          rcases Nat.lt_or_ge j fn.names.length with h | h
          · exact h
          · rw [List.getElem?_eq_none h] at hy; cases hy
        have h2 : i < fn.names.length := by
          rcases Nat.lt_or_ge i fn.names.length with h | h
          · exact h
          · rw [List.getElem?_eq_none h] at hx; cases hx
        rw [List.getElem?_eq_getElem h1] at hy
        rw [List.getElem?_eq_getElem h2] at hx
        exact hji ((List.getElem_inj (h₀ := h1) (h₁ := h2) ok.nd).mp ((Option.some.inj hy).trans (Option.some.inj hx).symm))
      simp [this, hz]⟩
  el := by show (st.env.set i (some v)).length = _; rw [List.length_set]; exact R.el
  nw := N'
  nd := R.nd
  tn := R.tn
  tp := R.tp
  ob := R.ob
  lo := R.lo
  gens := R.gens
  drawn := R.drawn
  os := R.os

/-- the heap turned without a change to what is known -/
theorem Rel.kept {P : Prm} {fn : Fn} {h₀ : Heap} {L : Addr} {T M : Led} {st : St} {s : Shared} (R : Rel P fn h₀ L T M st s) {h' : Heap} {tk : Nat}
    (hk : ∀ b o, s.heap.get? b = some o → h'.get? b = some o) : Rel P fn h₀ L T M st { s with heap := h', toks := tk } where
  fr := let ⟨m, F, E⟩ := R.fr; ⟨m, F.keeps hk, E⟩
  el := R.el
  nw := fun p hp => ⟨hk _ _ (R.nw p hp).1, (R.nw p hp).2⟩
  nd := R.nd
  tn := R.tn
  tp := R.tp
  ob := R.ob
  lo := R.lo
  gens := R.gens
  drawn := R.drawn
  os := R.os
theorem Rel.toks {P : Prm} {fn : Fn} {h₀ : Heap} {L : Addr} {T M : Led} {st : St} {s : Shared} (R : Rel P fn h₀ L T M st s) (tk : Nat) : Rel P fn h₀ L T M st { s with toks := tk } :=
  R.kept (h' := s.heap) fun _ _ e => e

/-- one object of the store turned -/
theorem Rel.put {P : Prm} {fn : Fn} {h₀ : Heap} {L : Addr} {T M : Led} {st : St} {s : Shared} (R : Rel P fn h₀ L T M st s) {n : Nat} {a : Addr} (ha : (adr M)[n]? = some a)
    {ob : Ob} {o : Obj} (hr : RO P T (adr M) ob o) {h' : Heap} {tk : Nat} (hs : Heap.SameBut a s.heap h') (ho : h'.get? a = some o) (hd : (∃ kvs, ob = .dict kvs) → (a == sysModules) = false) :
    Rel P fn h₀ L T (M.set n (a, o)) { st with obs := st.obs.set n ob } { s with heap := h', toks := tk } ∧ adr (M.set n (a, o)) = adr M := by
  have hM : ∃ p, M[n]? = some p ∧ p.1 = a := by
    simp only [adr, List.getElem?_map] at ha
    cases q : M[n]? with
    | none => rw [q] at ha; cases ha
    | some p => rw [q] at ha; exact ⟨p, rfl, Option.some.inj ha⟩
  obtain ⟨p, hp, hpa⟩ := hM
  have hlt : n < M.length := by
    rcases Nat.lt_or_ge n M.length with h | h
    · exact h
    · rw [List.getElem?_eq_none h] at hp; cases hp
  have ea : adr (M.set n (a, o)) = adr M := by
    show (M.set n (a, o)).map (·.1) = M.map (·.1)
    rw [List.map_set]
    apply List.ext_getElem?
    intro i
    by_cases hi : i = n
    · subst hi
      rw [List.getElem?_set_self (by simpa using hlt)]
      simp only [adr] at ha
      exact ha.symm
    · rw [List.getElem?_set_ne (Ne.symm hi)]
  have hmem : p ∈ M := List.mem_of_getElem? hp
  have N0 := R.nw p (List.mem_append_right _ hmem)
  obtain ⟨m, F, E⟩ := R.fr
  refine ⟨{ fr := ⟨m, F.change hs (hpa ▸ N0.2.1) (hpa ▸ N0.2.2), by rw [ea]; exact E⟩, el := R.el, nw := fun q hq => ?_, nd := by rw [ea]; exact R.nd, tn := R.tn, tp := by rw [ea]; exact R.tp, ob := ?_, lo := R.lo.set hd n, gens := R.gens, drawn := R.drawn, os := R.os }, ea⟩
  · rcases List.mem_append.mp hq with hq | hq
    · have hne : q.1 ≠ a := fun e => R.tp q hq (by rw [e]; exact List.mem_of_getElem? ha)
      exact ⟨(hs.2 _ hne).trans (R.nw q (List.mem_append_left _ hq)).1, (R.nw q (List.mem_append_left _ hq)).2⟩
    · obtain ⟨i, hi, rfl⟩ := List.mem_iff_getElem.mp hq
      rw [List.length_set] at hi
      rw [List.getElem_set]
      split
      · exact ⟨ho, hpa ▸ N0.2.1, hpa ▸ N0.2.2⟩
      · rename_i hni
        have hm2 : M[i] ∈ M := List.getElem_mem hi
        have h3 := R.nw _ (List.mem_append_right _ hm2)
        refine ⟨(hs.2 _ fun e => hni ?_).trans h3.1, h3.2⟩
        have e1 : (adr M)[i]'(by simpa using hi) = a := by simpa using e
        have e2 : (adr M)[n]'(by simpa using hlt) = a := by
          have := ha
          rw [List.getElem?_eq_getElem (by simpa using hlt)] at this
          exact Option.some.inj this
        exact ((List.getElem_inj R.nd).mp (e1.trans e2.symm)).symm
  · rw [ea]
    exact R.ob.set hr n

/-- a new object of the store -/
theorem Rel.made {P : Prm} {fn : Fn} {h₀ : Heap} {L : Addr} {T M : Led} {st : St} {s : Shared} (R : Rel P fn h₀ L T M st s)
    {ob : Ob} {o : Obj} (hr : RO P T (adr M) ob o) {h' : Heap} {tk : Nat} (hk : ∀ b x, s.heap.get? b = some x → h'.get? b = some x) (ho : h'.get? s.heap.objs.size = some o) (hlo : (s.heap.objs.size == sysModules) = false) :
    Rel P fn h₀ L T (M ++ [(s.heap.objs.size, o)]) { st with obs := st.obs ++ [ob] } { s with heap := h', toks := tk } := by
  have lt : ∀ p ∈ T ++ M, p.1 < s.heap.objs.size := fun p hp => Heap.lt_size (R.nw p hp).1
  have ea : adr (M ++ [(s.heap.objs.size, o)]) = adr M ++ [s.heap.objs.size] := by simp [adr]
  have pre : adr M <+: adr (M ++ [(s.heap.objs.size, o)]) := ⟨[s.heap.objs.size], ea.symm⟩
  obtain ⟨m, F, E⟩ := R.fr
  refine { fr := ⟨m, F.keeps hk, fun i x v a b => ?_⟩, el := R.el, nw := fun p hp => ?_, nd := ?_, tn := R.tn, tp := ?_, ob := ?_, lo := ?_, gens := R.gens, drawn := R.drawn, os := R.os }
  · obtain ⟨w, e, r⟩ := E i x v a b
    exact ⟨w, e, r.mono (List.prefix_refl _) pre⟩
  · rw [← List.append_assoc] at hp
    rcases List.mem_append.mp hp with hp | hp
    · exact ⟨hk _ _ (R.nw p hp).1, (R.nw p hp).2⟩
    · rw [List.mem_singleton.mp hp]
      exact ⟨ho, Nat.ne_of_gt F.ns.lt, F.fresh⟩
  · rw [ea]
    refine List.nodup_append.mpr ⟨R.nd, by simp, fun a ha b hb => ?_⟩
    rw [List.mem_singleton.mp hb]
    obtain ⟨p, hp, rfl⟩ := List.mem_map.mp ha
    exact Nat.ne_of_lt (lt p (List.mem_append_right _ hp))
  · intro p hp
    rw [ea]
    intro h
    rcases List.mem_append.mp h with h | h
    · exact R.tp p hp h
    · exact Nat.ne_of_lt (lt p (List.mem_append_left _ hp)) (List.mem_singleton.mp h)
  · exact (R.ob.mono fun _ _ r => r.mono (List.prefix_refl _) pre).app (.cons (hr.mono (List.prefix_refl _) pre) .nil)
  · exact R.lo.app (.cons (fun _ => hlo) .nil)
theorem adr_made {M : Led} {a : Addr} {o : Obj} : (adr (M ++ [(a, o)]))[M.length]? = some a := by simp [adr]
theorem grow_made {st st' : St} {T M : Led} {p : Addr × Obj} (h : st'.pin = st.pin := by rfl) : Grow st st' T M T (M ++ [p]) := ⟨List.prefix_refl _, ⟨[p.1], by simp [adr]⟩, h, fun n _ hl => List.getElem?_append_left hl⟩
theorem grow_tup {st st' : St} {T M : Led} {p : Addr × Obj} (h : st'.pin = st.pin := by rfl) : Grow st st' T M (T ++ [p]) M := ⟨List.prefix_append _ _, List.prefix_refl _, h, fun _ _ _ => rfl⟩

/-- a new tuple -/
theorem Rel.tupled {P : Prm} {fn : Fn} {h₀ : Heap} {L : Addr} {T M : Led} {st : St} {s : Shared} (R : Rel P fn h₀ L T M st s) {o : Obj}
    {h' : Heap} {tk : Nat} (hk : ∀ b x, s.heap.get? b = some x → h'.get? b = some x) (ho : h'.get? s.heap.objs.size = some o) :
    Rel P fn h₀ L (T ++ [(s.heap.objs.size, o)]) M st { s with heap := h', toks := tk } := by
  have lt : ∀ p ∈ T ++ M, p.1 < s.heap.objs.size := fun p hp => Heap.lt_size (R.nw p hp).1
  have pre : T <+: T ++ [(s.heap.objs.size, o)] := List.prefix_append _ _
  obtain ⟨m, F, E⟩ := R.fr
  refine { fr := ⟨m, F.keeps hk, fun i x v a b => ?_⟩, el := R.el, nw := fun p hp => ?_, nd := R.nd, tn := ?_, tp := ?_, ob := R.ob.mono fun _ _ r => r.mono pre (List.prefix_refl _), lo := R.lo, gens := R.gens, drawn := R.drawn, os := R.os }
  · obtain ⟨w, e, r⟩ := E i x v a b
    exact ⟨w, e, r.mono pre (List.prefix_refl _)⟩
  · rcases List.mem_append.mp hp with hp | hp
    · rcases List.mem_append.mp hp with hp | hp
      · exact ⟨hk _ _ (R.nw p (List.mem_append_left _ hp)).1, (R.nw p (List.mem_append_left _ hp)).2⟩
      · rw [List.mem_singleton.mp hp]
        exact ⟨ho, Nat.ne_of_gt F.ns.lt, F.fresh⟩
    · exact ⟨hk _ _ (R.nw p (List.mem_append_right _ hp)).1, (R.nw p (List.mem_append_right _ hp)).2⟩
  · have ea : adr (T ++ [(s.heap.objs.size, o)]) = adr T ++ [s.heap.objs.size] := by simp [adr]
    rw [ea]
    refine List.nodup_append.mpr ⟨R.tn, by simp, fun a ha b hb => ?_⟩
    rw [List.mem_singleton.mp hb]
    obtain ⟨p, hp, rfl⟩ := List.mem_map.mp ha
    exact Nat.ne_of_lt (lt p (List.mem_append_left _ hp))
  · intro p hp
    rcases List.mem_append.mp hp with hp | hp
    · exact R.tp p hp
    · rw [List.mem_singleton.mp hp]
      intro h
      obtain ⟨q, hq, e⟩ := List.mem_map.mp h
      exact Nat.ne_of_lt (lt q (List.mem_append_right _ hq)) e

end NP

namespace NP

variable {P : Prm} {fn : Fn} {k : Nat}

noncomputable def getF (i : Nat) (st : St) : Option (V × St) := match st.env[i]? with
  | some (some v) => some (v, st)
  | _ => none

theorem SE.name {x : PySem.Str} {pos : Pos} (i : Nat) (hx : fn.names[i]? = some x) : SE P fn k (.Name x pos) (getF i) := by
  constructor
  intro A h₀ L C T M st s R v st' e Q hQ
  obtain ⟨m, F, E⟩ := R.fr
  unfold getF at e
  split at e
  · rename_i u hu
    cases e
    obtain ⟨w, hw, r⟩ := E i x v hx hu
    have hm : x ∈ fn.names := List.mem_of_getElem? hx
    exact ld F hw (hQ T M s w Grow.refl R r) C.ok.kind (C.ok.loc x hm) (C.ok.dbg x hm)
  · cases e

theorem SE.int {i : Int} {kd : Nat} {pos : Pos} : SE P fn k (.Constant (.int i) kd pos) (fun st => some (.int i, st)) := by
  constructor
  intro A h₀ L C T M st s R v st' e Q hQ
  cases e
  exact fun _ _ _ => hQ T M _ _ Grow.refl (R.toks _) (.int i s.toks)
theorem SE.strC {l : List Nat} {x : PySem.Str} {kd : Nat} {pos : Pos} (hx : x = sv l) : SE P fn k (.Constant (.str x) kd pos) (fun st => some (.str l, st)) := by
  constructor
  intro A h₀ L C T M st s R v st' e Q hQ
  cases e
  subst hx
  exact fun _ _ _ => hQ T M _ _ Grow.refl (R.toks _) (.str l s.toks)
theorem SE.bool {b : Bool} {kd : Nat} {pos : Pos} : SE P fn k (.Constant (.bool b) kd pos) (fun st => some (.bool b, st)) := by
  constructor
  intro A h₀ L C T M st s R v st' e Q hQ
  cases e
  exact Constant_bool (hQ T M _ _ Grow.refl R (.bool b))

abbrev PostV (P : Prm) (fn : Fn) (h₀ : Heap) (L : Addr) (T M : Led) (st st' : St) (v : V) (Q : Value → Shared → Prop) : Prop :=
  ∀ T' M' s' x, Grow st st' T M T' M' → Rel P fn h₀ L T' M' st' s' → Rv T' (adr M') v x → Q x s'

/-- an operation upon two values -/
noncomputable def Op2 (P : Prm) (t : Value → Value → Sem Value) (f : V → V → St → Option (V × St)) : Prop :=
  ∀ (fn : Fn) (k : Nat) (A : Around) (h₀ : Heap) (L : Addr), Cx P fn k A h₀ L → ∀ (T M : Led) (st : St) (s : Shared), Rel P fn h₀ L T M st s →
    ∀ (a b : V) (x y : Value), Rv T (adr M) a x → Rv T (adr M) b y → ∀ (v : V) (st' : St), f a b st = some (v, st') →
      ∀ (Q : Value → Shared → Prop), PostV P fn h₀ L T M st st' v Q → wpAny (model P.prog P.w) A (t x y) Q NoE s

noncomputable def bin (F G : St → Option (V × St)) (f : V → V → St → Option (V × St)) (st : St) : Option (V × St) :=
  (F st).bind fun r => (G r.2).bind fun q => f r.1 q.1 q.2

theorem some_bind {α β : Type} {x : Option α} {f : α → Option β} {b : β} (h : x.bind f = some b) : ∃ a, x = some a ∧ f a = some b := by
  cases x with
  | none => cases h
  | some a => exact ⟨a, rfl, h⟩

theorem SE.binOp {a b : Expr} {op : Operator} {pos : Pos} {F G : St → Option (V × St)} {f : V → V → St → Option (V × St)}
    (hf : Op2 P (binaryOp op) f) (ha : SE P fn k a F) (hb : SE P fn k b G) : SE P fn k (.BinOp a op b pos) (bin F G f) := by
  constructor
  intro A h₀ L C T M st s R v st' e Q hQ
  obtain ⟨⟨v1, st1⟩, e1, e⟩ := some_bind e
  obtain ⟨⟨v2, st2⟩, e2, e⟩ := some_bind e
  refine wpAny_BinOp (ha.h A h₀ L C T M st s R v1 st1 e1 _ fun T1 M1 s1 x1 g1 R1 r1 => ?_)
  refine hb.h A h₀ L C T1 M1 st1 s1 R1 v2 st2 e2 _ fun T2 M2 s2 x2 g2 R2 r2 => ?_
  exact hf fn k A h₀ L C T2 M2 st2 s2 R2 v1 v2 x1 x2 (g2.rv r1) r2 v st' e Q fun T3 M3 s3 x3 g3 R3 r3 => hQ T3 M3 s3 x3 ((g1.trans g2).trans g3) R3 r3

/-- a comparison -/
noncomputable def Cmp2 (P : Prm) (op : CmpOp) (f : V → V → St → Option Bool) : Prop :=
  ∀ (fn : Fn) (k : Nat) (A : Around) (h₀ : Heap) (L : Addr), Cx P fn k A h₀ L → ∀ (T M : Led) (st : St) (s : Shared), Rel P fn h₀ L T M st s →
    ∀ (a b : V) (x y : Value), Rv T (adr M) a x → Rv T (adr M) b y → ∀ (c : Bool), f a b st = some c →
      ∀ (Q : Value → Shared → Prop), (∀ s', Rel P fn h₀ L T M st s' → Q (.bool c) s') → wpAny (model P.prog P.w) A (compareOp op x y) Q NoE s

noncomputable def cmpV (F G : St → Option (V × St)) (f : V → V → St → Option Bool) (st : St) : Option (V × St) :=
  (F st).bind fun r => (G r.2).bind fun q => (f r.1 q.1 q.2).map fun c => (.bool c, q.2)
noncomputable def cmpB (F G : St → Option (V × St)) (f : V → V → St → Option Bool) (st : St) : Option (Bool × St) :=
  (F st).bind fun r => (G r.2).bind fun q => (f r.1 q.1 q.2).map fun c => (c, q.2)

theorem some_map {α β : Type} {x : Option α} {f : α → β} {b : β} (h : x.map f = some b) : ∃ a, x = some a ∧ f a = b := by
  cases x with
  | none => cases h
  | some a => exact ⟨a, rfl, Option.some.inj h⟩

theorem SE.cmp {a b : Expr} {op : CmpOp} {pos : Pos} {F G : St → Option (V × St)} {f : V → V → St → Option Bool}
    (hf : Cmp2 P op f) (ha : SE P fn k a F) (hb : SE P fn k b G) (hm : behindInMarks op b = false) : SE P fn k (.Compare a [op] [b] pos) (cmpV F G f) := by
  constructor
  intro A h₀ L C T M st s R v st' e Q hQ
  obtain ⟨⟨v1, st1⟩, e1, e⟩ := some_bind e
  obtain ⟨⟨v2, st2⟩, e2, e⟩ := some_bind e
  obtain ⟨c, ec, e⟩ := some_map e
  cases e
  refine wpAny_Compare1 (ha.h A h₀ L C T M st s R v1 st1 e1 _ fun T1 M1 s1 x1 g1 R1 r1 => ?_) hm
  refine hb.h A h₀ L C T1 M1 st1 s1 R1 v2 _ e2 _ fun T2 M2 s2 x2 g2 R2 r2 => ?_
  exact hf fn k A h₀ L C T2 M2 _ s2 R2 v1 v2 x1 x2 (g2.rv r1) r2 c ec Q fun s3 R3 => hQ T2 M2 s3 _ (g1.trans g2) R3 (.bool c)

theorem SB.cmp {a b : Expr} {op : CmpOp} {pos : Pos} {F G : St → Option (V × St)} {f : V → V → St → Option Bool}
    (hf : Cmp2 P op f) (ha : SE P fn k a F) (hb : SE P fn k b G) (hm : behindInMarks op b = false) : SB P fn k (.Compare a [op] [b] pos) (cmpB F G f) := by
  constructor
  intro A h₀ L C T M st s R v st' e Q hQ
  obtain ⟨⟨v1, st1⟩, e1, e⟩ := some_bind e
  obtain ⟨⟨v2, st2⟩, e2, e⟩ := some_bind e
  obtain ⟨c, ec, e⟩ := some_map e
  cases e
  refine wpAny_isTrue_Compare1 (ha.h A h₀ L C T M st s R v1 st1 e1 _ fun T1 M1 s1 x1 g1 R1 r1 => ?_) hm
  refine hb.h A h₀ L C T1 M1 st1 s1 R1 v2 _ e2 _ fun T2 M2 s2 x2 g2 R2 r2 => ?_
  exact hf fn k A h₀ L C T2 M2 _ s2 R2 v1 v2 x1 x2 (g2.rv r1) r2 _ ec _ fun s3 R3 => wpAny_truthy_bool (hQ T2 M2 s3 (g1.trans g2) R3)

-- tests
noncomputable def notB (F : St → Option (Bool × St)) (st : St) : Option (Bool × St) := (F st).map fun r => (!r.1, r.2)
noncomputable def andB (F G : St → Option (Bool × St)) (st : St) : Option (Bool × St) := (F st).bind fun r => if r.1 then G r.2 else some (false, r.2)
noncomputable def orB (F G : St → Option (Bool × St)) (st : St) : Option (Bool × St) := (F st).bind fun r => if r.1 then some (true, r.2) else G r.2

theorem SB.not {a : Expr} {pos : Pos} {F : St → Option (Bool × St)} (ha : SB P fn k a F) : SB P fn k (.UnaryOp .Not a pos) (notB F) := by
  constructor
  intro A h₀ L C T M st s R v st' e Q hQ
  obtain ⟨⟨v1, st1⟩, e1, e⟩ := some_map e
  cases e
  exact isTrue_not (ha.h A h₀ L C T M st s R v1 _ e1 _ fun T1 M1 s1 g1 R1 => hQ T1 M1 s1 g1 R1)

/-- the same test with another whole: the library's rules for BoolOp keep the whole's term -/
structure SBw (P : Prm) (fn : Fn) (k : Nat) (e : Expr) (F : St → Option (Bool × St)) : Prop where
  h : ∀ (A : Around) (h₀ : Heap) (L : Addr), Cx P fn k A h₀ L → ∀ (whole : Sem Value) (T M : Led) (st : St) (s : Shared), Rel P fn h₀ L T M st s →
    ∀ (v : Bool) (st' : St), F st = some (v, st') → ∀ (Q : Bool → Shared → Prop),
      (∀ T' M' s', Grow st st' T M T' M' → Rel P fn h₀ L T' M' st' s' → Q v s') →
      wpAny (model P.prog P.w) A (isTrue e (fn.ev L) whole) Q NoE s
theorem SBw.to {e : Expr} {F : St → Option (Bool × St)} (h : SBw P fn k e F) : SB P fn k e F :=
  ⟨fun A h₀ L C T M st s R v st' e Q hQ => h.h A h₀ L C _ T M st s R v st' e Q hQ⟩

theorem SBw.and0 {pos : Pos} : SBw P fn k (.BoolOp .And [] pos) (fun st => some (true, st)) := by
  constructor
  intro A h₀ L C whole T M st s R v st' e Q hQ
  cases e
  exact isTrue_and_nil (hQ T M s Grow.refl R)
theorem SBw.or0 {pos : Pos} : SBw P fn k (.BoolOp .Or [] pos) (fun st => some (false, st)) := by
  constructor
  intro A h₀ L C whole T M st s R v st' e Q hQ
  cases e
  exact isTrue_or_nil (hQ T M s Grow.refl R)
theorem SBw.and1 {a : Expr} {rest : List Expr} {pos : Pos} {F G : St → Option (Bool × St)} (ha : SB P fn k a F) (hb : SBw P fn k (.BoolOp .And rest pos) G) : SBw P fn k (.BoolOp .And (a :: rest) pos) (andB F G) := by
  constructor
  intro A h₀ L C whole T M st s R v st' e Q hQ
  obtain ⟨⟨v1, st1⟩, e1, e⟩ := some_bind e
  refine isTrue_and (ha.h A h₀ L C T M st s R v1 st1 e1 _ fun T1 M1 s1 g1 R1 => ?_)
  cases v1 with
  | true => exact hb.h A h₀ L C _ T1 M1 st1 s1 R1 v st' e Q fun T2 M2 s2 g2 R2 => hQ T2 M2 s2 (g1.trans g2) R2
  | false => cases e; exact hQ T1 M1 s1 g1 R1
theorem SBw.or1 {a : Expr} {rest : List Expr} {pos : Pos} {F G : St → Option (Bool × St)} (ha : SB P fn k a F) (hb : SBw P fn k (.BoolOp .Or rest pos) G) : SBw P fn k (.BoolOp .Or (a :: rest) pos) (orB F G) := by
  constructor
  intro A h₀ L C whole T M st s R v st' e Q hQ
  obtain ⟨⟨v1, st1⟩, e1, e⟩ := some_bind e
  refine isTrue_or (ha.h A h₀ L C T M st s R v1 st1 e1 _ fun T1 M1 s1 g1 R1 => ?_)
  cases v1 with
  | false => exact hb.h A h₀ L C _ T1 M1 st1 s1 R1 v st' e Q fun T2 M2 s2 g2 R2 => hQ T2 M2 s2 (g1.trans g2) R2
  | true => cases e; exact hQ T1 M1 s1 g1 R1

noncomputable def truthF : V → St → Option Bool
  | .bool b, _ => some b
  | .loc i, st => match st.obs[i]? with
    | some (.dict l) => if l.length ≤ 2000 then some (!l.isEmpty) else none
    | _ => none
  | _, _ => none

theorem All2.empty {α β : Type} {R : α → β → Prop} {l : List α} {m : List β} (h : All2 R l m) : l.isEmpty = m.isEmpty := by cases h <;> rfl

theorem Rel.at {h₀ : Heap} {L : Addr} {T M : Led} {st : St} {s : Shared} (R : Rel P fn h₀ L T M st s) {i : Nat} {ob : Ob} (ho : st.obs[i]? = some ob) {a : Addr} (ha : (adr M)[i]? = some a) :
    ∃ o, M[i]? = some (a, o) ∧ s.heap.get? a = some o ∧ RO P T (adr M) ob o := by
  obtain ⟨p, hp, r⟩ := R.ob.get ho
  have : (adr M)[i]? = some p.1 := by simp [adr, hp]
  rw [ha] at this
  cases this
  exact ⟨p.2, hp, (R.nw p (List.mem_append_right _ (List.mem_of_getElem? hp))).1, r⟩

theorem Rel.loAt {h₀ : Heap} {L : Addr} {T M : Led} {st : St} {s : Shared} (R : Rel P fn h₀ L T M st s) {i : Nat} {kvs : List (Int × V)} (ho : st.obs[i]? = some (.dict kvs)) {a : Addr} (ha : (adr M)[i]? = some a) : (a == sysModules) = false := by
  obtain ⟨p, hp, r⟩ := R.lo.get ho
  have : (adr M)[i]? = some p.1 := by simp [adr, hp]
  rw [ha] at this
  cases this
  exact r ⟨_, rfl⟩
theorem wp_truth {A : Around} {h₀ : Heap} {L : Addr} {T M : Led} {st : St} {s : Shared} (R : Rel P fn h₀ L T M st s) {v : V} {x : Value} (r : Rv T (adr M) v x) {c : Bool} (e : truthF v st = some c)
    {Q : Bool → Shared → Prop} (hQ : ∀ s', Rel P fn h₀ L T M st s' → Q c s') : wpAny (model P.prog P.w) A (truthy x) Q NoE s := by
  cases v with
  | bool b => cases e; rw [r.bool_inv]; exact wpAny_truthy_bool (hQ s R)
  | loc i =>
    obtain ⟨a, rfl, ha⟩ := r.loc_inv
    simp only [truthF] at e
    split at e
    · rename_i l ho
      split at e
      · rename_i hl
        cases e
        obtain ⟨o, _, hg, kws, hd, h2⟩ := R.at ho ha
        have hlo := R.loAt ho ha
        refine wpAny_truthy_dict (knd := intKind P.prog P.w) hlo (Heap.dictOf_iff.mpr ⟨o, hg, hd⟩) (by have := h2.len; omega) ?_
        rw [← h2.empty]
        exact hQ _ (R.toks _)
      · cases e
    · cases e
  | _ => cases e

noncomputable def truB (F : St → Option (V × St)) (st : St) : Option (Bool × St) := (F st).bind fun r => (truthF r.1 r.2).map fun c => (c, r.2)
theorem SB.plain {a : Expr} {F : St → Option (V × St)} (ha : SE P fn k a F) (he : ∀ L : Addr, isTrue a (fn.ev L) (eval a (fn.ev L)) = (do let v ← eval a (fn.ev L); standAt a.pos; holding [v] (truthy v))) : SB P fn k a (truB F) := by
  constructor
  intro A h₀ L C T M st s R v st' e Q hQ
  obtain ⟨⟨v1, st1⟩, e1, e⟩ := some_bind e
  obtain ⟨c, ec, e⟩ := some_map e
  cases e
  exact isTrue_plain (ha.h A h₀ L C T M st s R v1 _ e1 _ fun T1 M1 s1 x g1 R1 r1 => wp_truth R1 r1 ec fun s2 R2 => hQ T1 M1 s2 g1 R2) (he L)

-- values of and, or, not, if
noncomputable def notV (F : St → Option (V × St)) (st : St) : Option (V × St) := (F st).bind fun r => (truthF r.1 r.2).map fun c => (.bool (!c), r.2)
theorem SE.not {a : Expr} {pos : Pos} {F : St → Option (V × St)} (ha : SE P fn k a F) : SE P fn k (.UnaryOp .Not a pos) (notV F) := by
  constructor
  intro A h₀ L C T M st s R v st' e Q hQ
  obtain ⟨⟨v1, st1⟩, e1, e⟩ := some_bind e
  obtain ⟨c, ec, e⟩ := some_map e
  cases e
  exact UnaryOp_ (ha.h A h₀ L C T M st s R v1 _ e1 _ fun T1 M1 s1 x g1 R1 r1 => not_of (wp_truth R1 r1 ec fun s2 R2 => hQ T1 M1 s2 _ g1 R2 (.bool _)))
noncomputable def negF : V → Option V
  | .int i => some (.int (-i))
  | _ => none
noncomputable def negV (F : St → Option (V × St)) (st : St) : Option (V × St) := (F st).bind fun r => (negF r.1).map fun c => (c, r.2)
theorem SE.neg {a : Expr} {pos : Pos} {F : St → Option (V × St)} (ha : SE P fn k a F) : SE P fn k (.UnaryOp .USub a pos) (negV F) := by
  constructor
  intro A h₀ L C T M st s R v st' e Q hQ
  obtain ⟨⟨v1, st1⟩, e1, e⟩ := some_bind e
  obtain ⟨c, ec, e⟩ := some_map e
  cases e
  refine UnaryOp_ (ha.h A h₀ L C T M st s R v1 _ e1 _ fun T1 M1 s1 x g1 R1 r1 => ?_)
  cases v1 with
  | int i =>
    cases ec
    obtain ⟨t, rfl⟩ := r1.int_inv
    exact neg_int (hQ T1 M1 _ _ g1 (R1.toks _) (.int _ _))
  | _ => cases ec

noncomputable def andV (F G : St → Option (V × St)) (st : St) : Option (V × St) := (F st).bind fun r => (truthF r.1 r.2).bind fun c => if c then G r.2 else some r
noncomputable def orV (F G : St → Option (V × St)) (st : St) : Option (V × St) := (F st).bind fun r => (truthF r.1 r.2).bind fun c => if c then some r else G r.2
theorem SE.boolOne {a : Expr} {op : BoolOp} {pos : Pos} {F : St → Option (V × St)} (ha : SE P fn k a F) : SE P fn k (.BoolOp op [a] pos) F :=
  ⟨fun A h₀ L C T M st s R v st' e Q hQ => BoolOp_one (ha.h A h₀ L C T M st s R v st' e Q hQ)⟩
theorem SE.and {a b : Expr} {rest : List Expr} {pos : Pos} {F G : St → Option (V × St)} (ha : SE P fn k a F) (hb : SE P fn k (.BoolOp .And (b :: rest) pos) G) : SE P fn k (.BoolOp .And (a :: b :: rest) pos) (andV F G) := by
  constructor
  intro A h₀ L C T M st s R v st' e Q hQ
  obtain ⟨⟨v1, st1⟩, e1, e⟩ := some_bind e
  obtain ⟨c, ec, e⟩ := some_bind e
  refine BoolOp_and (ha.h A h₀ L C T M st s R v1 _ e1 _ fun T1 M1 s1 x g1 R1 r1 => wp_truth R1 r1 ec fun s2 R2 => ?_)
  cases c with
  | true => exact hb.h A h₀ L C T1 M1 _ s2 R2 v st' e Q fun T3 M3 s3 x3 g3 R3 r3 => hQ T3 M3 s3 x3 (g1.trans g3) R3 r3
  | false => cases e; exact hQ T1 M1 s2 x g1 R2 r1
theorem SE.or {a b : Expr} {rest : List Expr} {pos : Pos} {F G : St → Option (V × St)} (ha : SE P fn k a F) (hb : SE P fn k (.BoolOp .Or (b :: rest) pos) G) : SE P fn k (.BoolOp .Or (a :: b :: rest) pos) (orV F G) := by
  constructor
  intro A h₀ L C T M st s R v st' e Q hQ
  obtain ⟨⟨v1, st1⟩, e1, e⟩ := some_bind e
  obtain ⟨c, ec, e⟩ := some_bind e
  refine BoolOp_or (ha.h A h₀ L C T M st s R v1 _ e1 _ fun T1 M1 s1 x g1 R1 r1 => wp_truth R1 r1 ec fun s2 R2 => ?_)
  cases c with
  | false => exact hb.h A h₀ L C T1 M1 _ s2 R2 v st' e Q fun T3 M3 s3 x3 g3 R3 r3 => hQ T3 M3 s3 x3 (g1.trans g3) R3 r3
  | true => cases e; exact hQ T1 M1 s2 x g1 R2 r1
noncomputable def iteV (B : St → Option (Bool × St)) (F G : St → Option (V × St)) (st : St) : Option (V × St) := (B st).bind fun r => if r.1 then F r.2 else G r.2
theorem SE.ite {t a b : Expr} {pos : Pos} {B : St → Option (Bool × St)} {F G : St → Option (V × St)} (ht : SB P fn k t B) (ha : SE P fn k a F) (hb : SE P fn k b G) : SE P fn k (.IfExp t a b pos) (iteV B F G) := by
  constructor
  intro A h₀ L C T M st s R v st' e Q hQ
  obtain ⟨⟨c, st1⟩, e1, e⟩ := some_bind e
  refine IfExp_ (ht.h A h₀ L C T M st s R c _ e1 _ fun T1 M1 s1 g1 R1 => ?_)
  cases c with
  | true => exact ha.h A h₀ L C T1 M1 _ s1 R1 v st' e Q fun T3 M3 s3 x3 g3 R3 r3 => hQ T3 M3 s3 x3 (g1.trans g3) R3 r3
  | false => exact hb.h A h₀ L C T1 M1 _ s1 R1 v st' e Q fun T3 M3 s3 x3 g3 R3 r3 => hQ T3 M3 s3 x3 (g1.trans g3) R3 r3

-- several
theorem SEs.nil : SEs P fn k [] (fun st => some ([], st)) := by
  constructor
  intro A h₀ L C pos T M st s R v st' e Q hQ
  cases e
  exact args_nil (hQ T M s [] Grow.refl R .nil)
noncomputable def consF (F : St → Option (V × St)) (G : St → Option (List V × St)) (st : St) : Option (List V × St) := (F st).bind fun r => (G r.2).map fun q => (r.1 :: q.1, q.2)
theorem SEs.cons {e : Expr} {rest : List Expr} {F : St → Option (V × St)} {G : St → Option (List V × St)} (ha : SE P fn k e F) (hb : SEs P fn k rest G)
    (he : ∀ L : Addr, starEach (e :: rest) (fn.ev L) = (false, eval e (fn.ev L)) :: starEach rest (fn.ev L)) : SEs P fn k (e :: rest) (consF F G) := by
  constructor
  intro A h₀ L C pos T M st s R v st' e Q hQ
  obtain ⟨⟨v1, st1⟩, e1, e⟩ := some_bind e
  obtain ⟨⟨v2, st2⟩, e2, e⟩ := some_map e
  cases e
  refine args_cons (ha.h A h₀ L C T M st s R v1 st1 e1 _ fun T1 M1 s1 x1 g1 R1 r1 => ?_) (he L)
  exact hb.h A h₀ L C pos T1 M1 st1 s1 R1 v2 _ e2 _ fun T2 M2 s2 xs g2 R2 r2 => hQ T2 M2 s2 _ (g1.trans g2) R2 (.cons (g2.rv r1) r2)

theorem get_push_size {h : Heap} {o : Obj} (hf : o.isFreed = false := by rfl) : (h.push o).get? h.objs.size = some o := Heap.get?_push_size _ hf

noncomputable def tupF (F : St → Option (List V × St)) (st : St) : Option (V × St) := (F st).bind fun r => if r.1.length ≤ 1000 then some (.tup r.1, r.2) else none
theorem SE.tuple {es : List Expr} {kd : Nat} {pos : Pos} {F : St → Option (List V × St)} (h : SEs P fn k es F) : SE P fn k (.Tuple es kd pos) (tupF F) := by
  constructor
  intro A h₀ L C T M st s R v st' e Q hQ
  obtain ⟨⟨vs, st1⟩, e1, e⟩ := some_bind e
  split at e
  · rename_i hl
    cases e
    refine Tuple_ (h.h A h₀ L C pos T M st s R vs _ e1 _ fun T1 M1 s1 xs g1 R1 r1 => ?_)
    have hl' : xs.length ≤ sizeLine := by rw [← r1.len, sizeLine_eq]; exact Nat.le_trans hl (by decide)
    refine wpAny_newObj_type ?_ (by show xs.toArray.size ≤ sizeLine; rw [List.size_toArray]; exact hl')
    have R2 := R1.tupled (tk := s1.toks) (o := tupObj xs) (h' := s1.heap.push (tupObj xs)) (fun b x e => Heap.get?_push_of_some _ e) get_push_size
    have g2 : Grow st1 st1 T1 M1 (T1 ++ [(s1.heap.objs.size, tupObj xs)]) M1 := grow_tup
    exact hQ _ _ _ _ (g1.trans g2) R2 (Rv.tupOf (List.mem_append_right _ (.head _)) ⟨rfl, 0, rfl⟩ (g2.rvs r1))
  · cases e

theorem Cx.size {A : Around} {h₀ : Heap} {L : Addr} (C : Cx P fn k A h₀ L) {T M : Led} {st : St} {s : Shared} (R : Rel P fn h₀ L T M st s) : (s.heap.objs.size == sysModules) = false :=
  let ⟨m, F, _⟩ := R.fr; F.notModules (modules_low C.top.nolimit)

theorem wp_newList {A : Around} {h₀ : Heap} {L : Addr} (C : Cx P fn k A h₀ L) {T M : Led} {st : St} {s : Shared} (R : Rel P fn h₀ L T M st s) {vs : List V} {xs : List Value} (r : All2 (Rv T (adr M)) vs xs) (hl : vs.length ≤ 2000)
    {Q : Value → Shared → Prop} (hQ : PostV P fn h₀ L T M st { st with obs := st.obs ++ [.list vs] } (.loc st.obs.length) Q) : wpAny (model P.prog P.w) A (newList xs) Q NoE s := by
  have hl' : xs.length ≤ sizeLine := by rw [← r.len, sizeLine_eq]; exact Nat.le_trans hl (by decide)
  refine wpAny_newObj_type ?_ (by show xs.toArray.size ≤ sizeLine; rw [List.size_toArray]; exact hl')
  have R2 := R.made (tk := s.toks) (ob := .list vs) (o := lstObj xs 0) (h' := s.heap.push (lstObj xs 0)) ⟨xs, 0, rfl, r⟩ (fun b x e => Heap.get?_push_of_some _ e) get_push_size (C.size R)
  exact hQ _ _ _ _ grow_made R2 (.loc _ _ (by rw [R.ob.len]; exact adr_made))

noncomputable def lstF (F : St → Option (List V × St)) (st : St) : Option (V × St) := (F st).bind fun r => if r.1.length ≤ 1000 then some (.loc r.2.obs.length, { r.2 with obs := r.2.obs ++ [.list r.1] }) else none
theorem SE.list {es : List Expr} {pos : Pos} {F : St → Option (List V × St)} (h : SEs P fn k es F) : SE P fn k (.List es pos) (lstF F) := by
  constructor
  intro A h₀ L C T M st s R v st' e Q hQ
  obtain ⟨⟨vs, st1⟩, e1, e⟩ := some_bind e
  split at e
  · rename_i hl
    cases e
    refine List_ (h.h A h₀ L C pos T M st s R vs _ e1 _ fun T1 M1 s1 xs g1 R1 r1 => ?_)
    exact wp_newList C R1 r1 (Nat.le_trans hl (by decide)) fun T2 M2 s2 x g2 R2 r2 => hQ _ _ _ _ (g1.trans g2) R2 r2
  · cases e

-- what a value is, what a list holds
noncomputable def strO : V → Option (List Nat)
  | .str x => some x
  | _ => none
noncomputable def intO : V → Option Int
  | .int x => some x
  | _ => none
noncomputable def boolO : V → Option Bool
  | .bool x => some x
  | _ => none
noncomputable def locO : V → Option Nat
  | .loc x => some x
  | _ => none
noncomputable def tupO : V → Option (List V)
  | .tup x => some x
  | _ => none
noncomputable def oneO (l : List V) : Option V := match l with
  | [a] => some a
  | _ => none
noncomputable def twoO (l : List V) : Option (V × V) := match l with
  | [a, b] => some (a, b)
  | _ => none
noncomputable def thrO (l : List V) : Option (V × V × V) := match l with
  | [a, b, c] => some (a, b, c)
  | _ => none
theorem strO_inv {v : V} {x : List Nat} (e : strO v = some x) : v = .str x := by cases v <;> first | (cases e; done) | (cases e; rfl)
theorem intO_inv {v : V} {x : Int} (e : intO v = some x) : v = .int x := by cases v <;> first | (cases e; done) | (cases e; rfl)
theorem boolO_inv {v : V} {x : Bool} (e : boolO v = some x) : v = .bool x := by cases v <;> first | (cases e; done) | (cases e; rfl)
theorem locO_inv {v : V} {x : Nat} (e : locO v = some x) : v = .loc x := by cases v <;> first | (cases e; done) | (cases e; rfl)
theorem tupO_inv {v : V} {x : List V} (e : tupO v = some x) : v = .tup x := by cases v <;> first | (cases e; done) | (cases e; rfl)
theorem oneO_inv {l : List V} {a : V} (e : oneO l = some a) : l = [a] := by
  unfold oneO at e; split at e <;> cases e; rfl
theorem twoO_inv {l : List V} {r : V × V} (e : twoO l = some r) : l = [r.1, r.2] := by
  unfold twoO at e; split at e <;> cases e; rfl
theorem thrO_inv {l : List V} {r : V × V × V} (e : thrO l = some r) : l = [r.1, r.2.1, r.2.2] := by
  unfold thrO at e; split at e <;> cases e; rfl

-- operations
noncomputable def addF : V → V → St → Option (V × St)
  | .int a, .int b, st => some (.int (a + b), st)
  | .str a, .str b, st => if a.length + b.length ≤ 2000 then some (.str (a ++ b), st) else none
  | _, _, _ => none
theorem sv_app (a b : List Nat) : sv a ++ sv b = sv (a ++ b) := by
  show PySem.Str.append (sv a) (sv b) = _
  simp [PySem.Str.append, sv]
theorem sv_len (a : List Nat) : (sv a).length = a.length := by simp [PySem.Str.length, sv]
theorem op_add : Op2 P (binaryOp .Add) addF := by
  intro fn k A h₀ L C T M st s R a b x y ra rb v st' e Q hQ
  cases a <;> first | (cases e; done) | (cases b <;> first | (cases e; done) | skip)
  · rename_i a b
    cases e
    obtain ⟨t, rfl⟩ := ra.int_inv
    obtain ⟨u, rfl⟩ := rb.int_inv
    exact add_int (hQ T M _ _ Grow.refl (R.toks _) (.int _ _))
  · rename_i a b
    simp only [addF] at e
    split at e
    · rename_i hl
      cases e
      obtain ⟨t, rfl⟩ := ra.str_inv
      obtain ⟨u, rfl⟩ := rb.str_inv
      refine SBL.add (fun t' k' _ => ?_) (by rw [sv_len, sv_len, sizeLine_eq]; omega)
      rw [sv_app]
      exact hQ T M _ _ Grow.refl (R.toks _) (.str _ _)
    · cases e
theorem op_iadd : Op2 P (inplaceOp .Add) addF := by
  intro fn k A h₀ L C T M st s R a b x y ra rb v st' e Q hQ
  cases a <;> first | (cases e; done) | (cases b <;> first | (cases e; done) | skip)
  · rename_i a b
    cases e
    obtain ⟨t, rfl⟩ := ra.int_inv
    obtain ⟨u, rfl⟩ := rb.int_inv
    exact iadd_int (hQ T M _ _ Grow.refl (R.toks _) (.int _ _))
  · rename_i a b
    simp only [addF] at e
    split at e
    · rename_i hl
      cases e
      obtain ⟨t, rfl⟩ := ra.str_inv
      obtain ⟨u, rfl⟩ := rb.str_inv
      refine iadd_str (fun t' k' => ?_) (by rw [sv_len, sv_len, sizeLine_eq]; omega)
      rw [sv_app]
      exact hQ T M _ _ Grow.refl (R.toks _) (.str _ _)
    · cases e
noncomputable def subF : V → V → St → Option (V × St)
  | .int a, .int b, st => some (.int (a - b), st)
  | _, _, _ => none
theorem op_sub : Op2 P (binaryOp .Sub) subF := by
  intro fn k A h₀ L C T M st s R a b x y ra rb v st' e Q hQ
  cases a <;> first | (cases e; done) | (cases b <;> first | (cases e; done) | skip)
  cases e
  obtain ⟨t, rfl⟩ := ra.int_inv
  obtain ⟨u, rfl⟩ := rb.int_inv
  exact sub_int (hQ T M _ _ Grow.refl (R.toks _) (.int _ _))
noncomputable def modF : V → V → St → Option (V × St)
  | .int a, .int b, st => if b = 0 then none else some (.int (a.fmod b), st)
  | _, _, _ => none
theorem op_mod : Op2 P (binaryOp .Mod) modF := by
  intro fn k A h₀ L C T M st s R a b x y ra rb v st' e Q hQ
  cases a <;> first | (cases e; done) | (cases b <;> first | (cases e; done) | skip)
  simp only [modF] at e
  split at e
  · cases e
  · rename_i hb
    cases e
    obtain ⟨t, rfl⟩ := ra.int_inv
    obtain ⟨u, rfl⟩ := rb.int_inv
    exact mod_int' hb (hQ T M _ _ Grow.refl (R.toks _) (.int _ _))

-- comparisons
noncomputable def eqF : V → V → St → Option Bool
  | .int a, .int b, _ => some (a == b)
  | .str a, .str b, _ => some (a == b)
  | .bool a, .bool b, _ => some (a == b)
  | _, _, _ => none
noncomputable def neF : V → V → St → Option Bool
  | .int a, .int b, _ => some (a != b)
  | .str a, .str b, _ => some (a != b)
  | .bool a, .bool b, _ => some (a != b)
  | _, _, _ => none
noncomputable def ltF : V → V → St → Option Bool
  | .int a, .int b, _ => some (decide (a < b))
  | _, _, _ => none
noncomputable def leF : V → V → St → Option Bool
  | .int a, .int b, _ => some (decide (a ≤ b))
  | .str a, .str b, _ => some (!decide (b < a))
  | _, _, _ => none
noncomputable def geF : V → V → St → Option Bool
  | .int a, .int b, _ => some (decide (b ≤ a))
  | _, _, _ => none
theorem sv_beq (a b : List Nat) : (sv a == sv b) = (a == b) := by
  rw [Bool.eq_iff_iff, beq_iff_eq, beq_iff_eq]
  constructor
  · intro h; have := congrArg PySem.Str.cps h; simpa using this
  · intro h; rw [h]
theorem op_eq : Cmp2 P .Eq eqF := by
  intro fn k A h₀ L C T M st s R a b x y ra rb c e Q hQ
  cases a <;> first | (cases e; done) | (cases b <;> first | (cases e; done) | skip)
  · cases e
    rw [ra.bool_inv, rb.bool_inv]
    exact eq_bool (hQ s R)
  · cases e
    obtain ⟨t, rfl⟩ := ra.int_inv
    obtain ⟨u, rfl⟩ := rb.int_inv
    exact eq_int (hQ s R)
  · cases e
    obtain ⟨t, rfl⟩ := ra.str_inv
    obtain ⟨u, rfl⟩ := rb.str_inv
    refine eq_str ?_
    rw [sv_beq]
    exact hQ s R
theorem op_ne : Cmp2 P .NotEq neF := by
  intro fn k A h₀ L C T M st s R a b x y ra rb c e Q hQ
  cases a <;> first | (cases e; done) | (cases b <;> first | (cases e; done) | skip)
  · cases e
    rw [ra.bool_inv, rb.bool_inv]
    exact ne_bool (hQ s R)
  · cases e
    obtain ⟨t, rfl⟩ := ra.int_inv
    obtain ⟨u, rfl⟩ := rb.int_inv
    exact ne_int (hQ s R)
  · cases e
    obtain ⟨t, rfl⟩ := ra.str_inv
    obtain ⟨u, rfl⟩ := rb.str_inv
    refine ne_str ?_
    unfold bne
    rw [sv_beq]
    exact hQ s R
theorem op_lt : Cmp2 P .Lt ltF := by
  intro fn k A h₀ L C T M st s R a b x y ra rb c e Q hQ
  cases a <;> first | (cases e; done) | (cases b <;> first | (cases e; done) | skip)
  cases e
  obtain ⟨t, rfl⟩ := ra.int_inv
  obtain ⟨u, rfl⟩ := rb.int_inv
  exact lt_int (hQ s R)
theorem op_ge : Cmp2 P .GtE geF := by
  intro fn k A h₀ L C T M st s R a b x y ra rb c e Q hQ
  cases a <;> first | (cases e; done) | (cases b <;> first | (cases e; done) | skip)
  cases e
  obtain ⟨t, rfl⟩ := ra.int_inv
  obtain ⟨u, rfl⟩ := rb.int_inv
  exact ge_int (hQ s R)
theorem op_le : Cmp2 P .LtE leF := by
  intro fn k A h₀ L C T M st s R a b x y ra rb c e Q hQ
  cases a <;> first | (cases e; done) | (cases b <;> first | (cases e; done) | skip)
  · cases e
    obtain ⟨t, rfl⟩ := ra.int_inv
    obtain ⟨u, rfl⟩ := rb.int_inv
    exact le_int (hQ s R)
  · cases e
    obtain ⟨t, rfl⟩ := ra.str_inv
    obtain ⟨u, rfl⟩ := rb.str_inv
    exact PySem.P.le_str (hQ s R)
end NP

namespace NP

variable {P : Prm} {fn : Fn} {k : Nat}

theorem Rel.again {h₀ : Heap} {L : Addr} {T M : Led} {st : St} {s : Shared} (R : Rel P fn h₀ L T M st s) {m : PySem.Str → Option Value} (E : EnvR T (adr M) fn.names st.env m)
    {h' : Heap} {tk : Nat} (F' : Fr h₀ L h' m) (N' : News h₀ L h' (T ++ M)) : Rel P fn h₀ L T M st { s with heap := h', toks := tk } where
  fr := ⟨m, F', E⟩
  el := R.el
  nw := N'
  nd := R.nd
  tn := R.tn
  tp := R.tp
  ob := R.ob
  lo := R.lo
  gens := R.gens
  drawn := R.drawn
  os := R.os

theorem Rel.isList {h₀ : Heap} {L : Addr} {T M : Led} {st : St} {s : Shared} (R : Rel P fn h₀ L T M st s) {i : Nat} {vs : List V} (ho : st.obs[i]? = some (.list vs)) {a : Addr} (ha : (adr M)[i]? = some a) :
    ∃ ws n, M[i]? = some (a, lstObj ws n) ∧ s.heap.get? a = some (lstObj ws n) ∧ s.heap.IsList a ws.toArray ∧ All2 (Rv T (adr M)) vs ws := by
  obtain ⟨o, hM, hg, ws, n, rfl, h2⟩ := R.at ho ha
  exact ⟨ws, n, hM, hg, ⟨_, hg, rfl, n, rfl⟩, h2⟩
theorem Rel.isDict {h₀ : Heap} {L : Addr} {T M : Led} {st : St} {s : Shared} (R : Rel P fn h₀ L T M st s) {i : Nat} {kvs : List (Int × V)} (ho : st.obs[i]? = some (.dict kvs)) {a : Addr} (ha : (adr M)[i]? = some a) :
    ∃ kws, s.heap.DictOf (intKind P.prog P.w) a kws ∧ All2 (fun (p : Int × V) (q : Int × Value) => p.1 = q.1 ∧ Rv T (adr M) p.2 q.2) kvs kws ∧ (a == sysModules) = false := by
  obtain ⟨o, hM, hg, kws, hd, h2⟩ := R.at ho ha
  exact ⟨kws, Heap.dictOf_iff.mpr ⟨o, hg, hd⟩, h2, R.loAt ho ha⟩
theorem Rel.isTup {h₀ : Heap} {L : Addr} {T M : Led} {st : St} {s : Shared} (R : Rel P fn h₀ L T M st s) {vs : List V} {x : Value} (r : Rv T (adr M) (.tup vs) x) :
    ∃ ws a o, x = .ref a ∧ (a, o) ∈ T ∧ TupO o ws ∧ IsTup s.heap a ws.toArray ∧ All2 (Rv T (adr M)) vs ws := by
  obtain ⟨ws, a, o, rfl, hm, ho, h2⟩ := r.tup_inv
  have hg := (R.nw _ (List.mem_append_left _ hm)).1
  exact ⟨ws, a, o, rfl, hm, ho, ⟨_, hg, ho⟩, h2⟩

-- an item
noncomputable def dget (kvs : List (Int × V)) (i : Int) : Option V := (kvs.find? fun kv => kv.1 = i).map (·.2)
theorem All2.dget {T : Led} {ad : List Addr} {kvs : List (Int × V)} {kws : List (Int × Value)} (h : All2 (fun (p : Int × V) (q : Int × Value) => p.1 = q.1 ∧ Rv T ad p.2 q.2) kvs kws) (i : Int) :
    (NP.dget kvs i).isSome = (valueAt kws i).isSome ∧ ∀ v, NP.dget kvs i = some v → ∃ w, valueAt kws i = some w ∧ Rv T ad v w := by
  induction h with
  | nil => exact ⟨rfl, fun v e => by cases e⟩
  | cons r _ ih =>
    rename_i p q l m _
    by_cases hp : p.1 = i
    · have hq : q.1 = i := r.1 ▸ hp
      simp only [NP.dget, valueAt, List.find?_cons, hp, hq, decide_true, Option.map_some, Option.isSome_some, true_and]
      intro v e
      cases e
      exact ⟨_, rfl, r.2⟩
    · have hq : ¬ q.1 = i := r.1 ▸ hp
      simp only [NP.dget, valueAt, List.find?_cons, hp, hq, decide_false] at ih ⊢
      exact ih

noncomputable def inR (i : Int) : Bool := decide (0 ≤ i) && decide (i ≤ 2000)
theorem inR.lo {i : Int} (h : inR i = true) : 0 ≤ i ∧ i ≤ 2000 := by simpa [inR] using h
noncomputable def itemF : V → V → St → Option (V × St)
  | .str l, .int i, st => if inR i then (l[i.toNat]?).map fun c => (.str [c], st) else none
  | .tup vs, .int i, st => if inR i then (vs[i.toNat]?).map fun v => (v, st) else none
  | .loc n, .int i, st => match st.obs[n]? with
    | some (.list vs) => if inR i then (vs[i.toNat]?).map fun v => (v, st) else none
    | some (.dict kvs) => (dget kvs i).map fun v => (v, st)
    | none => none
  | _, _, _ => none

theorem seqIdx {i : Int} {n : Nat} (h0 : 0 ≤ i) (h : i.toNat < n) : seqIndex? i n = some i.toNat := by
  unfold seqIndex?
  have h1 : ¬ i < 0 := by omega
  simp only [h1, if_false]
  rw [if_pos]
  simp only [Bool.and_eq_true, decide_eq_true_eq]
  omega

theorem itemF_inv {a b v : V} {st st' : St} (e : itemF a b st = some (v, st')) : st' = st ∧ ∃ i, b = .int i ∧ ((∃ l c, a = .str l ∧ v = .str [c] ∧ inR i = true ∧ l[i.toNat]? = some c) ∨ (∃ vs, a = .tup vs ∧ inR i = true ∧ vs[i.toNat]? = some v) ∨
    (∃ n vs, a = .loc n ∧ st.obs[n]? = some (.list vs) ∧ inR i = true ∧ vs[i.toNat]? = some v) ∨ (∃ n kvs, a = .loc n ∧ st.obs[n]? = some (.dict kvs) ∧ dget kvs i = some v)) := by
  unfold itemF at e
  split at e
  · split at e
    · obtain ⟨c, h, e⟩ := some_map e; cases e; exact ⟨rfl, _, rfl, .inl ⟨_, _, rfl, rfl, by assumption, h⟩⟩
    · cases e
  · split at e
    · obtain ⟨c, h, e⟩ := some_map e; cases e; exact ⟨rfl, _, rfl, .inr (.inl ⟨_, rfl, by assumption, h⟩)⟩
    · cases e
  · split at e
    · split at e
      · obtain ⟨c, h, e⟩ := some_map e; cases e; exact ⟨rfl, _, rfl, .inr (.inr (.inl ⟨_, _, rfl, by assumption, by assumption, h⟩))⟩
      · cases e
    · obtain ⟨c, h, e⟩ := some_map e; cases e; exact ⟨rfl, _, rfl, .inr (.inr (.inr ⟨_, _, rfl, by assumption, h⟩))⟩
    · cases e
  · cases e

theorem SE.item {a b : Expr} {pos : Pos} {F G : St → Option (V × St)} (ha : SE P fn k a F) (hb : SE P fn k b G)
    (hs : ∀ o i, ∃ ops, subscripted b false o i = operate ops (getItem o i)) : SE P fn k (.Subscript a b pos) (bin F G itemF) := by
  constructor
  intro A h₀ L C T M st s R v st' e Q hQ
  obtain ⟨⟨v1, st1⟩, e1, e⟩ := some_bind e
  obtain ⟨⟨v2, st2⟩, e2, e⟩ := some_bind e
  refine Subscript_ (ha.h A h₀ L C T M st s R v1 st1 e1 _ fun T1 M1 s1 x1 g1 R1 r1 => ?_)
  refine hb.h A h₀ L C T1 M1 st1 s1 R1 v2 st2 e2 _ fun T2 M2 s2 x2 g2 R2 r2 => ?_
  have r1 := g2.rv r1
  obtain ⟨rfl, i, rfl, e⟩ := itemF_inv e
  have hQ' := fun s3 x3 R3 r3 => hQ T2 M2 s3 x3 (g1.trans g2) R3 r3
  clear hQ
  obtain ⟨ops, hs⟩ := hs x1 x2
  obtain ⟨u, rfl⟩ := r2.int_inv
  rcases e with ⟨l, c, rfl, rfl, hi, ec⟩ | ⟨vs, rfl, hi, ec⟩ | ⟨n, vs, rfl, ho, hi, ec⟩ | ⟨n, kvs, rfl, ho, ec⟩
  · have hi := inR.lo hi
    obtain ⟨t, rfl⟩ := r1.str_inv
    have hlt := place_lt ec
    refine tail_any (typeIs_str _ _ _) PySem.F.slot_str_getitem.lookup (PySem.P.getItem_str (c := c) ?_ ?_ (hQ' _ _ (R2.toks _) (.str [c] _))) hs
    · simp only [Bool.or_eq_false_iff, decide_eq_false_iff_not]; omega
    · rw [sv_len, seqIdx hi.1 hlt]
      simpa using ec
  · have hi := inR.lo hi
    obtain ⟨ws, a, o, rfl, hg, ho, ht, h2⟩ := R2.isTup r1
    obtain ⟨w, ew, rw⟩ := h2.get ec
    have hlt := place_lt ew
    exact tail_any ht.typeIs slot_tuple_getitem.lookup (getItem_tuple ht (by omega) (by omega) (by simpa using seqIdx hi.1 hlt) (by simpa using ew) (hQ' _ _ R2 rw)) hs
  · have hi := inR.lo hi
    obtain ⟨a, rfl, hn⟩ := r1.loc_inv
    obtain ⟨ws, n', _, _, hL, h2⟩ := R2.isList ho hn
    obtain ⟨w, ew, rw⟩ := h2.get ec
    exact tail_any hL.typeIs slot_list_getitem.lookup (wpAny_getItem_list hL hi.1 (by omega) (by simpa using ew) (hQ' _ _ R2 rw)) hs
  · obtain ⟨a, rfl, hn⟩ := r1.loc_inv
    obtain ⟨kws, hD, h2, hlo⟩ := R2.isDict ho hn
    obtain ⟨w, ew, rw⟩ := (h2.dget i).2 _ ec
    exact tail_any hD.typeIs slot_dict_getitem.lookup (wpAny_getItem_of (intKind_is _ _ i u) hD.mapOf ew (hQ' _ _ (R2.toks _) rw)) hs

-- a slice
structure SO (P : Prm) (fn : Fn) (k : Nat) (e : Option Expr) (F : St → Option (Option V × St)) : Prop where
  h : ∀ (A : Around) (h₀ : Heap) (L : Addr), Cx P fn k A h₀ L → ∀ (T M : Led) (st : St) (s : Shared), Rel P fn h₀ L T M st s →
    ∀ (v : Option V) (st' : St), F st = some (v, st') → ∀ (Q : Value → Shared → Prop),
      (∀ T' M' s' x, Grow st st' T M T' M' → Rel P fn h₀ L T' M' st' s' → Rv T' (adr M') (v.getD .none) x → Q x s') →
      wpAny (model P.prog P.w) A (evalPart e (fn.ev L)) Q NoE s
noncomputable def optF (F : St → Option (V × St)) (st : St) : Option (Option V × St) := (F st).map fun r => (some r.1, r.2)
theorem SO.none : SO P fn k none (fun st => some (none, st)) := by
  constructor
  intro A h₀ L C T M st s R v st' e Q hQ
  cases e
  rw [evalPart_none]
  exact wpAny_pure (hQ T M s _ Grow.refl R .none)
theorem SO.some {e : Expr} {F : St → Option (V × St)} (h : SE P fn k e F) : SO P fn k (some e) (optF F) := by
  constructor
  intro A h₀ L C T M st s R v st' e Q hQ
  obtain ⟨⟨v1, st1⟩, e1, e⟩ := some_map e
  cases e
  rw [evalPart_some]
  exact h.h A h₀ L C T M st s R v1 _ e1 Q fun T1 M1 s1 x1 g1 R1 r1 => hQ T1 M1 s1 x1 g1 R1 r1

noncomputable def partOf : Option V → Option (Option Int)
  | none => some none
  | some (.int i) => some (some i)
  | _ => none
theorem partOf_is {T : Led} {ad : List Addr} {v : Option V} {o : Option Int} (h : partOf v = some o) {x : Value} (r : Rv T ad (v.getD .none) x) : IsPart x o := by
  cases v with
  | none => cases h; cases r; exact .none
  | some v => cases v <;> first | (cases h; done) | (cases h; cases r; exact .int _ _)

noncomputable def txtSlice (l : List Nat) (i j : Option Int) : List Nat := (Txt.slice (sv l) i j).cps.toList
noncomputable def lstSlice (l : List V) (i j c : Option Int) : List V := (sliceRange (sliceBounds i j c l.length).1 (sliceBounds i j c l.length).2.1 (sliceBounds i j c l.length).2.2).filterMap (l[·]?)
noncomputable def sliceF (x : V) (a b c : Option V) (st : St) : Option (V × St) :=
  match x, partOf a, partOf b, partOf c with
  | .str l, some i, some j, some none => if l.length ≤ 2000 then some (.str (txtSlice l i j), st) else none
  | .loc n, some i, some j, some u => match st.obs[n]? with
    | some (.list vs) => if vs.length ≤ 2000 ∧ u ≠ some 0 then some (.loc st.obs.length, { st with obs := st.obs ++ [.list (lstSlice vs i j u)] }) else none
    | _ => none
  | _, _, _, _ => none
noncomputable def slcF (F : St → Option (V × St)) (FA FB FC : St → Option (Option V × St)) (st : St) : Option (V × St) :=
  (F st).bind fun r => (FA r.2).bind fun a => (FB a.2).bind fun b => (FC b.2).bind fun c => sliceF r.1 a.1 b.1 c.1 c.2

theorem All2.places {α β : Type} {R : α → β → Prop} {vs : List α} {ws : List β} (h : All2 R vs ws) : ∀ js : List Nat, All2 R (js.filterMap (vs[·]?)) (js.filterMap (ws[·]?))
  | [] => .nil
  | j :: js => by
    have ih := All2.places h js
    cases hv : vs[j]? with
    | some v =>
      obtain ⟨w, hw, r⟩ := h.get hv
      simp only [List.filterMap_cons, hv, hw]
      exact .cons r ih
    | none =>
      have hw : ws[j]? = none := by
        rw [List.getElem?_eq_none_iff] at hv ⊢
        rw [← h.len]; exact hv
      simp only [List.filterMap_cons, hv, hw]
      exact ih

theorem sv_toList (x : PySem.Str) : sv x.cps.toList = x := by cases x; simp [sv]

theorem part_none {x : Value} (h : IsPart x none) : x = .none := by cases h; rfl
theorem slice_parts {prog : Program} {w : World} {A : Around} {E : Value → Shared → Prop} {s : Shared} {h₀ : Heap} {L : Addr} {m : PySem.Str → Option Value} {news : Led} {x : PySem.Str} {t : Tok} {value slice : Expr} {x2 x3 : Value} {i j : Option Int} {Q : Value → Shared → Prop}
    (P2 : IsPart x2 i) (P3 : IsPart x3 j) (hF : Fr h₀ L s.heap m) (hN : News h₀ L s.heap news) (h : ∀ h' t' k, Fr h₀ L h' m → News h₀ L h' news → Q (.str (Txt.slice x i j) t') { s with heap := h', toks := k })
    (hs : subscripted slice false (.str x t) (.ref s.heap.objs.size) = operate [.ref s.heap.objs.size, .str x t] (getItem (.str x t) (.ref s.heap.objs.size))) (ht : ∀ r, letTemporaryGo value (.str x t) r = pure ()) (hsz : x.length ≤ sizeLine) :
    wpAny (model prog w) A (subscriptTail value slice (.str x t) (.ref s.heap.objs.size)) Q E { s with heap := s.heap.push { cls := .type "slice", data := .fields #[x2, x3, .none] } } := by
  cases P2 <;> cases P3
  · exact slice_strN_nn hF hN h hs ht hsz
  · exact slice_strN_ns hF hN h hs ht hsz
  · exact slice_strN_sn hF hN h hs ht hsz
  · exact slice_strN_ss hF hN h hs ht hsz
theorem SE.slice {a : Expr} {lo hi st : Option Expr} {p pos : Pos} {F : St → Option (V × St)} {FA FB FC : St → Option (Option V × St)} (ha : SE P fn k a F)
    (h1 : SO P fn k lo FA) (h2 : SO P fn k hi FB) (h3 : SO P fn k st FC) (hst : ∀ x, partOf x = some none → ∀ r q, FC r = some (x, q) → st = none)
    (hs : ∀ o i, ∃ ops, subscripted (.Slice lo hi st p) false o i = operate ops (getItem o i)) (hvar : ∀ (x : PySem.Str) (t : Tok) r, letTemporaryGo a (.str x t) r = pure ()) : SE P fn k (.Subscript a (.Slice lo hi st p) pos) (slcF F FA FB FC) := by
  constructor
  intro A h₀ L C T M sst s R v st' e Q hQ
  obtain ⟨⟨v1, st1⟩, e1, d1⟩ := some_bind e
  obtain ⟨⟨v2, st2⟩, e2, d2⟩ := some_bind d1
  obtain ⟨⟨v3, st3⟩, e3, d3⟩ := some_bind d2
  obtain ⟨⟨v4, st4⟩, e4, e⟩ := some_bind d3
  clear d1 d2 d3
  refine Subscript_ (ha.h A h₀ L C T M sst s R v1 st1 e1 _ fun T1 M1 s1 x1 g1 R1 r1 => ?_)
  refine wpAny_Slice ?_
  refine h1.h A h₀ L C T1 M1 st1 s1 R1 v2 st2 e2 _ fun T2 M2 s2 x2 g2 R2 r2 => ?_
  refine h2.h A h₀ L C T2 M2 st2 s2 R2 v3 st3 e3 _ fun T3 M3 s3 x3 g3 R3 r3 => ?_
  refine h3.h A h₀ L C T3 M3 st3 s3 R3 v4 st4 e4 _ fun T4 M4 s4 x4 g4 R4 r4 => ?_
  have q1 := (g2.trans (g3.trans g4)).rv r1
  have q2 := (g3.trans g4).rv r2
  have q3 := g4.rv r3
  clear r1 r2 r3
  have hQ' := fun T5 M5 s5 x5 g5 R5 r5 => hQ T5 M5 s5 x5 ((g1.trans (g2.trans (g3.trans g4))).trans g5) R5 r5
  clear hQ
  dsimp only at e
  unfold sliceF at e
  split at e
  · have hstn : st = none := hst _ (by assumption) _ _ e4
    rename_i l i j _ _ _
    split at e
    · rename_i hl
      cases e
      obtain ⟨t, rfl⟩ := q1.str_inv
      obtain ⟨m, F', E⟩ := R4.fr
      have P2 := partOf_is (by assumption) q2
      have P3 := partOf_is (by assumption) q3
      have P4 := partOf_is (by assumption) r4
      have hz : (sv l).length ≤ sizeLine := by rw [sv_len, sizeLine_eq]; omega
      have fin : ∀ (h' : Heap) (t' : Tok) (kk : Nat), Fr h₀ L h' m → News h₀ L h' (T4 ++ M4) → Q (.str (Txt.slice (sv l) i j) t') { s4 with heap := h', toks := kk } := fun h' t' kk Fa Na => by
        have := hQ' T4 M4 _ (.str (Txt.slice (sv l) i j) t') Grow.refl (R4.again E (tk := kk) Fa Na) (by rw [← sv_toList (Txt.slice (sv l) i j)]; exact .str _ _)
        exact this
      subst hstn
      obtain rfl := part_none P4
      exact slice_parts P2 P3 F' R4.nw fin rfl (hvar _ _) hz
    · cases e
  · rename_i n i j u _ _ _
    split at e
    · rename_i vs ho
      split at e
      · rename_i hl
        cases e
        obtain ⟨a', rfl, hn⟩ := q1.loc_inv
        obtain ⟨ws, n', _, _, hL, hA⟩ := R4.isList ho hn
        obtain ⟨ops, hs⟩ := hs (.ref a') (.ref s4.heap.objs.size)
        have P2 := partOf_is (by assumption) q2
        have P3 := partOf_is (by assumption) q3
        have P4 := partOf_is (by assumption) r4
        have hz : ws.toArray.size ≤ sizeLine := by rw [List.size_toArray, ← hA.len, sizeLine_eq]; omega
        have hk1 : ∀ b x, s4.heap.get? b = some x → (s4.heap.push { cls := .type "slice", data := .fields #[x2, x3, x4] }).get? b = some x := fun b x e => Heap.get?_push_of_some _ e
        have R5 := R4.kept (tk := s4.toks) hk1
        refine tail_any (s := { s4 with heap := s4.heap.push { cls := .type "slice", data := .fields #[x2, x3, x4] } }) (Heap.IsList.typeIs (s := { s4 with heap := s4.heap.push { cls := .type "slice", data := .fields #[x2, x3, x4] } }) (hL.push _)) list_getitem_lookup
          (wpAny_getItem_list_slice (hL.push _) (Heap.IsSliceOf.new ..) P2 P3 P4 hl.2 ?_ hz) hs
        have eq : slicePick ws.toArray i j u = ((sliceRange (sliceBounds i j u vs.length).1 (sliceBounds i j u vs.length).2.1 (sliceBounds i j u vs.length).2.2).filterMap (ws[·]?)).toArray := by
          simp [slicePick, hA.len]
        rw [eq]
        have A2 : All2 (Rv T4 (adr M4)) (lstSlice vs i j u) ((sliceRange (sliceBounds i j u vs.length).1 (sliceBounds i j u vs.length).2.1 (sliceBounds i j u vs.length).2.2).filterMap (ws[·]?)) := hA.places _
        have R6 := R5.made (tk := s4.toks) (ob := .list (lstSlice vs i j u)) (o := lstObj ((sliceRange (sliceBounds i j u vs.length).1 (sliceBounds i j u vs.length).2.1 (sliceBounds i j u vs.length).2.2).filterMap (ws[·]?)) 0)
          (h' := (s4.heap.push { cls := .type "slice", data := .fields #[x2, x3, x4] }).push (lstObj ((sliceRange (sliceBounds i j u vs.length).1 (sliceBounds i j u vs.length).2.1 (sliceBounds i j u vs.length).2.2).filterMap (ws[·]?)) 0)) ⟨_, 0, rfl, A2⟩ (fun b x e => Heap.get?_push_of_some _ e) get_push_size (C.size R5)
        exact hQ' _ _ _ _ grow_made R6 (.loc _ _ (by rw [R4.ob.len]; exact adr_made))
      · cases e
    · cases e
  · cases e
end NP

namespace NP

variable {P : Prm} {fn : Fn} {k : Nat}

-- a chain of two comparisons
noncomputable def chainB (F G H : St → Option (V × St)) (f g : V → V → St → Option Bool) (st : St) : Option (Bool × St) :=
  (F st).bind fun r => (G r.2).bind fun q => (f r.1 q.1 q.2).bind fun c => if c then (H q.2).bind fun u => (g q.1 u.1 u.2).map fun d => (d, u.2) else some (false, q.2)
theorem SB.chain {a b c : Expr} {o1 o2 : CmpOp} {pos : Pos} {F G H : St → Option (V × St)} {f g : V → V → St → Option Bool}
    (hf : Cmp2 P o1 f) (hg : Cmp2 P o2 g) (ha : SE P fn k a F) (hb : SE P fn k b G) (hc : SE P fn k c H) (hm : lastMarks [o1, o2] [b, c] = false) : SB P fn k (.Compare a [o1, o2] [b, c] pos) (chainB F G H f g) := by
  constructor
  intro A h₀ L C T M st s R v st' e Q hQ
  obtain ⟨⟨v1, st1⟩, e1, e⟩ := some_bind e
  obtain ⟨⟨v2, st2⟩, e2, e⟩ := some_bind e
  obtain ⟨c1, ec, e⟩ := some_bind e
  refine isTrue_chain (ha.h A h₀ L C T M st s R v1 st1 e1 _ fun T1 M1 s1 x1 g1 R1 r1 => ?_) hm
  refine test_link (hb.h A h₀ L C T1 M1 st1 s1 R1 v2 st2 e2 _ fun T2 M2 s2 x2 g2 R2 r2 => ?_)
  refine hf fn k A h₀ L C T2 M2 _ s2 R2 v1 v2 x1 x2 (g2.rv r1) r2 c1 ec _ fun s3 R3 => wpAny_truthy_bool ?_
  cases c1 with
  | false => cases e; exact hQ T2 M2 s3 (g1.trans g2) R3
  | true =>
    obtain ⟨⟨v3, st3⟩, e3, e⟩ := some_bind e
    obtain ⟨d, ed, e⟩ := some_map e
    cases e
    refine test_last (hc.h A h₀ L C T2 M2 st2 s3 R3 v3 _ e3 _ fun T4 M4 s4 x4 g4 R4 r4 => ?_)
    exact hg fn k A h₀ L C T4 M4 _ s4 R4 v2 v3 x2 x4 (g4.rv r2) r4 _ ed _ fun s5 R5 => wpAny_truthy_bool (hQ T4 M4 s5 ((g1.trans g2).trans g4) R5)

-- in
noncomputable def inF : V → V → St → Option Bool
  | .str a, .str b, _ => match a with
    | [c] => some (decide (c ∈ b))
    | _ => none
  | .int i, .loc n, st => match st.obs[n]? with
    | some (.dict kvs) => some (dget kvs i).isSome
    | _ => none
  | _, _, _ => none
theorem op_in : Cmp2 P .In inF := by
  intro fn k A h₀ L C T M st s R a b x y ra rb c e Q hQ
  cases a <;> first | (cases e; done) | (cases b <;> first | (cases e; done) | skip)
  · rename_i i n
    simp only [inF] at e
    split at e
    · rename_i kvs ho
      cases e
      obtain ⟨t, rfl⟩ := ra.int_inv
      obtain ⟨a, rfl, hn⟩ := rb.loc_inv
      obtain ⟨kws, hD, h2, hlo⟩ := R.isDict ho hn
      refine wpAny_in_of (intKind_is _ _ i t) hlo hD.mapOf ?_
      rw [← (h2.dget i).1]
      exact hQ _ (R.toks _)
    · cases e
  · rename_i a b
    simp only [inF] at e
    split at e
    · cases e
      obtain ⟨t, rfl⟩ := ra.str_inv
      obtain ⟨u, rfl⟩ := rb.str_inv
      refine in_str ?_
      rw [PySem.StrLaws.found_one]
      simp only [List.toList_toArray]
      exact hQ s R
    · cases e

-- lists: *, +
noncomputable def mulF : V → V → St → Option (V × St)
  | .int a, .int b, st => if Builtin.Int.intBits a ≤ 2097152 ∧ Builtin.Int.intBits b ≤ 2097152 then some (.int (a * b), st) else none
  | .loc n, .int i, st => match st.obs[n]? with
    | some (.list vs) => if inR i ∧ vs.length * i.toNat ≤ 256 then some (.loc st.obs.length, { st with obs := st.obs ++ [.list (List.replicate i.toNat vs).flatten] }) else none
    | _ => none
  | _, _, _ => none
theorem All2.flat {α β : Type} {R : α → β → Prop} {vs : List α} {ws : List β} (h : All2 R vs ws) : ∀ n : Nat, All2 R (List.replicate n vs).flatten (List.replicate n ws).flatten
  | 0 => .nil
  | n + 1 => by rw [List.replicate_succ, List.replicate_succ, List.flatten_cons, List.flatten_cons]; exact h.app (All2.flat h n)

theorem Rel.listAt' {h₀ : Heap} {L : Addr} {T M : Led} {st : St} {s : Shared} (R : Rel P fn h₀ L T M st s) {m : PySem.Str → Option Value} (E : EnvR T (adr M) fn.names st.env m)
    {vs : List V} {ws : List Value} (h2 : All2 (Rv T (adr M)) vs ws) {n : Nat} {D : Addr} {h' : Heap} {tk : Nat} (F' : Fr h₀ L h' m) (N' : News h₀ L h' ((D, lstObj ws n) :: (T ++ M))) (hlt : ∀ p ∈ T ++ M, p.1 ≠ D) :
    Rel P fn h₀ L T (M ++ [(D, lstObj ws n)]) { st with obs := st.obs ++ [.list vs] } { s with heap := h', toks := tk } := by
  have ea : adr (M ++ [(D, lstObj ws n)]) = adr M ++ [D] := by simp [adr]
  have pre : adr M <+: adr (M ++ [(D, lstObj ws n)]) := ⟨[D], ea.symm⟩
  refine { fr := ⟨m, F', fun i x v a b => ?_⟩, el := R.el, nw := fun p hp => ?_, nd := ?_, tn := R.tn, tp := ?_, ob := ?_, lo := ?_, gens := R.gens, drawn := R.drawn, os := R.os }
  · obtain ⟨w, e, r⟩ := E i x v a b
    exact ⟨w, e, r.mono (List.prefix_refl _) pre⟩
  · rw [← List.append_assoc] at hp
    rcases List.mem_append.mp hp with hp | hp
    · exact N' p (.tail _ hp)
    · rw [List.mem_singleton.mp hp]; exact N' _ (.head _)
  · rw [ea]
    refine List.nodup_append.mpr ⟨R.nd, by simp, fun a ha b hb => ?_⟩
    rw [List.mem_singleton.mp hb]
    obtain ⟨p, hp, rfl⟩ := List.mem_map.mp ha
    exact hlt p (List.mem_append_right _ hp)
  · intro p hp
    rw [ea]
    intro h
    rcases List.mem_append.mp h with h | h
    · exact R.tp p hp h
    · exact hlt p (List.mem_append_left _ hp) (List.mem_singleton.mp h)
  · exact (R.ob.mono fun _ _ r => r.mono (List.prefix_refl _) pre).app (.cons ⟨ws, n, rfl, h2.mono fun _ _ r => r.mono (List.prefix_refl _) pre⟩ .nil)
  · exact R.lo.app (.cons (fun ⟨_, e⟩ => by cases e) .nil)

theorem Rel.listAt {h₀ : Heap} {L : Addr} {T M : Led} {st : St} {s : Shared} (R : Rel P fn h₀ L T M st s) {m : PySem.Str → Option Value} (E : EnvR T (adr M) fn.names st.env m)
    {vs : List V} {ws : List Value} (h2 : All2 (Rv T (adr M)) vs ws) {n : Nat} {D : Addr} {h' : Heap} {tk : Nat} (F' : Fr h₀ L h' m) (N' : News h₀ L h' ((D, lstObj ws n) :: (T ++ M))) (hlt : ∀ p ∈ T ++ M, p.1 < D) :
    Rel P fn h₀ L T (M ++ [(D, lstObj ws n)]) { st with obs := st.obs ++ [.list vs] } { s with heap := h', toks := tk } := R.listAt' E h2 F' N' fun p hp => Nat.ne_of_lt (hlt p hp)
theorem mulOk {a b : Int} (h : Builtin.Int.intBits a ≤ 2097152 ∧ Builtin.Int.intBits b ≤ 2097152) : IntMulOk a b := by
  have e : bitsLine = 134217728 := by decide
  have h : Builtin.Int.intTooBig (Builtin.Int.intBits a + Builtin.Int.intBits b) = false := by
    unfold Builtin.Int.intTooBig
    rw [e]
    exact decide_eq_false (by omega)
  unfold IntMulOk
  rw [h]
  simp
theorem op_mul : Op2 P (binaryOp .Mult) mulF := by
  intro fn k A h₀ L C T M st s R a b x y ra rb v st' e Q hQ
  cases a <;> first | (cases e; done) | (cases b <;> first | (cases e; done) | skip)
  · rename_i a b
    simp only [mulF] at e
    split at e
    · rename_i h
      cases e
      obtain ⟨t, rfl⟩ := ra.int_inv
      obtain ⟨u, rfl⟩ := rb.int_inv
      exact mul_int (hQ T M _ _ Grow.refl (R.toks _) (.int _ _)) (mulOk h)
    · cases e
  · rename_i n i
    simp only [mulF] at e
    split at e
    · rename_i vs ho
      split at e
      · rename_i h
        cases e
        have hi := inR.lo h.1
        obtain ⟨a, rfl, hn⟩ := ra.loc_inv
        obtain ⟨t, rfl⟩ := rb.int_inv
        obtain ⟨ws, n', _, _, hL, h2⟩ := R.isList ho hn
        obtain ⟨m, F, E⟩ := R.fr
        refine KMa.mul F R.nw hL (by omega) (by omega) (by rw [← h2.len]; exact h.2) rfl fun D h' F' N' hlt => ?_
        have R' := R.listAt E (h2.flat i.toNat) (n := 0) (tk := s.toks) F' N' hlt
        exact hQ _ _ _ _ grow_made R' (.loc _ _ (by rw [R.ob.len]; exact adr_made))
      · cases e
    · cases e

noncomputable def addL (n m : Nat) (st : St) : Option (V × St) := match st.obs[n]?, st.obs[m]? with
  | some (.list u), some (.list v) => if u.length + v.length ≤ 2000 then some (.loc st.obs.length, { st with obs := st.obs ++ [.list (u ++ v)] }) else none
  | _, _ => none
noncomputable def addF2 : V → V → St → Option (V × St)
  | .loc n, .loc m, st => addL n m st
  | a, b, st => addF a b st
theorem add2_eq {a b : V} {st : St} (hab : ¬ ∃ n m, a = .loc n ∧ b = .loc m) : addF2 a b st = addF a b st := by
  cases a <;> first | rfl | (cases b <;> first | rfl | exact absurd ⟨_, _, rfl, rfl⟩ hab)
theorem op_add2 : Op2 P (binaryOp .Add) addF2 := by
  intro fn k A h₀ L C T M st s R a b x y ra rb v st' e Q hQ
  by_cases hab : ∃ n m, a = .loc n ∧ b = .loc m
  · obtain ⟨n, m, rfl, rfl⟩ := hab
    simp only [addF2, addL] at e
    split at e
    · rename_i u w hu hw
      split at e
      · rename_i hl
        cases e
        obtain ⟨a, rfl, hn⟩ := ra.loc_inv
        obtain ⟨b, rfl, hm⟩ := rb.loc_inv
        obtain ⟨ws, n1, _, _, hL, h2⟩ := R.isList hu hn
        obtain ⟨ys, n2, _, _, hL', h3⟩ := R.isList hw hm
        obtain ⟨m, F, E⟩ := R.fr
        refine add_arrays F R.nw hL hL' (fun h' F' N' => ?_) (by rw [List.size_toArray, List.size_toArray, ← h2.len, ← h3.len, sizeLine_eq]; omega)
        have R' := R.listAt E (h2.app h3) (n := 0) (tk := s.toks) F' N' fun p hp => Heap.lt_size (R.nw p hp).1
        exact hQ _ _ _ _ grow_made R' (.loc _ _ (by rw [R.ob.len]; exact adr_made))
      · cases e
    · cases e
  · rw [add2_eq hab] at e
    exact op_add fn k A h₀ L C T M st s R a b x y ra rb v st' e Q hQ
end NP

namespace NP

variable {P : Prm} {fn : Fn} {k : Nat}

noncomputable def divF : V → V → St → Option (V × St)
  | .int a, .int b, st => if b ≠ 0 ∧ b.natAbs < 1073741824 then some (.int (a.fdiv b), st) else none
  | _, _, _ => none
theorem op_div : Op2 P (binaryOp .FloorDiv) divF := by
  intro fn k A h₀ L C T M st s R a b x y ra rb v st' e Q hQ
  cases a <;> first | (cases e; done) | (cases b <;> first | (cases e; done) | skip)
  simp only [divF] at e
  split at e
  · rename_i h
    cases e
    obtain ⟨t, rfl⟩ := ra.int_inv
    obtain ⟨u, rfl⟩ := rb.int_inv
    exact floordiv_int h.1 (hQ T M _ _ Grow.refl (R.toks _) (.int _ _)) (.inl (PyProof.noPylong_small h.2))
  · cases e
noncomputable def powF : V → V → St → Option (V × St)
  | .int a, .int b, st => if 0 ≤ b ∧ b ≤ 1000 ∧ a.natAbs < 2 ^ 64 then some (.int (a ^ b.toNat), st) else none
  | _, _, _ => none
theorem op_pow : Op2 P (binaryOp .Pow) powF := by
  intro fn k A h₀ L C T M st s R a b x y ra rb v st' e Q hQ
  cases a <;> first | (cases e; done) | (cases b <;> first | (cases e; done) | skip)
  simp only [powF] at e
  split at e
  · rename_i h
    cases e
    obtain ⟨t, rfl⟩ := ra.int_inv
    obtain ⟨u, rfl⟩ := rb.int_inv
    exact pow_int_small h.1 (by omega) h.2.2 (hQ T M _ _ Grow.refl (R.toks _) (.int _ _))
  · cases e

-- dicts: displays
theorem Rel.dictAt {h₀ : Heap} {L : Addr} {T M : Led} {st : St} {s : Shared} (R : Rel P fn h₀ L T M st s) {m : PySem.Str → Option Value} (E : EnvR T (adr M) fn.names st.env m)
    {ob : Ob} {o : Obj} (hr : RO P T (adr M) ob o) {D : Addr} {h' : Heap} {tk : Nat} (F' : Fr h₀ L h' m) (N' : News h₀ L h' ((D, o) :: (T ++ M))) (hlt : ∀ p ∈ T ++ M, p.1 ≠ D) (hD : (D == sysModules) = false) :
    Rel P fn h₀ L T (M ++ [(D, o)]) { st with obs := st.obs ++ [ob] } { s with heap := h', toks := tk } := by
  have ea : adr (M ++ [(D, o)]) = adr M ++ [D] := by simp [adr]
  have pre : adr M <+: adr (M ++ [(D, o)]) := ⟨[D], ea.symm⟩
  refine { fr := ⟨m, F', fun i x v a b => ?_⟩, el := R.el, nw := fun p hp => ?_, nd := ?_, tn := R.tn, tp := ?_, ob := ?_, lo := ?_, gens := R.gens, drawn := R.drawn, os := R.os }
  · obtain ⟨w, e, r⟩ := E i x v a b
    exact ⟨w, e, r.mono (List.prefix_refl _) pre⟩
  · rw [← List.append_assoc] at hp
    rcases List.mem_append.mp hp with hp | hp
    · exact N' p (.tail _ hp)
    · rw [List.mem_singleton.mp hp]; exact N' _ (.head _)
  · rw [ea]
    refine List.nodup_append.mpr ⟨R.nd, by simp, fun a ha b hb => ?_⟩
    rw [List.mem_singleton.mp hb]
    obtain ⟨p, hp, rfl⟩ := List.mem_map.mp ha
    exact hlt p (List.mem_append_right _ hp)
  · intro p hp
    rw [ea]
    intro h
    rcases List.mem_append.mp h with h | h
    · exact R.tp p hp h
    · exact hlt p (List.mem_append_left _ hp) (List.mem_singleton.mp h)
  · exact (R.ob.mono fun _ _ r => r.mono (List.prefix_refl _) pre).app (.cons (hr.mono (List.prefix_refl _) pre) .nil)
  · exact R.lo.app (.cons (fun _ => hD) .nil)

noncomputable def newD (st : St) : St := { st with obs := st.obs ++ [.dict []] }
noncomputable def dict0 (st : St) : Option (V × St) := some (.loc st.obs.length, newD st)
theorem SE.dict0 {pos : Pos} : SE P fn k (.Dict [] [] pos) dict0 := by
  constructor
  intro A h₀ L C T M st s R v st' e Q hQ
  cases e
  obtain ⟨m, F, E⟩ := R.fr
  refine Dict_empty_made2 F R.nw (modules_low C.top.nolimit) fun h' o F' N' lo _ _ hd _ ne => ?_
  have R' := R.dictAt E (ob := .dict []) (o := o) (tk := s.toks) ⟨[], hd, .nil⟩ F' N' ne lo
  exact hQ _ _ _ _ grow_made R' (.loc _ _ (by rw [R.ob.len]; exact adr_made))

noncomputable def dict1 (F G : St → Option (V × St)) (st : St) : Option (V × St) :=
  (F (newD st)).bind fun r => (G r.2).bind fun q => match r.1, q.2.obs[st.obs.length]? with
    | .int i, some (.dict []) => some (.loc st.obs.length, { q.2 with obs := q.2.obs.set st.obs.length (.dict [(i, q.1)]) })
    | _, _ => none
theorem SE.dict1 {a b : Expr} {pos : Pos} {F G : St → Option (V × St)} (ha : SE P fn k a F) (hb : SE P fn k b G) : SE P fn k (.Dict [some a] [b] pos) (dict1 F G) := by
  constructor
  intro A h₀ L C T M st s R v st' e Q hQ
  obtain ⟨⟨v1, st1⟩, e1, d1⟩ := some_bind e
  obtain ⟨⟨v2, st2⟩, e2, d2⟩ := some_bind d1
  clear e d1
  have e := d2
  clear d2
  obtain ⟨m, F', E⟩ := R.fr
  refine Dict_made (knd := intKind P.prog P.w) F' rfl rfl (by simp) (by simp) fun F1 => ?_
  have hnew : ({ cls := .type "dict", data := .dict #[] } : Obj).IsDictOf (intKind P.prog P.w) [] := ⟨#[], 0, ⟨rfl, rfl, rfl⟩, rfl, (fun e he => by simp at he), by simpa using Pairs.nil, List.nodup_nil⟩
  have R0 : Rel P fn h₀ L T (M ++ [(s.heap.objs.size, { cls := .type "dict", data := .dict #[] })]) (newD st) { s with heap := s.heap.push { cls := .type "dict", data := .dict #[] }, toks := s.toks } :=
    R.made (ob := .dict []) ⟨[], hnew, .nil⟩ (fun b x e => Heap.get?_push_of_some _ e) get_push_size (C.size R)
  have hD : (adr (M ++ [(s.heap.objs.size, ({ cls := .type "dict", data := .dict #[] } : Obj))]))[st.obs.length]? = some s.heap.objs.size := by rw [R.ob.len]; exact adr_made
  refine evalPairs_cons (ha.h A h₀ L C T _ _ _ R0 v1 st1 e1 _ fun T1 M1 s1 x1 g1 R1 r1 => ?_)
  refine wpAny_bind (hb.h A h₀ L C T1 M1 st1 s1 R1 v2 st2 e2 _ fun T2 M2 s2 x2 g2 R2 r2 => ?_)
  refine wpAny_bind (wpAny_standAt (wpAny_pure (pairTrees_nil_walk ?_)))
  have q1 := g2.rv r1
  clear r1
  dsimp only at e
  split at e
  · rename_i i ho
    cases e
    obtain ⟨t, rfl⟩ := q1.int_inv
    have hD2 := prefix_get (g1.trans g2).m hD
    obtain ⟨kws, hd, h2, hlo⟩ := R2.isDict ho hD2
    cases h2
    refine ⟨[(i, x2)], ⟨intKind_is _ _ i t, rfl, trivial⟩, hd, fun h' hd' hs' => ?_⟩
    obtain ⟨o', ho', hd'⟩ := Heap.dictOf_iff.mp hd'
    obtain ⟨R3, ea⟩ := R2.put hD2 (ob := .dict [(i, v2)]) (o := o') (tk := s2.toks + 1) ⟨[(i, x2)], hd', .cons ⟨rfl, r2⟩ .nil⟩ hs' ho' (fun _ => hlo)
    exact hQ _ _ _ _ (((grow_made (st := st) (st' := newD st)).trans (g1.trans g2)).put ea (.inl (Nat.le_of_eq R.ob.len.symm))) R3 (.loc _ _ (by rw [ea]; exact hD2))
  · cases e

-- calls of builtins
noncomputable def BF (P : Prm) (id : String) (f : List V → St → Option (V × St)) : Prop :=
  ∀ (fn : Fn) (k : Nat) (A : Around) (h₀ : Heap) (L : Addr), Cx P fn k A h₀ L → ∀ (T M : Led) (st : St) (s : Shared), Rel P fn h₀ L T M st s →
    ∀ (vs : List V) (xs : List Value), All2 (Rv T (adr M)) vs xs → ∀ (v : V) (st' : St), f vs st = some (v, st') →
      ∀ (Q : Value → Shared → Prop), PostV P fn h₀ L T M st st' v Q → wpAny (model P.prog P.w) A (call (.builtin id) xs) Q NoE s

noncomputable def callB (FA : St → Option (List V × St)) (f : List V → St → Option (V × St)) (st : St) : Option (V × St) := (FA st).bind fun r => f r.1 r.2

structure IsB (P : Prm) (fn : Fn) (x : PySem.Str) (id : String) : Prop where
  no : nsIn P.K mainGlobals x = some none
  bt : bootBuiltins x = some (.builtin id)
  nn : x ≠ "__name__"
  kd : fn.scope.names.lookup x = some .globalImplicit
  dbg : (x == ("__debug__" : PySem.Str)) = false

theorem SE.callB {x : PySem.Str} {p pos : Pos} {e : Expr} {rest : List Expr} {id : String} {FA : St → Option (List V × St)} {f : List V → St → Option (V × St)} (hx : IsB P fn x id) (hf : BF P id f) (ha : SEs P fn k (e :: rest) FA)
    (he : ∀ L : Addr, starEach (e :: rest) (fn.ev L) = (false, eval e (fn.ev L)) :: starEach rest (fn.ev L)) (hp : ∀ L : Addr, (backTo pos (starEach rest (fn.ev L))).any (·.1) = false)
    (hc : ∀ L : Addr, eval (.Call (.Name x p) (e :: rest) [] pos) (fn.ev L) = (do callWith pos (← eval (.Name x p) (fn.ev L)) [] (backTo pos (starEach (e :: rest) (fn.ev L))) (backToKw pos (keywordEach [] (fn.ev L))))) :
    SE P fn k (.Call (.Name x p) (e :: rest) [] pos) (callB FA f) := by
  constructor
  intro A h₀ L C T M st s R v st' e Q hQ
  obtain ⟨⟨vs, st1⟩, e1, e⟩ := some_bind e
  obtain ⟨m, F, E⟩ := R.fr
  refine Call_ ?_ (hc L)
  refine name_B F C.X (topRead_of C.top) hx.no hx.bt hx.nn ?_ C.ok.kind hx.kd hx.dbg
  refine PyProof.Rows.callWith_builtin1 ?_ (he L) (hp L)
  refine ha.h A h₀ L C pos T M st s R vs st1 e1 _ fun T1 M1 s1 xs g1 R1 r1 => ?_
  exact hf fn k A h₀ L C T1 M1 st1 s1 R1 vs xs r1 v st' e Q fun T2 M2 s2 x2 g2 R2 r2 => hQ T2 M2 s2 x2 (g1.trans g2) R2 r2

-- methods
structure MF (P : Prm) (name : PySem.Str) (id : String) (ok : V → St → Bool) : Prop where
  get : ∀ (fn : Fn) (k : Nat) (A : Around) (h₀ : Heap) (L : Addr), Cx P fn k A h₀ L → ∀ (T M : Led) (st : St) (s : Shared), Rel P fn h₀ L T M st s →
    ∀ (v : V) (x : Value), Rv T (adr M) v x → ok v st = true → ∀ (pl : Sem Bool) (Q : Value × List Value → Shared → Prop), Q (.builtin id, [x]) s → wpAny (model P.prog P.w) A (getMethod x name pl) Q NoE s

noncomputable def methB (F : St → Option (V × St)) (ok : V → St → Bool) (FA : St → Option (List V × St)) (f : List V → St → Option (V × St)) (st : St) : Option (V × St) :=
  (F st).bind fun r => if ok r.1 r.2 then (FA r.2).bind fun q => f (r.1 :: q.1) q.2 else none

theorem SE.meth {o : Expr} {name : PySem.Str} {ap pos : Pos} {e : Expr} {rest : List Expr} {id : String} {ok : V → St → Bool} {F : St → Option (V × St)} {FA : St → Option (List V × St)} {f : List V → St → Option (V × St)} {pl : Addr → Sem Bool}
    (hm : MF P name id ok) (hf : BF P id f) (ho : SE P fn k o F) (ha : SEs P fn k (e :: rest) FA)
    (he : ∀ L : Addr, starEach (e :: rest) (fn.ev L) = (false, eval e (fn.ev L)) :: starEach rest (fn.ev L)) (hp : ∀ L : Addr, (backTo pos (starEach rest (fn.ev L))).any (·.1) = false)
    (hc : ∀ L : Addr, eval (.Call (.Attribute o name ap) (e :: rest) [] pos) (fn.ev L) = (do
      let ov ← eval o (fn.ev L)
      standAt ap.atName
      let (f, first) ← holding [ov] (getMethod ov name (pl L))
      callWith pos f first (backTo pos (starEach (e :: rest) (fn.ev L))) [])) :
    SE P fn k (.Call (.Attribute o name ap) (e :: rest) [] pos) (methB F ok FA f) := by
  constructor
  intro A h₀ L C T M st s R v st' e Q hQ
  obtain ⟨⟨v1, st1⟩, e1, e⟩ := some_bind e
  dsimp only at e
  split at e
  · rename_i hok
    obtain ⟨⟨vs, st2⟩, e2, e⟩ := some_bind e
    refine MethodCall_ ?_ (hc L)
    refine ho.h A h₀ L C T M st s R v1 st1 e1 _ fun T1 M1 s1 x1 g1 R1 r1 => ?_
    refine hm.get fn k A h₀ L C T1 M1 st1 s1 R1 v1 x1 r1 hok _ _ ?_
    refine callWith_method1 ?_ (he L) (hp L)
    refine ha.h A h₀ L C pos T1 M1 st1 s1 R1 vs st2 e2 _ fun T2 M2 s2 xs g2 R2 r2 => ?_
    exact hf fn k A h₀ L C T2 M2 st2 s2 R2 (v1 :: vs) ([x1] ++ xs) (.cons (g2.rv r1) r2) v st' e Q fun T3 M3 s3 x3 g3 R3 r3 => hQ T3 M3 s3 x3 ((g1.trans g2).trans g3) R3 r3
  · cases e
theorem SE.meth0 {o : Expr} {name : PySem.Str} {ap pos : Pos} {id : String} {ok : V → St → Bool} {F : St → Option (V × St)} {f : List V → St → Option (V × St)} {pl : Addr → Sem Bool}
    (hm : MF P name id ok) (hf : BF P id f) (ho : SE P fn k o F)
    (hc : ∀ L : Addr, eval (.Call (.Attribute o name ap) [] [] pos) (fn.ev L) = (do
      let ov ← eval o (fn.ev L)
      standAt ap.atName
      let (f, first) ← holding [ov] (getMethod ov name (pl L))
      callWith pos f first (backTo pos (starEach [] (fn.ev L))) [])) :
    SE P fn k (.Call (.Attribute o name ap) [] [] pos) (methB F ok (fun st => some ([], st)) f) := by
  constructor
  intro A h₀ L C T M st s R v st' e Q hQ
  obtain ⟨⟨v1, st1⟩, e1, e⟩ := some_bind e
  dsimp only at e
  split at e
  · rename_i hok
    refine MethodCall_ ?_ (hc L)
    refine ho.h A h₀ L C T M st s R v1 st1 e1 _ fun T1 M1 s1 x1 g1 R1 r1 => ?_
    refine hm.get fn k A h₀ L C T1 M1 st1 s1 R1 v1 x1 r1 hok _ _ ?_
    refine callWith_method0 ?_
    exact hf fn k A h₀ L C T1 M1 st1 s1 R1 [v1] [x1] (.cons r1 .nil) v st' e Q fun T3 M3 s3 x3 g3 R3 r3 => hQ T3 M3 s3 x3 (g1.trans g3) R3 r3
  · cases e

-- calls of the text's defs
noncomputable def SFn (P : Prm) (f : Addr) (kk : Nat) (F : List V → List Nat → List Ob → Option (V × List Ob)) : Prop :=
  ∀ (fn : Fn) (k : Nat) (A : Around) (h₀ : Heap) (L : Addr), Cx P fn k A h₀ L → kk ≤ k → ∀ (T M : Led) (st : St) (s : Shared), Rel P fn h₀ L T M st s →
    ∀ (vs : List V) (xs : List Value), All2 (Rv T (adr M)) vs xs → ∀ (v : V) (obs' : List Ob), F vs st.pin st.obs = some (v, obs') →
      ∀ (Q : Value → Shared → Prop), PostV P fn h₀ L T M st { st with obs := obs' } v Q → wpAny (model P.prog P.w) A (call (.ref f) xs) Q NoE s

noncomputable def callF (FA : St → Option (List V × St)) (F : List V → List Nat → List Ob → Option (V × List Ob)) (st : St) : Option (V × St) := (FA st).bind fun r => (F r.1 r.2.pin r.2.obs).map fun q => (q.1, { r.2 with obs := q.2 })

structure IsF (P : Prm) (fn : Fn) (x : PySem.Str) (f : Addr) : Prop where
  at_ : nsIn P.K mainGlobals x = some (some (.ref f))
  keep : keepIn P.K (.ref f) = true
  kd : fn.scope.names.lookup x = some .globalImplicit
  dbg : (x == ("__debug__" : PySem.Str)) = false

theorem Rel.kIn {h₀ : Heap} {L : Addr} {A : Around} (C : Cx P fn k A h₀ L) {T M : Led} {st : St} {s : Shared} (R : Rel P fn h₀ L T M st s) : P.K.In s.heap :=
  let ⟨_, F, _⟩ := R.fr; C.X.keeps F.keep

theorem SE.callF {x : PySem.Str} {p pos : Pos} {e : Expr} {rest : List Expr} {f : Addr} {kk : Nat} {FA : St → Option (List V × St)} {F : List V → List Nat → List Ob → Option (V × List Ob)} (hx : IsF P fn x f) (hf : SFn P f kk F) (hk : kk ≤ k) (ha : SEs P fn k (e :: rest) FA)
    (he : ∀ L : Addr, starEach (e :: rest) (fn.ev L) = (false, eval e (fn.ev L)) :: starEach rest (fn.ev L)) (hp : ∀ L : Addr, (backTo pos (starEach rest (fn.ev L))).any (·.1) = false)
    (hc : ∀ L : Addr, eval (.Call (.Name x p) (e :: rest) [] pos) (fn.ev L) = (do callWith pos (← eval (.Name x p) (fn.ev L)) [] (backTo pos (starEach (e :: rest) (fn.ev L))) (backToKw pos (keywordEach [] (fn.ev L))))) :
    SE P fn k (.Call (.Name x p) (e :: rest) [] pos) (callF FA F) := by
  constructor
  intro A h₀ L C T M st s R v st' e Q hQ
  obtain ⟨⟨vs, st1⟩, e1, e⟩ := some_bind e
  obtain ⟨⟨v2, ob2⟩, e2, e⟩ := some_map e
  cases e
  obtain ⟨m, F', E⟩ := R.fr
  refine Call_ ?_ (hc L)
  refine name_K F' C.X (topRead_of C.top) hx.at_ ?_ C.ok.kind hx.kd hx.dbg
  refine callWith_K (h₀ := h₀) C.X hx.keep ?_ (he L) (hp L)
  refine ha.h A h₀ L C pos T M st s R vs st1 e1 _ fun T1 M1 s1 xs g1 R1 r1 => ⟨Rel.kIn C R1, ?_⟩
  exact hf fn k A h₀ L C hk T1 M1 st1 s1 R1 vs xs r1 v2 ob2 e2 Q fun T2 M2 s2 x2 g2 R2 r2 => hQ T2 M2 s2 x2 (g1.trans g2) R2 r2
theorem SE.callF0 {x : PySem.Str} {p pos : Pos} {f : Addr} {kk : Nat} {F : List V → List Nat → List Ob → Option (V × List Ob)} (hx : IsF P fn x f) (hf : SFn P f kk F) (hk : kk ≤ k)
    (hc : ∀ L : Addr, eval (.Call (.Name x p) [] [] pos) (fn.ev L) = (do callWith pos (← eval (.Name x p) (fn.ev L)) [] (backTo pos (starEach [] (fn.ev L))) (backToKw pos (keywordEach [] (fn.ev L))))) :
    SE P fn k (.Call (.Name x p) [] [] pos) (NP.callF (fun st => some ([], st)) F) := by
  constructor
  intro A h₀ L C T M st s R v st' e Q hQ
  obtain ⟨⟨vs, st1⟩, e1, e⟩ := some_bind e
  obtain ⟨⟨v2, ob2⟩, e2, e⟩ := some_map e
  cases e
  cases e1
  obtain ⟨m, F', E⟩ := R.fr
  refine Call_ ?_ (hc L)
  refine name_K F' C.X (topRead_of C.top) hx.at_ ?_ C.ok.kind hx.kd hx.dbg
  refine callWith_K0 (Rel.kIn C R) hx.keep ?_
  exact hf fn k A h₀ L C hk T M _ s R [] [] .nil v2 ob2 e2 Q fun T2 M2 s2 x2 g2 R2 r2 => hQ T2 M2 s2 x2 g2 R2 r2
end NP

namespace NP

variable {P : Prm} {fn : Fn} {k : Nat}

-- a def entered
noncomputable def fnF (df : List V → Option (List V)) (n : Nat) (G : St → Option (Fl × St)) (vs : List V) (pin : List Nat) (obs : List Ob) : Option (V × List Ob) :=
  (df vs).bind fun us => (G ⟨us.map some ++ List.replicate (n - us.length) none, obs, pin⟩).bind fun r => match r.1 with
    | .ret v => some (v, r.2.obs)
    | .next => some (.none, r.2.obs)
    | _ => none

theorem lookup_mem {l : List (PySem.Str × Value)} (nd : (l.map (·.1)).Nodup) {x : PySem.Str} {w : Value} (h : (x, w) ∈ l) : l.lookup x = some w := by
  induction l with
  | nil => cases h
  | cons p r ih =>
    obtain ⟨y, u⟩ := p
    rw [List.lookup_cons]
    simp only [List.map_cons, List.nodup_cons] at nd
    rcases List.mem_cons.mp h with e | h'
    · cases e; simp
    · have : (x == y) = false := by
        rw [beq_eq_false_iff_ne]
        intro e
        subst e
        exact nd.1 (List.mem_map.mpr ⟨(x, w), h', rfl⟩)
      rw [this]
      exact ih nd.2 h'
theorem zip_map_fst : ∀ (a : List PySem.Str) (b : List Value), (a.zip b).map (·.1) = a.take b.length
  | [], _ => by simp
  | _ :: _, [] => by simp
  | a :: r, b :: t => by simp [zip_map_fst r t]
theorem mem_zip_of {a : List PySem.Str} {b : List Value} {i : Nat} {x : PySem.Str} {w : Value} (h1 : a[i]? = some x) (h2 : b[i]? = some w) : (x, w) ∈ a.zip b := by
  refine List.mem_of_getElem? (i := i) ?_
  rw [List.getElem?_zip_eq_some]
  exact ⟨h1, h2⟩

theorem SFn.mk {name qual : PySem.Str} {params : Arguments} {body : List Stmt} {scope : Scope} {dV kV doc pm cdv ct oc : Value} {an od : Option Addr} {osl : Array (Option Value)} {f : Addr} {names : List PySem.Str} {kk : Nat} {G : St → Option (Fl × St)}
    (ho : P.K.lookup f = some ⟨oc, od, .func (fnOf name qual params body scope dV kV doc pm an cdv ct), osl⟩) (hcd : codeIn P.K cdv qual = true) (ok : (Fn.mk qual scope f cdv names).Ok)
    (df : List V → Option (List V)) (dfx : List Value → List Value)
    (hdf : ∀ (T : Led) (ad : List Addr) (vs : List V) (xs : List Value) (us : List V), All2 (Rv T ad) vs xs → df vs = some us → All2 (Rv T ad) us (dfx xs) ∧ us.length ≤ names.length)
    (hbind : ∀ (s : Shared) (vs : List V) (xs : List Value) (us : List V), P.K.In s.heap → df vs = some us → vs.length = xs.length → BindsTo s (fnOf name qual params body scope dV kV doc pm an cdv ct) ⟨xs, []⟩ (names.zip (dfx xs)))
    (hco : scope.isCoroutine = false) (hgen : scope.isGenerator = false) (hcell : ∀ x ∈ scope.names, x.2 ≠ .cell)
    (h : SS P (Fn.mk qual scope f cdv names) kk body G) : SFn P f (kk + 1) (fnF df names.length G) := by
  intro fn k A h₀ L C hk T M st s R vs xs r v obs' e Q hQ
  obtain ⟨us, eu, e⟩ := some_bind e
  obtain ⟨⟨fl, st1⟩, eG, e⟩ := some_bind e
  obtain ⟨r2, hlen⟩ := hdf T (adr M) vs xs us r eu
  obtain ⟨m, F, E⟩ := R.fr
  obtain ⟨A₀, base, outer, B, hA⟩ := C.bel
  have hnz : ((names.zip (dfx xs)).map (·.1)).Nodup := by
    rw [zip_map_fst]
    exact ok.nd.sublist (List.take_sublist _ _)
  refine wpAny_call (code_def B F C.X R.nw C.top hA rfl C.ok.kind ho hcd (by have := C.room; omega) (hbind s vs xs us (Rel.kIn C R) eu r.len) (fun y hy => ok.loc _ ?_) (fun g L' h₁ FG F' N' B' X' T' => ?_) hco hgen ok.kind hcell)
  · have : y.1 ∈ (names.zip (dfx xs)).map (·.1) := List.mem_map_of_mem hy
    rw [zip_map_fst] at this
    exact List.mem_of_mem_take this
  · have C' : Cx P (Fn.mk qual scope f cdv names) kk (A.deeper (envOf qual scope L' f cdv)) g L' :=
      { hh := C.hh, room := by have := C.room; show A.depth + 1 + kk < _; omega, un := by have := C.un; show A.units + 3 + 20 * kk + 100 < _; omega, gd := C.gd, bel := ⟨A, base, fn.ev L :: outer, ⟨hA, B'.stays, B'.frames⟩, by show (A.frames).map _ = _; rw [hA]; rfl⟩, X := X', top := T', ok := ok }
    have R' : Rel P (Fn.mk qual scope f cdv names) g L' T M ⟨us.map some ++ List.replicate (names.length - us.length) none, st.obs, st.pin⟩ { s with heap := h₁, toks := s.toks + (names.zip (dfx xs)).length } :=
      { fr := ⟨_, F', fun i x v hx hv => by
          have hv' : (us.map some ++ List.replicate (names.length - us.length) none)[i]? = some (some v) := hv
          have hi : i < us.length := by
            rcases Nat.lt_or_ge i us.length with h | h
            · exact h
            · rw [List.getElem?_append_right (by simpa using h)] at hv'
              have := List.mem_of_getElem? hv'
              rw [List.mem_replicate] at this
              cases this.2
          rw [List.getElem?_append_left (by simpa using hi)] at hv'
          have hu : us[i]? = some v := by
            rw [List.getElem?_map] at hv'
            cases q : us[i]? with
            | none => rw [q] at hv'; cases hv'
            | some u => rw [q] at hv'; simpa using hv'
          obtain ⟨w, hw, rw⟩ := r2.get hu
          refine ⟨w, ?_, rw⟩
          refine lookup_mem ?_ (List.mem_reverse.mpr (mem_zip_of hx hw))
          rw [List.map_reverse]
          exact (List.reverse_perm _).nodup_iff.mpr hnz⟩
        el := by show (us.map some ++ List.replicate (names.length - us.length) none).length = names.length; simp; omega
        nw := N'
        nd := R.nd, tn := R.tn, tp := R.tp, ob := R.ob, lo := R.lo, gens := R.gens, drawn := R.drawn, os := R.os }
    refine wpAny_mono (h.h _ _ _ C' T M _ _ R' fl st1 eG (fun fl s' => LeaveK h₀ L m g _ (match fl with | .ret v => v | _ => .none) s') fun T2 M2 s2 x2 g2 R2 r2 => ?_) (fun _ _ q => q) fun _ _ q => q.elim
    obtain ⟨m2, F2, E2⟩ := R2.fr
    refine leaveK_ F2 R2.nw fun F3 N3 => ?_
    have R3 : Rel P fn h₀ L T2 M2 { st with obs := st1.obs } s2 :=
      { fr := ⟨m, F3, fun i x v hx hv => by obtain ⟨w, hw, r⟩ := E i x v hx hv; exact ⟨w, hw, g2.rv r⟩⟩, el := R.el, nw := N3, nd := R2.nd, tn := R2.tn, tp := R2.tp, ob := R2.ob, lo := R2.lo, gens := R2.gens, drawn := R2.drawn, os := R2.os }
    have g3 : Grow st { st with obs := st1.obs } T M T2 M2 := ⟨g2.t, g2.m, rfl, g2.keep⟩
    dsimp only at e
    cases r2 with
    | next => cases e; exact hQ T2 M2 s2 _ g3 R3 .none
    | brk => cases e
    | cont => cases e
    | ret v w rv => cases e; exact hQ T2 M2 s2 _ g3 R3 rv

-- statements
theorem SS.nil : SS P fn k [] (fun st => some (.next, st)) := by
  constructor
  intro A h₀ L C T M st s R fl st' e Q hQ
  cases e
  exact wpAny_execs_nil (hQ T M s _ Grow.refl R .next)
noncomputable def seqF (F G : St → Option (Fl × St)) (st : St) : Option (Fl × St) := (F st).bind fun r => match r.1 with
  | .next => G r.2
  | f => some (f, r.2)
theorem SS.cons {c : Stmt} {rest : List Stmt} {F G : St → Option (Fl × St)} (h1 : S1 P fn k c F) (h2 : SS P fn k rest G) : SS P fn k (c :: rest) (seqF F G) := by
  constructor
  intro A h₀ L C T M st s R fl st' e Q hQ
  obtain ⟨⟨fl1, st1⟩, e1, e⟩ := some_bind e
  refine wpAny_execs_cons (h1.h A h₀ L C T M st s R fl1 st1 e1 _ fun T1 M1 s1 x1 g1 R1 r1 => ?_)
  dsimp only at e
  cases r1 with
  | next => exact h2.h A h₀ L C T1 M1 st1 s1 R1 fl st' e Q fun T2 M2 s2 x2 g2 R2 r2 => hQ T2 M2 s2 x2 (g1.trans g2) R2 r2
  | brk => cases e; exact hQ T1 M1 s1 _ g1 R1 .brk
  | cont => cases e; exact hQ T1 M1 s1 _ g1 R1 .cont
  | ret v w r => cases e; exact hQ T1 M1 s1 _ g1 R1 (.ret v w r)

noncomputable def retF (F : St → Option (V × St)) (st : St) : Option (Fl × St) := (F st).map fun r => (.ret r.1, r.2)
theorem S1.ret {e : Expr} {pos : Pos} {F : St → Option (V × St)} (h : SE P fn k e F) : S1 P fn k (.Return (some e) pos) (retF F) := by
  constructor
  intro A h₀ L C T M st s R fl st' e Q hQ
  obtain ⟨⟨v1, st1⟩, e1, e⟩ := some_map e
  cases e
  exact wpAny_Return_some (h.h A h₀ L C T M st s R v1 _ e1 _ fun T1 M1 s1 x1 g1 R1 r1 => hQ T1 M1 s1 _ g1 R1 (.ret _ _ r1))

noncomputable def setF (i : Nat) (v : V) (st : St) : Option St := some { st with env := st.env.set i (some v) }
theorem wp_store {A : Around} {h₀ : Heap} {L : Addr} (C : Cx P fn k A h₀ L) {T M : Led} {st : St} {s : Shared} (R : Rel P fn h₀ L T M st s) {i : Nat} {x : PySem.Str} (hx : fn.names[i]? = some x) {v : V} {w : Value} (hv : Rv T (adr M) v w)
    {Q : Unit → Shared → Prop} (hQ : ∀ s', Rel P fn h₀ L T M { st with env := st.env.set i (some v) } s' → Q () s') : wpAny (model P.prog P.w) A (storeName (fn.ev L) x w) Q NoE s := by
  obtain ⟨m, F, E⟩ := R.fr
  exact stN F R.nw (fun h' F' N' => hQ _ (R.stored C.ok hx hv F E F' N')) C.ok.kind (C.ok.loc x (List.mem_of_getElem? hx))
theorem SA.name {x : PySem.Str} {pos : Pos} (i : Nat) (hx : fn.names[i]? = some x) : SA P fn k (.Name x pos) (setF i) := by
  constructor
  intro A h₀ L C T M st s R v w st' r e Q hQ
  cases e
  exact wpAny_assign_Name (wp_store C R hx r fun s' R' => hQ T M s' Grow.refl R')

noncomputable def asgF (F : St → Option (V × St)) (H : V → St → Option St) (st : St) : Option (Fl × St) := (F st).bind fun r => (H r.1 r.2).map fun q => (.next, q)
theorem S1.assign {x : PySem.Str} {pos pos' : Pos} {e : Expr} {F : St → Option (V × St)} (i : Nat) (hx : fn.names[i]? = some x) (h : SE P fn k e F) (hs : ∀ L : Addr, swapsWith e (some (.Name x pos')) pos.line (fn.ev L) = pure false) :
    S1 P fn k (.Assign [.Name x pos'] e pos) (asgF F (setF i)) := by
  constructor
  intro A h₀ L C T M st s R fl st' e Q hQ
  obtain ⟨⟨v1, st1⟩, e1, e⟩ := some_bind e
  obtain ⟨st2, e2, e⟩ := some_map e
  cases e
  cases e2
  refine wpAny_Assign_Name (h.h A h₀ L C T M st s R v1 _ e1 _ fun T1 M1 s1 x1 g1 R1 r1 => ?_) (hs L)
  exact wp_store C R1 hx r1 fun s' R' => hQ T1 M1 s' _ (g1.trans (Grow.refl (st := st1))) R' .next

noncomputable def augF (i : Nat) (F : St → Option (V × St)) (f : V → V → St → Option (V × St)) (st : St) : Option (Fl × St) :=
  (getF i st).bind fun r => (F r.2).bind fun q => (f r.1 q.1 q.2).bind fun u => (setF i u.1 u.2).map fun z => (.next, z)
theorem S1.aug {x : PySem.Str} {pos pos' : Pos} {e : Expr} {op : Operator} {F : St → Option (V × St)} {f : V → V → St → Option (V × St)} (i : Nat) (hx : fn.names[i]? = some x) (hf : Op2 P (inplaceOp op) f) (h : SE P fn k e F) :
    S1 P fn k (.AugAssign (.Name x pos') op e pos) (augF i F f) := by
  constructor
  intro A h₀ L C T M st s R fl st' e Q hQ
  obtain ⟨⟨v0, st0⟩, e0, e⟩ := some_bind e
  obtain ⟨⟨v1, st1⟩, e1, e⟩ := some_bind e
  obtain ⟨⟨v2, st2⟩, e2, e⟩ := some_bind e
  obtain ⟨st3, e3, e⟩ := some_map e
  cases e
  cases e3
  have hm : x ∈ fn.names := List.mem_of_getElem? hx
  obtain ⟨m, F', E⟩ := R.fr
  unfold getF at e0
  split at e0
  · rename_i u hu
    cases e0
    obtain ⟨w, hw, r0⟩ := E i x _ hx hu
    refine wpAny_AugAssign_Name (ldn F' hw ?_ C.ok.kind (C.ok.loc x hm))
    refine h.h A h₀ L C T M _ s R v1 st1 e1 _ fun T1 M1 s1 x1 g1 R1 r1 => ?_
    refine hf fn k A h₀ L C T1 M1 st1 s1 R1 _ _ _ _ (g1.rv r0) r1 v2 st2 e2 _ fun T2 M2 s2 x2 g2 R2 r2 => ?_
    exact wp_store C R2 hx r2 fun s' R' => hQ T2 M2 s' _ ((g1.trans g2).trans (Grow.refl (st := st2))) R' .next
  · cases e0

noncomputable def ifF (B : St → Option (Bool × St)) (F G : St → Option (Fl × St)) (st : St) : Option (Fl × St) := (B st).bind fun r => if r.1 then F r.2 else G r.2
theorem S1.if_ {t : Expr} {a b : List Stmt} {pos : Pos} {B : St → Option (Bool × St)} {F G : St → Option (Fl × St)} (ht : SB P fn k t B) (ha : SS P fn k a F) (hb : SS P fn k b G) : S1 P fn k (.If t a b pos) (ifF B F G) := by
  constructor
  intro A h₀ L C T M st s R fl st' e Q hQ
  obtain ⟨⟨c, st1⟩, e1, e⟩ := some_bind e
  refine wpAny_If (ht.h A h₀ L C T M st s R c _ e1 _ fun T1 M1 s1 g1 R1 => ?_)
  cases c with
  | true => exact ha.h A h₀ L C T1 M1 _ s1 R1 fl st' e Q fun T3 M3 s3 x3 g3 R3 r3 => hQ T3 M3 s3 x3 (g1.trans g3) R3 r3
  | false => exact hb.h A h₀ L C T1 M1 _ s1 R1 fl st' e Q fun T3 M3 s3 x3 g3 R3 r3 => hQ T3 M3 s3 x3 (g1.trans g3) R3 r3

noncomputable def exprF (F : St → Option (V × St)) (st : St) : Option (Fl × St) := (F st).bind fun r => match r.1 with
  | .none => some (.next, r.2)
  | _ => none
theorem S1.expr {e : Expr} {pos : Pos} {F : St → Option (V × St)} (h : SE P fn k e F) (hi : ∀ L : Addr, interactive (fn.ev L) = false) (hs : ∀ L : Addr, swapsWith e none pos.line (fn.ev L) = pure false) : S1 P fn k (.Expr e pos) (exprF F) := by
  constructor
  intro A h₀ L C T M st s R fl st' e Q hQ
  obtain ⟨⟨v1, st1⟩, e1, e⟩ := some_bind e
  refine wpAny_Expr_any (h.h A h₀ L C T M st s R v1 _ e1 _ fun T1 M1 s1 x1 g1 R1 r1 => ?_) (hi L) (hs L)
  dsimp only at e
  split at e
  · cases e; exact hQ T1 M1 s1 _ g1 R1 .next
  · cases e

-- a while
noncomputable def whileF : Nat → (St → Option (Bool × St)) → (St → Option (Fl × St)) → St → Option (Fl × St)
  | 0, _, _, _ => none
  | n + 1, B, G, st => (B st).bind fun r => if r.1 then (G r.2).bind fun q => match q.1 with
      | .next => whileF n B G q.2
      | .cont => whileF n B G q.2
      | .brk => some (.next, q.2)
      | .ret v => some (.ret v, q.2)
    else some (.next, r.2)
abbrev WInv (P : Prm) (fn : Fn) (h₀ : Heap) (L : Addr) (B : St → Option (Bool × St)) (G : St → Option (Fl × St)) (T M : Led) (st : St) (fl : Fl) (st' : St) (n : Nat) (s : Shared) : Prop :=
  ∃ T1 M1 st1, Grow st st1 T M T1 M1 ∧ Rel P fn h₀ L T1 M1 st1 s ∧ whileF n B G st1 = some (fl, st')
theorem S1.while_ {t : Expr} {body : List Stmt} {pos : Pos} {B : St → Option (Bool × St)} {G : St → Option (Fl × St)} (n : Nat) (ht : SB P fn k t B) (hb : SS P fn k body G) : S1 P fn k (.While t body [] pos) (whileF n B G) := by
  constructor
  intro A h₀ L C T M st s R fl st' e Q hQ
  refine wpAny_While ?_
  refine codeAny_whileLoop (WInv P fn h₀ L B G T M st fl st') (fun n s' hI => ?_) n ⟨T, M, st, Grow.refl, R, e⟩
  obtain ⟨T1, M1, st1, g1, R1, e⟩ := hI
  cases n with
  | zero => cases e
  | succ n =>
    obtain ⟨⟨c, st2⟩, e2, e⟩ := some_bind e
    refine wpAny_mono (ht.h A h₀ L C T1 M1 st1 s' R1 c st2 e2 (fun b s₂ => if b = true then wpAny (model P.prog P.w) A (execs body (fn.ev L)) (fun f s₃ => match f with
            | .next | .cont => ∃ m, m < n + 1 ∧ WInv P fn h₀ L B G T M st fl st' m s₃
            | .brk => Q .next s₃
            | .ret v => Q (.ret v) s₃) NoE s₂
        else wpAny (model P.prog P.w) A (execs [] (fn.ev L)) (fun f s₃ => Q f s₃) NoE s₂) fun T2 M2 s2 g2 R2 => ?_) (fun b s₂ hb => ?_) fun _ _ q => q.elim
    · cases c with
      | false => cases e; exact wpAny_execs_nil (hQ T2 M2 s2 _ (g1.trans g2) R2 .next)
      | true =>
        obtain ⟨⟨fl3, st3⟩, e3, e⟩ := some_bind e
        refine hb.h A h₀ L C T2 M2 st2 s2 R2 fl3 st3 e3 _ fun T3 M3 s3 x3 g3 R3 r3 => ?_
        have g' := (g1.trans g2).trans g3
        dsimp only at e
        cases r3 with
        | next => exact ⟨n, Nat.lt_succ_self _, T3, M3, st3, g', R3, e⟩
        | cont => exact ⟨n, Nat.lt_succ_self _, T3, M3, st3, g', R3, e⟩
        | brk => cases e; exact hQ T3 M3 s3 _ g' R3 .next
        | ret v w r => cases e; exact hQ T3 M3 s3 _ g' R3 (.ret v w r)
    · cases b with
      | true => exact wpAny_mono hb (fun _ _ q => q) fun _ _ q => q.elim
      | false => exact wpAny_mono hb (fun _ _ q => q) fun _ _ q => q.elim
end NP

namespace NP

variable {P : Prm} {fn : Fn} {k : Nat}

theorem adr_app (a b : Led) : adr (a ++ b) = adr a ++ adr b := by simp [adr]
theorem mem_adr {T : Led} {a : Addr} (h : a ∈ adr T) : ∃ o, (a, o) ∈ T := by
  obtain ⟨p, hp, rfl⟩ := List.mem_map.mp h
  exact ⟨p.2, hp⟩

/-- iterators (X) one turn on, new tuples (nw) beside -/
theorem Rel.retick {h₀ : Heap} {L : Addr} {T0 X X' U nw M : Led} {st : St} {s : Shared} (R : Rel P fn h₀ L (T0 ++ (X ++ U)) M st s) (hX : ∀ p ∈ X, p.2.cls ≠ .type "tuple") (ea : ∀ a ∈ adr X', a ∈ adr X) (nd' : (adr X').Nodup)
    {h' : Heap} {tk : Nat} (hk : ∀ b o, b ∉ adr X → s.heap.get? b = some o → h'.get? b = some o) (hX' : ∀ p ∈ X', h'.get? p.1 = some p.2)
    (hn : ∀ p ∈ nw, h'.get? p.1 = some p.2 ∧ s.heap.get? p.1 = none) (hnd : (adr nw).Nodup) : Rel P fn h₀ L (T0 ++ (X' ++ (U ++ nw))) M st { s with heap := h', toks := tk } := by
  have tn := R.tn
  rw [adr_app, adr_app] at tn
  obtain ⟨n1, n2, n3⟩ := List.nodup_append.mp tn
  obtain ⟨n4, n5, n6⟩ := List.nodup_append.mp n2
  have alive : ∀ p ∈ T0 ++ (X ++ U) ++ M, s.heap.get? p.1 = some p.2 ∧ p.1 ≠ L ∧ h₀.get? p.1 = none := R.nw
  have hT : ∀ a o, (a, o) ∈ T0 ++ (X ++ U) → o.cls = .type "tuple" → (a, o) ∈ T0 ++ (X' ++ (U ++ nw)) := fun a o hm hc => by
    rcases List.mem_append.mp hm with h | h
    · exact List.mem_append_left _ h
    · rcases List.mem_append.mp h with h | h
      · exact absurd hc (hX _ h)
      · exact List.mem_append_right _ (List.mem_append_right _ (List.mem_append_left _ h))
  have hm : adr M <+: adr M := List.prefix_refl _
  obtain ⟨m, F, E⟩ := R.fr
  have hXn : ∀ b ∈ adr X, h₀.get? b = none ∧ b ≠ L := fun b hb => by
    obtain ⟨o, ho⟩ := mem_adr hb
    have := alive _ (List.mem_append_left _ (List.mem_append_right _ (List.mem_append_left _ ho)))
    exact ⟨this.2.2, this.2.1⟩
  have hL : L ∉ adr X := fun h => (hXn L h).2 rfl
  have F' : Fr h₀ L h' m := ⟨F.ns.at' fun o e => hk L o hL e, fun b o e => hk b o (fun h => by rw [(hXn b h).1] at e; cases e) (F.keep b o e), F.above⟩
  have fresh : ∀ p ∈ nw, p.1 ≠ L ∧ h₀.get? p.1 = none ∧ p.1 ∉ adr (T0 ++ (X ++ U)) ∧ p.1 ∉ adr M := fun p hp => by
    have e := (hn p hp).2
    refine ⟨fun q => ?_, ?_, fun q => ?_, fun q => ?_⟩
    · obtain ⟨oL, _, _, hoL, _⟩ := F.ns
      rw [q, hoL] at e; cases e
    · cases q : h₀.get? p.1 with
      | none => rfl
      | some o => rw [F.keep _ _ q] at e; cases e
    · obtain ⟨o, ho⟩ := mem_adr q
      rw [(alive _ (List.mem_append_left _ ho)).1] at e; cases e
    · obtain ⟨o, ho⟩ := mem_adr q
      rw [(alive _ (List.mem_append_right _ ho)).1] at e; cases e
  have notX : ∀ p, (p ∈ T0 ∨ p ∈ U ∨ p ∈ M) → p.1 ∉ adr X := fun p hp hx => by
    rcases hp with hp | hp | hp
    · exact n3 _ (List.mem_map_of_mem hp) _ (List.mem_append_left _ hx) rfl
    · exact n6 _ hx _ (List.mem_map_of_mem hp) rfl
    · obtain ⟨o, ho⟩ := mem_adr hx
      exact R.tp (p.1, o) (List.mem_append_right _ (List.mem_append_left _ ho)) (List.mem_map.mpr ⟨p, hp, rfl⟩)
  have old : ∀ p, (p ∈ T0 ∨ p ∈ U ∨ p ∈ M) → h'.get? p.1 = some p.2 ∧ p.1 ≠ L ∧ h₀.get? p.1 = none := fun p hp => by
    have : p ∈ T0 ++ (X ++ U) ++ M := by
      rcases hp with hp | hp | hp
      · exact List.mem_append_left _ (List.mem_append_left _ hp)
      · exact List.mem_append_left _ (List.mem_append_right _ (List.mem_append_right _ hp))
      · exact List.mem_append_right _ hp
    exact ⟨hk _ _ (notX p hp) (alive p this).1, (alive p this).2⟩
  refine { fr := ⟨m, F', fun i x v a b => ?_⟩, el := R.el, nw := fun p hp => ?_, nd := R.nd, tn := ?_, tp := ?_, ob := R.ob.mono fun _ _ r => r.mono' hT hm, lo := R.lo, gens := R.gens, drawn := R.drawn, os := R.os }
  · obtain ⟨w, e, r⟩ := E i x v a b
    exact ⟨w, e, r.mono' hT hm⟩
  · rcases List.mem_append.mp hp with hp | hp
    · rcases List.mem_append.mp hp with hp | hp
      · exact old p (.inl hp)
      · rcases List.mem_append.mp hp with hp | hp
        · have hx : p.1 ∈ adr X := ea _ (List.mem_map_of_mem hp)
          exact ⟨hX' p hp, (hXn _ hx).2, (hXn _ hx).1⟩
        · rcases List.mem_append.mp hp with hp | hp
          · exact old p (.inr (.inl hp))
          · exact ⟨(hn p hp).1, (fresh p hp).1, (fresh p hp).2.1⟩
    · exact old p (.inr (.inr hp))
  · rw [adr_app, adr_app, adr_app]
    have e : adr T0 ++ (adr X' ++ (adr U ++ adr nw)) = (adr T0 ++ (adr X' ++ adr U)) ++ adr nw := by simp
    rw [e]
    have sub : ∀ a ∈ adr T0 ++ (adr X' ++ adr U), a ∈ adr (T0 ++ (X ++ U)) := fun a ha => by
      rw [adr_app, adr_app]
      rcases List.mem_append.mp ha with h | h
      · exact List.mem_append_left _ h
      · rcases List.mem_append.mp h with h | h
        · exact List.mem_append_right _ (List.mem_append_left _ (ea _ h))
        · exact List.mem_append_right _ (List.mem_append_right _ h)
    refine List.nodup_append.mpr ⟨List.nodup_append.mpr ⟨n1, List.nodup_append.mpr ⟨nd', n5, fun a ha b hb => n6 a (ea a ha) b hb⟩, fun a ha b hb => ?_⟩, hnd, fun a ha b hb q => ?_⟩
    · rcases List.mem_append.mp hb with h | h
      · exact n3 a ha b (List.mem_append_left _ (ea b h))
      · exact n3 a ha b (List.mem_append_right _ h)
    · subst q
      obtain ⟨p, hp, rfl⟩ := List.mem_map.mp hb
      exact (fresh p hp).2.2.1 (sub _ ha)
  · intro p hp
    rcases List.mem_append.mp hp with hp | hp
    · exact R.tp p (List.mem_append_left _ hp)
    · rcases List.mem_append.mp hp with hp | hp
      · have hx : p.1 ∈ adr X := ea _ (List.mem_map_of_mem hp)
        obtain ⟨o, ho⟩ := mem_adr hx
        exact R.tp (p.1, o) (List.mem_append_right _ (List.mem_append_left _ ho))
      · rcases List.mem_append.mp hp with hp | hp
        · exact R.tp p (List.mem_append_right _ (List.mem_append_right _ hp))
        · exact (fresh p hp).2.2.2

theorem Rel.ndX {h₀ : Heap} {L : Addr} {T0 X U M : Led} {st : St} {s : Shared} (R : Rel P fn h₀ L (T0 ++ (X ++ U)) M st s) : (adr X).Nodup := by
  have tn := R.tn
  rw [adr_app, adr_app] at tn
  exact (List.nodup_append.mp (List.nodup_append.mp tn).2.1).1

/-- what a loop's iterator does, one turn (the tuple's release of the for's head with it) -/
structure It (P : Prm) (A : Around) (tgt : Expr) (I : Addr) (wr ds : List Addr) (n : Nat) (Pv : Nat → Value → Led → Prop) (Sti : Nat → Heap → Prop) : Prop where
  frame : ∀ i h h', Sti i h → (∀ b ∈ wr ++ ds, ∀ o, h.get? b = some o → h'.get? b = some o) → Sti i h'
  live : ∀ i h, Sti i h → ∀ b ∈ wr, ∃ o, h.get? b = some o ∧ o.cls ≠ .type "tuple"
  item : ∀ i (s : Shared) (Q : Value → Shared → Prop), i < n → Sti i s.heap →
    (∀ v nw h' tk, Pv i v nw → (adr nw).Nodup → (∀ p ∈ nw, h'.get? p.1 = some p.2 ∧ s.heap.get? p.1 = none) → Sti (i + 1) h' → (∀ b o, b ∉ wr → s.heap.get? b = some o → h'.get? b = some o) → Q v { s with heap := h', toks := tk }) →
    wpAny (model P.prog P.w) A (pyNext (.ref I)) (fun r s1 => match r with
      | none => False
      | some v => wpAny (model P.prog P.w) A (letOwnedTupleGo tgt (.ref I) v) (fun _ s2 => Q v s2) NoE s1) NoE s
  done : ∀ (s : Shared) (Q : Option Value → Shared → Prop), Sti n s.heap → (∀ h' tk, (∀ b o, b ∉ wr → s.heap.get? b = some o → h'.get? b = some o) → Q none { s with heap := h', toks := tk }) →
    wpAny (model P.prog P.w) A (pyNext (.ref I)) Q NoE s

noncomputable def forF (H : V → St → Option St) (G : St → Option (Fl × St)) : List V → St → Option (Fl × St)
  | [], st => some (.next, st)
  | v :: vs, st => (H v st).bind fun st1 => (G st1).bind fun r => match r.1 with
    | .next => forF H G vs r.2
    | .cont => forF H G vs r.2
    | .brk => some (.next, r.2)
    | .ret v => some (.ret v, r.2)

theorem live_led {h : Heap} : ∀ {wr : List Addr}, (∀ b ∈ wr, ∃ o, h.get? b = some o ∧ o.cls ≠ .type "tuple") → ∃ X : Led, adr X = wr ∧ (∀ p ∈ X, h.get? p.1 = some p.2) ∧ ∀ p ∈ X, p.2.cls ≠ .type "tuple"
  | [], _ => ⟨[], rfl, by simp, by simp⟩
  | b :: r, hb => by
    obtain ⟨o, ho, hc⟩ := hb b (.head _)
    obtain ⟨X, e, h1, h2⟩ := live_led (wr := r) fun c hc => hb c (.tail _ hc)
    refine ⟨(b, o) :: X, by simp [adr] at e ⊢; exact e, fun p hp => ?_, fun p hp => ?_⟩
    · rcases List.mem_cons.mp hp with rfl | hp
      · exact ho
      · exact h1 p hp
    · rcases List.mem_cons.mp hp with rfl | hp
      · exact hc
      · exact h2 p hp

/-- what stands between a loop's turns -/
abbrev LInv (P : Prm) (fn : Fn) (h₀ : Heap) (L : Addr) (H : V → St → Option St) (G : St → Option (Fl × St)) (items : List V) (wr : List Addr) (n : Nat) (Sti : Nat → Heap → Prop) (T0 M : Led) (st0 : St) (fl : Fl) (st' : St) (m : Nat) (s' : Shared) : Prop :=
  ∃ i X1 U M1 st1, m = n - i ∧ i ≤ n ∧ adr X1 = wr ∧ (∀ p ∈ X1, p.2.cls ≠ .type "tuple") ∧ Rel P fn h₀ L (T0 ++ (X1 ++ U)) M1 st1 s' ∧ Grow st0 st1 T0 M (T0 ++ (X1 ++ U)) M1 ∧ Sti i s'.heap ∧ forF H G (items.drop i) st1 = some (fl, st')

theorem wp_forLoop {tgt : Expr} {body : List Stmt} {H : V → St → Option St} {G : St → Option (Fl × St)} (ht : SA P fn k tgt H) (hb : SS P fn k body G) {A : Around} {h₀ : Heap} {L : Addr} (C : Cx P fn k A h₀ L)
    {I : Addr} {wr ds : List Addr} {n : Nat} {Pv : Nat → Value → Led → Prop} {Sti : Nat → Heap → Prop} (W : It P A tgt I wr ds n Pv Sti)
    {T0 X M : Led} {st0 : St} (hX : adr X = wr) (items : List V) (hn : items.length = n)
    (hval : ∀ T' M' i v x nw, T0 <+: T' → adr M <+: adr M' → (∀ j, j ∈ st0.pin → j < M.length → M'[j]? = M[j]?) → items[i]? = some v → Pv i x nw → Rv (T' ++ nw) (adr M') v x)
    (hds : ∀ d ∈ ds, ∃ j o, j ∈ st0.pin ∧ M[j]? = some (d, o)) {s : Shared} (R : Rel P fn h₀ L (T0 ++ X) M st0 s) (hst : Sti 0 s.heap) {fl : Fl} {st' : St} (e : forF H G items st0 = some (fl, st')) {Q : Flow → Shared → Prop}
    (hQ : ∀ T' M' s' x, Grow st0 st' T0 M T' M' → Rel P fn h₀ L T' M' st' s' → RFl T' (adr M') fl x → Q x s') :
    codeAny (model P.prog P.w) A (.forLoop tgt (.ref I) body [] (fn.ev L)) (fun r s' => match r with | .ok f => Q f s' | .error e => cameBackBy (model P.prog P.w) A (fn.ev L) NoE e s') s := by
  have hXc : ∀ p ∈ X, p.2.cls ≠ .type "tuple" := fun p hp => by
    obtain ⟨o, ho, hc⟩ := W.live 0 _ hst p.1 (hX ▸ List.mem_map_of_mem hp)
    have := (R.nw p (List.mem_append_left _ (List.mem_append_right _ hp))).1
    rw [this] at ho; cases ho; exact hc
  refine codeAny_forLoop_any (LInv P fn h₀ L H G items wr n Sti T0 M st0 fl st')
    (fun m s' hI => ?_) n ⟨0, X, [], M, st0, rfl, Nat.zero_le _, hX, hXc, by simpa using R, ⟨List.prefix_append _ _, List.prefix_refl _, rfl, fun _ _ _ => rfl⟩, hst, by simpa using e⟩
  obtain ⟨i, X1, U, M1, st1, rfl, hi, hX1, hXc1, R1, g1, hst1, e1⟩ := hI
  by_cases hlt : i < n
  · have hit : ∃ v, items[i]? = some v := ⟨items[i]'(by omega), List.getElem?_eq_getElem _⟩
    obtain ⟨v, hv⟩ := hit
    have hd : items.drop i = v :: items.drop (i + 1) := by
      rw [List.drop_eq_getElem_cons (by omega)]
      rw [List.getElem?_eq_getElem (by omega)] at hv
      rw [Option.some.inj hv]
    rw [hd] at e1
    obtain ⟨st2, e2, e3⟩ := some_bind e1
    obtain ⟨⟨fl3, st3⟩, e4, e5⟩ := some_bind e3
    refine wpAny_mono (W.item i s' (fun x s2 => wpAny (model P.prog P.w) A (assign tgt (fn.ev L) x) (fun _ s₂ => wpAny (model P.prog P.w) A (execs body (fn.ev L)) (fun f s₃ => match f with
            | .next | .cont => ∃ m, m < n - i ∧ LInv P fn h₀ L H G items wr n Sti T0 M st0 fl st' m s₃
            | .brk => Q .next s₃
            | .ret v => Q (.ret v) s₃) NoE s₂) NoE s2) hlt hst1 fun x nw h' tk hP hnd hnw hst2 hk => ?_) (fun r s1 h1 => ?_) fun _ _ q => q.elim
    · obtain ⟨X2, hX2, a2, c2⟩ := live_led (W.live (i + 1) _ hst2)
      have R2 := R1.retick (tk := tk) hXc1 (fun a h => by rw [hX1]; rw [hX2] at h; exact h) (by rw [hX2, ← hX1]; exact R1.ndX) (by rw [hX1]; exact hk) a2 hnw hnd
      have g2 : Grow st0 st1 T0 M (T0 ++ (X2 ++ (U ++ nw))) M1 := ⟨List.prefix_append _ _, g1.m, g1.pin, g1.keep⟩
      have rv : Rv (T0 ++ (X2 ++ (U ++ nw))) (adr M1) v x := by
        have := hval (T0 ++ (X2 ++ U)) M1 i v x nw (List.prefix_append _ _) g1.m g1.keep hv hP
        simpa [List.append_assoc] using this
      refine ht.h A h₀ L C _ _ st1 _ R2 v x st2 rv e2 _ fun T3 M3 s3 g3 R3 => ?_
      refine hb.h A h₀ L C T3 M3 st2 s3 R3 fl3 st3 e4 _ fun T4 M4 s4 y g4 R4 r4 => ?_
      have g5 := g3.trans g4
      have g6 : Grow st0 st3 T0 M T4 M4 := g2.trans g5
      have next : forF H G (items.drop (i + 1)) st3 = some (fl, st') → ∃ m, m < n - i ∧ LInv P fn h₀ L H G items wr n Sti T0 M st0 fl st' m s4 := fun e6 => by
        obtain ⟨Z, hZ⟩ := g5.t
        have hT4 : T4 = T0 ++ (X2 ++ (U ++ nw ++ Z)) := by rw [← hZ]; simp [List.append_assoc]
        subst hT4
        refine ⟨n - (i + 1), by omega, i + 1, X2, U ++ nw ++ Z, M4, st3, rfl, hlt, hX2, c2, R4, g6, ?_, e6⟩
        refine W.frame _ _ _ hst2 fun b hb o ho => ?_
        rcases List.mem_append.mp hb with hb | hb
        · obtain ⟨o', ho'⟩ := mem_adr (hX2 ▸ hb : b ∈ adr X2)
          have h1 := a2 _ ho'
          have h2 := (R4.nw (b, o') (List.mem_append_left _ (List.mem_append_right _ (List.mem_append_left _ ho')))).1
          rw [h1] at ho; cases ho; exact h2
        · obtain ⟨j, oj, hj, hjM⟩ := hds b hb
          have hjl := place_lt hjM
          have e7 : M1[j]? = some (b, oj) := (g1.keep j hj hjl).trans hjM
          have e8 : M4[j]? = some (b, oj) := (g6.keep j hj hjl).trans hjM
          have h1 := (R2.nw (b, oj) (List.mem_append_right _ (List.mem_of_getElem? e7))).1
          have h2 := (R4.nw (b, oj) (List.mem_append_right _ (List.mem_of_getElem? e8))).1
          rw [h1] at ho; cases ho; exact h2
      dsimp only at e5
      cases r4 with
      | next => exact next e5
      | cont => exact next e5
      | brk => cases e5; exact hQ T4 M4 s4 _ g6 R4 .next
      | ret v w r => cases e5; exact hQ T4 M4 s4 _ g6 R4 (.ret v w r)
    · cases r with
      | none => exact h1.elim
      | some x =>
        exact wpAny_mono h1 (fun _ s2 h2 => wpAny_mono h2 (fun _ s3 h3 => wpAny_mono h3 (fun _ _ q => q) fun _ _ q => q.elim) fun _ _ q => q.elim) fun _ _ q => q.elim
  · have hin : i = n := by omega
    subst hin
    rw [List.drop_of_length_le (by omega)] at e1
    cases e1
    refine wpAny_mono (W.done s' (fun r s1 => r = none ∧ Q .next s1) hst1 fun h' tk hk => ?_) (fun r s1 h1 => ?_) fun _ _ q => q.elim
    · have R2 := R1.retick (X' := []) (nw := []) (tk := tk) hXc1 (fun _ h => by cases h) List.nodup_nil (by rw [hX1]; exact hk) (fun _ h => by cases h) (fun _ h => by cases h) List.nodup_nil
      exact ⟨rfl, hQ _ _ _ _ ⟨List.prefix_append _ _, g1.m, g1.pin, g1.keep⟩ R2 .next⟩
    · rw [h1.1]
      exact wpAny_execs_nil h1.2
end NP

namespace NP

variable {P : Prm} {fn : Fn} {k : Nat}

-- targets that are tuples
structure SAs (P : Prm) (fn : Fn) (k : Nat) (ts : List Expr) (H : List V → St → Option St) : Prop where
  h : ∀ (A : Around) (h₀ : Heap) (L : Addr), Cx P fn k A h₀ L → ∀ (T M : Led) (st : St) (s : Shared), Rel P fn h₀ L T M st s →
    ∀ (vs : List V) (xs : List Value) (st' : St), All2 (Rv T (adr M)) vs xs → H vs st = some st' → ∀ (Q : Unit → Shared → Prop),
      (∀ T' M' s', Grow st st' T M T' M' → Rel P fn h₀ L T' M' st' s' → Q () s') →
      wpAny (model P.prog P.w) A (assignInOrder ((assignEach ts (fn.ev L)).map (·.2)) xs) Q NoE s
noncomputable def setsF : List Nat → List V → St → Option St
  | [], [], st => some st
  | i :: is, v :: vs, st => setsF is vs { st with env := st.env.set i (some v) }
  | _, _, _ => none
theorem SAs.nil : SAs P fn k [] (setsF []) := by
  constructor
  intro A h₀ L C T M st s R vs xs st' r e Q hQ
  cases r with
  | nil => cases e; exact assignInOrder_nil (hQ T M s Grow.refl R)
  | cons _ _ => cases e
theorem SAs.cons {x : PySem.Str} {pos : Pos} {ts : List Expr} {is : List Nat} (i : Nat) (hx : fn.names[i]? = some x) (h : SAs P fn k ts (setsF is))
    (he : ∀ L : Addr, assignEach (.Name x pos :: ts) (fn.ev L) = (false, assign (.Name x pos) (fn.ev L)) :: assignEach ts (fn.ev L)) : SAs P fn k (.Name x pos :: ts) (setsF (i :: is)) := by
  constructor
  intro A h₀ L C T M st s R vs xs st' r e Q hQ
  cases r with
  | nil => cases e
  | cons r1 r2 =>
    rw [he L]
    refine assignInOrder_cons (wpAny_assign_Name (wp_store C R hx r1 fun s' R' => ?_))
    exact h.h A h₀ L C T M _ s' R' _ _ st' r2 e Q fun T' M' s2 g2 R2 => hQ T' M' s2 ((Grow.refl (st := st) (st' := { st with env := st.env.set i (some _) })).trans g2) R2

noncomputable def untupF (n : Nat) (H : List V → St → Option St) : V → St → Option St
  | .tup vs, st => if vs.length = n then H vs st else none
  | _, _ => none
theorem SA.tuple {ts : List Expr} {kd : Nat} {pos : Pos} {H : List V → St → Option St} (n : Nat) (h : SAs P fn k ts H) (hl : ∀ L : Addr, (assignEach ts (fn.ev L)).length = n) (hf : ∀ L : Addr, (assignEach ts (fn.ev L)).findIdx? (fun x => x.1) = none) :
    SA P fn k (.Tuple ts kd pos) (untupF n H) := by
  constructor
  intro A h₀ L C T M st s R v w st' r e Q hQ
  cases v <;> first | (cases e; done) | skip
  rename_i vs
  simp only [untupF] at e
  split at e
  · rename_i hlen
    obtain ⟨ws, a, o, rfl, _, _, ht, h2⟩ := R.isTup r
    obtain ⟨m, F, E⟩ := R.fr
    refine unpackN_ F R.nw ht C.hh (by rw [hl L, List.size_toArray, ← h2.len, hlen]) (hf L) fun h' F' N' => ?_
    exact h.h A h₀ L C T M st _ (R.again E (tk := s.toks) F' N') vs ws st' h2 e Q hQ
  · cases e
theorem S1.tup {ts : List Expr} {kd : Nat} {tpos pos : Pos} {e : Expr} {F : St → Option (V × St)} {H : V → St → Option St} (h : SE P fn k e F) (ht : SA P fn k (.Tuple ts kd tpos) H)
    (hs : ∀ L : Addr, swapsWithSole [.Tuple ts kd tpos] e pos.line (fn.ev L) = pure false) (hw : ∀ L : Addr, swappedStores [.Tuple ts kd tpos] e (fn.ev L) = pure none) :
    S1 P fn k (.Assign [.Tuple ts kd tpos] e pos) (asgF F H) := by
  constructor
  intro A h₀ L C T M st s R fl st' e Q hQ
  obtain ⟨⟨v1, st1⟩, e1, e⟩ := some_bind e
  obtain ⟨st2, e2, e⟩ := some_map e
  cases e
  refine Assign_Tuple (h.h A h₀ L C T M st s R v1 _ e1 _ fun T1 M1 s1 x1 g1 R1 r1 => ?_) (hs L) (hw L)
  exact ht.h A h₀ L C T1 M1 st1 s1 R1 v1 x1 _ r1 e2 _ fun T2 M2 s2 g2 R2 => hQ T2 M2 s2 _ (g1.trans g2) R2 .next

noncomputable def set2r (i j : Nat) (v : V) (st : St) : Option St := (tupO v).bind fun l => (twoO l).map fun r => { st with env := (st.env.set j (some r.2)).set i (some r.1) }
theorem S1.tupSw {ts : List Expr} {kd : Nat} {tpos pos : Pos} {e : Expr} {x y : PySem.Str} {F : St → Option (V × St)} (i j : Nat) (hx : fn.names[i]? = some x) (hy : fn.names[j]? = some y) (h : SE P fn k e F)
    (hs : ∀ L : Addr, swapsWithSole [.Tuple ts kd tpos] e pos.line (fn.ev L) = pure false) (hw : ∀ L : Addr, swappedStores [.Tuple ts kd tpos] e (fn.ev L) = pure (some [x, y])) :
    S1 P fn k (.Assign [.Tuple ts kd tpos] e pos) (asgF F (set2r i j)) := by
  constructor
  intro A h₀ L C T M st s R fl st' e Q hQ
  obtain ⟨⟨v1, st1⟩, e1, e⟩ := some_bind e
  obtain ⟨st2, e2, e⟩ := some_map e
  cases e
  refine Assign_Tuple_swapped (h.h A h₀ L C T M st s R v1 _ e1 _ fun T1 M1 s1 x1 g1 R1 r1 => ?_) (hs L) (hw L)
  dsimp only at e2
  obtain ⟨l, i1, e2⟩ := some_bind e2
  obtain ⟨⟨v, w⟩, i2, rfl⟩ := some_map e2
  obtain rfl := tupO_inv i1
  obtain rfl := twoO_inv i2
  obtain ⟨ws, a, o, rfl, _, _, ht, h2⟩ := R1.isTup r1
  obtain ⟨m, F', E⟩ := R1.fr
  obtain ⟨b, c, rfl, rb, rc⟩ := h2.two
  refine unpackItemsN_ F' R1.nw ht C.hh rfl fun h' F2 N2 => ?_
  have R2 := R1.again E (tk := s1.toks) F2 N2
  show wpAny _ _ (assignInOrder [bindName (fn.ev L) y, bindName (fn.ev L) x] [c, b]) _ _ _
  refine assignInOrder_cons (wpAny_bindName (wp_store C R2 hy rc fun s2 R3 => ?_))
  refine assignInOrder_cons (wpAny_bindName (wp_store C R3 hx rb fun s3 R4 => ?_))
  exact assignInOrder_nil (hQ _ _ _ _ (g1.trans Grow.refl) R4 .next)

-- an item stored
noncomputable def dput (kvs : List (Int × V)) (i : Int) (v : V) : List (Int × V) :=
  if kvs.any (fun kv => kv.1 = i) then kvs.map (fun kv => if kv.1 = i then (kv.1, v) else kv) else kvs ++ [(i, v)]
theorem All2.any_key {T : Led} {ad : List Addr} {kvs : List (Int × V)} {kws : List (Int × Value)} (h : All2 (fun (p : Int × V) (q : Int × Value) => p.1 = q.1 ∧ Rv T ad p.2 q.2) kvs kws) (i : Int) :
    kvs.any (fun kv => kv.1 = i) = kws.any (fun kv => kv.1 = i) := by
  induction h with
  | nil => rfl
  | cons r _ ih => rw [List.any_cons, List.any_cons, ih, r.1]
theorem All2.mapV {α β γ δ : Type} {R : α → β → Prop} {S : γ → δ → Prop} {f : α → γ} {g : β → δ} (hfg : ∀ a b, R a b → S (f a) (g b)) {l : List α} {m : List β} (h : All2 R l m) : All2 S (l.map f) (m.map g) := by
  induction h with
  | nil => exact .nil
  | cons r _ ih => exact .cons (hfg _ _ r) ih
theorem All2.dput {T : Led} {ad : List Addr} {kvs : List (Int × V)} {kws : List (Int × Value)} (h : All2 (fun (p : Int × V) (q : Int × Value) => p.1 = q.1 ∧ Rv T ad p.2 q.2) kvs kws) (i : Int) {v : V} {w : Value} (r : Rv T ad v w) :
    All2 (fun (p : Int × V) (q : Int × Value) => p.1 = q.1 ∧ Rv T ad p.2 q.2) (NP.dput kvs i v) (stored kws i w) := by
  unfold NP.dput stored
  rw [h.any_key i]
  split
  · refine h.mapV fun a b rab => ?_
    rw [rab.1]
    split
    · exact ⟨rfl, r⟩
    · exact ⟨rab.1, rab.2⟩
  · exact h.app (.cons ⟨rfl, r⟩ .nil)

noncomputable def putF (o i v : V) (st : St) : Option St := match o, i with
  | .loc n, .int j => if n ∈ st.pin then none else match st.obs[n]? with
    | some (.dict kvs) => if kvs.length ≤ 2000 then some { st with obs := st.obs.set n (.dict (dput kvs j v)) } else none
    | some (.list vs) => if inR j ∧ j.toNat < vs.length then some { st with obs := st.obs.set n (.list (vs.set j.toNat v)) } else none
    | none => none
  | _, _ => none
noncomputable def subF3 (F G H : St → Option (V × St)) (st : St) : Option (Fl × St) := (F st).bind fun r => (G r.2).bind fun q => (H q.2).bind fun u => (putF q.1 u.1 r.1 u.2).map fun z => (.next, z)
theorem S1.sub {o i e : Expr} {pos pos' : Pos} {F G H : St → Option (V × St)} (h : SE P fn k e F) (ho : SE P fn k o G) (hi : SE P fn k i H) (hs : ∀ L : Addr, swapsWith e (some (.Subscript o i pos')) pos.line (fn.ev L) = pure false) :
    S1 P fn k (.Assign [.Subscript o i pos'] e pos) (subF3 F G H) := by
  constructor
  intro A h₀ L C T M st s R fl st' e Q hQ
  obtain ⟨⟨v1, st1⟩, e1, d1⟩ := some_bind e
  obtain ⟨⟨v2, st2⟩, e2, d2⟩ := some_bind d1
  obtain ⟨⟨v3, st3⟩, e3, d3⟩ := some_bind d2
  obtain ⟨st4, e4, d4⟩ := some_map d3
  clear e d1 d2 d3
  cases d4
  refine wpAny_Assign_Subscript (h.h A h₀ L C T M st s R v1 _ e1 _ fun T1 M1 s1 x1 g1 R1 r1 => ?_) (hs L)
  refine ho.h A h₀ L C T1 M1 st1 s1 R1 v2 _ e2 _ fun T2 M2 s2 x2 g2 R2 r2 => ?_
  refine hi.h A h₀ L C T2 M2 st2 s2 R2 v3 _ e3 _ fun T3 M3 s3 x3 g3 R3 r3 => ?_
  have q1 := (g2.trans g3).rv r1
  have q2 := g3.rv r2
  have g := (g1.trans g2).trans g3
  clear r1 r2
  dsimp only at e4
  unfold putF at e4
  split at e4
  · rename_i n j
    split at e4
    · cases e4
    · rename_i hpin
      obtain ⟨a, rfl, hn⟩ := q2.loc_inv
      obtain ⟨t, rfl⟩ := r3.int_inv
      have hpin' : n ∉ st.pin := fun hm => hpin (by rw [g.pin]; exact hm)
      split at e4
      · rename_i kvs hob
        split at e4
        · rename_i hl
          cases e4
          obtain ⟨kws, hD, h2, hlo⟩ := R3.isDict hob hn
          refine wpAny_setItem_pairs (hsz := by rw [← h2.len, sizeLine_eq]; omega) (intKind_is _ _ j t) hD fun h' hd' hs' => ?_
          obtain ⟨o', ho', hd'⟩ := Heap.dictOf_iff.mp hd'
          obtain ⟨R4, ea⟩ := R3.put hn (ob := .dict (dput kvs j v1)) (o := o') (tk := s3.toks + 1) ⟨_, hd', h2.dput j q1⟩ hs' ho' (fun _ => hlo)
          exact hQ _ _ _ _ (g.put ea (.inr hpin')) R4 .next
        · cases e4
      · rename_i vs hob
        split at e4
        · rename_i hl
          cases e4
          have hj := inR.lo hl.1
          obtain ⟨ws, n', _, hg, hL, h2⟩ := R3.isList hob hn
          refine ki_setAt hg hj.1 (by omega) (by rw [List.size_toArray, ← h2.len]; omega) ?_
          have ho' := Heap.get?_update_self (Obj.mapSeq (·.setIfInBounds j.toNat x1)) hg rfl
          have eo : Obj.mapSeq (·.setIfInBounds j.toNat x1) (lstObj ws n') = lstObj (ws.set j.toNat x1) n' := by
            simp [Obj.mapSeq]
          rw [eo] at ho'
          obtain ⟨R4, ea⟩ := R3.put hn (ob := .list (vs.set j.toNat v1)) (o := lstObj (ws.set j.toNat x1) n') (tk := s3.toks) ⟨_, _, rfl, h2.set q1 _⟩ (Heap.SameBut.update ..) ho' (fun ⟨_, e⟩ => by cases e)
          exact hQ _ _ _ _ (g.put ea (.inr hpin')) R4 .next
        · cases e4
      · cases e4
  · cases e4

-- objects of the ledger turned by the library's own rules
theorem upd_at {a : Addr} {o o' : Obj} : ∀ {l : Led} {i : Nat}, (adr l).Nodup → l[i]? = some (a, o) → Upd a o o' l (l.set i (a, o'))
  | [], _, _, e => by cases e
  | p :: r, 0, nd, e => by
    cases e
    simp only [adr, List.map_cons, List.nodup_cons] at nd
    exact .head fun q hq hqa => nd.1 (List.mem_map.mpr ⟨q, hq, hqa⟩)
  | p :: r, i + 1, nd, e => by
    simp only [adr, List.map_cons, List.nodup_cons] at nd
    have hm : (a, o) ∈ r := List.mem_of_getElem? (by simpa using e)
    exact .tail (fun hpa => nd.1 (List.mem_map.mpr ⟨_, hm, hpa.symm⟩)) (upd_at nd.2 (by simpa using e))
theorem Rel.ndAll {h₀ : Heap} {L : Addr} {T M : Led} {st : St} {s : Shared} (R : Rel P fn h₀ L T M st s) : (adr (T ++ M)).Nodup := by
  rw [adr_app]
  refine List.nodup_append.mpr ⟨R.tn, R.nd, fun a ha b hb e => ?_⟩
  subst e
  obtain ⟨o, ho⟩ := mem_adr ha
  exact R.tp _ ho hb
theorem Rel.upd {h₀ : Heap} {L : Addr} {T M : Led} {st : St} {s : Shared} (R : Rel P fn h₀ L T M st s) {n : Nat} {a : Addr} {o o' : Obj} (hM : M[n]? = some (a, o)) : Upd a o o' (T ++ M) (T ++ M.set n (a, o')) := by
  have h := upd_at (o' := o') R.ndAll (i := T.length + n) (by rw [List.getElem?_append_right (Nat.le_add_right _ _)]; simpa using hM)
  have e : (T ++ M).set (T.length + n) (a, o') = T ++ M.set n (a, o') := by
    rw [List.set_append_right _ _ (Nat.le_add_right _ _)]
    simp
  rw [e] at h
  exact h
theorem adr_set {M : Led} {n : Nat} {a : Addr} {o o' : Obj} (hM : M[n]? = some (a, o)) : adr (M.set n (a, o')) = adr M := by
  show (M.set n (a, o')).map (·.1) = M.map (·.1)
  rw [List.map_set]
  apply List.ext_getElem?
  intro i
  by_cases hi : i = n
  · subst hi
    rw [List.getElem?_set_self (by simpa using place_lt hM)]
    simp [hM]
  · rw [List.getElem?_set_ne (Ne.symm hi)]
theorem Rel.putN {h₀ : Heap} {L : Addr} {T M : Led} {st : St} {s : Shared} (R : Rel P fn h₀ L T M st s) {n : Nat} {a : Addr} {o o' : Obj} (hM : M[n]? = some (a, o)) {ob : Ob} (hr : RO P T (adr M) ob o') {m : PySem.Str → Option Value} (E : EnvR T (adr M) fn.names st.env m)
    {h' : Heap} {tk : Nat} (F' : Fr h₀ L h' m) (N' : News h₀ L h' (T ++ M.set n (a, o'))) (hd : (∃ kvs, ob = .dict kvs) → (a == sysModules) = false) :
    Rel P fn h₀ L T (M.set n (a, o')) { st with obs := st.obs.set n ob } { s with heap := h', toks := tk } where
  fr := ⟨m, F', by rw [adr_set hM]; exact E⟩
  el := R.el
  nw := N'
  nd := by rw [adr_set hM]; exact R.nd
  tn := R.tn
  tp := by rw [adr_set hM]; exact R.tp
  ob := by rw [adr_set hM]; exact R.ob.set hr n
  lo := R.lo.set hd n
  gens := R.gens
  drawn := R.drawn
  os := R.os

-- sources of a for
theorem It.ofWalks {A : Around} {tgt : Expr} {I : Addr} {ds : List Addr} {n : Nat} {Pv : Nat → Value → Prop} {Sti : Nat → Heap → Prop} (W : Walks P.prog P.w A I (I :: ds) [I] n Pv Sti)
    (hl : ∀ i h, Sti i h → ∃ o, h.get? I = some o ∧ o.cls ≠ .type "tuple")
    (hgo : ∀ i (s' : Shared) v (Q : Unit → Shared → Prop), Sti i s'.heap → Q () s' → wpAny (model P.prog P.w) A (letOwnedTupleGo tgt (.ref I) v) Q NoE s') : It P A tgt I [I] ds n (fun i v nw => nw = [] ∧ Pv i v) Sti where
  frame := fun i h h' hst hk => W.frame i h h' hst hk
  live := fun i h hst b hb => by rw [List.mem_singleton.mp hb]; exact hl i h hst
  item := fun i s Q hi hst hQ => W.item i s _ _ hi hst fun v h' tk hP hst' hk => hgo (i + 1) _ v _ hst' (hQ v [] h' tk ⟨rfl, hP⟩ List.nodup_nil (fun _ h => by cases h) hst' hk)
  done := fun s Q hst hQ => W.done s Q _ hst hQ

theorem striter_live {h : Heap} {I : Addr} {ty : String} {x : PySem.Str} {t : Tok} {i : Nat} (hty : ty ≠ "tuple") (hs : h.IsStrIter I ty x t i) : ∃ o, h.get? I = some o ∧ o.cls ≠ .type "tuple" := by
  obtain ⟨o, ho, hc, _⟩ := hs
  exact ⟨o, ho, by rw [hc]; intro e; exact hty (Value.type.inj e)⟩
theorem letGo_name {M : Model} {A : Around} {s : Shared} {x : PySem.Str} {pos : Pos} {it v : Value} {Q : Unit → Shared → Prop} (h : Q () s) : wpAny M A (letOwnedTupleGo (.Name x pos) it v) Q NoE s := wpAny_pure h

noncomputable def forStr (F : St → Option (V × St)) (H : V → St → Option St) (G : St → Option (Fl × St)) (st : St) : Option (Fl × St) := (F st).bind fun r => match r.1 with
  | .str l => forF H G (l.map fun c => .str [c]) r.2
  | _ => none
theorem S1.forStr {x : PySem.Str} {px pos : Pos} {iter : Expr} {body : List Stmt} {F : St → Option (V × St)} {G : St → Option (Fl × St)} (i : Nat) (hx : fn.names[i]? = some x) (h : SE P fn k iter F) (hb : SS P fn k body G)
    (hs : ∀ (L : Addr) (v : Value), foldedSetIterable iter (fn.ev L) v = pure v) : S1 P fn k (.For (.Name x px) iter body [] pos) (NP.forStr F (setF i) G) := by
  constructor
  intro A h₀ L C T M st s R fl st' e Q hQ
  obtain ⟨⟨v1, st1⟩, e1, e⟩ := some_bind e
  refine wpAny_For (h.h A h₀ L C T M st s R v1 _ e1 _ fun T1 M1 s1 x1 g1 R1 r1 => ?_) (hs L)
  dsimp only at e
  split at e
  · rename_i l
    obtain ⟨t, rfl⟩ := r1.str_inv
    refine wpAny_pyIter_strU ?_
    have R2 := R1.tupled (tk := s1.toks) (o := { cls := .type (strIterType (sv l)), data := .fields #[.str (sv l) t, .int 0 0] }) (h' := s1.heap.push { cls := .type (strIterType (sv l)), data := .fields #[.str (sv l) t, .int 0 0] }) (fun b x e => Heap.get?_push_of_some _ e) get_push_size
    have hst : (s1.heap.push { cls := .type (strIterType (sv l)), data := .fields #[.str (sv l) t, .int 0 0] }).IsStrIter s1.heap.objs.size (strIterType (sv l)) (sv l) t 0 := ⟨_, get_push_size, rfl, rfl⟩
    have hval : ∀ (T' M' : Led) (i : Nat) (v : V) (x : Value) (nw : Led), T1 <+: T' → adr M1 <+: adr M' → (∀ j, j ∈ st1.pin → j < M1.length → M'[j]? = M1[j]?) → (l.map fun c => V.str [c])[i]? = some v → (nw = [] ∧ SignAt (sv l) i x) → Rv (T' ++ nw) (adr M') v x := by
      intro T' M' i v x nw _ _ _ hv hP
      obtain ⟨rfl, c, u, hc, rfl⟩ := hP
      have hc' : l[i]? = some c := by simpa using hc
      rw [List.getElem?_map, hc'] at hv
      cases hv
      exact .str [c] u
    have fin : ∀ ty : String, strIterType (sv l) = ty → Walks P.prog P.w A s1.heap.objs.size [s1.heap.objs.size] [s1.heap.objs.size] (sv l).cps.size (SignAt (sv l)) (fun i h => h.IsStrIter s1.heap.objs.size ty (sv l) t i) → ty ≠ "tuple" → _ := fun ty hty W hne =>
      wp_forLoop (tgt := .Name x px) (SA.name i hx) hb C (It.ofWalks (ds := []) W (fun i h hst => striter_live hne hst) fun _ _ _ _ _ q => letGo_name q) (T0 := T1) (X := [(s1.heap.objs.size, { cls := .type (strIterType (sv l)), data := .fields #[.str (sv l) t, .int 0 0] })]) (M := M1) (st0 := st1) rfl
        (l.map fun c => .str [c]) (by simp) hval (fun _ h => by cases h) R2 (hty ▸ hst) e (Q := Q) fun T' M' s' x g R' r' => hQ T' M' s' x (g1.trans g) R' r'
    unfold strIterType at fin
    cases ha : (sv l).cps.all (· < 128) with
    | true => exact fin _ (by rw [ha]; rfl) (Walks.strAscii C.hh _ _ _) (by decide)
    | false => exact fin _ (by rw [ha]; rfl) (Walks.strWide C.hh _ _ _) (by decide)
  · cases e

-- pinned objects
theorem Rel.pinned {h₀ : Heap} {L : Addr} {T M : Led} {st : St} {s : Shared} (R : Rel P fn h₀ L T M st s) (p : List Nat) : Rel P fn h₀ L T M { st with pin := p } s :=
  { fr := R.fr, el := R.el, nw := R.nw, nd := R.nd, tn := R.tn, tp := R.tp, ob := R.ob, lo := R.lo, gens := R.gens, drawn := R.drawn, os := R.os }
noncomputable def withPin (n : Nat) (F : St → Option (Fl × St)) (st : St) : Option (Fl × St) := (F { st with pin := n :: st.pin }).map fun r => (r.1, { r.2 with pin := st.pin })

theorem Rel.notHere {h₀ : Heap} {L : Addr} {T M : Led} {st : St} {s : Shared} (R : Rel P fn h₀ L T M st s) {n : Nat} {a : Addr} (ha : (adr M)[n]? = some a) : a ≠ s.heap.objs.size := by
  obtain ⟨o, ho⟩ := mem_adr (List.mem_of_getElem? ha)
  exact Nat.ne_of_lt (Heap.lt_size (R.nw _ (List.mem_append_right _ ho)).1)

noncomputable def forDict (F : St → Option (V × St)) (H : V → St → Option St) (G : St → Option (Fl × St)) (st : St) : Option (Fl × St) := (F st).bind fun r => match r.1 with
  | .loc n => match r.2.obs[n]? with
    | some (.dict kvs) => withPin n (forF H G (kvs.map fun p => .int p.1)) r.2
    | _ => none
  | _ => none
theorem S1.forDict {x : PySem.Str} {px pos : Pos} {iter : Expr} {body : List Stmt} {F : St → Option (V × St)} {G : St → Option (Fl × St)} (i : Nat) (hx : fn.names[i]? = some x) (h : SE P fn k iter F) (hb : SS P fn k body G)
    (hs : ∀ (L : Addr) (v : Value), foldedSetIterable iter (fn.ev L) v = pure v) : S1 P fn k (.For (.Name x px) iter body [] pos) (NP.forDict F (setF i) G) := by
  constructor
  intro A h₀ L C T M st s R fl st' e Q hQ
  obtain ⟨⟨v1, st1⟩, e1, e⟩ := some_bind e
  refine wpAny_For (h.h A h₀ L C T M st s R v1 _ e1 _ fun T1 M1 s1 x1 g1 R1 r1 => ?_) (hs L)
  dsimp only at e
  split at e
  · rename_i n
    split at e
    · rename_i kvs hob
      obtain ⟨⟨fl2, st2⟩, e2, e⟩ := some_map e
      cases e
      obtain ⟨d, rfl, hn⟩ := r1.loc_inv
      obtain ⟨o, hM, hg, kws, hd, h2⟩ := R1.at hob hn
      have hlo := R1.loAt hob hn
      obtain ⟨ep, hat⟩ := (Heap.dictOf_iff.mpr ⟨o, hg, hd⟩ : s1.heap.DictOf (intKind P.prog P.w) d kws).dictAt
      refine wpAny_pyIter_dict hlo hat ?_
      have R2 := (R1.pinned (n :: st1.pin)).tupled (tk := s1.toks) (o := { cls := .type "dict_keyiterator", data := .fields #[.ref d, .int 0 0, .int kws.length 0, .int ep 0] }) (h' := s1.heap.push { cls := .type "dict_keyiterator", data := .fields #[.ref d, .int 0 0, .int kws.length 0, .int ep 0] }) (fun b x e => Heap.get?_push_of_some _ e) get_push_size
      have hne : d ≠ s1.heap.objs.size := R1.notHere hn
      have W := Walks.dictKeys (knd := intKind P.prog P.w) (A := A) (w := P.w) (prog := P.prog) C.hh s1.heap.objs.size d hne kws ep
      refine wp_forLoop (tgt := .Name x px) (SA.name i hx) hb C (It.ofWalks (ds := [d]) W (fun i h hst => ?_) fun _ _ _ _ _ q => letGo_name q) (T0 := T1) (X := [(s1.heap.objs.size, { cls := .type "dict_keyiterator", data := .fields #[.ref d, .int 0 0, .int kws.length 0, .int ep 0] })]) (M := M1) (st0 := { st1 with pin := n :: st1.pin }) rfl
        (kvs.map fun p => .int p.1) (by rw [List.length_map, h2.len]) (fun T' M' i v x nw _ _ _ hv hP => ?_) (fun b hb => ?_) R2 ⟨⟨_, get_push_size, rfl, rfl⟩, hat.push _⟩ e2 (Q := Q) fun T' M' s' x g R' r' => ?_
      · obtain ⟨⟨o, ho, hc, _⟩, _⟩ := hst
        exact ⟨o, ho, by rw [hc]; intro e; exact absurd (Value.type.inj e) (by decide)⟩
      · obtain ⟨rfl, kk, y, hk, his⟩ := hP
        obtain ⟨t, rfl⟩ := Value.isInt_shape his
        rw [List.getElem?_map] at hv
        cases q : kvs[i]? with
        | none => rw [q] at hv; cases hv
        | some p =>
          rw [q] at hv
          cases hv
          obtain ⟨p', hp', r, _⟩ := h2.get q
          rw [hk] at hp'
          cases hp'
          dsimp only
          rw [r]
          exact .int _ _
      · rw [List.mem_singleton.mp hb]
        exact ⟨n, o, .head _, hM⟩
      · refine hQ T' M' s' x (g1.trans ⟨g.t, g.m, rfl, fun j hj hl => g.keep j (.tail _ hj) hl⟩) (R'.pinned _) r'
    · cases e
  · cases e

theorem letGo_name' {M : Model} {A : Around} {x : PySem.Str} {px : Pos} {I : Addr} {Sti : Nat → Heap → Prop} : ∀ (i : Nat) (s' : Shared) (v : Value) (Q : Unit → Shared → Prop), Sti i s'.heap → Q () s' → wpAny M A (letOwnedTupleGo (.Name x px) (.ref I) v) Q NoE s' := fun _ _ _ _ _ q => letGo_name q

noncomputable def forList (F : St → Option (V × St)) (H : V → St → Option St) (G : St → Option (Fl × St)) (st : St) : Option (Fl × St) := (F st).bind fun r => match r.1 with
  | .loc n => match r.2.obs[n]? with
    | some (.list vs) => withPin n (forF H G vs) r.2
    | _ => none
  | _ => none
theorem S1.forList {tgt : Expr} {pos : Pos} {iter : Expr} {body : List Stmt} {F : St → Option (V × St)} {H : V → St → Option St} {G : St → Option (Fl × St)} (ht : SA P fn k tgt H) (h : SE P fn k iter F) (hb : SS P fn k body G)
    (hs : ∀ (L : Addr) (v : Value), foldedSetIterable iter (fn.ev L) v = pure v) : S1 P fn k (.For tgt iter body [] pos) (NP.forList F H G) := by
  constructor
  intro A h₀ L C T M st s R fl st' e Q hQ
  obtain ⟨⟨v1, st1⟩, e1, e⟩ := some_bind e
  refine wpAny_For (h.h A h₀ L C T M st s R v1 _ e1 _ fun T1 M1 s1 x1 g1 R1 r1 => ?_) (hs L)
  dsimp only at e
  split at e
  · rename_i n
    split at e
    · rename_i vs hob
      obtain ⟨⟨fl2, st2⟩, e2, e⟩ := some_map e
      cases e
      obtain ⟨d, rfl, hn⟩ := r1.loc_inv
      obtain ⟨ws, nn, hM, hg, hL, h2⟩ := R1.isList hob hn
      refine wpAny_pyIter_list hL ?_
      have R2 := (R1.pinned (n :: st1.pin)).tupled (tk := s1.toks) (o := { cls := .type "list_iterator", data := .fields #[.ref d, .int 0 0] }) (h' := s1.heap.push { cls := .type "list_iterator", data := .fields #[.ref d, .int 0 0] }) (fun b x e => Heap.get?_push_of_some _ e) get_push_size
      have hne : d ≠ s1.heap.objs.size := R1.notHere hn
      have W := Walks.list (A := A) (w := P.w) (prog := P.prog) C.hh s1.heap.objs.size d hne ws.toArray
      refine wp_forLoop ht hb C (It.ofWalks (ds := [d]) W (fun i h hst => ?_) fun i s' v Q hst q => letGo_listiter hst.1 q) (T0 := T1) (X := [(s1.heap.objs.size, { cls := .type "list_iterator", data := .fields #[.ref d, .int 0 0] })]) (M := M1) (st0 := { st1 with pin := n :: st1.pin }) rfl
        vs (by rw [List.size_toArray, h2.len]) (fun T' M' i v x nw hT hA _ hv hP => ?_) (fun b hb => ?_) R2 ⟨⟨_, get_push_size, rfl, rfl⟩, hL.push _⟩ e2 (Q := Q) fun T' M' s' x g R' r' => ?_
      · obtain ⟨⟨o, ho, hc, _⟩, _⟩ := hst
        exact ⟨o, ho, by rw [hc]; intro e; exact absurd (Value.type.inj e) (by decide)⟩
      · obtain ⟨rfl, hx⟩ := hP
        obtain ⟨w, hw, r⟩ := h2.get hv
        rw [List.getElem?_toArray] at hx
        rw [hx] at hw
        cases hw
        rw [List.append_nil]
        exact r.mono hT hA
      · rw [List.mem_singleton.mp hb]
        exact ⟨n, _, .head _, hM⟩
      · refine hQ T' M' s' x (g1.trans ⟨g.t, g.m, rfl, fun j hj hl => g.keep j (.tail _ hj) hl⟩) (R'.pinned _) r'
    · cases e
  · cases e

structure IsT (P : Prm) (fn : Fn) (x : PySem.Str) (ty : String) : Prop where
  no : nsIn P.K mainGlobals x = some none
  bt : bootBuiltins x = some (.type ty)
  nn : x ≠ "__name__"
  kd : fn.scope.names.lookup x = some .globalImplicit
  dbg : (x == ("__debug__" : PySem.Str)) = false

noncomputable def rangeL (a b c : Int) : List V := (List.range (Builtin.Range.rangeSize a b c).toNat).map fun (i : Nat) => .int (a + i * c)
noncomputable def forRange (F : St → Option (List V × St)) (H : V → St → Option St) (G : St → Option (Fl × St)) (st : St) : Option (Fl × St) := (F st).bind fun r => match oneO r.1 with
  | some v => (intO v).bind fun n => if inR n then forF H G (rangeL 0 n 1) r.2 else none
  | none => (thrO r.1).bind fun q => (intO q.1).bind fun a => (intO q.2.1).bind fun b => (intO q.2.2).bind fun c => if c = -1 ∧ b = -1 ∧ inR (a + 1) then forF H G (rangeL a b c) r.2 else none
theorem rangeSize_up (n : Int) (h : inR n = true) : Builtin.Range.rangeSize 0 n 1 = n := by
  have h := inR.lo h
  unfold Builtin.Range.rangeSize
  rw [if_pos (by decide)]
  split <;> omega
theorem rangeSize_down (a : Int) (h : inR (a + 1) = true) : Builtin.Range.rangeSize a (-1) (-1) = a + 1 := by
  have h := inR.lo h
  unfold Builtin.Range.rangeSize
  rw [if_neg (by decide)]
  have e : -(-1 : Int) = 1 := by decide
  rw [e, Int.ediv_one]
  split <;> omega
theorem small_up (n : Int) (h : inR n = true) : Builtin.Range.small 0 n 1 = true := by
  have h := inR.lo h
  exact small_one (by decide) (by decide) (by omega) (by omega)
theorem small_down (a : Int) (h : inR (a + 1) = true) : Builtin.Range.small a (-1) (-1) = true := by
  unfold Builtin.Range.small
  rw [rangeSize_down a h]
  have h := inR.lo h
  have e1 : Builtin.Range.rangeFitsLong (-1) = true := by decide
  have e2 : Builtin.Range.rangeFitsLong a = true := by
    simp only [Builtin.Range.rangeFitsLong, Bool.and_eq_true, decide_eq_true_eq]; omega
  have e3 : Builtin.Range.rangeFitsLong (a + 1) = true := by
    simp only [Builtin.Range.rangeFitsLong, Bool.and_eq_true, decide_eq_true_eq]; omega
  rw [e1, e2, e3]
  simp [Builtin.Range.rangeFitsLong]

theorem rangeIter_ne {h : Heap} {I : Addr} {x l c : Int} (hs : IsRangeIter h I x l c) : ∃ o, h.get? I = some o ∧ o.cls ≠ .type "tuple" := ⟨_, hs, fun e => absurd (Value.type.inj e) (by decide)⟩

theorem wp_forRange {x : PySem.Str} {px : Pos} {body : List Stmt} {G : St → Option (Fl × St)} (i : Nat) (hx : fn.names[i]? = some x) (hb : SS P fn k body G) {A : Around} {h₀ : Heap} {L : Addr} (C : Cx P fn k A h₀ L)
    {a b c : Int} {t u v : Tok} (hsm : Builtin.Range.small a b c = true) (hsz : 0 ≤ Builtin.Range.rangeSize a b c) {T M : Led} {st : St} {s : Shared} (R : Rel P fn h₀ L T M st s)
    {fl : Fl} {st' : St} (e : forF (setF i) G (rangeL a b c) st = some (fl, st')) {Q : Flow → Shared → Prop} (hQ : ∀ T' M' s' x, Grow st st' T M T' M' → Rel P fn h₀ L T' M' st' s' → RFl T' (adr M') fl x → Q x s') {r : Addr} (hr : IsRange s.heap r a b c t u v) :
    wpAny (model P.prog P.w) A (pyIter (.ref r)) (fun it s₂ => codeAny (model P.prog P.w) A (.forLoop (.Name x px) it body [] (fn.ev L)) (fun r s' => match r with | .ok f => Q f s' | .error e => cameBackBy (model P.prog P.w) A (fn.ev L) NoE e s') s₂) NoE s := by
  refine wpAny_pyIter_range hr hsm ?_
  have R2 := R.tupled (tk := s.toks) (o := { cls := .type "range_iterator", data := .fields #[rawInt a, rawInt (Builtin.Range.rangeSize a b c), rawInt c] }) (h' := s.heap.push { cls := .type "range_iterator", data := .fields #[rawInt a, rawInt (Builtin.Range.rangeSize a b c), rawInt c] }) (fun b x e => Heap.get?_push_of_some _ e) get_push_size
  have W := Walks.range (A := A) (w := P.w) (prog := P.prog) C.hh s.heap.objs.size a c (Builtin.Range.rangeSize a b c).toNat
  refine wp_forLoop (tgt := .Name x px) (SA.name i hx) hb C (It.ofWalks (ds := []) W (fun i h hst => rangeIter_ne hst) fun _ _ _ _ _ q => letGo_name q) (T0 := T) (X := [(s.heap.objs.size, { cls := .type "range_iterator", data := .fields #[rawInt a, rawInt (Builtin.Range.rangeSize a b c), rawInt c] })]) (M := M) (st0 := st) rfl
    (rangeL a b c) (by simp [rangeL]) (fun T' M' i v x nw _ _ _ hv hP => ?_) (fun b hb => by cases hb) R2 ?_ e (Q := Q) hQ
  · obtain ⟨rfl, t, rfl⟩ := hP
    simp only [rangeL, List.getElem?_map] at hv
    cases q : (List.range (Builtin.Range.rangeSize a b c).toNat)[i]? with
    | none => rw [q] at hv; cases hv
    | some j =>
      rw [q] at hv
      cases hv
      have hj : j = i := by
        rw [List.getElem?_range (by have := place_lt q; simpa using this)] at q
        exact (Option.some.inj q).symm
      subst hj
      exact .int _ _
  · show (s.heap.push _).get? s.heap.objs.size = _
    rw [get_push_size]
    simp [rawInt, Int.toNat_of_nonneg hsz]

theorem S1.forRange {x y : PySem.Str} {px pos np cp : Pos} {e : Expr} {rest : List Expr} {body : List Stmt} {F : St → Option (List V × St)} {G : St → Option (Fl × St)} (i : Nat) (hx : fn.names[i]? = some x) (hr : IsT P fn y "range") (h : SEs P fn k (e :: rest) F) (hb : SS P fn k body G)
    (hs : ∀ (L : Addr) (v : Value), foldedSetIterable (.Call (.Name y np) (e :: rest) [] cp) (fn.ev L) v = pure v)
    (he : ∀ L : Addr, starEach (e :: rest) (fn.ev L) = (false, eval e (fn.ev L)) :: starEach rest (fn.ev L)) (hp : ∀ L : Addr, (backTo cp (starEach rest (fn.ev L))).any (·.1) = false)
    (hc : ∀ L : Addr, eval (.Call (.Name y np) (e :: rest) [] cp) (fn.ev L) = (do callWith cp (← eval (.Name y np) (fn.ev L)) [] (backTo cp (starEach (e :: rest) (fn.ev L))) (backToKw cp (keywordEach [] (fn.ev L))))) :
    S1 P fn k (.For (.Name x px) (.Call (.Name y np) (e :: rest) [] cp) body [] pos) (NP.forRange F (setF i) G) := by
  constructor
  intro A h₀ L C T M st s R fl st' e Q hQ
  obtain ⟨⟨vs, st1⟩, e1, d1⟩ := some_bind e
  obtain ⟨m, F', E⟩ := R.fr
  refine wpAny_For (Call_ ?_ (hc L)) (hs L)
  refine name_B F' C.X (topRead_of C.top) hr.no hr.bt hr.nn ?_ C.ok.kind hr.kd hr.dbg
  refine PySem.Pv.callWith_type1 ?_ (he L) (hp L)
  refine h.h A h₀ L C cp T M st s R vs st1 e1 _ fun T1 M1 s1 xs g1 R1 r1 => ?_
  dsimp only at d1
  split at d1
  · rename_i v hv
    obtain ⟨n, i1, d2⟩ := some_bind d1
    obtain rfl := intO_inv i1
    obtain rfl := oneO_inv hv
    try dsimp only at d2
    split at d2
    · rename_i hn
      obtain ⟨w, rfl, rn⟩ := r1.one
      obtain ⟨t, rfl⟩ := rn.int_inv
      refine call_range_1 ?_
      have R2 := R1.kept (h' := s1.heap.push { cls := .type "range", data := .fields #[.int 0 s1.toks, .int n t, .int 1 (s1.toks + 1)] }) (tk := s1.toks + 1 + 1) fun b x e => Heap.get?_push_of_some _ e
      exact wp_forRange i hx hb C (small_up n hn) (by rw [rangeSize_up n hn]; exact (inR.lo hn).1) R2 d2 (fun T' M' s' x g R' r' => hQ T' M' s' x (g1.trans g) R' r') (IsRange.new ..)
    · cases d2
  · obtain ⟨⟨v1, v2, v3⟩, i0, d3⟩ := some_bind d1
    obtain ⟨a, i1, d4⟩ := some_bind d3
    obtain ⟨b, i2, d5⟩ := some_bind d4
    obtain ⟨c, i3, d6⟩ := some_bind d5
    obtain rfl := thrO_inv i0
    obtain rfl := intO_inv i1
    obtain rfl := intO_inv i2
    obtain rfl := intO_inv i3
    try dsimp only at d6
    split at d6
    · rename_i hn
      obtain ⟨rfl, rfl, ha⟩ := hn
      obtain ⟨w, w2, w3, rfl, rn, rn2, rn3⟩ := r1.three
      obtain ⟨t, rfl⟩ := rn.int_inv
      obtain ⟨u, rfl⟩ := rn2.int_inv
      obtain ⟨v, rfl⟩ := rn3.int_inv
      refine call_range_3 (by decide) ?_ (.inl (PyProof.noPylong_small (by decide)))
      have R2 := R1.kept (h' := s1.heap.push { cls := .type "range", data := .fields #[.int a t, .int (-1) u, .int (-1) v] }) (tk := s1.toks) fun b x e => Heap.get?_push_of_some _ e
      exact wp_forRange i hx hb C (small_down a ha) (by rw [rangeSize_down a ha]; exact (inR.lo ha).1) R2 d6 (fun T' M' s' x g R' r' => hQ T' M' s' x (g1.trans g) R' r') (IsRange.new ..)
    · cases d6

-- enumerate
theorem It.enum {A : Around} (hh : A.handled = none) {ts : List Expr} {kd : Nat} {pos : Pos} (e it l : Addr) (hei : e ≠ it) (hle : l ≠ e) (hli : l ≠ it) (items : Array Value) :
    It P A (.Tuple ts kd pos) e [e, it] [l] items.size (fun i v nw => ∃ T o t x, v = .ref T ∧ nw = [(T, o)] ∧ items[i]? = some x ∧ TupO o [.int i t, x])
      (fun i h => (∃ old, IsEnum h e it i old) ∧ h.IsListIter it l i ∧ h.IsList l items) := by
  have W := WalksT.enumerate (prog := P.prog) (w := P.w) (A := A) hh e it l hei hle hli items
  refine ⟨fun i h h' hst hk => W.frame i h h' hst hk, fun i h hst b hb => ?_, fun i s Q hi hst hQ => ?_, fun s Q hst hQ => W.done s Q _ hst hQ⟩
  · obtain ⟨⟨old, he⟩, ⟨o, ho, hc, _⟩, _⟩ := hst
    rcases List.mem_cons.mp hb with rfl | hb
    · exact ⟨_, he, fun e => absurd (Value.type.inj e) (by decide)⟩
    · rw [List.mem_singleton.mp hb]
      exact ⟨o, ho, by rw [hc]; intro e; exact absurd (Value.type.inj e) (by decide)⟩
  · refine W.item i s _ _ hi hst fun T vals h' tk hP hT hTup hmid hk => ?_
    obtain ⟨t, x, hx, rfl⟩ := hP
    obtain ⟨o, ho, hoc, hod⟩ := hTup
    have hap := W.apart _ _ _ hmid
    refine W.go ts kd pos i T _ _ _ hmid fun h2 hst2 hk2 => ?_
    have hnone : s.heap.get? T = none := Heap.get?_none_of_le hT
    exact hQ (.ref T) [(T, o)] h2 tk ⟨T, o, t, x, rfl, rfl, hx, hoc, hod⟩ (by simp) (fun p hp => by rw [List.mem_singleton.mp hp]; exact ⟨hk2 T o hap ho, hnone⟩) hst2 fun b z hb hz => hk2 b z hb (hk b z hb hz)

noncomputable def enumL : Nat → List V → List V
  | _, [] => []
  | i, v :: vs => .tup [.int i, v] :: enumL (i + 1) vs
theorem enumL_get : ∀ (vs : List V) (i j : Nat), (enumL i vs)[j]? = (vs[j]?).map fun v => .tup [.int ((i + j : Nat) : Int), v]
  | [], _, _ => by simp [enumL]
  | v :: vs, i, 0 => by simp [enumL]
  | v :: vs, i, j + 1 => by
    rw [enumL, List.getElem?_cons_succ, List.getElem?_cons_succ, enumL_get vs (i + 1) j]
    have : i + 1 + j = i + (j + 1) := by omega
    rw [this]
theorem enumL_len : ∀ (vs : List V) (i : Nat), (enumL i vs).length = vs.length
  | [], _ => rfl
  | _ :: vs, i => by simp [enumL, enumL_len vs]
noncomputable def forEnum (F : St → Option (V × St)) (H : V → St → Option St) (G : St → Option (Fl × St)) (st : St) : Option (Fl × St) := (F st).bind fun r => match r.1 with
  | .loc n => match r.2.obs[n]? with
    | some (.list vs) => withPin n (forF H G (enumL 0 vs)) r.2
    | _ => none
  | _ => none
end NP

namespace NP

variable {P : Prm} {fn : Fn} {k : Nat}

theorem S1.forEnum {ts : List Expr} {kd : Nat} {tpos : Pos} {y : PySem.Str} {pos np cp : Pos} {e : Expr} {body : List Stmt} {F : St → Option (V × St)} {H : V → St → Option St} {G : St → Option (Fl × St)} (hr : IsT P fn y "enumerate") (h : SE P fn k e F) (ht : SA P fn k (.Tuple ts kd tpos) H) (hb : SS P fn k body G)
    (hs : ∀ (L : Addr) (v : Value), foldedSetIterable (.Call (.Name y np) [e] [] cp) (fn.ev L) v = pure v)
    (he : ∀ L : Addr, starEach [e] (fn.ev L) = (false, eval e (fn.ev L)) :: starEach [] (fn.ev L)) (hp : ∀ L : Addr, (backTo cp (starEach [] (fn.ev L))).any (·.1) = false)
    (hc : ∀ L : Addr, eval (.Call (.Name y np) [e] [] cp) (fn.ev L) = (do callWith cp (← eval (.Name y np) (fn.ev L)) [] (backTo cp (starEach [e] (fn.ev L))) (backToKw cp (keywordEach [] (fn.ev L))))) :
    S1 P fn k (.For (.Tuple ts kd tpos) (.Call (.Name y np) [e] [] cp) body [] pos) (NP.forEnum F H G) := by
  constructor
  intro A h₀ L C T M st s R fl st' e Q hQ
  obtain ⟨⟨v1, st1⟩, e1, e⟩ := some_bind e
  obtain ⟨m, F', E⟩ := R.fr
  refine wpAny_For (Call_ ?_ (hc L)) (hs L)
  refine name_B F' C.X (topRead_of C.top) hr.no hr.bt hr.nn ?_ C.ok.kind hr.kd hr.dbg
  refine PySem.Pv.callWith_type1 ?_ (he L) (hp L)
  refine args_cons (h.h A h₀ L C T M st s R v1 st1 e1 _ fun T1 M1 s1 x1 g1 R1 r1 => args_nil ?_) (he L)
  dsimp only at e
  split at e
  · rename_i n
    split at e
    · rename_i vs hob
      obtain ⟨⟨fl2, st2⟩, e2, e⟩ := some_map e
      cases e
      obtain ⟨d, rfl, hn⟩ := r1.loc_inv
      obtain ⟨ws, nn, hM, hg, hL, h2⟩ := R1.isList hob hn
      have hdl : d < s1.heap.objs.size := Heap.lt_size hg
      refine call_enumerate_list hL fun h' hen hit hsz hk => ?_
      have hei : s1.heap.objs.size + 1 ≠ s1.heap.objs.size := Nat.succ_ne_self _
      have hle : d ≠ s1.heap.objs.size + 1 := Nat.ne_of_lt (Nat.lt_succ_of_lt hdl)
      have hli : d ≠ s1.heap.objs.size := Nat.ne_of_lt hdl
      have W := WalksT.enumerate (prog := P.prog) (w := P.w) (A := A) C.hh (s1.heap.objs.size + 1) s1.heap.objs.size d hei hle hli ws.toArray
      have I := It.enum (P := P) C.hh (ts := ts) (kd := kd) (pos := tpos) (s1.heap.objs.size + 1) s1.heap.objs.size d hei hle hli ws.toArray
      have hst : (∃ old, IsEnum h' (s1.heap.objs.size + 1) s1.heap.objs.size 0 old) ∧ h'.IsListIter s1.heap.objs.size d 0 ∧ h'.IsList d ws.toArray := ⟨⟨_, hen⟩, hit, hL.at fun o x => hk d o x⟩
      refine W.self 0 _ _ _ hst ?_
      obtain ⟨X, hX, a2, c2⟩ := live_led (I.live 0 _ hst)
      have fresh : ∀ p ∈ X, s1.heap.get? p.1 = none := fun p hp => by
        have : p.1 ∈ [s1.heap.objs.size + 1, s1.heap.objs.size] := hX ▸ List.mem_map_of_mem hp
        refine Heap.get?_none_of_le ?_
        rcases List.mem_cons.mp this with e | h
        · rw [e]; exact Nat.le_succ _
        · rw [List.mem_singleton.mp h]; exact Nat.le_refl _
      have R2 := Rel.retick (T0 := T1) (X := []) (X' := []) (U := []) (nw := X) (tk := s1.toks) (by simpa using (R1.pinned (n :: st1.pin))) (fun _ h => by cases h) (fun _ h => by cases h) List.nodup_nil (fun b o _ e => hk b o e) (fun _ h => by cases h) (fun p hp => ⟨a2 p hp, fresh p hp⟩) (by rw [hX]; simp)
      simp only [List.nil_append] at R2
      refine wp_forLoop ht hb C I (T0 := T1) (X := X) (M := M1) (st0 := { st1 with pin := n :: st1.pin }) hX
        (enumL 0 vs) (by rw [List.size_toArray, enumL_len, h2.len]) (fun T' M' i v x nw hT hA _ hv hP => ?_) (fun b hb => ?_) R2 hst e2 (Q := Q) fun T' M' s' x g R' r' => ?_
      · obtain ⟨Tt, o, t, y, rfl, rfl, hy, ho⟩ := hP
        rw [enumL_get] at hv
        cases q : vs[i]? with
        | none => rw [q] at hv; cases hv
        | some u =>
          rw [q] at hv
          cases hv
          obtain ⟨w, hw, r⟩ := h2.get q
          rw [List.getElem?_toArray] at hy
          rw [hy] at hw
          cases hw
          have hi : ((0 + i : Nat) : Int) = (i : Int) := by simp
          rw [hi]
          exact Rv.tupOf (List.mem_append_right _ (.head _)) ho (.cons (.int _ _) (.cons (r.mono (hT.trans (List.prefix_append _ _)) hA) .nil))
      · rw [List.mem_singleton.mp hb]
        exact ⟨n, _, .head _, hM⟩
      · refine hQ T' M' s' x (g1.trans ⟨g.t, g.m, rfl, fun j hj hl => g.keep j (.tail _ hj) hl⟩) (R'.pinned _) r'
    · cases e
  · cases e
end NP

namespace NP

variable {P : Prm} {fn : Fn} {k : Nat}

-- comprehensions over a text
noncomputable def CEl (P : Prm) (fn : Fn) (k : Nat) (scope : Scope) (x : PySem.Str) (elt : Expr) (f : Nat → List Nat) : Prop :=
  ∀ (A : Around) (h₀ : Heap) (L : Addr), Cx P fn k A h₀ L → ∀ (Cc : Addr) (s : Shared) (m : PySem.Str → Option Value) (c : Nat) (u : Tok) (Q E : Value → Shared → Prop),
    (∀ b o, h₀.get? b = some o → s.heap.get? b = some o) → s.heap.Ns Cc m → m x = some (.str (sv [c]) u) →
    (∀ h' tk t, (∀ b o, s.heap.get? b = some o → h'.get? b = some o) → Q (.str (sv (f c)) t) { s with heap := h', toks := tk }) → wpAny (model P.prog P.w) A (eval elt (compEnv scope Cc (fn.ev L))) Q E s
noncomputable def CTs (P : Prm) (fn : Fn) (k : Nat) (scope : Scope) (x : PySem.Str) (ifs : List Expr) (p : Nat → Bool) : Prop :=
  ∀ (A : Around) (h₀ : Heap) (L : Addr), Cx P fn k A h₀ L → ∀ (Cc : Addr) (s : Shared) (m : PySem.Str → Option Value) (c : Nat) (u : Tok) (Q : Bool → Shared → Prop) (E : Value → Shared → Prop),
    (∀ b o, h₀.get? b = some o → s.heap.get? b = some o) → s.heap.Ns Cc m → m x = some (.str (sv [c]) u) →
    (∀ h' tk, (∀ b o, s.heap.get? b = some o → h'.get? b = some o) → Q (p c) { s with heap := h', toks := tk }) →
    wpAny (model P.prog P.w) A (forIn ifs true fun c r => if r = true then do let ok ← isTrue c (compEnv scope Cc (fn.ev L)) (eval c (compEnv scope Cc (fn.ev L))); pure (ForInStep.yield ok) else pure (ForInStep.yield r)) Q E s
theorem CTs.none {scope : Scope} {x : PySem.Str} : CTs P fn k scope x [] (fun _ => true) := by
  intro A h₀ L C Cc s m c u Q E _ _ _ hQ
  exact wpAny_tests_nil (hQ s.heap s.toks fun _ _ e => e)

noncomputable def compF (F : St → Option (V × St)) (p : Nat → Bool) (f : Nat → List Nat) (st : St) : Option (V × St) := (F st).bind fun r => match r.1 with
  | .str l => if l.length ≤ 2000 then some (.loc r.2.obs.length, { r.2 with obs := r.2.obs ++ [.list ((l.filter p).map fun c => .str (f c))] }) else none
  | _ => none

noncomputable def pV (p : Nat → Bool) : Value → Bool
  | .str x _ => match x.cps.toList with | [c] => p c | _ => false
  | _ => false
theorem comp_pairs {T : Led} {ad : List Addr} {p : Nat → Bool} {f : Nat → List Nat} : ∀ (l : List Nat) (vs ys : List Value), vs.length = l.length → (∀ (j : Nat) (v : Value), vs[j]? = some v → ∃ (c : Nat) (u : Tok), l[j]? = some c ∧ v = .str ⟨#[c]⟩ u) →
    Paired (fun v r => ∃ c u t, v = Value.str ⟨#[c]⟩ u ∧ r = Value.str (sv (f c)) t) (vs.filter (pV p)) ys → All2 (Rv T ad) ((l.filter p).map fun c => .str (f c)) ys
  | [], [], ys, _, _, h => by
    simp only [List.filter_nil] at h
    cases h
    exact .nil
  | [], _ :: _, _, e, _, _ => by cases e
  | _ :: _, [], _, e, _, _ => by cases e
  | c :: l, v :: vs, ys, e, hv, h => by
    obtain ⟨c', u, hc, rfl⟩ := hv 0 v rfl
    cases hc
    have hv' : ∀ (j : Nat) (w : Value), vs[j]? = some w → ∃ (c : Nat) (u : Tok), l[j]? = some c ∧ w = .str ⟨#[c]⟩ u := fun j w hw => by simpa using hv (j + 1) w (by simpa using hw)
    have e' : vs.length = l.length := by simpa using e
    have hp : pV p (.str ⟨#[c]⟩ u) = p c := rfl
    rw [List.filter_cons, hp] at h
    rw [List.filter_cons]
    cases hpc : p c with
    | true =>
      rw [hpc, if_pos rfl] at h
      rw [if_pos rfl]
      cases h with
      | cons r t =>
        obtain ⟨c2, u2, t2, e1, e2⟩ := r
        cases e1
        subst e2
        exact .cons (.str _ _) (comp_pairs l vs _ e' hv' t)
    | false =>
      rw [hpc, if_neg (by decide)] at h
      rw [if_neg (by decide)]
      exact comp_pairs l vs ys e' hv' h

theorem SE.comp {elt iter : Expr} {x : PySem.Str} {px : Pos} {ifs : List Expr} {scope : Scope} {pos : Pos} {F : St → Option (V × St)} {p : Nat → Bool} {f : Nat → List Nat}
    (hfree : ∀ y ∈ scope.names, y.2 ≠ .free) (hcell : ∀ y ∈ scope.names, y.2 ≠ .cell) (hkind : scope.kind = .function)
    (hnames : ∀ y ∈ scope.names, y.2 = .local → scope.names.lookup y.1 = some .local) (hx : scope.names.lookup x = some .local)
    (h : SE P fn k iter F) (ht : CTs P fn k scope x ifs p) (he : CEl P fn k scope x elt f) (hs : ∀ (L : Addr) (v : Value), foldedSetIterable iter (fn.ev L) v = pure v) :
    SE P fn k (.ListComp elt [⟨.Name x px, iter, ifs, 0⟩] scope pos) (compF F p f) := by
  constructor
  intro A h₀ L C T M st s R v st' e Q hQ
  obtain ⟨⟨v1, st1⟩, e1, e⟩ := some_bind e
  refine wpAny_ListComp_walk (pV p) (fun v r => ∃ c u t, v = Value.str ⟨#[c]⟩ u ∧ r = Value.str (sv (f c)) t) hfree hcell hkind hnames hx (h.h A h₀ L C T M st s R v1 _ e1 _ fun T1 M1 s1 x1 g1 R1 r1 => ?_) (hs L)
  dsimp only at e
  split at e
  · rename_i l
    split at e
    · rename_i hl
      cases e
      obtain ⟨t, rfl⟩ := r1.str_inv
      refine wpAny_pyIter_str fun o St W hst => ?_
      obtain ⟨m, F', E⟩ := R1.fr
      have up : ∀ (h' : Heap), (∀ b o', b ∉ [s1.heap.objs.size] → (s1.heap.push o).get? b = some o' → h'.get? b = some o') → ∀ b o', s1.heap.get? b = some o' → h'.get? b = some o' :=
        fun h' hk b o' e => hk b o' (old_not_new e) (Heap.get?_push_of_some _ e)
      refine ⟨s1.heap.objs.size, [s1.heap.objs.size], [s1.heap.objs.size], (sv l).cps.size, SignAt (sv l), St, rfl, W A C.hh, by rw [sizeLine_eq]; simp; omega, hst, ?_, ⟨?_, ?_⟩, ?_⟩
      · intro b hb
        show b < (s1.heap.push o).objs.size
        rw [Heap.size_push, List.mem_singleton.mp hb]
        exact Nat.lt_succ_self _
      · intro Cc i v s3 m3 E' hP hn hm hk _
        obtain ⟨c, u, _, rfl⟩ := hP
        exact ht A h₀ L C Cc s3 m3 c u _ E' (fun b o e => up _ hk b o (F'.keep b o e)) hn hm fun h' tk hk' => ⟨rfl, h', tk, rfl, hk'⟩
      · intro Cc i v s3 m3 E' hP hp hn hm hk _
        obtain ⟨c, u, _, rfl⟩ := hP
        exact he A h₀ L C Cc s3 m3 c u _ E' (fun b o e => up _ hk b o (F'.keep b o e)) hn hm fun h' tk t hk' => ⟨⟨c, u, t, rfl, rfl⟩, h', tk, rfl, hk'⟩
      · intro D h' tk ys vs hnew hlD hplD hlen hP hF hk
        have hk2 := up h' hk
        obtain ⟨nn, hD⟩ := hplD
        have hDn : ∀ b o', s1.heap.get? b = some o' → b ≠ D := fun b o' e q => by
          subst q
          rw [Heap.get?_push_of_some _ e] at hnew
          cases hnew
        have F2 : Fr h₀ L h' m := F'.keeps hk2
        obtain ⟨oL, _, _, hoL, _⟩ := F'.ns
        have N2 : News h₀ L h' ((D, lstObj ys.toList nn) :: (T1 ++ M1)) := fun p hp => by
          rcases List.mem_cons.mp hp with rfl | hp
          · refine ⟨by simpa using hD, fun q => hDn L oL hoL q.symm, ?_⟩
            cases q : h₀.get? D with
            | none => rfl
            | some o' => exact absurd rfl (hDn _ _ (F'.keep _ _ q))
          · exact ⟨hk2 _ _ (R1.nw p hp).1, (R1.nw p hp).2⟩
        have A2 : All2 (Rv T1 (adr M1)) ((l.filter p).map fun c => .str (f c)) ys.toList := comp_pairs l vs ys.toList (by simpa using hlen) (fun j v hv => by
          obtain ⟨c, u, hc, e⟩ := hP j v hv
          exact ⟨c, u, by simpa using hc, e⟩) hF
        have R2 := R1.listAt' E (tk := tk) A2 F2 N2 (fun p hp => hDn _ _ (R1.nw p hp).1)
        exact hQ _ _ _ _ (g1.trans grow_made) R2 (.loc _ _ (by rw [R1.ob.len]; exact adr_made))
    · cases e
  · cases e
end NP

namespace NP

variable {P : Prm} {fn : Fn} {k : Nat}

theorem Rel.kept2 {h₀ : Heap} {L : Addr} {T M : Led} {st : St} {s : Shared} (R : Rel P fn h₀ L T M st s) {m : PySem.Str → Option Value} (E : EnvR T (adr M) fn.names st.env m)
    {h' : Heap} {tk : Nat} (F' : Fr h₀ L h' m) (N' : News h₀ L h' (T ++ M)) : Rel P fn h₀ L T M st { s with heap := h', toks := tk } := R.again E F' N'

-- strs and ints of a list
noncomputable def strsOf : List V → Option (List (List Nat))
  | [] => some []
  | .str x :: r => (strsOf r).map (x :: ·)
  | _ :: _ => none
theorem strsOf_are {T : Led} {ad : List Addr} : ∀ {vs : List V} {ws : List Value} {ys : List (List Nat)}, All2 (Rv T ad) vs ws → strsOf vs = some ys → StrsAre ws (ys.map sv)
  | [], _, ys, h, e => by cases h; cases e; exact .nil
  | v :: vs, _, ys, h, e => by
    cases h with
    | cons r t =>
      cases v <;> first | (cases e; done) | skip
      obtain ⟨zs, e1, rfl⟩ := some_map e
      obtain ⟨u, rfl⟩ := r.str_inv
      exact .cons _ _ (strsOf_are t e1)
noncomputable def intsOf : List V → Option (List Int)
  | [] => some []
  | .int x :: r => (intsOf r).map (x :: ·)
  | _ :: _ => none
theorem intsOf_are {T : Led} {ad : List Addr} : ∀ {vs : List V} {ws : List Value} {ys : List Int}, All2 (Rv T ad) vs ws → intsOf vs = some ys → IntsAre ws ys
  | [], _, ys, h, e => by cases h; cases e; exact .nil
  | v :: vs, _, ys, h, e => by
    cases h with
    | cons r t =>
      cases v <;> first | (cases e; done) | skip
      obtain ⟨zs, e1, rfl⟩ := some_map e
      obtain ⟨u, rfl⟩ := r.int_inv
      exact .cons _ _ (intsOf_are t e1)

noncomputable def listAt (st : St) (n : Nat) : Option (List V) := match st.obs[n]? with
  | some (.list vs) => some vs
  | _ => none
theorem listAt_is {st : St} {n : Nat} {vs : List V} (h : listAt st n = some vs) : st.obs[n]? = some (.list vs) := by
  unfold listAt at h
  split at h
  · cases h; assumption
  · cases h

-- len
noncomputable def lenF (vs : List V) (st : St) : Option (V × St) := (oneO vs).bind fun v => match v with
  | .str l => if l.length ≤ 2000 then some (.int l.length, st) else none
  | .loc n => (listAt st n).bind fun vs => if vs.length ≤ 2000 then some (.int vs.length, st) else none
  | _ => none
theorem bf_len : BF P "len" lenF := by
  intro fn k A h₀ L C T M st s R vs xs rs v st' e Q hQ
  obtain ⟨u, i0, d1⟩ := some_bind e
  obtain rfl := oneO_inv i0
  obtain ⟨_, rfl, r⟩ := rs.one
  cases u <;> first | (cases d1; done) | skip
  · rename_i l
    dsimp only at d1
    split at d1
    · rename_i hl
      cases d1
      obtain ⟨t, rfl⟩ := r.str_inv
      refine len_str (by rw [sv_len]; omega) ?_
      rw [sv_len]
      exact hQ T M _ _ Grow.refl (R.toks _) (.int _ _)
    · cases d1
  · rename_i n
    obtain ⟨vs, e1, d2⟩ := some_bind d1
    try dsimp only at d2
    split at d2
    · rename_i hl
      cases d2
      obtain ⟨a, rfl, hn⟩ := r.loc_inv
      obtain ⟨ws, n', _, _, hL, h2⟩ := R.isList (listAt_is e1) hn
      refine call_len_list hL (by rw [List.size_toArray, ← h2.len]; omega) ?_
      rw [List.size_toArray, ← h2.len]
      exact hQ T M _ _ Grow.refl (R.toks _) (.int _ _)
    · cases d2

-- min, max
/-- a comparison of strs, by what one call of it does -/
theorem cmp_strs {A : Around} {op : CmpOp} {Pv : Nat → Value → Prop} (bt : List Nat → List Nat → Bool) (ys : List (List Nat)) (hval : ∀ i v, Pv i v → ∃ t, v = .str (sv (ys.getD i [])) t)
    (one : ∀ a b t u s (Q E : Value → Shared → Prop), Q (.bool (bt a b)) s → wpAny (model P.prog P.w) A (richCompare op (.str (sv a) t) (.str (sv b) u)) Q E s) :
    CmpOf P.prog P.w A op Pv (fun i j => bt (ys.getD i []) (ys.getD j [])) := by
  intro i j x y s Q E px py hQ
  rcases hval i x px with ⟨t, e⟩
  rcases hval j y py with ⟨u, e'⟩
  rw [e, e']
  exact one _ _ t u s Q E hQ
theorem str_lt_one {A : Around} (a b : List Nat) (t u : Tok) (s : Shared) (Q E : Value → Shared → Prop) (hQ : Q (.bool (decide (a < b))) s) :
    wpAny (model P.prog P.w) A (richCompare .Lt (.str (sv a) t) (.str (sv b) u)) Q E s :=
  richCompare_gives (typeIs_str ..) (typeIs_str ..) PySem.F.slot_str_lt PySem.F.entry_str_lt (PySem.F.args_str_lt_2 ..) (gives_str_lt _ _ t u) nofun hQ
theorem str_gt_one {A : Around} (a b : List Nat) (t u : Tok) (s : Shared) (Q E : Value → Shared → Prop) (hQ : Q (.bool (decide (b < a))) s) :
    wpAny (model P.prog P.w) A (richCompare .Gt (.str (sv a) t) (.str (sv b) u)) Q E s :=
  richCompare_gives (typeIs_str ..) (typeIs_str ..) PySem.F.slot_str_gt PySem.F.entry_str_gt (PySem.F.args_str_gt_2 ..) (gives_str_gt _ _ t u) nofun hQ

theorem StrsAre.atN : ∀ {ws : List Value} {ys : List (List Nat)}, StrsAre ws (ys.map sv) → ∀ {j : Nat} {w : Value}, ws[j]? = some w → ∃ y t, ys[j]? = some y ∧ w = .str (sv y) t
  | _, [], .nil, j, w, e => by cases e
  | _, y :: ys, .cons _ t r, j, w, e => by
    cases j with
    | zero => cases e; exact ⟨y, t, rfl, rfl⟩
    | succ j => exact StrsAre.atN r (j := j) e

noncomputable def minO : List (List Nat) → Option (List Nat)
  | [a] => some a
  | [a, b] => some (if b < a then b else a)
  | _ => none
noncomputable def maxO : List (List Nat) → Option (List Nat)
  | [a] => some a
  | [a, b] => some (if a < b then b else a)
  | _ => none
noncomputable def minF (vs : List V) (st : St) : Option (V × St) := match oneO vs with
  | some v => (locO v).bind fun n => (listAt st n).bind fun us => (strsOf us).bind fun ys => (minO ys).map fun y => (.str y, st)
  | none => (twoO vs).bind fun r => (intO r.1).bind fun a => (intO r.2).map fun b => (.int (if b < a then b else a), st)
noncomputable def maxF (vs : List V) (st : St) : Option (V × St) := (oneO vs).bind fun v => (locO v).bind fun n => (listAt st n).bind fun us => (strsOf us).bind fun ys => (maxO ys).map fun y => (.str y, st)
theorem minO_is {ys : List (List Nat)} {y : List Nat} (h : minO ys = some y) : 0 < ys.length ∧ ∀ z, ys[argBest (fun i j => decide (ys.getD i [] < ys.getD j [])) (ys.length - 1)]? = some z → z = y := by
  unfold minO at h
  split at h
  · cases h; exact ⟨by simp, fun z e => by cases e; rfl⟩
  · rename_i a b
    cases h
    refine ⟨by simp, fun z e => ?_⟩
    simp only [List.length_cons, List.length_nil, argBest] at e
    by_cases c : b < a
    · simp [c] at e ⊢; exact e.symm
    · simp [c] at e ⊢; exact e.symm
  · cases h
theorem maxO_is {ys : List (List Nat)} {y : List Nat} (h : maxO ys = some y) : 0 < ys.length ∧ ∀ z, ys[argBest (fun i j => decide (ys.getD j [] < ys.getD i [])) (ys.length - 1)]? = some z → z = y := by
  unfold maxO at h
  split at h
  · cases h; exact ⟨by simp, fun z e => by cases e; rfl⟩
  · rename_i a b
    cases h
    refine ⟨by simp, fun z e => ?_⟩
    simp only [List.length_cons, List.length_nil, argBest] at e
    by_cases c : a < b
    · simp [c] at e ⊢; exact e.symm
    · simp [c] at e ⊢; exact e.symm
  · cases h

theorem wp_min {A : Around} {h₀ : Heap} {L : Addr} (C : Cx P fn k A h₀ L) {T M : Led} {st : St} {s : Shared} (R : Rel P fn h₀ L T M st s) {n : Nat} {vs : List V} (ho : st.obs[n]? = some (.list vs)) {a : Addr} (hn : (adr M)[n]? = some a)
    {ys : List (List Nat)} (hs : strsOf vs = some ys) (hy : 0 < ys.length) {Q : Value → Shared → Prop}
    (hQ : ∀ s' y t, Rel P fn h₀ L T M st s' → ys[argBest (fun i j => decide (ys.getD i [] < ys.getD j [])) (ys.length - 1)]? = some y → Q (.str (sv y) t) s') : wpAny (model P.prog P.w) A (call (.builtin "min") [.ref a]) Q NoE s := by
  obtain ⟨ws, n', _, _, hL, h2⟩ := R.isList ho hn
  have hS := strsOf_are h2 hs
  have hlen : ws.length = ys.length := by have := hS.len_eq; simpa using this
  refine call_min_walk (PySem.Flt.iter_list_ hL fun s₂ e st₂ hfp hlI => ?_)
  subst e
  have W := Walks.list (prog := P.prog) (w := P.w) (A := A.in1) C.hh _ a hlI ws.toArray
  refine ⟨_, _, _, _, _, _, _, rfl, W, st₂, hfp, by rw [List.size_toArray, hlen]; exact hy, cmp_strs (fun a b => decide (a < b)) ys (fun i v hi => ?_) str_lt_one, fun v h' tk hP hk => ?_⟩
  · obtain ⟨y, t, e1, e2⟩ := StrsAre.atN hS (by simpa using hi)
    exact ⟨t, by rw [e2, List.getD_eq_getElem?_getD, e1]; rfl⟩
  · rw [List.size_toArray, hlen] at hP
    obtain ⟨y, t, e1, rfl⟩ := StrsAre.atN hS (by simpa using hP)
    exact hQ _ y t (R.kept fun b o e => hk b o (old_not_new e) (Heap.get?_push_of_some _ e)) e1
theorem wp_max {A : Around} {h₀ : Heap} {L : Addr} (C : Cx P fn k A h₀ L) {T M : Led} {st : St} {s : Shared} (R : Rel P fn h₀ L T M st s) {n : Nat} {vs : List V} (ho : st.obs[n]? = some (.list vs)) {a : Addr} (hn : (adr M)[n]? = some a)
    {ys : List (List Nat)} (hs : strsOf vs = some ys) (hy : 0 < ys.length) {Q : Value → Shared → Prop}
    (hQ : ∀ s' y t, Rel P fn h₀ L T M st s' → ys[argBest (fun i j => decide (ys.getD j [] < ys.getD i [])) (ys.length - 1)]? = some y → Q (.str (sv y) t) s') : wpAny (model P.prog P.w) A (call (.builtin "max") [.ref a]) Q NoE s := by
  obtain ⟨ws, n', _, _, hL, h2⟩ := R.isList ho hn
  have hS := strsOf_are h2 hs
  have hlen : ws.length = ys.length := by have := hS.len_eq; simpa using this
  refine call_max_walk (PySem.Flt.iter_list_ hL fun s₂ e st₂ hfp hlI => ?_)
  subst e
  have W := Walks.list (prog := P.prog) (w := P.w) (A := A.in1) C.hh _ a hlI ws.toArray
  refine ⟨_, _, _, _, _, _, _, rfl, W, st₂, hfp, by rw [List.size_toArray, hlen]; exact hy, cmp_strs (fun a b => decide (b < a)) ys (fun i v hi => ?_) str_gt_one, fun v h' tk hP hk => ?_⟩
  · obtain ⟨y, t, e1, e2⟩ := StrsAre.atN hS (by simpa using hi)
    exact ⟨t, by rw [e2, List.getD_eq_getElem?_getD, e1]; rfl⟩
  · rw [List.size_toArray, hlen] at hP
    obtain ⟨y, t, e1, rfl⟩ := StrsAre.atN hS (by simpa using hP)
    exact hQ _ y t (R.kept fun b o e => hk b o (old_not_new e) (Heap.get?_push_of_some _ e)) e1

theorem bf_min : BF P "min" minF := by
  intro fn k A h₀ L C T M st s R vs xs rs v st' e Q hQ
  unfold minF at e
  split at e
  · rename_i u i0
    obtain rfl := oneO_inv i0
    obtain ⟨n, i1, d1⟩ := some_bind e
    obtain rfl := locO_inv i1
    obtain ⟨us, e1, d2⟩ := some_bind d1
    obtain ⟨ys, e2, d3⟩ := some_bind d2
    obtain ⟨y, e3, d4⟩ := some_map d3
    cases d4
    obtain ⟨_, rfl, r⟩ := rs.one
    obtain ⟨a, rfl, hn⟩ := r.loc_inv
    obtain ⟨hp, hb⟩ := minO_is e3
    exact wp_min C R (listAt_is e1) hn e2 hp fun s' z t R' hy => hQ T M s' _ Grow.refl R' (hb z hy ▸ .str _ _)
  · obtain ⟨⟨v1, v2⟩, i0, d5⟩ := some_bind e
    obtain rfl := twoO_inv i0
    obtain ⟨a, i1, d6⟩ := some_bind d5
    obtain ⟨b, i2, d7⟩ := some_map d6
    obtain rfl := intO_inv i1
    obtain rfl := intO_inv i2
    cases d7
    obtain ⟨_, _, rfl, r1, r2⟩ := rs.two
    obtain ⟨t, rfl⟩ := r1.int_inv
    obtain ⟨u, rfl⟩ := r2.int_inv
    obtain ⟨m, F', E⟩ := R.fr
    exact min_two_N C.hh F' R.nw fun h' tk F2 N2 => hQ T M _ _ Grow.refl (R.again E F2 N2) (.int _ _)
theorem bf_max : BF P "max" maxF := by
  intro fn k A h₀ L C T M st s R vs xs rs v st' e Q hQ
  obtain ⟨u, i0, d1⟩ := some_bind e
  obtain rfl := oneO_inv i0
  obtain ⟨n, i1, d2⟩ := some_bind d1
  obtain rfl := locO_inv i1
  obtain ⟨us, e1, d3⟩ := some_bind d2
  obtain ⟨ys, e2, d4⟩ := some_bind d3
  obtain ⟨y, e3, d5⟩ := some_map d4
  cases d5
  obtain ⟨_, rfl, r⟩ := rs.one
  obtain ⟨a, rfl, hn⟩ := r.loc_inv
  obtain ⟨hp, hb⟩ := maxO_is e3
  exact wp_max C R (listAt_is e1) hn e2 hp fun s' z t R' hy => hQ T M s' _ Grow.refl R' (hb z hy ▸ .str _ _)

-- sum
noncomputable def sumF (vs : List V) (st : St) : Option (V × St) := (oneO vs).bind fun v => (locO v).bind fun n => (listAt st n).bind fun vs => (intsOf vs).map fun ns => (.int ns.sum, st)
theorem bf_sum : BF P "sum" sumF := by
  intro fn k A h₀ L C T M st s R vs xs rs v st' e Q hQ
  obtain ⟨u, i0, d1⟩ := some_bind e
  obtain rfl := oneO_inv i0
  obtain ⟨n, i1, d2⟩ := some_bind d1
  obtain rfl := locO_inv i1
  obtain ⟨vs, e1, d3⟩ := some_bind d2
  obtain ⟨ns, e2, d4⟩ := some_map d3
  cases d4
  obtain ⟨_, rfl, r⟩ := rs.one
  obtain ⟨a, rfl, hn⟩ := r.loc_inv
  obtain ⟨ws, n', _, _, hL, h2⟩ := R.isList (listAt_is e1) hn
  obtain ⟨m, F', E⟩ := R.fr
  exact sumK C.hh F' R.nw hL (intsOf_are h2 e2) fun h' tk t' F2 N2 => hQ T M _ _ Grow.refl (R.again E F2 N2) (.int _ _)

-- repr
noncomputable def textL (x : PySem.Str) : V := .str x.cps.toList
noncomputable def reprF (vs : List V) (st : St) : Option (V × St) := (oneO vs).bind fun v => match v with
  | .bool b => some (textL (if b then "True" else "False"), st)
  | .tup l => (twoO l).bind fun r => (boolO r.1).bind fun b => (intO r.2).bind fun i => if (PyData.tuple [.bool b, .int i]).showable = true ∧ (PyData.tuple [.bool b, .int i]).shown.length ≤ 1000 then some (textL (PyData.tuple [.bool b, .int i]).shown, st) else none
  | _ => none
theorem rv_text {T : Led} {ad : List Addr} (x : PySem.Str) (t : Tok) : Rv T ad (textL x) (.str x t) := by
  have := Rv.str (T := T) (ad := ad) x.cps.toList t
  rw [sv_toList] at this
  exact this
theorem bf_repr : BF P "repr" reprF := by
  intro fn k A h₀ L C T M st s R vs xs rs v st' e Q hQ
  obtain ⟨u, i0, d1⟩ := some_bind e
  obtain rfl := oneO_inv i0
  obtain ⟨_, rfl, r⟩ := rs.one
  cases u <;> first | (cases d1; done) | skip
  · cases d1
    rw [r.bool_inv]
    exact PySem.P.repr_of_bool (hQ T M _ _ Grow.refl (R.toks _) (rv_text _ _))
  · obtain ⟨⟨v1, v2⟩, i1, d2⟩ := some_bind d1
    obtain rfl := twoO_inv i1
    obtain ⟨b, i2, d3⟩ := some_bind d2
    obtain ⟨i, i3, d4⟩ := some_bind d3
    obtain rfl := boolO_inv i2
    obtain rfl := intO_inv i3
    try dsimp only at d4
    split at d4
    · rename_i h
      cases d4
      obtain ⟨ws, a, o, rfl, hm, ho, ht, h2⟩ := R.isTup r
      have hg := (R.nw _ (List.mem_append_left _ hm)).1
      obtain ⟨w1, w2, rfl, q1, q2⟩ := h2.two
      obtain ⟨u, rfl⟩ := q2.int_inv
      rw [q1.bool_inv] at ho
      obtain ⟨hc, nn, hd⟩ := ho
      have rr : Reads s.heap (.ref a) (.tuple [.bool b, .int i]) ([] ++ ([] ++ [])) := .tuple hg hc hd (.cons (.bool b) (.cons (.int i u) .nil))
      obtain ⟨g, hg1, rfl⟩ := C.gd
      refine repr_of_reads' rr h.1 (PyData.noDict_hsm rfl) hg1 ?_ (fun _ _ e => e) (fun h' u' tk hk => hQ T M _ _ Grow.refl (R.kept hk) (rv_text _ _)) (by rw [sizeLine_eq]; exact Nat.le_trans h.2 (by decide))
      have := C.un
      have e2 : (PyData.tuple [.bool b, .int i]).depth = 1 := rfl
      rw [e2]
      omega
    · cases d4

-- methods of str
noncomputable def isStr : V → St → Bool
  | .str _, _ => true
  | _, _ => false
theorem isStr_is {v : V} {st : St} (h : isStr v st = true) : ∃ l, v = .str l := by
  cases v <;> first | exact ⟨_, rfl⟩ | (cases h)
theorem mf_find : MF P "find" "str.find" isStr := ⟨fun fn k A h₀ L C T M st s R v x r ok pl Q hQ => by
  obtain ⟨l, rfl⟩ := isStr_is ok
  obtain ⟨t, rfl⟩ := r.str_inv
  exact GM.find hQ⟩
theorem mf_lower : MF P "lower" "str.lower" isStr := ⟨fun fn k A h₀ L C T M st s R v x r ok pl Q hQ => by
  obtain ⟨l, rfl⟩ := isStr_is ok
  obtain ⟨t, rfl⟩ := r.str_inv
  exact GM.lower hQ⟩
theorem mf_index : MF P "index" "str.index" isStr := ⟨fun fn k A h₀ L C T M st s R v x r ok pl Q hQ => by
  obtain ⟨l, rfl⟩ := isStr_is ok
  obtain ⟨t, rfl⟩ := r.str_inv
  exact GM.index hQ⟩
theorem mf_join : MF P "join" "str.join" isStr := ⟨fun fn k A h₀ L C T M st s R v x r ok pl Q hQ => by
  obtain ⟨l, rfl⟩ := isStr_is ok
  obtain ⟨t, rfl⟩ := r.str_inv
  exact GM.join hQ⟩

noncomputable def findF (vs : List V) (st : St) : Option (V × St) := (thrO vs).bind fun r => (strO r.1).bind fun x => (strO r.2.1).bind fun y => (intO r.2.2).map fun i => (.int (Txt.find3 (sv x) (sv y) i), st)
theorem bf_find : BF P "str.find" findF := by
  intro fn k A h₀ L C T M st s R vs xs rs v st' e Q hQ
  obtain ⟨⟨v1, v2, v3⟩, i0, d1⟩ := some_bind e
  obtain rfl := thrO_inv i0
  obtain ⟨x, i1, d2⟩ := some_bind d1
  obtain ⟨y, i2, d3⟩ := some_bind d2
  obtain ⟨i, i3, d4⟩ := some_map d3
  obtain rfl := strO_inv i1
  obtain rfl := strO_inv i2
  obtain rfl := intO_inv i3
  cases d4
  obtain ⟨_, _, _, rfl, r1, r2, r3⟩ := rs.three
  obtain ⟨_, rfl⟩ := r1.str_inv
  obtain ⟨_, rfl⟩ := r2.str_inv
  obtain ⟨_, rfl⟩ := r3.int_inv
  exact SC.find3 (hQ T M _ _ Grow.refl (R.toks _) (.int _ _))
noncomputable def lowerF (vs : List V) (st : St) : Option (V × St) := (oneO vs).bind fun v => (strO v).bind fun x => if x.length ≤ 2000 then some (textL (Txt.lower (sv x)), st) else none
theorem bf_lower : BF P "str.lower" lowerF := by
  intro fn k A h₀ L C T M st s R vs xs rs v st' e Q hQ
  obtain ⟨u, i0, d1⟩ := some_bind e
  obtain rfl := oneO_inv i0
  obtain ⟨x, i1, d2⟩ := some_bind d1
  obtain rfl := strO_inv i1
  try dsimp only at d2
  split at d2
  · rename_i h
    cases d2
    obtain ⟨_, rfl, r1⟩ := rs.one
    obtain ⟨_, rfl⟩ := r1.str_inv
    exact SC.lower (fit_lower (by rw [sv_len]; omega)) (hQ T M _ _ Grow.refl (R.toks _) (rv_text _ _))
  · cases d2

theorem search3 (m : String) (x y : PySem.Str) (i : Int) (t u v : Tok) : Builtin.Str.searchArgs m ⟨[.str x t, .str y u, .int i v], []⟩ = pure (x, y, fromIndex x.length i, x.length) := by
  have e := congrArg (fun n => (pure (x, y, fromIndex x.length i, n) : Sem (PySem.Str × PySem.Str × Nat × Nat))) (Nat.min_self x.length)
  exact e
theorem gives_index3 (x y : PySem.Str) (i : Int) (t u v : Tok) (j : Nat) (rest : List Nat) (h : Builtin.Str.occurrences x y (fromIndex x.length i) x.length 1 = j :: rest) : Gives (Builtin.«str.index» ⟨[.str x t, .str y u, .int i v], []⟩) (.int j) := by
  unfold Builtin.«str.index»
  rw [search3, pure_bind]
  simp only [h]
  exact .of_eq rfl
noncomputable def idxAt (x y : List Nat) (i : Nat) : Option Nat := (Builtin.Str.occurrences (sv x) (sv y) i x.length 1).head?
noncomputable def indexF (vs : List V) (st : St) : Option (V × St) := match twoO vs with
  | some r => (strO r.1).bind fun x => (strO r.2).bind fun y => (idxAt x y 0).map fun (j : Nat) => (.int (j : Int), st)
  | none => (thrO vs).bind fun r => (strO r.1).bind fun x => (strO r.2.1).bind fun y => (intO r.2.2).bind fun i => (idxAt x y (fromIndex x.length i)).map fun (j : Nat) => (.int (j : Int), st)
theorem idxAt_is {x y : List Nat} {i j : Nat} (h : idxAt x y i = some j) : ∃ r, Builtin.Str.occurrences (sv x) (sv y) i (sv x).length 1 = j :: r := by
  unfold idxAt at h
  rw [sv_len]
  revert h
  cases Builtin.Str.occurrences (sv x) (sv y) i x.length 1 with
  | nil => intro h; cases h
  | cons a r => intro h; cases h; exact ⟨r, rfl⟩
theorem bf_index : BF P "str.index" indexF := by
  intro fn k A h₀ L C T M st s R vs xs rs v st' e Q hQ
  unfold indexF at e
  split at e
  · rename_i r0 i0
    obtain rfl := twoO_inv i0
    obtain ⟨x, i1, d1⟩ := some_bind e
    obtain ⟨y, i2, d2⟩ := some_bind d1
    obtain ⟨j, e1, d3⟩ := some_map d2
    cases d3
    obtain ⟨r, hr⟩ := idxAt_is e1
    obtain ⟨_, _, rfl, r1, r2⟩ := rs.two
    rw [strO_inv i1] at r1
    rw [strO_inv i2] at r2
    obtain ⟨_, rfl⟩ := r1.str_inv
    obtain ⟨_, rfl⟩ := r2.str_inv
    exact SC.index hr (hQ T M _ _ Grow.refl (R.toks _) (.int _ _))
  · obtain ⟨r0, i0, d4⟩ := some_bind e
    obtain rfl := thrO_inv i0
    obtain ⟨x, i1, d5⟩ := some_bind d4
    obtain ⟨y, i2, d6⟩ := some_bind d5
    obtain ⟨i, i3, d7⟩ := some_bind d6
    obtain ⟨j, e1, d8⟩ := some_map d7
    cases d8
    obtain ⟨r, hr⟩ := idxAt_is e1
    obtain ⟨_, _, _, rfl, r1, r2, r3⟩ := rs.three
    rw [strO_inv i1] at r1
    rw [strO_inv i2] at r2
    rw [intO_inv i3] at r3
    obtain ⟨_, rfl⟩ := r1.str_inv
    obtain ⟨_, rfl⟩ := r2.str_inv
    obtain ⟨_, rfl⟩ := r3.int_inv
    refine call_gives PySem.F.slot_str_index (typeIs_str _ _ _) PySem.F.entry_str_index (PySem.F.args_str_index_3 _ _ _) (gives_index3 (sv x) (sv y) i _ _ _ j r (by rw [sv_len] at hr ⊢; exact hr)) (hQ T M _ _ Grow.refl (R.toks _) (.int _ _))

noncomputable def joinF (vs : List V) (st : St) : Option (V × St) := (twoO vs).bind fun r => (strO r.1).bind fun x => (locO r.2).bind fun n => (listAt st n).bind fun vs => (strsOf vs).bind fun ys => if (ys.map (·.length)).sum + ys.length * x.length ≤ 2000 then some (textL (Txt.join (sv x) (ys.map sv)), st) else none
theorem bf_join : BF P "str.join" joinF := by
  intro fn k A h₀ L C T M st s R vs xs rs v st' e Q hQ
  obtain ⟨r0, i0, d1⟩ := some_bind e
  obtain rfl := twoO_inv i0
  obtain ⟨x, i1, d2⟩ := some_bind d1
  obtain ⟨n, i2, d3⟩ := some_bind d2
  obtain ⟨vs, e1, d4⟩ := some_bind d3
  obtain ⟨ys, e2, d5⟩ := some_bind d4
  try dsimp only at d5
  split at d5
  · rename_i h
    cases d5
    obtain ⟨_, _, rfl, r1, r2⟩ := rs.two
    rw [strO_inv i1] at r1
    rw [locO_inv i2] at r2
    obtain ⟨_, rfl⟩ := r1.str_inv
    obtain ⟨a, rfl, hn⟩ := r2.loc_inv
    obtain ⟨ws, n', _, _, hL, h2⟩ := R.isList (listAt_is e1) hn
    refine join_list hL (strsOf_are h2 e2) ?_ fun t' k => hQ T M _ _ Grow.refl (R.toks _) (rv_text _ _)
    rw [List.map_map, List.length_map, sv_len]
    have e3 : (ys.map ((fun x => PySem.Str.length x) ∘ sv)) = ys.map (·.length) := List.map_congr_left fun y _ => sv_len y
    have e4 : ((ys.map ((fun x => PySem.Str.length x) ∘ sv))).sum = (ys.map (·.length)).sum := by rw [e3]
    omega
  · cases d5

-- methods of list
noncomputable def isLst : V → St → Bool
  | .loc n, st => (listAt st n).isSome
  | _, _ => false
theorem isLst_is {v : V} {st : St} (h : isLst v st = true) : ∃ n vs, v = .loc n ∧ st.obs[n]? = some (.list vs) := by
  cases v <;> first | (cases h; done) | skip
  rename_i n
  cases e : listAt st n with
  | none => simp only [isLst, e] at h; cases h
  | some vs => exact ⟨n, vs, rfl, listAt_is e⟩
theorem mf_append : MF P "append" "list.append" isLst := ⟨fun fn k A h₀ L C T M st s R v x r ok pl Q hQ => by
  obtain ⟨n, vs, rfl, ho⟩ := isLst_is ok
  obtain ⟨a, rfl, hn⟩ := r.loc_inv
  obtain ⟨ws, n', hM, _, hL, h2⟩ := R.isList ho hn
  exact listMethod_K R.nw (List.mem_append_right _ (List.mem_of_getElem? hM)) PySem.F.slot_list_append PySem.F.type_list_append hQ⟩
theorem mf_insert : MF P "insert" "list.insert" isLst := ⟨fun fn k A h₀ L C T M st s R v x r ok pl Q hQ => by
  obtain ⟨n, vs, rfl, ho⟩ := isLst_is ok
  obtain ⟨a, rfl, hn⟩ := r.loc_inv
  obtain ⟨ws, n', hM, _, hL, h2⟩ := R.isList ho hn
  exact listMethod_K R.nw (List.mem_append_right _ (List.mem_of_getElem? hM)) PySem.F.slot_list_insert PySem.F.type_list_insert hQ⟩
noncomputable def appF (vs : List V) (st : St) : Option (V × St) := (twoO vs).bind fun r => (locO r.1).bind fun n => (listAt st n).bind fun vs => if vs.length ≤ 2000 ∧ n ∉ st.pin then some (.none, { st with obs := st.obs.set n (.list (vs ++ [r.2])) }) else none
theorem bf_append : BF P "list.append" appF := by
  intro fn k A h₀ L C T M st s R vs xs rs v st' e Q hQ
  obtain ⟨⟨v0, v⟩, i0, d1⟩ := some_bind e
  obtain rfl := twoO_inv i0
  obtain ⟨n, i1, d2⟩ := some_bind d1
  obtain rfl := locO_inv i1
  obtain ⟨vs, e1, d3⟩ := some_bind d2
  try dsimp only at d3
  split at d3
  · rename_i h
    cases d3
    obtain ⟨_, x, rfl, r1, r2⟩ := rs.two
    obtain ⟨a, rfl, hn⟩ := r1.loc_inv
    obtain ⟨ws, n', hM, _, hL, h2⟩ := R.isList (listAt_is e1) hn
    obtain ⟨m, F', E⟩ := R.fr
    have e3 : ws.toArray.push x = (ws ++ [x]).toArray := by simp
    refine append_K F' R.nw (R.upd (o' := listOf (ws.toArray.push x) (n' + 1)) hM) (fun h' F2 N2 => ?_) (by rw [List.size_toArray, ← h2.len, sizeLine_eq]; omega)
    have hro : RO P T (adr M) (.list (vs ++ [v])) (listOf (ws.toArray.push x) (n' + 1)) := ⟨ws ++ [x], n' + 1, by rw [e3], h2.app (.cons r2 .nil)⟩
    have R3 := R.putN hM hro (tk := s.toks) E F2 N2 (fun ⟨_, e⟩ => by cases e)
    exact hQ _ _ _ _ (Grow.put (st' := st) Grow.refl (adr_set hM) (.inr h.2)) R3 .none
  · cases d3
noncomputable def insF (vs : List V) (st : St) : Option (V × St) := (thrO vs).bind fun r => (locO r.1).bind fun n => (intO r.2.1).bind fun i => (listAt st n).bind fun vs => if i = 0 ∧ vs.length ≤ 2000 ∧ n ∉ st.pin then some (.none, { st with obs := st.obs.set n (.list (r.2.2 :: vs)) }) else none
theorem bf_insert : BF P "list.insert" insF := by
  intro fn k A h₀ L C T M st s R vs xs rs v st' e Q hQ
  obtain ⟨⟨v0, v1, v⟩, i0, d1⟩ := some_bind e
  obtain rfl := thrO_inv i0
  obtain ⟨n, i1, d2⟩ := some_bind d1
  obtain rfl := locO_inv i1
  obtain ⟨i, i2, d3⟩ := some_bind d2
  obtain rfl := intO_inv i2
  obtain ⟨vs, e1, d4⟩ := some_bind d3
  try dsimp only at d4
  split at d4
  · rename_i h
    cases d4
    obtain ⟨rfl, h1, h3⟩ := h
    obtain ⟨_, _, x, rfl, r1, r2, r3⟩ := rs.three
    obtain ⟨a, rfl, hn⟩ := r1.loc_inv
    obtain ⟨u, rfl⟩ := r2.int_inv
    obtain ⟨ws, n', hM, _, hL, h2⟩ := R.isList (listAt_is e1) hn
    obtain ⟨m, F', E⟩ := R.fr
    have e3 : kl_ins ws.toArray.toList 0 x = x :: ws := by rw [List.toList_toArray]; rfl
    refine kl_insert F' R.nw (by decide) e3 (R.upd (o' := listOf (x :: ws).toArray (n' + 1)) hM) (by show ws.length ≤ _; rw [← h2.len, sizeLine_eq]; omega) (fun h' F2 N2 => ?_)
    have hro : RO P T (adr M) (.list (v :: vs)) (listOf (x :: ws).toArray (n' + 1)) := ⟨x :: ws, n' + 1, rfl, .cons r3 h2⟩
    have R3 := R.putN hM hro (tk := s.toks) E F2 N2 (fun ⟨_, e⟩ => by cases e)
    exact hQ _ _ _ _ (Grow.put (st' := st) Grow.refl (adr_set hM) (.inr h3)) R3 .none
  · cases d4

-- lists equal to the empty list
noncomputable def eqF2 : V → V → St → Option Bool
  | .loc n, .loc m, st => (listAt st n).bind fun us => (listAt st m).bind fun ws => (strsOf us).bind fun ys => if ws.length = 0 ∧ ys.all (fun y => PyData.strOk (sv y)) = true then some us.isEmpty else none
  | a, b, st => eqF a b st
theorem carried_strs {T : Led} {ad : List Addr} : ∀ {vs : List V} {ws : List Value} {ys : List (List Nat)}, All2 (Rv T ad) vs ws → strsOf vs = some ys → CarriedAll ws (ys.map fun y => PyData.str (sv y))
  | [], _, ys, h, e => by cases h; cases e; exact .nil
  | v :: vs, _, ys, h, e => by
    cases h with
    | cons r t =>
      cases v <;> first | (cases e; done) | skip
      obtain ⟨zs, e1, rfl⟩ := some_map e
      obtain ⟨u, rfl⟩ := r.str_inv
      exact .cons (.str _ _) (carried_strs t e1)
theorem canLay_strs : ∀ (ys : List (List Nat)), ys.all (fun y => PyData.strOk (sv y)) = true → PyData.canLayAll0 (ys.map fun y => PyData.str (sv y)) = true
  | [], _ => rfl
  | y :: ys, h => by
    simp only [List.all_cons, Bool.and_eq_true] at h
    simp only [List.map_cons, PyData.canLayAll0, PyData.canLay0, Bool.and_eq_true]
    exact ⟨h.1, canLay_strs ys h.2⟩
theorem depth_strs : ∀ (ys : List (List Nat)), PyData.depthAll (ys.map fun y => PyData.str (sv y)) = 0
  | [] => rfl
  | y :: ys => by simp only [List.map_cons, PyData.depthAll, PyData.depth, depth_strs ys]; rfl
theorem eq2_eq {a b : V} {st : St} (hab : ¬ ∃ n m, a = .loc n ∧ b = .loc m) : eqF2 a b st = eqF a b st := by
  cases a <;> first | rfl | (cases b <;> first | rfl | exact absurd ⟨_, _, rfl, rfl⟩ hab)
theorem op_eq2 : Cmp2 P .Eq eqF2 := by
  intro fn k A h₀ L C T M st s R a b x y ra rb c e Q hQ
  by_cases hab : ∃ n m, a = .loc n ∧ b = .loc m
  · obtain ⟨n, m, rfl, rfl⟩ := hab
    simp only [eqF2] at e
    obtain ⟨us, e1, e⟩ := some_bind e
    obtain ⟨vs, e2, e⟩ := some_bind e
    obtain ⟨ys, e3, e⟩ := some_bind e
    try dsimp only at e
    split at e
    · rename_i h
      cases e
      obtain ⟨a, rfl, hn⟩ := ra.loc_inv
      obtain ⟨b, rfl, hm⟩ := rb.loc_inv
      obtain ⟨ws, n1, _, _, hL, h2⟩ := R.isList (listAt_is e1) hn
      obtain ⟨zs, n2, _, _, hL', h3⟩ := R.isList (listAt_is e2) hm
      cases vs with
      | cons v vs => exact absurd h.1 (by simp)
      | nil =>
      cases h3.nil_inv
      have r1 := reads_newData hL (carried_strs h2 e3)
      have r2 : Reads s.heap (.ref b) (.list []) [b] := reads_newData (ds := []) hL' .nil
      have hsh : PySem.SeqAt.shaped (.list (ys.map fun y => PyData.str (sv y))) = true := by
        unfold PySem.SeqAt.shaped
        simp only [PyData.canLay0, PyData.depth, canLay_strs ys h.2, depth_strs, Bool.true_and]
        decide
      have hun := C.un
      refine eq_dataH r1 r2 hsh (by decide) (by omega) ?_
      have e4 : PyData.eqv (.list (ys.map fun y => PyData.str (sv y))) (.list []) = us.isEmpty := by
        cases us with
        | nil => cases e3; rfl
        | cons u us =>
          cases u <;> first | (cases e3; done) | skip
          obtain ⟨zs, _, rfl⟩ := some_map e3
          rfl
      rw [e4]
      exact hQ s R
    · cases e
  · rw [eq2_eq hab] at e
    exact op_eq fn k A h₀ L C T M st s R a b x y ra rb c e Q hQ
end NP

namespace NP

variable {P : Prm} {fn : Fn} {k : Nat}

noncomputable def lowC (c : Nat) : List Nat := (Txt.lower (sv [c])).cps.toList
noncomputable def lowF (c : Nat) : List Nat := if (lowC c).length = 1 then lowC c else [c]

theorem cn_load {A : Around} {E : Value → Shared → Prop} {scope : Scope} {Cc : Addr} {env : Env} {s : Shared} {m : PySem.Str → Option Value} {x : PySem.Str} {pos : Pos} {v : Value} {Q : Value → Shared → Prop}
    (hk : scope.kind = .function) (hx : scope.names.lookup x = some .local) (hn : s.heap.Ns Cc m) (hv : m x = some v) (hd : (x == ("__debug__" : PySem.Str)) = false) (h : Q v s) :
    wpAny (model P.prog P.w) A (eval (.Name x pos) (compEnv scope Cc env)) Q E s :=
  wpAny_Name (wpAny_loadName_local hk hx hn hv h) hd
theorem cn_builtin {A : Around} {E : Value → Shared → Prop} {scope : Scope} {Cc : Addr} {s : Shared} {x : PySem.Str} {pos : Pos} {v : Value} {Q : Value → Shared → Prop} {h₀ : Heap} {L : Addr} (C : Cx P fn k A h₀ L)
    (hk : scope.kind = .function) (hx : scope.names.lookup x = some .globalImplicit) (keep : ∀ b o, h₀.get? b = some o → s.heap.get? b = some o)
    (e : nsIn P.K mainGlobals x = some none) (hv : bootBuiltins x = some v) (hn : x ≠ "__name__") (hd : (x == ("__debug__" : PySem.Str)) = false) (h : Q v s) :
    wpAny (model P.prog P.w) A (eval (.Name x pos) (compEnv scope Cc (fn.ev L))) Q E s := by
  have T := topRead_of C.top
  have T2 := C.top.keeps keep
  have T' := topRead_of T2
  exact Name_function_global hk hx (loadGlobal_builtin T'.g (mg_none_of (C.X.keeps keep) T'.g e) T'.b ((T'.builtins x hn).trans hv) h) hd

/-- the tree of c.lower() in a comprehension -/
noncomputable def LowCall (fn : Fn) (scope : Scope) (q1 q2 q3 : Pos) (pl : Addr → Addr → Sem Bool) : Prop := ∀ L Cc : Addr,
  eval (.Call (.Attribute (.Name "c" q1) "lower" q2) [] [] q3) (compEnv scope Cc (fn.ev L)) = (do
      let ov ← eval (.Name "c" q1) (compEnv scope Cc (fn.ev L))
      standAt q2.atName
      let (f, first) ← holding [ov] (getMethod ov "lower" (pl L Cc))
      callWith q3 f first (backTo q3 (starEach [] (compEnv scope Cc (fn.ev L)))) [])

theorem CEl.low {scope : Scope} {p1 p2 p3 p4 p5 p6 p7 p8 p9 p10 p11 p12 : Pos} {kd : Nat} (hk : scope.kind = .function) (hc : scope.names.lookup ("c" : PySem.Str) = some .local) (hl : scope.names.lookup ("len" : PySem.Str) = some .globalImplicit)
    (hn : nsIn P.K mainGlobals ("len" : PySem.Str) = some none) {pl pl' : Addr → Addr → Sem Bool} (h1 : LowCall fn scope p2 p3 p4 pl) (h2 : LowCall fn scope p8 p9 p10 pl') :
    CEl P fn k scope "c" (.IfExp (.Compare (.Call (.Name "len" p1) [.Call (.Attribute (.Name "c" p2) "lower" p3) [] [] p4] [] p5) [.Eq] [.Constant (.int 1) kd p6] p7) (.Call (.Attribute (.Name "c" p8) "lower" p9) [] [] p10) (.Name "c" p11) p12) lowF := by
  intro A h₀ L C Cc s m c u Q E keep hNs hm hQ
  have low : ∀ {s' : Shared} {q1 q2 q3 : Pos} {Q' : Value → Shared → Prop} {pl : Addr → Addr → Sem Bool}, LowCall fn scope q1 q2 q3 pl → s'.heap.Ns Cc m → (∀ t, Q' (.str (sv (lowC c)) t) { s' with toks := s'.toks + 1 }) →
      wpAny (model P.prog P.w) A (eval (.Call (.Attribute (.Name "c" q1) "lower" q2) [] [] q3) (compEnv scope Cc (fn.ev L))) Q' E s' := by
    intro s' q1 q2 q3 Q' pl hc' hN h
    refine MethodCall_ (cn_load hk hc hN hm (by decide) (GM.lower (callWith_method0 ?_))) (hc' L Cc)
    refine SC.lower (fit_lower (by rw [sv_len]; simp)) ?_
    have := h s'.toks
    unfold lowC at this
    rw [sv_toList] at this
    exact this
  refine IfExp_ (wpAny_isTrue_Compare1 (Call_ (cn_builtin C hk hl keep hn rfl (by decide) (by decide) ?_)) rfl)
  refine PyProof.Rows.callWith_builtin1 (args_cons (low h1 hNs fun t => ?_) rfl) rfl rfl
  have hlen : (lowC c).length ≤ 3 := by
    have h1 := len_lower (sv [c])
    have e : (lowC c).length = (Txt.lower (sv [c])).length := by simp [lowC, PySem.Str.length]
    rw [e]
    rw [sv_len] at h1
    exact h1
  refine args_nil (len_str (by rw [sv_len]; omega) ?_)
  rw [sv_len]
  refine wpAny_Constant_int (eq_int (wpAny_truthy_bool ?_))
  cases e : (((lowC c).length : Int) == 1) with
  | true =>
    refine low h2 hNs fun t => ?_
    have e2 : lowF c = lowC c := by
      unfold lowF
      rw [if_pos (by have := eq_of_beq e; omega)]
    rw [← e2]
    exact hQ s.heap _ t fun _ _ e => e
  | false =>
    refine cn_load hk hc hNs hm (by decide) ?_
    have e2 : lowF c = [c] := by
      unfold lowF
      rw [if_neg (by intro h; rw [h] at e; cases e)]
    have := hQ s.heap (s.toks + 1 + 1 + 1 + 1) u fun _ _ e => e
    rw [e2] at this
    exact this
theorem CEl.self {scope : Scope} {p1 : Pos} (hk : scope.kind = .function) (hc : scope.names.lookup ("c" : PySem.Str) = some .local) :
    CEl P fn k scope "c" (.Name "c" p1) (fun c => [c]) := by
  intro A h₀ L C Cc s m c u Q E keep hNs hm hQ
  exact cn_load hk hc hNs hm (by decide) (hQ s.heap s.toks u fun _ _ e => e)
theorem CEl.quote {scope : Scope} {p1 p2 p3 : Pos} {kd : Nat} (hk : scope.kind = .function) (hc : scope.names.lookup ("c" : PySem.Str) = some .local) :
    CEl P fn k scope "c" (.BinOp (.Constant (.str "\\") kd p1) .Add (.Name "c" p2) p3) (fun c => [92, c]) := by
  intro A h₀ L C Cc s m c u Q E keep hNs hm hQ
  refine wpAny_BinOp (Constant_str (cn_load hk hc hNs hm (by decide) ?_))
  have e1 : ("\\" : PySem.Str) = sv [92] := by decide
  rw [e1]
  refine SBL.add (fun t' k' _ => ?_) (by rw [sv_len, sv_len, sizeLine_eq]; simp)
  rw [sv_app]
  exact hQ s.heap _ t' fun _ _ e => e
theorem CTs.inMarks {scope : Scope} {p1 p2 p3 : Pos} {kd : Nat} (hk : scope.kind = .function) (hc : scope.names.lookup ("c" : PySem.Str) = some .local) :
    CTs P fn k scope "c" [.Compare (.Name "c" p1) [.In] [.Constant (.str "*?[\\") kd p2] p3] (fun c => decide (c ∈ [42, 63, 91, 92])) := by
  intro A h₀ L C Cc s m c u Q E keep hNs hm hQ
  refine wpAny_tests_one (wpAny_isTrue_Compare1 (cn_load hk hc hNs hm (by decide) (Constant_str ?_)) rfl)
  have e1 : ("*?[\\" : PySem.Str) = sv [42, 63, 91, 92] := by decide
  rw [e1]
  refine in_str (wpAny_truthy_bool ?_)
  rw [PySem.StrLaws.found_one]
  simp only [List.toList_toArray]
  exact hQ s.heap _ fun _ _ e => e
end NP

namespace NP
set_option maxHeartbeats 8000000 in
open_top hd for PySem.Challenge.rw_np0128_01
end NP

namespace NP

variable {P : Prm} {fn : Fn} {k : Nat}

theorem SE.str {x : PySem.Str} {kd : Nat} {pos : Pos} : SE P fn k (.Constant (.str x) kd pos) (fun st => some (textL x, st)) :=
  SE.strC (l := x.cps.toList) (sv_toList x).symm
theorem hst_some {α : Prop} {F : St → Option (V × St)} : ∀ x, partOf x = some none → ∀ r q, optF F r = some (x, q) → α := by
  intro x h r q e
  obtain ⟨⟨v, st⟩, _, e⟩ := some_map e
  cases e
  cases v <;> cases h
theorem hdf_id {n : Nat} (k : Nat) (hk : k ≤ n) : ∀ (T : Led) (ad : List Addr) (vs : List V) (xs : List Value) (us : List V), All2 (Rv T ad) vs xs → (if vs.length = k then some vs else none) = some us → All2 (Rv T ad) us (id xs) ∧ us.length ≤ n := by
  intro T ad vs xs us h e
  split at e
  · rename_i hl; cases e; exact ⟨h, hl ▸ hk⟩
  · cases e
theorem len_if {vs us : List V} {k : Nat} (h : (if vs.length = k then some vs else none) = some us) : vs.length = k := by
  split at h
  · assumption
  · cases h
theorem len0 {α : Type} {xs : List α} (h : 0 = xs.length) : xs = [] := List.length_eq_zero_iff.mp h.symm
theorem lenS {α : Type} {xs : List α} {n : Nat} (h : n + 1 = xs.length) : ∃ a t, xs = a :: t ∧ n = t.length := by
  cases xs with
  | nil => cases h
  | cons a t => exact ⟨a, t, rfl, Nat.succ.inj h⟩
theorem hb_id0 {fd : FuncData} {names : List PySem.Str} (h : ∀ (u : Unit), bindArgs fd ⟨[], []⟩ = pure (names.zip (id []))) :
    ∀ (s : Shared) (vs : List V) (xs : List Value) (us : List V), P.K.In s.heap → (if vs.length = 0 then some vs else none) = some us → vs.length = xs.length → BindsTo s fd ⟨xs, []⟩ (names.zip (id xs)) := by
  intro s vs xs us _ e l
  replace l := (len_if e).symm.trans l
  clear e vs us
  cases len0 l
  exact BindsTo.of_eq (h ())
theorem hb_id1 {fd : FuncData} {names : List PySem.Str} (h : ∀ (u : Unit) a, bindArgs fd ⟨[a], []⟩ = pure (names.zip (id [a]))) :
    ∀ (s : Shared) (vs : List V) (xs : List Value) (us : List V), P.K.In s.heap → (if vs.length = 1 then some vs else none) = some us → vs.length = xs.length → BindsTo s fd ⟨xs, []⟩ (names.zip (id xs)) := by
  intro s vs xs us _ e l
  replace l := (len_if e).symm.trans l
  clear e vs us
  obtain ⟨a, x1, rfl, l1⟩ := lenS l
  cases len0 l1
  exact BindsTo.of_eq (h () a)
theorem hb_id2 {fd : FuncData} {names : List PySem.Str} (h : ∀ (u : Unit) a b, bindArgs fd ⟨[a, b], []⟩ = pure (names.zip (id [a, b]))) :
    ∀ (s : Shared) (vs : List V) (xs : List Value) (us : List V), P.K.In s.heap → (if vs.length = 2 then some vs else none) = some us → vs.length = xs.length → BindsTo s fd ⟨xs, []⟩ (names.zip (id xs)) := by
  intro s vs xs us _ e l
  replace l := (len_if e).symm.trans l
  clear e vs us
  obtain ⟨a, x1, rfl, l1⟩ := lenS l
  obtain ⟨b, x2, rfl, l2⟩ := lenS l1
  cases len0 l2
  exact BindsTo.of_eq (h () a b)
theorem hb_id3 {fd : FuncData} {names : List PySem.Str} (h : ∀ (u : Unit) a b c, bindArgs fd ⟨[a, b, c], []⟩ = pure (names.zip (id [a, b, c]))) :
    ∀ (s : Shared) (vs : List V) (xs : List Value) (us : List V), P.K.In s.heap → (if vs.length = 3 then some vs else none) = some us → vs.length = xs.length → BindsTo s fd ⟨xs, []⟩ (names.zip (id xs)) := by
  intro s vs xs us _ e l
  replace l := (len_if e).symm.trans l
  clear e vs us
  obtain ⟨a, x1, rfl, l1⟩ := lenS l
  obtain ⟨b, x2, rfl, l2⟩ := lenS l1
  obtain ⟨c, x3, rfl, l3⟩ := lenS l2
  cases len0 l3
  exact BindsTo.of_eq (h () a b c)
theorem hb_id4 {fd : FuncData} {names : List PySem.Str} (h : ∀ (u : Unit) a b c d, bindArgs fd ⟨[a, b, c, d], []⟩ = pure (names.zip (id [a, b, c, d]))) :
    ∀ (s : Shared) (vs : List V) (xs : List Value) (us : List V), P.K.In s.heap → (if vs.length = 4 then some vs else none) = some us → vs.length = xs.length → BindsTo s fd ⟨xs, []⟩ (names.zip (id xs)) := by
  intro s vs xs us _ e l
  replace l := (len_if e).symm.trans l
  clear e vs us
  obtain ⟨a, x1, rfl, l1⟩ := lenS l
  obtain ⟨b, x2, rfl, l2⟩ := lenS l1
  obtain ⟨c, x3, rfl, l3⟩ := lenS l2
  obtain ⟨d, x4, rfl, l4⟩ := lenS l3
  cases len0 l4
  exact BindsTo.of_eq (h () a b c d)
theorem hb_id5 {fd : FuncData} {names : List PySem.Str} (h : ∀ (u : Unit) a b c d e, bindArgs fd ⟨[a, b, c, d, e], []⟩ = pure (names.zip (id [a, b, c, d, e]))) :
    ∀ (s : Shared) (vs : List V) (xs : List Value) (us : List V), P.K.In s.heap → (if vs.length = 5 then some vs else none) = some us → vs.length = xs.length → BindsTo s fd ⟨xs, []⟩ (names.zip (id xs)) := by
  intro s vs xs us _ e l
  replace l := (len_if e).symm.trans l
  clear e vs us
  obtain ⟨a, x1, rfl, l1⟩ := lenS l
  obtain ⟨b, x2, rfl, l2⟩ := lenS l1
  obtain ⟨c, x3, rfl, l3⟩ := lenS l2
  obtain ⟨d, x4, rfl, l4⟩ := lenS l3
  obtain ⟨e, x5, rfl, l5⟩ := lenS l4
  cases len0 l5
  exact BindsTo.of_eq (h () a b c d e)
end NP

namespace NP

variable {P : Prm} {fn : Fn} {k : Nat}

noncomputable def dfFits : List V → Option (List V)
  | [a, b] => some [a, b, .bool false]
  | [a, b, c] => some [a, b, c]
  | _ => none
noncomputable def dfxFits : List Value → List Value
  | [a, b] => [a, b, .bool false]
  | l => l
theorem df_inv {vs us : List V} (e : dfFits vs = some us) : (∃ a b, vs = [a, b] ∧ us = [a, b, .bool false]) ∨ ∃ a b c, vs = [a, b, c] ∧ us = [a, b, c] := by
  unfold dfFits at e
  split at e
  · cases e; exact .inl ⟨_, _, rfl, rfl⟩
  · cases e; exact .inr ⟨_, _, _, rfl, rfl⟩
  · cases e
theorem hdf_fits : ∀ (T : Led) (ad : List Addr) (vs : List V) (xs : List Value) (us : List V), All2 (Rv T ad) vs xs → dfFits vs = some us → All2 (Rv T ad) us (dfxFits xs) ∧ us.length ≤ 9 := by
  intro T ad vs xs us h e
  rcases df_inv e with ⟨a, b, rfl, rfl⟩ | ⟨a, b, c, rfl, rfl⟩
  · obtain ⟨x, y, rfl, r1, r2⟩ := h.two
    exact ⟨.cons r1 (.cons r2 (.cons (.bool false) .nil)), by simp⟩
  · obtain ⟨x, y, z, rfl, r1, r2, r3⟩ := h.three
    exact ⟨.cons r1 (.cons r2 (.cons r3 .nil)), by simp⟩
theorem hb_fits {fd : FuncData} {names : List PySem.Str} (h2 : ∀ s : Shared, P.K.In s.heap → ∀ a b, BindsTo s fd ⟨[a, b], []⟩ (names.zip [a, b, .bool false])) (h3 : ∀ s : Shared, P.K.In s.heap → ∀ a b c, BindsTo s fd ⟨[a, b, c], []⟩ (names.zip [a, b, c])) :
    ∀ (s : Shared) (vs : List V) (xs : List Value) (us : List V), P.K.In s.heap → dfFits vs = some us → vs.length = xs.length → BindsTo s fd ⟨xs, []⟩ (names.zip (dfxFits xs)) := by
  intro s vs xs us X e l
  rcases df_inv e with ⟨_, _, rfl, rfl⟩ | ⟨_, _, _, rfl, rfl⟩
  · obtain ⟨a, x1, rfl, l1⟩ := lenS l
    obtain ⟨b, x2, rfl, l2⟩ := lenS l1
    cases len0 l2
    exact h2 s X a b
  · obtain ⟨a, x1, rfl, l1⟩ := lenS l
    obtain ⟨b, x2, rfl, l2⟩ := lenS l1
    obtain ⟨c, x3, rfl, l3⟩ := lenS l2
    cases len0 l3
    exact h3 s X a b c

theorem st_tuple {es : List Expr} {kd : Nat} {pos : Pos} {rest : List Expr} {env : Env} : starEach (.Tuple es kd pos :: rest) env = (false, eval (.Tuple es kd pos) env) :: starEach rest env := rfl
theorem st_const {c : Const} {kd : Nat} {pos : Pos} {rest : List Expr} {env : Env} : starEach (.Constant c kd pos :: rest) env = (false, eval (.Constant c kd pos) env) :: starEach rest env := rfl
theorem st_name {c : PySem.Str} {pos : Pos} {rest : List Expr} {env : Env} : starEach (.Name c pos :: rest) env = (false, eval (.Name c pos) env) :: starEach rest env := rfl
theorem st_binop {a b : Expr} {op : Operator} {pos : Pos} {rest : List Expr} {env : Env} : starEach (.BinOp a op b pos :: rest) env = (false, eval (.BinOp a op b pos) env) :: starEach rest env := rfl
theorem st_unary {a : Expr} {op : UnaryOp} {pos : Pos} {rest : List Expr} {env : Env} : starEach (.UnaryOp op a pos :: rest) env = (false, eval (.UnaryOp op a pos) env) :: starEach rest env := rfl
theorem st_sub {a b : Expr} {pos : Pos} {rest : List Expr} {env : Env} : starEach (.Subscript a b pos :: rest) env = (false, eval (.Subscript a b pos) env) :: starEach rest env := rfl
theorem st_call {a : Expr} {as : List Expr} {ks : List Keyword} {pos : Pos} {rest : List Expr} {env : Env} : starEach (.Call a as ks pos :: rest) env = (false, eval (.Call a as ks pos) env) :: starEach rest env := rfl
theorem st_list {as : List Expr} {pos : Pos} {rest : List Expr} {env : Env} : starEach (.List as pos :: rest) env = (false, eval (.List as pos) env) :: starEach rest env := rfl
theorem st_bool {as : List Expr} {op : BoolOp} {pos : Pos} {rest : List Expr} {env : Env} : starEach (.BoolOp op as pos :: rest) env = (false, eval (.BoolOp op as pos) env) :: starEach rest env := rfl
theorem st_cmp {a : Expr} {os : List CmpOp} {as : List Expr} {pos : Pos} {rest : List Expr} {env : Env} : starEach (.Compare a os as pos :: rest) env = (false, eval (.Compare a os as pos) env) :: starEach rest env := rfl
theorem st_ite {a b c : Expr} {pos : Pos} {rest : List Expr} {env : Env} : starEach (.IfExp a b c pos :: rest) env = (false, eval (.IfExp a b c pos) env) :: starEach rest env := rfl
theorem st_comp {a : Expr} {gs : List Comprehension} {sc : Scope} {pos : Pos} {rest : List Expr} {env : Env} : starEach (.ListComp a gs sc pos :: rest) env = (false, eval (.ListComp a gs sc pos) env) :: starEach rest env := rfl
end NP

section
set_option maxHeartbeats 4000000
namespace NP

noncomputable def p_in_set : { G : St → Option (Fl × St) // ∀ P : Prm, P.K = hd.heap_39 P.w.params → SFn P 21 1 (fnF (fun vs => if vs.length = 3 then some vs else none) 7 G) } :=
  ⟨_, by
    intro P hK
    refine' SFn.mk (names := ["pattern", "at", "c", "size", "low", "high", "close"]) (ho := ?ho) (hcd := ?hcd) (ok := ?ok) (df := _) (dfx := id) (hdf := hdf_id 3 (by decide)) (hbind := ?hb) (hco := ?h1) (hgen := ?h2) (hcell := ?h3) (h := ?body)
    case ho => rw [hK]; exact rfl
    case hcd => rw [hK]; exact rfl
    case ok => exact ⟨rfl, by decide, by decide, by decide⟩
    case h1 => rfl
    case h2 => rfl
    case h3 => decide
    case hb => exact hb_id3 fun _ _ _ _ => rfl
    case body =>
      exact (SS.cons (S1.assign 3 rfl (SE.callB ⟨by rw [hK]; rfl, rfl, by decide, rfl, by decide⟩ bf_len (SEs.cons (SE.name 0 rfl) SEs.nil (fun _ => st_name)) (fun _ => st_name) (fun _ => rfl) (fun _ => rfl)) (fun _ => rfl))
        (SS.cons (S1.aug 1 rfl op_iadd SE.int)
        (SS.cons (S1.while_ 100 (SBw.to (SBw.and1 (SB.cmp op_lt (SE.name 1 rfl) (SE.name 3 rfl) rfl) (SBw.and1 (SB.cmp op_ne (SE.item (SE.name 0 rfl) (SE.name 1 rfl) (fun _ _ => ⟨_, rfl⟩)) (SE.strC (l := [93]) (by decide)) rfl) SBw.and0))) (SS.cons (S1.assign 4 rfl (SE.item (SE.name 0 rfl) (SE.name 1 rfl) (fun _ _ => ⟨_, rfl⟩)) (fun _ => rfl))
        (SS.cons (S1.assign 5 rfl (SE.name 4 rfl) (fun _ => rfl))
        (SS.cons (S1.aug 1 rfl op_iadd SE.int)
        (SS.cons (S1.if_ (SB.cmp op_eq2 (SE.slice (SE.name 0 rfl) (SO.some (SE.name 1 rfl)) (SO.some (SE.binOp op_add2 (SE.name 1 rfl) SE.int)) SO.none (fun _ _ _ _ _ => rfl) (fun _ _ => ⟨_, rfl⟩) (fun _ _ _ => rfl)) (SE.strC (l := [45]) (by decide)) rfl) (SS.cons (S1.if_ (SB.cmp op_ge (SE.binOp op_add2 (SE.name 1 rfl) SE.int) (SE.name 3 rfl) rfl) (SS.cons (S1.ret (SE.tuple (SEs.cons SE.bool (SEs.cons (SE.name 3 rfl) SEs.nil (fun _ => st_name)) (fun _ => st_const))))
        SS.nil) SS.nil)
        (SS.cons (S1.assign 5 rfl (SE.item (SE.name 0 rfl) (SE.binOp op_add2 (SE.name 1 rfl) SE.int) (fun _ _ => ⟨_, rfl⟩)) (fun _ => rfl))
        (SS.cons (S1.aug 1 rfl op_iadd SE.int)
        SS.nil))) SS.nil)
        (SS.cons (S1.if_ (SBw.to (SBw.or1 (SBw.to (SBw.and1 (SB.cmp op_le (SE.name 4 rfl) (SE.name 2 rfl) rfl) (SBw.and1 (SB.cmp op_le (SE.name 2 rfl) (SE.name 5 rfl) rfl) SBw.and0))) (SBw.or1 (SBw.to (SBw.and1 (SB.cmp op_le (SE.name 5 rfl) (SE.name 2 rfl) rfl) (SBw.and1 (SB.cmp op_le (SE.name 2 rfl) (SE.name 4 rfl) rfl) SBw.and0))) SBw.or0))) (SS.cons (S1.assign 6 rfl (SE.meth mf_find bf_find (SE.name 0 rfl) (SEs.cons (SE.strC (l := [93]) (by decide)) (SEs.cons (SE.name 1 rfl) SEs.nil (fun _ => st_name)) (fun _ => st_const)) (fun _ => st_const) (fun _ => rfl) (fun _ => rfl)) (fun _ => rfl))
        (SS.cons (S1.if_ (SB.cmp op_lt (SE.name 6 rfl) SE.int rfl) (SS.cons (S1.ret (SE.tuple (SEs.cons SE.bool (SEs.cons (SE.name 3 rfl) SEs.nil (fun _ => st_name)) (fun _ => st_const))))
        SS.nil) SS.nil)
        (SS.cons (S1.ret (SE.tuple (SEs.cons SE.bool (SEs.cons (SE.binOp op_add2 (SE.name 6 rfl) SE.int) SEs.nil (fun _ => st_binop)) (fun _ => st_const))))
        SS.nil))) SS.nil)
        SS.nil))))))
        (SS.cons (S1.if_ (SB.cmp op_lt (SE.name 1 rfl) (SE.name 3 rfl) rfl) (SS.cons (S1.ret (SE.tuple (SEs.cons SE.bool (SEs.cons (SE.binOp op_add2 (SE.name 1 rfl) SE.int) SEs.nil (fun _ => st_binop)) (fun _ => st_const))))
        SS.nil) SS.nil)
        (SS.cons (S1.ret (SE.tuple (SEs.cons SE.bool (SEs.cons (SE.name 3 rfl) SEs.nil (fun _ => st_name)) (fun _ => st_const))))
        SS.nil)))))⟩

noncomputable def p_behind_one : { G : St → Option (Fl × St) // ∀ P : Prm, P.K = hd.heap_39 P.w.params → SFn P 28 2 (fnF (fun vs => if vs.length = 3 then some vs else none) 5 G) } :=
  ⟨_, by
    intro P hK
    refine' SFn.mk (names := ["pattern", "at", "c", "is_in", "behind"]) (ho := ?ho) (hcd := ?hcd) (ok := ?ok) (df := _) (dfx := id) (hdf := hdf_id 3 (by decide)) (hbind := ?hb) (hco := ?h1) (hgen := ?h2) (hcell := ?h3) (h := ?body)
    case ho => rw [hK]; exact rfl
    case hcd => rw [hK]; exact rfl
    case ok => exact ⟨rfl, by decide, by decide, by decide⟩
    case h1 => rfl
    case h2 => rfl
    case h3 => decide
    case hb => exact hb_id3 fun _ _ _ _ => rfl
    case body =>
      exact (SS.cons (S1.if_ (SB.cmp op_eq2 (SE.item (SE.name 0 rfl) (SE.name 1 rfl) (fun _ _ => ⟨_, rfl⟩)) (SE.strC (l := [63]) (by decide)) rfl) (SS.cons (S1.ret (SE.binOp op_add2 (SE.name 1 rfl) SE.int))
        SS.nil) SS.nil)
        (SS.cons (S1.if_ (SB.cmp op_eq2 (SE.item (SE.name 0 rfl) (SE.name 1 rfl) (fun _ _ => ⟨_, rfl⟩)) (SE.strC (l := [91]) (by decide)) rfl) (SS.cons (S1.tup (SE.callF ⟨by rw [hK]; rfl, by rw [hK]; rfl, rfl, by decide⟩ (p_in_set.2 P hK) (by decide) (SEs.cons (SE.name 0 rfl) (SEs.cons (SE.name 1 rfl) (SEs.cons (SE.name 2 rfl) SEs.nil (fun _ => st_name)) (fun _ => st_name)) (fun _ => st_name)) (fun _ => st_name) (fun _ => rfl) (fun _ => rfl)) (SA.tuple 2 (SAs.cons 3 rfl (SAs.cons 4 rfl SAs.nil (fun _ => rfl)) (fun _ => rfl)) (fun _ => rfl) (fun _ => rfl)) (fun _ => rfl) (fun _ => rfl))
        (SS.cons (S1.if_ (SB.plain (SE.name 3 rfl) (fun _ => rfl)) (SS.cons (S1.ret (SE.name 4 rfl))
        SS.nil) SS.nil)
        (SS.cons (S1.ret (SE.neg SE.int))
        SS.nil))) SS.nil)
        (SS.cons (S1.if_ (SB.cmp op_eq2 (SE.item (SE.name 0 rfl) (SE.name 1 rfl) (fun _ _ => ⟨_, rfl⟩)) (SE.strC (l := [92]) (by decide)) rfl) (SS.cons (S1.aug 1 rfl op_iadd SE.int)
        SS.nil) SS.nil)
        (SS.cons (S1.if_ (SB.cmp op_eq2 (SE.slice (SE.name 0 rfl) (SO.some (SE.name 1 rfl)) (SO.some (SE.binOp op_add2 (SE.name 1 rfl) SE.int)) SO.none (fun _ _ _ _ _ => rfl) (fun _ _ => ⟨_, rfl⟩) (fun _ _ _ => rfl)) (SE.name 2 rfl) rfl) (SS.cons (S1.ret (SE.binOp op_add2 (SE.name 1 rfl) SE.int))
        SS.nil) SS.nil)
        (SS.cons (S1.ret (SE.neg SE.int))
        SS.nil)))))⟩

noncomputable def p_put_places : { G : St → Option (Fl × St) // ∀ P : Prm, P.K = hd.heap_39 P.w.params → SFn P 35 1 (fnF (fun vs => if vs.length = 3 then some vs else none) 3 G) } :=
  ⟨_, by
    intro P hK
    refine' SFn.mk (names := ["pattern", "at", "places"]) (ho := ?ho) (hcd := ?hcd) (ok := ?ok) (df := _) (dfx := id) (hdf := hdf_id 3 (by decide)) (hbind := ?hb) (hco := ?h1) (hgen := ?h2) (hcell := ?h3) (h := ?body)
    case ho => rw [hK]; exact rfl
    case hcd => rw [hK]; exact rfl
    case ok => exact ⟨rfl, by decide, by decide, by decide⟩
    case h1 => rfl
    case h2 => rfl
    case h3 => decide
    case hb => exact hb_id3 fun _ _ _ _ => rfl
    case body =>
      exact (SS.cons (S1.sub SE.bool (SE.name 2 rfl) (SE.name 1 rfl) (fun _ => rfl))
        (SS.cons (S1.while_ 100 (SB.cmp op_eq2 (SE.slice (SE.name 0 rfl) (SO.some (SE.name 1 rfl)) (SO.some (SE.binOp op_add2 (SE.name 1 rfl) SE.int)) SO.none (fun _ _ _ _ _ => rfl) (fun _ _ => ⟨_, rfl⟩) (fun _ _ _ => rfl)) (SE.strC (l := [42]) (by decide)) rfl) (SS.cons (S1.aug 1 rfl op_iadd SE.int)
        (SS.cons (S1.sub SE.bool (SE.name 2 rfl) (SE.name 1 rfl) (fun _ => rfl))
        SS.nil)))
        SS.nil))⟩

noncomputable def p_folded : { G : St → Option (Fl × St) // ∀ P : Prm, P.K = hd.heap_39 P.w.params → SFn P 42 1 (fnF (fun vs => if vs.length = 1 then some vs else none) 4 G) } :=
  ⟨_, by
    intro P hK
    refine' SFn.mk (names := ["text", "made", "sign", "low"]) (ho := ?ho) (hcd := ?hcd) (ok := ?ok) (df := _) (dfx := id) (hdf := hdf_id 1 (by decide)) (hbind := ?hb) (hco := ?h1) (hgen := ?h2) (hcell := ?h3) (h := ?body)
    case ho => rw [hK]; exact rfl
    case hcd => rw [hK]; exact rfl
    case ok => exact ⟨rfl, by decide, by decide, by decide⟩
    case h1 => rfl
    case h2 => rfl
    case h3 => decide
    case hb => exact hb_id1 fun _ _ => rfl
    case body =>
      exact (SS.cons (S1.assign 1 rfl (SE.strC (l := []) (by decide)) (fun _ => rfl))
        (SS.cons (S1.forStr 2 rfl (SE.name 0 rfl) (SS.cons (S1.assign 3 rfl (SE.meth0 mf_lower bf_lower (SE.name 2 rfl) (fun _ => rfl)) (fun _ => rfl))
        (SS.cons (S1.if_ (SB.cmp op_eq2 (SE.callB ⟨by rw [hK]; rfl, rfl, by decide, rfl, by decide⟩ bf_len (SEs.cons (SE.name 3 rfl) SEs.nil (fun _ => st_name)) (fun _ => st_name) (fun _ => rfl) (fun _ => rfl)) SE.int rfl) (SS.cons (S1.aug 1 rfl op_iadd (SE.name 3 rfl))
        SS.nil) (SS.cons (S1.aug 1 rfl op_iadd (SE.name 2 rfl))
        SS.nil))
        SS.nil)) (fun _ _ => rfl))
        (SS.cons (S1.ret (SE.name 1 rfl))
        SS.nil)))⟩

noncomputable def p_fits : { G : St → Option (Fl × St) // ∀ P : Prm, P.K = hd.heap_39 P.w.params → SFn P 50 3 (fnF dfFits 9 G) } :=
  ⟨_, by
    intro P hK
    refine' SFn.mk (names := ["pattern", "text", "is_nocase", "size", "places", "c", "after", "at", "behind"]) (ho := ?ho) (hcd := ?hcd) (ok := ?ok) (df := _) (dfx := dfxFits) (hdf := hdf_fits) (hbind := ?hb) (hco := ?h1) (hgen := ?h2) (hcell := ?h3) (h := ?body)
    case ho => rw [hK]; exact rfl
    case hcd => rw [hK]; exact rfl
    case ok => exact ⟨rfl, by decide, by decide, by decide⟩
    case h1 => rfl
    case h2 => rfl
    case h3 => decide
    case hb => exact hb_fits (fun s X a b => BindsTo.of_defaults rfl (X 43 _ (by rw [hK]; rfl)) rfl rfl rfl) (fun s X a b c => BindsTo.of_defaults rfl (X 43 _ (by rw [hK]; rfl)) rfl rfl rfl)
    case body =>
      exact (SS.cons (S1.if_ (SB.plain (SE.name 2 rfl) (fun _ => rfl)) (SS.cons (S1.assign 0 rfl (SE.callF ⟨by rw [hK]; rfl, by rw [hK]; rfl, rfl, by decide⟩ (p_folded.2 P hK) (by decide) (SEs.cons (SE.name 0 rfl) SEs.nil (fun _ => st_name)) (fun _ => st_name) (fun _ => rfl) (fun _ => rfl)) (fun _ => rfl))
        (SS.cons (S1.assign 1 rfl (SE.callF ⟨by rw [hK]; rfl, by rw [hK]; rfl, rfl, by decide⟩ (p_folded.2 P hK) (by decide) (SEs.cons (SE.name 1 rfl) SEs.nil (fun _ => st_name)) (fun _ => st_name) (fun _ => rfl) (fun _ => rfl)) (fun _ => rfl))
        SS.nil)) SS.nil)
        (SS.cons (S1.assign 3 rfl (SE.callB ⟨by rw [hK]; rfl, rfl, by decide, rfl, by decide⟩ bf_len (SEs.cons (SE.name 0 rfl) SEs.nil (fun _ => st_name)) (fun _ => st_name) (fun _ => rfl) (fun _ => rfl)) (fun _ => rfl))
        (SS.cons (S1.assign 4 rfl SE.dict0 (fun _ => rfl))
        (SS.cons (S1.expr (SE.callF ⟨by rw [hK]; rfl, by rw [hK]; rfl, rfl, by decide⟩ (p_put_places.2 P hK) (by decide) (SEs.cons (SE.name 0 rfl) (SEs.cons SE.int (SEs.cons (SE.name 4 rfl) SEs.nil (fun _ => st_name)) (fun _ => st_const)) (fun _ => st_name)) (fun _ => st_name) (fun _ => rfl) (fun _ => rfl)) (fun _ => rfl) (fun _ => rfl))
        (SS.cons (S1.forStr 5 rfl (SE.name 1 rfl) (SS.cons (S1.if_ (SBw.to (SBw.and1 (SB.cmp op_eq2 (SE.slice (SE.name 0 rfl) (SO.some (SE.neg SE.int)) SO.none SO.none (fun _ _ _ _ _ => rfl) (fun _ _ => ⟨_, rfl⟩) (fun _ _ _ => rfl)) (SE.strC (l := [42]) (by decide)) rfl) (SBw.and1 (SB.cmp op_in (SE.binOp op_sub (SE.name 3 rfl) SE.int) (SE.name 4 rfl) rfl) SBw.and0))) (SS.cons (S1.ret SE.bool)
        SS.nil) SS.nil)
        (SS.cons (S1.assign 6 rfl SE.dict0 (fun _ => rfl))
        (SS.cons (S1.forDict 7 rfl (SE.name 4 rfl) (SS.cons (S1.if_ (SB.cmp op_eq2 (SE.slice (SE.name 0 rfl) (SO.some (SE.name 7 rfl)) (SO.some (SE.binOp op_add2 (SE.name 7 rfl) SE.int)) SO.none (fun _ _ _ _ _ => rfl) (fun _ _ => ⟨_, rfl⟩) (fun _ _ _ => rfl)) (SE.strC (l := [42]) (by decide)) rfl) (SS.cons (S1.expr (SE.callF ⟨by rw [hK]; rfl, by rw [hK]; rfl, rfl, by decide⟩ (p_put_places.2 P hK) (by decide) (SEs.cons (SE.name 0 rfl) (SEs.cons (SE.name 7 rfl) (SEs.cons (SE.name 6 rfl) SEs.nil (fun _ => st_name)) (fun _ => st_name)) (fun _ => st_name)) (fun _ => st_name) (fun _ => rfl) (fun _ => rfl)) (fun _ => rfl) (fun _ => rfl))
        SS.nil) (SS.cons (S1.if_ (SB.cmp op_lt (SE.name 7 rfl) (SE.name 3 rfl) rfl) (SS.cons (S1.assign 8 rfl (SE.callF ⟨by rw [hK]; rfl, by rw [hK]; rfl, rfl, by decide⟩ (p_behind_one.2 P hK) (by decide) (SEs.cons (SE.name 0 rfl) (SEs.cons (SE.name 7 rfl) (SEs.cons (SE.name 5 rfl) SEs.nil (fun _ => st_name)) (fun _ => st_name)) (fun _ => st_name)) (fun _ => st_name) (fun _ => rfl) (fun _ => rfl)) (fun _ => rfl))
        (SS.cons (S1.if_ (SB.cmp op_ge (SE.name 8 rfl) SE.int rfl) (SS.cons (S1.expr (SE.callF ⟨by rw [hK]; rfl, by rw [hK]; rfl, rfl, by decide⟩ (p_put_places.2 P hK) (by decide) (SEs.cons (SE.name 0 rfl) (SEs.cons (SE.name 8 rfl) (SEs.cons (SE.name 6 rfl) SEs.nil (fun _ => st_name)) (fun _ => st_name)) (fun _ => st_name)) (fun _ => st_name) (fun _ => rfl) (fun _ => rfl)) (fun _ => rfl) (fun _ => rfl))
        SS.nil) SS.nil)
        SS.nil)) SS.nil)
        SS.nil))
        SS.nil) (fun _ _ => rfl))
        (SS.cons (S1.if_ (SB.not (SB.plain (SE.name 6 rfl) (fun _ => rfl))) (SS.cons (S1.ret SE.bool)
        SS.nil) SS.nil)
        (SS.cons (S1.assign 4 rfl (SE.name 6 rfl) (fun _ => rfl))
        SS.nil))))) (fun _ _ => rfl))
        (SS.cons (S1.ret (SE.cmp op_in (SE.name 3 rfl) (SE.name 4 rfl) rfl))
        SS.nil))))))⟩

noncomputable def p_is_plain : { G : St → Option (Fl × St) // ∀ P : Prm, P.K = hd.heap_39 P.w.params → SFn P 57 1 (fnF (fun vs => if vs.length = 1 then some vs else none) 2 G) } :=
  ⟨_, by
    intro P hK
    refine' SFn.mk (names := ["pattern", "sign"]) (ho := ?ho) (hcd := ?hcd) (ok := ?ok) (df := _) (dfx := id) (hdf := hdf_id 1 (by decide)) (hbind := ?hb) (hco := ?h1) (hgen := ?h2) (hcell := ?h3) (h := ?body)
    case ho => rw [hK]; exact rfl
    case hcd => rw [hK]; exact rfl
    case ok => exact ⟨rfl, by decide, by decide, by decide⟩
    case h1 => rfl
    case h2 => rfl
    case h3 => decide
    case hb => exact hb_id1 fun _ _ => rfl
    case body =>
      exact (SS.cons (S1.forStr 1 rfl (SE.name 0 rfl) (SS.cons (S1.if_ (SB.cmp op_in (SE.name 1 rfl) SE.str rfl) (SS.cons (S1.ret SE.bool)
        SS.nil) SS.nil)
        SS.nil) (fun _ _ => rfl))
        (SS.cons (S1.ret SE.bool)
        SS.nil))⟩

end NP
end

section
set_option maxHeartbeats 4000000
namespace NP

noncomputable def p_law_draw : { G : St → Option (Fl × St) // ∀ P : Prm, P.K = hd.heap_39 P.w.params → SFn P 71 1 (fnF (fun vs => if vs.length = 2 then some vs else none) 3 G) } :=
  ⟨_, by
    intro P hK
    refine' SFn.mk (names := ["pen", "many", "drawn"]) (ho := ?ho) (hcd := ?hcd) (ok := ?ok) (df := _) (dfx := id) (hdf := hdf_id 2 (by decide)) (hbind := ?hb) (hco := ?h1) (hgen := ?h2) (hcell := ?h3) (h := ?body)
    case ho => rw [hK]; exact rfl
    case hcd => rw [hK]; exact rfl
    case ok => exact ⟨rfl, by decide, by decide, by decide⟩
    case h1 => rfl
    case h2 => rfl
    case h3 => decide
    case hb => exact hb_id2 fun _ _ _ => rfl
    case body =>
      exact (SS.cons (S1.assign 2 rfl (SE.binOp op_mod (SE.item (SE.name 0 rfl) SE.int (fun _ _ => ⟨_, rfl⟩)) (SE.name 1 rfl)) (fun _ => rfl))
        (SS.cons (S1.sub (SE.binOp op_div (SE.item (SE.name 0 rfl) SE.int (fun _ _ => ⟨_, rfl⟩)) (SE.name 1 rfl)) (SE.name 0 rfl) SE.int (fun _ => rfl))
        (SS.cons (S1.ret (SE.name 2 rfl))
        SS.nil)))⟩

noncomputable def p_law_turned : { G : St → Option (Fl × St) // ∀ P : Prm, P.K = hd.heap_39 P.w.params → SFn P 78 2 (fnF (fun vs => if vs.length = 2 then some vs else none) 7 G) } :=
  ⟨_, by
    intro P hK
    refine' SFn.mk (names := ["told", "pen", "signs", "size", "made", "place", "old"]) (ho := ?ho) (hcd := ?hcd) (ok := ?ok) (df := _) (dfx := id) (hdf := hdf_id 2 (by decide)) (hbind := ?hb) (hco := ?h1) (hgen := ?h2) (hcell := ?h3) (h := ?body)
    case ho => rw [hK]; exact rfl
    case hcd => rw [hK]; exact rfl
    case ok => exact ⟨rfl, by decide, by decide, by decide⟩
    case h1 => rfl
    case h2 => rfl
    case h3 => decide
    case hb => exact hb_id2 fun _ _ _ => rfl
    case body =>
      exact (SS.cons (S1.assign 2 rfl SE.str (fun _ => rfl))
        (SS.cons (S1.assign 3 rfl (SE.binOp op_mod (SE.binOp op_add2 (SE.callB ⟨by rw [hK]; rfl, rfl, by decide, rfl, by decide⟩ bf_len (SEs.cons (SE.name 0 rfl) SEs.nil (fun _ => st_name)) (fun _ => st_name) (fun _ => rfl) (fun _ => rfl)) (SE.callF ⟨by rw [hK]; rfl, by rw [hK]; rfl, rfl, by decide⟩ (p_law_draw.2 P hK) (by decide) (SEs.cons (SE.name 1 rfl) (SEs.cons SE.int SEs.nil (fun _ => st_const)) (fun _ => st_name)) (fun _ => st_name) (fun _ => rfl) (fun _ => rfl))) SE.int) (fun _ => rfl))
        (SS.cons (S1.assign 4 rfl (SE.strC (l := []) (by decide)) (fun _ => rfl))
        (SS.cons (S1.forRange 5 rfl ⟨by rw [hK]; rfl, rfl, by decide, rfl, by decide⟩ (SEs.cons (SE.name 3 rfl) SEs.nil (fun _ => st_name)) (SS.cons (S1.assign 6 rfl (SE.ite (SB.cmp op_lt (SE.name 5 rfl) (SE.callB ⟨by rw [hK]; rfl, rfl, by decide, rfl, by decide⟩ bf_len (SEs.cons (SE.name 0 rfl) SEs.nil (fun _ => st_name)) (fun _ => st_name) (fun _ => rfl) (fun _ => rfl)) rfl) (SE.meth mf_index bf_index (SE.name 2 rfl) (SEs.cons (SE.item (SE.name 0 rfl) (SE.name 5 rfl) (fun _ _ => ⟨_, rfl⟩)) SEs.nil (fun _ => st_sub)) (fun _ => st_sub) (fun _ => rfl) (fun _ => rfl)) SE.int) (fun _ => rfl))
        (SS.cons (S1.assign 4 rfl (SE.binOp op_add2 (SE.name 4 rfl) (SE.item (SE.name 2 rfl) (SE.binOp op_mod (SE.binOp op_add2 (SE.name 6 rfl) (SE.callF ⟨by rw [hK]; rfl, by rw [hK]; rfl, rfl, by decide⟩ (p_law_draw.2 P hK) (by decide) (SEs.cons (SE.name 1 rfl) (SEs.cons SE.int SEs.nil (fun _ => st_const)) (fun _ => st_name)) (fun _ => st_name) (fun _ => rfl) (fun _ => rfl))) SE.int) (fun _ _ => ⟨_, rfl⟩))) (fun _ => rfl))
        SS.nil)) (fun _ _ => rfl) (fun _ => st_name) (fun _ => rfl) (fun _ => rfl))
        (SS.cons (S1.ret (SE.name 4 rfl))
        SS.nil)))))⟩

noncomputable def p_law_low : { G : St → Option (Fl × St) // ∀ P : Prm, P.K = hd.heap_39 P.w.params → SFn P 83 1 (fnF (fun vs => if vs.length = 1 then some vs else none) 1 G) } :=
  ⟨_, by
    intro P hK
    refine' SFn.mk (names := ["text"]) (ho := ?ho) (hcd := ?hcd) (ok := ?ok) (df := _) (dfx := id) (hdf := hdf_id 1 (by decide)) (hbind := ?hb) (hco := ?h1) (hgen := ?h2) (hcell := ?h3) (h := ?body)
    case ho => rw [hK]; exact rfl
    case hcd => rw [hK]; exact rfl
    case ok => exact ⟨rfl, by decide, by decide, by decide⟩
    case h1 => rfl
    case h2 => rfl
    case h3 => decide
    case hb => exact hb_id1 fun _ _ => rfl
    case body =>
      exact (SS.cons (S1.ret (SE.meth mf_join bf_join (SE.strC (l := []) (by decide)) (SEs.cons (SE.comp (by decide) (by decide) rfl (by decide) rfl (SE.name 0 rfl) CTs.none (CEl.low rfl rfl rfl (by rw [hK]; rfl) (fun _ _ => rfl) (fun _ _ => rfl)) (fun _ _ => rfl)) SEs.nil (fun _ => st_comp)) (fun _ => st_comp) (fun _ => rfl) (fun _ => rfl)))
        SS.nil)⟩

noncomputable def p_law_members : { G : St → Option (Fl × St) // ∀ P : Prm, P.K = hd.heap_39 P.w.params → SFn P 90 1 (fnF (fun vs => if vs.length = 2 then some vs else none) 4 G) } :=
  ⟨_, by
    intro P hK
    refine' SFn.mk (names := ["pattern", "at", "members", "ends"]) (ho := ?ho) (hcd := ?hcd) (ok := ?ok) (df := _) (dfx := id) (hdf := hdf_id 2 (by decide)) (hbind := ?hb) (hco := ?h1) (hgen := ?h2) (hcell := ?h3) (h := ?body)
    case ho => rw [hK]; exact rfl
    case hcd => rw [hK]; exact rfl
    case ok => exact ⟨rfl, by decide, by decide, by decide⟩
    case h1 => rfl
    case h2 => rfl
    case h3 => decide
    case hb => exact hb_id2 fun _ _ _ => rfl
    case body =>
      exact (SS.cons (S1.tupSw 2 1 rfl rfl (SE.tuple (SEs.cons (SE.list SEs.nil) (SEs.cons (SE.binOp op_add2 (SE.name 1 rfl) SE.int) SEs.nil (fun _ => st_binop)) (fun _ => st_list))) (fun _ => rfl) (fun _ => rfl))
        (SS.cons (S1.while_ 100 (SBw.to (SBw.and1 (SB.cmp op_lt (SE.name 1 rfl) (SE.callB ⟨by rw [hK]; rfl, rfl, by decide, rfl, by decide⟩ bf_len (SEs.cons (SE.name 0 rfl) SEs.nil (fun _ => st_name)) (fun _ => st_name) (fun _ => rfl) (fun _ => rfl)) rfl) (SBw.and1 (SB.cmp op_ne (SE.item (SE.name 0 rfl) (SE.name 1 rfl) (fun _ _ => ⟨_, rfl⟩)) (SE.strC (l := [93]) (by decide)) rfl) SBw.and0))) (SS.cons (S1.if_ (SB.cmp op_ne (SE.slice (SE.name 0 rfl) (SO.some (SE.binOp op_add2 (SE.name 1 rfl) SE.int)) (SO.some (SE.binOp op_add2 (SE.name 1 rfl) SE.int)) SO.none (fun _ _ _ _ _ => rfl) (fun _ _ => ⟨_, rfl⟩) (fun _ _ _ => rfl)) (SE.strC (l := [45]) (by decide)) rfl) (SS.cons (S1.tupSw 3 1 rfl rfl (SE.tuple (SEs.cons (SE.list (SEs.cons (SE.item (SE.name 0 rfl) (SE.name 1 rfl) (fun _ _ => ⟨_, rfl⟩)) SEs.nil (fun _ => st_sub))) (SEs.cons (SE.binOp op_add2 (SE.name 1 rfl) SE.int) SEs.nil (fun _ => st_binop)) (fun _ => st_list))) (fun _ => rfl) (fun _ => rfl))
        SS.nil) (SS.cons (S1.if_ (SB.cmp op_lt (SE.binOp op_add2 (SE.name 1 rfl) SE.int) (SE.callB ⟨by rw [hK]; rfl, rfl, by decide, rfl, by decide⟩ bf_len (SEs.cons (SE.name 0 rfl) SEs.nil (fun _ => st_name)) (fun _ => st_name) (fun _ => rfl) (fun _ => rfl)) rfl) (SS.cons (S1.tupSw 3 1 rfl rfl (SE.tuple (SEs.cons (SE.list (SEs.cons (SE.item (SE.name 0 rfl) (SE.name 1 rfl) (fun _ _ => ⟨_, rfl⟩)) (SEs.cons (SE.item (SE.name 0 rfl) (SE.binOp op_add2 (SE.name 1 rfl) SE.int) (fun _ _ => ⟨_, rfl⟩)) SEs.nil (fun _ => st_sub)) (fun _ => st_sub))) (SEs.cons (SE.binOp op_add2 (SE.name 1 rfl) SE.int) SEs.nil (fun _ => st_binop)) (fun _ => st_list))) (fun _ => rfl) (fun _ => rfl))
        SS.nil) (SS.cons (S1.ret (SE.tuple (SEs.cons (SE.name 2 rfl) (SEs.cons (SE.callB ⟨by rw [hK]; rfl, rfl, by decide, rfl, by decide⟩ bf_len (SEs.cons (SE.name 0 rfl) SEs.nil (fun _ => st_name)) (fun _ => st_name) (fun _ => rfl) (fun _ => rfl)) SEs.nil (fun _ => st_call)) (fun _ => st_name))))
        SS.nil))
        SS.nil))
        (SS.cons (S1.expr (SE.meth mf_append bf_append (SE.name 2 rfl) (SEs.cons (SE.tuple (SEs.cons (SE.callB ⟨by rw [hK]; rfl, rfl, by decide, rfl, by decide⟩ bf_min (SEs.cons (SE.name 3 rfl) SEs.nil (fun _ => st_name)) (fun _ => st_name) (fun _ => rfl) (fun _ => rfl)) (SEs.cons (SE.callB ⟨by rw [hK]; rfl, rfl, by decide, rfl, by decide⟩ bf_max (SEs.cons (SE.name 3 rfl) SEs.nil (fun _ => st_name)) (fun _ => st_name) (fun _ => rfl) (fun _ => rfl)) (SEs.cons (SE.name 1 rfl) SEs.nil (fun _ => st_name)) (fun _ => st_call)) (fun _ => st_call))) SEs.nil (fun _ => st_tuple)) (fun _ => st_tuple) (fun _ => rfl) (fun _ => rfl)) (fun _ => rfl) (fun _ => rfl))
        SS.nil)))
        (SS.cons (S1.ret (SE.tuple (SEs.cons (SE.name 2 rfl) (SEs.cons (SE.callB ⟨by rw [hK]; rfl, rfl, by decide, rfl, by decide⟩ bf_min (SEs.cons (SE.binOp op_add2 (SE.name 1 rfl) SE.int) (SEs.cons (SE.callB ⟨by rw [hK]; rfl, rfl, by decide, rfl, by decide⟩ bf_len (SEs.cons (SE.name 0 rfl) SEs.nil (fun _ => st_name)) (fun _ => st_name) (fun _ => rfl) (fun _ => rfl)) SEs.nil (fun _ => st_call)) (fun _ => st_binop)) (fun _ => st_binop) (fun _ => rfl) (fun _ => rfl)) SEs.nil (fun _ => st_call)) (fun _ => st_name))))
        SS.nil)))⟩

noncomputable def p_law_set : { G : St → Option (Fl × St) // ∀ P : Prm, P.K = hd.heap_39 P.w.params → SFn P 97 1 (fnF (fun vs => if vs.length = 4 then some vs else none) 7 G) } :=
  ⟨_, by
    intro P hK
    refine' SFn.mk (names := ["pattern", "members", "end", "c", "least", "greatest", "behind"]) (ho := ?ho) (hcd := ?hcd) (ok := ?ok) (df := _) (dfx := id) (hdf := hdf_id 4 (by decide)) (hbind := ?hb) (hco := ?h1) (hgen := ?h2) (hcell := ?h3) (h := ?body)
    case ho => rw [hK]; exact rfl
    case hcd => rw [hK]; exact rfl
    case ok => exact ⟨rfl, by decide, by decide, by decide⟩
    case h1 => rfl
    case h2 => rfl
    case h3 => decide
    case hb => exact hb_id4 fun _ _ _ _ _ => rfl
    case body =>
      exact (SS.cons (S1.forList (SA.tuple 3 (SAs.cons 4 rfl (SAs.cons 5 rfl (SAs.cons 6 rfl SAs.nil (fun _ => rfl)) (fun _ => rfl)) (fun _ => rfl)) (fun _ => rfl) (fun _ => rfl)) (SE.name 1 rfl) (SS.cons (S1.if_ (SB.chain op_le op_le (SE.name 4 rfl) (SE.name 3 rfl) (SE.name 5 rfl) rfl) (SS.cons (S1.ret (SE.tuple (SEs.cons SE.bool (SEs.cons (SE.callB ⟨by rw [hK]; rfl, rfl, by decide, rfl, by decide⟩ bf_min (SEs.cons (SE.binOp op_add2 (SE.meth mf_index bf_index (SE.binOp op_add2 (SE.name 0 rfl) (SE.strC (l := [93]) (by decide))) (SEs.cons (SE.strC (l := [93]) (by decide)) (SEs.cons (SE.name 6 rfl) SEs.nil (fun _ => st_name)) (fun _ => st_const)) (fun _ => st_const) (fun _ => rfl) (fun _ => rfl)) SE.int) (SEs.cons (SE.callB ⟨by rw [hK]; rfl, rfl, by decide, rfl, by decide⟩ bf_len (SEs.cons (SE.name 0 rfl) SEs.nil (fun _ => st_name)) (fun _ => st_name) (fun _ => rfl) (fun _ => rfl)) SEs.nil (fun _ => st_call)) (fun _ => st_binop)) (fun _ => st_binop) (fun _ => rfl) (fun _ => rfl)) SEs.nil (fun _ => st_call)) (fun _ => st_const))))
        SS.nil) SS.nil)
        SS.nil) (fun _ _ => rfl))
        (SS.cons (S1.ret (SE.tuple (SEs.cons SE.bool (SEs.cons (SE.name 2 rfl) SEs.nil (fun _ => st_name)) (fun _ => st_const))))
        SS.nil))⟩

noncomputable def p_law_one : { G : St → Option (Fl × St) // ∀ P : Prm, P.K = hd.heap_39 P.w.params → SFn P 104 2 (fnF (fun vs => if vs.length = 5 then some vs else none) 5 G) } :=
  ⟨_, by
    intro P hK
    refine' SFn.mk (names := ["pattern", "at", "members", "end", "c"]) (ho := ?ho) (hcd := ?hcd) (ok := ?ok) (df := _) (dfx := id) (hdf := hdf_id 5 (by decide)) (hbind := ?hb) (hco := ?h1) (hgen := ?h2) (hcell := ?h3) (h := ?body)
    case ho => rw [hK]; exact rfl
    case hcd => rw [hK]; exact rfl
    case ok => exact ⟨rfl, by decide, by decide, by decide⟩
    case h1 => rfl
    case h2 => rfl
    case h3 => decide
    case hb => exact hb_id5 fun _ _ _ _ _ _ => rfl
    case body =>
      exact (SS.cons (S1.if_ (SB.cmp op_eq2 (SE.item (SE.name 0 rfl) (SE.name 1 rfl) (fun _ _ => ⟨_, rfl⟩)) (SE.strC (l := [91]) (by decide)) rfl) (SS.cons (S1.ret (SE.callF ⟨by rw [hK]; rfl, by rw [hK]; rfl, rfl, by decide⟩ (p_law_set.2 P hK) (by decide) (SEs.cons (SE.name 0 rfl) (SEs.cons (SE.name 2 rfl) (SEs.cons (SE.name 3 rfl) (SEs.cons (SE.name 4 rfl) SEs.nil (fun _ => st_name)) (fun _ => st_name)) (fun _ => st_name)) (fun _ => st_name)) (fun _ => st_name) (fun _ => rfl) (fun _ => rfl)))
        SS.nil) SS.nil)
        (SS.cons (S1.if_ (SB.cmp op_eq2 (SE.item (SE.name 0 rfl) (SE.name 1 rfl) (fun _ _ => ⟨_, rfl⟩)) (SE.strC (l := [92]) (by decide)) rfl) (SS.cons (S1.ret (SE.tuple (SEs.cons (SE.cmp op_eq2 (SE.slice (SE.name 0 rfl) (SO.some (SE.binOp op_add2 (SE.name 1 rfl) SE.int)) (SO.some (SE.binOp op_add2 (SE.name 1 rfl) SE.int)) SO.none (fun _ _ _ _ _ => rfl) (fun _ _ => ⟨_, rfl⟩) (fun _ _ _ => rfl)) (SE.name 4 rfl) rfl) (SEs.cons (SE.binOp op_add2 (SE.name 1 rfl) SE.int) SEs.nil (fun _ => st_binop)) (fun _ => st_cmp))))
        SS.nil) SS.nil)
        (SS.cons (S1.ret (SE.tuple (SEs.cons (SE.or (SE.cmp op_eq2 (SE.item (SE.name 0 rfl) (SE.name 1 rfl) (fun _ _ => ⟨_, rfl⟩)) (SE.strC (l := [63]) (by decide)) rfl) (SE.boolOne (SE.cmp op_eq2 (SE.item (SE.name 0 rfl) (SE.name 1 rfl) (fun _ _ => ⟨_, rfl⟩)) (SE.name 4 rfl) rfl))) (SEs.cons (SE.binOp op_add2 (SE.name 1 rfl) SE.int) SEs.nil (fun _ => st_binop)) (fun _ => st_bool))))
        SS.nil)))⟩

noncomputable def p_law_fits : { G : St → Option (Fl × St) // ∀ P : Prm, P.K = hd.heap_39 P.w.params → SFn P 111 3 (fnF (fun vs => if vs.length = 2 then some vs else none) 10 G) } :=
  ⟨_, by
    intro P hK
    refine' SFn.mk (names := ["pattern", "text", "rows", "at", "members", "end", "row", "place", "is_taken", "behind"]) (ho := ?ho) (hcd := ?hcd) (ok := ?ok) (df := _) (dfx := id) (hdf := hdf_id 2 (by decide)) (hbind := ?hb) (hco := ?h1) (hgen := ?h2) (hcell := ?h3) (h := ?body)
    case ho => rw [hK]; exact rfl
    case hcd => rw [hK]; exact rfl
    case ok => exact ⟨rfl, by decide, by decide, by decide⟩
    case h1 => rfl
    case h2 => rfl
    case h3 => decide
    case hb => exact hb_id2 fun _ _ _ => rfl
    case body =>
      exact (SS.cons (S1.assign 2 rfl (SE.dict1 (SE.callB ⟨by rw [hK]; rfl, rfl, by decide, rfl, by decide⟩ bf_len (SEs.cons (SE.name 0 rfl) SEs.nil (fun _ => st_name)) (fun _ => st_name) (fun _ => rfl) (fun _ => rfl)) (SE.binOp op_add2 (SE.binOp op_mul (SE.list (SEs.cons SE.bool SEs.nil (fun _ => st_const))) (SE.callB ⟨by rw [hK]; rfl, rfl, by decide, rfl, by decide⟩ bf_len (SEs.cons (SE.name 1 rfl) SEs.nil (fun _ => st_name)) (fun _ => st_name) (fun _ => rfl) (fun _ => rfl))) (SE.list (SEs.cons SE.bool SEs.nil (fun _ => st_const))))) (fun _ => rfl))
        (SS.cons (S1.forRange 3 rfl ⟨by rw [hK]; rfl, rfl, by decide, rfl, by decide⟩ (SEs.cons (SE.binOp op_sub (SE.callB ⟨by rw [hK]; rfl, rfl, by decide, rfl, by decide⟩ bf_len (SEs.cons (SE.name 0 rfl) SEs.nil (fun _ => st_name)) (fun _ => st_name) (fun _ => rfl) (fun _ => rfl)) SE.int) (SEs.cons (SE.neg SE.int) (SEs.cons (SE.neg SE.int) SEs.nil (fun _ => st_unary)) (fun _ => st_unary)) (fun _ => st_binop)) (SS.cons (S1.tup (SE.ite (SB.cmp op_eq2 (SE.item (SE.name 0 rfl) (SE.name 3 rfl) (fun _ _ => ⟨_, rfl⟩)) (SE.strC (l := [91]) (by decide)) rfl) (SE.callF ⟨by rw [hK]; rfl, by rw [hK]; rfl, rfl, by decide⟩ (p_law_members.2 P hK) (by decide) (SEs.cons (SE.name 0 rfl) (SEs.cons (SE.name 3 rfl) SEs.nil (fun _ => st_name)) (fun _ => st_name)) (fun _ => st_name) (fun _ => rfl) (fun _ => rfl)) (SE.tuple (SEs.cons (SE.list SEs.nil) (SEs.cons SE.int SEs.nil (fun _ => st_const)) (fun _ => st_list)))) (SA.tuple 2 (SAs.cons 4 rfl (SAs.cons 5 rfl SAs.nil (fun _ => rfl)) (fun _ => rfl)) (fun _ => rfl) (fun _ => rfl)) (fun _ => rfl) (fun _ => rfl))
        (SS.cons (S1.assign 6 rfl (SE.list (SEs.cons (SE.and (SE.cmp op_eq2 (SE.item (SE.name 0 rfl) (SE.name 3 rfl) (fun _ _ => ⟨_, rfl⟩)) (SE.strC (l := [42]) (by decide)) rfl) (SE.boolOne (SE.item (SE.item (SE.name 2 rfl) (SE.binOp op_add2 (SE.name 3 rfl) SE.int) (fun _ _ => ⟨_, rfl⟩)) (SE.callB ⟨by rw [hK]; rfl, rfl, by decide, rfl, by decide⟩ bf_len (SEs.cons (SE.name 1 rfl) SEs.nil (fun _ => st_name)) (fun _ => st_name) (fun _ => rfl) (fun _ => rfl)) (fun _ _ => ⟨_, rfl⟩)))) SEs.nil (fun _ => st_bool))) (fun _ => rfl))
        (SS.cons (S1.forRange 7 rfl ⟨by rw [hK]; rfl, rfl, by decide, rfl, by decide⟩ (SEs.cons (SE.binOp op_sub (SE.callB ⟨by rw [hK]; rfl, rfl, by decide, rfl, by decide⟩ bf_len (SEs.cons (SE.name 1 rfl) SEs.nil (fun _ => st_name)) (fun _ => st_name) (fun _ => rfl) (fun _ => rfl)) SE.int) (SEs.cons (SE.neg SE.int) (SEs.cons (SE.neg SE.int) SEs.nil (fun _ => st_unary)) (fun _ => st_unary)) (fun _ => st_binop)) (SS.cons (S1.if_ (SB.cmp op_eq2 (SE.item (SE.name 0 rfl) (SE.name 3 rfl) (fun _ _ => ⟨_, rfl⟩)) (SE.strC (l := [42]) (by decide)) rfl) (SS.cons (S1.expr (SE.meth mf_insert bf_insert (SE.name 6 rfl) (SEs.cons SE.int (SEs.cons (SE.or (SE.item (SE.item (SE.name 2 rfl) (SE.binOp op_add2 (SE.name 3 rfl) SE.int) (fun _ _ => ⟨_, rfl⟩)) (SE.name 7 rfl) (fun _ _ => ⟨_, rfl⟩)) (SE.boolOne (SE.item (SE.name 6 rfl) SE.int (fun _ _ => ⟨_, rfl⟩)))) SEs.nil (fun _ => st_bool)) (fun _ => st_const)) (fun _ => st_const) (fun _ => rfl) (fun _ => rfl)) (fun _ => rfl) (fun _ => rfl))
        SS.nil) (SS.cons (S1.tup (SE.callF ⟨by rw [hK]; rfl, by rw [hK]; rfl, rfl, by decide⟩ (p_law_one.2 P hK) (by decide) (SEs.cons (SE.name 0 rfl) (SEs.cons (SE.name 3 rfl) (SEs.cons (SE.name 4 rfl) (SEs.cons (SE.name 5 rfl) (SEs.cons (SE.item (SE.name 1 rfl) (SE.name 7 rfl) (fun _ _ => ⟨_, rfl⟩)) SEs.nil (fun _ => st_sub)) (fun _ => st_name)) (fun _ => st_name)) (fun _ => st_name)) (fun _ => st_name)) (fun _ => st_name) (fun _ => rfl) (fun _ => rfl)) (SA.tuple 2 (SAs.cons 8 rfl (SAs.cons 9 rfl SAs.nil (fun _ => rfl)) (fun _ => rfl)) (fun _ => rfl) (fun _ => rfl)) (fun _ => rfl) (fun _ => rfl))
        (SS.cons (S1.expr (SE.meth mf_insert bf_insert (SE.name 6 rfl) (SEs.cons SE.int (SEs.cons (SE.and (SE.name 8 rfl) (SE.boolOne (SE.item (SE.item (SE.name 2 rfl) (SE.name 9 rfl) (fun _ _ => ⟨_, rfl⟩)) (SE.binOp op_add2 (SE.name 7 rfl) SE.int) (fun _ _ => ⟨_, rfl⟩)))) SEs.nil (fun _ => st_bool)) (fun _ => st_const)) (fun _ => st_const) (fun _ => rfl) (fun _ => rfl)) (fun _ => rfl) (fun _ => rfl))
        SS.nil)))
        SS.nil) (fun _ _ => rfl) (fun _ => st_binop) (fun _ => rfl) (fun _ => rfl))
        (SS.cons (S1.sub (SE.name 6 rfl) (SE.name 2 rfl) (SE.name 3 rfl) (fun _ => rfl))
        SS.nil)))) (fun _ _ => rfl) (fun _ => st_binop) (fun _ => rfl) (fun _ => rfl))
        (SS.cons (S1.ret (SE.item (SE.item (SE.name 2 rfl) SE.int (fun _ _ => ⟨_, rfl⟩)) SE.int (fun _ _ => ⟨_, rfl⟩)))
        SS.nil)))⟩

end NP
end

section
set_option maxHeartbeats 4000000
namespace NP

noncomputable def p_law_told : { G : St → Option (Fl × St) // ∀ P : Prm, P.K = hd.heap_39 P.w.params → SFn P 64 1 (fnF (fun vs => if vs.length = 0 then some vs else none) 0 G) } :=
  ⟨_, by
    intro P hK
    refine' SFn.mk (names := []) (ho := ?ho) (hcd := ?hcd) (ok := ?ok) (df := _) (dfx := id) (hdf := hdf_id 0 (by decide)) (hbind := ?hb) (hco := ?h1) (hgen := ?h2) (hcell := ?h3) (h := ?body)
    case ho => rw [hK]; exact rfl
    case hcd => rw [hK]; exact rfl
    case ok => exact ⟨rfl, by decide, by decide, by decide⟩
    case h1 => rfl
    case h2 => rfl
    case h3 => decide
    case hb => exact hb_id0 fun _  => rfl
    case body =>
      exact (SS.cons (S1.ret (SE.list (SEs.cons (SE.tuple (SEs.cons SE.str (SEs.cons SE.str (SEs.cons SE.bool SEs.nil (fun _ => st_const)) (fun _ => st_const)) (fun _ => st_const))) (SEs.cons (SE.tuple (SEs.cons SE.str (SEs.cons SE.str (SEs.cons SE.bool SEs.nil (fun _ => st_const)) (fun _ => st_const)) (fun _ => st_const))) (SEs.cons (SE.tuple (SEs.cons SE.str (SEs.cons SE.str (SEs.cons SE.bool SEs.nil (fun _ => st_const)) (fun _ => st_const)) (fun _ => st_const))) (SEs.cons (SE.tuple (SEs.cons SE.str (SEs.cons (SE.strC (l := [97]) (by decide)) (SEs.cons SE.bool SEs.nil (fun _ => st_const)) (fun _ => st_const)) (fun _ => st_const))) (SEs.cons (SE.tuple (SEs.cons SE.str (SEs.cons SE.str (SEs.cons SE.bool SEs.nil (fun _ => st_const)) (fun _ => st_const)) (fun _ => st_const))) (SEs.cons (SE.tuple (SEs.cons SE.str (SEs.cons (SE.strC (l := [97]) (by decide)) (SEs.cons SE.bool SEs.nil (fun _ => st_const)) (fun _ => st_const)) (fun _ => st_const))) (SEs.cons (SE.tuple (SEs.cons SE.str (SEs.cons (SE.strC (l := [99]) (by decide)) (SEs.cons SE.bool SEs.nil (fun _ => st_const)) (fun _ => st_const)) (fun _ => st_const))) (SEs.cons (SE.tuple (SEs.cons SE.str (SEs.cons (SE.strC (l := [45]) (by decide)) (SEs.cons SE.bool SEs.nil (fun _ => st_const)) (fun _ => st_const)) (fun _ => st_const))) (SEs.cons (SE.tuple (SEs.cons SE.str (SEs.cons (SE.strC (l := [98]) (by decide)) (SEs.cons SE.bool SEs.nil (fun _ => st_const)) (fun _ => st_const)) (fun _ => st_const))) (SEs.cons (SE.tuple (SEs.cons SE.str (SEs.cons (SE.strC (l := [97]) (by decide)) (SEs.cons SE.bool SEs.nil (fun _ => st_const)) (fun _ => st_const)) (fun _ => st_const))) (SEs.cons (SE.tuple (SEs.cons SE.str (SEs.cons SE.str (SEs.cons SE.bool SEs.nil (fun _ => st_const)) (fun _ => st_const)) (fun _ => st_const))) (SEs.cons (SE.tuple (SEs.cons SE.str (SEs.cons SE.str (SEs.cons SE.bool SEs.nil (fun _ => st_const)) (fun _ => st_const)) (fun _ => st_const))) (SEs.cons (SE.tuple (SEs.cons SE.str (SEs.cons (SE.strC (l := [97]) (by decide)) (SEs.cons SE.bool SEs.nil (fun _ => st_const)) (fun _ => st_const)) (fun _ => st_const))) (SEs.cons (SE.tuple (SEs.cons SE.str (SEs.cons SE.str (SEs.cons SE.bool SEs.nil (fun _ => st_const)) (fun _ => st_const)) (fun _ => st_const))) (SEs.cons (SE.tuple (SEs.cons SE.str (SEs.cons SE.str (SEs.cons SE.bool SEs.nil (fun _ => st_const)) (fun _ => st_const)) (fun _ => st_const))) (SEs.cons (SE.tuple (SEs.cons SE.str (SEs.cons (SE.strC (l := [92]) (by decide)) (SEs.cons SE.bool SEs.nil (fun _ => st_const)) (fun _ => st_const)) (fun _ => st_const))) (SEs.cons (SE.tuple (SEs.cons SE.str (SEs.cons SE.str (SEs.cons SE.bool SEs.nil (fun _ => st_const)) (fun _ => st_const)) (fun _ => st_const))) (SEs.cons (SE.tuple (SEs.cons SE.str (SEs.cons SE.str (SEs.cons SE.bool SEs.nil (fun _ => st_const)) (fun _ => st_const)) (fun _ => st_const))) (SEs.cons (SE.tuple (SEs.cons SE.str (SEs.cons SE.str (SEs.cons SE.bool SEs.nil (fun _ => st_const)) (fun _ => st_const)) (fun _ => st_const))) (SEs.cons (SE.tuple (SEs.cons SE.str (SEs.cons SE.str (SEs.cons SE.bool SEs.nil (fun _ => st_const)) (fun _ => st_const)) (fun _ => st_const))) (SEs.cons (SE.tuple (SEs.cons (SE.strC (l := []) (by decide)) (SEs.cons (SE.strC (l := []) (by decide)) (SEs.cons SE.bool SEs.nil (fun _ => st_const)) (fun _ => st_const)) (fun _ => st_const))) (SEs.cons (SE.tuple (SEs.cons (SE.strC (l := [42]) (by decide)) (SEs.cons (SE.strC (l := []) (by decide)) (SEs.cons SE.bool SEs.nil (fun _ => st_const)) (fun _ => st_const)) (fun _ => st_const))) (SEs.cons (SE.tuple (SEs.cons SE.str (SEs.cons (SE.strC (l := [98]) (by decide)) (SEs.cons SE.bool SEs.nil (fun _ => st_const)) (fun _ => st_const)) (fun _ => st_const))) (SEs.cons (SE.tuple (SEs.cons SE.str (SEs.cons SE.str (SEs.cons SE.bool SEs.nil (fun _ => st_const)) (fun _ => st_const)) (fun _ => st_const))) (SEs.cons (SE.tuple (SEs.cons (SE.strC (l := [97]) (by decide)) (SEs.cons SE.str (SEs.cons SE.bool SEs.nil (fun _ => st_const)) (fun _ => st_const)) (fun _ => st_const))) (SEs.cons (SE.tuple (SEs.cons SE.str (SEs.cons (SE.strC (l := [91]) (by decide)) (SEs.cons SE.bool SEs.nil (fun _ => st_const)) (fun _ => st_const)) (fun _ => st_const))) (SEs.cons (SE.tuple (SEs.cons SE.str (SEs.cons (SE.strC (l := [97]) (by decide)) (SEs.cons SE.bool SEs.nil (fun _ => st_const)) (fun _ => st_const)) (fun _ => st_const))) (SEs.cons (SE.tuple (SEs.cons SE.str (SEs.cons (SE.strC (l := [98]) (by decide)) (SEs.cons SE.bool SEs.nil (fun _ => st_const)) (fun _ => st_const)) (fun _ => st_const))) SEs.nil (fun _ => st_tuple)) (fun _ => st_tuple)) (fun _ => st_tuple)) (fun _ => st_tuple)) (fun _ => st_tuple)) (fun _ => st_tuple)) (fun _ => st_tuple)) (fun _ => st_tuple)) (fun _ => st_tuple)) (fun _ => st_tuple)) (fun _ => st_tuple)) (fun _ => st_tuple)) (fun _ => st_tuple)) (fun _ => st_tuple)) (fun _ => st_tuple)) (fun _ => st_tuple)) (fun _ => st_tuple)) (fun _ => st_tuple)) (fun _ => st_tuple)) (fun _ => st_tuple)) (fun _ => st_tuple)) (fun _ => st_tuple)) (fun _ => st_tuple)) (fun _ => st_tuple)) (fun _ => st_tuple)) (fun _ => st_tuple)) (fun _ => st_tuple)) (fun _ => st_tuple))))
        SS.nil)⟩

end NP
end

section
set_option maxHeartbeats 4000000
namespace NP

noncomputable def p_law_case_right : { G : St → Option (Fl × St) // ∀ P : Prm, P.K = hd.heap_39 P.w.params → SFn P 116 4 (fnF (fun vs => if vs.length = 3 then some vs else none) 9 G) } :=
  ⟨_, by
    intro P hK
    refine' SFn.mk (names := ["pattern", "text", "is_nocase", "due", "heard", "at", "members", "end", "c"]) (ho := ?ho) (hcd := ?hcd) (ok := ?ok) (df := _) (dfx := id) (hdf := hdf_id 3 (by decide)) (hbind := ?hb) (hco := ?h1) (hgen := ?h2) (hcell := ?h3) (h := ?body)
    case ho => rw [hK]; exact rfl
    case hcd => rw [hK]; exact rfl
    case ok => exact ⟨rfl, by decide, by decide, by decide⟩
    case h1 => rfl
    case h2 => rfl
    case h3 => decide
    case hb => exact hb_id3 fun _ _ _ _ => rfl
    case body =>
      exact (SS.cons (S1.assign 3 rfl (SE.ite (SB.plain (SE.name 2 rfl) (fun _ => rfl)) (SE.callF ⟨by rw [hK]; rfl, by rw [hK]; rfl, rfl, by decide⟩ (p_law_fits.2 P hK) (by decide) (SEs.cons (SE.callF ⟨by rw [hK]; rfl, by rw [hK]; rfl, rfl, by decide⟩ (p_law_low.2 P hK) (by decide) (SEs.cons (SE.name 0 rfl) SEs.nil (fun _ => st_name)) (fun _ => st_name) (fun _ => rfl) (fun _ => rfl)) (SEs.cons (SE.callF ⟨by rw [hK]; rfl, by rw [hK]; rfl, rfl, by decide⟩ (p_law_low.2 P hK) (by decide) (SEs.cons (SE.name 1 rfl) SEs.nil (fun _ => st_name)) (fun _ => st_name) (fun _ => rfl) (fun _ => rfl)) SEs.nil (fun _ => st_call)) (fun _ => st_call)) (fun _ => st_call) (fun _ => rfl) (fun _ => rfl)) (SE.callF ⟨by rw [hK]; rfl, by rw [hK]; rfl, rfl, by decide⟩ (p_law_fits.2 P hK) (by decide) (SEs.cons (SE.name 0 rfl) (SEs.cons (SE.name 1 rfl) SEs.nil (fun _ => st_name)) (fun _ => st_name)) (fun _ => st_name) (fun _ => rfl) (fun _ => rfl))) (fun _ => rfl))
        (SS.cons (S1.assign 4 rfl (SE.ite (SB.plain (SE.name 2 rfl) (fun _ => rfl)) (SE.callF ⟨by rw [hK]; rfl, by rw [hK]; rfl, rfl, by decide⟩ (p_fits.2 P hK) (by decide) (SEs.cons (SE.name 0 rfl) (SEs.cons (SE.name 1 rfl) (SEs.cons SE.bool SEs.nil (fun _ => st_const)) (fun _ => st_name)) (fun _ => st_name)) (fun _ => st_name) (fun _ => rfl) (fun _ => rfl)) (SE.callF ⟨by rw [hK]; rfl, by rw [hK]; rfl, rfl, by decide⟩ (p_fits.2 P hK) (by decide) (SEs.cons (SE.name 0 rfl) (SEs.cons (SE.name 1 rfl) SEs.nil (fun _ => st_name)) (fun _ => st_name)) (fun _ => st_name) (fun _ => rfl) (fun _ => rfl))) (fun _ => rfl))
        (SS.cons (S1.if_ (SBw.to (SBw.or1 (SB.cmp op_ne (SE.callB ⟨by rw [hK]; rfl, rfl, by decide, rfl, by decide⟩ bf_repr (SEs.cons (SE.name 4 rfl) SEs.nil (fun _ => st_name)) (fun _ => st_name) (fun _ => rfl) (fun _ => rfl)) (SE.callB ⟨by rw [hK]; rfl, rfl, by decide, rfl, by decide⟩ bf_repr (SEs.cons (SE.name 3 rfl) SEs.nil (fun _ => st_name)) (fun _ => st_name) (fun _ => rfl) (fun _ => rfl)) rfl) (SBw.or1 (SB.cmp op_ne (SE.callB ⟨by rw [hK]; rfl, rfl, by decide, rfl, by decide⟩ bf_repr (SEs.cons (SE.callF ⟨by rw [hK]; rfl, by rw [hK]; rfl, rfl, by decide⟩ (p_is_plain.2 P hK) (by decide) (SEs.cons (SE.name 0 rfl) SEs.nil (fun _ => st_name)) (fun _ => st_name) (fun _ => rfl) (fun _ => rfl)) SEs.nil (fun _ => st_call)) (fun _ => st_call) (fun _ => rfl) (fun _ => rfl)) (SE.callB ⟨by rw [hK]; rfl, rfl, by decide, rfl, by decide⟩ bf_repr (SEs.cons (SE.cmp op_eq2 (SE.comp (by decide) (by decide) rfl (by decide) rfl (SE.name 0 rfl) (CTs.inMarks rfl rfl) (CEl.self rfl rfl) (fun _ _ => rfl)) (SE.list SEs.nil) rfl) SEs.nil (fun _ => st_cmp)) (fun _ => st_cmp) (fun _ => rfl) (fun _ => rfl)) rfl) SBw.or0))) (SS.cons (S1.ret SE.bool)
        SS.nil) SS.nil)
        (SS.cons (S1.forRange 5 rfl ⟨by rw [hK]; rfl, rfl, by decide, rfl, by decide⟩ (SEs.cons (SE.callB ⟨by rw [hK]; rfl, rfl, by decide, rfl, by decide⟩ bf_len (SEs.cons (SE.name 0 rfl) SEs.nil (fun _ => st_name)) (fun _ => st_name) (fun _ => rfl) (fun _ => rfl)) SEs.nil (fun _ => st_call)) (SS.cons (S1.if_ (SB.cmp op_eq2 (SE.item (SE.name 0 rfl) (SE.name 5 rfl) (fun _ _ => ⟨_, rfl⟩)) (SE.strC (l := [91]) (by decide)) rfl) (SS.cons (S1.tup (SE.callF ⟨by rw [hK]; rfl, by rw [hK]; rfl, rfl, by decide⟩ (p_law_members.2 P hK) (by decide) (SEs.cons (SE.name 0 rfl) (SEs.cons (SE.name 5 rfl) SEs.nil (fun _ => st_name)) (fun _ => st_name)) (fun _ => st_name) (fun _ => rfl) (fun _ => rfl)) (SA.tuple 2 (SAs.cons 6 rfl (SAs.cons 7 rfl SAs.nil (fun _ => rfl)) (fun _ => rfl)) (fun _ => rfl) (fun _ => rfl)) (fun _ => rfl) (fun _ => rfl))
        (SS.cons (S1.assign 8 rfl (SE.item (SE.binOp op_add2 (SE.name 1 rfl) (SE.strC (l := [97]) (by decide))) SE.int (fun _ _ => ⟨_, rfl⟩)) (fun _ => rfl))
        (SS.cons (S1.if_ (SB.cmp op_ne (SE.callB ⟨by rw [hK]; rfl, rfl, by decide, rfl, by decide⟩ bf_repr (SEs.cons (SE.callF ⟨by rw [hK]; rfl, by rw [hK]; rfl, rfl, by decide⟩ (p_in_set.2 P hK) (by decide) (SEs.cons (SE.name 0 rfl) (SEs.cons (SE.name 5 rfl) (SEs.cons (SE.name 8 rfl) SEs.nil (fun _ => st_name)) (fun _ => st_name)) (fun _ => st_name)) (fun _ => st_name) (fun _ => rfl) (fun _ => rfl)) SEs.nil (fun _ => st_call)) (fun _ => st_call) (fun _ => rfl) (fun _ => rfl)) (SE.callB ⟨by rw [hK]; rfl, rfl, by decide, rfl, by decide⟩ bf_repr (SEs.cons (SE.callF ⟨by rw [hK]; rfl, by rw [hK]; rfl, rfl, by decide⟩ (p_law_set.2 P hK) (by decide) (SEs.cons (SE.name 0 rfl) (SEs.cons (SE.name 6 rfl) (SEs.cons (SE.name 7 rfl) (SEs.cons (SE.name 8 rfl) SEs.nil (fun _ => st_name)) (fun _ => st_name)) (fun _ => st_name)) (fun _ => st_name)) (fun _ => st_name) (fun _ => rfl) (fun _ => rfl)) SEs.nil (fun _ => st_call)) (fun _ => st_call) (fun _ => rfl) (fun _ => rfl)) rfl) (SS.cons (S1.ret SE.bool)
        SS.nil) SS.nil)
        SS.nil))) SS.nil)
        SS.nil) (fun _ _ => rfl) (fun _ => st_call) (fun _ => rfl) (fun _ => rfl))
        (SS.cons (S1.ret SE.bool)
        SS.nil)))))⟩

noncomputable def p_law_quoted_right : { G : St → Option (Fl × St) // ∀ P : Prm, P.K = hd.heap_39 P.w.params → SFn P 121 4 (fnF (fun vs => if vs.length = 3 then some vs else none) 6 G) } :=
  ⟨_, by
    intro P hK
    refine' SFn.mk (names := ["text", "other", "is_nocase", "quoted", "one", "is_same"]) (ho := ?ho) (hcd := ?hcd) (ok := ?ok) (df := _) (dfx := id) (hdf := hdf_id 3 (by decide)) (hbind := ?hb) (hco := ?h1) (hgen := ?h2) (hcell := ?h3) (h := ?body)
    case ho => rw [hK]; exact rfl
    case hcd => rw [hK]; exact rfl
    case ok => exact ⟨rfl, by decide, by decide, by decide⟩
    case h1 => rfl
    case h2 => rfl
    case h3 => decide
    case hb => exact hb_id3 fun _ _ _ _ => rfl
    case body =>
      exact (SS.cons (S1.assign 3 rfl (SE.meth mf_join bf_join (SE.strC (l := []) (by decide)) (SEs.cons (SE.comp (by decide) (by decide) rfl (by decide) rfl (SE.name 0 rfl) CTs.none (CEl.quote rfl rfl) (fun _ _ => rfl)) SEs.nil (fun _ => st_comp)) (fun _ => st_comp) (fun _ => rfl) (fun _ => rfl)) (fun _ => rfl))
        (SS.cons (S1.forList (SA.name 4 rfl) (SE.list (SEs.cons (SE.name 0 rfl) (SEs.cons (SE.name 1 rfl) SEs.nil (fun _ => st_name)) (fun _ => st_name))) (SS.cons (S1.assign 5 rfl (SE.ite (SB.plain (SE.name 2 rfl) (fun _ => rfl)) (SE.cmp op_eq2 (SE.callF ⟨by rw [hK]; rfl, by rw [hK]; rfl, rfl, by decide⟩ (p_law_low.2 P hK) (by decide) (SEs.cons (SE.name 4 rfl) SEs.nil (fun _ => st_name)) (fun _ => st_name) (fun _ => rfl) (fun _ => rfl)) (SE.callF ⟨by rw [hK]; rfl, by rw [hK]; rfl, rfl, by decide⟩ (p_law_low.2 P hK) (by decide) (SEs.cons (SE.name 0 rfl) SEs.nil (fun _ => st_name)) (fun _ => st_name) (fun _ => rfl) (fun _ => rfl)) rfl) (SE.cmp op_eq2 (SE.name 4 rfl) (SE.name 0 rfl) rfl)) (fun _ => rfl))
        (SS.cons (S1.if_ (SB.cmp op_ne (SE.callB ⟨by rw [hK]; rfl, rfl, by decide, rfl, by decide⟩ bf_repr (SEs.cons (SE.callF ⟨by rw [hK]; rfl, by rw [hK]; rfl, rfl, by decide⟩ (p_fits.2 P hK) (by decide) (SEs.cons (SE.name 3 rfl) (SEs.cons (SE.name 4 rfl) (SEs.cons (SE.name 2 rfl) SEs.nil (fun _ => st_name)) (fun _ => st_name)) (fun _ => st_name)) (fun _ => st_name) (fun _ => rfl) (fun _ => rfl)) SEs.nil (fun _ => st_call)) (fun _ => st_call) (fun _ => rfl) (fun _ => rfl)) (SE.callB ⟨by rw [hK]; rfl, rfl, by decide, rfl, by decide⟩ bf_repr (SEs.cons (SE.name 5 rfl) SEs.nil (fun _ => st_name)) (fun _ => st_name) (fun _ => rfl) (fun _ => rfl)) rfl) (SS.cons (S1.ret SE.bool)
        SS.nil) SS.nil)
        SS.nil)) (fun _ _ => rfl))
        (SS.cons (S1.ret SE.bool)
        SS.nil)))⟩

end NP
end

section
set_option maxHeartbeats 4000000
namespace NP
noncomputable def kV (v : V) (st : St) : Option (V × St) := some (v, st)
noncomputable def kB (b : Bool) (st : St) : Option (Bool × St) := some (b, st)
noncomputable def nilS (st : St) : Option (List V × St) := some ([], st)
noncomputable def noneO (st : St) : Option (Option V × St) := some (none, st)
noncomputable def nextF (st : St) : Option (Fl × St) := some (.next, st)

-- in_set: 0 pattern, 1 at, 2 c, 3 size, 4 low, 5 high, 6 close
noncomputable def in_set_b1 : St → Option (Fl × St) :=
  (seqF (asgF (bin (getF 0) (getF 1) itemF) (setF 4))
    (seqF (asgF (getF 4) (setF 5))
    (seqF (augF 1 (kV (.int 1)) addF)
    (seqF (ifF (cmpB (slcF (getF 0) (optF (getF 1)) (optF (bin (getF 1) (kV (.int 1)) addF2)) noneO) (kV (.str [45])) eqF2) (seqF (ifF (cmpB (bin (getF 1) (kV (.int 1)) addF2) (getF 3) geF) (seqF (retF (tupF (consF (kV (.bool false)) (consF (getF 3) nilS))))
    nextF) nextF)
    (seqF (asgF (bin (getF 0) (bin (getF 1) (kV (.int 1)) addF2) itemF) (setF 5))
    (seqF (augF 1 (kV (.int 2)) addF)
    nextF))) nextF)
    (seqF (ifF (orB (andB (cmpB (getF 4) (getF 2) leF) (andB (cmpB (getF 2) (getF 5) leF) (kB true))) (orB (andB (cmpB (getF 5) (getF 2) leF) (andB (cmpB (getF 2) (getF 4) leF) (kB true))) (kB false))) (seqF (asgF (methB (getF 0) isStr (consF (kV (.str [93])) (consF (getF 1) nilS)) findF) (setF 6))
    (seqF (ifF (cmpB (getF 6) (kV (.int 0)) ltF) (seqF (retF (tupF (consF (kV (.bool true)) (consF (getF 3) nilS))))
    nextF) nextF)
    (seqF (retF (tupF (consF (kV (.bool true)) (consF (bin (getF 6) (kV (.int 1)) addF2) nilS))))
    nextF))) nextF)
    nextF)))))
noncomputable def in_set_t1 : St → Option (Bool × St) :=
  (andB (cmpB (getF 1) (getF 3) ltF) (andB (cmpB (bin (getF 0) (getF 1) itemF) (kV (.str [93])) neF) (kB true)))
noncomputable def in_set_F : St → Option (Fl × St) :=
  (seqF (asgF (callB (consF (getF 0) nilS) lenF) (setF 3))
    (seqF (augF 1 (kV (.int 1)) addF)
    (seqF (whileF 100 in_set_t1 in_set_b1)
    (seqF (ifF (cmpB (getF 1) (getF 3) ltF) (seqF (retF (tupF (consF (kV (.bool false)) (consF (bin (getF 1) (kV (.int 1)) addF2) nilS))))
    nextF) nextF)
    (seqF (retF (tupF (consF (kV (.bool false)) (consF (getF 3) nilS))))
    nextF)))))
noncomputable def in_set_fn : List V → List Nat → List Ob → Option (V × List Ob) := fnF (fun vs => if vs.length = 3 then some vs else none) 7 in_set_F

-- behind_one: 0 pattern, 1 at, 2 c, 3 is_in, 4 behind
noncomputable def behind_one_F : St → Option (Fl × St) :=
  (seqF (ifF (cmpB (bin (getF 0) (getF 1) itemF) (kV (.str [63])) eqF2) (seqF (retF (bin (getF 1) (kV (.int 1)) addF2))
    nextF) nextF)
    (seqF (ifF (cmpB (bin (getF 0) (getF 1) itemF) (kV (.str [91])) eqF2) (seqF (asgF (callF (consF (getF 0) (consF (getF 1) (consF (getF 2) nilS))) in_set_fn) (untupF 2 (setsF [3, 4])))
    (seqF (ifF (truB (getF 3)) (seqF (retF (getF 4))
    nextF) nextF)
    (seqF (retF (negV (kV (.int 1))))
    nextF))) nextF)
    (seqF (ifF (cmpB (bin (getF 0) (getF 1) itemF) (kV (.str [92])) eqF2) (seqF (augF 1 (kV (.int 1)) addF)
    nextF) nextF)
    (seqF (ifF (cmpB (slcF (getF 0) (optF (getF 1)) (optF (bin (getF 1) (kV (.int 1)) addF2)) noneO) (getF 2) eqF2) (seqF (retF (bin (getF 1) (kV (.int 1)) addF2))
    nextF) nextF)
    (seqF (retF (negV (kV (.int 1))))
    nextF)))))
noncomputable def behind_one_fn : List V → List Nat → List Ob → Option (V × List Ob) := fnF (fun vs => if vs.length = 3 then some vs else none) 5 behind_one_F

-- put_places: 0 pattern, 1 at, 2 places
noncomputable def put_places_b1 : St → Option (Fl × St) :=
  (seqF (augF 1 (kV (.int 1)) addF)
    (seqF (subF3 (kV (.bool true)) (getF 2) (getF 1))
    nextF))
noncomputable def put_places_t1 : St → Option (Bool × St) :=
  (cmpB (slcF (getF 0) (optF (getF 1)) (optF (bin (getF 1) (kV (.int 1)) addF2)) noneO) (kV (.str [42])) eqF2)
noncomputable def put_places_F : St → Option (Fl × St) :=
  (seqF (subF3 (kV (.bool true)) (getF 2) (getF 1))
    (seqF (whileF 100 put_places_t1 put_places_b1)
    nextF))
noncomputable def put_places_fn : List V → List Nat → List Ob → Option (V × List Ob) := fnF (fun vs => if vs.length = 3 then some vs else none) 3 put_places_F

-- folded: 0 text, 1 made, 2 sign, 3 low
noncomputable def folded_b1 : St → Option (Fl × St) :=
  (seqF (asgF (methB (getF 2) isStr nilS lowerF) (setF 3))
    (seqF (ifF (cmpB (callB (consF (getF 3) nilS) lenF) (kV (.int 1)) eqF2) (seqF (augF 1 (getF 3) addF)
    nextF) (seqF (augF 1 (getF 2) addF)
    nextF))
    nextF))
noncomputable def folded_F : St → Option (Fl × St) :=
  (seqF (asgF (kV (.str [])) (setF 1))
    (seqF (forStr (getF 0) (setF 2) folded_b1)
    (seqF (retF (getF 1))
    nextF)))
noncomputable def folded_fn : List V → List Nat → List Ob → Option (V × List Ob) := fnF (fun vs => if vs.length = 1 then some vs else none) 4 folded_F

-- fits: 0 pattern, 1 text, 2 is_nocase, 3 size, 4 places, 5 c, 6 after, 7 at, 8 behind
noncomputable def fits_b2 : St → Option (Fl × St) :=
  (seqF (ifF (cmpB (slcF (getF 0) (optF (getF 7)) (optF (bin (getF 7) (kV (.int 1)) addF2)) noneO) (kV (.str [42])) eqF2) (seqF (exprF (callF (consF (getF 0) (consF (getF 7) (consF (getF 6) nilS))) put_places_fn))
    nextF) (seqF (ifF (cmpB (getF 7) (getF 3) ltF) (seqF (asgF (callF (consF (getF 0) (consF (getF 7) (consF (getF 5) nilS))) behind_one_fn) (setF 8))
    (seqF (ifF (cmpB (getF 8) (kV (.int 0)) geF) (seqF (exprF (callF (consF (getF 0) (consF (getF 8) (consF (getF 6) nilS))) put_places_fn))
    nextF) nextF)
    nextF)) nextF)
    nextF))
    nextF)
noncomputable def fits_b1 : St → Option (Fl × St) :=
  (seqF (ifF (andB (cmpB (slcF (getF 0) (optF (negV (kV (.int 1)))) noneO noneO) (kV (.str [42])) eqF2) (andB (cmpB (bin (getF 3) (kV (.int 1)) subF) (getF 4) inF) (kB true))) (seqF (retF (kV (.bool true)))
    nextF) nextF)
    (seqF (asgF dict0 (setF 6))
    (seqF (forDict (getF 4) (setF 7) fits_b2)
    (seqF (ifF (notB (truB (getF 6))) (seqF (retF (kV (.bool false)))
    nextF) nextF)
    (seqF (asgF (getF 6) (setF 4))
    nextF)))))
noncomputable def fits_F : St → Option (Fl × St) :=
  (seqF (ifF (truB (getF 2)) (seqF (asgF (callF (consF (getF 0) nilS) folded_fn) (setF 0))
    (seqF (asgF (callF (consF (getF 1) nilS) folded_fn) (setF 1))
    nextF)) nextF)
    (seqF (asgF (callB (consF (getF 0) nilS) lenF) (setF 3))
    (seqF (asgF dict0 (setF 4))
    (seqF (exprF (callF (consF (getF 0) (consF (kV (.int 0)) (consF (getF 4) nilS))) put_places_fn))
    (seqF (forStr (getF 1) (setF 5) fits_b1)
    (seqF (retF (cmpV (getF 3) (getF 4) inF))
    nextF))))))
noncomputable def fits_fn : List V → List Nat → List Ob → Option (V × List Ob) := fnF dfFits 9 fits_F

-- is_plain: 0 pattern, 1 sign
noncomputable def is_plain_b1 : St → Option (Fl × St) :=
  (seqF (ifF (cmpB (getF 1) (kV (textL "*?[\\")) inF) (seqF (retF (kV (.bool false)))
    nextF) nextF)
    nextF)
noncomputable def is_plain_F : St → Option (Fl × St) :=
  (seqF (forStr (getF 0) (setF 1) is_plain_b1)
    (seqF (retF (kV (.bool true)))
    nextF))
noncomputable def is_plain_fn : List V → List Nat → List Ob → Option (V × List Ob) := fnF (fun vs => if vs.length = 1 then some vs else none) 2 is_plain_F

-- _law_draw: 0 pen, 1 many, 2 drawn
noncomputable def law_draw_F : St → Option (Fl × St) :=
  (seqF (asgF (bin (bin (getF 0) (kV (.int 0)) itemF) (getF 1) modF) (setF 2))
    (seqF (subF3 (bin (bin (getF 0) (kV (.int 0)) itemF) (getF 1) divF) (getF 0) (kV (.int 0)))
    (seqF (retF (getF 2))
    nextF)))
noncomputable def law_draw_fn : List V → List Nat → List Ob → Option (V × List Ob) := fnF (fun vs => if vs.length = 2 then some vs else none) 3 law_draw_F

-- _law_turned: 0 told, 1 pen, 2 signs, 3 size, 4 made, 5 place, 6 old
noncomputable def law_turned_b1 : St → Option (Fl × St) :=
  (seqF (asgF (iteV (cmpB (getF 5) (callB (consF (getF 0) nilS) lenF) ltF) (methB (getF 2) isStr (consF (bin (getF 0) (getF 5) itemF) nilS) indexF) (kV (.int 0))) (setF 6))
    (seqF (asgF (bin (getF 4) (bin (getF 2) (bin (bin (getF 6) (callF (consF (getF 1) (consF (kV (.int 13)) nilS)) law_draw_fn) addF2) (kV (.int 13)) modF) itemF) addF2) (setF 4))
    nextF))
noncomputable def law_turned_F : St → Option (Fl × St) :=
  (seqF (asgF (kV (textL "abcB*?[]-\\Ééİ")) (setF 2))
    (seqF (asgF (bin (bin (callB (consF (getF 0) nilS) lenF) (callF (consF (getF 1) (consF (kV (.int 9)) nilS)) law_draw_fn) addF2) (kV (.int 9)) modF) (setF 3))
    (seqF (asgF (kV (.str [])) (setF 4))
    (seqF (forRange (consF (getF 3) nilS) (setF 5) law_turned_b1)
    (seqF (retF (getF 4))
    nextF)))))
noncomputable def law_turned_fn : List V → List Nat → List Ob → Option (V × List Ob) := fnF (fun vs => if vs.length = 2 then some vs else none) 7 law_turned_F

-- _law_low: 0 text
noncomputable def law_low_F : St → Option (Fl × St) :=
  (seqF (retF (methB (kV (.str [])) isStr (consF (compF (getF 0) (fun _ => true) lowF) nilS) joinF))
    nextF)
noncomputable def law_low_fn : List V → List Nat → List Ob → Option (V × List Ob) := fnF (fun vs => if vs.length = 1 then some vs else none) 1 law_low_F

-- _law_members: 0 pattern, 1 at, 2 members, 3 ends
noncomputable def law_members_b1 : St → Option (Fl × St) :=
  (seqF (ifF (cmpB (slcF (getF 0) (optF (bin (getF 1) (kV (.int 1)) addF2)) (optF (bin (getF 1) (kV (.int 2)) addF2)) noneO) (kV (.str [45])) neF) (seqF (asgF (tupF (consF (lstF (consF (bin (getF 0) (getF 1) itemF) nilS)) (consF (bin (getF 1) (kV (.int 1)) addF2) nilS))) (set2r 3 1))
    nextF) (seqF (ifF (cmpB (bin (getF 1) (kV (.int 2)) addF2) (callB (consF (getF 0) nilS) lenF) ltF) (seqF (asgF (tupF (consF (lstF (consF (bin (getF 0) (getF 1) itemF) (consF (bin (getF 0) (bin (getF 1) (kV (.int 2)) addF2) itemF) nilS))) (consF (bin (getF 1) (kV (.int 3)) addF2) nilS))) (set2r 3 1))
    nextF) (seqF (retF (tupF (consF (getF 2) (consF (callB (consF (getF 0) nilS) lenF) nilS))))
    nextF))
    nextF))
    (seqF (exprF (methB (getF 2) isLst (consF (tupF (consF (callB (consF (getF 3) nilS) minF) (consF (callB (consF (getF 3) nilS) maxF) (consF (getF 1) nilS)))) nilS) appF))
    nextF))
noncomputable def law_members_t1 : St → Option (Bool × St) :=
  (andB (cmpB (getF 1) (callB (consF (getF 0) nilS) lenF) ltF) (andB (cmpB (bin (getF 0) (getF 1) itemF) (kV (.str [93])) neF) (kB true)))
noncomputable def law_members_F : St → Option (Fl × St) :=
  (seqF (asgF (tupF (consF (lstF nilS) (consF (bin (getF 1) (kV (.int 1)) addF2) nilS))) (set2r 2 1))
    (seqF (whileF 100 law_members_t1 law_members_b1)
    (seqF (retF (tupF (consF (getF 2) (consF (callB (consF (bin (getF 1) (kV (.int 1)) addF2) (consF (callB (consF (getF 0) nilS) lenF) nilS)) minF) nilS))))
    nextF)))
noncomputable def law_members_fn : List V → List Nat → List Ob → Option (V × List Ob) := fnF (fun vs => if vs.length = 2 then some vs else none) 4 law_members_F

-- _law_set: 0 pattern, 1 members, 2 end, 3 c, 4 least, 5 greatest, 6 behind
noncomputable def law_set_b1 : St → Option (Fl × St) :=
  (seqF (ifF (chainB (getF 4) (getF 3) (getF 5) leF leF) (seqF (retF (tupF (consF (kV (.bool true)) (consF (callB (consF (bin (methB (bin (getF 0) (kV (.str [93])) addF2) isStr (consF (kV (.str [93])) (consF (getF 6) nilS)) indexF) (kV (.int 1)) addF2) (consF (callB (consF (getF 0) nilS) lenF) nilS)) minF) nilS))))
    nextF) nextF)
    nextF)
noncomputable def law_set_F : St → Option (Fl × St) :=
  (seqF (forList (getF 1) (untupF 3 (setsF [4, 5, 6])) law_set_b1)
    (seqF (retF (tupF (consF (kV (.bool false)) (consF (getF 2) nilS))))
    nextF))
noncomputable def law_set_fn : List V → List Nat → List Ob → Option (V × List Ob) := fnF (fun vs => if vs.length = 4 then some vs else none) 7 law_set_F

-- _law_one: 0 pattern, 1 at, 2 members, 3 end, 4 c
noncomputable def law_one_F : St → Option (Fl × St) :=
  (seqF (ifF (cmpB (bin (getF 0) (getF 1) itemF) (kV (.str [91])) eqF2) (seqF (retF (callF (consF (getF 0) (consF (getF 2) (consF (getF 3) (consF (getF 4) nilS)))) law_set_fn))
    nextF) nextF)
    (seqF (ifF (cmpB (bin (getF 0) (getF 1) itemF) (kV (.str [92])) eqF2) (seqF (retF (tupF (consF (cmpV (slcF (getF 0) (optF (bin (getF 1) (kV (.int 1)) addF2)) (optF (bin (getF 1) (kV (.int 2)) addF2)) noneO) (getF 4) eqF2) (consF (bin (getF 1) (kV (.int 2)) addF2) nilS))))
    nextF) nextF)
    (seqF (retF (tupF (consF (orV (cmpV (bin (getF 0) (getF 1) itemF) (kV (.str [63])) eqF2) (cmpV (bin (getF 0) (getF 1) itemF) (getF 4) eqF2)) (consF (bin (getF 1) (kV (.int 1)) addF2) nilS))))
    nextF)))
noncomputable def law_one_fn : List V → List Nat → List Ob → Option (V × List Ob) := fnF (fun vs => if vs.length = 5 then some vs else none) 5 law_one_F

-- _law_fits: 0 pattern, 1 text, 2 rows, 3 at, 4 members, 5 end, 6 row, 7 place, 8 is_taken, 9 behind
noncomputable def law_fits_b2 : St → Option (Fl × St) :=
  (seqF (ifF (cmpB (bin (getF 0) (getF 3) itemF) (kV (.str [42])) eqF2) (seqF (exprF (methB (getF 6) isLst (consF (kV (.int 0)) (consF (orV (bin (bin (getF 2) (bin (getF 3) (kV (.int 1)) addF2) itemF) (getF 7) itemF) (bin (getF 6) (kV (.int 0)) itemF)) nilS)) insF))
    nextF) (seqF (asgF (callF (consF (getF 0) (consF (getF 3) (consF (getF 4) (consF (getF 5) (consF (bin (getF 1) (getF 7) itemF) nilS))))) law_one_fn) (untupF 2 (setsF [8, 9])))
    (seqF (exprF (methB (getF 6) isLst (consF (kV (.int 0)) (consF (andV (getF 8) (bin (bin (getF 2) (getF 9) itemF) (bin (getF 7) (kV (.int 1)) addF2) itemF)) nilS)) insF))
    nextF)))
    nextF)
noncomputable def law_fits_b1 : St → Option (Fl × St) :=
  (seqF (asgF (iteV (cmpB (bin (getF 0) (getF 3) itemF) (kV (.str [91])) eqF2) (callF (consF (getF 0) (consF (getF 3) nilS)) law_members_fn) (tupF (consF (lstF nilS) (consF (kV (.int 0)) nilS)))) (untupF 2 (setsF [4, 5])))
    (seqF (asgF (lstF (consF (andV (cmpV (bin (getF 0) (getF 3) itemF) (kV (.str [42])) eqF2) (bin (bin (getF 2) (bin (getF 3) (kV (.int 1)) addF2) itemF) (callB (consF (getF 1) nilS) lenF) itemF)) nilS)) (setF 6))
    (seqF (forRange (consF (bin (callB (consF (getF 1) nilS) lenF) (kV (.int 1)) subF) (consF (negV (kV (.int 1))) (consF (negV (kV (.int 1))) nilS))) (setF 7) law_fits_b2)
    (seqF (subF3 (getF 6) (getF 2) (getF 3))
    nextF))))
noncomputable def law_fits_F : St → Option (Fl × St) :=
  (seqF (asgF (dict1 (callB (consF (getF 0) nilS) lenF) (bin (bin (lstF (consF (kV (.bool false)) nilS)) (callB (consF (getF 1) nilS) lenF) mulF) (lstF (consF (kV (.bool true)) nilS)) addF2)) (setF 2))
    (seqF (forRange (consF (bin (callB (consF (getF 0) nilS) lenF) (kV (.int 1)) subF) (consF (negV (kV (.int 1))) (consF (negV (kV (.int 1))) nilS))) (setF 3) law_fits_b1)
    (seqF (retF (bin (bin (getF 2) (kV (.int 0)) itemF) (kV (.int 0)) itemF))
    nextF)))
noncomputable def law_fits_fn : List V → List Nat → List Ob → Option (V × List Ob) := fnF (fun vs => if vs.length = 2 then some vs else none) 10 law_fits_F

-- _law_told: 
noncomputable def law_told_F : St → Option (Fl × St) :=
  (seqF (retF (lstF (consF (tupF (consF (kV (textL "*a*bc")) (consF (kV (textL "abacabc")) (consF (kV (.bool false)) nilS)))) (consF (tupF (consF (kV (textL "*a*bc")) (consF (kV (textL "abcab")) (consF (kV (.bool false)) nilS)))) (consF (tupF (consF (kV (textL "?[a-c]*")) (consF (kV (textL "-a")) (consF (kV (.bool false)) nilS)))) (consF (tupF (consF (kV (textL "?*?")) (consF (kV (.str [97])) (consF (kV (.bool false)) nilS)))) (consF (tupF (consF (kV (textL "[c-a]b")) (consF (kV (textL "cb")) (consF (kV (.bool false)) nilS)))) (consF (tupF (consF (kV (textL "[c-b]")) (consF (kV (.str [97])) (consF (kV (.bool false)) nilS)))) (consF (tupF (consF (kV (textL "[b-a]")) (consF (kV (.str [99])) (consF (kV (.bool false)) nilS)))) (consF (tupF (consF (kV (textL "[a-b]")) (consF (kV (.str [45])) (consF (kV (.bool false)) nilS)))) (consF (tupF (consF (kV (textL "[a-c")) (consF (kV (.str [98])) (consF (kV (.bool false)) nilS)))) (consF (tupF (consF (kV (textL "[a-")) (consF (kV (.str [97])) (consF (kV (.bool false)) nilS)))) (consF (tupF (consF (kV (textL "[ab-]c]")) (consF (kV (textL "ac]")) (consF (kV (.bool false)) nilS)))) (consF (tupF (consF (kV (textL "*[ab-]*]")) (consF (kV (textL "a]b")) (consF (kV (.bool false)) nilS)))) (consF (tupF (consF (kV (textL "[]a]")) (consF (kV (.str [97])) (consF (kV (.bool false)) nilS)))) (consF (tupF (consF (kV (textL "a\\")) (consF (kV (textL "a\\")) (consF (kV (.bool false)) nilS)))) (consF (tupF (consF (kV (textL "\\*\\[?")) (consF (kV (textL "*[-")) (consF (kV (.bool false)) nilS)))) (consF (tupF (consF (kV (textL "[\\a]")) (consF (kV (.str [92])) (consF (kV (.bool false)) nilS)))) (consF (tupF (consF (kV (textL "bBÉ")) (consF (kV (textL "Bbé")) (consF (kV (.bool true)) nilS)))) (consF (tupF (consF (kV (textL "bB")) (consF (kV (textL "bb")) (consF (kV (.bool false)) nilS)))) (consF (tupF (consF (kV (textL "[B-a]c?")) (consF (kV (textL "acİ")) (consF (kV (.bool true)) nilS)))) (consF (tupF (consF (kV (textL "**b?")) (consF (kV (textL "bab-")) (consF (kV (.bool false)) nilS)))) (consF (tupF (consF (kV (.str [])) (consF (kV (.str [])) (consF (kV (.bool false)) nilS)))) (consF (tupF (consF (kV (.str [42])) (consF (kV (.str [])) (consF (kV (.bool false)) nilS)))) (consF (tupF (consF (kV (textL "a*")) (consF (kV (.str [98])) (consF (kV (.bool false)) nilS)))) (consF (tupF (consF (kV (textL "ab")) (consF (kV (textL "ac")) (consF (kV (.bool false)) nilS)))) (consF (tupF (consF (kV (.str [97])) (consF (kV (textL "ab")) (consF (kV (.bool false)) nilS)))) (consF (tupF (consF (kV (textL "[a]")) (consF (kV (.str [91])) (consF (kV (.bool false)) nilS)))) (consF (tupF (consF (kV (textL "[b")) (consF (kV (.str [97])) (consF (kV (.bool false)) nilS)))) (consF (tupF (consF (kV (textL "[a-b]*")) (consF (kV (.str [98])) (consF (kV (.bool false)) nilS)))) nilS))))))))))))))))))))))))))))))
    nextF)
noncomputable def law_told_fn : List V → List Nat → List Ob → Option (V × List Ob) := fnF (fun vs => if vs.length = 0 then some vs else none) 0 law_told_F

-- _law_case_right: 0 pattern, 1 text, 2 is_nocase, 3 due, 4 heard, 5 at, 6 members, 7 end, 8 c
noncomputable def law_case_right_b1 : St → Option (Fl × St) :=
  (seqF (ifF (cmpB (bin (getF 0) (getF 5) itemF) (kV (.str [91])) eqF2) (seqF (asgF (callF (consF (getF 0) (consF (getF 5) nilS)) law_members_fn) (untupF 2 (setsF [6, 7])))
    (seqF (asgF (bin (bin (getF 1) (kV (.str [97])) addF2) (kV (.int 0)) itemF) (setF 8))
    (seqF (ifF (cmpB (callB (consF (callF (consF (getF 0) (consF (getF 5) (consF (getF 8) nilS))) in_set_fn) nilS) reprF) (callB (consF (callF (consF (getF 0) (consF (getF 6) (consF (getF 7) (consF (getF 8) nilS)))) law_set_fn) nilS) reprF) neF) (seqF (retF (kV (.bool false)))
    nextF) nextF)
    nextF))) nextF)
    nextF)
noncomputable def law_case_right_F : St → Option (Fl × St) :=
  (seqF (asgF (iteV (truB (getF 2)) (callF (consF (callF (consF (getF 0) nilS) law_low_fn) (consF (callF (consF (getF 1) nilS) law_low_fn) nilS)) law_fits_fn) (callF (consF (getF 0) (consF (getF 1) nilS)) law_fits_fn)) (setF 3))
    (seqF (asgF (iteV (truB (getF 2)) (callF (consF (getF 0) (consF (getF 1) (consF (kV (.bool true)) nilS))) fits_fn) (callF (consF (getF 0) (consF (getF 1) nilS)) fits_fn)) (setF 4))
    (seqF (ifF (orB (cmpB (callB (consF (getF 4) nilS) reprF) (callB (consF (getF 3) nilS) reprF) neF) (orB (cmpB (callB (consF (callF (consF (getF 0) nilS) is_plain_fn) nilS) reprF) (callB (consF (cmpV (compF (getF 0) (fun c => decide (c ∈ [42, 63, 91, 92])) (fun c => [c])) (lstF nilS) eqF2) nilS) reprF) neF) (kB false))) (seqF (retF (kV (.bool false)))
    nextF) nextF)
    (seqF (forRange (consF (callB (consF (getF 0) nilS) lenF) nilS) (setF 5) law_case_right_b1)
    (seqF (retF (kV (.bool true)))
    nextF)))))
noncomputable def law_case_right_fn : List V → List Nat → List Ob → Option (V × List Ob) := fnF (fun vs => if vs.length = 3 then some vs else none) 9 law_case_right_F

-- _law_quoted_right: 0 text, 1 other, 2 is_nocase, 3 quoted, 4 one, 5 is_same
noncomputable def law_quoted_right_b1 : St → Option (Fl × St) :=
  (seqF (asgF (iteV (truB (getF 2)) (cmpV (callF (consF (getF 4) nilS) law_low_fn) (callF (consF (getF 0) nilS) law_low_fn) eqF2) (cmpV (getF 4) (getF 0) eqF2)) (setF 5))
    (seqF (ifF (cmpB (callB (consF (callF (consF (getF 3) (consF (getF 4) (consF (getF 2) nilS))) fits_fn) nilS) reprF) (callB (consF (getF 5) nilS) reprF) neF) (seqF (retF (kV (.bool false)))
    nextF) nextF)
    nextF))
noncomputable def law_quoted_right_F : St → Option (Fl × St) :=
  (seqF (asgF (methB (kV (.str [])) isStr (consF (compF (getF 0) (fun _ => true) (fun c => [92, c])) nilS) joinF) (setF 3))
    (seqF (forList (lstF (consF (getF 0) (consF (getF 1) nilS))) (setF 4) law_quoted_right_b1)
    (seqF (retF (kV (.bool true)))
    nextF)))
noncomputable def law_quoted_right_fn : List V → List Nat → List Ob → Option (V × List Ob) := fnF (fun vs => if vs.length = 3 then some vs else none) 6 law_quoted_right_F

end NP
end

section
set_option maxHeartbeats 4000000
namespace NP


-- law: 0 script, 1 told, 2 other, 3 k, 4 row, 5 pen, 6 pattern, 7 text, 8 is_nocase
noncomputable def law_b1 : St → Option (Fl × St) :=
  (seqF (asgF (lstF (consF (bin (callB (consF (slcF (getF 0) (optF (getF 3)) noneO (optF (callB (consF (getF 1) nilS) lenF))) nilS) sumF) (bin (bin (kV (.int 10)) (kV (.int 30)) powF) (kV (.int 57)) addF2) mulF) nilS)) (setF 5))
    (seqF (asgF (callF (consF (bin (getF 4) (kV (.int 0)) itemF) (consF (getF 5) nilS)) law_turned_fn) (setF 6))
    (seqF (asgF (callF (consF (bin (getF 4) (kV (.int 1)) itemF) (consF (getF 5) nilS)) law_turned_fn) (setF 7))
    (seqF (asgF (cmpV (bin (getF 4) (kV (.int 2)) itemF) (cmpV (callF (consF (getF 5) (consF (kV (.int 2)) nilS)) law_draw_fn) (kV (.int 1)) eqF2) neF) (setF 8))
    (seqF (ifF (notB (truB (callF (consF (getF 6) (consF (getF 7) (consF (getF 8) nilS))) law_case_right_fn))) (seqF (retF (kV (.bool false)))
    nextF) nextF)
    (seqF (ifF (andB (cmpB (bin (getF 3) (kV (.int 4)) modF) (kV (.int 0)) eqF2) (andB (notB (truB (callF (consF (getF 7) (consF (getF 2) (consF (getF 8) nilS))) law_quoted_right_fn))) (kB true))) (seqF (retF (kV (.bool false)))
    nextF) nextF)
    (seqF (asgF (getF 7) (setF 2))
    nextF)))))))

end NP
end

section
set_option maxHeartbeats 4000000
namespace NP

noncomputable def law_rest_F : St → Option (Fl × St) :=
  (seqF (asgF (tupF (consF (callF nilS law_told_fn) (consF (kV (.str [97])) nilS))) (set2r 1 2))
    (seqF (forEnum (getF 1) (untupF 2 (setsF [3, 4])) law_b1)
    (seqF (retF (kV (.bool true)))
    nextF)))

theorem ints_rv {T : Led} {ad : List Addr} {ws : List Value} {ns : List Int} (h : IntsAre ws ns) : All2 (Rv T ad) (ns.map V.int) ws := by
  induction h with
  | nil => exact .nil
  | cons _ _ _ ih => exact .cons (.int _ _) ih

theorem S_cut {P : Prm} {fn : Fn} {k : Nat} {x : PySem.Str} {pos pos1 pos2 pos3 posc p : Pos} {kd : Nat} (i : Nat) (hx : fn.names[i]? = some x) {A : Around} {h₀ : Heap} {L : Addr} (C : Cx P fn k A h₀ L) {s : Shared} {n : Nat}
    (R : Rel P fn h₀ L [] [] ⟨List.replicate n none, [], []⟩ s) {l : Addr} {ws : List Value} {ns : List Int} (hm : ∃ m, Fr h₀ L s.heap m ∧ m x = some (.ref l)) (hL : h₀.IsList l ws.toArray) (hI : IntsAre ws ns) (hlen : ns.length ≤ 1000)
    (hs : swapsWith (.Subscript (.Name x pos2) (.Slice none (some (.Constant (.int 63) kd posc)) none p) pos3) (some (.Name x pos1)) pos.line (fn.ev L) = pure false)
    (hs2 : ∀ o i, ∃ ops, subscripted (.Slice none (some (.Constant (.int 63) kd posc)) none p) false o i = operate ops (getItem o i))
    {Q : Flow → Shared → Prop} (hQ : ∀ T M s', Rel P fn h₀ L T M ⟨(List.replicate n none).set i (some (.loc 0)), [.list (lstSlice (ns.map .int) none (some 63) none)], []⟩ s' → Q .next s') :
    wpAny (model P.prog P.w) A (exec (.Assign [.Name x pos1] (.Subscript (.Name x pos2) (.Slice none (some (.Constant (.int 63) kd posc)) none p) pos3) pos) (fn.ev L)) Q NoE s := by
  have hmem : x ∈ fn.names := List.mem_of_getElem? hx
  refine wpAny_Assign_Name ?_ hs
  obtain ⟨m, F, hv⟩ := hm
  refine Subscript_ (ld F hv ?_ C.ok.kind (C.ok.loc x hmem) (C.ok.dbg x hmem))
  refine wpAny_Slice ?_
  refine (SO.none (k := k)).h A h₀ L C [] [] _ s R _ _ rfl _ fun T2 M2 s2 x2 g2 R2 r2 => ?_
  refine (SO.some (k := k) SE.int).h A h₀ L C T2 M2 _ s2 R2 _ _ rfl _ fun T3 M3 s3 x3 g3 R3 r3 => ?_
  refine (SO.none (k := k)).h A h₀ L C T3 M3 _ s3 R3 _ _ rfl _ fun T4 M4 s4 x4 g4 R4 r4 => ?_
  have q2 := (g3.trans g4).rv r2
  have q3 := g4.rv r3
  obtain ⟨m4, F4, E4⟩ := R4.fr
  have hL4 : s4.heap.IsList l ws.toArray := hL.at fun o e => F4.keep _ o e
  obtain ⟨ops, hs⟩ := hs2 (.ref l) (.ref s4.heap.objs.size)
  have P2 := partOf_is (o := none) rfl q2
  have P3 := partOf_is (o := some 63) rfl q3
  have P4 := partOf_is (o := none) rfl r4
  have hA : All2 (Rv T4 (adr M4)) (ns.map V.int) ws := ints_rv hI
  have hl : ws.length = ns.length := by have := hA.len; simpa using this.symm
  have hz : ws.toArray.size ≤ sizeLine := by rw [List.size_toArray, hl, sizeLine_eq]; omega
  have hk1 : ∀ b x, s4.heap.get? b = some x → (s4.heap.push { cls := .type "slice", data := .fields #[x2, x3, x4] }).get? b = some x := fun b x e => Heap.get?_push_of_some _ e
  have R5 := R4.kept (tk := s4.toks) hk1
  refine tail_any (s := { s4 with heap := s4.heap.push { cls := .type "slice", data := .fields #[x2, x3, x4] } }) (Heap.IsList.typeIs (s := { s4 with heap := s4.heap.push { cls := .type "slice", data := .fields #[x2, x3, x4] } }) (hL4.push _)) list_getitem_lookup
    (wpAny_getItem_list_slice (hL4.push _) (Heap.IsSliceOf.new ..) P2 P3 P4 (by decide) ?_ hz) hs
  have eq : slicePick ws.toArray none (some 63) none = ((sliceRange (sliceBounds none (some 63) none (ns.map V.int).length).1 (sliceBounds none (some 63) none (ns.map V.int).length).2.1 (sliceBounds none (some 63) none (ns.map V.int).length).2.2).filterMap (ws[·]?)).toArray := by
    simp [slicePick, hl]
  rw [eq]
  have A2 : All2 (Rv T4 (adr M4)) (lstSlice (ns.map V.int) none (some 63) none) ((sliceRange (sliceBounds none (some 63) none (ns.map V.int).length).1 (sliceBounds none (some 63) none (ns.map V.int).length).2.1 (sliceBounds none (some 63) none (ns.map V.int).length).2.2).filterMap (ws[·]?)) := hA.places _
  have R6 := R5.made (tk := s4.toks) (ob := .list (lstSlice (ns.map V.int) none (some 63) none)) (o := lstObj ((sliceRange (sliceBounds none (some 63) none (ns.map V.int).length).1 (sliceBounds none (some 63) none (ns.map V.int).length).2.1 (sliceBounds none (some 63) none (ns.map V.int).length).2.2).filterMap (ws[·]?)) 0)
    (h' := (s4.heap.push { cls := .type "slice", data := .fields #[x2, x3, x4] }).push (lstObj ((sliceRange (sliceBounds none (some 63) none (ns.map V.int).length).1 (sliceBounds none (some 63) none (ns.map V.int).length).2.1 (sliceBounds none (some 63) none (ns.map V.int).length).2.2).filterMap (ws[·]?)) 0)) ⟨_, 0, rfl, A2⟩ (fun b x e => Heap.get?_push_of_some _ e) get_push_size (C.size R5)
  refine wp_store C R6 hx (v := .loc 0) (.loc _ _ ?_) fun s' R' => hQ _ _ s' R'
  have : M4 = [] := by
    have := R4.ob.len
    simpa using this.symm
  subst this
  rfl

theorem holds_of (hp : ∀ ns : List Int, ns.length ≤ 63 → PyData.layable0 (.list (ns.map .int)) = true → ∃ st', law_rest_F ⟨[some (.loc 0), none, none, none, none, none, none, none, none], [.list (lstSlice (ns.map .int) none (some 63) none)], []⟩ = some (.ret (.bool true), st')) :
    PySem.Challenge.rw_np0128_01.Holds := hd (by
  w_strict k_go0
  rename_i w s₀ s₁ mg mb G Y fa o pm doc kV ho hg KX X V GL T B TE TW a9 a8 M cd a6 hcd ns hs hl0 hLay hr hl2 a4 a3 l ws aa hL ra w1 r0 hI hr2 hc1 hc2 K0 hD h₁ F N0
  have hlen : ns.length ≤ 63 := by omega
  obtain ⟨st', hF⟩ := hp ns hlen hLay
  let P : Prm := ⟨PySem.Challenge.rw_np0128_01.row.prog, w, hd.heap_39 w.params, hd.view_39, looseW hd.view_39 [Str.ofString "fits"], ExcName.means s₀.heap, mg, mb, s₁⟩
  have hK : P.K = hd.heap_39 P.w.params := rfl
  refine wpAny_mono (Q := fun f s' => GoodW PySem.Challenge.rw_np0128_01.row.claim (classAt s₀.heap) (ExcName.means s₀.heap) [ofPy (PyData.list (List.map PyData.int ns))] s₁ (Except.ok (Flow.ret (match f with | Flow.ret v => v | x => Value.none))) s') (E := NoE) ?_ (fun _ _ q => q) (fun _ _ q => q.elim)
  refine' wpAny_execs_cons (S_cut (P := P) (fn := ⟨_, _, fa, .ref cd, ["script", "told", "other", "k", "row", "pen", "pattern", "text", "is_nocase"]⟩) (k := 4) (L := s₁.heap.objs.size) (n := 9) 0 rfl ?C ?R ⟨_, F, rfl⟩ hL hI (by omega) rfl (fun _ _ => ⟨_, rfl⟩) (fun T' M' s' R' => ?_))
  case C => exact { hh := rfl, room := (by show callerA.depth + 1 + 4 < recursionLimit; decide), un := (by show callerA.units + 3 + 20 * 4 + 100 < cLine; decide), gd := ⟨[], rfl, rfl⟩, bel := ⟨callerA, s₁.heap, [], K0, rfl⟩, X := KX, top := T, ok := ⟨rfl, by dsimp only; decide, by dsimp only; decide, by dsimp only; decide⟩ }
  case R => exact { fr := ⟨_, F, fun i x v _ e => by
              rcases i with _ | _ | _ | _ | _ | _ | _ | _ | _ | i <;> cases e⟩, el := rfl, nw := N0, nd := List.nodup_nil, tn := List.nodup_nil, tp := (fun _ h => nomatch h), ob := .nil, lo := .nil, gens := rfl, drawn := rfl, os := rfl }
  dsimp only
  refine' SS.h (P := P) (fn := ⟨_, _, fa, .ref cd, ["script", "told", "other", "k", "row", "pen", "pattern", "text", "is_nocase"]⟩) (k := 4) (G := law_rest_F) ?hS _ s₁.heap s₁.heap.objs.size ?C2 T' M' _ s' R' (.ret (.bool true)) st' hF _ (fun T2 M2 s2 x2 g2 R2 r2 => ?_)
  case C2 => exact { hh := rfl, room := (by show callerA.depth + 1 + 4 < recursionLimit; decide), un := (by show callerA.units + 3 + 20 * 4 + 100 < cLine; decide), gd := ⟨[], rfl, rfl⟩, bel := ⟨callerA, s₁.heap, [], K0, rfl⟩, X := KX, top := T, ok := ⟨rfl, by dsimp only; decide, by dsimp only; decide, by dsimp only; decide⟩ }
  case hS => exact (SS.cons (S1.tupSw 1 2 rfl rfl (SE.tuple (SEs.cons (SE.callF0 ⟨by rw [hK]; rfl, by rw [hK]; rfl, rfl, by decide⟩ (p_law_told.2 P hK) (by decide) (fun _ => rfl)) (SEs.cons (SE.strC (l := [97]) (by decide)) SEs.nil (fun _ => st_const)) (fun _ => st_call))) (fun _ => rfl) (fun _ => rfl))
        (SS.cons (S1.forEnum ⟨by rw [hK]; rfl, rfl, by decide, rfl, by decide⟩ (SE.name 1 rfl) (SA.tuple 2 (SAs.cons 3 rfl (SAs.cons 4 rfl SAs.nil (fun _ => rfl)) (fun _ => rfl)) (fun _ => rfl) (fun _ => rfl)) (SS.cons (S1.assign 5 rfl (SE.list (SEs.cons (SE.binOp op_mul (SE.callB ⟨by rw [hK]; rfl, rfl, by decide, rfl, by decide⟩ bf_sum (SEs.cons (SE.slice (SE.name 0 rfl) (SO.some (SE.name 3 rfl)) SO.none (SO.some (SE.callB ⟨by rw [hK]; rfl, rfl, by decide, rfl, by decide⟩ bf_len (SEs.cons (SE.name 1 rfl) SEs.nil (fun _ => st_name)) (fun _ => st_name) (fun _ => rfl) (fun _ => rfl))) hst_some (fun _ _ => ⟨_, rfl⟩) (fun _ _ _ => rfl)) SEs.nil (fun _ => st_sub)) (fun _ => st_sub) (fun _ => rfl) (fun _ => rfl)) (SE.binOp op_add2 (SE.binOp op_pow SE.int SE.int) SE.int)) SEs.nil (fun _ => st_binop))) (fun _ => rfl))
        (SS.cons (S1.assign 6 rfl (SE.callF ⟨by rw [hK]; rfl, by rw [hK]; rfl, rfl, by decide⟩ (p_law_turned.2 P hK) (by decide) (SEs.cons (SE.item (SE.name 4 rfl) SE.int (fun _ _ => ⟨_, rfl⟩)) (SEs.cons (SE.name 5 rfl) SEs.nil (fun _ => st_name)) (fun _ => st_sub)) (fun _ => st_sub) (fun _ => rfl) (fun _ => rfl)) (fun _ => rfl))
        (SS.cons (S1.assign 7 rfl (SE.callF ⟨by rw [hK]; rfl, by rw [hK]; rfl, rfl, by decide⟩ (p_law_turned.2 P hK) (by decide) (SEs.cons (SE.item (SE.name 4 rfl) SE.int (fun _ _ => ⟨_, rfl⟩)) (SEs.cons (SE.name 5 rfl) SEs.nil (fun _ => st_name)) (fun _ => st_sub)) (fun _ => st_sub) (fun _ => rfl) (fun _ => rfl)) (fun _ => rfl))
        (SS.cons (S1.assign 8 rfl (SE.cmp op_ne (SE.item (SE.name 4 rfl) SE.int (fun _ _ => ⟨_, rfl⟩)) (SE.cmp op_eq2 (SE.callF ⟨by rw [hK]; rfl, by rw [hK]; rfl, rfl, by decide⟩ (p_law_draw.2 P hK) (by decide) (SEs.cons (SE.name 5 rfl) (SEs.cons SE.int SEs.nil (fun _ => st_const)) (fun _ => st_name)) (fun _ => st_name) (fun _ => rfl) (fun _ => rfl)) SE.int rfl) rfl) (fun _ => rfl))
        (SS.cons (S1.if_ (SB.not (SB.plain (SE.callF ⟨by rw [hK]; rfl, by rw [hK]; rfl, rfl, by decide⟩ (p_law_case_right.2 P hK) (by decide) (SEs.cons (SE.name 6 rfl) (SEs.cons (SE.name 7 rfl) (SEs.cons (SE.name 8 rfl) SEs.nil (fun _ => st_name)) (fun _ => st_name)) (fun _ => st_name)) (fun _ => st_name) (fun _ => rfl) (fun _ => rfl)) (fun _ => rfl))) (SS.cons (S1.ret SE.bool)
        SS.nil) SS.nil)
        (SS.cons (S1.if_ (SBw.to (SBw.and1 (SB.cmp op_eq2 (SE.binOp op_mod (SE.name 3 rfl) SE.int) SE.int rfl) (SBw.and1 (SB.not (SB.plain (SE.callF ⟨by rw [hK]; rfl, by rw [hK]; rfl, rfl, by decide⟩ (p_law_quoted_right.2 P hK) (by decide) (SEs.cons (SE.name 7 rfl) (SEs.cons (SE.name 2 rfl) (SEs.cons (SE.name 8 rfl) SEs.nil (fun _ => st_name)) (fun _ => st_name)) (fun _ => st_name)) (fun _ => st_name) (fun _ => rfl) (fun _ => rfl)) (fun _ => rfl))) SBw.and0))) (SS.cons (S1.ret SE.bool)
        SS.nil) SS.nil)
        (SS.cons (S1.assign 2 rfl (SE.name 7 rfl) (fun _ => rfl))
        SS.nil))))))) (fun _ _ => rfl) (fun _ => st_name) (fun _ => rfl) (fun _ => rfl))
        (SS.cons (S1.ret SE.bool)
        SS.nil)))
  obtain ⟨m2, F2, E2⟩ := R2.fr
  cases r2 with
  | ret v w2 rv =>
    rw [rv.bool_inv]
    exact goodW_bool F2 (R2.gens.trans hg) (fun _ => rfl) (by with_unfolding_all rfl) R2.os)
end NP
end

section
set_option maxHeartbeats 4000000
namespace NP
abbrev EV1 := St → Option (V × St)
abbrev EB1 := St → Option (Bool × St)
abbrev ES1 := St → Option (Fl × St)

theorem get_0 {v : V} {l : List (Option V)} {o : List Ob} {p : List Nat} : getF 0 ⟨some v :: l, o, p⟩ = some (v, ⟨some v :: l, o, p⟩) := rfl
theorem set_0 {v : V} {y : Option V} {l : List (Option V)} {o : List Ob} {p : List Nat} : setF 0 v ⟨y :: l, o, p⟩ = some ⟨some v :: l, o, p⟩ := rfl
theorem get_1 {x0 : Option V} {v : V} {l : List (Option V)} {o : List Ob} {p : List Nat} : getF 1 ⟨x0 :: some v :: l, o, p⟩ = some (v, ⟨x0 :: some v :: l, o, p⟩) := rfl
theorem set_1 {x0 : Option V} {v : V} {y : Option V} {l : List (Option V)} {o : List Ob} {p : List Nat} : setF 1 v ⟨x0 :: y :: l, o, p⟩ = some ⟨x0 :: some v :: l, o, p⟩ := rfl
theorem get_2 {x0 x1 : Option V} {v : V} {l : List (Option V)} {o : List Ob} {p : List Nat} : getF 2 ⟨x0 :: x1 :: some v :: l, o, p⟩ = some (v, ⟨x0 :: x1 :: some v :: l, o, p⟩) := rfl
theorem set_2 {x0 x1 : Option V} {v : V} {y : Option V} {l : List (Option V)} {o : List Ob} {p : List Nat} : setF 2 v ⟨x0 :: x1 :: y :: l, o, p⟩ = some ⟨x0 :: x1 :: some v :: l, o, p⟩ := rfl
theorem get_3 {x0 x1 x2 : Option V} {v : V} {l : List (Option V)} {o : List Ob} {p : List Nat} : getF 3 ⟨x0 :: x1 :: x2 :: some v :: l, o, p⟩ = some (v, ⟨x0 :: x1 :: x2 :: some v :: l, o, p⟩) := rfl
theorem set_3 {x0 x1 x2 : Option V} {v : V} {y : Option V} {l : List (Option V)} {o : List Ob} {p : List Nat} : setF 3 v ⟨x0 :: x1 :: x2 :: y :: l, o, p⟩ = some ⟨x0 :: x1 :: x2 :: some v :: l, o, p⟩ := rfl
theorem get_4 {x0 x1 x2 x3 : Option V} {v : V} {l : List (Option V)} {o : List Ob} {p : List Nat} : getF 4 ⟨x0 :: x1 :: x2 :: x3 :: some v :: l, o, p⟩ = some (v, ⟨x0 :: x1 :: x2 :: x3 :: some v :: l, o, p⟩) := rfl
theorem set_4 {x0 x1 x2 x3 : Option V} {v : V} {y : Option V} {l : List (Option V)} {o : List Ob} {p : List Nat} : setF 4 v ⟨x0 :: x1 :: x2 :: x3 :: y :: l, o, p⟩ = some ⟨x0 :: x1 :: x2 :: x3 :: some v :: l, o, p⟩ := rfl
theorem get_5 {x0 x1 x2 x3 x4 : Option V} {v : V} {l : List (Option V)} {o : List Ob} {p : List Nat} : getF 5 ⟨x0 :: x1 :: x2 :: x3 :: x4 :: some v :: l, o, p⟩ = some (v, ⟨x0 :: x1 :: x2 :: x3 :: x4 :: some v :: l, o, p⟩) := rfl
theorem set_5 {x0 x1 x2 x3 x4 : Option V} {v : V} {y : Option V} {l : List (Option V)} {o : List Ob} {p : List Nat} : setF 5 v ⟨x0 :: x1 :: x2 :: x3 :: x4 :: y :: l, o, p⟩ = some ⟨x0 :: x1 :: x2 :: x3 :: x4 :: some v :: l, o, p⟩ := rfl
theorem get_6 {x0 x1 x2 x3 x4 x5 : Option V} {v : V} {l : List (Option V)} {o : List Ob} {p : List Nat} : getF 6 ⟨x0 :: x1 :: x2 :: x3 :: x4 :: x5 :: some v :: l, o, p⟩ = some (v, ⟨x0 :: x1 :: x2 :: x3 :: x4 :: x5 :: some v :: l, o, p⟩) := rfl
theorem set_6 {x0 x1 x2 x3 x4 x5 : Option V} {v : V} {y : Option V} {l : List (Option V)} {o : List Ob} {p : List Nat} : setF 6 v ⟨x0 :: x1 :: x2 :: x3 :: x4 :: x5 :: y :: l, o, p⟩ = some ⟨x0 :: x1 :: x2 :: x3 :: x4 :: x5 :: some v :: l, o, p⟩ := rfl
theorem get_7 {x0 x1 x2 x3 x4 x5 x6 : Option V} {v : V} {l : List (Option V)} {o : List Ob} {p : List Nat} : getF 7 ⟨x0 :: x1 :: x2 :: x3 :: x4 :: x5 :: x6 :: some v :: l, o, p⟩ = some (v, ⟨x0 :: x1 :: x2 :: x3 :: x4 :: x5 :: x6 :: some v :: l, o, p⟩) := rfl
theorem set_7 {x0 x1 x2 x3 x4 x5 x6 : Option V} {v : V} {y : Option V} {l : List (Option V)} {o : List Ob} {p : List Nat} : setF 7 v ⟨x0 :: x1 :: x2 :: x3 :: x4 :: x5 :: x6 :: y :: l, o, p⟩ = some ⟨x0 :: x1 :: x2 :: x3 :: x4 :: x5 :: x6 :: some v :: l, o, p⟩ := rfl
theorem get_8 {x0 x1 x2 x3 x4 x5 x6 x7 : Option V} {v : V} {l : List (Option V)} {o : List Ob} {p : List Nat} : getF 8 ⟨x0 :: x1 :: x2 :: x3 :: x4 :: x5 :: x6 :: x7 :: some v :: l, o, p⟩ = some (v, ⟨x0 :: x1 :: x2 :: x3 :: x4 :: x5 :: x6 :: x7 :: some v :: l, o, p⟩) := rfl
theorem set_8 {x0 x1 x2 x3 x4 x5 x6 x7 : Option V} {v : V} {y : Option V} {l : List (Option V)} {o : List Ob} {p : List Nat} : setF 8 v ⟨x0 :: x1 :: x2 :: x3 :: x4 :: x5 :: x6 :: x7 :: y :: l, o, p⟩ = some ⟨x0 :: x1 :: x2 :: x3 :: x4 :: x5 :: x6 :: x7 :: some v :: l, o, p⟩ := rfl
theorem get_9 {x0 x1 x2 x3 x4 x5 x6 x7 x8 : Option V} {v : V} {l : List (Option V)} {o : List Ob} {p : List Nat} : getF 9 ⟨x0 :: x1 :: x2 :: x3 :: x4 :: x5 :: x6 :: x7 :: x8 :: some v :: l, o, p⟩ = some (v, ⟨x0 :: x1 :: x2 :: x3 :: x4 :: x5 :: x6 :: x7 :: x8 :: some v :: l, o, p⟩) := rfl
theorem set_9 {x0 x1 x2 x3 x4 x5 x6 x7 x8 : Option V} {v : V} {y : Option V} {l : List (Option V)} {o : List Ob} {p : List Nat} : setF 9 v ⟨x0 :: x1 :: x2 :: x3 :: x4 :: x5 :: x6 :: x7 :: x8 :: y :: l, o, p⟩ = some ⟨x0 :: x1 :: x2 :: x3 :: x4 :: x5 :: x6 :: x7 :: x8 :: some v :: l, o, p⟩ := rfl

section
variable {v w u : V} {vs ws : List V} {st : St} {e : List (Option V)} {o o' : List Ob} {p q : List Nat} {b c : Bool} {n i j : Nat}
  {F G C D : EV1} {A B : EB1} {S T : ES1} {FL : St → Option (List V × St)} {FA FB FC : St → Option (Option V × St)} {f g : V → V → St → Option (V × St)} {cf cg : V → V → St → Option Bool} {H : V → St → Option St}

theorem e_kV : kV v st = some (v, st) := rfl
theorem e_kB : kB b st = some (b, st) := rfl
theorem e_nilS : nilS st = some ([], st) := rfl
theorem e_noneO : noneO st = some (none, st) := rfl
theorem e_nextF : nextF st = some (.next, st) := rfl
noncomputable def binK2 (f : V → V → St → Option (V × St)) (v : V) (x : Option (V × St)) : Option (V × St) := x.bind fun q => f v q.1 q.2
noncomputable def binK1 (G : EV1) (f : V → V → St → Option (V × St)) (x : Option (V × St)) : Option (V × St) := x.bind fun r => binK2 f r.1 (G r.2)
theorem e_bin : bin F G f st = binK1 G f (F st) := rfl
theorem k_bin1 : binK1 G f (some (v, st)) = binK2 f v (G st) := rfl
theorem k_bin2 : binK2 f v (some (w, st)) = f v w st := rfl
noncomputable def cmpVK3 (st : St) (x : Option Bool) : Option (V × St) := x.map fun c => (.bool c, st)
noncomputable def cmpVK2 (f : V → V → St → Option Bool) (v : V) (x : Option (V × St)) : Option (V × St) := x.bind fun q => cmpVK3 q.2 (f v q.1 q.2)
noncomputable def cmpVK1 (G : EV1) (f : V → V → St → Option Bool) (x : Option (V × St)) : Option (V × St) := x.bind fun r => cmpVK2 f r.1 (G r.2)
theorem e_cmpV : cmpV F G cf st = cmpVK1 G cf (F st) := rfl
theorem k_cmpV1 : cmpVK1 G cf (some (v, st)) = cmpVK2 cf v (G st) := rfl
theorem k_cmpV2 : cmpVK2 cf v (some (w, st)) = cmpVK3 st (cf v w st) := rfl
theorem k_cmpV3 : cmpVK3 st (some b) = some (.bool b, st) := rfl
noncomputable def cmpBK3 (st : St) (x : Option Bool) : Option (Bool × St) := x.map fun c => (c, st)
noncomputable def cmpBK2 (f : V → V → St → Option Bool) (v : V) (x : Option (V × St)) : Option (Bool × St) := x.bind fun q => cmpBK3 q.2 (f v q.1 q.2)
noncomputable def cmpBK1 (G : EV1) (f : V → V → St → Option Bool) (x : Option (V × St)) : Option (Bool × St) := x.bind fun r => cmpBK2 f r.1 (G r.2)
theorem e_cmpB : cmpB F G cf st = cmpBK1 G cf (F st) := rfl
theorem k_cmpB1 : cmpBK1 G cf (some (v, st)) = cmpBK2 cf v (G st) := rfl
theorem k_cmpB2 : cmpBK2 cf v (some (w, st)) = cmpBK3 st (cf v w st) := rfl
theorem k_cmpB3 : cmpBK3 st (some b) = some (b, st) := rfl
noncomputable def notBK  (x : Option (Bool × St)) : Option (Bool × St) := x.map fun r => (!r.1, r.2)
theorem e_notB : notB A st = notBK (A st) := rfl
theorem k_notB : notBK (some (b, st)) = some (!b, st) := rfl
noncomputable def andBK (G : EB1) (x : Option (Bool × St)) : Option (Bool × St) := x.bind fun r => if r.1 then G r.2 else some (false, r.2)
theorem e_andB : andB A B st = andBK B (A st) := rfl
theorem k_andB1 : andBK B (some (true, st)) = B st := rfl
theorem k_andB0 : andBK B (some (false, st)) = some (false, st) := rfl
noncomputable def orBK (G : EB1) (x : Option (Bool × St)) : Option (Bool × St) := x.bind fun r => if r.1 then some (true, r.2) else G r.2
theorem e_orB : orB A B st = orBK B (A st) := rfl
theorem k_orB1 : orBK B (some (true, st)) = some (true, st) := rfl
theorem k_orB0 : orBK B (some (false, st)) = B st := rfl
noncomputable def truBK2 (st : St) (x : Option Bool) : Option (Bool × St) := x.map fun c => (c, st)
noncomputable def truBK  (x : Option (V × St)) : Option (Bool × St) := x.bind fun r => truBK2 r.2 (truthF r.1 r.2)
theorem e_truB : truB F st = truBK (F st) := rfl
theorem k_truB1 : truBK (some (v, st)) = truBK2 st (truthF v st) := rfl
theorem k_truB2 : truBK2 st (some b) = some (b, st) := rfl
theorem k_truth : truthF (.bool b) st = some b := rfl
noncomputable def negK  (x : Option (V × St)) : Option (V × St) := x.bind fun r => (negF r.1).map fun c => (c, r.2)
theorem e_negV : negV F st = negK (F st) := rfl
theorem k_neg {i : Int} : negK (some (.int i, st)) = some (.int (-i), st) := rfl
noncomputable def andVK (G : EV1) (x : Option (V × St)) : Option (V × St) := x.bind fun r => (truthF r.1 r.2).bind fun c => if c then G r.2 else some r
theorem e_andV : andV F G st = andVK G (F st) := rfl
theorem k_andV1 : andVK G (some (.bool true, st)) = G st := rfl
theorem k_andV0 : andVK G (some (.bool false, st)) = some (.bool false, st) := rfl
noncomputable def orVK (G : EV1) (x : Option (V × St)) : Option (V × St) := x.bind fun r => (truthF r.1 r.2).bind fun c => if c then some r else G r.2
theorem e_orV : orV F G st = orVK G (F st) := rfl
theorem k_orV1 : orVK G (some (.bool true, st)) = some (.bool true, st) := rfl
theorem k_orV0 : orVK G (some (.bool false, st)) = G st := rfl
noncomputable def iteVK (F : EV1) (G : EV1) (x : Option (Bool × St)) : Option (V × St) := x.bind fun r => if r.1 then F r.2 else G r.2
theorem e_iteV : iteV A F G st = iteVK F G (A st) := rfl
theorem k_ite1 : iteVK F G (some (true, st)) = F st := rfl
theorem k_ite0 : iteVK F G (some (false, st)) = G st := rfl
noncomputable def consK2 (v : V) (x : Option (List V × St)) : Option (List V × St) := x.map fun q => (v :: q.1, q.2)
noncomputable def consK1 (G : St → Option (List V × St)) (x : Option (V × St)) : Option (List V × St) := x.bind fun r => consK2 r.1 (G r.2)
theorem e_cons : consF F FL st = consK1 FL (F st) := rfl
theorem k_cons1 : consK1 FL (some (v, st)) = consK2 v (FL st) := rfl
theorem k_cons2 : consK2 v (some (vs, st)) = some (v :: vs, st) := rfl
noncomputable def tupK  (x : Option (List V × St)) : Option (V × St) := x.bind fun r => if r.1.length ≤ 1000 then some (.tup r.1, r.2) else none
theorem e_tup : tupF FL st = tupK (FL st) := rfl
theorem k_tup1 {a0 : V} : tupK (some ([a0], st)) = some (.tup [a0], st) := rfl
theorem k_tup2 {a0 a1 : V} : tupK (some ([a0, a1], st)) = some (.tup [a0, a1], st) := rfl
theorem k_tup3 {a0 a1 a2 : V} : tupK (some ([a0, a1, a2], st)) = some (.tup [a0, a1, a2], st) := rfl
noncomputable def lstK  (x : Option (List V × St)) : Option (V × St) := x.bind fun r => if r.1.length ≤ 1000 then some (.loc r.2.obs.length, { r.2 with obs := r.2.obs ++ [.list r.1] }) else none
theorem e_lst : lstF FL st = lstK (FL st) := rfl
theorem k_lst0 : lstK (some ([], ⟨e, o, p⟩)) = some (.loc o.length, ⟨e, o ++ [.list []], p⟩) := rfl
theorem k_lst1 {a0 : V} : lstK (some ([a0], ⟨e, o, p⟩)) = some (.loc o.length, ⟨e, o ++ [.list [a0]], p⟩) := rfl
theorem k_lst2 {a0 a1 : V} : lstK (some ([a0, a1], ⟨e, o, p⟩)) = some (.loc o.length, ⟨e, o ++ [.list [a0, a1]], p⟩) := rfl
noncomputable def optK  (x : Option (V × St)) : Option (Option V × St) := x.map fun r => (some r.1, r.2)
theorem e_opt : optF F st = optK (F st) := rfl
theorem k_opt : optK (some (v, st)) = some (some v, st) := rfl
noncomputable def slcK4 (v : V) (a : Option V) (b : Option V) (x : Option (Option V × St)) : Option (V × St) := x.bind fun c => sliceF v a b c.1 c.2
noncomputable def slcK3 (C : St → Option (Option V × St)) (v : V) (a : Option V) (x : Option (Option V × St)) : Option (V × St) := x.bind fun b => slcK4 v a b.1 (C b.2)
noncomputable def slcK2 (B : St → Option (Option V × St)) (C : St → Option (Option V × St)) (v : V) (x : Option (Option V × St)) : Option (V × St) := x.bind fun a => slcK3 C v a.1 (B a.2)
noncomputable def slcK1 (A : St → Option (Option V × St)) (B : St → Option (Option V × St)) (C : St → Option (Option V × St)) (x : Option (V × St)) : Option (V × St) := x.bind fun r => slcK2 B C r.1 (A r.2)
theorem e_slc : slcF F FA FB FC st = slcK1 FA FB FC (F st) := rfl
theorem k_slc1 : slcK1 FA FB FC (some (v, st)) = slcK2 FB FC v (FA st) := rfl
theorem k_slc2 {a : Option V} : slcK2 FB FC v (some (a, st)) = slcK3 FC v a (FB st) := rfl
theorem k_slc3 {a b : Option V} : slcK3 FC v a (some (b, st)) = slcK4 v a b (FC st) := rfl
theorem k_slc4 {a b c : Option V} : slcK4 v a b (some (c, st)) = sliceF v a b c st := rfl
noncomputable def chK5 (st : St) (x : Option Bool) : Option (Bool × St) := x.map fun d => (d, st)
noncomputable def chK4 (g : V → V → St → Option Bool) (w : V) (x : Option (V × St)) : Option (Bool × St) := x.bind fun u => chK5 u.2 (g w u.1 u.2)
noncomputable def chK3 (H : EV1) (g : V → V → St → Option Bool) (w : V) (st : St) (x : Option Bool) : Option (Bool × St) := x.bind fun c => if c then chK4 g w (H st) else some (false, st)
noncomputable def chK2 (H : EV1) (f : V → V → St → Option Bool) (g : V → V → St → Option Bool) (v : V) (x : Option (V × St)) : Option (Bool × St) := x.bind fun q => chK3 H g q.1 q.2 (f v q.1 q.2)
noncomputable def chK1 (G : EV1) (H : EV1) (f : V → V → St → Option Bool) (g : V → V → St → Option Bool) (x : Option (V × St)) : Option (Bool × St) := x.bind fun r => chK2 H f g r.1 (G r.2)
theorem e_chain : chainB F G C cf cg st = chK1 G C cf cg (F st) := rfl
theorem k_ch1 : chK1 G C cf cg (some (v, st)) = chK2 C cf cg v (G st) := rfl
theorem k_ch2 : chK2 C cf cg v (some (w, st)) = chK3 C cg w st (cf v w st) := rfl
theorem k_ch3t : chK3 C cg w st (some true) = chK4 cg w (C st) := rfl
theorem k_ch3f : chK3 C cg w st (some false) = some (false, st) := rfl
theorem k_ch4 : chK4 cg w (some (u, st)) = chK5 st (cg w u st) := rfl
theorem k_ch5 : chK5 st (some b) = some (b, st) := rfl
theorem e_dict0 : dict0 ⟨e, o, p⟩ = some (.loc o.length, ⟨e, o ++ [.dict []], p⟩) := rfl
noncomputable def callBK (f : List V → St → Option (V × St)) (x : Option (List V × St)) : Option (V × St) := x.bind fun r => f r.1 r.2
variable {bf : List V → St → Option (V × St)} {ok : V → St → Bool} {df : List V → List Nat → List Ob → Option (V × List Ob)}
theorem e_callB : callB FL bf st = callBK bf (FL st) := rfl
theorem k_callB : callBK bf (some (vs, st)) = bf vs st := rfl
noncomputable def methK3 (f : List V → St → Option (V × St)) (v : V) (x : Option (List V × St)) : Option (V × St) := x.bind fun q => f (v :: q.1) q.2
noncomputable def methK2 (FA : St → Option (List V × St)) (f : List V → St → Option (V × St)) (v : V) (st : St) (x : Bool) : Option (V × St) := if x then methK3 f v (FA st) else none
noncomputable def methK1 (ok : V → St → Bool) (FA : St → Option (List V × St)) (f : List V → St → Option (V × St)) (x : Option (V × St)) : Option (V × St) := x.bind fun r => methK2 FA f r.1 r.2 (ok r.1 r.2)
theorem e_meth : methB F ok FL bf st = methK1 ok FL bf (F st) := rfl
theorem k_meth1 : methK1 ok FL bf (some (v, st)) = methK2 FL bf v st (ok v st) := rfl
theorem k_meth2 : methK2 FL bf v st true = methK3 bf v (FL st) := rfl
theorem k_meth3 : methK3 bf v (some (vs, st)) = bf (v :: vs) st := rfl
theorem k_isStr {l : List Nat} : isStr (.str l) st = true := rfl
noncomputable def callK2 (e : List (Option V)) (p : List Nat) (x : Option (V × List Ob)) : Option (V × St) := x.map fun q => (q.1, ⟨e, q.2, p⟩)
noncomputable def callK1 (F : List V → List Nat → List Ob → Option (V × List Ob)) (x : Option (List V × St)) : Option (V × St) := x.bind fun r => callK2 r.2.env r.2.pin (F r.1 r.2.pin r.2.obs)
theorem e_call : callF FL df st = callK1 df (FL st) := rfl
theorem k_call1 : callK1 df (some (vs, ⟨e, o, p⟩)) = callK2 e p (df vs p o) := rfl
theorem k_call2 : callK2 e p (some (v, o)) = some (v, ⟨e, o, p⟩) := rfl
noncomputable def seqK (G : ES1) (x : Option (Fl × St)) : Option (Fl × St) := x.bind fun r => match r.1 with | .next => G r.2 | f => some (f, r.2)
theorem e_seq : seqF S T st = seqK T (S st) := rfl
theorem k_seqN : seqK T (some (.next, st)) = T st := rfl
theorem k_seqR : seqK T (some (.ret v, st)) = some (.ret v, st) := rfl
noncomputable def retK  (x : Option (V × St)) : Option (Fl × St) := x.map fun r => (.ret r.1, r.2)
theorem e_ret : retF F st = retK (F st) := rfl
theorem k_ret : retK (some (v, st)) = some (.ret v, st) := rfl
noncomputable def asgK2  (x : Option St) : Option (Fl × St) := x.map fun q => (.next, q)
noncomputable def asgK1 (H : V → St → Option St) (x : Option (V × St)) : Option (Fl × St) := x.bind fun r => asgK2 (H r.1 r.2)
theorem e_asg : asgF F H st = asgK1 H (F st) := rfl
theorem k_asg1 : asgK1 H (some (v, st)) = asgK2 (H v st) := rfl
theorem k_asg2 : asgK2 (some st) = some (.next, st) := rfl
noncomputable def augK3 (i : Nat) (x : Option (V × St)) : Option (Fl × St) := x.bind fun u => asgK2 (setF i u.1 u.2)
noncomputable def augK2 (i : Nat) (f : V → V → St → Option (V × St)) (v : V) (x : Option (V × St)) : Option (Fl × St) := x.bind fun q => augK3 i (f v q.1 q.2)
noncomputable def augK1 (i : Nat) (F : EV1) (f : V → V → St → Option (V × St)) (x : Option (V × St)) : Option (Fl × St) := x.bind fun r => augK2 i f r.1 (F r.2)
theorem e_aug : augF i F f st = augK1 i F f (getF i st) := rfl
theorem k_aug1 : augK1 i F f (some (v, st)) = augK2 i f v (F st) := rfl
theorem k_aug2 : augK2 i f v (some (w, st)) = augK3 i (f v w st) := rfl
theorem k_aug3 : augK3 i (some (u, st)) = asgK2 (setF i u st) := rfl
noncomputable def ifK (F : ES1) (G : ES1) (x : Option (Bool × St)) : Option (Fl × St) := x.bind fun r => if r.1 then F r.2 else G r.2
theorem e_if : ifF A S T st = ifK S T (A st) := rfl
theorem k_if1 : ifK S T (some (true, st)) = S st := rfl
theorem k_if0 : ifK S T (some (false, st)) = T st := rfl
noncomputable def exprK  (x : Option (V × St)) : Option (Fl × St) := x.bind fun r => match r.1 with | .none => some (.next, r.2) | _ => none
theorem e_expr : exprF F st = exprK (F st) := rfl
theorem k_expr : exprK (some (.none, st)) = some (.next, st) := rfl
noncomputable def subK3 (v : V) (o : V) (x : Option (V × St)) : Option (Fl × St) := x.bind fun u => asgK2 (putF o u.1 v u.2)
noncomputable def subK2 (H : EV1) (v : V) (x : Option (V × St)) : Option (Fl × St) := x.bind fun q => subK3 v q.1 (H q.2)
noncomputable def subK1 (G : EV1) (H : EV1) (x : Option (V × St)) : Option (Fl × St) := x.bind fun r => subK2 H r.1 (G r.2)
theorem e_sub : subF3 F G C st = subK1 G C (F st) := rfl
theorem k_sub1 : subK1 G C (some (v, st)) = subK2 C v (G st) := rfl
theorem k_sub2 : subK2 C v (some (w, st)) = subK3 v w (C st) := rfl
theorem k_sub3 : subK3 v w (some (u, st)) = asgK2 (putF w u v st) := rfl
variable {HL : List V → St → Option St}
theorem k_untup2 {a0 a1 : V} : untupF 2 HL (.tup [a0, a1]) st = HL [a0, a1] st := rfl
theorem k_untup3 {a0 a1 a2 : V} : untupF 3 HL (.tup [a0, a1, a2]) st = HL [a0, a1, a2] st := rfl
noncomputable def setsK (is : List Nat) (vs : List V) (x : Option St) : Option St := x.bind fun st => setsF is vs st
theorem e_sets0 : setsF [] [] st = some st := rfl
theorem e_sets {is : List Nat} : setsF (i :: is) (v :: vs) st = setsK is vs (setF i v st) := rfl
theorem k_sets {is : List Nat} : setsK is vs (some st) = setsF is vs st := rfl
noncomputable def set2K (i : Nat) (v : V) (x : Option St) : Option St := x.bind fun st => setF i v st
theorem e_set2 : set2r i j (.tup [v, w]) st = set2K i v (setF j w st) := rfl
theorem k_set2 : set2K i v (some st) = setF i v st := rfl
noncomputable def forStrK (H : V → St → Option St) (G : ES1) (x : Option (V × St)) : Option (Fl × St) := x.bind fun r => match r.1 with | .str l => forF H G (l.map fun c => .str [c]) r.2 | _ => none
theorem e_forStr : forStr F H S st = forStrK H S (F st) := rfl
theorem k_forStr {l : List Nat} : forStrK H S (some (.str l, st)) = forF H S (l.map fun c => .str [c]) st := rfl
noncomputable def pinK (p : List Nat) (x : Option (Fl × St)) : Option (Fl × St) := x.map fun r => (r.1, { r.2 with pin := p })
theorem e_pin : withPin n S ⟨e, o, p⟩ = pinK p (S ⟨e, o, n :: p⟩) := rfl
theorem k_pin {fl : Fl} : pinK p (some (fl, ⟨e, o, q⟩)) = some (fl, ⟨e, o, p⟩) := rfl
noncomputable def forDictK2 (H : V → St → Option St) (G : ES1) (n : Nat) (st : St) (x : Option Ob) : Option (Fl × St) := match x with | some (.dict kvs) => withPin n (forF H G (kvs.map fun p => .int p.1)) st | _ => none
noncomputable def forDictK (H : V → St → Option St) (G : ES1) (x : Option (V × St)) : Option (Fl × St) := x.bind fun r => match r.1 with | .loc n => forDictK2 H G n r.2 r.2.obs[n]? | _ => none
theorem e_forDict : NP.forDict F H S st = forDictK H S (F st) := rfl
theorem k_forDict1 : forDictK H S (some (.loc n, ⟨e, o, p⟩)) = forDictK2 H S n ⟨e, o, p⟩ o[n]? := rfl
theorem k_forDict2 {kvs : List (Int × V)} : forDictK2 H S n st (some (.dict kvs)) = withPin n (forF H S (kvs.map fun p => .int p.1)) st := rfl
noncomputable def forListK2 (H : V → St → Option St) (G : ES1) (n : Nat) (st : St) (x : Option Ob) : Option (Fl × St) := match x with | some (.list vs) => withPin n (forF H G (vs)) st | _ => none
noncomputable def forListK (H : V → St → Option St) (G : ES1) (x : Option (V × St)) : Option (Fl × St) := x.bind fun r => match r.1 with | .loc n => forListK2 H G n r.2 r.2.obs[n]? | _ => none
theorem e_forList : NP.forList F H S st = forListK H S (F st) := rfl
theorem k_forList1 : forListK H S (some (.loc n, ⟨e, o, p⟩)) = forListK2 H S n ⟨e, o, p⟩ o[n]? := rfl
theorem k_forList2 : forListK2 H S n st (some (.list vs)) = withPin n (forF H S (vs)) st := rfl
noncomputable def forEnumK2 (H : V → St → Option St) (G : ES1) (n : Nat) (st : St) (x : Option Ob) : Option (Fl × St) := match x with | some (.list vs) => withPin n (forF H G (enumL 0 vs)) st | _ => none
noncomputable def forEnumK (H : V → St → Option St) (G : ES1) (x : Option (V × St)) : Option (Fl × St) := x.bind fun r => match r.1 with | .loc n => forEnumK2 H G n r.2 r.2.obs[n]? | _ => none
theorem e_forEnum : NP.forEnum F H S st = forEnumK H S (F st) := rfl
theorem k_forEnum1 : forEnumK H S (some (.loc n, ⟨e, o, p⟩)) = forEnumK2 H S n ⟨e, o, p⟩ o[n]? := rfl
theorem k_forEnum2 : forEnumK2 H S n st (some (.list vs)) = withPin n (forF H S (enumL 0 vs)) st := rfl
noncomputable def forRK (H : V → St → Option St) (G : ES1) (x : Option (List V × St)) : Option (Fl × St) := x.bind fun r => match oneO r.1 with | some v => (intO v).bind fun n => if inR n then forF H G (rangeL 0 n 1) r.2 else none | none => (thrO r.1).bind fun q => (intO q.1).bind fun a => (intO q.2.1).bind fun b => (intO q.2.2).bind fun c => if c = -1 ∧ b = -1 ∧ inR (a + 1) then forF H G (rangeL a b c) r.2 else none
theorem e_forRange : NP.forRange FL H S st = forRK H S (FL st) := rfl
theorem k_forRange1 {n : Int} : forRK H S (some ([.int n], st)) = if inR n then forF H S (rangeL 0 n 1) st else none := by rfl
theorem k_forRange3 {a b c : Int} : forRK H S (some ([.int a, .int b, .int c], st)) = if c = -1 ∧ b = -1 ∧ inR (a + 1) then forF H S (rangeL a b c) st else none := by rfl
noncomputable def compK (p : Nat → Bool) (f : Nat → List Nat) (x : Option (V × St)) : Option (V × St) := x.bind fun r => match r.1 with | .str l => if l.length ≤ 2000 then some (.loc r.2.obs.length, { r.2 with obs := r.2.obs ++ [.list ((l.filter p).map fun c => .str (f c))] }) else none | _ => none
theorem e_comp {cp : Nat → Bool} {cfn : Nat → List Nat} : compF F cp cfn st = compK cp cfn (F st) := rfl
end
end NP
end

section
set_option maxHeartbeats 1000000
set_option backward.defeqAttrib.useBackward true
namespace NP

-- the first place of a sign from a place on
theorem sv_one_length (c : Nat) : (sv [c]).length = 1 := rfl
theorem at_iff (x : List Nat) (c i : Nat) : StrLaws.At (sv x) (sv [c]) x.length i ↔ x[i]? = some c := by
  have := StrLaws.subAt_one (sv x) c i
  rw [sv_len] at this
  have e : (sv x).cps.toList = x := by simp
  rw [e] at this
  exact this
theorem nx_spec (x : List Nat) (c lo : Nat) : match idxAt x [c] lo with
    | some j => lo ≤ j ∧ x[j]? = some c ∧ ∀ k, lo ≤ k → k < j → x[k]? ≠ some c
    | none => ∀ k, lo ≤ k → x[k]? ≠ some c := by
  have hx := StrLaws.occ_head_from (sv x) (sv [c]) lo 1 (Nat.le_refl 1)
  rw [sv_len] at hx
  simp only [at_iff] at hx
  unfold idxAt
  rcases hx with ⟨e, hn⟩ | ⟨j, r, e, hj⟩
  · rw [e]; exact hn
  · rw [e]; exact hj

/-- the place behind the next end sign, or the end -/
noncomputable def closeP (p : List Nat) (lo : Nat) : Nat := match idxAt p [93] lo with
  | some j => j + 1
  | none => p.length
theorem closeP_le (p : List Nat) (lo : Nat) : closeP p lo ≤ p.length := by
  unfold closeP
  have := nx_spec p 93 lo
  split
  · rename_i j e
    rw [e] at this
    have := (List.getElem?_eq_some_iff.mp this.2.1).1
    omega
  · omega
theorem closeP_ge (p : List Nat) (lo : Nat) (h : lo ≤ p.length) : lo ≤ closeP p lo := by
  unfold closeP
  have := nx_spec p 93 lo
  split
  · rename_i j e
    rw [e] at this
    omega
  · omega
theorem idx_app (p : List Nat) (lo : Nat) (h : lo ≤ p.length) : ∃ j, idxAt (p ++ [93]) [93] lo = some j ∧ min (j + 1) p.length = closeP p lo := by
  have a := nx_spec p 93 lo
  have b := nx_spec (p ++ [93]) 93 lo
  unfold closeP
  cases e2 : idxAt (p ++ [93]) [93] lo with
  | none =>
    rw [e2] at b
    exact absurd (by simp) (b p.length h)
  | some j2 =>
    rw [e2] at b
    obtain ⟨b1, b2, b3⟩ := b
    refine ⟨j2, rfl, ?_⟩
    have hj2 : j2 < (p ++ [93]).length := (List.getElem?_eq_some_iff.mp b2).1
    rw [List.length_append] at hj2
    simp only [List.length_cons, List.length_nil] at hj2
    cases e1 : idxAt p [93] lo with
    | none =>
      rw [e1] at a
      dsimp only at a ⊢
      have : ¬ j2 < p.length := fun hl => a j2 b1 (by rw [List.getElem?_append_left hl] at b2; exact b2)
      omega
    | some j =>
      rw [e1] at a
      dsimp only at a ⊢
      have hj : j < p.length := (List.getElem?_eq_some_iff.mp a.2.1).1
      have h1 : ¬ j < j2 := fun hl => b3 j a.1 hl (by rw [List.getElem?_append_left hj]; exact a.2.1)
      have h2 : ¬ j2 < j := fun hl => a.2.2 j2 b1 hl (by rw [List.getElem?_append_left (by omega)] at b2; exact b2)
      omega
theorem idx_mem (x : List Nat) (c : Nat) (h : c ∈ x) : ∃ j, idxAt x [c] 0 = some j ∧ j < x.length := by
  have b := nx_spec x c 0
  cases e2 : idxAt x [c] 0 with
  | none =>
    rw [e2] at b
    obtain ⟨i, hi⟩ := List.mem_iff_getElem?.mp h
    exact absurd hi (b i (Nat.zero_le _))
  | some j =>
    rw [e2] at b
    exact ⟨j, rfl, (List.getElem?_eq_some_iff.mp b.2.1).1⟩
theorem fromIndex_nat (n : Nat) (i : Nat) : fromIndex n (i : Int) = i := by
  unfold fromIndex
  have : ¬ ((i : Int) < 0) := by omega
  simp only [this, if_false]
  omega
theorem find3_eq (x : List Nat) (c lo : Nat) : Txt.find3 (sv x) (sv [c]) (lo : Int) = match idxAt x [c] lo with | some j => (j : Int) | none => -1 := by
  unfold Txt.find3 idxAt
  rw [fromIndex_nat, sv_len]
  cases Builtin.Str.occurrences (sv x) (sv [c]) lo x.length 1 <;> rfl

-- slices
theorem clip_nat (a n : Nat) : max (0 : Int) (min (a : Int) (n : Int)) = ((min a n : Nat) : Int) := by
  rcases Nat.le_total a n with h | h
  · rw [Nat.min_eq_left h, Int.min_eq_left (Int.ofNat_le.mpr h)]; exact Int.max_eq_right (Int.natCast_nonneg _)
  · rw [Nat.min_eq_right h, Int.min_eq_right (Int.ofNat_le.mpr h)]; exact Int.max_eq_right (Int.natCast_nonneg _)
theorem indices_min (a b n : Nat) : Builtin.Str.strSliceIndices (some (a : Int)) (some (b : Int)) 1 n = Builtin.Str.strSliceIndices (some ((min a n : Nat) : Int)) (some ((min b n : Nat) : Int)) 1 n := by
  have h (x : Nat) : ¬ ((x : Int) < 0) := Int.not_lt.mpr (Int.natCast_nonneg x)
  have e1 (x : Nat) : min (min x n) n = min x n := Nat.min_eq_left (Nat.min_le_right _ _)
  simp only [Builtin.Str.strSliceIndices, h, if_false, show ((1 : Int) > 0) = True from by simp, if_true, clip_nat, e1]
theorem txt_of (l : List Nat) (lo hi : Option Int) (a b : Nat) (hab : a ≤ b) (hb : b ≤ l.length) (h : Builtin.Str.strSliceIndices lo hi 1 l.length = Builtin.Str.strSliceIndices (some (a : Int)) (some (b : Int)) 1 l.length) : txtSlice l lo hi = (l.drop a).take (b - a) := by
  unfold txtSlice Txt.slice
  rw [sv_len, h]
  have hp := StrLaws.sliced_plain (sv l) hab (by rw [sv_len]; exact hb)
  rw [sv_len] at hp
  split
  · rename_i hc
    rw [StrLaws.strSliceIndices_plain hab hb] at hc
    simp at hc
    have : a = 0 ∧ b = l.length := by omega
    rw [this.1, this.2]
    simp
  · simp only [hp]
theorem txt_one (l : List Nat) (a : Nat) : txtSlice l (some (a : Int)) (some ((a + 1 : Nat) : Int)) = (l.drop a).take 1 := by
  rw [txt_of l _ _ (min a l.length) (min (a + 1) l.length) (by omega) (by omega) (indices_min a (a + 1) l.length)]
  rcases Nat.lt_or_ge a l.length with h | h
  · have e1 : min a l.length = a := by omega
    have e2 : min (a + 1) l.length - min a l.length = 1 := by omega
    rw [e2, e1]
  · rw [List.drop_eq_nil_of_le (by omega), List.drop_eq_nil_of_le h]
    simp
theorem txt_last (l : List Nat) : txtSlice l (some (-1)) none = (l.drop (l.length - 1)).take 1 := by
  rcases Nat.eq_zero_or_pos l.length with h | h
  · have : l = [] := List.length_eq_zero_iff.mp h
    subst this
    rfl
  · rw [txt_of l _ _ (l.length - 1) l.length (by omega) (by omega)]
    · have : l.length - (l.length - 1) = 1 := by omega
      rw [this]
    · have e1 : (if (-1 : Int) < 0 then (-1 : Int) + (l.length : Int) else -1) = ((l.length - 1 : Nat) : Int) := by
        rw [if_pos (by decide)]; omega
      have h3 : ¬ (((l.length - 1 : Nat) : Int) < 0) := by omega
      have h4 : ¬ (((l.length : Nat) : Int) < 0) := by omega
      have e2 : max (0 : Int) (min (l.length : Int) (l.length : Int)) = (l.length : Int) := by omega
      simp only [Builtin.Str.strSliceIndices, e1, h3, h4, if_false, show ((1 : Int) > 0) = True from by simp, if_true, e2]
theorem one_eq (l : List Nat) (i c : Nat) : ((l.drop i).take 1 == [c]) = decide (l[i]? = some c) := by
  rw [Bool.eq_iff_iff, StrLaws.take1_drop, decide_eq_true_eq]

-- values
section
variable {st : St} {l : List Nat} {i j k a b c : Nat}
theorem inR_nat (h : i ≤ 2000) : inR (i : Int) = true := by unfold inR; simp; omega
theorem v_item (h : l[i]? = some c) (hn : i ≤ 2000) : itemF (.str l) (.int (i : Int)) st = some (.str [c], st) := by
  simp [itemF, inR_nat hn, h]
theorem v_slice (hl : l.length ≤ 2000) : sliceF (.str l) (some (.int (i : Int))) (some (.int ((i + 1 : Nat) : Int))) none st = some (.str ((l.drop i).take 1), st) := by
  show (if l.length ≤ 2000 then some (V.str (txtSlice l (some (i : Int)) (some ((i + 1 : Nat) : Int))), st) else none) = _
  rw [if_pos hl, txt_one]
theorem v_slice_last (hl : l.length ≤ 2000) : sliceF (.str l) (some (.int (-1))) none none st = some (.str ((l.drop (l.length - 1)).take 1), st) := by
  show (if l.length ≤ 2000 then some (V.str (txtSlice l (some (-1)) none), st) else none) = _
  rw [if_pos hl, txt_last]
theorem v_eqs : eqF2 (.str ((l.drop i).take 1)) (.str [c]) st = some (decide (l[i]? = some c)) := by
  show some ((l.drop i).take 1 == [c]) = _
  rw [one_eq]
theorem v_nes : neF (.str ((l.drop i).take 1)) (.str [c]) st = some (decide (¬ l[i]? = some c)) := by
  show some (!((l.drop i).take 1 == [c])) = _
  rw [one_eq]; simp
theorem v_eq1 : eqF2 (.str [a]) (.str [b]) st = some (decide (a = b)) := by
  show some ([a] == [b]) = _
  congr 1
  rw [Bool.eq_iff_iff]; simp
theorem v_ne1 : neF (.str [a]) (.str [b]) st = some (decide (¬ a = b)) := by
  show some (!([a] == [b])) = _
  congr 1
  rw [Bool.eq_iff_iff]; simp
theorem v_le1 : leF (.str [a]) (.str [b]) st = some (decide (a ≤ b)) := by
  show some (!decide ([b] < [a])) = _
  congr 1
  rw [Bool.eq_iff_iff]
  simp [List.cons_lt_cons_iff]
theorem v_eqi {x y : Int} : eqF2 (.int x) (.int y) st = some (decide (x = y)) := by
  show some (x == y) = _
  congr 1
theorem v_lt : ltF (.int (a : Int)) (.int (b : Int)) st = some (decide (a < b)) := by
  show some (decide ((a : Int) < (b : Int))) = _
  congr 1
  rw [Bool.eq_iff_iff]; simp
theorem v_ge : geF (.int (a : Int)) (.int (b : Int)) st = some (decide (b ≤ a)) := by
  show some (decide ((b : Int) ≤ (a : Int))) = _
  congr 1
  rw [Bool.eq_iff_iff]; simp
theorem v_add1 : addF (.int (a : Int)) (.int 1) st = some (.int ((a + 1 : Nat) : Int), st) := by rfl
theorem v_add2 : addF (.int (a : Int)) (.int 2) st = some (.int ((a + 2 : Nat) : Int), st) := rfl
theorem v_add2_1 : addF2 (.int (a : Int)) (.int 1) st = some (.int ((a + 1 : Nat) : Int), st) := by rfl
theorem v_add2_2 : addF2 (.int (a : Int)) (.int 2) st = some (.int ((a + 2 : Nat) : Int), st) := rfl
theorem v_add2_3 : addF2 (.int (a : Int)) (.int 3) st = some (.int ((a + 3 : Nat) : Int), st) := by rfl
theorem v_len (hl : l.length ≤ 2000) : lenF [.str l] st = some (.int (l.length : Int), st) := by
  show (if l.length ≤ 2000 then _ else _) = _
  rw [if_pos hl]
theorem v_find : findF [.str l, .str [c], .int (i : Int)] st = some (.int (match idxAt l [c] i with | some j => (j : Int) | none => -1), st) := by
  show some (V.int (Txt.find3 (sv l) (sv [c]) (i : Int)), st) = _
  rw [find3_eq]
end

/-- the while's rules -/
theorem while_end {B : EB1} {G : ES1} {st st1 : St} {n : Nat} (h : B st = some (false, st1)) : whileF (n + 1) B G st = some (.next, st1) := by
  unfold whileF; rw [h]; rfl
theorem while_next {B : EB1} {G : ES1} {st st1 st2 : St} {n : Nat} (h : B st = some (true, st1)) (h2 : G st1 = some (.next, st2)) : whileF (n + 1) B G st = whileF n B G st2 := by
  conv => lhs; unfold whileF
  rw [h]
  show (G st1).bind _ = _
  rw [h2]; rfl
theorem while_ret {B : EB1} {G : ES1} {st st1 st2 : St} {n : Nat} {v : V} (h : B st = some (true, st1)) (h2 : G st1 = some (.ret v, st2)) : whileF (n + 1) B G st = some (.ret v, st2) := by
  conv => lhs; unfold whileF
  rw [h]
  show (G st1).bind _ = _
  rw [h2]; rfl
theorem for_nil {H : V → St → Option St} {G : ES1} {st : St} : forF H G [] st = some (.next, st) := rfl
theorem for_next {H : V → St → Option St} {G : ES1} {st st1 st2 : St} {v : V} {vs : List V} (h : H v st = some st1) (h2 : G st1 = some (.next, st2)) : forF H G (v :: vs) st = forF H G vs st2 := by
  conv => lhs; unfold forF
  rw [h]
  show (G st1).bind _ = _
  rw [h2]; rfl
theorem for_ret {H : V → St → Option St} {G : ES1} {st st1 st2 : St} {v w : V} {vs : List V} (h : H v st = some st1) (h2 : G st1 = some (.ret w, st2)) : forF H G (v :: vs) st = some (.ret w, st2) := by
  conv => lhs; unfold forF
  rw [h]
  show (G st1).bind _ = _
  rw [h2]; rfl
/-- a def's call -/
theorem fn_ret {df : List V → Option (List V)} {n : Nat} {G : ES1} {vs us : List V} {pin : List Nat} {obs : List Ob} {v : V} {st : St} (h : df vs = some us) (h2 : G ⟨us.map some ++ List.replicate (n - us.length) none, obs, pin⟩ = some (.ret v, st)) :
    fnF df n G vs pin obs = some (v, st.obs) := by
  unfold fnF; rw [h]; show (G _).bind _ = _; rw [h2]; rfl
theorem fn_next {df : List V → Option (List V)} {n : Nat} {G : ES1} {vs us : List V} {pin : List Nat} {obs : List Ob} {st : St} (h : df vs = some us) (h2 : G ⟨us.map some ++ List.replicate (n - us.length) none, obs, pin⟩ = some (.next, st)) :
    fnF df n G vs pin obs = some (.none, st.obs) := by
  unfold fnF; rw [h]; show (G _).bind _ = _; rw [h2]; rfl
end NP
end

section
set_option maxHeartbeats 1000000
set_option backward.defeqAttrib.useBackward true
namespace NP

abbrev hit (a b c : Nat) : Prop := (a ≤ c ∧ c ≤ b) ∨ (b ≤ c ∧ c ≤ a)

/-- is the sign in the set that is read from a place on, and the place behind the set -/
noncomputable def inS (p : List Nat) (c : Nat) : Nat → Nat → Bool × Nat
  | 0, i => (false, i)
  | f + 1, i => match p[i]? with
    | none => (false, p.length)
    | some x => if x = 93 then (false, i + 1) else
      if p[i + 1]? = some 45 then
        match p[i + 2]? with
        | none => (false, p.length)
        | some y => if hit x y c then (true, closeP p (i + 3)) else inS p c f (i + 3)
      else if hit x x c then (true, closeP p (i + 1)) else inS p c f (i + 1)

noncomputable def in_set_R : ES1 :=
  (seqF (ifF (cmpB (getF 1) (getF 3) ltF) (seqF (retF (tupF (consF (kV (.bool false)) (consF (bin (getF 1) (kV (.int 1)) addF2) nilS))))
    nextF) nextF)
    (seqF (retF (tupF (consF (kV (.bool false)) (consF (getF 3) nilS))))
    nextF))

noncomputable def tupOf (r : Bool × Nat) : V := .tup [.bool r.1, .int (r.2 : Int)]

noncomputable def inSt (p : List Nat) (i c : Nat) (lo hi cl : Option V) (o : List Ob) (q : List Nat) : St := ⟨[some (.str p), some (.int (i : Int)), some (.str [c]), some (.int (p.length : Int)), lo, hi, cl], o, q⟩

noncomputable def hitT : EB1 := (orB (andB (cmpB (getF 4) (getF 2) leF) (andB (cmpB (getF 2) (getF 5) leF) (kB true))) (orB (andB (cmpB (getF 5) (getF 2) leF) (andB (cmpB (getF 2) (getF 4) leF) (kB true))) (kB false)))
theorem hitT_eq {a0 a1 a3 a6 : Option V} {x y c : Nat} {o : List Ob} {q : List Nat} : hitT ⟨[a0, a1, some (.str [c]), a3, some (.str [x]), some (.str [y]), a6], o, q⟩ = some (decide (hit x y c), ⟨[a0, a1, some (.str [c]), a3, some (.str [x]), some (.str [y]), a6], o, q⟩) := by
  unfold hitT hit
  by_cases h1 : x ≤ c <;> by_cases h2 : c ≤ y <;> by_cases h3 : y ≤ c <;> by_cases h4 : c ≤ x <;> simp only [get_0, set_0, get_1, set_1, get_2, set_2, get_3, set_3, get_4, set_4, get_5, set_5, get_6, set_6, get_7, set_7, get_8, set_8, get_9, set_9, e_kV, e_kB, e_nilS, e_noneO, e_nextF, e_bin, k_bin1, k_bin2, e_cmpV, k_cmpV1, k_cmpV2, k_cmpV3, e_cmpB, k_cmpB1, k_cmpB2, k_cmpB3, e_notB, k_notB, e_andB, k_andB1, k_andB0, e_orB, k_orB1, k_orB0, e_truB, k_truB1, k_truB2, k_truth, e_negV, k_neg, e_andV, k_andV1, k_andV0, e_orV, k_orV1, k_orV0, e_iteV, k_ite1, k_ite0, e_cons, k_cons1, k_cons2, e_tup, k_tup1, k_tup2, k_tup3, e_lst, k_lst0, k_lst1, k_lst2, e_opt, k_opt, e_slc, k_slc1, k_slc2, k_slc3, k_slc4, e_chain, k_ch1, k_ch2, k_ch3t, k_ch3f, k_ch4, k_ch5, e_dict0, e_callB, k_callB, e_meth, k_meth1, k_meth2, k_meth3, k_isStr, e_call, k_call1, k_call2, e_seq, k_seqN, k_seqR, e_ret, k_ret, e_asg, k_asg1, k_asg2, e_aug, k_aug1, k_aug2, k_aug3, e_if, k_if1, k_if0, e_expr, k_expr, e_sub, k_sub1, k_sub2, k_sub3, k_untup2, k_untup3, e_sets0, e_sets, k_sets, e_set2, k_set2, e_forStr, k_forStr, e_pin, k_pin, e_forDict, k_forDict1, k_forDict2, e_forList, k_forList1, k_forList2, e_forEnum, k_forEnum1, k_forEnum2, e_forRange, e_comp, v_le1, h1, h2, h3, h4, decide_true, decide_false, and_true, and_false, true_and, or_true, true_or, or_false, false_or, and_self, or_self]
noncomputable def hitR : ES1 := (seqF (asgF (methB (getF 0) isStr (consF (kV (.str [93])) (consF (getF 1) nilS)) findF) (setF 6))
    (seqF (ifF (cmpB (getF 6) (kV (.int 0)) ltF) (seqF (retF (tupF (consF (kV (.bool true)) (consF (getF 3) nilS))))
    nextF) nextF)
    (seqF (retF (tupF (consF (kV (.bool true)) (consF (bin (getF 6) (kV (.int 1)) addF2) nilS))))
    nextF)))
theorem hitR_eq {p : List Nat} {i c : Nat} {lo hi cl : Option V} {o : List Ob} {q : List Nat} : ∃ cl', hitR (inSt p i c lo hi cl o q) = some (.ret (tupOf (true, closeP p i)), inSt p i c lo hi cl' o q) := by
  unfold hitR inSt closeP tupOf
  cases e : idxAt p [93] i with
  | none =>
    refine ⟨some (.int (-1)), ?_⟩
    have h : ltF (.int (-1)) (.int 0) = fun _ => some true := rfl
    simp only [get_0, set_0, get_1, set_1, get_2, set_2, get_3, set_3, get_4, set_4, get_5, set_5, get_6, set_6, get_7, set_7, get_8, set_8, get_9, set_9, e_kV, e_kB, e_nilS, e_noneO, e_nextF, e_bin, k_bin1, k_bin2, e_cmpV, k_cmpV1, k_cmpV2, k_cmpV3, e_cmpB, k_cmpB1, k_cmpB2, k_cmpB3, e_notB, k_notB, e_andB, k_andB1, k_andB0, e_orB, k_orB1, k_orB0, e_truB, k_truB1, k_truB2, k_truth, e_negV, k_neg, e_andV, k_andV1, k_andV0, e_orV, k_orV1, k_orV0, e_iteV, k_ite1, k_ite0, e_cons, k_cons1, k_cons2, e_tup, k_tup1, k_tup2, k_tup3, e_lst, k_lst0, k_lst1, k_lst2, e_opt, k_opt, e_slc, k_slc1, k_slc2, k_slc3, k_slc4, e_chain, k_ch1, k_ch2, k_ch3t, k_ch3f, k_ch4, k_ch5, e_dict0, e_callB, k_callB, e_meth, k_meth1, k_meth2, k_meth3, k_isStr, e_call, k_call1, k_call2, e_seq, k_seqN, k_seqR, e_ret, k_ret, e_asg, k_asg1, k_asg2, e_aug, k_aug1, k_aug2, k_aug3, e_if, k_if1, k_if0, e_expr, k_expr, e_sub, k_sub1, k_sub2, k_sub3, k_untup2, k_untup3, e_sets0, e_sets, k_sets, e_set2, k_set2, e_forStr, k_forStr, e_pin, k_pin, e_forDict, k_forDict1, k_forDict2, e_forList, k_forList1, k_forList2, e_forEnum, k_forEnum1, k_forEnum2, e_forRange, e_comp, v_find, e, h]
  | some j =>
    refine ⟨some (.int (j : Int)), ?_⟩
    have h : ∀ st, ltF (.int (j : Int)) (.int 0) st = some false := fun st => by
      show some (decide ((j : Int) < 0)) = _
      congr 1
    simp only [get_0, set_0, get_1, set_1, get_2, set_2, get_3, set_3, get_4, set_4, get_5, set_5, get_6, set_6, get_7, set_7, get_8, set_8, get_9, set_9, e_kV, e_kB, e_nilS, e_noneO, e_nextF, e_bin, k_bin1, k_bin2, e_cmpV, k_cmpV1, k_cmpV2, k_cmpV3, e_cmpB, k_cmpB1, k_cmpB2, k_cmpB3, e_notB, k_notB, e_andB, k_andB1, k_andB0, e_orB, k_orB1, k_orB0, e_truB, k_truB1, k_truB2, k_truth, e_negV, k_neg, e_andV, k_andV1, k_andV0, e_orV, k_orV1, k_orV0, e_iteV, k_ite1, k_ite0, e_cons, k_cons1, k_cons2, e_tup, k_tup1, k_tup2, k_tup3, e_lst, k_lst0, k_lst1, k_lst2, e_opt, k_opt, e_slc, k_slc1, k_slc2, k_slc3, k_slc4, e_chain, k_ch1, k_ch2, k_ch3t, k_ch3f, k_ch4, k_ch5, e_dict0, e_callB, k_callB, e_meth, k_meth1, k_meth2, k_meth3, k_isStr, e_call, k_call1, k_call2, e_seq, k_seqN, k_seqR, e_ret, k_ret, e_asg, k_asg1, k_asg2, e_aug, k_aug1, k_aug2, k_aug3, e_if, k_if1, k_if0, e_expr, k_expr, e_sub, k_sub1, k_sub2, k_sub3, k_untup2, k_untup3, e_sets0, e_sets, k_sets, e_set2, k_set2, e_forStr, k_forStr, e_pin, k_pin, e_forDict, k_forDict1, k_forDict2, e_forList, k_forList1, k_forList2, e_forEnum, k_forEnum1, k_forEnum2, e_forRange, e_comp, v_find, e, h, v_add2_1]
noncomputable def in_set_r2 : ES1 := (seqF (ifF hitT hitR nextF)
    nextF)
noncomputable def in_set_r1 : ES1 := (seqF (ifF (cmpB (slcF (getF 0) (optF (getF 1)) (optF (bin (getF 1) (kV (.int 1)) addF2)) noneO) (kV (.str [45])) eqF2) (seqF (ifF (cmpB (bin (getF 1) (kV (.int 1)) addF2) (getF 3) geF) (seqF (retF (tupF (consF (kV (.bool false)) (consF (getF 3) nilS))))
    nextF) nextF)
    (seqF (asgF (bin (getF 0) (bin (getF 1) (kV (.int 1)) addF2) itemF) (setF 5))
    (seqF (augF 1 (kV (.int 2)) addF)
    nextF))) nextF)
    in_set_r2)
noncomputable def in_set_b1' : ES1 :=
  (seqF (asgF (bin (getF 0) (getF 1) itemF) (setF 4))
    (seqF (asgF (getF 4) (setF 5))
    (seqF (augF 1 (kV (.int 1)) addF)
    in_set_r1)))
theorem b1_eq : in_set_b1 = in_set_b1' := rfl
section
variable {p : List Nat} {i c x y : Nat} {lo hi cl : Option V} {o : List Ob} {q : List Nat}
theorem b1_pre (hx : p[i]? = some x) (hi6 : i ≤ 2000) : in_set_b1 (inSt p i c lo hi cl o q) = in_set_r1 (inSt p (i + 1) c (some (.str [x])) (some (.str [x])) cl o q) := by
  rw [b1_eq]
  simp only [in_set_b1', inSt, get_0, set_0, get_1, set_1, get_2, set_2, get_3, set_3, get_4, set_4, get_5, set_5, get_6, set_6, get_7, set_7, get_8, set_8, get_9, set_9, e_kV, e_kB, e_nilS, e_noneO, e_nextF, e_bin, k_bin1, k_bin2, e_cmpV, k_cmpV1, k_cmpV2, k_cmpV3, e_cmpB, k_cmpB1, k_cmpB2, k_cmpB3, e_notB, k_notB, e_andB, k_andB1, k_andB0, e_orB, k_orB1, k_orB0, e_truB, k_truB1, k_truB2, k_truth, e_negV, k_neg, e_andV, k_andV1, k_andV0, e_orV, k_orV1, k_orV0, e_iteV, k_ite1, k_ite0, e_cons, k_cons1, k_cons2, e_tup, k_tup1, k_tup2, k_tup3, e_lst, k_lst0, k_lst1, k_lst2, e_opt, k_opt, e_slc, k_slc1, k_slc2, k_slc3, k_slc4, e_chain, k_ch1, k_ch2, k_ch3t, k_ch3f, k_ch4, k_ch5, e_dict0, e_callB, k_callB, e_meth, k_meth1, k_meth2, k_meth3, k_isStr, e_call, k_call1, k_call2, e_seq, k_seqN, k_seqR, e_ret, k_ret, e_asg, k_asg1, k_asg2, e_aug, k_aug1, k_aug2, k_aug3, e_if, k_if1, k_if0, e_expr, k_expr, e_sub, k_sub1, k_sub2, k_sub3, k_untup2, k_untup3, e_sets0, e_sets, k_sets, e_set2, k_set2, e_forStr, k_forStr, e_pin, k_pin, e_forDict, k_forDict1, k_forDict2, e_forList, k_forList1, k_forList2, e_forEnum, k_forEnum1, k_forEnum2, e_forRange, e_comp, v_item hx hi6, v_add1]
theorem r1_no (hp6 : p.length ≤ 2000) (h : ¬ p[i]? = some 45) : in_set_r1 (inSt p i c lo hi cl o q) = in_set_r2 (inSt p i c lo hi cl o q) := by
  simp only [in_set_r1, inSt, get_0, set_0, get_1, set_1, get_2, set_2, get_3, set_3, get_4, set_4, get_5, set_5, get_6, set_6, get_7, set_7, get_8, set_8, get_9, set_9, e_kV, e_kB, e_nilS, e_noneO, e_nextF, e_bin, k_bin1, k_bin2, e_cmpV, k_cmpV1, k_cmpV2, k_cmpV3, e_cmpB, k_cmpB1, k_cmpB2, k_cmpB3, e_notB, k_notB, e_andB, k_andB1, k_andB0, e_orB, k_orB1, k_orB0, e_truB, k_truB1, k_truB2, k_truth, e_negV, k_neg, e_andV, k_andV1, k_andV0, e_orV, k_orV1, k_orV0, e_iteV, k_ite1, k_ite0, e_cons, k_cons1, k_cons2, e_tup, k_tup1, k_tup2, k_tup3, e_lst, k_lst0, k_lst1, k_lst2, e_opt, k_opt, e_slc, k_slc1, k_slc2, k_slc3, k_slc4, e_chain, k_ch1, k_ch2, k_ch3t, k_ch3f, k_ch4, k_ch5, e_dict0, e_callB, k_callB, e_meth, k_meth1, k_meth2, k_meth3, k_isStr, e_call, k_call1, k_call2, e_seq, k_seqN, k_seqR, e_ret, k_ret, e_asg, k_asg1, k_asg2, e_aug, k_aug1, k_aug2, k_aug3, e_if, k_if1, k_if0, e_expr, k_expr, e_sub, k_sub1, k_sub2, k_sub3, k_untup2, k_untup3, e_sets0, e_sets, k_sets, e_set2, k_set2, e_forStr, k_forStr, e_pin, k_pin, e_forDict, k_forDict1, k_forDict2, e_forList, k_forList1, k_forList2, e_forEnum, k_forEnum1, k_forEnum2, e_forRange, e_comp, v_add2_1, v_slice hp6, v_eqs, h, decide_false]
theorem r1_end (hp6 : p.length ≤ 2000) (h : p[i]? = some 45) (hge : p.length ≤ i + 1) : in_set_r1 (inSt p i c lo hi cl o q) = some (.ret (tupOf (false, p.length)), inSt p i c lo hi cl o q) := by
  simp only [in_set_r1, inSt, get_0, set_0, get_1, set_1, get_2, set_2, get_3, set_3, get_4, set_4, get_5, set_5, get_6, set_6, get_7, set_7, get_8, set_8, get_9, set_9, e_kV, e_kB, e_nilS, e_noneO, e_nextF, e_bin, k_bin1, k_bin2, e_cmpV, k_cmpV1, k_cmpV2, k_cmpV3, e_cmpB, k_cmpB1, k_cmpB2, k_cmpB3, e_notB, k_notB, e_andB, k_andB1, k_andB0, e_orB, k_orB1, k_orB0, e_truB, k_truB1, k_truB2, k_truth, e_negV, k_neg, e_andV, k_andV1, k_andV0, e_orV, k_orV1, k_orV0, e_iteV, k_ite1, k_ite0, e_cons, k_cons1, k_cons2, e_tup, k_tup1, k_tup2, k_tup3, e_lst, k_lst0, k_lst1, k_lst2, e_opt, k_opt, e_slc, k_slc1, k_slc2, k_slc3, k_slc4, e_chain, k_ch1, k_ch2, k_ch3t, k_ch3f, k_ch4, k_ch5, e_dict0, e_callB, k_callB, e_meth, k_meth1, k_meth2, k_meth3, k_isStr, e_call, k_call1, k_call2, e_seq, k_seqN, k_seqR, e_ret, k_ret, e_asg, k_asg1, k_asg2, e_aug, k_aug1, k_aug2, k_aug3, e_if, k_if1, k_if0, e_expr, k_expr, e_sub, k_sub1, k_sub2, k_sub3, k_untup2, k_untup3, e_sets0, e_sets, k_sets, e_set2, k_set2, e_forStr, k_forStr, e_pin, k_pin, e_forDict, k_forDict1, k_forDict2, e_forList, k_forList1, k_forList2, e_forEnum, k_forEnum1, k_forEnum2, e_forRange, e_comp, v_add2_1, v_slice hp6, v_eqs, h, decide_true, v_ge, hge, tupOf]
theorem r1_yes (hp6 : p.length ≤ 2000) (h : p[i]? = some 45) (hy : p[i + 1]? = some y) : in_set_r1 (inSt p i c lo hi cl o q) = in_set_r2 (inSt p (i + 2) c lo (some (.str [y])) cl o q) := by
  have hlt : i + 1 < p.length := (List.getElem?_eq_some_iff.mp hy).1
  have hge : ¬ p.length ≤ i + 1 := Nat.not_le.mpr hlt
  simp only [in_set_r1, inSt, get_0, set_0, get_1, set_1, get_2, set_2, get_3, set_3, get_4, set_4, get_5, set_5, get_6, set_6, get_7, set_7, get_8, set_8, get_9, set_9, e_kV, e_kB, e_nilS, e_noneO, e_nextF, e_bin, k_bin1, k_bin2, e_cmpV, k_cmpV1, k_cmpV2, k_cmpV3, e_cmpB, k_cmpB1, k_cmpB2, k_cmpB3, e_notB, k_notB, e_andB, k_andB1, k_andB0, e_orB, k_orB1, k_orB0, e_truB, k_truB1, k_truB2, k_truth, e_negV, k_neg, e_andV, k_andV1, k_andV0, e_orV, k_orV1, k_orV0, e_iteV, k_ite1, k_ite0, e_cons, k_cons1, k_cons2, e_tup, k_tup1, k_tup2, k_tup3, e_lst, k_lst0, k_lst1, k_lst2, e_opt, k_opt, e_slc, k_slc1, k_slc2, k_slc3, k_slc4, e_chain, k_ch1, k_ch2, k_ch3t, k_ch3f, k_ch4, k_ch5, e_dict0, e_callB, k_callB, e_meth, k_meth1, k_meth2, k_meth3, k_isStr, e_call, k_call1, k_call2, e_seq, k_seqN, k_seqR, e_ret, k_ret, e_asg, k_asg1, k_asg2, e_aug, k_aug1, k_aug2, k_aug3, e_if, k_if1, k_if0, e_expr, k_expr, e_sub, k_sub1, k_sub2, k_sub3, k_untup2, k_untup3, e_sets0, e_sets, k_sets, e_set2, k_set2, e_forStr, k_forStr, e_pin, k_pin, e_forDict, k_forDict1, k_forDict2, e_forList, k_forList1, k_forList2, e_forEnum, k_forEnum1, k_forEnum2, e_forRange, e_comp, v_add2_1, v_slice hp6, v_eqs, h, decide_true, v_ge, hge, decide_false, v_item hy (Nat.le_trans (Nat.le_of_lt hlt) hp6), v_add2]
theorem r2_hit (h : hit x y c) : ∃ cl', in_set_r2 (inSt p i c (some (.str [x])) (some (.str [y])) cl o q) = some (.ret (tupOf (true, closeP p i)), inSt p i c (some (.str [x])) (some (.str [y])) cl' o q) := by
  obtain ⟨cl', hR⟩ := @hitR_eq p i c (some (.str [x])) (some (.str [y])) cl o q
  refine ⟨cl', ?_⟩
  unfold inSt at hR
  simp only [in_set_r2, inSt, get_0, set_0, get_1, set_1, get_2, set_2, get_3, set_3, get_4, set_4, get_5, set_5, get_6, set_6, get_7, set_7, get_8, set_8, get_9, set_9, e_kV, e_kB, e_nilS, e_noneO, e_nextF, e_bin, k_bin1, k_bin2, e_cmpV, k_cmpV1, k_cmpV2, k_cmpV3, e_cmpB, k_cmpB1, k_cmpB2, k_cmpB3, e_notB, k_notB, e_andB, k_andB1, k_andB0, e_orB, k_orB1, k_orB0, e_truB, k_truB1, k_truB2, k_truth, e_negV, k_neg, e_andV, k_andV1, k_andV0, e_orV, k_orV1, k_orV0, e_iteV, k_ite1, k_ite0, e_cons, k_cons1, k_cons2, e_tup, k_tup1, k_tup2, k_tup3, e_lst, k_lst0, k_lst1, k_lst2, e_opt, k_opt, e_slc, k_slc1, k_slc2, k_slc3, k_slc4, e_chain, k_ch1, k_ch2, k_ch3t, k_ch3f, k_ch4, k_ch5, e_dict0, e_callB, k_callB, e_meth, k_meth1, k_meth2, k_meth3, k_isStr, e_call, k_call1, k_call2, e_seq, k_seqN, k_seqR, e_ret, k_ret, e_asg, k_asg1, k_asg2, e_aug, k_aug1, k_aug2, k_aug3, e_if, k_if1, k_if0, e_expr, k_expr, e_sub, k_sub1, k_sub2, k_sub3, k_untup2, k_untup3, e_sets0, e_sets, k_sets, e_set2, k_set2, e_forStr, k_forStr, e_pin, k_pin, e_forDict, k_forDict1, k_forDict2, e_forList, k_forList1, k_forList2, e_forEnum, k_forEnum1, k_forEnum2, e_forRange, e_comp, hitT_eq, h, decide_true, hR]
theorem r2_no (h : ¬ hit x y c) : in_set_r2 (inSt p i c (some (.str [x])) (some (.str [y])) cl o q) = some (.next, inSt p i c (some (.str [x])) (some (.str [y])) cl o q) := by
  simp only [in_set_r2, inSt, get_0, set_0, get_1, set_1, get_2, set_2, get_3, set_3, get_4, set_4, get_5, set_5, get_6, set_6, get_7, set_7, get_8, set_8, get_9, set_9, e_kV, e_kB, e_nilS, e_noneO, e_nextF, e_bin, k_bin1, k_bin2, e_cmpV, k_cmpV1, k_cmpV2, k_cmpV3, e_cmpB, k_cmpB1, k_cmpB2, k_cmpB3, e_notB, k_notB, e_andB, k_andB1, k_andB0, e_orB, k_orB1, k_orB0, e_truB, k_truB1, k_truB2, k_truth, e_negV, k_neg, e_andV, k_andV1, k_andV0, e_orV, k_orV1, k_orV0, e_iteV, k_ite1, k_ite0, e_cons, k_cons1, k_cons2, e_tup, k_tup1, k_tup2, k_tup3, e_lst, k_lst0, k_lst1, k_lst2, e_opt, k_opt, e_slc, k_slc1, k_slc2, k_slc3, k_slc4, e_chain, k_ch1, k_ch2, k_ch3t, k_ch3f, k_ch4, k_ch5, e_dict0, e_callB, k_callB, e_meth, k_meth1, k_meth2, k_meth3, k_isStr, e_call, k_call1, k_call2, e_seq, k_seqN, k_seqR, e_ret, k_ret, e_asg, k_asg1, k_asg2, e_aug, k_aug1, k_aug2, k_aug3, e_if, k_if1, k_if0, e_expr, k_expr, e_sub, k_sub1, k_sub2, k_sub3, k_untup2, k_untup3, e_sets0, e_sets, k_sets, e_set2, k_set2, e_forStr, k_forStr, e_pin, k_pin, e_forDict, k_forDict1, k_forDict2, e_forList, k_forList1, k_forList2, e_forEnum, k_forEnum1, k_forEnum2, e_forRange, e_comp, hitT_eq, h, decide_false]
end

theorem in_set_loop (p : List Nat) (c : Nat) (hp : p.length ≤ 1000) (o : List Ob) (q : List Nat) : ∀ (n i : Nat) (lo hi cl : Option V), i ≤ p.length → p.length < i + n →
    ∃ st', seqK in_set_R (whileF n in_set_t1 in_set_b1 (inSt p i c lo hi cl o q)) = some (.ret (tupOf (inS p c n i)), st') ∧ st'.obs = o
  | 0, i, _, _, _, h1, h2 => by omega
  | n + 1, i, lo, hi, cl, h1, h2 => by
    have hp6 : p.length ≤ 2000 := by omega
    cases hx : p[i]? with
    | none =>
      have hge : ¬ i < p.length := fun h => by rw [List.getElem?_eq_getElem h] at hx; cases hx
      have ht : in_set_t1 (inSt p i c lo hi cl o q) = some (false, inSt p i c lo hi cl o q) := by
        simp only [in_set_t1, inSt, get_0, set_0, get_1, set_1, get_2, set_2, get_3, set_3, get_4, set_4, get_5, set_5, get_6, set_6, get_7, set_7, get_8, set_8, get_9, set_9, e_kV, e_kB, e_nilS, e_noneO, e_nextF, e_bin, k_bin1, k_bin2, e_cmpV, k_cmpV1, k_cmpV2, k_cmpV3, e_cmpB, k_cmpB1, k_cmpB2, k_cmpB3, e_notB, k_notB, e_andB, k_andB1, k_andB0, e_orB, k_orB1, k_orB0, e_truB, k_truB1, k_truB2, k_truth, e_negV, k_neg, e_andV, k_andV1, k_andV0, e_orV, k_orV1, k_orV0, e_iteV, k_ite1, k_ite0, e_cons, k_cons1, k_cons2, e_tup, k_tup1, k_tup2, k_tup3, e_lst, k_lst0, k_lst1, k_lst2, e_opt, k_opt, e_slc, k_slc1, k_slc2, k_slc3, k_slc4, e_chain, k_ch1, k_ch2, k_ch3t, k_ch3f, k_ch4, k_ch5, e_dict0, e_callB, k_callB, e_meth, k_meth1, k_meth2, k_meth3, k_isStr, e_call, k_call1, k_call2, e_seq, k_seqN, k_seqR, e_ret, k_ret, e_asg, k_asg1, k_asg2, e_aug, k_aug1, k_aug2, k_aug3, e_if, k_if1, k_if0, e_expr, k_expr, e_sub, k_sub1, k_sub2, k_sub3, k_untup2, k_untup3, e_sets0, e_sets, k_sets, e_set2, k_set2, e_forStr, k_forStr, e_pin, k_pin, e_forDict, k_forDict1, k_forDict2, e_forList, k_forList1, k_forList2, e_forEnum, k_forEnum1, k_forEnum2, e_forRange, e_comp, v_lt, hge, decide_false]
      rw [while_end ht]
      have e : inS p c (n + 1) i = (false, p.length) := by simp only [inS, hx]
      rw [e]
      refine ⟨inSt p i c lo hi cl o q, ?_, rfl⟩
      simp only [in_set_R, inSt, get_0, set_0, get_1, set_1, get_2, set_2, get_3, set_3, get_4, set_4, get_5, set_5, get_6, set_6, get_7, set_7, get_8, set_8, get_9, set_9, e_kV, e_kB, e_nilS, e_noneO, e_nextF, e_bin, k_bin1, k_bin2, e_cmpV, k_cmpV1, k_cmpV2, k_cmpV3, e_cmpB, k_cmpB1, k_cmpB2, k_cmpB3, e_notB, k_notB, e_andB, k_andB1, k_andB0, e_orB, k_orB1, k_orB0, e_truB, k_truB1, k_truB2, k_truth, e_negV, k_neg, e_andV, k_andV1, k_andV0, e_orV, k_orV1, k_orV0, e_iteV, k_ite1, k_ite0, e_cons, k_cons1, k_cons2, e_tup, k_tup1, k_tup2, k_tup3, e_lst, k_lst0, k_lst1, k_lst2, e_opt, k_opt, e_slc, k_slc1, k_slc2, k_slc3, k_slc4, e_chain, k_ch1, k_ch2, k_ch3t, k_ch3f, k_ch4, k_ch5, e_dict0, e_callB, k_callB, e_meth, k_meth1, k_meth2, k_meth3, k_isStr, e_call, k_call1, k_call2, e_seq, k_seqN, k_seqR, e_ret, k_ret, e_asg, k_asg1, k_asg2, e_aug, k_aug1, k_aug2, k_aug3, e_if, k_if1, k_if0, e_expr, k_expr, e_sub, k_sub1, k_sub2, k_sub3, k_untup2, k_untup3, e_sets0, e_sets, k_sets, e_set2, k_set2, e_forStr, k_forStr, e_pin, k_pin, e_forDict, k_forDict1, k_forDict2, e_forList, k_forList1, k_forList2, e_forEnum, k_forEnum1, k_forEnum2, e_forRange, e_comp, v_lt, hge, decide_false, tupOf]
    | some x =>
      have hlt : i < p.length := (List.getElem?_eq_some_iff.mp hx).1
      by_cases h93 : x = 93
      · have ht : in_set_t1 (inSt p i c lo hi cl o q) = some (false, inSt p i c lo hi cl o q) := by
          simp only [in_set_t1, inSt, get_0, set_0, get_1, set_1, get_2, set_2, get_3, set_3, get_4, set_4, get_5, set_5, get_6, set_6, get_7, set_7, get_8, set_8, get_9, set_9, e_kV, e_kB, e_nilS, e_noneO, e_nextF, e_bin, k_bin1, k_bin2, e_cmpV, k_cmpV1, k_cmpV2, k_cmpV3, e_cmpB, k_cmpB1, k_cmpB2, k_cmpB3, e_notB, k_notB, e_andB, k_andB1, k_andB0, e_orB, k_orB1, k_orB0, e_truB, k_truB1, k_truB2, k_truth, e_negV, k_neg, e_andV, k_andV1, k_andV0, e_orV, k_orV1, k_orV0, e_iteV, k_ite1, k_ite0, e_cons, k_cons1, k_cons2, e_tup, k_tup1, k_tup2, k_tup3, e_lst, k_lst0, k_lst1, k_lst2, e_opt, k_opt, e_slc, k_slc1, k_slc2, k_slc3, k_slc4, e_chain, k_ch1, k_ch2, k_ch3t, k_ch3f, k_ch4, k_ch5, e_dict0, e_callB, k_callB, e_meth, k_meth1, k_meth2, k_meth3, k_isStr, e_call, k_call1, k_call2, e_seq, k_seqN, k_seqR, e_ret, k_ret, e_asg, k_asg1, k_asg2, e_aug, k_aug1, k_aug2, k_aug3, e_if, k_if1, k_if0, e_expr, k_expr, e_sub, k_sub1, k_sub2, k_sub3, k_untup2, k_untup3, e_sets0, e_sets, k_sets, e_set2, k_set2, e_forStr, k_forStr, e_pin, k_pin, e_forDict, k_forDict1, k_forDict2, e_forList, k_forList1, k_forList2, e_forEnum, k_forEnum1, k_forEnum2, e_forRange, e_comp, v_lt, hlt, decide_true, v_item hx (by omega), v_ne1, h93, not_true, decide_false]
        rw [while_end ht]
        have e : inS p c (n + 1) i = (false, i + 1) := by simp only [inS, hx, h93, if_true]
        rw [e]
        refine ⟨inSt p i c lo hi cl o q, ?_, rfl⟩
        simp only [in_set_R, inSt, get_0, set_0, get_1, set_1, get_2, set_2, get_3, set_3, get_4, set_4, get_5, set_5, get_6, set_6, get_7, set_7, get_8, set_8, get_9, set_9, e_kV, e_kB, e_nilS, e_noneO, e_nextF, e_bin, k_bin1, k_bin2, e_cmpV, k_cmpV1, k_cmpV2, k_cmpV3, e_cmpB, k_cmpB1, k_cmpB2, k_cmpB3, e_notB, k_notB, e_andB, k_andB1, k_andB0, e_orB, k_orB1, k_orB0, e_truB, k_truB1, k_truB2, k_truth, e_negV, k_neg, e_andV, k_andV1, k_andV0, e_orV, k_orV1, k_orV0, e_iteV, k_ite1, k_ite0, e_cons, k_cons1, k_cons2, e_tup, k_tup1, k_tup2, k_tup3, e_lst, k_lst0, k_lst1, k_lst2, e_opt, k_opt, e_slc, k_slc1, k_slc2, k_slc3, k_slc4, e_chain, k_ch1, k_ch2, k_ch3t, k_ch3f, k_ch4, k_ch5, e_dict0, e_callB, k_callB, e_meth, k_meth1, k_meth2, k_meth3, k_isStr, e_call, k_call1, k_call2, e_seq, k_seqN, k_seqR, e_ret, k_ret, e_asg, k_asg1, k_asg2, e_aug, k_aug1, k_aug2, k_aug3, e_if, k_if1, k_if0, e_expr, k_expr, e_sub, k_sub1, k_sub2, k_sub3, k_untup2, k_untup3, e_sets0, e_sets, k_sets, e_set2, k_set2, e_forStr, k_forStr, e_pin, k_pin, e_forDict, k_forDict1, k_forDict2, e_forList, k_forList1, k_forList2, e_forEnum, k_forEnum1, k_forEnum2, e_forRange, e_comp, v_lt, hlt, decide_true, v_add2_1, tupOf]
      · have ht : in_set_t1 (inSt p i c lo hi cl o q) = some (true, inSt p i c lo hi cl o q) := by
          simp only [in_set_t1, inSt, get_0, set_0, get_1, set_1, get_2, set_2, get_3, set_3, get_4, set_4, get_5, set_5, get_6, set_6, get_7, set_7, get_8, set_8, get_9, set_9, e_kV, e_kB, e_nilS, e_noneO, e_nextF, e_bin, k_bin1, k_bin2, e_cmpV, k_cmpV1, k_cmpV2, k_cmpV3, e_cmpB, k_cmpB1, k_cmpB2, k_cmpB3, e_notB, k_notB, e_andB, k_andB1, k_andB0, e_orB, k_orB1, k_orB0, e_truB, k_truB1, k_truB2, k_truth, e_negV, k_neg, e_andV, k_andV1, k_andV0, e_orV, k_orV1, k_orV0, e_iteV, k_ite1, k_ite0, e_cons, k_cons1, k_cons2, e_tup, k_tup1, k_tup2, k_tup3, e_lst, k_lst0, k_lst1, k_lst2, e_opt, k_opt, e_slc, k_slc1, k_slc2, k_slc3, k_slc4, e_chain, k_ch1, k_ch2, k_ch3t, k_ch3f, k_ch4, k_ch5, e_dict0, e_callB, k_callB, e_meth, k_meth1, k_meth2, k_meth3, k_isStr, e_call, k_call1, k_call2, e_seq, k_seqN, k_seqR, e_ret, k_ret, e_asg, k_asg1, k_asg2, e_aug, k_aug1, k_aug2, k_aug3, e_if, k_if1, k_if0, e_expr, k_expr, e_sub, k_sub1, k_sub2, k_sub3, k_untup2, k_untup3, e_sets0, e_sets, k_sets, e_set2, k_set2, e_forStr, k_forStr, e_pin, k_pin, e_forDict, k_forDict1, k_forDict2, e_forList, k_forList1, k_forList2, e_forEnum, k_forEnum1, k_forEnum2, e_forRange, e_comp, v_lt, hlt, decide_true, v_item hx (by omega), v_ne1, h93, not_false_eq_true]
        have hpre := b1_pre (c := c) (lo := lo) (hi := hi) (cl := cl) (o := o) (q := q) hx (Nat.le_trans h1 hp6)
        by_cases h45 : p[i + 1]? = some 45
        · cases hy : p[i + 2]? with
          | none =>
            have hge : p.length ≤ i + 1 + 1 := by
              rcases Nat.lt_or_ge (i + 2) p.length with h | h
              · rw [List.getElem?_eq_getElem h] at hy; cases hy
              · exact h
            rw [while_ret ht (hpre.trans (r1_end hp6 h45 hge))]
            have e : inS p c (n + 1) i = (false, p.length) := by simp only [inS, hx, h93, if_false, h45, if_true, hy]
            rw [e]
            exact ⟨_, rfl, rfl⟩
          | some y =>
            have hlt2 : i + 2 < p.length := (List.getElem?_eq_some_iff.mp hy).1
            by_cases hh : hit x y c
            · obtain ⟨cl', hR⟩ := @r2_hit p (i + 1 + 2) c x y cl o q hh
              rw [while_ret ht (hpre.trans ((r1_yes hp6 h45 hy).trans hR))]
              have e : inS p c (n + 1) i = (true, closeP p (i + 3)) := by simp only [inS, hx, h93, if_false, h45, if_true, hy, hh]
              rw [e]
              exact ⟨_, rfl, rfl⟩
            · rw [while_next ht (hpre.trans ((r1_yes hp6 h45 hy).trans (r2_no hh)))]
              have e : inS p c (n + 1) i = inS p c n (i + 3) := by simp only [inS, hx, h93, if_false, h45, if_true, hy, hh]
              rw [e]
              exact in_set_loop p c hp o q n (i + 3) _ _ _ (by omega) (by omega)
        · by_cases hh : hit x x c
          · obtain ⟨cl', hR⟩ := @r2_hit p (i + 1) c x x cl o q hh
            rw [while_ret ht (hpre.trans ((r1_no hp6 h45).trans hR))]
            have e : inS p c (n + 1) i = (true, closeP p (i + 1)) := by simp only [inS, hx, h93, if_false, h45, if_true, hh]
            rw [e]
            exact ⟨_, rfl, rfl⟩
          · rw [while_next ht (hpre.trans ((r1_no hp6 h45).trans (r2_no hh)))]
            have e : inS p c (n + 1) i = inS p c n (i + 1) := by simp only [inS, hx, h93, if_false, h45, if_true, hh]
            rw [e]
            exact in_set_loop p c hp o q n (i + 1) _ _ _ (by omega) (by omega)

theorem in_set_val (p : List Nat) (i c : Nat) (hp : p.length ≤ 90) (hi : i < p.length) (o : List Ob) (q : List Nat) :
    in_set_fn [.str p, .int (i : Int), .str [c]] q o = some (tupOf (inS p c 100 (i + 1)), o) := by
  obtain ⟨st', h, ho⟩ := in_set_loop p c (by omega) o q 100 (i + 1) none none none (by omega) (by omega)
  rw [← ho]
  unfold in_set_fn
  refine fn_ret (us := [.str p, .int (i : Int), .str [c]]) rfl ?_
  rw [ho]
  show in_set_F ⟨[some (.str p), some (.int (i : Int)), some (.str [c]), none, none, none, none], o, q⟩ = _
  have hp6 : p.length ≤ 2000 := by omega
  unfold inSt at h
  unfold in_set_R at h
  simp only [in_set_F, get_0, set_0, get_1, set_1, get_2, set_2, get_3, set_3, get_4, set_4, get_5, set_5, get_6, set_6, get_7, set_7, get_8, set_8, get_9, set_9, e_kV, e_kB, e_nilS, e_noneO, e_nextF, e_bin, k_bin1, k_bin2, e_cmpV, k_cmpV1, k_cmpV2, k_cmpV3, e_cmpB, k_cmpB1, k_cmpB2, k_cmpB3, e_notB, k_notB, e_andB, k_andB1, k_andB0, e_orB, k_orB1, k_orB0, e_truB, k_truB1, k_truB2, k_truth, e_negV, k_neg, e_andV, k_andV1, k_andV0, e_orV, k_orV1, k_orV0, e_iteV, k_ite1, k_ite0, e_cons, k_cons1, k_cons2, e_tup, k_tup1, k_tup2, k_tup3, e_lst, k_lst0, k_lst1, k_lst2, e_opt, k_opt, e_slc, k_slc1, k_slc2, k_slc3, k_slc4, e_chain, k_ch1, k_ch2, k_ch3t, k_ch3f, k_ch4, k_ch5, e_dict0, e_callB, k_callB, e_meth, k_meth1, k_meth2, k_meth3, k_isStr, e_call, k_call1, k_call2, e_seq, k_seqN, k_seqR, e_ret, k_ret, e_asg, k_asg1, k_asg2, e_aug, k_aug1, k_aug2, k_aug3, e_if, k_if1, k_if0, e_expr, k_expr, e_sub, k_sub1, k_sub2, k_sub3, k_untup2, k_untup3, e_sets0, e_sets, k_sets, e_set2, k_set2, e_forStr, k_forStr, e_pin, k_pin, e_forDict, k_forDict1, k_forDict2, e_forList, k_forList1, k_forList2, e_forEnum, k_forEnum1, k_forEnum2, e_forRange, e_comp, v_len hp6, v_add1] at h ⊢
  exact h
end NP
end

section
set_option maxHeartbeats 1000000
set_option backward.defeqAttrib.useBackward true
namespace NP

/-- what stood stands; more may have been made -/
noncomputable def Keeps (o o' : List Ob) : Prop := o.length ≤ o'.length ∧ ∀ i, i < o.length → o'[i]? = o[i]?
theorem Keeps.refl (o : List Ob) : Keeps o o := ⟨Nat.le_refl _, fun _ _ => rfl⟩
theorem Keeps.trans {a b c : List Ob} (h : Keeps a b) (h' : Keeps b c) : Keeps a c := ⟨Nat.le_trans h.1 h'.1, fun i hi => (h'.2 i (Nat.lt_of_lt_of_le hi h.1)).trans (h.2 i hi)⟩
theorem Keeps.app {o o' : List Ob} (h : Keeps o o') (l : List Ob) : Keeps o (o' ++ l) := ⟨by rw [List.length_append]; have := h.1; omega, fun i hi => by rw [List.getElem?_append_left (Nat.lt_of_lt_of_le hi h.1)]; exact h.2 i hi⟩
theorem Keeps.set {o o' : List Ob} (h : Keeps o o') {m : Nat} (hm : o.length ≤ m) (x : Ob) : Keeps o (o'.set m x) := ⟨by rw [List.length_set]; exact h.1, fun i hi => by rw [List.getElem?_set_ne (by omega)]; exact h.2 i hi⟩
theorem Keeps.get {o o' : List Ob} (h : Keeps o o') {i : Nat} {x : Ob} (e : o[i]? = some x) : o'[i]? = some x := by
  have : i < o.length := (List.getElem?_eq_some_iff.mp e).1
  rw [h.2 i this]; exact e
theorem get_app {α : Type} {l r : List α} {i : Nat} {x : α} (e : l[i]? = some x) : (l ++ r)[i]? = some x := by rw [List.getElem?_append_left (place_lt e)]; exact e
theorem get_new {α : Type} {l : List α} {x : α} : (l ++ [x])[l.length]? = some x := by simp
theorem get_set {α : Type} {l : List α} {i : Nat} {x y : α} (e : l[i]? = some y) : (l.set i x)[i]? = some x := by rw [List.getElem?_set_self (place_lt e)]

section
variable {e : List (Option V)} {o : List Ob} {q : List Nat} {n a b c i j : Nat} {vs : List V} {v : V} {st : St} {l : List Nat}
theorem v_min1 (h : o[n]? = some (.list [.str [a]])) : minF [.loc n] ⟨e, o, q⟩ = some (.str [a], ⟨e, o, q⟩) := by simp [minF, minO, oneO, locO, strsOf, listAt, h]
theorem v_max1 (h : o[n]? = some (.list [.str [a]])) : maxF [.loc n] ⟨e, o, q⟩ = some (.str [a], ⟨e, o, q⟩) := by simp [maxF, maxO, oneO, locO, strsOf, listAt, h]
theorem v_min2 (h : o[n]? = some (.list [.str [a], .str [b]])) : minF [.loc n] ⟨e, o, q⟩ = some (.str [min a b], ⟨e, o, q⟩) := by
  have : (if [b] < [a] then [b] else [a]) = [min a b] := by
    by_cases hlt : b < a
    · rw [if_pos (List.cons_lt_cons_iff.mpr (.inl hlt)), Nat.min_eq_right (by omega)]
    · rw [if_neg (fun h => by rcases List.cons_lt_cons_iff.mp h with h | h; exact hlt h; exact absurd h.2 (by simp)), Nat.min_eq_left (by omega)]
  simp only [minF, minO, oneO, locO, strsOf, listAt, h, Option.bind_some, Option.map_some, this]
theorem v_max2 (h : o[n]? = some (.list [.str [a], .str [b]])) : maxF [.loc n] ⟨e, o, q⟩ = some (.str [max a b], ⟨e, o, q⟩) := by
  have : (if [a] < [b] then [b] else [a]) = [max a b] := by
    by_cases hlt : a < b
    · rw [if_pos (List.cons_lt_cons_iff.mpr (.inl hlt)), Nat.max_eq_right (by omega)]
    · rw [if_neg (fun h => by rcases List.cons_lt_cons_iff.mp h with h | h; exact hlt h; exact absurd h.2 (by simp)), Nat.max_eq_left (by omega)]
  simp only [maxF, maxO, oneO, locO, strsOf, listAt, h, Option.bind_some, Option.map_some, this]
theorem v_mini : minF [.int (a : Int), .int (b : Int)] st = some (.int ((min a b : Nat) : Int), st) := by
  show some (V.int (if (b : Int) < (a : Int) then (b : Int) else (a : Int)), st) = _
  have : (if (b : Int) < (a : Int) then (b : Int) else (a : Int)) = ((min a b : Nat) : Int) := by split <;> omega
  rw [this]
theorem v_isLst (h : o[n]? = some (.list vs)) : isLst (.loc n) ⟨e, o, q⟩ = true := by simp [isLst, listAt, h]
theorem v_app (h : o[n]? = some (.list vs)) (hl : vs.length ≤ 2000) (hq : n ∉ q) : appF [.loc n, v] ⟨e, o, q⟩ = some (.none, ⟨e, o.set n (.list (vs ++ [v])), q⟩) := by simp [appF, twoO, locO, listAt, h, hl, hq]
theorem v_ins (h : o[n]? = some (.list vs)) (hl : vs.length ≤ 2000) (hq : n ∉ q) : insF [.loc n, .int 0, v] ⟨e, o, q⟩ = some (.none, ⟨e, o.set n (.list (v :: vs)), q⟩) := by simp [insF, thrO, locO, intO, listAt, h, hl, hq]
theorem v_index (h : idxAt l [c] i = some j) : indexF [.str l, .str [c], .int (i : Int)] st = some (.int (j : Int), st) := by
  show (idxAt l [c] (fromIndex l.length (i : Int))).map _ = _
  rw [fromIndex_nat, h]; rfl
theorem v_adds (h : l.length + 1 ≤ 2000) : addF2 (.str l) (.str [c]) st = some (.str (l ++ [c]), st) := by
  show (if l.length + 1 ≤ 2000 then _ else _) = _
  rw [if_pos h]
end

noncomputable def memV (m : Nat × Nat × Nat) : V := .tup [.str [m.1], .str [m.2.1], .int (m.2.2 : Int)]
/-- a set's members, read ahead, and the place behind the set -/
noncomputable def mems (p : List Nat) : Nat → Nat → List (Nat × Nat × Nat) × Nat
  | 0, i => ([], min (i + 1) p.length)
  | f + 1, i => match p[i]? with
    | none => ([], min (i + 1) p.length)
    | some x => if x = 93 then ([], min (i + 1) p.length) else
      if p[i + 1]? = some 45 then
        match p[i + 2]? with
        | none => ([], p.length)
        | some y => ((min x y, max x y, i + 3) :: (mems p f (i + 3)).1, (mems p f (i + 3)).2)
      else ((x, x, i + 1) :: (mems p f (i + 1)).1, (mems p f (i + 1)).2)

noncomputable def memSt (p : List Nat) (i m : Nat) (en : Option V) (o : List Ob) (q : List Nat) : St := ⟨[some (.str p), some (.int (i : Int)), some (.loc m), en], o, q⟩
noncomputable def memR : ES1 := (seqF (retF (tupF (consF (getF 2) (consF (callB (consF (bin (getF 1) (kV (.int 1)) addF2) (consF (callB (consF (getF 0) nilS) lenF) nilS)) minF) nilS))))
    nextF)
noncomputable def memA : ES1 := (seqF (exprF (methB (getF 2) isLst (consF (tupF (consF (callB (consF (getF 3) nilS) minF) (consF (callB (consF (getF 3) nilS) maxF) (consF (getF 1) nilS)))) nilS) appF))
    nextF)
noncomputable def memB : ES1 := (seqF (ifF (cmpB (slcF (getF 0) (optF (bin (getF 1) (kV (.int 1)) addF2)) (optF (bin (getF 1) (kV (.int 2)) addF2)) noneO) (kV (.str [45])) neF) (seqF (asgF (tupF (consF (lstF (consF (bin (getF 0) (getF 1) itemF) nilS)) (consF (bin (getF 1) (kV (.int 1)) addF2) nilS))) (set2r 3 1))
    nextF) (seqF (ifF (cmpB (bin (getF 1) (kV (.int 2)) addF2) (callB (consF (getF 0) nilS) lenF) ltF) (seqF (asgF (tupF (consF (lstF (consF (bin (getF 0) (getF 1) itemF) (consF (bin (getF 0) (bin (getF 1) (kV (.int 2)) addF2) itemF) nilS))) (consF (bin (getF 1) (kV (.int 3)) addF2) nilS))) (set2r 3 1))
    nextF) (seqF (retF (tupF (consF (getF 2) (consF (callB (consF (getF 0) nilS) lenF) nilS))))
    nextF))
    nextF))
    memA)
theorem memB_eq : law_members_b1 = memB := rfl

theorem v_slice' {st : St} {l : List Nat} {i : Nat} (hl : l.length ≤ 2000) : sliceF (.str l) (some (.int ((i + 1 : Nat) : Int))) (some (.int ((i + 2 : Nat) : Int))) none st = some (.str ((l.drop (i + 1)).take 1), st) := v_slice (i := i + 1) hl

section
variable {p : List Nat} {i x y a b m n : Nat} {en : Option V} {o : List Ob} {q : List Nat} {vs : List V}
theorem memA_eq (h1 : ∀ e, minF [.loc n] ⟨e, o, q⟩ = some (.str [a], ⟨e, o, q⟩)) (h2 : ∀ e, maxF [.loc n] ⟨e, o, q⟩ = some (.str [b], ⟨e, o, q⟩)) (hM : o[m]? = some (.list vs)) (hl : vs.length ≤ 2000) (hq : m ∉ q) :
    memA (memSt p i m (some (.loc n)) o q) = some (.next, memSt p i m (some (.loc n)) (o.set m (.list (vs ++ [memV (a, b, i)]))) q) := by
  simp only [memA, memSt, get_0, set_0, get_1, set_1, get_2, set_2, get_3, set_3, get_4, set_4, get_5, set_5, get_6, set_6, get_7, set_7, get_8, set_8, get_9, set_9, e_kV, e_kB, e_nilS, e_noneO, e_nextF, e_bin, k_bin1, k_bin2, e_cmpV, k_cmpV1, k_cmpV2, k_cmpV3, e_cmpB, k_cmpB1, k_cmpB2, k_cmpB3, e_notB, k_notB, e_andB, k_andB1, k_andB0, e_orB, k_orB1, k_orB0, e_truB, k_truB1, k_truB2, k_truth, e_negV, k_neg, e_andV, k_andV1, k_andV0, e_orV, k_orV1, k_orV0, e_iteV, k_ite1, k_ite0, e_cons, k_cons1, k_cons2, e_tup, k_tup1, k_tup2, k_tup3, e_lst, k_lst0, k_lst1, k_lst2, e_opt, k_opt, e_slc, k_slc1, k_slc2, k_slc3, k_slc4, e_chain, k_ch1, k_ch2, k_ch3t, k_ch3f, k_ch4, k_ch5, e_dict0, e_callB, k_callB, e_meth, k_meth1, k_meth2, k_meth3, k_isStr, e_call, k_call1, k_call2, e_seq, k_seqN, k_seqR, e_ret, k_ret, e_asg, k_asg1, k_asg2, e_aug, k_aug1, k_aug2, k_aug3, e_if, k_if1, k_if0, e_expr, k_expr, e_sub, k_sub1, k_sub2, k_sub3, k_untup2, k_untup3, e_sets0, e_sets, k_sets, e_set2, k_set2, e_forStr, k_forStr, e_pin, k_pin, e_forDict, k_forDict1, k_forDict2, e_forList, k_forList1, k_forList2, e_forEnum, k_forEnum1, k_forEnum2, e_forRange, e_comp, h1, h2, v_isLst hM, v_app hM hl hq, memV]
theorem mb_no (hp6 : p.length ≤ 2000) (hi6 : i ≤ 2000) (hx : p[i]? = some x) (h : ¬ p[i + 1]? = some 45) : memB (memSt p i m en o q) = memA (memSt p (i + 1) m (some (.loc o.length)) (o ++ [Ob.list [.str [x]]]) q) := by
  simp only [memB, memSt, get_0, set_0, get_1, set_1, get_2, set_2, get_3, set_3, get_4, set_4, get_5, set_5, get_6, set_6, get_7, set_7, get_8, set_8, get_9, set_9, e_kV, e_kB, e_nilS, e_noneO, e_nextF, e_bin, k_bin1, k_bin2, e_cmpV, k_cmpV1, k_cmpV2, k_cmpV3, e_cmpB, k_cmpB1, k_cmpB2, k_cmpB3, e_notB, k_notB, e_andB, k_andB1, k_andB0, e_orB, k_orB1, k_orB0, e_truB, k_truB1, k_truB2, k_truth, e_negV, k_neg, e_andV, k_andV1, k_andV0, e_orV, k_orV1, k_orV0, e_iteV, k_ite1, k_ite0, e_cons, k_cons1, k_cons2, e_tup, k_tup1, k_tup2, k_tup3, e_lst, k_lst0, k_lst1, k_lst2, e_opt, k_opt, e_slc, k_slc1, k_slc2, k_slc3, k_slc4, e_chain, k_ch1, k_ch2, k_ch3t, k_ch3f, k_ch4, k_ch5, e_dict0, e_callB, k_callB, e_meth, k_meth1, k_meth2, k_meth3, k_isStr, e_call, k_call1, k_call2, e_seq, k_seqN, k_seqR, e_ret, k_ret, e_asg, k_asg1, k_asg2, e_aug, k_aug1, k_aug2, k_aug3, e_if, k_if1, k_if0, e_expr, k_expr, e_sub, k_sub1, k_sub2, k_sub3, k_untup2, k_untup3, e_sets0, e_sets, k_sets, e_set2, k_set2, e_forStr, k_forStr, e_pin, k_pin, e_forDict, k_forDict1, k_forDict2, e_forList, k_forList1, k_forList2, e_forEnum, k_forEnum1, k_forEnum2, e_forRange, e_comp, v_add2_1, v_add2_2, v_slice' hp6, v_nes, h, not_false_eq_true, decide_true, v_item hx hi6]
theorem mb_end (hp6 : p.length ≤ 2000) (h : p[i + 1]? = some 45) (hge : ¬ i + 2 < p.length) : memB (memSt p i m en o q) = some (.ret (.tup [.loc m, .int (p.length : Int)]), memSt p i m en o q) := by
  simp only [memB, memSt, get_0, set_0, get_1, set_1, get_2, set_2, get_3, set_3, get_4, set_4, get_5, set_5, get_6, set_6, get_7, set_7, get_8, set_8, get_9, set_9, e_kV, e_kB, e_nilS, e_noneO, e_nextF, e_bin, k_bin1, k_bin2, e_cmpV, k_cmpV1, k_cmpV2, k_cmpV3, e_cmpB, k_cmpB1, k_cmpB2, k_cmpB3, e_notB, k_notB, e_andB, k_andB1, k_andB0, e_orB, k_orB1, k_orB0, e_truB, k_truB1, k_truB2, k_truth, e_negV, k_neg, e_andV, k_andV1, k_andV0, e_orV, k_orV1, k_orV0, e_iteV, k_ite1, k_ite0, e_cons, k_cons1, k_cons2, e_tup, k_tup1, k_tup2, k_tup3, e_lst, k_lst0, k_lst1, k_lst2, e_opt, k_opt, e_slc, k_slc1, k_slc2, k_slc3, k_slc4, e_chain, k_ch1, k_ch2, k_ch3t, k_ch3f, k_ch4, k_ch5, e_dict0, e_callB, k_callB, e_meth, k_meth1, k_meth2, k_meth3, k_isStr, e_call, k_call1, k_call2, e_seq, k_seqN, k_seqR, e_ret, k_ret, e_asg, k_asg1, k_asg2, e_aug, k_aug1, k_aug2, k_aug3, e_if, k_if1, k_if0, e_expr, k_expr, e_sub, k_sub1, k_sub2, k_sub3, k_untup2, k_untup3, e_sets0, e_sets, k_sets, e_set2, k_set2, e_forStr, k_forStr, e_pin, k_pin, e_forDict, k_forDict1, k_forDict2, e_forList, k_forList1, k_forList2, e_forEnum, k_forEnum1, k_forEnum2, e_forRange, e_comp, v_add2_1, v_add2_2, v_slice' hp6, v_nes, h, not_true, decide_false, v_len hp6, v_lt, hge]
theorem mb_yes (hp6 : p.length ≤ 2000) (hx : p[i]? = some x) (h : p[i + 1]? = some 45) (hy : p[i + 2]? = some y) : memB (memSt p i m en o q) = memA (memSt p (i + 3) m (some (.loc o.length)) (o ++ [Ob.list [.str [x], .str [y]]]) q) := by
  have hlt : i + 2 < p.length := place_lt hy
  simp only [memB, memSt, get_0, set_0, get_1, set_1, get_2, set_2, get_3, set_3, get_4, set_4, get_5, set_5, get_6, set_6, get_7, set_7, get_8, set_8, get_9, set_9, e_kV, e_kB, e_nilS, e_noneO, e_nextF, e_bin, k_bin1, k_bin2, e_cmpV, k_cmpV1, k_cmpV2, k_cmpV3, e_cmpB, k_cmpB1, k_cmpB2, k_cmpB3, e_notB, k_notB, e_andB, k_andB1, k_andB0, e_orB, k_orB1, k_orB0, e_truB, k_truB1, k_truB2, k_truth, e_negV, k_neg, e_andV, k_andV1, k_andV0, e_orV, k_orV1, k_orV0, e_iteV, k_ite1, k_ite0, e_cons, k_cons1, k_cons2, e_tup, k_tup1, k_tup2, k_tup3, e_lst, k_lst0, k_lst1, k_lst2, e_opt, k_opt, e_slc, k_slc1, k_slc2, k_slc3, k_slc4, e_chain, k_ch1, k_ch2, k_ch3t, k_ch3f, k_ch4, k_ch5, e_dict0, e_callB, k_callB, e_meth, k_meth1, k_meth2, k_meth3, k_isStr, e_call, k_call1, k_call2, e_seq, k_seqN, k_seqR, e_ret, k_ret, e_asg, k_asg1, k_asg2, e_aug, k_aug1, k_aug2, k_aug3, e_if, k_if1, k_if0, e_expr, k_expr, e_sub, k_sub1, k_sub2, k_sub3, k_untup2, k_untup3, e_sets0, e_sets, k_sets, e_set2, k_set2, e_forStr, k_forStr, e_pin, k_pin, e_forDict, k_forDict1, k_forDict2, e_forList, k_forList1, k_forList2, e_forEnum, k_forEnum1, k_forEnum2, e_forRange, e_comp, v_add2_1, v_add2_2, v_add2_3, v_slice' hp6, v_nes, h, not_true, decide_false, v_len hp6, v_lt, hlt, decide_true, v_item hx (Nat.le_trans (Nat.le_of_lt (place_lt hx)) hp6), v_item hy (Nat.le_trans (Nat.le_of_lt hlt) hp6)]
end

theorem mem_loop (p : List Nat) (hp : p.length ≤ 1000) (q : List Nat) (o : List Ob) (hq : o.length ∉ q) : ∀ (n i : Nat) (en : Option V) (o' : List Ob) (acc : List (Nat × Nat × Nat)), i ≤ p.length → p.length < i + n → acc.length ≤ i → Keeps o o' → o'[o.length]? = some (.list (acc.map memV)) →
    ∃ st', seqK memR (whileF n law_members_t1 law_members_b1 (memSt p i o.length en o' q)) = some (.ret (.tup [.loc o.length, .int ((mems p n i).2 : Int)]), st') ∧ Keeps o st'.obs ∧ st'.obs[o.length]? = some (.list ((acc ++ (mems p n i).1).map memV))
  | 0, i, _, _, _, h1, h2, _, _, _ => by omega
  | n + 1, i, en, o', acc, h1, h2, h3, hk, hm => by
    have hp6 : p.length ≤ 2000 := by omega
    have hacc : (acc.map memV).length ≤ 2000 := by rw [List.length_map]; omega
    cases hx : p[i]? with
    | none =>
      have hge : ¬ i < p.length := fun h => by rw [List.getElem?_eq_getElem h] at hx; cases hx
      have ht : law_members_t1 (memSt p i o.length en o' q) = some (false, memSt p i o.length en o' q) := by
        simp only [law_members_t1, memSt, get_0, set_0, get_1, set_1, get_2, set_2, get_3, set_3, get_4, set_4, get_5, set_5, get_6, set_6, get_7, set_7, get_8, set_8, get_9, set_9, e_kV, e_kB, e_nilS, e_noneO, e_nextF, e_bin, k_bin1, k_bin2, e_cmpV, k_cmpV1, k_cmpV2, k_cmpV3, e_cmpB, k_cmpB1, k_cmpB2, k_cmpB3, e_notB, k_notB, e_andB, k_andB1, k_andB0, e_orB, k_orB1, k_orB0, e_truB, k_truB1, k_truB2, k_truth, e_negV, k_neg, e_andV, k_andV1, k_andV0, e_orV, k_orV1, k_orV0, e_iteV, k_ite1, k_ite0, e_cons, k_cons1, k_cons2, e_tup, k_tup1, k_tup2, k_tup3, e_lst, k_lst0, k_lst1, k_lst2, e_opt, k_opt, e_slc, k_slc1, k_slc2, k_slc3, k_slc4, e_chain, k_ch1, k_ch2, k_ch3t, k_ch3f, k_ch4, k_ch5, e_dict0, e_callB, k_callB, e_meth, k_meth1, k_meth2, k_meth3, k_isStr, e_call, k_call1, k_call2, e_seq, k_seqN, k_seqR, e_ret, k_ret, e_asg, k_asg1, k_asg2, e_aug, k_aug1, k_aug2, k_aug3, e_if, k_if1, k_if0, e_expr, k_expr, e_sub, k_sub1, k_sub2, k_sub3, k_untup2, k_untup3, e_sets0, e_sets, k_sets, e_set2, k_set2, e_forStr, k_forStr, e_pin, k_pin, e_forDict, k_forDict1, k_forDict2, e_forList, k_forList1, k_forList2, e_forEnum, k_forEnum1, k_forEnum2, e_forRange, e_comp, v_len hp6, v_lt, hge, decide_false]
      rw [while_end ht]
      have e : mems p (n + 1) i = ([], min (i + 1) p.length) := by simp only [mems, hx]
      rw [e]
      refine ⟨memSt p i o.length en o' q, ?_, hk, by simpa [memSt] using hm⟩
      simp only [memR, memSt, get_0, set_0, get_1, set_1, get_2, set_2, get_3, set_3, get_4, set_4, get_5, set_5, get_6, set_6, get_7, set_7, get_8, set_8, get_9, set_9, e_kV, e_kB, e_nilS, e_noneO, e_nextF, e_bin, k_bin1, k_bin2, e_cmpV, k_cmpV1, k_cmpV2, k_cmpV3, e_cmpB, k_cmpB1, k_cmpB2, k_cmpB3, e_notB, k_notB, e_andB, k_andB1, k_andB0, e_orB, k_orB1, k_orB0, e_truB, k_truB1, k_truB2, k_truth, e_negV, k_neg, e_andV, k_andV1, k_andV0, e_orV, k_orV1, k_orV0, e_iteV, k_ite1, k_ite0, e_cons, k_cons1, k_cons2, e_tup, k_tup1, k_tup2, k_tup3, e_lst, k_lst0, k_lst1, k_lst2, e_opt, k_opt, e_slc, k_slc1, k_slc2, k_slc3, k_slc4, e_chain, k_ch1, k_ch2, k_ch3t, k_ch3f, k_ch4, k_ch5, e_dict0, e_callB, k_callB, e_meth, k_meth1, k_meth2, k_meth3, k_isStr, e_call, k_call1, k_call2, e_seq, k_seqN, k_seqR, e_ret, k_ret, e_asg, k_asg1, k_asg2, e_aug, k_aug1, k_aug2, k_aug3, e_if, k_if1, k_if0, e_expr, k_expr, e_sub, k_sub1, k_sub2, k_sub3, k_untup2, k_untup3, e_sets0, e_sets, k_sets, e_set2, k_set2, e_forStr, k_forStr, e_pin, k_pin, e_forDict, k_forDict1, k_forDict2, e_forList, k_forList1, k_forList2, e_forEnum, k_forEnum1, k_forEnum2, e_forRange, e_comp, v_add2_1, v_len hp6, v_mini]
    | some x =>
      have hlt : i < p.length := place_lt hx
      by_cases h93 : x = 93
      · have ht : law_members_t1 (memSt p i o.length en o' q) = some (false, memSt p i o.length en o' q) := by
          simp only [law_members_t1, memSt, get_0, set_0, get_1, set_1, get_2, set_2, get_3, set_3, get_4, set_4, get_5, set_5, get_6, set_6, get_7, set_7, get_8, set_8, get_9, set_9, e_kV, e_kB, e_nilS, e_noneO, e_nextF, e_bin, k_bin1, k_bin2, e_cmpV, k_cmpV1, k_cmpV2, k_cmpV3, e_cmpB, k_cmpB1, k_cmpB2, k_cmpB3, e_notB, k_notB, e_andB, k_andB1, k_andB0, e_orB, k_orB1, k_orB0, e_truB, k_truB1, k_truB2, k_truth, e_negV, k_neg, e_andV, k_andV1, k_andV0, e_orV, k_orV1, k_orV0, e_iteV, k_ite1, k_ite0, e_cons, k_cons1, k_cons2, e_tup, k_tup1, k_tup2, k_tup3, e_lst, k_lst0, k_lst1, k_lst2, e_opt, k_opt, e_slc, k_slc1, k_slc2, k_slc3, k_slc4, e_chain, k_ch1, k_ch2, k_ch3t, k_ch3f, k_ch4, k_ch5, e_dict0, e_callB, k_callB, e_meth, k_meth1, k_meth2, k_meth3, k_isStr, e_call, k_call1, k_call2, e_seq, k_seqN, k_seqR, e_ret, k_ret, e_asg, k_asg1, k_asg2, e_aug, k_aug1, k_aug2, k_aug3, e_if, k_if1, k_if0, e_expr, k_expr, e_sub, k_sub1, k_sub2, k_sub3, k_untup2, k_untup3, e_sets0, e_sets, k_sets, e_set2, k_set2, e_forStr, k_forStr, e_pin, k_pin, e_forDict, k_forDict1, k_forDict2, e_forList, k_forList1, k_forList2, e_forEnum, k_forEnum1, k_forEnum2, e_forRange, e_comp, v_len hp6, v_lt, hlt, decide_true, v_item hx (by omega), v_ne1, h93, not_true, decide_false]
        rw [while_end ht]
        have e : mems p (n + 1) i = ([], min (i + 1) p.length) := by simp only [mems, hx, h93, if_true]
        rw [e]
        refine ⟨memSt p i o.length en o' q, ?_, hk, by simpa [memSt] using hm⟩
        simp only [memR, memSt, get_0, set_0, get_1, set_1, get_2, set_2, get_3, set_3, get_4, set_4, get_5, set_5, get_6, set_6, get_7, set_7, get_8, set_8, get_9, set_9, e_kV, e_kB, e_nilS, e_noneO, e_nextF, e_bin, k_bin1, k_bin2, e_cmpV, k_cmpV1, k_cmpV2, k_cmpV3, e_cmpB, k_cmpB1, k_cmpB2, k_cmpB3, e_notB, k_notB, e_andB, k_andB1, k_andB0, e_orB, k_orB1, k_orB0, e_truB, k_truB1, k_truB2, k_truth, e_negV, k_neg, e_andV, k_andV1, k_andV0, e_orV, k_orV1, k_orV0, e_iteV, k_ite1, k_ite0, e_cons, k_cons1, k_cons2, e_tup, k_tup1, k_tup2, k_tup3, e_lst, k_lst0, k_lst1, k_lst2, e_opt, k_opt, e_slc, k_slc1, k_slc2, k_slc3, k_slc4, e_chain, k_ch1, k_ch2, k_ch3t, k_ch3f, k_ch4, k_ch5, e_dict0, e_callB, k_callB, e_meth, k_meth1, k_meth2, k_meth3, k_isStr, e_call, k_call1, k_call2, e_seq, k_seqN, k_seqR, e_ret, k_ret, e_asg, k_asg1, k_asg2, e_aug, k_aug1, k_aug2, k_aug3, e_if, k_if1, k_if0, e_expr, k_expr, e_sub, k_sub1, k_sub2, k_sub3, k_untup2, k_untup3, e_sets0, e_sets, k_sets, e_set2, k_set2, e_forStr, k_forStr, e_pin, k_pin, e_forDict, k_forDict1, k_forDict2, e_forList, k_forList1, k_forList2, e_forEnum, k_forEnum1, k_forEnum2, e_forRange, e_comp, v_add2_1, v_len hp6, v_mini]
      · have ht : law_members_t1 (memSt p i o.length en o' q) = some (true, memSt p i o.length en o' q) := by
          simp only [law_members_t1, memSt, get_0, set_0, get_1, set_1, get_2, set_2, get_3, set_3, get_4, set_4, get_5, set_5, get_6, set_6, get_7, set_7, get_8, set_8, get_9, set_9, e_kV, e_kB, e_nilS, e_noneO, e_nextF, e_bin, k_bin1, k_bin2, e_cmpV, k_cmpV1, k_cmpV2, k_cmpV3, e_cmpB, k_cmpB1, k_cmpB2, k_cmpB3, e_notB, k_notB, e_andB, k_andB1, k_andB0, e_orB, k_orB1, k_orB0, e_truB, k_truB1, k_truB2, k_truth, e_negV, k_neg, e_andV, k_andV1, k_andV0, e_orV, k_orV1, k_orV0, e_iteV, k_ite1, k_ite0, e_cons, k_cons1, k_cons2, e_tup, k_tup1, k_tup2, k_tup3, e_lst, k_lst0, k_lst1, k_lst2, e_opt, k_opt, e_slc, k_slc1, k_slc2, k_slc3, k_slc4, e_chain, k_ch1, k_ch2, k_ch3t, k_ch3f, k_ch4, k_ch5, e_dict0, e_callB, k_callB, e_meth, k_meth1, k_meth2, k_meth3, k_isStr, e_call, k_call1, k_call2, e_seq, k_seqN, k_seqR, e_ret, k_ret, e_asg, k_asg1, k_asg2, e_aug, k_aug1, k_aug2, k_aug3, e_if, k_if1, k_if0, e_expr, k_expr, e_sub, k_sub1, k_sub2, k_sub3, k_untup2, k_untup3, e_sets0, e_sets, k_sets, e_set2, k_set2, e_forStr, k_forStr, e_pin, k_pin, e_forDict, k_forDict1, k_forDict2, e_forList, k_forList1, k_forList2, e_forEnum, k_forEnum1, k_forEnum2, e_forRange, e_comp, v_len hp6, v_lt, hlt, decide_true, v_item hx (by omega), v_ne1, h93, not_false_eq_true]
        by_cases h45 : p[i + 1]? = some 45
        · cases hy : p[i + 2]? with
          | none =>
            have hge : ¬ i + 2 < p.length := fun h => by rw [List.getElem?_eq_getElem h] at hy; cases hy
            have hb : law_members_b1 _ = _ := memB_eq ▸ mb_end (m := o.length) (en := en) (o := o') (q := q) hp6 h45 hge
            rw [while_ret ht hb]
            have e : mems p (n + 1) i = ([], p.length) := by simp only [mems, hx, h93, if_false, h45, if_true, hy]
            rw [e]
            exact ⟨_, rfl, hk, by simpa [memSt] using hm⟩
          | some y =>
            have hlt2 : i + 2 < p.length := place_lt hy
            have hL : (o' ++ [Ob.list [.str [x], .str [y]]])[o'.length]? = some (.list [.str [x], .str [y]]) := get_new
            have hM : (o' ++ [Ob.list [.str [x], .str [y]]])[o.length]? = some (.list (acc.map memV)) := get_app hm
            have hb : law_members_b1 _ = _ := memB_eq ▸ (mb_yes (m := o.length) (en := en) (o := o') (q := q) hp6 hx h45 hy).trans (memA_eq (fun _ => v_min2 hL) (fun _ => v_max2 hL) hM hacc hq)
            rw [show acc.map memV ++ [memV (min x y, max x y, i + 3)] = (acc ++ [(min x y, max x y, i + 3)]).map memV by simp] at hb
            rw [while_next ht hb]
            have e : mems p (n + 1) i = ((min x y, max x y, i + 3) :: (mems p n (i + 3)).1, (mems p n (i + 3)).2) := by simp only [mems, hx, h93, if_false, h45, if_true, hy]
            rw [e]
            obtain ⟨st', r1, r2, r3⟩ := mem_loop p hp q o hq n (i + 3) (some (.loc o'.length)) _ (acc ++ [(min x y, max x y, i + 3)]) (by omega) (by omega) (by rw [List.length_append]; simp; omega) ((hk.app _).set (Nat.le_refl _) _) (get_set hM)
            exact ⟨st', r1, r2, by rw [r3]; simp⟩
        · have hL : (o' ++ [Ob.list [.str [x]]])[o'.length]? = some (.list [.str [x]]) := get_new
          have hM : (o' ++ [Ob.list [.str [x]]])[o.length]? = some (.list (acc.map memV)) := get_app hm
          have hb : law_members_b1 _ = _ := memB_eq ▸ (mb_no (m := o.length) (en := en) (o := o') (q := q) hp6 (Nat.le_trans h1 hp6) hx h45).trans (memA_eq (fun _ => v_min1 hL) (fun _ => v_max1 hL) hM hacc hq)
          rw [show acc.map memV ++ [memV (x, x, i + 1)] = (acc ++ [(x, x, i + 1)]).map memV by simp] at hb
          rw [while_next ht hb]
          have e : mems p (n + 1) i = ((x, x, i + 1) :: (mems p n (i + 1)).1, (mems p n (i + 1)).2) := by simp only [mems, hx, h93, if_false, h45]
          rw [e]
          obtain ⟨st', r1, r2, r3⟩ := mem_loop p hp q o hq n (i + 1) (some (.loc o'.length)) _ (acc ++ [(x, x, i + 1)]) (by omega) (by omega) (by rw [List.length_append]; simp; omega) ((hk.app _).set (Nat.le_refl _) _) (get_set hM)
          exact ⟨st', r1, r2, by rw [r3]; simp⟩

theorem members_val (p : List Nat) (i : Nat) (hp : p.length ≤ 90) (hi : i < p.length) (o : List Ob) (q : List Nat) (hq : o.length ∉ q) :
    ∃ o', law_members_fn [.str p, .int (i : Int)] q o = some (.tup [.loc o.length, .int ((mems p 100 (i + 1)).2 : Int)], o') ∧ Keeps o o' ∧ o'[o.length]? = some (.list ((mems p 100 (i + 1)).1.map memV)) := by
  obtain ⟨st', h, hk, hm⟩ := mem_loop p (by omega) q o hq 100 (i + 1) none (o ++ [.list []]) [] (by omega) (by omega) (by simp) ((Keeps.refl o).app _) get_new
  refine ⟨st'.obs, ?_, hk, by simpa using hm⟩
  unfold law_members_fn
  refine fn_ret (us := [.str p, .int (i : Int)]) rfl ?_
  show law_members_F ⟨[some (.str p), some (.int (i : Int)), none, none], o, q⟩ = _
  unfold memSt at h
  unfold memR at h
  simp only [law_members_F, get_0, set_0, get_1, set_1, get_2, set_2, get_3, set_3, get_4, set_4, get_5, set_5, get_6, set_6, get_7, set_7, get_8, set_8, get_9, set_9, e_kV, e_kB, e_nilS, e_noneO, e_nextF, e_bin, k_bin1, k_bin2, e_cmpV, k_cmpV1, k_cmpV2, k_cmpV3, e_cmpB, k_cmpB1, k_cmpB2, k_cmpB3, e_notB, k_notB, e_andB, k_andB1, k_andB0, e_orB, k_orB1, k_orB0, e_truB, k_truB1, k_truB2, k_truth, e_negV, k_neg, e_andV, k_andV1, k_andV0, e_orV, k_orV1, k_orV0, e_iteV, k_ite1, k_ite0, e_cons, k_cons1, k_cons2, e_tup, k_tup1, k_tup2, k_tup3, e_lst, k_lst0, k_lst1, k_lst2, e_opt, k_opt, e_slc, k_slc1, k_slc2, k_slc3, k_slc4, e_chain, k_ch1, k_ch2, k_ch3t, k_ch3f, k_ch4, k_ch5, e_dict0, e_callB, k_callB, e_meth, k_meth1, k_meth2, k_meth3, k_isStr, e_call, k_call1, k_call2, e_seq, k_seqN, k_seqR, e_ret, k_ret, e_asg, k_asg1, k_asg2, e_aug, k_aug1, k_aug2, k_aug3, e_if, k_if1, k_if0, e_expr, k_expr, e_sub, k_sub1, k_sub2, k_sub3, k_untup2, k_untup3, e_sets0, e_sets, k_sets, e_set2, k_set2, e_forStr, k_forStr, e_pin, k_pin, e_forDict, k_forDict1, k_forDict2, e_forList, k_forList1, k_forList2, e_forEnum, k_forEnum1, k_forEnum2, e_forRange, e_comp, v_add2_1] at h ⊢
  exact h

-- the set's answer by its members
noncomputable def setP (p : List Nat) (ms : List (Nat × Nat × Nat)) (en c : Nat) : Bool × Nat := match ms.find? (fun m => decide (m.1 ≤ c ∧ c ≤ m.2.1)) with
  | some m => (true, closeP p m.2.2)
  | none => (false, en)
noncomputable def setSt (p : List Nat) (m en c : Nat) (a b d : Option V) (o : List Ob) (q : List Nat) : St := ⟨[some (.str p), some (.loc m), some (.int (en : Int)), some (.str [c]), a, b, d], o, q⟩
theorem set_loop (p : List Nat) (hp : p.length ≤ 1000) (m en c : Nat) (o : List Ob) (q : List Nat) : ∀ (ms : List (Nat × Nat × Nat)) (a b d : Option V), (∀ r ∈ ms, r.2.2 ≤ p.length) →
    ∃ a' b' d', forF (untupF 3 (setsF [4, 5, 6])) law_set_b1 (ms.map memV) (setSt p m en c a b d o q) = match ms.find? (fun m => decide (m.1 ≤ c ∧ c ≤ m.2.1)) with
      | some r => some (.ret (tupOf (true, closeP p r.2.2)), setSt p m en c a' b' d' o q)
      | none => some (.next, setSt p m en c a' b' d' o q)
  | [], a, b, d, _ => ⟨a, b, d, rfl⟩
  | r :: ms, a, b, d, h => by
    have hp6 : p.length ≤ 2000 := by omega
    have hs : untupF 3 (setsF [4, 5, 6]) (memV r) (setSt p m en c a b d o q) = some (setSt p m en c (some (.str [r.1])) (some (.str [r.2.1])) (some (.int (r.2.2 : Int))) o q) := by
      simp only [memV, setSt, get_0, set_0, get_1, set_1, get_2, set_2, get_3, set_3, get_4, set_4, get_5, set_5, get_6, set_6, get_7, set_7, get_8, set_8, get_9, set_9, e_kV, e_kB, e_nilS, e_noneO, e_nextF, e_bin, k_bin1, k_bin2, e_cmpV, k_cmpV1, k_cmpV2, k_cmpV3, e_cmpB, k_cmpB1, k_cmpB2, k_cmpB3, e_notB, k_notB, e_andB, k_andB1, k_andB0, e_orB, k_orB1, k_orB0, e_truB, k_truB1, k_truB2, k_truth, e_negV, k_neg, e_andV, k_andV1, k_andV0, e_orV, k_orV1, k_orV0, e_iteV, k_ite1, k_ite0, e_cons, k_cons1, k_cons2, e_tup, k_tup1, k_tup2, k_tup3, e_lst, k_lst0, k_lst1, k_lst2, e_opt, k_opt, e_slc, k_slc1, k_slc2, k_slc3, k_slc4, e_chain, k_ch1, k_ch2, k_ch3t, k_ch3f, k_ch4, k_ch5, e_dict0, e_callB, k_callB, e_meth, k_meth1, k_meth2, k_meth3, k_isStr, e_call, k_call1, k_call2, e_seq, k_seqN, k_seqR, e_ret, k_ret, e_asg, k_asg1, k_asg2, e_aug, k_aug1, k_aug2, k_aug3, e_if, k_if1, k_if0, e_expr, k_expr, e_sub, k_sub1, k_sub2, k_sub3, k_untup2, k_untup3, e_sets0, e_sets, k_sets, e_set2, k_set2, e_forStr, k_forStr, e_pin, k_pin, e_forDict, k_forDict1, k_forDict2, e_forList, k_forList1, k_forList2, e_forEnum, k_forEnum1, k_forEnum2, e_forRange, e_comp]
    by_cases hh : r.1 ≤ c ∧ c ≤ r.2.1
    · obtain ⟨j, hj, hjm⟩ := idx_app p r.2.2 (h r (.head _))
      have hb : law_set_b1 (setSt p m en c (some (.str [r.1])) (some (.str [r.2.1])) (some (.int (r.2.2 : Int))) o q) = some (.ret (tupOf (true, closeP p r.2.2)), setSt p m en c (some (.str [r.1])) (some (.str [r.2.1])) (some (.int (r.2.2 : Int))) o q) := by
        simp only [law_set_b1, setSt, get_0, set_0, get_1, set_1, get_2, set_2, get_3, set_3, get_4, set_4, get_5, set_5, get_6, set_6, get_7, set_7, get_8, set_8, get_9, set_9, e_kV, e_kB, e_nilS, e_noneO, e_nextF, e_bin, k_bin1, k_bin2, e_cmpV, k_cmpV1, k_cmpV2, k_cmpV3, e_cmpB, k_cmpB1, k_cmpB2, k_cmpB3, e_notB, k_notB, e_andB, k_andB1, k_andB0, e_orB, k_orB1, k_orB0, e_truB, k_truB1, k_truB2, k_truth, e_negV, k_neg, e_andV, k_andV1, k_andV0, e_orV, k_orV1, k_orV0, e_iteV, k_ite1, k_ite0, e_cons, k_cons1, k_cons2, e_tup, k_tup1, k_tup2, k_tup3, e_lst, k_lst0, k_lst1, k_lst2, e_opt, k_opt, e_slc, k_slc1, k_slc2, k_slc3, k_slc4, e_chain, k_ch1, k_ch2, k_ch3t, k_ch3f, k_ch4, k_ch5, e_dict0, e_callB, k_callB, e_meth, k_meth1, k_meth2, k_meth3, k_isStr, e_call, k_call1, k_call2, e_seq, k_seqN, k_seqR, e_ret, k_ret, e_asg, k_asg1, k_asg2, e_aug, k_aug1, k_aug2, k_aug3, e_if, k_if1, k_if0, e_expr, k_expr, e_sub, k_sub1, k_sub2, k_sub3, k_untup2, k_untup3, e_sets0, e_sets, k_sets, e_set2, k_set2, e_forStr, k_forStr, e_pin, k_pin, e_forDict, k_forDict1, k_forDict2, e_forList, k_forList1, k_forList2, e_forEnum, k_forEnum1, k_forEnum2, e_forRange, e_comp, v_le1, hh.1, hh.2, decide_true, v_adds (show p.length + 1 ≤ 2000 by omega), v_index hj, v_add2_1, v_len hp6, v_mini, hjm, tupOf]
      refine ⟨some (.str [r.1]), some (.str [r.2.1]), some (.int (r.2.2 : Int)), ?_⟩
      rw [List.map_cons, for_ret hs hb]
      have : (r :: ms).find? (fun m => decide (m.1 ≤ c ∧ c ≤ m.2.1)) = some r := by rw [List.find?_cons]; simp [hh]
      rw [this]
    · have hb : law_set_b1 (setSt p m en c (some (.str [r.1])) (some (.str [r.2.1])) (some (.int (r.2.2 : Int))) o q) = some (.next, setSt p m en c (some (.str [r.1])) (some (.str [r.2.1])) (some (.int (r.2.2 : Int))) o q) := by
        by_cases h1 : r.1 ≤ c
        · have h2 : ¬ c ≤ r.2.1 := fun h2 => hh ⟨h1, h2⟩
          simp only [law_set_b1, setSt, get_0, set_0, get_1, set_1, get_2, set_2, get_3, set_3, get_4, set_4, get_5, set_5, get_6, set_6, get_7, set_7, get_8, set_8, get_9, set_9, e_kV, e_kB, e_nilS, e_noneO, e_nextF, e_bin, k_bin1, k_bin2, e_cmpV, k_cmpV1, k_cmpV2, k_cmpV3, e_cmpB, k_cmpB1, k_cmpB2, k_cmpB3, e_notB, k_notB, e_andB, k_andB1, k_andB0, e_orB, k_orB1, k_orB0, e_truB, k_truB1, k_truB2, k_truth, e_negV, k_neg, e_andV, k_andV1, k_andV0, e_orV, k_orV1, k_orV0, e_iteV, k_ite1, k_ite0, e_cons, k_cons1, k_cons2, e_tup, k_tup1, k_tup2, k_tup3, e_lst, k_lst0, k_lst1, k_lst2, e_opt, k_opt, e_slc, k_slc1, k_slc2, k_slc3, k_slc4, e_chain, k_ch1, k_ch2, k_ch3t, k_ch3f, k_ch4, k_ch5, e_dict0, e_callB, k_callB, e_meth, k_meth1, k_meth2, k_meth3, k_isStr, e_call, k_call1, k_call2, e_seq, k_seqN, k_seqR, e_ret, k_ret, e_asg, k_asg1, k_asg2, e_aug, k_aug1, k_aug2, k_aug3, e_if, k_if1, k_if0, e_expr, k_expr, e_sub, k_sub1, k_sub2, k_sub3, k_untup2, k_untup3, e_sets0, e_sets, k_sets, e_set2, k_set2, e_forStr, k_forStr, e_pin, k_pin, e_forDict, k_forDict1, k_forDict2, e_forList, k_forList1, k_forList2, e_forEnum, k_forEnum1, k_forEnum2, e_forRange, e_comp, v_le1, h1, h2, decide_true, decide_false]
        · simp only [law_set_b1, setSt, get_0, set_0, get_1, set_1, get_2, set_2, get_3, set_3, get_4, set_4, get_5, set_5, get_6, set_6, get_7, set_7, get_8, set_8, get_9, set_9, e_kV, e_kB, e_nilS, e_noneO, e_nextF, e_bin, k_bin1, k_bin2, e_cmpV, k_cmpV1, k_cmpV2, k_cmpV3, e_cmpB, k_cmpB1, k_cmpB2, k_cmpB3, e_notB, k_notB, e_andB, k_andB1, k_andB0, e_orB, k_orB1, k_orB0, e_truB, k_truB1, k_truB2, k_truth, e_negV, k_neg, e_andV, k_andV1, k_andV0, e_orV, k_orV1, k_orV0, e_iteV, k_ite1, k_ite0, e_cons, k_cons1, k_cons2, e_tup, k_tup1, k_tup2, k_tup3, e_lst, k_lst0, k_lst1, k_lst2, e_opt, k_opt, e_slc, k_slc1, k_slc2, k_slc3, k_slc4, e_chain, k_ch1, k_ch2, k_ch3t, k_ch3f, k_ch4, k_ch5, e_dict0, e_callB, k_callB, e_meth, k_meth1, k_meth2, k_meth3, k_isStr, e_call, k_call1, k_call2, e_seq, k_seqN, k_seqR, e_ret, k_ret, e_asg, k_asg1, k_asg2, e_aug, k_aug1, k_aug2, k_aug3, e_if, k_if1, k_if0, e_expr, k_expr, e_sub, k_sub1, k_sub2, k_sub3, k_untup2, k_untup3, e_sets0, e_sets, k_sets, e_set2, k_set2, e_forStr, k_forStr, e_pin, k_pin, e_forDict, k_forDict1, k_forDict2, e_forList, k_forList1, k_forList2, e_forEnum, k_forEnum1, k_forEnum2, e_forRange, e_comp, v_le1, h1, decide_false]
      obtain ⟨a', b', d', ih⟩ := set_loop p hp m en c o q ms (some (.str [r.1])) (some (.str [r.2.1])) (some (.int (r.2.2 : Int))) fun r hr => h r (.tail _ hr)
      refine ⟨a', b', d', ?_⟩
      rw [List.map_cons, for_next hs hb, ih]
      have : (r :: ms).find? (fun m => decide (m.1 ≤ c ∧ c ≤ m.2.1)) = ms.find? (fun m => decide (m.1 ≤ c ∧ c ≤ m.2.1)) := by rw [List.find?_cons]; simp [hh]
      rw [this]
theorem set_val (p : List Nat) (hp : p.length ≤ 1000) (m en c : Nat) (ms : List (Nat × Nat × Nat)) (o : List Ob) (q : List Nat) (hm : o[m]? = some (.list (ms.map memV))) (h : ∀ r ∈ ms, r.2.2 ≤ p.length) :
    law_set_fn [.str p, .loc m, .int (en : Int), .str [c]] q o = some (tupOf (setP p ms en c), o) := by
  obtain ⟨a', b', d', hl⟩ := set_loop p hp m en c o (m :: q) ms none none none h
  unfold law_set_fn
  unfold setSt at hl
  unfold setP
  cases e : ms.find? (fun m => decide (m.1 ≤ c ∧ c ≤ m.2.1)) with
  | some r =>
    rw [e] at hl
    refine fn_ret (us := [.str p, .loc m, .int (en : Int), .str [c]]) (st := setSt p m en c a' b' d' o q) rfl ?_
    show law_set_F ⟨[some (.str p), some (.loc m), some (.int (en : Int)), some (.str [c]), none, none, none], o, q⟩ = _
    simp only [law_set_F, get_0, set_0, get_1, set_1, get_2, set_2, get_3, set_3, get_4, set_4, get_5, set_5, get_6, set_6, get_7, set_7, get_8, set_8, get_9, set_9, e_kV, e_kB, e_nilS, e_noneO, e_nextF, e_bin, k_bin1, k_bin2, e_cmpV, k_cmpV1, k_cmpV2, k_cmpV3, e_cmpB, k_cmpB1, k_cmpB2, k_cmpB3, e_notB, k_notB, e_andB, k_andB1, k_andB0, e_orB, k_orB1, k_orB0, e_truB, k_truB1, k_truB2, k_truth, e_negV, k_neg, e_andV, k_andV1, k_andV0, e_orV, k_orV1, k_orV0, e_iteV, k_ite1, k_ite0, e_cons, k_cons1, k_cons2, e_tup, k_tup1, k_tup2, k_tup3, e_lst, k_lst0, k_lst1, k_lst2, e_opt, k_opt, e_slc, k_slc1, k_slc2, k_slc3, k_slc4, e_chain, k_ch1, k_ch2, k_ch3t, k_ch3f, k_ch4, k_ch5, e_dict0, e_callB, k_callB, e_meth, k_meth1, k_meth2, k_meth3, k_isStr, e_call, k_call1, k_call2, e_seq, k_seqN, k_seqR, e_ret, k_ret, e_asg, k_asg1, k_asg2, e_aug, k_aug1, k_aug2, k_aug3, e_if, k_if1, k_if0, e_expr, k_expr, e_sub, k_sub1, k_sub2, k_sub3, k_untup2, k_untup3, e_sets0, e_sets, k_sets, e_set2, k_set2, e_forStr, k_forStr, e_pin, k_pin, e_forDict, k_forDict1, k_forDict2, e_forList, k_forList1, k_forList2, e_forEnum, k_forEnum1, k_forEnum2, e_forRange, e_comp, hm, hl, setSt]
  | none =>
    rw [e] at hl
    refine fn_ret (us := [.str p, .loc m, .int (en : Int), .str [c]]) (st := setSt p m en c a' b' d' o q) rfl ?_
    show law_set_F ⟨[some (.str p), some (.loc m), some (.int (en : Int)), some (.str [c]), none, none, none], o, q⟩ = _
    simp only [law_set_F, get_0, set_0, get_1, set_1, get_2, set_2, get_3, set_3, get_4, set_4, get_5, set_5, get_6, set_6, get_7, set_7, get_8, set_8, get_9, set_9, e_kV, e_kB, e_nilS, e_noneO, e_nextF, e_bin, k_bin1, k_bin2, e_cmpV, k_cmpV1, k_cmpV2, k_cmpV3, e_cmpB, k_cmpB1, k_cmpB2, k_cmpB3, e_notB, k_notB, e_andB, k_andB1, k_andB0, e_orB, k_orB1, k_orB0, e_truB, k_truB1, k_truB2, k_truth, e_negV, k_neg, e_andV, k_andV1, k_andV0, e_orV, k_orV1, k_orV0, e_iteV, k_ite1, k_ite0, e_cons, k_cons1, k_cons2, e_tup, k_tup1, k_tup2, k_tup3, e_lst, k_lst0, k_lst1, k_lst2, e_opt, k_opt, e_slc, k_slc1, k_slc2, k_slc3, k_slc4, e_chain, k_ch1, k_ch2, k_ch3t, k_ch3f, k_ch4, k_ch5, e_dict0, e_callB, k_callB, e_meth, k_meth1, k_meth2, k_meth3, k_isStr, e_call, k_call1, k_call2, e_seq, k_seqN, k_seqR, e_ret, k_ret, e_asg, k_asg1, k_asg2, e_aug, k_aug1, k_aug2, k_aug3, e_if, k_if1, k_if0, e_expr, k_expr, e_sub, k_sub1, k_sub2, k_sub3, k_untup2, k_untup3, e_sets0, e_sets, k_sets, e_set2, k_set2, e_forStr, k_forStr, e_pin, k_pin, e_forDict, k_forDict1, k_forDict2, e_forList, k_forList1, k_forList2, e_forEnum, k_forEnum1, k_forEnum2, e_forRange, e_comp, hm, hl, setSt, tupOf]

theorem mems_le (p : List Nat) : ∀ n i, ∀ r ∈ (mems p n i).1, r.2.2 ≤ p.length
  | 0, i, r, h => by simp [mems] at h
  | n + 1, i, r, h => by
    unfold mems at h
    split at h
    · cases h
    · rename_i x hx
      have hlt : i < p.length := place_lt hx
      split at h
      · cases h
      · split at h
        · split at h
          · cases h
          · rename_i y hy
            have hlt2 : i + 2 < p.length := place_lt hy
            rcases List.mem_cons.mp h with rfl | h
            · exact hlt2
            · exact mems_le p n _ r h
        · rcases List.mem_cons.mp h with rfl | h
          · exact hlt
          · exact mems_le p n _ r h
theorem hit_iff (x y c : Nat) : hit x y c ↔ min x y ≤ c ∧ c ≤ max x y := by
  unfold hit
  rcases Nat.le_total x y with h | h
  · rw [Nat.min_eq_left h, Nat.max_eq_right h]
    exact ⟨fun k => k.elim id fun k => ⟨Nat.le_trans h k.1, Nat.le_trans k.2 h⟩, .inl⟩
  · rw [Nat.min_eq_right h, Nat.max_eq_left h]
    exact ⟨fun k => k.elim (fun k => ⟨Nat.le_trans h k.1, Nat.le_trans k.2 h⟩) id, .inr⟩
/-- the two readings of a set agree -/
theorem inS_eq (p : List Nat) (c : Nat) : ∀ n i, i ≤ p.length → p.length < i + n → inS p c n i = setP p (mems p n i).1 (mems p n i).2 c
  | 0, i, h1, h2 => by omega
  | n + 1, i, h1, h2 => by
    unfold inS mems
    cases hx : p[i]? with
    | none =>
      have hge : ¬ i < p.length := fun h => by rw [List.getElem?_eq_getElem h] at hx; cases hx
      have : min (i + 1) p.length = p.length := by omega
      simp [setP, this]
    | some x =>
      have hlt : i < p.length := place_lt hx
      by_cases h93 : x = 93
      · have : min (i + 1) p.length = i + 1 := by omega
        simp [setP, h93, this]
      · by_cases h45 : p[i + 1]? = some 45
        · cases hy : p[i + 2]? with
          | none => simp [setP, h93, h45]
          | some y =>
            have hlt2 : i + 2 < p.length := place_lt hy
            have ih := inS_eq p c n (i + 3) (by omega) (by omega)
            by_cases hh : hit x y c
            · simp [setP, h93, h45, hh, (hit_iff x y c).mp hh]
            · have hh' : ¬ (min x y ≤ c ∧ c ≤ max x y) := fun h => hh ((hit_iff x y c).mpr h)
              simp only [h93, if_false, h45, if_true, hh, ih, setP, List.find?_cons, hh', decide_false]
        · have ih := inS_eq p c n (i + 1) (by omega) (by omega)
          have hxx : hit x x c ↔ (x ≤ c ∧ c ≤ x) := by unfold hit; omega
          by_cases hh : hit x x c
          · simp [setP, h93, h45, hh, hxx.mp hh]
          · have hh' : ¬ (x ≤ c ∧ c ≤ x) := fun h => hh (hxx.mpr h)
            simp only [h93, if_false, h45, hh, ih, setP, List.find?_cons, hh', decide_false]
theorem inS_le (p : List Nat) (c : Nat) : ∀ n i, i ≤ p.length → p.length < i + n → i ≤ (inS p c n i).2 ∧ (inS p c n i).2 ≤ p.length
  | 0, i, h1, h2 => by omega
  | n + 1, i, h1, h2 => by
    unfold inS
    cases hx : p[i]? with
    | none => exact ⟨h1, Nat.le_refl _⟩
    | some x =>
      have hlt : i < p.length := place_lt hx
      by_cases h93 : x = 93
      · simp [h93]; omega
      · by_cases h45 : p[i + 1]? = some 45
        · cases hy : p[i + 2]? with
          | none => simp [h93, h45]; omega
          | some y =>
            have hlt2 : i + 2 < p.length := place_lt hy
            have ih := inS_le p c n (i + 3) (by omega) (by omega)
            by_cases hh : hit x y c
            · have a := closeP_ge p (i + 3) (by omega)
              have b := closeP_le p (i + 3)
              simp only [h93, if_false, h45, if_true, hh]; omega
            · simp only [h93, if_false, h45, if_true, hh]; omega
        · have ih := inS_le p c n (i + 1) (by omega) (by omega)
          by_cases hh : hit x x c
          · have a := closeP_ge p (i + 1) (by omega)
            have b := closeP_le p (i + 1)
            simp only [h93, if_false, h45, hh, if_true]; omega
          · simp only [h93, if_false, h45, hh]; omega
end NP
end

section
set_option maxHeartbeats 1000000
set_option backward.defeqAttrib.useBackward true
namespace NP

theorem v_call {e : List (Option V)} {q : List Nat} {df : List V → List Nat → List Ob → Option (V × List Ob)} {vs : List V} {o : List Ob} {r : Option (V × List Ob)} (h : df vs q o = r) : callK1 df (some (vs, ⟨e, o, q⟩)) = callK2 e q r := by rw [← h]; rfl

/-- one sign taken at a place: is it, and the place behind -/
noncomputable def onT (p : List Nat) (i c : Nat) : Bool × Nat := match p[i]? with
  | none => (false, i)
  | some x => if x = 91 then inS p c 100 (i + 1) else if x = 92 then (decide (p[i + 1]? = some c), i + 2) else (decide (x = 63 ∨ x = c), i + 1)

noncomputable def behI (r : Bool × Nat) : Int := if r.1 then (r.2 : Int) else -1

noncomputable def behT : ES1 := (seqF (ifF (cmpB (slcF (getF 0) (optF (getF 1)) (optF (bin (getF 1) (kV (.int 1)) addF2)) noneO) (getF 2) eqF2) (seqF (retF (bin (getF 1) (kV (.int 1)) addF2))
    nextF) nextF)
    (seqF (retF (negV (kV (.int 1))))
    nextF))
noncomputable def behS (p : List Nat) (i c : Nat) (a b : Option V) (o : List Ob) (q : List Nat) : St := ⟨[some (.str p), some (.int (i : Int)), some (.str [c]), a, b], o, q⟩
theorem behT_eq {p : List Nat} {i c : Nat} {a b : Option V} {o : List Ob} {q : List Nat} (hp6 : p.length ≤ 2000) : behT (behS p i c a b o q) = some (.ret (.int (behI (decide (p[i]? = some c), i + 1))), behS p i c a b o q) := by
  by_cases h : p[i]? = some c
  · simp only [behT, behS, get_0, set_0, get_1, set_1, get_2, set_2, get_3, set_3, get_4, set_4, get_5, set_5, get_6, set_6, get_7, set_7, get_8, set_8, get_9, set_9, e_kV, e_kB, e_nilS, e_noneO, e_nextF, e_bin, k_bin1, k_bin2, e_cmpV, k_cmpV1, k_cmpV2, k_cmpV3, e_cmpB, k_cmpB1, k_cmpB2, k_cmpB3, e_notB, k_notB, e_andB, k_andB1, k_andB0, e_orB, k_orB1, k_orB0, e_truB, k_truB1, k_truB2, k_truth, e_negV, k_neg, e_andV, k_andV1, k_andV0, e_orV, k_orV1, k_orV0, e_iteV, k_ite1, k_ite0, e_cons, k_cons1, k_cons2, e_tup, k_tup1, k_tup2, k_tup3, e_lst, k_lst0, k_lst1, k_lst2, e_opt, k_opt, e_slc, k_slc1, k_slc2, k_slc3, k_slc4, e_chain, k_ch1, k_ch2, k_ch3t, k_ch3f, k_ch4, k_ch5, e_dict0, e_callB, k_callB, e_meth, k_meth1, k_meth2, k_meth3, k_isStr, e_call, k_call1, k_call2, e_seq, k_seqN, k_seqR, e_ret, k_ret, e_asg, k_asg1, k_asg2, e_aug, k_aug1, k_aug2, k_aug3, e_if, k_if1, k_if0, e_expr, k_expr, e_sub, k_sub1, k_sub2, k_sub3, k_untup2, k_untup3, e_sets0, e_sets, k_sets, e_set2, k_set2, e_forStr, k_forStr, e_pin, k_pin, e_forDict, k_forDict1, k_forDict2, e_forList, k_forList1, k_forList2, e_forEnum, k_forEnum1, k_forEnum2, e_forRange, e_comp, v_add2_1, v_slice hp6, v_eqs, h, decide_true, behI, if_true]
  · simp only [behT, behS, get_0, set_0, get_1, set_1, get_2, set_2, get_3, set_3, get_4, set_4, get_5, set_5, get_6, set_6, get_7, set_7, get_8, set_8, get_9, set_9, e_kV, e_kB, e_nilS, e_noneO, e_nextF, e_bin, k_bin1, k_bin2, e_cmpV, k_cmpV1, k_cmpV2, k_cmpV3, e_cmpB, k_cmpB1, k_cmpB2, k_cmpB3, e_notB, k_notB, e_andB, k_andB1, k_andB0, e_orB, k_orB1, k_orB0, e_truB, k_truB1, k_truB2, k_truth, e_negV, k_neg, e_andV, k_andV1, k_andV0, e_orV, k_orV1, k_orV0, e_iteV, k_ite1, k_ite0, e_cons, k_cons1, k_cons2, e_tup, k_tup1, k_tup2, k_tup3, e_lst, k_lst0, k_lst1, k_lst2, e_opt, k_opt, e_slc, k_slc1, k_slc2, k_slc3, k_slc4, e_chain, k_ch1, k_ch2, k_ch3t, k_ch3f, k_ch4, k_ch5, e_dict0, e_callB, k_callB, e_meth, k_meth1, k_meth2, k_meth3, k_isStr, e_call, k_call1, k_call2, e_seq, k_seqN, k_seqR, e_ret, k_ret, e_asg, k_asg1, k_asg2, e_aug, k_aug1, k_aug2, k_aug3, e_if, k_if1, k_if0, e_expr, k_expr, e_sub, k_sub1, k_sub2, k_sub3, k_untup2, k_untup3, e_sets0, e_sets, k_sets, e_set2, k_set2, e_forStr, k_forStr, e_pin, k_pin, e_forDict, k_forDict1, k_forDict2, e_forList, k_forList1, k_forList2, e_forEnum, k_forEnum1, k_forEnum2, e_forRange, e_comp, v_add2_1, v_slice hp6, v_eqs, h, decide_false, behI, if_false, Bool.false_eq_true]
theorem behind_run (p : List Nat) (i c : Nat) (hp : p.length ≤ 90) (hi : i < p.length) (o : List Ob) (q : List Nat) :
    ∃ j a b, behind_one_F (behS p i c none none o q) = some (.ret (.int (behI (onT p i c))), behS p j c a b o q) := by
  have hp6 : p.length ≤ 2000 := by omega
  obtain ⟨x, hx⟩ : ∃ x, p[i]? = some x := ⟨_, List.getElem?_eq_getElem hi⟩
  have hit := fun st => v_item (st := st) hx (by omega)
  by_cases h63 : x = 63
  · have e : onT p i c = (true, i + 1) := by simp [onT, hx, h63]
    refine ⟨i, none, none, ?_⟩
    simp only [behind_one_F, behS, get_0, set_0, get_1, set_1, get_2, set_2, get_3, set_3, get_4, set_4, get_5, set_5, get_6, set_6, get_7, set_7, get_8, set_8, get_9, set_9, e_kV, e_kB, e_nilS, e_noneO, e_nextF, e_bin, k_bin1, k_bin2, e_cmpV, k_cmpV1, k_cmpV2, k_cmpV3, e_cmpB, k_cmpB1, k_cmpB2, k_cmpB3, e_notB, k_notB, e_andB, k_andB1, k_andB0, e_orB, k_orB1, k_orB0, e_truB, k_truB1, k_truB2, k_truth, e_negV, k_neg, e_andV, k_andV1, k_andV0, e_orV, k_orV1, k_orV0, e_iteV, k_ite1, k_ite0, e_cons, k_cons1, k_cons2, e_tup, k_tup1, k_tup2, k_tup3, e_lst, k_lst0, k_lst1, k_lst2, e_opt, k_opt, e_slc, k_slc1, k_slc2, k_slc3, k_slc4, e_chain, k_ch1, k_ch2, k_ch3t, k_ch3f, k_ch4, k_ch5, e_dict0, e_callB, k_callB, e_meth, k_meth1, k_meth2, k_meth3, k_isStr, e_call, k_call1, k_call2, e_seq, k_seqN, k_seqR, e_ret, k_ret, e_asg, k_asg1, k_asg2, e_aug, k_aug1, k_aug2, k_aug3, e_if, k_if1, k_if0, e_expr, k_expr, e_sub, k_sub1, k_sub2, k_sub3, k_untup2, k_untup3, e_sets0, e_sets, k_sets, e_set2, k_set2, e_forStr, k_forStr, e_pin, k_pin, e_forDict, k_forDict1, k_forDict2, e_forList, k_forList1, k_forList2, e_forEnum, k_forEnum1, k_forEnum2, e_forRange, e_comp, hit, v_eq1, h63, decide_true, v_add2_1, e, behI, if_true]
  · by_cases h91 : x = 91
    · have e : onT p i c = inS p c 100 (i + 1) := by simp [onT, hx, h91]
      have hv := in_set_val p i c hp hi o q
      refine ⟨i, some (.bool (inS p c 100 (i + 1)).1), some (.int ((inS p c 100 (i + 1)).2 : Int)), ?_⟩
      have h63' : ¬ (91 : Nat) = 63 := by decide
      cases hb : (inS p c 100 (i + 1)).1 <;> simp only [behind_one_F, behS, get_0, set_0, get_1, set_1, get_2, set_2, get_3, set_3, get_4, set_4, get_5, set_5, get_6, set_6, get_7, set_7, get_8, set_8, get_9, set_9, e_kV, e_kB, e_nilS, e_noneO, e_nextF, e_bin, k_bin1, k_bin2, e_cmpV, k_cmpV1, k_cmpV2, k_cmpV3, e_cmpB, k_cmpB1, k_cmpB2, k_cmpB3, e_notB, k_notB, e_andB, k_andB1, k_andB0, e_orB, k_orB1, k_orB0, e_truB, k_truB1, k_truB2, k_truth, e_negV, k_neg, e_andV, k_andV1, k_andV0, e_orV, k_orV1, k_orV0, e_iteV, k_ite1, k_ite0, e_cons, k_cons1, k_cons2, e_tup, k_tup1, k_tup2, k_tup3, e_lst, k_lst0, k_lst1, k_lst2, e_opt, k_opt, e_slc, k_slc1, k_slc2, k_slc3, k_slc4, e_chain, k_ch1, k_ch2, k_ch3t, k_ch3f, k_ch4, k_ch5, e_dict0, e_callB, k_callB, e_meth, k_meth1, k_meth2, k_meth3, k_isStr, e_call, k_call1, k_call2, e_seq, k_seqN, k_seqR, e_ret, k_ret, e_asg, k_asg1, k_asg2, e_aug, k_aug1, k_aug2, k_aug3, e_if, k_if1, k_if0, e_expr, k_expr, e_sub, k_sub1, k_sub2, k_sub3, k_untup2, k_untup3, e_sets0, e_sets, k_sets, e_set2, k_set2, e_forStr, k_forStr, e_pin, k_pin, e_forDict, k_forDict1, k_forDict2, e_forList, k_forList1, k_forList2, e_forEnum, k_forEnum1, k_forEnum2, e_forRange, e_comp, hit, v_eq1, h91, h63', decide_true, decide_false, e, hv, tupOf, hb, behI, if_true, if_false, Bool.false_eq_true]
    · by_cases h92 : x = 92
      · have e : onT p i c = (decide (p[i + 1]? = some c), i + 2) := by simp [onT, hx, h91, h92]
        have hT := @behT_eq p (i + 1) c none none o q hp6
        refine ⟨i + 1, none, none, ?_⟩
        have h63' : ¬ (92 : Nat) = 63 := by decide
        have h91' : ¬ (92 : Nat) = 91 := by decide
        rw [e, ← hT]
        simp only [behind_one_F, behT, behS, e_seq, e_if, e_cmpB, e_bin, get_0, get_1, k_bin1, k_bin2, hit, k_cmpB1, e_kV, k_cmpB2, v_eq1, h92, h63', h91', decide_true, decide_false, k_cmpB3, k_if0, k_if1, e_nextF, k_seqN, e_aug, k_aug1, k_aug2, v_add1, k_aug3, set_1, k_asg2]
      · have e : onT p i c = (decide (p[i]? = some c), i + 1) := by
          unfold onT; rw [hx]; dsimp only; rw [if_neg h91, if_neg h92]
          have : (some x = some c) = (x = c) := propext ⟨Option.some.inj, fun e => e ▸ rfl⟩
          simp [h63]
        have hT := @behT_eq p i c none none o q hp6
        refine ⟨i, none, none, ?_⟩
        rw [e, ← hT]
        simp only [behind_one_F, behT, behS, e_seq, e_if, e_cmpB, e_bin, get_0, get_1, k_bin1, k_bin2, hit, k_cmpB1, e_kV, k_cmpB2, v_eq1, h92, h63, h91, decide_true, decide_false, k_cmpB3, k_if0, k_if1, e_nextF, k_seqN]
theorem behind_val (p : List Nat) (i c : Nat) (hp : p.length ≤ 90) (hi : i < p.length) (o : List Ob) (q : List Nat) :
    behind_one_fn [.str p, .int (i : Int), .str [c]] q o = some (.int (behI (onT p i c)), o) := by
  obtain ⟨j, a, b, h⟩ := behind_run p i c hp hi o q
  exact fn_ret (us := [.str p, .int (i : Int), .str [c]]) (st := behS p j c a b o q) rfl h

theorem one_val (p : List Nat) (i c m en : Nat) (hp : p.length ≤ 90) (hi : i < p.length) (o : List Ob) (q : List Nat)
    (h : p[i]? = some 91 → o[m]? = some (.list ((mems p 100 (i + 1)).1.map memV)) ∧ en = (mems p 100 (i + 1)).2) :
    law_one_fn [.str p, .int (i : Int), .loc m, .int (en : Int), .str [c]] q o = some (tupOf (onT p i c), o) := by
  have hp6 : p.length ≤ 2000 := by omega
  obtain ⟨x, hx⟩ : ∃ x, p[i]? = some x := ⟨_, List.getElem?_eq_getElem hi⟩
  have hit := v_item (st := ⟨[some (.str p), some (.int (i : Int)), some (.loc m), some (.int (en : Int)), some (.str [c])], o, q⟩) hx (by omega)
  unfold law_one_fn
  refine fn_ret (us := [.str p, .int (i : Int), .loc m, .int (en : Int), .str [c]]) (st := ⟨[some (.str p), some (.int (i : Int)), some (.loc m), some (.int (en : Int)), some (.str [c])], o, q⟩) rfl ?_
  show law_one_F ⟨[some (.str p), some (.int (i : Int)), some (.loc m), some (.int (en : Int)), some (.str [c])], o, q⟩ = _
  by_cases h91 : x = 91
  · have hx' : p[i]? = some 91 := by rw [hx, h91]
    obtain ⟨hm, rfl⟩ := h hx'
    have hv := set_val p (by omega) m (mems p 100 (i + 1)).2 c _ o q hm (mems_le p 100 (i + 1))
    rw [← inS_eq p c 100 (i + 1) (by omega) (by omega)] at hv
    have e : onT p i c = inS p c 100 (i + 1) := by simp [onT, hx, h91]
    simp only [law_one_F, get_0, set_0, get_1, set_1, get_2, set_2, get_3, set_3, get_4, set_4, get_5, set_5, get_6, set_6, get_7, set_7, get_8, set_8, get_9, set_9, e_kV, e_kB, e_nilS, e_noneO, e_nextF, e_bin, k_bin1, k_bin2, e_cmpV, k_cmpV1, k_cmpV2, k_cmpV3, e_cmpB, k_cmpB1, k_cmpB2, k_cmpB3, e_notB, k_notB, e_andB, k_andB1, k_andB0, e_orB, k_orB1, k_orB0, e_truB, k_truB1, k_truB2, k_truth, e_negV, k_neg, e_andV, k_andV1, k_andV0, e_orV, k_orV1, k_orV0, e_iteV, k_ite1, k_ite0, e_cons, k_cons1, k_cons2, e_tup, k_tup1, k_tup2, k_tup3, e_lst, k_lst0, k_lst1, k_lst2, e_opt, k_opt, e_slc, k_slc1, k_slc2, k_slc3, k_slc4, e_chain, k_ch1, k_ch2, k_ch3t, k_ch3f, k_ch4, k_ch5, e_dict0, e_callB, k_callB, e_meth, k_meth1, k_meth2, k_meth3, k_isStr, e_call, k_call1, k_call2, e_seq, k_seqN, k_seqR, e_ret, k_ret, e_asg, k_asg1, k_asg2, e_aug, k_aug1, k_aug2, k_aug3, e_if, k_if1, k_if0, e_expr, k_expr, e_sub, k_sub1, k_sub2, k_sub3, k_untup2, k_untup3, e_sets0, e_sets, k_sets, e_set2, k_set2, e_forStr, k_forStr, e_pin, k_pin, e_forDict, k_forDict1, k_forDict2, e_forList, k_forList1, k_forList2, e_forEnum, k_forEnum1, k_forEnum2, e_forRange, e_comp, hit, v_eq1, h91, decide_true, hv, e]
  · by_cases h92 : x = 92
    · have e : onT p i c = (decide (p[i + 1]? = some c), i + 2) := by simp [onT, hx, h91, h92]
      have h91' : ¬ (92 : Nat) = 91 := by decide
      simp only [law_one_F, get_0, set_0, get_1, set_1, get_2, set_2, get_3, set_3, get_4, set_4, get_5, set_5, get_6, set_6, get_7, set_7, get_8, set_8, get_9, set_9, e_kV, e_kB, e_nilS, e_noneO, e_nextF, e_bin, k_bin1, k_bin2, e_cmpV, k_cmpV1, k_cmpV2, k_cmpV3, e_cmpB, k_cmpB1, k_cmpB2, k_cmpB3, e_notB, k_notB, e_andB, k_andB1, k_andB0, e_orB, k_orB1, k_orB0, e_truB, k_truB1, k_truB2, k_truth, e_negV, k_neg, e_andV, k_andV1, k_andV0, e_orV, k_orV1, k_orV0, e_iteV, k_ite1, k_ite0, e_cons, k_cons1, k_cons2, e_tup, k_tup1, k_tup2, k_tup3, e_lst, k_lst0, k_lst1, k_lst2, e_opt, k_opt, e_slc, k_slc1, k_slc2, k_slc3, k_slc4, e_chain, k_ch1, k_ch2, k_ch3t, k_ch3f, k_ch4, k_ch5, e_dict0, e_callB, k_callB, e_meth, k_meth1, k_meth2, k_meth3, k_isStr, e_call, k_call1, k_call2, e_seq, k_seqN, k_seqR, e_ret, k_ret, e_asg, k_asg1, k_asg2, e_aug, k_aug1, k_aug2, k_aug3, e_if, k_if1, k_if0, e_expr, k_expr, e_sub, k_sub1, k_sub2, k_sub3, k_untup2, k_untup3, e_sets0, e_sets, k_sets, e_set2, k_set2, e_forStr, k_forStr, e_pin, k_pin, e_forDict, k_forDict1, k_forDict2, e_forList, k_forList1, k_forList2, e_forEnum, k_forEnum1, k_forEnum2, e_forRange, e_comp, hit, v_eq1, h92, h91', decide_true, decide_false, v_add2_1, v_add2_2, v_slice' hp6, v_eqs, e, tupOf]
    · have e : onT p i c = (decide (x = 63 ∨ x = c), i + 1) := by unfold onT; rw [hx]; dsimp only; rw [if_neg h91, if_neg h92]
      by_cases h63 : x = 63
      · subst h63
        have a1 : ¬ (63 : Nat) = 91 := by decide
        have a2 : ¬ (63 : Nat) = 92 := by decide
        have e2 : onT p i c = (true, i + 1) := by rw [e]; simp
        simp only [law_one_F, get_0, set_0, get_1, set_1, get_2, set_2, get_3, set_3, get_4, set_4, get_5, set_5, get_6, set_6, get_7, set_7, get_8, set_8, get_9, set_9, e_kV, e_kB, e_nilS, e_noneO, e_nextF, e_bin, k_bin1, k_bin2, e_cmpV, k_cmpV1, k_cmpV2, k_cmpV3, e_cmpB, k_cmpB1, k_cmpB2, k_cmpB3, e_notB, k_notB, e_andB, k_andB1, k_andB0, e_orB, k_orB1, k_orB0, e_truB, k_truB1, k_truB2, k_truth, e_negV, k_neg, e_andV, k_andV1, k_andV0, e_orV, k_orV1, k_orV0, e_iteV, k_ite1, k_ite0, e_cons, k_cons1, k_cons2, e_tup, k_tup1, k_tup2, k_tup3, e_lst, k_lst0, k_lst1, k_lst2, e_opt, k_opt, e_slc, k_slc1, k_slc2, k_slc3, k_slc4, e_chain, k_ch1, k_ch2, k_ch3t, k_ch3f, k_ch4, k_ch5, e_dict0, e_callB, k_callB, e_meth, k_meth1, k_meth2, k_meth3, k_isStr, e_call, k_call1, k_call2, e_seq, k_seqN, k_seqR, e_ret, k_ret, e_asg, k_asg1, k_asg2, e_aug, k_aug1, k_aug2, k_aug3, e_if, k_if1, k_if0, e_expr, k_expr, e_sub, k_sub1, k_sub2, k_sub3, k_untup2, k_untup3, e_sets0, e_sets, k_sets, e_set2, k_set2, e_forStr, k_forStr, e_pin, k_pin, e_forDict, k_forDict1, k_forDict2, e_forList, k_forList1, k_forList2, e_forEnum, k_forEnum1, k_forEnum2, e_forRange, e_comp, hit, v_eq1, a1, a2, decide_true, decide_false, v_add2_1, e2, tupOf]
      · simp only [law_one_F, get_0, set_0, get_1, set_1, get_2, set_2, get_3, set_3, get_4, set_4, get_5, set_5, get_6, set_6, get_7, set_7, get_8, set_8, get_9, set_9, e_kV, e_kB, e_nilS, e_noneO, e_nextF, e_bin, k_bin1, k_bin2, e_cmpV, k_cmpV1, k_cmpV2, k_cmpV3, e_cmpB, k_cmpB1, k_cmpB2, k_cmpB3, e_notB, k_notB, e_andB, k_andB1, k_andB0, e_orB, k_orB1, k_orB0, e_truB, k_truB1, k_truB2, k_truth, e_negV, k_neg, e_andV, k_andV1, k_andV0, e_orV, k_orV1, k_orV0, e_iteV, k_ite1, k_ite0, e_cons, k_cons1, k_cons2, e_tup, k_tup1, k_tup2, k_tup3, e_lst, k_lst0, k_lst1, k_lst2, e_opt, k_opt, e_slc, k_slc1, k_slc2, k_slc3, k_slc4, e_chain, k_ch1, k_ch2, k_ch3t, k_ch3f, k_ch4, k_ch5, e_dict0, e_callB, k_callB, e_meth, k_meth1, k_meth2, k_meth3, k_isStr, e_call, k_call1, k_call2, e_seq, k_seqN, k_seqR, e_ret, k_ret, e_asg, k_asg1, k_asg2, e_aug, k_aug1, k_aug2, k_aug3, e_if, k_if1, k_if0, e_expr, k_expr, e_sub, k_sub1, k_sub2, k_sub3, k_untup2, k_untup3, e_sets0, e_sets, k_sets, e_set2, k_set2, e_forStr, k_forStr, e_pin, k_pin, e_forDict, k_forDict1, k_forDict2, e_forList, k_forList1, k_forList2, e_forEnum, k_forEnum1, k_forEnum2, e_forRange, e_comp, hit, v_eq1, h91, h92, h63, decide_true, decide_false, v_add2_1, e, tupOf, false_or]

-- the places' dict
noncomputable def dictOf (ks : List Nat) : List (Int × V) := ks.map fun (k : Nat) => ((k : Int), V.bool true)
noncomputable def addK (ks : List Nat) (i : Nat) : List Nat := if i ∈ ks then ks else ks ++ [i]
noncomputable def putKL (p : List Nat) : Nat → Nat → List Nat → List Nat
  | 0, _, ks => ks
  | f + 1, i, ks => if p[i]? = some 42 then putKL p f (i + 1) (addK ks (i + 1)) else ks
noncomputable def putK (p : List Nat) (i : Nat) (ks : List Nat) : List Nat := putKL p 100 i (addK ks i)
structure KsOk (p ks : List Nat) : Prop where
  nd : ks.Nodup
  le : ∀ k ∈ ks, k ≤ p.length
theorem KsOk.len {p ks : List Nat} (h : KsOk p ks) : ks.length ≤ p.length + 1 := by
  have := List.Nodup.length_le_of_subset h.nd (l₂ := List.range (p.length + 1)) fun x hx => by
    rw [List.mem_range]; have := h.le x hx; omega
  simpa using this
theorem KsOk.add {p ks : List Nat} (h : KsOk p ks) {i : Nat} (hi : i ≤ p.length) : KsOk p (addK ks i) := by
  unfold addK
  split
  · exact h
  · rename_i hn
    refine ⟨?_, fun k hk => ?_⟩
    · rw [List.nodup_append]
      refine ⟨h.nd, by simp, fun a ha b hb => ?_⟩
      rw [List.mem_singleton.mp hb]
      intro e
      subst e
      exact hn ha
    · rcases List.mem_append.mp hk with hk | hk
      · exact h.le k hk
      · rw [List.mem_singleton.mp hk]; exact hi
theorem mem_add {ks : List Nat} {i x : Nat} : x ∈ addK ks i ↔ x ∈ ks ∨ x = i := by
  unfold addK
  split
  · rename_i h
    exact ⟨.inl, fun h' => h'.elim id fun e => e ▸ h⟩
  · simp
theorem dictOf_len (ks : List Nat) : (dictOf ks).length = ks.length := by simp [dictOf]
theorem dictOf_any (ks : List Nat) (i : Nat) : (dictOf ks).any (fun kv => decide (kv.1 = (i : Int))) = decide (i ∈ ks) := by
  rw [Bool.eq_iff_iff, List.any_eq_true, decide_eq_true_eq]
  constructor
  · rintro ⟨kv, hkv, he⟩
    obtain ⟨k, hk, rfl⟩ := List.mem_map.mp hkv
    have : (k : Int) = (i : Int) := of_decide_eq_true he
    have : k = i := by omega
    exact this ▸ hk
  · intro h
    exact ⟨((i : Int), .bool true), List.mem_map.mpr ⟨i, h, rfl⟩, by simp⟩
theorem dput_dictOf (ks : List Nat) (i : Nat) : dput (dictOf ks) (i : Int) (.bool true) = dictOf (addK ks i) := by
  unfold dput addK
  rw [dictOf_any]
  by_cases h : i ∈ ks
  · simp only [h, decide_true, if_true]
    unfold dictOf
    rw [List.map_map]
    refine List.map_congr_left fun k _ => ?_
    simp
  · simp only [h, decide_false, if_false, Bool.false_eq_true]
    simp [dictOf]
theorem dget_dictOf (ks : List Nat) (i : Nat) : (dget (dictOf ks) (i : Int)).isSome = decide (i ∈ ks) := by
  rw [← dictOf_any]
  unfold dget
  rw [Option.isSome_map, Bool.eq_iff_iff, List.find?_isSome, List.any_eq_true]
theorem v_in {ks : List Nat} {i n : Nat} {e : List (Option V)} {o : List Ob} {q : List Nat} (h : o[n]? = some (.dict (dictOf ks))) : inF (.int (i : Int)) (.loc n) ⟨e, o, q⟩ = some (decide (i ∈ ks)) := by
  show (match o[n]? with | some (.dict kvs) => some (dget kvs (i : Int)).isSome | _ => none) = _
  rw [h]
  dsimp only
  rw [dget_dictOf]
theorem v_putD {e : List (Option V)} {o : List Ob} {q : List Nat} {n : Nat} {ks : List Nat} {i : Nat} (h : o[n]? = some (.dict (dictOf ks))) (hl : ks.length ≤ 2000) (hq : n ∉ q) :
    putF (.loc n) (.int (i : Int)) (.bool true) ⟨e, o, q⟩ = some ⟨e, o.set n (.dict (dictOf (addK ks i))), q⟩ := by
  show (if n ∈ q then none else match o[n]? with | some (.dict kvs) => if kvs.length ≤ 2000 then some (St.mk e (o.set n (.dict (dput kvs (i : Int) (.bool true)))) q) else none | some (.list vs) => _ | none => none) = _
  rw [if_neg hq, h]
  dsimp only
  rw [dictOf_len, if_pos hl, dput_dictOf]

theorem put_loop (p : List Nat) (hp : p.length ≤ 1000) (n : Nat) (q : List Nat) (hq : n ∉ q) : ∀ (f i : Nat) (ks : List Nat) (o : List Ob), i ≤ p.length → p.length < i + f → KsOk p ks → o[n]? = some (.dict (dictOf ks)) →
    ∃ j, whileF f put_places_t1 put_places_b1 ⟨[some (.str p), some (.int (i : Int)), some (.loc n)], o, q⟩ = some (.next, ⟨[some (.str p), some (.int (j : Int)), some (.loc n)], o.set n (.dict (dictOf (putKL p f i ks))), q⟩) ∧ KsOk p (putKL p f i ks)
  | 0, i, _, _, h1, h2, _, _ => by omega
  | f + 1, i, ks, o, h1, h2, hk, hn => by
    have hp6 : p.length ≤ 2000 := by omega
    by_cases h : p[i]? = some 42
    · have hlt : i < p.length := place_lt h
      have ht : put_places_t1 ⟨[some (.str p), some (.int (i : Int)), some (.loc n)], o, q⟩ = some (true, ⟨[some (.str p), some (.int (i : Int)), some (.loc n)], o, q⟩) := by
        simp only [put_places_t1, get_0, set_0, get_1, set_1, get_2, set_2, get_3, set_3, get_4, set_4, get_5, set_5, get_6, set_6, get_7, set_7, get_8, set_8, get_9, set_9, e_kV, e_kB, e_nilS, e_noneO, e_nextF, e_bin, k_bin1, k_bin2, e_cmpV, k_cmpV1, k_cmpV2, k_cmpV3, e_cmpB, k_cmpB1, k_cmpB2, k_cmpB3, e_notB, k_notB, e_andB, k_andB1, k_andB0, e_orB, k_orB1, k_orB0, e_truB, k_truB1, k_truB2, k_truth, e_negV, k_neg, e_andV, k_andV1, k_andV0, e_orV, k_orV1, k_orV0, e_iteV, k_ite1, k_ite0, e_cons, k_cons1, k_cons2, e_tup, k_tup1, k_tup2, k_tup3, e_lst, k_lst0, k_lst1, k_lst2, e_opt, k_opt, e_slc, k_slc1, k_slc2, k_slc3, k_slc4, e_chain, k_ch1, k_ch2, k_ch3t, k_ch3f, k_ch4, k_ch5, e_dict0, e_callB, k_callB, e_meth, k_meth1, k_meth2, k_meth3, k_isStr, e_call, k_call1, k_call2, e_seq, k_seqN, k_seqR, e_ret, k_ret, e_asg, k_asg1, k_asg2, e_aug, k_aug1, k_aug2, k_aug3, e_if, k_if1, k_if0, e_expr, k_expr, e_sub, k_sub1, k_sub2, k_sub3, k_untup2, k_untup3, e_sets0, e_sets, k_sets, e_set2, k_set2, e_forStr, k_forStr, e_pin, k_pin, e_forDict, k_forDict1, k_forDict2, e_forList, k_forList1, k_forList2, e_forEnum, k_forEnum1, k_forEnum2, e_forRange, e_comp, v_add2_1, v_slice hp6, v_eqs, h, decide_true]
      have hkl := hk.len
      have hb : put_places_b1 ⟨[some (.str p), some (.int (i : Int)), some (.loc n)], o, q⟩ = some (.next, ⟨[some (.str p), some (.int ((i + 1 : Nat) : Int)), some (.loc n)], o.set n (.dict (dictOf (addK ks (i + 1)))), q⟩) := by
        simp only [put_places_b1, get_0, set_0, get_1, set_1, get_2, set_2, get_3, set_3, get_4, set_4, get_5, set_5, get_6, set_6, get_7, set_7, get_8, set_8, get_9, set_9, e_kV, e_kB, e_nilS, e_noneO, e_nextF, e_bin, k_bin1, k_bin2, e_cmpV, k_cmpV1, k_cmpV2, k_cmpV3, e_cmpB, k_cmpB1, k_cmpB2, k_cmpB3, e_notB, k_notB, e_andB, k_andB1, k_andB0, e_orB, k_orB1, k_orB0, e_truB, k_truB1, k_truB2, k_truth, e_negV, k_neg, e_andV, k_andV1, k_andV0, e_orV, k_orV1, k_orV0, e_iteV, k_ite1, k_ite0, e_cons, k_cons1, k_cons2, e_tup, k_tup1, k_tup2, k_tup3, e_lst, k_lst0, k_lst1, k_lst2, e_opt, k_opt, e_slc, k_slc1, k_slc2, k_slc3, k_slc4, e_chain, k_ch1, k_ch2, k_ch3t, k_ch3f, k_ch4, k_ch5, e_dict0, e_callB, k_callB, e_meth, k_meth1, k_meth2, k_meth3, k_isStr, e_call, k_call1, k_call2, e_seq, k_seqN, k_seqR, e_ret, k_ret, e_asg, k_asg1, k_asg2, e_aug, k_aug1, k_aug2, k_aug3, e_if, k_if1, k_if0, e_expr, k_expr, e_sub, k_sub1, k_sub2, k_sub3, k_untup2, k_untup3, e_sets0, e_sets, k_sets, e_set2, k_set2, e_forStr, k_forStr, e_pin, k_pin, e_forDict, k_forDict1, k_forDict2, e_forList, k_forList1, k_forList2, e_forEnum, k_forEnum1, k_forEnum2, e_forRange, e_comp, v_add1, v_putD hn (show ks.length ≤ 2000 by omega) hq]
      rw [while_next ht hb]
      obtain ⟨j, r1, r2⟩ := put_loop p hp n q hq f (i + 1) (addK ks (i + 1)) _ (by omega) (by omega) (hk.add (by omega)) (get_set hn)
      refine ⟨j, ?_, ?_⟩
      · rw [r1, List.set_set]
        simp only [putKL, h, if_true]
      · simp only [putKL, h, if_true]; exact r2
    · have ht : put_places_t1 ⟨[some (.str p), some (.int (i : Int)), some (.loc n)], o, q⟩ = some (false, ⟨[some (.str p), some (.int (i : Int)), some (.loc n)], o, q⟩) := by
        simp only [put_places_t1, get_0, set_0, get_1, set_1, get_2, set_2, get_3, set_3, get_4, set_4, get_5, set_5, get_6, set_6, get_7, set_7, get_8, set_8, get_9, set_9, e_kV, e_kB, e_nilS, e_noneO, e_nextF, e_bin, k_bin1, k_bin2, e_cmpV, k_cmpV1, k_cmpV2, k_cmpV3, e_cmpB, k_cmpB1, k_cmpB2, k_cmpB3, e_notB, k_notB, e_andB, k_andB1, k_andB0, e_orB, k_orB1, k_orB0, e_truB, k_truB1, k_truB2, k_truth, e_negV, k_neg, e_andV, k_andV1, k_andV0, e_orV, k_orV1, k_orV0, e_iteV, k_ite1, k_ite0, e_cons, k_cons1, k_cons2, e_tup, k_tup1, k_tup2, k_tup3, e_lst, k_lst0, k_lst1, k_lst2, e_opt, k_opt, e_slc, k_slc1, k_slc2, k_slc3, k_slc4, e_chain, k_ch1, k_ch2, k_ch3t, k_ch3f, k_ch4, k_ch5, e_dict0, e_callB, k_callB, e_meth, k_meth1, k_meth2, k_meth3, k_isStr, e_call, k_call1, k_call2, e_seq, k_seqN, k_seqR, e_ret, k_ret, e_asg, k_asg1, k_asg2, e_aug, k_aug1, k_aug2, k_aug3, e_if, k_if1, k_if0, e_expr, k_expr, e_sub, k_sub1, k_sub2, k_sub3, k_untup2, k_untup3, e_sets0, e_sets, k_sets, e_set2, k_set2, e_forStr, k_forStr, e_pin, k_pin, e_forDict, k_forDict1, k_forDict2, e_forList, k_forList1, k_forList2, e_forEnum, k_forEnum1, k_forEnum2, e_forRange, e_comp, v_add2_1, v_slice hp6, v_eqs, h, decide_false]
      refine ⟨i, ?_, ?_⟩
      · rw [while_end ht]
        simp only [putKL, h, if_false]
        have : o.set n (.dict (dictOf ks)) = o := by
          apply List.ext_getElem?
          intro k
          by_cases hkn : k = n
          · subst hkn; rw [get_set hn, hn]
          · rw [List.getElem?_set_ne (Ne.symm hkn)]
        rw [this]
      · simp only [putKL, h, if_false]; exact hk
theorem put_val (p : List Nat) (hp : p.length ≤ 90) (n i : Nat) (q : List Nat) (hq : n ∉ q) (ks : List Nat) (o : List Ob) (hi : i ≤ p.length) (hk : KsOk p ks) (hn : o[n]? = some (.dict (dictOf ks))) :
    put_places_fn [.str p, .int (i : Int), .loc n] q o = some (.none, o.set n (.dict (dictOf (putK p i ks)))) ∧ KsOk p (putK p i ks) := by
  have hkl := hk.len
  obtain ⟨j, r1, r2⟩ := put_loop p (by omega) n q hq 100 i (addK ks i) (o.set n (.dict (dictOf (addK ks i)))) hi (by omega) (hk.add hi) (get_set hn)
  refine ⟨?_, r2⟩
  unfold put_places_fn
  rw [List.set_set] at r1
  refine fn_next (us := [.str p, .int (i : Int), .loc n]) (st := ⟨[some (.str p), some (.int (j : Int)), some (.loc n)], o.set n (.dict (dictOf (putK p i ks))), q⟩) rfl ?_
  show put_places_F ⟨[some (.str p), some (.int (i : Int)), some (.loc n)], o, q⟩ = _
  simp only [put_places_F, get_0, set_0, get_1, set_1, get_2, set_2, get_3, set_3, get_4, set_4, get_5, set_5, get_6, set_6, get_7, set_7, get_8, set_8, get_9, set_9, e_kV, e_kB, e_nilS, e_noneO, e_nextF, e_bin, k_bin1, k_bin2, e_cmpV, k_cmpV1, k_cmpV2, k_cmpV3, e_cmpB, k_cmpB1, k_cmpB2, k_cmpB3, e_notB, k_notB, e_andB, k_andB1, k_andB0, e_orB, k_orB1, k_orB0, e_truB, k_truB1, k_truB2, k_truth, e_negV, k_neg, e_andV, k_andV1, k_andV0, e_orV, k_orV1, k_orV0, e_iteV, k_ite1, k_ite0, e_cons, k_cons1, k_cons2, e_tup, k_tup1, k_tup2, k_tup3, e_lst, k_lst0, k_lst1, k_lst2, e_opt, k_opt, e_slc, k_slc1, k_slc2, k_slc3, k_slc4, e_chain, k_ch1, k_ch2, k_ch3t, k_ch3f, k_ch4, k_ch5, e_dict0, e_callB, k_callB, e_meth, k_meth1, k_meth2, k_meth3, k_isStr, e_call, k_call1, k_call2, e_seq, k_seqN, k_seqR, e_ret, k_ret, e_asg, k_asg1, k_asg2, e_aug, k_aug1, k_aug2, k_aug3, e_if, k_if1, k_if0, e_expr, k_expr, e_sub, k_sub1, k_sub2, k_sub3, k_untup2, k_untup3, e_sets0, e_sets, k_sets, e_set2, k_set2, e_forStr, k_forStr, e_pin, k_pin, e_forDict, k_forDict1, k_forDict2, e_forList, k_forList1, k_forList2, e_forEnum, k_forEnum1, k_forEnum2, e_forRange, e_comp, v_putD hn (show ks.length ≤ 2000 by omega) hq, r1]
  rfl

/-- the places that are reached from a place by stars alone -/
noncomputable def Run (p : List Nat) (i x : Nat) : Prop := i ≤ x ∧ ∀ j, i ≤ j → j < x → p[j]? = some 42
theorem mem_putKL (p : List Nat) : ∀ (f i : Nat) (ks : List Nat) (x : Nat), i ≤ p.length → p.length < i + f → (x ∈ putKL p f i ks ↔ x ∈ ks ∨ (i < x ∧ Run p i x))
  | 0, i, ks, x, h1, h2 => by omega
  | f + 1, i, ks, x, h1, h2 => by
    unfold putKL
    by_cases h : p[i]? = some 42
    · have hlt : i < p.length := place_lt h
      rw [if_pos h, mem_putKL p f (i + 1) (addK ks (i + 1)) x (by omega) (by omega), mem_add]
      constructor
      · rintro ((h3 | rfl) | ⟨h3, h4⟩)
        · exact .inl h3
        · refine .inr ⟨by omega, by omega, fun j a b => ?_⟩
          have : j = i := by omega
          rw [this]; exact h
        · refine .inr ⟨by omega, by omega, fun j a b => ?_⟩
          by_cases hj : j = i
          · rw [hj]; exact h
          · exact h4.2 j (by omega) b
      · rintro (h3 | ⟨h3, h4⟩)
        · exact .inl (.inl h3)
        · by_cases hx : x = i + 1
          · exact .inl (.inr hx)
          · exact .inr ⟨by omega, by omega, fun j a b => h4.2 j (by omega) b⟩
    · rw [if_neg h]
      refine ⟨.inl, fun h3 => h3.elim id fun h3 => absurd (h3.2.2 i (Nat.le_refl _) h3.1) h⟩
theorem mem_putK (p : List Nat) (hp : p.length ≤ 90) (i : Nat) (ks : List Nat) (x : Nat) (hi : i ≤ p.length) : x ∈ putK p i ks ↔ x ∈ ks ∨ Run p i x := by
  unfold putK
  rw [mem_putKL p 100 i _ x hi (by omega), mem_add]
  constructor
  · rintro ((h | rfl) | ⟨_, h⟩)
    · exact .inl h
    · exact .inr ⟨Nat.le_refl _, fun j a b => by omega⟩
    · exact .inr h
  · rintro (h | h)
    · exact .inl (.inl h)
    · rcases Nat.lt_or_ge i x with hx | hx
      · exact .inr ⟨hx, h⟩
      · exact .inl (.inr (by have := h.1; omega))

-- lower case
noncomputable def lowL (t : List Nat) : List Nat := (t.map lowF).flatten
theorem lowF_len (c : Nat) : (lowF c).length = 1 := by
  unfold lowF
  split
  · assumption
  · rfl
theorem lowL_len (t : List Nat) : (lowL t).length = t.length := by
  unfold lowL
  rw [List.length_flatten, List.map_map]
  induction t with
  | nil => rfl
  | cons c t ih => simp only [List.map_cons, List.sum_cons, List.length_cons, Function.comp, lowF_len, ih]; omega
theorem lowC_len (c : Nat) : (lowC c).length ≤ 3 := by
  have := PyProof.Rows.len_lower (sv [c])
  have e : (lowC c).length = (Txt.lower (sv [c])).length := by simp [lowC, PySem.Str.length]
  rw [e]
  exact this
theorem folded_loop : ∀ (t made : List Nat) (a b : Option V) (t0 : V) (o : List Ob) (q : List Nat), made.length + t.length ≤ 1000 →
    ∃ a' b', forF (setF 2) folded_b1 (t.map fun c => .str [c]) ⟨[some t0, some (.str made), a, b], o, q⟩ = some (.next, ⟨[some t0, some (.str (made ++ lowL t)), a', b'], o, q⟩)
  | [], made, a, b, t0, o, q, h => ⟨a, b, by simp [lowL, forF]⟩
  | c :: t, made, a, b, t0, o, q, h => by
    simp only [List.length_cons] at h
    have hs : setF 2 (.str [c]) ⟨[some t0, some (.str made), a, b], o, q⟩ = some ⟨[some t0, some (.str made), some (.str [c]), b], o, q⟩ := rfl
    have hl := lowC_len c
    have h1 : ∀ st, lowerF [.str [c]] st = some (.str (lowC c), st) := fun st => rfl
    have hb : folded_b1 ⟨[some t0, some (.str made), some (.str [c]), b], o, q⟩ = some (.next, ⟨[some t0, some (.str (made ++ lowF c)), some (.str [c]), some (.str (lowC c))], o, q⟩) := by
      by_cases h2 : (lowC c).length = 1
      · have e : lowF c = lowC c := by simp [lowF, h2]
        have h3 : ∀ st, eqF2 (.int ((lowC c).length : Int)) (.int 1) st = some true := fun st => by rw [h2]; rfl
        have h4 : ∀ st, addF (.str made) (.str (lowC c)) st = some (.str (made ++ lowC c), st) := fun st => by
          show (if made.length + (lowC c).length ≤ 2000 then _ else _) = _
          rw [if_pos (by omega)]
        simp only [folded_b1, get_0, set_0, get_1, set_1, get_2, set_2, get_3, set_3, get_4, set_4, get_5, set_5, get_6, set_6, get_7, set_7, get_8, set_8, get_9, set_9, e_kV, e_kB, e_nilS, e_noneO, e_nextF, e_bin, k_bin1, k_bin2, e_cmpV, k_cmpV1, k_cmpV2, k_cmpV3, e_cmpB, k_cmpB1, k_cmpB2, k_cmpB3, e_notB, k_notB, e_andB, k_andB1, k_andB0, e_orB, k_orB1, k_orB0, e_truB, k_truB1, k_truB2, k_truth, e_negV, k_neg, e_andV, k_andV1, k_andV0, e_orV, k_orV1, k_orV0, e_iteV, k_ite1, k_ite0, e_cons, k_cons1, k_cons2, e_tup, k_tup1, k_tup2, k_tup3, e_lst, k_lst0, k_lst1, k_lst2, e_opt, k_opt, e_slc, k_slc1, k_slc2, k_slc3, k_slc4, e_chain, k_ch1, k_ch2, k_ch3t, k_ch3f, k_ch4, k_ch5, e_dict0, e_callB, k_callB, e_meth, k_meth1, k_meth2, k_meth3, k_isStr, e_call, k_call1, k_call2, e_seq, k_seqN, k_seqR, e_ret, k_ret, e_asg, k_asg1, k_asg2, e_aug, k_aug1, k_aug2, k_aug3, e_if, k_if1, k_if0, e_expr, k_expr, e_sub, k_sub1, k_sub2, k_sub3, k_untup2, k_untup3, e_sets0, e_sets, k_sets, e_set2, k_set2, e_forStr, k_forStr, e_pin, k_pin, e_forDict, k_forDict1, k_forDict2, e_forList, k_forList1, k_forList2, e_forEnum, k_forEnum1, k_forEnum2, e_forRange, e_comp, h1, v_len (show (lowC c).length ≤ 2000 by omega), h3, h4, e]
      · have e : lowF c = [c] := by simp [lowF, h2]
        have h3 : ∀ st, eqF2 (.int ((lowC c).length : Int)) (.int 1) st = some false := fun st => by
          rw [v_eqi]
          congr 1
          exact decide_eq_false (by omega)
        have h4 : ∀ st, addF (.str made) (.str [c]) st = some (.str (made ++ [c]), st) := fun st => by
          show (if made.length + 1 ≤ 2000 then _ else _) = _
          rw [if_pos (by omega)]
        simp only [folded_b1, get_0, set_0, get_1, set_1, get_2, set_2, get_3, set_3, get_4, set_4, get_5, set_5, get_6, set_6, get_7, set_7, get_8, set_8, get_9, set_9, e_kV, e_kB, e_nilS, e_noneO, e_nextF, e_bin, k_bin1, k_bin2, e_cmpV, k_cmpV1, k_cmpV2, k_cmpV3, e_cmpB, k_cmpB1, k_cmpB2, k_cmpB3, e_notB, k_notB, e_andB, k_andB1, k_andB0, e_orB, k_orB1, k_orB0, e_truB, k_truB1, k_truB2, k_truth, e_negV, k_neg, e_andV, k_andV1, k_andV0, e_orV, k_orV1, k_orV0, e_iteV, k_ite1, k_ite0, e_cons, k_cons1, k_cons2, e_tup, k_tup1, k_tup2, k_tup3, e_lst, k_lst0, k_lst1, k_lst2, e_opt, k_opt, e_slc, k_slc1, k_slc2, k_slc3, k_slc4, e_chain, k_ch1, k_ch2, k_ch3t, k_ch3f, k_ch4, k_ch5, e_dict0, e_callB, k_callB, e_meth, k_meth1, k_meth2, k_meth3, k_isStr, e_call, k_call1, k_call2, e_seq, k_seqN, k_seqR, e_ret, k_ret, e_asg, k_asg1, k_asg2, e_aug, k_aug1, k_aug2, k_aug3, e_if, k_if1, k_if0, e_expr, k_expr, e_sub, k_sub1, k_sub2, k_sub3, k_untup2, k_untup3, e_sets0, e_sets, k_sets, e_set2, k_set2, e_forStr, k_forStr, e_pin, k_pin, e_forDict, k_forDict1, k_forDict2, e_forList, k_forList1, k_forList2, e_forEnum, k_forEnum1, k_forEnum2, e_forRange, e_comp, h1, v_len (show (lowC c).length ≤ 2000 by omega), h3, h4, e]
    have hf := lowF_len c
    obtain ⟨a', b', ih⟩ := folded_loop t (made ++ lowF c) (some (.str [c])) (some (.str (lowC c))) t0 o q (by rw [List.length_append]; omega)
    refine ⟨a', b', ?_⟩
    rw [List.map_cons, for_next hs hb, ih]
    simp [lowL]
theorem folded_val (t : List Nat) (ht : t.length ≤ 1000) (o : List Ob) (q : List Nat) : folded_fn [.str t] q o = some (.str (lowL t), o) := by
  obtain ⟨a', b', h⟩ := folded_loop t [] none none (.str t) o q (by simpa using ht)
  unfold folded_fn
  refine fn_ret (us := [.str t]) (st := ⟨[some (.str t), some (.str (lowL t)), a', b'], o, q⟩) rfl ?_
  show folded_F ⟨[some (.str t), none, none, none], o, q⟩ = _
  simp only [folded_F, get_0, set_0, get_1, set_1, get_2, set_2, get_3, set_3, get_4, set_4, get_5, set_5, get_6, set_6, get_7, set_7, get_8, set_8, get_9, set_9, e_kV, e_kB, e_nilS, e_noneO, e_nextF, e_bin, k_bin1, k_bin2, e_cmpV, k_cmpV1, k_cmpV2, k_cmpV3, e_cmpB, k_cmpB1, k_cmpB2, k_cmpB3, e_notB, k_notB, e_andB, k_andB1, k_andB0, e_orB, k_orB1, k_orB0, e_truB, k_truB1, k_truB2, k_truth, e_negV, k_neg, e_andV, k_andV1, k_andV0, e_orV, k_orV1, k_orV0, e_iteV, k_ite1, k_ite0, e_cons, k_cons1, k_cons2, e_tup, k_tup1, k_tup2, k_tup3, e_lst, k_lst0, k_lst1, k_lst2, e_opt, k_opt, e_slc, k_slc1, k_slc2, k_slc3, k_slc4, e_chain, k_ch1, k_ch2, k_ch3t, k_ch3f, k_ch4, k_ch5, e_dict0, e_callB, k_callB, e_meth, k_meth1, k_meth2, k_meth3, k_isStr, e_call, k_call1, k_call2, e_seq, k_seqN, k_seqR, e_ret, k_ret, e_asg, k_asg1, k_asg2, e_aug, k_aug1, k_aug2, k_aug3, e_if, k_if1, k_if0, e_expr, k_expr, e_sub, k_sub1, k_sub2, k_sub3, k_untup2, k_untup3, e_sets0, e_sets, k_sets, e_set2, k_set2, e_forStr, k_forStr, e_pin, k_pin, e_forDict, k_forDict1, k_forDict2, e_forList, k_forList1, k_forList2, e_forEnum, k_forEnum1, k_forEnum2, e_forRange, e_comp, h, List.nil_append]
theorem v_comp {l : List Nat} {e : List (Option V)} {o : List Ob} {q : List Nat} {cp : Nat → Bool} {cf : Nat → List Nat} (h : l.length ≤ 2000) : compK cp cf (some (.str l, ⟨e, o, q⟩)) = some (.loc o.length, ⟨e, o ++ [.list ((l.filter cp).map fun c => .str (cf c))], q⟩) := by
  show (if l.length ≤ 2000 then _ else _) = _
  rw [if_pos h]
theorem strsOf_map (ys : List (List Nat)) : strsOf (ys.map V.str) = some ys := by
  induction ys with
  | nil => rfl
  | cons y ys ih => simp [strsOf, ih]
theorem join_flat (ys : List (List Nat)) : Txt.join (sv []) (ys.map sv) = sv ys.flatten := by
  unfold Txt.join
  rw [StrLaws.glued_eq_join]
  induction ys with
  | nil => rfl
  | cons y ys ih =>
    cases ys with
    | nil => simp [PySem.Str.join]
    | cons z zs =>
      simp only [List.map_cons] at ih ⊢
      unfold PySem.Str.join
      rw [ih]
      show sv y ++ sv [] ++ sv (z ++ zs.flatten) = sv (y ++ (z ++ zs.flatten))
      rw [sv_app, sv_app, List.append_nil]
theorem v_join {e : List (Option V)} {o : List Ob} {q : List Nat} {n : Nat} {ys : List (List Nat)} (h : o[n]? = some (.list (ys.map V.str))) (hl : (ys.map (·.length)).sum ≤ 2000) :
    joinF [.str [], .loc n] ⟨e, o, q⟩ = some (.str ys.flatten, ⟨e, o, q⟩) := by
  show ((listAt ⟨e, o, q⟩ n).bind fun vs => (strsOf vs).bind fun ys => if (ys.map (·.length)).sum + ys.length * 0 ≤ 2000 then some (textL (Txt.join (sv []) (ys.map sv)), (⟨e, o, q⟩ : St)) else none) = _
  have : listAt ⟨e, o, q⟩ n = some (ys.map V.str) := by simp [listAt, h]
  rw [this]
  dsimp only [Option.bind_some]
  rw [strsOf_map]
  dsimp only [Option.bind_some]
  rw [if_pos (by omega), join_flat]
  simp [textL]
theorem sum_ones {α : Type} (l : List α) (f : α → Nat) (h : ∀ a, f a = 1) : (l.map f).sum = l.length := by
  induction l with
  | nil => rfl
  | cons a l ih => simp only [List.map_cons, List.sum_cons, ih, h, List.length_cons]; omega
theorem low_val (t : List Nat) (ht : t.length ≤ 1000) (o : List Ob) (q : List Nat) : ∃ o', law_low_fn [.str t] q o = some (.str (lowL t), o') ∧ Keeps o o' := by
  refine ⟨o ++ [Ob.list ((t.map lowF).map V.str)], ?_, (Keeps.refl o).app _⟩
  unfold law_low_fn
  refine fn_ret (us := [.str t]) (st := ⟨[some (.str t)], o ++ [Ob.list ((t.map lowF).map V.str)], q⟩) rfl ?_
  show law_low_F ⟨[some (.str t)], o, q⟩ = _
  have hj := v_join (e := [some (.str t)]) (q := q) (n := o.length) (o := o ++ [Ob.list ((t.map lowF).map V.str)]) (ys := t.map lowF) get_new (by rw [List.map_map, sum_ones t ((fun x : List Nat => x.length) ∘ lowF) (fun a => lowF_len a)]; omega)
  have hm : (t.filter fun _ => true).map (fun c => V.str (lowF c)) = (t.map lowF).map V.str := by rw [PySem.W.filter_all, List.map_map]; rfl
  simp only [law_low_F, get_0, set_0, get_1, set_1, get_2, set_2, get_3, set_3, get_4, set_4, get_5, set_5, get_6, set_6, get_7, set_7, get_8, set_8, get_9, set_9, e_kV, e_kB, e_nilS, e_noneO, e_nextF, e_bin, k_bin1, k_bin2, e_cmpV, k_cmpV1, k_cmpV2, k_cmpV3, e_cmpB, k_cmpB1, k_cmpB2, k_cmpB3, e_notB, k_notB, e_andB, k_andB1, k_andB0, e_orB, k_orB1, k_orB0, e_truB, k_truB1, k_truB2, k_truth, e_negV, k_neg, e_andV, k_andV1, k_andV0, e_orV, k_orV1, k_orV0, e_iteV, k_ite1, k_ite0, e_cons, k_cons1, k_cons2, e_tup, k_tup1, k_tup2, k_tup3, e_lst, k_lst0, k_lst1, k_lst2, e_opt, k_opt, e_slc, k_slc1, k_slc2, k_slc3, k_slc4, e_chain, k_ch1, k_ch2, k_ch3t, k_ch3f, k_ch4, k_ch5, e_dict0, e_callB, k_callB, e_meth, k_meth1, k_meth2, k_meth3, k_isStr, e_call, k_call1, k_call2, e_seq, k_seqN, k_seqR, e_ret, k_ret, e_asg, k_asg1, k_asg2, e_aug, k_aug1, k_aug2, k_aug3, e_if, k_if1, k_if0, e_expr, k_expr, e_sub, k_sub1, k_sub2, k_sub3, k_untup2, k_untup3, e_sets0, e_sets, k_sets, e_set2, k_set2, e_forStr, k_forStr, e_pin, k_pin, e_forDict, k_forDict1, k_forDict2, e_forList, k_forList1, k_forList2, e_forEnum, k_forEnum1, k_forEnum2, e_forRange, e_comp, v_comp (show t.length ≤ 2000 by omega), hm, hj]
  rfl

-- is_plain
noncomputable def plainP (t : List Nat) : Bool := t.all fun c => !decide (c ∈ [42, 63, 91, 92])
theorem plain_loop : ∀ (t : List Nat) (a : Option V) (t0 : V) (o : List Ob) (q : List Nat),
    ∃ a', forF (setF 1) is_plain_b1 (t.map fun c => .str [c]) ⟨[some t0, a], o, q⟩ = if plainP t then some (.next, ⟨[some t0, a'], o, q⟩) else some (.ret (.bool false), ⟨[some t0, a'], o, q⟩)
  | [], a, t0, o, q => ⟨a, rfl⟩
  | c :: t, a, t0, o, q => by
    have hs : setF 1 (.str [c]) ⟨[some t0, a], o, q⟩ = some ⟨[some t0, some (.str [c])], o, q⟩ := rfl
    have hin : ∀ st, inF (.str [c]) (textL "*?[\\") st = some (decide (c ∈ [42, 63, 91, 92])) := fun st => rfl
    by_cases h : c ∈ [42, 63, 91, 92]
    · have hb : is_plain_b1 ⟨[some t0, some (.str [c])], o, q⟩ = some (.ret (.bool false), ⟨[some t0, some (.str [c])], o, q⟩) := by
        simp only [is_plain_b1, get_0, set_0, get_1, set_1, get_2, set_2, get_3, set_3, get_4, set_4, get_5, set_5, get_6, set_6, get_7, set_7, get_8, set_8, get_9, set_9, e_kV, e_kB, e_nilS, e_noneO, e_nextF, e_bin, k_bin1, k_bin2, e_cmpV, k_cmpV1, k_cmpV2, k_cmpV3, e_cmpB, k_cmpB1, k_cmpB2, k_cmpB3, e_notB, k_notB, e_andB, k_andB1, k_andB0, e_orB, k_orB1, k_orB0, e_truB, k_truB1, k_truB2, k_truth, e_negV, k_neg, e_andV, k_andV1, k_andV0, e_orV, k_orV1, k_orV0, e_iteV, k_ite1, k_ite0, e_cons, k_cons1, k_cons2, e_tup, k_tup1, k_tup2, k_tup3, e_lst, k_lst0, k_lst1, k_lst2, e_opt, k_opt, e_slc, k_slc1, k_slc2, k_slc3, k_slc4, e_chain, k_ch1, k_ch2, k_ch3t, k_ch3f, k_ch4, k_ch5, e_dict0, e_callB, k_callB, e_meth, k_meth1, k_meth2, k_meth3, k_isStr, e_call, k_call1, k_call2, e_seq, k_seqN, k_seqR, e_ret, k_ret, e_asg, k_asg1, k_asg2, e_aug, k_aug1, k_aug2, k_aug3, e_if, k_if1, k_if0, e_expr, k_expr, e_sub, k_sub1, k_sub2, k_sub3, k_untup2, k_untup3, e_sets0, e_sets, k_sets, e_set2, k_set2, e_forStr, k_forStr, e_pin, k_pin, e_forDict, k_forDict1, k_forDict2, e_forList, k_forList1, k_forList2, e_forEnum, k_forEnum1, k_forEnum2, e_forRange, e_comp, hin, h, decide_true]
      refine ⟨some (.str [c]), ?_⟩
      rw [List.map_cons, for_ret hs hb]
      have : plainP (c :: t) = false := by simp only [plainP, List.all_cons, h, decide_true]; rfl
      rw [this]
      rfl
    · have hb : is_plain_b1 ⟨[some t0, some (.str [c])], o, q⟩ = some (.next, ⟨[some t0, some (.str [c])], o, q⟩) := by
        simp only [is_plain_b1, get_0, set_0, get_1, set_1, get_2, set_2, get_3, set_3, get_4, set_4, get_5, set_5, get_6, set_6, get_7, set_7, get_8, set_8, get_9, set_9, e_kV, e_kB, e_nilS, e_noneO, e_nextF, e_bin, k_bin1, k_bin2, e_cmpV, k_cmpV1, k_cmpV2, k_cmpV3, e_cmpB, k_cmpB1, k_cmpB2, k_cmpB3, e_notB, k_notB, e_andB, k_andB1, k_andB0, e_orB, k_orB1, k_orB0, e_truB, k_truB1, k_truB2, k_truth, e_negV, k_neg, e_andV, k_andV1, k_andV0, e_orV, k_orV1, k_orV0, e_iteV, k_ite1, k_ite0, e_cons, k_cons1, k_cons2, e_tup, k_tup1, k_tup2, k_tup3, e_lst, k_lst0, k_lst1, k_lst2, e_opt, k_opt, e_slc, k_slc1, k_slc2, k_slc3, k_slc4, e_chain, k_ch1, k_ch2, k_ch3t, k_ch3f, k_ch4, k_ch5, e_dict0, e_callB, k_callB, e_meth, k_meth1, k_meth2, k_meth3, k_isStr, e_call, k_call1, k_call2, e_seq, k_seqN, k_seqR, e_ret, k_ret, e_asg, k_asg1, k_asg2, e_aug, k_aug1, k_aug2, k_aug3, e_if, k_if1, k_if0, e_expr, k_expr, e_sub, k_sub1, k_sub2, k_sub3, k_untup2, k_untup3, e_sets0, e_sets, k_sets, e_set2, k_set2, e_forStr, k_forStr, e_pin, k_pin, e_forDict, k_forDict1, k_forDict2, e_forList, k_forList1, k_forList2, e_forEnum, k_forEnum1, k_forEnum2, e_forRange, e_comp, hin, h, decide_false]
      obtain ⟨a', ih⟩ := plain_loop t (some (.str [c])) t0 o q
      refine ⟨a', ?_⟩
      rw [List.map_cons, for_next hs hb, ih]
      have : plainP (c :: t) = plainP t := by simp only [plainP, List.all_cons, h, decide_false]; rfl
      rw [this]
theorem plain_val (t : List Nat) (o : List Ob) (q : List Nat) : is_plain_fn [.str t] q o = some (.bool (plainP t), o) := by
  obtain ⟨a', h⟩ := plain_loop t none (.str t) o q
  unfold is_plain_fn
  refine fn_ret (us := [.str t]) (st := ⟨[some (.str t), a'], o, q⟩) rfl ?_
  show is_plain_F ⟨[some (.str t), none], o, q⟩ = _
  cases hp : plainP t <;> simp only [hp, if_true, if_false, Bool.false_eq_true] at h <;> simp only [is_plain_F, get_0, set_0, get_1, set_1, get_2, set_2, get_3, set_3, get_4, set_4, get_5, set_5, get_6, set_6, get_7, set_7, get_8, set_8, get_9, set_9, e_kV, e_kB, e_nilS, e_noneO, e_nextF, e_bin, k_bin1, k_bin2, e_cmpV, k_cmpV1, k_cmpV2, k_cmpV3, e_cmpB, k_cmpB1, k_cmpB2, k_cmpB3, e_notB, k_notB, e_andB, k_andB1, k_andB0, e_orB, k_orB1, k_orB0, e_truB, k_truB1, k_truB2, k_truth, e_negV, k_neg, e_andV, k_andV1, k_andV0, e_orV, k_orV1, k_orV0, e_iteV, k_ite1, k_ite0, e_cons, k_cons1, k_cons2, e_tup, k_tup1, k_tup2, k_tup3, e_lst, k_lst0, k_lst1, k_lst2, e_opt, k_opt, e_slc, k_slc1, k_slc2, k_slc3, k_slc4, e_chain, k_ch1, k_ch2, k_ch3t, k_ch3f, k_ch4, k_ch5, e_dict0, e_callB, k_callB, e_meth, k_meth1, k_meth2, k_meth3, k_isStr, e_call, k_call1, k_call2, e_seq, k_seqN, k_seqR, e_ret, k_ret, e_asg, k_asg1, k_asg2, e_aug, k_aug1, k_aug2, k_aug3, e_if, k_if1, k_if0, e_expr, k_expr, e_sub, k_sub1, k_sub2, k_sub3, k_untup2, k_untup3, e_sets0, e_sets, k_sets, e_set2, k_set2, e_forStr, k_forStr, e_pin, k_pin, e_forDict, k_forDict1, k_forDict2, e_forList, k_forList1, k_forList2, e_forEnum, k_forEnum1, k_forEnum2, e_forRange, e_comp, h]
end NP
end

section
set_option maxHeartbeats 1000000
set_option backward.defeqAttrib.useBackward true
namespace NP

theorem onT_le (p : List Nat) (k c : Nat) (hp : p.length ≤ 90) (hk : k < p.length) (h : (onT p k c).1 = true) : k < (onT p k c).2 ∧ (onT p k c).2 ≤ p.length := by
  obtain ⟨x, hx⟩ : ∃ x, p[k]? = some x := ⟨_, List.getElem?_eq_getElem hk⟩
  unfold onT at h ⊢
  rw [hx] at h ⊢
  dsimp only at h ⊢
  by_cases h91 : x = 91
  · rw [if_pos h91]
    have := inS_le p c 100 (k + 1) (by omega) (by omega)
    omega
  · rw [if_neg h91] at h ⊢
    by_cases h92 : x = 92
    · rw [if_pos h92] at h ⊢
      have h3 := place_lt (of_decide_eq_true h)
      dsimp only
      omega
    · rw [if_neg h92]
      dsimp only
      omega

noncomputable def turnK (p : List Nat) (c k : Nat) (as : List Nat) : List Nat := if p[k]? = some 42 then putK p k as else if k < p.length then (if (onT p k c).1 then putK p (onT p k c).2 as else as) else as
noncomputable def stepK (p : List Nat) (c : Nat) : List Nat → List Nat → List Nat
  | [], as => as
  | k :: ks, as => stepK p c ks (turnK p c k as)

theorem v_geB {r : Bool × Nat} {st : St} : geF (.int (behI r)) (.int 0) st = some r.1 := by
  obtain ⟨b, j⟩ := r
  show some (decide ((0 : Int) ≤ behI (b, j))) = _
  cases b
  · rfl
  · congr 1

theorem fits_inner (p : List Nat) (hp : p.length ≤ 90) (c m : Nat) (q : List Nat) (hm : m ∉ q) (t1 t2 t4 : Option V) : ∀ (ks as : List Nat) (o : List Ob) (a7 a8 : Option V), (∀ k ∈ ks, k ≤ p.length) → KsOk p as → o[m]? = some (.dict (dictOf as)) →
    ∃ a7' a8', forF (setF 7) fits_b2 (ks.map fun (k : Nat) => V.int (k : Int)) ⟨[some (.str p), t1, t2, some (.int (p.length : Int)), t4, some (.str [c]), some (.loc m), a7, a8], o, q⟩ =
      some (.next, ⟨[some (.str p), t1, t2, some (.int (p.length : Int)), t4, some (.str [c]), some (.loc m), a7', a8'], o.set m (.dict (dictOf (stepK p c ks as))), q⟩) ∧ KsOk p (stepK p c ks as)
  | [], as, o, a7, a8, _, hk, ho => ⟨a7, a8, by simp only [List.map_nil, for_nil, stepK, X.set_same ho], hk⟩
  | k :: ks, as, o, a7, a8, hks, hk, ho => by
    have hp6 : p.length ≤ 2000 := by omega
    have hkp : k ≤ p.length := hks k (.head _)
    have hs : setF 7 (.int (k : Int)) ⟨[some (.str p), t1, t2, some (.int (p.length : Int)), t4, some (.str [c]), some (.loc m), a7, a8], o, q⟩ = some ⟨[some (.str p), t1, t2, some (.int (p.length : Int)), t4, some (.str [c]), some (.loc m), some (.int (k : Int)), a8], o, q⟩ := rfl
    have key : ∃ b8, fits_b2 ⟨[some (.str p), t1, t2, some (.int (p.length : Int)), t4, some (.str [c]), some (.loc m), some (.int (k : Int)), a8], o, q⟩ = some (.next, ⟨[some (.str p), t1, t2, some (.int (p.length : Int)), t4, some (.str [c]), some (.loc m), some (.int (k : Int)), b8], o.set m (.dict (dictOf (turnK p c k as))), q⟩) ∧ KsOk p (turnK p c k as) := by
      unfold turnK
      by_cases h42 : p[k]? = some 42
      · rw [if_pos h42]
        obtain ⟨hv, hv2⟩ := put_val p hp m k q hm as o hkp hk ho
        refine ⟨a8, ?_, hv2⟩
        simp only [fits_b2, get_0, set_0, get_1, set_1, get_2, set_2, get_3, set_3, get_4, set_4, get_5, set_5, get_6, set_6, get_7, set_7, get_8, set_8, get_9, set_9, e_kV, e_kB, e_nilS, e_noneO, e_nextF, e_bin, k_bin1, k_bin2, e_cmpV, k_cmpV1, k_cmpV2, k_cmpV3, e_cmpB, k_cmpB1, k_cmpB2, k_cmpB3, e_notB, k_notB, e_andB, k_andB1, k_andB0, e_orB, k_orB1, k_orB0, e_truB, k_truB1, k_truB2, k_truth, e_negV, k_neg, e_andV, k_andV1, k_andV0, e_orV, k_orV1, k_orV0, e_iteV, k_ite1, k_ite0, e_cons, k_cons1, k_cons2, e_tup, k_tup1, k_tup2, k_tup3, e_lst, k_lst0, k_lst1, k_lst2, e_opt, k_opt, e_slc, k_slc1, k_slc2, k_slc3, k_slc4, e_chain, k_ch1, k_ch2, k_ch3t, k_ch3f, k_ch4, k_ch5, e_dict0, e_callB, k_callB, e_meth, k_meth1, k_meth2, k_meth3, k_isStr, e_call, k_call1, k_call2, e_seq, k_seqN, k_seqR, e_ret, k_ret, e_asg, k_asg1, k_asg2, e_aug, k_aug1, k_aug2, k_aug3, e_if, k_if1, k_if0, e_expr, k_expr, e_sub, k_sub1, k_sub2, k_sub3, k_untup2, k_untup3, e_sets0, e_sets, k_sets, e_set2, k_set2, e_forStr, k_forStr, e_pin, k_pin, e_forDict, k_forDict1, k_forDict2, e_forList, k_forList1, k_forList2, e_forEnum, k_forEnum1, k_forEnum2, e_forRange, e_comp, v_add2_1, v_slice hp6, v_eqs, h42, decide_true, hv]
      · rw [if_neg h42]
        by_cases hlt : k < p.length
        · rw [if_pos hlt]
          have hb := behind_val p k c hp hlt o q
          refine ⟨some (.int (behI (onT p k c))), ?_⟩
          cases hon : (onT p k c).1 with
          | true =>
            obtain ⟨hv, hv2⟩ := put_val p hp m (onT p k c).2 q hm as o (onT_le p k c hp hlt hon).2 hk ho
            have hbi : behI (onT p k c) = ((onT p k c).2 : Int) := by unfold behI; rw [if_pos hon]
            have hge : ∀ st, geF (.int ((onT p k c).2 : Int)) (.int 0) st = some true := fun st => by rw [← hbi, v_geB, hon]
            refine ⟨?_, by simpa using hv2⟩
            simp only [fits_b2, get_0, set_0, get_1, set_1, get_2, set_2, get_3, set_3, get_4, set_4, get_5, set_5, get_6, set_6, get_7, set_7, get_8, set_8, get_9, set_9, e_kV, e_kB, e_nilS, e_noneO, e_nextF, e_bin, k_bin1, k_bin2, e_cmpV, k_cmpV1, k_cmpV2, k_cmpV3, e_cmpB, k_cmpB1, k_cmpB2, k_cmpB3, e_notB, k_notB, e_andB, k_andB1, k_andB0, e_orB, k_orB1, k_orB0, e_truB, k_truB1, k_truB2, k_truth, e_negV, k_neg, e_andV, k_andV1, k_andV0, e_orV, k_orV1, k_orV0, e_iteV, k_ite1, k_ite0, e_cons, k_cons1, k_cons2, e_tup, k_tup1, k_tup2, k_tup3, e_lst, k_lst0, k_lst1, k_lst2, e_opt, k_opt, e_slc, k_slc1, k_slc2, k_slc3, k_slc4, e_chain, k_ch1, k_ch2, k_ch3t, k_ch3f, k_ch4, k_ch5, e_dict0, e_callB, k_callB, e_meth, k_meth1, k_meth2, k_meth3, k_isStr, e_call, k_call1, k_call2, e_seq, k_seqN, k_seqR, e_ret, k_ret, e_asg, k_asg1, k_asg2, e_aug, k_aug1, k_aug2, k_aug3, e_if, k_if1, k_if0, e_expr, k_expr, e_sub, k_sub1, k_sub2, k_sub3, k_untup2, k_untup3, e_sets0, e_sets, k_sets, e_set2, k_set2, e_forStr, k_forStr, e_pin, k_pin, e_forDict, k_forDict1, k_forDict2, e_forList, k_forList1, k_forList2, e_forEnum, k_forEnum1, k_forEnum2, e_forRange, e_comp, v_add2_1, v_slice hp6, v_eqs, h42, decide_false, v_lt, hlt, decide_true, hb, hbi, hge, hv, if_true]
          | false =>
            have hge : ∀ st, geF (.int (behI (onT p k c))) (.int 0) st = some false := fun st => by rw [v_geB, hon]
            refine ⟨?_, by simpa using hk⟩
            simp only [fits_b2, get_0, set_0, get_1, set_1, get_2, set_2, get_3, set_3, get_4, set_4, get_5, set_5, get_6, set_6, get_7, set_7, get_8, set_8, get_9, set_9, e_kV, e_kB, e_nilS, e_noneO, e_nextF, e_bin, k_bin1, k_bin2, e_cmpV, k_cmpV1, k_cmpV2, k_cmpV3, e_cmpB, k_cmpB1, k_cmpB2, k_cmpB3, e_notB, k_notB, e_andB, k_andB1, k_andB0, e_orB, k_orB1, k_orB0, e_truB, k_truB1, k_truB2, k_truth, e_negV, k_neg, e_andV, k_andV1, k_andV0, e_orV, k_orV1, k_orV0, e_iteV, k_ite1, k_ite0, e_cons, k_cons1, k_cons2, e_tup, k_tup1, k_tup2, k_tup3, e_lst, k_lst0, k_lst1, k_lst2, e_opt, k_opt, e_slc, k_slc1, k_slc2, k_slc3, k_slc4, e_chain, k_ch1, k_ch2, k_ch3t, k_ch3f, k_ch4, k_ch5, e_dict0, e_callB, k_callB, e_meth, k_meth1, k_meth2, k_meth3, k_isStr, e_call, k_call1, k_call2, e_seq, k_seqN, k_seqR, e_ret, k_ret, e_asg, k_asg1, k_asg2, e_aug, k_aug1, k_aug2, k_aug3, e_if, k_if1, k_if0, e_expr, k_expr, e_sub, k_sub1, k_sub2, k_sub3, k_untup2, k_untup3, e_sets0, e_sets, k_sets, e_set2, k_set2, e_forStr, k_forStr, e_pin, k_pin, e_forDict, k_forDict1, k_forDict2, e_forList, k_forList1, k_forList2, e_forEnum, k_forEnum1, k_forEnum2, e_forRange, e_comp, v_add2_1, v_slice hp6, v_eqs, h42, decide_false, v_lt, hlt, decide_true, hb, hge, if_false, Bool.false_eq_true, X.set_same ho]
        · rw [if_neg hlt]
          refine ⟨a8, ?_, hk⟩
          simp only [fits_b2, get_0, set_0, get_1, set_1, get_2, set_2, get_3, set_3, get_4, set_4, get_5, set_5, get_6, set_6, get_7, set_7, get_8, set_8, get_9, set_9, e_kV, e_kB, e_nilS, e_noneO, e_nextF, e_bin, k_bin1, k_bin2, e_cmpV, k_cmpV1, k_cmpV2, k_cmpV3, e_cmpB, k_cmpB1, k_cmpB2, k_cmpB3, e_notB, k_notB, e_andB, k_andB1, k_andB0, e_orB, k_orB1, k_orB0, e_truB, k_truB1, k_truB2, k_truth, e_negV, k_neg, e_andV, k_andV1, k_andV0, e_orV, k_orV1, k_orV0, e_iteV, k_ite1, k_ite0, e_cons, k_cons1, k_cons2, e_tup, k_tup1, k_tup2, k_tup3, e_lst, k_lst0, k_lst1, k_lst2, e_opt, k_opt, e_slc, k_slc1, k_slc2, k_slc3, k_slc4, e_chain, k_ch1, k_ch2, k_ch3t, k_ch3f, k_ch4, k_ch5, e_dict0, e_callB, k_callB, e_meth, k_meth1, k_meth2, k_meth3, k_isStr, e_call, k_call1, k_call2, e_seq, k_seqN, k_seqR, e_ret, k_ret, e_asg, k_asg1, k_asg2, e_aug, k_aug1, k_aug2, k_aug3, e_if, k_if1, k_if0, e_expr, k_expr, e_sub, k_sub1, k_sub2, k_sub3, k_untup2, k_untup3, e_sets0, e_sets, k_sets, e_set2, k_set2, e_forStr, k_forStr, e_pin, k_pin, e_forDict, k_forDict1, k_forDict2, e_forList, k_forList1, k_forList2, e_forEnum, k_forEnum1, k_forEnum2, e_forRange, e_comp, v_add2_1, v_slice hp6, v_eqs, h42, decide_false, v_lt, hlt, X.set_same ho]
    obtain ⟨b8, hb, hk'⟩ := key
    obtain ⟨a7', a8', ih, hk''⟩ := fits_inner p hp c m q hm t1 t2 t4 ks (turnK p c k as) (o.set m (.dict (dictOf (turnK p c k as)))) (some (.int (k : Int))) b8 (fun x hx => hks x (.tail _ hx)) hk' (get_set ho)
    refine ⟨a7', a8', ?_, hk''⟩
    rw [List.map_cons, for_next hs hb, ih, List.set_set]
    rfl

noncomputable def fitsL (p : List Nat) : List Nat → List Nat → Bool
  | [], ks => decide (p.length ∈ ks)
  | c :: t, ks => if p[p.length - 1]? = some 42 ∧ p.length - 1 ∈ ks then true else if (stepK p c ks []).isEmpty then false else fitsL p t (stepK p c ks [])
noncomputable def fitsP (p t : List Nat) : Bool := fitsL p t (putK p 0 [])

noncomputable def fitsR : ES1 := (seqF (retF (cmpV (getF 3) (getF 4) inF))
    nextF)
theorem v_truthD {e : List (Option V)} {o : List Ob} {q : List Nat} {m : Nat} {as : List Nat} (h : o[m]? = some (.dict (dictOf as))) (hl : as.length ≤ 2000) : truthF (.loc m) ⟨e, o, q⟩ = some (!as.isEmpty) := by
  show (match o[m]? with | some (.dict l) => if l.length ≤ 2000 then some (!l.isEmpty) else none | _ => none) = _
  rw [h]
  dsimp only
  rw [dictOf_len, if_pos hl]
  cases as <;> rfl
theorem keys_map (ks : List Nat) : (dictOf ks).map (fun p => V.int p.1) = ks.map fun (k : Nat) => V.int (k : Int) := by
  unfold dictOf
  rw [List.map_map]
  rfl

theorem fits_outer (p : List Nat) (hp : p.length ≤ 90) (o0 : List Ob) (q : List Nat) (hq : ∀ x ∈ q, x < o0.length) (t1 t2 : Option V) : ∀ (t ks : List Nat) (n : Nat) (o : List Ob) (a5 a6 a7 a8 : Option V), KsOk p ks → Keeps o0 o → o[n]? = some (.dict (dictOf ks)) →
    ∃ st', seqK fitsR (forF (setF 5) fits_b1 (t.map fun c => .str [c]) ⟨[some (.str p), t1, t2, some (.int (p.length : Int)), some (.loc n), a5, a6, a7, a8], o, q⟩) = some (.ret (.bool (fitsL p t ks)), st') ∧ Keeps o0 st'.obs
  | [], ks, n, o, a5, a6, a7, a8, hk, hK, hn => by
    refine ⟨⟨[some (.str p), t1, t2, some (.int (p.length : Int)), some (.loc n), a5, a6, a7, a8], o, q⟩, ?_, hK⟩
    simp only [List.map_nil, for_nil, fitsR, get_0, set_0, get_1, set_1, get_2, set_2, get_3, set_3, get_4, set_4, get_5, set_5, get_6, set_6, get_7, set_7, get_8, set_8, get_9, set_9, e_kV, e_kB, e_nilS, e_noneO, e_nextF, e_bin, k_bin1, k_bin2, e_cmpV, k_cmpV1, k_cmpV2, k_cmpV3, e_cmpB, k_cmpB1, k_cmpB2, k_cmpB3, e_notB, k_notB, e_andB, k_andB1, k_andB0, e_orB, k_orB1, k_orB0, e_truB, k_truB1, k_truB2, k_truth, e_negV, k_neg, e_andV, k_andV1, k_andV0, e_orV, k_orV1, k_orV0, e_iteV, k_ite1, k_ite0, e_cons, k_cons1, k_cons2, e_tup, k_tup1, k_tup2, k_tup3, e_lst, k_lst0, k_lst1, k_lst2, e_opt, k_opt, e_slc, k_slc1, k_slc2, k_slc3, k_slc4, e_chain, k_ch1, k_ch2, k_ch3t, k_ch3f, k_ch4, k_ch5, e_dict0, e_callB, k_callB, e_meth, k_meth1, k_meth2, k_meth3, k_isStr, e_call, k_call1, k_call2, e_seq, k_seqN, k_seqR, e_ret, k_ret, e_asg, k_asg1, k_asg2, e_aug, k_aug1, k_aug2, k_aug3, e_if, k_if1, k_if0, e_expr, k_expr, e_sub, k_sub1, k_sub2, k_sub3, k_untup2, k_untup3, e_sets0, e_sets, k_sets, e_set2, k_set2, e_forStr, k_forStr, e_pin, k_pin, e_forDict, k_forDict1, k_forDict2, e_forList, k_forList1, k_forList2, e_forEnum, k_forEnum1, k_forEnum2, e_forRange, e_comp, v_in hn, fitsL]
  | c :: t, ks, n, o, a5, a6, a7, a8, hk, hK, hn => by
    have hp6 : p.length ≤ 2000 := by omega
    have hs : setF 5 (.str [c]) ⟨[some (.str p), t1, t2, some (.int (p.length : Int)), some (.loc n), a5, a6, a7, a8], o, q⟩ = some ⟨[some (.str p), t1, t2, some (.int (p.length : Int)), some (.loc n), some (.str [c]), a6, a7, a8], o, q⟩ := rfl
    unfold fitsL
    by_cases hE : p[p.length - 1]? = some 42 ∧ p.length - 1 ∈ ks
    · rw [if_pos hE]
      have hlt := place_lt hE.1
      have hsub : ∀ st, subF (.int (p.length : Int)) (.int 1) st = some (.int ((p.length - 1 : Nat) : Int), st) := fun st => by
        show some (V.int ((p.length : Int) - 1), st) = _
        have : (p.length : Int) - 1 = ((p.length - 1 : Nat) : Int) := by omega
        rw [this]
      have hb : fits_b1 ⟨[some (.str p), t1, t2, some (.int (p.length : Int)), some (.loc n), some (.str [c]), a6, a7, a8], o, q⟩ = some (.ret (.bool true), ⟨[some (.str p), t1, t2, some (.int (p.length : Int)), some (.loc n), some (.str [c]), a6, a7, a8], o, q⟩) := by
        simp only [fits_b1, get_0, set_0, get_1, set_1, get_2, set_2, get_3, set_3, get_4, set_4, get_5, set_5, get_6, set_6, get_7, set_7, get_8, set_8, get_9, set_9, e_kV, e_kB, e_nilS, e_noneO, e_nextF, e_bin, k_bin1, k_bin2, e_cmpV, k_cmpV1, k_cmpV2, k_cmpV3, e_cmpB, k_cmpB1, k_cmpB2, k_cmpB3, e_notB, k_notB, e_andB, k_andB1, k_andB0, e_orB, k_orB1, k_orB0, e_truB, k_truB1, k_truB2, k_truth, e_negV, k_neg, e_andV, k_andV1, k_andV0, e_orV, k_orV1, k_orV0, e_iteV, k_ite1, k_ite0, e_cons, k_cons1, k_cons2, e_tup, k_tup1, k_tup2, k_tup3, e_lst, k_lst0, k_lst1, k_lst2, e_opt, k_opt, e_slc, k_slc1, k_slc2, k_slc3, k_slc4, e_chain, k_ch1, k_ch2, k_ch3t, k_ch3f, k_ch4, k_ch5, e_dict0, e_callB, k_callB, e_meth, k_meth1, k_meth2, k_meth3, k_isStr, e_call, k_call1, k_call2, e_seq, k_seqN, k_seqR, e_ret, k_ret, e_asg, k_asg1, k_asg2, e_aug, k_aug1, k_aug2, k_aug3, e_if, k_if1, k_if0, e_expr, k_expr, e_sub, k_sub1, k_sub2, k_sub3, k_untup2, k_untup3, e_sets0, e_sets, k_sets, e_set2, k_set2, e_forStr, k_forStr, e_pin, k_pin, e_forDict, k_forDict1, k_forDict2, e_forList, k_forList1, k_forList2, e_forEnum, k_forEnum1, k_forEnum2, e_forRange, e_comp, v_slice_last hp6, v_eqs, hE.1, decide_true, hsub, v_in hn, hE.2]
      rw [List.map_cons, for_ret hs hb]
      exact ⟨_, rfl, hK⟩
    · rw [if_neg hE]
      have hlt := place_lt hn
      have hmq : o.length ∉ n :: q := by
        intro h
        rcases List.mem_cons.mp h with h | h
        · omega
        · have := hq _ h; have := hK.1; omega
      have hn' : (o ++ [Ob.dict []])[n]? = some (.dict (dictOf ks)) := get_app hn
      have hm' : (o ++ [Ob.dict []])[o.length]? = some (.dict (dictOf [])) := get_new
      obtain ⟨a7', a8', hI, hk2⟩ := fits_inner p hp c o.length (n :: q) hmq t1 t2 (some (.loc n)) ks [] (o ++ [Ob.dict []]) a7 a8 hk.le ⟨List.nodup_nil, fun _ h => nomatch h⟩ hm'
      have hm2 : ((o ++ [Ob.dict []]).set o.length (.dict (dictOf (stepK p c ks []))))[o.length]? = some (.dict (dictOf (stepK p c ks []))) := get_set hm'
      have hlen := hk2.len
      have hK2 : Keeps o0 ((o ++ [Ob.dict []]).set o.length (.dict (dictOf (stepK p c ks [])))) := (hK.app _).set hK.1 _
      have hfst : (andB (cmpB (slcF (getF 0) (optF (negV (kV (.int 1)))) noneO noneO) (kV (.str [42])) eqF2) (andB (cmpB (bin (getF 3) (kV (.int 1)) subF) (getF 4) inF) (kB true))) ⟨[some (.str p), t1, t2, some (.int (p.length : Int)), some (.loc n), some (.str [c]), a6, a7, a8], o, q⟩ = some (false, ⟨[some (.str p), t1, t2, some (.int (p.length : Int)), some (.loc n), some (.str [c]), a6, a7, a8], o, q⟩) := by
        by_cases h1 : p[p.length - 1]? = some 42
        · have h2 : ¬ p.length - 1 ∈ ks := fun h2 => hE ⟨h1, h2⟩
          have hlt := place_lt h1
          have hsub : ∀ st, subF (.int (p.length : Int)) (.int 1) st = some (.int ((p.length - 1 : Nat) : Int), st) := fun st => by
            show some (V.int ((p.length : Int) - 1), st) = _
            have : (p.length : Int) - 1 = ((p.length - 1 : Nat) : Int) := by omega
            rw [this]
          simp only [get_0, set_0, get_1, set_1, get_2, set_2, get_3, set_3, get_4, set_4, get_5, set_5, get_6, set_6, get_7, set_7, get_8, set_8, get_9, set_9, e_kV, e_kB, e_nilS, e_noneO, e_nextF, e_bin, k_bin1, k_bin2, e_cmpV, k_cmpV1, k_cmpV2, k_cmpV3, e_cmpB, k_cmpB1, k_cmpB2, k_cmpB3, e_notB, k_notB, e_andB, k_andB1, k_andB0, e_orB, k_orB1, k_orB0, e_truB, k_truB1, k_truB2, k_truth, e_negV, k_neg, e_andV, k_andV1, k_andV0, e_orV, k_orV1, k_orV0, e_iteV, k_ite1, k_ite0, e_cons, k_cons1, k_cons2, e_tup, k_tup1, k_tup2, k_tup3, e_lst, k_lst0, k_lst1, k_lst2, e_opt, k_opt, e_slc, k_slc1, k_slc2, k_slc3, k_slc4, e_chain, k_ch1, k_ch2, k_ch3t, k_ch3f, k_ch4, k_ch5, e_dict0, e_callB, k_callB, e_meth, k_meth1, k_meth2, k_meth3, k_isStr, e_call, k_call1, k_call2, e_seq, k_seqN, k_seqR, e_ret, k_ret, e_asg, k_asg1, k_asg2, e_aug, k_aug1, k_aug2, k_aug3, e_if, k_if1, k_if0, e_expr, k_expr, e_sub, k_sub1, k_sub2, k_sub3, k_untup2, k_untup3, e_sets0, e_sets, k_sets, e_set2, k_set2, e_forStr, k_forStr, e_pin, k_pin, e_forDict, k_forDict1, k_forDict2, e_forList, k_forList1, k_forList2, e_forEnum, k_forEnum1, k_forEnum2, e_forRange, e_comp, v_slice_last hp6, v_eqs, h1, decide_true, hsub, v_in hn, h2, decide_false]
        · simp only [get_0, set_0, get_1, set_1, get_2, set_2, get_3, set_3, get_4, set_4, get_5, set_5, get_6, set_6, get_7, set_7, get_8, set_8, get_9, set_9, e_kV, e_kB, e_nilS, e_noneO, e_nextF, e_bin, k_bin1, k_bin2, e_cmpV, k_cmpV1, k_cmpV2, k_cmpV3, e_cmpB, k_cmpB1, k_cmpB2, k_cmpB3, e_notB, k_notB, e_andB, k_andB1, k_andB0, e_orB, k_orB1, k_orB0, e_truB, k_truB1, k_truB2, k_truth, e_negV, k_neg, e_andV, k_andV1, k_andV0, e_orV, k_orV1, k_orV0, e_iteV, k_ite1, k_ite0, e_cons, k_cons1, k_cons2, e_tup, k_tup1, k_tup2, k_tup3, e_lst, k_lst0, k_lst1, k_lst2, e_opt, k_opt, e_slc, k_slc1, k_slc2, k_slc3, k_slc4, e_chain, k_ch1, k_ch2, k_ch3t, k_ch3f, k_ch4, k_ch5, e_dict0, e_callB, k_callB, e_meth, k_meth1, k_meth2, k_meth3, k_isStr, e_call, k_call1, k_call2, e_seq, k_seqN, k_seqR, e_ret, k_ret, e_asg, k_asg1, k_asg2, e_aug, k_aug1, k_aug2, k_aug3, e_if, k_if1, k_if0, e_expr, k_expr, e_sub, k_sub1, k_sub2, k_sub3, k_untup2, k_untup3, e_sets0, e_sets, k_sets, e_set2, k_set2, e_forStr, k_forStr, e_pin, k_pin, e_forDict, k_forDict1, k_forDict2, e_forList, k_forList1, k_forList2, e_forEnum, k_forEnum1, k_forEnum2, e_forRange, e_comp, v_slice_last hp6, v_eqs, h1, decide_false]
      by_cases hem : (stepK p c ks []).isEmpty = true
      · rw [if_pos hem]
        have hb : ∃ st1, fits_b1 ⟨[some (.str p), t1, t2, some (.int (p.length : Int)), some (.loc n), some (.str [c]), a6, a7, a8], o, q⟩ = some (.ret (.bool false), st1) ∧ Keeps o0 st1.obs := by
          refine ⟨⟨[some (.str p), t1, t2, some (.int (p.length : Int)), some (.loc n), some (.str [c]), some (.loc o.length), a7', a8'], (o ++ [Ob.dict []]).set o.length (.dict (dictOf (stepK p c ks []))), q⟩, ?_, hK2⟩
          unfold fits_b1
          rw [e_seq, e_if, hfst]
          simp only [get_0, set_0, get_1, set_1, get_2, set_2, get_3, set_3, get_4, set_4, get_5, set_5, get_6, set_6, get_7, set_7, get_8, set_8, get_9, set_9, e_kV, e_kB, e_nilS, e_noneO, e_nextF, e_bin, k_bin1, k_bin2, e_cmpV, k_cmpV1, k_cmpV2, k_cmpV3, e_cmpB, k_cmpB1, k_cmpB2, k_cmpB3, e_notB, k_notB, e_andB, k_andB1, k_andB0, e_orB, k_orB1, k_orB0, e_truB, k_truB1, k_truB2, k_truth, e_negV, k_neg, e_andV, k_andV1, k_andV0, e_orV, k_orV1, k_orV0, e_iteV, k_ite1, k_ite0, e_cons, k_cons1, k_cons2, e_tup, k_tup1, k_tup2, k_tup3, e_lst, k_lst0, k_lst1, k_lst2, e_opt, k_opt, e_slc, k_slc1, k_slc2, k_slc3, k_slc4, e_chain, k_ch1, k_ch2, k_ch3t, k_ch3f, k_ch4, k_ch5, e_dict0, e_callB, k_callB, e_meth, k_meth1, k_meth2, k_meth3, k_isStr, e_call, k_call1, k_call2, e_seq, k_seqN, k_seqR, e_ret, k_ret, e_asg, k_asg1, k_asg2, e_aug, k_aug1, k_aug2, k_aug3, e_if, k_if1, k_if0, e_expr, k_expr, e_sub, k_sub1, k_sub2, k_sub3, k_untup2, k_untup3, e_sets0, e_sets, k_sets, e_set2, k_set2, e_forStr, k_forStr, e_pin, k_pin, e_forDict, k_forDict1, k_forDict2, e_forList, k_forList1, k_forList2, e_forEnum, k_forEnum1, k_forEnum2, e_forRange, e_comp, hn', keys_map, hI, v_truthD hm2 (show _ ≤ 2000 by omega), hem, Bool.not_true, Bool.not_false]
        obtain ⟨st1, hb, hk3⟩ := hb
        rw [List.map_cons, for_ret hs hb]
        exact ⟨_, rfl, hk3⟩
      · rw [if_neg hem]
        have hem' : (stepK p c ks []).isEmpty = false := by simpa using hem
        have hb : fits_b1 ⟨[some (.str p), t1, t2, some (.int (p.length : Int)), some (.loc n), some (.str [c]), a6, a7, a8], o, q⟩ = some (.next, ⟨[some (.str p), t1, t2, some (.int (p.length : Int)), some (.loc o.length), some (.str [c]), some (.loc o.length), a7', a8'], (o ++ [Ob.dict []]).set o.length (.dict (dictOf (stepK p c ks []))), q⟩) := by
          unfold fits_b1
          rw [e_seq, e_if, hfst]
          simp only [get_0, set_0, get_1, set_1, get_2, set_2, get_3, set_3, get_4, set_4, get_5, set_5, get_6, set_6, get_7, set_7, get_8, set_8, get_9, set_9, e_kV, e_kB, e_nilS, e_noneO, e_nextF, e_bin, k_bin1, k_bin2, e_cmpV, k_cmpV1, k_cmpV2, k_cmpV3, e_cmpB, k_cmpB1, k_cmpB2, k_cmpB3, e_notB, k_notB, e_andB, k_andB1, k_andB0, e_orB, k_orB1, k_orB0, e_truB, k_truB1, k_truB2, k_truth, e_negV, k_neg, e_andV, k_andV1, k_andV0, e_orV, k_orV1, k_orV0, e_iteV, k_ite1, k_ite0, e_cons, k_cons1, k_cons2, e_tup, k_tup1, k_tup2, k_tup3, e_lst, k_lst0, k_lst1, k_lst2, e_opt, k_opt, e_slc, k_slc1, k_slc2, k_slc3, k_slc4, e_chain, k_ch1, k_ch2, k_ch3t, k_ch3f, k_ch4, k_ch5, e_dict0, e_callB, k_callB, e_meth, k_meth1, k_meth2, k_meth3, k_isStr, e_call, k_call1, k_call2, e_seq, k_seqN, k_seqR, e_ret, k_ret, e_asg, k_asg1, k_asg2, e_aug, k_aug1, k_aug2, k_aug3, e_if, k_if1, k_if0, e_expr, k_expr, e_sub, k_sub1, k_sub2, k_sub3, k_untup2, k_untup3, e_sets0, e_sets, k_sets, e_set2, k_set2, e_forStr, k_forStr, e_pin, k_pin, e_forDict, k_forDict1, k_forDict2, e_forList, k_forList1, k_forList2, e_forEnum, k_forEnum1, k_forEnum2, e_forRange, e_comp, hn', keys_map, hI, v_truthD hm2 (show _ ≤ 2000 by omega), hem', Bool.not_true, Bool.not_false]
        rw [List.map_cons, for_next hs hb]
        exact fits_outer p hp o0 q hq t1 t2 t (stepK p c ks []) o.length _ _ _ _ _ hk2 hK2 hm2

noncomputable def fitsT : ES1 :=
    (seqF (asgF (callB (consF (getF 0) nilS) lenF) (setF 3))
    (seqF (asgF dict0 (setF 4))
    (seqF (exprF (callF (consF (getF 0) (consF (kV (.int 0)) (consF (getF 4) nilS))) put_places_fn))
    (seqF (forStr (getF 1) (setF 5) fits_b1)
    fitsR))))
theorem fitsT_val (p t : List Nat) (hp : p.length ≤ 90) (o : List Ob) (q : List Nat) (hq : ∀ x ∈ q, x < o.length) (t2 : Option V) :
    ∃ st', fitsT ⟨[some (.str p), some (.str t), t2, none, none, none, none, none, none], o, q⟩ = some (.ret (.bool (fitsP p t)), st') ∧ Keeps o st'.obs := by
  have hp6 : p.length ≤ 2000 := by omega
  have hmq : o.length ∉ q := fun h => by have := hq _ h; omega
  have hm' : (o ++ [Ob.dict []])[o.length]? = some (.dict (dictOf [])) := get_new
  obtain ⟨hv, hk⟩ := put_val p hp o.length 0 q hmq [] (o ++ [Ob.dict []]) (Nat.zero_le _) ⟨List.nodup_nil, fun _ h => nomatch h⟩ hm'
  obtain ⟨st', h1, h2⟩ := fits_outer p hp o q hq (some (.str t)) t2 t (putK p 0 []) o.length ((o ++ [Ob.dict []]).set o.length (.dict (dictOf (putK p 0 [])))) none none none none hk (((Keeps.refl o).app _).set (Nat.le_refl _) _) (get_set hm')
  refine ⟨st', ?_, h2⟩
  have hv' : put_places_fn [.str p, .int 0, .loc o.length] q (o ++ [Ob.dict []]) = some (.none, (o ++ [Ob.dict []]).set o.length (.dict (dictOf (putK p 0 [])))) := hv
  unfold fitsR at h1
  simp only [fitsT, fitsR, get_0, set_0, get_1, set_1, get_2, set_2, get_3, set_3, get_4, set_4, get_5, set_5, get_6, set_6, get_7, set_7, get_8, set_8, get_9, set_9, e_kV, e_kB, e_nilS, e_noneO, e_nextF, e_bin, k_bin1, k_bin2, e_cmpV, k_cmpV1, k_cmpV2, k_cmpV3, e_cmpB, k_cmpB1, k_cmpB2, k_cmpB3, e_notB, k_notB, e_andB, k_andB1, k_andB0, e_orB, k_orB1, k_orB0, e_truB, k_truB1, k_truB2, k_truth, e_negV, k_neg, e_andV, k_andV1, k_andV0, e_orV, k_orV1, k_orV0, e_iteV, k_ite1, k_ite0, e_cons, k_cons1, k_cons2, e_tup, k_tup1, k_tup2, k_tup3, e_lst, k_lst0, k_lst1, k_lst2, e_opt, k_opt, e_slc, k_slc1, k_slc2, k_slc3, k_slc4, e_chain, k_ch1, k_ch2, k_ch3t, k_ch3f, k_ch4, k_ch5, e_dict0, e_callB, k_callB, e_meth, k_meth1, k_meth2, k_meth3, k_isStr, e_call, k_call1, k_call2, e_seq, k_seqN, k_seqR, e_ret, k_ret, e_asg, k_asg1, k_asg2, e_aug, k_aug1, k_aug2, k_aug3, e_if, k_if1, k_if0, e_expr, k_expr, e_sub, k_sub1, k_sub2, k_sub3, k_untup2, k_untup3, e_sets0, e_sets, k_sets, e_set2, k_set2, e_forStr, k_forStr, e_pin, k_pin, e_forDict, k_forDict1, k_forDict2, e_forList, k_forList1, k_forList2, e_forEnum, k_forEnum1, k_forEnum2, e_forRange, e_comp, v_len hp6, hv'] at h1 ⊢
  exact h1
theorem fits_eqT : fits_F = seqF (ifF (truB (getF 2)) (seqF (asgF (callF (consF (getF 0) nilS) folded_fn) (setF 0))
    (seqF (asgF (callF (consF (getF 1) nilS) folded_fn) (setF 1))
    nextF)) nextF) fitsT := rfl
noncomputable def lowIf (b : Bool) (t : List Nat) : List Nat := if b then lowL t else t
theorem lowIf_len (b : Bool) (t : List Nat) : (lowIf b t).length = t.length := by
  unfold lowIf
  split
  · exact lowL_len t
  · rfl
theorem fits_val (vs : List V) (p t : List Nat) (b : Bool) (hdf : dfFits vs = some [.str p, .str t, .bool b]) (hp : p.length ≤ 90) (ht : t.length ≤ 1000) (o : List Ob) (q : List Nat) (hq : ∀ x ∈ q, x < o.length) :
    ∃ o', fits_fn vs q o = some (.bool (fitsP (lowIf b p) (lowIf b t)), o') ∧ Keeps o o' := by
  obtain ⟨st', h1, h2⟩ := fitsT_val (lowIf b p) (lowIf b t) (by rw [lowIf_len]; exact hp) o q hq (some (.bool b))
  refine ⟨st'.obs, ?_, h2⟩
  unfold fits_fn
  refine fn_ret (us := [.str p, .str t, .bool b]) (st := st') hdf ?_
  show fits_F ⟨[some (.str p), some (.str t), some (.bool b), none, none, none, none, none, none], o, q⟩ = _
  rw [fits_eqT]
  cases b with
  | false =>
    have e1 : lowIf false p = p := rfl
    have e2 : lowIf false t = t := rfl
    rw [e1, e2] at h1
    simp only [get_0, set_0, get_1, set_1, get_2, set_2, get_3, set_3, get_4, set_4, get_5, set_5, get_6, set_6, get_7, set_7, get_8, set_8, get_9, set_9, e_kV, e_kB, e_nilS, e_noneO, e_nextF, e_bin, k_bin1, k_bin2, e_cmpV, k_cmpV1, k_cmpV2, k_cmpV3, e_cmpB, k_cmpB1, k_cmpB2, k_cmpB3, e_notB, k_notB, e_andB, k_andB1, k_andB0, e_orB, k_orB1, k_orB0, e_truB, k_truB1, k_truB2, k_truth, e_negV, k_neg, e_andV, k_andV1, k_andV0, e_orV, k_orV1, k_orV0, e_iteV, k_ite1, k_ite0, e_cons, k_cons1, k_cons2, e_tup, k_tup1, k_tup2, k_tup3, e_lst, k_lst0, k_lst1, k_lst2, e_opt, k_opt, e_slc, k_slc1, k_slc2, k_slc3, k_slc4, e_chain, k_ch1, k_ch2, k_ch3t, k_ch3f, k_ch4, k_ch5, e_dict0, e_callB, k_callB, e_meth, k_meth1, k_meth2, k_meth3, k_isStr, e_call, k_call1, k_call2, e_seq, k_seqN, k_seqR, e_ret, k_ret, e_asg, k_asg1, k_asg2, e_aug, k_aug1, k_aug2, k_aug3, e_if, k_if1, k_if0, e_expr, k_expr, e_sub, k_sub1, k_sub2, k_sub3, k_untup2, k_untup3, e_sets0, e_sets, k_sets, e_set2, k_set2, e_forStr, k_forStr, e_pin, k_pin, e_forDict, k_forDict1, k_forDict2, e_forList, k_forList1, k_forList2, e_forEnum, k_forEnum1, k_forEnum2, e_forRange, e_comp]
    exact h1
  | true =>
    have e1 : lowIf true p = lowL p := rfl
    have e2 : lowIf true t = lowL t := rfl
    rw [e1, e2] at h1
    simp only [get_0, set_0, get_1, set_1, get_2, set_2, get_3, set_3, get_4, set_4, get_5, set_5, get_6, set_6, get_7, set_7, get_8, set_8, get_9, set_9, e_kV, e_kB, e_nilS, e_noneO, e_nextF, e_bin, k_bin1, k_bin2, e_cmpV, k_cmpV1, k_cmpV2, k_cmpV3, e_cmpB, k_cmpB1, k_cmpB2, k_cmpB3, e_notB, k_notB, e_andB, k_andB1, k_andB0, e_orB, k_orB1, k_orB0, e_truB, k_truB1, k_truB2, k_truth, e_negV, k_neg, e_andV, k_andV1, k_andV0, e_orV, k_orV1, k_orV0, e_iteV, k_ite1, k_ite0, e_cons, k_cons1, k_cons2, e_tup, k_tup1, k_tup2, k_tup3, e_lst, k_lst0, k_lst1, k_lst2, e_opt, k_opt, e_slc, k_slc1, k_slc2, k_slc3, k_slc4, e_chain, k_ch1, k_ch2, k_ch3t, k_ch3f, k_ch4, k_ch5, e_dict0, e_callB, k_callB, e_meth, k_meth1, k_meth2, k_meth3, k_isStr, e_call, k_call1, k_call2, e_seq, k_seqN, k_seqR, e_ret, k_ret, e_asg, k_asg1, k_asg2, e_aug, k_aug1, k_aug2, k_aug3, e_if, k_if1, k_if0, e_expr, k_expr, e_sub, k_sub1, k_sub2, k_sub3, k_untup2, k_untup3, e_sets0, e_sets, k_sets, e_set2, k_set2, e_forStr, k_forStr, e_pin, k_pin, e_forDict, k_forDict1, k_forDict2, e_forList, k_forList1, k_forList2, e_forEnum, k_forEnum1, k_forEnum2, e_forRange, e_comp, folded_val p (by omega) o q, folded_val t ht o q]
    exact h1
end NP
end

section
set_option maxHeartbeats 1000000
set_option backward.defeqAttrib.useBackward true
namespace NP

/-- the rest of the pattern fits the rest of the text -/
inductive Fit (p : List Nat) : Nat → List Nat → Prop
  | done {i : Nat} : i = p.length → Fit p i []
  | skip {i : Nat} {t : List Nat} : p[i]? = some 42 → Fit p (i + 1) t → Fit p i t
  | eat {i c : Nat} {t : List Nat} : p[i]? = some 42 → Fit p i t → Fit p i (c :: t)
  | one {i c x : Nat} {t : List Nat} : p[i]? = some x → x ≠ 42 → (onT p i c).1 = true → Fit p (onT p i c).2 t → Fit p i (c :: t)

theorem none_of_ge {l : List Nat} {i : Nat} (h : l.length ≤ i) : l[i]? = none := List.getElem?_eq_none h
theorem fit_end {p t : List Nat} : Fit p p.length t ↔ t = [] := by
  constructor
  · intro h
    cases h with
    | done _ => rfl
    | skip h _ => rw [none_of_ge (Nat.le_refl _)] at h; cases h
    | eat h _ => rw [none_of_ge (Nat.le_refl _)] at h; cases h
    | one h _ _ _ => rw [none_of_ge (Nat.le_refl _)] at h; cases h
  · rintro rfl
    exact .done rfl
theorem fit_star_nil {p : List Nat} {i : Nat} (h : p[i]? = some 42) : Fit p i [] ↔ Fit p (i + 1) [] := by
  constructor
  · intro h1
    cases h1 with
    | done e => rw [e, none_of_ge (Nat.le_refl _)] at h; cases h
    | skip _ h2 => exact h2
  · exact .skip h
theorem fit_star_cons {p t : List Nat} {i c : Nat} (h : p[i]? = some 42) : Fit p i (c :: t) ↔ Fit p (i + 1) (c :: t) ∨ Fit p i t := by
  constructor
  · intro h1
    cases h1 with
    | skip _ h2 => exact .inl h2
    | eat _ h2 => exact .inr h2
    | one h2 h3 _ _ => rw [h] at h2; exact absurd (Option.some.inj h2).symm h3
  · rintro (h1 | h1)
    · exact .skip h h1
    · exact .eat h h1
theorem fit_one_nil {p : List Nat} {i x : Nat} (h : p[i]? = some x) (hx : x ≠ 42) : ¬ Fit p i [] := by
  intro h1
  cases h1 with
  | done e => rw [e, none_of_ge (Nat.le_refl _)] at h; cases h
  | skip h2 _ => rw [h] at h2; exact hx (Option.some.inj h2)
theorem fit_one_cons {p t : List Nat} {i c x : Nat} (h : p[i]? = some x) (hx : x ≠ 42) : Fit p i (c :: t) ↔ (onT p i c).1 = true ∧ Fit p (onT p i c).2 t := by
  constructor
  · intro h1
    cases h1 with
    | skip h2 _ => rw [h] at h2; exact absurd (Option.some.inj h2) hx
    | eat h2 _ => rw [h] at h2; exact absurd (Option.some.inj h2) hx
    | one _ _ h3 h4 => exact ⟨h3, h4⟩
  · rintro ⟨h3, h4⟩
    exact .one h hx h3 h4

theorem run_fit {p t : List Nat} {i : Nat} : ∀ (n x : Nat), x = i + n → Run p i x → Fit p x t → Fit p i t
  | 0, x, e, _, h => by have : x = i := by omega
                        exact this ▸ h
  | n + 1, x, e, hr, h => by
    have h42 : p[i + n]? = some 42 := hr.2 (i + n) (by omega) (by omega)
    exact run_fit n (i + n) rfl ⟨by omega, fun j a b => hr.2 j a (by omega)⟩ (.skip h42 (by rw [show i + n + 1 = x by omega]; exact h))
theorem fit_run {p t : List Nat} {i x : Nat} (hr : Run p i x) (h : Fit p x t) : Fit p i t := run_fit (x - i) x (by have := hr.1; omega) hr h
theorem run_step {p : List Nat} {i x : Nat} (hr : Run p i x) (h : p[x]? = some 42) : Run p i (x + 1) :=
  ⟨by have := hr.1; omega, fun j a b => by
    by_cases hj : j = x
    · rw [hj]; exact h
    · exact hr.2 j a (by omega)⟩
theorem run_refl (p : List Nat) (i : Nat) : Run p i i := ⟨Nat.le_refl _, fun j a b => by omega⟩
theorem last_star {p : List Nat} (h : p[p.length - 1]? = some 42) : ∀ t, Fit p (p.length - 1) t
  | [] => .skip h (.done (by have := place_lt h; omega))
  | c :: t => .eat h (last_star h t)

noncomputable def Turn (p : List Nat) (c k x : Nat) : Prop := (p[k]? = some 42 ∧ Run p k x) ∨ (¬ p[k]? = some 42 ∧ k < p.length ∧ (onT p k c).1 = true ∧ Run p (onT p k c).2 x)
theorem mem_turn (p : List Nat) (hp : p.length ≤ 90) (c k : Nat) (as : List Nat) (x : Nat) (hk : k ≤ p.length) : x ∈ turnK p c k as ↔ x ∈ as ∨ Turn p c k x := by
  unfold turnK Turn
  by_cases h42 : p[k]? = some 42
  · rw [if_pos h42, mem_putK p hp k as x hk]
    simp [h42]
  · rw [if_neg h42]
    by_cases hlt : k < p.length
    · rw [if_pos hlt]
      cases hon : (onT p k c).1 with
      | true =>
        rw [if_pos rfl, mem_putK p hp _ as x (onT_le p k c hp hlt hon).2]
        simp only [h42, hlt, false_and, false_or, not_false_eq_true, true_and]
      | false => simp only [h42, hlt, false_and, false_or, not_false_eq_true, true_and, Bool.false_eq_true, if_false, or_false]
    · rw [if_neg hlt]
      simp [h42, hlt]
theorem mem_step (p : List Nat) (hp : p.length ≤ 90) (c : Nat) : ∀ (ks as : List Nat) (x : Nat), (∀ k ∈ ks, k ≤ p.length) → (x ∈ stepK p c ks as ↔ x ∈ as ∨ ∃ k ∈ ks, Turn p c k x)
  | [], as, x, _ => by simp [stepK]
  | k :: ks, as, x, h => by
    unfold stepK
    rw [mem_step p hp c ks _ x fun y hy => h y (.tail _ hy), mem_turn p hp c k as x (h k (.head _))]
    constructor
    · rintro ((h1 | h1) | ⟨y, hy, h1⟩)
      · exact .inl h1
      · exact .inr ⟨k, .head _, h1⟩
      · exact .inr ⟨y, .tail _ hy, h1⟩
    · rintro (h1 | ⟨y, hy, h1⟩)
      · exact .inl (.inl h1)
      · rcases List.mem_cons.mp hy with rfl | hy
        · exact .inl (.inr h1)
        · exact .inr ⟨y, hy, h1⟩

theorem KsOk.put {p ks : List Nat} (hk : KsOk p ks) (hp : p.length ≤ 90) {i : Nat} (hi : i ≤ p.length) : KsOk p (putK p i ks) :=
  (put_val p hp 0 i [] (by simp) ks [.dict (dictOf ks)] hi hk rfl).2
theorem KsOk.turn {p as : List Nat} (hk : KsOk p as) (hp : p.length ≤ 90) (c k : Nat) (hkp : k ≤ p.length) : KsOk p (turnK p c k as) := by
  unfold turnK
  split
  · exact hk.put hp hkp
  · split
    · rename_i hlt
      split
      · rename_i hon
        exact hk.put hp (onT_le p k c hp hlt hon).2
      · exact hk
    · exact hk
theorem KsOk.step {p : List Nat} (hp : p.length ≤ 90) (c : Nat) : ∀ {ks as : List Nat}, KsOk p as → (∀ k ∈ ks, k ≤ p.length) → KsOk p (stepK p c ks as)
  | [], as, hk, _ => hk
  | k :: ks, as, hk, h => KsOk.step (ks := ks) (as := turnK p c k as) hp c (hk.turn hp c k (h k (.head _))) fun y hy => h y (.tail _ hy)

noncomputable def Closed (p ks : List Nat) : Prop := ∀ k ∈ ks, p[k]? = some 42 → k + 1 ∈ ks
theorem closed_step (p : List Nat) (hp : p.length ≤ 90) (c : Nat) (ks : List Nat) (h : ∀ k ∈ ks, k ≤ p.length) : Closed p (stepK p c ks []) := by
  intro x hx h42
  rw [mem_step p hp c ks [] x h] at hx
  rw [mem_step p hp c ks [] (x + 1) h]
  rcases hx with hx | ⟨k, hk, hx⟩
  · cases hx
  · refine .inr ⟨k, hk, ?_⟩
    rcases hx with ⟨a, b⟩ | ⟨a, b, d, e⟩
    · exact .inl ⟨a, run_step b h42⟩
    · exact .inr ⟨a, b, d, run_step e h42⟩

theorem fit_closed_nil {p ks : List Nat} (hc : Closed p ks) (hle : ∀ k ∈ ks, k ≤ p.length) : ∀ (n k : Nat), p.length - k = n → k ∈ ks → Fit p k [] → p.length ∈ ks := by
  intro n
  induction n with
  | zero =>
    intro k e hk _
    have := hle k hk
    have : k = p.length := by omega
    exact this ▸ hk
  | succ n ih =>
    intro k e hk hf
    cases hf with
    | done h => omega
    | skip h h2 => exact ih (k + 1) (by omega) (hc k hk h) h2

theorem fit_step {p ks : List Nat} (hp : p.length ≤ 90) (hc : Closed p ks) (hle : ∀ k ∈ ks, k ≤ p.length) (c : Nat) (t : List Nat) :
    (∃ k ∈ ks, Fit p k (c :: t)) ↔ ∃ x ∈ stepK p c ks [], Fit p x t := by
  constructor
  · rintro ⟨k, hk, hf⟩
    have key : ∀ (n k : Nat), p.length - k = n → k ∈ ks → Fit p k (c :: t) → ∃ x ∈ stepK p c ks [], Fit p x t := by
      intro n
      induction n with
      | zero =>
        intro k e hk hf
        have := hle k hk
        have e : k = p.length := by omega
        rw [e, fit_end] at hf
        cases hf
      | succ n ih =>
        intro k e hk hf
        cases hf with
        | skip h h2 => exact ih (k + 1) (by omega) (hc k hk h) h2
        | eat h h2 => exact ⟨k, (mem_step p hp c ks [] k hle).mpr (.inr ⟨k, hk, .inl ⟨h, run_refl p k⟩⟩), h2⟩
        | one h hx h3 h4 => exact ⟨_, (mem_step p hp c ks [] _ hle).mpr (.inr ⟨k, hk, .inr ⟨fun h5 => hx (Option.some.inj (h.symm.trans h5)), place_lt h, h3, run_refl p _⟩⟩), h4⟩
    exact key _ k rfl hk hf
  · rintro ⟨x, hx, hf⟩
    rcases (mem_step p hp c ks [] x hle).mp hx with hx | ⟨k, hk, hx⟩
    · cases hx
    · refine ⟨k, hk, ?_⟩
      rcases hx with ⟨a, b⟩ | ⟨a, b, d, e⟩
      · exact .eat a (fit_run b hf)
      · obtain ⟨y, hy⟩ : ∃ y, p[k]? = some y := ⟨_, List.getElem?_eq_getElem b⟩
        exact .one hy (fun h5 => a (h5 ▸ hy)) d (fit_run e hf)

theorem fitsL_iff (p : List Nat) (hp : p.length ≤ 90) : ∀ (t ks : List Nat), KsOk p ks → Closed p ks → (fitsL p t ks = true ↔ ∃ k ∈ ks, Fit p k t)
  | [], ks, hk, hc => by
    unfold fitsL
    rw [decide_eq_true_eq]
    exact ⟨fun h => ⟨_, h, .done rfl⟩, fun ⟨k, h1, h2⟩ => fit_closed_nil hc hk.le _ k rfl h1 h2⟩
  | c :: t, ks, hk, hc => by
    unfold fitsL
    by_cases hE : p[p.length - 1]? = some 42 ∧ p.length - 1 ∈ ks
    · rw [if_pos hE]
      exact ⟨fun _ => ⟨_, hE.2, last_star hE.1 _⟩, fun _ => rfl⟩
    · rw [if_neg hE, fit_step hp hc hk.le c t]
      by_cases hem : (stepK p c ks []).isEmpty = true
      · rw [if_pos hem]
        have : stepK p c ks [] = [] := by simpa using hem
        rw [this]
        simp
      · rw [if_neg hem]
        exact fitsL_iff p hp t _ (KsOk.step hp c ⟨List.nodup_nil, fun _ h => nomatch h⟩ hk.le) (closed_step p hp c ks hk.le)
theorem fitsP_iff (p t : List Nat) (hp : p.length ≤ 90) : fitsP p t = true ↔ Fit p 0 t := by
  unfold fitsP
  have h0 : KsOk p (putK p 0 []) := KsOk.put ⟨List.nodup_nil, fun _ h => nomatch h⟩ hp (Nat.zero_le _)
  rw [fitsL_iff p hp t _ h0 (fun k hk h42 => by
    rw [mem_putK p hp 0 [] _ (Nat.zero_le _)] at hk ⊢
    rcases hk with hk | hk
    · cases hk
    · exact .inr (run_step hk h42))]
  constructor
  · rintro ⟨k, hk, hf⟩
    rw [mem_putK p hp 0 [] _ (Nat.zero_le _)] at hk
    rcases hk with hk | hk
    · cases hk
    · exact fit_run hk hf
  · intro h
    exact ⟨0, (mem_putK p hp 0 [] _ (Nat.zero_le _)).mpr (.inr (run_refl p 0)), h⟩

-- a text with all its signs behind a backslash
noncomputable def quoteL (t : List Nat) : List Nat := (t.map fun c => [92, c]).flatten
theorem quoteL_len (t : List Nat) : (quoteL t).length = 2 * t.length := by
  unfold quoteL
  induction t with
  | nil => rfl
  | cons c t ih => simp only [List.map_cons, List.flatten_cons, List.length_append, List.length_cons, List.length_nil]; omega
theorem quoteL_app (a b : List Nat) : quoteL (a ++ b) = quoteL a ++ quoteL b := by simp [quoteL]
theorem quoteL_at (t : List Nat) : ∀ (i c : Nat), t[i]? = some c → (quoteL t)[2 * i]? = some 92 ∧ (quoteL t)[2 * i + 1]? = some c := by
  induction t with
  | nil => intro i c h; cases h
  | cons d t ih =>
    intro i c h
    have e : quoteL (d :: t) = 92 :: d :: quoteL t := by simp [quoteL]
    rw [e]
    cases i with
    | zero => cases h; exact ⟨rfl, rfl⟩
    | succ i =>
      obtain ⟨h1, h2⟩ := ih i c h
      have e1 : 2 * (i + 1) = 2 * i + 1 + 1 := by omega
      rw [e1]
      exact ⟨h1, h2⟩
theorem fit_quote (t : List Nat) : ∀ (s : List Nat) (i : Nat), i ≤ t.length → (Fit (quoteL t) (2 * i) s ↔ s = t.drop i) := by
  intro s
  induction s with
  | nil =>
    intro i hi
    rcases Nat.lt_or_ge i t.length with h | h
    · obtain ⟨c, hc⟩ : ∃ c, t[i]? = some c := ⟨_, List.getElem?_eq_getElem h⟩
      refine ⟨fun hf => absurd hf (fit_one_nil (quoteL_at t i c hc).1 (by decide)), fun e => ?_⟩
      have := congrArg List.length e
      rw [List.length_drop] at this
      simp at this
      omega
    · have : i = t.length := by omega
      subst this
      rw [List.drop_length]
      exact ⟨fun _ => rfl, fun _ => .done (quoteL_len t).symm⟩
  | cons d s ih =>
    intro i hi
    rcases Nat.lt_or_ge i t.length with h | h
    · obtain ⟨c, hc⟩ : ∃ c, t[i]? = some c := ⟨_, List.getElem?_eq_getElem h⟩
      obtain ⟨h1, h2⟩ := quoteL_at t i c hc
      have hon : onT (quoteL t) (2 * i) d = (decide (c = d), 2 * (i + 1)) := by
        unfold onT
        rw [h1]
        dsimp only
        rw [if_neg (by decide), if_pos rfl, h2]
        have : (some c = some d) = (c = d) := propext ⟨Option.some.inj, fun e => e ▸ rfl⟩
        simp only [this]
        rfl
      rw [fit_one_cons h1 (by decide), hon]
      dsimp only
      rw [ih (i + 1) (by omega), decide_eq_true_eq]
      have hd : t.drop i = c :: t.drop (i + 1) := by
        rw [List.drop_eq_getElem_cons h]
        rw [List.getElem?_eq_getElem h] at hc
        rw [Option.some.inj hc]
      rw [hd]
      constructor
      · rintro ⟨e1, e2⟩; rw [e1, e2]
      · intro e
        injection e with e1 e2
        exact ⟨e1.symm, e2⟩
    · have : i = t.length := by omega
      subst this
      rw [List.drop_length]
      constructor
      · intro hf
        have : 2 * t.length = (quoteL t).length := (quoteL_len t).symm
        rw [this, fit_end] at hf
        cases hf
      · intro h; cases h
theorem fitsP_quote (t s : List Nat) (ht : t.length ≤ 40) : fitsP (quoteL t) s = decide (s = t) := by
  rw [Bool.eq_iff_iff, fitsP_iff _ _ (by rw [quoteL_len]; omega), decide_eq_true_eq]
  have := fit_quote t s 0 (Nat.zero_le _)
  simpa using this
theorem low_bs : lowF 92 = [92] := by decide +kernel
theorem low_quote (t : List Nat) : lowL (quoteL t) = quoteL (lowL t) := by
  induction t with
  | nil => rfl
  | cons c t ih =>
    have e1 : quoteL (c :: t) = 92 :: c :: quoteL t := by simp [quoteL]
    have e2 : lowL (92 :: c :: quoteL t) = lowF 92 ++ (lowF c ++ lowL (quoteL t)) := by simp [lowL]
    have e3 : lowL (c :: t) = lowF c ++ lowL t := by simp [lowL]
    rw [e1, e2, e3, low_bs, ih, quoteL_app]
    have h := lowF_len c
    cases hc : lowF c with
    | nil => rw [hc] at h; cases h
    | cons a r =>
      rw [hc] at h
      have : r = [] := List.length_eq_zero_iff.mp (by simpa using h)
      subst this
      simp [quoteL]
end NP
end

section
set_option maxHeartbeats 2000000
set_option backward.defeqAttrib.useBackward true
namespace NP

noncomputable def fitB (p : List Nat) (i : Nat) (t : List Nat) : Bool := @decide (Fit p i t) (Classical.propDecidable _)
theorem fitB_iff {p : List Nat} {i : Nat} {t : List Nat} : fitB p i t = true ↔ Fit p i t := by
  unfold fitB
  exact @decide_eq_true_iff _ (Classical.propDecidable _)
theorem fitB_eq {p : List Nat} {i : Nat} {t : List Nat} {b : Bool} (h : Fit p i t ↔ b = true) : fitB p i t = b := by
  rw [Bool.eq_iff_iff, fitB_iff, h]
/-- a row: for each place of the text, from the place on -/
noncomputable def rowR (p : List Nat) (i : Nat) : List Nat → List V
  | [] => [.bool (fitB p i [])]
  | c :: t => .bool (fitB p i (c :: t)) :: rowR p i t
theorem rowR_len (p : List Nat) (i : Nat) : ∀ t, (rowR p i t).length = t.length + 1
  | [] => rfl
  | c :: t => by simp [rowR, rowR_len p i t]
theorem rowR_at (p : List Nat) (i : Nat) : ∀ (t : List Nat) (j : Nat), j ≤ t.length → (rowR p i t)[j]? = some (.bool (fitB p i (t.drop j)))
  | [], j, h => by
    have : j = 0 := by simpa using h
    subst this; rfl
  | c :: t, 0, _ => rfl
  | c :: t, j + 1, h => by
    show (rowR p i t)[j]? = _
    rw [rowR_at p i t j (by simpa using h)]
    rfl
theorem rowR_head (p : List Nat) (i : Nat) (t : List Nat) : ∃ r, rowR p i t = .bool (fitB p i t) :: r := by cases t <;> exact ⟨_, rfl⟩
theorem rowR_end (p : List Nat) : ∀ t, (List.replicate t.length [V.bool false]).flatten ++ [V.bool true] = rowR p p.length t
  | [] => by
    have : fitB p p.length [] = true := fitB_iff.mpr (fit_end.mpr rfl)
    simp [rowR, this]
  | c :: t => by
    rw [List.length_cons, List.replicate_succ, List.flatten_cons]
    show V.bool false :: ((List.replicate t.length [V.bool false]).flatten ++ [V.bool true]) = _
    rw [rowR_end p t]
    show _ = V.bool (fitB p p.length (c :: t)) :: _
    have : fitB p p.length (c :: t) = false := by
      rw [Bool.eq_false_iff]
      intro h
      have := fit_end.mp (fitB_iff.mp h)
      cases this
    rw [this]

noncomputable def downL : Nat → List V
  | 0 => []
  | k + 1 => .int (k : Int) :: downL k
theorem range_down : ∀ (n : Nat), (List.range n).map (fun (i : Nat) => V.int (((n : Int) - 1) + (i : Int) * (-1))) = downL n
  | 0 => rfl
  | n + 1 => by
    rw [List.range_succ_eq_map, List.map_cons, List.map_map]
    unfold downL
    congr 1
    · congr 1; omega
    · rw [← range_down n]
      refine List.map_congr_left fun i _ => ?_
      simp only [Function.comp]
      congr 1
      omega
theorem rangeL_down (n : Nat) (h : n ≤ 2000) : rangeL ((n : Int) - 1) (-1) (-1) = downL n := by
  unfold rangeL
  rw [rangeSize_down _ (by rw [show (n : Int) - 1 + 1 = (n : Int) by omega]; exact inR_nat h)]
  rw [show ((n : Int) - 1 + 1).toNat = n by omega]
  exact range_down n
theorem v_down {H : V → St → Option St} {G : ES1} {n : Nat} {st : St} (h : n ≤ 2000) : forRK H G (some ([.int ((n : Int) - 1), .int (-1), .int (-1)], st)) = forF H G (downL n) st := by
  rw [k_forRange3, if_pos ⟨rfl, rfl, by rw [show (n : Int) - 1 + 1 = (n : Int) by omega]; exact inR_nat h⟩, rangeL_down n h]
theorem v_sub1 {n : Nat} {st : St} : subF (.int (n : Int)) (.int 1) st = some (.int ((n : Int) - 1), st) := by rfl

theorem dict1_eval {F G : EV1} {st st1 st2 : St} {i : Int} {v : V} (h1 : F (newD st) = some (.int i, st1)) (h2 : G st1 = some (v, st2)) (h3 : st2.obs[st.obs.length]? = some (.dict [])) :
    dict1 F G st = some (.loc st.obs.length, { st2 with obs := st2.obs.set st.obs.length (.dict [(i, v)]) }) := by
  unfold dict1
  rw [h1]
  show (G st1).bind _ = _
  rw [h2]
  show (match V.int i, st2.obs[st.obs.length]? with | .int i, some (.dict []) => some (V.loc st.obs.length, ({ st2 with obs := st2.obs.set st.obs.length (.dict [(i, v)]) } : St)) | _, _ => none) = _
  rw [h3]
theorem dget_dput (kvs : List (Int × V)) (i j : Int) (v : V) : dget (dput kvs i v) j = if j = i then some v else dget kvs j := by
  unfold dput
  by_cases h : kvs.any (fun kv => decide (kv.1 = i)) = true
  · rw [if_pos h]
    unfold dget
    induction kvs with
    | nil => cases h
    | cons kv r ih =>
      rw [List.map_cons, List.find?_cons, List.find?_cons]
      by_cases hk : kv.1 = i
      · rw [if_pos hk]
        by_cases hj : j = i
        · rw [if_pos hj]
          simp [hk, hj]
        · rw [if_neg hj]
          have : ¬ kv.1 = j := fun e => hj (e ▸ hk)
          simp only [this, decide_false]
          by_cases hr : r.any (fun kv => decide (kv.1 = i)) = true
          · rw [ih hr, if_neg hj]
          · have : r.map (fun kv => if kv.1 = i then (kv.1, v) else kv) = r := by
              have hno : ∀ x ∈ r, ¬ x.1 = i := fun x hx e => hr (List.any_eq_true.mpr ⟨x, hx, by simpa using e⟩)
              conv => rhs; rw [← List.map_id r]
              refine List.map_congr_left fun x hx => ?_
              rw [if_neg (hno x hx)]; rfl
            rw [this]
      · rw [if_neg hk]
        have hr : r.any (fun kv => decide (kv.1 = i)) = true := by
          rw [List.any_cons] at h
          simpa [hk] using h
        by_cases hj : kv.1 = j
        · simp only [hj, decide_true]
          have : ¬ j = i := fun e => hk (hj.trans e)
          rw [if_neg this]
        · simp only [hj, decide_false]
          exact ih hr
  · rw [if_neg h]
    unfold dget
    rw [List.find?_append]
    by_cases hj : j = i
    · subst hj
      rw [if_pos rfl]
      have : kvs.find? (fun kv => decide (kv.1 = j)) = none := by
        rw [List.find?_eq_none]
        intro x hx e
        exact h (List.any_eq_true.mpr ⟨x, hx, e⟩)
      rw [this]
      simp
    · rw [if_neg hj]
      have : ¬ i = j := fun e => hj e.symm
      simp [this]
theorem dput_len (kvs : List (Int × V)) (i : Int) (v : V) : (dput kvs i v).length ≤ kvs.length + 1 := by
  unfold dput
  split
  · rw [List.length_map]; omega
  · simp

section
variable {e : List (Option V)} {o : List Ob} {q : List Nat} {n m i j : Nat} {v : V} {kvs : List (Int × V)} {vs : List V} {k : Int}
theorem v_dget (h : o[n]? = some (.dict kvs)) (h2 : dget kvs k = some v) : itemF (.loc n) (.int k) ⟨e, o, q⟩ = some (v, ⟨e, o, q⟩) := by
  show (match o[n]? with | some (.list vs) => _ | some (.dict kvs) => (dget kvs k).map fun v => (v, (⟨e, o, q⟩ : St)) | none => none) = _
  rw [h]; dsimp only; rw [h2]; rfl
theorem v_litem (h : o[n]? = some (.list vs)) (h2 : vs[i]? = some v) (hi : i ≤ 2000) : itemF (.loc n) (.int (i : Int)) ⟨e, o, q⟩ = some (v, ⟨e, o, q⟩) := by
  show (match o[n]? with | some (.list vs) => if inR (i : Int) then (vs[(i : Int).toNat]?).map fun v => (v, (⟨e, o, q⟩ : St)) else none | some (.dict kvs) => _ | none => none) = _
  rw [h]; dsimp only; rw [if_pos (inR_nat hi), Int.toNat_natCast, h2]; rfl
theorem v_litem0 (h : o[n]? = some (.list (v :: vs))) : itemF (.loc n) (.int 0) ⟨e, o, q⟩ = some (v, ⟨e, o, q⟩) := v_litem (i := 0) h rfl (by omega)
theorem v_putKV (h : o[n]? = some (.dict kvs)) (hl : kvs.length ≤ 2000) (hq : n ∉ q) : putF (.loc n) (.int k) v ⟨e, o, q⟩ = some ⟨e, o.set n (.dict (dput kvs k v)), q⟩ := by
  show (if n ∈ q then none else match o[n]? with | some (.dict kvs) => if kvs.length ≤ 2000 then some (St.mk e (o.set n (.dict (dput kvs k v))) q) else none | some (.list vs) => _ | none => none) = _
  rw [if_neg hq, h]; dsimp only; rw [if_pos hl]
theorem v_mul (h : o[n]? = some (.list vs)) (hi : vs.length * i ≤ 256) (hi2 : i ≤ 2000) : mulF (.loc n) (.int (i : Int)) ⟨e, o, q⟩ = some (.loc o.length, ⟨e, o ++ [.list (List.replicate i vs).flatten], q⟩) := by
  show (match o[n]? with | some (.list vs) => if inR (i : Int) ∧ vs.length * (i : Int).toNat ≤ 256 then some (V.loc o.length, (⟨e, o ++ [Ob.list (List.replicate (i : Int).toNat vs).flatten], q⟩ : St)) else none | _ => none) = _
  rw [h]; dsimp only; rw [Int.toNat_natCast, if_pos ⟨inR_nat hi2, hi⟩]
theorem v_addl {us : List V} (h : o[n]? = some (.list us)) (h2 : o[m]? = some (.list vs)) (hl : us.length + vs.length ≤ 2000) : addF2 (.loc n) (.loc m) ⟨e, o, q⟩ = some (.loc o.length, ⟨e, o ++ [.list (us ++ vs)], q⟩) := by
  show (match o[n]?, o[m]? with | some (.list u), some (.list v) => if u.length + v.length ≤ 2000 then some (V.loc o.length, (⟨e, o ++ [Ob.list (u ++ v)], q⟩ : St)) else none | _, _ => none) = _
  rw [h, h2]; dsimp only; rw [if_pos hl]
end

/-- the rows of the places from k on stand -/
noncomputable def RowsOk (p t : List Nat) (d k : Nat) (o : List Ob) : Prop := ∃ kvs, o[d]? = some (.dict kvs) ∧ kvs.length ≤ p.length + 1 - k ∧ ∀ j, k ≤ j → j ≤ p.length → ∃ m, dget kvs (j : Int) = some (.loc m) ∧ m ≠ d ∧ o[m]? = some (.list (rowR p j t))
theorem RowsOk.keeps {p t : List Nat} {d k : Nat} {o o' : List Ob} (h : RowsOk p t d k o) (hk : Keeps o o') : RowsOk p t d k o' := by
  obtain ⟨kvs, h1, h2, h3⟩ := h
  refine ⟨kvs, hk.get h1, h2, fun j a b => ?_⟩
  obtain ⟨m, m1, m2, m3⟩ := h3 j a b
  exact ⟨m, m1, m2, hk.get m3⟩

noncomputable def lfOr : EV1 := (orV (bin (bin (getF 2) (bin (getF 3) (kV (.int 1)) addF2) itemF) (getF 7) itemF) (bin (getF 6) (kV (.int 0)) itemF))
noncomputable def lfAnd : EV1 := (andV (getF 8) (bin (bin (getF 2) (getF 9) itemF) (bin (getF 7) (kV (.int 1)) addF2) itemF))
noncomputable def lfB : ES1 :=
  (seqF (ifF (cmpB (bin (getF 0) (getF 3) itemF) (kV (.str [42])) eqF2) (seqF (exprF (methB (getF 6) isLst (consF (kV (.int 0)) (consF lfOr nilS)) insF))
    nextF) (seqF (asgF (callF (consF (getF 0) (consF (getF 3) (consF (getF 4) (consF (getF 5) (consF (bin (getF 1) (getF 7) itemF) nilS))))) law_one_fn) (untupF 2 (setsF [8, 9])))
    (seqF (exprF (methB (getF 6) isLst (consF (kV (.int 0)) (consF lfAnd nilS)) insF))
    nextF)))
    nextF)
theorem lfB_eq : law_fits_b2 = lfB := rfl
/-- the inner loop: a row, from the text's end to its beginning -/
theorem lf_inner (p t : List Nat) (hp : p.length ≤ 90) (ht : t.length ≤ 200) (d k m en r : Nat) (hk : k < p.length) (q : List Nat) (hrq : r ∉ q) :
    ∀ (n : Nat) (o : List Ob) (a7 a8 a9 : Option V), n ≤ t.length → RowsOk p t d (k + 1) o →
      (p[k]? = some 91 → o[m]? = some (.list ((mems p 100 (k + 1)).1.map memV)) ∧ en = (mems p 100 (k + 1)).2) → d < r → m < r → (∀ kvs j m', o[d]? = some (.dict kvs) → k + 1 ≤ j → j ≤ p.length → dget kvs (j : Int) = some (.loc m') → m' < r) →
      o[r]? = some (.list (rowR p k (t.drop n))) →
      ∃ a7' a8' a9', forF (setF 7) law_fits_b2 (downL n) ⟨[some (.str p), some (.str t), some (.loc d), some (.int (k : Int)), some (.loc m), some (.int (en : Int)), some (.loc r), a7, a8, a9], o, q⟩ =
        some (.next, ⟨[some (.str p), some (.str t), some (.loc d), some (.int (k : Int)), some (.loc m), some (.int (en : Int)), some (.loc r), a7', a8', a9'], o.set r (.list (rowR p k t)), q⟩)
  | 0, o, a7, a8, a9, hn, hR, hm, hdr, hmr, hlt, hr => by
    refine ⟨a7, a8, a9, ?_⟩
    rw [List.drop_zero] at hr
    simp only [downL, for_nil, X.set_same hr]
  | n + 1, o, a7, a8, a9, hn, hR, hm, hdr, hmr, hlt, hr => by
    have hp6 : p.length ≤ 2000 := by omega
    obtain ⟨x, hx⟩ : ∃ x, p[k]? = some x := ⟨_, List.getElem?_eq_getElem hk⟩
    obtain ⟨c, hc⟩ : ∃ c, t[n]? = some c := ⟨_, List.getElem?_eq_getElem (by omega)⟩
    have hd : t.drop n = c :: t.drop (n + 1) := by
      rw [List.drop_eq_getElem_cons (by omega)]
      rw [List.getElem?_eq_getElem (by omega)] at hc
      rw [Option.some.inj hc]
    obtain ⟨kvs, r1, r2, r3⟩ := hR
    have hs : setF 7 (.int (n : Int)) ⟨[some (.str p), some (.str t), some (.loc d), some (.int (k : Int)), some (.loc m), some (.int (en : Int)), some (.loc r), a7, a8, a9], o, q⟩ = some ⟨[some (.str p), some (.str t), some (.loc d), some (.int (k : Int)), some (.loc m), some (.int (en : Int)), some (.loc r), some (.int (n : Int)), a8, a9], o, q⟩ := rfl
    have hrl : (rowR p k (t.drop (n + 1))).length ≤ 2000 := by rw [rowR_len, List.length_drop]; omega
    have key : ∃ b8 b9, law_fits_b2 ⟨[some (.str p), some (.str t), some (.loc d), some (.int (k : Int)), some (.loc m), some (.int (en : Int)), some (.loc r), some (.int (n : Int)), a8, a9], o, q⟩ = some (.next, ⟨[some (.str p), some (.str t), some (.loc d), some (.int (k : Int)), some (.loc m), some (.int (en : Int)), some (.loc r), some (.int (n : Int)), b8, b9], o.set r (.list (rowR p k (t.drop n))), q⟩) := by
      by_cases h42 : x = 42
      · subst h42
        obtain ⟨m', e1, e2, e3⟩ := r3 (k + 1) (Nat.le_refl _) hk
        obtain ⟨rr, hrr⟩ := rowR_head p k (t.drop (n + 1))
        have hr0 := hr
        rw [hrr] at hr0
        have hI := rowR_at p (k + 1) t n (by omega)
        refine ⟨a8, a9, ?_⟩
        have hrow : rowR p k (t.drop n) = .bool (fitB p k (t.drop n)) :: rowR p k (t.drop (n + 1)) := by rw [hd]; rfl
        have hf : Fit p k (t.drop n) ↔ Fit p (k + 1) (t.drop n) ∨ Fit p k (t.drop (n + 1)) := by rw [hd]; exact fit_star_cons hx
        have hor : lfOr ⟨[some (.str p), some (.str t), some (.loc d), some (.int (k : Int)), some (.loc m), some (.int (en : Int)), some (.loc r), some (.int (n : Int)), a8, a9], o, q⟩ = some (.bool (fitB p k (t.drop n)), ⟨[some (.str p), some (.str t), some (.loc d), some (.int (k : Int)), some (.loc m), some (.int (en : Int)), some (.loc r), some (.int (n : Int)), a8, a9], o, q⟩) := by
          cases hA : fitB p (k + 1) (t.drop n) with
          | true =>
            have hB : fitB p k (t.drop n) = true := fitB_iff.mpr (hf.mpr (.inl (fitB_iff.mp hA)))
            rw [hA] at hI
            rw [hB]
            simp only [lfOr, get_0, set_0, get_1, set_1, get_2, set_2, get_3, set_3, get_4, set_4, get_5, set_5, get_6, set_6, get_7, set_7, get_8, set_8, get_9, set_9, e_kV, e_kB, e_nilS, e_noneO, e_nextF, e_bin, k_bin1, k_bin2, e_cmpV, k_cmpV1, k_cmpV2, k_cmpV3, e_cmpB, k_cmpB1, k_cmpB2, k_cmpB3, e_notB, k_notB, e_andB, k_andB1, k_andB0, e_orB, k_orB1, k_orB0, e_truB, k_truB1, k_truB2, k_truth, e_negV, k_neg, e_andV, k_andV1, k_andV0, e_orV, k_orV1, k_orV0, e_iteV, k_ite1, k_ite0, e_cons, k_cons1, k_cons2, e_tup, k_tup1, k_tup2, k_tup3, e_lst, k_lst0, k_lst1, k_lst2, e_opt, k_opt, e_slc, k_slc1, k_slc2, k_slc3, k_slc4, e_chain, k_ch1, k_ch2, k_ch3t, k_ch3f, k_ch4, k_ch5, e_dict0, e_callB, k_callB, e_meth, k_meth1, k_meth2, k_meth3, k_isStr, e_call, k_call1, k_call2, e_seq, k_seqN, k_seqR, e_ret, k_ret, e_asg, k_asg1, k_asg2, e_aug, k_aug1, k_aug2, k_aug3, e_if, k_if1, k_if0, e_expr, k_expr, e_sub, k_sub1, k_sub2, k_sub3, k_untup2, k_untup3, e_sets0, e_sets, k_sets, e_set2, k_set2, e_forStr, k_forStr, e_pin, k_pin, e_forDict, k_forDict1, k_forDict2, e_forList, k_forList1, k_forList2, e_forEnum, k_forEnum1, k_forEnum2, e_forRange, e_comp, v_add2_1, v_dget r1 e1, v_litem e3 hI (by omega)]
          | false =>
            have hB : fitB p k (t.drop n) = fitB p k (t.drop (n + 1)) := by
              rw [Bool.eq_iff_iff, fitB_iff, fitB_iff, hf]
              have : ¬ Fit p (k + 1) (t.drop n) := fun h => by rw [fitB_iff.mpr h] at hA; cases hA
              exact ⟨fun h => h.elim (fun h => absurd h this) id, .inr⟩
            rw [hA] at hI
            rw [hB]
            simp only [lfOr, get_0, set_0, get_1, set_1, get_2, set_2, get_3, set_3, get_4, set_4, get_5, set_5, get_6, set_6, get_7, set_7, get_8, set_8, get_9, set_9, e_kV, e_kB, e_nilS, e_noneO, e_nextF, e_bin, k_bin1, k_bin2, e_cmpV, k_cmpV1, k_cmpV2, k_cmpV3, e_cmpB, k_cmpB1, k_cmpB2, k_cmpB3, e_notB, k_notB, e_andB, k_andB1, k_andB0, e_orB, k_orB1, k_orB0, e_truB, k_truB1, k_truB2, k_truth, e_negV, k_neg, e_andV, k_andV1, k_andV0, e_orV, k_orV1, k_orV0, e_iteV, k_ite1, k_ite0, e_cons, k_cons1, k_cons2, e_tup, k_tup1, k_tup2, k_tup3, e_lst, k_lst0, k_lst1, k_lst2, e_opt, k_opt, e_slc, k_slc1, k_slc2, k_slc3, k_slc4, e_chain, k_ch1, k_ch2, k_ch3t, k_ch3f, k_ch4, k_ch5, e_dict0, e_callB, k_callB, e_meth, k_meth1, k_meth2, k_meth3, k_isStr, e_call, k_call1, k_call2, e_seq, k_seqN, k_seqR, e_ret, k_ret, e_asg, k_asg1, k_asg2, e_aug, k_aug1, k_aug2, k_aug3, e_if, k_if1, k_if0, e_expr, k_expr, e_sub, k_sub1, k_sub2, k_sub3, k_untup2, k_untup3, e_sets0, e_sets, k_sets, e_set2, k_set2, e_forStr, k_forStr, e_pin, k_pin, e_forDict, k_forDict1, k_forDict2, e_forList, k_forList1, k_forList2, e_forEnum, k_forEnum1, k_forEnum2, e_forRange, e_comp, v_add2_1, v_dget r1 e1, v_litem e3 hI (by omega), v_litem0 hr0]
        rw [hrow, lfB_eq]
        simp only [lfB, get_0, set_0, get_1, set_1, get_2, set_2, get_3, set_3, get_4, set_4, get_5, set_5, get_6, set_6, get_7, set_7, get_8, set_8, get_9, set_9, e_kV, e_kB, e_nilS, e_noneO, e_nextF, e_bin, k_bin1, k_bin2, e_cmpV, k_cmpV1, k_cmpV2, k_cmpV3, e_cmpB, k_cmpB1, k_cmpB2, k_cmpB3, e_notB, k_notB, e_andB, k_andB1, k_andB0, e_orB, k_orB1, k_orB0, e_truB, k_truB1, k_truB2, k_truth, e_negV, k_neg, e_andV, k_andV1, k_andV0, e_orV, k_orV1, k_orV0, e_iteV, k_ite1, k_ite0, e_cons, k_cons1, k_cons2, e_tup, k_tup1, k_tup2, k_tup3, e_lst, k_lst0, k_lst1, k_lst2, e_opt, k_opt, e_slc, k_slc1, k_slc2, k_slc3, k_slc4, e_chain, k_ch1, k_ch2, k_ch3t, k_ch3f, k_ch4, k_ch5, e_dict0, e_callB, k_callB, e_meth, k_meth1, k_meth2, k_meth3, k_isStr, e_call, k_call1, k_call2, e_seq, k_seqN, k_seqR, e_ret, k_ret, e_asg, k_asg1, k_asg2, e_aug, k_aug1, k_aug2, k_aug3, e_if, k_if1, k_if0, e_expr, k_expr, e_sub, k_sub1, k_sub2, k_sub3, k_untup2, k_untup3, e_sets0, e_sets, k_sets, e_set2, k_set2, e_forStr, k_forStr, e_pin, k_pin, e_forDict, k_forDict1, k_forDict2, e_forList, k_forList1, k_forList2, e_forEnum, k_forEnum1, k_forEnum2, e_forRange, e_comp, v_item hx (show k ≤ 2000 by omega), v_eq1, decide_true, hor, v_isLst hr, v_ins hr hrl hrq]
      · have hone := one_val p k c m en hp hk o q hm
        have hrow : rowR p k (t.drop n) = .bool (fitB p k (t.drop n)) :: rowR p k (t.drop (n + 1)) := by rw [hd]; rfl
        have hf : Fit p k (t.drop n) ↔ (onT p k c).1 = true ∧ Fit p (onT p k c).2 (t.drop (n + 1)) := by rw [hd]; exact fit_one_cons hx h42
        refine ⟨some (.bool (onT p k c).1), some (.int ((onT p k c).2 : Int)), ?_⟩
        have hand : lfAnd ⟨[some (.str p), some (.str t), some (.loc d), some (.int (k : Int)), some (.loc m), some (.int (en : Int)), some (.loc r), some (.int (n : Int)), some (.bool (onT p k c).1), some (.int ((onT p k c).2 : Int))], o, q⟩ = some (.bool (fitB p k (t.drop n)), ⟨[some (.str p), some (.str t), some (.loc d), some (.int (k : Int)), some (.loc m), some (.int (en : Int)), some (.loc r), some (.int (n : Int)), some (.bool (onT p k c).1), some (.int ((onT p k c).2 : Int))], o, q⟩) := by
          cases hon : (onT p k c).1 with
          | true =>
            have hle := onT_le p k c hp hk hon
            obtain ⟨m', e1, e2, e3⟩ := r3 (onT p k c).2 (by omega) hle.2
            have hI := rowR_at p (onT p k c).2 t (n + 1) hn
            have hB : fitB p k (t.drop n) = fitB p (onT p k c).2 (t.drop (n + 1)) := by
              rw [Bool.eq_iff_iff, fitB_iff, fitB_iff, hf]
              exact ⟨fun h => h.2, fun h => ⟨hon, h⟩⟩
            rw [hB]
            simp only [lfAnd, get_0, set_0, get_1, set_1, get_2, set_2, get_3, set_3, get_4, set_4, get_5, set_5, get_6, set_6, get_7, set_7, get_8, set_8, get_9, set_9, e_kV, e_kB, e_nilS, e_noneO, e_nextF, e_bin, k_bin1, k_bin2, e_cmpV, k_cmpV1, k_cmpV2, k_cmpV3, e_cmpB, k_cmpB1, k_cmpB2, k_cmpB3, e_notB, k_notB, e_andB, k_andB1, k_andB0, e_orB, k_orB1, k_orB0, e_truB, k_truB1, k_truB2, k_truth, e_negV, k_neg, e_andV, k_andV1, k_andV0, e_orV, k_orV1, k_orV0, e_iteV, k_ite1, k_ite0, e_cons, k_cons1, k_cons2, e_tup, k_tup1, k_tup2, k_tup3, e_lst, k_lst0, k_lst1, k_lst2, e_opt, k_opt, e_slc, k_slc1, k_slc2, k_slc3, k_slc4, e_chain, k_ch1, k_ch2, k_ch3t, k_ch3f, k_ch4, k_ch5, e_dict0, e_callB, k_callB, e_meth, k_meth1, k_meth2, k_meth3, k_isStr, e_call, k_call1, k_call2, e_seq, k_seqN, k_seqR, e_ret, k_ret, e_asg, k_asg1, k_asg2, e_aug, k_aug1, k_aug2, k_aug3, e_if, k_if1, k_if0, e_expr, k_expr, e_sub, k_sub1, k_sub2, k_sub3, k_untup2, k_untup3, e_sets0, e_sets, k_sets, e_set2, k_set2, e_forStr, k_forStr, e_pin, k_pin, e_forDict, k_forDict1, k_forDict2, e_forList, k_forList1, k_forList2, e_forEnum, k_forEnum1, k_forEnum2, e_forRange, e_comp, v_add2_1, v_dget r1 e1, v_litem e3 hI (by omega)]
          | false =>
            have hB : fitB p k (t.drop n) = false := by
              rw [Bool.eq_false_iff]
              intro h
              have := (hf.mp (fitB_iff.mp h)).1
              rw [hon] at this
              cases this
            rw [hB]
            simp only [lfAnd, get_0, set_0, get_1, set_1, get_2, set_2, get_3, set_3, get_4, set_4, get_5, set_5, get_6, set_6, get_7, set_7, get_8, set_8, get_9, set_9, e_kV, e_kB, e_nilS, e_noneO, e_nextF, e_bin, k_bin1, k_bin2, e_cmpV, k_cmpV1, k_cmpV2, k_cmpV3, e_cmpB, k_cmpB1, k_cmpB2, k_cmpB3, e_notB, k_notB, e_andB, k_andB1, k_andB0, e_orB, k_orB1, k_orB0, e_truB, k_truB1, k_truB2, k_truth, e_negV, k_neg, e_andV, k_andV1, k_andV0, e_orV, k_orV1, k_orV0, e_iteV, k_ite1, k_ite0, e_cons, k_cons1, k_cons2, e_tup, k_tup1, k_tup2, k_tup3, e_lst, k_lst0, k_lst1, k_lst2, e_opt, k_opt, e_slc, k_slc1, k_slc2, k_slc3, k_slc4, e_chain, k_ch1, k_ch2, k_ch3t, k_ch3f, k_ch4, k_ch5, e_dict0, e_callB, k_callB, e_meth, k_meth1, k_meth2, k_meth3, k_isStr, e_call, k_call1, k_call2, e_seq, k_seqN, k_seqR, e_ret, k_ret, e_asg, k_asg1, k_asg2, e_aug, k_aug1, k_aug2, k_aug3, e_if, k_if1, k_if0, e_expr, k_expr, e_sub, k_sub1, k_sub2, k_sub3, k_untup2, k_untup3, e_sets0, e_sets, k_sets, e_set2, k_set2, e_forStr, k_forStr, e_pin, k_pin, e_forDict, k_forDict1, k_forDict2, e_forList, k_forList1, k_forList2, e_forEnum, k_forEnum1, k_forEnum2, e_forRange, e_comp]
        rw [hrow, lfB_eq]
        simp only [lfB, get_0, set_0, get_1, set_1, get_2, set_2, get_3, set_3, get_4, set_4, get_5, set_5, get_6, set_6, get_7, set_7, get_8, set_8, get_9, set_9, e_kV, e_kB, e_nilS, e_noneO, e_nextF, e_bin, k_bin1, k_bin2, e_cmpV, k_cmpV1, k_cmpV2, k_cmpV3, e_cmpB, k_cmpB1, k_cmpB2, k_cmpB3, e_notB, k_notB, e_andB, k_andB1, k_andB0, e_orB, k_orB1, k_orB0, e_truB, k_truB1, k_truB2, k_truth, e_negV, k_neg, e_andV, k_andV1, k_andV0, e_orV, k_orV1, k_orV0, e_iteV, k_ite1, k_ite0, e_cons, k_cons1, k_cons2, e_tup, k_tup1, k_tup2, k_tup3, e_lst, k_lst0, k_lst1, k_lst2, e_opt, k_opt, e_slc, k_slc1, k_slc2, k_slc3, k_slc4, e_chain, k_ch1, k_ch2, k_ch3t, k_ch3f, k_ch4, k_ch5, e_dict0, e_callB, k_callB, e_meth, k_meth1, k_meth2, k_meth3, k_isStr, e_call, k_call1, k_call2, e_seq, k_seqN, k_seqR, e_ret, k_ret, e_asg, k_asg1, k_asg2, e_aug, k_aug1, k_aug2, k_aug3, e_if, k_if1, k_if0, e_expr, k_expr, e_sub, k_sub1, k_sub2, k_sub3, k_untup2, k_untup3, e_sets0, e_sets, k_sets, e_set2, k_set2, e_forStr, k_forStr, e_pin, k_pin, e_forDict, k_forDict1, k_forDict2, e_forList, k_forList1, k_forList2, e_forEnum, k_forEnum1, k_forEnum2, e_forRange, e_comp, v_item hx (show k ≤ 2000 by omega), v_eq1, h42, decide_false, v_item hc (show n ≤ 2000 by omega), hone, tupOf, hand, v_isLst hr, v_ins hr hrl hrq]
    obtain ⟨b8, b9, hb⟩ := key
    have hne : ∀ (z : Nat) (y : Ob), z < r → o[z]? = some y → (o.set r (.list (rowR p k (t.drop n))))[z]? = some y := fun z y hz h => by rw [List.getElem?_set_ne (by omega)]; exact h
    obtain ⟨a7', a8', a9', ih⟩ := lf_inner p t hp ht d k m en r hk q hrq n (o.set r (.list (rowR p k (t.drop n)))) (some (.int (n : Int))) b8 b9 (by omega)
      ⟨kvs, hne d _ hdr r1, r2, fun j a b => by
        obtain ⟨m', e1, e2, e3⟩ := r3 j a b
        exact ⟨m', e1, e2, hne m' _ (hlt kvs j m' r1 a b e1) e3⟩⟩ (fun h => ⟨hne m _ hmr (hm h).1, (hm h).2⟩) hdr hmr
      (fun kvs' j m' h a b e => by
        rw [List.getElem?_set_ne (by omega)] at h
        exact hlt kvs' j m' h a b e) (get_set hr)
    refine ⟨a7', a8', a9', ?_⟩
    rw [downL, for_next hs hb, ih, List.set_set]

theorem lf_outer (p t : List Nat) (hp : p.length ≤ 90) (ht : t.length ≤ 200) (o0 : List Ob) (d : Nat) (hd0 : o0.length ≤ d) (q : List Nat) (hq : ∀ x ∈ q, x < o0.length) :
    ∀ (n : Nat) (o : List Ob) (a3 a4 a5 a6 a7 a8 a9 : Option V), n ≤ p.length → RowsOk p t d n o → Keeps o0 o →
      ∃ st' o', forF (setF 3) law_fits_b1 (downL n) ⟨[some (.str p), some (.str t), some (.loc d), a3, a4, a5, a6, a7, a8, a9], o, q⟩ = some (.next, st') ∧ (∃ a3' a4' a5' a6' a7' a8' a9', st' = ⟨[some (.str p), some (.str t), some (.loc d), a3', a4', a5', a6', a7', a8', a9'], o', q⟩) ∧ RowsOk p t d 0 o' ∧ Keeps o0 o'
  | 0, o, a3, a4, a5, a6, a7, a8, a9, hn, hR, hK => ⟨_, o, rfl, ⟨a3, a4, a5, a6, a7, a8, a9, rfl⟩, hR, hK⟩
  | n + 1, o, a3, a4, a5, a6, a7, a8, a9, hn, hR, hK => by
    have hp6 : p.length ≤ 2000 := by omega
    have ht6 : t.length ≤ 2000 := by omega
    obtain ⟨x, hx⟩ : ∃ x, p[n]? = some x := ⟨_, List.getElem?_eq_getElem (by omega)⟩
    have hs : setF 3 (.int (n : Int)) ⟨[some (.str p), some (.str t), some (.loc d), a3, a4, a5, a6, a7, a8, a9], o, q⟩ = some ⟨[some (.str p), some (.str t), some (.loc d), some (.int (n : Int)), a4, a5, a6, a7, a8, a9], o, q⟩ := rfl
    have hoq : ∀ z, o0.length ≤ z → z ∉ q := fun z hz h => by have := hq z h; omega
    -- the members
    have hM : ∃ m en o1, asgF (iteV (cmpB (bin (getF 0) (getF 3) itemF) (kV (.str [91])) eqF2) (callF (consF (getF 0) (consF (getF 3) nilS)) law_members_fn) (tupF (consF (lstF nilS) (consF (kV (.int 0)) nilS)))) (untupF 2 (setsF [4, 5])) ⟨[some (.str p), some (.str t), some (.loc d), some (.int (n : Int)), a4, a5, a6, a7, a8, a9], o, q⟩ =
        some (.next, ⟨[some (.str p), some (.str t), some (.loc d), some (.int (n : Int)), some (.loc m), some (.int ((en : Nat) : Int)), a6, a7, a8, a9], o1, q⟩) ∧ Keeps o o1 ∧ m < o1.length ∧ (p[n]? = some 91 → o1[m]? = some (.list ((mems p 100 (n + 1)).1.map memV)) ∧ en = (mems p 100 (n + 1)).2) := by
      by_cases h91 : x = 91
      · subst h91
        obtain ⟨o1, h1, h2, h3⟩ := members_val p n hp (by omega) o q (hoq _ hK.1)
        refine ⟨o.length, (mems p 100 (n + 1)).2, o1, ?_, h2, place_lt h3, fun _ => ⟨h3, rfl⟩⟩
        simp only [get_0, set_0, get_1, set_1, get_2, set_2, get_3, set_3, get_4, set_4, get_5, set_5, get_6, set_6, get_7, set_7, get_8, set_8, get_9, set_9, e_kV, e_kB, e_nilS, e_noneO, e_nextF, e_bin, k_bin1, k_bin2, e_cmpV, k_cmpV1, k_cmpV2, k_cmpV3, e_cmpB, k_cmpB1, k_cmpB2, k_cmpB3, e_notB, k_notB, e_andB, k_andB1, k_andB0, e_orB, k_orB1, k_orB0, e_truB, k_truB1, k_truB2, k_truth, e_negV, k_neg, e_andV, k_andV1, k_andV0, e_orV, k_orV1, k_orV0, e_iteV, k_ite1, k_ite0, e_cons, k_cons1, k_cons2, e_tup, k_tup1, k_tup2, k_tup3, e_lst, k_lst0, k_lst1, k_lst2, e_opt, k_opt, e_slc, k_slc1, k_slc2, k_slc3, k_slc4, e_chain, k_ch1, k_ch2, k_ch3t, k_ch3f, k_ch4, k_ch5, e_dict0, e_callB, k_callB, e_meth, k_meth1, k_meth2, k_meth3, k_isStr, e_call, k_call1, k_call2, e_seq, k_seqN, k_seqR, e_ret, k_ret, e_asg, k_asg1, k_asg2, e_aug, k_aug1, k_aug2, k_aug3, e_if, k_if1, k_if0, e_expr, k_expr, e_sub, k_sub1, k_sub2, k_sub3, k_untup2, k_untup3, e_sets0, e_sets, k_sets, e_set2, k_set2, e_forStr, k_forStr, e_pin, k_pin, e_forDict, k_forDict1, k_forDict2, e_forList, k_forList1, k_forList2, e_forEnum, k_forEnum1, k_forEnum2, e_forRange, e_comp, v_item hx (show n ≤ 2000 by omega), v_eq1, decide_true, h1]
      · refine ⟨o.length, 0, o ++ [Ob.list []], ?_, (Keeps.refl o).app _, by simp, fun h => absurd (Option.some.inj (hx.symm.trans h)) h91⟩
        simp only [get_0, set_0, get_1, set_1, get_2, set_2, get_3, set_3, get_4, set_4, get_5, set_5, get_6, set_6, get_7, set_7, get_8, set_8, get_9, set_9, e_kV, e_kB, e_nilS, e_noneO, e_nextF, e_bin, k_bin1, k_bin2, e_cmpV, k_cmpV1, k_cmpV2, k_cmpV3, e_cmpB, k_cmpB1, k_cmpB2, k_cmpB3, e_notB, k_notB, e_andB, k_andB1, k_andB0, e_orB, k_orB1, k_orB0, e_truB, k_truB1, k_truB2, k_truth, e_negV, k_neg, e_andV, k_andV1, k_andV0, e_orV, k_orV1, k_orV0, e_iteV, k_ite1, k_ite0, e_cons, k_cons1, k_cons2, e_tup, k_tup1, k_tup2, k_tup3, e_lst, k_lst0, k_lst1, k_lst2, e_opt, k_opt, e_slc, k_slc1, k_slc2, k_slc3, k_slc4, e_chain, k_ch1, k_ch2, k_ch3t, k_ch3f, k_ch4, k_ch5, e_dict0, e_callB, k_callB, e_meth, k_meth1, k_meth2, k_meth3, k_isStr, e_call, k_call1, k_call2, e_seq, k_seqN, k_seqR, e_ret, k_ret, e_asg, k_asg1, k_asg2, e_aug, k_aug1, k_aug2, k_aug3, e_if, k_if1, k_if0, e_expr, k_expr, e_sub, k_sub1, k_sub2, k_sub3, k_untup2, k_untup3, e_sets0, e_sets, k_sets, e_set2, k_set2, e_forStr, k_forStr, e_pin, k_pin, e_forDict, k_forDict1, k_forDict2, e_forList, k_forList1, k_forList2, e_forEnum, k_forEnum1, k_forEnum2, e_forRange, e_comp, v_item hx (show n ≤ 2000 by omega), v_eq1, h91, decide_false]
        rfl
    obtain ⟨m, en, o1, e1, k1, hm1, hmem⟩ := hM
    have hR1 := hR.keeps k1
    -- the row's last place
    have hA : asgF (lstF (consF (andV (cmpV (bin (getF 0) (getF 3) itemF) (kV (.str [42])) eqF2) (bin (bin (getF 2) (bin (getF 3) (kV (.int 1)) addF2) itemF) (callB (consF (getF 1) nilS) lenF) itemF)) nilS)) (setF 6) ⟨[some (.str p), some (.str t), some (.loc d), some (.int (n : Int)), some (.loc m), some (.int (en : Int)), a6, a7, a8, a9], o1, q⟩ =
        some (.next, ⟨[some (.str p), some (.str t), some (.loc d), some (.int (n : Int)), some (.loc m), some (.int (en : Int)), some (.loc o1.length), a7, a8, a9], o1 ++ [Ob.list (rowR p n [])], q⟩) := by
      obtain ⟨kvs, r1, r2, r3⟩ := hR1
      by_cases h42 : x = 42
      · subst h42
        obtain ⟨m', f1, f2, f3⟩ := r3 (n + 1) (Nat.le_refl _) hn
        have hI := rowR_at p (n + 1) t t.length (Nat.le_refl _)
        rw [List.drop_length] at hI
        have hB : fitB p n [] = fitB p (n + 1) [] := by
          rw [Bool.eq_iff_iff, fitB_iff, fitB_iff]
          exact fit_star_nil hx
        simp only [get_0, set_0, get_1, set_1, get_2, set_2, get_3, set_3, get_4, set_4, get_5, set_5, get_6, set_6, get_7, set_7, get_8, set_8, get_9, set_9, e_kV, e_kB, e_nilS, e_noneO, e_nextF, e_bin, k_bin1, k_bin2, e_cmpV, k_cmpV1, k_cmpV2, k_cmpV3, e_cmpB, k_cmpB1, k_cmpB2, k_cmpB3, e_notB, k_notB, e_andB, k_andB1, k_andB0, e_orB, k_orB1, k_orB0, e_truB, k_truB1, k_truB2, k_truth, e_negV, k_neg, e_andV, k_andV1, k_andV0, e_orV, k_orV1, k_orV0, e_iteV, k_ite1, k_ite0, e_cons, k_cons1, k_cons2, e_tup, k_tup1, k_tup2, k_tup3, e_lst, k_lst0, k_lst1, k_lst2, e_opt, k_opt, e_slc, k_slc1, k_slc2, k_slc3, k_slc4, e_chain, k_ch1, k_ch2, k_ch3t, k_ch3f, k_ch4, k_ch5, e_dict0, e_callB, k_callB, e_meth, k_meth1, k_meth2, k_meth3, k_isStr, e_call, k_call1, k_call2, e_seq, k_seqN, k_seqR, e_ret, k_ret, e_asg, k_asg1, k_asg2, e_aug, k_aug1, k_aug2, k_aug3, e_if, k_if1, k_if0, e_expr, k_expr, e_sub, k_sub1, k_sub2, k_sub3, k_untup2, k_untup3, e_sets0, e_sets, k_sets, e_set2, k_set2, e_forStr, k_forStr, e_pin, k_pin, e_forDict, k_forDict1, k_forDict2, e_forList, k_forList1, k_forList2, e_forEnum, k_forEnum1, k_forEnum2, e_forRange, e_comp, v_item hx (show n ≤ 2000 by omega), v_eq1, decide_true, v_add2_1, v_dget r1 f1, v_len ht6, v_litem f3 hI ht6, rowR, hB]
      · have hB : fitB p n [] = false := by
          rw [Bool.eq_false_iff]
          intro h
          exact fit_one_nil hx h42 (fitB_iff.mp h)
        simp only [get_0, set_0, get_1, set_1, get_2, set_2, get_3, set_3, get_4, set_4, get_5, set_5, get_6, set_6, get_7, set_7, get_8, set_8, get_9, set_9, e_kV, e_kB, e_nilS, e_noneO, e_nextF, e_bin, k_bin1, k_bin2, e_cmpV, k_cmpV1, k_cmpV2, k_cmpV3, e_cmpB, k_cmpB1, k_cmpB2, k_cmpB3, e_notB, k_notB, e_andB, k_andB1, k_andB0, e_orB, k_orB1, k_orB0, e_truB, k_truB1, k_truB2, k_truth, e_negV, k_neg, e_andV, k_andV1, k_andV0, e_orV, k_orV1, k_orV0, e_iteV, k_ite1, k_ite0, e_cons, k_cons1, k_cons2, e_tup, k_tup1, k_tup2, k_tup3, e_lst, k_lst0, k_lst1, k_lst2, e_opt, k_opt, e_slc, k_slc1, k_slc2, k_slc3, k_slc4, e_chain, k_ch1, k_ch2, k_ch3t, k_ch3f, k_ch4, k_ch5, e_dict0, e_callB, k_callB, e_meth, k_meth1, k_meth2, k_meth3, k_isStr, e_call, k_call1, k_call2, e_seq, k_seqN, k_seqR, e_ret, k_ret, e_asg, k_asg1, k_asg2, e_aug, k_aug1, k_aug2, k_aug3, e_if, k_if1, k_if0, e_expr, k_expr, e_sub, k_sub1, k_sub2, k_sub3, k_untup2, k_untup3, e_sets0, e_sets, k_sets, e_set2, k_set2, e_forStr, k_forStr, e_pin, k_pin, e_forDict, k_forDict1, k_forDict2, e_forList, k_forList1, k_forList2, e_forEnum, k_forEnum1, k_forEnum2, e_forRange, e_comp, v_item hx (show n ≤ 2000 by omega), v_eq1, h42, decide_false, rowR, hB]
    have k2 : Keeps o1 (o1 ++ [Ob.list (rowR p n [])]) := (Keeps.refl o1).app _
    have hR2 := hR1.keeps k2
    have hdl : d < o1.length := by obtain ⟨kvs, r1, _, _⟩ := hR1; exact place_lt r1
    have hrq : o1.length ∉ q := hoq _ (by have := (hK.trans k1).1; omega)
    obtain ⟨a7', a8', a9', hI⟩ := lf_inner p t hp ht d n m en o1.length (by omega) q hrq t.length (o1 ++ [Ob.list (rowR p n [])]) a7 a8 a9 (Nat.le_refl _) hR2
      (fun h => ⟨k2.get (hmem h).1, (hmem h).2⟩) hdl hm1 (fun kvs j m' h a b e => by
        obtain ⟨kvs', r1, r2, r3⟩ := hR1
        have : kvs' = kvs := by rw [k2.get r1] at h; cases h; rfl
        subst this
        obtain ⟨m'', f1, f2, f3⟩ := r3 j a b
        rw [e] at f1
        cases f1
        exact place_lt f3) (by rw [List.drop_length]; exact get_new)
    -- the row is put to its place
    have k3 : Keeps o1 ((o1 ++ [Ob.list (rowR p n [])]).set o1.length (.list (rowR p n t))) := k2.set (Nat.le_refl _) _
    obtain ⟨kvs, r1, r2, r3⟩ := hR1
    have hr3 : ((o1 ++ [Ob.list (rowR p n [])]).set o1.length (.list (rowR p n t)))[o1.length]? = some (.list (rowR p n t)) := get_set get_new
    have hb : law_fits_b1 ⟨[some (.str p), some (.str t), some (.loc d), some (.int (n : Int)), a4, a5, a6, a7, a8, a9], o, q⟩ = some (.next, ⟨[some (.str p), some (.str t), some (.loc d), some (.int (n : Int)), some (.loc m), some (.int (en : Int)), some (.loc o1.length), a7', a8', a9'], ((o1 ++ [Ob.list (rowR p n [])]).set o1.length (.list (rowR p n t))).set d (.dict (dput kvs (n : Int) (.loc o1.length))), q⟩) := by
      unfold law_fits_b1
      rw [e_seq, e1, k_seqN, e_seq, hA, k_seqN]
      simp only [get_0, set_0, get_1, set_1, get_2, set_2, get_3, set_3, get_4, set_4, get_5, set_5, get_6, set_6, get_7, set_7, get_8, set_8, get_9, set_9, e_kV, e_kB, e_nilS, e_noneO, e_nextF, e_bin, k_bin1, k_bin2, e_cmpV, k_cmpV1, k_cmpV2, k_cmpV3, e_cmpB, k_cmpB1, k_cmpB2, k_cmpB3, e_notB, k_notB, e_andB, k_andB1, k_andB0, e_orB, k_orB1, k_orB0, e_truB, k_truB1, k_truB2, k_truth, e_negV, k_neg, e_andV, k_andV1, k_andV0, e_orV, k_orV1, k_orV0, e_iteV, k_ite1, k_ite0, e_cons, k_cons1, k_cons2, e_tup, k_tup1, k_tup2, k_tup3, e_lst, k_lst0, k_lst1, k_lst2, e_opt, k_opt, e_slc, k_slc1, k_slc2, k_slc3, k_slc4, e_chain, k_ch1, k_ch2, k_ch3t, k_ch3f, k_ch4, k_ch5, e_dict0, e_callB, k_callB, e_meth, k_meth1, k_meth2, k_meth3, k_isStr, e_call, k_call1, k_call2, e_seq, k_seqN, k_seqR, e_ret, k_ret, e_asg, k_asg1, k_asg2, e_aug, k_aug1, k_aug2, k_aug3, e_if, k_if1, k_if0, e_expr, k_expr, e_sub, k_sub1, k_sub2, k_sub3, k_untup2, k_untup3, e_sets0, e_sets, k_sets, e_set2, k_set2, e_forStr, k_forStr, e_pin, k_pin, e_forDict, k_forDict1, k_forDict2, e_forList, k_forList1, k_forList2, e_forEnum, k_forEnum1, k_forEnum2, e_forRange, e_comp, v_len ht6, v_sub1, v_down ht6, hI, v_putKV (k3.get r1) (show kvs.length ≤ 2000 by omega) (hoq d hd0)]
    rw [downL]
    rw [for_next hs hb]
    refine lf_outer p t hp ht o0 d hd0 q hq n _ _ _ _ _ _ _ _ (by omega) ?_ (((hK.trans k1).trans k3).set hd0 _)
    refine ⟨dput kvs (n : Int) (.loc o1.length), get_set (k3.get r1), ?_, fun j a b => ?_⟩
    · have := dput_len kvs (n : Int) (.loc o1.length)
      omega
    · by_cases hj : j = n
      · subst hj
        refine ⟨o1.length, by rw [dget_dput, if_pos rfl], by omega, ?_⟩
        rw [List.getElem?_set_ne (by omega)]
        exact hr3
      · obtain ⟨m', f1, f2, f3⟩ := r3 j (by omega) b
        refine ⟨m', by rw [dget_dput, if_neg (by omega)]; exact f1, f2, ?_⟩
        rw [List.getElem?_set_ne (Ne.symm f2)]
        exact k3.get f3

theorem law_fits_val (p t : List Nat) (hp : p.length ≤ 90) (ht : t.length ≤ 200) (o : List Ob) (q : List Nat) (hq : ∀ x ∈ q, x < o.length) :
    ∃ o', law_fits_fn [.str p, .str t] q o = some (.bool (fitB p 0 t), o') ∧ Keeps o o' := by
  have hp6 : p.length ≤ 2000 := by omega
  have ht6 : t.length ≤ 2000 := by omega
  let o1 := o ++ [Ob.dict []]
  let o2 := o1 ++ [Ob.list [.bool false]]
  let o3 := o2 ++ [Ob.list (List.replicate t.length [V.bool false]).flatten]
  let o4 := o3 ++ [Ob.list [.bool true]]
  let o5 := o4 ++ [Ob.list (rowR p p.length t)]
  have k5 : Keeps o1 o5 := ((((Keeps.refl o1).app _).app _).app _).app _
  have hd1 : o1[o.length]? = some (.dict []) := get_new
  have hd5 : o5[o.length]? = some (.dict []) := k5.get hd1
  have hD : dict1 (callB (consF (getF 0) nilS) lenF) (bin (bin (lstF (consF (kV (.bool false)) nilS)) (callB (consF (getF 1) nilS) lenF) mulF) (lstF (consF (kV (.bool true)) nilS)) addF2) ⟨[some (.str p), some (.str t), none, none, none, none, none, none, none, none], o, q⟩ =
      some (.loc o.length, ⟨[some (.str p), some (.str t), none, none, none, none, none, none, none, none], o5.set o.length (.dict [((p.length : Int), .loc o4.length)]), q⟩) := by
    refine dict1_eval (st1 := ⟨[some (.str p), some (.str t), none, none, none, none, none, none, none, none], o1, q⟩) (st2 := ⟨[some (.str p), some (.str t), none, none, none, none, none, none, none, none], o5, q⟩) ?_ ?_ hd5
    · show callB _ _ ⟨_, o1, q⟩ = _
      simp only [get_0, set_0, get_1, set_1, get_2, set_2, get_3, set_3, get_4, set_4, get_5, set_5, get_6, set_6, get_7, set_7, get_8, set_8, get_9, set_9, e_kV, e_kB, e_nilS, e_noneO, e_nextF, e_bin, k_bin1, k_bin2, e_cmpV, k_cmpV1, k_cmpV2, k_cmpV3, e_cmpB, k_cmpB1, k_cmpB2, k_cmpB3, e_notB, k_notB, e_andB, k_andB1, k_andB0, e_orB, k_orB1, k_orB0, e_truB, k_truB1, k_truB2, k_truth, e_negV, k_neg, e_andV, k_andV1, k_andV0, e_orV, k_orV1, k_orV0, e_iteV, k_ite1, k_ite0, e_cons, k_cons1, k_cons2, e_tup, k_tup1, k_tup2, k_tup3, e_lst, k_lst0, k_lst1, k_lst2, e_opt, k_opt, e_slc, k_slc1, k_slc2, k_slc3, k_slc4, e_chain, k_ch1, k_ch2, k_ch3t, k_ch3f, k_ch4, k_ch5, e_dict0, e_callB, k_callB, e_meth, k_meth1, k_meth2, k_meth3, k_isStr, e_call, k_call1, k_call2, e_seq, k_seqN, k_seqR, e_ret, k_ret, e_asg, k_asg1, k_asg2, e_aug, k_aug1, k_aug2, k_aug3, e_if, k_if1, k_if0, e_expr, k_expr, e_sub, k_sub1, k_sub2, k_sub3, k_untup2, k_untup3, e_sets0, e_sets, k_sets, e_set2, k_set2, e_forStr, k_forStr, e_pin, k_pin, e_forDict, k_forDict1, k_forDict2, e_forList, k_forList1, k_forList2, e_forEnum, k_forEnum1, k_forEnum2, e_forRange, e_comp, v_len hp6]
    · have h2 : o2[o1.length]? = some (.list [.bool false]) := get_new
      have h3 : o4[o2.length]? = some (.list (List.replicate t.length [V.bool false]).flatten) := get_app get_new
      have h4 : o4[o3.length]? = some (.list [.bool true]) := get_new
      have hm := v_mul (e := [some (.str p), some (.str t), none, none, none, none, none, none, none, none]) (q := q) (i := t.length) h2 (by simp; omega) ht6
      have hfl : (List.replicate t.length [V.bool false]).flatten.length ≤ 200 := by simp; omega
      have ha := v_addl (e := [some (.str p), some (.str t), none, none, none, none, none, none, none, none]) (q := q) h3 h4 (by simp only [List.length_cons, List.length_nil]; omega)
      rw [rowR_end p t] at ha
      show bin _ _ _ ⟨_, o1, q⟩ = _
      have hl1 : ∀ st : St, lstK (some ([V.bool false], ⟨st.env, o1, q⟩)) = some (.loc o1.length, ⟨st.env, o2, q⟩) := fun st => rfl
      simp only [e_bin, e_lst, e_cons, e_kB, e_kV, e_nilS, k_cons1, k_cons2, k_bin1, k_bin2, e_callB, k_callB, get_1, v_len ht6]
      rw [hl1 ⟨[some (.str p), some (.str t), none, none, none, none, none, none, none, none], o1, q⟩]
      simp only [get_0, set_0, get_1, set_1, get_2, set_2, get_3, set_3, get_4, set_4, get_5, set_5, get_6, set_6, get_7, set_7, get_8, set_8, get_9, set_9, e_kV, e_kB, e_nilS, e_noneO, e_nextF, e_bin, k_bin1, k_bin2, e_cmpV, k_cmpV1, k_cmpV2, k_cmpV3, e_cmpB, k_cmpB1, k_cmpB2, k_cmpB3, e_notB, k_notB, e_andB, k_andB1, k_andB0, e_orB, k_orB1, k_orB0, e_truB, k_truB1, k_truB2, k_truth, e_negV, k_neg, e_andV, k_andV1, k_andV0, e_orV, k_orV1, k_orV0, e_iteV, k_ite1, k_ite0, e_cons, k_cons1, k_cons2, e_tup, k_tup1, k_tup2, k_tup3, e_lst, k_lst0, k_lst1, k_lst2, e_opt, k_opt, e_slc, k_slc1, k_slc2, k_slc3, k_slc4, e_chain, k_ch1, k_ch2, k_ch3t, k_ch3f, k_ch4, k_ch5, e_dict0, e_callB, k_callB, e_meth, k_meth1, k_meth2, k_meth3, k_isStr, e_call, k_call1, k_call2, e_seq, k_seqN, k_seqR, e_ret, k_ret, e_asg, k_asg1, k_asg2, e_aug, k_aug1, k_aug2, k_aug3, e_if, k_if1, k_if0, e_expr, k_expr, e_sub, k_sub1, k_sub2, k_sub3, k_untup2, k_untup3, e_sets0, e_sets, k_sets, e_set2, k_set2, e_forStr, k_forStr, e_pin, k_pin, e_forDict, k_forDict1, k_forDict2, e_forList, k_forList1, k_forList2, e_forEnum, k_forEnum1, k_forEnum2, e_forRange, e_comp, v_len ht6, hm]
      exact ha
  have hR : RowsOk p t o.length p.length (o5.set o.length (.dict [((p.length : Int), .loc o4.length)])) := by
    refine ⟨_, get_set hd5, by simp, fun j a b => ?_⟩
    have : j = p.length := by omega
    subst this
    have hlen : o.length < o4.length := by simp [o4, o3, o2, o1]
    refine ⟨o4.length, by simp [dget], by omega, ?_⟩
    rw [List.getElem?_set_ne (by omega)]
    exact get_new
  have hK : Keeps o (o5.set o.length (.dict [((p.length : Int), .loc o4.length)])) := (((Keeps.refl o).app _).trans k5).set (Nat.le_refl _) _
  obtain ⟨st', o', h1, ⟨b3, b4, b5, b6, b7, b8, b9, rfl⟩, hR0, hK0⟩ := lf_outer p t hp ht o o.length (Nat.le_refl _) q hq p.length _ none none none none none none none (Nat.le_refl _) hR hK
  refine ⟨o', ?_, hK0⟩
  obtain ⟨kvs, r1, r2, r3⟩ := hR0
  obtain ⟨m, f1, f2, f3⟩ := r3 0 (Nat.le_refl _) (Nat.zero_le _)
  obtain ⟨rr, hrr⟩ := rowR_head p 0 t
  rw [hrr] at f3
  unfold law_fits_fn
  refine fn_ret (us := [.str p, .str t]) (st := ⟨[some (.str p), some (.str t), some (.loc o.length), b3, b4, b5, b6, b7, b8, b9], o', q⟩) rfl ?_
  show law_fits_F ⟨[some (.str p), some (.str t), none, none, none, none, none, none, none, none], o, q⟩ = _
  unfold law_fits_F
  rw [e_seq, e_asg, hD]
  have f1' : dget kvs 0 = some (.loc m) := f1
  simp only [get_0, set_0, get_1, set_1, get_2, set_2, get_3, set_3, get_4, set_4, get_5, set_5, get_6, set_6, get_7, set_7, get_8, set_8, get_9, set_9, e_kV, e_kB, e_nilS, e_noneO, e_nextF, e_bin, k_bin1, k_bin2, e_cmpV, k_cmpV1, k_cmpV2, k_cmpV3, e_cmpB, k_cmpB1, k_cmpB2, k_cmpB3, e_notB, k_notB, e_andB, k_andB1, k_andB0, e_orB, k_orB1, k_orB0, e_truB, k_truB1, k_truB2, k_truth, e_negV, k_neg, e_andV, k_andV1, k_andV0, e_orV, k_orV1, k_orV0, e_iteV, k_ite1, k_ite0, e_cons, k_cons1, k_cons2, e_tup, k_tup1, k_tup2, k_tup3, e_lst, k_lst0, k_lst1, k_lst2, e_opt, k_opt, e_slc, k_slc1, k_slc2, k_slc3, k_slc4, e_chain, k_ch1, k_ch2, k_ch3t, k_ch3f, k_ch4, k_ch5, e_dict0, e_callB, k_callB, e_meth, k_meth1, k_meth2, k_meth3, k_isStr, e_call, k_call1, k_call2, e_seq, k_seqN, k_seqR, e_ret, k_ret, e_asg, k_asg1, k_asg2, e_aug, k_aug1, k_aug2, k_aug3, e_if, k_if1, k_if0, e_expr, k_expr, e_sub, k_sub1, k_sub2, k_sub3, k_untup2, k_untup3, e_sets0, e_sets, k_sets, e_set2, k_set2, e_forStr, k_forStr, e_pin, k_pin, e_forDict, k_forDict1, k_forDict2, e_forList, k_forList1, k_forList2, e_forEnum, k_forEnum1, k_forEnum2, e_forRange, e_comp, v_len hp6, v_sub1, v_down hp6, h1, v_dget r1 f1', v_litem0 f3]
end NP
end

section
set_option maxHeartbeats 2000000
set_option backward.defeqAttrib.useBackward true
namespace NP

theorem fitsB_eq (p t : List Nat) (hp : p.length ≤ 90) : fitsP p t = fitB p 0 t := by
  rw [Bool.eq_iff_iff, fitsP_iff p t hp, fitB_iff]

noncomputable def reprB (b : Bool) : V := textL (if b then "True" else "False")
theorem v_reprB {b : Bool} {st : St} : reprF [.bool b] st = some (reprB b, st) := by rfl
theorem v_neB {b : Bool} {st : St} : neF (reprB b) (reprB b) st = some false := by
  unfold reprB textL
  generalize (if b = true then _ else _ : PySem.Str).cps.toList = l
  show some (l != l) = _
  simp
noncomputable def reprT (r : Bool × Nat) : V := textL (PyData.tuple [.bool r.1, .int (r.2 : Int)]).shown
theorem showable_small : ∀ (b : Bool) (i : Fin 100), (PyData.tuple [.bool b, .int ((i : Nat) : Int)]).showable = true ∧ (PyData.tuple [.bool b, .int ((i : Nat) : Int)]).shown.length ≤ 1000 := by decide +kernel
theorem v_reprT {r : Bool × Nat} {st : St} (h : r.2 < 100) : reprF [tupOf r] st = some (reprT r, st) := by
  show (if _ then _ else _) = _
  rw [if_pos (showable_small r.1 ⟨r.2, h⟩)]
  rfl
theorem v_neT {r : Bool × Nat} {st : St} : neF (reprT r) (reprT r) st = some false := by
  unfold reprT textL
  generalize (PyData.tuple _).shown.cps.toList = l
  show some (l != l) = _
  simp

noncomputable def upL : Nat → Nat → List V
  | _, 0 => []
  | i, k + 1 => .int (i : Int) :: upL (i + 1) k
theorem range_up : ∀ (n i : Nat), (List.range n).map (fun (j : Nat) => V.int (((i : Nat) : Int) + (j : Int) * 1)) = upL i n
  | 0, _ => rfl
  | n + 1, i => by
    rw [List.range_succ_eq_map, List.map_cons, List.map_map]
    unfold upL
    congr 1
    rw [← range_up n (i + 1)]
    refine List.map_congr_left fun j _ => ?_
    simp only [Function.comp]
    congr 1
    omega
theorem rangeL_up (n : Nat) (h : n ≤ 2000) : rangeL 0 (n : Int) 1 = upL 0 n := by
  unfold rangeL
  rw [rangeSize_up _ (inR_nat h), Int.toNat_natCast]
  exact range_up n 0
theorem v_up {H : V → St → Option St} {G : ES1} {n : Nat} {st : St} (h : n ≤ 2000) : forRK H G (some ([.int (n : Int)], st)) = forF H G (upL 0 n) st := by
  rw [k_forRange1, if_pos (inR_nat h), rangeL_up n h]

-- the sets of a pattern
theorem sets_loop (p t : List Nat) (hp : p.length ≤ 90) (ht : t.length ≤ 200) (b : Bool) (q : List Nat) (o0 : List Ob) (hq : ∀ x ∈ q, x < o0.length) :
    ∀ (k i : Nat) (a3 a4 a5 a6 a7 a8 : Option V) (o : List Ob), i + k ≤ p.length → Keeps o0 o →
      ∃ st', forF (setF 5) law_case_right_b1 (upL i k) ⟨[some (.str p), some (.str t), some (.bool b), a3, a4, a5, a6, a7, a8], o, q⟩ = some (.next, st') ∧ Keeps o0 st'.obs
  | 0, i, a3, a4, a5, a6, a7, a8, o, h, hK => ⟨_, rfl, hK⟩
  | k + 1, i, a3, a4, a5, a6, a7, a8, o, h, hK => by
    obtain ⟨x, hx⟩ : ∃ x, p[i]? = some x := ⟨_, List.getElem?_eq_getElem (by omega)⟩
    have hs : setF 5 (.int (i : Int)) ⟨[some (.str p), some (.str t), some (.bool b), a3, a4, a5, a6, a7, a8], o, q⟩ = some ⟨[some (.str p), some (.str t), some (.bool b), a3, a4, some (.int (i : Int)), a6, a7, a8], o, q⟩ := rfl
    by_cases h91 : x = 91
    · subst h91
      have hoq : o.length ∉ q := fun h => by have := hq _ h; have := hK.1; omega
      obtain ⟨o1, h1, h2, h3⟩ := members_val p i hp (by omega) o q hoq
      obtain ⟨c, hc⟩ : ∃ c, (t ++ [97])[0]? = some c := by cases t <;> exact ⟨_, rfl⟩
      have hc' := fun st => v_item (st := st) hc (by omega)
      have e1 := in_set_val p i c hp (by omega) o1 q
      have e2 := set_val p (by omega) o.length (mems p 100 (i + 1)).2 c _ o1 q h3 (mems_le p 100 (i + 1))
      rw [← inS_eq p c 100 (i + 1) (by omega) (by omega)] at e2
      have hle := (inS_le p c 100 (i + 1) (by omega) (by omega)).2
      have hb : law_case_right_b1 ⟨[some (.str p), some (.str t), some (.bool b), a3, a4, some (.int (i : Int)), a6, a7, a8], o, q⟩ = some (.next, ⟨[some (.str p), some (.str t), some (.bool b), a3, a4, some (.int (i : Int)), some (.loc o.length), some (.int ((mems p 100 (i + 1)).2 : Int)), some (.str [c])], o1, q⟩) := by
        have hc0 : ∀ st, itemF (.str (t ++ [97])) (.int 0) st = some (.str [c], st) := hc'
        simp only [law_case_right_b1, get_0, set_0, get_1, set_1, get_2, set_2, get_3, set_3, get_4, set_4, get_5, set_5, get_6, set_6, get_7, set_7, get_8, set_8, get_9, set_9, e_kV, e_kB, e_nilS, e_noneO, e_nextF, e_bin, k_bin1, k_bin2, e_cmpV, k_cmpV1, k_cmpV2, k_cmpV3, e_cmpB, k_cmpB1, k_cmpB2, k_cmpB3, e_notB, k_notB, e_andB, k_andB1, k_andB0, e_orB, k_orB1, k_orB0, e_truB, k_truB1, k_truB2, k_truth, e_negV, k_neg, e_andV, k_andV1, k_andV0, e_orV, k_orV1, k_orV0, e_iteV, k_ite1, k_ite0, e_cons, k_cons1, k_cons2, e_tup, k_tup1, k_tup2, k_tup3, e_lst, k_lst0, k_lst1, k_lst2, e_opt, k_opt, e_slc, k_slc1, k_slc2, k_slc3, k_slc4, e_chain, k_ch1, k_ch2, k_ch3t, k_ch3f, k_ch4, k_ch5, e_dict0, e_callB, k_callB, e_meth, k_meth1, k_meth2, k_meth3, k_isStr, e_call, k_call1, k_call2, e_seq, k_seqN, k_seqR, e_ret, k_ret, e_asg, k_asg1, k_asg2, e_aug, k_aug1, k_aug2, k_aug3, e_if, k_if1, k_if0, e_expr, k_expr, e_sub, k_sub1, k_sub2, k_sub3, k_untup2, k_untup3, e_sets0, e_sets, k_sets, e_set2, k_set2, e_forStr, k_forStr, e_pin, k_pin, e_forDict, k_forDict1, k_forDict2, e_forList, k_forList1, k_forList2, e_forEnum, k_forEnum1, k_forEnum2, e_forRange, e_comp, v_item hx (show i ≤ 2000 by omega), v_eq1, decide_true, h1, v_adds (show t.length + 1 ≤ 2000 by omega), hc0, e1, e2, v_reprT (show (inS p c 100 (i + 1)).2 < 100 by omega), v_neT]
      rw [upL, for_next hs hb]
      exact sets_loop p t hp ht b q o0 hq k (i + 1) _ _ _ _ _ _ o1 (by omega) (hK.trans h2)
    · have hb : law_case_right_b1 ⟨[some (.str p), some (.str t), some (.bool b), a3, a4, some (.int (i : Int)), a6, a7, a8], o, q⟩ = some (.next, ⟨[some (.str p), some (.str t), some (.bool b), a3, a4, some (.int (i : Int)), a6, a7, a8], o, q⟩) := by
        simp only [law_case_right_b1, get_0, set_0, get_1, set_1, get_2, set_2, get_3, set_3, get_4, set_4, get_5, set_5, get_6, set_6, get_7, set_7, get_8, set_8, get_9, set_9, e_kV, e_kB, e_nilS, e_noneO, e_nextF, e_bin, k_bin1, k_bin2, e_cmpV, k_cmpV1, k_cmpV2, k_cmpV3, e_cmpB, k_cmpB1, k_cmpB2, k_cmpB3, e_notB, k_notB, e_andB, k_andB1, k_andB0, e_orB, k_orB1, k_orB0, e_truB, k_truB1, k_truB2, k_truth, e_negV, k_neg, e_andV, k_andV1, k_andV0, e_orV, k_orV1, k_orV0, e_iteV, k_ite1, k_ite0, e_cons, k_cons1, k_cons2, e_tup, k_tup1, k_tup2, k_tup3, e_lst, k_lst0, k_lst1, k_lst2, e_opt, k_opt, e_slc, k_slc1, k_slc2, k_slc3, k_slc4, e_chain, k_ch1, k_ch2, k_ch3t, k_ch3f, k_ch4, k_ch5, e_dict0, e_callB, k_callB, e_meth, k_meth1, k_meth2, k_meth3, k_isStr, e_call, k_call1, k_call2, e_seq, k_seqN, k_seqR, e_ret, k_ret, e_asg, k_asg1, k_asg2, e_aug, k_aug1, k_aug2, k_aug3, e_if, k_if1, k_if0, e_expr, k_expr, e_sub, k_sub1, k_sub2, k_sub3, k_untup2, k_untup3, e_sets0, e_sets, k_sets, e_set2, k_set2, e_forStr, k_forStr, e_pin, k_pin, e_forDict, k_forDict1, k_forDict2, e_forList, k_forList1, k_forList2, e_forEnum, k_forEnum1, k_forEnum2, e_forRange, e_comp, v_item hx (show i ≤ 2000 by omega), v_eq1, h91, decide_false]
      rw [upL, for_next hs hb]
      exact sets_loop p t hp ht b q o0 hq k (i + 1) _ _ _ _ _ _ o (by omega) hK

theorem marks_empty (p : List Nat) : ((p.filter fun c => decide (c ∈ [42, 63, 91, 92])).map fun c => V.str [c]).isEmpty = plainP p := by
  unfold plainP
  induction p with
  | nil => rfl
  | cons c p ih =>
    rw [List.filter_cons, List.all_cons]
    by_cases h : c ∈ [42, 63, 91, 92]
    · simp only [h, decide_true, if_true]; rfl
    · simp only [h, decide_false, Bool.false_eq_true, if_false]; rw [ih]; rfl
theorem v_eqNil {e : List (Option V)} {o : List Ob} {q : List Nat} {n m : Nat} {ys : List (List Nat)} (h : o[n]? = some (.list (ys.map V.str))) (h2 : o[m]? = some (.list [])) (hy : ys.all (fun y => PyData.strOk (sv y)) = true) :
    eqF2 (.loc n) (.loc m) ⟨e, o, q⟩ = some (ys.map V.str).isEmpty := by
  show ((listAt ⟨e, o, q⟩ n).bind fun us => (listAt ⟨e, o, q⟩ m).bind fun ws => (strsOf us).bind fun ys => if ws.length = 0 ∧ ys.all (fun y => PyData.strOk (sv y)) = true then some us.isEmpty else none) = _
  have e1 : listAt ⟨e, o, q⟩ n = some (ys.map V.str) := by simp [listAt, h]
  have e2 : listAt ⟨e, o, q⟩ m = some [] := by simp [listAt, h2]
  rw [e1, e2]
  dsimp only [Option.bind_some]
  rw [strsOf_map]
  dsimp only [Option.bind_some]
  rw [if_pos ⟨rfl, hy⟩]

theorem case_val (p t : List Nat) (hp : p.length ≤ 90) (ht : t.length ≤ 200) (b : Bool) (o : List Ob) (q : List Nat) (hq : ∀ x ∈ q, x < o.length) :
    ∃ o', law_case_right_fn [.str p, .str t, .bool b] q o = some (.bool true, o') ∧ Keeps o o' := by
  have hp6 : p.length ≤ 2000 := by omega
  have hqk : ∀ {o'}, Keeps o o' → ∀ x ∈ q, x < o'.length := fun hk x hx => Nat.lt_of_lt_of_le (hq x hx) hk.1
  -- due
  have hdue : ∃ o1, asgF (iteV (truB (getF 2)) (callF (consF (callF (consF (getF 0) nilS) law_low_fn) (consF (callF (consF (getF 1) nilS) law_low_fn) nilS)) law_fits_fn) (callF (consF (getF 0) (consF (getF 1) nilS)) law_fits_fn)) (setF 3) ⟨[some (.str p), some (.str t), some (.bool b), none, none, none, none, none, none], o, q⟩ =
      some (.next, ⟨[some (.str p), some (.str t), some (.bool b), some (.bool (fitB (lowIf b p) 0 (lowIf b t))), none, none, none, none, none], o1, q⟩) ∧ Keeps o o1 := by
    cases b with
    | true =>
      obtain ⟨o1, h1, k1⟩ := low_val p (by omega) o q
      obtain ⟨o2, h2, k2⟩ := low_val t (by omega) o1 q
      obtain ⟨o3, h3, k3⟩ := law_fits_val (lowL p) (lowL t) (by rw [lowL_len]; exact hp) (by rw [lowL_len]; exact ht) o2 q (hqk (k1.trans k2))
      refine ⟨o3, ?_, (k1.trans k2).trans k3⟩
      simp only [get_0, set_0, get_1, set_1, get_2, set_2, get_3, set_3, get_4, set_4, get_5, set_5, get_6, set_6, get_7, set_7, get_8, set_8, get_9, set_9, e_kV, e_kB, e_nilS, e_noneO, e_nextF, e_bin, k_bin1, k_bin2, e_cmpV, k_cmpV1, k_cmpV2, k_cmpV3, e_cmpB, k_cmpB1, k_cmpB2, k_cmpB3, e_notB, k_notB, e_andB, k_andB1, k_andB0, e_orB, k_orB1, k_orB0, e_truB, k_truB1, k_truB2, k_truth, e_negV, k_neg, e_andV, k_andV1, k_andV0, e_orV, k_orV1, k_orV0, e_iteV, k_ite1, k_ite0, e_cons, k_cons1, k_cons2, e_tup, k_tup1, k_tup2, k_tup3, e_lst, k_lst0, k_lst1, k_lst2, e_opt, k_opt, e_slc, k_slc1, k_slc2, k_slc3, k_slc4, e_chain, k_ch1, k_ch2, k_ch3t, k_ch3f, k_ch4, k_ch5, e_dict0, e_callB, k_callB, e_meth, k_meth1, k_meth2, k_meth3, k_isStr, e_call, k_call1, k_call2, e_seq, k_seqN, k_seqR, e_ret, k_ret, e_asg, k_asg1, k_asg2, e_aug, k_aug1, k_aug2, k_aug3, e_if, k_if1, k_if0, e_expr, k_expr, e_sub, k_sub1, k_sub2, k_sub3, k_untup2, k_untup3, e_sets0, e_sets, k_sets, e_set2, k_set2, e_forStr, k_forStr, e_pin, k_pin, e_forDict, k_forDict1, k_forDict2, e_forList, k_forList1, k_forList2, e_forEnum, k_forEnum1, k_forEnum2, e_forRange, e_comp, h1, h2, h3]
      rfl
    | false =>
      obtain ⟨o3, h3, k3⟩ := law_fits_val p t hp ht o q hq
      refine ⟨o3, ?_, k3⟩
      simp only [get_0, set_0, get_1, set_1, get_2, set_2, get_3, set_3, get_4, set_4, get_5, set_5, get_6, set_6, get_7, set_7, get_8, set_8, get_9, set_9, e_kV, e_kB, e_nilS, e_noneO, e_nextF, e_bin, k_bin1, k_bin2, e_cmpV, k_cmpV1, k_cmpV2, k_cmpV3, e_cmpB, k_cmpB1, k_cmpB2, k_cmpB3, e_notB, k_notB, e_andB, k_andB1, k_andB0, e_orB, k_orB1, k_orB0, e_truB, k_truB1, k_truB2, k_truth, e_negV, k_neg, e_andV, k_andV1, k_andV0, e_orV, k_orV1, k_orV0, e_iteV, k_ite1, k_ite0, e_cons, k_cons1, k_cons2, e_tup, k_tup1, k_tup2, k_tup3, e_lst, k_lst0, k_lst1, k_lst2, e_opt, k_opt, e_slc, k_slc1, k_slc2, k_slc3, k_slc4, e_chain, k_ch1, k_ch2, k_ch3t, k_ch3f, k_ch4, k_ch5, e_dict0, e_callB, k_callB, e_meth, k_meth1, k_meth2, k_meth3, k_isStr, e_call, k_call1, k_call2, e_seq, k_seqN, k_seqR, e_ret, k_ret, e_asg, k_asg1, k_asg2, e_aug, k_aug1, k_aug2, k_aug3, e_if, k_if1, k_if0, e_expr, k_expr, e_sub, k_sub1, k_sub2, k_sub3, k_untup2, k_untup3, e_sets0, e_sets, k_sets, e_set2, k_set2, e_forStr, k_forStr, e_pin, k_pin, e_forDict, k_forDict1, k_forDict2, e_forList, k_forList1, k_forList2, e_forEnum, k_forEnum1, k_forEnum2, e_forRange, e_comp, h3]
      rfl
  obtain ⟨o1, e1, k1⟩ := hdue
  have hheard : ∃ o2, asgF (iteV (truB (getF 2)) (callF (consF (getF 0) (consF (getF 1) (consF (kV (.bool true)) nilS))) fits_fn) (callF (consF (getF 0) (consF (getF 1) nilS)) fits_fn)) (setF 4) ⟨[some (.str p), some (.str t), some (.bool b), some (.bool (fitB (lowIf b p) 0 (lowIf b t))), none, none, none, none, none], o1, q⟩ =
      some (.next, ⟨[some (.str p), some (.str t), some (.bool b), some (.bool (fitB (lowIf b p) 0 (lowIf b t))), some (.bool (fitsP (lowIf b p) (lowIf b t))), none, none, none, none], o2, q⟩) ∧ Keeps o1 o2 := by
    cases b with
    | true =>
      obtain ⟨o2, h2, k2⟩ := fits_val [.str p, .str t, .bool true] p t true rfl hp (by omega) o1 q (hqk k1)
      refine ⟨o2, ?_, k2⟩
      simp only [get_0, set_0, get_1, set_1, get_2, set_2, get_3, set_3, get_4, set_4, get_5, set_5, get_6, set_6, get_7, set_7, get_8, set_8, get_9, set_9, e_kV, e_kB, e_nilS, e_noneO, e_nextF, e_bin, k_bin1, k_bin2, e_cmpV, k_cmpV1, k_cmpV2, k_cmpV3, e_cmpB, k_cmpB1, k_cmpB2, k_cmpB3, e_notB, k_notB, e_andB, k_andB1, k_andB0, e_orB, k_orB1, k_orB0, e_truB, k_truB1, k_truB2, k_truth, e_negV, k_neg, e_andV, k_andV1, k_andV0, e_orV, k_orV1, k_orV0, e_iteV, k_ite1, k_ite0, e_cons, k_cons1, k_cons2, e_tup, k_tup1, k_tup2, k_tup3, e_lst, k_lst0, k_lst1, k_lst2, e_opt, k_opt, e_slc, k_slc1, k_slc2, k_slc3, k_slc4, e_chain, k_ch1, k_ch2, k_ch3t, k_ch3f, k_ch4, k_ch5, e_dict0, e_callB, k_callB, e_meth, k_meth1, k_meth2, k_meth3, k_isStr, e_call, k_call1, k_call2, e_seq, k_seqN, k_seqR, e_ret, k_ret, e_asg, k_asg1, k_asg2, e_aug, k_aug1, k_aug2, k_aug3, e_if, k_if1, k_if0, e_expr, k_expr, e_sub, k_sub1, k_sub2, k_sub3, k_untup2, k_untup3, e_sets0, e_sets, k_sets, e_set2, k_set2, e_forStr, k_forStr, e_pin, k_pin, e_forDict, k_forDict1, k_forDict2, e_forList, k_forList1, k_forList2, e_forEnum, k_forEnum1, k_forEnum2, e_forRange, e_comp, h2]
    | false =>
      obtain ⟨o2, h2, k2⟩ := fits_val [.str p, .str t] p t false rfl hp (by omega) o1 q (hqk k1)
      refine ⟨o2, ?_, k2⟩
      simp only [get_0, set_0, get_1, set_1, get_2, set_2, get_3, set_3, get_4, set_4, get_5, set_5, get_6, set_6, get_7, set_7, get_8, set_8, get_9, set_9, e_kV, e_kB, e_nilS, e_noneO, e_nextF, e_bin, k_bin1, k_bin2, e_cmpV, k_cmpV1, k_cmpV2, k_cmpV3, e_cmpB, k_cmpB1, k_cmpB2, k_cmpB3, e_notB, k_notB, e_andB, k_andB1, k_andB0, e_orB, k_orB1, k_orB0, e_truB, k_truB1, k_truB2, k_truth, e_negV, k_neg, e_andV, k_andV1, k_andV0, e_orV, k_orV1, k_orV0, e_iteV, k_ite1, k_ite0, e_cons, k_cons1, k_cons2, e_tup, k_tup1, k_tup2, k_tup3, e_lst, k_lst0, k_lst1, k_lst2, e_opt, k_opt, e_slc, k_slc1, k_slc2, k_slc3, k_slc4, e_chain, k_ch1, k_ch2, k_ch3t, k_ch3f, k_ch4, k_ch5, e_dict0, e_callB, k_callB, e_meth, k_meth1, k_meth2, k_meth3, k_isStr, e_call, k_call1, k_call2, e_seq, k_seqN, k_seqR, e_ret, k_ret, e_asg, k_asg1, k_asg2, e_aug, k_aug1, k_aug2, k_aug3, e_if, k_if1, k_if0, e_expr, k_expr, e_sub, k_sub1, k_sub2, k_sub3, k_untup2, k_untup3, e_sets0, e_sets, k_sets, e_set2, k_set2, e_forStr, k_forStr, e_pin, k_pin, e_forDict, k_forDict1, k_forDict2, e_forList, k_forList1, k_forList2, e_forEnum, k_forEnum1, k_forEnum2, e_forRange, e_comp, h2]
  obtain ⟨o2, e2, k2⟩ := hheard
  rw [fitsB_eq _ _ (by rw [lowIf_len]; exact hp)] at e2
  let ys := (p.filter fun c => decide (c ∈ [42, 63, 91, 92])).map fun c => [c]
  let o3 := o2 ++ [Ob.list (ys.map V.str)]
  have k4 : Keeps o2 (o3 ++ [Ob.list []]) := ((Keeps.refl o2).app _).app _
  have hys : ys.all (fun y => PyData.strOk (sv y)) = true := by
    rw [List.all_eq_true]
    intro y hy
    obtain ⟨c, hc, rfl⟩ := List.mem_map.mp hy
    have h2 := of_decide_eq_true (List.mem_filter.mp hc).2
    simp only [List.mem_cons, List.not_mem_nil, or_false] at h2
    rcases h2 with rfl | rfl | rfl | rfl <;> decide +kernel
  have hmap : (p.filter fun c => decide (c ∈ [42, 63, 91, 92])).map (fun c => V.str [c]) = ys.map V.str := by rw [List.map_map]; rfl
  have hE : ∀ e, eqF2 (.loc o2.length) (.loc o3.length) ⟨e, (o3 ++ [Ob.list []]), q⟩ = some (plainP p) := fun e => by
    rw [v_eqNil (ys := ys) (get_app get_new) get_new hys, ← hmap, marks_empty]
  have hc0 : ∀ e, compK (fun c => decide (c ∈ [42, 63, 91, 92])) (fun c => [c]) (some (.str p, ⟨e, o2, q⟩)) = some (.loc o2.length, ⟨e, o3, q⟩) := fun e => by
    rw [v_comp hp6, hmap]
  have e3 : ifF (orB (cmpB (callB (consF (getF 4) nilS) reprF) (callB (consF (getF 3) nilS) reprF) neF) (orB (cmpB (callB (consF (callF (consF (getF 0) nilS) is_plain_fn) nilS) reprF) (callB (consF (cmpV (compF (getF 0) (fun c => decide (c ∈ [42, 63, 91, 92])) (fun c => [c])) (lstF nilS) eqF2) nilS) reprF) neF) (kB false))) (seqF (retF (kV (.bool false)))
    nextF) nextF ⟨[some (.str p), some (.str t), some (.bool b), some (.bool (fitB (lowIf b p) 0 (lowIf b t))), some (.bool (fitB (lowIf b p) 0 (lowIf b t))), none, none, none, none], o2, q⟩ = some (.next, ⟨[some (.str p), some (.str t), some (.bool b), some (.bool (fitB (lowIf b p) 0 (lowIf b t))), some (.bool (fitB (lowIf b p) 0 (lowIf b t))), none, none, none, none], (o3 ++ [Ob.list []]), q⟩) := by
    simp only [get_0, set_0, get_1, set_1, get_2, set_2, get_3, set_3, get_4, set_4, get_5, set_5, get_6, set_6, get_7, set_7, get_8, set_8, get_9, set_9, e_kV, e_kB, e_nilS, e_noneO, e_nextF, e_bin, k_bin1, k_bin2, e_cmpV, k_cmpV1, k_cmpV2, k_cmpV3, e_cmpB, k_cmpB1, k_cmpB2, k_cmpB3, e_notB, k_notB, e_andB, k_andB1, k_andB0, e_orB, k_orB1, k_orB0, e_truB, k_truB1, k_truB2, k_truth, e_negV, k_neg, e_andV, k_andV1, k_andV0, e_orV, k_orV1, k_orV0, e_iteV, k_ite1, k_ite0, e_cons, k_cons1, k_cons2, e_tup, k_tup1, k_tup2, k_tup3, e_lst, k_lst0, k_lst1, k_lst2, e_opt, k_opt, e_slc, k_slc1, k_slc2, k_slc3, k_slc4, e_chain, k_ch1, k_ch2, k_ch3t, k_ch3f, k_ch4, k_ch5, e_dict0, e_callB, k_callB, e_meth, k_meth1, k_meth2, k_meth3, k_isStr, e_call, k_call1, k_call2, e_seq, k_seqN, k_seqR, e_ret, k_ret, e_asg, k_asg1, k_asg2, e_aug, k_aug1, k_aug2, k_aug3, e_if, k_if1, k_if0, e_expr, k_expr, e_sub, k_sub1, k_sub2, k_sub3, k_untup2, k_untup3, e_sets0, e_sets, k_sets, e_set2, k_set2, e_forStr, k_forStr, e_pin, k_pin, e_forDict, k_forDict1, k_forDict2, e_forList, k_forList1, k_forList2, e_forEnum, k_forEnum1, k_forEnum2, e_forRange, e_comp, v_reprB, v_neB, plain_val, hc0, hE]
  obtain ⟨st', e4, k5⟩ := sets_loop p t hp ht b q o hq p.length 0 (some (.bool (fitB (lowIf b p) 0 (lowIf b t)))) (some (.bool (fitB (lowIf b p) 0 (lowIf b t)))) none none none none (o3 ++ [Ob.list []]) (by omega) ((k1.trans k2).trans k4)
  refine ⟨st'.obs, ?_, k5⟩
  unfold law_case_right_fn
  refine fn_ret (us := [.str p, .str t, .bool b]) (st := st') rfl ?_
  show law_case_right_F ⟨[some (.str p), some (.str t), some (.bool b), none, none, none, none, none, none], o, q⟩ = _
  unfold law_case_right_F
  rw [e_seq, e1, k_seqN, e_seq, e2, k_seqN, e_seq, e3, k_seqN]
  simp only [get_0, set_0, get_1, set_1, get_2, set_2, get_3, set_3, get_4, set_4, get_5, set_5, get_6, set_6, get_7, set_7, get_8, set_8, get_9, set_9, e_kV, e_kB, e_nilS, e_noneO, e_nextF, e_bin, k_bin1, k_bin2, e_cmpV, k_cmpV1, k_cmpV2, k_cmpV3, e_cmpB, k_cmpB1, k_cmpB2, k_cmpB3, e_notB, k_notB, e_andB, k_andB1, k_andB0, e_orB, k_orB1, k_orB0, e_truB, k_truB1, k_truB2, k_truth, e_negV, k_neg, e_andV, k_andV1, k_andV0, e_orV, k_orV1, k_orV0, e_iteV, k_ite1, k_ite0, e_cons, k_cons1, k_cons2, e_tup, k_tup1, k_tup2, k_tup3, e_lst, k_lst0, k_lst1, k_lst2, e_opt, k_opt, e_slc, k_slc1, k_slc2, k_slc3, k_slc4, e_chain, k_ch1, k_ch2, k_ch3t, k_ch3f, k_ch4, k_ch5, e_dict0, e_callB, k_callB, e_meth, k_meth1, k_meth2, k_meth3, k_isStr, e_call, k_call1, k_call2, e_seq, k_seqN, k_seqR, e_ret, k_ret, e_asg, k_asg1, k_asg2, e_aug, k_aug1, k_aug2, k_aug3, e_if, k_if1, k_if0, e_expr, k_expr, e_sub, k_sub1, k_sub2, k_sub3, k_untup2, k_untup3, e_sets0, e_sets, k_sets, e_set2, k_set2, e_forStr, k_forStr, e_pin, k_pin, e_forDict, k_forDict1, k_forDict2, e_forList, k_forList1, k_forList2, e_forEnum, k_forEnum1, k_forEnum2, e_forRange, e_comp, v_len hp6, v_up hp6, e4]

-- quoted texts
noncomputable def sameV (b : Bool) (x t : List Nat) : Bool := lowIf b x == lowIf b t
theorem quoted_turn (t x : List Nat) (ht : t.length ≤ 40) (hx : x.length ≤ 40) (b : Bool) (v1 : Option V) (a5 : Option V) (o : List Ob) (q : List Nat) (hq : ∀ z ∈ q, z < o.length) :
    ∃ o' b5, law_quoted_right_b1 ⟨[some (.str t), v1, some (.bool b), some (.str (quoteL t)), some (.str x), a5], o, q⟩ = some (.next, ⟨[some (.str t), v1, some (.bool b), some (.str (quoteL t)), some (.str x), b5], o', q⟩) ∧ Keeps o o' := by
  have hI : ∃ o1, asgF (iteV (truB (getF 2)) (cmpV (callF (consF (getF 4) nilS) law_low_fn) (callF (consF (getF 0) nilS) law_low_fn) eqF2) (cmpV (getF 4) (getF 0) eqF2)) (setF 5) ⟨[some (.str t), v1, some (.bool b), some (.str (quoteL t)), some (.str x), a5], o, q⟩ =
      some (.next, ⟨[some (.str t), v1, some (.bool b), some (.str (quoteL t)), some (.str x), some (.bool (sameV b x t))], o1, q⟩) ∧ Keeps o o1 := by
    cases b with
    | true =>
      obtain ⟨o1, h1, k1⟩ := low_val x (by omega) o q
      obtain ⟨o2, h2, k2⟩ := low_val t (by omega) o1 q
      refine ⟨o2, ?_, k1.trans k2⟩
      have he : ∀ st, eqF2 (.str (lowL x)) (.str (lowL t)) st = some (sameV true x t) := fun st => rfl
      simp only [get_0, set_0, get_1, set_1, get_2, set_2, get_3, set_3, get_4, set_4, get_5, set_5, get_6, set_6, get_7, set_7, get_8, set_8, get_9, set_9, e_kV, e_kB, e_nilS, e_noneO, e_nextF, e_bin, k_bin1, k_bin2, e_cmpV, k_cmpV1, k_cmpV2, k_cmpV3, e_cmpB, k_cmpB1, k_cmpB2, k_cmpB3, e_notB, k_notB, e_andB, k_andB1, k_andB0, e_orB, k_orB1, k_orB0, e_truB, k_truB1, k_truB2, k_truth, e_negV, k_neg, e_andV, k_andV1, k_andV0, e_orV, k_orV1, k_orV0, e_iteV, k_ite1, k_ite0, e_cons, k_cons1, k_cons2, e_tup, k_tup1, k_tup2, k_tup3, e_lst, k_lst0, k_lst1, k_lst2, e_opt, k_opt, e_slc, k_slc1, k_slc2, k_slc3, k_slc4, e_chain, k_ch1, k_ch2, k_ch3t, k_ch3f, k_ch4, k_ch5, e_dict0, e_callB, k_callB, e_meth, k_meth1, k_meth2, k_meth3, k_isStr, e_call, k_call1, k_call2, e_seq, k_seqN, k_seqR, e_ret, k_ret, e_asg, k_asg1, k_asg2, e_aug, k_aug1, k_aug2, k_aug3, e_if, k_if1, k_if0, e_expr, k_expr, e_sub, k_sub1, k_sub2, k_sub3, k_untup2, k_untup3, e_sets0, e_sets, k_sets, e_set2, k_set2, e_forStr, k_forStr, e_pin, k_pin, e_forDict, k_forDict1, k_forDict2, e_forList, k_forList1, k_forList2, e_forEnum, k_forEnum1, k_forEnum2, e_forRange, e_comp, h1, h2, he]
    | false =>
      refine ⟨o, ?_, Keeps.refl o⟩
      have he : ∀ st, eqF2 (.str x) (.str t) st = some (sameV false x t) := fun st => rfl
      simp only [get_0, set_0, get_1, set_1, get_2, set_2, get_3, set_3, get_4, set_4, get_5, set_5, get_6, set_6, get_7, set_7, get_8, set_8, get_9, set_9, e_kV, e_kB, e_nilS, e_noneO, e_nextF, e_bin, k_bin1, k_bin2, e_cmpV, k_cmpV1, k_cmpV2, k_cmpV3, e_cmpB, k_cmpB1, k_cmpB2, k_cmpB3, e_notB, k_notB, e_andB, k_andB1, k_andB0, e_orB, k_orB1, k_orB0, e_truB, k_truB1, k_truB2, k_truth, e_negV, k_neg, e_andV, k_andV1, k_andV0, e_orV, k_orV1, k_orV0, e_iteV, k_ite1, k_ite0, e_cons, k_cons1, k_cons2, e_tup, k_tup1, k_tup2, k_tup3, e_lst, k_lst0, k_lst1, k_lst2, e_opt, k_opt, e_slc, k_slc1, k_slc2, k_slc3, k_slc4, e_chain, k_ch1, k_ch2, k_ch3t, k_ch3f, k_ch4, k_ch5, e_dict0, e_callB, k_callB, e_meth, k_meth1, k_meth2, k_meth3, k_isStr, e_call, k_call1, k_call2, e_seq, k_seqN, k_seqR, e_ret, k_ret, e_asg, k_asg1, k_asg2, e_aug, k_aug1, k_aug2, k_aug3, e_if, k_if1, k_if0, e_expr, k_expr, e_sub, k_sub1, k_sub2, k_sub3, k_untup2, k_untup3, e_sets0, e_sets, k_sets, e_set2, k_set2, e_forStr, k_forStr, e_pin, k_pin, e_forDict, k_forDict1, k_forDict2, e_forList, k_forList1, k_forList2, e_forEnum, k_forEnum1, k_forEnum2, e_forRange, e_comp, he]
  obtain ⟨o1, e1, k1⟩ := hI
  obtain ⟨o2, h2, k2⟩ := fits_val [.str (quoteL t), .str x, .bool b] (quoteL t) x b rfl (by rw [quoteL_len]; omega) (by omega) o1 q fun z hz => Nat.lt_of_lt_of_le (hq z hz) k1.1
  have hval : fitsP (lowIf b (quoteL t)) (lowIf b x) = sameV b x t := by
    unfold sameV
    cases b with
    | true =>
      show fitsP (lowL (quoteL t)) (lowL x) = (lowL x == lowL t)
      rw [low_quote, fitsP_quote _ _ (by rw [lowL_len]; exact ht)]
      rw [Bool.eq_iff_iff]; simp
    | false =>
      show fitsP (quoteL t) x = (x == t)
      rw [fitsP_quote _ _ ht]
      rw [Bool.eq_iff_iff]; simp
  rw [hval] at h2
  refine ⟨o2, some (.bool (sameV b x t)), ?_, k1.trans k2⟩
  unfold law_quoted_right_b1
  rw [e_seq, e1, k_seqN]
  simp only [get_0, set_0, get_1, set_1, get_2, set_2, get_3, set_3, get_4, set_4, get_5, set_5, get_6, set_6, get_7, set_7, get_8, set_8, get_9, set_9, e_kV, e_kB, e_nilS, e_noneO, e_nextF, e_bin, k_bin1, k_bin2, e_cmpV, k_cmpV1, k_cmpV2, k_cmpV3, e_cmpB, k_cmpB1, k_cmpB2, k_cmpB3, e_notB, k_notB, e_andB, k_andB1, k_andB0, e_orB, k_orB1, k_orB0, e_truB, k_truB1, k_truB2, k_truth, e_negV, k_neg, e_andV, k_andV1, k_andV0, e_orV, k_orV1, k_orV0, e_iteV, k_ite1, k_ite0, e_cons, k_cons1, k_cons2, e_tup, k_tup1, k_tup2, k_tup3, e_lst, k_lst0, k_lst1, k_lst2, e_opt, k_opt, e_slc, k_slc1, k_slc2, k_slc3, k_slc4, e_chain, k_ch1, k_ch2, k_ch3t, k_ch3f, k_ch4, k_ch5, e_dict0, e_callB, k_callB, e_meth, k_meth1, k_meth2, k_meth3, k_isStr, e_call, k_call1, k_call2, e_seq, k_seqN, k_seqR, e_ret, k_ret, e_asg, k_asg1, k_asg2, e_aug, k_aug1, k_aug2, k_aug3, e_if, k_if1, k_if0, e_expr, k_expr, e_sub, k_sub1, k_sub2, k_sub3, k_untup2, k_untup3, e_sets0, e_sets, k_sets, e_set2, k_set2, e_forStr, k_forStr, e_pin, k_pin, e_forDict, k_forDict1, k_forDict2, e_forList, k_forList1, k_forList2, e_forEnum, k_forEnum1, k_forEnum2, e_forRange, e_comp, h2, v_reprB, v_neB]

theorem quoted_val (t x : List Nat) (ht : t.length ≤ 40) (hx : x.length ≤ 40) (b : Bool) (o : List Ob) (q : List Nat) (hq : ∀ z ∈ q, z < o.length) :
    ∃ o', law_quoted_right_fn [.str t, .str x, .bool b] q o = some (.bool true, o') ∧ Keeps o o' := by
  let o1 := o ++ [Ob.list ((t.map fun c => [92, c]).map V.str)]
  have hm : (t.filter fun _ => true).map (fun c => V.str [92, c]) = (t.map fun c => [92, c]).map V.str := by rw [PySem.W.filter_all, List.map_map]; rfl
  have hc : ∀ e, compK (fun _ => true) (fun c => [92, c]) (some (.str t, ⟨e, o, q⟩)) = some (.loc o.length, ⟨e, o1, q⟩) := fun e => by rw [v_comp (by omega), hm]
  have hsum : ((t.map fun c => [92, c]).map (·.length)).sum ≤ 2000 := by
    rw [List.map_map]
    have : (t.map ((fun x : List Nat => x.length) ∘ fun c => [92, c])).sum = 2 * t.length := by
      clear hm hc o1 ht
      induction t with
      | nil => rfl
      | cons c t ih => rw [List.map_cons, List.sum_cons, ih]; simp only [Function.comp, List.length_cons, List.length_nil]; omega
    rw [this]; omega
  have hj : ∀ e, joinF [.str [], .loc o.length] ⟨e, o1, q⟩ = some (.str (quoteL t), ⟨e, o1, q⟩) := fun e => v_join get_new hsum
  have hg : (o1 ++ [Ob.list [.str t, .str x]])[o1.length]? = some (.list [.str t, .str x]) := get_new
  have kk : Keeps o (o1 ++ [Ob.list [.str t, .str x]]) := ((Keeps.refl o).app _).app _
  have hq2 : ∀ {o'}, Keeps (o1 ++ [Ob.list [.str t, .str x]]) o' → ∀ z ∈ o1.length :: q, z < o'.length := fun hk z hz => by
    refine Nat.lt_of_lt_of_le ?_ hk.1
    rcases List.mem_cons.mp hz with rfl | hz
    · exact place_lt hg
    · exact Nat.lt_of_lt_of_le (hq z hz) kk.1
  obtain ⟨o3, b5, h3, k3⟩ := quoted_turn t t ht ht b (some (.str x)) none (o1 ++ [Ob.list [.str t, .str x]]) (o1.length :: q) (hq2 (Keeps.refl _))
  obtain ⟨o4, c5, h4, k4⟩ := quoted_turn t x ht hx b (some (.str x)) b5 o3 (o1.length :: q) (hq2 k3)
  have hF : forF (setF 4) law_quoted_right_b1 [.str t, .str x] ⟨[some (.str t), some (.str x), some (.bool b), some (.str (quoteL t)), none, none], (o1 ++ [Ob.list [.str t, .str x]]), o1.length :: q⟩ = some (.next, ⟨[some (.str t), some (.str x), some (.bool b), some (.str (quoteL t)), some (.str x), c5], o4, o1.length :: q⟩) := by
    rw [for_next rfl h3, for_next rfl h4]
    rfl
  refine ⟨o4, ?_, (kk.trans k3).trans k4⟩
  unfold law_quoted_right_fn
  refine fn_ret (us := [.str t, .str x, .bool b]) (st := ⟨[some (.str t), some (.str x), some (.bool b), some (.str (quoteL t)), some (.str x), c5], o4, q⟩) rfl ?_
  show law_quoted_right_F ⟨[some (.str t), some (.str x), some (.bool b), none, none, none], o, q⟩ = _
  simp only [law_quoted_right_F, get_0, set_0, get_1, set_1, get_2, set_2, get_3, set_3, get_4, set_4, get_5, set_5, get_6, set_6, get_7, set_7, get_8, set_8, get_9, set_9, e_kV, e_kB, e_nilS, e_noneO, e_nextF, e_bin, k_bin1, k_bin2, e_cmpV, k_cmpV1, k_cmpV2, k_cmpV3, e_cmpB, k_cmpB1, k_cmpB2, k_cmpB3, e_notB, k_notB, e_andB, k_andB1, k_andB0, e_orB, k_orB1, k_orB0, e_truB, k_truB1, k_truB2, k_truth, e_negV, k_neg, e_andV, k_andV1, k_andV0, e_orV, k_orV1, k_orV0, e_iteV, k_ite1, k_ite0, e_cons, k_cons1, k_cons2, e_tup, k_tup1, k_tup2, k_tup3, e_lst, k_lst0, k_lst1, k_lst2, e_opt, k_opt, e_slc, k_slc1, k_slc2, k_slc3, k_slc4, e_chain, k_ch1, k_ch2, k_ch3t, k_ch3f, k_ch4, k_ch5, e_dict0, e_callB, k_callB, e_meth, k_meth1, k_meth2, k_meth3, k_isStr, e_call, k_call1, k_call2, e_seq, k_seqN, k_seqR, e_ret, k_ret, e_asg, k_asg1, k_asg2, e_aug, k_aug1, k_aug2, k_aug3, e_if, k_if1, k_if0, e_expr, k_expr, e_sub, k_sub1, k_sub2, k_sub3, k_untup2, k_untup3, e_sets0, e_sets, k_sets, e_set2, k_set2, e_forStr, k_forStr, e_pin, k_pin, e_forDict, k_forDict1, k_forDict2, e_forList, k_forList1, k_forList2, e_forEnum, k_forEnum1, k_forEnum2, e_forRange, e_comp, hc, hj, hg, hF]
end NP
end

section
set_option maxHeartbeats 2000000
set_option backward.defeqAttrib.useBackward true
namespace NP

noncomputable def signsL : List Nat := [97, 98, 99, 66, 42, 63, 91, 93, 45, 92, 201, 233, 304]
noncomputable def toldD : List (List Nat × List Nat × Bool) := [([42, 97, 42, 98, 99], [97, 98, 97, 99, 97, 98, 99], false),
  ([42, 97, 42, 98, 99], [97, 98, 99, 97, 98], false),
  ([63, 91, 97, 45, 99, 93, 42], [45, 97], false),
  ([63, 42, 63], [97], false),
  ([91, 99, 45, 97, 93, 98], [99, 98], false),
  ([91, 99, 45, 98, 93], [97], false),
  ([91, 98, 45, 97, 93], [99], false),
  ([91, 97, 45, 98, 93], [45], false),
  ([91, 97, 45, 99], [98], false),
  ([91, 97, 45], [97], false),
  ([91, 97, 98, 45, 93, 99, 93], [97, 99, 93], false),
  ([42, 91, 97, 98, 45, 93, 42, 93], [97, 93, 98], false),
  ([91, 93, 97, 93], [97], false),
  ([97, 92], [97, 92], false),
  ([92, 42, 92, 91, 63], [42, 91, 45], false),
  ([91, 92, 97, 93], [92], false),
  ([98, 66, 201], [66, 98, 233], true),
  ([98, 66], [98, 98], false),
  ([91, 66, 45, 97, 93, 99, 63], [97, 99, 304], true),
  ([42, 42, 98, 63], [98, 97, 98, 45], false),
  ([], [], false),
  ([42], [], false),
  ([97, 42], [98], false),
  ([97, 98], [97, 99], false),
  ([97], [97, 98], false),
  ([91, 97, 93], [91], false),
  ([91, 98], [97], false),
  ([91, 97, 45, 98, 93, 42], [98], false)]
noncomputable def toldV (d : List Nat × List Nat × Bool) : V := .tup [.str d.1, .str d.2.1, .bool d.2.2]
theorem told_ok : ∀ d ∈ toldD, (∀ c ∈ d.1, c ∈ signsL) ∧ (∀ c ∈ d.2.1, c ∈ signsL) ∧ d.1.length ≤ 20 ∧ d.2.1.length ≤ 20 := by decide +kernel
theorem told_len : toldD.length = 28 := rfl
theorem told_val (o : List Ob) (q : List Nat) : law_told_fn [] q o = some (.loc o.length, o ++ [.list (toldD.map toldV)]) := by
  unfold law_told_fn
  refine fn_ret (us := []) (st := ⟨[], o ++ [.list (toldD.map toldV)], q⟩) rfl ?_
  show law_told_F ⟨[], o, q⟩ = _
  rfl

section
variable {e : List (Option V)} {o : List Ob} {q : List Nat} {n : Nat} {x y : Int} {v w : V} {st : St}
theorem v_mod (h : y ≠ 0) : modF (.int x) (.int y) st = some (.int (x.fmod y), st) := by
  show (if y = 0 then none else _) = _
  rw [if_neg h]
theorem v_div (h : y ≠ 0) (h2 : y.natAbs < 1073741824) : divF (.int x) (.int y) st = some (.int (x.fdiv y), st) := by
  show (if y ≠ 0 ∧ y.natAbs < 1073741824 then _ else none) = _
  rw [if_pos ⟨h, h2⟩]
theorem v_put0 (h : o[n]? = some (.list [v])) (hq : n ∉ q) : putF (.loc n) (.int 0) w ⟨e, o, q⟩ = some ⟨e, o.set n (.list [w]), q⟩ := by
  show (if n ∈ q then none else match o[n]? with | some (.dict kvs) => _ | some (.list vs) => if inR 0 ∧ (0 : Int).toNat < vs.length then some (St.mk e (o.set n (.list (vs.set (0 : Int).toNat w))) q) else none | none => none) = _
  rw [if_neg hq, h]
  dsimp only
  rw [if_pos ⟨rfl, Nat.zero_lt_one⟩]
  rfl
end
theorem draw_val (n : Nat) (many : Int) (x : Int) (hm : many ≠ 0) (hm2 : many.natAbs < 1073741824) (o : List Ob) (q : List Nat) (h : o[n]? = some (.list [.int x])) (hq : n ∉ q) :
    law_draw_fn [.loc n, .int many] q o = some (.int (x.fmod many), o.set n (.list [.int (x.fdiv many)])) := by
  unfold law_draw_fn
  refine fn_ret (us := [.loc n, .int many]) (st := ⟨[some (.loc n), some (.int many), some (.int (x.fmod many))], o.set n (.list [.int (x.fdiv many)]), q⟩) rfl ?_
  show law_draw_F ⟨[some (.loc n), some (.int many), none], o, q⟩ = _
  simp only [law_draw_F, get_0, set_0, get_1, set_1, get_2, set_2, get_3, set_3, get_4, set_4, get_5, set_5, get_6, set_6, get_7, set_7, get_8, set_8, get_9, set_9, e_kV, e_kB, e_nilS, e_noneO, e_nextF, e_bin, k_bin1, k_bin2, e_cmpV, k_cmpV1, k_cmpV2, k_cmpV3, e_cmpB, k_cmpB1, k_cmpB2, k_cmpB3, e_notB, k_notB, e_andB, k_andB1, k_andB0, e_orB, k_orB1, k_orB0, e_truB, k_truB1, k_truB2, k_truth, e_negV, k_neg, e_andV, k_andV1, k_andV0, e_orV, k_orV1, k_orV0, e_iteV, k_ite1, k_ite0, e_cons, k_cons1, k_cons2, e_tup, k_tup1, k_tup2, k_tup3, e_lst, k_lst0, k_lst1, k_lst2, e_opt, k_opt, e_slc, k_slc1, k_slc2, k_slc3, k_slc4, e_chain, k_ch1, k_ch2, k_ch3t, k_ch3f, k_ch4, k_ch5, e_dict0, e_callB, k_callB, e_meth, k_meth1, k_meth2, k_meth3, k_isStr, e_call, k_call1, k_call2, e_seq, k_seqN, k_seqR, e_ret, k_ret, e_asg, k_asg1, k_asg2, e_aug, k_aug1, k_aug2, k_aug3, e_if, k_if1, k_if0, e_expr, k_expr, e_sub, k_sub1, k_sub2, k_sub3, k_untup2, k_untup3, e_sets0, e_sets, k_sets, e_set2, k_set2, e_forStr, k_forStr, e_pin, k_pin, e_forDict, k_forDict1, k_forDict2, e_forList, k_forList1, k_forList2, e_forEnum, k_forEnum1, k_forEnum2, e_forRange, e_comp, v_litem0 h, v_mod hm, v_div hm hm2, v_put0 h hq]
theorem fmod_nat (x : Int) (m : Nat) (hm : 0 < m) : ∃ k : Nat, x.fmod (m : Int) = (k : Int) ∧ k < m := by
  have h1 : 0 ≤ x.fmod (m : Int) := Int.fmod_nonneg_of_pos x (by omega)
  have h2 : x.fmod (m : Int) < (m : Int) := Int.fmod_lt_of_pos x (by omega)
  exact ⟨(x.fmod (m : Int)).toNat, by omega, by omega⟩
theorem v_lti {a b : Nat} {st : St} : ltF (.int (a : Int)) (.int (b : Int)) st = some (decide (a < b)) := v_lt

theorem turned_loop (told : List Nat) (ht : told.length ≤ 1000) (hts : ∀ c ∈ told, c ∈ signsL) (n : Nat) (q : List Nat) (hq : n ∉ q) (a3 : Option V) :
    ∀ (k i : Nat) (made : List Nat) (a5 a6 : Option V) (x : Int) (o : List Ob), made.length + k ≤ 1000 → i + k ≤ 1000 → o[n]? = some (.list [.int x]) →
      ∃ made' a5' a6' y, forF (setF 5) law_turned_b1 (upL i k) ⟨[some (.str told), some (.loc n), some (.str signsL), a3, some (.str made), a5, a6], o, q⟩ =
        some (.next, ⟨[some (.str told), some (.loc n), some (.str signsL), a3, some (.str made'), a5', a6'], o.set n (.list [.int y]), q⟩) ∧ made'.length = made.length + k
  | 0, i, made, a5, a6, x, o, _, _, h => ⟨made, a5, a6, x, by rw [X.set_same h]; rfl, rfl⟩
  | k + 1, i, made, a5, a6, x, o, hmk, hik, h => by
    have hs : setF 5 (.int (i : Int)) ⟨[some (.str told), some (.loc n), some (.str signsL), a3, some (.str made), a5, a6], o, q⟩ = some ⟨[some (.str told), some (.loc n), some (.str signsL), a3, some (.str made), some (.int (i : Int)), a6], o, q⟩ := rfl
    have hold : ∃ j : Nat, asgF (iteV (cmpB (getF 5) (callB (consF (getF 0) nilS) lenF) ltF) (methB (getF 2) isStr (consF (bin (getF 0) (getF 5) itemF) nilS) indexF) (kV (.int 0))) (setF 6) ⟨[some (.str told), some (.loc n), some (.str signsL), a3, some (.str made), some (.int (i : Int)), a6], o, q⟩ =
        some (.next, ⟨[some (.str told), some (.loc n), some (.str signsL), a3, some (.str made), some (.int (i : Int)), some (.int (j : Int))], o, q⟩) := by
      by_cases hlt : i < told.length
      · obtain ⟨c, hc⟩ : ∃ c, told[i]? = some c := ⟨_, List.getElem?_eq_getElem hlt⟩
        obtain ⟨j, hj, _⟩ := idx_mem signsL c (hts c (List.mem_of_getElem? hc))
        refine ⟨j, ?_⟩
        have hix : ∀ st, indexF [.str signsL, .str [c]] st = some (.int (j : Int), st) := fun st => by
          show (idxAt signsL [c] 0).map _ = _
          rw [hj]; rfl
        simp only [get_0, set_0, get_1, set_1, get_2, set_2, get_3, set_3, get_4, set_4, get_5, set_5, get_6, set_6, get_7, set_7, get_8, set_8, get_9, set_9, e_kV, e_kB, e_nilS, e_noneO, e_nextF, e_bin, k_bin1, k_bin2, e_cmpV, k_cmpV1, k_cmpV2, k_cmpV3, e_cmpB, k_cmpB1, k_cmpB2, k_cmpB3, e_notB, k_notB, e_andB, k_andB1, k_andB0, e_orB, k_orB1, k_orB0, e_truB, k_truB1, k_truB2, k_truth, e_negV, k_neg, e_andV, k_andV1, k_andV0, e_orV, k_orV1, k_orV0, e_iteV, k_ite1, k_ite0, e_cons, k_cons1, k_cons2, e_tup, k_tup1, k_tup2, k_tup3, e_lst, k_lst0, k_lst1, k_lst2, e_opt, k_opt, e_slc, k_slc1, k_slc2, k_slc3, k_slc4, e_chain, k_ch1, k_ch2, k_ch3t, k_ch3f, k_ch4, k_ch5, e_dict0, e_callB, k_callB, e_meth, k_meth1, k_meth2, k_meth3, k_isStr, e_call, k_call1, k_call2, e_seq, k_seqN, k_seqR, e_ret, k_ret, e_asg, k_asg1, k_asg2, e_aug, k_aug1, k_aug2, k_aug3, e_if, k_if1, k_if0, e_expr, k_expr, e_sub, k_sub1, k_sub2, k_sub3, k_untup2, k_untup3, e_sets0, e_sets, k_sets, e_set2, k_set2, e_forStr, k_forStr, e_pin, k_pin, e_forDict, k_forDict1, k_forDict2, e_forList, k_forList1, k_forList2, e_forEnum, k_forEnum1, k_forEnum2, e_forRange, e_comp, v_len (show told.length ≤ 2000 by omega), v_lt, hlt, decide_true, v_item hc (show i ≤ 2000 by omega), hix]
      · refine ⟨0, ?_⟩
        simp only [get_0, set_0, get_1, set_1, get_2, set_2, get_3, set_3, get_4, set_4, get_5, set_5, get_6, set_6, get_7, set_7, get_8, set_8, get_9, set_9, e_kV, e_kB, e_nilS, e_noneO, e_nextF, e_bin, k_bin1, k_bin2, e_cmpV, k_cmpV1, k_cmpV2, k_cmpV3, e_cmpB, k_cmpB1, k_cmpB2, k_cmpB3, e_notB, k_notB, e_andB, k_andB1, k_andB0, e_orB, k_orB1, k_orB0, e_truB, k_truB1, k_truB2, k_truth, e_negV, k_neg, e_andV, k_andV1, k_andV0, e_orV, k_orV1, k_orV0, e_iteV, k_ite1, k_ite0, e_cons, k_cons1, k_cons2, e_tup, k_tup1, k_tup2, k_tup3, e_lst, k_lst0, k_lst1, k_lst2, e_opt, k_opt, e_slc, k_slc1, k_slc2, k_slc3, k_slc4, e_chain, k_ch1, k_ch2, k_ch3t, k_ch3f, k_ch4, k_ch5, e_dict0, e_callB, k_callB, e_meth, k_meth1, k_meth2, k_meth3, k_isStr, e_call, k_call1, k_call2, e_seq, k_seqN, k_seqR, e_ret, k_ret, e_asg, k_asg1, k_asg2, e_aug, k_aug1, k_aug2, k_aug3, e_if, k_if1, k_if0, e_expr, k_expr, e_sub, k_sub1, k_sub2, k_sub3, k_untup2, k_untup3, e_sets0, e_sets, k_sets, e_set2, k_set2, e_forStr, k_forStr, e_pin, k_pin, e_forDict, k_forDict1, k_forDict2, e_forList, k_forList1, k_forList2, e_forEnum, k_forEnum1, k_forEnum2, e_forRange, e_comp, v_len (show told.length ≤ 2000 by omega), v_lt, hlt, decide_false]
        rfl
    obtain ⟨j, e1⟩ := hold
    have hd := draw_val n 13 x (by decide) (by decide) o q h hq
    obtain ⟨z, hz, hz2⟩ := fmod_nat ((j : Int) + x.fmod 13) 13 (by decide)
    obtain ⟨c, hc⟩ : ∃ c, signsL[z]? = some c := ⟨_, List.getElem?_eq_getElem (show z < signsL.length from hz2)⟩
    have hz' : ((j : Int) + x.fmod 13).fmod 13 = (z : Int) := hz
    have ha : ∀ st, addF2 (.int (j : Int)) (.int (x.fmod 13)) st = some (.int ((j : Int) + x.fmod 13), st) := fun st => rfl
    have hm : ∀ st, modF (.int ((j : Int) + x.fmod 13)) (.int 13) st = some (.int (z : Int), st) := fun st => by rw [v_mod (by decide), hz']
    have hb : law_turned_b1 ⟨[some (.str told), some (.loc n), some (.str signsL), a3, some (.str made), some (.int (i : Int)), a6], o, q⟩ =
        some (.next, ⟨[some (.str told), some (.loc n), some (.str signsL), a3, some (.str (made ++ [c])), some (.int (i : Int)), some (.int (j : Int))], o.set n (.list [.int (x.fdiv 13)]), q⟩) := by
      unfold law_turned_b1
      rw [e_seq, e1, k_seqN]
      simp only [get_0, set_0, get_1, set_1, get_2, set_2, get_3, set_3, get_4, set_4, get_5, set_5, get_6, set_6, get_7, set_7, get_8, set_8, get_9, set_9, e_kV, e_kB, e_nilS, e_noneO, e_nextF, e_bin, k_bin1, k_bin2, e_cmpV, k_cmpV1, k_cmpV2, k_cmpV3, e_cmpB, k_cmpB1, k_cmpB2, k_cmpB3, e_notB, k_notB, e_andB, k_andB1, k_andB0, e_orB, k_orB1, k_orB0, e_truB, k_truB1, k_truB2, k_truth, e_negV, k_neg, e_andV, k_andV1, k_andV0, e_orV, k_orV1, k_orV0, e_iteV, k_ite1, k_ite0, e_cons, k_cons1, k_cons2, e_tup, k_tup1, k_tup2, k_tup3, e_lst, k_lst0, k_lst1, k_lst2, e_opt, k_opt, e_slc, k_slc1, k_slc2, k_slc3, k_slc4, e_chain, k_ch1, k_ch2, k_ch3t, k_ch3f, k_ch4, k_ch5, e_dict0, e_callB, k_callB, e_meth, k_meth1, k_meth2, k_meth3, k_isStr, e_call, k_call1, k_call2, e_seq, k_seqN, k_seqR, e_ret, k_ret, e_asg, k_asg1, k_asg2, e_aug, k_aug1, k_aug2, k_aug3, e_if, k_if1, k_if0, e_expr, k_expr, e_sub, k_sub1, k_sub2, k_sub3, k_untup2, k_untup3, e_sets0, e_sets, k_sets, e_set2, k_set2, e_forStr, k_forStr, e_pin, k_pin, e_forDict, k_forDict1, k_forDict2, e_forList, k_forList1, k_forList2, e_forEnum, k_forEnum1, k_forEnum2, e_forRange, e_comp, hd, ha, hm, v_item hc (show z ≤ 2000 by omega), v_adds (show made.length + 1 ≤ 2000 by omega)]
    obtain ⟨made', a5', a6', y, ih, hl⟩ := turned_loop told ht hts n q hq a3 k (i + 1) (made ++ [c]) (some (.int (i : Int))) (some (.int (j : Int))) (x.fdiv 13) (o.set n (.list [.int (x.fdiv 13)])) (by simp; omega) (by omega) (get_set h)
    refine ⟨made', a5', a6', y, ?_, by rw [hl]; simp; omega⟩
    rw [upL, for_next hs hb, ih, List.set_set]

theorem turned_val (told : List Nat) (ht : told.length ≤ 1000) (hts : ∀ c ∈ told, c ∈ signsL) (n : Nat) (q : List Nat) (hq : n ∉ q) (x : Int) (o : List Ob) (h : o[n]? = some (.list [.int x])) :
    ∃ made y, law_turned_fn [.str told, .loc n] q o = some (.str made, o.set n (.list [.int y])) ∧ made.length ≤ 8 := by
  have hd := draw_val n 9 x (by decide) (by decide) o q h hq
  obtain ⟨z, hz, hz2⟩ := fmod_nat ((told.length : Int) + x.fmod 9) 9 (by decide)
  have hz' : ((told.length : Int) + x.fmod 9).fmod 9 = (z : Int) := hz
  have ha : ∀ st, addF2 (.int (told.length : Int)) (.int (x.fmod 9)) st = some (.int ((told.length : Int) + x.fmod 9), st) := fun st => rfl
  have hm : ∀ st, modF (.int ((told.length : Int) + x.fmod 9)) (.int 9) st = some (.int (z : Int), st) := fun st => by rw [v_mod (by decide), hz']
  obtain ⟨made, a5', a6', y, hl, hlen⟩ := turned_loop told ht hts n q hq (some (.int (z : Int))) z 0 [] none none (x.fdiv 9) (o.set n (.list [.int (x.fdiv 9)])) (by simp; omega) (by omega) (get_set h)
  rw [List.set_set] at hl
  refine ⟨made, y, ?_, by rw [hlen]; simp; omega⟩
  have hsg : textL "abcB*?[]-\\Ééİ" = .str signsL := by rfl
  unfold law_turned_fn
  refine fn_ret (us := [.str told, .loc n]) (st := ⟨[some (.str told), some (.loc n), some (.str signsL), some (.int (z : Int)), some (.str made), a5', a6'], o.set n (.list [.int y]), q⟩) rfl ?_
  show law_turned_F ⟨[some (.str told), some (.loc n), none, none, none, none, none], o, q⟩ = _
  simp only [law_turned_F, get_0, set_0, get_1, set_1, get_2, set_2, get_3, set_3, get_4, set_4, get_5, set_5, get_6, set_6, get_7, set_7, get_8, set_8, get_9, set_9, e_kV, e_kB, e_nilS, e_noneO, e_nextF, e_bin, k_bin1, k_bin2, e_cmpV, k_cmpV1, k_cmpV2, k_cmpV3, e_cmpB, k_cmpB1, k_cmpB2, k_cmpB3, e_notB, k_notB, e_andB, k_andB1, k_andB0, e_orB, k_orB1, k_orB0, e_truB, k_truB1, k_truB2, k_truth, e_negV, k_neg, e_andV, k_andV1, k_andV0, e_orV, k_orV1, k_orV0, e_iteV, k_ite1, k_ite0, e_cons, k_cons1, k_cons2, e_tup, k_tup1, k_tup2, k_tup3, e_lst, k_lst0, k_lst1, k_lst2, e_opt, k_opt, e_slc, k_slc1, k_slc2, k_slc3, k_slc4, e_chain, k_ch1, k_ch2, k_ch3t, k_ch3f, k_ch4, k_ch5, e_dict0, e_callB, k_callB, e_meth, k_meth1, k_meth2, k_meth3, k_isStr, e_call, k_call1, k_call2, e_seq, k_seqN, k_seqR, e_ret, k_ret, e_asg, k_asg1, k_asg2, e_aug, k_aug1, k_aug2, k_aug3, e_if, k_if1, k_if0, e_expr, k_expr, e_sub, k_sub1, k_sub2, k_sub3, k_untup2, k_untup3, e_sets0, e_sets, k_sets, e_set2, k_set2, e_forStr, k_forStr, e_pin, k_pin, e_forDict, k_forDict1, k_forDict2, e_forList, k_forList1, k_forList2, e_forEnum, k_forEnum1, k_forEnum2, e_forRange, e_comp, hsg, v_len (show told.length ≤ 2000 by omega), hd, ha, hm, v_up (show z ≤ 2000 by omega), hl]
end NP
end

section
set_option maxHeartbeats 2000000
set_option backward.defeqAttrib.useBackward true
namespace NP

theorem filterMap_ints (l : List Int) : ∀ (js : List Nat), js.filterMap ((l.map V.int)[·]?) = (js.filterMap (l[·]?)).map V.int
  | [] => rfl
  | j :: js => by
    rw [List.filterMap_cons, List.filterMap_cons, List.getElem?_map, filterMap_ints l js]
    cases l[j]? <;> rfl
/-- a cut out of a list of ints -/
theorem cut_ints (l : List Int) (i j c : Option Int) : lstSlice (l.map V.int) i j c = (pickNums l i j c).map V.int := by
  unfold lstSlice pickNums
  rw [filterMap_ints, List.length_map]
theorem cut_mem {l : List Int} {i j c : Option Int} {x : Int} (h : x ∈ pickNums l i j c) : x ∈ l := by
  obtain ⟨k, _, hk⟩ := List.mem_filterMap.mp h
  exact List.mem_of_getElem? hk
theorem range_len (a b : Int) (c : Int) : (sliceRange a b c).length = (if c > 0 then (if a < b then (b - a + c - 1) / c else 0) else (if a > b then (a - b - c - 1) / -c else 0)).toNat := by
  simp only [sliceRange, List.length_map, List.length_range]
theorem cut_le (l : List Int) (i j c : Option Int) : (pickNums l i j c).length ≤ (sliceRange (sliceBounds i j c l.length).1 (sliceBounds i j c l.length).2.1 (sliceBounds i j c l.length).2.2).length := List.length_filterMap_le _ _
theorem count1 {a b : Int} (ha : 0 ≤ a) (hb : b ≤ 63) : (if a < b then (b - a + 1 - 1) / 1 else 0).toNat ≤ 63 := by split <;> omega
theorem count28 {a b : Int} (ha : 0 ≤ a) (hb : b ≤ 63) : (if a < b then (b - a + 28 - 1) / 28 else 0).toNat ≤ 100 := by split <;> omega
theorem cut_len63 (l : List Int) : (pickNums l none (some 63) none).length ≤ 63 := by
  refine Nat.le_trans (cut_le _ _ _ _) ?_
  rw [range_len]
  exact count1 (Int.le_refl 0) (Int.max_le.mpr ⟨by decide, Int.min_le_left _ _⟩)
theorem cut_len28 (l : List Int) (k : Nat) (hl : l.length ≤ 63) : (pickNums l (some (k : Int)) none (some 28)).length ≤ 100 := by
  refine Nat.le_trans (cut_le _ _ _ _) ?_
  rw [range_len]
  exact count28 (Int.le_max_left _ _) (Int.ofNat_le.mpr hl)
theorem sum_abs (m : Nat) (l : List Int) (h : ∀ x ∈ l, x.natAbs < 2 ^ m) : l.sum.natAbs ≤ l.length * 2 ^ m := by
  have e := abs_sum_le (B := ((2 ^ m : Nat) : Int)) l fun x hx => by have := h x hx; omega
  rw [← Int.natCast_mul] at e
  omega
theorem sum_bits (m : Nat) (l : List Int) (h : ∀ x ∈ l, Builtin.Int.intBits x ≤ m) (hl : l.length ≤ 100) : Builtin.Int.intBits l.sum ≤ m + 7 := by
  rw [PySem.intBits_le_iff]
  have h1 := sum_abs m l fun x hx => PySem.intBits_le_iff.mp (h x hx)
  have h2 : l.length * 2 ^ m ≤ 100 * 2 ^ m := Nat.mul_le_mul_right _ hl
  rw [Nat.pow_add]
  have h3 : 0 < 2 ^ m := Nat.two_pow_pos m
  have h4 : (2 : Nat) ^ 7 = 128 := rfl
  rw [h4]
  omega
theorem intsOf_map (l : List Int) : intsOf (l.map V.int) = some l := by
  induction l with
  | nil => rfl
  | cons x l ih => simp [intsOf, ih]

section
variable {e : List (Option V)} {o : List Ob} {q : List Nat} {n k : Nat} {ns : List Int} {vs : List V} {st : St} {a b : Int} {r : List Nat × List Nat × Bool}
theorem v_sum (h : o[n]? = some (.list (ns.map V.int))) : sumF [.loc n] ⟨e, o, q⟩ = some (.int ns.sum, ⟨e, o, q⟩) := by
  show ((listAt ⟨e, o, q⟩ n).bind fun vs => (intsOf vs).map fun ns => (V.int ns.sum, (⟨e, o, q⟩ : St))) = _
  have : listAt ⟨e, o, q⟩ n = some (ns.map V.int) := by simp [listAt, h]
  rw [this]
  dsimp only [Option.bind_some]
  rw [intsOf_map]
  rfl
theorem v_cut (h : o[n]? = some (.list (ns.map V.int))) (hl : ns.length ≤ 2000) : sliceF (.loc n) (some (.int (k : Int))) none (some (.int 28)) ⟨e, o, q⟩ = some (.loc o.length, ⟨e, o ++ [.list ((pickNums ns (some (k : Int)) none (some 28)).map V.int)], q⟩) := by
  show (match o[n]? with | some (.list vs) => if vs.length ≤ 2000 ∧ (some 28 : Option Int) ≠ some 0 then some (V.loc o.length, (⟨e, o ++ [Ob.list (lstSlice vs (some (k : Int)) none (some 28))], q⟩ : St)) else none | _ => none) = _
  rw [h]
  dsimp only
  rw [if_pos ⟨by rw [List.length_map]; exact hl, by decide⟩, cut_ints]
theorem v_len28 (h : o[n]? = some (.list (toldD.map toldV))) : lenF [.loc n] ⟨e, o, q⟩ = some (.int 28, ⟨e, o, q⟩) := by
  show ((listAt ⟨e, o, q⟩ n).bind fun vs => if vs.length ≤ 2000 then some (V.int vs.length, (⟨e, o, q⟩ : St)) else none) = _
  have : listAt ⟨e, o, q⟩ n = some (toldD.map toldV) := by simp [listAt, h]
  rw [this]
  rfl
theorem v_pow : powF (.int 10) (.int 30) st = some (.int 1000000000000000000000000000000, st) := by
  show (if (0 : Int) ≤ 30 ∧ (30 : Int) ≤ 1000 ∧ (10 : Int).natAbs < 2 ^ 64 then some (V.int ((10 : Int) ^ (30 : Int).toNat), st) else none) = _
  rw [if_pos (by decide)]
  rfl
theorem v_addC : addF2 (.int 1000000000000000000000000000000) (.int 57) st = some (.int 1000000000000000000000000000057, st) := by rfl
theorem v_mulC (h : Builtin.Int.intBits a ≤ 2097152) : mulF (.int a) (.int 1000000000000000000000000000057) st = some (.int (a * 1000000000000000000000000000057), st) := by
  show (if Builtin.Int.intBits a ≤ 2097152 ∧ Builtin.Int.intBits 1000000000000000000000000000057 ≤ 2097152 then some (V.int (a * 1000000000000000000000000000057), st) else none) = _
  rw [if_pos ⟨h, by decide +kernel⟩]
theorem v_told0 : itemF (toldV r) (.int 0) st = some (.str r.1, st) := by rfl
theorem v_told1 : itemF (toldV r) (.int 1) st = some (.str r.2.1, st) := rfl
theorem v_told2 : itemF (toldV r) (.int 2) st = some (.bool r.2.2, st) := by rfl
theorem v_neb {x y : Bool} : neF (.bool x) (.bool y) st = some (x != y) := rfl
end

theorem law_turn (ns : List Int) (hns : ns.length ≤ 63) (hbits : ∀ x ∈ ns, Builtin.Int.intBits x ≤ 1048576) (o0 : List Ob) (d : Nat) (h0 : o0[0]? = some (.list (ns.map V.int))) (hd : o0[d]? = some (.list (toldD.map toldV)))
    (k : Nat) (r : List Nat × List Nat × Bool) (hr : r ∈ toldD) (other : List Nat) (hother : other.length ≤ 8) (a5 a6 a7 a8 : Option V) (o : List Ob) (hK : Keeps o0 o) :
    ∃ text a5' a6' a7' a8' o', law_b1 ⟨[some (.loc 0), some (.loc d), some (.str other), some (.int (k : Int)), some (toldV r), a5, a6, a7, a8], o, [d]⟩ =
      some (.next, ⟨[some (.loc 0), some (.loc d), some (.str text), some (.int (k : Int)), some (toldV r), a5', a6', a7', a8'], o', [d]⟩) ∧ text.length ≤ 8 ∧ Keeps o0 o' := by
  obtain ⟨hr1, hr2, hr3, hr4⟩ := told_ok r hr
  have g0 := hK.get h0
  have gd := hK.get hd
  let ms := pickNums ns (some (k : Int)) none (some 28)
  let s := ms.sum
  have hsb : Builtin.Int.intBits s ≤ 2097152 := Nat.le_trans (sum_bits 1048576 ms (fun x hx => hbits x (cut_mem hx)) (cut_len28 ns k hns)) (by omega)
  let o1 := o ++ [Ob.list (ms.map V.int)]
  let o2 := o1 ++ [Ob.list [V.int (s * 1000000000000000000000000000057)]]
  have hdl : d < o0.length := place_lt hd
  have hpq : o1.length ∉ [d] := fun h => by
    have := List.mem_singleton.mp h
    have h2 : o1.length = o.length + 1 := by simp [o1]
    have := hK.1
    omega
  have e1 : asgF (lstF (consF (bin (callB (consF (slcF (getF 0) (optF (getF 3)) noneO (optF (callB (consF (getF 1) nilS) lenF))) nilS) sumF) (bin (bin (kV (.int 10)) (kV (.int 30)) powF) (kV (.int 57)) addF2) mulF) nilS)) (setF 5) ⟨[some (.loc 0), some (.loc d), some (.str other), some (.int (k : Int)), some (toldV r), a5, a6, a7, a8], o, [d]⟩ =
      some (.next, ⟨[some (.loc 0), some (.loc d), some (.str other), some (.int (k : Int)), some (toldV r), some (.loc o1.length), a6, a7, a8], o2, [d]⟩) := by
    have hc : ∀ e, sliceF (.loc 0) (some (.int (k : Int))) none (some (.int 28)) ⟨e, o, [d]⟩ = some (.loc o.length, ⟨e, o1, [d]⟩) := fun e => v_cut g0 (by omega)
    have hsu : ∀ e, sumF [.loc o.length] ⟨e, o1, [d]⟩ = some (.int s, ⟨e, o1, [d]⟩) := fun e => v_sum get_new
    have hl : ∀ e, lstK (some ([V.int (s * 1000000000000000000000000000057)], ⟨e, o1, [d]⟩)) = some (.loc o1.length, ⟨e, o2, [d]⟩) := fun e => rfl
    have hE : lstF (consF (bin (callB (consF (slcF (getF 0) (optF (getF 3)) noneO (optF (callB (consF (getF 1) nilS) lenF))) nilS) sumF) (bin (bin (kV (.int 10)) (kV (.int 30)) powF) (kV (.int 57)) addF2) mulF) nilS) ⟨[some (.loc 0), some (.loc d), some (.str other), some (.int (k : Int)), some (toldV r), a5, a6, a7, a8], o, [d]⟩ = some (.loc o1.length, ⟨[some (.loc 0), some (.loc d), some (.str other), some (.int (k : Int)), some (toldV r), a5, a6, a7, a8], o2, [d]⟩) := by
      rw [e_lst]
      refine Eq.trans (congrArg lstK ?_) (hl _)
      simp only [get_0, set_0, get_1, set_1, get_2, set_2, get_3, set_3, get_4, set_4, get_5, set_5, get_6, set_6, get_7, set_7, get_8, set_8, get_9, set_9, e_kV, e_kB, e_nilS, e_noneO, e_nextF, e_bin, k_bin1, k_bin2, e_cmpV, k_cmpV1, k_cmpV2, k_cmpV3, e_cmpB, k_cmpB1, k_cmpB2, k_cmpB3, e_notB, k_notB, e_andB, k_andB1, k_andB0, e_orB, k_orB1, k_orB0, e_truB, k_truB1, k_truB2, k_truth, e_negV, k_neg, e_andV, k_andV1, k_andV0, e_orV, k_orV1, k_orV0, e_iteV, k_ite1, k_ite0, e_cons, k_cons1, k_cons2, e_tup, k_tup1, k_tup2, k_tup3, e_lst, k_lst0, k_lst1, k_lst2, e_opt, k_opt, e_slc, k_slc1, k_slc2, k_slc3, k_slc4, e_chain, k_ch1, k_ch2, k_ch3t, k_ch3f, k_ch4, k_ch5, e_dict0, e_callB, k_callB, e_meth, k_meth1, k_meth2, k_meth3, k_isStr, e_call, k_call1, k_call2, e_seq, k_seqN, k_seqR, e_ret, k_ret, e_asg, k_asg1, k_asg2, e_aug, k_aug1, k_aug2, k_aug3, e_if, k_if1, k_if0, e_expr, k_expr, e_sub, k_sub1, k_sub2, k_sub3, k_untup2, k_untup3, e_sets0, e_sets, k_sets, e_set2, k_set2, e_forStr, k_forStr, e_pin, k_pin, e_forDict, k_forDict1, k_forDict2, e_forList, k_forList1, k_forList2, e_forEnum, k_forEnum1, k_forEnum2, e_forRange, e_comp, v_len28 gd, hc, hsu, v_pow, v_addC, v_mulC hsb]
    rw [e_asg, hE]
    simp only [get_0, set_0, get_1, set_1, get_2, set_2, get_3, set_3, get_4, set_4, get_5, set_5, get_6, set_6, get_7, set_7, get_8, set_8, get_9, set_9, e_kV, e_kB, e_nilS, e_noneO, e_nextF, e_bin, k_bin1, k_bin2, e_cmpV, k_cmpV1, k_cmpV2, k_cmpV3, e_cmpB, k_cmpB1, k_cmpB2, k_cmpB3, e_notB, k_notB, e_andB, k_andB1, k_andB0, e_orB, k_orB1, k_orB0, e_truB, k_truB1, k_truB2, k_truth, e_negV, k_neg, e_andV, k_andV1, k_andV0, e_orV, k_orV1, k_orV0, e_iteV, k_ite1, k_ite0, e_cons, k_cons1, k_cons2, e_tup, k_tup1, k_tup2, k_tup3, e_lst, k_lst0, k_lst1, k_lst2, e_opt, k_opt, e_slc, k_slc1, k_slc2, k_slc3, k_slc4, e_chain, k_ch1, k_ch2, k_ch3t, k_ch3f, k_ch4, k_ch5, e_dict0, e_callB, k_callB, e_meth, k_meth1, k_meth2, k_meth3, k_isStr, e_call, k_call1, k_call2, e_seq, k_seqN, k_seqR, e_ret, k_ret, e_asg, k_asg1, k_asg2, e_aug, k_aug1, k_aug2, k_aug3, e_if, k_if1, k_if0, e_expr, k_expr, e_sub, k_sub1, k_sub2, k_sub3, k_untup2, k_untup3, e_sets0, e_sets, k_sets, e_set2, k_set2, e_forStr, k_forStr, e_pin, k_pin, e_forDict, k_forDict1, k_forDict2, e_forList, k_forList1, k_forList2, e_forEnum, k_forEnum1, k_forEnum2, e_forRange, e_comp]
  have gp : o2[o1.length]? = some (.list [V.int (s * 1000000000000000000000000000057)]) := get_new
  have k2 : Keeps o o2 := ((Keeps.refl o).app _).app _
  have hop : o0.length ≤ o1.length := Nat.le_trans hK.1 (by simp [o1])
  obtain ⟨pat, y1, t1, l1⟩ := turned_val r.1 (by omega) hr1 o1.length [d] hpq _ o2 gp
  have gp3 : (o2.set o1.length (.list [.int y1]))[o1.length]? = some (.list [.int y1]) := get_set gp
  obtain ⟨txt, y2, t2, l2⟩ := turned_val r.2.1 (by omega) hr2 o1.length [d] hpq _ _ gp3
  rw [List.set_set] at t2
  have gp4 : (o2.set o1.length (.list [.int y2]))[o1.length]? = some (.list [.int y2]) := get_set gp
  have hdr := draw_val o1.length 2 y2 (by decide) (by decide) _ [d] gp4 hpq
  rw [List.set_set] at hdr
  let nc : Bool := r.2.2 != decide (y2.fmod 2 = 1)
  let o5 := o2.set o1.length (.list [.int (y2.fdiv 2)])
  have k5 : Keeps o0 o5 := (hK.trans k2).set hop _
  have hq5 : ∀ {o'}, Keeps o0 o' → ∀ x ∈ [d], x < o'.length := fun hk x hx => by
    rw [List.mem_singleton.mp hx]
    exact Nat.lt_of_lt_of_le hdl hk.1
  obtain ⟨o6, c1, k6⟩ := case_val pat txt (by omega) (by omega) nc o5 [d] (hq5 k5)
  obtain ⟨o7, c2, k7⟩ := quoted_val txt other (by omega) (by omega) nc o6 [d] (hq5 (k5.trans k6))
  have hdr' : law_draw_fn [.loc o1.length, .int 2] [d] (o2.set o1.length (.list [.int y2])) = some (.int (y2.fmod 2), o5) := hdr
  have hnc : ∀ st, neF (.bool r.2.2) (.bool (decide (y2.fmod 2 = 1))) st = some nc := fun st => rfl
  have c1' : law_case_right_fn [.str pat, .str txt, .bool nc] [d] o5 = some (.bool true, o6) := c1
  have hm4 : ∀ st, modF (.int (k : Int)) (.int 4) st = some (.int ((k : Int).fmod 4), st) := fun st => v_mod (by decide)
  by_cases hk4 : (k : Int).fmod 4 = 0
  · refine ⟨txt, some (.loc o1.length), some (.str pat), some (.str txt), some (.bool nc), o7, ?_, l2, (k5.trans k6).trans k7⟩
    unfold law_b1
    rw [e_seq, e1, k_seqN]
    simp only [get_0, set_0, get_1, set_1, get_2, set_2, get_3, set_3, get_4, set_4, get_5, set_5, get_6, set_6, get_7, set_7, get_8, set_8, get_9, set_9, e_kV, e_kB, e_nilS, e_noneO, e_nextF, e_bin, k_bin1, k_bin2, e_cmpV, k_cmpV1, k_cmpV2, k_cmpV3, e_cmpB, k_cmpB1, k_cmpB2, k_cmpB3, e_notB, k_notB, e_andB, k_andB1, k_andB0, e_orB, k_orB1, k_orB0, e_truB, k_truB1, k_truB2, k_truth, e_negV, k_neg, e_andV, k_andV1, k_andV0, e_orV, k_orV1, k_orV0, e_iteV, k_ite1, k_ite0, e_cons, k_cons1, k_cons2, e_tup, k_tup1, k_tup2, k_tup3, e_lst, k_lst0, k_lst1, k_lst2, e_opt, k_opt, e_slc, k_slc1, k_slc2, k_slc3, k_slc4, e_chain, k_ch1, k_ch2, k_ch3t, k_ch3f, k_ch4, k_ch5, e_dict0, e_callB, k_callB, e_meth, k_meth1, k_meth2, k_meth3, k_isStr, e_call, k_call1, k_call2, e_seq, k_seqN, k_seqR, e_ret, k_ret, e_asg, k_asg1, k_asg2, e_aug, k_aug1, k_aug2, k_aug3, e_if, k_if1, k_if0, e_expr, k_expr, e_sub, k_sub1, k_sub2, k_sub3, k_untup2, k_untup3, e_sets0, e_sets, k_sets, e_set2, k_set2, e_forStr, k_forStr, e_pin, k_pin, e_forDict, k_forDict1, k_forDict2, e_forList, k_forList1, k_forList2, e_forEnum, k_forEnum1, k_forEnum2, e_forRange, e_comp, v_told0, v_told1, v_told2, t1, t2, hdr', v_eqi, hnc, c1', hm4, hk4, decide_true, c2, Bool.not_true]
  · refine ⟨txt, some (.loc o1.length), some (.str pat), some (.str txt), some (.bool nc), o6, ?_, l2, k5.trans k6⟩
    unfold law_b1
    rw [e_seq, e1, k_seqN]
    simp only [get_0, set_0, get_1, set_1, get_2, set_2, get_3, set_3, get_4, set_4, get_5, set_5, get_6, set_6, get_7, set_7, get_8, set_8, get_9, set_9, e_kV, e_kB, e_nilS, e_noneO, e_nextF, e_bin, k_bin1, k_bin2, e_cmpV, k_cmpV1, k_cmpV2, k_cmpV3, e_cmpB, k_cmpB1, k_cmpB2, k_cmpB3, e_notB, k_notB, e_andB, k_andB1, k_andB0, e_orB, k_orB1, k_orB0, e_truB, k_truB1, k_truB2, k_truth, e_negV, k_neg, e_andV, k_andV1, k_andV0, e_orV, k_orV1, k_orV0, e_iteV, k_ite1, k_ite0, e_cons, k_cons1, k_cons2, e_tup, k_tup1, k_tup2, k_tup3, e_lst, k_lst0, k_lst1, k_lst2, e_opt, k_opt, e_slc, k_slc1, k_slc2, k_slc3, k_slc4, e_chain, k_ch1, k_ch2, k_ch3t, k_ch3f, k_ch4, k_ch5, e_dict0, e_callB, k_callB, e_meth, k_meth1, k_meth2, k_meth3, k_isStr, e_call, k_call1, k_call2, e_seq, k_seqN, k_seqR, e_ret, k_ret, e_asg, k_asg1, k_asg2, e_aug, k_aug1, k_aug2, k_aug3, e_if, k_if1, k_if0, e_expr, k_expr, e_sub, k_sub1, k_sub2, k_sub3, k_untup2, k_untup3, e_sets0, e_sets, k_sets, e_set2, k_set2, e_forStr, k_forStr, e_pin, k_pin, e_forDict, k_forDict1, k_forDict2, e_forList, k_forList1, k_forList2, e_forEnum, k_forEnum1, k_forEnum2, e_forRange, e_comp, v_told0, v_told1, v_told2, t1, t2, hdr', v_eqi, hnc, c1', hm4, hk4, decide_false, Bool.not_true]

theorem law_loop (ns : List Int) (hns : ns.length ≤ 63) (hbits : ∀ x ∈ ns, Builtin.Int.intBits x ≤ 1048576) (o0 : List Ob) (d : Nat) (h0 : o0[0]? = some (.list (ns.map V.int))) (hd : o0[d]? = some (.list (toldD.map toldV))) :
    ∀ (rows : List (List Nat × List Nat × Bool)) (k : Nat) (other : List Nat) (a3 a4 a5 a6 a7 a8 : Option V) (o : List Ob), (∀ r ∈ rows, r ∈ toldD) → other.length ≤ 8 → Keeps o0 o →
      ∃ e o', forF (untupF 2 (setsF [3, 4])) law_b1 (enumL k (rows.map toldV)) ⟨[some (.loc 0), some (.loc d), some (.str other), a3, a4, a5, a6, a7, a8], o, [d]⟩ = some (.next, ⟨e, o', [d]⟩)
  | [], k, other, a3, a4, a5, a6, a7, a8, o, _, _, _ => ⟨_, _, rfl⟩
  | r :: rows, k, other, a3, a4, a5, a6, a7, a8, o, hr, ho, hK => by
    have hs : untupF 2 (setsF [3, 4]) (.tup [.int (k : Int), toldV r]) ⟨[some (.loc 0), some (.loc d), some (.str other), a3, a4, a5, a6, a7, a8], o, [d]⟩ = some ⟨[some (.loc 0), some (.loc d), some (.str other), some (.int (k : Int)), some (toldV r), a5, a6, a7, a8], o, [d]⟩ := rfl
    obtain ⟨text, a5', a6', a7', a8', o', hb, ht, hK'⟩ := law_turn ns hns hbits o0 d h0 hd k r (hr r (.head _)) other ho a5 a6 a7 a8 o hK
    obtain ⟨e, o'', ih⟩ := law_loop ns hns hbits o0 d h0 hd rows (k + 1) text _ _ a5' a6' a7' a8' o' (fun x hx => hr x (.tail _ hx)) ht hK'
    refine ⟨e, o'', ?_⟩
    rw [List.map_cons]
    show forF _ _ (.tup [.int (k : Int), toldV r] :: enumL (k + 1) (rows.map toldV)) _ = _
    rw [for_next hs hb]
    exact ih

theorem law_true (ns : List Int) (hlay : PyData.layable0 (.list (ns.map .int)) = true) :
    ∃ st', law_rest_F ⟨[some (.loc 0), none, none, none, none, none, none, none, none], [.list (lstSlice (ns.map .int) none (some 63) none)], []⟩ = some (.ret (.bool true), st') := by
  rw [cut_ints]
  let ms := pickNums ns none (some 63) none
  have hms : ms.length ≤ 63 := cut_len63 ns
  have hbits : ∀ x ∈ ms, Builtin.Int.intBits x ≤ 1048576 := fun x hx => PySem.intBits_le_of_item (cut_mem hx) hlay
  have ht := told_val [Ob.list (ms.map V.int)] []
  obtain ⟨e, o', hL⟩ := law_loop ms hms hbits [Ob.list (ms.map V.int), Ob.list (toldD.map toldV)] 1 rfl rfl toldD 0 [97] none none none none none none _ (fun _ h => h) (by decide) (Keeps.refl _)
  have ht' : law_told_fn [] [] [Ob.list (ms.map V.int)] = some (.loc 1, [Ob.list (ms.map V.int), Ob.list (toldD.map toldV)]) := ht
  have hg : ([Ob.list (ms.map V.int), Ob.list (toldD.map toldV)] : List Ob)[1]? = some (.list (toldD.map toldV)) := rfl
  refine ⟨⟨e, o', []⟩, ?_⟩
  show law_rest_F ⟨[some (.loc 0), none, none, none, none, none, none, none, none], [Ob.list (ms.map V.int)], []⟩ = _
  simp only [law_rest_F, get_0, set_0, get_1, set_1, get_2, set_2, get_3, set_3, get_4, set_4, get_5, set_5, get_6, set_6, get_7, set_7, get_8, set_8, get_9, set_9, e_kV, e_kB, e_nilS, e_noneO, e_nextF, e_bin, k_bin1, k_bin2, e_cmpV, k_cmpV1, k_cmpV2, k_cmpV3, e_cmpB, k_cmpB1, k_cmpB2, k_cmpB3, e_notB, k_notB, e_andB, k_andB1, k_andB0, e_orB, k_orB1, k_orB0, e_truB, k_truB1, k_truB2, k_truth, e_negV, k_neg, e_andV, k_andV1, k_andV0, e_orV, k_orV1, k_orV0, e_iteV, k_ite1, k_ite0, e_cons, k_cons1, k_cons2, e_tup, k_tup1, k_tup2, k_tup3, e_lst, k_lst0, k_lst1, k_lst2, e_opt, k_opt, e_slc, k_slc1, k_slc2, k_slc3, k_slc4, e_chain, k_ch1, k_ch2, k_ch3t, k_ch3f, k_ch4, k_ch5, e_dict0, e_callB, k_callB, e_meth, k_meth1, k_meth2, k_meth3, k_isStr, e_call, k_call1, k_call2, e_seq, k_seqN, k_seqR, e_ret, k_ret, e_asg, k_asg1, k_asg2, e_aug, k_aug1, k_aug2, k_aug3, e_if, k_if1, k_if0, e_expr, k_expr, e_sub, k_sub1, k_sub2, k_sub3, k_untup2, k_untup3, e_sets0, e_sets, k_sets, e_set2, k_set2, e_forStr, k_forStr, e_pin, k_pin, e_forDict, k_forDict1, k_forDict2, e_forList, k_forList1, k_forList2, e_forEnum, k_forEnum1, k_forEnum2, e_forRange, e_comp, ht', hg, hL]

end NP
end

theorem PySem.Challenge.cw_np0128_01_holds : PySem.Challenge.rw_np0128_01.Holds :=
  NP.holds_of fun ns _ h => NP.law_true ns h
