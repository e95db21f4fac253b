import PyProof.Rows.All
import Wide.All
import OpenK.AllK
import Wide.FinOn
import PySem.Challenge.RW_qd0037_01
open PySem PySem.W PyProof.Rows
set_option Elab.async false
set_option linter.all false
set_option maxRecDepth 100000
set_option genSizeOfSpec false
set_option pp.deepTerms false
set_option pp.maxSteps 2500
namespace Mine

section
/-- the goal by a short name -/
theorem gw {P : Prop} (h : ∀ G : Prop, (P → G) → G) : P := h P id
/-- lists matched item by item -/
noncomputable def All2 {α β : Type} (R : α → β → Prop) : List α → List β → Prop
  | [], [] => True
  | a :: as, b :: bs => R a b ∧ All2 R as bs
  | _, _ => False

section All2
variable {α β : Type} {R S : α → β → Prop}
theorem All2.mono (h : ∀ a b, R a b → S a b) : ∀ {as : List α} {bs : List β}, All2 R as bs → All2 S as bs
  | [], [], _ => trivial
  | _ :: _, _ :: _, ⟨x, y⟩ => ⟨h _ _ x, All2.mono h y⟩
  | [], _ :: _, x => x.elim
  | _ :: _, [], x => x.elim
theorem All2.len : ∀ {as : List α} {bs : List β}, All2 R as bs → as.length = bs.length
  | [], [], _ => rfl
  | _ :: _, _ :: _, ⟨_, y⟩ => by simp [All2.len y]
  | [], _ :: _, x => x.elim
  | _ :: _, [], x => x.elim
theorem All2.get : ∀ {as : List α} {bs : List β}, All2 R as bs → ∀ {i : Nat} {a : α}, as[i]? = some a → ∃ b, bs[i]? = some b ∧ R a b
  | [], [], _, i, a, e => by simp at e
  | x :: _, y :: _, ⟨p, q⟩, 0, a, e => by simp at e; subst e; exact ⟨y, by simp, p⟩
  | _ :: _, _ :: _, ⟨_, q⟩, i + 1, a, e => by simpa using All2.get q (by simpa using e)
  | [], _ :: _, x, _, _, _ => x.elim
  | _ :: _, [], x, _, _, _ => x.elim
theorem All2.get' : ∀ {as : List α} {bs : List β}, All2 R as bs → ∀ {i : Nat} {b : β}, bs[i]? = some b → ∃ a, as[i]? = some a ∧ R a b
  | [], [], _, i, a, e => by simp at e
  | x :: _, y :: _, ⟨p, q⟩, 0, a, e => by simp at e; subst e; exact ⟨x, by simp, p⟩
  | _ :: _, _ :: _, ⟨_, q⟩, i + 1, a, e => by simpa using All2.get' q (by simpa using e)
  | [], _ :: _, x, _, _, _ => x.elim
  | _ :: _, [], x, _, _, _ => x.elim
theorem All2.append : ∀ {as : List α} {bs : List β} {as' : List α} {bs' : List β}, All2 R as bs → All2 R as' bs' → All2 R (as ++ as') (bs ++ bs')
  | [], [], _, _, _, h => h
  | _ :: _, _ :: _, _, _, ⟨x, y⟩, h => ⟨x, All2.append y h⟩
  | [], _ :: _, _, _, x, _ => x.elim
  | _ :: _, [], _, _, x, _ => x.elim
theorem All2.snoc {as : List α} {bs : List β} {a : α} {b : β} (h : All2 R as bs) (r : R a b) : All2 R (as ++ [a]) (bs ++ [b]) := All2.append h ⟨r, trivial⟩
theorem All2.set : ∀ {as : List α} {bs : List β} {a : α} {b : β} (i : Nat), All2 R as bs → R a b → All2 R (as.set i a) (bs.set i b)
  | [], [], _, _, _, _, _ => trivial
  | _ :: _, _ :: _, _, _, 0, ⟨_, y⟩, r => ⟨r, y⟩
  | _ :: _, _ :: _, _, _, i + 1, ⟨x, y⟩, r => ⟨x, All2.set i y r⟩
  | [], _ :: _, _, _, _, x, _ => x.elim
  | _ :: _, [], _, _, _, x, _ => x.elim
theorem All2.drop : ∀ {as : List α} {bs : List β} (i : Nat), All2 R as bs → All2 R (as.drop i) (bs.drop i)
  | _, _, 0, h => h
  | [], [], _ + 1, _ => trivial
  | _ :: _, _ :: _, i + 1, ⟨_, y⟩ => by simpa using All2.drop i y
  | [], _ :: _, _ + 1, x => x.elim
  | _ :: _, [], _ + 1, x => x.elim
theorem All2.take : ∀ {as : List α} {bs : List β} (i : Nat), All2 R as bs → All2 R (as.take i) (bs.take i)
  | _, _, 0, _ => by simp [All2]
  | [], [], _ + 1, _ => trivial
  | _ :: _, _ :: _, i + 1, ⟨x, y⟩ => ⟨x, All2.take i y⟩
  | [], _ :: _, _ + 1, x => x.elim
  | _ :: _, [], _ + 1, x => x.elim
theorem All2.erase : ∀ {as : List α} {bs : List β} (i : Nat), All2 R as bs → All2 R (as.eraseIdx i) (bs.eraseIdx i)
  | [], [], _, _ => trivial
  | _ :: _, _ :: _, 0, ⟨_, y⟩ => y
  | _ :: _, _ :: _, i + 1, ⟨x, y⟩ => ⟨x, All2.erase i y⟩
  | [], _ :: _, _, x => x.elim
  | _ :: _, [], _, x => x.elim
end All2

/-! ## mini values -/
inductive Atom where
  | int (i : Int)
  | ref (a : Addr)
inductive MVal where
  | int (i : Int)
  | bool (b : Bool)
  | none
  | ref (a : Addr)
  | tup (xs : List Atom)
noncomputable def Atom.val : Atom → MVal
  | .int i => .int i
  | .ref a => .ref a

noncomputable def AMatch : Atom → Value → Prop
  | .int i, v => ∃ t, v = .int i t
  | .ref a, v => v = .ref a
noncomputable def VMatch (h : Heap) : MVal → Value → Prop
  | .int i, v => ∃ t, v = .int i t
  | .bool b, v => v = .bool b
  | .none, v => v = .none
  | .ref a, v => v = .ref a
  | .tup xs, v => ∃ a items, v = .ref a ∧ IsTup h a items ∧ All2 AMatch xs items.toList
theorem AMatch.val {h : Heap} : ∀ {x : Atom} {v : Value}, AMatch x v → VMatch h x.val v
  | .int _, _, e => e
  | .ref _, _, e => e

/-- tuples stay -/
noncomputable def TKeep (h h' : Heap) : Prop := ∀ a o, h.get? a = some o → o.cls = .type "tuple" → (∃ items n, o.data = .seq items n) → h'.get? a = some o
theorem VMatch.keep {h h' : Heap} (hk : TKeep h h') {v : MVal} {rv : Value} (m : VMatch h v rv) : VMatch h' v rv := by
  cases v with
  | tup xs =>
    obtain ⟨a, items, e, ⟨o, ho, hc, n, hd⟩, hx⟩ := m
    exact ⟨a, items, e, ⟨o, hk a o ho hc ⟨_, _, hd⟩, hc, n, hd⟩, hx⟩
  | _ => exact m

/-! ## mini objects -/
inductive Cls where
  | thing | heap | handles | words
noncomputable def Cls.attrs : Cls → List Str
  | .thing => ["addr", "kind", "slots", "gen", "size", "serial"]
  | .heap => ["things", "at", "top", "limit", "cards", "card_bits", "fresh", "young_limit", "finals", "ready", "moved", "made"]
  | .handles => ["rows"]
  | .words => ["heap", "moves"]
set_option genInjectivity false in
structure Wd where
  prog : Program
  w : World
  K : Frag
  p : Program
  loose : List Str
  mg : Str → Option Value
  mb : Str → Option Value
  cls : Cls → Addr
  fn : Nat → Addr
  ini : Cls → Addr
inductive Body where
  | list (vs : List MVal)
  | dI (kvs : List (Int × MVal))
  | dS (kvs : List (Str × MVal))
  | inst (C : Cls) (dx : Addr) (nf : Nat) (fs : Str → Option MVal)
  | cell (v : Option MVal)
structure MObj where
  role : Nat
  body : Body
abbrev Store := Addr → Option MObj
abbrev Lcl := Str → Option MVal

noncomputable def Store.set (σ : Store) (a : Addr) (o : MObj) : Store := fun b => if b = a then some o else σ b
noncomputable def upd (l : Str → Option MVal) (x : Str) (v : MVal) : Str → Option MVal := fun y => if y = x then some v else l y

theorem Store.set_self (σ : Store) (a : Addr) (o : MObj) : σ.set a o a = some o := if_pos rfl
theorem Store.set_ne (σ : Store) {a b : Addr} (o : MObj) (h : b ≠ a) : σ.set a o b = σ b := if_neg h

section
variable (W : Wd)
noncomputable def OM (h : Heap) (a : Addr) : Body → Prop
  | .list vs => ∃ items, h.PlainList a items ∧ All2 (VMatch h) vs items.toList
  | .dI kvs => (a == sysModules) = false ∧ ∃ rk, h.DictOf (intKind W.prog W.w) a rk ∧ All2 (fun (p : Int × MVal) (q : Int × Value) => p.1 = q.1 ∧ VMatch h p.2 q.2) kvs rk
  | .dS kvs => (a == sysModules) = false ∧ ∃ rk, h.DictOf (strKind W.prog W.w) a rk ∧ All2 (fun (p : Str × MVal) (q : Str × Value) => p.1 = q.1 ∧ VMatch h p.2 q.2) kvs rk
  | .inst C dx nf fs => h.get? a = some (instObj (W.cls C) dx) ∧ ∃ es n, h.get? dx = some { cls := .type "dict", data := .dict es n } ∧ StrKeys es ∧ es.size ≤ nf ∧ ∀ f v, fs f = some v → ∃ rv, nsFind es f = some rv ∧ VMatch h v rv
  | .cell v => ∃ o, h.get? a = some o ∧ (match v with
      | none => o.data = .cell none
      | some v => ∃ rv, o.data = .cell (some rv) ∧ VMatch h v rv)
end

/-- the addresses that the store owns -/
noncomputable def Foot (σ : Store) (a : Addr) : Prop := (σ a).isSome = true ∨ ∃ x r C nf fs, σ x = some ⟨r, .inst C a nf fs⟩

theorem Foot.of {σ : Store} {a : Addr} {o : MObj} (h : σ a = some o) : Foot σ a := .inl (by rw [h]; rfl)

set_option genInjectivity false in
structure Cx where
  A : Around
  env : Env
  h₀ : Heap
  L : Addr
  fenv : Env
  outer : List Env
  base : Heap
  A₀ : Around
  n : Nat

section
variable (W : Wd)

structure SRel (X : Cx) (l : Lcl) (σ : Store) (s : Shared) : Prop where
  loc : ∃ m, s.heap.Ns X.env.locals m ∧ ∀ x v, l x = some v → ∃ rv, m x = some rv ∧ VMatch s.heap v rv
  base : ∀ a o, X.h₀.get? a = some o → s.heap.get? a = some o
  frL : ∃ m, s.heap.Ns X.L m
  locNew : X.h₀.get? X.env.locals = none
  om : ∀ a o, σ a = some o → OM W s.heap a o.body
  off : ∀ a, Foot σ a → X.h₀.get? a = none ∧ a ≠ X.L ∧ a ≠ X.env.locals
  dj1 : ∀ x r C dx nf fs, σ x = some ⟨r, .inst C dx nf fs⟩ → σ dx = none
  dj2 : ∀ x y r q C D dx nf mf fs gs, σ x = some ⟨r, .inst C dx nf fs⟩ → σ y = some ⟨q, .inst D dx mf gs⟩ → x = y
end

structure Stp (X : Cx) (σ : Store) (s : Shared) (σ' : Store) (s' : Shared) : Prop where
  same : ∃ h tk, s' = { s with heap := h, toks := tk }
  keep : ∀ a o, s.heap.get? a = some o → ¬ Foot σ a → a ≠ X.env.locals → s'.heap.get? a = some o
  cap : ∀ a, Foot σ' a → Foot σ a ∨ s.heap.get? a = none

section
variable {W : Wd} {X : Cx} {l l' : Lcl} {σ σ' σ₁ σ₂ : Store} {s s' s₁ s₂ : Shared}

theorem Stp.refl : Stp X σ s σ s := ⟨⟨_, _, rfl⟩, fun _ _ e _ _ => e, fun _ h => .inl h⟩

theorem SRel.locLive (R : SRel W X l σ s) : ∃ o es ep, s.heap.get? X.env.locals = some o ∧ o.data = .dict es ep :=
  let ⟨_, ⟨o, es, ep, ho, hd, _⟩, _⟩ := R.loc; ⟨o, es, ep, ho, hd⟩

theorem Stp.trans (h1 : Stp X σ s σ₁ s₁) (R : SRel W X l σ₁ s₁) (h2 : Stp X σ₁ s₁ σ₂ s₂) : Stp X σ s σ₂ s₂ := by
  refine ⟨?_, fun a o e nf nl => ?_, fun a hf => ?_⟩
  · obtain ⟨h, tk, rfl⟩ := h1.same
    obtain ⟨h', tk', rfl⟩ := h2.same
    exact ⟨h', tk', rfl⟩
  · refine h2.keep a o (h1.keep a o e nf nl) (fun hf => ?_) nl
    rcases h1.cap a hf with h | h
    · exact nf h
    · rw [e] at h; cases h
  · rcases h2.cap a hf with h | h
    · exact h1.cap a h
    · cases e : s.heap.get? a with
      | none => exact .inr rfl
      | some o =>
        by_cases nf : Foot σ a
        · exact .inl nf
        · by_cases nl : a = X.env.locals
          · subst nl
            obtain ⟨o', _, _, ho, _⟩ := R.locLive
            rw [h] at ho; cases ho
          · rw [h1.keep a o e nf nl] at h; cases h

/-- no tuple lies in the store's own part -/
theorem SRel.tup_off (R : SRel W X l σ s) {a : Addr} {o : Obj} (ho : s.heap.get? a = some o) (hc : o.cls = .type "tuple") (hd : ∃ items n, o.data = .seq items n) : ¬ Foot σ a ∧ a ≠ X.env.locals := by
  obtain ⟨items, n, hd⟩ := hd
  refine ⟨fun hf => ?_, fun e => ?_⟩
  · rcases hf with hf | ⟨x, r, C, nf, fs, hx⟩
    · obtain ⟨mo, hm⟩ := Option.isSome_iff_exists.mp hf
      have := R.om a mo hm
      cases hb : mo.body with
      | list vs => rw [hb] at this; obtain ⟨it, ⟨k, g⟩, _⟩ := this; rw [ho] at g; cases g; exact absurd hc (by simp)
      | dI kvs => rw [hb] at this; obtain ⟨_, rk, ⟨o', es, ep, g, he, hd', _⟩, _⟩ := this; rw [ho] at g; cases g; rw [hd] at hd'; cases hd'
      | dS kvs => rw [hb] at this; obtain ⟨_, rk, ⟨o', es, ep, g, he, hd', _⟩, _⟩ := this; rw [ho] at g; cases g; rw [hd] at hd'; cases hd'
      | inst C dx nf fs => rw [hb] at this; obtain ⟨g, _⟩ := this; rw [ho] at g; cases g; cases hd
      | cell v =>
        rw [hb] at this; obtain ⟨o', g, h'⟩ := this; rw [ho] at g; cases g
        cases v with
        | none => dsimp only at h'; rw [hd] at h'; cases h'
        | some v => obtain ⟨rv, h', _⟩ := h'; rw [hd] at h'; cases h'
    · obtain ⟨_, es, k, g, _⟩ := R.om x _ hx
      rw [ho] at g; cases g; cases hd
  · subst e
    obtain ⟨o', es, ep, g, hd'⟩ := R.locLive
    rw [ho] at g; cases g; rw [hd] at hd'; cases hd'

theorem SRel.tkeep (R : SRel W X l σ s) (h : Stp X σ s σ' s') : TKeep s.heap s'.heap := fun a o e hc hd =>
  let ⟨x, y⟩ := R.tup_off e hc hd; h.keep a o e x y
theorem VMatch.step (R : SRel W X l σ s) (h : Stp X σ s σ' s') {v : MVal} {rv : Value} (m : VMatch s.heap v rv) : VMatch s'.heap v rv := m.keep (R.tkeep h)

theorem TKeep.ext {h h' : Heap} (k : ∀ a o, h.get? a = some o → h'.get? a = some o) : TKeep h h' := fun a o e _ _ => k a o e

theorem All2.vkeep {h h' : Heap} (k : TKeep h h') {vs : List MVal} {rs : List Value} (x : All2 (VMatch h) vs rs) : All2 (VMatch h') vs rs := x.mono fun _ _ m => m.keep k

/-- an object stays matched where its own places stay and tuples stay -/
theorem OM.keep {h h' : Heap} (k : TKeep h h') {a : Addr} {b : Body} (m : OM W h a b) (ka : ∀ o, h.get? a = some o → h'.get? a = some o)
    (kd : ∀ C dx nf fs, b = .inst C dx nf fs → ∀ o, h.get? dx = some o → h'.get? dx = some o) : OM W h' a b := by
  cases b with
  | list vs => obtain ⟨items, ⟨n, g⟩, hx⟩ := m; exact ⟨items, ⟨n, ka _ g⟩, hx.vkeep k⟩
  | dI kvs => obtain ⟨lo, rk, ⟨o, es, ep, g, r⟩, hx⟩ := m; exact ⟨lo, rk, ⟨o, es, ep, ka _ g, r⟩, hx.mono fun _ _ p => ⟨p.1, p.2.keep k⟩⟩
  | dS kvs => obtain ⟨lo, rk, ⟨o, es, ep, g, r⟩, hx⟩ := m; exact ⟨lo, rk, ⟨o, es, ep, ka _ g, r⟩, hx.mono fun _ _ p => ⟨p.1, p.2.keep k⟩⟩
  | inst C dx nf fs =>
    obtain ⟨g, es, n, gd, sk, sz, hf⟩ := m
    exact ⟨ka _ g, es, n, kd _ _ _ _ rfl _ gd, sk, sz, fun f v e => let ⟨rv, x, y⟩ := hf f v e; ⟨rv, x, y.keep k⟩⟩
  | cell v =>
    obtain ⟨o, g, e⟩ := m
    refine ⟨o, ka _ g, ?_⟩
    cases v with
    | none => exact e
    | some v => obtain ⟨rv, x, y⟩ := e; exact ⟨rv, x, y.keep k⟩

/-- the heap only grows: nothing turns -/
theorem SRel.ext (R : SRel W X l σ s) {h' : Heap} {tk : Nat} (k : ∀ a o, s.heap.get? a = some o → h'.get? a = some o) :
    SRel W X l σ { s with heap := h', toks := tk } ∧ Stp X σ s σ { s with heap := h', toks := tk } := by
  refine ⟨⟨?_, fun a o e => k _ _ (R.base a o e), ?_, R.locNew, fun a o e => (R.om a o e).keep (TKeep.ext k) (k a) fun _ dx _ _ _ => k dx, R.off, R.dj1, R.dj2⟩, ⟨⟨_, _, rfl⟩, fun a o e _ _ => k a o e, fun _ h => .inl h⟩⟩
  · obtain ⟨m, hn, hm⟩ := R.loc
    exact ⟨m, hn.keeps k, fun x v e => let ⟨rv, p, q⟩ := hm x v e; ⟨rv, p, q.keep (TKeep.ext k)⟩⟩
  · obtain ⟨m, hn⟩ := R.frL; exact ⟨m, hn.keeps k⟩

theorem SRel.toks (R : SRel W X l σ s) (tk : Nat) : SRel W X l σ { s with toks := tk } ∧ Stp X σ s σ { s with toks := tk } := by
  obtain ⟨h, g, d, t, os⟩ := s
  exact R.ext (h' := h) (tk := tk) fun _ _ e => e

/-- an own name's value turns -/
theorem SRel.setLoc (R : SRel W X l σ s) {h' : Heap} {tk : Nat} {x : Str} {v : MVal} {rv : Value} {m : Str → Option Value} (hm : ∀ y u, l y = some u → ∃ ru, m y = some ru ∧ VMatch s.heap u ru)
    (hn : h'.Ns X.env.locals (fun y => if y = x then some rv else m y)) (hs : Heap.SameBut X.env.locals s.heap h') (hv : VMatch s.heap v rv) :
    SRel W X (upd l x v) σ { s with heap := h', toks := tk } ∧ Stp X σ s σ { s with heap := h', toks := tk } := by
  have keepNe : ∀ a o, a ≠ X.env.locals → s.heap.get? a = some o → h'.get? a = some o := fun a o n e => (hs.2 a n).trans e
  have kt : TKeep s.heap h' := fun a o e hc hd => keepNe a o (R.tup_off e hc hd).2 e
  refine ⟨⟨⟨_, hn, fun y u e => ?_⟩, fun a o e => ?_, ?_, R.locNew, fun a o e => ?_, R.off, R.dj1, R.dj2⟩, ⟨⟨_, _, rfl⟩, fun a o e _ nl => keepNe a o nl e, fun _ h => .inl h⟩⟩
  · unfold upd at e
    split at e
    · rename_i q; subst q; cases e; exact ⟨rv, if_pos rfl, hv.keep kt⟩
    · rename_i q; obtain ⟨ru, p, z⟩ := hm y u e; exact ⟨ru, by rw [if_neg q]; exact p, z.keep kt⟩
  · by_cases h : a = X.env.locals
    · subst h
      rw [R.locNew] at e; cases e
    · exact keepNe a o h (R.base _ _ e)
  · obtain ⟨mL, hL⟩ := R.frL
    by_cases h : X.L = X.env.locals
    · rw [h]; exact ⟨_, hn⟩
    · exact ⟨mL, hL.sameBut hs h⟩
  · have hf := R.off a (.of e)
    refine (R.om a o e).keep kt (fun o' g => keepNe a o' hf.2.2 g) fun C dx nf fs hb o' g => keepNe dx o' ?_ g
    exact (R.off dx (.inr ⟨a, o.role, C, nf, fs, by rw [e, ← hb]⟩)).2.2

noncomputable def NotInst (b : Body) : Prop := ∀ C dx nf fs, b ≠ .inst C dx nf fs

theorem foot_set {a : Addr} {o : MObj} (n : NotInst o.body) {c : Addr} (h : Foot (σ.set a o) c) : Foot σ c ∨ c = a := by
  rcases h with h | ⟨x, r, C, nf, fs, hx⟩
  · by_cases e : c = a
    · exact .inr e
    · rw [Store.set_ne _ _ e] at h; exact .inl (.inl h)
  · by_cases e : x = a
    · subst e; rw [Store.set_self] at hx; cases hx; exact absurd rfl (n _ _ _ _)
    · rw [Store.set_ne _ _ e] at hx; exact .inl (.inr ⟨x, r, C, nf, fs, hx⟩)

/-- a tracked object that is no instance turns -/
theorem SRel.setObj (R : SRel W X l σ s) {a : Addr} {o : MObj} {r : Nat} {b : Body} {h' : Heap} {tk : Nat} (ha : σ a = some o) (nb : NotInst o.body) (nb' : NotInst b)
    (hs : Heap.SameBut a s.heap h') (hm : TKeep s.heap h' → OM W h' a b) :
    SRel W X l (σ.set a ⟨r, b⟩) { s with heap := h', toks := tk } ∧ Stp X σ s (σ.set a ⟨r, b⟩) { s with heap := h', toks := tk } := by
  have fa : Foot σ a := .of ha
  have keepNe : ∀ c o, c ≠ a → s.heap.get? c = some o → h'.get? c = some o := fun c o n e => (hs.2 c n).trans e
  have kt : TKeep s.heap h' := fun c o e hc hd => keepNe c o (fun q => (R.tup_off e hc hd).1 (q ▸ fa)) e
  have offa := R.off a fa
  refine ⟨⟨?_, fun c o e => keepNe c o (fun q => by rw [q, offa.1] at e; cases e) (R.base _ _ e), ?_, R.locNew, fun c oc e => ?_, fun c hc => ?_, fun x q C dx nf fs hx => ?_, fun x y q q' C D dx nf mf fs gs hx hy => ?_⟩,
    ⟨⟨_, _, rfl⟩, fun c o e nf _ => keepNe c o (fun q => nf (q ▸ fa)) e, fun c hc => ?_⟩⟩
  · obtain ⟨m, hn, hv⟩ := R.loc
    exact ⟨m, hn.sameBut hs (Ne.symm offa.2.2), fun x v e => let ⟨rv, p, z⟩ := hv x v e; ⟨rv, p, z.keep kt⟩⟩
  · obtain ⟨m, hn⟩ := R.frL; exact ⟨m, hn.sameBut hs (Ne.symm offa.2.1)⟩
  · by_cases q : c = a
    · subst q; rw [Store.set_self] at e; cases e; exact hm kt
    · rw [Store.set_ne _ _ q] at e
      refine (R.om c oc e).keep kt (fun o' g => keepNe c o' q g) fun C dx nf fs hb o' g => keepNe dx o' (fun z => ?_) g
      have := R.dj1 c oc.role C dx nf fs (by rw [e, ← hb])
      rw [z, ha] at this; cases this
  · rcases foot_set nb' hc with h | rfl
    · exact R.off c h
    · exact offa
  · by_cases q' : x = a
    · subst q'; rw [Store.set_self] at hx; cases hx; exact absurd rfl (nb' _ _ _ _)
    · rw [Store.set_ne _ _ q'] at hx
      have := R.dj1 _ _ _ _ _ _ hx
      rw [Store.set_ne]
      · exact this
      · rintro rfl; rw [ha] at this; cases this
  · by_cases q1 : x = a
    · subst q1; rw [Store.set_self] at hx; cases hx; exact absurd rfl (nb' _ _ _ _)
    · by_cases q2 : y = a
      · subst q2; rw [Store.set_self] at hy; cases hy; exact absurd rfl (nb' _ _ _ _)
      · rw [Store.set_ne _ _ q1] at hx; rw [Store.set_ne _ _ q2] at hy
        exact R.dj2 _ _ _ _ _ _ _ _ _ _ _ hx hy
  · rcases foot_set nb' hc with h | rfl
    · exact .inl h
    · exact .inl fa

/-- an instance's own dict turns -/
theorem SRel.setInst (R : SRel W X l σ s) {x dx : Addr} {C : Cls} {r nf nf' : Nat} {fs fs' : Str → Option MVal} {h' : Heap} {tk : Nat} (hx : σ x = some ⟨r, .inst C dx nf fs⟩)
    (hs : Heap.SameBut dx s.heap h') (hm : TKeep s.heap h' → OM W h' x (.inst C dx nf' fs')) :
    SRel W X l (σ.set x ⟨r, .inst C dx nf' fs'⟩) { s with heap := h', toks := tk } ∧ Stp X σ s (σ.set x ⟨r, .inst C dx nf' fs'⟩) { s with heap := h', toks := tk } := by
  have fd : Foot σ dx := .inr ⟨x, r, C, nf, fs, hx⟩
  have keepNe : ∀ c o, c ≠ dx → s.heap.get? c = some o → h'.get? c = some o := fun c o n e => (hs.2 c n).trans e
  have kt : TKeep s.heap h' := fun c o e hc hd => keepNe c o (fun q => (R.tup_off e hc hd).1 (q ▸ fd)) e
  have offa := R.off dx fd
  have dnone := R.dj1 _ _ _ _ _ _ hx
  have fset : ∀ c, Foot (σ.set x ⟨r, .inst C dx nf' fs'⟩) c → Foot σ c := fun c hc => by
    rcases hc with hc | ⟨y, q, D, mf, gs, hy⟩
    · by_cases e : c = x
      · subst e; exact .of hx
      · rw [Store.set_ne _ _ e] at hc; exact .inl hc
    · by_cases e : y = x
      · subst e; rw [Store.set_self] at hy; cases hy; exact fd
      · rw [Store.set_ne _ _ e] at hy; exact .inr ⟨y, q, D, mf, gs, hy⟩
  have isInst : ∀ y q D dy mf gs, (σ.set x ⟨r, .inst C dx nf' fs'⟩) y = some ⟨q, .inst D dy mf gs⟩ → ∃ mf' gs', σ y = some ⟨q, .inst D dy mf' gs'⟩ := fun y q D dy mf gs hy => by
    by_cases e : y = x
    · subst e; rw [Store.set_self] at hy; cases hy; exact ⟨_, _, hx⟩
    · rw [Store.set_ne _ _ e] at hy; exact ⟨_, _, hy⟩
  refine ⟨⟨?_, fun c o e => keepNe c o (fun q => by rw [q, offa.1] at e; cases e) (R.base _ _ e), ?_, R.locNew, fun c oc e => ?_, fun c hc => R.off c (fset c hc), fun y q D dy mf gs hy => ?_, fun y z q q' D D' dy mf mf' gs gs' hy hz => ?_⟩,
    ⟨⟨_, _, rfl⟩, fun c o e nf _ => keepNe c o (fun q => nf (q ▸ fd)) e, fun c hc => .inl (fset c hc)⟩⟩
  · obtain ⟨m, hn, hv⟩ := R.loc
    exact ⟨m, hn.sameBut hs (Ne.symm offa.2.2), fun x v e => let ⟨rv, p, z⟩ := hv x v e; ⟨rv, p, z.keep kt⟩⟩
  · obtain ⟨m, hn⟩ := R.frL; exact ⟨m, hn.sameBut hs (Ne.symm offa.2.1)⟩
  · by_cases q : c = x
    · subst q; rw [Store.set_self] at e; cases e; exact hm kt
    · rw [Store.set_ne _ _ q] at e
      refine (R.om c oc e).keep kt (fun o' g => keepNe c o' (fun z => by rw [z, dnone] at e; cases e) g) fun D dy mf gs hb o' g => keepNe dy o' (fun z => ?_) g
      subst z
      exact q (R.dj2 c x oc.role r D C dy mf nf gs fs (by rw [e, ← hb]) hx)
  · obtain ⟨mf', gs', hy'⟩ := isInst _ _ _ _ _ _ hy
    have := R.dj1 _ _ _ _ _ _ hy'
    rw [Store.set_ne]
    · exact this
    · rintro rfl; rw [hx] at this; cases this
  · obtain ⟨_, _, hy'⟩ := isInst _ _ _ _ _ _ hy
    obtain ⟨_, _, hz'⟩ := isInst _ _ _ _ _ _ hz
    exact R.dj2 _ _ _ _ _ _ _ _ _ _ _ hy' hz'

theorem SRel.live (R : SRel W X l σ s) {a : Addr} (h : Foot σ a) : ∃ o, s.heap.get? a = some o := by
  rcases h with h | ⟨x, r, C, nf, fs, hx⟩
  · obtain ⟨mo, hm⟩ := Option.isSome_iff_exists.mp h
    have := R.om a mo hm
    cases hb : mo.body with
    | list vs => rw [hb] at this; obtain ⟨it, ⟨k, g⟩, _⟩ := this; exact ⟨_, g⟩
    | dI kvs => rw [hb] at this; obtain ⟨_, rk, ⟨o', es, ep, g, _⟩, _⟩ := this; exact ⟨_, g⟩
    | dS kvs => rw [hb] at this; obtain ⟨_, rk, ⟨o', es, ep, g, _⟩, _⟩ := this; exact ⟨_, g⟩
    | inst C dx nf fs => rw [hb] at this; exact ⟨_, this.1⟩
    | cell v => rw [hb] at this; obtain ⟨o', g, _⟩ := this; exact ⟨_, g⟩
  · obtain ⟨_, es, k, g, _⟩ := R.om x _ hx; exact ⟨_, g⟩

theorem SRel.fresh (R : SRel W X l σ s) {a : Addr} (h : s.heap.get? a = none) : ¬ Foot σ a ∧ σ a = none ∧ X.h₀.get? a = none ∧ a ≠ X.L ∧ a ≠ X.env.locals := by
  have nf : ¬ Foot σ a := fun f => by obtain ⟨o, e⟩ := R.live f; rw [h] at e; cases e
  refine ⟨nf, ?_, ?_, ?_, ?_⟩
  · cases e : σ a with
    | none => rfl
    | some o => exact absurd (.of e) nf
  · cases e : X.h₀.get? a with
    | none => rfl
    | some o => rw [R.base a o e] at h; cases h
  · rintro rfl
    obtain ⟨m, o, _, _, g, _⟩ := R.frL
    rw [h] at g; cases g
  · rintro rfl
    obtain ⟨o, _, _, g, _⟩ := R.locLive
    rw [h] at g; cases g

/-- a new tracked object that is no instance -/
theorem SRel.alloc (R : SRel W X l σ s) {a : Addr} {r : Nat} {b : Body} {h' : Heap} {tk : Nat} (ha : s.heap.get? a = none) (nb : NotInst b)
    (k : ∀ c o, s.heap.get? c = some o → h'.get? c = some o) (hm : TKeep s.heap h' → OM W h' a b) :
    SRel W X l (σ.set a ⟨r, b⟩) { s with heap := h', toks := tk } ∧ Stp X σ s (σ.set a ⟨r, b⟩) { s with heap := h', toks := tk } := by
  obtain ⟨nf, na, n0, nL, nl⟩ := R.fresh ha
  obtain ⟨R', S'⟩ := R.ext (tk := tk) k
  have kt : TKeep s.heap h' := TKeep.ext k
  refine ⟨⟨R'.loc, R'.base, R'.frL, R.locNew, fun c oc e => ?_, fun c hc => ?_, fun x q C dx nf' fs hx => ?_, fun x y q q' C D dx nf' mf fs gs hx hy => ?_⟩,
    ⟨⟨_, _, rfl⟩, fun c o e _ _ => k c o e, fun c hc => ?_⟩⟩
  · by_cases q : c = a
    · subst q; rw [Store.set_self] at e; cases e; exact hm kt
    · rw [Store.set_ne _ _ q] at e; exact R'.om c oc e
  · rcases foot_set nb hc with h | rfl
    · exact R.off c h
    · exact ⟨n0, nL, nl⟩
  · by_cases q' : x = a
    · subst q'; rw [Store.set_self] at hx; cases hx; exact absurd rfl (nb _ _ _ _)
    · rw [Store.set_ne _ _ q'] at hx
      rw [Store.set_ne]
      · exact R.dj1 _ _ _ _ _ _ hx
      · rintro rfl; exact nf (.inr ⟨_, _, _, _, _, hx⟩)
  · by_cases q1 : x = a
    · subst q1; rw [Store.set_self] at hx; cases hx; exact absurd rfl (nb _ _ _ _)
    · by_cases q2 : y = a
      · subst q2; rw [Store.set_self] at hy; cases hy; exact absurd rfl (nb _ _ _ _)
      · rw [Store.set_ne _ _ q1] at hx; rw [Store.set_ne _ _ q2] at hy
        exact R.dj2 _ _ _ _ _ _ _ _ _ _ _ hx hy
  · rcases foot_set nb hc with h | rfl
    · exact .inl h
    · exact .inr ha

/-- a new instance with its own dict -/
theorem SRel.allocInst (R : SRel W X l σ s) {x dx : Addr} {C : Cls} {r nf : Nat} {fs : Str → Option MVal} {h' : Heap} {tk : Nat} (hx : s.heap.get? x = none) (hd : s.heap.get? dx = none) (hne : dx ≠ x)
    (k : ∀ c o, s.heap.get? c = some o → h'.get? c = some o) (hm : OM W h' x (.inst C dx nf fs)) :
    SRel W X l (σ.set x ⟨r, .inst C dx nf fs⟩) { s with heap := h', toks := tk } ∧ Stp X σ s (σ.set x ⟨r, .inst C dx nf fs⟩) { s with heap := h', toks := tk } := by
  obtain ⟨xf, xa, x0, xL, xl⟩ := R.fresh hx
  obtain ⟨df, da, d0, dL, dl⟩ := R.fresh hd
  obtain ⟨R', S'⟩ := R.ext (tk := tk) k
  have fset : ∀ c, Foot (σ.set x ⟨r, .inst C dx nf fs⟩) c → Foot σ c ∨ c = x ∨ c = dx := fun c hc => by
    rcases hc with hc | ⟨y, q, D, mf, gs, hy⟩
    · by_cases e : c = x
      · exact .inr (.inl e)
      · rw [Store.set_ne _ _ e] at hc; exact .inl (.inl hc)
    · by_cases e : y = x
      · subst e; rw [Store.set_self] at hy; cases hy; exact .inr (.inr rfl)
      · rw [Store.set_ne _ _ e] at hy; exact .inl (.inr ⟨y, q, D, mf, gs, hy⟩)
  refine ⟨⟨R'.loc, R'.base, R'.frL, R.locNew, fun c oc e => ?_, fun c hc => ?_, fun y q D dy mf gs hy => ?_, fun y z q q' D D' dy mf mf' gs gs' hy hz => ?_⟩,
    ⟨⟨_, _, rfl⟩, fun c o e _ _ => k c o e, fun c hc => ?_⟩⟩
  · by_cases q : c = x
    · subst q; rw [Store.set_self] at e; cases e; exact hm
    · rw [Store.set_ne _ _ q] at e; exact R'.om c oc e
  · rcases fset c hc with h | rfl | rfl
    · exact R.off c h
    · exact ⟨x0, xL, xl⟩
    · exact ⟨d0, dL, dl⟩
  · by_cases q' : y = x
    · subst q'; rw [Store.set_self] at hy; cases hy
      rw [Store.set_ne _ _ hne]; exact da
    · rw [Store.set_ne _ _ q'] at hy
      rw [Store.set_ne]
      · exact R.dj1 _ _ _ _ _ _ hy
      · rintro rfl; exact xf (.inr ⟨_, _, _, _, _, hy⟩)
  · by_cases q1 : y = x
    · subst q1; rw [Store.set_self] at hy; cases hy
      by_cases q2 : z = y
      · exact q2.symm
      · rw [Store.set_ne _ _ q2] at hz; exact absurd (.inr ⟨_, _, _, _, _, hz⟩) df
    · rw [Store.set_ne _ _ q1] at hy
      by_cases q2 : z = x
      · subst q2; rw [Store.set_self] at hz; cases hz; exact absurd (.inr ⟨_, _, _, _, _, hy⟩) df
      · rw [Store.set_ne _ _ q2] at hz
        exact R.dj2 _ _ _ _ _ _ _ _ _ _ _ hy hz
  · rcases fset c hc with h | rfl | rfl
    · exact .inl h
    · exact .inr hx
    · exact .inr hd
end
end

section
structure AttrOk (K : Frag) (C : Addr) (name : Str) : Prop where
  pg : plainGet K C name = true
  hd : hasDictIn K C = true
  fnd : ∃ attr, findIn K (.ref C) name = some attr ∧ noGet K attr = true
  po : plainOver K C = true
  tk : takerIn K C name = some none
  sa : findIn K (.ref C) "__setattr__" = some (some (.builtin "object.__setattr__"))

noncomputable def biTab : List Str := [("len" : Str), ("range" : Str), ("sorted" : Str), ("min" : Str), ("max" : Str)]

/-! the text's own defs, by their place in the module -/
noncomputable def nthS : List Stmt → Nat → Option Stmt
  | [], _ => none
  | s :: _, 0 => some s
  | _ :: r, n + 1 => nthS r n
noncomputable def topS (i : Nat) : Option Stmt := nthS PySem.Challenge.pw_qd0037_01.main.body i
noncomputable def fBody : Option Stmt → List Stmt
  | some (.FunctionDef _ _ b ..) => b
  | _ => []
noncomputable def fArgs : Option Stmt → Arguments
  | some (.FunctionDef _ a ..) => a
  | _ => ⟨[], [], none, [], [], none, []⟩
noncomputable def fScope : Option Stmt → Scope
  | some (.FunctionDef _ _ _ _ _ _ s ..) => s
  | _ => {kind := .function, names := [], isGenerator := false, isCoroutine := false}
noncomputable def cBody : Option Stmt → List Stmt
  | some (.ClassDef _ _ _ b ..) => b
  | _ => []
noncomputable def defTab : List (Nat × Str) := [(5, ("refs_in" : Str)), (6, ("move_value" : Str)), (7, ("move_plain" : Str)), (8, ("move_struct" : Str)), (14, ("words_for" : Str)), (17, ("heap_alloc" : Str)), (18, ("used_words" : Str)), (19, ("note_collected" : Str)), (20, ("find_thing" : Str)), (21, ("slot_word" : Str)), (22, ("holds_reference" : Str)), (23, ("card_number" : Str)), (24, ("store_slot" : Str)), (26, ("words_of" : Str)), (27, ("push_word" : Str)), (28, ("push_value" : Str)), (29, ("drain" : Str)), (30, ("old_slots" : Str)), (31, ("mark" : Str)), (32, ("reach_more" : Str)), (34, ("mark_card" : Str)), (35, ("refers_younger" : Str)), (36, ("younger_slots" : Str)), (37, ("renew_cards" : Str)), (46, ("new_handle" : Str)), (47, ("target" : Str)), (48, ("free" : Str)), (49, ("strong_values" : Str)), (50, ("found_dead" : Str)), (51, ("clear_handles" : Str)), (52, ("move_handles" : Str)), (53, ("pick_finals" : Str)), (54, ("register" : Str)), (55, ("suppress" : Str)), (56, ("reregister" : Str)), (57, ("take_ready" : Str)), (59, ("end_of_older" : Str)), (60, ("plan_moves" : Str)), (62, ("moved_word" : Str)), (63, ("stays" : Str)), (64, ("moved_values" : Str)), (65, ("new_lists" : Str)), (66, ("put_lists" : Str)), (67, ("moved_addrs" : Str)), (68, ("settle_thing" : Str)), (69, ("settle_things" : Str)), (70, ("move_all" : Str)), (72, ("root_lists" : Str)), (73, ("find_living" : Str)), (74, ("collect" : Str)), (78, ("_law_size" : Str)), (79, ("_law_value" : Str)), (80, ("_law_reach" : Str)), (81, ("_law_clear" : Str)), (82, ("_law_living" : Str)), (83, ("_law_sweep" : Str)), (84, ("_law_new" : Str)), (85, ("_law_take" : Str)), (86, ("_law_free" : Str)), (87, ("_law_drop" : Str)), (88, ("_law_step" : Str)), (89, ("_law_same" : Str)), (90, ("_law_walk" : Str)), (91, ("law" : Str))]
noncomputable def intTab : List (Str × Int) := [(("V_REF" : Str), 4), (("V_STRUCT" : Str), 5), (("V_PLACE" : Str), 6), (("PL_HEAP" : Str), 3), (("FIRST_ADDRESS" : Str), 16), (("HEAD_WORDS" : Str), 2), (("LEAST_SIZE" : Str), 3), (("TOP_GEN" : Str), 2), (("H_SHORT" : Str), 1), (("H_LONG" : Str), 2), (("H_STRONG" : Str), 3), (("ROW_SORT" : Str), 0), (("ROW_ADDR" : Str), 1), (("ROW_ALIVE" : Str), 2)]
noncomputable def Cls.name : Cls → Str
  | .thing => "Thing" | .heap => "Heap" | .handles => "Handles" | .words => "Words"
noncomputable def Cls.init : Cls → Option Stmt
  | .thing => nthS (cBody (topS 15)) 0 | .heap => nthS (cBody (topS 16)) 0 | .handles => nthS (cBody (topS 45)) 0 | .words => nthS (cBody (topS 61)) 0
noncomputable def Cls.qual : Cls → Str
  | .thing => "Thing.__init__" | .heap => "Heap.__init__" | .handles => "Handles.__init__" | .words => "Words.__init__"

/-- a def of the text, as the written part has it -/
structure FnAt (W : Wd) (f : Addr) (name qual : Str) (params : Arguments) (body : List Stmt) (scope : Scope) : Prop where
  at_ : ∃ oc od osl doc pm an cdv ct, W.K.lookup f = some ⟨oc, od, .func (fnOf name qual params body scope .none .none doc pm an cdv ct), osl⟩ ∧ codeIn W.K cdv qual = true
structure DefOk (W : Wd) (i : Nat) (name : Str) : Prop where
  ns : nsIn W.K mainGlobals name = some (some (.ref (W.fn i)))
  keep : keepIn W.K (.ref (W.fn i)) = true
  at_ : FnAt W (W.fn i) name name (fArgs (topS i)) (fBody (topS i)) (fScope (topS i))
structure ClsOk (W : Wd) (C : Cls) : Prop where
  ns : nsIn W.K mainGlobals C.name = some (some (.ref (W.cls C)))
  keep : keepIn W.K (.ref (W.cls C)) = true
  makes : makesIn W.K (W.cls C) = true
  find : findIn W.K (.ref (W.cls C)) "__init__" = some (some (.ref (W.ini C)))
  typ : typeIn W.K (.ref (W.ini C)) = some (.type "function")
  at_ : FnAt W (W.ini C) "__init__" C.qual (fArgs C.init) (fBody C.init) (fScope C.init)
structure TupOk (W : Wd) (name : Str) (xs : List Int) : Prop where
  at_ : ∃ a oc n items, nsIn W.K mainGlobals name = some (some (.ref a)) ∧ W.K.lookup a = some ⟨.type "tuple", oc, .seq items n, #[]⟩ ∧ All2 AMatch (xs.map .int) items.toList

/-- what the written part of the text is to say -/
structure KOk (W : Wd) : Prop where
  attr : ∀ C : Cls, ∀ a ∈ C.attrs, AttrOk W.K (W.cls C) a
  fn : ∀ p ∈ defTab, DefOk W p.1 p.2
  cl : ∀ C : Cls, ClsOk W C
  int : ∀ p ∈ intTab, ∃ t, nsIn W.K mainGlobals p.1 = some (some (.int p.2 t))
  bi : ∀ x ∈ biTab, nsIn W.K mainGlobals x = some none
  before : TupOk W "_law_before" [216, 216, 624, 74, 86, 38, 50, 5]
  after : TupOk W "_law_after" [10, 21, 22, 5, 34]

structure Ok (W : Wd) (X : Cx) : Prop where
  k : KOk W
  fr : X.A.frames = some (X.fenv :: X.outer)
  ff : X.fenv.frame = some X.L
  fk : X.fenv.scope.kind = .function
  ek : X.env.scope.kind = .function
  eg : X.env.globals = mainGlobals
  eb : X.env.builtins = builtinsNs
  hd : X.A.handled = none
  below : Below X.A₀ X.base X.outer X.h₀
  kin : W.K.In X.h₀
  top : TopRead W.p W.loose W.mg W.mb X.h₀
  above : X.h₀.objs.size ≤ X.L
  dep : X.A.depth ≤ 301 + 10 * X.n
  uni : X.A.units ≤ 4 + 20 * X.n
  lvl : X.n ≤ 60

abbrev Wd.M (W : Wd) : Model := model W.prog W.w
abbrev NoE : Value → Shared → Prop := fun _ _ => False

noncomputable def PostE (W : Wd) (X : Cx) (l : Lcl) (σ : Store) (s : Shared) (Q : MVal → Store → Prop) (v : Value) (s' : Shared) : Prop :=
  ∃ mv σ', VMatch s'.heap mv v ∧ SRel W X l σ' s' ∧ Stp X σ s σ' s' ∧ Q mv σ'
noncomputable def PostB (W : Wd) (X : Cx) (l : Lcl) (σ : Store) (s : Shared) (Q : Bool → Store → Prop) (b : Bool) (s' : Shared) : Prop :=
  ∃ σ', SRel W X l σ' s' ∧ Stp X σ s σ' s' ∧ Q b σ'
/-- an expression gives a value -/
noncomputable def Ev (W : Wd) (X : Cx) (l : Lcl) (σ : Store) (e : Expr) (Q : MVal → Store → Prop) : Prop :=
  Ok W X → ∀ s, SRel W X l σ s → wpAny W.M X.A (eval e X.env) (PostE W X l σ s Q) NoE s
/-- an operation upon values -/
noncomputable def Op1 (W : Wd) (X : Cx) (l : Lcl) (σ : Store) (f : Value → Sem Value) (a : MVal) (Q : MVal → Store → Prop) : Prop :=
  Ok W X → ∀ s ra, SRel W X l σ s → VMatch s.heap a ra → wpAny W.M X.A (f ra) (PostE W X l σ s Q) NoE s
noncomputable def Op2 (W : Wd) (X : Cx) (l : Lcl) (σ : Store) (f : Value → Value → Sem Value) (a b : MVal) (Q : MVal → Store → Prop) : Prop :=
  Ok W X → ∀ s ra rb, SRel W X l σ s → VMatch s.heap a ra → VMatch s.heap b rb → wpAny W.M X.A (f ra rb) (PostE W X l σ s Q) NoE s
/-- a test -/
noncomputable def Te (W : Wd) (X : Cx) (l : Lcl) (σ : Store) (e : Expr) (Q : Bool → Store → Prop) : Prop :=
  Ok W X → ∀ s, SRel W X l σ s → wpAny W.M X.A (isTrue e X.env (eval e X.env)) (PostB W X l σ s Q) NoE s
/-- an expression gives this value and turns nothing -/
structure PE (W : Wd) (X : Cx) (l : Lcl) (σ : Store) (e : Expr) (v : MVal) : Prop where
  ev : Ev W X l σ e fun v' σ' => v' = v ∧ σ' = σ
structure PO2 (W : Wd) (X : Cx) (l : Lcl) (σ : Store) (f : Value → Value → Sem Value) (a b : MVal) (v : MVal) : Prop where
  op : Op2 W X l σ f a b fun v' σ' => v' = v ∧ σ' = σ

section
variable {W : Wd} {X : Cx} {l : Lcl} {σ σ₁ : Store} {s s₁ : Shared} {e e₁ e₂ : Expr} {a b v : MVal} {Q Q' : MVal → Store → Prop} {pos : Pos}

theorem Ok.uniLt (ok : Ok W X) : X.A.units < cLine := by have := ok.uni; have := ok.lvl; unfold cLine; omega
theorem Ok.depLt (ok : Ok W X) : X.A.depth < recursionLimit := by have := ok.dep; have := ok.lvl; unfold recursionLimit; omega
theorem SRel.kin (R : SRel W X l σ s) (ok : Ok W X) : W.K.In s.heap := ok.kin.keeps R.base
theorem SRel.ground (R : SRel W X l σ s) (ok : Ok W X) : ∃ m, Fr X.h₀ X.L s.heap m := by
  obtain ⟨m, hm⟩ := R.frL
  exact ⟨m, hm, R.base, ok.above⟩

theorem PostE.here {s' : Shared} {rv : Value} (m : VMatch s'.heap v rv) (R : SRel W X l σ₁ s') (S : Stp X σ s σ₁ s') (q : Q v σ₁) : PostE W X l σ s Q rv s' := ⟨v, σ₁, m, R, S, q⟩
theorem PostE.pe {s' : Shared} {rv : Value} (v : MVal) (m : VMatch s'.heap v rv) (R : SRel W X l σ₁ s') (S : Stp X σ s σ₁ s') : PostE W X l σ s (fun v' σ' => v' = v ∧ σ' = σ₁) rv s' := ⟨v, σ₁, m, R, S, rfl, rfl⟩
/-- go on behind a first part -/
theorem PostE.trans {s' : Shared} {rv : Value} (S : Stp X σ s σ₁ s₁) (R : SRel W X l σ₁ s₁) (p : PostE W X l σ₁ s₁ Q rv s') : PostE W X l σ s Q rv s' :=
  let ⟨v, σ', m, R', S', q⟩ := p; ⟨v, σ', m, R', S.trans R S', q⟩
theorem PostB.trans {s' : Shared} {b : Bool} {Q : Bool → Store → Prop} (S : Stp X σ s σ₁ s₁) (R : SRel W X l σ₁ s₁) (p : PostB W X l σ₁ s₁ Q b s') : PostB W X l σ s Q b s' :=
  let ⟨σ', R', S', q⟩ := p; ⟨σ', R', S.trans R S', q⟩

theorem Ev.mono (h : Ev W X l σ e Q) (k : ∀ v σ', Q v σ' → Q' v σ') : Ev W X l σ e Q' := fun ok s R =>
  wpAny_mono (h ok s R) (fun _ _ ⟨v, σ', m, R', S, q⟩ => ⟨v, σ', m, R', S, k _ _ q⟩) fun _ _ x => x
theorem ev_pe (h : PE W X l σ e v) (q : Q v σ) : Ev W X l σ e Q := Ev.mono h.ev fun _ _ ⟨e1, e2⟩ => e1 ▸ e2 ▸ q
theorem Op2.mono {f : Value → Value → Sem Value} (h : Op2 W X l σ f a b Q) (k : ∀ v σ', Q v σ' → Q' v σ') : Op2 W X l σ f a b Q' := fun ok s ra rb R m1 m2 =>
  wpAny_mono (h ok s ra rb R m1 m2) (fun _ _ ⟨v, σ', m, R', S, q⟩ => ⟨v, σ', m, R', S, k _ _ q⟩) fun _ _ x => x
theorem Op1.mono {f : Value → Sem Value} (h : Op1 W X l σ f a Q) (k : ∀ v σ', Q v σ' → Q' v σ') : Op1 W X l σ f a Q' := fun ok s ra R m1 =>
  wpAny_mono (h ok s ra R m1) (fun _ _ ⟨v, σ', m, R', S, q⟩ => ⟨v, σ', m, R', S, k _ _ q⟩) fun _ _ x => x
theorem op2_po {f : Value → Value → Sem Value} (h : PO2 W X l σ f a b v) (q : Q v σ) : Op2 W X l σ f a b Q := Op2.mono h.op fun _ _ ⟨e1, e2⟩ => e1 ▸ e2 ▸ q

/-! ### names and constants -/
theorem pe_loc {x : Str} (h : l x = some v) (hl : X.env.kindOf x = some .local := by rfl) (hd : (x == ("__debug__" : Str)) = false := by rfl) : PE W X l σ (.Name x pos) v := by
  constructor
  intro ok s R
  obtain ⟨m, hn, hm⟩ := R.loc
  obtain ⟨rv, e, mv⟩ := hm x v h
  exact wpAny_Name (wpAny_loadName_local ok.ek hl hn e (.pe v mv R .refl)) hd
theorem pe_cell {x : Str} {c : Addr} {r : Nat} (hc : X.env.cells.lookup x = some c) (h : σ c = some ⟨r, .cell (some v)⟩) (hl : X.env.kindOf x = some .cell := by rfl) (hd : (x == ("__debug__" : Str)) = false := by rfl) :
    PE W X l σ (.Name x pos) v := by
  constructor
  intro ok s R
  obtain ⟨o, ho, rv, hd', mv⟩ := R.om c _ h
  exact wpAny_Name (wpAny_loadName_cell ok.ek hl hc ⟨o, ho, hd'⟩ (.pe v mv R .refl)) hd
theorem pe_int {i : Int} {k : Nat} : PE W X l σ (.Constant (.int i) k pos) (.int i) := ⟨fun _ s R =>
  wpAny_Constant_int (let ⟨R', S⟩ := R.toks (s.toks + 1); .pe (.int i) ⟨_, rfl⟩ R' S)⟩
theorem pe_bool {c : Bool} {k : Nat} : PE W X l σ (.Constant (.bool c) k pos) (.bool c) := ⟨fun _ s R => wpAny_pure (.pe (.bool c) rfl R .refl)⟩
theorem pe_none {k : Nat} : PE W X l σ (.Constant .none k pos) .none := ⟨fun _ s R => wpAny_pure (.pe .none rfl R .refl)⟩
/-- a global name that stands for an int -/
theorem lookup_mem {α : Type} {x : Str} {i : α} : ∀ {l : List (Str × α)}, l.lookup x = some i → (x, i) ∈ l
  | [], h => by simp at h
  | (y, j) :: r, h => by
    rw [List.lookup_cons] at h
    split at h
    · rename_i q; cases h; rw [beq_iff_eq.mp q]; exact .head _
    · exact .tail _ (lookup_mem h)
theorem pe_gint {x : Str} {i : Int} (hm : intTab.lookup x = some i) (hl : X.env.kindOf x = some .globalImplicit := by rfl) (hd : (x == ("__debug__" : Str)) = false := by rfl) :
    PE W X l σ (.Name x pos) (.int i) := by
  constructor
  intro ok s R
  obtain ⟨t, h⟩ := ok.k.int _ (lookup_mem hm)
  refine Calls.Name_function_global ok.ek hl (Calls.loadGlobal_global (mg := W.mg) (by rw [ok.eg]; exact ok.top.g.keeps R.base) (mg_of ok.kin ok.top.g h) ?_) hd
  exact .pe (.int i) ⟨t, rfl⟩ R .refl
/-- a global name that stands for a tuple of ints -/
theorem pe_gtup {x : Str} {xs : List Int} (h : KOk W → TupOk W x xs) (hl : X.env.kindOf x = some .globalImplicit := by rfl) (hd : (x == ("__debug__" : Str)) = false := by rfl) :
    PE W X l σ (.Name x pos) (.tup (xs.map .int)) := by
  constructor
  intro ok s R
  obtain ⟨a, oc, n, items, hns, hk, hm⟩ := h ok.k
  refine Calls.Name_function_global ok.ek hl (Calls.loadGlobal_global (mg := W.mg) (by rw [ok.eg]; exact ok.top.g.keeps R.base) (mg_of ok.kin ok.top.g hns) ?_) hd
  exact .pe (.tup (xs.map .int)) ⟨a, items, rfl, ⟨_, R.kin ok _ _ hk, rfl, n, rfl⟩, hm⟩ R .refl

/-! ### attributes -/
theorem lookIn_ns {h : Heap} {dx : Addr} {es : Array DictEntry} {n : Nat} {name : Str} {rv : Value} (sk : StrKeys es) (e : nsFind es name = some rv) :
    lookIn name { cls := .type "dict", data := .dict es n } = some (some rv) := by
  unfold nsFind findBy at e
  obtain ⟨en, h1, rfl⟩ := Option.map_eq_some_iff.mp e
  unfold lookIn
  dsimp only
  rw [Array.find?_toList, h1]
theorem ev_attr {name : Str} (h : Ev W X l σ e fun a σ₁ => ∃ x r C dx nf fs u, a = .ref x ∧ σ₁ x = some ⟨r, .inst C dx nf fs⟩ ∧ fs name = some u ∧ name ∈ C.attrs ∧ Q u σ₁)
    (he : eval (.Attribute e name pos) X.env = (do
      let o ← eval e X.env
      standAt pos.atName
      let r ← holding [o] (getAttr o name true)
      letTemporaryGo e o r
      pure r) := by with_unfolding_all rfl) : Ev W X l σ (.Attribute e name pos) Q := by
  intro ok s R
  refine Attribute_any_ (wpAny_mono (h ok s R) ?_ fun _ _ x => x) he
  rintro v s1 ⟨mv, σ1, hv, R1, S1, x, r, C, dx, nf, fs, u, rfl, hx, hf, ha, q⟩
  obtain rfl : v = .ref x := hv
  obtain ⟨g, es, n, gd, sk, sz, hfs⟩ := R1.om x _ hx
  obtain ⟨rv, hrv, mrv⟩ := hfs name u hf
  obtain ⟨pg, hh, ⟨attr, fa, ng⟩, _⟩ := ok.k.attr C name ha
  obtain ⟨R2, S2⟩ := R1.toks (s1.toks + 1)
  exact get_value (od := some { cls := .type "dict", data := .dict es n }) (R1.kin ok) ⟨g, rfl, rfl, gd⟩ (plainGet_of pg).1 (findObj_own hh fa ng (lookIn_ns (h := s1.heap) (dx := dx) sk hrv)) (by
      cases u <;> first | (obtain ⟨t, rfl⟩ := mrv; rfl) | (obtain ⟨a, its, rfl, _⟩ := mrv; rfl) | (have mrv' := mrv; simp only [VMatch] at mrv'; subst mrv'; rfl))
    (.here mrv R2 (S1.trans R1 S2) q)
theorem pe_attr {name : Str} {x r C dx nf fs} (h : PE W X l σ e (.ref x)) (hx : σ x = some ⟨r, .inst C dx nf fs⟩) (hf : fs name = some v) (ha : name ∈ C.attrs := by decide)
    (he : eval (.Attribute e name pos) X.env = (do
      let o ← eval e X.env
      standAt pos.atName
      let r ← holding [o] (getAttr o name true)
      letTemporaryGo e o r
      pure r) := by with_unfolding_all rfl) : PE W X l σ (.Attribute e name pos) v := ⟨ev_attr (ev_pe h ⟨x, r, C, dx, nf, fs, v, rfl, hx, hf, ha, rfl, rfl⟩) he⟩

/-! ### binary operations -/
theorem ev_bin {op : Operator} (h : Ev W X l σ e₁ fun a σ₁ => Ev W X l σ₁ e₂ fun b σ₂ => Op2 W X l σ₂ (binaryOp op) a b Q) : Ev W X l σ (.BinOp e₁ op e₂ pos) Q := by
  intro ok s R
  refine wpAny_BinOp (wpAny_mono (h ok s R) ?_ fun _ _ x => x)
  rintro ra s1 ⟨a, σ1, ma, R1, S1, h2⟩
  refine wpAny_mono (h2 ok s1 R1) ?_ fun _ _ x => x
  rintro rb s2 ⟨b, σ2, mb, R2, S2, h3⟩
  refine wpAny_mono (h3 ok s2 ra rb R2 (ma.step R1 S2) mb) ?_ fun _ _ x => x
  intro rc s3 p
  exact (p.trans S2 R2).trans S1 R1
theorem pe_bin {op : Operator} (h1 : PE W X l σ e₁ a) (h2 : PE W X l σ e₂ b) (h3 : PO2 W X l σ (binaryOp op) a b v) : PE W X l σ (.BinOp e₁ op e₂ pos) v := ⟨ev_bin (ev_pe h1 (ev_pe h2 h3.op))⟩
theorem ev_cmp {op : CmpOp} (h : Ev W X l σ e₁ fun a σ₁ => Ev W X l σ₁ e₂ fun b σ₂ => Op2 W X l σ₂ (compareOp op) a b Q) (hm : behindInMarks op e₂ = false := by with_unfolding_all rfl) :
    Ev W X l σ (.Compare e₁ [op] [e₂] pos) Q := by
  intro ok s R
  refine wpAny_Compare1 (wpAny_mono (h ok s R) ?_ fun _ _ x => x) hm
  rintro ra s1 ⟨a, σ1, ma, R1, S1, h2⟩
  refine wpAny_mono (h2 ok s1 R1) ?_ fun _ _ x => x
  rintro rb s2 ⟨b, σ2, mb, R2, S2, h3⟩
  refine wpAny_mono (h3 ok s2 ra rb R2 (ma.step R1 S2) mb) ?_ fun _ _ x => x
  intro rc s3 p
  exact (p.trans S2 R2).trans S1 R1
theorem pe_cmp {op : CmpOp} (h1 : PE W X l σ e₁ a) (h2 : PE W X l σ e₂ b) (h3 : PO2 W X l σ (compareOp op) a b v) (hm : behindInMarks op e₂ = false := by with_unfolding_all rfl) :
    PE W X l σ (.Compare e₁ [op] [e₂] pos) v := ⟨ev_cmp (ev_pe h1 (ev_pe h2 h3.op)) hm⟩

section
variable {i j : Int}
theorem po_int {f : Value → Value → Sem Value} {k : Int} (h : ∀ {A : Around} {E : Value → Shared → Prop} {s : Shared} {t u : Tok} {Q : Value → Shared → Prop}, Q (.int k s.toks) { s with toks := s.toks + 1 } → wpAny W.M A (f (.int i t) (.int j u)) Q E s) :
    PO2 W X l σ f (.int i) (.int j) (.int k) := by
  constructor
  rintro ok s _ _ R ⟨t, rfl⟩ ⟨u, rfl⟩
  obtain ⟨R', S⟩ := R.toks (s.toks + 1)
  exact h (.pe (.int k) ⟨_, rfl⟩ R' S)
theorem po_add : PO2 W X l σ (binaryOp .Add) (.int i) (.int j) (.int (i + j)) := po_int fun h => add_int h
theorem po_sub : PO2 W X l σ (binaryOp .Sub) (.int i) (.int j) (.int (i - j)) := po_int fun h => sub_int h
theorem po_iadd : PO2 W X l σ (inplaceOp .Add) (.int i) (.int j) (.int (i + j)) := po_int fun h => iadd_int h
theorem po_isub : PO2 W X l σ (inplaceOp .Sub) (.int i) (.int j) (.int (i - j)) := po_int fun h => isub_int h
theorem po_div (hj : 0 < j) (hk : j < 1000000) : PO2 W X l σ (binaryOp .FloorDiv) (.int i) (.int j) (.int (i / j)) := po_int fun h => floordiv_int (Int.ne_of_gt hj) (by rw [Int.fdiv_eq_ediv_of_nonneg _ (Int.le_of_lt hj)]; exact h) (.inl (PyProof.noPylong_small (by omega)))
theorem po_mod (hj : 0 < j) : PO2 W X l σ (binaryOp .Mod) (.int i) (.int j) (.int (i % j)) := po_int fun h => mod_int' (Int.ne_of_gt hj) (by rw [Int.fmod_eq_emod_of_nonneg _ (Int.le_of_lt hj)]; exact h)
theorem po_shr (hj : 0 ≤ j) : PO2 W X l σ (binaryOp .RShift) (.int i) (.int j) (.int (i / 2 ^ j.toNat)) := po_int fun h => rshift_int hj (by rw [Int.fdiv_eq_ediv_of_nonneg _ (Int.pow_nonneg (by decide))]; exact h)
theorem po_cmp {f : Value → Value → Sem Value} {c : Bool} (h : ∀ {A : Around} {E : Value → Shared → Prop} {s : Shared} {t u : Tok} {Q : Value → Shared → Prop}, Q (.bool c) s → wpAny W.M A (f (.int i t) (.int j u)) Q E s) :
    PO2 W X l σ f (.int i) (.int j) (.bool c) := by
  constructor
  rintro ok s _ _ R ⟨t, rfl⟩ ⟨u, rfl⟩
  exact h (.pe (.bool c) rfl R .refl)
theorem po_lt : PO2 W X l σ (compareOp .Lt) (.int i) (.int j) (.bool (decide (i < j))) := po_cmp fun h => lt_int h
theorem po_le : PO2 W X l σ (compareOp .LtE) (.int i) (.int j) (.bool (decide (i ≤ j))) := po_cmp fun h => le_int h
theorem po_gt : PO2 W X l σ (compareOp .Gt) (.int i) (.int j) (.bool (decide (j < i))) := po_cmp fun h => gt_int h
theorem po_ge : PO2 W X l σ (compareOp .GtE) (.int i) (.int j) (.bool (decide (j ≤ i))) := po_cmp fun h => ge_int h
theorem po_eq : PO2 W X l σ (compareOp .Eq) (.int i) (.int j) (.bool (decide (i = j))) := po_cmp fun h => eq_int (by rw [show (i == j) = decide (i = j) from rfl]; exact h)
theorem po_ne : PO2 W X l σ (compareOp .NotEq) (.int i) (.int j) (.bool (decide (i ≠ j))) := po_cmp fun h => ne_int (by
  rw [show (i != j) = decide (i ≠ j) by simp [bne, BEq.beq]]; exact h)
end
theorem po_mul {i j : Int} (hi : -(2 ^ 64) < i) (hj : i < 2 ^ 64) : PO2 W X l σ (binaryOp .Mult) (.int i) (.int j) (.int (i * j)) := po_int fun h => mul_int h (IntMulOk.of_left (intBits_le_64 hi hj))
theorem po_eqb {c d : Bool} : PO2 W X l σ (compareOp .Eq) (.bool c) (.bool d) (.bool (c == d)) := by
  constructor
  rintro ok s _ _ R rfl rfl
  exact eq_bool (.pe (.bool (c == d)) rfl R .refl)
theorem plainIs_none {h : Heap} {v : MVal} {rv : Value} (m : VMatch h v rv) : plainIs rv .none = true := by
  cases v <;> first | (obtain ⟨t, rfl⟩ := m; rfl) | (obtain ⟨a, its, rfl, _⟩ := m; rfl) | (have m' := m; simp only [VMatch] at m'; subst m'; rfl)
theorem beq_none {h : Heap} {v : MVal} {rv : Value} (m : VMatch h v rv) (hv : v ≠ .none) : (rv == .none) = false := by
  rw [beq_eq_false_iff_ne]
  cases v <;> first | exact absurd rfl hv | (obtain ⟨t, rfl⟩ := m; intro h; cases h; done) | (obtain ⟨a, its, rfl, _⟩ := m; intro h; cases h; done) | (have m' := m; simp only [VMatch] at m'; subst m'; intro h; cases h)
theorem po_is (hv : v ≠ .none) : PO2 W X l σ (compareOp .Is) v .none (.bool false) := by
  constructor
  rintro ok s rv _ R m rfl
  exact wpAny_is_plain (plainIs_none m) (.pe (.bool false) (by rw [beq_none m hv]; rfl) R .refl)
theorem po_isn (hv : v ≠ .none) : PO2 W X l σ (compareOp .IsNot) v .none (.bool true) := by
  constructor
  rintro ok s rv _ R m rfl
  exact wpAny_isNot_plain (plainIs_none m) (.pe (.bool true) (by rw [beq_none m hv]; rfl) R .refl)
theorem po_isn0 : PO2 W X l σ (compareOp .IsNot) .none .none (.bool false) := by
  constructor
  rintro ok s _ _ R rfl rfl
  exact wpAny_isNot_plain rfl (.pe (.bool false) rfl R .refl)
end
end


/-! ## the head: what the kernel sees of the text's own run -/
noncomputable def relA : List Nat := [3, 66, 65, 87, 86, 241, 240, 367, 366, 63, 62, 84, 83, 238, 237, 357, 356, 456, 457, 21, 20, 28, 27, 35, 34, 42, 41, 49, 48, 98, 97, 105, 104, 112, 111, 119, 118, 126, 125, 133, 132, 140, 139, 147, 146, 154, 153, 161, 160, 168, 167, 175, 174, 182, 181, 189, 188, 196, 195, 203, 202, 210, 209, 217, 216, 224, 223, 252, 251, 259, 258, 266, 265, 273, 272, 280, 279, 287, 286, 294, 293, 301, 300, 308, 307, 315, 314, 322, 321, 329, 328, 336, 335, 343, 342, 378, 377, 385, 384, 392, 391, 399, 398, 406, 405, 413, 412, 420, 419, 427, 426, 434, 433, 441, 440, 448, 447, 455, 454, 464, 463, 471, 470, 476, 475, 483, 482, 490, 489, 495, 494, 500, 499, 507, 506, 514, 513, 519, 518, 526, 525, 531, 530, 538, 537, 543, 542]
noncomputable def fullK (h : Heap) : Frag := relA.filterMap fun a => (h.get? a).map fun o => (a, o)
theorem fullK_in (h : Heap) : (fullK h).In h := by
  have : ∀ (l : List Nat) (a : Addr) (o : Obj), (l.filterMap fun a => (h.get? a).map fun o => (a, o)).lookup a = some o → h.get? a = some o := by
    intro l
    induction l with
    | nil => intro a o e; simp at e
    | cons b r ih =>
      intro a o e
      rw [List.filterMap_cons] at e
      cases hb : h.get? b with
      | none => rw [hb] at e; exact ih a o e
      | some x =>
        rw [hb] at e
        simp only [Option.map_some, List.lookup_cons] at e
        split at e
        · rename_i q
          cases e
          rw [beq_iff_eq.mp q]; exact hb
        · exact ih a o e
  exact fun a o e => this _ a o e
noncomputable def blank (f : FuncData) : FuncData := { f with doc := .none, pyModule := .none, annotations := Option.none, code := .none, closureTuple := .none }
noncomputable def fnOf0 (name qual : Str) (params : Arguments) (body : List Stmt) (scope : Scope) : FuncData := fnOf name qual params body scope .none .none .none .none Option.none .none .none
theorem of_blank {f : FuncData} {n q : Str} {ps : Arguments} {b : List Stmt} {sc : Scope} (e : blank f = fnOf0 n q ps b sc) : f = fnOf n q ps b sc .none .none f.doc f.pyModule f.annotations f.code f.closureTuple := by
  cases f
  simp only [blank, fnOf0, fnOf, FuncData.mk.injEq, and_true] at e ⊢
  simp_all
noncomputable def refOf (K : Frag) (x : Str) : Addr := match nsIn K mainGlobals x with
  | some (some (.ref a)) => a
  | _ => 0
noncomputable def isRef (K : Frag) (x : Str) : Bool := match nsIn K mainGlobals x with
  | some (some (.ref _)) => true
  | _ => false
theorem refOf_ns {K : Frag} {x : Str} (h : isRef K x = true) : nsIn K mainGlobals x = some (some (.ref (refOf K x))) := by
  unfold isRef at h
  unfold refOf
  split at h
  · rename_i a e; rw [e]
  · cases h
noncomputable def fnSees (K : Frag) (a : Addr) (qual : Str) : Option (FuncData × Bool) := match K.lookup a with
  | some ⟨_, _, .func f, _⟩ => some (blank f, codeIn K f.code qual)
  | _ => none
noncomputable def defSees (K : Frag) (p : Nat × Str) : Bool × Bool × Option (FuncData × Bool) := (isRef K p.2, keepIn K (.ref (refOf K p.2)), fnSees K (refOf K p.2) p.2)
noncomputable def defGood (p : Nat × Str) : Bool × Bool × Option (FuncData × Bool) := (true, true, some (fnOf0 p.2 p.2 (fArgs (topS p.1)) (fBody (topS p.1)) (fScope (topS p.1)), true))
noncomputable def iniOf (K : Frag) (C : Cls) : Addr := match findIn K (.ref (refOf K C.name)) "__init__" with
  | some (some (.ref a)) => a
  | _ => 0
noncomputable def clsSees (K : Frag) (C : Cls) : Bool × Bool × Bool × Bool × Option Value × Option (FuncData × Bool) :=
  (isRef K C.name, keepIn K (.ref (refOf K C.name)), makesIn K (refOf K C.name), (match findIn K (.ref (refOf K C.name)) "__init__" with | some (some (.ref _)) => true | _ => false), typeIn K (.ref (iniOf K C)), fnSees K (iniOf K C) C.qual)
noncomputable def clsGood (C : Cls) : Bool × Bool × Bool × Bool × Option Value × Option (FuncData × Bool) :=
  (true, true, true, true, some (.type "function"), some (fnOf0 "__init__" C.qual (fArgs C.init) (fBody C.init) (fScope C.init), true))
noncomputable def attrSees (K : Frag) (C : Cls) (name : Str) : Bool × Bool × Bool × Bool × Option (Option Value) × Option (Option Value) :=
  (plainGet K (refOf K C.name) name, hasDictIn K (refOf K C.name), (match findIn K (.ref (refOf K C.name)) name with | some a => noGet K a | none => false), plainOver K (refOf K C.name), takerIn K (refOf K C.name) name, findIn K (.ref (refOf K C.name)) "__setattr__")
noncomputable def attrGood : Bool × Bool × Bool × Bool × Option (Option Value) × Option (Option Value) := (true, true, true, true, some none, some (some (.builtin "object.__setattr__")))
noncomputable def intSees (K : Frag) (x : Str) : Option Int := match nsIn K mainGlobals x with
  | some (some (.int i _)) => some i
  | _ => none
noncomputable def intOf? : Value → Option Int
  | .int i _ => some i
  | _ => none
noncomputable def tupSees (K : Frag) (x : Str) : Option (Value × List (Option Int) × Array (Option Value)) := match nsIn K mainGlobals x with
  | some (some (.ref a)) => (match K.lookup a with
    | some ⟨c, _, .seq items _, sl⟩ => some (c, items.toList.map intOf?, sl)
    | _ => none)
  | _ => none
noncomputable def clss : List Cls := [.thing, .heap, .handles, .words]
noncomputable def bef : List Int := [216, 216, 624, 74, 86, 38, 50, 5]
noncomputable def aft : List Int := [10, 21, 22, 5, 34]
noncomputable def sees (K : Frag) := (defTab.map (defSees K), clss.map (clsSees K), clss.map (fun C => C.attrs.map (attrSees K C)), intTab.map (fun p => intSees K p.1), biTab.map (nsIn K mainGlobals), tupSees K "_law_before", tupSees K "_law_after")
noncomputable def good := (defTab.map defGood, clss.map clsGood, clss.map (fun C => C.attrs.map fun _ => attrGood), intTab.map (fun p => some p.2), biTab.map (fun _ => (some none : Option (Option Value))),
  (some (Value.type "tuple", bef.map some, #[]) : Option (Value × List (Option Int) × Array (Option Value))), (some (Value.type "tuple", aft.map some, #[]) : Option (Value × List (Option Int) × Array (Option Value))))
section
set_option maxHeartbeats 0

noncomputable def looseV : List Str := (defTab.map (·.2)).dropLast ++ clss.map Cls.name ++ intTab.map (·.1) ++ [("_law_before" : Str), ("_law_after" : Str)]
noncomputable def qV : Program := view PySem.Challenge.pw_qd0037_01 [91]
abbrev pV : Program := PySem.Challenge.pw_qd0037_01
noncomputable def xtV (s : Shared) : Bool := xlAt qV [] s && recOk PySem.Challenge.rw_qd0037_01.row.toRowW.records s
theorem hRun : ∀ (w : World) (os : OsState), (topFrom treeTable pV w 6544 ⟨boot_heap w.params, #[], boot_drawn, boot_toks, os⟩).map (fun s => (openSeen qV looseV (importedModules pV.main.body) xtV true s, sees (fullK s.heap))) = some (openGood qV looseV, good) := by
  intro w os
  unfold topFrom
  rw [PySem.W.Fast.te14082659384304107361, PySem.W.Fast.te14364793385576792824, PySem.W.Fast.te4187177175401517315]
  kernel_rfl

theorem hSaid : PySem.Challenge.rw_qd0037_01.wellSaid = true := by kernel_rfl
theorem hOpen : ∀ w : World, (fencedOpening treeTable pV w 6544).map (fun s => (s.heap, s.gens, s.drawn, s.toks)) = some (boot_heap w.params, Array.mk [], boot_drawn, boot_toks) :=
  boot_open (by kernel_rfl) rfl (by intro s; kernel_rfl)
theorem hLeft : LeftO pV qV looseV xtV (fun s => sees (fullK s.heap)) (fun _ => good) 6544 := by
  intro w
  obtain ⟨⟨h, gs, d, k, os⟩, e1, e2⟩ := Option.map_eq_some_iff.mp (hOpen w)
  simp only [Prod.mk.injEq] at e2
  obtain ⟨rfl, rfl, rfl, rfl⟩ := e2
  unfold openEnds
  rw [e1]
  exact hRun w os
noncomputable def fPos : Option Stmt → Pos
  | some (.FunctionDef _ _ _ _ _ _ _ _ _ p) => p
  | _ => default
noncomputable def dLaw : DefRec := { name := "law", params := fArgs (topS 91), body := fBody (topS 91), scope := fScope (topS 91), pos := fPos (topS 91) }
theorem hDef : defOf qV PySem.Challenge.rw_qd0037_01.row.name = some (dLaw, []) := by kernel_rfl
theorem hThe : PySem.Challenge.rw_qd0037_01.row.prog.theDef PySem.Challenge.rw_qd0037_01.row.name = some (dLaw.params, dLaw.body, dLaw.scope) := by kernel_rfl
theorem hKw : kwWritten? dLaw.params.kwonlyargs dLaw.params.kw_defaults = some [] := by kernel_rfl
theorem hOk : (chainsOk qV && opensWell PySem.Challenge.rw_qd0037_01.row.prog && (frees PySem.Challenge.rw_qd0037_01.row.toRowW && PySem.Challenge.rw_qd0037_01.row.within.isEmpty)) = true := by kernel_rfl
end

section
/-! ## dicts -/
section
variable {K : Type} [DecidableEq K]
noncomputable def dget : List (K × MVal) → K → Option MVal
  | [], _ => none
  | (a, v) :: r, k => if a = k then some v else dget r k
noncomputable def dput : List (K × MVal) → K → MVal → List (K × MVal)
  | [], k, v => [(k, v)]
  | (a, u) :: r, k, v => if a = k then (a, v) :: r else (a, u) :: dput r k v

noncomputable def KV (h : Heap) (p : K × MVal) (q : K × Value) : Prop := p.1 = q.1 ∧ VMatch h p.2 q.2
theorem dget_valueAt {h : Heap} : ∀ {kvs : List (K × MVal)} {rk : List (K × Value)}, All2 (KV h) kvs rk → ∀ k, match dget kvs k with
    | none => valueAt rk k = none
    | some v => ∃ rv, valueAt rk k = some rv ∧ VMatch h v rv
  | [], [], _, k => rfl
  | (a, v) :: r, (b, rv) :: rr, ⟨⟨e, m⟩, t⟩, k => by
    have e : a = b := e
    subst e
    have ih := dget_valueAt t k
    unfold valueAt at ih ⊢
    simp only [dget, List.find?_cons]
    by_cases h : a = k
    · simp only [h, if_true, decide_true]; exact ⟨rv, rfl, m⟩
    · simp only [h, if_false, decide_false]; exact ih
  | [], _ :: _, x, _ => x.elim
  | _ :: _, [], x, _ => x.elim
theorem keys_eq {h : Heap} : ∀ {kvs : List (K × MVal)} {rk : List (K × Value)}, All2 (KV h) kvs rk → kvs.map (·.1) = rk.map (·.1)
  | [], [], _ => rfl
  | (a, v) :: r, (b, rv) :: rr, ⟨⟨e, _⟩, t⟩ => by simp only [List.map_cons, keys_eq t]; rw [show a = b from e]
  | [], _ :: _, x => x.elim
  | _ :: _, [], x => x.elim
theorem dput_stored {h : Heap} {k : K} {v : MVal} {rv : Value} (m : VMatch h v rv) : ∀ {kvs : List (K × MVal)} {rk : List (K × Value)}, All2 (KV h) kvs rk → (rk.map (·.1)).Nodup → All2 (KV h) (dput kvs k v) (stored rk k rv)
  | [], [], _, _ => ⟨⟨rfl, m⟩, trivial⟩
  | (a, u) :: r, (b, ru) :: rr, ⟨⟨e, mu⟩, t⟩, nd => by
    have e : a = b := e
    subst e
    rw [List.map_cons, List.nodup_cons] at nd
    have ih := dput_stored m t nd.2 (k := k)
    unfold stored at ih ⊢
    simp only [dput, List.any_cons]
    by_cases h : a = k
    · subst h
      simp only [decide_true, Bool.true_or, if_true, List.map_cons]
      rw [map_store_of_not_mem rr a rv nd.1]
      exact ⟨⟨rfl, m⟩, t⟩
    · simp only [h, if_false, decide_false, Bool.false_or, List.map_cons]
      split at ih
      · rename_i q; rw [if_pos q]; exact ⟨⟨rfl, mu⟩, ih⟩
      · rename_i q; rw [if_neg q]; exact ⟨⟨rfl, mu⟩, ih⟩
  | [], _ :: _, x, _ => x.elim
  | _ :: _, [], x, _ => x.elim
end

/-! ## arguments and calls -/
noncomputable def plainArgs (es : List Expr) (env : Env) : List (Bool × Sem Value) := es.map fun e => (false, eval e env)
noncomputable def EvA (W : Wd) (X : Cx) (l : Lcl) (σ : Store) (es : List Expr) (Q : List MVal → Store → Prop) : Prop :=
  Ok W X → ∀ s, SRel W X l σ s → wpAny W.M X.A (spliced (plainArgs es X.env)) (fun vs s' => ∃ mvs σ', All2 (VMatch s'.heap) mvs vs ∧ SRel W X l σ' s' ∧ Stp X σ s σ' s' ∧ Q mvs σ') NoE s
/-- a call of a value upon given arguments -/
noncomputable def OpC (W : Wd) (X : Cx) (l : Lcl) (σ : Store) (f : Value) (args : List MVal) (Q : MVal → Store → Prop) : Prop :=
  Ok W X → ∀ s rargs, SRel W X l σ s → All2 (VMatch s.heap) args rargs → wpAny W.M X.A (call f rargs) (PostE W X l σ s Q) NoE s

section
variable {W : Wd} {X : Cx} {l : Lcl} {σ σ₁ : Store} {s s₁ : Shared} {e e₁ e₂ : Expr} {es : List Expr} {a b v : MVal} {Q Q' : MVal → Store → Prop} {pos apos : Pos}

theorem eva_nil {Q : List MVal → Store → Prop} (h : Q [] σ) : EvA W X l σ [] Q := fun _ s R => wpAny_pure ⟨[], σ, trivial, R, .refl, h⟩
theorem eva_cons {Q : List MVal → Store → Prop} (h : Ev W X l σ e fun v σ₁ => EvA W X l σ₁ es fun vs σ₂ => Q (v :: vs) σ₂) : EvA W X l σ (e :: es) Q := by
  intro ok s R
  refine Calls.spliced_cons (wpAny_mono (h ok s R) ?_ fun _ _ x => x)
  intro rv s1 hhh
  refine gw fun G hG => ?_
  obtain ⟨v, σ1, m, R1, S1, h2⟩ := hhh
  refine hG ?_
  refine wpAny_mono (h2 ok s1 R1) ?_ fun _ _ x => x
  intro rvs s2 hhh
  refine gw fun G hG => ?_
  obtain ⟨vs, σ2, ms, R2, S2, q⟩ := hhh
  refine hG ?_
  exact ⟨v :: vs, σ2, ⟨m.step R1 S2, ms⟩, R2, S1.trans R1 S2, q⟩
theorem OpC.mono {f : Value} {args : List MVal} (h : OpC W X l σ f args Q) (k : ∀ v σ', Q v σ' → Q' v σ') : OpC W X l σ f args Q' := fun ok s ra R m1 =>
  wpAny_mono (h ok s ra R m1) (fun _ _ ⟨v, σ', m, R', S, q⟩ => ⟨v, σ', m, R', S, k _ _ q⟩) fun _ _ x => x

theorem evalArgs_all {M : Model} {A : Around} {E : Value → Shared → Prop} {s : Shared} {f : Value} {env : Env} : ∀ {es : List Expr} {Q : Args → Shared → Prop}, wpAny M A (spliced (plainArgs es env)) (fun vs s' => Q ⟨vs, []⟩ s') E s →
    wpAny M A (evalArgs f true (plainArgs es env) []) Q E s
  | [], Q, h => by
    show wpAny M A (evalArgs f true [] []) Q E s
    unfold evalArgs
    show wpAny M A (spliced [] >>= _) Q E s
    refine wpAny_bind (wpAny_mono h (fun vs s' h' => ?_) fun _ _ x => x)
    refine wpAny_holding ?_
    exact wpAny_bind (wpAny_pure (wpAny_bind (wpAny_pure (wpAny_pure h'))))
  | _ :: _, _, h => Calls.evalArgs_plain h
theorem plainArgs_any (es : List Expr) (env : Env) : (plainArgs es env).any (·.1) = false := by
  unfold plainArgs; induction es with
  | nil => rfl
  | cons e r ih => rw [List.map_cons, List.any_cons, ih]; rfl

/-- a method of a list that is built in -/
theorem ev_meth {T : String} {name : Str} {id : String} {o : Expr} (slot : Slot T name id) (hty : typeOf (.builtin id) = pure (.type "method_descriptor")) (pa : PlainAttrs T)
    (h : Ev W X l σ o fun ov σ₁ => ∃ a, ov = .ref a ∧ (∀ s, SRel W X l σ₁ s → ∃ ob, s.heap.get? a = some ob ∧ ob.cls = .type T ∧ ob.dict = none) ∧ EvA W X l σ₁ es fun vs σ₂ => OpC W X l σ₂ (.builtin id) (.ref a :: vs) Q)
    (hp : backTo pos (starEach es X.env) = plainArgs es X.env := by rfl) {pl : Sem Bool}
    (he : eval (.Call (.Attribute o name apos) es [] pos) X.env = (do
      let ov ← eval o X.env
      standAt apos.atName
      let (f, first) ← holding [ov] (getMethod ov name pl)
      callWith pos f first (backTo pos (starEach es X.env)) []) := by rfl) : Ev W X l σ (.Call (.Attribute o name apos) es [] pos) Q := by
  intro ok s R
  refine MethodCall_ (wpAny_mono (h ok s R) ?_ fun _ _ x => x) he
  intro ov s1 hhh
  refine gw fun G hG => ?_
  obtain ⟨mv, σ1, hv, R1, S1, a, rfl, hT, h2⟩ := hhh
  refine hG ?_
  obtain rfl : ov = .ref a := hv
  obtain ⟨ob, ho, hc, hd⟩ := hT s1 R1
  refine getMethod_builtin ⟨ob, ho, hc⟩ pa slot hty (fun b e => by cases e; exact ⟨ob, ho, hd⟩) ?_
  rw [hp]
  refine Calls.callWith_builtin (plainArgs_any _ _) (evalArgs_all (wpAny_mono (h2 ok s1 R1) ?_ fun _ _ x => x))
  intro rvs s2 hhh
  refine gw fun G hG => ?_
  obtain ⟨vs, σ2, ms, R2, S2, h3⟩ := hhh
  refine hG ?_
  refine wpAny_mono (h3 ok s2 (.ref a :: rvs) R2 ⟨rfl, ms⟩) ?_ fun _ _ x => x
  intro r s3 p
  exact (p.trans S2 R2).trans S1 R1
/-- a built-in function by its name -/
theorem ev_bfun {x : Str} {id : String} {npos : Pos} (hx : nsIn W.K mainGlobals x = some none) (hv : bootBuiltins x = some (.builtin id)) (hn : x ≠ "__name__")
    (h : EvA W X l σ es fun vs σ₂ => OpC W X l σ₂ (.builtin id) vs Q) (hp : backTo pos (starEach es X.env) = plainArgs es X.env := by rfl)
    (hl : X.env.kindOf x = some .globalImplicit := by rfl) (hd : (x == ("__debug__" : Str)) = false := by rfl)
    (he : eval (.Call (.Name x npos) es [] pos) X.env = (do callWith pos (← eval (.Name x npos) X.env) [] (backTo pos (starEach es X.env)) (backToKw pos (keywordEach [] X.env))) := by rfl) :
    Ev W X l σ (.Call (.Name x npos) es [] pos) Q := by
  intro ok s R
  refine Call_ ?_ he
  refine Calls.Name_function_global ok.ek hl (Calls.loadGlobal_builtin (mg := W.mg) (mb := W.mb) (by rw [ok.eg]; exact ok.top.g.keeps R.base) (mg_none_of ok.kin ok.top.g hx) (by rw [ok.eb]; exact ok.top.b.keeps R.base)
    ((ok.top.builtins x hn).trans hv) ?_) hd
  rw [hp]
  refine Calls.callWith_builtin (plainArgs_any _ _) (evalArgs_all (wpAny_mono (h ok s R) ?_ fun _ _ x => x))
  intro rvs s2 hhh
  refine gw fun G hG => ?_
  obtain ⟨vs, σ2, ms, R2, S2, h3⟩ := hhh
  refine hG ?_
  refine wpAny_mono (h3 ok s2 rvs R2 ms) ?_ fun _ _ x => x
  intro r s3 p
  exact p.trans S2 R2

/-! ### lists -/
theorem SRel.list {a : Addr} {r : Nat} {vs : List MVal} (R : SRel W X l σ s) (h : σ a = some ⟨r, .list vs⟩) : ∃ items n, s.heap.get? a = some { cls := .type "list", data := .seq items n } ∧ All2 (VMatch s.heap) vs items.toList :=
  let ⟨items, ⟨n, g⟩, m⟩ := R.om a _ h; ⟨items, n, g, m⟩
theorem size_of {h : Heap} {vs : List MVal} {items : Array Value} (m : All2 (VMatch h) vs items.toList) : items.size = vs.length := by
  have := m.len; simp at this; omega
theorem list_is {T : String} {a : Addr} {r : Nat} {vs : List MVal} (h : σ a = some ⟨r, .list vs⟩) (hT : T = "list") : ∀ s, SRel W X l σ s → ∃ ob, s.heap.get? a = some ob ∧ ob.cls = .type T ∧ ob.dict = none := fun s R =>
  let ⟨_, _, g, _⟩ := R.list h; ⟨_, g, by rw [hT], rfl⟩
theorem dI_is {T : String} {a : Addr} {r : Nat} {kvs : List (Int × MVal)} (h : σ a = some ⟨r, .dI kvs⟩) (hT : T = "dict") : ∀ s, SRel W X l σ s → ∃ ob, s.heap.get? a = some ob ∧ ob.cls = .type T ∧ ob.dict = none := fun s R => by
  obtain ⟨_, rk, ⟨o, es, ep, g, ⟨e1, e2, _⟩, _⟩, _⟩ := R.om a _ h
  exact ⟨_, g, by rw [hT]; exact e1, e2⟩
theorem notInst_list {vs : List MVal} : NotInst (.list vs) := fun _ _ _ _ h => by cases h
theorem notInst_dI {vs : List (Int × MVal)} : NotInst (.dI vs) := fun _ _ _ _ h => by cases h
theorem notInst_dS {vs : List (Str × MVal)} : NotInst (.dS vs) := fun _ _ _ _ h => by cases h
theorem notInst_cell {v : Option MVal} : NotInst (.cell v) := fun _ _ _ _ h => by cases h

theorem lineIs : sizeLine = 16777216 := sizeLine_eq

theorem call_append {a : Addr} {r : Nat} {vs : List MVal} (h : σ a = some ⟨r, .list vs⟩) (hz : vs.length ≤ 16777216) (q : Q .none (σ.set a ⟨r, .list (vs ++ [v])⟩)) :
    OpC W X l σ (.builtin "list.append") [.ref a, v] Q := by
  rintro ok s rargs R m
  obtain ⟨items, n, g, ma⟩ := R.list h
  match rargs, m with
  | [ra, rv], ⟨e1, mv, _⟩ =>
    obtain rfl : ra = .ref a := e1
    refine wpAny_list_append_plain (hsz := by rw [size_of ma, lineIs]; exact hz) ⟨n, g⟩ fun h' hp hs => ?_
    obtain ⟨R', S'⟩ := R.setObj (tk := s.toks) (b := .list (vs ++ [v])) (r := r) h notInst_list notInst_list hs fun kt => ⟨_, hp, by
      rw [Array.toList_push]; exact (ma.vkeep kt).snoc (mv.keep kt)⟩
    exact .here (v := .none) rfl R' S' q
  | [], x => exact x.elim
  | [_], x => exact x.2.elim
  | _ :: _ :: _ :: _, x => exact x.2.2.elim

theorem mapSeq_any (items : Array Value) (n : Nat) (f : Array Value → Array Value) : ∃ k, Obj.mapSeq f { cls := .type "list", data := .seq items n } = { cls := .type "list", data := .seq (f items) k } := ⟨_, rfl⟩

theorem upd_list {a : Addr} {r : Nat} {vs ws : List MVal} {items : Array Value} {n : Nat} {f : Array Value → Array Value} (R : SRel W X l σ s) (h : σ a = some ⟨r, .list vs⟩)
    (g : s.heap.get? a = some { cls := .type "list", data := .seq items n }) (hm : ∀ h', TKeep s.heap h' → All2 (VMatch h') ws (f items).toList) :
    SRel W X l (σ.set a ⟨r, .list ws⟩) { s with heap := s.heap.update a (Obj.mapSeq f) } ∧ Stp X σ s (σ.set a ⟨r, .list ws⟩) { s with heap := s.heap.update a (Obj.mapSeq f) } := by
  obtain ⟨k, e⟩ := mapSeq_any items n f
  refine R.setObj (tk := s.toks) (b := .list ws) (r := r) h notInst_list notInst_list (Heap.SameBut.update _ _ _) fun kt => ⟨f items, ⟨k, ?_⟩, hm _ kt⟩
  rw [Heap.get?_update_self _ g (by rw [e]; rfl), e]

theorem eraseIf_toList (xs : Array Value) (i : Nat) : (xs.eraseIdxIfInBounds i).toList = xs.toList.eraseIdx i := by
  obtain ⟨l⟩ := xs
  simp

theorem call_pop {a : Addr} {r : Nat} {vs : List MVal} (h : σ a = some ⟨r, .list (vs ++ [v])⟩) (hz : vs.length < 16777216) (q : Q v (σ.set a ⟨r, .list vs⟩)) :
    OpC W X l σ (.builtin "list.pop") [.ref a] Q := by
  rintro ok s rargs R m
  obtain ⟨items, n, g, ma⟩ := R.list h
  match rargs, m with
  | [ra], ⟨e1, _⟩ =>
    obtain rfl : ra = .ref a := e1
    have sz := size_of ma
    rw [List.length_append, List.length_singleton] at sz
    obtain ⟨rv, hrv, mv⟩ := ma.get (i := vs.length) (a := v) (by simp)
    refine call_meets F.slot_list_pop ⟨_, g, rfl⟩ F.entry_list_pop (F.args_list_pop_1 _) (MeetsSeq.list_pop_last a items n rv (by rw [← Array.getElem?_toList, sz, Nat.add_sub_cancel]; exact hrv) (by rw [sz, lineIs]; omega)) ⟨g, ?_⟩
    obtain ⟨R', S'⟩ := upd_list (ws := vs) (f := fun xs => xs.eraseIdxIfInBounds (items.size - 1)) R h g fun h' kt => by
      rw [eraseIf_toList, sz, Nat.add_sub_cancel]
      have := (ma.vkeep kt).erase vs.length
      rwa [List.eraseIdx_append_of_length_le (Nat.le_refl _), Nat.sub_self, List.eraseIdx_cons_zero, List.append_nil] at this
    exact .here (mv.step R S') R' S' q
  | [], x => exact x.elim
  | _ :: _ :: _, x => exact x.2.elim
theorem call_pop0 {a : Addr} {r : Nat} {vs : List MVal} (h : σ a = some ⟨r, .list (v :: vs)⟩) (hz : vs.length < 16777216) (q : Q v (σ.set a ⟨r, .list vs⟩)) :
    OpC W X l σ (.builtin "list.pop") [.ref a, .int 0] Q := by
  rintro ok s rargs R m
  obtain ⟨items, n, g, ma⟩ := R.list h
  match rargs, m with
  | [ra, ri], ⟨e1, ⟨t, e2⟩, _⟩ =>
    obtain rfl : ra = .ref a := e1
    subst e2
    have sz := size_of ma
    rw [List.length_cons] at sz
    obtain ⟨rv, hrv, mv⟩ := ma.get (i := 0) (a := v) (by simp)
    refine call_meets F.slot_list_pop ⟨_, g, rfl⟩ F.entry_list_pop (F.args_list_pop_2 _ _) (MeetsSeq.list_pop_at a items n 0 t 0 rv (fitsIndex_of (by decide) (by decide)) (seqIndex_of (by decide) (by omega)) (by rw [← Array.getElem?_toList]; exact hrv) (by rw [sz, lineIs]; omega)) ⟨g, ?_⟩
    obtain ⟨R', S'⟩ := upd_list (ws := vs) (f := fun xs => xs.eraseIdxIfInBounds 0) R h g fun h' kt => by
      rw [eraseIf_toList]
      have := (ma.vkeep kt).erase 0
      rwa [List.eraseIdx_cons_zero] at this
    exact .here (mv.step R S') R' S' q
  | [], x => exact x.elim
  | [_], x => exact x.2.elim
  | _ :: _ :: _ :: _, x => exact x.2.2.elim

theorem call_len {a : Addr} {r : Nat} {vs : List MVal} (h : σ a = some ⟨r, .list vs⟩) (hz : vs.length ≤ 16777216) (q : Q (.int vs.length) σ) : OpC W X l σ (.builtin "len") [.ref a] Q := by
  rintro ok s rargs R m
  obtain ⟨items, n, g, ma⟩ := R.list h
  match rargs, m with
  | [ra], ⟨e1, _⟩ =>
    obtain rfl : ra = .ref a := e1
    have sz := size_of ma
    obtain ⟨R', S'⟩ := R.toks (s.toks + 1 + 1)
    refine len_list (items := items) ⟨_, g, rfl, n, rfl⟩ (by rw [sz]; omega) (.here (v := .int vs.length) ⟨s.toks + 1, by rw [sz]⟩ R' S' q)
  | [], x => exact x.elim
  | _ :: _ :: _, x => exact x.2.elim
end
end

section
section
variable {W : Wd} {X : Cx} {l : Lcl} {σ σ₁ : Store} {s s₁ : Shared} {e e₁ e₂ : Expr} {es : List Expr} {a b v : MVal} {Q Q' : MVal → Store → Prop} {pos apos : Pos}

theorem heap_none (h : Heap) : h.get? h.objs.size = none := by
  cases e : h.get? h.objs.size with
  | none => rfl
  | some o => exact absurd (Heap.lt_size e) (Nat.lt_irrefl _)
theorem low_modules (ok : Ok W X) (R : SRel W X l σ s) : (s.heap.objs.size == sysModules) = false := by
  obtain ⟨m, F⟩ := R.ground ok
  exact F.notModules (modules_low ok.top.nolimit)

/-- a new list of given values -/
theorem newList_here {rvs : List Value} {vs : List MVal} (r : Nat) (R : SRel W X l σ s) (m : All2 (VMatch s.heap) vs rvs) (hz : vs.length ≤ 16777216)
    (q : ∀ a, σ a = none → Q (.ref a) (σ.set a ⟨r, .list vs⟩)) : wpAny W.M X.A (newList rvs) (PostE W X l σ s Q) NoE s := by
  refine wpAny_newObj_type ?_ (by show rvs.toArray.size ≤ sizeLine; rw [List.size_toArray, ← m.len, lineIs]; exact hz)
  have hn := heap_none s.heap
  obtain ⟨R', S'⟩ := R.alloc (h' := s.heap.push { cls := .type "list", data := .seq rvs.toArray }) (r := r) (b := .list vs) (tk := s.toks) hn notInst_list (fun c o e => Heap.get?_push_of_some _ e)
    fun kt => ⟨rvs.toArray, ⟨0, Heap.get?_push_size _ rfl⟩, m.vkeep kt⟩
  exact .here (v := .ref _) rfl R' S' (q _ (R.fresh hn).2.1)

inductive NewL (r : Nat) (Q : MVal → Store → Prop) (vs : List MVal) (σ : Store) : Prop
  | mk (h : vs.length ≤ 16777216) (k : ∀ a, σ a = none → Q (.ref a) (σ.set a ⟨r, .list vs⟩)) : NewL r Q vs σ
inductive NewT (Q : MVal → Store → Prop) (vs : List MVal) (σ : Store) : Prop
  | mk (xs : List Atom) (h : vs = xs.map Atom.val) (k : xs.length ≤ 1000) (q : Q (.tup xs) σ) : NewT Q vs σ
inductive IsB (Q : Bool → Store → Prop) (v : MVal) (σ : Store) : Prop
  | mk (c : Bool) (h : v = .bool c) (q : Q c σ) : IsB Q v σ
theorem ev_list (r : Nat) (h : EvA W X l σ es (NewL r Q)) (hp : backTo pos (starEach es X.env) = plainArgs es X.env := by rfl) :
    Ev W X l σ (.List es pos) Q := by
  intro ok s R
  refine List_ ?_
  rw [hp]
  refine wpAny_mono (h ok s R) ?_ fun _ _ x => x
  intro rvs s1 hhh
  refine gw fun G hG => ?_
  obtain ⟨vs, σ1, m, R1, S1, hz, q⟩ := hhh
  refine hG ?_
  refine wpAny_mono (newList_here r R1 m hz q) (fun _ _ p => p.trans S1 R1) fun _ _ x => x

theorem ev_tup (h : EvA W X l σ es (NewT Q)) (hp : backTo pos (starEach es X.env) = plainArgs es X.env := by rfl) {k : Nat} :
    Ev W X l σ (.Tuple es k pos) Q := by
  intro ok s R
  refine Tuple_ ?_
  rw [hp]
  refine wpAny_mono (h ok s R) ?_ fun _ _ x => x
  intro rvs s1 hhh
  refine gw fun G hG => ?_
  obtain ⟨vs, σ1, m, R1, S1, xs, rfl, hz, q⟩ := hhh
  refine hG ?_
  have hlen := m.len
  rw [List.length_map] at hlen
  refine wpAny_newObj_type ?_ (by show rvs.toArray.size ≤ sizeLine; rw [List.size_toArray, ← hlen, lineIs]; omega)
  obtain ⟨R2, S2⟩ := R1.ext (h' := s1.heap.push { cls := .type "tuple", data := .seq rvs.toArray }) (tk := s1.toks) fun c o e => Heap.get?_push_of_some _ e
  refine PostE.trans S1 R1 (.here (v := .tup xs) ⟨_, rvs.toArray, rfl, ⟨_, Heap.get?_push_size _ rfl, rfl, 0, rfl⟩, ?_⟩ R2 S2 q)
  have : ∀ {xs : List Atom} {rvs : List Value}, All2 (VMatch s1.heap) (xs.map Atom.val) rvs → All2 AMatch xs rvs := by
    intro xs
    induction xs with
    | nil => intro rvs m; cases rvs with | nil => trivial | cons _ _ => exact m.elim
    | cons x r ih =>
      intro rvs m
      cases rvs with
      | nil => exact m.elim
      | cons y t => exact ⟨by cases x <;> exact m.1, ih m.2⟩
  exact this m

theorem ev_dict0I (r : Nat) (q : ∀ a, σ a = none → Q (.ref a) (σ.set a ⟨r, .dI []⟩)) : Ev W X l σ (.Dict [] [] pos) Q := by
  intro ok s R
  refine wpAny_Dict_empty ?_
  have hn := heap_none s.heap
  obtain ⟨R', S'⟩ := R.alloc (h' := s.heap.push { cls := .type "dict", data := .dict #[] }) (r := r) (b := .dI []) (tk := s.toks) hn notInst_dI (fun c o e => Heap.get?_push_of_some _ e)
    fun kt => ⟨low_modules ok R, [], Heap.DictOf.new _, trivial⟩
  exact .here (v := .ref _) rfl R' S' (q _ (R.fresh hn).2.1)

theorem op_listadd {x y : Addr} {r q : Nat} {vs ws : List MVal} (t : Nat) (hx : σ x = some ⟨r, .list vs⟩) (hy : σ y = some ⟨q, .list ws⟩) (hz : vs.length + ws.length ≤ 16777216)
    (h : ∀ a, σ a = none → Q (.ref a) (σ.set a ⟨t, .list (vs ++ ws)⟩)) : Op2 W X l σ (binaryOp .Add) (.ref x) (.ref y) Q := by
  rintro ok s _ _ R rfl rfl
  obtain ⟨i1, n1, g1, m1⟩ := R.list hx
  obtain ⟨i2, n2, g2, m2⟩ := R.list hy
  refine P.add_list g1 g2 ?_ (by rw [size_of m1, size_of m2, lineIs]; exact hz)
  have hn := heap_none s.heap
  obtain ⟨R', S'⟩ := R.alloc (h' := s.heap.push { cls := .type "list", data := .seq (i1 ++ i2) }) (r := t) (b := .list (vs ++ ws)) (tk := s.toks) hn notInst_list (fun c o e => Heap.get?_push_of_some _ e)
    fun kt => ⟨_, ⟨0, Heap.get?_push_size _ rfl⟩, by rw [Array.toList_append]; exact (m1.vkeep kt).append (m2.vkeep kt)⟩
  exact .here (v := .ref _) rfl R' S' (h _ (R.fresh hn).2.1)

/-! ### subscripts -/
theorem ev_sub (h : Ev W X l σ e₁ fun a σ₁ => Ev W X l σ₁ e₂ fun b σ₂ => Op2 W X l σ₂ (subscriptTail e₁ e₂) a b Q) : Ev W X l σ (.Subscript e₁ e₂ pos) Q := by
  intro ok s R
  refine Subscript_ (wpAny_mono (h ok s R) ?_ fun _ _ x => x)
  intro ra s1 hhh
  refine gw fun G hG => ?_
  obtain ⟨a, σ1, ma, R1, S1, h2⟩ := hhh
  refine hG ?_
  refine wpAny_mono (h2 ok s1 R1) ?_ fun _ _ x => x
  intro rb s2 hhh
  refine gw fun G hG => ?_
  obtain ⟨b, σ2, mb, R2, S2, h3⟩ := hhh
  refine hG ?_
  refine wpAny_mono (h3 ok s2 ra rb R2 (ma.step R1 S2) mb) ?_ fun _ _ x => x
  intro rc s3 p
  exact (p.trans S2 R2).trans S1 R1
theorem pe_sub (h1 : PE W X l σ e₁ a) (h2 : PE W X l σ e₂ b) (h3 : PO2 W X l σ (subscriptTail e₁ e₂) a b v) : PE W X l σ (.Subscript e₁ e₂ pos) v := ⟨ev_sub (ev_pe h1 (ev_pe h2 h3.op))⟩

theorem po_idx {x : Addr} {r : Nat} {vs : List MVal} {k : Int} {ve se : Expr} (hx : σ x = some ⟨r, .list vs⟩) (h0 : 0 ≤ k) (hv : vs[k.toNat]? = some v) (hz : k < 2 ^ 63)
    (hs : ∀ u, subscripted se false (.ref x) (.int k u) = operate [.ref x, .int k u] (getItem (.ref x) (.int k u)) := by intro _; with_unfolding_all rfl) :
    PO2 W X l σ (subscriptTail ve se) (.ref x) (.int k) v := by
  constructor
  rintro ok s _ _ R rfl ⟨t, rfl⟩
  obtain ⟨i1, n1, g1, m1⟩ := R.list hx
  obtain ⟨rv, e, mv⟩ := m1.get hv
  have hl : s.heap.IsList x i1 := ⟨_, g1, rfl, n1, rfl⟩
  exact tail_any hl.typeIs slot_list_getitem.lookup (wpAny_getItem_list hl h0 hz (by rw [← Array.getElem?_toList]; exact e) (.pe v mv R .refl)) (hs t)
theorem po_tup {xs : List Atom} {k : Nat} {x : Atom} {ve se : Expr} (hx : xs[k]? = some x) (hk : k < 1000)
    (hs : ∀ y u, subscripted se false (.ref y) (.int k u) = operate [.ref y, .int k u] (getItem (.ref y) (.int k u)) := by intro _ _; with_unfolding_all rfl) :
    PO2 W X l σ (subscriptTail ve se) (.tup xs) (.int k) x.val := by
  constructor
  rintro ok s _ _ R ⟨y, items, rfl, ht, mx⟩ ⟨t, rfl⟩
  obtain ⟨rv, e, mv⟩ := mx.get hx
  have hlt : k < items.size := by
    have := List.getElem?_eq_some_iff.mp e
    obtain ⟨h, _⟩ := this
    simpa using h
  exact tail_any ht.typeIs slot_tuple_getitem.lookup (PyProof.Rows.getItem_tuple ht (by omega) (by omega) (seqIndex_of (by omega) (by omega)) (by rw [← Array.getElem?_toList]; exact e) (.pe x.val mv.val R .refl)) (hs y t)
theorem po_dget {x : Addr} {r : Nat} {kvs : List (Int × MVal)} {k : Int} {ve se : Expr} (hx : σ x = some ⟨r, .dI kvs⟩) (hv : dget kvs k = some v)
    (hs : ∀ u, subscripted se false (.ref x) (.int k u) = operate [.ref x, .int k u] (getItem (.ref x) (.int k u)) := by intro _; with_unfolding_all rfl) :
    PO2 W X l σ (subscriptTail ve se) (.ref x) (.int k) v := by
  constructor
  rintro ok s _ _ R rfl ⟨t, rfl⟩
  obtain ⟨lo, rk, hd, m1⟩ := R.om x _ hx
  have hg := dget_valueAt m1 k
  rw [hv] at hg
  obtain ⟨rv, e, mv⟩ := hg
  obtain ⟨R', S'⟩ := R.toks (s.toks + 1)
  exact tail_any hd.typeIs slot_dict_getitem.lookup (wpAny_getItem_of (intKind_is _ _ k t) hd.mapOf e (.pe v mv R' S')) (hs t)
/-- w['key'] -/
theorem ev_key {key : Str} {k : Nat} {kp : Pos} (h : Ev W X l σ e₁ fun a σ₁ => ∃ x r kvs v, a = .ref x ∧ σ₁ x = some ⟨r, .dS kvs⟩ ∧ dget kvs key = some v ∧ Q v σ₁)
    (hs : ∀ x u, subscripted (.Constant (.str key) k kp) false (.ref x) (.str key u) = operate [.ref x, .str key u] (getItem (.ref x) (.str key u)) := by intro _ _; with_unfolding_all rfl) :
    Ev W X l σ (.Subscript e₁ (.Constant (.str key) k kp) pos) Q := by
  intro ok s R
  refine Subscript_ (wpAny_mono (h ok s R) ?_ fun _ _ x => x)
  intro ra s1 hhh
  refine gw fun G hG => ?_
  obtain ⟨a, σ1, ma, R1, S1, x, r, kvs, v, rfl, hx, hv, q⟩ := hhh
  refine hG ?_
  obtain rfl : ra = .ref x := ma
  refine Calls.Constant_str ?_
  obtain ⟨lo, rk, hd, m1⟩ := R1.om x _ hx
  have hg := dget_valueAt m1 key
  rw [hv] at hg
  obtain ⟨rv, e, mv⟩ := hg
  obtain ⟨R', S'⟩ := R1.toks (s1.toks + 1 + 1)
  exact tail_any hd.typeIs slot_dict_getitem.lookup (wpAny_getItem_of (s := { s1 with toks := s1.toks + 1 }) (strKind_is _ _ key _) hd.mapOf e (PostE.trans S1 R1 (.here mv R' S' q))) (hs x _)
theorem pe_key {key : Str} {k : Nat} {kp : Pos} {x r kvs} (h : PE W X l σ e₁ (.ref x)) (hx : σ x = some ⟨r, .dS kvs⟩) (hv : dget kvs key = some v)
    (hs : ∀ x u, subscripted (.Constant (.str key) k kp) false (.ref x) (.str key u) = operate [.ref x, .str key u] (getItem (.ref x) (.str key u)) := by intro _ _; with_unfolding_all rfl) :
    PE W X l σ (.Subscript e₁ (.Constant (.str key) k kp) pos) v := ⟨ev_key (ev_pe h ⟨x, r, kvs, v, rfl, hx, hv, rfl, rfl⟩) hs⟩

/-! ### in, not in -/
theorem ints_are {h : Heap} : ∀ {ns : List Int} {rvs : List Value}, All2 (VMatch h) (ns.map .int) rvs → IntsAre rvs ns
  | [], [], _ => .nil
  | _ :: _, _ :: _, ⟨⟨_, e⟩, m⟩ => by subst e; exact .cons _ _ (ints_are m)
  | [], _ :: _, x => x.elim
  | _ :: _, [], x => x.elim
theorem po_in {x : Addr} {r : Nat} {ns : List Int} {k : Int} (hx : σ x = some ⟨r, .list (ns.map .int)⟩) : PO2 W X l σ (compareOp .In) (.int k) (.ref x) (.bool (decide (k ∈ ns))) := by
  constructor
  rintro ok s _ _ R ⟨t, rfl⟩ rfl
  obtain ⟨i1, n1, g1, m1⟩ := R.list hx
  refine in_list_ints (vs := i1.toList) ⟨_, g1, rfl, n1, rfl⟩ (ints_are m1) (.pe (.bool _) ?_ R .refl)
  show Value.bool _ = Value.bool _
  congr 1
  rw [Bool.eq_iff_iff]; simp [List.any_eq_true]
theorem po_notin {x : Addr} {r : Nat} {ns : List Int} {k : Int} (hx : σ x = some ⟨r, .list (ns.map .int)⟩) : PO2 W X l σ (compareOp .NotIn) (.int k) (.ref x) (.bool (decide (k ∉ ns))) := by
  constructor
  rintro ok s _ _ R ⟨t, rfl⟩ rfl
  obtain ⟨i1, n1, g1, m1⟩ := R.list hx
  refine notin_list_ints (vs := i1.toList) ⟨_, g1, rfl, n1, rfl⟩ (ints_are m1) (.pe (.bool _) ?_ R .refl)
  show Value.bool _ = Value.bool _
  congr 1
  rw [Bool.eq_iff_iff]; simp only [Bool.not_eq_true', List.any_eq_false, beq_iff_eq, decide_eq_true_eq]
  exact ⟨fun h q => h k q rfl, fun h x q e => h (e ▸ q)⟩
theorem isSome_of {h : Heap} {kvs : List (Int × MVal)} {rk : List (Int × Value)} {k : Int} (m : All2 (KV h) kvs rk) : (valueAt rk k).isSome = (dget kvs k).isSome := by
  have := dget_valueAt m k
  cases e : dget kvs k with
  | none => rw [e] at this; rw [this]; rfl
  | some v => rw [e] at this; obtain ⟨rv, e', _⟩ := this; rw [e']; rfl
theorem po_ind {x : Addr} {r : Nat} {kvs : List (Int × MVal)} {k : Int} (hx : σ x = some ⟨r, .dI kvs⟩) : PO2 W X l σ (compareOp .In) (.int k) (.ref x) (.bool (dget kvs k).isSome) := by
  constructor
  rintro ok s _ _ R ⟨t, rfl⟩ rfl
  obtain ⟨lo, rk, hd, m1⟩ := R.om x _ hx
  obtain ⟨R', S'⟩ := R.toks (s.toks + 1)
  exact wpAny_in_of (intKind_is _ _ k t) lo hd.mapOf (.pe (.bool _) (by rw [isSome_of m1]; rfl) R' S')
theorem po_notind {x : Addr} {r : Nat} {kvs : List (Int × MVal)} {k : Int} (hx : σ x = some ⟨r, .dI kvs⟩) : PO2 W X l σ (compareOp .NotIn) (.int k) (.ref x) (.bool (!(dget kvs k).isSome)) := by
  constructor
  rintro ok s _ _ R ⟨t, rfl⟩ rfl
  obtain ⟨lo, rk, hd, m1⟩ := R.om x _ hx
  obtain ⟨R', S'⟩ := R.toks (s.toks + 1)
  exact wpAny_notIn_of (intKind_is _ _ k t) lo hd.mapOf (.pe (.bool _) (by rw [isSome_of m1]; rfl) R' S')
theorem call_get1 {x : Addr} {r : Nat} {kvs : List (Int × MVal)} {k : Int} (hx : σ x = some ⟨r, .dI kvs⟩) (q : Q ((dget kvs k).getD .none) σ) : OpC W X l σ (.builtin "dict.get") [.ref x, .int k] Q := by
  rintro ok s rargs R m
  match rargs, m with
  | [ra, ri], ⟨e1, ⟨t, e2⟩, _⟩ =>
    obtain rfl : ra = .ref x := e1
    subst e2
    obtain ⟨lo, rk, hd, m1⟩ := R.om x _ hx
    obtain ⟨R', S'⟩ := R.toks (s.toks + 1)
    have hg := dget_valueAt m1 k
    refine call_meetsIn F.slot_dict_get hd.typeIs F.entry_dict_get (F.args_dict_get_2 _ _) (meets_dict_get _ x (intKind_is _ _ k t) lo) ⟨_, hd.mapOf, ?_⟩
    cases e : dget kvs k with
    | none => rw [e] at hg q; exact .here (v := .none) (by rw [hg]; rfl) R' S' q
    | some v => rw [e] at hg q; obtain ⟨rv, e', mv⟩ := hg; exact .here (v := v) (by rw [e']; exact mv) R' S' q
  | [], x => exact x.elim
  | [_], x => exact x.2.elim
  | _ :: _ :: _ :: _, x => exact x.2.2.elim
theorem call_get2 {x : Addr} {r : Nat} {kvs : List (Int × MVal)} {k : Int} {d : MVal} (hx : σ x = some ⟨r, .dI kvs⟩) (q : Q ((dget kvs k).getD d) σ) : OpC W X l σ (.builtin "dict.get") [.ref x, .int k, d] Q := by
  rintro ok s rargs R m
  match rargs, m with
  | [ra, ri, rd], ⟨e1, ⟨t, e2⟩, md, _⟩ =>
    obtain rfl : ra = .ref x := e1
    subst e2
    obtain ⟨lo, rk, hd, m1⟩ := R.om x _ hx
    obtain ⟨R', S'⟩ := R.toks (s.toks + 1)
    have hg := dget_valueAt m1 k
    refine call_meetsIn F.slot_dict_get hd.typeIs F.entry_dict_get (F.args_dict_get_3 _ _ _) (meets_dict_get_default _ x (intKind_is _ _ k t) lo rd) ⟨_, hd.mapOf, ?_⟩
    cases e : dget kvs k with
    | none => rw [e] at hg q; exact .here (v := d) (by rw [hg]; exact md) R' S' q
    | some v => rw [e] at hg q; obtain ⟨rv, e', mv⟩ := hg; exact .here (v := v) (by rw [e']; exact mv) R' S' q
  | [], x => exact x.elim
  | [_], x => exact x.2.elim
  | [_, _], x => exact x.2.2.elim
  | _ :: _ :: _ :: _ :: _, x => exact x.2.2.2.elim

/-! ### tests -/
theorem Te.mono {Q Q' : Bool → Store → Prop} (h : Te W X l σ e Q) (k : ∀ v σ', Q v σ' → Q' v σ') : Te W X l σ e Q' := fun ok s R =>
  wpAny_mono (h ok s R) (fun _ _ ⟨σ', R', S, q⟩ => ⟨σ', R', S, k _ _ q⟩) fun _ _ x => x
theorem te_not {Q : Bool → Store → Prop} (h : Te W X l σ e fun c σ₁ => Q (!c) σ₁) : Te W X l σ (.UnaryOp .Not e pos) Q := fun ok s R => isTrue_not (h ok s R)
theorem te_and0 {Q : Bool → Store → Prop} (h : Q true σ) : Te W X l σ (.BoolOp .And [] pos) Q := fun _ s R => isTrue_and_nil ⟨σ, R, .refl, h⟩
theorem te_or0 {Q : Bool → Store → Prop} (h : Q false σ) : Te W X l σ (.BoolOp .Or [] pos) Q := fun _ s R => isTrue_or_nil ⟨σ, R, .refl, h⟩
theorem te_and {Q : Bool → Store → Prop} (h : Te W X l σ e fun c σ₁ => if c then Te W X l σ₁ (.BoolOp .And es pos) Q else Q false σ₁) : Te W X l σ (.BoolOp .And (e :: es) pos) Q := by
  intro ok s R
  refine isTrue_and (wpAny_mono (h ok s R) ?_ fun _ _ x => x)
  intro c s1 hhh
  refine gw fun G hG => ?_
  obtain ⟨σ1, R1, S1, q⟩ := hhh
  refine hG ?_
  cases c with
  | false => exact ⟨σ1, R1, S1, q⟩
  | true => exact wpAny_mono (q ok s1 R1) (fun _ _ p => p.trans S1 R1) fun _ _ x => x
theorem te_or {Q : Bool → Store → Prop} (h : Te W X l σ e fun c σ₁ => if c then Q true σ₁ else Te W X l σ₁ (.BoolOp .Or es pos) Q) : Te W X l σ (.BoolOp .Or (e :: es) pos) Q := by
  intro ok s R
  refine isTrue_or (wpAny_mono (h ok s R) ?_ fun _ _ x => x)
  intro c s1 hhh
  refine gw fun G hG => ?_
  obtain ⟨σ1, R1, S1, q⟩ := hhh
  refine hG ?_
  cases c with
  | true => exact ⟨σ1, R1, S1, q⟩
  | false => exact wpAny_mono (q ok s1 R1) (fun _ _ p => p.trans S1 R1) fun _ _ x => x
theorem te_cmp {Q : Bool → Store → Prop} {op : CmpOp} (h : Ev W X l σ e₁ fun a σ₁ => Ev W X l σ₁ e₂ fun b σ₂ => Op2 W X l σ₂ (compareOp op) a b (IsB Q))
    (hm : behindInMarks op e₂ = false := by with_unfolding_all rfl) : Te W X l σ (.Compare e₁ [op] [e₂] pos) Q := by
  intro ok s R
  refine wpAny_isTrue_Compare1 (wpAny_mono (h ok s R) ?_ fun _ _ x => x) hm
  intro ra s1 hhh
  refine gw fun G hG => ?_
  obtain ⟨a, σ1, ma, R1, S1, h2⟩ := hhh
  refine hG ?_
  refine wpAny_mono (h2 ok s1 R1) ?_ fun _ _ x => x
  intro rb s2 hhh
  refine gw fun G hG => ?_
  obtain ⟨b, σ2, mb, R2, S2, h3⟩ := hhh
  refine hG ?_
  refine wpAny_mono (h3 ok s2 ra rb R2 (ma.step R1 S2) mb) ?_ fun _ _ x => x
  intro rc s3 hhh
  refine gw fun G hG => ?_
  obtain ⟨v, σ3, mv, R3, S3, c, rfl, q⟩ := hhh
  refine hG ?_
  obtain rfl : rc = .bool c := mv
  exact wpAny_truthy_bool ⟨σ3, R3, S1.trans R1 (S2.trans R2 S3), q⟩
theorem te_val {Q : Bool → Store → Prop} (h : Ev W X l σ e (IsB Q)) (he : ∀ whole, isTrue e X.env whole = (do let v ← whole; standAt e.pos; holding [v] (truthy v)) := by intro _; rfl) : Te W X l σ e Q := by
  intro ok s R
  refine isTrue_plain (wpAny_mono (h ok s R) ?_ fun _ _ x => x) (he _)
  intro rc s3 hhh
  refine gw fun G hG => ?_
  obtain ⟨v, σ3, mv, R3, S3, c, rfl, q⟩ := hhh
  refine hG ?_
  obtain rfl : rc = .bool c := mv
  exact wpAny_truthy_bool ⟨σ3, R3, S3, q⟩
/-- a test with this answer that turns nothing -/
structure PT (W : Wd) (X : Cx) (l : Lcl) (σ : Store) (e : Expr) (c : Bool) : Prop where
  te : Te W X l σ e fun c' σ' => c' = c ∧ σ' = σ
theorem te_pt {Q : Bool → Store → Prop} {c : Bool} (h : PT W X l σ e c) (q : Q c σ) : Te W X l σ e Q := Te.mono h.te fun _ _ ⟨e1, e2⟩ => e1 ▸ e2 ▸ q
theorem pt_cmp {op : CmpOp} {c : Bool} (h1 : PE W X l σ e₁ a) (h2 : PE W X l σ e₂ b) (h3 : PO2 W X l σ (compareOp op) a b (.bool c)) (hm : behindInMarks op e₂ = false := by with_unfolding_all rfl) :
    PT W X l σ (.Compare e₁ [op] [e₂] pos) c := ⟨te_cmp (ev_pe h1 (ev_pe h2 (op2_po h3 ⟨c, rfl, rfl, rfl⟩))) hm⟩
theorem pt_not {c : Bool} (h : PT W X l σ e c) : PT W X l σ (.UnaryOp .Not e pos) (!c) := ⟨te_not (te_pt h ⟨rfl, rfl⟩)⟩
theorem pt_and0 : PT W X l σ (.BoolOp .And [] pos) true := ⟨te_and0 ⟨rfl, rfl⟩⟩
theorem pt_or0 : PT W X l σ (.BoolOp .Or [] pos) false := ⟨te_or0 ⟨rfl, rfl⟩⟩
theorem pt_and {c d : Bool} (h : PT W X l σ e c) (h2 : c = true → PT W X l σ (.BoolOp .And es pos) d) : PT W X l σ (.BoolOp .And (e :: es) pos) (c && d) := ⟨te_and (te_pt h (by
  cases c with
  | true => simpa using (h2 rfl).te
  | false => exact ⟨rfl, rfl⟩))⟩
theorem pt_or {c d : Bool} (h : PT W X l σ e c) (h2 : c = false → PT W X l σ (.BoolOp .Or es pos) d) : PT W X l σ (.BoolOp .Or (e :: es) pos) (c || d) := ⟨te_or (te_pt h (by
  cases c with
  | false => simpa using (h2 rfl).te
  | true => exact ⟨rfl, rfl⟩))⟩
theorem pt_val {c : Bool} (h : PE W X l σ e (.bool c)) (he : ∀ whole, isTrue e X.env whole = (do let v ← whole; standAt e.pos; holding [v] (truthy v)) := by intro _; rfl) : PT W X l σ e c := ⟨te_val (ev_pe h ⟨c, rfl, rfl, rfl⟩) he⟩

/-! ### and, or as values -/
theorem ev_and1 (h : Ev W X l σ e Q) : Ev W X l σ (.BoolOp .And [e] pos) Q := fun ok s R => BoolOp_one (h ok s R)
theorem ev_and (h : Ev W X l σ e₁ fun v σ₁ => ∃ c, v = .bool c ∧ if c then Ev W X l σ₁ (.BoolOp .And (e₂ :: es) pos) Q else Q (.bool false) σ₁) : Ev W X l σ (.BoolOp .And (e₁ :: e₂ :: es) pos) Q := by
  intro ok s R
  refine BoolOp_and (wpAny_mono (h ok s R) ?_ fun _ _ x => x)
  intro rc s1 hhh
  refine gw fun G hG => ?_
  obtain ⟨v, σ1, mv, R1, S1, c, rfl, q⟩ := hhh
  refine hG ?_
  obtain rfl : rc = .bool c := mv
  refine wpAny_truthy_bool ?_
  cases c with
  | false => exact .here (v := .bool false) rfl R1 S1 q
  | true => exact wpAny_mono (q ok s1 R1) (fun _ _ p => p.trans S1 R1) fun _ _ x => x
theorem pe_and1 (h : PE W X l σ e v) : PE W X l σ (.BoolOp .And [e] pos) v := ⟨ev_and1 h.ev⟩
theorem pe_and {c d : Bool} (h : PE W X l σ e₁ (.bool c)) (h2 : c = true → PE W X l σ (.BoolOp .And (e₂ :: es) pos) (.bool d)) : PE W X l σ (.BoolOp .And (e₁ :: e₂ :: es) pos) (.bool (c && d)) := ⟨ev_and (ev_pe h ⟨c, rfl, by
    cases c with
    | true => simpa using (h2 rfl).ev
    | false => exact ⟨rfl, rfl⟩⟩)⟩
theorem ev_or1 (h : Ev W X l σ e Q) : Ev W X l σ (.BoolOp .Or [e] pos) Q := fun ok s R => BoolOp_one (h ok s R)
end
end

section
inductive Flw where
  | next
  | ret (v : MVal)
noncomputable def FM (h : Heap) : Flw → Flow → Prop
  | .next, f => f = .next
  | .ret v, f => ∃ rv, f = .ret rv ∧ VMatch h v rv

noncomputable def PostX (W : Wd) (X : Cx) (σ : Store) (s : Shared) (Q : Flw → Lcl → Store → Prop) (fl : Flow) (s' : Shared) : Prop :=
  ∃ f l' σ', FM s'.heap f fl ∧ SRel W X l' σ' s' ∧ Stp X σ s σ' s' ∧ Q f l' σ'
/-- statements -/
noncomputable def Ex (W : Wd) (X : Cx) (l : Lcl) (σ : Store) (st : List Stmt) (Q : Flw → Lcl → Store → Prop) : Prop :=
  Ok W X → ∀ s, SRel W X l σ s → wpAny W.M X.A (execs st X.env) (PostX W X σ s Q) NoE s
/-- less is known of the names -/
noncomputable def Lcl.le (l l' : Lcl) : Prop := ∀ x v, l x = some v → l' x = some v
/-- what is behind a block -/
noncomputable def Fin (Q : Flw → Lcl → Store → Prop) (N : Lcl → Store → Prop) : Flw → Lcl → Store → Prop
  | .next, l, σ => N l σ
  | .ret v, l, σ => Q (.ret v) l σ

section
variable {W : Wd} {X : Cx} {l l' : Lcl} {σ σ₁ : Store} {s s₁ : Shared} {e e₁ e₂ : Expr} {es : List Expr} {a b v : MVal} {Q Q' : Flw → Lcl → Store → Prop} {pos p' : Pos} {rest : List Stmt}

theorem SRel.weak (R : SRel W X l σ s) (h : Lcl.le l' l) : SRel W X l' σ s :=
  { R with loc := let ⟨m, hn, hm⟩ := R.loc; ⟨m, hn, fun x v e => hm x v (h x v e)⟩ }
theorem PostX.trans {s' : Shared} {fl : Flow} (S : Stp X σ s σ₁ s₁) (R : SRel W X l σ₁ s₁) (p : PostX W X σ₁ s₁ Q fl s') : PostX W X σ s Q fl s' :=
  let ⟨f, l', σ', m, R', S', q⟩ := p; ⟨f, l', σ', m, R', S.trans R S', q⟩
theorem Ex.mono {st : List Stmt} (h : Ex W X l σ st Q) (k : ∀ f l' σ', Q f l' σ' → Q' f l' σ') : Ex W X l σ st Q' := fun ok s R =>
  wpAny_mono (h ok s R) (fun _ _ ⟨f, l', σ', m, R', S, q⟩ => ⟨f, l', σ', m, R', S, k _ _ _ q⟩) fun _ _ x => x
theorem ex_weak {st : List Stmt} (h : Ex W X l' σ st Q) (le : Lcl.le l' l) : Ex W X l σ st Q := fun ok s R => h ok s (R.weak le)
theorem ex_nil (h : Q .next l σ) : Ex W X l σ [] Q := fun _ s R => wpAny_execs_nil ⟨.next, l, σ, rfl, R, .refl, h⟩

/-- a first statement that goes on with the next -/
theorem ex_step {st : Stmt} (h : Ok W X → ∀ s, SRel W X l σ s → wpAny W.M X.A (exec st X.env) (fun fl s' => fl = .next ∧ ∃ l' σ', SRel W X l' σ' s' ∧ Stp X σ s σ' s' ∧ Ex W X l' σ' rest Q) NoE s) : Ex W X l σ (st :: rest) Q := by
  intro ok s R
  refine wpAny_execs_cons (wpAny_mono (h ok s R) ?_ fun _ _ x => x)
  intro _ s1 hhh
  refine gw fun G hG => ?_
  obtain ⟨rfl, l1, σ1, R1, S1, h2⟩ := hhh
  refine hG ?_
  exact wpAny_mono (h2 ok s1 R1) (fun _ _ p => p.trans S1 R1) fun _ _ x => x

theorem Ok.hp (ok : Ok W X) : (X.env.scope.kind == .class || (X.env.scope.kind == .module && X.env.locals != X.env.globals)) = false := by rw [ok.ek]; rfl

theorem store_here {x : Str} {rv : Value} (ok : Ok W X) (R : SRel W X l σ s) (m : VMatch s.heap v rv) (hl : X.env.kindOf x = some .local) {Q : Unit → Shared → Prop}
    (q : ∀ s', SRel W X (upd l x v) σ s' → Stp X σ s σ s' → Q () s') : wpAny W.M X.A (storeName X.env x rv) Q NoE s := by
  obtain ⟨mm, hn, hm⟩ := R.loc
  refine wpAny_storeName_local hl hn (fun h' hn' hs' => ?_) ok.hp
  obtain ⟨R', S'⟩ := R.setLoc (tk := s.toks + 1) hm hn' hs' m
  exact q _ R' S'

theorem ex_assign {x : Str} (h : Ev W X l σ e fun v σ₁ => Ex W X (upd l x v) σ₁ rest Q) (hl : X.env.kindOf x = some .local := by rfl)
    (hs : swapsWith e (some (.Name x p')) pos.line X.env = pure false := by rfl) : Ex W X l σ (.Assign [.Name x p'] e pos :: rest) Q := by
  refine ex_step fun ok s R => ?_
  refine wpAny_Assign_Name (wpAny_mono (h ok s R) ?_ fun _ _ x => x) hs
  intro rv s1 hhh
  refine gw fun G hG => ?_
  obtain ⟨v, σ1, mv, R1, S1, h2⟩ := hhh
  refine hG ?_
  exact store_here ok R1 mv hl fun s' R' S' => ⟨rfl, _, _, R', S1.trans R1 S', h2⟩

/-- a name that lies in a cell -/
theorem ex_assign_cell {x : Str} {c : Addr} (hc : X.env.cells.lookup x = some c) (h : Ev W X l σ e fun v σ₁ => ∃ r o, σ₁ c = some ⟨r, .cell o⟩ ∧ Ex W X l (σ₁.set c ⟨r, .cell (some v)⟩) rest Q) (hl : X.env.kindOf x = some .cell := by rfl)
    (hs : swapsWith e (some (.Name x p')) pos.line X.env = pure false := by rfl) : Ex W X l σ (.Assign [.Name x p'] e pos :: rest) Q := by
  refine ex_step fun ok s R => ?_
  refine wpAny_Assign_Name (wpAny_mono (h ok s R) ?_ fun _ _ x => x) hs
  intro rv s1 hhh
  refine gw fun G hG => ?_
  obtain ⟨v, σ1, mv, R1, S1, r, o, ho, h2⟩ := hhh
  refine hG ?_
  obtain ⟨ob, hob, hd⟩ := R1.om c _ ho
  have hd' : ∃ v₀, ob.data = .cell v₀ := by
    cases o with
    | none => exact ⟨_, hd⟩
    | some u => obtain ⟨ru, hd, _⟩ := hd; exact ⟨_, hd⟩
  obtain ⟨v₀, hd'⟩ := hd'
  refine wpAny_storeName_cell ok.ek hl hc ⟨ob, hob, hd'⟩ fun h' hv hs' => ?_
  obtain ⟨o', ho', hd''⟩ := hv
  obtain ⟨R', S'⟩ := R1.setObj (tk := s1.toks) (r := r) (b := .cell (some v)) ho notInst_cell notInst_cell hs' fun kt => ⟨o', ho', rv, hd'', mv.keep kt⟩
  exact ⟨rfl, _, _, R', S1.trans R1 S', h2⟩

/-! ### attributes -/
theorem strKeys_put {es : Array DictEntry} (sk : StrKeys es) (name : Str) (hash : Int) (t : Tok) (v : Value) {od : Obj} {n : Nat} (e : od.data = .dict es n) :
    ∃ es' n', (Obj.putName name hash (.str name t) v od).data = .dict es' n' ∧ StrKeys es' ∧ es'.size ≤ es.size + 1 ∧ ((nsFind es name).isSome = true → es'.size = es.size) ∧ ∀ x, nsFind es' x = if x = name then some v else nsFind es x := by
  obtain ⟨c, d, dt, sl⟩ := od
  dsimp only at e; subst e
  cases hi : es.findIdx? (·.key.isStr name) with
  | some i =>
    refine ⟨_, _, by simp only [Obj.putName_eq, Obj.putNameByArray, hi]; rfl, sk.modify _ _, by simp, fun _ => by simp, fun x => ?_⟩
    exact findBy_modify (fun n v => v.isStr n) Value.isStr_inj es name x v i hi
  | none =>
    refine ⟨_, _, by simp only [Obj.putName_eq, Obj.putNameByArray, hi]; rfl, sk.push _ _ _ _, by simp, fun h => ?_, fun x => ?_⟩
    · exfalso
      unfold nsFind findBy at h
      rw [Option.isSome_map, Array.find?_isSome] at h
      obtain ⟨en, h1, h2⟩ := h
      have := Array.findIdx?_eq_none_iff.mp hi en h1
      dsimp only at h2; rw [this] at h2; cases h2
    · exact findBy_push (fun n v => v.isStr n) es name x _ _ v (fun y => by
        show (name == y) = decide (y = name)
        by_cases h : y = name
        · subst h; simp
        · have : ¬ name = y := fun e => h e.symm
          simp [h, this]) hi

/-- an attribute is stored -/
theorem setAttr_here {x dx : Addr} {r nf : Nat} {C : Cls} {fs : Str → Option MVal} {name : Str} {rv : Value} (ok : Ok W X) (R : SRel W X l σ s) (hx : σ x = some ⟨r, .inst C dx nf fs⟩) (m : VMatch s.heap v rv) (ha : name ∈ C.attrs)
    (nf' : Nat) (hnf : (fs name).isSome = true ∧ nf' = nf ∨ nf' = nf + 1) (hz : nf ≤ 900) {Q : Unit → Shared → Prop}
    (q : ∀ s', SRel W X l (σ.set x ⟨r, .inst C dx nf' (upd fs name v)⟩) s' → Stp X σ s (σ.set x ⟨r, .inst C dx nf' (upd fs name v)⟩) s' → Q () s') : wpAny W.M X.A (setAttr (.ref x) name rv) Q NoE s := by
  obtain ⟨gx, es, n, gd, sk, sz, hf⟩ := R.om x _ hx
  obtain ⟨pg, hh, _, po, tk, sa⟩ := ok.k.attr C name ha
  have I : InstAt s.heap x (instObj (W.cls C) dx) (W.cls C) (some { cls := .type "dict", data := .dict es n }) := ⟨gx, rfl, rfl, gd⟩
  refine set_plain (R.kin ok) I sa ?_
  refine osa_open (s := { s with toks := s.toks + 1 }) (R.kin ok) I po tk fun b => ?_
  obtain ⟨cd, hc, hd'⟩ := any_some hh
  refine wpAny_bind (wpAny_pure (wpAny_bind (wpAny_bind (wpAny_loadPart gx (wpAny_bind (looks_clsIn (R.kin ok) hc _ _ _ _ (fun _ _ e => e) ?_))))))
  rw [hd']
  refine wpAny_pure (a := some dx) (wpAny_bind (wpAny_pure (wpAny_bind ?_)))
  unfold nsSet
  refine wpAny_bind (wpAny_bind (wpAny_askSetting (wpAny_pure (wpAny_bind (wpAny_mkText (wpAny_bind (wpAny_loadPart gd ?_)))))))
  have c : (!es.any (·.key.isStr name) && es.any (·.refKey)) = false := by
    have : es.any (·.refKey) = false := by
      rw [Array.any_eq_false']; intro e he; obtain ⟨n, t, h⟩ := sk e he; simp [DictEntry.refKey, h]
    rw [this, Bool.and_false]
  dsimp only
  rw [aRefKeyMayBeTheName_at, c]
  refine wpAny_updatePart gd ?_
  obtain ⟨es', n', hd2, sk', sz', szs, hfind⟩ := strKeys_put (od := { cls := .type "dict", data := .dict es n }) sk name (PyData.keyHash W.w.params name) (s.toks + 1) rv rfl
  have hput : Obj.putName name (PyData.keyHash W.w.params name) (.str name (s.toks + 1)) rv { cls := .type "dict", data := .dict es n } = { cls := .type "dict", data := .dict es' n' } := by
    have hc : ∀ o : Obj, (∃ es n, o.data = .dict es n) → ∃ dt, Obj.putName name (PyData.keyHash W.w.params name) (.str name (s.toks + 1)) rv o = { o with data := dt } := by
      rintro ⟨c, d, dt, sl⟩ ⟨es, n, h⟩
      dsimp only at h; subst h
      simp only [Obj.putName_eq, Obj.putNameByArray]
      split <;> exact ⟨_, rfl⟩
    obtain ⟨dt, e⟩ := hc { cls := .type "dict", data := .dict es n } ⟨es, n, rfl⟩
    rw [e] at hd2 ⊢
    dsimp only at hd2; subst hd2; rfl
  have hg : (s.heap.update dx (Obj.putName name (PyData.keyHash W.w.params name) (.str name (s.toks + 1)) rv)).get? dx = some { cls := .type "dict", data := .dict es' n' } := by
    rw [Heap.get?_update_self _ gd (by rw [hput]; rfl), hput]
  refine wpAny_bind (wpAny_lookBehind hg (pastItsLine_dict (by rw [lineIs]; omega)) ?_)
  have hnf' : es'.size ≤ nf' := by
    rcases hnf with ⟨h1, rfl⟩ | rfl
    · obtain ⟨u, hu⟩ := Option.isSome_iff_exists.mp h1
      obtain ⟨ru, e1, _⟩ := hf name u hu
      rw [szs (by rw [e1]; rfl)]; exact sz
    · omega
  obtain ⟨R', S'⟩ := R.setInst (tk := s.toks + 1 + 1) (nf' := nf') (fs' := upd fs name v) hx (Heap.SameBut.update _ _ _) fun kt =>
    ⟨by rw [Heap.get?_update_ne _ _ _ _ (fun q => by have := R.dj1 _ _ _ _ _ _ hx; rw [← q, hx] at this; cases this)]; exact gx, es', n', hg, sk', hnf', fun f u e => by
      rw [hfind]
      unfold upd at e
      split at e
      · rename_i q; subst q; cases e; exact ⟨rv, if_pos rfl, m.keep kt⟩
      · rename_i q; obtain ⟨ru, e1, e2⟩ := hf f u e; exact ⟨ru, by rw [if_neg q]; exact e1, e2.keep kt⟩⟩
  exact wpAny_pure (q _ R' S')

inductive AttrS (W : Wd) (X : Cx) (l : Lcl) (o : Expr) (name : Str) (rest : List Stmt) (Q : Flw → Lcl → Store → Prop) (v : MVal) (σ : Store) : Prop
  | mk (x : Addr) (r : Nat) (C : Cls) (dx : Addr) (nf : Nat) (fs : Str → Option MVal) (h1 : PE W X l σ o (.ref x)) (h2 : σ x = some ⟨r, .inst C dx nf fs⟩) (h3 : (fs name).isSome = true) (h4 : nf ≤ 900) (h5 : name ∈ C.attrs)
    (k : Ex W X l (σ.set x ⟨r, .inst C dx nf (upd fs name v)⟩) rest Q) : AttrS W X l o name rest Q v σ
inductive AttrN (W : Wd) (X : Cx) (l : Lcl) (o : Expr) (name : Str) (rest : List Stmt) (Q : Flw → Lcl → Store → Prop) (v : MVal) (σ : Store) : Prop
  | mk (x : Addr) (r : Nat) (C : Cls) (dx : Addr) (nf : Nat) (fs : Str → Option MVal) (h1 : PE W X l σ o (.ref x)) (h2 : σ x = some ⟨r, .inst C dx nf fs⟩) (h4 : nf ≤ 900) (h5 : name ∈ C.attrs)
    (k : Ex W X l (σ.set x ⟨r, .inst C dx (nf + 1) (upd fs name v)⟩) rest Q) : AttrN W X l o name rest Q v σ
theorem ex_attr {name : Str} {o : Expr} (h : Ev W X l σ e (AttrS W X l o name rest Q))
    (hs : swapsWith e (some (.Attribute o name p')) pos.line X.env = pure false := by rfl) : Ex W X l σ (.Assign [.Attribute o name p'] e pos :: rest) Q := by
  refine ex_step fun ok s R => ?_
  refine plainObj_wpAny_Assign_Attribute (wpAny_mono (h ok s R) ?_ fun _ _ x => x) hs
  intro rv s1 hhh
  refine gw fun G hG => ?_
  obtain ⟨v, σ1, mv, R1, S1, x, r, C, dx, nf, fs, ho, hx, hf, hz, ha, h2⟩ := hhh
  refine hG ?_
  refine wpAny_mono (ho.ev ok s1 R1) ?_ fun _ _ x => x
  intro ov s2 hhh
  refine gw fun G hG => ?_
  obtain ⟨_, _, mo, R2, S2, rfl, rfl⟩ := hhh
  refine hG ?_
  obtain rfl : ov = .ref x := mo
  exact setAttr_here ok R2 hx (mv.step R1 S2) ha nf (.inl ⟨hf, rfl⟩) hz fun s' R' S' => ⟨rfl, _, _, R', S1.trans R1 (S2.trans R2 S'), h2⟩
theorem ex_attr_new {name : Str} {o : Expr} (h : Ev W X l σ e (AttrN W X l o name rest Q))
    (hs : swapsWith e (some (.Attribute o name p')) pos.line X.env = pure false := by rfl) : Ex W X l σ (.Assign [.Attribute o name p'] e pos :: rest) Q := by
  refine ex_step fun ok s R => ?_
  refine plainObj_wpAny_Assign_Attribute (wpAny_mono (h ok s R) ?_ fun _ _ x => x) hs
  intro rv s1 hhh
  refine gw fun G hG => ?_
  obtain ⟨v, σ1, mv, R1, S1, x, r, C, dx, nf, fs, ho, hx, hz, ha, h2⟩ := hhh
  refine hG ?_
  refine wpAny_mono (ho.ev ok s1 R1) ?_ fun _ _ x => x
  intro ov s2 hhh
  refine gw fun G hG => ?_
  obtain ⟨_, _, mo, R2, S2, rfl, rfl⟩ := hhh
  refine hG ?_
  obtain rfl : ov = .ref x := mo
  exact setAttr_here ok R2 hx (mv.step R1 S2) ha (nf + 1) (.inr rfl) hz fun s' R' S' => ⟨rfl, _, _, R', S1.trans R1 (S2.trans R2 S'), h2⟩
end
end

section
section
variable {W : Wd} {X : Cx} {l l' : Lcl} {σ σ₁ σ₀ : Store} {s s₀ s₁ : Shared} {e e₁ e₂ o i : Expr} {es : List Expr} {a b v : MVal} {Q Q' : Flw → Lcl → Store → Prop} {pos p' tpos : Pos} {rest body orelse : List Stmt}

/-! ### stores by a subscript -/
theorem setList_here {x : Addr} {r : Nat} {vs : List MVal} {k : Int} {t : Tok} {rv : Value} (R : SRel W X l σ s) (hx : σ x = some ⟨r, .list vs⟩) (h0 : 0 ≤ k) (hk : k < vs.length) (hz : vs.length < 2 ^ 62) (m : VMatch s.heap v rv) {Q : Unit → Shared → Prop}
    (q : ∀ s', SRel W X l (σ.set x ⟨r, .list (vs.set k.toNat v)⟩) s' → Stp X σ s (σ.set x ⟨r, .list (vs.set k.toNat v)⟩) s' → Q () s') : wpAny W.M X.A (setItem (.ref x) (.int k t) rv) Q NoE s := by
  obtain ⟨items, n, g, ma⟩ := R.list hx
  have sz := size_of ma
  have hT : s.TypeIs (.ref x) "list" := ⟨_, g, rfl⟩
  unfold setItem
  try with_reducible refine wpAny_holding ?_
  first | refine wpAny_bind (wpAny_pure ?_) | skip
  refine wpAny_bind (wpAny_sequenceKey hT (by decide) ?_)
  refine wpAny_bind (wpAny_callSpecial?_slot (name := Str.ofString "__setitem__") hT slot_list_setitem (wpAny_call_entry slot_list_setitem hT entry_list_setitem ?_ (args_list_setitem _ _ _)))
  show wpAny _ _ (Builtin.List.listSubscript? (.int k t) >>= _) _ _ s
  refine wpAny_bind (wpAny_listSubscript_int (fitsIndex_of h0 (by omega)) ?_)
  clear hz
  obtain ⟨j, rfl⟩ := Int.eq_ofNat_of_zero_le h0
  have hj : j < items.size := by omega
  have hx' : items[j]? = some items[j] := Array.getElem?_eq_getElem hj
  show wpAny _ _ ((seqItemAt x j >>= fun r => pure (r.map (j, ·))) >>= _) _ _ s
  refine wpAny_bind (wpAny_bind (wpAny_seqItemAt g rfl (wpAny_pure ?_)))
  rw [hx']
  show wpAny _ _ (setSeqItemAt x j rv >>= _) _ _ s
  have fin := upd_list (ws := vs.set j v) (f := fun xs => xs.setIfInBounds j rv) R hx g fun h' kt => by
    rw [Array.toList_setIfInBounds]; exact (ma.vkeep kt).set j ((m.keep kt))
  refine wpAny_bind (wpAny_setSeqItemAt g rfl ?_)
  first
    | exact wpAny_bind (wpAny_pure (wpAny_pure ⟨.none, rfl, wpAny_pure (q _ fin.1 fin.2)⟩))
    | exact wpAny_pure ⟨.none, rfl, wpAny_pure (q _ fin.1 fin.2)⟩

theorem setDI_here {x : Addr} {r : Nat} {kvs : List (Int × MVal)} {k : Int} {t : Tok} {rv : Value} (R : SRel W X l σ s) (hx : σ x = some ⟨r, .dI kvs⟩) (hz : kvs.length ≤ 16777216) (m : VMatch s.heap v rv) {Q : Unit → Shared → Prop}
    (q : ∀ s', SRel W X l (σ.set x ⟨r, .dI (dput kvs k v)⟩) s' → Stp X σ s (σ.set x ⟨r, .dI (dput kvs k v)⟩) s' → Q () s') : wpAny W.M X.A (setItem (.ref x) (.int k t) rv) Q NoE s := by
  obtain ⟨lo, rk, hd, m1⟩ := R.om x _ hx
  refine wpAny_setItem_pairs (hsz := by rw [← m1.len, lineIs]; exact hz) (intKind_is _ _ k t) hd fun h' hd' hs => ?_
  have nd : (rk.map (·.1)).Nodup := by obtain ⟨_, _, _, _, _, _, _, _, nd⟩ := hd; exact nd
  obtain ⟨R', S'⟩ := R.setObj (tk := s.toks + 1) (r := r) (b := .dI (dput kvs k v)) hx notInst_dI notInst_dI hs fun kt => ⟨lo, _, hd', dput_stored (m.keep kt) (m1.mono fun _ _ p => ⟨p.1, p.2.keep kt⟩) nd⟩
  exact q _ R' S'
theorem setDS_here {x : Addr} {r : Nat} {kvs : List (Str × MVal)} {k : Str} {t : Tok} {rv : Value} (R : SRel W X l σ s) (hx : σ x = some ⟨r, .dS kvs⟩) (hz : kvs.length ≤ 16777216) (m : VMatch s.heap v rv) {Q : Unit → Shared → Prop}
    (q : ∀ s', SRel W X l (σ.set x ⟨r, .dS (dput kvs k v)⟩) s' → Stp X σ s (σ.set x ⟨r, .dS (dput kvs k v)⟩) s' → Q () s') : wpAny W.M X.A (setItem (.ref x) (.str k t) rv) Q NoE s := by
  obtain ⟨lo, rk, hd, m1⟩ := R.om x _ hx
  refine wpAny_setItem_pairs (hsz := by rw [← m1.len, lineIs]; exact hz) (strKind_is _ _ k t) hd fun h' hd' hs => ?_
  have nd : (rk.map (·.1)).Nodup := by obtain ⟨_, _, _, _, _, _, _, _, nd⟩ := hd; exact nd
  obtain ⟨R', S'⟩ := R.setObj (tk := s.toks + 1) (r := r) (b := .dS (dput kvs k v)) hx notInst_dS notInst_dS hs fun kt => ⟨lo, _, hd', dput_stored (m.keep kt) (m1.mono fun _ _ p => ⟨p.1, p.2.keep kt⟩) nd⟩
  exact q _ R' S'

inductive SubL (W : Wd) (X : Cx) (l : Lcl) (o i : Expr) (rest : List Stmt) (Q : Flw → Lcl → Store → Prop) (v : MVal) (σ : Store) : Prop
  | mk (x : Addr) (r : Nat) (vs : List MVal) (k : Int) (h1 : PE W X l σ o (.ref x)) (h2 : PE W X l σ i (.int k)) (h3 : σ x = some ⟨r, .list vs⟩) (h4 : 0 ≤ k) (h5 : k < vs.length) (h6 : vs.length < 2 ^ 62)
    (h7 : Ex W X l (σ.set x ⟨r, .list (vs.set k.toNat v)⟩) rest Q) : SubL W X l o i rest Q v σ
inductive SubD (W : Wd) (X : Cx) (l : Lcl) (o i : Expr) (rest : List Stmt) (Q : Flw → Lcl → Store → Prop) (v : MVal) (σ : Store) : Prop
  | mk (x : Addr) (r : Nat) (kvs : List (Int × MVal)) (k : Int) (h1 : PE W X l σ o (.ref x)) (h2 : PE W X l σ i (.int k)) (h3 : σ x = some ⟨r, .dI kvs⟩) (h4 : kvs.length ≤ 16777216)
    (h7 : Ex W X l (σ.set x ⟨r, .dI (dput kvs k v)⟩) rest Q) : SubD W X l o i rest Q v σ
inductive SubK (W : Wd) (X : Cx) (l : Lcl) (o : Expr) (key : Str) (rest : List Stmt) (Q : Flw → Lcl → Store → Prop) (v : MVal) (σ : Store) : Prop
  | mk (x : Addr) (r : Nat) (kvs : List (Str × MVal)) (h1 : PE W X l σ o (.ref x)) (h3 : σ x = some ⟨r, .dS kvs⟩) (h4 : kvs.length ≤ 16777216) (h7 : Ex W X l (σ.set x ⟨r, .dS (dput kvs key v)⟩) rest Q) : SubK W X l o key rest Q v σ
inductive AugA (W : Wd) (X : Cx) (l : Lcl) (x : Addr) (name : Str) (rest : List Stmt) (Q : Flw → Lcl → Store → Prop) (u : MVal) (σ : Store) : Prop
  | mk (r : Nat) (C : Cls) (dx : Addr) (nf : Nat) (fs : Str → Option MVal) (h2 : σ x = some ⟨r, .inst C dx nf fs⟩) (h3 : (fs name).isSome = true) (h4 : nf ≤ 900) (h5 : name ∈ C.attrs) (k : Ex W X l (σ.set x ⟨r, .inst C dx nf (upd fs name u)⟩) rest Q) : AugA W X l x name rest Q u σ
inductive AugK (W : Wd) (X : Cx) (l : Lcl) (x : Addr) (key : Str) (rest : List Stmt) (Q : Flw → Lcl → Store → Prop) (u : MVal) (σ : Store) : Prop
  | mk (r : Nat) (kvs : List (Str × MVal)) (h2 : σ x = some ⟨r, .dS kvs⟩) (h4 : kvs.length ≤ 16777216) (k : Ex W X l (σ.set x ⟨r, .dS (dput kvs key u)⟩) rest Q) : AugK W X l x key rest Q u σ
theorem ex_sub_list (h : Ev W X l σ e (SubL W X l o i rest Q))
    (hs : swapsWith e (some (.Subscript o i p')) pos.line X.env = pure false := by rfl) : Ex W X l σ (.Assign [.Subscript o i p'] e pos :: rest) Q := by
  refine ex_step fun ok s R => ?_
  refine wpAny_Assign_Subscript (wpAny_mono (h ok s R) ?_ fun _ _ x => x) hs
  intro rv s1 hhh
  refine gw fun G hG => ?_
  obtain ⟨v, σ1, mv, R1, S1, x, r, vs, k, ho, hi, hx, h0, hk, hz, h2⟩ := hhh
  refine hG ?_
  refine wpAny_mono (ho.ev ok s1 R1) ?_ fun _ _ x => x
  intro ov s2 hhh
  refine gw fun G hG => ?_
  obtain ⟨_, _, mo, R2, S2, rfl, rfl⟩ := hhh
  refine hG ?_
  obtain rfl : ov = .ref x := mo
  refine wpAny_mono (hi.ev ok s2 R2) ?_ fun _ _ x => x
  intro iv s3 hhh
  refine gw fun G hG => ?_
  obtain ⟨_, _, mi, R3, S3, rfl, rfl⟩ := hhh
  refine hG ?_
  obtain ⟨t, rfl⟩ := mi
  exact setList_here R3 hx h0 hk hz ((mv.step R1 S2).step R2 S3) fun s' R' S' => ⟨rfl, _, _, R', S1.trans R1 (S2.trans R2 (S3.trans R3 S')), h2⟩
theorem ex_sub_dI (h : Ev W X l σ e (SubD W X l o i rest Q))
    (hs : swapsWith e (some (.Subscript o i p')) pos.line X.env = pure false := by rfl) : Ex W X l σ (.Assign [.Subscript o i p'] e pos :: rest) Q := by
  refine ex_step fun ok s R => ?_
  refine wpAny_Assign_Subscript (wpAny_mono (h ok s R) ?_ fun _ _ x => x) hs
  intro rv s1 hhh
  refine gw fun G hG => ?_
  obtain ⟨v, σ1, mv, R1, S1, x, r, kvs, k, ho, hi, hx, hz, h2⟩ := hhh
  refine hG ?_
  refine wpAny_mono (ho.ev ok s1 R1) ?_ fun _ _ x => x
  intro ov s2 hhh
  refine gw fun G hG => ?_
  obtain ⟨_, _, mo, R2, S2, rfl, rfl⟩ := hhh
  refine hG ?_
  obtain rfl : ov = .ref x := mo
  refine wpAny_mono (hi.ev ok s2 R2) ?_ fun _ _ x => x
  intro iv s3 hhh
  refine gw fun G hG => ?_
  obtain ⟨_, _, mi, R3, S3, rfl, rfl⟩ := hhh
  refine hG ?_
  obtain ⟨t, rfl⟩ := mi
  exact setDI_here R3 hx hz ((mv.step R1 S2).step R2 S3) fun s' R' S' => ⟨rfl, _, _, R', S1.trans R1 (S2.trans R2 (S3.trans R3 S')), h2⟩
theorem ex_sub_key {key : Str} {kk : Nat} {kp : Pos} (h : Ev W X l σ e (SubK W X l o key rest Q))
    (hs : swapsWith e (some (.Subscript o (.Constant (.str key) kk kp) p')) pos.line X.env = pure false := by rfl) : Ex W X l σ (.Assign [.Subscript o (.Constant (.str key) kk kp) p'] e pos :: rest) Q := by
  refine ex_step fun ok s R => ?_
  refine wpAny_Assign_Subscript (wpAny_mono (h ok s R) ?_ fun _ _ x => x) hs
  intro rv s1 hhh
  refine gw fun G hG => ?_
  obtain ⟨v, σ1, mv, R1, S1, x, r, kvs, ho, hx, hz, h2⟩ := hhh
  refine hG ?_
  refine wpAny_mono (ho.ev ok s1 R1) ?_ fun _ _ x => x
  intro ov s2 hhh
  refine gw fun G hG => ?_
  obtain ⟨_, _, mo, R2, S2, rfl, rfl⟩ := hhh
  refine hG ?_
  obtain rfl : ov = .ref x := mo
  refine Calls.Constant_str ?_
  obtain ⟨R3, S3⟩ := R2.toks (s2.toks + 1)
  exact setDS_here R3 hx hz ((mv.step R1 S2).step R2 S3) fun s' R' S' => ⟨rfl, _, _, R', S1.trans R1 (S2.trans R2 (S3.trans R3 S')), h2⟩

/-! ### augmented stores -/
theorem ex_aug {x : Str} {op : Operator} (hx : l x = some a) (h : Ev W X l σ e fun v σ₁ => Op2 W X l σ₁ (inplaceOp op) a v fun u σ₂ => Ex W X (upd l x u) σ₂ rest Q) (hl : X.env.kindOf x = some .local := by rfl) :
    Ex W X l σ (.AugAssign (.Name x p') op e pos :: rest) Q := by
  refine ex_step fun ok s R => ?_
  obtain ⟨mm, hn, hm⟩ := R.loc
  obtain ⟨ra, e1, ma⟩ := hm x a hx
  refine wpAny_AugAssign_Name (wpAny_loadName_local ok.ek hl hn e1 (wpAny_mono (h ok s R) ?_ fun _ _ x => x))
  intro rv s1 hhh
  refine gw fun G hG => ?_
  obtain ⟨v, σ1, mv, R1, S1, h2⟩ := hhh
  refine hG ?_
  refine wpAny_mono (h2 ok s1 ra rv R1 (ma.step R S1) mv) ?_ fun _ _ x => x
  intro ru s2 hhh
  refine gw fun G hG => ?_
  obtain ⟨u, σ2, mu, R2, S2, h3⟩ := hhh
  refine hG ?_
  exact store_here ok R2 mu hl fun s' R' S' => ⟨rfl, _, _, R', S1.trans R1 (S2.trans R2 S'), h3⟩
theorem ex_aug_attr {name : Str} {op : Operator} {x r C dx nf fs old} (ho : PE W X l σ o (.ref x)) (hx : σ x = some ⟨r, .inst C dx nf fs⟩) (hf : fs name = some old) (ha : name ∈ C.attrs)
    (h : Ev W X l σ e fun v σ₁ => Op2 W X l σ₁ (inplaceOp op) old v (AugA W X l x name rest Q)) :
    Ex W X l σ (.AugAssign (.Attribute o name tpos) op e pos :: rest) Q := by
  refine ex_step fun ok s R => ?_
  refine wpAny_AugAssign_AttributeAny (wpAny_mono (ho.ev ok s R) ?_ fun _ _ x => x)
  intro ov s1 hhh
  refine gw fun G hG => ?_
  obtain ⟨_, _, mo, R1, S1, rfl, rfl⟩ := hhh
  refine hG ?_
  obtain rfl : ov = .ref x := mo
  obtain ⟨g, es, n, gd, sk, sz, hfs⟩ := R1.om x _ hx
  obtain ⟨rv, hrv, mrv⟩ := hfs name old hf
  obtain ⟨pg, hh, ⟨attr, fa, ng⟩, _⟩ := ok.k.attr C name ha
  obtain ⟨R2, S2⟩ := R1.toks (s1.toks + 1)
  refine get_value (od := some { cls := .type "dict", data := .dict es n }) (R1.kin ok) ⟨g, rfl, rfl, gd⟩ (plainGet_of pg).1 (findObj_own hh fa ng (lookIn_ns (h := s1.heap) (dx := dx) sk hrv)) (by
      cases old <;> first | (obtain ⟨t, rfl⟩ := mrv; rfl) | (obtain ⟨a, its, rfl, _⟩ := mrv; rfl) | (have mrv' := mrv; simp only [VMatch] at mrv'; subst mrv'; rfl)) ?_
  refine wpAny_mono (h ok _ R2) ?_ fun _ _ x => x
  intro rv2 s3 hhh
  refine gw fun G hG => ?_
  obtain ⟨v, σ3, mv, R3, S3, h2⟩ := hhh
  refine hG ?_
  refine wpAny_mono (h2 ok s3 rv rv2 R3 ((mrv.step R1 S2).step R2 S3) mv) ?_ fun _ _ x => x
  intro ru s4 hhh
  refine gw fun G hG => ?_
  obtain ⟨u, σ4, mu, R4, S4, r, C, dx, nf, fs, hx4, hf4, hz, ha4, h3⟩ := hhh
  refine hG ?_
  exact setAttr_here ok R4 hx4 mu ha4 nf (.inl ⟨hf4, rfl⟩) hz fun s' R' S' => ⟨rfl, _, _, R', S1.trans R1 (S2.trans R2 (S3.trans R3 (S4.trans R4 S'))), h3⟩
theorem ex_aug_key {key : Str} {kk : Nat} {kp : Pos} {op : Operator} {x r kvs old} (ho : PE W X l σ o (.ref x)) (hx : σ x = some ⟨r, .dS kvs⟩) (hv : dget kvs key = some old)
    (h : Ev W X l σ e fun v σ₁ => Op2 W X l σ₁ (inplaceOp op) old v (AugK W X l x key rest Q)) :
    Ex W X l σ (.AugAssign (.Subscript o (.Constant (.str key) kk kp) tpos) op e pos :: rest) Q := by
  refine ex_step fun ok s R => ?_
  refine wpAny_AugAssign_SubscriptAny (wpAny_mono (ho.ev ok s R) ?_ fun _ _ x => x)
  intro ov s1 hhh
  refine gw fun G hG => ?_
  obtain ⟨_, _, mo, R1, S1, rfl, rfl⟩ := hhh
  refine hG ?_
  obtain rfl : ov = .ref x := mo
  refine Calls.Constant_str ?_
  obtain ⟨lo, rk, hd, m1⟩ := R1.om x _ hx
  have hg := dget_valueAt m1 key
  rw [hv] at hg
  obtain ⟨rv, e1, mrv⟩ := hg
  obtain ⟨R2, S2⟩ := R1.toks (s1.toks + 1 + 1)
  refine wpAny_getItem_of (s := { s1 with toks := s1.toks + 1 }) (strKind_is _ _ key _) hd.mapOf e1 ?_
  refine wpAny_mono (h ok _ R2) ?_ fun _ _ x => x
  intro rv2 s3 hhh
  refine gw fun G hG => ?_
  obtain ⟨v, σ3, mv, R3, S3, h2⟩ := hhh
  refine hG ?_
  refine wpAny_mono (h2 ok s3 rv rv2 R3 ((mrv.step R1 S2).step R2 S3) mv) ?_ fun _ _ x => x
  intro ru s4 hhh
  refine gw fun G hG => ?_
  obtain ⟨u, σ4, mu, R4, S4, r, kvs, hx4, hz, h3⟩ := hhh
  refine hG ?_
  exact setDS_here R4 hx4 hz mu fun s' R' S' => ⟨rfl, _, _, R', S1.trans R1 (S2.trans R2 (S3.trans R3 (S4.trans R4 S'))), h3⟩

/-! ### control -/
theorem ex_if (h : Te W X l σ e fun c σ₁ => Ex W X l σ₁ (if c then body else orelse) (Fin Q fun l' σ' => Ex W X l' σ' rest Q)) : Ex W X l σ (.If e body orelse pos :: rest) Q := by
  intro ok s R
  refine wpAny_execs_cons (wpAny_If (wpAny_mono (h ok s R) ?_ fun _ _ x => x))
  intro c s1 hhh
  refine gw fun G hG => ?_
  obtain ⟨σ1, R1, S1, h2⟩ := hhh
  refine hG ?_
  have fin : ∀ st, Ex W X l σ1 st (Fin Q fun l' σ' => Ex W X l' σ' rest Q) → wpAny W.M X.A (execs st X.env) (fun f s' => match f with | .next => wpAny W.M X.A (execs rest X.env) (PostX W X σ s Q) NoE s' | f => PostX W X σ s Q f s') NoE s1 := by
    intro st h
    refine wpAny_mono (h ok s1 R1) ?_ fun _ _ x => x
    intro fl s2 hhh
    refine gw fun G hG => ?_
    obtain ⟨f, l2, σ2, m, R2, S2, q⟩ := hhh
    refine hG ?_
    cases f with
    | next =>
      obtain rfl : fl = .next := m
      exact wpAny_mono (q ok s2 R2) (fun _ _ p => p.trans (S1.trans R1 S2) R2) fun _ _ x => x
    | ret v =>
      obtain ⟨rv, rfl, mv⟩ := m
      exact ⟨.ret v, l2, σ2, ⟨rv, rfl, mv⟩, R2, S1.trans R1 S2, q⟩
  cases c with
  | true => rw [if_pos rfl]; exact fin _ h2
  | false => rw [if_neg (by decide)]; exact fin _ h2
theorem ex_ret (h : Ev W X l σ e fun v σ₁ => Q (.ret v) l σ₁) : Ex W X l σ (.Return (some e) pos :: rest) Q := by
  intro ok s R
  refine wpAny_execs_cons (wpAny_Return_some (wpAny_mono (h ok s R) ?_ fun _ _ x => x))
  intro rv s1 hhh
  refine gw fun G hG => ?_
  obtain ⟨v, σ1, mv, R1, S1, q⟩ := hhh
  refine hG ?_
  exact ⟨.ret v, l, σ1, ⟨rv, rfl, mv⟩, R1, S1, q⟩
theorem ex_ret0 (h : Q (.ret .none) l σ) : Ex W X l σ (.Return none pos :: rest) Q := by
  intro ok s R
  exact wpAny_execs_cons (wpAny_Return_none ⟨.ret .none, l, σ, ⟨.none, rfl, rfl⟩, R, .refl, h⟩)
theorem drop_here {e : Expr} {rv : Value} {Q : Flow → Shared → Prop} (h : Q .next s) : wpAny W.M X.A (dropValue e pos rv) Q NoE s := by
  exact wpAny_dropValue h
theorem ex_expr (h : Ev W X l σ e fun _ σ₁ => Ex W X l σ₁ rest Q) (hi : interactive X.env = false := by rfl) (hs : swapsWith e none pos.line X.env = pure false := by rfl) : Ex W X l σ (.Expr e pos :: rest) Q := by
  refine ex_step fun ok s R => ?_
  rw [exec_Expr X.env e pos hi hs]
  refine wpAny_bind (wpAny_standAt (wpAny_bind (wpAny_mono (h ok s R) ?_ fun _ _ x => x)))
  intro rv s1 hhh
  refine gw fun G hG => ?_
  obtain ⟨v, σ1, mv, R1, S1, h2⟩ := hhh
  refine hG ?_
  exact drop_here ⟨rfl, l, σ1, R1, S1, h2⟩

/-! ### loops -/
/-- a turn's end: less known of the names, and the word again -/
noncomputable def Turn (Q : Flw → Lcl → Store → Prop) (N : Lcl → Store → Prop) : Flw → Lcl → Store → Prop := Fin Q fun l σ => ∃ l', Lcl.le l' l ∧ N l' σ
theorem Lcl.le_refl (l : Lcl) : Lcl.le l l := fun _ _ e => e

theorem ex_while (I : Nat → Lcl → Store → Prop) (n : Nat) (h0 : I n l σ)
    (turn : ∀ n l₁ σ₁, I n l₁ σ₁ → Te W X l₁ σ₁ e fun c σ₂ => if c then Ex W X l₁ σ₂ body (Turn Q fun l₃ σ₃ => ∃ m, m < n ∧ I m l₃ σ₃) else Ex W X l₁ σ₂ rest Q) :
    Ex W X l σ (.While e body [] pos :: rest) Q := by
  intro ok s R
  refine wpAny_execs_cons (wpAny_While ?_)
  refine codeAny_whileLoop (fun n s' => ∃ l₁ σ₁, I n l₁ σ₁ ∧ SRel W X l₁ σ₁ s' ∧ Stp X σ s σ₁ s') ?_ n ⟨l, σ, h0, R, .refl⟩
  intro n s' hhh
  refine gw fun G hG => ?_
  obtain ⟨l1, σ1, hI, R1, S1⟩ := hhh
  refine hG ?_
  refine wpAny_mono (turn n l1 σ1 hI ok s' R1) ?_ fun _ _ x => x.elim
  intro c s2 hhh
  refine gw fun G hG => ?_
  obtain ⟨σ2, R2, S2, q⟩ := hhh
  refine hG ?_
  cases c with
  | true =>
    rw [if_pos rfl]
    refine wpAny_mono (q ok s2 R2) ?_ fun _ _ x => x.elim
    intro fl s3 hhh
    refine gw fun G hG => ?_
    obtain ⟨f, l3, σ3, m, R3, S3, q3⟩ := hhh
    refine hG ?_
    cases f with
    | next =>
      obtain rfl : fl = .next := m
      obtain ⟨l4, le, m, hm, hI'⟩ := q3
      exact ⟨m, hm, l4, σ3, hI', R3.weak le, S1.trans R1 (S2.trans R2 S3)⟩
    | ret v =>
      obtain ⟨rv, rfl, mv⟩ := m
      exact ⟨.ret v, l3, σ3, ⟨rv, rfl, mv⟩, R3, S1.trans R1 (S2.trans R2 S3), q3⟩
  | false =>
    rw [if_neg (by decide)]
    refine wpAny_execs_nil ?_
    exact wpAny_mono (q ok s2 R2) (fun _ _ p => p.trans (S1.trans R1 S2) R2) fun _ _ x => x

/-- a loop's iterator: it lies at an address of its own -/
structure Iter (W : Wd) (X : Cx) (I : Nat → Lcl → Store → Prop) (n : Nat) (item : Nat → MVal) (it y : Addr) (IT : Nat → Heap → Prop) : Prop where
  next : Ok W X → ∀ i l₁ σ₁ s (Q : Option Value → Shared → Prop), i < n → I i l₁ σ₁ → SRel W X l₁ σ₁ s → IT i s.heap →
    (∀ rv h' tk, VMatch h' (item i) rv → Heap.SameBut it s.heap h' → IT (i + 1) h' → Q (some rv) { s with heap := h', toks := tk }) → wpAny W.M X.A (pyNext (.ref it)) Q NoE s
  stop : Ok W X → ∀ l₁ σ₁ s (Q : Option Value → Shared → Prop), I n l₁ σ₁ → SRel W X l₁ σ₁ s → IT n s.heap →
    (∀ h' tk, Heap.ExtBut it s.heap h' → Q none { s with heap := h', toks := tk }) → wpAny W.M X.A (pyNext (.ref it)) Q NoE s
  same : ∀ i h h', IT i h → (∀ o, h.get? it = some o → h'.get? it = some o) → (∀ o, h.get? y = some o → h'.get? y = some o) → IT i h'
  live : ∀ i h, IT i h → ∃ o, h.get? it = some o ∧ o.cls ≠ .type "tuple"
  live2 : ∀ i h, IT i h → ∃ o, h.get? y = some o

/-- only an address beside the store turns -/
theorem SRel.beside (R : SRel W X l σ s) {it : Addr} {h' : Heap} {tk : Nat} (k : ∀ a o, a ≠ it → s.heap.get? a = some o → h'.get? a = some o) (nf : ¬ Foot σ it) (nl : it ≠ X.env.locals) (nL : it ≠ X.L) (n0 : X.h₀.get? it = none)
    (hc : ∀ o, s.heap.get? it = some o → o.cls ≠ .type "tuple") : SRel W X l σ { s with heap := h', toks := tk } := by
  have kt : TKeep s.heap h' := fun a o e hcl _ => k a o (fun q => by subst q; exact hc o e hcl) e
  refine ⟨?_, fun a o e => k a o (fun q => by rw [q, n0] at e; cases e) (R.base a o e), ?_, R.locNew, fun a o e => ?_, R.off, R.dj1, R.dj2⟩
  · obtain ⟨m, ⟨ol, es, ep, g, r⟩, hm⟩ := R.loc
    exact ⟨m, ⟨ol, es, ep, k _ _ (Ne.symm nl) g, r⟩, fun x v e => let ⟨rv, p, q⟩ := hm x v e; ⟨rv, p, q.keep kt⟩⟩
  · obtain ⟨m, ⟨ol, es, ep, g, r⟩⟩ := R.frL; exact ⟨m, ⟨ol, es, ep, k _ _ (Ne.symm nL) g, r⟩⟩
  · refine (R.om a o e).keep kt (fun o' g => k a o' (fun q => nf (q ▸ .of e)) g) fun C dx nf' fs hb o' g => k dx o' (fun q => ?_) g
    exact nf (q ▸ .inr ⟨a, o.role, C, nf', fs, by rw [e, ← hb]⟩)
theorem Stp.beside (S : Stp X σ₀ s₀ σ s) {it : Addr} (h0 : s₀.heap.get? it = none) {h' : Heap} {tk : Nat} (k : ∀ a o, a ≠ it → s.heap.get? a = some o → h'.get? a = some o) : Stp X σ₀ s₀ σ { s with heap := h', toks := tk } := by
  refine ⟨?_, fun a o e nf nl => k a o (fun q => by rw [q, h0] at e; cases e) (S.keep a o e nf nl), S.cap⟩
  obtain ⟨h, t, rfl⟩ := S.same
  exact ⟨_, _, rfl⟩

/-- the item goes to its names -/
noncomputable def Binds (W : Wd) (X : Cx) (n : Nat) (target : Expr) (item : Nat → MVal) (it : Addr) (IT : Nat → Heap → Prop) (bind : Nat → Lcl → Lcl) : Prop :=
  Ok W X → ∀ i l₁ σ₁ s v (Q : Unit → Shared → Prop), i < n → SRel W X l₁ σ₁ s → IT (i + 1) s.heap → VMatch s.heap (item i) v → (∀ s', SRel W X (bind i l₁) σ₁ s' → Stp X σ₁ s σ₁ s' → Q () s') →
    wpAny W.M X.A (letOwnedTupleGo target (.ref it) v) (fun _ s₁ => wpAny W.M X.A (assign target X.env v) Q NoE s₁) NoE s
theorem binds_name {n : Nat} {x : Str} {px : Pos} {item : Nat → MVal} {it : Addr} {IT : Nat → Heap → Prop} (hl : X.env.kindOf x = some .local) : Binds W X n (.Name x px) item it IT (fun i l => upd l x (item i)) := by
  intro ok i l1 σ1 s v Q _ R _ m q
  refine wpAny_of_eq rfl (wpAny_assign_Name (store_here ok R m hl q))

theorem loop_gen {target : Expr} {n : Nat} {item : Nat → MVal} {it y : Addr} {IT : Nat → Heap → Prop} {bind : Nat → Lcl → Lcl} (I : Nat → Lcl → Store → Prop) (T : Iter W X I n item it y IT) (ok : Ok W X) (B : Binds W X n target item it IT bind)
    (h0 : s₀.heap.get? it = none) (nl : it ≠ X.env.locals) (nL : it ≠ X.L) (n0 : X.h₀.get? it = none) (S : Stp X σ₀ s₀ σ s) (R : SRel W X l σ s) (nf : ¬ Foot σ it) (nfy : ¬ Foot σ y) (ny : y ≠ X.env.locals) (hit : IT 0 s.heap) (hI : I 0 l σ)
    (turn : ∀ k l₁ σ₁, k < n → I k l₁ σ₁ → Ex W X (bind k l₁) σ₁ body (Turn Q fun l₃ σ₃ => I (k + 1) l₃ σ₃))
    (fin : ∀ l₁ σ₁, I n l₁ σ₁ → Ex W X l₁ σ₁ rest Q) {E : Value → Shared → Prop} :
    codeAny W.M X.A (.forLoop target (.ref it) body [] X.env) (fun r s' => match r with
      | .ok f => (match f with | .next => wpAny W.M X.A (execs rest X.env) (PostX W X σ₀ s₀ Q) NoE s' | f => PostX W X σ₀ s₀ Q f s')
      | .error e => E e s') s := by
  refine codeAny_forLoop_any (fun m s' => ∃ i l₁ σ₁, i ≤ n ∧ m = n - i ∧ I i l₁ σ₁ ∧ SRel W X l₁ σ₁ s' ∧ Stp X σ₀ s₀ σ₁ s' ∧ IT i s'.heap ∧ ¬ Foot σ₁ it ∧ ¬ Foot σ₁ y) ?_ n ⟨0, l, σ, Nat.zero_le _, rfl, hI, R, S, hit, nf, nfy⟩
  intro m s' hhh
  refine gw fun G hG => ?_
  obtain ⟨i, l1, σ1, hi, rfl, hI1, R1, S1, hit1, nf1, nfy1⟩ := hhh
  refine hG ?_
  by_cases hlt : i < n
  · refine wpAny_mono (T.next ok i l1 σ1 s' (fun r s₁ => match r with
      | none => False
      | some v => SRel W X l1 σ1 s₁ ∧ Stp X σ₀ s₀ σ1 s₁ ∧ IT (i + 1) s₁.heap ∧ VMatch s₁.heap (item i) v) hlt hI1 R1 hit1 ?_) ?_ fun _ _ x => x.elim
    · intro rv h' tk mv hs hit2
      have k : ∀ a o, a ≠ it → s'.heap.get? a = some o → h'.get? a = some o := fun a o ne e => (hs.2 a ne).trans e
      exact ⟨R1.beside k nf1 nl nL n0 (fun o e => by obtain ⟨o', e', hc⟩ := T.live i _ hit1; rw [e] at e'; cases e'; exact hc), S1.beside h0 k, hit2, mv⟩
    · rintro (_ | v) s2 h2
      · exact h2.elim
      · obtain ⟨R2, S2, hit2, mv⟩ := h2
        refine wpAny_mono (B ok i l1 σ1 s2 v (fun _ s3 => SRel W X (bind i l1) σ1 s3 ∧ Stp X σ1 s2 σ1 s3) hlt R2 hit2 mv fun s3 R3 S3 => ⟨R3, S3⟩) ?_ fun _ _ x => x.elim
        intro _ s2' h2'
        refine wpAny_mono h2' ?_ fun _ _ x => x.elim
        rintro _ s3 ⟨R3, S3⟩
        refine wpAny_mono (turn i l1 σ1 hlt hI1 ok s3 R3) ?_ fun _ _ x => x.elim
        intro fl s4 hhh
        refine gw fun G hG => ?_
        obtain ⟨f, l4, σ4, mf, R4, S4, q⟩ := hhh
        refine hG ?_
        have hit3 : IT (i + 1) s3.heap := T.same _ _ _ hit2 (fun o e => S3.keep _ _ e nf1 nl) fun o e => S3.keep _ _ e nfy1 ny
        have hit4 : IT (i + 1) s4.heap := T.same _ _ _ hit3 (fun o e => S4.keep _ _ e nf1 nl) fun o e => S4.keep _ _ e nfy1 ny
        cases f with
        | next =>
          obtain rfl : fl = .next := mf
          obtain ⟨l5, le, hI5⟩ := q
          refine ⟨n - (i + 1), by omega, i + 1, l5, σ4, hlt, rfl, hI5, R4.weak le, S2.trans R2 (S3.trans R3 S4), hit4, fun hf => ?_, fun hf => ?_⟩
          · rcases S4.cap _ hf with h | h
            · exact nf1 h
            · obtain ⟨o, e, _⟩ := T.live _ _ hit3; rw [h] at e; cases e
          · rcases S4.cap _ hf with h | h
            · exact nfy1 h
            · obtain ⟨o, e⟩ := T.live2 _ _ hit3; rw [h] at e; cases e
        | ret v =>
          obtain ⟨rv, rfl, mv⟩ := mf
          exact ⟨.ret v, l4, σ4, ⟨rv, rfl, mv⟩, R4, S2.trans R2 (S3.trans R3 S4), q⟩
  · have hin : i = n := by omega
    subst hin
    refine wpAny_mono (T.stop ok l1 σ1 s' (fun r s₁ => r = none ∧ SRel W X l1 σ1 s₁ ∧ Stp X σ₀ s₀ σ1 s₁) hI1 R1 hit1 ?_) ?_ fun _ _ x => x.elim
    · intro h' tk hs
      have k : ∀ a o, a ≠ it → s'.heap.get? a = some o → h'.get? a = some o := fun a o ne e => hs a o ne e
      exact ⟨rfl, R1.beside k nf1 nl nL n0 (fun o e => by obtain ⟨o', e', hc⟩ := T.live _ _ hit1; rw [e] at e'; cases e'; exact hc), S1.beside h0 k⟩
    · rintro _ s2 ⟨rfl, R2, S2⟩
      refine wpAny_execs_nil ?_
      exact wpAny_mono (fin l1 σ1 hI1 ok s2 R2) (fun _ _ p => p.trans S2 R2) fun _ _ x => x

/-- a list's iterator -/
theorem iter_list {x : Addr} {it : Addr} {vs : List MVal} {I : Nat → Lcl → Store → Prop} (hI : ∀ k l₁ σ₁, I k l₁ σ₁ → ∃ r, σ₁ x = some ⟨r, .list vs⟩) :
    Iter W X I vs.length (fun i => vs.getD i .none) it it (fun i h => h.IsListIter it x i) where
  next := fun ok i l1 σ1 s Q hi h R hit q => by
    obtain ⟨r, hx⟩ := hI i l1 σ1 h
    obtain ⟨items, n, g, ma⟩ := R.list hx
    obtain ⟨rv, e, mv⟩ := ma.get (i := i) (a := vs.getD i .none) (by rw [List.getD_eq_getElem?_getD, List.getElem?_eq_getElem hi]; rfl)
    refine wpAny_pyNext_list_item hit ⟨_, g, rfl, n, rfl⟩ (by rw [← Array.getElem?_toList]; exact e) fun h' hit' hs => ?_
    have := q rv h' s.toks (mv.keep fun a o e' hc hd => (hs.2 a (fun z => by subst z; obtain ⟨o', g', hc', _⟩ := hit; rw [e'] at g'; cases g'; rw [hc] at hc'; simp at hc')).trans e') hs hit'
    exact this
  stop := fun ok l1 σ1 s Q h R hit q => by
    obtain ⟨r, hx⟩ := hI _ l1 σ1 h
    obtain ⟨items, n, g, ma⟩ := R.list hx
    refine wpAny_pyNext_list_end ok.hd hit ⟨_, g, rfl, n, rfl⟩ (Array.getElem?_eq_none (by rw [size_of ma]; exact Nat.le_refl _)) fun h' hs => q h' s.toks hs
  same := fun i h h' hit k _ => let ⟨o, g, r⟩ := hit; ⟨o, k _ g, r⟩
  live := fun i h ⟨o, g, hc, _⟩ => ⟨o, g, by rw [hc]; simp⟩
  live2 := fun i h ⟨o, g, hc, _⟩ => ⟨o, g⟩
/-- a tuple's iterator -/
theorem iter_tup {y : Addr} {it : Addr} {xs : List Atom} {items : Array Value} {I : Nat → Lcl → Store → Prop} (hne : y ≠ it) (mx : All2 AMatch xs items.toList) :
    Iter W X I xs.length (fun i => (xs.getD i (.int 0)).val) it y (fun i h => IsTupIter h it y i ∧ IsTup h y items) where
  next := fun ok i l1 σ1 s Q hi h R hit q => by
    obtain ⟨hit, ht⟩ := hit
    obtain ⟨rv, e, mv⟩ := mx.get (i := i) (a := xs.getD i (.int 0)) (by rw [List.getD_eq_getElem?_getD, List.getElem?_eq_getElem hi]; rfl)
    refine next_tuple_item hit ht (by rw [← Array.getElem?_toList]; exact e) fun h' hit' hs => ?_
    exact q rv h' s.toks mv.val hs ⟨hit', ht.extBut hs.extBut hne⟩
  stop := fun ok l1 σ1 s Q h R hit q => by
    obtain ⟨hit, ht⟩ := hit
    refine next_tuple_end ok.hd hit ht (Array.getElem?_eq_none (by have := mx.len; simp at this; omega)) fun h' hs => q h' s.toks hs
  same := fun i h h' hit k k2 => let ⟨⟨o, g, r⟩, ⟨o2, g2, r2⟩⟩ := hit; ⟨⟨o, k _ g, r⟩, ⟨o2, k2 _ g2, r2⟩⟩
  live := fun i h ⟨⟨o, g, hc, _⟩, _⟩ => ⟨o, g, by rw [hc]; simp⟩
  live2 := fun i h ⟨_, ⟨o, g, hc, _⟩⟩ => ⟨o, g⟩
/-- a range's iterator -/
theorem iter_range {it : Addr} {n : Nat} {I : Nat → Lcl → Store → Prop} : Iter W X I n (fun i => .int i) it it (fun i h => IsRangeIter h it (i : Int) ((n : Int) - i) 1) where
  next := fun ok i l1 σ1 s Q hi h R hit q => by
    refine wpAny_pyNext_range_item hit (by omega) fun h' hit' hs => ?_
    refine q _ h' (s.toks + 1) ⟨_, rfl⟩ hs ?_
    have e1 : ((i + 1 : Nat) : Int) = (i : Int) + 1 := by omega
    have e2 : (n : Int) - ((i + 1 : Nat) : Int) = (n : Int) - i - 1 := by omega
    rw [e2, e1]; exact hit'
  stop := fun ok l1 σ1 s Q h R hit q => wpAny_pyNext_range_end ok.hd hit (by omega) fun h' hs => q h' s.toks hs
  same := fun i h h' hit k _ => k _ hit
  live := fun i h hit => ⟨_, hit, by simp⟩
  live2 := fun i h hit => ⟨_, hit⟩

theorem ex_for_g {target : Expr} {bind : Nat → MVal → Lcl → Lcl} 
    (h : Ev W X l σ e fun v σ₁ => ∃ y vs, ∃ I : Nat → Lcl → Store → Prop, v = .ref y ∧ I 0 l σ₁ ∧ (∀ k l₂ σ₂, I k l₂ σ₂ → ∃ r, σ₂ y = some ⟨r, .list vs⟩) ∧ (∀ it, Binds W X vs.length target (fun i => vs.getD i .none) it (fun i h => h.IsListIter it y i) (fun i => bind i (vs.getD i .none))) ∧
      (∀ k u l₂ σ₂, vs[k]? = some u → I k l₂ σ₂ → Ex W X (bind k u l₂) σ₂ body (Turn Q fun l₃ σ₃ => I (k + 1) l₃ σ₃)) ∧ (∀ l₂ σ₂, I vs.length l₂ σ₂ → Ex W X l₂ σ₂ rest Q))
    (hs : ∀ x, foldedSetIterable e X.env x = pure x := by intro _; rfl) : Ex W X l σ (.For target e body [] pos :: rest) Q := by
  intro ok s R
  refine wpAny_execs_cons (wpAny_For (wpAny_mono (h ok s R) ?_ fun _ _ x => x) hs)
  intro rv s1 hhh
  refine gw fun G hG => ?_
  obtain ⟨v, σ1, mv, R1, S1, y, vs, I, rfl, hI0, hy, B, turn, fin⟩ := hhh
  refine hG ?_
  obtain rfl : rv = .ref y := mv
  obtain ⟨r, hx⟩ := hy 0 l σ1 hI0
  obtain ⟨items, n, g, ma⟩ := R1.list hx
  refine wpAny_pyIter_list ⟨_, g, rfl, n, rfl⟩ ?_
  have hn := heap_none s1.heap
  obtain ⟨nf, na, n0, nL, nl⟩ := R1.fresh hn
  obtain ⟨R2, S2⟩ := R1.ext (h' := s1.heap.push { cls := .type "list_iterator", data := .fields #[.ref y, .int 0 0] }) (tk := s1.toks) fun c o e => Heap.get?_push_of_some _ e
  have T := iter_list (W := W) (X := X) (it := s1.heap.objs.size) (vs := vs) (I := I) (x := y) hy
  refine codeAny_mono (loop_gen I T ok (B _) hn nl nL n0 S2 R2 nf nf nl ⟨_, Heap.get?_push_size _ rfl, rfl, rfl⟩ hI0 (fun k l₁ σ₁ hk hI => turn k _ l₁ σ₁ (by rw [List.getD_eq_getElem?_getD, List.getElem?_eq_getElem hk]; rfl) hI) fin (E := fun _ _ => False)) ?_
  rintro (ee | f) s3 hr
  · exact hr.elim
  · cases f with
    | next => exact wpAny_mono hr (fun _ _ p => p.trans S1 R1) fun _ _ x => x
    | ret v => exact hr.trans S1 R1
    | brk => exact hr.trans S1 R1
    | cont => exact hr.trans S1 R1
theorem ex_for {x : Str} {px : Pos} 
    (h : Ev W X l σ e fun v σ₁ => ∃ y vs, ∃ I : Nat → Lcl → Store → Prop, v = .ref y ∧ I 0 l σ₁ ∧ (∀ k l₂ σ₂, I k l₂ σ₂ → ∃ r, σ₂ y = some ⟨r, .list vs⟩) ∧
      (∀ k u l₂ σ₂, vs[k]? = some u → I k l₂ σ₂ → Ex W X (upd l₂ x u) σ₂ body (Turn Q fun l₃ σ₃ => I (k + 1) l₃ σ₃)) ∧ (∀ l₂ σ₂, I vs.length l₂ σ₂ → Ex W X l₂ σ₂ rest Q))
    (hl : X.env.kindOf x = some .local := by rfl) (hs : ∀ x, foldedSetIterable e X.env x = pure x := by intro _; rfl) : Ex W X l σ (.For (.Name x px) e body [] pos :: rest) Q :=
  ex_for_g (bind := fun _ u l => upd l x u) (h.mono fun _ _ hh => by obtain ⟨y, vs, I, e, h0, hy, t, f⟩ := hh; exact ⟨y, vs, I, e, h0, hy, fun it => binds_name hl, t, f⟩) hs

/-- for x, y in a list of pairs -/
noncomputable def pairBind (x₁ x₂ : Str) (v : MVal) (l : Lcl) : Lcl := match v with
  | .tup [a, b] => upd (upd l x₁ a.val) x₂ b.val
  | _ => l
theorem binds_pair {x₁ x₂ : Str} {p1 p2 pt : Pos} {k : Nat} {vs : List MVal} {it y : Addr} (hv : ∀ v ∈ vs, ∃ a b, v = .tup [a, b]) (hl1 : X.env.kindOf x₁ = some .local) (hl2 : X.env.kindOf x₂ = some .local) :
    Binds W X vs.length (.Tuple [.Name x₁ p1, .Name x₂ p2] k pt) (fun i => vs.getD i .none) it (fun i h => h.IsListIter it y i) (fun i l => pairBind x₁ x₂ (vs.getD i .none) l) := by
  intro ok i l1 σ1 s v Q hi R hit m q
  obtain ⟨a, b, e⟩ := hv (vs.getD i .none) (by rw [List.getD_eq_getElem?_getD, List.getElem?_eq_getElem hi]; exact List.getElem_mem hi)
  dsimp only at m q
  rw [e] at m q
  obtain ⟨t, items, rfl, ht, mx⟩ := m
  refine wpAny_letOwnedTupleGo_listiter hit ?_
  have sz : items.size = 2 := by have := mx.len; simp at this; omega
  refine assign_Tuple_tuple ok.hd ht (by rw [sz]; rfl) rfl fun h' he => ?_
  obtain ⟨R1, S1⟩ := R.ext (h' := h') (tk := s.toks) fun c o e' => he c o (Nat.ne_of_lt (Heap.lt_size e')) e'
  match hit : items.toList, mx with
  | [r1, r2], ⟨m1, m2, _⟩ =>
    show wpAny W.M X.A (do holding [r2] (assign (.Name x₁ p1) X.env r1); do holding [] (assign (.Name x₂ p2) X.env r2); pure ()) _ _ _
    refine wpAny_bind (wpAny_holding (wpAny_assign_Name (store_here ok R1 (v := a.val) m1.val hl1 fun s2 R2 S2 => ?_)))
    refine wpAny_bind (wpAny_holding (wpAny_assign_Name (store_here ok R2 (v := b.val) m2.val hl2 fun s3 R3 S3 => wpAny_pure ?_)))
    exact q s3 R3 (S1.trans R1 (S2.trans R2 S3))

/-- for x in range(e) -/
theorem ex_for_range {x : Str} {px np cp : Pos} (hx : nsIn W.K mainGlobals "range" = some none) (hv : bootBuiltins "range" = some (.type "range"))
    (h : Ev W X l σ e fun v σ₁ => ∃ n : Nat, ∃ I : Nat → Lcl → Store → Prop, v = .int n ∧ n ≤ 16777216 ∧ I 0 l σ₁ ∧
      (∀ (k : Nat) l₂ σ₂, k < n → I k l₂ σ₂ → Ex W X (upd l₂ x (.int k)) σ₂ body (Turn Q fun l₃ σ₃ => I (k + 1) l₃ σ₃)) ∧ (∀ l₂ σ₂, I n l₂ σ₂ → Ex W X l₂ σ₂ rest Q))
    (hl : X.env.kindOf x = some .local := by rfl) (hs : ∀ x, foldedSetIterable (.Call (.Name "range" np) [e] [] cp) X.env x = pure x := by intro _; rfl)
    (hp : backTo cp (starEach [e] X.env) = plainArgs [e] X.env := by rfl) (hk : X.env.kindOf "range" = some .globalImplicit := by rfl)
    (he : eval (.Call (.Name "range" np) [e] [] cp) X.env = (do callWith cp (← eval (.Name "range" np) X.env) [] (backTo cp (starEach [e] X.env)) (backToKw cp (keywordEach [] X.env))) := by rfl) :
    Ex W X l σ (.For (.Name x px) (.Call (.Name "range" np) [e] [] cp) body [] pos :: rest) Q := by
  intro ok s R
  refine wpAny_execs_cons (wpAny_For (Call_ ?_ he) hs)
  refine Calls.Name_function_global ok.ek hk (Calls.loadGlobal_builtin (mg := W.mg) (mb := W.mb) (by rw [ok.eg]; exact ok.top.g.keeps R.base) (mg_none_of ok.kin ok.top.g hx) (by rw [ok.eb]; exact ok.top.b.keeps R.base)
    ((ok.top.builtins _ (by decide)).trans hv) ?_) (by decide)
  rw [hp]
  refine PySem.callWith_type (plainArgs_any _ _) (evalArgs_all (Calls.spliced_cons (wpAny_mono (h ok s R) ?_ fun _ _ x => x)))
  intro rv s1 hhh
  refine gw fun G hG => ?_
  obtain ⟨v, σ1, mv, R1, S1, n, I, rfl, hz, hI0, turn, fin⟩ := hhh
  refine hG ?_
  obtain ⟨t, rfl⟩ := mv
  refine Calls.spliced_nil (call_range_1 ?_)
  obtain ⟨R2, S2⟩ := R1.ext (h' := s1.heap.push { cls := .type "range", data := .fields #[.int 0 s1.toks, .int n t, .int 1 (s1.toks + 1)] }) (tk := s1.toks + 1 + 1) fun c o e => Heap.get?_push_of_some _ e
  refine wpAny_pyIter_range (IsRange.new _ _ _ _ _ _ _) (small_one (by decide) (by decide) (by omega) (by omega)) ?_
  have hn := heap_none (s1.heap.push { cls := .type "range", data := .fields #[.int 0 s1.toks, .int n t, .int 1 (s1.toks + 1)] })
  obtain ⟨nf, na, n0, nL, nl⟩ := R2.fresh hn
  obtain ⟨R3, S3⟩ := R2.ext (h' := (s1.heap.push { cls := .type "range", data := .fields #[.int 0 s1.toks, .int n t, .int 1 (s1.toks + 1)] }).push { cls := .type "range_iterator", data := .fields #[rawInt 0, rawInt (Builtin.Range.rangeSize 0 n 1), rawInt 1] }) (tk := s1.toks + 1 + 1) fun c o e => Heap.get?_push_of_some _ e
  have T := iter_range (W := W) (X := X) (it := (s1.heap.push { cls := .type "range", data := .fields #[.int 0 s1.toks, .int n t, .int 1 (s1.toks + 1)] }).objs.size) (n := n) (I := I)
  have hsz : Builtin.Range.rangeSize 0 n 1 = (n : Int) - (0 : Nat) := by rw [rangeSize_one]; split <;> omega
  refine codeAny_mono (loop_gen I T ok (binds_name hl) hn nl nL n0 S3 R3 nf nf nl (by rw [hsz]; exact Heap.get?_push_size _ rfl) hI0 (fun k l₁ σ₁ hk hI => turn k l₁ σ₁ hk hI) fin (E := fun _ _ => False)) ?_
  rintro (ee | f) s4 hr
  · exact hr.elim
  · cases f with
    | next => exact wpAny_mono hr (fun _ _ p => (p.trans S2 R2).trans S1 R1) fun _ _ x => x
    | ret v => exact (hr.trans S2 R2).trans S1 R1
    | brk => exact (hr.trans S2 R2).trans S1 R1
    | cont => exact (hr.trans S2 R2).trans S1 R1

/-- for x in a tuple -/
theorem ex_for_tup {x : Str} {px : Pos}
    (h : Ev W X l σ e fun v σ₁ => ∃ xs : List Atom, ∃ I : Nat → Lcl → Store → Prop, v = .tup xs ∧ I 0 l σ₁ ∧
      (∀ k u l₂ σ₂, xs[k]? = some u → I k l₂ σ₂ → Ex W X (upd l₂ x u.val) σ₂ body (Turn Q fun l₃ σ₃ => I (k + 1) l₃ σ₃)) ∧ (∀ l₂ σ₂, I xs.length l₂ σ₂ → Ex W X l₂ σ₂ rest Q))
    (hl : X.env.kindOf x = some .local := by rfl) (hs : ∀ x, foldedSetIterable e X.env x = pure x := by intro _; rfl) : Ex W X l σ (.For (.Name x px) e body [] pos :: rest) Q := by
  intro ok s R
  refine wpAny_execs_cons (wpAny_For (wpAny_mono (h ok s R) ?_ fun _ _ x => x) hs)
  intro rv s1 hhh
  refine gw fun G hG => ?_
  obtain ⟨v, σ1, mv, R1, S1, xs, I, rfl, hI0, turn, fin⟩ := hhh
  refine hG ?_
  obtain ⟨y, items, rfl, ht, mx⟩ := mv
  refine iter_tuple ht ?_
  have hn := heap_none s1.heap
  obtain ⟨nf, na, n0, nL, nl⟩ := R1.fresh hn
  obtain ⟨o, go, hc, no, hd⟩ := id ht
  obtain ⟨nfy, nly⟩ := R1.tup_off go hc ⟨_, _, hd⟩
  obtain ⟨R2, S2⟩ := R1.ext (h' := s1.heap.push { cls := .type "tuple_iterator", data := .fields #[.ref y, .int 0 0] }) (tk := s1.toks) fun c o e => Heap.get?_push_of_some _ e
  have T := iter_tup (W := W) (X := X) (it := s1.heap.objs.size) (I := I) (Nat.ne_of_lt ht.lt) mx
  refine codeAny_mono (loop_gen I T ok (binds_name hl) hn nl nL n0 S2 R2 nf nfy nly ⟨⟨_, Heap.get?_push_size _ rfl, rfl, rfl⟩, ht.push _⟩ hI0 (fun k l₁ σ₁ hk hI => turn k _ l₁ σ₁ (by rw [List.getD_eq_getElem?_getD, List.getElem?_eq_getElem hk]; rfl) hI) fin (E := fun _ _ => False)) ?_
  rintro (ee | f) s3 hr
  · exact hr.elim
  · cases f with
    | next => exact wpAny_mono hr (fun _ _ p => p.trans S1 R1) fun _ _ x => x
    | ret v => exact hr.trans S1 R1
    | brk => exact hr.trans S1 R1
    | cont => exact hr.trans S1 R1
end
end

section
noncomputable def mbindL (kindOf : Str → Option NameKind) : List (Str × MVal) → Lcl → Lcl
  | [], m => m
  | (n, v) :: r, m => mbindL kindOf r (if kindOf n = some .local then upd m n v else m)
noncomputable def mbindC (kindOf : Str → Option NameKind) : List (Str × MVal) → Lcl → Lcl
  | [], m => m
  | (n, v) :: r, m => mbindC kindOf r (if kindOf n = some .local then m else upd m n v)
/-- the cells that a call lays -/
structure CellsSt (cs : List (Str × Addr)) (cm : Lcl) (σ σ' : Store) : Prop where
  at_ : ∀ n c, cs.lookup n = some c → σ' c = some ⟨0, .cell (cm n)⟩ ∧ σ c = none
  off : ∀ a, a ∉ cs.map (·.2) → σ' a = σ a
noncomputable def retOf : Flw → MVal
  | .next => .none
  | .ret v => v
abbrev mkCx (qual : Str) (scope : Scope) (f : Addr) (n : Nat) (A : Around) (h₀ : Heap) (L : Addr) (outer : List Env) (base : Heap) (A₀ : Around) (cdv : Value) : Cx :=
  { A := A, env := envX qual scope L f cdv (cellsFrom (L + 1) scope.names []), h₀ := h₀, L := L, fenv := envX qual scope L f cdv (cellsFrom (L + 1) scope.names []), outer := outer, base := base, A₀ := A₀, n := n }

noncomputable def LM (h : Heap) (l : Lcl) (m : Str → Option Value) : Prop := ∀ x v, l x = some v → ∃ rv, m x = some rv ∧ VMatch h v rv
theorem LM.upd {h : Heap} {l : Lcl} {m : Str → Option Value} (x : LM h l m) {n : Str} {v : MVal} {rv : Value} (mv : VMatch h v rv) : LM h (upd l n v) (fun y => if y = n then some rv else m y) := fun y u e => by
  unfold Mine.upd at e
  split at e
  · rename_i q; cases e; exact ⟨rv, if_pos q, mv⟩
  · rename_i q; obtain ⟨ru, p, z⟩ := x y u e; exact ⟨ru, by show (if y = n then some rv else m y) = some ru; rw [if_neg q]; exact p, z⟩
theorem LM.bindL {h : Heap} {k : Str → Option NameKind} : ∀ {names : List Str} {vs : List MVal} {rvs : List Value} {l : Lcl} {m : Str → Option Value}, All2 (VMatch h) vs rvs → LM h l m → LM h (mbindL k (names.zip vs) l) (bindL k (names.zip rvs) m)
  | [], _, _, _, _, _, x => by simpa [mbindL, PySem.bindL] using x
  | _ :: _, [], [], _, _, _, x => by simpa [mbindL, PySem.bindL] using x
  | n :: r, v :: vs, rv :: rvs, l, m, ⟨mv, t⟩, x => by
    simp only [List.zip_cons_cons, mbindL, PySem.bindL]
    refine LM.bindL t ?_
    split
    · exact x.upd mv
    · exact x
  | _ :: _, [], _ :: _, _, _, t, _ => t.elim
  | _ :: _, _ :: _, [], _, _, t, _ => t.elim
/-- what the cells hold -/
theorem LM.bindC {h : Heap} {k : Str → Option NameKind} : ∀ {names : List Str} {vs : List MVal} {rvs : List Value} {l : Lcl} {m : Str → Option Value}, All2 (VMatch h) vs rvs →
    (∀ x, match l x with | none => m x = none | some v => ∃ rv, m x = some rv ∧ VMatch h v rv) → ∀ x, match mbindC k (names.zip vs) l x with | none => PySem.bindC k (names.zip rvs) m x = none | some v => ∃ rv, PySem.bindC k (names.zip rvs) m x = some rv ∧ VMatch h v rv
  | [], _, _, _, _, _, x => by simpa [mbindC, PySem.bindC] using x
  | _ :: _, [], [], _, _, _, x => by simpa [mbindC, PySem.bindC] using x
  | n :: r, v :: vs, rv :: rvs, l, m, ⟨mv, t⟩, x => by
    simp only [List.zip_cons_cons, mbindC, PySem.bindC]
    refine LM.bindC t ?_
    intro y
    by_cases hk : k n = some .local
    · simp only [hk, if_true]; exact x y
    · simp only [hk, if_false]
      unfold Mine.upd
      by_cases q : y = n
      · simp only [q, if_true]; exact ⟨rv, rfl, mv⟩
      · simp only [q, if_false]; exact x y
  | _ :: _, [], _ :: _, _, _, t, _ => t.elim
  | _ :: _, _ :: _, [], _, _, t, _ => t.elim

section
open Classical
noncomputable def footList (σ : Store) (n : Nat) : List Addr := (List.range n).filter fun a => decide (Foot σ a)
theorem mem_footList {σ : Store} {n a : Nat} : a ∈ footList σ n ↔ a < n ∧ Foot σ a := by simp [footList]
end

section
variable {W : Wd} {X : Cx} {l l' : Lcl} {σ σ₁ σ₀ : Store} {s s₀ s₁ : Shared} {e e₁ e₂ o i : Expr} {es : List Expr} {a b v : MVal} {Q Q' : MVal → Store → Prop} {pos p' : Pos} {rest body orelse : List Stmt}

/-- a call of the text's own def or class by its name -/
theorem ev_gcall {x : Str} {npos : Pos} {f : Addr} (hx : nsIn W.K mainGlobals x = some (some (.ref f))) (hk : keepIn W.K (.ref f) = true)
    (h : EvA W X l σ es fun vs σ₁ => OpC W X l σ₁ (.ref f) vs Q) (hp : backTo pos (starEach es X.env) = plainArgs es X.env := by rfl)
    (hl : X.env.kindOf x = some .globalImplicit := by rfl) (hd : (x == ("__debug__" : Str)) = false := by rfl)
    (he : eval (.Call (.Name x npos) es [] pos) X.env = (do callWith pos (← eval (.Name x npos) X.env) [] (backTo pos (starEach es X.env)) (backToKw pos (keywordEach [] X.env))) := by rfl) :
    Ev W X l σ (.Call (.Name x npos) es [] pos) Q := by
  intro ok s R
  refine Call_ ?_ he
  refine Calls.Name_function_global ok.ek hl (Calls.loadGlobal_global (mg := W.mg) (by rw [ok.eg]; exact ok.top.g.keeps R.base) (mg_of ok.kin ok.top.g hx) ?_) hd
  rw [hp]
  refine callWith_of (P := W.K.In) (by rw [plainArgs_any]; rfl) (keeps_K hk) (evalArgs_all (wpAny_mono (h ok s R) ?_ fun _ _ x => x))
  intro rvs s2 hhh
  refine gw fun G hG => ?_
  obtain ⟨vs, σ2, ms, R2, S2, h3⟩ := hhh
  refine hG ?_
  refine ⟨R2.kin ok, wpAny_mono (h3 ok s2 rvs R2 ms) ?_ fun _ _ x => x⟩
  intro r s3 p
  exact p.trans S2 R2

/-- a call of a value, as code -/
noncomputable def OpF (W : Wd) (X : Cx) (l : Lcl) (σ : Store) (f : Value) (args : List MVal) (Q : MVal → Store → Prop) : Prop :=
  Ok W X → ∀ s rargs, SRel W X l σ s → All2 (VMatch s.heap) args rargs → codeAny W.M X.A (.call f ⟨rargs, []⟩) (fun r s' => match r with | .ok (.ret v) => PostE W X l σ s Q v s' | .ok _ => False | .error e => NoE e s') s
theorem opc_of {f : Value} {args : List MVal} (h : OpF W X l σ f args Q) : OpC W X l σ f args Q := fun ok s r R m => wpAny_call (h ok s r R m)

/-- the call of a def -/
theorem fn_code {f : Addr} {name qual : Str} {params : Arguments} {body : List Stmt} {scope : Scope} {names : List Str} {args : List MVal} (F : FnAt W f name qual params body scope) (hn : X.n < 60)
    (hbind : ∀ (rargs : List Value) doc pm an cdv ct, rargs.length = names.length → bindArgs (fnOf name qual params body scope .none .none doc pm an cdv ct) ⟨rargs, []⟩ = pure (names.zip rargs)) (hlen : args.length = names.length)
    (hnk : (names.all fun y => scope.names.lookup y == some .local || scope.names.lookup y == some .cell) = true)
    (hnd : ((cellsFrom 0 scope.names []).map (·.1)).Nodup)
    (h : ∀ A h₀ L outer base A₀ cdv σ', CellsSt (cellsFrom (L + 1) scope.names []) (mbindC (envX qual scope L f cdv (cellsFrom (L + 1) scope.names [])).kindOf (names.zip args) fun _ => none) σ σ' →
      Ex W (mkCx qual scope f (X.n + 1) A h₀ L outer base A₀ cdv) (mbindL (envX qual scope L f cdv (cellsFrom (L + 1) scope.names [])).kindOf (names.zip args) fun _ => none) σ' body fun fl _ σ'' => Q (retOf fl) σ'')
    (hco : scope.isCoroutine = false := by rfl) (hgen : scope.isGenerator = false := by rfl) (hk : scope.kind = .function := by rfl) : OpF W X l σ (.ref f) args Q := by
  intro ok s rargs R m
  obtain ⟨oc, od, osl, doc, pm, an, cdv, ct, hK, hcd⟩ := F.at_
  obtain ⟨mX, FX⟩ := R.ground ok
  -- the ground beneath the new frame
  let fl := footList σ s.heap.objs.size
  have nfl : ∀ b ∈ fl, ∃ o, s.heap.get? b = some o := fun b hb => R.live (mem_footList.mp hb).2
  obtain ⟨news, hnews, NX⟩ : ∃ news : List (Addr × Obj), news.map (·.1) = fl ∧ News X.h₀ X.L s.heap news := by
    have : ∀ l : List Addr, (∀ b ∈ l, (∃ o, s.heap.get? b = some o) ∧ b ≠ X.L ∧ X.h₀.get? b = none) → ∃ news : List (Addr × Obj), news.map (·.1) = l ∧ News X.h₀ X.L s.heap news := by
      intro l
      induction l with
      | nil => exact fun _ => ⟨[], rfl, News.nil⟩
      | cons b r ih =>
        intro h
        obtain ⟨⟨o, ho⟩, h1, h2⟩ := h b (.head _)
        obtain ⟨news, e, N⟩ := ih fun c hc => h c (.tail _ hc)
        exact ⟨(b, o) :: news, by simp [e], fun p hp => by
          rcases List.mem_cons.mp hp with rfl | hp
          · exact ⟨ho, h1, h2⟩
          · exact N p hp⟩
    exact this fl fun b hb => ⟨nfl b hb, (R.off b (mem_footList.mp hb).2).2.1, (R.off b (mem_footList.mp hb).2).1⟩
  obtain ⟨FG, BG, st, -⟩ := groundX (R := fun _ _ => True) ok.below FX NX ok.fr ok.ff ok.fk
  rw [hnews] at FG BG st
  have hlm := m.len
  have hnf : ¬ Foot σ s.heap.objs.size := (R.fresh (heap_none s.heap)).1
  refine codeAny_call_function ok.depLt (R.kin ok _ _ hK) rfl hco hgen rfl (codeRec_of (R.kin ok) hcd) ?_
  rw [hbind rargs doc pm an cdv ct (by rw [← hlm, hlen])]
  refine wpAny_pure (wpAny_newFunctionEnv_cells hk (fun x hx => ?_) fun env' he s' x => ?_)
  · obtain ⟨y, rv⟩ := x
    have hy : y ∈ names := (List.of_mem_zip hx).1
    have q := List.all_eq_true.mp hnk y hy
    rcases Bool.or_eq_true_iff.mp q with q | q
    · exact .inl (by simpa using q)
    · have q' : scope.names.lookup y = some .cell := by simpa using q
      exact .inr ⟨q', cellsFrom_some _ _ _ (.inl q')⟩
  subst he
  refine ⟨(ok.top.nolimit.keeps R.base).keeps x.toInCall.keep, codeAny_func ?_⟩
  obtain ⟨h₁, tk, rfl, _⟩ := x.done
  have hk₁ := x.toInCall.keep
  have hns := x.toInCall.ns
  dsimp only at hk₁ hns
  have hcellAt : ∀ n c, (cellsFrom (s.heap.objs.size + 1) scope.names []).lookup n = some c → h₁.IsCell c (PySem.bindC (envX qual scope s.heap.objs.size f cdv (cellsFrom (s.heap.objs.size + 1) scope.names [])).kindOf (names.zip rargs) (fun _ => none) n) := x.cell
  have habove : ∀ n c, (n, c) ∈ cellsFrom (s.heap.objs.size + 1) scope.names [] → s.heap.objs.size < c := x.above
  have hnd' : ((cellsFrom (s.heap.objs.size + 1) scope.names []).map (·.1)).Nodup := cellsFrom_names scope.names 0 (s.heap.objs.size + 1) [] [] rfl ▸ hnd
  have hapart := x.apart
  generalize hL : s.heap.objs.size = L at *
  generalize hcs : cellsFrom (L + 1) scope.names [] = cs at *
  -- the store with the cells
  let cm : Lcl := mbindC (envX qual scope L f cdv cs).kindOf (names.zip args) fun _ => none
  have cfree : ∀ c, c ∈ cs.map (·.2) → s.heap.get? c = none := fun c hc => by
    obtain ⟨⟨n, c'⟩, hm, rfl⟩ := List.mem_map.mp hc
    have h1 := habove n c' hm
    cases e : s.heap.get? c' with
    | none => rfl
    | some o => have h2 := Heap.lt_size e; rw [hL] at h2; exact absurd (Nat.lt_trans h1 h2) (Nat.lt_irrefl _)
  let nameOf : Addr → Option Str := fun c => (cs.find? fun p => decide (p.2 = c)).map (·.1)
  have nameOf_of : ∀ n c, cs.lookup n = some c → nameOf c = some n := by
    intro n c hl
    have hmem : (n, c) ∈ cs := by
      have : ∀ l : List (Str × Addr), l.lookup n = some c → (n, c) ∈ l := by
        intro l
        induction l with
        | nil => intro hl; simp at hl
        | cons p r ih =>
          intro hl
          obtain ⟨y, d⟩ := p
          rw [List.lookup_cons] at hl
          split at hl
          · rename_i q; cases hl; rw [beq_iff_eq.mp q]; exact .head _
          · exact .tail _ (ih hl)
      exact this cs hl
    have : ∀ l : List (Str × Addr), l.Pairwise (fun x y => x.2 ≠ y.2) → (n, c) ∈ l → (l.find? fun p => decide (p.2 = c)) = some (n, c) := by
      intro l
      induction l with
      | nil => intro _ h; cases h
      | cons p r ih =>
        intro hp h
        rw [List.pairwise_cons] at hp
        rcases List.mem_cons.mp h with rfl | h
        · simp
        · have : ¬ p.2 = c := hp.1 _ h
          simp only [List.find?_cons, this, decide_false]
          exact ih hp.2 h
    show (cs.find? fun p => decide (p.2 = c)).map (·.1) = some n
    rw [this cs hapart hmem]; rfl
  let σ' : Store := fun c => match nameOf c with
    | some n => some ⟨0, .cell (cm n)⟩
    | none => σ c
  have nameOf_none : ∀ c, c ∉ cs.map (·.2) → nameOf c = none := by
    intro c hc
    show (cs.find? fun p => decide (p.2 = c)).map (·.1) = none
    rw [List.find?_eq_none.mpr]; rfl
    intro p hp
    have : p.2 ≠ c := fun e => hc (List.mem_map.mpr ⟨p, hp, e⟩)
    simpa using this
  have nameOf_mem : ∀ c n, nameOf c = some n → (n, c) ∈ cs := by
    intro c n h
    obtain ⟨⟨n', c'⟩, hf, rfl⟩ := Option.map_eq_some_iff.mp h
    have h1 := List.mem_of_find?_eq_some hf
    have h2 : c' = c := by simpa using List.find?_some hf
    rw [← h2]; exact h1
  have hCS : CellsSt cs cm σ σ' := ⟨fun n c hl => ⟨by show (match nameOf c with | some n => _ | none => _) = _; rw [nameOf_of n c hl], (R.fresh (cfree c (List.mem_map.mpr ⟨(n, c), nameOf_mem c n (nameOf_of n c hl), rfl⟩))).2.1⟩,
    fun a ha => by show (match nameOf a with | some n => _ | none => _) = _; rw [nameOf_none a ha]⟩
  -- the new frame's relation
  let X' : Cx := { A := X.A.deeper (envX qual scope L f cdv cs), env := envX qual scope L f cdv cs, h₀ := hideAll s.heap fl, L := L, fenv := envX qual scope L f cdv cs, outer := X.fenv :: X.outer, base := X.base, A₀ := X.A, n := X.n + 1 }
  have hX'env : X'.env = envX qual scope L f cdv cs := rfl
  have ok' : Ok W X' := by
    refine ⟨ok.k, ?_, rfl, hk, hk, rfl, rfl, ok.hd, BG, ok.kin.keeps st, ok.top.keeps st, ?_, ?_, ?_, ?_⟩
    · exact Around.frames_deeper ok.fr
    · show (hideAll s.heap fl).objs.size ≤ L; rw [hideAll_size, hL]; exact Nat.le_refl _
    · show X.A.depth + 1 ≤ 301 + 10 * (X.n + 1); have := ok.dep; omega
    · show X.A.units + 3 ≤ 4 + 20 * (X.n + 1); have := ok.uni; omega
    · show X.n + 1 ≤ 60; omega
  have up : ∀ c o, s.heap.get? c = some o → h₁.get? c = some o := fun c o e => hk₁ c o e
  have kt : TKeep s.heap h₁ := TKeep.ext up
  have ltL : ∀ c o, s.heap.get? c = some o → c < L := fun c o e => hL ▸ Heap.lt_size e
  have foot' : ∀ c, Foot σ' c → Foot σ c ∨ c ∈ cs.map (·.2) := by
    intro c hc
    by_cases hm : c ∈ cs.map (·.2)
    · exact .inr hm
    · refine .inl ?_
      rcases hc with hc | ⟨y, r, C, nf, fs, hy⟩
      · rw [hCS.off c hm] at hc; exact .inl hc
      · by_cases hy' : y ∈ cs.map (·.2)
        · have : ∃ n, nameOf y = some n := by
            obtain ⟨⟨n, c'⟩, hp, rfl⟩ := List.mem_map.mp hy'
            cases e : nameOf c' with
            | some n => exact ⟨n, rfl⟩
            | none =>
              exfalso
              have : (cs.find? fun p => decide (p.2 = c')) = none := by
                cases q : (cs.find? fun p => decide (p.2 = c')) with
                | none => rfl
                | some p => have z : nameOf c' = some p.1 := by show (cs.find? fun p => decide (p.2 = c')).map (·.1) = _; rw [q]; rfl
                            rw [e] at z; cases z
              have := List.find?_eq_none.mp this _ hp
              simp at this
          obtain ⟨n, hn'⟩ := this
          have hy2 : (match nameOf y with | some n => some (⟨0, .cell (cm n)⟩ : MObj) | none => σ y) = some ⟨r, .inst C c nf fs⟩ := hy
          rw [hn'] at hy2; cases hy2
        · rw [hCS.off y hy'] at hy; exact .inr ⟨y, r, C, nf, fs, hy⟩
  have isInst' : ∀ y r C d nf fs, σ' y = some ⟨r, .inst C d nf fs⟩ → σ y = some ⟨r, .inst C d nf fs⟩ := by
    intro y r C d nf fs hy
    have hy2 : (match nameOf y with | some n => some (⟨0, .cell (cm n)⟩ : MObj) | none => σ y) = some ⟨r, .inst C d nf fs⟩ := hy
    split at hy2
    · cases hy2
    · exact hy2
  have cellLive : ∀ c, c ∈ cs.map (·.2) → ∃ n, cs.lookup n = some c ∧ nameOf c = some n := by
    intro c hc
    obtain ⟨⟨n, c'⟩, hp, rfl⟩ := List.mem_map.mp hc
    have hl : cs.lookup n = some c' := by
      have : ∀ l : List (Str × Addr), (l.map (·.1)).Nodup → (n, c') ∈ l → l.lookup n = some c' := by
        intro l
        induction l with
        | nil => intro _ h; cases h
        | cons p r ih =>
          intro hnd h
          obtain ⟨y, d⟩ := p
          rw [List.map_cons, List.nodup_cons] at hnd
          rw [List.lookup_cons]
          rcases List.mem_cons.mp h with h | h
          · cases h; simp
          · have : n ≠ y := fun e => hnd.1 (e ▸ List.mem_map.mpr ⟨_, h, rfl⟩)
            rw [beq_eq_false_iff_ne.mpr this]; exact ih hnd.2 h
      exact this cs hnd' hp
    exact ⟨n, hl, nameOf_of n c' hl⟩
  have R' : SRel W X' (mbindL (envX qual scope L f cdv cs).kindOf (names.zip args) fun _ => none) σ' { s with heap := h₁, toks := tk } := by
    refine ⟨⟨_, hns, LM.bindL (m.mono fun _ _ z => z.keep kt) fun _ _ e => by cases e⟩, fun c o e => up c o (of_hideAll _ e), ⟨_, hns⟩, ?_, fun c oc e => ?_, fun c hc => ?_, fun y r C d nf fs hy => ?_, fun y z r q C D d nf mf fs gs hy hz => ?_⟩
    · show (hideAll s.heap fl).get? L = none
      cases e : (hideAll s.heap fl).get? L with
      | none => rfl
      | some o => exact absurd (ltL _ _ (of_hideAll _ e)) (Nat.lt_irrefl _)
    · by_cases hm : c ∈ cs.map (·.2)
      · obtain ⟨n, hl, hno⟩ := cellLive c hm
        rw [(hCS.at_ n c hl).1] at e
        cases e
        obtain ⟨ob, hob, hdat⟩ := hcellAt n c hl
        have hb := LM.bindC (k := (envX qual scope L f cdv cs).kindOf) (names := names) (l := fun _ => none) (m := fun _ => none) (m.mono fun _ _ z => z.keep kt) (fun _ => rfl) n
        refine ⟨ob, hob, ?_⟩
        show match cm n with | none => _ | some v => _
        change match cm n with | none => _ | some v => _ at hb
        cases e : cm n with
        | none => rw [e] at hb; rw [hb] at hdat; exact hdat
        | some v => rw [e] at hb; obtain ⟨rv, h1, h2⟩ := hb; rw [h1] at hdat; exact ⟨rv, hdat, h2⟩
      · rw [hCS.off c hm] at e
        exact (R.om c oc e).keep kt (fun o' g => up c o' g) fun _ d _ _ _ o' g => up d o' g
    · rcases foot' c hc with hf | hm
      · obtain ⟨o, e⟩ := R.live hf
        have := ltL c o e
        refine ⟨hideAll_none _ (mem_footList.mpr ⟨by rw [hL]; exact this, hf⟩), Nat.ne_of_lt this, ?_⟩
        rw [hX'env]; exact Nat.ne_of_lt this
      · have hfree := cfree c hm
        obtain ⟨⟨n, c'⟩, hp, rfl⟩ := List.mem_map.mp hm
        have := habove n c' hp
        refine ⟨?_, Nat.ne_of_gt this, by rw [hX'env]; exact Nat.ne_of_gt this⟩
        cases e : (hideAll s.heap fl).get? c' with
        | none => rfl
        | some o => have := of_hideAll _ e; rw [hfree] at this; cases this
    · have := R.dj1 _ _ _ _ _ _ (isInst' _ _ _ _ _ _ hy)
      rw [hCS.off]
      · exact this
      · intro hm
        have hf := cfree d hm
        obtain ⟨o, e⟩ := R.live (.inr ⟨_, _, _, _, _, isInst' _ _ _ _ _ _ hy⟩)
        rw [hf] at e; cases e
    · exact R.dj2 _ _ _ _ _ _ _ _ _ _ _ (isInst' _ _ _ _ _ _ hy) (isInst' _ _ _ _ _ _ hz)
  have hX := h (X.A.deeper (envX qual scope L f cdv cs)) (hideAll s.heap fl) L (X.fenv :: X.outer) X.base X.A cdv σ' (by rw [hcs]; exact hCS)
  unfold mkCx at hX
  rw [hcs] at hX
  have hX' : Ex W X' (mbindL (envX qual scope L f cdv cs).kindOf (names.zip args) fun _ => none) σ' body fun fl _ σ'' => Q (retOf fl) σ'' := hX
  have hrun := hX' ok' _ R'
  refine wpAny_mono hrun ?_ fun _ _ x => x.elim
  intro fl2 s2 hhh
  refine gw fun G hG => ?_
  obtain ⟨fw, l2, σ2, mf, R2, S2, q⟩ := hhh
  refine hG ?_
  have keep : ∀ c o, s.heap.get? c = some o → ¬ Foot σ c → s2.heap.get? c = some o := fun c o e nf => by
    refine S2.keep c o (up c o e) (fun hf => ?_) (Nat.ne_of_lt (ltL c o e))
    rcases foot' c hf with h | h
    · exact nf h
    · rw [cfree c h] at e; cases e
  have kt2 : TKeep s.heap s2.heap := fun c o e hc hd => keep c o e (R.tup_off e hc hd).1
  have cap2 : ∀ c, Foot σ2 c → Foot σ c ∨ s.heap.get? c = none := fun c hf => by
    rcases S2.cap c hf with h | h
    · rcases foot' c h with h | h
      · exact .inl h
      · exact .inr (cfree c h)
    · refine .inr ?_
      cases e : s.heap.get? c with
      | none => rfl
      | some o => have := up c o e; have h : h₁.get? c = none := h; rw [h] at this; cases this
  have fin : ∀ rv mv, VMatch s2.heap mv rv → Q mv σ2 → PostE W X l σ s Q rv s2 := by
   intro rv mv mrv q
   refine .here mrv ⟨?_, fun c o e => keep c o (R.base c o e) (fun hf => by rw [(R.off c hf).1] at e; cases e), ?_, R.locNew, R2.om, fun c hf => ?_, R2.dj1, R2.dj2⟩ ⟨?_, fun c o e nf _ => keep c o e nf, cap2⟩ q
   · obtain ⟨mm, ⟨ol, es, ep, g, r⟩, hm⟩ := R.loc
     exact ⟨mm, ⟨ol, es, ep, keep _ _ g fun hf => (R.off _ hf).2.2 rfl, r⟩, fun y u e => let ⟨ru, p, z⟩ := hm y u e; ⟨ru, p, z.keep kt2⟩⟩
   · obtain ⟨mm, ⟨ol, es, ep, g, r⟩⟩ := R.frL
     exact ⟨mm, ⟨ol, es, ep, keep _ _ g fun hf => (R.off _ hf).2.1 rfl, r⟩⟩
   · rcases cap2 c hf with h | h
     · exact R.off c h
     · exact (R.fresh h).2.2
   · obtain ⟨hh, tt, e⟩ := S2.same
     exact ⟨hh, tt, by rw [e]⟩
  cases fw with
  | next => obtain rfl : fl2 = .next := mf; exact fin .none .none rfl q
  | ret v => obtain ⟨rv, rfl, mv⟩ := mf; exact fin rv v mv q

/-- the text's own def by its place -/
theorem ev_def {x : Str} {npos : Pos} (i : Nat) (hm : (i, x) ∈ defTab)
    (h : EvA W X l σ es fun vs σ₁ => OpC W X l σ₁ (.ref (W.fn i)) vs Q) (hp : backTo pos (starEach es X.env) = plainArgs es X.env := by rfl)
    (hl : X.env.kindOf x = some .globalImplicit := by rfl) (hd : (x == ("__debug__" : Str)) = false := by rfl)
    (he : eval (.Call (.Name x npos) es [] pos) X.env = (do callWith pos (← eval (.Name x npos) X.env) [] (backTo pos (starEach es X.env)) (backToKw pos (keywordEach [] X.env))) := by rfl) :
    Ev W X l σ (.Call (.Name x npos) es [] pos) Q := fun ok => let D := ok.k.fn _ hm; ev_gcall D.ns D.keep h hp hl hd he ok
theorem ev_new {x : Str} {npos : Pos} (C : Cls) (hx : x = C.name)
    (h : EvA W X l σ es fun vs σ₁ => OpC W X l σ₁ (.ref (W.cls C)) vs Q) (hp : backTo pos (starEach es X.env) = plainArgs es X.env := by rfl)
    (hl : X.env.kindOf x = some .globalImplicit := by rfl) (hd : (x == ("__debug__" : Str)) = false := by rfl)
    (he : eval (.Call (.Name x npos) es [] pos) X.env = (do callWith pos (← eval (.Name x npos) X.env) [] (backTo pos (starEach es X.env)) (backToKw pos (keywordEach [] X.env))) := by rfl) :
    Ev W X l σ (.Call (.Name x npos) es [] pos) Q := fun ok => let D := ok.k.cl C; ev_gcall (hx ▸ D.ns) D.keep h hp hl hd he ok
/-- the call of the def at a place: its body is to be walked -/
theorem def_call {x : Str} {args : List MVal} (i : Nat) (hm : (i, x) ∈ defTab) (names : List Str) (hn : X.n < 60) (hlen : args.length = names.length)
    (hbind : ∀ (rargs : List Value) doc pm an cdv ct, rargs.length = names.length → bindArgs (fnOf x x (fArgs (topS i)) (fBody (topS i)) (fScope (topS i)) .none .none doc pm an cdv ct) ⟨rargs, []⟩ = pure (names.zip rargs))
    (hnk : (names.all fun y => (fScope (topS i)).names.lookup y == some .local || (fScope (topS i)).names.lookup y == some .cell) = true)
    (hnd : ((cellsFrom 0 (fScope (topS i)).names []).map (·.1)).Nodup)
    (hco : (fScope (topS i)).isCoroutine = false) (hgen : (fScope (topS i)).isGenerator = false) (hk : (fScope (topS i)).kind = .function)
    (h : ∀ A h₀ L outer base A₀ cdv σ', CellsSt (cellsFrom (L + 1) (fScope (topS i)).names []) (mbindC (envX x (fScope (topS i)) L (W.fn i) cdv (cellsFrom (L + 1) (fScope (topS i)).names [])).kindOf (names.zip args) fun _ => none) σ σ' →
      Ex W (mkCx x (fScope (topS i)) (W.fn i) (X.n + 1) A h₀ L outer base A₀ cdv) (mbindL (envX x (fScope (topS i)) L (W.fn i) cdv (cellsFrom (L + 1) (fScope (topS i)).names [])).kindOf (names.zip args) fun _ => none) σ' (fBody (topS i)) fun fl _ σ'' => Q (retOf fl) σ'') :
    OpC W X l σ (.ref (W.fn i)) args Q := fun ok => opc_of (fn_code (ok.k.fn _ hm).at_ hn hbind hlen hnk hnd h hco hgen hk) ok

/-- .. where no name lies in a cell -/
theorem def_call0 {x : Str} {args : List MVal} (i : Nat) (hm : (i, x) ∈ defTab) (names : List Str) (hn : X.n < 60) (hlen : args.length = names.length)
    (hbind : ∀ (rargs : List Value) doc pm an cdv ct, rargs.length = names.length → bindArgs (fnOf x x (fArgs (topS i)) (fBody (topS i)) (fScope (topS i)) .none .none doc pm an cdv ct) ⟨rargs, []⟩ = pure (names.zip rargs))
    (hnk : (names.all fun y => (fScope (topS i)).names.lookup y == some .local || (fScope (topS i)).names.lookup y == some .cell) = true)
    (hnc : ∀ n, cellsFrom n (fScope (topS i)).names [] = [])
    (hco : (fScope (topS i)).isCoroutine = false) (hgen : (fScope (topS i)).isGenerator = false) (hk : (fScope (topS i)).kind = .function)
    (h : ∀ A h₀ L outer base A₀ cdv,
      Ex W (mkCx x (fScope (topS i)) (W.fn i) (X.n + 1) A h₀ L outer base A₀ cdv) (mbindL (envX x (fScope (topS i)) L (W.fn i) cdv (cellsFrom (L + 1) (fScope (topS i)).names [])).kindOf (names.zip args) fun _ => none) σ (fBody (topS i)) fun fl _ σ'' => Q (retOf fl) σ'') :
    OpC W X l σ (.ref (W.fn i)) args Q :=
  def_call i hm names hn hlen hbind hnk (by rw [hnc]; exact List.nodup_nil) hco hgen hk fun A h₀ L outer base A₀ cdv σ' C => by
    have : σ' = σ := funext fun a => C.off a (by rw [hnc]; exact List.not_mem_nil)
    rw [this]; exact h A h₀ L outer base A₀ cdv
theorem len_succ {n : Nat} {xs : List Value} (e : xs.length = n + 1) : ∃ a r, xs = a :: r ∧ r.length = n := by
  cases xs with
  | nil => cases e
  | cons a r => exact ⟨a, r, rfl, Nat.succ.inj e⟩
theorem len1 {xs : List Value} (e : xs.length = 1) : ∃ a, xs = [a] := by
  obtain ⟨a, r, rfl, e'⟩ := len_succ e
  cases r with
  | nil => exact ⟨a, rfl⟩
  | cons _ _ => cases e'
theorem len2 {xs : List Value} (e : xs.length = 2) : ∃ a b, xs = [a, b] := by
  obtain ⟨a, r, rfl, e'⟩ := len_succ e
  obtain ⟨b, rfl⟩ := len1 e'
  exact ⟨a, b, rfl⟩
theorem len3 {xs : List Value} (e : xs.length = 3) : ∃ a b c, xs = [a, b, c] := by
  obtain ⟨a, r, rfl, e'⟩ := len_succ e
  obtain ⟨b, c, rfl⟩ := len2 e'
  exact ⟨a, b, c, rfl⟩
theorem len4 {xs : List Value} (e : xs.length = 4) : ∃ a b c d, xs = [a, b, c, d] := by
  obtain ⟨a, r, rfl, e'⟩ := len_succ e
  obtain ⟨b, c, d, rfl⟩ := len3 e'
  exact ⟨a, b, c, d, rfl⟩
theorem len5 {xs : List Value} (e : xs.length = 5) : ∃ a b c d f, xs = [a, b, c, d, f] := by
  obtain ⟨a, r, rfl, e'⟩ := len_succ e
  obtain ⟨b, c, d, f, rfl⟩ := len4 e'
  exact ⟨a, b, c, d, f, rfl⟩

theorem make_weight {C : Addr} {rest : List Value} : (Code.builtin "type.__call__" ⟨.ref C :: rest, []⟩).weight = 1 := by kernel_rfl
theorem make_units {C : Addr} {rest : List Value} : (Code.builtin "type.__call__" ⟨.ref C :: rest, []⟩).cUnits = 1 := by kernel_rfl
theorem make_envs {C : Addr} {rest : List Value} : (Code.builtin "type.__call__" ⟨.ref C :: rest, []⟩).envs = [] := by kernel_rfl
/-- an instance is made -/
theorem cls_call (r : Nat) {C : Cls} {args : List MVal} (hn : X.n < 58)
    (h : ∀ X' x dx, X' = { X with A := X'.A, n := X.n + 1 } → σ x = none → OpF W X' l (σ.set x ⟨r, .inst C dx 0 fun _ => none⟩) (.ref (W.ini C)) (.ref x :: args) fun v σ' => v = .none ∧ Q (.ref x) σ') :
    OpC W X l σ (.ref (W.cls C)) args Q := by
  intro ok s rargs R m
  have D := ok.k.cl C
  refine wpAny_call ?_
  obtain ⟨hh, g, d, t, os⟩ := s
  have K0 := R.kin ok
  refine make_core (makes_of K0 D.makes) (looks_findIn K0 D.find) (fun self => bind_fn K0 self D.typ) (.inl rfl) ?_
  have k : ∀ b o, hh.get? b = some o → ((hh.push emptyDict).push (instObj (W.cls C) hh.objs.size)).get? b = some o := fun b o e => Heap.get?_push_of_some _ (Heap.get?_push_of_some _ e)
  have n0 := heap_none hh
  have n1 : hh.get? (hh.objs.size + 1) = none := by
    cases e : hh.get? (hh.objs.size + 1) with
    | none => rfl
    | some o => exact absurd (Nat.lt_of_succ_lt (Heap.lt_size e)) (Nat.lt_irrefl _)
  have gx : ((hh.push emptyDict).push (instObj (W.cls C) hh.objs.size)).get? (hh.objs.size + 1) = some (instObj (W.cls C) hh.objs.size) := by heap_get
  have gd : ((hh.push emptyDict).push (instObj (W.cls C) hh.objs.size)).get? hh.objs.size = some emptyDict := by heap_get
  obtain ⟨R', S'⟩ := R.allocInst (s := ⟨hh, g, d, t, os⟩) (tk := t) (r := r) (nf := 0) (fs := fun _ => none) (C := C) (h' := (hh.push emptyDict).push (instObj (W.cls C) hh.objs.size)) n1 n0 (Nat.ne_of_lt (Nat.lt_succ_self _)) k
    ⟨gx, #[], _, gd, by intro e he; simp at he, by simp, fun f v e => by cases e⟩
  let X' : Cx := { X with A := X.A.under (.builtin "type.__call__" ⟨.ref (W.cls C) :: rargs, []⟩), n := X.n + 1 }
  have hfr : X'.A.frames = X.A.frames := by
    show (X.A.under (.builtin "type.__call__" ⟨.ref (W.cls C) :: rargs, []⟩)).frames = _
    unfold Around.under
    rw [make_envs]; rfl
  have hdp : X'.A.depth = X.A.depth + 1 := by
    show (X.A.under (.builtin "type.__call__" ⟨.ref (W.cls C) :: rargs, []⟩)).depth = _
    unfold Around.under
    rw [make_weight]
  have hun : X'.A.units = X.A.units + 1 := by
    show (X.A.under (.builtin "type.__call__" ⟨.ref (W.cls C) :: rargs, []⟩)).units = _
    unfold Around.under
    rw [make_units]
  have ok' : Ok W X' := { ok with
    fr := hfr.trans ok.fr
    hd := ok.hd
    dep := by rw [hdp]; show X.A.depth + 1 ≤ 301 + 10 * (X.n + 1); have := ok.dep; omega
    uni := by rw [hun]; show X.A.units + 1 ≤ 4 + 20 * (X.n + 1); have := ok.uni; omega
    lvl := by show X.n + 1 ≤ 60; omega }
  have hc := h X' (hh.objs.size + 1) hh.objs.size rfl (R.fresh n1).2.1 ok' _ (.ref (hh.objs.size + 1) :: rargs) (⟨R'.loc, R'.base, R'.frL, R'.locNew, R'.om, R'.off, R'.dj1, R'.dj2⟩ : SRel W X' l _ _) ⟨rfl, m.mono fun _ _ z => z.step R S'⟩
  refine codeAny_mono hc fun r s' z => ?_
  rcases r with e | (v | _ | _ | _) <;> first | exact z.elim | skip
  obtain ⟨mv, σ', mm, R2, S2, rfl, q⟩ := z
  refine ⟨mm, ?_⟩
  exact ⟨.ref _, σ', rfl, ⟨R2.loc, R2.base, R2.frL, R2.locNew, R2.om, R2.off, R2.dj1, R2.dj2⟩, S'.trans R' ⟨S2.same, S2.keep, S2.cap⟩, q⟩
end
end

section
abbrev Cx.comp (X : Cx) (scope : Scope) (cl : List (Str × Addr)) (C : Addr) : Cx := { X with env := compEnvC scope cl C X.env }
noncomputable def SelfIt (W : Wd) (X : Cx) (it : Addr) (IT : Nat → Heap → Prop) : Prop :=
  ∀ i s (Q : Value → Shared → Prop) (E : Value → Shared → Prop), IT i s.heap → Q (.ref it) s → wpAny W.M X.A (pyIter (.ref it)) Q E s

section
variable {W : Wd} {X : Cx} {l l' : Lcl} {σ σ₁ σ₀ : Store} {s s' s₀ s₁ : Shared} {e e₁ e₂ o i : Expr} {es : List Expr} {a b v : MVal} {pos p' : Pos} {rest body orelse : List Stmt} {scope : Scope} {cl : List (Str × Addr)} {C D : Addr}

theorem Ok.comp (ok : Ok W X) (hk : scope.kind = .function) : Ok W (X.comp scope cl C) := { ok with ek := by simp [compEnvC, relabel, hk] }
theorem SRel.comp_in (R : SRel W X l σ s) (hC : ∃ m, s.heap.Ns C m) (n0 : X.h₀.get? C = none) (nf : ¬ Foot σ C) : SRel W (X.comp scope cl C) (fun _ => none) σ s := by
  refine ⟨?_, R.base, R.frL, n0, R.om, fun a ha => ⟨(R.off a ha).1, (R.off a ha).2.1, fun e => nf (by rw [← show a = C from e]; exact ha)⟩, R.dj1, R.dj2⟩
  obtain ⟨m, hm⟩ := hC
  exact ⟨m, hm, fun x v e => by cases e⟩
theorem comp_back (R : SRel W X l σ s) (S : Stp X σ₀ s₀ σ s) (h0 : s₀.heap.get? C = none) (nL : C ≠ X.L) (nl : C ≠ X.env.locals) {l₁ l₂ : Lcl} (R0 : SRel W (X.comp scope cl C) l₁ σ s) (R' : SRel W (X.comp scope cl C) l₂ σ s')
    (S' : Stp (X.comp scope cl C) σ s σ s') : SRel W X l σ s' ∧ Stp X σ₀ s₀ σ s' := by
  have kt : TKeep s.heap s'.heap := R0.tkeep S'
  refine ⟨⟨?_, R'.base, R'.frL, R.locNew, R'.om, R.off, R.dj1, R.dj2⟩, ⟨?_, fun a o e nf nla => ?_, S.cap⟩⟩
  · obtain ⟨m, ⟨ol, es, ep, g, r⟩, hm⟩ := R.loc
    exact ⟨m, ⟨ol, es, ep, S'.keep _ _ g (fun hf => (R.off _ hf).2.2 rfl) (Ne.symm nl), r⟩, fun x v e => let ⟨rv, p, q⟩ := hm x v e; ⟨rv, p, q.keep kt⟩⟩
  · obtain ⟨h, tk, rfl⟩ := S.same
    obtain ⟨h', tk', rfl⟩ := S'.same
    exact ⟨h', tk', rfl⟩
  · have e1 := S.keep a o e nf nla
    refine S'.keep a o e1 (fun hf => ?_) (fun q => by have q : a = C := q; rw [q, h0] at e; cases e)
    rcases S.cap a hf with h | h
    · exact nf h
    · rw [e] at h; cases h

/-- a list that was made beside the store comes into it -/
theorem SRel.adopt (R : SRel W X l σ s) (S : Stp X σ₀ s₀ σ s) {r : Nat} {vs : List MVal} (h0 : s₀.heap.get? D = none) (nf : ¬ Foot σ D) (n0 : X.h₀.get? D = none) (nL : D ≠ X.L) (nl : D ≠ X.env.locals) (hm : OM W s.heap D (.list vs)) :
    SRel W X l (σ.set D ⟨r, .list vs⟩) s ∧ Stp X σ₀ s₀ (σ.set D ⟨r, .list vs⟩) s := by
  have na : σ D = none := by
    cases e : σ D with
    | none => rfl
    | some o => exact absurd (.of e) nf
  refine ⟨⟨R.loc, R.base, R.frL, R.locNew, fun c oc e => ?_, fun c hc => ?_, fun x q C dx nf' fs hx => ?_, fun x y q q' C D' dx nf' mf fs gs hx hy => ?_⟩, ⟨S.same, S.keep, fun c hc => ?_⟩⟩
  · by_cases q : c = D
    · subst q; rw [Store.set_self] at e; cases e; exact hm
    · rw [Store.set_ne _ _ q] at e; exact R.om c oc e
  · rcases foot_set notInst_list hc with h | rfl
    · exact R.off c h
    · exact ⟨n0, nL, nl⟩
  · by_cases q' : x = D
    · subst q'; rw [Store.set_self] at hx; cases hx
    · rw [Store.set_ne _ _ q'] at hx
      rw [Store.set_ne]
      · exact R.dj1 _ _ _ _ _ _ hx
      · rintro rfl; exact nf (.inr ⟨_, _, _, _, _, hx⟩)
  · by_cases q1 : x = D
    · subst q1; rw [Store.set_self] at hx; cases hx
    · by_cases q2 : y = D
      · subst q2; rw [Store.set_self] at hy; cases hy
      · rw [Store.set_ne _ _ q1] at hx; rw [Store.set_ne _ _ q2] at hy
        exact R.dj2 _ _ _ _ _ _ _ _ _ _ _ hx hy
  · rcases foot_set notInst_list hc with h | rfl
    · exact S.cap c h
    · exact .inr h0

theorem SRel.beside2 (R : SRel W X l σ s) {it : Addr} {h' : Heap} {tk : Nat} (k : ∀ a o, a ≠ it → s.heap.get? a = some o → h'.get? a = some o) (nf : ¬ Foot σ it) (nl : it ≠ X.env.locals) (nL : it ≠ X.L) (n0 : X.h₀.get? it = none)
    (kt : TKeep s.heap h') : SRel W X l σ { s with heap := h', toks := tk } := by
  refine ⟨?_, fun a o e => k a o (fun q => by rw [q, n0] at e; cases e) (R.base a o e), ?_, R.locNew, fun a o e => ?_, R.off, R.dj1, R.dj2⟩
  · obtain ⟨m, ⟨ol, es, ep, g, r⟩, hm⟩ := R.loc
    exact ⟨m, ⟨ol, es, ep, k _ _ (Ne.symm nl) g, r⟩, fun x v e => let ⟨rv, p, q⟩ := hm x v e; ⟨rv, p, q.keep kt⟩⟩
  · obtain ⟨m, ⟨ol, es, ep, g, r⟩⟩ := R.frL; exact ⟨m, ⟨ol, es, ep, k _ _ (Ne.symm nL) g, r⟩⟩
  · refine (R.om a o e).keep kt (fun o' g => k a o' (fun q => nf (q ▸ .of e)) g) fun C dx nf' fs hb o' g => k dx o' (fun q => ?_) g
    exact nf (q ▸ .inr ⟨a, o.role, C, nf', fs, by rw [e, ← hb]⟩)
theorem tkeep_but {h h' : Heap} {it : Addr} (k : ∀ a o, a ≠ it → h.get? a = some o → h'.get? a = some o) (hc : ∀ o, h.get? it = some o → ∀ items n, o.data = .seq items n → o.cls ≠ .type "tuple") : TKeep h h' := fun a o e hcl ⟨items, n, hd⟩ =>
  k a o (fun q => by subst q; exact hc o e items n hd hcl) e
theorem Ns_notTup {h : Heap} {C : Addr} (hC : ∃ m, h.Ns C m) : ∀ o, h.get? C = some o → ∀ items n, o.data = .seq items n → o.cls ≠ .type "tuple" := fun o e items n hd => by
  obtain ⟨m, o', es, ep, g, hd', _⟩ := hC
  rw [e] at g; cases g; rw [hd] at hd'; cases hd'

/-- the tests of a comprehension -/
noncomputable def Ifs (W : Wd) (X : Cx) (l : Lcl) (σ : Store) (ifs : List Expr) (c : Bool) : Prop := match ifs with
  | [] => c = true
  | [t] => PT W X l σ t c
  | _ => False
structure Beside (X : Cx) (σ : Store) (s₀ s : Shared) (C : Addr) : Prop where
  ns : ∃ m, s.heap.Ns C m
  nf : ¬ Foot σ C
  n0 : X.h₀.get? C = none
  nL : C ≠ X.L
  nl : C ≠ X.env.locals
  old : s₀.heap.get? C = none
structure CState (W : Wd) (X : Cx) (l : Lcl) (σ₀ σ : Store) (s₀ : Shared) (C D : Addr) (IT : Nat → Heap → Prop) (i : Nat) (rs : List MVal) (s : Shared) : Prop where
  R : SRel W X l σ s
  S : Stp X σ₀ s₀ σ s
  ns : ∃ m, s.heap.Ns C m
  hit : IT i s.heap
  acc : ∃ ys, s.heap.PlainList D ys ∧ All2 (VMatch s.heap) rs ys.toList

theorem comp_loop {α : Type} {elt iter : Expr} {x : Str} {px : Pos} {ifs : List Expr} {xs : List α} {F : α → MVal} {p : α → Bool} {g : α → MVal} {it y : Addr} {IT : Nat → Heap → Prop} {RR : Result → Shared → Prop}
    (ok : Ok W X) (hk : scope.kind = .function) (hx : scope.names.lookup x = some .local)
    (T : Iter W (X.comp scope cl C) (fun _ _ σ' => σ' = σ) xs.length (fun i => ((xs[i]?).map F).getD .none) it y IT) (hz : xs.length ≤ 16777216)
    (ht : ∀ a ∈ xs, Ifs W (X.comp scope cl C) (upd (fun _ => none) x (F a)) σ ifs (p a))
    (he : ∀ a ∈ xs, p a = true → PE W (X.comp scope cl C) (upd (fun _ => none) x (F a)) σ elt (g a))
    (fi : ¬ Foot σ it ∧ it ≠ X.env.locals ∧ it ≠ X.L ∧ X.h₀.get? it = none ∧ s₀.heap.get? it = none) (fy : ¬ Foot σ y) 
    (fC : ¬ Foot σ C ∧ C ≠ X.env.locals ∧ C ≠ X.L ∧ X.h₀.get? C = none ∧ s₀.heap.get? C = none)
    (fD : ¬ Foot σ D ∧ D ≠ X.env.locals ∧ D ≠ X.L ∧ X.h₀.get? D = none ∧ s₀.heap.get? D = none)
    (d1 : it ≠ C) (d2 : it ≠ D) (d3 : C ≠ D) (d4 : y ≠ C) (d5 : y ≠ D) (st : CState W X l σ₀ σ s₀ C D IT 0 [] s)
    (hR : ∀ s' n, CState W X l σ₀ σ s₀ C D (fun _ _ => True) n ((xs.filter p).map g) s' → RR (.ok .next) s') :
    codeAny W.M X.A (.compLoop (.ListComp elt [⟨.Name x px, iter, ifs, 0⟩] scope pos) 0 (.ref it) (.ref D) (compEnvC scope cl C X.env)) RR s := by
  have okc : Ok W (X.comp scope cl C) := ok.comp hk
  have hlx : (X.comp scope cl C).env.kindOf x = some .local := lookup_relabel_local hx
  refine codeAny_compLoop_tests (fun k s' => ∃ i, i ≤ xs.length ∧ k = xs.length - i ∧ CState W X l σ₀ σ s₀ C D IT i (((xs.take i).filter p).map g) s') ?_ xs.length ⟨0, Nat.zero_le _, rfl, by simpa using st⟩
  rintro k s' ⟨i, hi, rfl, R, S, ns, hit, ys, hD, mD⟩
  have RC := R.comp_in (scope := scope) (cl := cl) ns fC.2.2.2.1 fC.1
  by_cases hlt : i < xs.length
  · obtain ⟨a, ha⟩ : ∃ a, xs[i]? = some a := ⟨xs[i], by simp [hlt]⟩
    have hmem : a ∈ xs := List.mem_of_getElem? ha
    refine wpAny_mono (T.next okc i _ σ s' (fun r s₁ => match r with
      | none => False
      | some v => CState W X l σ₀ σ s₀ C D IT (i + 1) (((xs.take i).filter p).map g) s₁ ∧ VMatch s₁.heap (F a) v) hlt rfl RC hit ?_) ?_ fun _ _ x => x.elim
    · intro rv h' tk mv hs hit2
      rw [ha] at mv
      have k : ∀ a o, a ≠ it → s'.heap.get? a = some o → h'.get? a = some o := fun a o ne e => (hs.2 a ne).trans e
      have kt : TKeep s'.heap h' := tkeep_but k fun o e _ _ _ => by obtain ⟨o', e', hc⟩ := T.live i _ hit; rw [e] at e'; cases e'; exact hc
      obtain ⟨m, nsm⟩ := ns
      refine ⟨⟨R.beside2 k fi.1 fi.2.1 fi.2.2.1 fi.2.2.2.1 kt, S.beside fi.2.2.2.2 k, ⟨m, nsm.at' fun o e => k _ o (Ne.symm d1) e⟩, hit2, ys, hD.at fun o e => k _ o (Ne.symm d2) e, mD.vkeep kt⟩, mv⟩
    · rintro (_ | v) s2 h2
      · exact h2.elim
      · obtain ⟨⟨R2, S2, ns2, hit2, ys2, hD2, mD2⟩, mv⟩ := h2
        have RC2 := R2.comp_in (scope := scope) (cl := cl) ns2 fC.2.2.2.1 fC.1
        refine wpAny_mono (wpAny_assign_Name (store_here (Q := fun _ s3 => SRel W (X.comp scope cl C) (upd (fun _ => none) x (F a)) σ s3 ∧ Stp (X.comp scope cl C) σ s2 σ s3) okc RC2 mv hlx fun s3 RC3 SC3 => ⟨RC3, SC3⟩)) ?_ fun _ _ x => x.elim
        rintro _ s3 ⟨RC3, SC3⟩
        -- after the name is bound
        obtain ⟨R3, S3⟩ := comp_back R2 S2 fC.2.2.2.2 fC.2.2.1 fC.2.1 RC2 RC3 SC3
        have kt3 : TKeep s2.heap s3.heap := RC2.tkeep SC3
        have go : ∀ s3 s4 l₁ l₂ rs j, CState W X l σ₀ σ s₀ C D IT j rs s3 → SRel W (X.comp scope cl C) l₁ σ s3 → SRel W (X.comp scope cl C) l₂ σ s4 → Stp (X.comp scope cl C) σ s3 σ s4 → CState W X l σ₀ σ s₀ C D IT j rs s4 := by
          rintro s3 s4 l₁ l₂ rs j ⟨R3, S3, ns3, hit3, ys3, hD3, mD3⟩ RC3 RC4 SC4
          obtain ⟨R4, S4⟩ := comp_back R3 S3 fC.2.2.2.2 fC.2.2.1 fC.2.1 RC3 RC4 SC4
          have k4 : ∀ a o, ¬ Foot σ a → a ≠ C → s3.heap.get? a = some o → s4.heap.get? a = some o := fun a o nf nc e => SC4.keep a o e nf nc
          obtain ⟨m, hm, _⟩ := RC4.loc
          exact ⟨R4, S4, ⟨m, hm⟩, T.same _ _ _ hit3 (fun o e => k4 _ o fi.1 d1 e) (fun o e => k4 _ o fy d4 e), ys3, hD3.at fun o e => k4 _ o fD.1 (Ne.symm d3) e, mD3.vkeep (RC3.tkeep SC4)⟩
        have C3 := go s2 s3 _ _ _ _ ⟨R2, S2, ns2, hit2, ys2, hD2, mD2⟩ RC2 RC3 SC3
        have tests : wpAny W.M X.A (forIn ifs true fun c r => if r = true then do let ok ← isTrue c (compEnvC scope cl C X.env) (eval c (compEnvC scope cl C X.env)); pure (ForInStep.yield ok) else pure (ForInStep.yield r))
            (fun ok s4 => ok = p a ∧ ∃ l₂, SRel W (X.comp scope cl C) l₂ σ s4 ∧ Lcl.le (upd (fun _ => none) x (F a)) l₂ ∧ CState W X l σ₀ σ s₀ C D IT (i + 1) (((xs.take i).filter p).map g) s4) NoE s3 := by
          have ht' := ht a hmem
          match ifs, ht' with
          | [], h => exact wpAny_tests_nil ⟨h.symm, _, RC3, Lcl.le_refl _, C3⟩
          | [t], h =>
            refine wpAny_tests_one (wpAny_mono (h.te okc s3 RC3) ?_ fun _ _ x => x)
            rintro c s4 ⟨_, RC4, SC4, rfl, rfl⟩
            exact ⟨rfl, _, RC4, Lcl.le_refl _, go _ _ _ _ _ _ C3 RC3 RC4 SC4⟩
          | _ :: _ :: _, h => exact h.elim
        refine wpAny_mono tests ?_ fun _ _ x => x.elim
        rintro c s4 ⟨rfl, l4, RC4, le4, C4⟩
        have take1 : xs.take (i + 1) = xs.take i ++ [a] := by rw [List.take_add_one, ha]; rfl
        cases hp : p a with
        | false =>
          rw [if_neg (by decide)]
          refine ⟨xs.length - (i + 1), by omega, i + 1, hlt, rfl, ?_⟩
          rw [take1, List.filter_append]; simpa [hp] using C4
        | true =>
          rw [if_pos rfl]
          refine wpAny_mono ((he a hmem hp).ev okc s4 (RC4.weak le4)) ?_ fun _ _ x => x.elim
          rintro rv s5 ⟨_, _, mv5, RC5, SC5, rfl, rfl⟩
          have C5 := go _ _ _ _ _ _ C4 RC4 RC5 SC5
          obtain ⟨R5, S5, ns5, hit5, ys5, hD5, mD5⟩ := C5
          have hl5 : (((xs.take i).filter p).map g).length ≤ xs.length := by
            rw [List.length_map]
            exact Nat.le_trans (List.length_filter_le _ _) (by rw [List.length_take]; omega)
          refine wpAny_list_append_plain (hsz := by rw [size_of mD5, lineIs]; omega) hD5 fun h6 hD6 hs6 => ?_
          have k6 : ∀ a o, a ≠ D → s5.heap.get? a = some o → h6.get? a = some o := fun a o ne e => (hs6.2 a ne).trans e
          have kt6 : TKeep s5.heap h6 := tkeep_but k6 fun o e items n hd => by obtain ⟨n', g'⟩ := hD5; rw [e] at g'; cases g'; simp
          obtain ⟨m5, hm5⟩ := ns5
          refine ⟨xs.length - (i + 1), by omega, i + 1, hlt, rfl, ?_⟩
          rw [take1, List.filter_append, List.map_append]
          refine ⟨R5.beside2 (tk := s5.toks) k6 fD.1 fD.2.1 fD.2.2.1 fD.2.2.2.1 kt6, S5.beside (tk := s5.toks) fD.2.2.2.2 k6, ⟨m5, hm5.at' fun o e => k6 _ o d3 e⟩, T.same _ _ _ hit5 (fun o e => k6 _ o d2 e) (fun o e => k6 _ o d5 e), _, hD6, ?_⟩
          rw [Array.toList_push]
          have := (mD5.vkeep kt6).snoc (mv5.keep kt6)
          simpa [hp] using this
  · have hin : i = xs.length := by omega
    subst hin
    refine wpAny_mono (T.stop okc _ σ s' (fun r s₁ => r = none ∧ CState W X l σ₀ σ s₀ C D (fun _ _ => True) xs.length ((xs.filter p).map g) s₁) rfl RC hit ?_) ?_ fun _ _ x => x.elim
    · intro h' tk hs
      have k : ∀ a o, a ≠ it → s'.heap.get? a = some o → h'.get? a = some o := fun a o ne e => hs a o ne e
      have kt : TKeep s'.heap h' := tkeep_but k fun o e _ _ _ => by obtain ⟨o', e', hc⟩ := T.live _ _ hit; rw [e] at e'; cases e'; exact hc
      obtain ⟨m, nsm⟩ := ns
      rw [List.take_length] at mD
      exact ⟨rfl, R.beside2 k fi.1 fi.2.1 fi.2.2.1 fi.2.2.2.1 kt, S.beside fi.2.2.2.2 k, ⟨m, nsm.at' fun o e => k _ o (Ne.symm d1) e⟩, trivial, ys, hD.at fun o e => k _ o (Ne.symm d2) e, mD.vkeep kt⟩
    · rintro _ s2 ⟨rfl, C2⟩
      exact hR s2 _ C2

/-- the whole of a comprehension behind its iterator -/
theorem comp_block {α : Type} {elt iter : Expr} {x : Str} {px : Pos} {ifs : List Expr} {xs : List α} {F : α → MVal} {p : α → Bool} {g : α → MVal} {it y : Addr} {IT : Nat → Heap → Prop} {RR : Value → Addr → Result → Shared → Prop} {E : Value → Shared → Prop}
    (r : Nat) (ok : Ok W X) (hk : scope.kind = .function) (hcell : ∀ y ∈ scope.names, y.2 ≠ .cell) (hx : scope.names.lookup x = some .local)
    (T : ∀ C, Iter W (X.comp scope cl C) (fun _ _ σ' => σ' = σ) xs.length (fun i => ((xs[i]?).map F).getD .none) it y IT) (self : SelfIt W X it IT) (hz : xs.length ≤ 16777216)
    (ht : ∀ C, ∀ a ∈ xs, Ifs W (X.comp scope cl C) (upd (fun _ => none) x (F a)) σ ifs (p a))
    (he : ∀ C, ∀ a ∈ xs, p a = true → PE W (X.comp scope cl C) (upd (fun _ => none) x (F a)) σ elt (g a))
    (R : SRel W X l σ s) (S : Stp X σ₀ s₀ σ s) (hit : IT 0 s.heap) (up0 : ∀ a o, s₀.heap.get? a = some o → s.heap.get? a = some o) (i0 : s₀.heap.get? it = none) (fi : ¬ Foot σ it ∧ it ≠ X.env.locals ∧ it ≠ X.L ∧ X.h₀.get? it = none) (fy : ¬ Foot σ y)
    (hR : ∀ C D s', SRel W X l (σ.set D ⟨r, .list ((xs.filter p).map g)⟩) s' → Stp X σ₀ s₀ (σ.set D ⟨r, .list ((xs.filter p).map g)⟩) s' → σ D = none → Beside X (σ.set D ⟨r, .list ((xs.filter p).map g)⟩) s₀ s' C → RR (.ref D) C (.ok .next) s') :
    wpAny W.M X.A (newList []) (fun acc s₃ => wpAny W.M X.A (newFunctionEnv scope X.env.globals cl [] X.env.qual none .none (some X.env)) (fun cenv s₄ =>
      codeAny W.M X.A (.compStart (.ListComp elt [⟨.Name x px, iter, ifs, 0⟩] scope pos) 0 (.ref it) acc { cenv with scope := relabel scope X.env }) (RR acc cenv.locals) s₄) E s₃) E s := by
  refine wpAny_newObj_type (wpAny_newFunctionEnv hcell (by intro y hy; simp at hy) (fun h₁ hns₁ hsb₁ => ?_) hk)
  dsimp only at hns₁ hsb₁ ⊢
  generalize hH2 : s.heap.push { cls := .type "list", dict := none, data := .seq ([] : List Value).toArray } = H2 at hns₁ hsb₁ ⊢
  have hC : H2.objs.size = s.heap.objs.size + 1 := by rw [← hH2, Heap.size_push]
  have n0 := heap_none s.heap
  have n1 : s.heap.get? H2.objs.size = none := by
    rw [hC]
    cases e : s.heap.get? (s.heap.objs.size + 1) with
    | none => rfl
    | some o => exact absurd (Nat.lt_of_succ_lt (Heap.lt_size e)) (Nat.lt_irrefl _)
  have up : ∀ a o, s.heap.get? a = some o → h₁.get? a = some o := fun a o e => (hsb₁.2 a (fun q => by rw [q, n1] at e; cases e)).trans (hH2 ▸ Heap.get?_push_of_some _ (Heap.get?_push_of_some _ e))
  have hDC : s.heap.objs.size ≠ H2.objs.size := by rw [hC]; exact Nat.ne_of_lt (Nat.lt_succ_self _)
  have hD : h₁.PlainList s.heap.objs.size #[] := ⟨0, (hsb₁.2 _ hDC).trans (Heap.get?_push_of_some _ (hH2 ▸ Heap.get?_push_size _ rfl))⟩
  obtain ⟨R1, S1⟩ := R.ext (h' := h₁) (tk := s.toks + ([] : List (Str × Value)).length) up
  obtain ⟨f1, f2, f3, f4, f5⟩ := R.fresh n0
  obtain ⟨g1, g2, g3, g4, g5⟩ := R.fresh n1
  have old : ∀ a, s.heap.get? a = none → s₀.heap.get? a = none := fun a ha => by
    cases e : s₀.heap.get? a with
    | none => rfl
    | some o => rw [up0 a o e] at ha; cases ha
  obtain ⟨oi, gi, _⟩ := (T 0).live 0 _ hit
  obtain ⟨oy, gy⟩ := (T 0).live2 0 _ hit
  have hit1 : IT 0 h₁ := (T 0).same _ _ _ hit (fun o e => up _ o e) fun o e => up _ o e
  have loop : codeAny W.M X.A (.compLoop (.ListComp elt [⟨.Name x px, iter, ifs, 0⟩] scope pos) 0 (.ref it) (.ref s.heap.objs.size) (compEnvC scope cl H2.objs.size X.env)) (RR (.ref s.heap.objs.size) H2.objs.size)
      { s with heap := h₁, toks := s.toks + ([] : List (Str × Value)).length } := by
    refine comp_loop (l := l) (σ := σ) (σ₀ := σ₀) (s₀ := s₀) (C := H2.objs.size) (D := s.heap.objs.size) (F := F) (p := p) (g := g) ok hk hx (T _) hz (ht _) (he _) ⟨fi.1, fi.2.1, fi.2.2.1, fi.2.2.2, i0⟩ fy ⟨g1, g5, g4, g3, old _ n1⟩ ⟨f1, f5, f4, f3, old _ n0⟩
      (fun q => by rw [q, n1] at gi; cases gi) (fun q => by rw [q, n0] at gi; cases gi) (Ne.symm hDC) (fun q => by rw [q, n1] at gy; cases gy) (fun q => by rw [q, n0] at gy; cases gy)
      ⟨R1, S.trans R S1, ⟨_, hns₁⟩, hit1, #[], hD, trivial⟩ fun s' n st => ?_
    obtain ⟨R2, S2, ns2, _, ys, hD2, mD2⟩ := st
    obtain ⟨R3, S3⟩ := R2.adopt (r := r) S2 (old _ n0) f1 f3 f4 f5 ⟨ys, hD2, mD2⟩
    exact hR _ _ s' R3 S3 f2 ⟨ns2, fun hf => by
      rcases foot_set notInst_list hf with h | h
      · exact g1 h
      · exact hDC h.symm, g3, g4, g5, old _ n1⟩
  exact codeAny_compStart_list loop (self 0 _ _ _ hit1 loop)

/-- where a comprehension's items come from: a value that is iterated -/
noncomputable def Src (W : Wd) (X : Cx) (l : Lcl) (σ : Store) (s : Shared) {α : Type} (xs : List α) (F : α → MVal) (v : Value) : Prop :=
  ∀ (Q : Value → Shared → Prop), (∀ it y IT h' tk, (∀ a o, s.heap.get? a = some o → h'.get? a = some o) → s.heap.get? it = none → IT 0 h' → ¬ Foot σ y →
    (∀ scope cl C, scope.kind = .function → Iter W (X.comp scope cl C) (fun _ _ σ' => σ' = σ) xs.length (fun i => ((xs[i]?).map F).getD .none) it y IT) → SelfIt W X it IT → Q (.ref it) { s with heap := h', toks := tk }) → wpAny W.M X.A (pyIter v) Q NoE s
theorem src_list {α : Type} {xs : List α} {F : α → MVal} {y : Addr} {q : Nat} (ok : Ok W X) (R : SRel W X l σ s) (h : σ y = some ⟨q, .list (xs.map F)⟩) : Src W X l σ s xs F (.ref y) := by
  intro Q hQ
  obtain ⟨items, n, g, ma⟩ := R.list h
  refine wpAny_pyIter_list ⟨_, g, rfl, n, rfl⟩ ?_
  have hn := heap_none s.heap
  obtain ⟨nf, na, n0, nL, nl⟩ := R.fresh hn
  refine hQ s.heap.objs.size s.heap.objs.size (fun i h => h.IsListIter s.heap.objs.size y i) _ s.toks (fun c o e => Heap.get?_push_of_some _ e) hn ⟨_, Heap.get?_push_size _ rfl, rfl, rfl⟩ nf (fun scope cl C hk => ?_) (fun i s Q E st q => wpAny_pyIter_listiter st q)
  have T := iter_list (W := W) (X := X.comp scope cl C) (it := s.heap.objs.size) (vs := xs.map F) (I := fun _ _ σ' => σ' = σ) (x := y) fun k l₁ σ₁ e => ⟨q, by rw [e]; exact h⟩
  have e : (fun i => (xs.map F).getD i .none) = fun i => ((xs[i]?).map F).getD .none := by funext i; simp [List.getD_eq_getElem?_getD]
  rw [List.length_map, e] at T
  exact T
theorem src_tup {xs : List Atom} {rv : Value} (ok : Ok W X) (R : SRel W X l σ s) (h : VMatch s.heap (.tup xs) rv) : Src W X l σ s xs Atom.val rv := by
  intro Q hQ
  obtain ⟨y, items, rfl, ht, mx⟩ := h
  refine iter_tuple ht ?_
  have hn := heap_none s.heap
  obtain ⟨nf, na, n0, nL, nl⟩ := R.fresh hn
  obtain ⟨o, go, hc, no, hd⟩ := id ht
  obtain ⟨nfy, nly⟩ := R.tup_off go hc ⟨_, _, hd⟩
  refine hQ s.heap.objs.size y (fun i h => IsTupIter h s.heap.objs.size y i ∧ IsTup h y items) _ s.toks (fun c o e => Heap.get?_push_of_some _ e) hn ⟨⟨_, Heap.get?_push_size _ rfl, rfl, rfl⟩, ht.push _⟩ nfy (fun scope cl C hk => ?_)
    (fun i s' Q E st q => (Walks.tuple (prog := W.prog) (w := W.w) (A := X.A) ok.hd s.heap.objs.size y (Nat.ne_of_lt ht.lt) items).self i s' Q E st q)
  have T := iter_tup (W := W) (X := X.comp scope cl C) (it := s.heap.objs.size) (I := fun _ _ σ' => σ' = σ) (Nat.ne_of_lt ht.lt) mx
  have e : (fun i => (xs.getD i (.int 0)).val) = fun i => (xs.getD i (.int 0)).val := rfl
  refine ⟨fun ok i l1 σ1 s Q hi => ?_, T.stop, T.same, T.live, T.live2⟩
  have e : ((xs[i]?).map Atom.val).getD .none = (xs.getD i (.int 0)).val := by
    rw [List.getD_eq_getElem?_getD, List.getElem?_eq_getElem hi]; rfl
  dsimp only
  rw [e]
  exact T.next ok i l1 σ1 s Q hi

inductive CompE (W : Wd) (X : Cx) (l : Lcl) (scope : Scope) (cl : List (Str × Addr)) (x : Str) (elt : Expr) (ifs : List Expr) {α : Type} (xs : List α) (F : α → MVal) (p : α → Bool) (g : α → MVal) (r : Nat) (Q : MVal → Store → Prop) (v : MVal) (σ : Store) : Prop
  | mk (h1 : (∃ y q, v = .ref y ∧ σ y = some ⟨q, .list (xs.map F)⟩) ∨ ∃ as, v = .tup as ∧ xs.map F = as.map Atom.val) (h2 : xs.length ≤ 16777216)
    (h3 : ∀ C, ∀ a ∈ xs, Ifs W (X.comp scope cl C) (upd (fun _ => none) x (F a)) σ ifs (p a)) (h4 : ∀ C, ∀ a ∈ xs, p a = true → PE W (X.comp scope cl C) (upd (fun _ => none) x (F a)) σ elt (g a))
    (h5 : ∀ D, σ D = none → Q (.ref D) (σ.set D ⟨r, .list ((xs.filter p).map g)⟩)) : CompE W X l scope cl x elt ifs xs F p g r Q v σ
inductive CompX (W : Wd) (X : Cx) (l : Lcl) (scope : Scope) (cl : List (Str × Addr)) (x : Str) (elt : Expr) (ifs : List Expr) {α : Type} (xs : List α) (F : α → MVal) (p : α → Bool) (g : α → MVal) (r : Nat) (y : Str) (rest : List Stmt) (Q : Flw → Lcl → Store → Prop) (v : MVal) (σ : Store) : Prop
  | mk (h1 : (∃ y q, v = .ref y ∧ σ y = some ⟨q, .list (xs.map F)⟩) ∨ ∃ as, v = .tup as ∧ xs.map F = as.map Atom.val) (h2 : xs.length ≤ 16777216)
    (h3 : ∀ C, ∀ a ∈ xs, Ifs W (X.comp scope cl C) (upd (fun _ => none) x (F a)) σ ifs (p a)) (h4 : ∀ C, ∀ a ∈ xs, p a = true → PE W (X.comp scope cl C) (upd (fun _ => none) x (F a)) σ elt (g a))
    (h5 : ∀ D, σ D = none → Ex W X (upd l y (.ref D)) (σ.set D ⟨r, .list ((xs.filter p).map g)⟩) rest Q) : CompX W X l scope cl x elt ifs xs F p g r y rest Q v σ
theorem ev_comp {α : Type} {elt iter : Expr} {x : Str} {px : Pos} {ifs : List Expr} {Q : MVal → Store → Prop} (r : Nat) (cl : List (Str × Addr)) (xs : List α) (F : α → MVal) (p : α → Bool) (g : α → MVal)
    (hclos : closureFor scope X.env = pure cl) (hcell : ∀ y ∈ scope.names, y.2 ≠ .cell) (hnames : ∀ y ∈ scope.names, y.2 = .local → scope.names.lookup y.1 = some .local) (hx : scope.names.lookup x = some .local)
    (h : Ev W X l σ iter (CompE W X l scope cl x elt ifs xs F p g r Q))
    (hk : scope.kind = .function := by rfl) (hs : ∀ x, foldedSetIterable iter X.env x = pure x := by intro _; rfl) :
    Ev W X l σ (.ListComp elt [⟨.Name x px, iter, ifs, 0⟩] scope pos) Q := by
  intro ok s R
  rw [eval_ListComp]
  refine wpAny_comprehension_free (use := none) rfl hs hclos hk hnames (wpAny_mono (h ok s R) ?_ fun _ _ e => e)
  rintro rv s1 ⟨v, σ1, mv, R1, S1, hsrc, hz, ht, he, hQ⟩
  have src : Src W X l σ1 s1 xs F rv := by
    rcases hsrc with ⟨y, q, rfl, hy⟩ | ⟨as, rfl, e⟩
    · obtain rfl : rv = .ref y := mv
      exact src_list ok R1 hy
    · have S := src_tup ok R1 mv
      intro Q hQ
      refine S Q fun it y IT h' tk a1 a2 a3 a4 a5 a6 => hQ it y IT h' tk a1 a2 a3 a4 (fun scope cl C hk => ?_) a6
      have T := a5 scope cl C hk
      have el : as.length = xs.length := by have := congrArg List.length e; simpa using this.symm
      have ei : (fun i : Nat => ((as[i]?).map Atom.val).getD MVal.none) = fun i : Nat => ((xs[i]?).map F).getD MVal.none := by
        funext i; rw [← List.getElem?_map, ← List.getElem?_map, e]
      rw [el, ei] at T; exact T
  refine src _ fun it y IT h' tk up hit0 hit nfy T self => ?_
  obtain ⟨R2, S2⟩ := R1.ext (h' := h') (tk := tk) up
  obtain ⟨f1, f2, f3, f4, f5⟩ := R1.fresh hit0
  refine comp_block (s₀ := s1) (σ₀ := σ1) (l := l) (F := F) (p := p) (g := g) (RR := fun acc C => compPost W.M X.A NoE none (PostE W X l σ s Q) acc C) r ok hk hcell hx (fun C => T scope cl C hk) self hz ht he R2 S2 hit up hit0 ⟨f1, f5, f4, f3⟩ nfy fun C D s' R' S' hD B => ?_
  obtain ⟨m, hm⟩ := B.ns
  refine ⟨m, hm, fun h'' hs'' => ?_⟩
  have k : ∀ a o, a ≠ C → s'.heap.get? a = some o → h''.get? a = some o := fun a o ne e => (hs''.2 a ne).trans e
  have kt : TKeep s'.heap h'' := tkeep_but k (Ns_notTup B.ns)
  have R3 := R'.beside2 (tk := s'.toks) k B.nf B.nl B.nL B.n0 kt
  have S3 := S'.beside (tk := s'.toks) B.old k
  exact PostE.trans S1 R1 (.here (v := .ref D) rfl R3 S3 (hQ D hD))

theorem ex_assign_comp {α : Type} {elt iter : Expr} {x y : Str} {px py spos : Pos} {ifs : List Expr} {Q : Flw → Lcl → Store → Prop} (r : Nat) (cl : List (Str × Addr)) (xs : List α) (F : α → MVal) (p : α → Bool) (g : α → MVal)
    (hclos : closureFor scope X.env = pure cl) (hcell : ∀ y ∈ scope.names, y.2 ≠ .cell) (hnames : ∀ y ∈ scope.names, y.2 = .local → scope.names.lookup y.1 = some .local) (hx : scope.names.lookup x = some .local)
    (hsw : swapsWith (.ListComp elt [⟨.Name x px, iter, ifs, 0⟩] scope pos) (some (.Name y py)) spos.line X.env = pure true) (hy : X.env.kindOf y = some .local)
    (h : Ev W X l σ iter (CompX W X l scope cl x elt ifs xs F p g r y rest Q))
    (hk : scope.kind = .function := by rfl) (hs : ∀ x, foldedSetIterable iter X.env x = pure x := by intro _; rfl) :
    Ex W X l σ (.Assign [.Name y py] (.ListComp elt [⟨.Name x px, iter, ifs, 0⟩] scope pos) spos :: rest) Q := by
  refine ex_step fun ok s R => ?_
  rw [exec_Assign_Name_used _ _ _ _ hsw]
  refine wpAny_bind (wpAny_standAt (wpAny_bind ?_))
  show wpAny _ X.A (do let _ ← comprehension (.ListComp elt [⟨.Name x px, iter, ifs, 0⟩] scope pos) scope X.env _ (newList []) false (eval iter X.env) (some (assign (.Name y py) X.env))) _ _ s
  refine wpAny_bind (wpAny_mono (wpAny_comprehension_free (use := some (assign (.Name y py) X.env)) (Q := fun _ s' => ∃ l' σ', SRel W X l' σ' s' ∧ Stp X σ s σ' s' ∧ Ex W X l' σ' rest Q) rfl hs hclos hk hnames
    (wpAny_mono (h ok s R) ?_ fun _ _ e => e)) (fun _ s' hq => wpAny_pure (wpAny_pure ⟨rfl, hq⟩)) fun _ _ e => e)
  rintro rv s1 ⟨v, σ1, mv, R1, S1, hsrc, hz, ht, he, hQ⟩
  have src : Src W X l σ1 s1 xs F rv := by
    rcases hsrc with ⟨y, q, rfl, hy⟩ | ⟨as, rfl, e⟩
    · obtain rfl : rv = .ref y := mv
      exact src_list ok R1 hy
    · have S := src_tup ok R1 mv
      intro Q hQ
      refine S Q fun it y IT h' tk a1 a2 a3 a4 a5 a6 => hQ it y IT h' tk a1 a2 a3 a4 (fun scope cl C hk => ?_) a6
      have T := a5 scope cl C hk
      have el : as.length = xs.length := by have := congrArg List.length e; simpa using this.symm
      have ei : (fun i : Nat => ((as[i]?).map Atom.val).getD MVal.none) = fun i : Nat => ((xs[i]?).map F).getD MVal.none := by
        funext i; rw [← List.getElem?_map, ← List.getElem?_map, e]
      rw [el, ei] at T; exact T
  refine src _ fun it y' IT h' tk up hit0 hit nfy T self => ?_
  obtain ⟨R2, S2⟩ := R1.ext (h' := h') (tk := tk) up
  obtain ⟨f1, f2, f3, f4, f5⟩ := R1.fresh hit0
  refine comp_block (s₀ := s1) (σ₀ := σ1) (l := l) (F := F) (p := p) (g := g) (RR := fun acc C => compPost W.M X.A NoE (some (assign (.Name y py) X.env)) (fun _ s' => ∃ l' σ', SRel W X l' σ' s' ∧ Stp X σ s σ' s' ∧ Ex W X l' σ' rest Q) acc C)
    r ok hk hcell hx (fun C => T scope cl C hk) self hz ht he R2 S2 hit up hit0 ⟨f1, f5, f4, f3⟩ nfy fun C D s' R' S' hD B => ?_
  show wpAny _ X.A (assign (.Name y py) X.env (.ref D)) _ _ _
  refine wpAny_assign_Name (store_here ok R' (v := .ref D) rfl hy fun s3 R3 S3 => ?_)
  obtain ⟨m, hm⟩ := B.ns
  have hm3 : s3.heap.Ns C m := hm.at' fun o e => S3.keep _ _ e B.nf B.nl
  refine ⟨m, hm3, fun h'' hs'' => ?_⟩
  have k : ∀ a o, a ≠ C → s3.heap.get? a = some o → h''.get? a = some o := fun a o ne e => (hs''.2 a ne).trans e
  have kt : TKeep s3.heap h'' := tkeep_but k (Ns_notTup ⟨m, hm3⟩)
  exact ⟨_, _, R3.beside2 (tk := s3.toks) k B.nf B.nl B.nL B.n0 kt, S1.trans R1 ((S'.trans R' S3).beside (tk := s3.toks) B.old k), hQ D hD⟩
end
end

section
section
variable {W : Wd} {X : Cx} {l l' : Lcl} {σ σ₁ σ₀ : Store} {s s' s₀ s₁ : Shared} {e e₁ e₂ o i : Expr} {es : List Expr} {a b v : MVal} {pos p' : Pos} {rest body orelse : List Stmt} {scope : Scope} {cl : List (Str × Addr)} {C D : Addr}

theorem ev_comp_range {elt : Expr} {x : Str} {px np cp : Pos} {ifs : List Expr} {Q : MVal → Store → Prop} (r : Nat) (cl : List (Str × Addr)) (p : Nat → Bool) (g : Nat → MVal)
    (hclos : closureFor scope X.env = pure cl) (hcell : ∀ y ∈ scope.names, y.2 ≠ .cell) (hnames : ∀ y ∈ scope.names, y.2 = .local → scope.names.lookup y.1 = some .local) (hx : scope.names.lookup x = some .local)
    (hv : bootBuiltins "range" = some (.type "range"))
    (h : Ev W X l σ e fun v σ₁ => ∃ n : Nat, v = .int n ∧ n ≤ 16777216 ∧
      (∀ C, ∀ a ∈ List.range n, Ifs W (X.comp scope cl C) (upd (fun _ => none) x (.int a)) σ₁ ifs (p a)) ∧ (∀ C, ∀ a ∈ List.range n, p a = true → PE W (X.comp scope cl C) (upd (fun _ => none) x (.int a)) σ₁ elt (g a)) ∧
      ∀ D, σ₁ D = none → Q (.ref D) (σ₁.set D ⟨r, .list (((List.range n).filter p).map g)⟩))
    (hk : scope.kind = .function := by rfl) (hs : ∀ x, foldedSetIterable (.Call (.Name "range" np) [e] [] cp) X.env x = pure x := by intro _; rfl)
    (hp : backTo cp (starEach [e] X.env) = plainArgs [e] X.env := by rfl) (hkr : X.env.kindOf "range" = some .globalImplicit := by rfl)
    (he : eval (.Call (.Name "range" np) [e] [] cp) X.env = (do callWith cp (← eval (.Name "range" np) X.env) [] (backTo cp (starEach [e] X.env)) (backToKw cp (keywordEach [] X.env))) := by rfl) :
    Ev W X l σ (.ListComp elt [⟨.Name x px, .Call (.Name "range" np) [e] [] cp, ifs, 0⟩] scope pos) Q := by
  intro ok s R
  rw [eval_ListComp]
  refine wpAny_comprehension_free (use := none) rfl hs hclos hk hnames (Call_ ?_ he)
  refine Calls.Name_function_global ok.ek hkr (Calls.loadGlobal_builtin (mg := W.mg) (mb := W.mb) (by rw [ok.eg]; exact ok.top.g.keeps R.base) (mg_none_of ok.kin ok.top.g (ok.k.bi _ (by decide))) (by rw [ok.eb]; exact ok.top.b.keeps R.base)
    ((ok.top.builtins _ (by decide)).trans hv) ?_) (by decide)
  rw [hp]
  refine PySem.callWith_type (plainArgs_any _ _) (evalArgs_all (Calls.spliced_cons (wpAny_mono (h ok s R) ?_ fun _ _ x => x)))
  intro rv s1 hhh
  refine gw fun G hG => ?_
  obtain ⟨v, σ1, mv, R1, S1, n, rfl, hz, ht, he, hQ⟩ := hhh
  refine hG ?_
  obtain ⟨t, rfl⟩ := mv
  refine Calls.spliced_nil (call_range_1 ?_)
  obtain ⟨R2, S2⟩ := R1.ext (h' := s1.heap.push { cls := .type "range", data := .fields #[.int 0 s1.toks, .int n t, .int 1 (s1.toks + 1)] }) (tk := s1.toks + 1 + 1) fun c o e => Heap.get?_push_of_some _ e
  refine wpAny_pyIter_range (IsRange.new _ _ _ _ _ _ _) (small_one (by decide) (by decide) (by omega) (by omega)) ?_
  have hn := heap_none (s1.heap.push { cls := .type "range", data := .fields #[.int 0 s1.toks, .int n t, .int 1 (s1.toks + 1)] })
  obtain ⟨nf, na, n0, nL, nl⟩ := R2.fresh hn
  obtain ⟨R3, S3⟩ := R2.ext (h' := (s1.heap.push { cls := .type "range", data := .fields #[.int 0 s1.toks, .int n t, .int 1 (s1.toks + 1)] }).push { cls := .type "range_iterator", data := .fields #[rawInt 0, rawInt (Builtin.Range.rangeSize 0 n 1), rawInt 1] }) (tk := s1.toks + 1 + 1) fun c o e => Heap.get?_push_of_some _ e
  have hsz : Builtin.Range.rangeSize 0 n 1 = (n : Int) - (0 : Nat) := by rw [rangeSize_one]; split <;> omega
  have T : ∀ C, Iter W (X.comp scope cl C) (fun _ _ σ' => σ' = σ1) (List.range n).length (fun i => (((List.range n)[i]?).map fun k : Nat => MVal.int k).getD .none) (s1.heap.push { cls := .type "range", data := .fields #[.int 0 s1.toks, .int n t, .int 1 (s1.toks + 1)] }).objs.size (s1.heap.push { cls := .type "range", data := .fields #[.int 0 s1.toks, .int n t, .int 1 (s1.toks + 1)] }).objs.size
      (fun i h => IsRangeIter h (s1.heap.push { cls := .type "range", data := .fields #[.int 0 s1.toks, .int n t, .int 1 (s1.toks + 1)] }).objs.size (i : Int) ((n : Int) - i) 1) := fun C => by
    have T := iter_range (W := W) (X := X.comp scope cl C) (it := (s1.heap.push { cls := .type "range", data := .fields #[.int 0 s1.toks, .int n t, .int 1 (s1.toks + 1)] }).objs.size) (n := n) (I := fun _ _ σ' => σ' = σ1)
    rw [List.length_range]
    refine ⟨fun ok i l1 σ' s Q hi => ?_, T.stop, T.same, T.live, T.live2⟩
    have ei : (((List.range n)[i]?).map fun k : Nat => MVal.int k).getD .none = .int i := by simp [hi]
    dsimp only
    rw [ei]
    exact T.next ok i l1 σ' s Q hi
  refine comp_block (s₀ := { s1 with heap := s1.heap.push { cls := .type "range", data := .fields #[.int 0 s1.toks, .int n t, .int 1 (s1.toks + 1)] }, toks := s1.toks + 1 + 1 }) (σ₀ := σ1) (l := l) (xs := List.range n) (F := fun k : Nat => MVal.int k) (p := p) (g := g)
    (RR := fun acc C => compPost W.M X.A NoE none (PostE W X l σ s Q) acc C) (s := { s1 with heap := (s1.heap.push { cls := .type "range", data := .fields #[.int 0 s1.toks, .int n t, .int 1 (s1.toks + 1)] }).push { cls := .type "range_iterator", data := .fields #[rawInt 0, rawInt (Builtin.Range.rangeSize 0 n 1), rawInt 1] }, toks := s1.toks + 1 + 1 })
    r ok hk hcell hx T (fun i s' Q E st q => wpAny_pyIter_rangeiter st q) (by rw [List.length_range]; exact hz) ht he R3 S3 (by dsimp only; rw [hsz]; exact Heap.get?_push_size _ rfl)
    (fun c o e => Heap.get?_push_of_some _ e) hn ⟨nf, nl, nL, n0⟩ nf fun C D s' R' S' hD B => ?_
  obtain ⟨m, hm⟩ := B.ns
  refine ⟨m, hm, fun h'' hs'' => ?_⟩
  have k : ∀ a o, a ≠ C → s'.heap.get? a = some o → h''.get? a = some o := fun a o ne e => (hs''.2 a ne).trans e
  have kt : TKeep s'.heap h'' := tkeep_but k (Ns_notTup B.ns)
  have R4 := R'.beside2 (tk := s'.toks) k B.nf B.nl B.nL B.n0 kt
  have S4 := S'.beside (tk := s'.toks) B.old k
  exact PostE.trans S1 R1 (PostE.trans S2 R2 (.here (v := .ref D) rfl R4 S4 (hQ D hD)))
end
end

section
/-- alike, through lists and tuples -/
noncomputable def DEq (σ : Store) : Nat → MVal → MVal → Prop
  | 0, v, w => ∃ i : Int, v = .int i ∧ w = .int i
  | n + 1, v, w => (∃ i : Int, v = .int i ∧ w = .int i) ∨ (∃ x y r q vs ws, v = .ref x ∧ w = .ref y ∧ σ x = some ⟨r, .list vs⟩ ∧ σ y = some ⟨q, .list ws⟩ ∧ All2 (DEq σ n) vs ws) ∨
      ∃ xs ys : List Atom, v = .tup xs ∧ w = .tup ys ∧ All2 (fun a b : Atom => DEq σ n a.val b.val) xs ys

section
variable {W : Wd} {X : Cx} {l l' : Lcl} {σ σ₁ σ₀ : Store} {s s' s₀ s₁ : Shared} {e e₁ e₂ o i : Expr} {es : List Expr} {a b v : MVal} {pos p' : Pos} {rest body orelse : List Stmt}

theorem all2_zip {α β γ δ : Type} {R : α → β → Prop} {P : α → γ → Prop} {Q : β → δ → Prop} : ∀ {as : List α} {bs : List β} {cs : List γ} {ds : List δ}, All2 R as bs → All2 P as cs → All2 Q bs ds → All2 (fun c d => ∃ a b, R a b ∧ P a c ∧ Q b d) cs ds
  | [], [], [], [], _, _, _ => trivial
  | _ :: _, _ :: _, _ :: _, _ :: _, ⟨r, rs⟩, ⟨p, ps⟩, ⟨q, qs⟩ => ⟨⟨_, _, r, p, q⟩, all2_zip rs ps qs⟩
  | [], _ :: _, _, _, x, _, _ => x.elim
  | _ :: _, [], _, _, x, _, _ => x.elim
  | [], [], _ :: _, _, _, x, _ => x.elim
  | [], [], [], _ :: _, _, _, x => x.elim
  | _ :: _, _ :: _, [], _, _, x, _ => x.elim
  | _ :: _, _ :: _, _ :: _, [], _, _, x => x.elim
theorem all2_at {α β : Type} {R : α → β → Prop} {as : List α} {bs : List β} (h : All2 R as bs) {j : Nat} (h1 : j < as.length) (h2 : j < bs.length) : R as[j] bs[j] := by
  obtain ⟨b, e, r⟩ := h.get (i := j) (a := as[j]) (by simp)
  have : bs[j] = b := by rw [List.getElem?_eq_getElem h2] at e; exact Option.some.inj e
  rw [this]; exact r

theorem AMatch.of {h : Heap} {x : Atom} {rv : Value} (m : VMatch h x.val rv) : AMatch x rv := by cases x <;> exact m
theorem all_true {n : Nat} : (List.range n).all (fun _ => true) = true := by simp
theorem eqAt_deq (R : SRel W X l σ s) : ∀ (n : Nat) (A : Around) (v w : MVal) (rv rw : Value), DEq σ n v w → VMatch s.heap v rv → VMatch s.heap w rw → A.units + n < cLine → SeqAt.EqAt A s rv rw true
  | 0, A, v, w, rv, rw', h, m1, m2, hu => by
    obtain ⟨i, rfl, rfl⟩ := h
    obtain ⟨t, rfl⟩ := m1; obtain ⟨u, rfl⟩ := m2
    have := SeqAt.EqAt.int_int (A := A) (s := s) i t i u
    rwa [beq_self_eq_true] at this
  | n + 1, A, v, w, rv, rw', h, m1, m2, hu => by
    rcases h with ⟨i, rfl, rfl⟩ | ⟨x, y, r, q, vs, ws, rfl, rfl, hx, hy, h⟩ | ⟨xs, ys, rfl, rfl, h⟩
    · obtain ⟨t, rfl⟩ := m1; obtain ⟨u, rfl⟩ := m2
      have := SeqAt.EqAt.int_int (A := A) (s := s) i t i u
      rwa [beq_self_eq_true] at this
    · obtain rfl : rv = .ref x := m1
      obtain rfl : rw' = .ref y := m2
      by_cases e : x = y
      · subst e; exact .same _
      · obtain ⟨i1, n1, g1, ma1⟩ := R.list hx
        obtain ⟨i2, n2, g2, ma2⟩ := R.list hy
        have z := all2_zip h ma1 ma2
        have hl1 : s.heap.IsList x i1 := ⟨_, g1, rfl, n1, rfl⟩
        have hl2 : s.heap.IsList y i2 := ⟨_, g2, rfl, n2, rfl⟩
        have hsz : i1.size = i2.size := by have := z.len; simpa using this
        have := SeqAt.RcAt.lists (A := A) (e := fun _ => true) hl1 hl2 hsz (by omega) fun j h1 h2 => by
          obtain ⟨a, b, d, p, q⟩ := all2_at z (j := j) (by simpa using h1) (by simpa using h2)
          exact eqAt_deq R n A.in1 a b _ _ d p q (by show A.units + 1 + n < cLine; omega)
        rw [all_true] at this
        exact .of_refs e this
    · obtain ⟨x, i1, rfl, t1, ma1⟩ := m1
      obtain ⟨y, i2, rfl, t2, ma2⟩ := m2
      by_cases e : x = y
      · subst e; exact .same _
      · have z := all2_zip h ma1 ma2
        have hsz : i1.size = i2.size := by have := z.len; simpa using this
        have := SeqAt.RcAt.tuples (A := A) (e := fun _ => true) t1 t2 (by omega) fun j h1 h2 => by
          obtain ⟨a, b, d, p, q⟩ := all2_at z (j := j) (by simpa using h1) (by simpa using h2)
          exact eqAt_deq R n A.in1 a.val b.val _ _ d p.val q.val (by show A.units + 1 + n < cLine; omega)
        rw [all_true, hsz] at this
        rw [beq_self_eq_true] at this
        exact .of_refs e this

theorem po_eqd {x y : Addr} {r q : Nat} {vs ws : List MVal} (n : Nat) (hn : n ≤ 100) (hx : σ x = some ⟨r, .list vs⟩) (hy : σ y = some ⟨q, .list ws⟩) (h : All2 (DEq σ n) vs ws) : PO2 W X l σ (compareOp .Eq) (.ref x) (.ref y) (.bool true) := by
  constructor
  rintro ok s _ _ R rfl rfl
  obtain ⟨i1, n1, g1, ma1⟩ := R.list hx
  obtain ⟨i2, n2, g2, ma2⟩ := R.list hy
  have z := all2_zip h ma1 ma2
  have hsz : i1.size = i2.size := by have := z.len; simpa using this
  have hu := ok.uni
  have hv := ok.lvl
  have hc : cLine = 9900 := rfl
  refine SeqAt.eq_listAt (e := fun _ => true) ⟨_, g1, rfl, n1, rfl⟩ ⟨_, g2, rfl, n2, rfl⟩ hsz ok.uniLt (fun j h1 h2 => ?_) ?_
  · obtain ⟨a, b, d, p, q⟩ := all2_at z (j := j) (by simpa using h1) (by simpa using h2)
    exact eqAt_deq R n X.A.in1 a b _ _ d p q (by show X.A.units + 1 + n < cLine; omega)
  · rw [all_true]; exact .pe (.bool true) rfl R .refl
theorem po_eql {x y : Addr} {r q : Nat} {vs ws : List MVal} (hx : σ x = some ⟨r, .list vs⟩) (hy : σ y = some ⟨q, .list ws⟩) (h : vs.length ≠ ws.length) : PO2 W X l σ (compareOp .Eq) (.ref x) (.ref y) (.bool false) := by
  constructor
  rintro ok s _ _ R rfl rfl
  obtain ⟨i1, n1, g1, ma1⟩ := R.list hx
  obtain ⟨i2, n2, g2, ma2⟩ := R.list hy
  refine SeqAt.eq_list_lengthsAt ⟨_, g1, rfl, n1, rfl⟩ ⟨_, g2, rfl, n2, rfl⟩ ?_ ok.uniLt (.pe (.bool false) rfl R .refl)
  rw [size_of ma1, size_of ma2]; simpa using h
theorem po_ned {x y : Addr} {r q : Nat} {vs ws : List MVal} (n : Nat) (hn : n ≤ 100) (hx : σ x = some ⟨r, .list vs⟩) (hy : σ y = some ⟨q, .list ws⟩) (h : All2 (DEq σ n) vs ws) : PO2 W X l σ (compareOp .NotEq) (.ref x) (.ref y) (.bool false) := by
  constructor
  rintro ok s _ _ R rfl rfl
  obtain ⟨i1, n1, g1, ma1⟩ := R.list hx
  obtain ⟨i2, n2, g2, ma2⟩ := R.list hy
  have z := all2_zip h ma1 ma2
  have hsz : i1.size = i2.size := by have := z.len; simpa using this
  have hu := ok.uni
  have hv := ok.lvl
  have hc : cLine = 9900 := rfl
  have := SeqAt.RcNeAt.lists (A := X.A) (s := s) (e := fun _ => true) ⟨_, g1, rfl, n1, rfl⟩ ⟨_, g2, rfl, n2, rfl⟩ hsz ok.uniLt (fun j h1 h2 => by
    obtain ⟨a, b, d, p, q⟩ := all2_at z (j := j) (by simpa using h1) (by simpa using h2)
    exact eqAt_deq R n X.A.in1 a b _ _ d p q (by show X.A.units + 1 + n < cLine; omega))
  refine this _ _ _ _ ?_
  rw [all_true]; exact .pe (.bool false) rfl R .refl

/-! ### sorted, min -/
theorem all2_ints {h : Heap} : ∀ {vs : List Value} {ns : List Int}, IntsAre vs ns → All2 (VMatch h) (ns.map .int) vs
  | _, _, .nil => trivial
  | _, _, .cons n t m => ⟨⟨t, rfl⟩, all2_ints m⟩
theorem call_sorted {a : Addr} {r₀ : Nat} {ns : List Int} {Q : MVal → Store → Prop} (r : Nat) (h : σ a = some ⟨r₀, .list (ns.map .int)⟩) (h64 : ns.length < 64)
    (q : ∀ (D : Addr) (ns' : List Int), σ D = none → ns'.Perm ns → ns'.Pairwise (· ≤ ·) → Q (.ref D) (σ.set D ⟨r, .list (ns'.map .int)⟩)) : OpC W X l σ (.builtin "sorted") [.ref a] Q := by
  rintro ok s rargs R m
  obtain ⟨items, n, g, ma⟩ := R.list h
  match rargs, m with
  | [ra], ⟨e1, _⟩ =>
    obtain rfl : ra = .ref a := e1
    have hI := ints_are ma
    have hlen := ma.len
    rw [List.length_map] at hlen
    refine sorted_ints (l := a) (vs := items.toList) ⟨_, g, rfl, n, by simp⟩ hI (by omega) fun out ns' a1 a2 a3 => ?_
    obtain ⟨e, he⟩ := sortedAll_at s.heap items.toList out
    have n1 : s.heap.get? (s.heap.objs.size + 1) = none := by
      cases e : s.heap.get? (s.heap.objs.size + 1) with
      | none => rfl
      | some o => exact absurd (Nat.lt_of_succ_lt (Heap.lt_size e)) (Nat.lt_irrefl _)
    obtain ⟨R', S'⟩ := R.alloc (h' := sortedAll s.heap items.toList out) (r := r) (b := .list (ns'.map .int)) (tk := s.toks) n1 notInst_list (fun c o e => sortedAll_old e)
      fun kt => ⟨out, ⟨e, he⟩, all2_ints a1⟩
    exact .here (v := .ref _) rfl R' S' (q _ _ (R.fresh n1).2.1 a2 a3)
  | [], x => exact x.elim
  | _ :: _ :: _, x => exact x.2.elim

theorem keys_ints {h : Heap} : ∀ {kvs : List (Int × MVal)} {rk : List (Int × Value)} {vs : List Value}, All2 (KV h) kvs rk → vs.length = rk.length → (∀ (j : Nat) (v : Value), vs[j]? = some v → ∃ (k : Int) (x : Value), rk[j]? = some (k, x) ∧ ∃ t, v = Value.int k t) → IntsAre vs (kvs.map (·.1))
  | [], [], [], _, _, _ => .nil
  | [], [], _ :: _, _, e, _ => by simp at e
  | (k, u) :: r, (k', ru) :: rr, [], _, e, _ => by simp at e
  | (k, u) :: r, (k', ru) :: rr, v :: vs, ⟨⟨e1, _⟩, m⟩, e, h => by
    have e1 : k = k' := e1
    subst e1
    obtain ⟨k2, x2, h2, t, rfl⟩ := h 0 v (by simp)
    simp only [List.getElem?_cons_zero, Option.some.injEq, Prod.mk.injEq] at h2
    obtain ⟨rfl, rfl⟩ := h2
    exact .cons _ _ (keys_ints m (by simpa using e) fun j v hj => by simpa using h (j + 1) v (by simpa using hj))
  | [], _ :: _, _, x, _, _ => x.elim
  | _ :: _, [], _, x, _, _ => x.elim
theorem call_sorted_d {a : Addr} {r₀ : Nat} {kvs : List (Int × MVal)} {Q : MVal → Store → Prop} (r : Nat) (h : σ a = some ⟨r₀, .dI kvs⟩) (h64 : kvs.length < 64)
    (q : ∀ (D : Addr) (ns' : List Int), σ D = none → ns'.Perm (kvs.map (·.1)) → ns'.Pairwise (· ≤ ·) → Q (.ref D) (σ.set D ⟨r, .list (ns'.map .int)⟩)) : OpC W X l σ (.builtin "sorted") [.ref a] Q := by
  rintro ok s rargs R m
  obtain ⟨lo, rk, hd, m1⟩ := R.om a _ h
  match rargs, m with
  | [ra], ⟨e1, _⟩ =>
    obtain rfl : ra = .ref a := e1
    obtain ⟨ep, hat⟩ := hd.dictAt
    have hlen : kvs.length = rk.length := All2.len m1
    have hc : sizeLine = 16777216 := lineIs
    refine Calls.call_function_entry kind_sorted plain_sorted entry_sorted (args_sorted1 _) ?_
    unfold Builtin.«sorted»
    refine wpAny_bind (m := checkCount "sorted" 1 1 _) (wpAny_pure ?_)
    refine wpAny_bind (kdu_collect (A := X.A.in1) (kdl_dict (knd := intKind W.prog W.w) (kvs := rk) (ep := ep) lo) ok.hd hat (by omega) fun h' tk acc hk hacc => ?_)
    have hl : acc.toList.length = rk.length := by rw [Array.length_toList]; exact hacc.1
    refine wpAny_bind (wpAny_newList ?_ (by rw [hl, hc]; omega))
    have hI : IntsAre acc.toList (kvs.map (·.1)) := keys_ints m1 hl fun j v e => by
      obtain ⟨k, x, e1, e2⟩ := hacc.2 j v (by rw [← Array.getElem?_toList]; exact e)
      refine ⟨k, x, e1, ?_⟩
      exact Value.isInt_shape e2
    have hoL : (h'.push (seqObj "list" acc.toList.toArray 0)).get? h'.objs.size = some (seqObj "list" acc.toList.toArray 0) := Heap.get?_push_size _ rfl
    refine wpAny_bind (wpAny_holding (wpAny_call_entry slot_list_sort ⟨_, hoL, rfl⟩ entry_list_sort (list_sort_tree hoL hI (by omega) fun out ns' a1 a2 a3 => ⟨_, rfl, ?_⟩) (args_list_sort _)))
    have nD : s.heap.get? h'.objs.size = none := by
      cases e : s.heap.get? h'.objs.size with
      | none => rfl
      | some o => have := hk _ _ e; rw [heap_none] at this; cases this
    obtain ⟨e, he⟩ := sortedHeap_at (out := out) hoL
    have old : ∀ c o, s.heap.get? c = some o → (sortedHeap (h'.push (seqObj "list" acc.toList.toArray 0)) h'.objs.size acc.toList out).get? c = some o := fun c o e => by
      have e' := hk c o e
      have hlt := Heap.lt_size e'
      rw [sortedHeap_old (Nat.ne_of_lt hlt) (by rw [Heap.size_push]; exact Nat.lt_succ_of_lt hlt)]
      exact Heap.get?_push_of_some _ e'
    obtain ⟨R', S'⟩ := R.alloc (h' := sortedHeap (h'.push (seqObj "list" acc.toList.toArray 0)) h'.objs.size acc.toList out) (r := r) (b := .list (ns'.map .int)) (tk := tk) nD notInst_list old
      fun kt => ⟨out, ⟨e, he⟩, all2_ints a1⟩
    exact wpAny_pure ⟨_, rfl, .here (v := .ref _) rfl R' S' (q _ _ (R.fresh nD).2.1 a2 a3)⟩
  | [], x => exact x.elim
  | _ :: _ :: _, x => exact x.2.elim

theorem call_min2 {i j : Int} {Q : MVal → Store → Prop} (q : Q (.int (if j < i then j else i)) σ) : OpC W X l σ (.builtin "min") [.int i, .int j] Q := by
  rintro ok s rargs R m
  match rargs, m with
  | [ra, rb], ⟨⟨t, e1⟩, ⟨u, e2⟩, _⟩ =>
    subst e1; subst e2
    refine Flt.min_two_num ok.hd (.int i t) (.int j u) fun h' tk k => ?_
    obtain ⟨R', S'⟩ := R.ext (h' := h') (tk := tk) k
    refine .here (v := .int (if j < i then j else i)) ?_ R' S' q
    show ∃ t', (if decide (j < i) = true then Value.int j u else Value.int i t) = .int _ t'
    by_cases h : j < i
    · simp only [h, decide_true, if_true]; exact ⟨u, rfl⟩
    · simp only [h, decide_false, if_false]; exact ⟨t, rfl⟩
  | [], x => exact x.elim
  | [_], x => exact x.2.elim
  | _ :: _ :: _ :: _, x => exact x.2.2.elim

theorem call_max2 {i j : Int} {Q : MVal → Store → Prop} (q : Q (.int (if i < j then j else i)) σ) : OpC W X l σ (.builtin "max") [.int i, .int j] Q := by
  rintro ok s rargs R m
  match rargs, m with
  | [ra, rb], ⟨⟨t, e1⟩, ⟨u, e2⟩, _⟩ =>
    subst e1; subst e2
    refine Flt.max_two_num ok.hd (.int i t) (.int j u) fun h' tk k => ?_
    obtain ⟨R', S'⟩ := R.ext (h' := h') (tk := tk) k
    refine .here (v := .int (if i < j then j else i)) ?_ R' S' q
    show ∃ t', (if decide (i < j) = true then Value.int j u else Value.int i t) = .int _ t'
    by_cases h : i < j
    · simp only [h, decide_true, if_true]; exact ⟨u, rfl⟩
    · simp only [h, decide_false, if_false]; exact ⟨t, rfl⟩
  | [], x => exact x.elim
  | [_], x => exact x.2.elim
  | _ :: _ :: _ :: _, x => exact x.2.2.elim

/-! ### slices, minus -/
theorem pe_neg {i : Int} (h : PE W X l σ e (.int i)) : PE W X l σ (.UnaryOp .USub e p') (.int (-i)) := by
  constructor
  intro ok s R
  refine UnaryOp_ (wpAny_mono (h.ev ok s R) ?_ fun _ _ x => x)
  intro rv s1 hhh
  refine gw fun G hG => ?_
  obtain ⟨v, σ1, mv, R1, S1, rfl, rfl⟩ := hhh
  refine hG ?_
  obtain ⟨t, rfl⟩ := mv
  obtain ⟨R2, S2⟩ := R1.toks (s1.toks + 1)
  exact PyProof.Rows.neg_int (PostE.trans S1 R1 (.pe (.int (-i)) ⟨_, rfl⟩ R2 S2))

theorem slice_here {y : Addr} {vs ws : List MVal} {vl vu : Value} {lo hi : Option Int} {ve se : Expr} {Q : MVal → Store → Prop} (r : Nat) (R : SRel W X l σ s) (hy : ∃ items, s.heap.IsList y items ∧ All2 (VMatch s.heap) vs items.toList) (hz : vs.length ≤ 16777216) (pl : IsPart vl lo) (pu : IsPart vu hi)
    (hw : ∀ h (items : Array Value), All2 (VMatch h) vs items.toList → All2 (VMatch h) ws (slicePick items lo hi none).toList) (hQ : ∀ D, σ D = none → Q (.ref D) (σ.set D ⟨r, .list ws⟩))
    (hs : ∀ a b, subscripted se false (.ref a) (.ref b) = operate [.ref b, .ref a] (getItem (.ref a) (.ref b)) := by intro _ _; with_unfolding_all rfl) :
    wpAny W.M X.A (subscriptTail ve se (.ref y) (.ref s.heap.objs.size)) (PostE W X l σ s Q) NoE { s with heap := s.heap.push { cls := .type "slice", data := .fields #[vl, vu, .none] } } := by
  obtain ⟨items, hl, ma⟩ := hy
  refine tail_any (Heap.IsList.typeIs (s := { s with heap := s.heap.push { cls := .type "slice", data := .fields #[vl, vu, .none] } }) (hl.push _)) list_getitem_lookup
    (wpAny_getItem_list_slice (hl.push _) (Heap.IsSliceOf.new ..) pl pu .none (by simp) ?_ (by rw [size_of ma, lineIs]; exact hz)) (hs _ _)
  obtain ⟨R1, S1⟩ := R.ext (h' := s.heap.push { cls := .type "slice", data := .fields #[vl, vu, .none] }) (tk := s.toks) fun c o e => Heap.get?_push_of_some _ e
  have hn := heap_none (s.heap.push { cls := .type "slice", data := .fields #[vl, vu, .none] })
  obtain ⟨R2, S2⟩ := R1.alloc (h' := (s.heap.push { cls := .type "slice", data := .fields #[vl, vu, .none] }).push { cls := .type "list", data := .seq (slicePick items lo hi none) }) (r := r) (b := .list ws) (tk := s.toks) hn notInst_list (fun c o e => Heap.get?_push_of_some _ e)
    fun kt => ⟨_, ⟨0, Heap.get?_push_size _ rfl⟩, hw _ _ ((ma.vkeep (R.tkeep S1)).vkeep kt)⟩
  exact PostE.trans S1 R1 (.here (v := .ref _) rfl R2 S2 (hQ _ (R1.fresh hn).2.1))
theorem SRel.listOf {y : Addr} {q : Nat} {vs : List MVal} (R : SRel W X l σ s) (hy : σ y = some ⟨q, .list vs⟩) : ∃ items, s.heap.IsList y items ∧ All2 (VMatch s.heap) vs items.toList := by
  obtain ⟨items, n, g, ma⟩ := R.list hy
  exact ⟨items, ⟨_, g, rfl, n, rfl⟩, ma⟩
/-- .. of a list of ints beneath the frame -/
theorem ev_upto_base {k : Nat} {kk : Nat} {kp sp : Pos} {Q : MVal → Store → Prop} {y : Addr} {rvs : List Value} {ns : List Int} (r : Nat) (h : PE W X l σ e (.ref y)) (hy : X.h₀.IsList y rvs.toArray) (hi : IntsAre rvs ns) (hz : ns.length ≤ 16777216)
    (hQ : ∀ D, σ D = none → Q (.ref D) (σ.set D ⟨r, .list ((ns.take k).map .int)⟩))
    (hs : ∀ a b, subscripted (.Slice none (some (.Constant (.int k) kk kp)) none sp) false (.ref a) (.ref b) = operate [.ref b, .ref a] (getItem (.ref a) (.ref b)) := by intro _ _; with_unfolding_all rfl) :
    Ev W X l σ (.Subscript e (.Slice none (some (.Constant (.int k) kk kp)) none sp) p') Q := by
  intro ok s R
  refine Subscript_ (wpAny_mono (h.ev ok s R) ?_ fun _ _ x => x)
  intro ra s1 hhh
  refine gw fun G hG => ?_
  obtain ⟨v, σ1, ma, R1, S1, rfl, rfl⟩ := hhh
  refine hG ?_
  obtain rfl : ra = .ref y := ma
  refine wpAny_Slice (evalPart_none_step (evalPart_some_step (wpAny_Constant_int (evalPart_none_step ?_))))
  obtain ⟨R2, S2⟩ := R1.toks (s1.toks + 1)
  have hl : ({ s1 with toks := s1.toks + 1 } : Shared).heap.IsList y rvs.toArray := by
    obtain ⟨o, g, r⟩ := hy
    exact ⟨o, R2.base _ _ g, r⟩
  have := slice_here (s := { s1 with toks := s1.toks + 1 }) (vs := ns.map .int) (ve := e) (se := .Slice none (some (.Constant (.int k) kk kp)) none sp) (ws := (ns.take k).map .int) r R2 ⟨_, hl, by simpa using all2_ints hi⟩ (by rw [List.length_map]; exact hz) .none (.int k s1.toks) (fun h items m => by rw [slicePick_upto', List.map_take]; exact m.take k) hQ hs
  exact wpAny_mono this (fun _ _ p => (p.trans S2 R2).trans S1 R1) fun _ _ x => x
theorem ev_from {k : Nat} {kk : Nat} {kp sp : Pos} {Q : MVal → Store → Prop} (r : Nat)
    (h : Ev W X l σ e fun v σ₁ => ∃ y q vs, v = .ref y ∧ σ₁ y = some ⟨q, .list vs⟩ ∧ vs.length ≤ 16777216 ∧ ∀ D, σ₁ D = none → Q (.ref D) (σ₁.set D ⟨r, .list (vs.drop k)⟩))
    (hs : ∀ a b, subscripted (.Slice (some (.Constant (.int k) kk kp)) none none sp) false (.ref a) (.ref b) = operate [.ref b, .ref a] (getItem (.ref a) (.ref b)) := by intro _ _; with_unfolding_all rfl) :
    Ev W X l σ (.Subscript e (.Slice (some (.Constant (.int k) kk kp)) none none sp) p') Q := by
  intro ok s R
  refine Subscript_ (wpAny_mono (h ok s R) ?_ fun _ _ x => x)
  intro ra s1 hhh
  refine gw fun G hG => ?_
  obtain ⟨v, σ1, ma, R1, S1, y, q, vs, rfl, hy, hz, hQ⟩ := hhh
  refine hG ?_
  obtain rfl : ra = .ref y := ma
  refine wpAny_Slice (evalPart_some_step (wpAny_Constant_int (evalPart_none_step (evalPart_none_step ?_))))
  obtain ⟨R2, S2⟩ := R1.toks (s1.toks + 1)
  have := slice_here (s := { s1 with toks := s1.toks + 1 }) (ve := e) (se := .Slice (some (.Constant (.int k) kk kp)) none none sp) (ws := vs.drop k) r R2 (R2.listOf hy) hz (.int k s1.toks) .none (fun h items m => by rw [slicePick_from']; exact m.drop k) hQ hs
  exact wpAny_mono this (fun _ _ p => (p.trans S2 R2).trans S1 R1) fun _ _ x => x

/-! ### a dict's display with words as keys -/
noncomputable def EvP (W : Wd) (X : Cx) (l : Lcl) (σ : Store) (keys : List (Option Expr)) (values : List Expr) (pos : Pos) (Q : List (Str × MVal) → Store → Prop) : Prop :=
  Ok W X → ∀ s, SRel W X l σ s → wpAny W.M X.A (evalPairs (pairTrees keys values X.env pos)) (fun vs s' => ∃ kvs σ', All2 (fun (p : Str × MVal) (q : Value × Value) => (∃ t, q.1 = .str p.1 t) ∧ VMatch s'.heap p.2 q.2) kvs vs ∧ SRel W X l σ' s' ∧ Stp X σ s σ' s' ∧ Q kvs σ') NoE s
theorem evp_nil {Q : List (Str × MVal) → Store → Prop} (h : Q [] σ) : EvP W X l σ [] [] p' Q := fun _ s R => pairTrees_nil_walk ⟨[], σ, trivial, R, .refl, h⟩
theorem evp_cons {key : Str} {kk : Nat} {kp : Pos} {keys : List (Option Expr)} {Q : List (Str × MVal) → Store → Prop} (h : Ev W X l σ e fun v σ₁ => EvP W X l σ₁ keys es p' fun kvs σ₂ => Q ((key, v) :: kvs) σ₂) :
    EvP W X l σ (some (.Constant (.str key) kk kp) :: keys) (e :: es) p' Q := by
  intro ok s R
  refine pairTrees_cons_walk (Calls.Constant_str ?_)
  obtain ⟨R0, S0⟩ := R.toks (s.toks + 1)
  refine wpAny_mono (h ok _ R0) ?_ fun _ _ x => x
  intro rv s1 hhh
  refine gw fun G hG => ?_
  obtain ⟨v, σ1, mv, R1, S1, h2⟩ := hhh
  refine hG ?_
  refine wpAny_mono (h2 ok s1 R1) ?_ fun _ _ x => x
  intro rvs s2 hhh
  refine gw fun G hG => ?_
  obtain ⟨kvs, σ2, ms, R2, S2, q⟩ := hhh
  refine hG ?_
  exact ⟨(key, v) :: kvs, σ2, ⟨⟨⟨_, rfl⟩, mv.step R1 S2⟩, ms⟩, R2, S0.trans R0 (S1.trans R1 S2), q⟩
theorem carries_of {h : Heap} : ∀ {kvs : List (Str × MVal)} {vs : List (Value × Value)}, All2 (fun (p : Str × MVal) (q : Value × Value) => (∃ t, q.1 = .str p.1 t) ∧ VMatch h p.2 q.2) kvs vs →
    ∃ rk, Carries (strKind W.prog W.w) vs rk ∧ All2 (fun (p : Str × MVal) (q : Str × Value) => p.1 = q.1 ∧ VMatch h p.2 q.2) kvs rk
  | [], [], _ => ⟨[], trivial, trivial⟩
  | (k, v) :: r, (_, rv) :: rr, ⟨⟨⟨t, e⟩, mv⟩, m⟩ => by
    dsimp only at e; subst e
    obtain ⟨rk, c, a⟩ := carries_of m
    exact ⟨(k, rv) :: rk, ⟨strKind_is _ _ k t, rfl, c⟩, ⟨rfl, mv⟩, a⟩
  | [], _ :: _, x => x.elim
  | _ :: _, [], x => x.elim
inductive DicS (r : Nat) (a : Addr) (Q : MVal → Store → Prop) (kvs : List (Str × MVal)) (σ : Store) : Prop
  | mk (h1 : σ a = some ⟨r, .dS []⟩) (h2 : (kvs.map (·.1)).Nodup) (h3 : Q (.ref a) (σ.set a ⟨r, .dS kvs⟩)) : DicS r a Q kvs σ
theorem ev_dictS {keys : List (Option Expr)} {Q : MVal → Store → Prop} (r : Nat) (hall : keys.all (·.isSome) = true) (hl : keys.length = es.length) (h0 : keys ≠ []) (hlen : keys.length ≤ 15)
    (h : ∀ a, σ a = none → EvP W X l (σ.set a ⟨r, .dS []⟩) keys es p' (DicS r a Q)) : Ev W X l σ (.Dict keys es p') Q := by
  intro ok s R
  have hn := heap_none s.heap
  obtain ⟨R', S'⟩ := R.alloc (h' := s.heap.push { cls := .type "dict", data := .dict #[] }) (r := r) (b := .dS []) (tk := s.toks) hn notInst_dS (fun c o e => Heap.get?_push_of_some _ e)
    fun kt => ⟨low_modules ok R, [], Heap.DictOf.new _, trivial⟩
  refine wpAny_Dict_walk (knd := strKind W.prog W.w) hall hl h0 hlen (wpAny_mono (h _ (R.fresh hn).2.1 ok _ R') ?_ fun _ _ x => x)
  intro vs s1 hhh
  refine gw fun G hG => ?_
  obtain ⟨kvs, σ1, ms, R1, S1, ha, nd, q⟩ := hhh
  refine hG ?_
  obtain ⟨rk, hc, m⟩ := carries_of (W := W) ms
  obtain ⟨lo, rk0, hd0, m0⟩ := R1.om _ _ ha
  have e0 : rk0 = [] := by cases rk0 with | nil => rfl | cons _ _ => exact m0.elim
  subst e0
  refine ⟨rk, hc, hd0, fun h' hd' hs' => ?_⟩
  have hk : rk.map (·.1) = kvs.map (·.1) := (keys_eq (h := s1.heap) m).symm
  rw [merged_nil_of_nodup rk (by rw [hk]; exact nd)] at hd'
  obtain ⟨R2, S2⟩ := R1.setObj (tk := s1.toks + vs.length) (r := r) (b := .dS kvs) ha notInst_dS notInst_dS hs' fun kt => ⟨lo, rk, hd', m.mono fun _ _ p => ⟨p.1, p.2.keep kt⟩⟩
  exact .here (v := .ref _) rfl R2 (S'.trans R' (S1.trans R1 S2)) q
end
end

section
/-- known names as a row -/
noncomputable def lc : List (Str × MVal) → Lcl
  | [] => fun _ => none
  | (x, v) :: r => upd (lc r) x v
noncomputable def Has (l : Lcl) : List (Str × MVal) → Prop
  | [] => True
  | (x, v) :: r => l x = some v ∧ Has l r
theorem le_lc {l : Lcl} : ∀ {xs : List (Str × MVal)}, Has l xs → Lcl.le (lc xs) l
  | [], _ => fun x v e => by cases e
  | (y, u) :: r, ⟨h, t⟩ => fun x v e => by
    unfold lc upd at e
    split at e
    · rename_i q; cases e; rw [q]; exact h
    · exact le_lc t x v e

/-- which places turn: only those with these marks; the others stay -/
structure Ext (S : List Nat) (σ σ' : Store) : Prop where
  keep : ∀ a o, σ a = some o → o.role ∉ S → σ' a = some o
  role : ∀ a o, σ a = some o → ∃ o', σ' a = some o' ∧ o'.role = o.role
section
variable {S S' : List Nat} {σ σ₁ σ₂ : Store} {a b : Addr} {o : MObj} {r q : Nat} {x y : Body}
theorem Ext.refl : Ext S σ σ := ⟨fun _ _ e _ => e, fun _ o e => ⟨o, e, rfl⟩⟩
theorem Ext.trans (h1 : Ext S σ σ₁) (h2 : Ext S σ₁ σ₂) : Ext S σ σ₂ := ⟨fun a o e n => h2.keep a o (h1.keep a o e n) n, fun a o e => by
  obtain ⟨o1, e1, r1⟩ := h1.role a o e
  obtain ⟨o2, e2, r2⟩ := h2.role a o1 e1
  exact ⟨o2, e2, r2.trans r1⟩⟩
theorem Ext.mono (h : Ext S σ σ₁) (hs : ∀ r ∈ S, r ∈ S') : Ext S' σ σ₁ := ⟨fun a o e n => h.keep a o e fun m => n (hs _ m), h.role⟩
theorem Ext.set (h : σ a = some ⟨r, x⟩) (hr : r ∈ S) : Ext S σ (σ.set a ⟨r, y⟩) := by
  refine ⟨fun c o e n => ?_, fun c o e => ?_⟩
  · rw [Store.set_ne]
    · exact e
    · rintro rfl; rw [h] at e; cases e; exact n hr
  · by_cases q : c = a
    · subst q; rw [h] at e; cases e; exact ⟨_, Store.set_self _ _ _, rfl⟩
    · exact ⟨o, (Store.set_ne _ _ q).trans e, rfl⟩
theorem Ext.new (h : σ a = none) : Ext S σ (σ.set a o) := by
  refine ⟨fun c o e n => ?_, fun c o e => ⟨o, ?_, rfl⟩⟩
  all_goals
    rw [Store.set_ne]
    · exact e
    · rintro rfl; rw [h] at e; cases e
theorem Ext.get (h : Ext S σ σ₁) (e : σ a = some ⟨r, x⟩) (hr : r ∉ S := by first | decide | simp) : σ₁ a = some ⟨r, x⟩ := h.keep a _ e hr
theorem Ext.live (h : Ext S σ σ₁) (e : σ₁ a = none) : σ a = none := by
  cases q : σ a with
  | none => rfl
  | some o => obtain ⟨o', e', _⟩ := h.role a o q; rw [e] at e'; cases e'
theorem ne_role (h1 : σ a = some ⟨r, x⟩) (h2 : σ b = some ⟨q, y⟩) (hr : r ≠ q := by decide) : a ≠ b := by
  rintro rfl; rw [h1] at h2; cases h2; exact hr rfl
theorem ne_new (h1 : σ a = some o) (h2 : σ b = none) : a ≠ b := by
  rintro rfl; rw [h1] at h2; cases h2
theorem Store.get_role {r' : Nat} {z : Body} (h2 : σ b = some ⟨q, y⟩) (h1 : σ a = some ⟨r, x⟩) (hr : r ≠ q) : (σ.set a ⟨r', z⟩) b = some ⟨q, y⟩ := (Store.set_ne _ _ (ne_role h2 h1 (Ne.symm hr))).trans h2
theorem Store.get_new {o' : MObj} (h2 : σ b = some o) (h1 : σ a = none) : (σ.set a o') b = some o := (Store.set_ne _ _ (ne_new h2 h1)).trans h2
end

section
variable {W : Wd} {X : Cx} {l l' : Lcl} {σ σ₁ σ₀ : Store} {e e₁ e₂ e₃ e₄ e₅ : Expr} {es : List Expr} {a b c d f v : MVal} {Q : MVal → Store → Prop} {pos p' npos tpos : Pos} {rest body orelse : List Stmt} {x : Str} {i : Nat}
theorem ev_c1 (i : Nat) (hm : (i, x) ∈ defTab) (h1 : PE W X l σ e₁ a) (h : OpC W X l σ (.ref (W.fn i)) [a] Q) (hp : backTo pos (starEach [e₁] X.env) = plainArgs [e₁] X.env := by rfl) (hl : X.env.kindOf x = some .globalImplicit := by rfl) (hd : (x == ("__debug__" : Str)) = false := by rfl)
    (he : eval (.Call (.Name x npos) [e₁] [] pos) X.env = (do callWith pos (← eval (.Name x npos) X.env) [] (backTo pos (starEach [e₁] X.env)) (backToKw pos (keywordEach [] X.env))) := by rfl) :
    Ev W X l σ (.Call (.Name x npos) [e₁] [] pos) Q := ev_def i hm (eva_cons (ev_pe h1 (eva_nil h))) hp hl hd he
theorem ev_c2 (i : Nat) (hm : (i, x) ∈ defTab) (h1 : PE W X l σ e₁ a) (h2 : PE W X l σ e₂ b) (h : OpC W X l σ (.ref (W.fn i)) [a, b] Q) (hp : backTo pos (starEach [e₁, e₂] X.env) = plainArgs [e₁, e₂] X.env := by rfl) (hl : X.env.kindOf x = some .globalImplicit := by rfl) (hd : (x == ("__debug__" : Str)) = false := by rfl)
    (he : eval (.Call (.Name x npos) [e₁, e₂] [] pos) X.env = (do callWith pos (← eval (.Name x npos) X.env) [] (backTo pos (starEach [e₁, e₂] X.env)) (backToKw pos (keywordEach [] X.env))) := by rfl) :
    Ev W X l σ (.Call (.Name x npos) [e₁, e₂] [] pos) Q := ev_def i hm (eva_cons (ev_pe h1 (eva_cons (ev_pe h2 (eva_nil h))))) hp hl hd he
theorem ev_c3 (i : Nat) (hm : (i, x) ∈ defTab) (h1 : PE W X l σ e₁ a) (h2 : PE W X l σ e₂ b) (h3 : PE W X l σ e₃ c) (h : OpC W X l σ (.ref (W.fn i)) [a, b, c] Q) (hp : backTo pos (starEach [e₁, e₂, e₃] X.env) = plainArgs [e₁, e₂, e₃] X.env := by rfl) (hl : X.env.kindOf x = some .globalImplicit := by rfl) (hd : (x == ("__debug__" : Str)) = false := by rfl)
    (he : eval (.Call (.Name x npos) [e₁, e₂, e₃] [] pos) X.env = (do callWith pos (← eval (.Name x npos) X.env) [] (backTo pos (starEach [e₁, e₂, e₃] X.env)) (backToKw pos (keywordEach [] X.env))) := by rfl) :
    Ev W X l σ (.Call (.Name x npos) [e₁, e₂, e₃] [] pos) Q := ev_def i hm (eva_cons (ev_pe h1 (eva_cons (ev_pe h2 (eva_cons (ev_pe h3 (eva_nil h))))))) hp hl hd he
theorem ev_c4 (i : Nat) (hm : (i, x) ∈ defTab) (h1 : PE W X l σ e₁ a) (h2 : PE W X l σ e₂ b) (h3 : PE W X l σ e₃ c) (h4 : PE W X l σ e₄ d) (h : OpC W X l σ (.ref (W.fn i)) [a, b, c, d] Q) (hp : backTo pos (starEach [e₁, e₂, e₃, e₄] X.env) = plainArgs [e₁, e₂, e₃, e₄] X.env := by rfl) (hl : X.env.kindOf x = some .globalImplicit := by rfl) (hd : (x == ("__debug__" : Str)) = false := by rfl)
    (he : eval (.Call (.Name x npos) [e₁, e₂, e₃, e₄] [] pos) X.env = (do callWith pos (← eval (.Name x npos) X.env) [] (backTo pos (starEach [e₁, e₂, e₃, e₄] X.env)) (backToKw pos (keywordEach [] X.env))) := by rfl) :
    Ev W X l σ (.Call (.Name x npos) [e₁, e₂, e₃, e₄] [] pos) Q := ev_def i hm (eva_cons (ev_pe h1 (eva_cons (ev_pe h2 (eva_cons (ev_pe h3 (eva_cons (ev_pe h4 (eva_nil h))))))))) hp hl hd he
theorem ev_c5 (i : Nat) (hm : (i, x) ∈ defTab) (h1 : PE W X l σ e₁ a) (h2 : PE W X l σ e₂ b) (h3 : PE W X l σ e₃ c) (h4 : PE W X l σ e₄ d) (h5 : PE W X l σ e₅ f) (h : OpC W X l σ (.ref (W.fn i)) [a, b, c, d, f] Q) (hp : backTo pos (starEach [e₁, e₂, e₃, e₄, e₅] X.env) = plainArgs [e₁, e₂, e₃, e₄, e₅] X.env := by rfl) (hl : X.env.kindOf x = some .globalImplicit := by rfl) (hd : (x == ("__debug__" : Str)) = false := by rfl)
    (he : eval (.Call (.Name x npos) [e₁, e₂, e₃, e₄, e₅] [] pos) X.env = (do callWith pos (← eval (.Name x npos) X.env) [] (backTo pos (starEach [e₁, e₂, e₃, e₄, e₅] X.env)) (backToKw pos (keywordEach [] X.env))) := by rfl) :
    Ev W X l σ (.Call (.Name x npos) [e₁, e₂, e₃, e₄, e₅] [] pos) Q := ev_def i hm (eva_cons (ev_pe h1 (eva_cons (ev_pe h2 (eva_cons (ev_pe h3 (eva_cons (ev_pe h4 (eva_cons (ev_pe h5 (eva_nil h))))))))))) hp hl hd he

/-- len of a list -/
theorem pe_len {xa : Addr} {r : Nat} {vs : List MVal} (h : PE W X l σ e (.ref xa)) (hx : σ xa = some ⟨r, .list vs⟩) (hz : vs.length ≤ 16777216) (hp : backTo pos (starEach [e] X.env) = plainArgs [e] X.env := by rfl)
    (hl : X.env.kindOf "len" = some .globalImplicit := by rfl)
    (he : eval (.Call (.Name "len" npos) [e] [] pos) X.env = (do callWith pos (← eval (.Name "len" npos) X.env) [] (backTo pos (starEach [e] X.env)) (backToKw pos (keywordEach [] X.env))) := by rfl) :
    PE W X l σ (.Call (.Name "len" npos) [e] [] pos) (.int vs.length) := ⟨fun ok =>
  ev_bfun (ok.k.bi _ (by decide)) (by boot_fast) (by decide) (eva_cons (ev_pe h (eva_nil (call_len hx hz ⟨rfl, rfl⟩)))) hp hl (by rfl) he ok⟩
inductive AppL (W : Wd) (X : Cx) (l : Lcl) (xa : Addr) (r : Nat) (vs : List MVal) (rest : List Stmt) (Q : Flw → Lcl → Store → Prop) (v : MVal) (σ : Store) : Prop
  | mk (h : σ xa = some ⟨r, .list vs⟩) (k : Ex W X l (σ.set xa ⟨r, .list (vs ++ [v])⟩) rest Q) : AppL W X l xa r vs rest Q v σ
/-- a list's append as a statement -/
theorem ex_append {xa : Addr} {r : Nat} {vs : List MVal} {o : Expr} {apos epos : Pos} {Q : Flw → Lcl → Store → Prop} (ho : PE W X l σ o (.ref xa)) (hx : σ xa = some ⟨r, .list vs⟩) (hz : vs.length ≤ 16777216)
    (h : Ev W X l σ e (AppL W X l xa r vs rest Q)) (hp : backTo pos (starEach [e] X.env) = plainArgs [e] X.env := by rfl) {pl : Sem Bool}
    (he : eval (.Call (.Attribute o "append" apos) [e] [] pos) X.env = (do
      let ov ← eval o X.env
      standAt apos.atName
      let (f, first) ← holding [ov] (getMethod ov "append" pl)
      callWith pos f first (backTo pos (starEach [e] X.env)) []) := by rfl) (hi : interactive X.env = false := by rfl) (hs : swapsWith (.Call (.Attribute o "append" apos) [e] [] pos) none epos.line X.env = pure false := by rfl) :
    Ex W X l σ (.Expr (.Call (.Attribute o "append" apos) [e] [] pos) epos :: rest) Q := by
  refine ex_expr (ev_meth F.slot_list_append F.type_list_append F.plainAttrs_list (ev_pe ho ⟨xa, rfl, list_is hx rfl, eva_cons (h.mono ?_)⟩) hp he) hi hs
  rintro v σ1 ⟨h1, h2⟩
  exact eva_nil (call_append h1 hz h2)

/-- dict.get -/
theorem pe_get1 {xa : Addr} {r : Nat} {kvs : List (Int × MVal)} {k : Int} {o : Expr} {apos : Pos} (ho : PE W X l σ o (.ref xa)) (hx : σ xa = some ⟨r, .dI kvs⟩) (h : PE W X l σ e (.int k)) (hp : backTo pos (starEach [e] X.env) = plainArgs [e] X.env := by rfl) {pl : Sem Bool}
    (he : eval (.Call (.Attribute o "get" apos) [e] [] pos) X.env = (do
      let ov ← eval o X.env
      standAt apos.atName
      let (f, first) ← holding [ov] (getMethod ov "get" pl)
      callWith pos f first (backTo pos (starEach [e] X.env)) []) := by rfl) : PE W X l σ (.Call (.Attribute o "get" apos) [e] [] pos) ((dget kvs k).getD .none) := ⟨ev_meth F.slot_dict_get F.type_dict_get F.plainAttrs_dict (ev_pe ho ⟨xa, rfl, dI_is hx rfl, eva_cons (ev_pe h (eva_nil (call_get1 hx ⟨rfl, rfl⟩)))⟩) hp he⟩
theorem pe_get2 {xa : Addr} {r : Nat} {kvs : List (Int × MVal)} {k : Int} {o : Expr} {apos : Pos} (ho : PE W X l σ o (.ref xa)) (hx : σ xa = some ⟨r, .dI kvs⟩) (h : PE W X l σ e₁ (.int k)) (h2 : PE W X l σ e₂ d) (hp : backTo pos (starEach [e₁, e₂] X.env) = plainArgs [e₁, e₂] X.env := by rfl) {pl : Sem Bool}
    (he : eval (.Call (.Attribute o "get" apos) [e₁, e₂] [] pos) X.env = (do
      let ov ← eval o X.env
      standAt apos.atName
      let (f, first) ← holding [ov] (getMethod ov "get" pl)
      callWith pos f first (backTo pos (starEach [e₁, e₂] X.env)) []) := by rfl) : PE W X l σ (.Call (.Attribute o "get" apos) [e₁, e₂] [] pos) ((dget kvs k).getD d) := ⟨ev_meth F.slot_dict_get F.type_dict_get F.plainAttrs_dict (ev_pe ho ⟨xa, rfl, dI_is hx rfl, eva_cons (ev_pe h (eva_cons (ev_pe h2 (eva_nil (call_get2 hx ⟨rfl, rfl⟩)))))⟩) hp he⟩
/-- list.pop -/
theorem ev_pop {xa : Addr} {r : Nat} {vs : List MVal} {o : Expr} {apos : Pos} (ho : PE W X l σ o (.ref xa)) (hx : σ xa = some ⟨r, .list (vs ++ [v])⟩) (hz : vs.length < 16777216) (h : Q v (σ.set xa ⟨r, .list vs⟩)) (hp : backTo pos (starEach [] X.env) = plainArgs [] X.env := by rfl) {pl : Sem Bool}
    (he : eval (.Call (.Attribute o "pop" apos) [] [] pos) X.env = (do
      let ov ← eval o X.env
      standAt apos.atName
      let (f, first) ← holding [ov] (getMethod ov "pop" pl)
      callWith pos f first (backTo pos (starEach [] X.env)) []) := by rfl) : Ev W X l σ (.Call (.Attribute o "pop" apos) [] [] pos) Q :=
  ev_meth F.slot_list_pop F.type_list_pop F.plainAttrs_list (ev_pe ho ⟨xa, rfl, list_is hx rfl, eva_nil (call_pop hx hz h)⟩) hp he
theorem ev_pop0 {xa : Addr} {r : Nat} {vs : List MVal} {o : Expr} {apos : Pos} (ho : PE W X l σ o (.ref xa)) (hx : σ xa = some ⟨r, .list (v :: vs)⟩) (hz : vs.length < 16777216) (h0 : PE W X l σ e (.int 0)) (h : Q v (σ.set xa ⟨r, .list vs⟩)) (hp : backTo pos (starEach [e] X.env) = plainArgs [e] X.env := by rfl) {pl : Sem Bool}
    (he : eval (.Call (.Attribute o "pop" apos) [e] [] pos) X.env = (do
      let ov ← eval o X.env
      standAt apos.atName
      let (f, first) ← holding [ov] (getMethod ov "pop" pl)
      callWith pos f first (backTo pos (starEach [e] X.env)) []) := by rfl) : Ev W X l σ (.Call (.Attribute o "pop" apos) [e] [] pos) Q :=
  ev_meth F.slot_list_pop F.type_list_pop F.plainAttrs_list (ev_pe ho ⟨xa, rfl, list_is hx rfl, eva_cons (ev_pe h0 (eva_nil (call_pop0 hx hz h)))⟩) hp he
/-- sorted -/
theorem ev_sorted (h : Ev W X l σ e fun v σ₁ => OpC W X l σ₁ (.builtin "sorted") [v] Q) (hp : backTo pos (starEach [e] X.env) = plainArgs [e] X.env := by rfl)
    (hl : X.env.kindOf "sorted" = some .globalImplicit := by rfl)
    (he : eval (.Call (.Name "sorted" npos) [e] [] pos) X.env = (do callWith pos (← eval (.Name "sorted" npos) X.env) [] (backTo pos (starEach [e] X.env)) (backToKw pos (keywordEach [] X.env))) := by rfl) :
    Ev W X l σ (.Call (.Name "sorted" npos) [e] [] pos) Q := fun ok =>
  ev_bfun (ok.k.bi _ (by decide)) (by boot_fast) (by decide) (eva_cons (h.mono fun _ _ q => eva_nil q)) hp hl (by rfl) he ok
theorem pe_min {i j : Int} (h1 : PE W X l σ e₁ (.int i)) (h2 : PE W X l σ e₂ (.int j)) (hp : backTo pos (starEach [e₁, e₂] X.env) = plainArgs [e₁, e₂] X.env := by rfl)
    (hl : X.env.kindOf "min" = some .globalImplicit := by rfl)
    (he : eval (.Call (.Name "min" npos) [e₁, e₂] [] pos) X.env = (do callWith pos (← eval (.Name "min" npos) X.env) [] (backTo pos (starEach [e₁, e₂] X.env)) (backToKw pos (keywordEach [] X.env))) := by rfl) :
    PE W X l σ (.Call (.Name "min" npos) [e₁, e₂] [] pos) (.int (if j < i then j else i)) := ⟨fun ok =>
  ev_bfun (ok.k.bi _ (by decide)) (by boot_fast) (by decide) (eva_cons (ev_pe h1 (eva_cons (ev_pe h2 (eva_nil (call_min2 ⟨rfl, rfl⟩)))))) hp hl (by rfl) he ok⟩
theorem pe_max {i j : Int} (h1 : PE W X l σ e₁ (.int i)) (h2 : PE W X l σ e₂ (.int j)) (hp : backTo pos (starEach [e₁, e₂] X.env) = plainArgs [e₁, e₂] X.env := by rfl)
    (hl : X.env.kindOf "max" = some .globalImplicit := by rfl)
    (he : eval (.Call (.Name "max" npos) [e₁, e₂] [] pos) X.env = (do callWith pos (← eval (.Name "max" npos) X.env) [] (backTo pos (starEach [e₁, e₂] X.env)) (backToKw pos (keywordEach [] X.env))) := by rfl) :
    PE W X l σ (.Call (.Name "max" npos) [e₁, e₂] [] pos) (.int (if i < j then j else i)) := ⟨fun ok =>
  ev_bfun (ok.k.bi _ (by decide)) (by boot_fast) (by decide) (eva_cons (ev_pe h1 (eva_cons (ev_pe h2 (eva_nil (call_max2 ⟨rfl, rfl⟩)))))) hp hl (by rfl) he ok⟩

theorem ex_ifb {cb : Bool} {Q : Flw → Lcl → Store → Prop} (h : PT W X l σ e cb) (h1 : cb = true → Ex W X l σ body (Fin Q fun l' σ' => Ex W X l' σ' rest Q)) (h2 : cb = false → Ex W X l σ orelse (Fin Q fun l' σ' => Ex W X l' σ' rest Q)) :
    Ex W X l σ (.If e body orelse pos :: rest) Q := ex_if (te_pt h (by cases cb; exact h2 rfl; exact h1 rfl))
theorem ex_ifd {cb : Prop} [Decidable cb] {Q : Flw → Lcl → Store → Prop} (h : PT W X l σ e (decide cb)) (h1 : cb → Ex W X l σ body (Fin Q fun l' σ' => Ex W X l' σ' rest Q)) (h2 : ¬ cb → Ex W X l σ orelse (Fin Q fun l' σ' => Ex W X l' σ' rest Q)) :
    Ex W X l σ (.If e body orelse pos :: rest) Q := ex_ifb h (fun e => h1 (of_decide_eq_true e)) (fun e => h2 (of_decide_eq_false e))

theorem po_ti {xs : List Atom} {k : Nat} {i : Int} {ve se : Expr} (hx : xs[k]? = some (.int i)) (hk : k < 1000)
    (hs : ∀ y u, subscripted se false (.ref y) (.int k u) = operate [.ref y, .int k u] (getItem (.ref y) (.int k u)) := by intro _ _; with_unfolding_all rfl) : PO2 W X l σ (subscriptTail ve se) (.tup xs) (.int k) (.int i) := po_tup hx hk hs
theorem po_tr {xs : List Atom} {k : Nat} {a : Addr} {ve se : Expr} (hx : xs[k]? = some (.ref a)) (hk : k < 1000)
    (hs : ∀ y u, subscripted se false (.ref y) (.int k u) = operate [.ref y, .int k u] (getItem (.ref y) (.int k u)) := by intro _ _; with_unfolding_all rfl) : PO2 W X l σ (subscriptTail ve se) (.tup xs) (.int k) (.ref a) := po_tup hx hk hs
/-- a turn's end -/
noncomputable def Back (Q : Flw → Lcl → Store → Prop) (xs : List (Str × MVal)) (P : Store → Prop) : Flw → Lcl → Store → Prop := Fin Q fun l σ => Has l xs ∧ P σ

inductive ForL (W : Wd) (X : Cx) (l : Lcl) (xl : Str) (body rest : List Stmt) (Q : Flw → Lcl → Store → Prop) (v : MVal) (σ : Store) : Prop
  | mk (y : Addr) (vs : List MVal) (xs : Nat → List (Str × MVal)) (P : Nat → Store → Prop) (h1 : v = .ref y) (h2 : Has l (xs 0)) (h3 : P 0 σ) (h4 : ∀ k σ₂, P k σ₂ → ∃ r, σ₂ y = some ⟨r, .list vs⟩)
    (h5 : ∀ k u σ₂, vs[k]? = some u → P k σ₂ → Ex W X (upd (lc (xs k)) xl u) σ₂ body (Back Q (xs (k + 1)) (P (k + 1)))) (h6 : ∀ σ₂, P vs.length σ₂ → Ex W X (lc (xs vs.length)) σ₂ rest Q) : ForL W X l xl body rest Q v σ
inductive ForR (W : Wd) (X : Cx) (l : Lcl) (xl : Str) (body rest : List Stmt) (Q : Flw → Lcl → Store → Prop) (v : MVal) (σ : Store) : Prop
  | mk (n : Nat) (xs : Nat → List (Str × MVal)) (P : Nat → Store → Prop) (h1 : v = .int n) (h2 : n ≤ 16777216) (h3 : Has l (xs 0)) (h4 : P 0 σ)
    (h5 : ∀ (k : Nat) σ₂, k < n → P k σ₂ → Ex W X (upd (lc (xs k)) xl (.int k)) σ₂ body (Back Q (xs (k + 1)) (P (k + 1)))) (h6 : ∀ σ₂, P n σ₂ → Ex W X (lc (xs n)) σ₂ rest Q) : ForR W X l xl body rest Q v σ
inductive ForT (W : Wd) (X : Cx) (l : Lcl) (xl : Str) (body rest : List Stmt) (Q : Flw → Lcl → Store → Prop) (v : MVal) (σ : Store) : Prop
  | mk (as : List Atom) (xs : Nat → List (Str × MVal)) (P : Nat → Store → Prop) (h1 : v = .tup as) (h2 : Has l (xs 0)) (h3 : P 0 σ)
    (h5 : ∀ k u σ₂, as[k]? = some u → P k σ₂ → Ex W X (upd (lc (xs k)) xl u.val) σ₂ body (Back Q (xs (k + 1)) (P (k + 1)))) (h6 : ∀ σ₂, P as.length σ₂ → Ex W X (lc (xs as.length)) σ₂ rest Q) : ForT W X l xl body rest Q v σ
theorem ex_for_l {xl : Str} {px : Pos} {Q : Flw → Lcl → Store → Prop} 
    (h : Ev W X l σ e (ForL W X l xl body rest Q))
    (hk : X.env.kindOf xl = some .local := by rfl) (hs : ∀ x, foldedSetIterable e X.env x = pure x := by intro _; rfl) : Ex W X l σ (.For (.Name xl px) e body [] pos :: rest) Q := by
  refine ex_for (h.mono ?_) hk hs
  rintro v σ1 ⟨y, vs, xs, P, rfl, hl, h0, hy, turn, fin⟩
  refine ⟨y, vs, fun k l₁ σ₁ => Has l₁ (xs k) ∧ P k σ₁, rfl, ⟨hl, h0⟩, fun k l₂ σ₂ hp => hy k σ₂ hp.2, fun k u l₂ σ₂ hu hp => ?_, fun l₂ σ₂ hp => ex_weak (fin σ₂ hp.2) (le_lc hp.1)⟩
  refine ex_weak ((turn k u σ₂ hu hp.2).mono ?_) (l' := upd (lc (xs k)) xl u) ?_
  · intro f l3 σ3 hq
    cases f with
    | ret v => exact hq
    | next => exact ⟨l3, Lcl.le_refl _, hq⟩
  · intro z v e
    unfold upd at e ⊢
    split at e
    · rename_i q; rw [if_pos q]; exact e
    · rename_i q; rw [if_neg q]; exact le_lc hp.1 z v e
theorem ex_for_p {x₁ x₂ : Str} {p1 p2 pt : Pos} {k : Nat} {Q : Flw → Lcl → Store → Prop} 
    (h : Ev W X l σ e fun v σ₁ => ∃ y vs, ∃ (xs : Nat → List (Str × MVal)) (P : Nat → Store → Prop), v = .ref y ∧ (∀ u ∈ vs, ∃ a b, u = .tup [a, b]) ∧ Has l (xs 0) ∧ P 0 σ₁ ∧ (∀ k σ₂, P k σ₂ → ∃ r, σ₂ y = some ⟨r, .list vs⟩) ∧
      (∀ k u σ₂, vs[k]? = some u → P k σ₂ → Ex W X (pairBind x₁ x₂ u (lc (xs k))) σ₂ body (Back Q (xs (k + 1)) (P (k + 1)))) ∧ (∀ σ₂, P vs.length σ₂ → Ex W X (lc (xs vs.length)) σ₂ rest Q))
    (hk1 : X.env.kindOf x₁ = some .local := by rfl) (hk2 : X.env.kindOf x₂ = some .local := by rfl) (hs : ∀ x, foldedSetIterable e X.env x = pure x := by intro _; rfl) :
    Ex W X l σ (.For (.Tuple [.Name x₁ p1, .Name x₂ p2] k pt) e body [] pos :: rest) Q := by
  refine ex_for_g (bind := fun _ u l => pairBind x₁ x₂ u l) (h.mono ?_) hs
  rintro v σ1 ⟨y, vs, xs, P, rfl, hv, hl, h0, hy, turn, fin⟩
  refine ⟨y, vs, fun k l₁ σ₁ => Has l₁ (xs k) ∧ P k σ₁, rfl, ⟨hl, h0⟩, fun k l₂ σ₂ hp => hy k σ₂ hp.2, fun it => binds_pair hv hk1 hk2, fun k u l₂ σ₂ hu hp => ?_, fun l₂ σ₂ hp => ex_weak (fin σ₂ hp.2) (le_lc hp.1)⟩
  refine ex_weak ((turn k u σ₂ hu hp.2).mono ?_) (l' := pairBind x₁ x₂ u (lc (xs k))) ?_
  · intro f l3 σ3 hq
    cases f with
    | ret v => exact hq
    | next => exact ⟨l3, Lcl.le_refl _, hq⟩
  · obtain ⟨a, b, rfl⟩ := hv u (List.mem_of_getElem? hu)
    intro z v e
    simp only [pairBind] at e ⊢
    unfold upd at e ⊢
    split at e
    · rename_i q; rw [if_pos q]; exact e
    · rename_i q; rw [if_neg q]
      split at e
      · rename_i q; rw [if_pos q]; exact e
      · rename_i q; rw [if_neg q]; exact le_lc hp.1 z v e
theorem ex_for_r {xl : Str} {px cp : Pos} {Q : Flw → Lcl → Store → Prop} 
    (h : Ev W X l σ e (ForR W X l xl body rest Q))
    (hk : X.env.kindOf xl = some .local := by rfl) (hs : ∀ x, foldedSetIterable (.Call (.Name "range" npos) [e] [] cp) X.env x = pure x := by intro _; rfl)
    (hp : backTo cp (starEach [e] X.env) = plainArgs [e] X.env := by rfl) (hkr : X.env.kindOf "range" = some .globalImplicit := by rfl)
    (he : eval (.Call (.Name "range" npos) [e] [] cp) X.env = (do callWith cp (← eval (.Name "range" npos) X.env) [] (backTo cp (starEach [e] X.env)) (backToKw cp (keywordEach [] X.env))) := by rfl) :
    Ex W X l σ (.For (.Name xl px) (.Call (.Name "range" npos) [e] [] cp) body [] pos :: rest) Q := fun ok => by
  refine ex_for_range (ok.k.bi _ (by decide)) (by boot_fast) (h.mono ?_) hk hs hp hkr he ok
  rintro v σ1 ⟨n, xs, P, rfl, hz, hl, h0, turn, fin⟩
  refine ⟨n, fun k l₁ σ₁ => Has l₁ (xs k) ∧ P k σ₁, rfl, hz, ⟨hl, h0⟩, fun k l₂ σ₂ hu hp => ?_, fun l₂ σ₂ hp => ex_weak (fin σ₂ hp.2) (le_lc hp.1)⟩
  refine ex_weak ((turn k σ₂ hu hp.2).mono ?_) (l' := upd (lc (xs k)) xl (.int k)) ?_
  · intro f l3 σ3 hq
    cases f with
    | ret v => exact hq
    | next => exact ⟨l3, Lcl.le_refl _, hq⟩
  · intro z v e
    unfold upd at e ⊢
    split at e
    · rename_i q; rw [if_pos q]; exact e
    · rename_i q; rw [if_neg q]; exact le_lc hp.1 z v e
theorem ex_for_t {xl : Str} {px : Pos} {Q : Flw → Lcl → Store → Prop}
    (h : Ev W X l σ e (ForT W X l xl body rest Q))
    (hk : X.env.kindOf xl = some .local := by rfl) (hs : ∀ x, foldedSetIterable e X.env x = pure x := by intro _; rfl) : Ex W X l σ (.For (.Name xl px) e body [] pos :: rest) Q := by
  refine ex_for_tup (h.mono ?_) hk hs
  rintro v σ1 ⟨as, xs, P, rfl, hl, h0, turn, fin⟩
  refine ⟨as, fun k l₁ σ₁ => Has l₁ (xs k) ∧ P k σ₁, rfl, ⟨hl, h0⟩, fun k u l₂ σ₂ hu hp => ?_, fun l₂ σ₂ hp => ex_weak (fin σ₂ hp.2) (le_lc hp.1)⟩
  refine ex_weak ((turn k u σ₂ hu hp.2).mono ?_) (l' := upd (lc (xs k)) xl u.val) ?_
  · intro f l3 σ3 hq
    cases f with
    | ret v => exact hq
    | next => exact ⟨l3, Lcl.le_refl _, hq⟩
  · intro z v e
    unfold upd at e ⊢
    split at e
    · rename_i q; rw [if_pos q]; exact e
    · rename_i q; rw [if_neg q]; exact le_lc hp.1 z v e
theorem ex_while_l {ST : Type} {Q : Flw → Lcl → Store → Prop} (xs : ST → List (Str × MVal)) (m : ST → Nat) (P : ST → Store → Prop) (st : ST) (hl : Has l (xs st)) (h0 : P st σ)
    (turn : ∀ st σ₁, P st σ₁ → Te W X (lc (xs st)) σ₁ e fun c σ₂ => if c then Ex W X (lc (xs st)) σ₂ body (Fin Q fun l σ => ∃ st', m st' < m st ∧ Has l (xs st') ∧ P st' σ) else Ex W X (lc (xs st)) σ₂ rest Q) :
    Ex W X l σ (.While e body [] pos :: rest) Q := by
  refine ex_weak (ex_while (fun n l₁ σ₁ => ∃ st, n = m st ∧ l₁ = lc (xs st) ∧ P st σ₁) (m st) ⟨st, rfl, rfl, h0⟩ ?_) (le_lc hl)
  rintro _ l1 σ1 ⟨st, rfl, rfl, hp⟩
  refine (turn st σ1 hp).mono fun c σ2 h => ?_
  cases c with
  | false => exact h
  | true =>
    refine Ex.mono h fun f l3 σ3 hq => ?_
    cases f with
    | ret v => exact hq
    | next => obtain ⟨st', hm, hh, hp'⟩ := hq; exact ⟨lc (xs st'), le_lc hh, m st', hm, st', rfl, rfl, hp'⟩
end
theorem lenm {α β : Type} {f : α → β} {xs : List α} {n : Nat} (h : xs.length ≤ n) : (xs.map f).length ≤ n := by rw [List.length_map]; exact h
theorem nlt {n a b : Nat} (h : n < a) (k : Nat.ble (a + 1) b = true := by rfl) : n + 1 < b := Nat.lt_of_lt_of_le (Nat.succ_lt_succ h) (Nat.le_of_ble_eq_true k)
theorem nle {n a b : Nat} (h : n < a) (k : Nat.ble a b = true := by rfl) : n < b := Nat.lt_of_lt_of_le h (Nat.le_of_ble_eq_true k)
/-- a goal's large parts by names of their own -/
theorem ex_let3 {W : Wd} {X : Cx} {l : Lcl} {σ : Store} {st : List Stmt} {Q : Flw → Lcl → Store → Prop} (h : let Xx := X; let ll := l; let Qq := Q; Ex W Xx ll σ st Qq) : Ex W X l σ st Q := h
theorem ex_let2 {W : Wd} {X : Cx} {l : Lcl} {σ : Store} {st : List Stmt} {Q : Flw → Lcl → Store → Prop} (h : let ll := l; let Qq := Q; Ex W X ll σ st Qq) : Ex W X l σ st Q := h
end

-- walking
local macro_rules | `(tactic| walk_at "b0") => `(tactic| (intro rargs _ _ _ _ _ e; match rargs, e with | [], _ => rfl))
local macro_rules | `(tactic| walk_at "b1") => `(tactic| (intro rargs _ _ _ _ _ e; obtain ⟨_, hh⟩ := len1 e; subst hh; rfl))
local macro_rules | `(tactic| walk_at "b2") => `(tactic| (intro rargs _ _ _ _ _ e; obtain ⟨_, _, hh⟩ := len2 e; subst hh; rfl))
local macro_rules | `(tactic| walk_at "b3") => `(tactic| (intro rargs _ _ _ _ _ e; obtain ⟨_, _, _, hh⟩ := len3 e; subst hh; rfl))
local macro_rules | `(tactic| walk_at "b4") => `(tactic| (intro rargs _ _ _ _ _ e; obtain ⟨_, _, _, _, hh⟩ := len4 e; subst hh; rfl))
local macro_rules | `(tactic| walk_at "b5") => `(tactic| (intro rargs _ _ _ _ _ e; obtain ⟨_, _, _, _, _, hh⟩ := len5 e; subst hh; rfl))
local macro_rules | `(tactic| walk_at "st") => `(tactic| first
  | assumption
  | exact Store.set_self _ _ _
  | (refine' Store.get_new ?s4 ?s5; (case s5 => assumption); (case s4 => walk_at "st"))
  | (refine' Store.get_role ?s1 ?s2 ?s3; (case s1 => walk_at "st"); (case s2 => walk_at "st"); (case s3 => decide)))
local macro_rules | `(tactic| walk_at "po") => `(tactic| first
  | exact po_add | exact po_sub | exact po_iadd | exact po_isub | exact po_lt | exact po_le | exact po_gt | exact po_ge | exact po_eq | exact po_ne
  | (refine' po_shr ?p8; (case p8 => decide)) | (refine' po_mod ?p3; (case p3 => omega)) | (refine' po_div ?p4 ?p5; (case p4 => omega); (case p5 => omega))
  | exact po_ti (k := 0) rfl (by decide) | exact po_ti (k := 1) rfl (by decide) | exact po_ti (k := 2) rfl (by decide) | exact po_tr (k := 0) rfl (by decide) | exact po_tr (k := 1) rfl (by decide)
  | (refine' po_ind ?p1; (case p1 => walk_at "st")) | (refine' po_notind ?p2; (case p2 => walk_at "st"))
  | assumption)
local macro_rules | `(tactic| walk_at "pe") => `(tactic| first
  | assumption
  | exact pe_int | exact pe_none | exact pe_bool
  | exact pe_loc rfl
  | exact pe_gint rfl
  | (refine' pe_cell rfl ?hcl; (case hcl => walk_at "st"))
  | (refine' pe_neg ?p6; (case p6 => walk_at "pe"))
  | (refine' pe_key ?hk1 ?hk2 ?hk3; (case hk1 => walk_at "pe"); (case hk2 => walk_at "st"); (case hk3 => rfl))
  | (refine' pe_attr ?hpe ?hst ?hf ?ha; (case hpe => walk_at "pe"); (case hst => walk_at "st"); (case hf => rfl); (case ha => decide))
  | (refine' pe_bin ?q2a ?q2b ?q2c; (case q2a => walk_at "pe"); (case q2b => walk_at "pe"); (case q2c => walk_at "po"))
  | (refine' pe_sub ?q3a ?q3b ?q3c; (case q3a => walk_at "pe"); (case q3b => walk_at "pe"); (case q3c => walk_at "po"))
  | (refine' pe_cmp ?q4a ?q4b ?q4c; (case q4a => walk_at "pe"); (case q4b => walk_at "pe"); (case q4c => walk_at "po"))
  | (refine' pe_len ?q5a ?q5b ?q5c; (case q5a => walk_at "pe"); (case q5b => walk_at "st"); (case q5c => (first | omega | (simp; done) | (simp; omega)))))
local macro_rules | `(tactic| walk_at "pt") => `(tactic| first
  | assumption
  | (refine' pt_cmp ?q6a ?q6b ?q6c; (case q6a => walk_at "pe"); (case q6b => walk_at "pe"); (case q6c => walk_at "po"))
  | (refine' pt_not ?p7; (case p7 => walk_at "pt"))
  | exact pt_and0 | exact pt_or0)



/-! ## the heap, as data -/
set_option genInjectivity false in
structure Th where
  ref : Addr
  sl : Addr
  addr : Int
  kind : Int
  gen : Int
  size : Int
  serial : Int
  slots : List Int
noncomputable def Th.F (t : Th) : Str → Option MVal := lc [("serial", .int t.serial), ("size", .int t.size), ("gen", .int t.gen), ("slots", .ref t.sl), ("kind", .int t.kind), ("addr", .int t.addr)]
noncomputable def Th.rv (t : Th) : MVal := .ref t.ref
set_option genInjectivity false in
structure Hp where
  a : Addr
  th : Addr
  at_ : Addr
  ca : Addr
  fi : Addr
  re : Addr
  ts : List Th
  cs : List Int
  fs : List Int
  rs : List Int
  top : Int
  limit : Int
  fresh : Int
  young : Int
  moved : Int
  made : Int
noncomputable def Hp.F (H : Hp) : Str → Option MVal := lc [("made", .int H.made), ("moved", .int H.moved), ("ready", .ref H.re), ("finals", .ref H.fi), ("young_limit", .int H.young), ("fresh", .int H.fresh), ("card_bits", .int 2), ("cards", .ref H.ca),
  ("limit", .int H.limit), ("top", .int H.top), ("at", .ref H.at_), ("things", .ref H.th)]
/-- a reference value -/
noncomputable def sv (a : Int) : MVal := .tup [.int 4, .int a]
noncomputable def TRep (σ : Store) (t : Th) : Prop := (∃ dx nf, nf ≤ 900 ∧ σ t.ref = some ⟨10, .inst .thing dx nf t.F⟩) ∧ σ t.sl = some ⟨11, .list (t.slots.map sv)⟩
structure HRep (σ : Store) (H : Hp) : Prop where
  hp : ∃ dx nf, nf ≤ 900 ∧ σ H.a = some ⟨1, .inst .heap dx nf H.F⟩
  th : σ H.th = some ⟨2, .list (H.ts.map Th.rv)⟩
  at_ : σ H.at_ = some ⟨3, .dI (H.ts.map fun t => (t.addr, t.rv))⟩
  ca : σ H.ca = some ⟨4, .dI (H.cs.map fun c => (c, .int 1))⟩
  fi : σ H.fi = some ⟨5, .list (H.fs.map .int)⟩
  re : σ H.re = some ⟨6, .list (H.rs.map sv)⟩
  ts : ∀ t ∈ H.ts, TRep σ t
  nd : (H.ts.map Th.ref).Nodup ∧ (H.ts.map Th.sl).Nodup

noncomputable def lset : List (Str × MVal) → Str → MVal → List (Str × MVal)
  | [], _, _ => []
  | (y, u) :: r, x, v => if y = x then (y, v) :: r else (y, u) :: lset r x v
theorem upd_lc {x : Str} {v : MVal} : ∀ {xs : List (Str × MVal)}, (lc xs x).isSome = true → upd (lc xs) x v = lc (lset xs x v)
  | [], h => by cases h
  | (y, u) :: r, h => by
    funext z
    simp only [lset]
    split
    · rename_i q; subst q
      simp only [lc]; unfold upd
      by_cases e : z = y
      · simp [e]
      · simp [e]
    · rename_i q
      have ih := upd_lc (x := x) (v := v) (xs := r) (by
        unfold lc upd at h
        rwa [if_neg (Ne.symm q)] at h)
      have := congrFun ih z
      simp only [lc]
      unfold upd at this ⊢
      rw [← this]
      by_cases e : z = y
      · subst e; simp [q]
      · simp [e]

noncomputable def noTouch (S : List Nat) : Bool := [1, 2, 3, 4, 5, 6, 10, 11].all fun r => !S.contains r
section
variable {S : List Nat} {σ σ' : Store} {H : Hp} {t : Th}
theorem TRep.ext (T : TRep σ t) (E : Ext S σ σ') (h1 : 10 ∉ S) (h2 : 11 ∉ S) : TRep σ' t := by
  obtain ⟨⟨dx, nf, h, e⟩, e2⟩ := T
  exact ⟨⟨dx, nf, h, E.keep _ _ e h1⟩, E.keep _ _ e2 h2⟩
theorem HRep.ext (R : HRep σ H) (E : Ext S σ σ') (h : noTouch S = true) : HRep σ' H := by
  have g : ∀ r ∈ [1, 2, 3, 4, 5, 6, 10, 11], r ∉ S := fun r hr => by
    have := List.all_eq_true.mp h r hr
    simpa using this
  obtain ⟨dx, nf, hz, e⟩ := R.hp
  exact ⟨⟨dx, nf, hz, E.keep _ _ e (g 1 (by decide))⟩, E.keep _ _ R.th (g 2 (by decide)), E.keep _ _ R.at_ (g 3 (by decide)), E.keep _ _ R.ca (g 4 (by decide)), E.keep _ _ R.fi (g 5 (by decide)),
    E.keep _ _ R.re (g 6 (by decide)), fun t ht => (R.ts t ht).ext E (g 10 (by decide)) (g 11 (by decide)), R.nd⟩
end

/-- what the heap's data keep to -/
structure HOk (H : Hp) : Prop where
  ad : (H.ts.map Th.addr).Nodup
  pos : ∀ t ∈ H.ts, 0 < t.addr
  num : H.ts.length ≤ 60
  ncs : H.cs.length ≤ 1000
  nfs : H.fs.length + H.rs.length ≤ 1000
  nsl : ∀ t ∈ H.ts, t.slots.length ≤ 2
  gen : ∀ t ∈ H.ts, 0 ≤ t.gen ∧ t.gen ≤ 2
  sl : ∀ t ∈ H.ts, ∀ b ∈ t.slots, b = 0 ∨ ∃ u ∈ H.ts, u.addr = b
  rs : ∀ b ∈ H.rs, ∃ u ∈ H.ts, u.addr = b
  fs : ∀ b ∈ H.fs, ∃ u ∈ H.ts, u.addr = b

theorem dget_map {α : Type} {f : α → Int} {g : α → MVal} : ∀ {ts : List α} {t : α}, (ts.map f).Nodup → t ∈ ts → dget (ts.map fun t => (f t, g t)) (f t) = some (g t)
  | u :: r, t, nd, h => by
    rw [List.map_cons, List.nodup_cons] at nd
    simp only [List.map_cons, dget]
    rcases List.mem_cons.mp h with rfl | h
    · simp
    · have : f u ≠ f t := fun e => nd.1 (e ▸ List.mem_map.mpr ⟨t, h, rfl⟩)
      rw [if_neg this]; exact dget_map nd.2 h
theorem dget_none {α : Type} {f : α → Int} {g : α → MVal} {k : Int} : ∀ {ts : List α}, k ∉ ts.map f → dget (ts.map fun t => (f t, g t)) k = none
  | [], _ => rfl
  | u :: r, h => by
    rw [List.map_cons, List.mem_cons, not_or] at h
    simp only [List.map_cons, dget]
    rw [if_neg (Ne.symm h.1)]; exact dget_none h.2

section
variable {W : Wd} {X : Cx} {l : Lcl} {σ : Store} {Q : MVal → Store → Prop} {H : Hp} {t : Th}

theorem c_words_for {k : Int} (hn : X.n < 60) (q : Q (.int (if 2 + k < 3 then 3 else 2 + k)) σ) : OpC W X l σ (.ref (W.fn 14)) [.int k] Q := by
  refine def_call0 (x := "words_for") 14 (by decide) ["count"] hn rfl (by walk_at "b1") rfl (fun _ => rfl) rfl rfl rfl ?_
  intro A h₀ L outer base A₀ cdv
  refine ex_let3 ?_
  intro Xx ll Qq
  refine ex_ifb (by walk_at "pt") (fun h => ?_) fun h => ?_
  · rw [if_pos (of_decide_eq_true h)] at q
    exact ex_ret (ev_pe (by walk_at "pe") q)
  · rw [if_neg (of_decide_eq_false h)] at q
    exact ex_nil (ex_ret (ev_pe (by walk_at "pe") q))

theorem c_find_thing (hn : X.n < 60) (R : HRep σ H) (ok : HOk H) (ht : t ∈ H.ts) (q : Q t.rv σ) : OpC W X l σ (.ref (W.fn 20)) [.ref H.a, .int t.addr] Q := by
  refine def_call0 (x := "find_thing") 20 (by decide) ["heap", "word"] hn rfl (by walk_at "b2") rfl (fun _ => rfl) rfl rfl rfl ?_
  intro A h₀ L outer base A₀ cdv
  refine ex_let3 ?_
  intro Xx ll Qq
  obtain ⟨dx, nf, hz, hH⟩ := R.hp
  have hat := R.at_
  refine ex_assign (ev_pe (pe_get1 (by walk_at "pe") hat (by walk_at "pe")) ?_)
  rw [dget_map ok.ad ht]
  refine ex_if (te_pt (pt_cmp (pe_loc rfl) pe_none (po_isn (v := t.rv) (by intro h; cases h))) ?_)
  exact ex_ret (ev_pe (by walk_at "pe") q)
end


theorem map_get {α β : Type} {f : α → β} {xs : List α} {k : Nat} {u : β} (h : (xs.map f)[k]? = some u) : ∃ a, xs[k]? = some a ∧ u = f a := by
  rw [List.getElem?_map] at h
  obtain ⟨a, e, rfl⟩ := Option.map_eq_some_iff.mp h
  exact ⟨a, e, rfl⟩
theorem take_next {α : Type} {xs : List α} {k : Nat} {a : α} (h : xs[k]? = some a) : xs.take (k + 1) = xs.take k ++ [a] := by rw [List.take_add_one, h]; rfl

/-! ## marking, as data -/
noncomputable def thAt (ts : List Th) (b : Int) : Option Th := ts.find? fun t => t.addr == b
theorem thAt_of {ts : List Th} {t : Th} : (ts.map Th.addr).Nodup → t ∈ ts → thAt ts t.addr = some t := by
  induction ts with
  | nil => intro _ h; cases h
  | cons u r ih =>
    intro nd h
    rw [List.map_cons, List.nodup_cons] at nd
    unfold thAt
    rw [List.find?_cons]
    cases e : (u.addr == t.addr) with
    | true =>
      rcases List.mem_cons.mp h with rfl | h
      · rfl
      · exact absurd (List.mem_map.mpr ⟨t, h, (beq_iff_eq.mp e).symm⟩) nd.1
    | false =>
      rcases List.mem_cons.mp h with rfl | h
      · rw [beq_self_eq_true] at e; cases e
      · exact ih nd.2 h
abbrev MSt := List Int × List Th
noncomputable def pushM (ts : List Th) (g : Int) (st : MSt) (b : Int) : MSt := match thAt ts b with
  | none => st
  | some t => if g < t.gen ∨ b ∈ st.1 then st else (st.1 ++ [b], st.2 ++ [t])
noncomputable def pushs (ts : List Th) (g : Int) (bs : List Int) (st : MSt) : MSt := bs.foldl (pushM ts g) st
theorem pushs_next {ts : List Th} {g : Int} {bs : List Int} {st : MSt} {k : Nat} {b : Int} (h : bs[k]? = some b) : pushs ts g (bs.take (k + 1)) st = pushM ts g (pushs ts g (bs.take k) st) b := by
  unfold pushs; rw [take_next h, List.foldl_append]; rfl
/-- a word that may be followed -/
noncomputable def Wrd (ts : List Th) (b : Int) : Prop := b = 0 ∨ ∃ u ∈ ts, u.addr = b
theorem pushM_zero {ts : List Th} {g : Int} {st : MSt} (h : ∀ t ∈ ts, 0 < t.addr) : pushM ts g st 0 = st := by
  unfold pushM
  cases e : thAt ts 0 with
  | none => rfl
  | some t =>
    unfold thAt at e
    have h1 := List.mem_of_find?_eq_some e
    have h2 := List.find?_some e
    have := h t h1
    simp at h2; omega

noncomputable def mkv (a : Int) : Int × MVal := (a, .int 1)
/-- the marks and the work, in the store -/
structure MW (σ : Store) (m k : Addr) (st : MSt) : Prop where
  m : σ m = some ⟨40, .dI (st.1.map mkv)⟩
  k : σ k = some ⟨41, .list (st.2.map Th.rv)⟩
theorem MW.ext {S : List Nat} {σ σ' : Store} {m k : Addr} {st : MSt} (h : MW σ m k st) (E : Ext S σ σ') (h1 : 40 ∉ S := by decide) (h2 : 41 ∉ S := by decide) : MW σ' m k st := ⟨E.keep _ _ h.m h1, E.keep _ _ h.k h2⟩
theorem dput_new {α : Type} [DecidableEq α] {k : α} {v : MVal} : ∀ {kvs : List (α × MVal)}, k ∉ kvs.map (·.1) → dput kvs k v = kvs ++ [(k, v)]
  | [], _ => rfl
  | (a, u) :: r, h => by
    rw [List.map_cons, List.mem_cons, not_or] at h
    simp only [dput]
    rw [if_neg (Ne.symm h.1), dput_new h.2]; rfl
theorem mkv_keys (M : List Int) : (M.map mkv).map (·.1) = M := by rw [List.map_map]; exact List.map_id _
theorem dget_mkv (M : List Int) (a : Int) : (dget (M.map mkv) a).isSome = decide (a ∈ M) := by
  induction M with
  | nil => simp [dget]
  | cons b r ih =>
    simp only [List.map_cons, mkv, dget]
    by_cases h : b = a
    · subst h; simp
    · rw [if_neg h]
      rw [ih]
      simp [Ne.symm h]
/-- a bound on the marks -/
structure MOk (ts : List Th) (st : MSt) : Prop where
  nd : st.1.Nodup
  sub : ∀ a ∈ st.1, a ∈ ts.map Th.addr
  wk : ∀ t ∈ st.2, t ∈ ts
  num : st.2.length ≤ st.1.length
theorem nodup_len {α : Type} [DecidableEq α] {xs ys : List α} (nd : xs.Nodup) (h : ∀ a ∈ xs, a ∈ ys) : xs.length ≤ ys.length := by
  induction xs generalizing ys with
  | nil => simp
  | cons a r ih =>
    rw [List.nodup_cons] at nd
    have h1 : a ∈ ys := h a (.head _)
    have : r.length ≤ (ys.erase a).length := ih nd.2 fun b hb => by
      have hb' := h b (.tail _ hb)
      have : b ≠ a := fun e => nd.1 (e ▸ hb)
      exact (List.mem_erase_of_ne this).mpr hb'
    rw [List.length_erase_of_mem h1] at this
    have hp : 0 < ys.length := List.length_pos_of_mem h1
    simp only [List.length_cons]; omega
theorem MOk.len {ts : List Th} {st : MSt} (h : MOk ts st) : st.1.length ≤ ts.length := by
  have := nodup_len h.nd h.sub
  simpa using this
theorem pushM_ok {ts : List Th} {g : Int} {st : MSt} {b : Int} (h : MOk ts st) : MOk ts (pushM ts g st b) := by
  unfold pushM
  cases e : thAt ts b with
  | none => exact h
  | some t =>
    dsimp only
    have h1 := List.mem_of_find?_eq_some e
    have h2 : t.addr = b := by have := List.find?_some e; simpa using this
    split
    · exact h
    · try (refine ex_let2 ?_; intro lX QX)
      rename_i q
      rw [not_or] at q
      refine ⟨?_, fun a ha => ?_, fun u hu => ?_, ?_⟩
      · rw [List.nodup_append]
        exact ⟨h.nd, by simp, fun a ha c hc => by simp at hc; subst hc; rintro rfl; exact q.2 ha⟩
      · try (refine ex_let2 ?_; intro lX QX)
        rcases List.mem_append.mp ha with ha | ha
        · exact h.sub a ha
        · simp at ha; subst ha; subst h2; exact List.mem_map.mpr ⟨t, h1, rfl⟩
      · try (refine ex_let2 ?_; intro lX QX)
        rcases List.mem_append.mp hu with hu | hu
        · exact h.wk u hu
        · simp at hu; subst hu; exact h1
      · simp; exact h.num
theorem pushs_ok {ts : List Th} {g : Int} {bs : List Int} {st : MSt} (h : MOk ts st) : MOk ts (pushs ts g bs st) := by
  unfold pushs
  induction bs generalizing st with
  | nil => exact h
  | cons b r ih => exact ih (pushM_ok h)

section
variable {W : Wd} {X : Cx} {l : Lcl} {σ : Store} {Q : MVal → Store → Prop} {H : Hp} {t : Th} {st : MSt} {m k : Addr} {g a : Int}

theorem c_words_of (hn : X.n < 60) (q : ∀ D, σ D = none → Q (.ref D) (σ.set D ⟨0, .list [.int a]⟩)) : OpC W X l σ (.ref (W.fn 26)) [sv a] Q := by
  refine def_call0 (x := "words_of") 26 (by decide) ["value"] hn rfl (by walk_at "b1") rfl (fun _ => rfl) rfl rfl rfl ?_
  intro A h₀ L outer base A₀ cdv
  refine ex_let3 ?_
  intro Xx ll Qq
  refine ex_ifb (by walk_at "pt") (fun h => ?_) fun h => by simp at h
  exact ex_ret (ev_list 0 (eva_cons (ev_pe (by walk_at "pe") (eva_nil ⟨by simp, q⟩))))

theorem c_push_word (hn : X.n < 59) (R : HRep σ H) (ok : HOk H) (mw : MW σ m k st) (mo : MOk H.ts st) (hb : Wrd H.ts a) (q : ∀ σ', Ext [40, 41] σ σ' → MW σ' m k (pushM H.ts g st a) → Q .none σ') :
    OpC W X l σ (.ref (W.fn 27)) [.ref H.a, .int a, .int g, .ref m, .ref k] Q := by
  refine def_call0 (x := "push_word") 27 (by decide) ["heap", "word", "gen", "marks", "work"] (nle hn) rfl (by walk_at "b5") rfl (fun _ => rfl) rfl rfl rfl ?_
  intro A h₀ L outer base A₀ cdv
  refine ex_let3 ?_
  intro Xx ll Qq
  refine ex_ifb (by walk_at "pt") (fun h => ?_) fun h => ?_
  · have h := of_decide_eq_true h
    subst h
    exact ex_ret0 (q σ .refl (by rw [pushM_zero ok.pos]; exact mw))
  · try (refine ex_let2 ?_; intro lX QX)
    have h := of_decide_eq_false h
    obtain ⟨t, ht, rfl⟩ := hb.resolve_left h
    refine ex_nil (ex_assign (ev_c2 20 (by decide) (by walk_at "pe") (by walk_at "pe") (c_find_thing (nlt hn) R ok ht ?_)))
    obtain ⟨⟨dx, nf, hz, hT⟩, hS⟩ := R.ts t ht
    have hm := mw.m
    have hk := mw.k
    refine ex_ifb (pt_or (pt_cmp (pe_loc rfl) pe_none (po_is (v := t.rv) (by intro h; cases h))) fun _ => pt_or (by walk_at "pt") fun _ => pt_or (by walk_at "pt") fun _ => by walk_at "pt") (fun h => ?_) fun h => ?_
    · rw [dget_mkv] at h
      have e : pushM H.ts g st t.addr = st := by
        unfold pushM; rw [thAt_of ok.ad ht]; dsimp only; rw [if_pos]; simpa using h
      exact ex_ret0 (q σ .refl (by rw [e]; exact mw))
    · rw [dget_mkv] at h
      have e : pushM H.ts g st t.addr = (st.1 ++ [t.addr], st.2 ++ [t]) := by
        unfold pushM; rw [thAt_of ok.ad ht]; dsimp only; rw [if_neg]; simpa using h
      have hl := mo.len
      have hl2 := mo.num
      have hN := ok.num
      have h' : t.addr ∉ st.1 := by simp at h; exact h.2
      refine ex_nil (ex_sub_dI (ev_pe pe_int ⟨m, 40, st.1.map mkv, t.addr, by walk_at "pe", by walk_at "pe", hm, by simp; omega, ?_⟩))
      rw [dput_new (by rw [mkv_keys]; exact h')]
      refine ex_append (by walk_at "pe") (by walk_at "st") (by simp; omega) (ev_pe (by walk_at "pe") ⟨by walk_at "st", ?_⟩)
      refine ex_nil (q _ ((Ext.set hm (by decide)).trans (Ext.set (by walk_at "st") (by decide))) ?_)
      rw [e]
      exact ⟨(Store.set_ne _ _ (ne_role hm hk)).trans (by rw [Store.set_self, List.map_append]; rfl), by rw [Store.set_self, List.map_append]; rfl⟩
end


theorem last_of {α : Type} (xs : List α) : xs = [] ∨ ∃ ys y, xs = ys ++ [y] := by
  rcases List.eq_nil_or_concat xs with h | ⟨ys, y, h⟩
  · exact .inl h
  · exact .inr ⟨ys, y, by rw [h, List.concat_eq_append]⟩

inductive DrainR (ts : List Th) (g : Int) : MSt → List Int → Prop
  | done (M : List Int) : DrainR ts g (M, []) M
  | step (M : List Int) (wk : List Th) (t : Th) (M' : List Int) : DrainR ts g (pushs ts g t.slots (M, wk)) M' → DrainR ts g (M, wk ++ [t]) M'
noncomputable def meas (ts : List Th) (st : MSt) : Nat := 2 * (ts.length - st.1.length) + st.2.length
theorem pushM_meas {ts : List Th} {g : Int} {st : MSt} {b : Int} (h : MOk ts st) : meas ts (pushM ts g st b) ≤ meas ts st := by
  have ho := pushM_ok (g := g) (b := b) h
  have h1 := ho.len
  unfold pushM at h1 ⊢
  cases e : thAt ts b with
  | none => exact Nat.le_refl _
  | some t =>
    rw [e] at h1
    dsimp only at h1 ⊢
    split
    · exact Nat.le_refl _
    · rename_i q
      rw [if_neg q] at h1
      unfold meas
      simp only [List.length_append, List.length_singleton] at h1 ⊢
      omega
theorem pushs_meas {ts : List Th} {g : Int} {bs : List Int} {st : MSt} (h : MOk ts st) : meas ts (pushs ts g bs st) ≤ meas ts st := by
  unfold pushs
  induction bs generalizing st with
  | nil => exact Nat.le_refl _
  | cons b r ih => exact Nat.le_trans (ih (pushM_ok h)) (pushM_meas h)
noncomputable def cardOf (w : Int) : Int := w / 2 ^ (2 : Int).toNat
noncomputable def oldOf (cs : List Int) (g : Int) (t : Th) : List (Th × Nat) := if g < t.gen then ((List.range t.slots.length).filter fun s : Nat => decide (cardOf (t.addr + 2 + (s : Int)) ∈ cs)).map fun s => (t, s) else []
noncomputable def oldPairs (cs : List Int) (g : Int) (ts : List Th) : List (Th × Nat) := ts.flatMap (oldOf cs g)
noncomputable def pv (p : Th × Nat) : MVal := .tup [.ref p.1.ref, .int p.2]
theorem flat_next {α β : Type} {f : α → List β} {xs : List α} {k : Nat} {a : α} (h : xs[k]? = some a) : (xs.take (k + 1)).flatMap f = (xs.take k).flatMap f ++ f a := by rw [take_next h, List.flatMap_append]; simp
theorem take_all {α : Type} (xs : List α) : xs.take xs.length = xs := List.take_length

section
variable {W : Wd} {X : Cx} {l : Lcl} {σ : Store} {Q : MVal → Store → Prop} {H : Hp} {t : Th} {st : MSt} {m k : Addr} {g a : Int}

theorem c_push_value (hn : X.n < 58) (R : HRep σ H) (ok : HOk H) (mw : MW σ m k st) (mo : MOk H.ts st) (hb : Wrd H.ts a) (q : ∀ σ', Ext [40, 41] σ σ' → MW σ' m k (pushM H.ts g st a) → Q .none σ') :
    OpC W X l σ (.ref (W.fn 28)) [.ref H.a, sv a, .int g, .ref m, .ref k] Q := by
  refine def_call0 (x := "push_value") 28 (by decide) ["heap", "value", "gen", "marks", "work"] (nle hn) rfl (by walk_at "b5") rfl (fun _ => rfl) rfl rfl rfl ?_
  intro A h₀ L outer base A₀ cdv
  refine ex_let3 ?_
  intro Xx ll Qq
  refine ex_for_l (ev_c1 26 (by decide) (by walk_at "pe") (c_words_of (nlt hn) fun D hD => ?_))
  refine ⟨D, [.int a], fun _ => [("heap", .ref H.a), ("gen", .int g), ("marks", .ref m), ("work", .ref k)], fun i σ₁ => Ext [40, 41] σ σ₁ ∧ σ₁ D = some ⟨0, .list [.int a]⟩ ∧ MW σ₁ m k (if i = 0 then st else pushM H.ts g st a), rfl, ⟨rfl, rfl, rfl, rfl, trivial⟩,
    ⟨.new hD, Store.set_self _ _ _, mw.ext (S := []) (.new hD)⟩, fun i σ₂ h => ⟨0, h.2.1⟩, fun i u σ₂ hu => And.elim fun E => And.elim fun hD2 mw2 => ?_, fun σ₂ => And.elim fun E => And.elim fun hD2 mw2 => ex_nil (q σ₂ E mw2)⟩
  match i, hu with
  | 0, hu =>
    cases hu
    exact ex_expr (ev_c5 27 (by decide) (by walk_at "pe") (by walk_at "pe") (by walk_at "pe") (by walk_at "pe") (by walk_at "pe") (c_push_word (nlt hn) (R.ext E (by decide)) ok mw2 mo hb fun σ' E' mw' =>
      ex_nil ⟨⟨rfl, rfl, rfl, rfl, trivial⟩, E.trans E', E'.get hD2, mw'⟩))

theorem Wrd.of (ok : HOk H) (ht : t ∈ H.ts) {b : Int} (hb : b ∈ t.slots) : Wrd H.ts b := ok.sl t ht b hb

theorem c_drain (hn : X.n < 57) (R : HRep σ H) (ok : HOk H) (mw : MW σ m k st) (mo : MOk H.ts st) (q : ∀ σ' M', Ext [40, 41] σ σ' → DrainR H.ts g st M' → MOk H.ts (M', []) → MW σ' m k (M', []) → Q .none σ') :
    OpC W X l σ (.ref (W.fn 29)) [.ref H.a, .ref k, .int g, .ref m] Q := by
  refine def_call0 (x := "drain") 29 (by decide) ["heap", "work", "gen", "marks"] (nle hn) rfl (by walk_at "b4") rfl (fun _ => rfl) rfl rfl rfl ?_
  intro A h₀ L outer base A₀ cdv
  refine ex_let3 ?_
  intro Xx ll Qq
  refine ex_while_l (ST := MSt) (fun _ => [("heap", .ref H.a), ("work", .ref k), ("gen", .int g), ("marks", .ref m)]) (meas H.ts) (fun s1 σ₁ => Ext [40, 41] σ σ₁ ∧ MW σ₁ m k s1 ∧ MOk H.ts s1 ∧ ∀ M', DrainR H.ts g s1 M' → DrainR H.ts g st M') st
    ⟨rfl, rfl, rfl, rfl, trivial⟩ ⟨.refl, mw, mo, fun _ h => h⟩ ?_
  rintro s1 σ₁ ⟨E, mw1, mo1, hr⟩
  try (refine ex_let2 ?_; intro lX QX)
  have hl := mo1.len
  have hl2 := mo1.num
  have hN := ok.num
  have hk := mw1.k
  refine te_pt (by walk_at "pt") ?_
  obtain ⟨M, wk⟩ := s1
  rcases last_of wk with rfl | ⟨wk', t, rfl⟩
  · rw [if_neg (by simp)]
    exact ex_nil (q σ₁ M E (hr _ (.done M)) mo1 mw1)
  · rw [if_pos (by simp)]
    simp only [List.length_append, List.length_singleton] at hl2 hl
    dsimp only at hk
    rw [List.map_append] at hk
    have htm : t ∈ H.ts := mo1.wk t (by simp)
    refine ex_assign (ev_pop (v := t.rv) (by walk_at "pe") hk (by simp; omega) ?_)
    have E1 : Ext [40, 41] σ₁ (σ₁.set k ⟨41, .list (wk'.map Th.rv)⟩) := .set hk (by decide)
    have mw2 : MW (σ₁.set k ⟨41, .list (wk'.map Th.rv)⟩) m k (M, wk') := ⟨Store.get_role mw1.m hk (by decide), Store.set_self _ _ _⟩
    have mo2 : MOk H.ts (M, wk') := ⟨mo1.nd, mo1.sub, fun u hu => mo1.wk u (by simp [hu]), by simp only; omega⟩
    have R1 := R.ext (E.trans E1) (by decide)
    obtain ⟨⟨dx, nf, hz, hT⟩, hS⟩ := R1.ts t htm
    refine ex_for_l (ev_pe (by walk_at "pe") ⟨t.sl, t.slots.map sv, fun _ => [("heap", .ref H.a), ("work", .ref k), ("gen", .int g), ("marks", .ref m)],
      fun i σ₂ => Ext [40, 41] (σ₁.set k ⟨41, .list (wk'.map Th.rv)⟩) σ₂ ∧ MW σ₂ m k (pushs H.ts g (t.slots.take i) (M, wk')), rfl, ⟨rfl, rfl, rfl, rfl, trivial⟩, ⟨.refl, mw2⟩, fun i σ₂ h => ⟨11, h.1.get hS⟩, fun i u σ₂ hu => And.elim fun E2 mw3 => ?_, fun σ₂ => And.elim fun E2 mw3 => ?_⟩)
    · try (refine ex_let2 ?_; intro lX QX)
      obtain ⟨b, hb, rfl⟩ := map_get hu
      have hbm : b ∈ t.slots := List.mem_of_getElem? hb
      refine ex_expr (ev_c5 28 (by decide) (by walk_at "pe") (by walk_at "pe") (by walk_at "pe") (by walk_at "pe") (by walk_at "pe") (c_push_value (nlt hn) (R1.ext E2 (by decide)) ok mw3 (pushs_ok mo2) (.of ok htm hbm) fun σ' E' mw' =>
        ex_nil ⟨⟨rfl, rfl, rfl, rfl, trivial⟩, E2.trans E', by rw [pushs_next hb]; exact mw'⟩))
    · rw [List.length_map, take_all] at mw3
      refine ex_nil ⟨pushs H.ts g t.slots (M, wk'), ?_, ⟨rfl, rfl, rfl, rfl, trivial⟩, E.trans (E1.trans E2), mw3, pushs_ok mo2, fun M' h => hr M' (.step M wk' t M' h)⟩
      have := pushs_meas (g := g) (bs := t.slots) mo2
      unfold meas at this ⊢
      simp only [List.length_append, List.length_singleton] at this ⊢
      omega
end


theorem oldOf_len (cs : List Int) (g : Int) (t : Th) : (oldOf cs g t).length ≤ t.slots.length := by
  unfold oldOf
  split
  · rw [List.length_map]; exact Nat.le_trans (List.length_filter_le _ _) (by simp)
  · simp
theorem flat_len {α β : Type} {f : α → List β} {n : Nat} : ∀ {xs : List α}, (∀ x ∈ xs, (f x).length ≤ n) → (xs.flatMap f).length ≤ n * xs.length
  | [], _ => by simp
  | x :: r, h => by
    have := flat_len (f := f) (xs := r) fun y hy => h y (.tail _ hy)
    have h1 := h x (.head _)
    rw [List.flatMap_cons, List.length_append, List.length_cons, Nat.mul_succ]; omega
theorem oldPairs_len {H : Hp} (ok : HOk H) (cs : List Int) (g : Int) (i : Nat) : (oldPairs cs g (H.ts.take i)).length ≤ 120 := by
  have h := flat_len (f := oldOf cs g) (n := 2) (xs := H.ts.take i) fun t ht => Nat.le_trans (oldOf_len cs g t) (ok.nsl t (List.mem_of_mem_take ht))
  have h2 : (H.ts.take i).length ≤ H.ts.length := by rw [List.length_take]; omega
  have h3 := ok.num
  unfold oldPairs; omega

section
variable {W : Wd} {X : Cx} {l : Lcl} {σ : Store} {Q : MVal → Store → Prop} {H : Hp} {t : Th} {st : MSt} {m k : Addr} {g a : Int}

theorem c_slot_word {s : Int} (hn : X.n < 60) (T : TRep σ t) (q : Q (.int (t.addr + 2 + s)) σ) : OpC W X l σ (.ref (W.fn 21)) [t.rv, .int s] Q := by
  refine def_call0 (x := "slot_word") 21 (by decide) ["thing", "slot"] (nle hn) rfl (by walk_at "b2") rfl (fun _ => rfl) rfl rfl rfl ?_
  intro A h₀ L outer base A₀ cdv
  refine ex_let3 ?_
  intro Xx ll Qq
  obtain ⟨⟨dx, nf, hz, hT⟩, hS⟩ := T
  exact ex_ret (ev_pe (by walk_at "pe") q)
theorem c_card_number (hn : X.n < 60) (R : HRep σ H) (q : Q (.int (cardOf a)) σ) : OpC W X l σ (.ref (W.fn 23)) [.ref H.a, .int a] Q := by
  refine def_call0 (x := "card_number") 23 (by decide) ["heap", "word"] (nle hn) rfl (by walk_at "b2") rfl (fun _ => rfl) rfl rfl rfl ?_
  intro A h₀ L outer base A₀ cdv
  refine ex_let3 ?_
  intro Xx ll Qq
  obtain ⟨dx, nf, hz, hH⟩ := R.hp
  exact ex_ret (ev_pe (by walk_at "pe") q)
theorem c_refs_in (hn : X.n < 60) (q : ∀ D, σ D = none → Q (.ref D) (σ.set D ⟨0, .list (if a = 0 then [] else [.int a])⟩)) : OpC W X l σ (.ref (W.fn 5)) [sv a] Q := by
  refine def_call0 (x := "refs_in") 5 (by decide) ["value"] hn rfl (by walk_at "b1") rfl (fun _ => rfl) rfl rfl rfl ?_
  intro A h₀ L outer base A₀ cdv
  refine ex_let3 ?_
  intro Xx ll Qq
  refine ex_ifb (by walk_at "pt") (fun h => ?_) fun h => by simp at h
  refine ex_ifb (by walk_at "pt") (fun h => ?_) fun h => ?_
  · try (refine ex_let2 ?_; intro lX QX)
    have h := of_decide_eq_true h
    rw [if_pos h] at q
    exact ex_ret (ev_list 0 (eva_nil ⟨by simp, q⟩))
  · try (refine ex_let2 ?_; intro lX QX)
    have h := of_decide_eq_false h
    rw [if_neg h] at q
    exact ex_nil (ex_ret (ev_list 0 (eva_cons (ev_pe (by walk_at "pe") (eva_nil ⟨by simp, q⟩)))))
theorem c_holds_reference (hn : X.n < 60) (q : Q (.bool (decide (a ≠ 0))) σ) : OpC W X l σ (.ref (W.fn 22)) [sv a] Q := by
  refine def_call0 (x := "holds_reference") 22 (by decide) ["value"] hn rfl (by walk_at "b1") rfl (fun _ => rfl) rfl rfl rfl ?_
  intro A h₀ L outer base A₀ cdv
  refine ex_let3 ?_
  intro Xx ll Qq
  refine ex_ifb (by walk_at "pt") (fun h => ?_) fun h => by simp at h
  exact ex_ret (ev_pe (by walk_at "pe") q)

theorem oldPairs_next {cs : List Int} {i : Nat} {ts : List Th} (h : ts[i]? = some t) : oldPairs cs g (ts.take (i + 1)) = oldPairs cs g (ts.take i) ++ oldOf cs g t := flat_next h
theorem c_old_slots (hn : X.n < 59) (R : HRep σ H) (ok : HOk H) (q : ∀ σ' D, Ext [42] σ σ' → σ D = none → σ' D = some ⟨42, .list ((oldPairs H.cs g H.ts).map pv)⟩ → Q (.ref D) σ') :
    OpC W X l σ (.ref (W.fn 30)) [.ref H.a, .int g] Q := by
  refine def_call0 (x := "old_slots") 30 (by decide) ["heap", "gen"] (nle hn) rfl (by walk_at "b2") rfl (fun _ => rfl) rfl rfl rfl ?_
  intro A h₀ L outer base A₀ cdv
  refine ex_let3 ?_
  intro Xx ll Qq
  obtain ⟨dx, nf, hz, hH⟩ := R.hp
  refine ex_assign (ev_list 42 (eva_nil ⟨Nat.le_of_ble_eq_true rfl, fun D hD => ?_⟩))
  have E0 : Ext [42] σ (σ.set D ⟨42, .list []⟩) := .new hD
  refine ex_for_l (ev_pe (by walk_at "pe") ⟨H.th, H.ts.map Th.rv, fun _ => [("heap", .ref H.a), ("gen", .int g), ("out", .ref D)], fun i σ₂ => Ext [42] σ σ₂ ∧ σ₂ D = some ⟨42, .list ((oldPairs H.cs g (H.ts.take i)).map pv)⟩,
    rfl, ⟨rfl, rfl, rfl, trivial⟩, ⟨E0, Store.set_self _ _ _⟩, fun i σ₂ h => ⟨2, h.1.get R.th⟩, fun i u σ₂ hu => And.elim fun E hD2 => ?_, fun σ₂ => And.elim fun E hD2 => ?_⟩)
  · try (refine ex_let2 ?_; intro lX QX)
    obtain ⟨t, ht, rfl⟩ := map_get hu
    have htm : t ∈ H.ts := List.mem_of_getElem? ht
    obtain ⟨⟨dt, nt, hzt, hT⟩, hS⟩ := (R.ext E (by decide)).ts t htm
    refine ex_ifb (by walk_at "pt") (fun h => ?_) fun h => ?_
    · try (refine ex_let2 ?_; intro lX QX)
      have h := of_decide_eq_true h
      have hsl := ok.nsl t htm
      have hof : oldOf H.cs g t = ((List.range t.slots.length).filter fun s : Nat => decide (cardOf (t.addr + 2 + (s : Int)) ∈ H.cs)).map fun s => (t, s) := if_pos h
      refine ex_for_r (ev_pe (by walk_at "pe") ⟨t.slots.length, fun _ => [("heap", .ref H.a), ("gen", .int g), ("out", .ref D), ("thing", t.rv)],
        fun j σ₃ => Ext [42] σ σ₃ ∧ σ₃ D = some ⟨42, .list ((oldPairs H.cs g (H.ts.take i) ++ ((List.range j).filter fun s : Nat => decide (cardOf (t.addr + 2 + (s : Int)) ∈ H.cs)).map fun s => (t, s)).map pv)⟩,
        by rw [List.length_map], ?_, ⟨rfl, rfl, rfl, rfl, trivial⟩, ⟨E, by simpa using hD2⟩, fun j σ₃ hj => And.elim fun E3 hD3 => ?_, fun σ₃ => And.elim fun E3 hD3 => ?_⟩)
      · try (refine ex_let2 ?_; intro lX QX)
        have := ok.nsl t htm; omega
      · try (refine ex_let2 ?_; intro lX QX)
        have R3 := R.ext E3 (by decide)
        have hca := R3.ca
        obtain ⟨dx3, nf3, hz3, hH3⟩ := R3.hp
        have T3 := R3.ts t htm
        refine ex_ifb (pt_cmp ⟨ev_c2 23 (by decide) (by walk_at "pe") ⟨ev_c2 21 (by decide) (by walk_at "pe") (by walk_at "pe") (c_slot_word (nlt hn) T3 ⟨rfl, rfl⟩)⟩ (c_card_number (nlt hn) R3 ⟨rfl, rfl⟩)⟩
          (by walk_at "pe") (po_ind (kvs := H.cs.map mkv) hca)) (fun hc => ?_) fun hc => ?_
        · rw [dget_mkv] at hc
          have hlen := oldPairs_len ok H.cs g i
          have hj2 := ok.nsl t htm
          have hfl : ((List.range j).filter fun s : Nat => decide (cardOf (t.addr + 2 + (s : Int)) ∈ H.cs)).length ≤ j := Nat.le_trans (List.length_filter_le _ _) (by simp)
          refine ex_append (by walk_at "pe") hD3 (by simp only [List.length_map, List.length_append]; omega) (ev_tup (eva_cons (ev_pe (by walk_at "pe") (eva_cons (ev_pe (by walk_at "pe") (eva_nil ⟨[.ref t.ref, .int j], rfl, Nat.le_of_ble_eq_true rfl, hD3, ?_⟩))))))
          refine ex_nil (ex_nil ⟨⟨rfl, rfl, rfl, rfl, trivial⟩, E3.trans (.set hD3 (by decide)), ?_⟩)
          rw [Store.set_self, List.range_succ, List.filter_append]
          simp only [List.filter_cons, List.filter_nil, hc, if_true, List.map_append, List.append_assoc]; rfl
        · rw [dget_mkv] at hc
          refine ex_nil (ex_nil ⟨⟨rfl, rfl, rfl, rfl, trivial⟩, E3, ?_⟩)
          rw [List.range_succ, List.filter_append]
          simpa only [List.filter_cons, List.filter_nil, hc, Bool.false_eq_true, if_false, List.append_nil] using hD3
      · exact ex_nil (ex_nil ⟨⟨rfl, rfl, rfl, trivial⟩, E3, by rw [oldPairs_next ht, hof]; exact hD3⟩)
    · try (refine ex_let2 ?_; intro lX QX)
      have h := of_decide_eq_false h
      have hof : oldOf H.cs g t = [] := if_neg h
      exact ex_nil (ex_nil ⟨⟨rfl, rfl, rfl, trivial⟩, E, by rw [oldPairs_next ht, hof, List.append_nil]; exact hD2⟩)
  · rw [List.length_map, take_all] at hD2
    exact ex_ret (ev_pe (by walk_at "pe") (q σ₂ D E hD hD2))
end


theorem pushs_app {ts : List Th} {g : Int} {a b : List Int} {st : MSt} : pushs ts g (a ++ b) st = pushs ts g b (pushs ts g a st) := by unfold pushs; rw [List.foldl_append]
noncomputable def oldVal (p : Th × Nat) : Int := p.1.slots.getD p.2 0
theorem mem_oldPairs {cs : List Int} {g : Int} {ts : List Th} {p : Th × Nat} : p ∈ oldPairs cs g ts ↔ p.1 ∈ ts ∧ g < p.1.gen ∧ p.2 < p.1.slots.length ∧ cardOf (p.1.addr + 2 + (p.2 : Int)) ∈ cs := by
  unfold oldPairs
  rw [List.mem_flatMap]
  constructor
  · rintro ⟨t, ht, hp⟩
    try (refine ex_let2 ?_; intro lX QX)
    unfold oldOf at hp
    split at hp
    · try (refine ex_let2 ?_; intro lX QX)
      rename_i hg
      obtain ⟨s, hs, rfl⟩ := List.mem_map.mp hp
      rw [List.mem_filter] at hs
      exact ⟨ht, hg, List.mem_range.mp hs.1, of_decide_eq_true hs.2⟩
    · cases hp
  · try (refine ex_let2 ?_; intro lX QX)
    obtain ⟨t, s⟩ := p
    rintro ⟨ht, hg, hs, hc⟩
    try (refine ex_let2 ?_; intro lX QX)
    refine ⟨t, ht, ?_⟩
    unfold oldOf
    rw [if_pos hg]
    exact List.mem_map.mpr ⟨s, List.mem_filter.mpr ⟨List.mem_range.mpr hs, decide_eq_true hc⟩, rfl⟩

/-- rows of values, in the store -/
noncomputable def Ls (σ : Store) (as : List Addr) (cs : List (List Int)) : Prop := All2 (fun a c => ∃ r, r ∈ [6, 13, 43] ∧ σ a = some ⟨r, .list (c.map sv)⟩) as cs
noncomputable def noLs (S : List Nat) : Bool := [6, 13, 43].all fun r => !S.contains r
theorem Ls.ext {S : List Nat} {σ σ' : Store} {as : List Addr} {cs : List (List Int)} (h : Ls σ as cs) (E : Ext S σ σ') (hs : noLs S = true) : Ls σ' as cs := All2.mono (fun a c ⟨r, hr, e⟩ => ⟨r, hr, E.keep _ _ e (by
  have := List.all_eq_true.mp hs r hr
  simpa using this)⟩) h
theorem Ls.get {σ : Store} {as : List Addr} {cs : List (List Int)} (h : Ls σ as cs) {i : Nat} {a : Addr} (e : as[i]? = some a) : ∃ c r, cs[i]? = some c ∧ r ∈ [6, 13, 43] ∧ σ a = some ⟨r, .list (c.map sv)⟩ :=
  let ⟨c, hc, r, hr, e2⟩ := All2.get h e; ⟨c, r, hc, hr, e2⟩

section
variable {W : Wd} {X : Cx} {l : Lcl} {σ : Store} {Q : MVal → Store → Prop} {H : Hp} {t : Th} {st : MSt} {m k y : Addr} {g a : Int} {as : List Addr} {cs : List (List Int)}

noncomputable def st0 (H : Hp) (g : Int) (cs : List (List Int)) : MSt :=
  let s1 := pushs H.ts g cs.flatten ([], [])
  if g < 2 then pushs H.ts g ((oldPairs H.cs g H.ts).map oldVal) s1 else s1
theorem mok0 {ts : List Th} : MOk ts ([], []) := ⟨List.nodup_nil, fun _ h => (by cases h), fun _ h => (by cases h), Nat.le_refl _⟩
theorem flatten_next {α : Type} {xs : List (List α)} {i : Nat} {c : List α} (h : xs[i]? = some c) : (xs.take (i + 1)).flatten = (xs.take i).flatten ++ c := by rw [take_next h, List.flatten_append]; simp

theorem c_mark (hn : X.n < 56) (R : HRep σ H) (ok : HOk H) (hy : σ y = some ⟨44, .list (as.map .ref)⟩) (hl : Ls σ as cs) (hw : ∀ c ∈ cs, ∀ b ∈ c, Wrd H.ts b)
    (q : ∀ σ' m M, Ext [40, 41, 42] σ σ' → σ m = none → DrainR H.ts g (st0 H g cs) M → MOk H.ts (M, []) → σ' m = some ⟨40, .dI (M.map mkv)⟩ → Q (.ref m) σ') :
    OpC W X l σ (.ref (W.fn 31)) [.ref H.a, .ref y, .int g] Q := by
  refine def_call0 (x := "mark") 31 (by decide) ["heap", "lists", "gen"] (nle hn) rfl (by walk_at "b3") rfl (fun _ => rfl) rfl rfl rfl ?_
  intro A h₀ L outer base A₀ cdv
  refine ex_let3 ?_
  intro Xx ll Qq
  refine ex_assign (ev_dict0I 40 fun m hm => ex_assign (ev_list 41 (eva_nil ⟨Nat.le_of_ble_eq_true rfl, fun k hk => ?_⟩)))
  have hmk : (σ.set m ⟨40, .dI []⟩) m = some ⟨40, .dI []⟩ := Store.set_self _ _ _
  generalize hσ1 : (σ.set m ⟨40, .dI []⟩).set k ⟨41, .list []⟩ = σ1
  have E1 : Ext [40, 41, 42] σ σ1 := hσ1 ▸ (Ext.new hm).trans (.new hk)
  have mw1 : MW σ1 m k ([], []) := hσ1 ▸ ⟨Store.get_new hmk hk, Store.set_self _ _ _⟩
  refine ex_for_l (ev_pe (by walk_at "pe") ⟨y, as.map .ref, fun _ => [("heap", .ref H.a), ("gen", .int g), ("marks", .ref m), ("work", .ref k)],
    fun i σ₂ => Ext [40, 41, 42] σ1 σ₂ ∧ MW σ₂ m k (pushs H.ts g (cs.take i).flatten ([], [])), rfl, ⟨rfl, rfl, rfl, rfl, trivial⟩, ⟨.refl, mw1⟩, fun i σ₂ h => ⟨44, (E1.trans h.1).get hy⟩, fun i u σ₂ hu => And.elim fun E2 mw2 => ?_, fun σ₂ => And.elim fun E2 mw2 => ?_⟩)
  · try (refine ex_let2 ?_; intro lX QX)
    obtain ⟨a, ha, rfl⟩ := map_get hu
    obtain ⟨c, r, hc, hr, hca⟩ := (hl.ext (E1.trans E2) (by decide)).get ha
    have hcm : c ∈ cs := List.mem_of_getElem? hc
    have hr' : r ∉ [40, 41] := by
      intro h; simp at hr h; omega
    refine ex_for_l (ev_pe (by walk_at "pe") ⟨a, c.map sv, fun _ => [("heap", .ref H.a), ("gen", .int g), ("marks", .ref m), ("work", .ref k)],
      fun j σ₃ => Ext [40, 41] σ₂ σ₃ ∧ MW σ₃ m k (pushs H.ts g (c.take j) (pushs H.ts g (cs.take i).flatten ([], []))), rfl, ⟨rfl, rfl, rfl, rfl, trivial⟩, ⟨.refl, mw2⟩, fun j σ₃ h => ⟨r, h.1.get hca hr'⟩, fun j u σ₃ hu => And.elim fun E3 mw3 => ?_, fun σ₃ => And.elim fun E3 mw3 => ?_⟩)
    · try (refine ex_let2 ?_; intro lX QX)
      obtain ⟨b, hb, rfl⟩ := map_get hu
      exact ex_expr (ev_c5 28 (by decide) (by walk_at "pe") (by walk_at "pe") (by walk_at "pe") (by walk_at "pe") (by walk_at "pe") (c_push_value (nlt hn) (R.ext (E1.trans (E2.trans (E3.mono (by first | decide | simp)))) (by decide)) ok mw3 (pushs_ok (pushs_ok mok0)) (hw c hcm b (List.mem_of_getElem? hb)) fun σ' E' mw' =>
        ex_nil ⟨⟨rfl, rfl, rfl, rfl, trivial⟩, E3.trans E', by rw [pushs_next hb]; exact mw'⟩))
    · rw [List.length_map, take_all] at mw3
      exact ex_nil ⟨⟨rfl, rfl, rfl, rfl, trivial⟩, E2.trans (E3.mono (by first | decide | simp)), by rw [flatten_next hc, pushs_app]; exact mw3⟩
  · try (refine ex_let2 ?_; intro lX QX)
    have hlen : as.length = cs.length := All2.len hl
    rw [List.length_map, hlen, take_all] at mw2
    have drain : ∀ σ₄, Ext [40, 41, 42] σ σ₄ → MW σ₄ m k (st0 H g cs) → MOk H.ts (st0 H g cs) → Ex W (mkCx "mark" (fScope (topS 31)) (W.fn 31) (X.n + 1) A h₀ L outer base A₀ cdv) (lc [("heap", .ref H.a), ("gen", .int g), ("marks", .ref m), ("work", .ref k)]) σ₄ ((fBody (topS 31)).drop 4) fun fl _ σ'' => Q (retOf fl) σ'' := by
      intro σ₄ E4 mw4 mo4
      try (refine ex_let2 ?_; intro lX QX)
      refine ex_expr (ev_c4 29 (by decide) (by walk_at "pe") (by walk_at "pe") (by walk_at "pe") (by walk_at "pe") (c_drain (nlt hn) (R.ext E4 (by decide)) ok mw4 mo4 fun σ' M' E' hd mo' mw' => ?_))
      exact ex_ret (ev_pe (by walk_at "pe") (q σ' m M' (E4.trans (E'.mono (by first | decide | simp))) hm hd mo' mw'.m))
    refine ex_ifb (by walk_at "pt") (fun h => ?_) fun h => ?_
    · try (refine ex_let2 ?_; intro lX QX)
      have h := of_decide_eq_true h
      have e0 : st0 H g cs = pushs H.ts g ((oldPairs H.cs g H.ts).map oldVal) (pushs H.ts g cs.flatten ([], [])) := if_pos h
      refine ex_for_p (ev_c2 30 (by decide) (by walk_at "pe") (by walk_at "pe") (c_old_slots (nlt hn) (R.ext (E1.trans E2) (by decide)) ok fun σ3 D E3 hD hD3 => ?_))
      refine ⟨D, (oldPairs H.cs g H.ts).map pv, fun _ => [("heap", .ref H.a), ("gen", .int g), ("marks", .ref m), ("work", .ref k)],
        fun i σ₄ => Ext [40, 41] σ3 σ₄ ∧ MW σ₄ m k (pushs H.ts g (((oldPairs H.cs g H.ts).map oldVal).take i) (pushs H.ts g cs.flatten ([], []))), rfl, fun u hu => ?_, ⟨rfl, rfl, rfl, rfl, trivial⟩, ⟨.refl, mw2.ext E3⟩, fun i σ₄ h => ⟨42, h.1.get hD3⟩, fun i u σ₄ hu => And.elim fun E4 mw4 => ?_, fun σ₄ => And.elim fun E4 mw4 => ?_⟩
      · try (refine ex_let2 ?_; intro lX QX)
        obtain ⟨p, _, rfl⟩ := List.mem_map.mp hu; exact ⟨_, _, rfl⟩
      · try (refine ex_let2 ?_; intro lX QX)
        obtain ⟨⟨t, s⟩, hp, rfl⟩ := map_get hu
        obtain ⟨htm, hg, hs, _⟩ := mem_oldPairs.mp (List.mem_of_getElem? hp)
        dsimp only at htm hg hs
        have R4 := R.ext (E1.trans (E2.trans ((E3.mono (by first | decide | simp)).trans (E4.mono (by first | decide | simp))))) (S := [40, 41, 42]) (by decide)
        obtain ⟨⟨dx, nf, hz, hT⟩, hS⟩ := R4.ts t htm
        have hb : t.slots[s]? = some (oldVal (t, s)) := by unfold oldVal; rw [List.getD_eq_getElem?_getD, List.getElem?_eq_getElem hs]; rfl
        have hsl := ok.nsl t htm
        have hv : (((oldPairs H.cs g H.ts).map oldVal))[i]? = some (oldVal (t, s)) := by rw [List.getElem?_map, hp]; rfl
        refine ex_expr (ev_c5 28 (by decide) (by walk_at "pe") (pe_sub (by walk_at "pe") (by walk_at "pe") (po_idx (k := s) hS (by omega) (by rw [List.getElem?_map, Int.toNat_natCast, hb]; rfl) (by omega))) (by walk_at "pe") (by walk_at "pe") (by walk_at "pe")
          (c_push_value (nlt hn) R4 ok mw4 (pushs_ok (pushs_ok mok0)) (.of ok htm (List.mem_of_getElem? hb)) fun σ' E' mw' => ex_nil ⟨⟨rfl, rfl, rfl, rfl, trivial⟩, E4.trans E', by rw [pushs_next hv]; exact mw'⟩))
      · try (refine ex_let2 ?_; intro lX QX)
        have hle : (oldPairs H.cs g H.ts).length = ((oldPairs H.cs g H.ts).map oldVal).length := by simp
        rw [List.length_map, hle, take_all] at mw4
        exact ex_nil (drain σ₄ (E1.trans (E2.trans ((E3.mono (by first | decide | simp)).trans (E4.mono (by first | decide | simp))))) (e0 ▸ mw4) (e0 ▸ pushs_ok (pushs_ok mok0)))
    · try (refine ex_let2 ?_; intro lX QX)
      have h := of_decide_eq_false h
      have e0 : st0 H g cs = pushs H.ts g cs.flatten ([], []) := if_neg h
      exact ex_nil (drain σ₂ (E1.trans E2) (e0 ▸ mw2) (e0 ▸ pushs_ok mok0))
end


noncomputable def addC (cs : List Int) (c : Int) : List Int := if c ∈ cs then cs else cs ++ [c]
theorem dput_mkv : ∀ (cs : List Int) (c : Int), dput (cs.map mkv) c (.int 1) = (addC cs c).map mkv
  | [], c => rfl
  | b :: r, c => by
    have ih := dput_mkv r c
    simp only [List.map_cons, mkv, dput]
    by_cases h : b = c
    · subst h; simp [addC, mkv]
    · rw [if_neg h]
      unfold addC at ih ⊢
      by_cases hc : c ∈ r
      · rw [if_pos hc] at ih; rw [if_pos (.tail _ hc), ih]; rfl
      · rw [if_neg hc] at ih
        have : c ∉ b :: r := by rw [List.mem_cons, not_or]; exact ⟨Ne.symm h, hc⟩
        rw [if_neg this, ih]; rfl
theorem addC_len (cs : List Int) (c : Int) : (addC cs c).length ≤ cs.length + 1 := by unfold addC; split <;> simp

section
variable {σ : Store} {H H' : Hp}
/-- the heap's own fields turn -/
theorem HRep.heapSet {dx : Addr} {nf : Nat} (hH : σ H.a = some ⟨1, .inst .heap dx nf H.F⟩) (hz : nf ≤ 900) {F' : Str → Option MVal} (H' : Hp) (ha : H'.a = H.a) (hF : F' = H'.F)
    (hth : σ H'.th = some ⟨2, .list (H'.ts.map Th.rv)⟩) (hat : σ H'.at_ = some ⟨3, .dI (H'.ts.map fun t => (t.addr, t.rv))⟩) (hca : σ H'.ca = some ⟨4, .dI (H'.cs.map mkv)⟩)
    (hfi : σ H'.fi = some ⟨5, .list (H'.fs.map .int)⟩) (hre : σ H'.re = some ⟨6, .list (H'.rs.map sv)⟩) (hts : ∀ t ∈ H'.ts, TRep σ t) (nd : (H'.ts.map Th.ref).Nodup ∧ (H'.ts.map Th.sl).Nodup) :
    HRep (σ.set H.a ⟨1, .inst .heap dx nf F'⟩) H' where
  hp := ⟨dx, nf, hz, by rw [ha, ← hF]; exact Store.set_self _ _ _⟩
  th := Store.get_role hth hH (by decide)
  at_ := Store.get_role hat hH (by decide)
  ca := Store.get_role hca hH (by decide)
  fi := Store.get_role hfi hH (by decide)
  re := Store.get_role hre hH (by decide)
  ts := fun t ht => let ⟨⟨d, n, h, e⟩, e2⟩ := hts t ht; ⟨⟨d, n, h, Store.get_role e hH (by decide)⟩, Store.get_role e2 hH (by decide)⟩
  nd := nd
theorem HRep.caSet (R : HRep σ H) (cs' : List Int) : HRep (σ.set H.ca ⟨4, .dI (cs'.map mkv)⟩) { H with cs := cs' } := by
  have E : Ext [4] σ (σ.set H.ca ⟨4, .dI (cs'.map mkv)⟩) := .set R.ca (by decide)
  obtain ⟨dx, nf, hz, hH⟩ := R.hp
  exact ⟨⟨dx, nf, hz, E.get hH⟩, E.get R.th, E.get R.at_, Store.set_self _ _ _, E.get R.fi, E.get R.re, fun t ht => (R.ts t ht).ext E (by decide) (by decide), R.nd⟩
theorem HRep.reSet (R : HRep σ H) (rs' : List Int) : HRep (σ.set H.re ⟨6, .list (rs'.map sv)⟩) { H with rs := rs' } := by
  have E : Ext [6] σ (σ.set H.re ⟨6, .list (rs'.map sv)⟩) := .set R.re (by decide)
  obtain ⟨dx, nf, hz, hH⟩ := R.hp
  exact ⟨⟨dx, nf, hz, E.get hH⟩, E.get R.th, E.get R.at_, E.get R.ca, E.get R.fi, Store.set_self _ _ _, fun t ht => (R.ts t ht).ext E (by decide) (by decide), R.nd⟩
theorem HRep.fiSet (R : HRep σ H) (fs' : List Int) : HRep (σ.set H.fi ⟨5, .list (fs'.map .int)⟩) { H with fs := fs' } := by
  have E : Ext [5] σ (σ.set H.fi ⟨5, .list (fs'.map .int)⟩) := .set R.fi (by decide)
  obtain ⟨dx, nf, hz, hH⟩ := R.hp
  exact ⟨⟨dx, nf, hz, E.get hH⟩, E.get R.th, E.get R.at_, E.get R.ca, Store.set_self _ _ _, E.get R.re, fun t ht => (R.ts t ht).ext E (by decide) (by decide), R.nd⟩
end

noncomputable def refY (ts : List Th) (t : Th) (a : Int) : Bool := match thAt ts a with
  | some u => decide (u.gen < t.gen)
  | none => false
noncomputable def youngOf (ts : List Th) (t : Th) : List (Th × Nat) := if 0 < t.gen then ((List.range t.slots.length).filter fun s : Nat => refY ts t (t.slots.getD s 0)).map fun s => (t, s) else []
theorem youngOf_len (ts : List Th) (t : Th) : (youngOf ts t).length ≤ t.slots.length := by
  unfold youngOf
  split
  · rw [List.length_map]; exact Nat.le_trans (List.length_filter_le _ _) (by simp)
  · simp
noncomputable def youngPairs (ts us : List Th) : List (Th × Nat) := us.flatMap (youngOf ts)
theorem youngPairs_len {H : Hp} (ok : HOk H) (i : Nat) : (youngPairs H.ts (H.ts.take i)).length ≤ 120 := by
  have h := flat_len (f := youngOf H.ts) (n := 2) (xs := H.ts.take i) fun t ht => Nat.le_trans (youngOf_len H.ts t) (ok.nsl t (List.mem_of_mem_take ht))
  have h2 : (H.ts.take i).length ≤ H.ts.length := by rw [List.length_take]; omega
  have h3 := ok.num
  unfold youngPairs; omega
theorem mem_youngPairs {ts us : List Th} {p : Th × Nat} : p ∈ youngPairs ts us ↔ p.1 ∈ us ∧ 0 < p.1.gen ∧ p.2 < p.1.slots.length ∧ refY ts p.1 (p.1.slots.getD p.2 0) = true := by
  unfold youngPairs
  rw [List.mem_flatMap]
  constructor
  · rintro ⟨t, ht, hp⟩
    try (refine ex_let2 ?_; intro lX QX)
    unfold youngOf at hp
    split at hp
    · try (refine ex_let2 ?_; intro lX QX)
      rename_i hg
      obtain ⟨s, hs, rfl⟩ := List.mem_map.mp hp
      rw [List.mem_filter] at hs
      exact ⟨ht, hg, List.mem_range.mp hs.1, hs.2⟩
    · cases hp
  · try (refine ex_let2 ?_; intro lX QX)
    obtain ⟨t, s⟩ := p
    rintro ⟨ht, hg, hs, hc⟩
    try (refine ex_let2 ?_; intro lX QX)
    refine ⟨t, ht, ?_⟩
    unfold youngOf
    rw [if_pos hg]
    exact List.mem_map.mpr ⟨s, List.mem_filter.mpr ⟨List.mem_range.mpr hs, hc⟩, rfl⟩
noncomputable def cardAt (p : Th × Nat) : Int := cardOf (p.1.addr + 2 + (p.2 : Int))
noncomputable def cardsOf (ps : List (Th × Nat)) : List Int := ps.foldl (fun cs p => addC cs (cardAt p)) []
theorem cardsOf_next {ps : List (Th × Nat)} {i : Nat} {p : Th × Nat} (h : ps[i]? = some p) : cardsOf (ps.take (i + 1)) = addC (cardsOf (ps.take i)) (cardAt p) := by
  unfold cardsOf; rw [take_next h, List.foldl_append]; rfl

section
variable {W : Wd} {X : Cx} {l : Lcl} {σ : Store} {Q : MVal → Store → Prop} {H : Hp} {t : Th} {st : MSt} {m k y : Addr} {g a : Int} {as : List Addr} {cs : List (List Int)} {M ps : List Int}

theorem c_reach_more (hn : X.n < 56) (R : HRep σ H) (ok : HOk H) (hm : σ m = some ⟨40, .dI (M.map mkv)⟩) (mo : MOk H.ts (M, [])) (hy : σ y = some ⟨45, .list (ps.map .int)⟩) (hw : ∀ b ∈ ps, Wrd H.ts b)
    (q : ∀ σ' M', Ext [40, 41] σ σ' → DrainR H.ts g (pushs H.ts g ps (M, [])) M' → MOk H.ts (M', []) → σ' m = some ⟨40, .dI (M'.map mkv)⟩ → Q .none σ') :
    OpC W X l σ (.ref (W.fn 32)) [.ref H.a, .ref m, .ref y, .int g] Q := by
  refine def_call0 (x := "reach_more") 32 (by decide) ["heap", "marks", "addrs", "gen"] (nle hn) rfl (by walk_at "b4") rfl (fun _ => rfl) rfl rfl rfl ?_
  intro A h₀ L outer base A₀ cdv
  refine ex_let3 ?_
  intro Xx ll Qq
  refine ex_assign (ev_list 41 (eva_nil ⟨Nat.le_of_ble_eq_true rfl, fun k hk => ?_⟩))
  have E1 : Ext [40, 41] σ (σ.set k ⟨41, .list []⟩) := .new hk
  have mw1 : MW (σ.set k ⟨41, .list []⟩) m k (M, []) := ⟨Store.get_new hm hk, Store.set_self _ _ _⟩
  refine ex_for_l (ev_pe (by walk_at "pe") ⟨y, ps.map .int, fun _ => [("heap", .ref H.a), ("gen", .int g), ("marks", .ref m), ("work", .ref k)],
    fun i σ₂ => Ext [40, 41] σ σ₂ ∧ MW σ₂ m k (pushs H.ts g (ps.take i) (M, [])), rfl, ⟨rfl, rfl, rfl, rfl, trivial⟩, ⟨E1, mw1⟩, fun i σ₂ h => ⟨45, h.1.get hy⟩, fun i u σ₂ hu => And.elim fun E2 mw2 => ?_, fun σ₂ => And.elim fun E2 mw2 => ?_⟩)
  · try (refine ex_let2 ?_; intro lX QX)
    obtain ⟨b, hb, rfl⟩ := map_get hu
    exact ex_expr (ev_c5 27 (by decide) (by walk_at "pe") (by walk_at "pe") (by walk_at "pe") (by walk_at "pe") (by walk_at "pe") (c_push_word (nlt hn) (R.ext E2 (by decide)) ok mw2 (pushs_ok mo) (hw b (List.mem_of_getElem? hb)) fun σ' E' mw' =>
      ex_nil ⟨⟨rfl, rfl, rfl, rfl, trivial⟩, E2.trans E', by rw [pushs_next hb]; exact mw'⟩))
  · rw [List.length_map, take_all] at mw2
    exact ex_expr (ev_c4 29 (by decide) (by walk_at "pe") (by walk_at "pe") (by walk_at "pe") (by walk_at "pe") (c_drain (nlt hn) (R.ext E2 (by decide)) ok mw2 (pushs_ok mo) fun σ' M' E' hd mo' mw' => ex_nil (q σ' M' (E2.trans E') hd mo' mw'.m)))

theorem c_mark_card (hn : X.n < 59) (R : HRep σ H) (hz : H.cs.length ≤ 1000000) (q : Q .none (σ.set H.ca ⟨4, .dI ((addC H.cs (cardOf a)).map mkv)⟩)) : OpC W X l σ (.ref (W.fn 34)) [.ref H.a, .int a] Q := by
  refine def_call0 (x := "mark_card") 34 (by decide) ["heap", "word"] (nle hn) rfl (by walk_at "b2") rfl (fun _ => rfl) rfl rfl rfl ?_
  intro A h₀ L outer base A₀ cdv
  refine ex_let3 ?_
  intro Xx ll Qq
  obtain ⟨dx, nf, _, hH⟩ := R.hp
  refine ex_sub_dI (ev_pe pe_int ⟨H.ca, 4, H.cs.map mkv, cardOf a, by walk_at "pe", ⟨ev_c2 23 (by decide) (by walk_at "pe") (by walk_at "pe") (c_card_number (nlt hn) R ⟨rfl, rfl⟩)⟩, R.ca, by rw [List.length_map]; omega, ?_⟩)
  rw [dput_mkv]
  exact ex_nil q

theorem c_refers_younger (hn : X.n < 59) (R : HRep σ H) (ok : HOk H) (ht : t ∈ H.ts) (hb : Wrd H.ts a) (q : ∀ σ', Ext [] σ σ' → Q (.bool (refY H.ts t a)) σ') : OpC W X l σ (.ref (W.fn 35)) [.ref H.a, t.rv, sv a] Q := by
  refine def_call0 (x := "refers_younger") 35 (by decide) ["heap", "thing", "value"] (nle hn) rfl (by walk_at "b3") rfl (fun _ => rfl) rfl rfl rfl ?_
  intro A h₀ L outer base A₀ cdv
  refine ex_let3 ?_
  intro Xx ll Qq
  refine ex_for_l (ev_c1 5 (by decide) (by walk_at "pe") (c_refs_in (nlt hn) fun D hD => ?_))
  have E1 : Ext [] σ (σ.set D ⟨0, .list (if a = 0 then [] else [.int a])⟩) := .new hD
  refine ⟨D, if a = 0 then [] else [.int a], fun _ => [("heap", .ref H.a), ("thing", t.rv)], fun i σ₁ => σ₁ = σ.set D ⟨0, .list (if a = 0 then [] else [.int a])⟩ ∧ (a ≠ 0 → 0 < i → refY H.ts t a = false), rfl, ⟨rfl, rfl, trivial⟩,
    ⟨rfl, fun _ h => absurd h (Nat.lt_irrefl _)⟩, fun i σ₂ h => ⟨0, by rw [h.1]; exact Store.set_self _ _ _⟩, fun i u σ₂ hu => And.elim fun e hf => ?_, fun σ₂ => And.elim fun e hf => ?_⟩
  · try (refine ex_let2 ?_; intro lX QX)
    by_cases h0 : a = 0
    · rw [if_pos h0] at hu; cases hu
    · rw [if_neg h0] at hu
      match i, hu with
      | 0, hu =>
        cases hu
        subst e
        have R1 := R.ext E1 (by decide)
        obtain ⟨u, hum, rfl⟩ := hb.resolve_left h0
        obtain ⟨dx, nf, hz, hH⟩ := R1.hp
        obtain ⟨⟨dt, nt, hzt, hT⟩, _⟩ := R1.ts t ht
        obtain ⟨⟨du, nu, hzu, hU⟩, _⟩ := R1.ts u hum
        have hat := R1.at_
        refine ex_assign (ev_pe (pe_get1 (by walk_at "pe") hat (by walk_at "pe")) ?_)
        rw [dget_map ok.ad hum]
        have hr : refY H.ts t u.addr = decide (u.gen < t.gen) := by unfold refY; rw [thAt_of ok.ad hum]
        refine ex_ifb (pt_and (pt_cmp (pe_loc rfl) pe_none (po_isn (v := u.rv) (by intro h; cases h))) fun _ => pt_and (by walk_at "pt") fun _ => by walk_at "pt") (fun h => ?_) fun h => ?_
        · try (refine ex_let2 ?_; intro lX QX)
          have h' : refY H.ts t u.addr = true := by rw [hr]; simpa using h
          rw [h'] at q
          exact ex_ret (ev_pe pe_bool (q _ E1))
        · try (refine ex_let2 ?_; intro lX QX)
          have h' : refY H.ts t u.addr = false := by rw [hr]; simpa using h
          exact ex_nil (ex_nil ⟨⟨rfl, rfl, trivial⟩, rfl, fun _ _ => h'⟩)
  · subst e
    have h' : refY H.ts t a = false := by
      by_cases h0 : a = 0
      · subst h0
        unfold refY
        cases e : thAt H.ts 0 with
        | none => rfl
        | some u =>
          have h1 := List.mem_of_find?_eq_some e
          have h2 := List.find?_some e
          have := ok.pos u h1
          simp at h2; omega
      · exact hf h0 (by rw [if_neg h0]; simp)
    rw [h'] at q
    exact ex_ret (ev_pe pe_bool (q _ E1))
end


section
variable {W : Wd} {X : Cx} {l : Lcl} {σ : Store} {Q : MVal → Store → Prop} {H : Hp} {t : Th} {st : MSt} {m k y : Addr} {g a : Int} {as : List Addr} {cs : List (List Int)} {M ps : List Int}

theorem youngPairs_next {i : Nat} {ts us : List Th} (h : us[i]? = some t) : youngPairs ts (us.take (i + 1)) = youngPairs ts (us.take i) ++ youngOf ts t := flat_next h
theorem getD_of {α : Type} {xs : List α} {i : Nat} {d x : α} (h : xs[i]? = some x) : xs.getD i d = x := by rw [List.getD_eq_getElem?_getD, h]; rfl

theorem c_younger_slots (hn : X.n < 58) (R : HRep σ H) (ok : HOk H) (q : ∀ σ' D, Ext [46] σ σ' → σ D = none → σ' D = some ⟨46, .list ((youngPairs H.ts H.ts).map pv)⟩ → Q (.ref D) σ') :
    OpC W X l σ (.ref (W.fn 36)) [.ref H.a] Q := by
  refine def_call0 (x := "younger_slots") 36 (by decide) ["heap"] (nle hn) rfl (by walk_at "b1") rfl (fun _ => rfl) rfl rfl rfl ?_
  intro A h₀ L outer base A₀ cdv
  refine ex_let3 ?_
  intro Xx ll Qq
  obtain ⟨dx, nf, hz, hH⟩ := R.hp
  refine ex_assign (ev_list 46 (eva_nil ⟨Nat.le_of_ble_eq_true rfl, fun D hD => ?_⟩))
  have E0 : Ext [46] σ (σ.set D ⟨46, .list []⟩) := .new hD
  refine ex_for_l (ev_pe (by walk_at "pe") ⟨H.th, H.ts.map Th.rv, fun _ => [("heap", .ref H.a), ("out", .ref D)], fun i σ₂ => Ext [46] σ σ₂ ∧ σ₂ D = some ⟨46, .list ((youngPairs H.ts (H.ts.take i)).map pv)⟩,
    rfl, ⟨rfl, rfl, trivial⟩, ⟨E0, Store.set_self _ _ _⟩, fun i σ₂ h => ⟨2, h.1.get R.th⟩, fun i u σ₂ hu => And.elim fun E hD2 => ?_, fun σ₂ => And.elim fun E hD2 => ?_⟩)
  · try (refine ex_let2 ?_; intro lX QX)
    obtain ⟨t, ht, rfl⟩ := map_get hu
    have htm : t ∈ H.ts := List.mem_of_getElem? ht
    obtain ⟨⟨dt, nt, hzt, hT⟩, hS⟩ := (R.ext E (by decide)).ts t htm
    refine ex_ifb (by walk_at "pt") (fun h => ?_) fun h => ?_
    · try (refine ex_let2 ?_; intro lX QX)
      have h := of_decide_eq_true h
      have hsl := ok.nsl t htm
      have hof : youngOf H.ts t = ((List.range t.slots.length).filter fun s : Nat => refY H.ts t (t.slots.getD s 0)).map fun s => (t, s) := if_pos h
      refine ex_for_r (ev_pe (by walk_at "pe") ⟨t.slots.length, fun _ => [("heap", .ref H.a), ("out", .ref D), ("thing", t.rv)],
        fun j σ₃ => Ext [46] σ σ₃ ∧ σ₃ D = some ⟨46, .list ((youngPairs H.ts (H.ts.take i) ++ ((List.range j).filter fun s : Nat => refY H.ts t (t.slots.getD s 0)).map fun s => (t, s)).map pv)⟩,
        by rw [List.length_map], ?_, ⟨rfl, rfl, rfl, trivial⟩, ⟨E, by simpa using hD2⟩, fun j σ₃ hj => And.elim fun E3 hD3 => ?_, fun σ₃ => And.elim fun E3 hD3 => ?_⟩)
      · omega
      · try (refine ex_let2 ?_; intro lX QX)
        have R3 := R.ext E3 (by decide)
        obtain ⟨dx3, nf3, hz3, hH3⟩ := R3.hp
        obtain ⟨⟨dt3, nt3, hzt3, hT3⟩, hS3⟩ := R3.ts t htm
        have hb : t.slots[j]? = some t.slots[j] := List.getElem?_eq_getElem hj
        have hbD : t.slots.getD j 0 = t.slots[j] := getD_of hb
        refine ex_if (te_val (ev_c3 35 (by decide) (by walk_at "pe") (by walk_at "pe") (pe_sub (by walk_at "pe") (by walk_at "pe") (po_idx (k := j) (v := sv t.slots[j]) hS3 (by omega) (by rw [List.getElem?_map, Int.toNat_natCast, hb]; rfl) (by omega)))
          (c_refers_younger (nlt hn) R3 ok htm (.of ok htm (List.mem_of_getElem? hb)) fun σ4 E4 => ⟨_, rfl, ?_⟩)))
        cases hc : refY H.ts t t.slots[j] with
        | true =>
          have hlen := youngPairs_len ok i
          have hfl : ((List.range j).filter fun s : Nat => refY H.ts t (t.slots.getD s 0)).length ≤ j := Nat.le_trans (List.length_filter_le _ _) (by simp)
          rw [if_pos rfl]
          refine ex_append (by walk_at "pe") (E4.get hD3) (by simp only [List.length_map, List.length_append]; omega) (ev_tup (eva_cons (ev_pe (by walk_at "pe") (eva_cons (ev_pe (by walk_at "pe") (eva_nil ⟨[.ref t.ref, .int j], rfl, Nat.le_of_ble_eq_true rfl, E4.get hD3, ?_⟩))))))
          refine ex_nil (ex_nil ⟨⟨rfl, rfl, rfl, trivial⟩, E3.trans ((E4.mono (by first | decide | simp)).trans (.set (E4.get hD3) (by decide))), ?_⟩)
          rw [Store.set_self, List.range_succ, List.filter_append]
          simp only [List.filter_cons, List.filter_nil, hbD, hc, if_true, List.map_append, List.append_assoc]; rfl
        | false =>
          rw [if_neg (by decide)]
          refine ex_nil (ex_nil ⟨⟨rfl, rfl, rfl, trivial⟩, E3.trans (E4.mono (by first | decide | simp)), ?_⟩)
          rw [List.range_succ, List.filter_append]
          simpa only [List.filter_cons, List.filter_nil, hbD, hc, Bool.false_eq_true, if_false, List.append_nil] using E4.get hD3
      · exact ex_nil (ex_nil ⟨⟨rfl, rfl, trivial⟩, E3, by rw [youngPairs_next ht, hof]; exact hD3⟩)
    · try (refine ex_let2 ?_; intro lX QX)
      have h := of_decide_eq_false h
      have hof : youngOf H.ts t = [] := if_neg h
      exact ex_nil (ex_nil ⟨⟨rfl, rfl, trivial⟩, E, by rw [youngPairs_next ht, hof, List.append_nil]; exact hD2⟩)
  · rw [List.length_map, take_all] at hD2
    exact ex_ret (ev_pe (by walk_at "pe") (q σ₂ D E hD hD2))

theorem cardsOf_len (ps : List (Th × Nat)) : (cardsOf ps).length ≤ ps.length := by
  unfold cardsOf
  have : ∀ (ps : List (Th × Nat)) (cs : List Int), (ps.foldl (fun cs p => addC cs (cardAt p)) cs).length ≤ cs.length + ps.length := by
    intro ps
    try (refine ex_let2 ?_; intro lX QX)
    induction ps with
    | nil => intro cs; simp
    | cons p r ih =>
      intro cs
      have h1 := ih (addC cs (cardAt p))
      have h2 := addC_len cs (cardAt p)
      simp only [List.foldl_cons, List.length_cons]; omega
  have h := this ps []
  simpa using h

theorem c_renew_cards (hn : X.n < 57) (R : HRep σ H) (ok : HOk H) (q : ∀ σ' D, Ext [1, 4, 46] σ σ' → HRep σ' { H with ca := D, cs := cardsOf (youngPairs H.ts H.ts) } → Q .none σ') :
    OpC W X l σ (.ref (W.fn 37)) [.ref H.a] Q := by
  refine def_call0 (x := "renew_cards") 37 (by decide) ["heap"] (nle hn) rfl (by walk_at "b1") rfl (fun _ => rfl) rfl rfl rfl ?_
  intro A h₀ L outer base A₀ cdv
  refine ex_let3 ?_
  intro Xx ll Qq
  obtain ⟨dx, nf, hz, hH⟩ := R.hp
  refine ex_attr (ev_dict0I 4 fun D hD => ⟨H.a, 1, .heap, dx, nf, H.F, by walk_at "pe", by walk_at "st", rfl, hz, by decide, ?_⟩)
  have E0 : Ext [1, 4, 46] σ (σ.set D ⟨4, .dI []⟩) := .new hD
  have hH0 : (σ.set D ⟨4, .dI []⟩) H.a = some ⟨1, .inst .heap dx nf H.F⟩ := by walk_at "st"
  have R1 : HRep ((σ.set D ⟨4, .dI []⟩).set H.a ⟨1, .inst .heap dx nf (upd H.F "cards" (.ref D))⟩) { H with ca := D, cs := [] } := by
    have hth := R.th; have hat := R.at_; have hfi := R.fi; have hre := R.re
    exact HRep.heapSet hH0 hz { H with ca := D, cs := [] } rfl ((upd_lc rfl).trans rfl) (by walk_at "st") (by walk_at "st") (Store.set_self _ _ _) (by walk_at "st") (by walk_at "st") (fun t ht => (R.ts t ht).ext (S := []) (.new hD) (by decide) (by decide)) R.nd
  have E1 : Ext [1, 4, 46] σ ((σ.set D ⟨4, .dI []⟩).set H.a ⟨1, .inst .heap dx nf (upd H.F "cards" (.ref D))⟩) := E0.trans (.set hH0 (by decide))
  have ok1 : HOk { H with ca := D, cs := [] } := { ok with ncs := by simp }
  refine ex_for_p (ev_c1 36 (by decide) (by walk_at "pe") (c_younger_slots (H := { H with ca := D, cs := [] }) (nlt hn) R1 ok1 fun σ2 D2 E2 hD2 hD2' => ?_))
  refine ⟨D2, (youngPairs H.ts H.ts).map pv, fun _ => [("heap", .ref H.a)], fun i σ₃ => Ext [4] σ2 σ₃ ∧ HRep σ₃ { H with ca := D, cs := cardsOf ((youngPairs H.ts H.ts).take i) }, rfl, fun u hu => ?_, ⟨rfl, trivial⟩, ⟨.refl, R1.ext E2 (by decide)⟩, fun i σ₃ h => ⟨46, h.1.get hD2'⟩, fun i u σ₃ hu => And.elim fun E3 R3 => ?_, fun σ₃ => And.elim fun E3 R3 => ?_⟩
  · try (refine ex_let2 ?_; intro lX QX)
    obtain ⟨p, _, rfl⟩ := List.mem_map.mp hu; exact ⟨_, _, rfl⟩
  · try (refine ex_let2 ?_; intro lX QX)
    obtain ⟨⟨t, s⟩, hp, rfl⟩ := map_get hu
    obtain ⟨htm, _⟩ := mem_youngPairs.mp (List.mem_of_getElem? hp)
    have hlen := cardsOf_len ((youngPairs H.ts H.ts).take i)
    have hlen2 := youngPairs_len ok H.ts.length
    rw [take_all] at hlen2
    have hlen3 : ((youngPairs H.ts H.ts).take i).length ≤ (youngPairs H.ts H.ts).length := by rw [List.length_take]; omega
    refine ex_expr (ev_c2 34 (by decide) (by walk_at "pe") ⟨ev_c2 21 (by decide) (by walk_at "pe") (by walk_at "pe") (c_slot_word (t := t) (nlt hn) (R3.ts t htm) ⟨rfl, rfl⟩)⟩
      (c_mark_card (H := { H with ca := D, cs := cardsOf ((youngPairs H.ts H.ts).take i) }) (nlt hn) R3 (by dsimp only; omega) (ex_nil ⟨⟨rfl, trivial⟩, E3.trans (.set R3.ca (by decide)), ?_⟩)))
    rw [cardsOf_next hp]
    exact R3.caSet _
  · rw [List.length_map, take_all] at R3
    exact ex_nil (q σ₃ D (E1.trans ((E2.mono (by first | decide | simp)).trans (E3.mono (by first | decide | simp)))) R3)
end


/-! ## handles, as data -/
set_option genInjectivity false in
structure Rw where
  ref : Addr
  sort : Int
  addr : Int
  alive : Int
noncomputable def Rw.rv (r : Rw) : MVal := .ref r.ref
noncomputable def Rw.row (r : Rw) : List MVal := [.int r.sort, .int r.addr, .int r.alive]
set_option genInjectivity false in
structure Hd where
  a : Addr
  rl : Addr
  rows : List Rw
structure HdRep (σ : Store) (h : Hd) : Prop where
  ob : ∃ dx nf, nf ≤ 900 ∧ σ h.a = some ⟨7, .inst .handles dx nf (lc [("rows", .ref h.rl)])⟩
  rl : σ h.rl = some ⟨8, .list (h.rows.map Rw.rv)⟩
  rows : ∀ r ∈ h.rows, σ r.ref = some ⟨9, .list r.row⟩
  nd : (h.rows.map Rw.ref).Nodup
  num : h.rows.length ≤ 1000
noncomputable def noHd (S : List Nat) : Bool := [7, 8, 9].all fun r => !S.contains r
section
variable {σ σ' : Store} {h : Hd} {S : List Nat} {r r' : Rw} {i : Nat}
theorem HdRep.ext (R : HdRep σ h) (E : Ext S σ σ') (hS : noHd S = true) : HdRep σ' h := by
  have g : ∀ r ∈ [7, 8, 9], r ∉ S := fun r hr => by
    have := List.all_eq_true.mp hS r hr
    simpa using this
  obtain ⟨dx, nf, hz, e⟩ := R.ob
  exact ⟨⟨dx, nf, hz, E.keep _ _ e (g 7 (by decide))⟩, E.keep _ _ R.rl (g 8 (by decide)), fun r hr => E.keep _ _ (R.rows r hr) (g 9 (by decide)), R.nd, R.num⟩
theorem nodup_get {α β : Type} {f : α → β} : ∀ {xs : List α} {i j : Nat} {a b : α}, (xs.map f).Nodup → xs[i]? = some a → xs[j]? = some b → f a = f b → i = j
  | x :: r, 0, 0, a, b, _, _, _, _ => rfl
  | x :: r, 0, j + 1, a, b, nd, h1, h2, e => by
    simp at h1 h2; subst h1
    rw [List.map_cons, List.nodup_cons] at nd
    exact absurd (e ▸ List.mem_map.mpr ⟨b, List.mem_of_getElem? h2, rfl⟩) nd.1
  | x :: r, i + 1, 0, a, b, nd, h1, h2, e => by
    simp at h1 h2; subst h2
    rw [List.map_cons, List.nodup_cons] at nd
    exact absurd (e ▸ List.mem_map.mpr ⟨a, List.mem_of_getElem? h1, rfl⟩) nd.1
  | x :: r, i + 1, j + 1, a, b, nd, h1, h2, e => by
    rw [List.map_cons, List.nodup_cons] at nd
    have := nodup_get nd.2 (by simpa using h1) (by simpa using h2) e
    omega
  | [], _, _, _, _, _, h1, _, _ => by simp at h1
theorem set_map {α β : Type} {f : α → β} {xs : List α} {i : Nat} {a b : α} (h : xs[i]? = some a) (e : f b = f a) : (xs.set i b).map f = xs.map f := by
  rw [List.map_set]
  apply List.ext_getElem?
  intro j
  rw [List.getElem?_set]
  split
  · rename_i q; subst q
    rw [List.length_map, List.getElem?_map, h]
    obtain ⟨hl, _⟩ := List.getElem?_eq_some_iff.mp h
    rw [if_pos hl, e]; rfl
  · rfl
theorem mem_set {α : Type} {xs : List α} {i : Nat} {a b x : α} (h : xs[i]? = some a) (hx : x ∈ xs.set i b) : x = b ∨ ∃ j, j ≠ i ∧ xs[j]? = some x := by
  obtain ⟨j, hj⟩ := List.getElem?_of_mem hx
  rw [List.getElem?_set] at hj
  split at hj
  · try (refine ex_let2 ?_; intro lX QX)
    split at hj
    · cases hj; exact .inl rfl
    · cases hj
  · try (refine ex_let2 ?_; intro lX QX)
    rename_i q; exact .inr ⟨j, Ne.symm q, hj⟩
theorem HdRep.setRow (R : HdRep σ h) (hi : h.rows[i]? = some r) (e : r'.ref = r.ref) : HdRep (σ.set r.ref ⟨9, .list r'.row⟩) { h with rows := h.rows.set i r' } := by
  have hr := R.rows r (List.mem_of_getElem? hi)
  obtain ⟨dx, nf, hz, eo⟩ := R.ob
  have hm : (h.rows.set i r').map Rw.rv = h.rows.map Rw.rv := set_map hi (by unfold Rw.rv; rw [e])
  refine ⟨⟨dx, nf, hz, Store.get_role eo hr (by decide)⟩, ?_, fun x hx => ?_, by rw [show (h.rows.set i r').map Rw.ref = h.rows.map Rw.ref from set_map hi e]; exact R.nd, by simpa using R.num⟩
  · show _ = some (⟨8, .list ((h.rows.set i r').map Rw.rv)⟩ : MObj)
    rw [hm]; exact Store.get_role R.rl hr (by decide)
  · try (refine ex_let2 ?_; intro lX QX)
    rcases mem_set hi hx with rfl | ⟨j, hj, hx⟩
    · rw [e]; exact Store.set_self _ _ _
    · rw [Store.set_ne]
      · exact R.rows x (List.mem_of_getElem? hx)
      · intro q; exact hj (nodup_get R.nd hx hi q)

/-- a row worked through up to a place -/
noncomputable def mapTo {α : Type} (f : α → α) (i : Nat) (xs : List α) : List α := (xs.take i).map f ++ xs.drop i
theorem mapTo_zero {α : Type} {f : α → α} {xs : List α} : mapTo f 0 xs = xs := by simp [mapTo]
theorem mapTo_all {α : Type} {f : α → α} {xs : List α} {n : Nat} (h : xs.length ≤ n) : mapTo f n xs = xs.map f := by
  unfold mapTo; rw [List.take_of_length_le h, List.drop_of_length_le h, List.append_nil]
theorem mapTo_get {α : Type} {f : α → α} {xs : List α} {i : Nat} {a : α} (h : xs[i]? = some a) : (mapTo f i xs)[i]? = some a := by
  unfold mapTo
  obtain ⟨hl, _⟩ := List.getElem?_eq_some_iff.mp h
  have e : ((xs.take i).map f).length = i := by simp; omega
  rw [List.getElem?_append_right (by omega), e, Nat.sub_self, List.getElem?_drop]; exact h
theorem mapTo_next {α : Type} {f : α → α} {xs : List α} {i : Nat} {a : α} (h : xs[i]? = some a) : mapTo f (i + 1) xs = (mapTo f i xs).set i (f a) := by
  unfold mapTo
  obtain ⟨hl, hx⟩ := List.getElem?_eq_some_iff.mp h
  have e : ((xs.take i).map f).length = i := by simp; omega
  rw [take_next h, List.map_append, List.set_append_right _ _ (by omega), e, Nat.sub_self, List.append_assoc]
  congr 1
  rw [List.drop_eq_getElem_cons hl]
  simp [hx]
theorem mapTo_same {α : Type} {f : α → α} {xs : List α} {i : Nat} {a : α} (h : xs[i]? = some a) (e : f a = a) : mapTo f (i + 1) xs = mapTo f i xs := by
  rw [mapTo_next h, e]
  apply List.ext_getElem?
  intro j
  rw [List.getElem?_set]
  split
  · rename_i q; subst q
    have hg := mapTo_get (f := f) h
    obtain ⟨hl, _⟩ := List.getElem?_eq_some_iff.mp hg
    rw [if_pos hl, hg]
  · rfl
theorem mapTo_len {α : Type} {f : α → α} {xs : List α} {i : Nat} : (mapTo f i xs).length = xs.length := by unfold mapTo; simp; omega
end

noncomputable def dead (ts : List Th) (g : Int) (M : List Int) (a : Int) : Bool := match thAt ts a with
  | some t => decide (t.gen ≤ g) && decide (a ∉ M)
  | none => false
theorem thAt_none {ts : List Th} {a : Int} (h : thAt ts a = none) : a ∉ ts.map Th.addr := by
  intro hm
  try (refine ex_let2 ?_; intro lX QX)
  obtain ⟨t, ht, rfl⟩ := List.mem_map.mp hm
  unfold thAt at h
  have := List.find?_eq_none.mp h t ht
  simp at this
theorem thAt_some {ts : List Th} {a : Int} {t : Th} (h : thAt ts a = some t) : t ∈ ts ∧ t.addr = a := by
  refine ⟨List.mem_of_find?_eq_some h, ?_⟩
  have := List.find?_some h
  simpa using this
noncomputable def strong (rows : List Rw) : List Int := (rows.filter fun r => decide (r.sort = 3) && (decide (r.alive = 1) && decide (r.addr ≠ 0))).map Rw.addr
noncomputable def cutR (ts : List Th) (g : Int) (M : List Int) (s : Int) (r : Rw) : Bool := decide (r.sort = s) && (decide (r.addr ≠ 0) && dead ts g M r.addr)
noncomputable def cutF (ts : List Th) (g : Int) (M : List Int) (s : Int) (r : Rw) : Rw := if cutR ts g M s r then { r with addr := 0 } else r

section
variable {W : Wd} {X : Cx} {l : Lcl} {σ : Store} {Q : MVal → Store → Prop} {H : Hp} {t : Th} {st : MSt} {m k y : Addr} {g a s : Int} {as : List Addr} {cs : List (List Int)} {M ps : List Int} {h : Hd}

theorem c_found_dead (hn : X.n < 60) (R : HRep σ H) (ad : (H.ts.map Th.addr).Nodup) (hm : σ m = some ⟨40, .dI (M.map mkv)⟩) (q : Q (.bool (dead H.ts g M a)) σ) : OpC W X l σ (.ref (W.fn 50)) [.ref H.a, .int a, .ref m, .int g] Q := by
  refine def_call0 (x := "found_dead") 50 (by decide) ["heap", "addr", "marks", "gen"] (nle hn) rfl (by walk_at "b4") rfl (fun _ => rfl) rfl rfl rfl ?_
  intro A h₀ L outer base A₀ cdv
  refine ex_let3 ?_
  intro Xx ll Qq
  obtain ⟨dx, nf, hz, hH⟩ := R.hp
  have hat := R.at_
  refine ex_assign (ev_pe (pe_get1 (by walk_at "pe") hat (by walk_at "pe")) ?_)
  cases e : thAt H.ts a with
  | none =>
    have hd : dead H.ts g M a = false := by unfold dead; rw [e]
    rw [hd] at q
    rw [dget_none (thAt_none e)]
    exact ex_ret (ev_and (ev_pe (pe_cmp (pe_loc rfl) pe_none po_isn0) ⟨false, rfl, q⟩))
  | some t =>
    obtain ⟨ht, rfl⟩ := thAt_some e
    obtain ⟨⟨dt, nt, hzt, hT⟩, hS⟩ := R.ts t ht
    have hd : dead H.ts g M t.addr = (true && (decide (t.gen ≤ g) && !(dget (M.map mkv) t.addr).isSome)) := by unfold dead; rw [e, dget_mkv, Bool.true_and]; dsimp only; congr 1; simp
    rw [hd] at q
    rw [dget_map ad ht]
    exact ex_ret (ev_pe (pe_and (pe_cmp (pe_loc rfl) pe_none (po_isn (v := t.rv) (by intro h; cases h))) fun _ => pe_and (by walk_at "pe") fun _ => pe_and1 (by walk_at "pe")) q)

theorem c_strong_values (hn : X.n < 60) (R : HdRep σ h) (q : ∀ σ' D, Ext [43] σ σ' → σ D = none → σ' D = some ⟨43, .list ((strong h.rows).map sv)⟩ → Q (.ref D) σ') : OpC W X l σ (.ref (W.fn 49)) [.ref h.a] Q := by
  refine def_call0 (x := "strong_values") 49 (by decide) ["h"] (nle hn) rfl (by walk_at "b1") rfl (fun _ => rfl) rfl rfl rfl ?_
  intro A h₀ L outer base A₀ cdv
  refine ex_let3 ?_
  intro Xx ll Qq
  obtain ⟨dx, nf, hz, hO⟩ := R.ob
  refine ex_assign (ev_list 43 (eva_nil ⟨Nat.le_of_ble_eq_true rfl, fun D hD => ?_⟩))
  have E0 : Ext [43] σ (σ.set D ⟨43, .list []⟩) := .new hD
  refine ex_for_l (ev_pe (by walk_at "pe") ⟨h.rl, h.rows.map Rw.rv, fun _ => [("h", .ref h.a), ("out", .ref D)], fun i σ₂ => Ext [43] σ σ₂ ∧ σ₂ D = some ⟨43, .list ((strong (h.rows.take i)).map sv)⟩,
    rfl, ⟨rfl, rfl, trivial⟩, ⟨E0, Store.set_self _ _ _⟩, fun i σ₂ h => ⟨8, h.1.get R.rl⟩, fun i u σ₂ hu => And.elim fun E hD2 => ?_, fun σ₂ => And.elim fun E hD2 => ?_⟩)
  · try (refine ex_let2 ?_; intro lX QX)
    obtain ⟨r, hr, rfl⟩ := map_get hu
    have hrow : σ₂ r.ref = some ⟨9, .list r.row⟩ := E.get (R.rows r (List.mem_of_getElem? hr))
    have hlen : (strong (h.rows.take i)).length ≤ 1000 := by
      unfold strong
      have h1 := List.length_filter_le (fun r : Rw => decide (r.sort = 3) && (decide (r.alive = 1) && decide (r.addr ≠ 0))) (h.rows.take i)
      have h2 := R.num
      simp only [List.length_map, List.length_take] at h1 ⊢; omega
    have nxt : ∀ b, (decide (r.sort = 3) && (decide (r.alive = 1) && decide (r.addr ≠ 0))) = b → strong (h.rows.take (i + 1)) = strong (h.rows.take i) ++ if b then [r.addr] else [] := by
      intro b hb
      unfold strong
      rw [take_next hr, List.filter_append, List.map_append]
      congr 1
      simp only [List.filter_cons, List.filter_nil, hb]
      cases b <;> rfl
    refine ex_ifb (pt_and (pt_cmp (pe_sub (by walk_at "pe") (by walk_at "pe") (po_idx (v := .int r.sort) hrow (by decide) rfl (by decide))) (by walk_at "pe") po_eq) fun _ =>
      pt_and (pt_cmp (pe_sub (by walk_at "pe") (by walk_at "pe") (po_idx (v := .int r.alive) hrow (by decide) rfl (by decide))) (by walk_at "pe") po_eq) fun _ =>
      pt_and (pt_cmp (pe_sub (by walk_at "pe") (by walk_at "pe") (po_idx (v := .int r.addr) hrow (by decide) rfl (by decide))) (by walk_at "pe") po_ne) fun _ => pt_and0) (fun hc => ?_) fun hc => ?_
    · rw [Bool.and_true] at hc
      refine ex_append (by walk_at "pe") hD2 (by first | exact lenm (by omega) | (rw [List.length_map]; omega)) (ev_tup (eva_cons (ev_pe (by walk_at "pe") (eva_cons (ev_pe (pe_sub (by walk_at "pe") (by walk_at "pe") (po_idx (v := .int r.addr) hrow (by decide) rfl (by decide))) (eva_nil ⟨[.int 4, .int r.addr], rfl, Nat.le_of_ble_eq_true rfl, hD2, ?_⟩))))))
      refine ex_nil (ex_nil ⟨⟨rfl, rfl, trivial⟩, E.trans (.set hD2 (by decide)), ?_⟩)
      rw [Store.set_self, nxt true hc, List.map_append]; rfl
    · rw [Bool.and_true] at hc
      exact ex_nil (ex_nil ⟨⟨rfl, rfl, trivial⟩, E, by rw [nxt false hc]; simpa using hD2⟩)
  · rw [List.length_map, take_all] at hD2
    exact ex_ret (ev_pe (by walk_at "pe") (q σ₂ D E hD hD2))

theorem c_clear_handles (hn : X.n < 59) (R : HRep σ H) (ok : HOk H) (hR : HdRep σ h) (hm : σ m = some ⟨40, .dI (M.map mkv)⟩) (q : ∀ σ' v, Ext [9] σ σ' → HdRep σ' { h with rows := h.rows.map (cutF H.ts g M s) } → Q v σ') :
    OpC W X l σ (.ref (W.fn 51)) [.ref h.a, .int s, .ref m, .ref H.a, .int g] Q := by
  refine def_call0 (x := "clear_handles") 51 (by decide) ["h", "sort", "marks", "heap", "gen"] (nle hn) rfl (by walk_at "b5") rfl (fun _ => rfl) rfl rfl rfl ?_
  intro A h₀ L outer base A₀ cdv
  refine ex_let3 ?_
  intro Xx ll Qq
  obtain ⟨dx, nf, hz, hO⟩ := hR.ob
  refine ex_assign (ev_pe pe_int ?_)
  refine ex_for_l (ev_pe (by walk_at "pe") ⟨h.rl, h.rows.map Rw.rv, fun i => [("h", .ref h.a), ("sort", .int s), ("marks", .ref m), ("heap", .ref H.a), ("gen", .int g), ("count", .int (((h.rows.take i).filter (cutR H.ts g M s)).length : Nat))],
    fun i σ₂ => Ext [9] σ σ₂ ∧ HdRep σ₂ { h with rows := mapTo (cutF H.ts g M s) i h.rows },
    rfl, ⟨rfl, rfl, rfl, rfl, rfl, rfl, trivial⟩, ⟨.refl, by rw [mapTo_zero]; exact hR⟩, fun i σ₂ h => ⟨8, h.1.get hR.rl⟩, fun i u σ₂ hu => And.elim fun E hR2 => ?_, fun σ₂ => And.elim fun E hR2 => ?_⟩)
  · try (refine ex_let2 ?_; intro lX QX)
    obtain ⟨r, hr, rfl⟩ := map_get hu
    have hg := mapTo_get (f := cutF H.ts g M s) hr
    have hrow : σ₂ r.ref = some ⟨9, .list r.row⟩ := hR2.rows r (List.mem_of_getElem? hg)
    have R2 := R.ext E (by decide)
    have hm2 := E.get hm
    refine ex_ifb (pt_and (pt_cmp (pe_sub (by walk_at "pe") (by walk_at "pe") (po_idx (v := .int r.sort) hrow (by decide) rfl (by decide))) (by walk_at "pe") po_eq) fun _ =>
      pt_and (pt_cmp (pe_sub (by walk_at "pe") (by walk_at "pe") (po_idx (v := .int r.addr) hrow (by decide) rfl (by decide))) (by walk_at "pe") po_ne) fun _ =>
      pt_and (pt_val ⟨ev_c4 50 (by decide) (by walk_at "pe") (pe_sub (by walk_at "pe") (by walk_at "pe") (po_idx (v := .int r.addr) hrow (by decide) rfl (by decide))) (by walk_at "pe") (by walk_at "pe") (c_found_dead (nlt hn) R2 ok.ad hm2 ⟨rfl, rfl⟩)⟩) fun _ => pt_and0) (fun hc => ?_) fun hc => ?_
    · rw [Bool.and_true] at hc
      have hcut : cutR H.ts g M s r = true := hc
      have hcf : cutF H.ts g M s r = { r with addr := 0 } := if_pos hcut
      refine ex_sub_list (ev_pe pe_int ⟨r.ref, 9, r.row, 1, by walk_at "pe", by walk_at "pe", hrow, by decide, by simp [Rw.row], by simp [Rw.row], ?_⟩)
      refine ex_aug rfl (ev_pe pe_int (op2_po po_iadd ?_))
      refine ex_nil (ex_nil ⟨⟨rfl, rfl, rfl, rfl, rfl, ?_, trivial⟩, E.trans (.set hrow (by decide)), ?_⟩)
      · show some (MVal.int _) = some (MVal.int _)
        rw [take_next hr, List.filter_append]
        simp [hcut]
      · rw [mapTo_next hr, hcf]
        exact hR2.setRow (r' := { r with addr := 0 }) hg rfl
    · rw [Bool.and_true] at hc
      have hcut : cutR H.ts g M s r = false := hc
      have hcf : cutF H.ts g M s r = r := if_neg (by rw [hcut]; decide)
      refine ex_nil (ex_nil ⟨⟨rfl, rfl, rfl, rfl, rfl, ?_, trivial⟩, E, by rw [mapTo_same hr hcf]; exact hR2⟩)
      show some (MVal.int _) = some (MVal.int _)
      rw [take_next hr, List.filter_append]
      simp [hcut]
  · rw [List.length_map, mapTo_all (Nat.le_refl _)] at hR2
    exact ex_ret (ev_pe (by walk_at "pe") (q σ₂ _ E hR2))
end


theorem HRep.other {σ : Store} {H : Hp} {K : Addr} {r : Nat} {b b' : Body} (R : HRep σ H) (hK : σ K = some ⟨r, b⟩) (hr : r ∈ [5, 6]) (h1 : K ≠ H.fi) (h2 : K ≠ H.re) : HRep (σ.set K ⟨r, b'⟩) H := by
  obtain ⟨dx, nf, hz, hH⟩ := R.hp
  have g : ∀ q ∈ [1, 2, 3, 4, 10, 11], r ≠ q := by
    intro q hq e; subst e
    simp at hr hq; omega
  exact ⟨⟨dx, nf, hz, Store.get_role hH hK (g 1 (by decide))⟩, Store.get_role R.th hK (g 2 (by decide)), Store.get_role R.at_ hK (g 3 (by decide)), Store.get_role R.ca hK (g 4 (by decide)),
    (Store.set_ne _ _ (Ne.symm h1)).trans R.fi, (Store.set_ne _ _ (Ne.symm h2)).trans R.re,
    fun t ht => let ⟨⟨d, n, hz, e⟩, e2⟩ := R.ts t ht; ⟨⟨d, n, hz, Store.get_role e hK (g 10 (by decide))⟩, Store.get_role e2 hK (g 11 (by decide))⟩, R.nd⟩
theorem HRep.new {σ : Store} {H : Hp} {K : Addr} {o : MObj} (R : HRep σ H) (hK : σ K = none) : HRep (σ.set K o) H := R.ext (S := []) (.new hK) (by decide)
noncomputable def fwd (mv : List (Int × Int)) (a : Int) : Int := (mv.lookup a).getD a
noncomputable def mvv (p : Int × Int) : Int × MVal := (p.1, .int p.2)
theorem dget_mvv (mv : List (Int × Int)) (a : Int) : dget (mv.map mvv) a = (mv.lookup a).map .int := by
  induction mv with
  | nil => rfl
  | cons p r ih =>
    obtain ⟨b, c⟩ := p
    simp only [List.map_cons, mvv, dget, List.lookup_cons]
    by_cases h : b = a
    · subst h; simp
    · rw [if_neg h, ih]
      have : (a == b) = false := beq_eq_false_iff_ne.mpr (Ne.symm h)
      rw [this]
noncomputable def movF (mv : List (Int × Int)) (r : Rw) : Rw := { r with addr := fwd mv r.addr }

section
variable {W : Wd} {X : Cx} {l : Lcl} {σ : Store} {Q : MVal → Store → Prop} {H : Hp} {t : Th} {st : MSt} {m k y : Addr} {g a s : Int} {as : List Addr} {cs : List (List Int)} {M ps : List Int} {h : Hd} {mv : List (Int × Int)} {n : Int}

theorem c_move_handles (hn : X.n < 60) (hR : HdRep σ h) (hm : σ m = some ⟨47, .dI (mv.map mvv)⟩) (q : ∀ σ', Ext [9] σ σ' → HdRep σ' { h with rows := h.rows.map (movF mv) } → Q .none σ') :
    OpC W X l σ (.ref (W.fn 52)) [.ref h.a, .ref m] Q := by
  refine def_call0 (x := "move_handles") 52 (by decide) ["h", "moves"] (nle hn) rfl (by walk_at "b2") rfl (fun _ => rfl) rfl rfl rfl ?_
  intro A h₀ L outer base A₀ cdv
  refine ex_let3 ?_
  intro Xx ll Qq
  obtain ⟨dx, nf, hz, hO⟩ := hR.ob
  refine ex_for_l (ev_pe (by walk_at "pe") ⟨h.rl, h.rows.map Rw.rv, fun i => [("h", .ref h.a), ("moves", .ref m)],
    fun i σ₂ => Ext [9] σ σ₂ ∧ HdRep σ₂ { h with rows := mapTo (movF mv) i h.rows },
    rfl, ⟨rfl, rfl, trivial⟩, ⟨.refl, by rw [mapTo_zero]; exact hR⟩, fun i σ₂ h => ⟨8, h.1.get hR.rl⟩, fun i u σ₂ hu => And.elim fun E hR2 => ?_, fun σ₂ => And.elim fun E hR2 => ?_⟩)
  · try (refine ex_let2 ?_; intro lX QX)
    obtain ⟨r, hr, rfl⟩ := map_get hu
    have hg := mapTo_get (f := movF mv) hr
    have hrow : σ₂ r.ref = some ⟨9, .list r.row⟩ := hR2.rows r (List.mem_of_getElem? hg)
    have hm2 := E.get hm
    have hd := dget_mvv mv r.addr
    refine ex_ifb (pt_cmp (pe_sub (by walk_at "pe") (by walk_at "pe") (po_idx (v := .int r.addr) hrow (by decide) rfl (by decide))) (by walk_at "pe") (po_ind hm2)) (fun hc => ?_) fun hc => ?_
    · try (refine ex_let2 ?_; intro lX QX)
      obtain ⟨b, hb⟩ : ∃ b, mv.lookup r.addr = some b := by rw [hd, Option.isSome_map] at hc; exact Option.isSome_iff_exists.mp hc
      have hcf : movF mv r = { r with addr := b } := by unfold movF fwd; rw [hb]; rfl
      rw [hb] at hd
      refine ex_sub_list (ev_pe (pe_sub (by walk_at "pe") (pe_sub (by walk_at "pe") (by walk_at "pe") (po_idx (v := .int r.addr) hrow (by decide) rfl (by decide))) (po_dget hm2 hd)) ⟨r.ref, 9, r.row, 1, by walk_at "pe", by walk_at "pe", hrow, by decide, by simp [Rw.row], by simp [Rw.row], ?_⟩)
      refine ex_nil (ex_nil ⟨⟨rfl, rfl, trivial⟩, E.trans (.set hrow (by decide)), ?_⟩)
      rw [mapTo_next hr, hcf]
      exact hR2.setRow (r' := { r with addr := b }) hg rfl
    · try (refine ex_let2 ?_; intro lX QX)
      have hb : mv.lookup r.addr = none := by
        rw [hd, Option.isSome_map] at hc
        cases e : mv.lookup r.addr with
        | none => rfl
        | some b => rw [e] at hc; cases hc
      have hcf : movF mv r = r := by unfold movF fwd; rw [hb]; rfl
      exact ex_nil (ex_nil ⟨⟨rfl, rfl, trivial⟩, E, by rw [mapTo_same hr hcf]; exact hR2⟩)
  · rw [List.length_map, mapTo_all (Nat.le_refl _)] at hR2
    exact ex_nil (q σ₂ E hR2)

theorem filter_next {α : Type} {p : α → Bool} {xs : List α} {i : Nat} {a : α} (h : xs[i]? = some a) : (xs.take (i + 1)).filter p = (xs.take i).filter p ++ if p a then [a] else [] := by
  rw [take_next h, List.filter_append]
  congr 1
  simp only [List.filter_cons, List.filter_nil]
theorem filter_len {α : Type} (p : α → Bool) (xs : List α) (i : Nat) : ((xs.take i).filter p).length ≤ xs.length := Nat.le_trans (List.length_filter_le _ _) (by rw [List.length_take]; omega)

theorem c_pick_finals (hn : X.n < 59) (R : HRep σ H) (ok : HOk H) (hm : σ m = some ⟨40, .dI (M.map mkv)⟩)
    (q : ∀ σ' K P, Ext [1, 5, 6, 45] σ σ' → HRep σ' { H with fi := K, fs := H.fs.filter (fun a => !dead H.ts g M a), rs := H.rs ++ H.fs.filter (dead H.ts g M) } → σ' P = some ⟨45, .list ((H.fs.filter (dead H.ts g M)).map .int)⟩ → Q (.ref P) σ') :
    OpC W X l σ (.ref (W.fn 53)) [.ref H.a, .ref m, .int g] Q := by
  refine def_call0 (x := "pick_finals") 53 (by decide) ["heap", "marks", "gen"] (nle hn) rfl (by walk_at "b3") rfl (fun _ => rfl) rfl rfl rfl ?_
  intro A h₀ L outer base A₀ cdv
  refine ex_let3 ?_
  intro Xx ll Qq
  refine ex_assign (ev_list 5 (eva_nil ⟨Nat.le_of_ble_eq_true rfl, fun K hK => ex_assign (ev_list 45 (eva_nil ⟨Nat.le_of_ble_eq_true rfl, fun P hP => ?_⟩))⟩))
  have hKs : (σ.set K ⟨5, .list []⟩) K = some ⟨5, .list []⟩ := Store.set_self _ _ _
  have nK1 : K ≠ H.fi := (ne_new R.fi hK).symm
  have nK2 : K ≠ H.re := (ne_new R.re hK).symm
  have E1 : Ext [1, 5, 6, 45] σ ((σ.set K ⟨5, .list []⟩).set P ⟨45, .list []⟩) := (Ext.new hK).trans (.new hP)
  have R1 : HRep ((σ.set K ⟨5, .list []⟩).set P ⟨45, .list []⟩) H := (R.new hK).new hP
  have nfs := ok.nfs
  refine ex_for_l (ev_pe (by obtain ⟨dx, nf, hz, hH⟩ := R1.hp; walk_at "pe") ⟨H.fi, H.fs.map .int, fun i => [("heap", .ref H.a), ("marks", .ref m), ("gen", .int g), ("kept", .ref K), ("picked", .ref P)],
    fun i σ₂ => Ext [1, 5, 6, 45] σ σ₂ ∧ HRep σ₂ { H with rs := H.rs ++ (H.fs.take i).filter (dead H.ts g M) } ∧ σ₂ K = some ⟨5, .list (((H.fs.take i).filter fun a => !dead H.ts g M a).map .int)⟩ ∧ σ₂ P = some ⟨45, .list (((H.fs.take i).filter (dead H.ts g M)).map .int)⟩,
    rfl, ⟨rfl, rfl, rfl, rfl, rfl, trivial⟩, ⟨E1, by simpa using R1, Store.get_new hKs hP, Store.set_self _ _ _⟩, fun i σ₂ h => ⟨5, h.2.1.fi⟩, fun i u σ₂ hu => And.elim fun E => And.elim fun R2 => And.elim fun hK2 hP2 => ?_, fun σ₂ => And.elim fun E => And.elim fun R2 => And.elim fun hK2 hP2 => ?_⟩)
  · try (refine ex_let2 ?_; intro lX QX)
    obtain ⟨a, ha, rfl⟩ := map_get hu
    have hm2 := E.get hm
    obtain ⟨dx, nf, hz, hH⟩ := R2.hp
    have hre := R2.re
    have l1 := filter_len (dead H.ts g M) H.fs i
    have l2 := filter_len (fun a => !dead H.ts g M a) H.fs i
    refine ex_ifb (pt_val ⟨ev_c4 50 (by decide) (by walk_at "pe") (by walk_at "pe") (by walk_at "pe") (by walk_at "pe") (c_found_dead (H := { H with rs := H.rs ++ (H.fs.take i).filter (dead H.ts g M) }) (nlt hn) R2 ok.ad hm2 ⟨rfl, rfl⟩)⟩) (fun hc => ?_) fun hc => ?_
    · try (refine ex_let2 ?_; intro lX QX)
      have hc : dead H.ts g M a = true := hc
      refine ex_append (by walk_at "pe") hP2 (by simp only [List.length_map]; omega) (ev_pe (by walk_at "pe") ⟨hP2, ?_⟩)
      refine ex_append (by walk_at "pe") (Store.get_role hre hP2 (by decide)) (by simp only [List.length_map, List.length_append]; omega) (ev_tup (eva_cons (ev_pe (by walk_at "pe") (eva_cons (ev_pe (by walk_at "pe") (eva_nil ⟨[.int 4, .int a], rfl, Nat.le_of_ble_eq_true rfl, Store.get_role hre hP2 (by decide), ?_⟩))))))
      have e1 : (H.fs.take (i + 1)).filter (dead H.ts g M) = (H.fs.take i).filter (dead H.ts g M) ++ [a] := by rw [filter_next ha, if_pos hc]
      have e2 : (H.fs.take (i + 1)).filter (fun a => !dead H.ts g M a) = (H.fs.take i).filter (fun a => !dead H.ts g M a) := by rw [filter_next ha, hc, if_neg (by decide), List.append_nil]
      have hreP : (σ₂.set P ⟨45, .list (((H.fs.take i).filter (dead H.ts g M)).map .int ++ [.int a])⟩) H.re = some ⟨6, .list ((H.rs ++ (H.fs.take i).filter (dead H.ts g M)).map sv)⟩ := Store.get_role hre hP2 (by decide)
      refine ex_nil (ex_nil ⟨⟨rfl, rfl, rfl, rfl, rfl, trivial⟩, E.trans ((Ext.set hP2 (by decide)).trans (.set hreP (by decide))), ?_, ?_, ?_⟩)
      · rw [e1, ← List.append_assoc]
        have R3 := R2.ext (Ext.set (S := [45]) (y := .list (((H.fs.take i).filter (dead H.ts g M)).map .int ++ [.int a])) hP2 (by decide)) (by decide)
        have := R3.reSet (H.rs ++ (H.fs.take i).filter (dead H.ts g M) ++ [a])
        rw [List.map_append] at this
        exact this
      · rw [e2]; exact (Store.set_ne _ _ nK2).trans (Store.get_role hK2 hP2 (by decide))
      · rw [e1]
        refine Store.get_role ?_ hreP (by decide)
        rw [Store.set_self, List.map_append]; rfl
    · try (refine ex_let2 ?_; intro lX QX)
      have hc : dead H.ts g M a = false := hc
      refine ex_append (by walk_at "pe") hK2 (by simp only [List.length_map]; omega) (ev_pe (by walk_at "pe") ⟨hK2, ?_⟩)
      have e1 : (H.fs.take (i + 1)).filter (dead H.ts g M) = (H.fs.take i).filter (dead H.ts g M) := by rw [filter_next ha, if_neg (by rw [hc]; decide), List.append_nil]
      have e2 : (H.fs.take (i + 1)).filter (fun a => !dead H.ts g M a) = (H.fs.take i).filter (fun a => !dead H.ts g M a) ++ [a] := by rw [filter_next ha, hc, if_pos (by decide)]
      refine ex_nil (ex_nil ⟨⟨rfl, rfl, rfl, rfl, rfl, trivial⟩, E.trans (.set hK2 (by decide)), ?_, ?_, ?_⟩)
      · rw [e1]; exact R2.other hK2 (by decide) nK1 nK2
      · rw [e2, Store.set_self, List.map_append]; rfl
      · rw [e1]; exact Store.get_role hP2 hK2 (by decide)
  · rw [List.length_map, take_all] at R2 hK2 hP2
    obtain ⟨dx, nf, hz, hH⟩ := R2.hp
    refine ex_attr (ev_pe (by walk_at "pe") ⟨H.a, 1, .heap, dx, nf, _, by walk_at "pe", hH, rfl, hz, by decide, ?_⟩)
    refine ex_ret (ev_pe (by walk_at "pe") (q _ K P (E.trans (.set hH (by decide))) ?_ (Store.get_role hP2 hH (by decide))))
    exact HRep.heapSet (H := { H with rs := H.rs ++ H.fs.filter (dead H.ts g M) }) hH hz { H with fi := K, fs := H.fs.filter (fun a => !dead H.ts g M a), rs := H.rs ++ H.fs.filter (dead H.ts g M) } rfl ((upd_lc rfl).trans rfl) R2.th R2.at_ R2.ca hK2 R2.re R2.ts R2.nd
end


noncomputable def tgt (rows : List Rw) (n : Int) : Int := if n < 1 ∨ (rows.length : Int) < n then 0 else match rows[(n - 1).toNat]? with
  | some r => if r.alive = 0 then 0 else r.addr
  | none => 0
noncomputable def freeAt (rows : List Rw) (n : Int) : Bool := if n < 1 ∨ (rows.length : Int) < n then false else match rows[(n - 1).toNat]? with
  | some r => decide (r.alive ≠ 0)
  | none => false
noncomputable def freeRows (rows : List Rw) (n : Int) : List Rw := if freeAt rows n then match rows[(n - 1).toNat]? with
  | some r => rows.set (n - 1).toNat { r with addr := 0, alive := 0 }
  | none => rows
  else rows

section
variable {W : Wd} {X : Cx} {l : Lcl} {σ : Store} {Q : MVal → Store → Prop} {H : Hp} {t : Th} {st : MSt} {m k y : Addr} {g a s : Int} {as : List Addr} {cs : List (List Int)} {M ps : List Int} {h : Hd} {mv : List (Int × Int)} {n : Int}

theorem c_register (hn : X.n < 60) (R : HRep σ H) (hz : H.fs.length ≤ 10000) (q : Q .none (σ.set H.fi ⟨5, .list ((H.fs ++ [a]).map .int)⟩)) : OpC W X l σ (.ref (W.fn 54)) [.ref H.a, .int a] Q := by
  refine def_call0 (x := "register") 54 (by decide) ["heap", "addr"] (nle hn) rfl (by walk_at "b2") rfl (fun _ => rfl) rfl rfl rfl ?_
  intro A h₀ L outer base A₀ cdv
  refine ex_let3 ?_
  intro Xx ll Qq
  obtain ⟨dx, nf, _, hH⟩ := R.hp
  refine ex_append (by walk_at "pe") R.fi (by first | exact lenm (by omega) | (rw [List.length_map]; omega)) (ev_pe (by walk_at "pe") ⟨R.fi, ex_nil ?_⟩)
  rw [List.map_append] at q; exact q
theorem c_reregister (hn : X.n < 60) (R : HRep σ H) (hz : H.fs.length ≤ 10000) (q : Q .none (σ.set H.fi ⟨5, .list ((H.fs ++ [a]).map .int)⟩)) : OpC W X l σ (.ref (W.fn 56)) [.ref H.a, .int a] Q := by
  refine def_call0 (x := "reregister") 56 (by decide) ["heap", "addr"] (nle hn) rfl (by walk_at "b2") rfl (fun _ => rfl) rfl rfl rfl ?_
  intro A h₀ L outer base A₀ cdv
  refine ex_let3 ?_
  intro Xx ll Qq
  obtain ⟨dx, nf, _, hH⟩ := R.hp
  refine ex_append (by walk_at "pe") R.fi (by first | exact lenm (by omega) | (rw [List.length_map]; omega)) (ev_pe (by walk_at "pe") ⟨R.fi, ex_nil ?_⟩)
  rw [List.map_append] at q; exact q

theorem c_suppress (hn : X.n < 60) (R : HRep σ H) (hz1 : H.fs.length ≤ 10000) (hz2 : H.rs.length ≤ 10000)
    (q : ∀ σ' K P, Ext [1, 5, 6] σ σ' → HRep σ' { H with fi := K, re := P, fs := H.fs.filter (fun b => decide (b ≠ a)), rs := H.rs.filter (fun b => decide (b ≠ a)) } → Q .none σ') :
    OpC W X l σ (.ref (W.fn 55)) [.ref H.a, .int a] Q := by
  refine def_call0 (x := "suppress") 55 (by decide) ["heap", "addr"] (nle hn) rfl (by walk_at "b2") rfl (fun _ => rfl) rfl rfl rfl ?_
  intro A h₀ L outer base A₀ cdv
  refine ex_let3 ?_
  intro Xx ll Qq
  refine ex_assign (ev_list 5 (eva_nil ⟨Nat.le_of_ble_eq_true rfl, fun K hK => ?_⟩))
  have nK1 : K ≠ H.fi := (ne_new R.fi hK).symm
  have nK2 : K ≠ H.re := (ne_new R.re hK).symm
  refine ex_for_l (ev_pe (by have R1 := R.new (o := ⟨5, .list []⟩) hK; obtain ⟨dx, nf, hz, hH⟩ := R1.hp; walk_at "pe") ⟨H.fi, H.fs.map .int, fun i => [("heap", .ref H.a), ("addr", .int a), ("kept", .ref K)],
    fun i σ₂ => Ext [1, 5, 6] σ σ₂ ∧ HRep σ₂ H ∧ σ₂ K = some ⟨5, .list (((H.fs.take i).filter fun b => decide (b ≠ a)).map .int)⟩,
    rfl, ⟨rfl, rfl, rfl, trivial⟩, ⟨.new hK, R.new hK, Store.set_self _ _ _⟩, fun i σ₂ h => ⟨5, h.2.1.fi⟩, fun i u σ₂ hu => And.elim fun E => And.elim fun R2 hK2 => ?_, fun σ₂ => And.elim fun E => And.elim fun R2 hK2 => ?_⟩)
  · try (refine ex_let2 ?_; intro lX QX)
    obtain ⟨b, hb, rfl⟩ := map_get hu
    have l2 := filter_len (fun b => decide (b ≠ a)) H.fs i
    refine ex_ifb (by walk_at "pt") (fun hc => ?_) fun hc => ?_
    · try (refine ex_let2 ?_; intro lX QX)
      refine ex_append (by walk_at "pe") hK2 (by simp only [List.length_map]; omega) (ev_pe (by walk_at "pe") ⟨hK2, ?_⟩)
      refine ex_nil (ex_nil ⟨⟨rfl, rfl, rfl, trivial⟩, E.trans (.set hK2 (by decide)), R2.other hK2 (by decide) nK1 nK2, ?_⟩)
      rw [filter_next hb, if_pos hc, Store.set_self, List.map_append]; rfl
    · try (refine ex_let2 ?_; intro lX QX)
      refine ex_nil (ex_nil ⟨⟨rfl, rfl, rfl, trivial⟩, E, R2, ?_⟩)
      rw [filter_next hb, if_neg (by rw [hc]; decide), List.append_nil]; exact hK2
  · rw [List.length_map, take_all] at hK2
    obtain ⟨dx, nf, hz, hH⟩ := R2.hp
    refine ex_attr (ev_pe (by walk_at "pe") ⟨H.a, 1, .heap, dx, nf, _, by walk_at "pe", hH, rfl, hz, by decide, ?_⟩)
    have R3 : HRep (σ₂.set H.a ⟨1, .inst .heap dx nf (upd H.F "finals" (.ref K))⟩) { H with fi := K, fs := H.fs.filter (fun b => decide (b ≠ a)) } :=
      HRep.heapSet hH hz { H with fi := K, fs := H.fs.filter (fun b => decide (b ≠ a)) } rfl ((upd_lc rfl).trans rfl) R2.th R2.at_ R2.ca hK2 R2.re R2.ts R2.nd
    have E3 : Ext [1, 5, 6] σ (σ₂.set H.a ⟨1, .inst .heap dx nf (upd H.F "finals" (.ref K))⟩) := E.trans (.set hH (by decide))
    generalize σ₂.set H.a ⟨1, .inst .heap dx nf (upd H.F "finals" (.ref K))⟩ = σ3 at R3 E3
    refine ex_assign (ev_list 6 (eva_nil ⟨Nat.le_of_ble_eq_true rfl, fun P hP => ?_⟩))
    have nP1 : P ≠ K := (ne_new R3.fi hP).symm
    have nP2 : P ≠ H.re := (ne_new R3.re hP).symm
    refine ex_for_l (ev_pe (by have R1 := R3.new (o := ⟨6, .list []⟩) hP; obtain ⟨dx, nf, hz, hH⟩ := R1.hp; walk_at "pe") ⟨H.re, H.rs.map sv, fun i => [("heap", .ref H.a), ("addr", .int a), ("waiting", .ref P)],
      fun i σ₂ => Ext [1, 5, 6] σ σ₂ ∧ HRep σ₂ { H with fi := K, fs := H.fs.filter (fun b => decide (b ≠ a)) } ∧ σ₂ P = some ⟨6, .list (((H.rs.take i).filter fun b => decide (b ≠ a)).map sv)⟩,
      rfl, ⟨rfl, rfl, rfl, trivial⟩, ⟨E3.trans (.new hP), R3.new hP, Store.set_self _ _ _⟩, fun i σ₂ h => ⟨6, h.2.1.re⟩, fun i u σ₂ hu => And.elim fun E => And.elim fun R2 hP2 => ?_, fun σ₂ => And.elim fun E => And.elim fun R2 hP2 => ?_⟩)
    · try (refine ex_let2 ?_; intro lX QX)
      obtain ⟨b, hb, rfl⟩ := map_get hu
      have l2 := filter_len (fun b => decide (b ≠ a)) H.rs i
      refine ex_ifb (by walk_at "pt") (fun hc => ?_) fun hc => ?_
      · try (refine ex_let2 ?_; intro lX QX)
        refine ex_append (by walk_at "pe") hP2 (by simp only [List.length_map]; omega) (ev_pe (by walk_at "pe") ⟨hP2, ?_⟩)
        refine ex_nil (ex_nil ⟨⟨rfl, rfl, rfl, trivial⟩, E.trans (.set hP2 (by decide)), R2.other hP2 (by decide) nP1 nP2, ?_⟩)
        rw [filter_next hb, if_pos hc, Store.set_self, List.map_append]; rfl
      · try (refine ex_let2 ?_; intro lX QX)
        refine ex_nil (ex_nil ⟨⟨rfl, rfl, rfl, trivial⟩, E, R2, ?_⟩)
        rw [filter_next hb, if_neg (by rw [hc]; decide), List.append_nil]; exact hP2
    · rw [List.length_map, take_all] at hP2
      obtain ⟨dx, nf, hz, hH⟩ := R2.hp
      refine ex_attr (ev_pe (by walk_at "pe") ⟨H.a, 1, .heap, dx, nf, _, by walk_at "pe", hH, rfl, hz, by decide, ?_⟩)
      refine ex_nil (q _ K P (E.trans (.set hH (by decide))) ?_)
      exact HRep.heapSet (H := { H with fi := K, fs := H.fs.filter (fun b => decide (b ≠ a)) }) hH hz { H with fi := K, re := P, fs := H.fs.filter (fun b => decide (b ≠ a)), rs := H.rs.filter (fun b => decide (b ≠ a)) } rfl ((upd_lc rfl).trans rfl) R2.th R2.at_ R2.ca R2.fi hP2 R2.ts R2.nd

theorem c_take_ready0 (hn : X.n < 60) (R : HRep σ H) (he : H.rs = []) (q : Q (.int 0) σ) : OpC W X l σ (.ref (W.fn 57)) [.ref H.a] Q := by
  refine def_call0 (x := "take_ready") 57 (by decide) ["heap"] (nle hn) rfl (by walk_at "b1") rfl (fun _ => rfl) rfl rfl rfl ?_
  intro A h₀ L outer base A₀ cdv
  refine ex_let3 ?_
  intro Xx ll Qq
  obtain ⟨dx, nf, _, hH⟩ := R.hp
  have hre := R.re
  rw [he] at hre
  refine ex_ifb (by walk_at "pt") (fun hc => ?_) fun hc => ?_
  · exact ex_ret (ev_pe pe_int q)
  · simp at hc
theorem c_take_ready (hn : X.n < 60) (R : HRep σ H) {b : Int} {r : List Int} (he : H.rs = b :: r) (hz : H.rs.length ≤ 10000) (q : Q (.int b) (σ.set H.re ⟨6, .list (r.map sv)⟩)) : OpC W X l σ (.ref (W.fn 57)) [.ref H.a] Q := by
  refine def_call0 (x := "take_ready") 57 (by decide) ["heap"] (nle hn) rfl (by walk_at "b1") rfl (fun _ => rfl) rfl rfl rfl ?_
  intro A h₀ L outer base A₀ cdv
  refine ex_let3 ?_
  intro Xx ll Qq
  obtain ⟨dx, nf, _, hH⟩ := R.hp
  have hre := R.re
  rw [he] at hre hz
  simp only [List.length_cons] at hz
  refine ex_ifb (pt_cmp (pe_len (by walk_at "pe") hre (by simp only [List.length_map, List.length_cons]; omega)) (by walk_at "pe") po_eq) (fun hc => ?_) fun hc => ?_
  · simp at hc; omega
  · exact ex_nil (ex_ret (ev_sub (ev_pop0 (v := sv b) (vs := r.map sv) (by walk_at "pe") hre (by first | exact lenm (by omega) | (rw [List.length_map]; omega)) pe_int (ev_pe pe_int (op2_po (po_ti (k := 1) (i := b) rfl (by decide)) q)))))

theorem c_new_handle (hn : X.n < 60) (R : HdRep σ h) (hz : h.rows.length ≤ 900) (q : ∀ σ' D, Ext [8] σ σ' → HdRep σ' { h with rows := h.rows ++ [⟨D, s, a, 1⟩] } → Q (.int ((h.rows.length + 1 : Nat) : Int)) σ') :
    OpC W X l σ (.ref (W.fn 46)) [.ref h.a, .int s, .int a] Q := by
  refine def_call0 (x := "new_handle") 46 (by decide) ["h", "sort", "addr"] (nle hn) rfl (by walk_at "b3") rfl (fun _ => rfl) rfl rfl rfl ?_
  intro A h₀ L outer base A₀ cdv
  refine ex_let3 ?_
  intro Xx ll Qq
  obtain ⟨dx, nf, hzn, hO⟩ := R.ob
  have hrl := R.rl
  refine ex_append (by walk_at "pe") hrl (by first | exact lenm (by omega) | (rw [List.length_map]; omega)) (ev_list 9 (eva_cons (ev_pe (by walk_at "pe") (eva_cons (ev_pe (by walk_at "pe") (eva_cons (ev_pe (by walk_at "pe") (eva_nil ⟨Nat.le_of_ble_eq_true rfl, fun D hD => ⟨by walk_at "st", ?_⟩⟩))))))))
  have hrl2 : (σ.set D ⟨9, .list [.int s, .int a, .int 1]⟩) h.rl = some ⟨8, .list (h.rows.map Rw.rv)⟩ := by walk_at "st"
  have hO2 : ((σ.set D ⟨9, .list [.int s, .int a, .int 1]⟩).set h.rl ⟨8, .list (h.rows.map Rw.rv ++ [.ref D])⟩) h.a = some ⟨7, .inst .handles dx nf (lc [("rows", .ref h.rl)])⟩ := by walk_at "st"
  refine ex_ret (ev_pe (pe_len (by walk_at "pe") (Store.set_self _ _ _) (by simp only [List.length_append, List.length_map, List.length_singleton]; omega)) ?_)
  have : (h.rows.map Rw.rv ++ [MVal.ref D]).length = h.rows.length + 1 := by simp
  rw [this]
  refine q _ D ((Ext.new hD).trans (.set hrl2 (by decide))) ⟨⟨dx, nf, hzn, hO2⟩, by rw [Store.set_self, List.map_append]; rfl, fun r hr => ?_, ?_, by simp only [List.length_append, List.length_singleton]; omega⟩
  · try (refine ex_let2 ?_; intro lX QX)
    rcases List.mem_append.mp hr with hr | hr
    · try (refine ex_let2 ?_; intro lX QX)
      have := R.rows r hr
      exact Store.get_role (Store.get_new this hD) hrl2 (by decide)
    · simp at hr; subst hr
      exact Store.get_role (Store.set_self _ _ _) hrl2 (by decide)
  · rw [List.map_append, List.nodup_append]
    refine ⟨R.nd, by simp, fun x hx y hy => ?_⟩
    simp at hy; subst hy
    obtain ⟨r, hr, rfl⟩ := List.mem_map.mp hx
    exact ne_new (R.rows r hr) hD

theorem c_target (hn : X.n < 60) (R : HdRep σ h) (q : Q (.int (tgt h.rows n)) σ) : OpC W X l σ (.ref (W.fn 47)) [.ref h.a, .int n] Q := by
  refine def_call0 (x := "target") 47 (by decide) ["h", "n"] (nle hn) rfl (by walk_at "b2") rfl (fun _ => rfl) rfl rfl rfl ?_
  intro A h₀ L outer base A₀ cdv
  refine ex_let3 ?_
  intro Xx ll Qq
  obtain ⟨dx, nf, hzn, hO⟩ := R.ob
  have hrl := R.rl
  have hnum := R.num
  unfold tgt at q
  refine ex_ifb (pt_or (by walk_at "pt") fun _ => pt_or (pt_cmp (by walk_at "pe") (pe_len (by walk_at "pe") hrl (by first | exact lenm (by omega) | (rw [List.length_map]; omega))) po_gt) fun _ => by walk_at "pt") (fun hc => ?_) fun hc => ?_
  · rw [if_pos (by simpa using hc)] at q
    exact ex_ret (ev_pe pe_int q)
  · try (refine ex_let2 ?_; intro lX QX)
    have hc' : ¬ (n < 1 ∨ (h.rows.length : Int) < n) := by simpa using hc
    rw [if_neg hc'] at q
    rw [not_or] at hc'
    obtain ⟨r, hr⟩ : ∃ r, h.rows[(n - 1).toNat]? = some r := ⟨_, List.getElem?_eq_getElem (by omega)⟩
    rw [hr] at q
    dsimp only at q
    have hrow := R.rows r (List.mem_of_getElem? hr)
    refine ex_nil (ex_assign (ev_pe (pe_sub (by walk_at "pe") (by walk_at "pe") (po_idx (v := r.rv) hrl (by omega) (by rw [List.getElem?_map, hr]; rfl) (by omega))) ?_))
    refine ex_ifb (pt_cmp (pe_sub (by walk_at "pe") (by walk_at "pe") (po_idx (v := .int r.alive) hrow (by decide) rfl (by decide))) (by walk_at "pe") po_eq) (fun hc => ?_) fun hc => ?_
    · rw [if_pos (of_decide_eq_true hc)] at q
      exact ex_ret (ev_pe pe_int q)
    · rw [if_neg (of_decide_eq_false hc)] at q
      exact ex_nil (ex_ret (ev_pe (pe_sub (by walk_at "pe") (by walk_at "pe") (po_idx (v := .int r.addr) hrow (by decide) rfl (by decide))) q))

theorem c_free (hn : X.n < 60) (R : HdRep σ h) (q : ∀ σ', Ext [9] σ σ' → HdRep σ' { h with rows := freeRows h.rows n } → Q (.bool (freeAt h.rows n)) σ') : OpC W X l σ (.ref (W.fn 48)) [.ref h.a, .int n] Q := by
  refine def_call0 (x := "free") 48 (by decide) ["h", "n"] (nle hn) rfl (by walk_at "b2") rfl (fun _ => rfl) rfl rfl rfl ?_
  intro A h₀ L outer base A₀ cdv
  refine ex_let3 ?_
  intro Xx ll Qq
  obtain ⟨dx, nf, hzn, hO⟩ := R.ob
  have hrl := R.rl
  have hnum := R.num
  by_cases hb : n < 1 ∨ (h.rows.length : Int) < n
  · try (refine ex_let2 ?_; intro lX QX)
    have e1 : freeAt h.rows n = false := if_pos hb
    have e2 : freeRows h.rows n = h.rows := by unfold freeRows; rw [e1, if_neg (by decide)]
    rw [e1, e2] at q
    by_cases h1 : n < 1
    · exact ex_ifb (pt_or (d := true) (by walk_at "pt") fun hf => absurd hf (by simp [h1])) (fun hc => ex_ret (ev_pe pe_bool (q σ .refl R))) fun hc => by simp at hc
    · try (refine ex_let2 ?_; intro lX QX)
      have h2 := hb.resolve_left h1
      exact ex_ifb (pt_or (by walk_at "pt") fun _ => pt_or (d := true) (pt_cmp (by walk_at "pe") (pe_len (by walk_at "pe") hrl (by first | exact lenm (by omega) | (rw [List.length_map]; omega))) po_gt) fun hf => absurd hf (by simp; omega)) (fun hc => ex_ret (ev_pe pe_bool (q σ .refl R))) fun hc => by simp at hc
  · try (refine ex_let2 ?_; intro lX QX)
    have hb' := hb
    rw [not_or] at hb'
    obtain ⟨r, hr⟩ : ∃ r, h.rows[(n - 1).toNat]? = some r := ⟨_, List.getElem?_eq_getElem (by omega)⟩
    have hrow := R.rows r (List.mem_of_getElem? hr)
    have e1 : freeAt h.rows n = decide (r.alive ≠ 0) := by unfold freeAt; rw [if_neg hb, hr]
    refine ex_ifb (pt_or (by walk_at "pt") fun _ => pt_or (pt_cmp (by walk_at "pe") (pe_len (by walk_at "pe") hrl (by first | exact lenm (by omega) | (rw [List.length_map]; omega))) po_gt) fun _ =>
      pt_or (pt_cmp (pe_sub (pe_sub (by walk_at "pe") (by walk_at "pe") (po_idx (v := r.rv) hrl (by omega) (by rw [List.getElem?_map, hr]; rfl) (by omega))) (by walk_at "pe") (po_idx (v := .int r.alive) hrow (by decide) rfl (by decide))) (by walk_at "pe") po_eq) fun _ => pt_or0) (fun hc => ?_) fun hc => ?_
    · try (refine ex_let2 ?_; intro lX QX)
      have hal : r.alive = 0 := by
        simp at hc
        rcases hc with h1 | h1 | h1
        · omega
        · omega
        · exact h1
      have e2 : freeAt h.rows n = false := by rw [e1]; simp [hal]
      have e3 : freeRows h.rows n = h.rows := by unfold freeRows; rw [e2, if_neg (by decide)]
      rw [e2, e3] at q
      exact ex_ret (ev_pe pe_bool (q σ .refl R))
    · try (refine ex_let2 ?_; intro lX QX)
      have hal : r.alive ≠ 0 := by simp at hc; exact hc.2.2
      have e2 : freeAt h.rows n = true := by rw [e1]; simp [hal]
      have e3 : freeRows h.rows n = h.rows.set (n - 1).toNat { r with addr := 0, alive := 0 } := by unfold freeRows; rw [e2, if_pos rfl, hr]
      rw [e2, e3] at q
      refine ex_nil (ex_sub_list (ev_pe pe_int ⟨r.ref, 9, r.row, 2, pe_sub (by walk_at "pe") (by walk_at "pe") (po_idx (v := r.rv) hrl (by omega) (by rw [List.getElem?_map, hr]; rfl) (by omega)), by walk_at "pe", hrow, by decide, by simp [Rw.row], by simp [Rw.row], ?_⟩))
      have R1 := R.setRow (r' := { r with alive := 0 }) hr rfl
      have hr1 : (h.rows.set (n - 1).toNat { r with alive := 0 })[(n - 1).toNat]? = some { r with alive := 0 } := by
        rw [List.getElem?_set, if_pos rfl, if_pos (by omega)]
      obtain ⟨dx1, nf1, hzn1, hO1⟩ := R1.ob
      have hrl1 := R1.rl
      have hrow1 := R1.rows _ (List.mem_of_getElem? hr1)
      refine ex_sub_list (ev_pe pe_int ⟨r.ref, 9, Rw.row { r with alive := 0 }, 1, pe_sub (by walk_at "pe") (by walk_at "pe") (po_idx (v := r.rv) hrl1 (by omega) (by rw [List.getElem?_map, hr1]; rfl) (by omega)), by walk_at "pe", hrow1, by decide, by simp [Rw.row], by simp [Rw.row], ?_⟩)
      have R2 := R1.setRow (r := { r with alive := 0 }) (r' := { r with addr := 0, alive := 0 }) hr1 rfl
      refine ex_ret (ev_pe pe_bool (q _ ((Ext.set hrow (by decide)).trans (.set hrow1 (by decide))) ?_))
      have : (h.rows.set (n - 1).toNat { r with alive := 0 }).set (n - 1).toNat { r with addr := 0, alive := 0 } = h.rows.set (n - 1).toNat { r with addr := 0, alive := 0 } := List.set_set ..
      rw [← this]; exact R2
end


theorem Ext.setNew {S : List Nat} {σ σ₂ : Store} {D : Addr} {o : MObj} (E : Ext S σ σ₂) (hD : σ D = none) : Ext S σ (σ₂.set D o) := by
  refine ⟨fun a x e n => ?_, fun a x e => ?_⟩
  · rw [Store.set_ne _ _ (ne_new e hD)]; exact E.keep a x e n
  · try (refine ex_let2 ?_; intro lX QX)
    obtain ⟨o', e', hr⟩ := E.role a x e
    exact ⟨o', (Store.set_ne _ _ (ne_new e hD)).trans e', hr⟩

section
variable {W : Wd} {X : Cx} {l : Lcl} {σ : Store} {Q : MVal → Store → Prop} {e₁ e₂ : Expr} {es : List Expr} {pos : Pos} {v : MVal}
theorem ev_or (h : Ev W X l σ e₁ fun v σ₁ => ∃ c, v = .bool c ∧ if c then Q (.bool true) σ₁ else Ev W X l σ₁ (.BoolOp .Or (e₂ :: es) pos) Q) : Ev W X l σ (.BoolOp .Or (e₁ :: e₂ :: es) pos) Q := by
  intro ok s R
  try (refine ex_let2 ?_; intro lX QX)
  refine BoolOp_or (wpAny_mono (h ok s R) ?_ fun _ _ x => x)
  rintro rc s1 ⟨v, σ1, mv, R1, S1, c, rfl, q⟩
  try (refine ex_let2 ?_; intro lX QX)
  obtain rfl : rc = .bool c := mv
  refine wpAny_truthy_bool ?_
  cases c with
  | true => exact .here (v := .bool true) rfl R1 S1 q
  | false => exact wpAny_mono (q ok s1 R1) (fun _ _ p => p.trans S1 R1) fun _ _ x => x
theorem pe_or1 (h : PE W X l σ e₁ v) : PE W X l σ (.BoolOp .Or [e₁] pos) v := ⟨ev_or1 h.ev⟩
theorem pe_or {c d : Bool} (h : PE W X l σ e₁ (.bool c)) (h2 : c = false → PE W X l σ (.BoolOp .Or (e₂ :: es) pos) (.bool d)) : PE W X l σ (.BoolOp .Or (e₁ :: e₂ :: es) pos) (.bool (c || d)) :=
  ⟨ev_or (ev_pe h ⟨c, rfl, by
    cases c with
    | false => simpa using (h2 rfl).ev
    | true => exact ⟨rfl, rfl⟩⟩)⟩
end

/-! ## moving, as data -/
noncomputable def endStep (g : Int) (e : Int) (t : Th) : Int := if g < t.gen ∧ e < t.addr + t.size then t.addr + t.size else e
noncomputable def endOld (g : Int) (ts : List Th) : Int := ts.foldl (endStep g) 16
noncomputable def goes (g : Int) (M : List Int) (t : Th) : Bool := decide (t.gen ≤ g) && decide (t.addr ∈ M)
noncomputable def planStep (g : Int) (M : List Int) (s : List (Int × Int) × Int) (t : Th) : List (Int × Int) × Int := if goes g M t then (s.1 ++ [(t.addr, s.2)], s.2 + t.size) else s
noncomputable def plan (g : Int) (M : List Int) (ts : List Th) (e : Int) : List (Int × Int) × Int := ts.foldl (planStep g M) ([], e)
theorem foldl_next {α β : Type} {f : β → α → β} {b : β} {xs : List α} {i : Nat} {a : α} (h : xs[i]? = some a) : (xs.take (i + 1)).foldl f b = f ((xs.take i).foldl f b) a := by rw [take_next h, List.foldl_append]; rfl
theorem plan_keys {g : Int} {M : List Int} {e : Int} : ∀ (ts : List Th) (s : List (Int × Int) × Int), ∀ k ∈ (ts.foldl (planStep g M) s).1.map (·.1), k ∈ s.1.map (·.1) ∨ k ∈ ts.map Th.addr
  | [], s, k, h => .inl h
  | t :: r, s, k, h => by
    rcases plan_keys (e := e) r (planStep g M s t) k h with h | h
    · try (refine ex_let2 ?_; intro lX QX)
      unfold planStep at h
      split at h
      · simp only [List.map_append, List.mem_append] at h
        rcases h with h | h
        · exact .inl h
        · simp at h; subst h; exact .inr (by simp)
      · exact .inl h
    · exact .inr (by simp only [List.map_cons]; exact .tail _ h)
noncomputable def stayB (g : Int) (mv : List (Int × Int)) (t : Th) : Bool := decide (g < t.gen) || (mv.lookup t.addr).isSome

noncomputable def Fam (R : List Nat) (σ : Store) (as : List Addr) (cs : List (List Int)) : Prop := All2 (fun a c => ∃ r, r ∈ R ∧ σ a = some ⟨r, .list (c.map sv)⟩) as cs
theorem Fam.ext {R S : List Nat} {σ σ' : Store} {as : List Addr} {cs : List (List Int)} (h : Fam R σ as cs) (E : Ext S σ σ') (hs : (R.all fun r => !S.contains r) = true) : Fam R σ' as cs := All2.mono (fun a c ⟨r, hr, e⟩ => ⟨r, hr, E.keep _ _ e (by
  have := List.all_eq_true.mp hs r hr
  simpa using this)⟩) h
theorem Fam.get {R : List Nat} {σ : Store} {as : List Addr} {cs : List (List Int)} (h : Fam R σ as cs) {i : Nat} {a : Addr} (e : as[i]? = some a) : ∃ c r, cs[i]? = some c ∧ r ∈ R ∧ σ a = some ⟨r, .list (c.map sv)⟩ :=
  let ⟨c, hc, r, hr, e2⟩ := All2.get h e; ⟨c, r, hc, hr, e2⟩
theorem Fam.set {R : List Nat} {σ : Store} : ∀ {as : List Addr} {cs : List (List Int)} {i : Nat} {a : Addr} {r : Nat} {c' : List Int}, Fam R σ as cs → as.Nodup → as[i]? = some a → r ∈ R → Fam R (σ.set a ⟨r, .list (c'.map sv)⟩) as (cs.set i c')
  | [], [], _, _, _, _, _, _, h, _ => by simp at h
  | b :: as, c :: cs, 0, a, r, c', ⟨h, t⟩, nd, e, hr => by
    simp at e; subst e
    rw [List.nodup_cons] at nd
    refine ⟨⟨r, hr, Store.set_self _ _ _⟩, ?_⟩
    have : ∀ {as : List Addr} {cs : List (List Int)}, Fam R σ as cs → b ∉ as → Fam R (σ.set b ⟨r, .list (c'.map sv)⟩) as cs := by
      intro as
      try (refine ex_let2 ?_; intro lX QX)
      induction as with
      | nil => intro cs h _; cases cs with | nil => trivial | cons _ _ => exact h.elim
      | cons x xs ih =>
        intro cs h hn
        try (refine ex_let2 ?_; intro lX QX)
        cases cs with
        | nil => exact h.elim
        | cons y ys =>
          obtain ⟨⟨q, hq, e⟩, t⟩ := h
          rw [List.mem_cons, not_or] at hn
          exact ⟨⟨q, hq, (Store.set_ne _ _ (Ne.symm hn.1)).trans e⟩, ih t hn.2⟩
    exact this t nd.1
  | b :: as, c :: cs, i + 1, a, r, c', ⟨⟨q, hq, e0⟩, t⟩, nd, e, hr => by
    rw [List.nodup_cons] at nd
    have e' : as[i]? = some a := by simpa using e
    refine ⟨⟨q, hq, (Store.set_ne _ _ ?_).trans e0⟩, Fam.set t nd.2 e' hr⟩
    rintro rfl; exact nd.1 (List.mem_of_getElem? e')
  | [], _ :: _, _, _, _, _, h, _, _, _ => h.elim
  | _ :: _, [], _, _, _, _, h, _, _, _ => h.elim

section
variable {W : Wd} {X : Cx} {l : Lcl} {σ : Store} {Q : MVal → Store → Prop} {H : Hp} {t : Th} {st : MSt} {m k y : Addr} {g a s : Int} {as : List Addr} {cs : List (List Int)} {M ps : List Int} {h : Hd} {mv : List (Int × Int)} {n : Int} {w : MVal}

theorem c_end_of_older (hn : X.n < 60) (R : HRep σ H) (q : Q (.int (endOld g H.ts)) σ) : OpC W X l σ (.ref (W.fn 59)) [.ref H.a, .int g] Q := by
  refine def_call0 (x := "end_of_older") 59 (by decide) ["heap", "gen"] (nle hn) rfl (by walk_at "b2") rfl (fun _ => rfl) rfl rfl rfl ?_
  intro A h₀ L outer base A₀ cdv
  refine ex_let3 ?_
  intro Xx ll Qq
  obtain ⟨dx, nf, hz, hH⟩ := R.hp
  refine ex_assign (ev_pe (by walk_at "pe") ?_)
  refine ex_for_l (ev_pe (by walk_at "pe") ⟨H.th, H.ts.map Th.rv, fun i => [("heap", .ref H.a), ("gen", .int g), ("end", .int (endOld g (H.ts.take i)))], fun i σ₂ => σ₂ = σ,
    rfl, ⟨rfl, rfl, rfl, trivial⟩, rfl, fun i σ₂ h => ⟨2, h ▸ R.th⟩, fun i u σ₂ hu e => ?_, fun σ₂ e => ?_⟩)
  · subst e
    obtain ⟨t, ht, rfl⟩ := map_get hu
    obtain ⟨⟨dt, nt, hzt, hT⟩, hS⟩ := R.ts t (List.mem_of_getElem? ht)
    have nx : endOld g (H.ts.take (i + 1)) = endStep g (endOld g (H.ts.take i)) t := foldl_next ht
    refine ex_ifb (pt_and (by walk_at "pt") fun _ => pt_and (by walk_at "pt") fun _ => by walk_at "pt") (fun hc => ?_) fun hc => ?_
    · try (refine ex_let2 ?_; intro lX QX)
      refine ex_assign (ev_pe (by walk_at "pe") (ex_nil (ex_nil ⟨⟨rfl, rfl, ?_, trivial⟩, rfl⟩)))
      have : g < t.gen ∧ endOld g (H.ts.take i) < t.addr + t.size := by simpa using hc
      show some (MVal.int _) = some (MVal.int _)
      rw [nx]; unfold endStep; rw [if_pos this]
    · try (refine ex_let2 ?_; intro lX QX)
      refine ex_nil (ex_nil ⟨⟨rfl, rfl, ?_, trivial⟩, rfl⟩)
      have : ¬ (g < t.gen ∧ endOld g (H.ts.take i) < t.addr + t.size) := by
        intro h
        try (refine ex_let2 ?_; intro lX QX)
        rw [decide_eq_true h.1, decide_eq_true h.2] at hc
        cases hc
      show some (MVal.int _) = some (MVal.int _)
      rw [nx]; unfold endStep; rw [if_neg this]
  · subst e
    refine ex_ret (ev_pe (pe_loc (v := .int (endOld g H.ts)) ?_) q)
    show some (MVal.int _) = some (MVal.int _)
    rw [List.length_map, take_all]

theorem c_plan_moves (hn : X.n < 59) (R : HRep σ H) (ok : HOk H) (hm : σ m = some ⟨40, .dI (M.map mkv)⟩) (q : ∀ σ' D, Ext [] σ σ' → σ D = none → σ' D = some ⟨47, .dI ((plan g M H.ts (endOld g H.ts)).1.map mvv)⟩ → Q (.ref D) σ') :
    OpC W X l σ (.ref (W.fn 60)) [.ref H.a, .ref m, .int g] Q := by
  refine def_call0 (x := "plan_moves") 60 (by decide) ["heap", "marks", "gen"] (nle hn) rfl (by walk_at "b3") rfl (fun _ => rfl) rfl rfl rfl ?_
  intro A h₀ L outer base A₀ cdv
  refine ex_let3 ?_
  intro Xx ll Qq
  refine ex_assign (ev_dict0I 47 fun D hD => ?_)
  have R0 := R.new (o := ⟨47, .dI []⟩) hD
  obtain ⟨dx, nf, hz, hH⟩ := R0.hp
  refine ex_assign (ev_c2 59 (by decide) (by walk_at "pe") (by walk_at "pe") (c_end_of_older (nlt hn) R0 ?_))
  refine ex_for_l (ev_pe (by walk_at "pe") ⟨H.th, H.ts.map Th.rv, fun i => [("heap", .ref H.a), ("marks", .ref m), ("gen", .int g), ("moves", .ref D), ("goal", .int (plan g M (H.ts.take i) (endOld g H.ts)).2)],
    fun i σ₂ => Ext [] σ σ₂ ∧ σ₂ D = some ⟨47, .dI ((plan g M (H.ts.take i) (endOld g H.ts)).1.map mvv)⟩,
    rfl, ⟨rfl, rfl, rfl, rfl, rfl, trivial⟩, ⟨.new hD, Store.set_self _ _ _⟩, fun i σ₂ h => ⟨2, h.1.get R.th⟩, fun i u σ₂ hu => And.elim fun E hD2 => ?_, fun σ₂ => And.elim fun E hD2 => ?_⟩)
  · try (refine ex_let2 ?_; intro lX QX)
    obtain ⟨t, ht, rfl⟩ := map_get hu
    have htm := List.mem_of_getElem? ht
    obtain ⟨⟨dt, nt, hzt, hT⟩, hS⟩ := R.ts t htm
    have hT2 := E.get hT
    have hm2 := E.get hm
    have nx : plan g M (H.ts.take (i + 1)) (endOld g H.ts) = planStep g M (plan g M (H.ts.take i) (endOld g H.ts)) t := foldl_next ht
    have hgo : goes g M t = (decide (t.gen ≤ g) && ((dget (M.map mkv) t.addr).isSome && true)) := by unfold goes; rw [dget_mkv, Bool.and_true]
    refine ex_ifb (pt_and (by walk_at "pt") fun _ => pt_and (pt_cmp (by walk_at "pe") (by walk_at "pe") (po_ind hm2)) fun _ => by walk_at "pt") (fun hc => ?_) fun hc => ?_
    · rw [← hgo] at hc
      have e1 : planStep g M (plan g M (H.ts.take i) (endOld g H.ts)) t = ((plan g M (H.ts.take i) (endOld g H.ts)).1 ++ [(t.addr, (plan g M (H.ts.take i) (endOld g H.ts)).2)], (plan g M (H.ts.take i) (endOld g H.ts)).2 + t.size) := if_pos hc
      have hk : t.addr ∉ ((plan g M (H.ts.take i) (endOld g H.ts)).1.map mvv).map (·.1) := by
        have : ((plan g M (H.ts.take i) (endOld g H.ts)).1.map mvv).map (·.1) = (plan g M (H.ts.take i) (endOld g H.ts)).1.map (·.1) := by rw [List.map_map]; rfl
        rw [this]
        intro hk
        try (refine ex_let2 ?_; intro lX QX)
        rcases plan_keys (e := 0) (H.ts.take i) _ _ hk with h | h
        · cases h
        · try (refine ex_let2 ?_; intro lX QX)
          obtain ⟨u, hu, e⟩ := List.mem_map.mp h
          obtain ⟨j, hj⟩ := List.getElem?_of_mem hu
          rw [List.getElem?_take] at hj
          split at hj
          · try (refine ex_let2 ?_; intro lX QX)
            rename_i hji
            have := nodup_get ok.ad hj ht e
            omega
          · cases hj
      have hlen : ((plan g M (H.ts.take i) (endOld g H.ts)).1.map mvv).length ≤ 16777216 := by
        have : ∀ (ts : List Th) (s : List (Int × Int) × Int), (ts.foldl (planStep g M) s).1.length ≤ s.1.length + ts.length := by
          intro ts
          try (refine ex_let2 ?_; intro lX QX)
          induction ts with
          | nil => intro s; simp
          | cons x r ih =>
            intro s
            have h1 := ih (planStep g M s x)
            have h2 : (planStep g M s x).1.length ≤ s.1.length + 1 := by unfold planStep; split <;> simp
            simp only [List.foldl_cons, List.length_cons]; omega
        have h1 := this (H.ts.take i) ([], endOld g H.ts)
        have h2 := ok.num
        rw [List.length_map]
        unfold plan
        simp only [List.length_nil, List.length_take] at h1 ⊢; omega
      refine ex_sub_dI (ev_pe (by walk_at "pe") ⟨D, 47, _, t.addr, by walk_at "pe", by walk_at "pe", hD2, hlen, ?_⟩)
      rw [dput_new hk]
      have hT3 : (σ₂.set D ⟨47, .dI ((plan g M (H.ts.take i) (endOld g H.ts)).1.map mvv ++ [(t.addr, .int (plan g M (H.ts.take i) (endOld g H.ts)).2)])⟩) t.ref = some ⟨10, .inst .thing dt nt t.F⟩ := Store.get_role hT2 hD2 (by decide)
      refine ex_aug rfl (ev_pe (by walk_at "pe") (op2_po po_iadd ?_))
      refine ex_nil (ex_nil ⟨⟨rfl, rfl, rfl, rfl, ?_, trivial⟩, E.setNew hD, ?_⟩)
      · show some (MVal.int _) = some (MVal.int _)
        rw [nx, e1]
      · rw [nx, e1, Store.set_self, List.map_append]; rfl
    · rw [← hgo] at hc
      have e1 : planStep g M (plan g M (H.ts.take i) (endOld g H.ts)) t = plan g M (H.ts.take i) (endOld g H.ts) := if_neg (by rw [hc]; decide)
      refine ex_nil (ex_nil ⟨⟨rfl, rfl, rfl, rfl, ?_, trivial⟩, E, by rw [nx, e1]; exact hD2⟩)
      show some (MVal.int _) = some (MVal.int _)
      rw [nx, e1]
  · rw [List.length_map, take_all] at hD2
    exact ex_ret (ev_pe (by walk_at "pe") (q σ₂ D E hD hD2))

theorem c_stays (hn : X.n < 60) (hT : ∃ dx nf, σ t.ref = some ⟨10, .inst .thing dx nf t.F⟩) (hm : σ m = some ⟨47, .dI (mv.map mvv)⟩) (q : Q (.bool (stayB g mv t)) σ) : OpC W X l σ (.ref (W.fn 63)) [t.rv, .ref m, .int g] Q := by
  refine def_call0 (x := "stays") 63 (by decide) ["thing", "moves", "gen"] (nle hn) rfl (by walk_at "b3") rfl (fun _ => rfl) rfl rfl rfl ?_
  intro A h₀ L outer base A₀ cdv
  refine ex_let3 ?_
  intro Xx ll Qq
  obtain ⟨dx, nf, hT⟩ := hT
  have e : stayB g mv t = (decide (g < t.gen) || (dget (mv.map mvv) t.addr).isSome) := by unfold stayB; rw [dget_mvv, Option.isSome_map]
  rw [e] at q
  exact ex_ret (ev_pe (pe_or (by walk_at "pe") fun _ => pe_or1 (by walk_at "pe")) q)

theorem c_move_plain (hn : X.n < 60) (hm : σ m = some ⟨47, .dI (mv.map mvv)⟩) (q : Q (sv (fwd mv a)) σ) : OpC W X l σ (.ref (W.fn 7)) [sv a, .ref m, w] Q := by
  refine def_call0 (x := "move_plain") 7 (by decide) ["value", "forward", "words"] (nle hn) rfl (by walk_at "b3") rfl (fun _ => rfl) rfl rfl rfl ?_
  intro A h₀ L outer base A₀ cdv
  refine ex_let3 ?_
  intro Xx ll Qq
  refine ex_ifb (by walk_at "pt") (fun h => ?_) fun h => by simp at h
  have e : (dget (mv.map mvv) a).getD (.int a) = .int (fwd mv a) := by
    rw [dget_mvv]; unfold fwd
    cases mv.lookup a <;> rfl
  refine ex_ret (ev_tup (eva_cons (ev_pe (by walk_at "pe") (eva_cons (ev_pe (pe_get2 (by walk_at "pe") hm (k := a) (by walk_at "pe") (d := .int a) (by walk_at "pe")) (eva_nil ⟨[.int 4, .int (fwd mv a)], ?_, by simp, q⟩))))))
  rw [e]; rfl
theorem c_move_value (hn : X.n < 59) (hm : σ m = some ⟨47, .dI (mv.map mvv)⟩) (q : Q (sv (fwd mv a)) σ) : OpC W X l σ (.ref (W.fn 6)) [sv a, .ref m, w] Q := by
  refine def_call0 (x := "move_value") 6 (by decide) ["value", "forward", "words"] (nle hn) rfl (by walk_at "b3") rfl (fun _ => rfl) rfl rfl rfl ?_
  intro A h₀ L outer base A₀ cdv
  refine ex_let3 ?_
  intro Xx ll Qq
  refine ex_ifb (by walk_at "pt") (fun h => by simp at h) fun h => ?_
  exact ex_nil (ex_ret (ev_c3 7 (by decide) (by walk_at "pe") (by walk_at "pe") (pe_loc rfl) (c_move_plain (nlt hn) hm q)))
end


noncomputable def settleF (g : Int) (mv : List (Int × Int)) (t : Th) : Th := if g < t.gen then t else { t with addr := fwd mv t.addr, gen := if t.gen < 2 then t.gen + 1 else t.gen }
theorem settle_ref {g : Int} {mv : List (Int × Int)} {t : Th} : (settleF g mv t).ref = t.ref := by unfold settleF; split <;> rfl
theorem settle_sl {g : Int} {mv : List (Int × Int)} {t : Th} : (settleF g mv t).sl = t.sl := by unfold settleF; split <;> rfl
section
variable {W : Wd} {X : Cx} {l : Lcl} {σ : Store} {Q : MVal → Store → Prop} {H : Hp} {t : Th} {st : MSt} {m k y z : Addr} {g a s : Int} {as : List Addr} {cs : List (List Int)} {c M ps : List Int} {h : Hd} {mv : List (Int × Int)} {n : Int} {w : MVal} {RR : List Nat} {r : Nat}

theorem c_moved_values (hn : X.n < 58) (hy : σ y = some ⟨r, .list (c.map sv)⟩) (hz : c.length ≤ 10000) (hm : σ m = some ⟨47, .dI (mv.map mvv)⟩) (q : ∀ σ' D, Ext [] σ σ' → σ D = none → σ' D = some ⟨50, .list ((c.map (fwd mv)).map sv)⟩ → Q (.ref D) σ') :
    OpC W X l σ (.ref (W.fn 64)) [.ref y, .ref m, w] Q := by
  refine def_call0 (x := "moved_values") 64 (by decide) ["values", "moves", "words"] (nle hn) rfl (by walk_at "b3") rfl (fun _ => rfl) rfl rfl rfl ?_
  intro A h₀ L outer base A₀ cdv
  refine ex_let3 ?_
  intro Xx ll Qq
  refine ex_assign (ev_list 50 (eva_nil ⟨Nat.le_of_ble_eq_true rfl, fun D hD => ?_⟩))
  refine ex_for_l (ev_pe (by walk_at "pe") ⟨y, c.map sv, fun i => [("moves", .ref m), ("words", w), ("out", .ref D)], fun i σ₂ => Ext [] σ σ₂ ∧ σ₂ D = some ⟨50, .list (((c.take i).map (fwd mv)).map sv)⟩,
    rfl, ⟨rfl, rfl, rfl, trivial⟩, ⟨.new hD, Store.set_self _ _ _⟩, fun i σ₂ h => ⟨r, h.1.get hy⟩, fun i u σ₂ hu => And.elim fun E hD2 => ?_, fun σ₂ => And.elim fun E hD2 => ?_⟩)
  · try (refine ex_let2 ?_; intro lX QX)
    obtain ⟨b, hb, rfl⟩ := map_get hu
    refine ex_append (by walk_at "pe") hD2 (by simp only [List.length_map, List.length_take]; omega) (ev_c3 6 (by decide) (by walk_at "pe") (by walk_at "pe") (pe_loc rfl) (c_move_value (nlt hn) (E.get hm) ⟨hD2, ?_⟩))
    refine ex_nil ⟨⟨rfl, rfl, rfl, trivial⟩, E.setNew hD, ?_⟩
    rw [Store.set_self, take_next hb]
    simp only [List.map_append, List.map_cons, List.map_nil]
  · rw [List.length_map, take_all] at hD2
    exact ex_ret (ev_pe (by walk_at "pe") (q σ₂ D E hD hD2))

theorem fam_bound {R : List Nat} {as : List Addr} {cs : List (List Int)} (h : Fam R σ as cs) : as.length = cs.length := All2.len h
theorem c_new_lists (hn : X.n < 57) (hy : σ y = some ⟨r, .list (as.map .ref)⟩) (hl : Fam RR σ as cs) (hz1 : as.length ≤ 10000) (hz : ∀ c ∈ cs, c.length ≤ 10000) (hm : σ m = some ⟨47, .dI (mv.map mvv)⟩)
    (q : ∀ σ' D ds, Ext [] σ σ' → σ D = none → σ' D = some ⟨51, .list (ds.map .ref)⟩ → Fam [50] σ' ds (cs.map (·.map (fwd mv))) → Q (.ref D) σ') : OpC W X l σ (.ref (W.fn 65)) [.ref y, .ref m, w] Q := by
  refine def_call0 (x := "new_lists") 65 (by decide) ["lists", "moves", "words"] (nle hn) rfl (by walk_at "b3") rfl (fun _ => rfl) rfl rfl rfl ?_
  intro A h₀ L outer base A₀ cdv
  refine ex_let3 ?_
  intro Xx ll Qq
  refine ex_assign (ev_list 51 (eva_nil ⟨Nat.le_of_ble_eq_true rfl, fun D hD => ?_⟩))
  have hlen := fam_bound hl
  refine ex_for_l (ev_pe (by walk_at "pe") ⟨y, as.map .ref, fun i => [("moves", .ref m), ("words", w), ("out", .ref D)], fun i σ₂ => Ext [] σ σ₂ ∧ ∃ ds : List Addr, σ₂ D = some ⟨51, .list (ds.map .ref)⟩ ∧ Fam [50] σ₂ ds ((cs.take i).map (·.map (fwd mv))),
    rfl, ⟨rfl, rfl, rfl, trivial⟩, ⟨.new hD, [], Store.set_self _ _ _, trivial⟩, fun i σ₂ h => ⟨r, h.1.get hy⟩, fun i u σ₂ hu ⟨E, ds, hD2, F⟩ => ?_, fun σ₂ ⟨E, ds, hD2, F⟩ => ?_⟩)
  · try (refine ex_let2 ?_; intro lX QX)
    obtain ⟨a, ha, rfl⟩ := map_get hu
    obtain ⟨c, r', hc, hr, hca⟩ := (hl.ext E (by simp)).get ha
    have hds := fam_bound F
    rw [List.length_map, List.length_take] at hds
    refine ex_append (by walk_at "pe") hD2 (by first | exact lenm (by omega) | (rw [List.length_map]; omega)) (ev_c3 64 (by decide) (by walk_at "pe") (by walk_at "pe") (pe_loc rfl) (c_moved_values (nlt hn) hca (hz c (List.mem_of_getElem? hc)) (E.get hm) fun σ3 D3 E3 hD3 hD3' => ⟨E3.get hD2, ?_⟩))
    refine ex_nil ⟨⟨rfl, rfl, rfl, trivial⟩, (E.trans E3).setNew hD, ds ++ [D3], ?_, ?_⟩
    · rw [Store.set_self, List.map_append]; rfl
    · rw [take_next hc, List.map_append]
      have hne : D3 ≠ D := (ne_new hD2 hD3).symm
      have E4 : Ext [51] σ3 (σ3.set D ⟨51, .list (ds.map .ref ++ [.ref D3])⟩) := .set (E3.get hD2) (by decide)
      exact All2.append ((F.ext E3 (by decide)).ext E4 (by decide)) ⟨⟨50, by decide, E4.get hD3'⟩, trivial⟩
  · rw [List.length_map, hlen, take_all] at F
    exact ex_ret (ev_pe (by walk_at "pe") (q σ₂ D ds E hD hD2 F))

theorem c_put_lists (hn : X.n < 60) (hy : σ y = some ⟨52, .list (as.map .ref)⟩) (hl : Fam [6, 11, 13] σ as cs) (nd : as.Nodup) (hz1 : as.length ≤ 10000) (hz : ∀ c ∈ cs, c.length ≤ 10000) {f : Int → Int} {ds : List Addr} (hz' : σ z = some ⟨51, .list (ds.map .ref)⟩) (hF : Fam [50] σ ds (cs.map (·.map f)))
    (q : ∀ σ', Ext [6, 11, 13] σ σ' → Fam [6, 11, 13] σ' as (cs.map (·.map f)) → Q .none σ') : OpC W X l σ (.ref (W.fn 66)) [.ref y, .ref z] Q := by
  refine def_call0 (x := "put_lists") 66 (by decide) ["lists", "fresh"] (nle hn) rfl (by walk_at "b2") rfl (fun _ => rfl) rfl rfl rfl ?_
  intro A h₀ L outer base A₀ cdv
  refine ex_let3 ?_
  intro Xx ll Qq
  have hlen := fam_bound hl
  have hlen2 := fam_bound hF
  rw [List.length_map] at hlen2
  refine ex_for_r (ev_pe (pe_len (by walk_at "pe") hy (by first | exact lenm (by omega) | (rw [List.length_map]; omega))) ⟨as.length, fun _ => [("lists", .ref y), ("fresh", .ref z)], fun i σ₂ => Ext [6, 11, 13] σ σ₂ ∧ Fam [6, 11, 13] σ₂ as (mapTo (·.map f) i cs),
    by rw [List.length_map], by omega, ⟨rfl, rfl, trivial⟩, ⟨.refl, by rw [mapTo_zero]; exact hl⟩, fun i σ₂ hi => And.elim fun E F => ?_, fun σ₂ => And.elim fun E F => ?_⟩)
  · try (refine ex_let2 ?_; intro lX QX)
    have ha : as[i]? = some as[i] := List.getElem?_eq_getElem hi
    obtain ⟨c, hc⟩ : ∃ c, cs[i]? = some c := ⟨_, List.getElem?_eq_getElem (by omega)⟩
    obtain ⟨c', r, hc', hr, hca⟩ := F.get ha
    rw [mapTo_get hc] at hc'
    cases hc'
    have hcz := hz c (List.mem_of_getElem? hc)
    have hy2 := E.get hy
    have hz2 := E.get hz'
    have hF2 := hF.ext E (by decide)
    obtain ⟨d, hd⟩ : ∃ d, ds[i]? = some d := ⟨_, List.getElem?_eq_getElem (by omega)⟩
    obtain ⟨e, rd, he, hrd, hde⟩ := hF2.get hd
    have he' : e = c.map f := by rw [List.getElem?_map, hc] at he; exact (Option.some.inj he).symm
    subst he'
    have hrd' : rd = 50 := by simpa using hrd
    subst hrd'
    refine ex_assign (ev_pe (pe_sub (by walk_at "pe") (by walk_at "pe") (po_idx (k := i) (v := .ref as[i]) hy2 (by omega) (by rw [List.getElem?_map, Int.toNat_natCast, ha]; rfl) (by omega))) ?_)
    refine ex_for_r (ev_pe (pe_len (by walk_at "pe") hca (by first | exact lenm (by omega) | (rw [List.length_map]; omega))) ⟨c.length, fun _ => [("lists", .ref y), ("fresh", .ref z), ("place", .int i), ("values", .ref as[i])], fun j σ₃ => Ext [6, 11, 13] σ σ₃ ∧ σ₃ as[i] = some ⟨r, .list ((mapTo f j c).map sv)⟩ ∧ Fam [6, 11, 13] σ₃ as ((mapTo (·.map f) i cs).set i (mapTo f j c)),
      by rw [List.length_map], by omega, ⟨rfl, rfl, rfl, rfl, trivial⟩, ⟨E, by rw [mapTo_zero]; exact hca, ?_⟩, fun j σ₃ hj => And.elim fun E3 => And.elim fun hca3 F3 => ?_, fun σ₃ => And.elim fun E3 => And.elim fun hca3 F3 => ?_⟩)
    · rw [mapTo_zero]
      have : (mapTo (·.map f) i cs).set i c = mapTo (·.map f) i cs := by
        apply List.ext_getElem?
        intro j
        rw [List.getElem?_set]
        split
        · rename_i q; subst q
          have := mapTo_get (f := fun x : List Int => x.map f) hc
          obtain ⟨hl, _⟩ := List.getElem?_eq_some_iff.mp this
          rw [if_pos hl, this]
        · rfl
      rw [this]; exact F
    · have hcj : c[j]? = some c[j] := List.getElem?_eq_getElem hj
      have hz3 := E3.get hz'
      have hde3 := (hF.ext E3 (by decide)).get hd
      obtain ⟨e, rd, he, hrd, hde3⟩ := hde3
      have he' : e = c.map f := by rw [List.getElem?_map, hc] at he; exact (Option.some.inj he).symm
      subst he'
      have hj2 : (mapTo f j c).length = c.length := mapTo_len
      refine ex_sub_list (ev_pe (pe_sub (v := sv (f c[j])) (pe_sub (by walk_at "pe") (by walk_at "pe") (po_idx (k := i) (v := .ref d) hz3 (by omega) (by rw [List.getElem?_map, Int.toNat_natCast, hd]; rfl) (by omega))) (by walk_at "pe") (po_idx (k := j) hde3 (by omega) (by rw [List.getElem?_map, List.getElem?_map, Int.toNat_natCast, hcj]; rfl) (by omega)))
        ⟨as[i], r, _, j, by walk_at "pe", by walk_at "pe", hca3, by omega, by rw [List.length_map]; omega, by rw [List.length_map]; omega, ?_⟩)
      refine ex_nil ⟨⟨rfl, rfl, rfl, rfl, trivial⟩, E3.trans (.set hca3 hr), ?_, ?_⟩
      · rw [Store.set_self, mapTo_next hcj, Int.toNat_natCast, List.map_set]
      · have := F3.set (c' := mapTo f (j + 1) c) nd ha hr
        rw [List.set_set] at this
        rw [Int.toNat_natCast, ← List.map_set, ← mapTo_next hcj]; exact this
    · rw [mapTo_all (Nat.le_refl _)] at F3
      exact ex_nil ⟨⟨rfl, rfl, trivial⟩, E3, by rw [mapTo_next hc]; exact F3⟩
  · rw [hlen, mapTo_all (Nat.le_refl _)] at F
    exact ex_nil (q σ₂ E F)

theorem c_moved_addrs (hn : X.n < 60) (hy : σ y = some ⟨r, .list (c.map .int)⟩) (hz : c.length ≤ 10000) (hm : σ m = some ⟨47, .dI (mv.map mvv)⟩) (q : ∀ σ' D, Ext [] σ σ' → σ D = none → σ' D = some ⟨5, .list ((c.map (fwd mv)).map .int)⟩ → Q (.ref D) σ') :
    OpC W X l σ (.ref (W.fn 67)) [.ref y, .ref m] Q := by
  refine def_call0 (x := "moved_addrs") 67 (by decide) ["addrs", "moves"] (nle hn) rfl (by walk_at "b2") rfl (fun _ => rfl) rfl rfl rfl ?_
  intro A h₀ L outer base A₀ cdv
  refine ex_let3 ?_
  intro Xx ll Qq
  refine ex_assign (ev_list 5 (eva_nil ⟨Nat.le_of_ble_eq_true rfl, fun D hD => ?_⟩))
  refine ex_for_l (ev_pe (by walk_at "pe") ⟨y, c.map .int, fun i => [("moves", .ref m), ("out", .ref D)], fun i σ₂ => Ext [] σ σ₂ ∧ σ₂ D = some ⟨5, .list (((c.take i).map (fwd mv)).map .int)⟩,
    rfl, ⟨rfl, rfl, trivial⟩, ⟨.new hD, Store.set_self _ _ _⟩, fun i σ₂ h => ⟨r, h.1.get hy⟩, fun i u σ₂ hu => And.elim fun E hD2 => ?_, fun σ₂ => And.elim fun E hD2 => ?_⟩)
  · try (refine ex_let2 ?_; intro lX QX)
    obtain ⟨b, hb, rfl⟩ := map_get hu
    have e : (dget (mv.map mvv) b).getD (.int b) = .int (fwd mv b) := by
      rw [dget_mvv]; unfold fwd
      cases mv.lookup b <;> rfl
    refine ex_append (by walk_at "pe") hD2 (by simp only [List.length_map, List.length_take]; omega) (ev_pe (pe_get2 (by walk_at "pe") (E.get hm) (k := b) (by walk_at "pe") (d := .int b) (by walk_at "pe")) ⟨hD2, ?_⟩)
    refine ex_nil ⟨⟨rfl, rfl, trivial⟩, E.setNew hD, ?_⟩
    rw [Store.set_self, take_next hb, e]
    simp only [List.map_append, List.map_cons, List.map_nil]
  · rw [List.length_map, take_all] at hD2
    exact ex_ret (ev_pe (by walk_at "pe") (q σ₂ D E hD hD2))

/-- one thing settles: what the heap's own fields and the thing's become -/
theorem c_settle_thing (hn : X.n < 60) {dx : Addr} {nf : Nat} (hz : nf ≤ 900) (hH : σ H.a = some ⟨1, .inst .heap dx nf H.F⟩) {dt : Addr} {nt : Nat} (hzt : nt ≤ 900) (hT : σ t.ref = some ⟨10, .inst .thing dt nt t.F⟩) (hm : σ m = some ⟨47, .dI (mv.map mvv)⟩)
    (hst : stayB g mv t = true)
    (q : ∀ σ' mo, Ext [1, 10] σ σ' → σ' H.a = some ⟨1, .inst .heap dx nf { H with moved := mo }.F⟩ → σ' t.ref = some ⟨10, .inst .thing dt nt (settleF g mv t).F⟩ → (∀ b o, b ≠ t.ref → b ≠ H.a → σ b = some o → σ' b = some o) → Q .none σ') :
    OpC W X l σ (.ref (W.fn 68)) [.ref H.a, t.rv, .ref m, .int g] Q := by
  refine def_call0 (x := "settle_thing") 68 (by decide) ["heap", "thing", "moves", "gen"] (nle hn) rfl (by walk_at "b4") rfl (fun _ => rfl) rfl rfl rfl ?_
  intro A h₀ L outer base A₀ cdv
  refine ex_let3 ?_
  intro Xx ll Qq
  refine ex_ifb (by walk_at "pt") (fun hc => ?_) fun hc => ?_
  · try (refine ex_let2 ?_; intro lX QX)
    have e : settleF g mv t = t := if_pos (of_decide_eq_true hc)
    exact ex_ret0 (q σ H.moved .refl hH (by rw [e]; exact hT) fun b o _ _ h => h)
  · try (refine ex_let2 ?_; intro lX QX)
    have hg : ¬ g < t.gen := of_decide_eq_false hc
    obtain ⟨b, hb⟩ : ∃ b, mv.lookup t.addr = some b := by
      unfold stayB at hst
      rw [hc, Bool.false_or] at hst
      exact Option.isSome_iff_exists.mp hst
    have hd := dget_mvv mv t.addr
    rw [hb] at hd
    have hf : fwd mv t.addr = b := by unfold fwd; rw [hb]; rfl
    have e : settleF g mv t = { t with addr := b, gen := if t.gen < 2 then t.gen + 1 else t.gen } := by unfold settleF; rw [if_neg hg, hf]
    refine ex_nil (ex_assign (ev_pe (pe_sub (by walk_at "pe") (by walk_at "pe") (po_dget hm hd)) ?_))
    have rest : ∀ σ1 mo, Ext [1, 10] σ σ1 → σ1 H.a = some ⟨1, .inst .heap dx nf { H with moved := mo }.F⟩ → σ1 t.ref = some ⟨10, .inst .thing dt nt t.F⟩ → (∀ c o, c ≠ t.ref → c ≠ H.a → σ c = some o → σ1 c = some o) →
        Ex W (mkCx "settle_thing" (fScope (topS 68)) (W.fn 68) (X.n + 1) A h₀ L outer base A₀ cdv) (lc [("heap", .ref H.a), ("thing", t.rv), ("goal", .int b)]) σ1 ((fBody (topS 68)).drop 3) fun fl _ σ'' => Q (retOf fl) σ'' := by
      intro σ1 mo E1 hH1 hT1 k1
      try (refine ex_let2 ?_; intro lX QX)
      refine ex_attr (ev_pe (by walk_at "pe") ⟨t.ref, 10, .thing, dt, nt, t.F, by walk_at "pe", hT1, rfl, hzt, by decide, ?_⟩)
      have e1 : upd t.F "addr" (.int b) = { t with addr := b }.F := (upd_lc rfl).trans rfl
      rw [e1]
      have hT2 : (σ1.set t.ref ⟨10, .inst .thing dt nt { t with addr := b }.F⟩) t.ref = some ⟨10, .inst .thing dt nt { t with addr := b }.F⟩ := Store.set_self _ _ _
      have hH2 : (σ1.set t.ref ⟨10, .inst .thing dt nt { t with addr := b }.F⟩) H.a = some ⟨1, .inst .heap dx nf { H with moved := mo }.F⟩ := Store.get_role hH1 hT1 (by decide)
      have E2 : Ext [1, 10] σ (σ1.set t.ref ⟨10, .inst .thing dt nt { t with addr := b }.F⟩) := E1.trans (.set hT1 (by decide))
      have k2 : ∀ c o, c ≠ t.ref → c ≠ H.a → σ c = some o → (σ1.set t.ref ⟨10, .inst .thing dt nt { t with addr := b }.F⟩) c = some o := fun c o n1 n2 h => (Store.set_ne _ _ n1).trans (k1 c o n1 n2 h)
      generalize σ1.set t.ref ⟨10, .inst .thing dt nt { t with addr := b }.F⟩ = σ2 at hT2 hH2 E2 k2
      refine ex_ifb (by walk_at "pt") (fun hc2 => ?_) fun hc2 => ?_
      · try (refine ex_let2 ?_; intro lX QX)
        have h2 : t.gen < 2 := of_decide_eq_true hc2
        rw [if_pos h2] at e
        refine ex_aug_attr (x := t.ref) (old := .int t.gen) (by walk_at "pe") hT2 rfl (by decide) (ev_pe pe_int (op2_po po_iadd ⟨10, .thing, dt, nt, _, hT2, rfl, hzt, by decide, ?_⟩))
        have e2 : upd { t with addr := b }.F "gen" (.int (t.gen + 1)) = { t with addr := b, gen := t.gen + 1 }.F := (upd_lc rfl).trans rfl
        rw [e2]
        exact ex_nil (ex_nil (q _ mo (E2.trans (.set hT2 (by decide))) (Store.get_role hH2 hT2 (by decide)) (by rw [e]; exact Store.set_self _ _ _) fun c o n1 n2 h => (Store.set_ne _ _ n1).trans (k2 c o n1 n2 h)))
      · try (refine ex_let2 ?_; intro lX QX)
        have h2 : ¬ t.gen < 2 := of_decide_eq_false hc2
        rw [if_neg h2] at e
        exact ex_nil (ex_nil (q _ mo E2 hH2 (by rw [e]; exact hT2) k2))
    refine ex_ifb (by walk_at "pt") (fun hc1 => ?_) fun hc1 => ?_
    · try (refine ex_let2 ?_; intro lX QX)
      refine ex_aug_attr (x := H.a) (old := .int H.moved) (by walk_at "pe") hH rfl (by decide) (ev_pe pe_int (op2_po po_iadd ⟨1, .heap, dx, nf, _, hH, rfl, hz, by decide, ?_⟩))
      have e1 : upd H.F "moved" (.int (H.moved + 1)) = { H with moved := H.moved + 1 }.F := (upd_lc rfl).trans rfl
      rw [e1]
      exact ex_nil (ex_weak (rest _ (H.moved + 1) (.set hH (by decide)) (Store.set_self _ _ _) (Store.get_role hT hH (by decide)) fun c o n1 n2 h => (Store.set_ne _ _ n2).trans h) (le_lc ⟨rfl, rfl, rfl, trivial⟩))
    · exact ex_nil (ex_weak (rest σ H.moved .refl hH hT fun c o _ _ h => h) (le_lc ⟨rfl, rfl, rfl, trivial⟩))
end


noncomputable def topOf (ts : List Th) : Int := ts.foldl (fun _ t => t.addr + t.size) 16
noncomputable def Ins (σ : Store) (t : Th) : Prop := ∃ dx nf, nf ≤ 900 ∧ σ t.ref = some ⟨10, .inst .thing dx nf t.F⟩
theorem Ins.ext {S : List Nat} {σ σ' : Store} {t : Th} (h : Ins σ t) (E : Ext S σ σ') (hr : 10 ∉ S) : Ins σ' t := let ⟨dx, nf, hz, e⟩ := h; ⟨dx, nf, hz, E.keep _ _ e hr⟩
section
variable {W : Wd} {X : Cx} {l : Lcl} {σ : Store} {Q : MVal → Store → Prop} {H : Hp} {t : Th} {st : MSt} {m k y z : Addr} {g a s : Int} {as : List Addr} {cs : List (List Int)} {c M ps : List Int} {h : Hd} {mv : List (Int × Int)} {n : Int} {w : MVal} {RR : List Nat} {r : Nat}

theorem c_settle_things (hn : X.n < 59) {dx : Addr} {nf : Nat} (hz : nf ≤ 900) (hH : σ H.a = some ⟨1, .inst .heap dx nf H.F⟩) (hth : σ H.th = some ⟨2, .list (H.ts.map Th.rv)⟩) (hT : ∀ t ∈ H.ts, Ins σ t) (nd : (H.ts.map Th.ref).Nodup) (num : H.ts.length ≤ 60)
    (hm : σ m = some ⟨47, .dI (mv.map mvv)⟩) (ad : ((H.ts.filter (stayB g mv)).map fun t => (settleF g mv t).addr).Nodup)
    (q : ∀ σ' L A mo, Ext [1, 10] σ σ' → σ' H.a = some ⟨1, .inst .heap dx nf { H with th := L, at_ := A, top := topOf ((H.ts.filter (stayB g mv)).map (settleF g mv)), moved := mo }.F⟩ →
      σ' L = some ⟨2, .list (((H.ts.filter (stayB g mv)).map (settleF g mv)).map Th.rv)⟩ → σ' A = some ⟨3, .dI (((H.ts.filter (stayB g mv)).map (settleF g mv)).map fun t => (t.addr, t.rv))⟩ → (∀ t ∈ (H.ts.filter (stayB g mv)).map (settleF g mv), Ins σ' t) → Q .none σ') :
    OpC W X l σ (.ref (W.fn 69)) [.ref H.a, .ref m, .int g] Q := by
  refine def_call0 (x := "settle_things") 69 (by decide) ["heap", "moves", "gen"] (nle hn) rfl (by walk_at "b3") rfl (fun _ => rfl) rfl rfl rfl ?_
  intro A₁ h₀ L₁ outer base A₀ cdv
  try (refine ex_let2 ?_; intro lX QX)
  refine ex_assign (ev_list 2 (eva_nil ⟨Nat.le_of_ble_eq_true rfl, fun L hL => ?_⟩))
  have nL : L ≠ H.th := (ne_new hth hL).symm
  refine ex_for_l (ev_pe (by walk_at "pe") ⟨H.th, H.ts.map Th.rv, fun i => [("heap", .ref H.a), ("moves", .ref m), ("gen", .int g), ("living", .ref L)], fun i σ₂ => Ext [] σ σ₂ ∧ σ₂ L = some ⟨2, .list (((H.ts.take i).filter (stayB g mv)).map Th.rv)⟩,
    rfl, ⟨rfl, rfl, rfl, rfl, trivial⟩, ⟨.new hL, Store.set_self _ _ _⟩, fun i σ₂ h => ⟨2, h.1.get hth⟩, fun i u σ₂ hu => And.elim fun E hL2 => ?_, fun σ₂ => And.elim fun E hL2 => ?_⟩)
  · try (refine ex_let2 ?_; intro lX QX)
    obtain ⟨t, ht, rfl⟩ := map_get hu
    obtain ⟨dt, nt, hzt, hTt⟩ := hT t (List.mem_of_getElem? ht)
    have l1 := filter_len (stayB g mv) H.ts i
    refine ex_ifb (pt_val ⟨ev_c3 63 (by decide) (by walk_at "pe") (by walk_at "pe") (by walk_at "pe") (c_stays (nlt hn) ⟨dt, nt, E.get hTt⟩ (E.get hm) ⟨rfl, rfl⟩)⟩) (fun hc => ?_) fun hc => ?_
    · try (refine ex_let2 ?_; intro lX QX)
      have hc : stayB g mv t = true := hc
      refine ex_append (by walk_at "pe") hL2 (by first | exact lenm (by omega) | (rw [List.length_map]; omega)) (ev_pe (by walk_at "pe") ⟨hL2, ?_⟩)
      refine ex_nil (ex_nil ⟨⟨rfl, rfl, rfl, rfl, trivial⟩, E.setNew hL, ?_⟩)
      rw [Store.set_self, filter_next ht, if_pos hc, List.map_append]; rfl
    · try (refine ex_let2 ?_; intro lX QX)
      have hc : stayB g mv t = false := hc
      refine ex_nil (ex_nil ⟨⟨rfl, rfl, rfl, rfl, trivial⟩, E, ?_⟩)
      rw [filter_next ht, if_neg (by rw [hc]; decide), List.append_nil]; exact hL2
  · rw [List.length_map, take_all] at hL2
    generalize hlv : H.ts.filter (stayB g mv) = lv at *
    have hlvT : ∀ t ∈ lv, t ∈ H.ts ∧ stayB g mv t = true := fun t ht => List.mem_filter.mp (hlv ▸ ht)
    have hlvl : lv.length ≤ 60 := by rw [← hlv]; exact Nat.le_trans (List.length_filter_le _ _) num
    have hlnd : (lv.map Th.ref).Nodup := by
      rw [← hlv]
      exact List.Nodup.sublist (List.Sublist.map _ List.filter_sublist) nd
    have hH2 := E.get hH
    refine ex_attr (ev_pe (by walk_at "pe") ⟨H.a, 1, .heap, dx, nf, _, by walk_at "pe", hH2, rfl, hz, by decide, ?_⟩)
    have e1 : upd H.F "things" (.ref L) = { H with th := L }.F := (upd_lc rfl).trans rfl
    rw [e1]
    have E2 : Ext [1, 10] σ (σ₂.set H.a ⟨1, .inst .heap dx nf { H with th := L }.F⟩) := (E.mono (by first | decide | simp)).trans (.set hH2 (by decide))
    have hL3 : (σ₂.set H.a ⟨1, .inst .heap dx nf { H with th := L }.F⟩) L = some ⟨2, .list (lv.map Th.rv)⟩ := Store.get_role hL2 hH2 (by decide)
    have hH3 : (σ₂.set H.a ⟨1, .inst .heap dx nf { H with th := L }.F⟩) H.a = some ⟨1, .inst .heap dx nf { H with th := L }.F⟩ := Store.set_self _ _ _
    have hT3 : ∀ t ∈ lv, Ins (σ₂.set H.a ⟨1, .inst .heap dx nf { H with th := L }.F⟩) t := fun t ht => by
      obtain ⟨dt, nt, hzt, hTt⟩ := hT t (hlvT t ht).1
      exact ⟨dt, nt, hzt, Store.get_role (E.get hTt) hH2 (by decide)⟩
    generalize σ₂.set H.a ⟨1, .inst .heap dx nf { H with th := L }.F⟩ = σ3 at E2 hL3 hH3 hT3
    refine ex_attr (ev_dict0I 3 fun A hA => ⟨H.a, 1, .heap, dx, nf, _, by walk_at "pe", Store.get_new hH3 hA, rfl, hz, by decide, ?_⟩)
    have e2 : upd { H with th := L }.F "at" (.ref A) = { H with th := L, at_ := A }.F := (upd_lc rfl).trans rfl
    rw [e2]
    have hH4 : (σ3.set A ⟨3, .dI []⟩) H.a = some ⟨1, .inst .heap dx nf { H with th := L }.F⟩ := Store.get_new hH3 hA
    have hH5 : ((σ3.set A ⟨3, .dI []⟩).set H.a ⟨1, .inst .heap dx nf { H with th := L, at_ := A }.F⟩) H.a = some ⟨1, .inst .heap dx nf { H with th := L, at_ := A }.F⟩ := Store.set_self _ _ _
    refine ex_attr (ev_pe (by walk_at "pe") ⟨H.a, 1, .heap, dx, nf, _, by walk_at "pe", hH5, rfl, hz, by decide, ?_⟩)
    have e3 : upd { H with th := L, at_ := A }.F "top" (.int 16) = { H with th := L, at_ := A, top := 16 }.F := (upd_lc rfl).trans rfl
    rw [e3]
    have hA5 : ((σ3.set A ⟨3, .dI []⟩).set H.a ⟨1, .inst .heap dx nf { H with th := L, at_ := A }.F⟩) A = some ⟨3, .dI []⟩ := Store.get_role (Store.set_self _ _ _) hH4 (by decide)
    have E3 : Ext [1] σ3 (((σ3.set A ⟨3, .dI []⟩).set H.a ⟨1, .inst .heap dx nf { H with th := L, at_ := A }.F⟩).set H.a ⟨1, .inst .heap dx nf { H with th := L, at_ := A, top := 16 }.F⟩) := (Ext.new hA).trans ((Ext.set hH4 (by decide)).trans (.set hH5 (by decide)))
    have hA6 := Store.get_role (r' := 1) (z := .inst .heap dx nf { H with th := L, at_ := A, top := 16 }.F) hA5 hH5 (by decide)
    have hH6 : (((σ3.set A ⟨3, .dI []⟩).set H.a ⟨1, .inst .heap dx nf { H with th := L, at_ := A }.F⟩).set H.a ⟨1, .inst .heap dx nf { H with th := L, at_ := A, top := 16 }.F⟩) H.a = some ⟨1, .inst .heap dx nf { H with th := L, at_ := A, top := 16 }.F⟩ := Store.set_self _ _ _
    generalize (((σ3.set A ⟨3, .dI []⟩).set H.a ⟨1, .inst .heap dx nf { H with th := L, at_ := A }.F⟩).set H.a ⟨1, .inst .heap dx nf { H with th := L, at_ := A, top := 16 }.F⟩) = σ4 at E3 hA6 hH6
    have hT4 : ∀ t ∈ lv, Ins σ4 t := fun t ht => (hT3 t ht).ext E3 (by decide)
    have hL4 := E3.get hL3
    have hm4 := (E2.trans (E3.mono (by first | decide | simp))).get hm
    have nA : σ A = none := E2.live hA
    refine ex_for_l (ev_pe (by walk_at "pe") ⟨L, lv.map Th.rv, fun i => [("heap", .ref H.a), ("moves", .ref m), ("gen", .int g), ("living", .ref L)],
      fun i σ₅ => Ext [1, 3, 10] σ4 σ₅ ∧ Ext [1, 10] σ σ₅ ∧ (∃ mo, σ₅ H.a = some ⟨1, .inst .heap dx nf { H with th := L, at_ := A, top := topOf ((lv.take i).map (settleF g mv)), moved := mo }.F⟩) ∧
        σ₅ A = some ⟨3, .dI (((lv.take i).map (settleF g mv)).map fun t => (t.addr, t.rv))⟩ ∧ (∀ t ∈ mapTo (settleF g mv) i lv, Ins σ₅ t),
      rfl, ⟨rfl, rfl, rfl, rfl, trivial⟩, ⟨.refl, E2.trans (E3.mono (by first | decide | simp)), ⟨H.moved, hH6⟩, hA6, by rw [mapTo_zero]; exact hT4⟩, fun i σ₅ h => ⟨2, h.1.get hL4⟩, fun i u σ₅ hu => And.elim fun E5 => And.elim fun E5' => And.elim fun hmo => And.elim fun hA7 hT7 => Exists.elim hmo fun mo hH7 => ?_, fun σ₅ => And.elim fun E5 => And.elim fun E5' => And.elim fun hmo => And.elim fun hA7 hT7 => Exists.elim hmo fun mo hH7 => ?_⟩)
    · try (refine ex_let2 ?_; intro lX QX)
      obtain ⟨t, ht, rfl⟩ := map_get hu
      obtain ⟨htm, hst⟩ := hlvT t (List.mem_of_getElem? ht)
      obtain ⟨dt, nt, hzt, hTt⟩ := hT7 t (List.mem_of_getElem? (mapTo_get ht))
      refine ex_expr (ev_c4 68 (by decide) (by walk_at "pe") (by walk_at "pe") (by walk_at "pe") (by walk_at "pe") (c_settle_thing (H := { H with th := L, at_ := A, top := topOf ((lv.take i).map (settleF g mv)), moved := mo }) (nlt hn) hz hH7 hzt hTt (E5.get hm4) hst fun σ6 mo' E6 hH8 hT8 k6 => ?_))
      have hA8 := E6.get hA7
      have hTr : (settleF g mv t).ref = t.ref := settle_ref
      have hkey : (settleF g mv t).addr ∉ (((lv.take i).map (settleF g mv)).map fun t => (t.addr, t.rv)).map (·.1) := by
        rw [List.map_map, List.map_map]
        intro hk
        try (refine ex_let2 ?_; intro lX QX)
        obtain ⟨u, hu, e⟩ := List.mem_map.mp hk
        obtain ⟨j, hj⟩ := List.getElem?_of_mem hu
        rw [List.getElem?_take] at hj
        split at hj
        · try (refine ex_let2 ?_; intro lX QX)
          rename_i hji
          have e' : (fun t => (settleF g mv t).addr) u = (fun t => (settleF g mv t).addr) t := e
          have := nodup_get ad hj ht e'
          omega
        · cases hj
      refine ex_sub_dI (ev_pe (by walk_at "pe") ⟨A, 3, _, (settleF g mv t).addr, by walk_at "pe", by walk_at "pe", hA8, by simp only [List.length_map, List.length_take]; omega, ?_⟩)
      rw [dput_new hkey]
      have hH9 : (σ6.set A ⟨3, .dI ((((lv.take i).map (settleF g mv)).map fun t => (t.addr, t.rv)) ++ [((settleF g mv t).addr, t.rv)])⟩) H.a = some ⟨1, .inst .heap dx nf { H with th := L, at_ := A, top := topOf ((lv.take i).map (settleF g mv)), moved := mo' }.F⟩ := Store.get_role hH8 hA8 (by decide)
      have hT9 : (σ6.set A ⟨3, .dI ((((lv.take i).map (settleF g mv)).map fun t => (t.addr, t.rv)) ++ [((settleF g mv t).addr, t.rv)])⟩) t.ref = some ⟨10, .inst .thing dt nt (settleF g mv t).F⟩ := Store.get_role hT8 hA8 (by decide)
      refine ex_attr (ev_pe (by walk_at "pe") ⟨H.a, 1, .heap, dx, nf, _, by walk_at "pe", hH9, rfl, hz, by decide, ?_⟩)
      have nx : topOf ((lv.take (i + 1)).map (settleF g mv)) = (settleF g mv t).addr + (settleF g mv t).size := by
        unfold topOf; rw [take_next ht, List.map_append, List.foldl_append]; rfl
      have e4 : upd { H with th := L, at_ := A, top := topOf ((lv.take i).map (settleF g mv)), moved := mo' }.F "top" (.int ((settleF g mv t).addr + (settleF g mv t).size)) = { H with th := L, at_ := A, top := topOf ((lv.take (i + 1)).map (settleF g mv)), moved := mo' }.F := by
        rw [nx]; exact (upd_lc rfl).trans rfl
      rw [e4]
      have E7 : Ext [3] σ6 (σ6.set A ⟨3, .dI ((((lv.take i).map (settleF g mv)).map fun t => (t.addr, t.rv)) ++ [((settleF g mv t).addr, t.rv)])⟩) := .set hA8 (by decide)
      refine ex_nil ⟨⟨rfl, rfl, rfl, rfl, trivial⟩, E5.trans ((E6.mono (by first | decide | simp)).trans ((E7.mono (by first | decide | simp)).trans (.set hH9 (by decide)))), ((E5'.trans (E6.mono (by first | decide | simp))).setNew nA).trans (.set hH9 (by decide)), ⟨mo', Store.set_self _ _ _⟩, ?_, fun u hu => ?_⟩
      · try (refine ex_let2 ?_; intro lX QX)
        refine Store.get_role ?_ hH9 (by decide)
        rw [Store.set_self, take_next ht, List.map_append, List.map_append]
        show some (⟨3, .dI (_ ++ [((settleF g mv t).addr, t.rv)])⟩ : MObj) = some ⟨3, .dI (_ ++ [((settleF g mv t).addr, (settleF g mv t).rv)])⟩
        rw [show (settleF g mv t).rv = t.rv from congrArg MVal.ref hTr]
      · rw [mapTo_next ht] at hu
        rcases mem_set (mapTo_get (f := settleF g mv) ht) hu with rfl | ⟨j, hj, hju⟩
        · exact ⟨dt, nt, hzt, Store.get_role (by rw [hTr]; exact hT9) hH9 (by decide)⟩
        · try (refine ex_let2 ?_; intro lX QX)
          obtain ⟨du, nu, hzu, hU⟩ := hT7 u (List.mem_of_getElem? hju)
          have hne : u.ref ≠ t.ref := by
            intro e
            try (refine ex_let2 ?_; intro lX QX)
            have hmr : (mapTo (settleF g mv) i lv).map Th.ref = lv.map Th.ref := by
              unfold mapTo
              rw [List.map_append, List.map_map]
              have : (Th.ref ∘ settleF g mv) = Th.ref := funext fun x => settle_ref
              rw [this, ← List.map_append, List.take_append_drop]
            have := nodup_get (by rw [hmr]; exact hlnd) hju (mapTo_get (f := settleF g mv) ht) e
            exact hj this
          have hU6 := k6 u.ref _ hne (ne_role hU hH7) hU
          exact ⟨du, nu, hzu, Store.get_role (Store.get_role hU6 hA8 (by decide)) hH9 (by decide)⟩
    · rw [List.length_map, take_all] at hH7 hA7
      rw [List.length_map, mapTo_all (Nat.le_refl _)] at hT7
      have hL5 : σ₅ L = some ⟨2, .list ((lv.map (settleF g mv)).map Th.rv)⟩ := by
        have : (lv.map (settleF g mv)).map Th.rv = lv.map Th.rv := by
          rw [List.map_map]
          exact List.map_congr_left fun x _ => congrArg MVal.ref settle_ref
        rw [this]; exact E5.get hL4
      exact ex_nil (q σ₅ L A mo E5' hH7 hL5 hA7 hT7)
end


section
variable {W : Wd} {X : Cx} {l : Lcl} {σ : Store} {Q : MVal → Store → Prop} {H : Hp} {t : Th} {st : MSt} {m k y z : Addr} {g a s : Int} {as : List Addr} {cs : List (List Int)} {c M ps : List Int} {h : Hd} {mv : List (Int × Int)} {n : Int} {w : MVal} {RR : List Nat} {r : Nat}

/-- the call of a class's own __init__ -/
theorem init_call {args : List MVal} (C : Cls) (names : List Str) (hn : X.n < 60) (hlen : args.length = names.length)
    (hbind : ∀ (rargs : List Value) doc pm an cdv ct, rargs.length = names.length → bindArgs (fnOf "__init__" C.qual (fArgs C.init) (fBody C.init) (fScope C.init) .none .none doc pm an cdv ct) ⟨rargs, []⟩ = pure (names.zip rargs))
    (hnk : (names.all fun y => (fScope C.init).names.lookup y == some .local || (fScope C.init).names.lookup y == some .cell) = true)
    (hnc : ∀ n, cellsFrom n (fScope C.init).names [] = [])
    (hco : (fScope C.init).isCoroutine = false) (hgen : (fScope C.init).isGenerator = false) (hk : (fScope C.init).kind = .function)
    (h : ∀ A h₀ L outer base A₀ cdv,
      Ex W (mkCx C.qual (fScope C.init) (W.ini C) (X.n + 1) A h₀ L outer base A₀ cdv) (mbindL (envX C.qual (fScope C.init) L (W.ini C) cdv (cellsFrom (L + 1) (fScope C.init).names [])).kindOf (names.zip args) fun _ => none) σ (fBody C.init) fun fl _ σ'' => Q (retOf fl) σ'') :
    OpF W X l σ (.ref (W.ini C)) args Q := fun ok =>
  fn_code (ok.k.cl C).at_ hn hbind hlen hnk (by rw [hnc]; exact List.nodup_nil) (fun A h₀ L outer base A₀ cdv σ' C => by
    have : σ' = σ := funext fun a => C.off a (by rw [hnc]; exact List.not_mem_nil)
    rw [this]; exact h A h₀ L outer base A₀ cdv) hco hgen hk ok

theorem c_Words {u v : MVal} (hn : X.n < 58) (q : ∀ σ' x, Ext [] σ σ' → Q (.ref x) σ') : OpC W X l σ (.ref (W.cls .words)) [u, v] Q := by
  refine cls_call 60 hn fun X' x dx hX hx => ?_
  have hn' : X'.n = X.n + 1 := by rw [hX]
  refine init_call .words ["self", "heap", "moves"] (by omega) rfl (by walk_at "b3") rfl (fun _ => rfl) rfl rfl rfl ?_
  intro A h₀ L outer base A₀ cdv
  refine ex_let3 ?_
  intro Xx ll Qq
  have h0 : (σ.set x ⟨60, .inst .words dx 0 fun _ => none⟩) x = some ⟨60, .inst .words dx 0 fun _ => none⟩ := Store.set_self _ _ _
  refine ex_attr_new (ev_pe (pe_loc rfl) ⟨x, 60, .words, dx, 0, _, by walk_at "pe", h0, by decide, by decide, ?_⟩)
  refine ex_attr_new (ev_pe (pe_loc rfl) ⟨x, 60, .words, dx, 1, _, by walk_at "pe", Store.set_self _ _ _, by decide, by decide, ?_⟩)
  refine ex_nil ⟨rfl, q _ x ?_⟩
  exact ((Ext.new hx).setNew hx).setNew hx

theorem nodup_all {as bs : List Addr} (h1 : as.Nodup) (h2 : bs.Nodup) (h : ∀ a ∈ as, ∀ b ∈ bs, a ≠ b) : (as ++ bs).Nodup := List.nodup_append.mpr ⟨h1, h2, h⟩
theorem fam_mem {R : List Nat} {as : List Addr} {cs : List (List Int)} (h : Fam R σ as cs) {a : Addr} (ha : a ∈ as) : ∃ (r : Nat) (c : List Int), r ∈ R ∧ σ a = some ⟨r, .list (c.map sv)⟩ := by
  obtain ⟨i, hi⟩ := List.getElem?_of_mem ha
  obtain ⟨c, r, _, hr, e⟩ := h.get hi
  exact ⟨r, c, hr, e⟩
theorem All2.split {α β : Type} {R : α → β → Prop} : ∀ {as as' : List α} {bs bs' : List β}, All2 R (as ++ as') (bs ++ bs') → as.length = bs.length → All2 R as bs ∧ All2 R as' bs'
  | [], _, [], _, h, _ => ⟨trivial, h⟩
  | a :: as, _, b :: bs, _, ⟨h1, h2⟩, e => let ⟨x, y⟩ := All2.split h2 (by simpa using e); ⟨⟨h1, x⟩, y⟩
  | [], _, _ :: _, _, _, e => by simp at e
  | _ :: _, _, [], _, _, e => by simp at e
theorem all2_map {α β γ δ : Type} {R : γ → δ → Prop} {f : α → γ} {g : β → δ} : ∀ {as : List α} {bs : List β}, All2 R (as.map f) (bs.map g) → All2 (fun a b => R (f a) (g b)) as bs
  | [], [], _ => trivial
  | _ :: _, _ :: _, ⟨h, t⟩ => ⟨h, all2_map t⟩
  | [], _ :: _, h => h.elim
  | _ :: _, [], h => h.elim
theorem all2_of_map {α γ δ : Type} {R : γ → δ → Prop} {f : α → γ} {g : α → δ} : ∀ {as : List α}, (∀ a ∈ as, R (f a) (g a)) → All2 R (as.map f) (as.map g)
  | [], _ => trivial
  | a :: r, h => ⟨h a (.head _), all2_of_map fun b hb => h b (.tail _ hb)⟩
theorem all2_to {α γ δ : Type} {R : γ → δ → Prop} {f : α → γ} {g : α → δ} : ∀ {as : List α}, All2 R (as.map f) (as.map g) → ∀ a ∈ as, R (f a) (g a)
  | x :: r, ⟨h, t⟩, a, ha => by
    rcases List.mem_cons.mp ha with rfl | ha
    · exact h
    · exact all2_to t a ha

noncomputable def settleS (g : Int) (mv : List (Int × Int)) (t : Th) : Th := { settleF g mv t with slots := t.slots.map (fwd mv) }
/-- the roots' lists -/
structure Roots (σ : Store) (y : Addr) (as : List Addr) (cs : List (List Int)) : Prop where
  y : σ y = some ⟨12, .list (as.map .ref)⟩
  f : Fam [13] σ as cs
  nd : as.Nodup
  n1 : as.length ≤ 10
  n2 : ∀ c ∈ cs, c.length ≤ 10
theorem Roots.ext {S : List Nat} {σ σ' : Store} (h : Roots σ y as cs) (E : Ext S σ σ') (h1 : 12 ∉ S := by decide) (h2 : 13 ∉ S := by decide) : Roots σ' y as cs :=
  ⟨E.keep _ _ h.y h1, h.f.ext E (by simp [h2]), h.nd, h.n1, h.n2⟩

theorem c_move_all (hn : X.n < 56) (R : HRep σ H) (num : H.ts.length ≤ 60) (nsl : ∀ t ∈ H.ts, t.slots.length ≤ 2) (nfs : H.fs.length ≤ 2000) (nrs : H.rs.length ≤ 2000) (hy : Roots σ y as cs) (hm : σ m = some ⟨47, .dI (mv.map mvv)⟩) (ad : ((H.ts.filter (stayB g mv)).map fun t => (settleF g mv t).addr).Nodup)
    (q : ∀ σ' L A K mo, Ext [1, 5, 6, 10, 11, 13, 52] σ σ' → HRep σ' { H with th := L, at_ := A, fi := K, ts := (H.ts.filter (stayB g mv)).map (settleS g mv), fs := H.fs.map (fwd mv), rs := H.rs.map (fwd mv), top := topOf ((H.ts.filter (stayB g mv)).map (settleF g mv)), moved := mo } →
      Roots σ' y as (cs.map (·.map (fwd mv))) → Q .none σ') :
    OpC W X l σ (.ref (W.fn 70)) [.ref H.a, .ref y, .ref m, .int g] Q := by
  refine def_call0 (x := "move_all") 70 (by decide) ["heap", "lists", "moves", "gen"] (nle hn) rfl (by walk_at "b4") rfl (fun _ => rfl) rfl rfl rfl ?_
  intro A₁ h₀ L₁ outer base A₀ cdv
  try (refine ex_let2 ?_; intro lX QX)
  refine ex_assign (ev_new .words rfl (eva_cons (ev_pe (by walk_at "pe") (eva_cons (ev_pe (by walk_at "pe") (eva_nil (c_Words (nlt hn) fun σ1 wd E1 => ?_)))))))
  refine ex_assign (ev_list 52 (eva_nil ⟨Nat.le_of_ble_eq_true rfl, fun D hD => ?_⟩))
  have nD : σ D = none := E1.live hD
  have R1 := R.ext E1 (by decide)
  have hlen := fam_bound hy.f
  have n1 := hy.n1
  -- the roots
  refine ex_for_l (ev_pe (by walk_at "pe") ⟨y, as.map .ref, fun i => [("heap", .ref H.a), ("lists", .ref y), ("moves", .ref m), ("gen", .int g), ("words", .ref wd), ("every", .ref D)], fun i σ₂ => Ext [] σ1 σ₂ ∧ σ₂ D = some ⟨52, .list ((as.take i).map .ref)⟩,
    rfl, ⟨rfl, rfl, rfl, rfl, rfl, rfl, trivial⟩, ⟨.new hD, Store.set_self _ _ _⟩, fun i σ₂ h => ⟨12, (E1.trans h.1).get hy.y⟩, fun i u σ₂ hu => And.elim fun E2 hD2 => ?_, fun σ₂ => And.elim fun E2 hD2 => ?_⟩)
  · try (refine ex_let2 ?_; intro lX QX)
    obtain ⟨a, ha, rfl⟩ := map_get hu
    refine ex_append (by walk_at "pe") hD2 (by rw [List.length_map, List.length_take]; omega) (ev_pe (by walk_at "pe") ⟨hD2, ?_⟩)
    refine ex_nil ⟨⟨rfl, rfl, rfl, rfl, rfl, rfl, trivial⟩, E2.setNew hD, ?_⟩
    rw [Store.set_self, take_next ha, List.map_append]; rfl
  rw [List.length_map, take_all] at hD2
  -- what waits
  have R2 := R1.ext E2 (by decide)
  obtain ⟨dx, nf, hz, hH⟩ := R2.hp
  refine ex_append (by walk_at "pe") hD2 (by first | exact lenm (by omega) | (rw [List.length_map]; omega)) (ev_pe (by walk_at "pe") ⟨hD2, ?_⟩)
  have E3 : Ext [] σ1 (σ₂.set D ⟨52, .list (as.map .ref ++ [.ref H.re])⟩) := E2.setNew hD
  have hD3 : (σ₂.set D ⟨52, .list (as.map .ref ++ [.ref H.re])⟩) D = some ⟨52, .list ((as ++ [H.re]).map .ref)⟩ := by rw [Store.set_self, List.map_append]; rfl
  generalize σ₂.set D ⟨52, .list (as.map .ref ++ [.ref H.re])⟩ = σ3 at E3 hD3
  -- the slots
  have R3 := R1.ext E3 (by decide)
  refine ex_for_l (ev_pe (by obtain ⟨dx, nf, hz, hH⟩ := R3.hp; walk_at "pe") ⟨H.th, H.ts.map Th.rv, fun i => [("heap", .ref H.a), ("lists", .ref y), ("moves", .ref m), ("gen", .int g), ("words", .ref wd), ("every", .ref D)],
    fun i σ₄ => Ext [] σ1 σ₄ ∧ σ₄ D = some ⟨52, .list ((as ++ [H.re] ++ ((H.ts.take i).filter (stayB g mv)).map Th.sl).map .ref)⟩,
    rfl, ⟨rfl, rfl, rfl, rfl, rfl, rfl, trivial⟩, ⟨E3, by simpa using hD3⟩, fun i σ₄ h => ⟨2, h.1.get R1.th⟩, fun i u σ₄ hu => And.elim fun E4 hD4 => ?_, fun σ₄ => And.elim fun E4 hD4 => ?_⟩)
  · try (refine ex_let2 ?_; intro lX QX)
    obtain ⟨t, ht, rfl⟩ := map_get hu
    obtain ⟨⟨dt, nt, hzt, hT⟩, hS⟩ := (R1.ext E4 (by decide)).ts t (List.mem_of_getElem? ht)
    have l1 := filter_len (stayB g mv) H.ts i
    refine ex_ifb (pt_val ⟨ev_c3 63 (by decide) (by walk_at "pe") (by walk_at "pe") (by walk_at "pe") (c_stays (nlt hn) ⟨dt, nt, hT⟩ ((E1.trans E4).get hm) ⟨rfl, rfl⟩)⟩) (fun hc => ?_) fun hc => ?_
    · try (refine ex_let2 ?_; intro lX QX)
      have hc : stayB g mv t = true := hc
      refine ex_append (by walk_at "pe") hD4 (by simp only [List.length_map, List.length_append, List.length_singleton]; omega) (ev_pe (by walk_at "pe") ⟨hD4, ?_⟩)
      refine ex_nil (ex_nil ⟨⟨rfl, rfl, rfl, rfl, rfl, rfl, trivial⟩, E4.setNew hD, ?_⟩)
      rw [Store.set_self, filter_next ht, if_pos hc]
      simp only [List.map_append, List.append_assoc, List.map_cons, List.map_nil]
    · try (refine ex_let2 ?_; intro lX QX)
      have hc : stayB g mv t = false := hc
      refine ex_nil (ex_nil ⟨⟨rfl, rfl, rfl, rfl, rfl, rfl, trivial⟩, E4, ?_⟩)
      rw [filter_next ht, if_neg (by rw [hc]; decide), List.append_nil]; exact hD4
  rw [List.length_map, take_all] at hD4
  generalize hlv : H.ts.filter (stayB g mv) = lv at *
  have hlvT : ∀ t ∈ lv, t ∈ H.ts := fun t ht => (List.mem_filter.mp (hlv ▸ ht)).1
  have hlvl : lv.length ≤ 60 := by rw [← hlv]; exact Nat.le_trans (List.length_filter_le _ _) num
  have E14 : Ext [] σ σ₄ := E1.trans E4
  have R4 := R.ext E14 (by decide)
  have hy4 := hy.ext E14
  have hm4 := E14.get hm
  have F4 : Fam [6, 11, 13] σ₄ (as ++ [H.re] ++ lv.map Th.sl) (cs ++ [H.rs] ++ lv.map Th.slots) := by
    refine All2.append (All2.append (All2.mono (fun a c ⟨r, hr, e⟩ => ⟨r, ?_, e⟩) hy4.f) ⟨⟨6, by decide, R4.re⟩, trivial⟩) (all2_of_map fun t ht => ⟨11, by decide, (R4.ts t (hlvT t ht)).2⟩)
    simp at hr; subst hr; decide
  have hsnd : (lv.map Th.sl).Nodup := by
    rw [← hlv]
    exact List.Nodup.sublist (List.Sublist.map _ List.filter_sublist) R.nd.2
  have hrnd : (lv.map Th.ref).Nodup := by
    rw [← hlv]
    exact List.Nodup.sublist (List.Sublist.map _ List.filter_sublist) R.nd.1
  have ndE : (as ++ [H.re] ++ lv.map Th.sl).Nodup := by
    refine nodup_all (nodup_all hy.nd (by simp) fun a ha b hb => ?_) hsnd fun a ha b hb => ?_
    · simp at hb; subst hb
      obtain ⟨r, c, hr, e⟩ := fam_mem hy4.f ha
      simp at hr; subst hr
      exact ne_role e R4.re
    · try (refine ex_let2 ?_; intro lX QX)
      obtain ⟨t, ht, rfl⟩ := List.mem_map.mp hb
      have hS := (R4.ts t (hlvT t ht)).2
      rcases List.mem_append.mp ha with ha | ha
      · try (refine ex_let2 ?_; intro lX QX)
        obtain ⟨r, c, hr, e⟩ := fam_mem hy4.f ha
        simp at hr; subst hr
        exact ne_role e hS
      · simp at ha; subst ha; exact ne_role R4.re hS
  have hbz : ∀ c ∈ cs ++ [H.rs] ++ lv.map Th.slots, c.length ≤ 10000 := fun c hc => by
    rcases List.mem_append.mp hc with hc | hc
    · try (refine ex_let2 ?_; intro lX QX)
      rcases List.mem_append.mp hc with hc | hc
      · try (refine ex_let2 ?_; intro lX QX)
        have := hy.n2 c hc; omega
      · simp at hc; subst hc; omega
    · try (refine ex_let2 ?_; intro lX QX)
      obtain ⟨t, ht, rfl⟩ := List.mem_map.mp hc
      have := nsl t (hlvT t ht); omega
  refine ex_expr (ev_def 66 (by decide) (eva_cons (ev_pe (by walk_at "pe") (eva_cons (ev_c3 65 (by decide) (by walk_at "pe") (by walk_at "pe") (pe_loc rfl) (c_new_lists (nlt hn) hD4 F4 (by simp only [List.length_append, List.length_map, List.length_singleton]; omega) hbz hm4 fun σ5 D5 ds E5 hD5 hD5' F5 => ?_))))))
  refine eva_nil (c_put_lists (nlt hn) (E5.get hD4) (F4.ext E5 (by decide)) ndE (by simp only [List.length_append, List.length_map, List.length_singleton]; omega) hbz hD5' F5 fun σ6 E6 F6 => ?_)
  -- the finals
  have E16 : Ext [6, 11, 13] σ σ6 := (E14.mono (by first | decide | simp)).trans ((E5.mono (by first | decide | simp)).trans E6)
  rw [List.map_append, List.map_append] at F6
  obtain ⟨F6a, F6c⟩ := All2.split F6 (by simp [hlen])
  obtain ⟨F6a, F6b⟩ := All2.split F6a (by simp [hlen])
  obtain ⟨⟨r6, hr6, hre6⟩, _⟩ := F6b
  have hre6' : σ6 H.re = some ⟨6, .list ((H.rs.map (fwd mv)).map sv)⟩ := by
    obtain ⟨o', e', hro⟩ := (E14.trans E5 |>.mono (S' := [6, 11, 13]) (by first | decide | simp) |>.trans E6).role _ _ R.re
    rw [hre6] at e'; cases e'
    have : r6 = 6 := hro
    subst this; exact hre6
  have hsl6 : ∀ t ∈ lv, σ6 t.sl = some ⟨11, .list ((t.slots.map (fwd mv)).map sv)⟩ := fun t ht => by
    rw [List.map_map] at F6c
    obtain ⟨r', hr', e⟩ := all2_to F6c t ht
    obtain ⟨o', e', hro⟩ := E16.role _ _ (R.ts t (hlvT t ht)).2
    rw [e] at e'; cases e'
    have : r' = 11 := hro
    subst this; exact e
  have hro6 : Roots σ6 y as (cs.map (·.map (fwd mv))) := by
    refine ⟨E16.get hy.y, ?_, hy.nd, hy.n1, fun c hc => ?_⟩
    · try (refine ex_let2 ?_; intro lX QX)
      have : ∀ {as : List Addr} {cs cs' : List (List Int)}, Fam [13] σ as cs → Fam [6, 11, 13] σ6 as cs' → Fam [13] σ6 as cs' := by
        intro as
        try (refine ex_let2 ?_; intro lX QX)
        induction as with
        | nil => intro cs cs' h1 h2; cases cs' with | nil => trivial | cons _ _ => exact h2.elim
        | cons a as ih =>
          intro cs cs' h1 h2
          try (refine ex_let2 ?_; intro lX QX)
          cases cs with
          | nil => exact h1.elim
          | cons c cs =>
            cases cs' with
            | nil => exact h2.elim
            | cons c' cs' =>
              obtain ⟨⟨r1, hr1, e1⟩, t1⟩ := h1
              obtain ⟨⟨r2, hr2, e2⟩, t2⟩ := h2
              refine ⟨⟨13, by decide, ?_⟩, ih t1 t2⟩
              obtain ⟨o', e', hro⟩ := E16.role _ _ e1
              rw [e2] at e'; cases e'
              have h13 : r1 = 13 := by simpa using hr1
              have : r2 = r1 := hro
              rw [h13] at this; subst this; exact e2
      exact this hy.f F6a
    · obtain ⟨c', hc', rfl⟩ := List.mem_map.mp hc
      rw [List.length_map]; exact hy.n2 c' hc'
  have hm6 := E16.get hm
  obtain ⟨dx6, nf6, hz6, hH0⟩ := R.hp
  have hH6 := E16.get hH0
  have hfi6 := E16.get R.fi
  refine ex_attr (ev_c2 67 (by decide) (by walk_at "pe") (by walk_at "pe") (c_moved_addrs (nlt hn) hfi6 (by omega) hm6 fun σ7 K E7 hK hK' => ⟨H.a, 1, .heap, dx6, nf6, _, by walk_at "pe", E7.get hH6, rfl, hz6, by decide, ?_⟩))
  have e1 : upd H.F "finals" (.ref K) = { H with fi := K }.F := (upd_lc rfl).trans rfl
  rw [e1]
  have hH7 := E7.get hH6
  have hH8 : (σ7.set H.a ⟨1, .inst .heap dx6 nf6 { H with fi := K }.F⟩) H.a = some ⟨1, .inst .heap dx6 nf6 { H with fi := K }.F⟩ := Store.set_self _ _ _
  have E8 : Ext [1] σ6 (σ7.set H.a ⟨1, .inst .heap dx6 nf6 { H with fi := K }.F⟩) := (E7.mono (by first | decide | simp)).trans (.set hH7 (by decide))
  have hK8 := Store.get_role (r' := 1) (z := .inst .heap dx6 nf6 { H with fi := K }.F) hK' hH7 (by decide)
  generalize σ7.set H.a ⟨1, .inst .heap dx6 nf6 { H with fi := K }.F⟩ = σ8 at hH8 E8 hK8
  have E18 : Ext [1, 6, 11, 13] σ σ8 := (E16.mono (by first | decide | simp)).trans (E8.mono (by first | decide | simp))
  refine ex_expr (ev_c3 69 (by decide) (by walk_at "pe") (by walk_at "pe") (by walk_at "pe") (c_settle_things (H := { H with fi := K }) (nlt hn) hz6 hH8 (E18.get R.th) (fun t ht => (show Ins σ t from (R.ts t ht).1).ext E18 (by decide)) R.nd.1 num (E18.get hm) (by dsimp only; rw [hlv]; exact ad) fun σ9 L A mo E9 hH9 hL9 hA9 hT9 => ?_))
  refine ex_nil (q σ9 L A K mo ((E18.mono (by first | decide | simp)).trans (E9.mono (by first | decide | simp))) ?_ ?_)
  · dsimp only at hH9 hL9 hA9 hT9
    rw [hlv] at hH9 hL9 hA9 hT9
    have er : (lv.map (settleF g mv)).map Th.rv = (lv.map (settleS g mv)).map Th.rv := by rw [List.map_map, List.map_map]; rfl
    have ea : (lv.map (settleF g mv)).map (fun t => (t.addr, t.rv)) = (lv.map (settleS g mv)).map (fun t => (t.addr, t.rv)) := by rw [List.map_map, List.map_map]; rfl
    refine ⟨⟨dx6, nf6, hz6, hH9⟩, by rw [← er]; exact hL9, by rw [← ea]; exact hA9, E9.get (E18.get R.ca), E9.get hK8, E9.get (E8.get hre6'), fun t ht => ?_, ?_⟩
    · try (refine ex_let2 ?_; intro lX QX)
      obtain ⟨u, hu, rfl⟩ := List.mem_map.mp ht
      refine ⟨hT9 (settleF g mv u) (List.mem_map.mpr ⟨u, hu, rfl⟩), ?_⟩
      show σ9 (settleF g mv u).sl = _
      rw [settle_sl]
      exact E9.get (E8.get (hsl6 u hu))
    · have h1 : (lv.map (settleS g mv)).map Th.ref = lv.map Th.ref := by rw [List.map_map]; exact List.map_congr_left fun x _ => settle_ref (t := x)
      have h2 : (lv.map (settleS g mv)).map Th.sl = lv.map Th.sl := by rw [List.map_map]; exact List.map_congr_left fun x _ => settle_sl (t := x)
      dsimp only
      rw [h1, h2]; exact ⟨hrnd, hsnd⟩
  · exact (hro6.ext E8).ext E9
end


noncomputable def sizeOf' (n : Int) : Int := if 2 + n < 3 then 3 else 2 + n
noncomputable def newTh (x sl : Addr) (H : Hp) (kind : Int) (vals : List Int) : Th := ⟨x, sl, H.top, kind, 0, sizeOf' vals.length, H.made + 1, vals⟩
noncomputable def allocH (H : Hp) (t : Th) : Hp := { H with ts := H.ts ++ [t], made := H.made + 1, top := H.top + t.size, fresh := H.fresh + t.size }
noncomputable def H0 (a th at_ ca fi re : Addr) : Hp := { a, th, at_, ca, fi, re, ts := [], cs := [], fs := [], rs := [], top := 16, limit := 1000, fresh := 0, young := 251, moved := 0, made := 0 }

section
variable {W : Wd} {X : Cx} {l : Lcl} {σ : Store} {Q : MVal → Store → Prop} {H : Hp} {t : Th} {st : MSt} {m k y z : Addr} {g a s : Int} {as : List Addr} {cs : List (List Int)} {c M ps : List Int} {h : Hd} {mv : List (Int × Int)} {n : Int} {w : MVal} {RR : List Nat} {r : Nat}

theorem c_Thing {vals : List MVal} {ad kind : Int} (hn : X.n < 57) (hy : σ y = some ⟨r, .list vals⟩) (hz : vals.length ≤ 1000)
    (q : ∀ σ' x dx, Ext [] σ σ' → σ x = none → σ' x = some ⟨10, .inst .thing dx 6 (lc [("serial", .int 0), ("size", .int (sizeOf' vals.length)), ("gen", .int 0), ("slots", .ref y), ("kind", .int kind), ("addr", .int ad)])⟩ → Q (.ref x) σ') :
    OpC W X l σ (.ref (W.cls .thing)) [.int ad, .int kind, .ref y] Q := by
  refine cls_call 10 (by omega) fun X' x dx hX hx => ?_
  have hn' : X'.n = X.n + 1 := by rw [hX]
  refine init_call .thing ["self", "addr", "kind", "slots"] (by omega) rfl (by walk_at "b4") rfl (fun _ => rfl) rfl rfl rfl ?_
  intro A h₀ L outer base A₀ cdv
  refine ex_let3 ?_
  intro Xx ll Qq
  have h0 : (σ.set x ⟨10, .inst .thing dx 0 fun _ => none⟩) x = some ⟨10, .inst .thing dx 0 fun _ => none⟩ := Store.set_self _ _ _
  have E0 : Ext [] σ (σ.set x ⟨10, .inst .thing dx 0 fun _ => none⟩) := .new hx
  refine ex_attr_new (ev_pe (pe_loc rfl) ⟨x, 10, .thing, dx, 0, _, by walk_at "pe", h0, by decide, by decide, ?_⟩)
  refine ex_attr_new (ev_pe (pe_loc rfl) ⟨x, 10, .thing, dx, 1, _, by walk_at "pe", Store.set_self _ _ _, by decide, by decide, ?_⟩)
  refine ex_attr_new (ev_pe (pe_loc rfl) ⟨x, 10, .thing, dx, 2, _, by walk_at "pe", Store.set_self _ _ _, by decide, by decide, ?_⟩)
  refine ex_attr_new (ev_pe (by walk_at "pe") ⟨x, 10, .thing, dx, 3, _, by walk_at "pe", Store.set_self _ _ _, by decide, by decide, ?_⟩)
  have E1 : Ext [] σ ((((((σ.set x ⟨10, .inst .thing dx 0 fun _ => none⟩).set x ⟨10, .inst .thing dx (0 + 1) (upd (fun _ => none) "addr" (.int ad))⟩).set x ⟨10, .inst .thing dx (1 + 1) (upd (upd (fun _ => none) "addr" (.int ad)) "kind" (.int kind))⟩).set x ⟨10, .inst .thing dx (2 + 1) (upd (upd (upd (fun _ => none) "addr" (.int ad)) "kind" (.int kind)) "slots" (.ref y))⟩).set x
      ⟨10, .inst .thing dx (3 + 1) (upd (upd (upd (upd (fun _ => none) "addr" (.int ad)) "kind" (.int kind)) "slots" (.ref y)) "gen" (.int 0))⟩)) := (((E0.setNew hx).setNew hx).setNew hx).setNew hx
  have h1 : ((((((σ.set x ⟨10, .inst .thing dx 0 fun _ => none⟩).set x ⟨10, .inst .thing dx (0 + 1) (upd (fun _ => none) "addr" (.int ad))⟩).set x ⟨10, .inst .thing dx (1 + 1) (upd (upd (fun _ => none) "addr" (.int ad)) "kind" (.int kind))⟩).set x ⟨10, .inst .thing dx (2 + 1) (upd (upd (upd (fun _ => none) "addr" (.int ad)) "kind" (.int kind)) "slots" (.ref y))⟩).set x
      ⟨10, .inst .thing dx (3 + 1) (upd (upd (upd (upd (fun _ => none) "addr" (.int ad)) "kind" (.int kind)) "slots" (.ref y)) "gen" (.int 0))⟩)) x = some ⟨10, .inst .thing dx 4 (lc [("gen", .int 0), ("slots", .ref y), ("kind", .int kind), ("addr", .int ad)])⟩ := Store.set_self _ _ _
  generalize ((((((σ.set x ⟨10, .inst .thing dx 0 fun _ => none⟩).set x ⟨10, .inst .thing dx (0 + 1) (upd (fun _ => none) "addr" (.int ad))⟩).set x ⟨10, .inst .thing dx (1 + 1) (upd (upd (fun _ => none) "addr" (.int ad)) "kind" (.int kind))⟩).set x ⟨10, .inst .thing dx (2 + 1) (upd (upd (upd (fun _ => none) "addr" (.int ad)) "kind" (.int kind)) "slots" (.ref y))⟩).set x
      ⟨10, .inst .thing dx (3 + 1) (upd (upd (upd (upd (fun _ => none) "addr" (.int ad)) "kind" (.int kind)) "slots" (.ref y)) "gen" (.int 0))⟩)) = σ1 at E1 h1
  have hy1 := E1.get hy
  refine ex_attr_new (ev_c1 14 (by decide) (pe_len (by walk_at "pe") hy1 (by omega)) (c_words_for (k := vals.length) (by show X'.n + 1 < 60; omega) ⟨x, 10, .thing, dx, 4, _, by walk_at "pe", h1, by decide, by decide, ?_⟩))
  refine ex_attr_new (ev_pe (by walk_at "pe") ⟨x, 10, .thing, dx, 5, _, by walk_at "pe", Store.set_self _ _ _, by decide, by decide, ?_⟩)
  exact ex_nil ⟨rfl, q _ x dx ((E1.setNew hx).setNew hx) hx (Store.set_self _ _ _)⟩

theorem c_heap_alloc {kind : Int} {vals : List Int} (hn : X.n < 56) (R : HRep σ H) (hy : σ y = some ⟨11, .list (vals.map sv)⟩) (hsl : y ∉ H.ts.map Th.sl) (hz : vals.length ≤ 1000) (num : H.ts.length ≤ 1000) (htop : H.top ∉ H.ts.map Th.addr)
    (q : ∀ σ' x, Ext [1, 2, 3] σ σ' → HRep σ' (allocH H (newTh x y H kind vals)) → Q (.ref x) σ') :
    OpC W X l σ (.ref (W.fn 17)) [.ref H.a, .int kind, .ref y] Q := by
  refine def_call0 (x := "heap_alloc") 17 (by decide) ["heap", "kind", "slots"] (nle hn) rfl (by walk_at "b3") rfl (fun _ => rfl) rfl rfl rfl ?_
  intro A h₀ L outer base A₀ cdv
  refine ex_let3 ?_
  intro Xx ll Qq
  obtain ⟨dx, nf, hzn, hH⟩ := R.hp
  refine ex_assign (ev_new .thing rfl (eva_cons (ev_pe (by walk_at "pe") (eva_cons (ev_pe (by walk_at "pe") (eva_cons (ev_pe (by walk_at "pe") (eva_nil (c_Thing (vals := vals.map sv) (nlt hn) hy (by first | exact lenm (by omega) | (rw [List.length_map]; omega)) fun σ1 x dt E1 hx hx1 => ?_)))))))))
  rw [List.length_map] at hx1
  have hH1 := E1.get hH
  have hy1 := E1.get hy
  refine ex_aug_attr (x := H.a) (old := .int H.made) (by walk_at "pe") hH1 rfl (by decide) (ev_pe pe_int (op2_po po_iadd ⟨1, .heap, dx, nf, _, hH1, rfl, hzn, by decide, ?_⟩))
  have e1 : upd H.F "made" (.int (H.made + 1)) = { H with made := H.made + 1 }.F := (upd_lc rfl).trans rfl
  rw [e1]
  have hH2 : (σ1.set H.a ⟨1, .inst .heap dx nf { H with made := H.made + 1 }.F⟩) H.a = some ⟨1, .inst .heap dx nf { H with made := H.made + 1 }.F⟩ := Store.set_self _ _ _
  have hx2 := Store.get_role (r' := 1) (z := .inst .heap dx nf { H with made := H.made + 1 }.F) hx1 hH1 (by decide)
  have E2 : Ext [1, 2, 3] σ (σ1.set H.a ⟨1, .inst .heap dx nf { H with made := H.made + 1 }.F⟩) := (E1.mono (by first | decide | simp)).trans (.set hH1 (by decide))
  have E2' : Ext [1] σ (σ1.set H.a ⟨1, .inst .heap dx nf { H with made := H.made + 1 }.F⟩) := (E1.mono (by first | decide | simp)).trans (.set hH1 (by decide))
  generalize σ1.set H.a ⟨1, .inst .heap dx nf { H with made := H.made + 1 }.F⟩ = σ2 at hH2 hx2 E2 E2'
  refine ex_attr (ev_pe (by walk_at "pe") ⟨x, 10, .thing, dt, 6, _, by walk_at "pe", hx2, rfl, by decide, by decide, ?_⟩)
  have e2 : upd (lc [("serial", .int 0), ("size", .int (sizeOf' vals.length)), ("gen", .int 0), ("slots", .ref y), ("kind", .int kind), ("addr", .int H.top)]) "serial" (.int (H.made + 1)) = (newTh x y H kind vals).F := (upd_lc rfl).trans rfl
  rw [e2]
  have hx3 : (σ2.set x ⟨10, .inst .thing dt 6 (newTh x y H kind vals).F⟩) x = some ⟨10, .inst .thing dt 6 (newTh x y H kind vals).F⟩ := Store.set_self _ _ _
  have hH3 := Store.get_role (r' := 10) (z := .inst .thing dt 6 (newTh x y H kind vals).F) hH2 hx2 (by decide)
  have E3 : Ext [1] σ (σ2.set x ⟨10, .inst .thing dt 6 (newTh x y H kind vals).F⟩) := E2'.setNew hx
  generalize σ2.set x ⟨10, .inst .thing dt 6 (newTh x y H kind vals).F⟩ = σ3 at hx3 hH3 E3
  have hth3 := E3.get R.th
  have hat3 := E3.get R.at_
  refine ex_append (by walk_at "pe") hth3 (by first | exact lenm (by omega) | (rw [List.length_map]; omega)) (ev_pe (by walk_at "pe") ⟨hth3, ?_⟩)
  have hH4 := Store.get_role (r' := 2) (z := .list (H.ts.map Th.rv ++ [.ref x])) hH3 hth3 (by decide)
  have hx4 := Store.get_role (r' := 2) (z := .list (H.ts.map Th.rv ++ [.ref x])) hx3 hth3 (by decide)
  have hat4 := Store.get_role (r' := 2) (z := .list (H.ts.map Th.rv ++ [.ref x])) hat3 hth3 (by decide)
  have E4 : Ext [1, 2] σ (σ3.set H.th ⟨2, .list (H.ts.map Th.rv ++ [.ref x])⟩) := (E3.mono (by first | decide | simp)).trans (.set hth3 (by decide))
  have hth4 : (σ3.set H.th ⟨2, .list (H.ts.map Th.rv ++ [.ref x])⟩) H.th = some ⟨2, .list (H.ts.map Th.rv ++ [.ref x])⟩ := Store.set_self _ _ _
  generalize σ3.set H.th ⟨2, .list (H.ts.map Th.rv ++ [.ref x])⟩ = σ4 at hH4 hx4 hat4 E4 hth4
  refine ex_sub_dI (ev_pe (by walk_at "pe") ⟨H.at_, 3, _, H.top, by walk_at "pe", by walk_at "pe", hat4, by rw [List.length_map]; omega, ?_⟩)
  have hk : H.top ∉ (H.ts.map fun t => (t.addr, t.rv)).map (·.1) := by rw [List.map_map]; exact htop
  rw [dput_new hk]
  have hH5 := Store.get_role (r' := 3) (z := .dI ((H.ts.map fun t => (t.addr, t.rv)) ++ [(H.top, .ref x)])) hH4 hat4 (by decide)
  have hx5 := Store.get_role (r' := 3) (z := .dI ((H.ts.map fun t => (t.addr, t.rv)) ++ [(H.top, .ref x)])) hx4 hat4 (by decide)
  have hth5 := Store.get_role (r' := 3) (z := .dI ((H.ts.map fun t => (t.addr, t.rv)) ++ [(H.top, .ref x)])) hth4 hat4 (by decide)
  have E5 : Ext [1, 2, 3] σ (σ4.set H.at_ ⟨3, .dI ((H.ts.map fun t => (t.addr, t.rv)) ++ [(H.top, .ref x)])⟩) := (E4.mono (by first | decide | simp)).trans (.set hat4 (by decide))
  have hat5 : (σ4.set H.at_ ⟨3, .dI ((H.ts.map fun t => (t.addr, t.rv)) ++ [(H.top, .ref x)])⟩) H.at_ = some ⟨3, .dI ((H.ts.map fun t => (t.addr, t.rv)) ++ [(H.top, .ref x)])⟩ := Store.set_self _ _ _
  generalize σ4.set H.at_ ⟨3, .dI ((H.ts.map fun t => (t.addr, t.rv)) ++ [(H.top, .ref x)])⟩ = σ5 at hH5 hx5 hth5 E5 hat5
  refine ex_aug_attr (x := H.a) (old := .int H.top) (by walk_at "pe") hH5 rfl (by decide) (ev_pe (by walk_at "pe") (op2_po po_iadd ⟨1, .heap, dx, nf, _, hH5, rfl, hzn, by decide, ?_⟩))
  have e3 : upd { H with made := H.made + 1 }.F "top" (.int (H.top + (newTh x y H kind vals).size)) = { H with made := H.made + 1, top := H.top + (newTh x y H kind vals).size }.F := (upd_lc rfl).trans rfl
  rw [e3]
  have hH6 : (σ5.set H.a ⟨1, .inst .heap dx nf { H with made := H.made + 1, top := H.top + (newTh x y H kind vals).size }.F⟩) H.a = some ⟨1, .inst .heap dx nf { H with made := H.made + 1, top := H.top + (newTh x y H kind vals).size }.F⟩ := Store.set_self _ _ _
  have hx6 := Store.get_role (r' := 1) (z := .inst .heap dx nf { H with made := H.made + 1, top := H.top + (newTh x y H kind vals).size }.F) hx5 hH5 (by decide)
  have hth6 := Store.get_role (r' := 1) (z := .inst .heap dx nf { H with made := H.made + 1, top := H.top + (newTh x y H kind vals).size }.F) hth5 hH5 (by decide)
  have hat6 := Store.get_role (r' := 1) (z := .inst .heap dx nf { H with made := H.made + 1, top := H.top + (newTh x y H kind vals).size }.F) hat5 hH5 (by decide)
  have E6 : Ext [1, 2, 3] σ (σ5.set H.a ⟨1, .inst .heap dx nf { H with made := H.made + 1, top := H.top + (newTh x y H kind vals).size }.F⟩) := E5.trans (.set hH5 (by decide))
  generalize σ5.set H.a ⟨1, .inst .heap dx nf { H with made := H.made + 1, top := H.top + (newTh x y H kind vals).size }.F⟩ = σ6 at hH6 hx6 hth6 hat6 E6
  refine ex_aug_attr (x := H.a) (old := .int H.fresh) (by walk_at "pe") hH6 rfl (by decide) (ev_pe (by walk_at "pe") (op2_po po_iadd ⟨1, .heap, dx, nf, _, hH6, rfl, hzn, by decide, ?_⟩))
  have e4 : upd { H with made := H.made + 1, top := H.top + (newTh x y H kind vals).size }.F "fresh" (.int (H.fresh + (newTh x y H kind vals).size)) = (allocH H (newTh x y H kind vals)).F := (upd_lc rfl).trans rfl
  rw [e4]
  refine ex_ret (ev_pe (by walk_at "pe") (q _ x (E6.trans (.set hH6 (by decide))) ?_))
  have hxref : x ∉ H.ts.map Th.ref := fun hm => by
    obtain ⟨t, ht, rfl⟩ := List.mem_map.mp hm
    obtain ⟨⟨d, n, _, e⟩, _⟩ := R.ts t ht
    rw [hx] at e; cases e
  refine HRep.heapSet (H := { H with made := H.made + 1, top := H.top + (newTh x y H kind vals).size }) hH6 hzn (allocH H (newTh x y H kind vals)) rfl rfl ?_ ?_ (E6.get R.ca) (E6.get R.fi) (E6.get R.re) (fun t ht => ?_) ⟨?_, ?_⟩
  · show σ6 H.th = _
    rw [hth6]; unfold allocH newTh Th.rv; simp
  · show σ6 H.at_ = _
    rw [hat6]; unfold allocH newTh Th.rv; simp
  · try (refine ex_let2 ?_; intro lX QX)
    rcases List.mem_append.mp ht with ht | ht
    · exact (R.ts t ht).ext E6 (by decide) (by decide)
    · simp at ht; subst ht
      exact ⟨⟨dt, 6, by decide, hx6⟩, E6.get hy⟩
  · unfold allocH
    rw [List.map_append, List.nodup_append]
    refine ⟨R.nd.1, by simp, fun a ha b hb => ?_⟩
    simp at hb; subst hb
    rintro rfl; exact hxref ha
  · unfold allocH
    rw [List.map_append, List.nodup_append]
    refine ⟨R.nd.2, by simp, fun a ha b hb => ?_⟩
    simp at hb; subst hb
    rintro rfl; exact hsl ha
end


noncomputable def storeTs (ts : List Th) (i : Nat) (t : Th) (s : Nat) (a : Int) : List Th := ts.set i { t with slots := t.slots.set s a }
noncomputable def storeCs (cs : List Int) (t : Th) (s : Nat) (a : Int) : List Int := if 0 < t.gen ∧ a ≠ 0 then addC cs (cardOf (t.addr + 2 + (s : Int))) else cs

section
variable {W : Wd} {X : Cx} {l : Lcl} {σ : Store} {Q : MVal → Store → Prop} {H : Hp} {t : Th} {st : MSt} {m k y z : Addr} {g a s : Int} {as : List Addr} {cs : List (List Int)} {c M ps : List Int} {h : Hd} {mv : List (Int × Int)} {n : Int} {w : MVal} {RR : List Nat} {r : Nat}

theorem c_Heap (hn : X.n < 58) (q : ∀ σ' a th at_ ca fi re, Ext [] σ σ' → HRep σ' (H0 a th at_ ca fi re) → Q (.ref a) σ') : OpC W X l σ (.ref (W.cls .heap)) [.int 1000, .int 2] Q := by
  refine cls_call 1 hn fun X' x dx hX hx => ?_
  have hn' : X'.n = X.n + 1 := by rw [hX]
  refine init_call .heap ["self", "limit", "card_bits"] (by omega) rfl (by walk_at "b3") rfl (fun _ => rfl) rfl rfl rfl ?_
  intro A h₀ L outer base A₀ cdv
  refine ex_let3 ?_
  intro Xx ll Qq
  have E0 : Ext [] σ (σ.set x ⟨1, .inst .heap dx 0 fun _ => none⟩) := .new hx
  have h0 : (σ.set x ⟨1, .inst .heap dx 0 fun _ => none⟩) x = some ⟨1, .inst .heap dx 0 (lc [])⟩ := Store.set_self _ _ _
  generalize σ.set x ⟨1, .inst .heap dx 0 fun _ => none⟩ = σ0 at E0 h0
  refine ex_attr_new (ev_list 2 (eva_nil ⟨Nat.le_of_ble_eq_true rfl, fun th hth => ⟨x, 1, .heap, dx, 0, _, by walk_at "pe", Store.get_new h0 hth, by decide, by decide, ?_⟩⟩))
  have h1 : ((σ0.set th ⟨2, .list []⟩).set x ⟨1, .inst .heap dx (0 + 1) (upd (lc []) "things" (.ref th))⟩) x = some ⟨1, .inst .heap dx 1 (lc [("things", .ref th)])⟩ := Store.set_self _ _ _
  have k1 : ((σ0.set th ⟨2, .list []⟩).set x ⟨1, .inst .heap dx (0 + 1) (upd (lc []) "things" (.ref th))⟩) th = some ⟨2, .list []⟩ := Store.get_role (Store.set_self _ _ _) (Store.get_new h0 hth) (by decide)
  have E1 : Ext [] σ ((σ0.set th ⟨2, .list []⟩).set x ⟨1, .inst .heap dx (0 + 1) (upd (lc []) "things" (.ref th))⟩) := (E0.setNew (E0.live hth)).setNew hx
  generalize (σ0.set th ⟨2, .list []⟩).set x ⟨1, .inst .heap dx (0 + 1) (upd (lc []) "things" (.ref th))⟩ = σ1 at E1 h1 k1
  refine ex_attr_new (ev_dict0I 3 fun at_ hat => ⟨x, 1, .heap, dx, 1, _, by walk_at "pe", Store.get_new h1 hat, by decide, by decide, ?_⟩)
  have h2 : ((σ1.set at_ ⟨3, .dI []⟩).set x ⟨1, .inst .heap dx (1 + 1) (upd (lc [("things", .ref th)]) "at" (.ref at_))⟩) x = some ⟨1, .inst .heap dx 2 (lc [("at", .ref at_), ("things", .ref th)])⟩ := Store.set_self _ _ _
  have k2 : ((σ1.set at_ ⟨3, .dI []⟩).set x ⟨1, .inst .heap dx (1 + 1) (upd (lc [("things", .ref th)]) "at" (.ref at_))⟩) at_ = some ⟨3, .dI []⟩ := Store.get_role (Store.set_self _ _ _) (Store.get_new h1 hat) (by decide)
  have k1' : ((σ1.set at_ ⟨3, .dI []⟩).set x ⟨1, .inst .heap dx (1 + 1) (upd (lc [("things", .ref th)]) "at" (.ref at_))⟩) th = some ⟨2, .list []⟩ := Store.get_role (Store.get_new k1 hat) (Store.get_new h1 hat) (by decide)
  have E2 : Ext [] σ ((σ1.set at_ ⟨3, .dI []⟩).set x ⟨1, .inst .heap dx (1 + 1) (upd (lc [("things", .ref th)]) "at" (.ref at_))⟩) := (E1.setNew (E1.live hat)).setNew hx
  generalize (σ1.set at_ ⟨3, .dI []⟩).set x ⟨1, .inst .heap dx (1 + 1) (upd (lc [("things", .ref th)]) "at" (.ref at_))⟩ = σ2 at E2 h2 k2 k1'
  refine ex_attr_new (ev_pe (by walk_at "pe") ⟨x, 1, .heap, dx, 2, _, by walk_at "pe", h2, by decide, by decide, ?_⟩)
  refine ex_attr_new (ev_pe (by walk_at "pe") ⟨x, 1, .heap, dx, 3, _, by walk_at "pe", Store.set_self _ _ _, by decide, by decide, ?_⟩)
  have h3 : ((σ2.set x ⟨1, .inst .heap dx (2 + 1) (upd (lc [("at", .ref at_), ("things", .ref th)]) "top" (.int 16))⟩).set x ⟨1, .inst .heap dx (3 + 1) (upd (upd (lc [("at", .ref at_), ("things", .ref th)]) "top" (.int 16)) "limit" (.int 1000))⟩) x =
    some ⟨1, .inst .heap dx 4 (lc [("limit", .int 1000), ("top", .int 16), ("at", .ref at_), ("things", .ref th)])⟩ := Store.set_self _ _ _
  have E3 : Ext [1] σ2 ((σ2.set x ⟨1, .inst .heap dx (2 + 1) (upd (lc [("at", .ref at_), ("things", .ref th)]) "top" (.int 16))⟩).set x ⟨1, .inst .heap dx (3 + 1) (upd (upd (lc [("at", .ref at_), ("things", .ref th)]) "top" (.int 16)) "limit" (.int 1000))⟩) :=
    (Ext.set h2 (by decide)).trans (.set (Store.set_self _ _ _) (by decide))
  have E3' : Ext [] σ ((σ2.set x ⟨1, .inst .heap dx (2 + 1) (upd (lc [("at", .ref at_), ("things", .ref th)]) "top" (.int 16))⟩).set x ⟨1, .inst .heap dx (3 + 1) (upd (upd (lc [("at", .ref at_), ("things", .ref th)]) "top" (.int 16)) "limit" (.int 1000))⟩) := (E2.setNew hx).setNew hx
  generalize (σ2.set x ⟨1, .inst .heap dx (2 + 1) (upd (lc [("at", .ref at_), ("things", .ref th)]) "top" (.int 16))⟩).set x ⟨1, .inst .heap dx (3 + 1) (upd (upd (lc [("at", .ref at_), ("things", .ref th)]) "top" (.int 16)) "limit" (.int 1000))⟩ = σ3 at E3 E3' h3
  have k1 := E3.get k1'
  have k2 := E3.get k2
  refine ex_attr_new (ev_dict0I 4 fun ca hca => ⟨x, 1, .heap, dx, 4, _, by walk_at "pe", Store.get_new h3 hca, by decide, by decide, ?_⟩)
  generalize hfs : upd (lc [("limit", .int 1000), ("top", .int 16), ("at", .ref at_), ("things", .ref th)]) "cards" (.ref ca) = F4
  have h4 : ((σ3.set ca ⟨4, .dI []⟩).set x ⟨1, .inst .heap dx (4 + 1) F4⟩) x = some ⟨1, .inst .heap dx 5 (lc [("cards", .ref ca), ("limit", .int 1000), ("top", .int 16), ("at", .ref at_), ("things", .ref th)])⟩ := by rw [← hfs]; exact Store.set_self _ _ _
  have hx3 := Store.get_new (o' := ⟨4, .dI []⟩) h3 hca
  have E4 : Ext [1] σ3 ((σ3.set ca ⟨4, .dI []⟩).set x ⟨1, .inst .heap dx (4 + 1) F4⟩) := (Ext.new hca).trans (.set hx3 (by decide))
  have k4 : ((σ3.set ca ⟨4, .dI []⟩).set x ⟨1, .inst .heap dx (4 + 1) F4⟩) ca = some ⟨4, .dI []⟩ := Store.get_role (Store.set_self _ _ _) hx3 (by decide)
  have E4' : Ext [] σ ((σ3.set ca ⟨4, .dI []⟩).set x ⟨1, .inst .heap dx (4 + 1) F4⟩) := (E3'.setNew (E3'.live hca)).setNew hx
  generalize (σ3.set ca ⟨4, .dI []⟩).set x ⟨1, .inst .heap dx (4 + 1) F4⟩ = σ4 at E4 E4' h4 k4
  have k1 := E4.get k1
  have k2 := E4.get k2
  refine ex_attr_new (ev_pe (by walk_at "pe") ⟨x, 1, .heap, dx, 5, _, by walk_at "pe", h4, by decide, by decide, ?_⟩)
  refine ex_attr_new (ev_pe (by walk_at "pe") ⟨x, 1, .heap, dx, 6, _, by walk_at "pe", Store.set_self _ _ _, by decide, by decide, ?_⟩)
  refine ex_attr_new (ev_pe (by walk_at "pe") ⟨x, 1, .heap, dx, 7, _, by walk_at "pe", Store.set_self _ _ _, by decide, by decide, ?_⟩)
  generalize hσ5 : Store.set _ x _ = σ5
  have E5 : Ext [1] σ4 σ5 := hσ5 ▸ (Ext.set h4 (by decide)).trans ((Ext.set (Store.set_self _ _ _) (by decide)).trans (.set (Store.set_self _ _ _) (by decide)))
  have E5' : Ext [] σ σ5 := hσ5 ▸ (((E4'.setNew hx).setNew hx).setNew hx)
  have h5 : σ5 x = some ⟨1, .inst .heap dx 8 (lc [("young_limit", .int 251), ("fresh", .int 0), ("card_bits", .int 2), ("cards", .ref ca), ("limit", .int 1000), ("top", .int 16), ("at", .ref at_), ("things", .ref th)])⟩ := hσ5 ▸ Store.set_self _ _ _
  have k1 := E5.get k1
  have k2 := E5.get k2
  have k4 := E5.get k4
  clear hσ5
  refine ex_attr_new (ev_list 5 (eva_nil ⟨Nat.le_of_ble_eq_true rfl, fun fi hfi => ⟨x, 1, .heap, dx, 8, _, by walk_at "pe", Store.get_new h5 hfi, by decide, by decide, ?_⟩⟩))
  generalize hσ6 : Store.set _ x _ = σ6
  have hx5 := Store.get_new (o' := ⟨5, .list []⟩) h5 hfi
  have E6 : Ext [1] σ5 σ6 := hσ6 ▸ (Ext.new hfi).trans (.set hx5 (by decide))
  have E6' : Ext [] σ σ6 := hσ6 ▸ (E5'.setNew (E5'.live hfi)).setNew hx
  have h6 : σ6 x = some ⟨1, .inst .heap dx 9 (lc [("finals", .ref fi), ("young_limit", .int 251), ("fresh", .int 0), ("card_bits", .int 2), ("cards", .ref ca), ("limit", .int 1000), ("top", .int 16), ("at", .ref at_), ("things", .ref th)])⟩ := hσ6 ▸ Store.set_self _ _ _
  have k5 : σ6 fi = some ⟨5, .list []⟩ := hσ6 ▸ Store.get_role (Store.set_self _ _ _) hx5 (by decide)
  have k1 := E6.get k1
  have k2 := E6.get k2
  have k4 := E6.get k4
  clear hσ6
  refine ex_attr_new (ev_list 6 (eva_nil ⟨Nat.le_of_ble_eq_true rfl, fun re hre => ⟨x, 1, .heap, dx, 9, _, by walk_at "pe", Store.get_new h6 hre, by decide, by decide, ?_⟩⟩))
  generalize hσ7 : Store.set _ x _ = σ7
  have hx6 := Store.get_new (o' := ⟨6, .list []⟩) h6 hre
  have E7 : Ext [1] σ6 σ7 := hσ7 ▸ (Ext.new hre).trans (.set hx6 (by decide))
  have E7' : Ext [] σ σ7 := hσ7 ▸ (E6'.setNew (E6'.live hre)).setNew hx
  have h7 : σ7 x = some ⟨1, .inst .heap dx 10 (lc [("ready", .ref re), ("finals", .ref fi), ("young_limit", .int 251), ("fresh", .int 0), ("card_bits", .int 2), ("cards", .ref ca), ("limit", .int 1000), ("top", .int 16), ("at", .ref at_), ("things", .ref th)])⟩ := hσ7 ▸ Store.set_self _ _ _
  have k6 : σ7 re = some ⟨6, .list []⟩ := hσ7 ▸ Store.get_role (Store.set_self _ _ _) hx6 (by decide)
  have k1 := E7.get k1
  have k2 := E7.get k2
  have k4 := E7.get k4
  have k5 := E7.get k5
  clear hσ7
  refine ex_attr_new (ev_pe (by walk_at "pe") ⟨x, 1, .heap, dx, 10, _, by walk_at "pe", h7, by decide, by decide, ?_⟩)
  refine ex_attr_new (ev_pe (by walk_at "pe") ⟨x, 1, .heap, dx, 11, _, by walk_at "pe", Store.set_self _ _ _, by decide, by decide, ?_⟩)
  generalize hσ8 : Store.set _ x _ = σ8
  have E8 : Ext [1] σ7 σ8 := hσ8 ▸ (Ext.set h7 (by decide)).trans (.set (Store.set_self _ _ _) (by decide))
  have E8' : Ext [] σ σ8 := hσ8 ▸ ((E7'.setNew hx).setNew hx)
  have h8 : σ8 x = some ⟨1, .inst .heap dx 12 (H0 x th at_ ca fi re).F⟩ := hσ8 ▸ Store.set_self _ _ _
  exact ex_nil ⟨rfl, q σ8 x th at_ ca fi re E8' ⟨⟨dx, 12, by decide, h8⟩, E8.get k1, E8.get k2, E8.get k4, E8.get k5, E8.get k6, fun t ht => (by cases ht), List.nodup_nil, List.nodup_nil⟩⟩

theorem c_Handles (hn : X.n < 58) (q : ∀ σ' a rl, Ext [] σ σ' → HdRep σ' ⟨a, rl, []⟩ → Q (.ref a) σ') : OpC W X l σ (.ref (W.cls .handles)) [] Q := by
  refine cls_call 7 hn fun X' x dx hX hx => ?_
  have hn' : X'.n = X.n + 1 := by rw [hX]
  refine init_call .handles ["self"] (by omega) rfl (by walk_at "b1") rfl (fun _ => rfl) rfl rfl rfl ?_
  intro A h₀ L outer base A₀ cdv
  refine ex_let3 ?_
  intro Xx ll Qq
  have E0 : Ext [] σ (σ.set x ⟨7, .inst .handles dx 0 fun _ => none⟩) := .new hx
  have h0 : (σ.set x ⟨7, .inst .handles dx 0 fun _ => none⟩) x = some ⟨7, .inst .handles dx 0 (lc [])⟩ := Store.set_self _ _ _
  generalize σ.set x ⟨7, .inst .handles dx 0 fun _ => none⟩ = σ0 at E0 h0
  refine ex_attr_new (ev_list 8 (eva_nil ⟨Nat.le_of_ble_eq_true rfl, fun rl hrl => ⟨x, 7, .handles, dx, 0, _, by walk_at "pe", Store.get_new h0 hrl, by decide, by decide, ?_⟩⟩))
  exact ex_nil ⟨rfl, q _ x rl ((E0.setNew (E0.live hrl)).setNew hx) ⟨⟨dx, 1, by decide, Store.set_self _ _ _⟩, Store.get_role (Store.set_self _ _ _) (Store.get_new h0 hrl) (by decide), fun r hr => (by cases hr), List.nodup_nil, Nat.zero_le _⟩⟩

theorem c_store_slot {i j : Nat} (hn : X.n < 58) (R : HRep σ H) (hcs : H.cs.length ≤ 100000) (hi : H.ts[i]? = some t) (hj : j < t.slots.length) (hsl : t.slots.length ≤ 100)
    (q : ∀ σ', Ext [4, 11] σ σ' → HRep σ' { H with ts := storeTs H.ts i t j a, cs := storeCs H.cs t j a } → Q .none σ') : OpC W X l σ (.ref (W.fn 24)) [.ref H.a, t.rv, .int j, sv a] Q := by
  refine def_call0 (x := "store_slot") 24 (by decide) ["heap", "thing", "slot", "value"] (nle hn) rfl (by walk_at "b4") rfl (fun _ => rfl) rfl rfl rfl ?_
  intro A h₀ L outer base A₀ cdv
  refine ex_let3 ?_
  intro Xx ll Qq
  obtain ⟨dx, nf, hz, hH⟩ := R.hp
  have htm := List.mem_of_getElem? hi
  obtain ⟨⟨dt, nt, hzt, hT⟩, hS⟩ := R.ts t htm
  refine ex_sub_list (ev_pe (by walk_at "pe") ⟨t.sl, 11, _, j, by walk_at "pe", by walk_at "pe", hS, by omega, by rw [List.length_map]; omega, by rw [List.length_map]; omega, ?_⟩)
  have es : (t.slots.map sv).set (j : Int).toNat (sv a) = (t.slots.set j a).map sv := by rw [Int.toNat_natCast, List.map_set]
  rw [es]
  have E1 : Ext [11] σ (σ.set t.sl ⟨11, .list ((t.slots.set j a).map sv)⟩) := .set hS (by decide)
  have er : ∀ f : Th → Addr, (f { t with slots := t.slots.set j a } = f t) → (storeTs H.ts i t j a).map f = H.ts.map f := fun f hf => set_map hi hf
  have R1 : HRep (σ.set t.sl ⟨11, .list ((t.slots.set j a).map sv)⟩) { H with ts := storeTs H.ts i t j a } := by
    refine ⟨⟨dx, nf, hz, E1.get hH⟩, ?_, ?_, E1.get R.ca, E1.get R.fi, E1.get R.re, fun u hu => ?_, by rw [show (storeTs H.ts i t j a).map Th.ref = H.ts.map Th.ref from er _ rfl]; exact R.nd.1, by rw [show (storeTs H.ts i t j a).map Th.sl = H.ts.map Th.sl from er _ rfl]; exact R.nd.2⟩
    · rw [show (storeTs H.ts i t j a).map Th.rv = H.ts.map Th.rv from set_map hi rfl]; exact E1.get R.th
    · rw [show (storeTs H.ts i t j a).map (fun t => (t.addr, t.rv)) = H.ts.map (fun t => (t.addr, t.rv)) from set_map hi rfl]; exact E1.get R.at_
    · try (refine ex_let2 ?_; intro lX QX)
      rcases mem_set hi hu with rfl | ⟨j', hj', hu'⟩
      · exact ⟨⟨dt, nt, hzt, E1.get hT⟩, Store.set_self _ _ _⟩
      · try (refine ex_let2 ?_; intro lX QX)
        obtain ⟨⟨du, nu, hzu, hU⟩, hUS⟩ := R.ts u (List.mem_of_getElem? hu')
        refine ⟨⟨du, nu, hzu, E1.get hU⟩, (Store.set_ne _ _ fun e => hj' ?_).trans hUS⟩
        exact nodup_get R.nd.2 hu' hi e
  have hT1 := E1.get hT
  generalize σ.set t.sl ⟨11, .list ((t.slots.set j a).map sv)⟩ = σ1 at E1 R1 hT1
  obtain ⟨dx1, nf1, hz1, hH1⟩ := R1.hp
  refine ex_ifb (pt_and (by walk_at "pt") fun _ => pt_and (pt_val ⟨ev_c1 22 (by decide) (by walk_at "pe") (c_holds_reference (a := a) (nlt hn) ⟨rfl, rfl⟩)⟩) fun _ => by walk_at "pt") (fun hc => ?_) fun hc => ?_
  · try (refine ex_let2 ?_; intro lX QX)
    have hcond : 0 < t.gen ∧ a ≠ 0 := by simpa using hc
    have e2 : storeCs H.cs t j a = addC H.cs (cardOf (t.addr + 2 + (j : Int))) := if_pos hcond
    rw [e2] at q
    refine ex_sub_dI (ev_pe pe_int ⟨H.ca, 4, H.cs.map mkv, cardOf (t.addr + 2 + (j : Int)), by walk_at "pe", ⟨ev_c2 23 (by decide) (by walk_at "pe") ⟨ev_c2 21 (by decide) (by walk_at "pe") (by walk_at "pe") (c_slot_word (t := { t with slots := t.slots.set j a }) (s := j) (nlt hn) (R1.ts { t with slots := t.slots.set j a } ?_) ⟨rfl, rfl⟩)⟩ (c_card_number (nlt hn) R1 ⟨rfl, rfl⟩)⟩, R1.ca, by rw [List.length_map]; omega, ?_⟩)
    · show _ ∈ storeTs H.ts i t j a
      unfold storeTs
      obtain ⟨hl, _⟩ := List.getElem?_eq_some_iff.mp hi
      exact List.mem_of_getElem? (i := i) (by rw [List.getElem?_set, if_pos rfl, if_pos hl])
    rw [dput_mkv]
    exact ex_nil (ex_nil (q _ ((E1.mono (by first | decide | simp)).trans (.set R1.ca (by decide))) (R1.caSet _)))
  · try (refine ex_let2 ?_; intro lX QX)
    have hcond : ¬ (0 < t.gen ∧ a ≠ 0) := by
      intro h
      try (refine ex_let2 ?_; intro lX QX)
      rw [decide_eq_true h.1, decide_eq_true h.2] at hc
      cases hc
    have e2 : storeCs H.cs t j a = H.cs := if_neg hcond
    rw [e2] at q
    exact ex_nil (ex_nil (q _ (E1.mono (by first | decide | simp)) R1))
end


theorem filter_split {α : Type} (p : α → Bool) : ∀ xs : List α, (xs.filter p).length + (xs.filter fun a => !p a).length = xs.length
  | [] => rfl
  | a :: r => by
    have := filter_split p r
    cases h : p a <;> simp [h] <;> omega
noncomputable def livH (H : Hp) (g : Int) (M1 : List Int) (K : Addr) : Hp := { H with fi := K, fs := H.fs.filter (fun a => !dead H.ts g M1 a), rs := H.rs ++ H.fs.filter (dead H.ts g M1) }
noncomputable def livR (H : Hp) (g : Int) (M1 M2 : List Int) (rows : List Rw) : List Rw := (rows.map (cutF H.ts g M1 1)).map (cutF H.ts g M2 2)
theorem livH_ok {H : Hp} (ok : HOk H) {g : Int} {M1 : List Int} {K : Addr} : HOk (livH H g M1 K) := by
  refine ⟨ok.ad, ok.pos, ok.num, ok.ncs, ?_, ok.nsl, ok.gen, ok.sl, fun b hb => ?_, fun b hb => ok.fs b (List.mem_filter.mp hb).1⟩
  · have h1 := ok.nfs
    have h2 := filter_split (dead H.ts g M1) H.fs
    simp only [livH, List.length_append]; omega
  · try (refine ex_let2 ?_; intro lX QX)
    rcases List.mem_append.mp hb with hb | hb
    · exact ok.rs b hb
    · exact ok.fs b (List.mem_filter.mp hb).1
/-- the rows of values from which the marking starts -/
noncomputable def rootsOf (H : Hp) (rows : List Rw) (cs : List (List Int)) : List (List Int) := cs ++ [H.rs] ++ [strong rows]

section
variable {W : Wd} {X : Cx} {l : Lcl} {σ : Store} {Q : MVal → Store → Prop} {H : Hp} {t : Th} {st : MSt} {m k y z : Addr} {g a s : Int} {as : List Addr} {cs : List (List Int)} {c M ps : List Int} {h : Hd} {mv : List (Int × Int)} {n : Int} {w : MVal} {RR : List Nat} {r : Nat}

theorem c_root_lists (hn : X.n < 59) (R : HRep σ H) (hR : HdRep σ h) (hy : Roots σ y as cs) (q : ∀ σ' D as', Ext [43] σ σ' → σ D = none → σ' D = some ⟨44, .list (as'.map .ref)⟩ → Ls σ' as' (rootsOf H h.rows cs) → Q (.ref D) σ') :
    OpC W X l σ (.ref (W.fn 72)) [.ref H.a, .ref y, .ref h.a] Q := by
  refine def_call0 (x := "root_lists") 72 (by decide) ["heap", "lists", "handles"] (nle hn) rfl (by walk_at "b3") rfl (fun _ => rfl) rfl rfl rfl ?_
  intro A h₀ L outer base A₀ cdv
  refine ex_let3 ?_
  intro Xx ll Qq
  have n1 := hy.n1
  refine ex_assign (ev_list 44 (eva_nil ⟨Nat.le_of_ble_eq_true rfl, fun D hD => ?_⟩))
  refine ex_for_l (ev_pe (by walk_at "pe") ⟨y, as.map .ref, fun i => [("heap", .ref H.a), ("handles", .ref h.a), ("out", .ref D)], fun i σ₂ => Ext [] σ σ₂ ∧ σ₂ D = some ⟨44, .list ((as.take i).map .ref)⟩,
    rfl, ⟨rfl, rfl, rfl, trivial⟩, ⟨.new hD, Store.set_self _ _ _⟩, fun i σ₂ h => ⟨12, h.1.get hy.y⟩, fun i u σ₂ hu => And.elim fun E hD2 => ?_, fun σ₂ => And.elim fun E hD2 => ?_⟩)
  · try (refine ex_let2 ?_; intro lX QX)
    obtain ⟨a, ha, rfl⟩ := map_get hu
    refine ex_append (by walk_at "pe") hD2 (by rw [List.length_map, List.length_take]; omega) (ev_pe (by walk_at "pe") ⟨hD2, ?_⟩)
    refine ex_nil ⟨⟨rfl, rfl, rfl, trivial⟩, E.setNew hD, ?_⟩
    rw [Store.set_self, take_next ha, List.map_append]; rfl
  · rw [List.length_map, take_all] at hD2
    have R2 := R.ext E (by decide)
    obtain ⟨dx, nf, hz, hH⟩ := R2.hp
    refine ex_append (by walk_at "pe") hD2 (by first | exact lenm (by omega) | (rw [List.length_map]; omega)) (ev_pe (by walk_at "pe") ⟨hD2, ?_⟩)
    have E3 : Ext [] σ (σ₂.set D ⟨44, .list (as.map .ref ++ [.ref H.re])⟩) := E.setNew hD
    have hD3 : (σ₂.set D ⟨44, .list (as.map .ref ++ [.ref H.re])⟩) D = some ⟨44, .list (as.map .ref ++ [.ref H.re])⟩ := Store.set_self _ _ _
    generalize σ₂.set D ⟨44, .list (as.map .ref ++ [.ref H.re])⟩ = σ3 at E3 hD3
    refine ex_ifb (pt_cmp (pe_loc rfl) pe_none (po_isn (v := .ref h.a) (by intro h; cases h))) (fun _ => ?_) fun hc => by cases hc
    refine ex_append (by walk_at "pe") hD3 (by simp only [List.length_append, List.length_map, List.length_singleton]; omega) (ev_c1 49 (by decide) (by walk_at "pe") (c_strong_values (nlt hn) (hR.ext E3 (by decide)) fun σ4 D4 E4 hD4 hD4' => ⟨E4.get hD3, ?_⟩))
    refine ex_nil (ex_ret (ev_pe (by walk_at "pe") (q _ D (as ++ [H.re] ++ [D4]) (((E3.mono (by first | decide | simp)).trans E4).setNew hD) hD (by rw [Store.set_self]; simp [List.map_append]) ?_)))
    have E5 : Ext [43, 44] σ3 (σ4.set D ⟨44, .list (as.map .ref ++ [.ref H.re] ++ [.ref D4])⟩) := (E4.mono (by first | decide | simp)).trans (.set (E4.get hD3) (by decide))
    have E6 : Ext [44] σ4 (σ4.set D ⟨44, .list (as.map .ref ++ [.ref H.re] ++ [.ref D4])⟩) := .set (E4.get hD3) (by decide)
    refine All2.append (All2.append (All2.mono (fun a c ⟨r, hr, e⟩ => ⟨r, ?_, e⟩) ((hy.ext E3).ext E5).f) ⟨⟨6, by decide, E5.get (E3.get R.re)⟩, trivial⟩) ⟨⟨43, by decide, E6.get hD4'⟩, trivial⟩
    simp at hr; subst hr; decide

theorem c_used_words (hn : X.n < 60) (R : HRep σ H) (q : Q (.int (H.top - 16)) σ) : OpC W X l σ (.ref (W.fn 18)) [.ref H.a] Q := by
  refine def_call0 (x := "used_words") 18 (by decide) ["heap"] (nle hn) rfl (by walk_at "b1") rfl (fun _ => rfl) rfl rfl rfl ?_
  intro A h₀ L outer base A₀ cdv
  refine ex_let3 ?_
  intro Xx ll Qq
  obtain ⟨dx, nf, hz, hH⟩ := R.hp
  exact ex_ret (ev_pe (by walk_at "pe") q)
theorem c_note_collected (hn : X.n < 59) (R : HRep σ H) (q : ∀ σ' lim, Ext [1] σ σ' → HRep σ' { H with fresh := 0, limit := lim } → Q .none σ') : OpC W X l σ (.ref (W.fn 19)) [.ref H.a, .int g] Q := by
  refine def_call0 (x := "note_collected") 19 (by decide) ["heap", "gen"] (nle hn) rfl (by walk_at "b2") rfl (fun _ => rfl) rfl rfl rfl ?_
  intro A h₀ L outer base A₀ cdv
  refine ex_let3 ?_
  intro Xx ll Qq
  obtain ⟨dx, nf, hz, hH⟩ := R.hp
  refine ex_attr (ev_pe pe_int ⟨H.a, 1, .heap, dx, nf, _, by walk_at "pe", hH, rfl, hz, by decide, ?_⟩)
  have R1 : HRep (σ.set H.a ⟨1, .inst .heap dx nf (upd H.F "fresh" (.int 0))⟩) { H with fresh := 0 } := HRep.heapSet hH hz { H with fresh := 0 } rfl ((upd_lc rfl).trans rfl) R.th R.at_ R.ca R.fi R.re R.ts R.nd
  have E1 : Ext [1] σ (σ.set H.a ⟨1, .inst .heap dx nf (upd H.F "fresh" (.int 0))⟩) := .set hH (by decide)
  generalize σ.set H.a ⟨1, .inst .heap dx nf (upd H.F "fresh" (.int 0))⟩ = σ1 at R1 E1
  obtain ⟨dx1, nf1, hz1, hH1⟩ := R1.hp
  refine ex_ifb (pt_and (by walk_at "pt") fun _ => pt_and (pt_cmp (pe_bin pe_int ⟨ev_c1 18 (by decide) (by walk_at "pe") (c_used_words (H := { H with fresh := 0 }) (nlt hn) R1 ⟨rfl, rfl⟩)⟩ (po_mul (by decide) (by decide))) (by walk_at "pe") po_gt) fun _ => by walk_at "pt") (fun hc => ?_) fun hc => ?_
  · try (refine ex_let2 ?_; intro lX QX)
    refine ex_attr (ev_pe (pe_bin pe_int ⟨ev_c1 18 (by decide) (by walk_at "pe") (c_used_words (H := { H with fresh := 0 }) (nlt hn) R1 ⟨rfl, rfl⟩)⟩ (po_mul (by decide) (by decide))) ⟨H.a, 1, .heap, dx1, nf1, _, by walk_at "pe", hH1, rfl, hz1, by decide, ?_⟩)
    refine ex_nil (ex_nil (q _ (2 * (H.top - 16)) (E1.trans (.set hH1 (by decide))) ?_))
    exact HRep.heapSet (H := { H with fresh := 0 }) hH1 hz1 { H with fresh := 0, limit := 2 * (H.top - 16) } rfl ((upd_lc rfl).trans rfl) R1.th R1.at_ R1.ca R1.fi R1.re R1.ts R1.nd
  · exact ex_nil (ex_nil (q _ H.limit E1 R1))

theorem c_find_living (hn : X.n < 55) (R : HRep σ H) (ok : HOk H) (hR : HdRep σ h) (hy : Roots σ y as cs) (hw : ∀ c ∈ rootsOf H h.rows cs, ∀ b ∈ c, Wrd H.ts b)
    (q : ∀ σ' m K M1 M2, Ext [1, 5, 6, 9, 40, 41, 42, 43, 45] σ σ' → DrainR H.ts g (st0 H g (rootsOf H h.rows cs)) M1 → DrainR H.ts g (pushs H.ts g (H.fs.filter (dead H.ts g M1)) (M1, [])) M2 → MOk H.ts (M1, []) → MOk H.ts (M2, []) →
      HRep σ' (livH H g M1 K) → HdRep σ' { h with rows := livR H g M1 M2 h.rows } → σ' m = some ⟨40, .dI (M2.map mkv)⟩ → Q (.ref m) σ') :
    OpC W X l σ (.ref (W.fn 73)) [.ref H.a, .ref y, .ref h.a, .int g] Q := by
  refine def_call0 (x := "find_living") 73 (by decide) ["heap", "lists", "handles", "gen"] (nle hn) rfl (by walk_at "b4") rfl (fun _ => rfl) rfl rfl rfl ?_
  intro A h₀ L outer base A₀ cdv
  refine ex_let3 ?_
  intro Xx ll Qq
  refine ex_assign (ev_def 31 (by decide) (eva_cons (ev_pe (by walk_at "pe") (eva_cons (ev_c3 72 (by decide) (by walk_at "pe") (by walk_at "pe") (by walk_at "pe") (c_root_lists (nlt hn) R hR hy fun σ1 D as' E1 hD hD1 hLs => ?_))))))
  refine eva_cons (ev_pe (by walk_at "pe") (eva_nil (c_mark (nlt hn) (R.ext E1 (by decide)) ok hD1 hLs hw fun σ2 m M1 E2 hm hdr mo1 hm2 => ?_)))
  have E12 : Ext [40, 41, 42, 43] σ σ2 := (E1.mono (by first | decide | simp)).trans (E2.mono (by first | decide | simp))
  refine ex_ifb (pt_cmp (pe_loc rfl) pe_none (po_isn (v := .ref h.a) (by intro h; cases h))) (fun _ => ?_) fun hc => by cases hc
  refine ex_expr (ev_c5 51 (by decide) (by walk_at "pe") (by walk_at "pe") (by walk_at "pe") (by walk_at "pe") (by walk_at "pe") (c_clear_handles (nlt hn) (R.ext E12 (by decide)) ok (hR.ext E12 (by decide)) hm2 fun σ3 v E3 hR3 => ?_))
  have R3 := (R.ext E12 (by decide)).ext E3 (by decide)
  refine ex_nil (ex_assign (ev_c3 53 (by decide) (by walk_at "pe") (by walk_at "pe") (by walk_at "pe") (c_pick_finals (nlt hn) R3 ok (E3.get hm2) fun σ4 K P E4 R4 hP => ?_)))
  have hm4 := E4.get (E3.get hm2)
  have ok4 : HOk (livH H g M1 K) := livH_ok ok
  refine ex_expr (ev_c4 32 (by decide) (by walk_at "pe") (by walk_at "pe") (by walk_at "pe") (by walk_at "pe") (c_reach_more (H := livH H g M1 K) (nlt hn) R4 ok4 hm4 mo1 hP (fun b hb => .inr (ok.fs b (List.mem_filter.mp hb).1)) fun σ5 M2 E5 hdr2 mo2 hm5 => ?_))
  refine ex_ifb (pt_cmp (pe_loc rfl) pe_none (po_isn (v := .ref h.a) (by intro h; cases h))) (fun _ => ?_) fun hc => by cases hc
  refine ex_expr (ev_c5 51 (by decide) (by walk_at "pe") (by walk_at "pe") (by walk_at "pe") (by walk_at "pe") (by walk_at "pe") (c_clear_handles (H := livH H g M1 K) (h := { h with rows := h.rows.map (cutF H.ts g M1 1) }) (nlt hn) (HRep.ext R4 E5 (by decide)) ok4 ((hR3.ext E4 (by decide)).ext E5 (by decide)) hm5 fun σ6 v E6 hR6 => ?_))
  refine ex_nil (ex_ret (ev_pe (by walk_at "pe") (q σ6 m K M1 M2 ?_ hdr hdr2 mo1 mo2 ((HRep.ext R4 E5 (by decide)).ext E6 (by decide)) hR6 (E6.get hm5))))
  exact (E12.mono (by first | decide | simp)).trans ((E3.mono (by first | decide | simp)).trans ((E4.mono (by first | decide | simp)).trans ((E5.mono (by first | decide | simp)).trans (E6.mono (by first | decide | simp)))))
end


noncomputable def mvOf (H : Hp) (g : Int) (M : List Int) : List (Int × Int) := (plan g M H.ts (endOld g H.ts)).1
noncomputable def movH (H : Hp) (g : Int) (mv : List (Int × Int)) (L A K : Addr) (mo : Int) : Hp :=
  { H with th := L, at_ := A, fi := K, ts := (H.ts.filter (stayB g mv)).map (settleS g mv), fs := H.fs.map (fwd mv), rs := H.rs.map (fwd mv), top := topOf ((H.ts.filter (stayB g mv)).map (settleF g mv)), moved := mo }
noncomputable def cardH (H : Hp) (D : Addr) (lim : Int) : Hp := { H with ca := D, cs := cardsOf (youngPairs H.ts H.ts), fresh := 0, limit := lim }

section
variable {W : Wd} {X : Cx} {l : Lcl} {σ : Store} {Q : MVal → Store → Prop} {H : Hp} {t : Th} {st : MSt} {m k y z : Addr} {g a s : Int} {as : List Addr} {cs : List (List Int)} {c M ps : List Int} {h : Hd} {mv : List (Int × Int)} {n : Int} {w : MVal} {RR : List Nat} {r : Nat}

theorem c_collect (hn : X.n < 54) (R : HRep σ H) (ok : HOk H) (hR : HdRep σ h) (hy : Roots σ y as cs) (hw : ∀ c ∈ rootsOf H h.rows cs, ∀ b ∈ c, Wrd H.ts b)
    (hok : ∀ M1 M2, DrainR H.ts g (st0 H g (rootsOf H h.rows cs)) M1 → DrainR H.ts g (pushs H.ts g (H.fs.filter (dead H.ts g M1)) (M1, [])) M2 → MOk H.ts (M1, []) → MOk H.ts (M2, []) →
      ((H.ts.filter (stayB g (mvOf H g M2))).map fun t => (settleF g (mvOf H g M2) t).addr).Nodup ∧ ∀ K L A K2 mo, HOk (movH (livH H g M1 K) g (mvOf H g M2) L A K2 mo))
    (q : ∀ σ' M1 M2 K L A K2 mo D lim, Ext [1, 4, 5, 6, 9, 10, 11, 13, 40, 41, 42, 43, 45, 46, 52] σ σ' → DrainR H.ts g (st0 H g (rootsOf H h.rows cs)) M1 → DrainR H.ts g (pushs H.ts g (H.fs.filter (dead H.ts g M1)) (M1, [])) M2 → MOk H.ts (M1, []) → MOk H.ts (M2, []) →
      HRep σ' (cardH (movH (livH H g M1 K) g (mvOf H g M2) L A K2 mo) D lim) → HdRep σ' { h with rows := (livR H g M1 M2 h.rows).map (movF (mvOf H g M2)) } → Roots σ' y as (cs.map (·.map (fwd (mvOf H g M2)))) →
      Q (.int ((H.ts.length : Int) - ((H.ts.filter (stayB g (mvOf H g M2))).length : Nat))) σ') :
    OpC W X l σ (.ref (W.fn 74)) [.ref H.a, .ref y, .ref h.a, .int g] Q := by
  refine def_call0 (x := "collect") 74 (by decide) ["heap", "lists", "handles", "gen"] (nle hn) rfl (by walk_at "b4") rfl (fun _ => rfl) rfl rfl rfl ?_
  intro A₁ h₀ L₁ outer base A₀ cdv
  try (refine ex_let2 ?_; intro lX QX)
  obtain ⟨dx, nf, hz, hH⟩ := R.hp
  have num := ok.num
  refine ex_assign (ev_pe (pe_len (by walk_at "pe") R.th (by first | exact lenm (by omega) | (rw [List.length_map]; omega))) ?_)
  refine ex_assign (ev_c4 73 (by decide) (by walk_at "pe") (by walk_at "pe") (by walk_at "pe") (by walk_at "pe") (c_find_living (nlt hn) R ok hR hy hw fun σ1 m K M1 M2 E1 hd1 hd2 mo1 mo2 R1 hR1 hm1 => ?_))
  obtain ⟨had, hok2⟩ := hok M1 M2 hd1 hd2 mo1 mo2
  have ok1 : HOk (livH H g M1 K) := livH_ok ok
  refine ex_assign (ev_c3 60 (by decide) (by walk_at "pe") (by walk_at "pe") (by walk_at "pe") (c_plan_moves (H := livH H g M1 K) (nlt hn) R1 ok1 hm1 fun σ2 D2 E2 hD2 hmv => ?_))
  have hmv : σ2 D2 = some ⟨47, .dI ((mvOf H g M2).map mvv)⟩ := hmv
  generalize hmve : mvOf H g M2 = mv at *
  have hy2 : Roots σ2 y as cs := (hy.ext E1).ext E2
  have nf1 := ok1.nfs
  refine ex_expr (ev_c4 70 (by decide) (by walk_at "pe") (by walk_at "pe") (by walk_at "pe") (by walk_at "pe") (c_move_all (H := livH H g M1 K) (nlt hn) (R1.ext E2 (by decide)) num ok.nsl (by omega) (by omega) hy2 hmv had fun σ3 L A K2 mo E3 R3 hy3 => ?_))
  have hok3 := hok2 K L A K2 mo
  have R3 : HRep σ3 (movH (livH H g M1 K) g mv L A K2 mo) := R3
  refine ex_ifb (pt_cmp (pe_loc rfl) pe_none (po_isn (v := .ref h.a) (by intro h; cases h))) (fun _ => ?_) fun hc => by cases hc
  refine ex_expr (ev_c2 52 (by decide) (by walk_at "pe") (by walk_at "pe") (c_move_handles (h := { h with rows := livR H g M1 M2 h.rows }) (nlt hn) ((hR1.ext E2 (by decide)).ext E3 (by decide)) (E3.get hmv) fun σ4 E4 hR4 => ?_))
  refine ex_nil (ex_expr (ev_c1 37 (by decide) (by walk_at "pe") (c_renew_cards (H := movH (livH H g M1 K) g mv L A K2 mo) (nlt hn) (R3.ext E4 (by decide)) hok3 fun σ5 D5 E5 R5 => ?_)))
  refine ex_expr (ev_c2 19 (by decide) (by walk_at "pe") (by walk_at "pe") (c_note_collected (H := { movH (livH H g M1 K) g mv L A K2 mo with ca := D5, cs := cardsOf (youngPairs (movH (livH H g M1 K) g mv L A K2 mo).ts (movH (livH H g M1 K) g mv L A K2 mo).ts) }) (nlt hn) R5 fun σ6 lim E6 R6 => ?_))
  have R6 : HRep σ6 (cardH (movH (livH H g M1 K) g mv L A K2 mo) D5 lim) := R6
  obtain ⟨dx6, nf6, hz6, hH6⟩ := R6.hp
  have num6 := hok3.num
  have hth6 := R6.th
  refine ex_ret (ev_pe (pe_bin (pe_loc rfl) (pe_len (by walk_at "pe") hth6 (by rw [List.length_map]; show (movH (livH H g M1 K) g mv L A K2 mo).ts.length ≤ _; omega)) po_sub) ?_)
  have el : ((cardH (movH (livH H g M1 K) g mv L A K2 mo) D5 lim).ts.map Th.rv).length = (H.ts.filter (stayB g mv)).length := by rw [List.length_map]; show ((H.ts.filter (stayB g mv)).map (settleS g mv)).length = _; rw [List.length_map]
  rw [el, List.length_map]
  refine q σ6 M1 M2 K L A K2 mo D5 lim ?_ hd1 hd2 mo1 mo2 (by rw [hmve]; exact R6) (by rw [hmve]; exact (hR4.ext E5 (by decide)).ext E6 (by decide)) (by rw [hmve]; exact ((hy3.ext E4).ext E5).ext E6) |> fun x => by rw [hmve] at x; exact x
  exact (E1.mono (by first | decide | simp)).trans ((E2.mono (by first | decide | simp)).trans ((E3.mono (by first | decide | simp)).trans ((E4.mono (by first | decide | simp)).trans ((E5.mono (by first | decide | simp)).trans (E6.mono (by first | decide | simp))))))
end


/-! ## the law's table -/
set_option genInjectivity false in
structure Td where
  here : List Int
  whr : List Int
  gens : List Int
  slots : List (List Int)
  roots : List Int
  fin : List Int
  rdy : List Int
  rows : List (Int × Int × Int)
  top : Int
set_option genInjectivity false in
structure Tb where
  d : Td
  a : Addr
  ah : Addr
  aw : Addr
  ag : Addr
  ax : Addr
  ar : Addr
  af : Addr
  ay : Addr
  ao : Addr
  sl : List Addr
  rw : List Addr
noncomputable def Tb.kv (T : Tb) : List (Str × MVal) := [("here", .ref T.ah), ("where", .ref T.aw), ("gens", .ref T.ag), ("slots", .ref T.ax), ("roots", .ref T.ar), ("finals", .ref T.af), ("ready", .ref T.ay), ("rows", .ref T.ao), ("top", .int T.d.top)]
noncomputable def rowv (r : Int × Int × Int) : List MVal := [.int r.1, .int r.2.1, .int r.2.2]
structure WRep (σ : Store) (T : Tb) : Prop where
  w : σ T.a = some ⟨20, .dS T.kv⟩
  here : σ T.ah = some ⟨21, .list (T.d.here.map .int)⟩
  whr : σ T.aw = some ⟨22, .list (T.d.whr.map .int)⟩
  gens : σ T.ag = some ⟨23, .list (T.d.gens.map .int)⟩
  slots : σ T.ax = some ⟨24, .list (T.sl.map .ref)⟩
  sl : All2 (fun a s => σ a = some ⟨25, .list (s.map .int)⟩) T.sl T.d.slots
  roots : σ T.ar = some ⟨26, .list (T.d.roots.map .int)⟩
  fin : σ T.af = some ⟨27, .list (T.d.fin.map .int)⟩
  rdy : σ T.ay = some ⟨28, .list (T.d.rdy.map .int)⟩
  rows : σ T.ao = some ⟨29, .list (T.rw.map .ref)⟩
  rw : All2 (fun a r => σ a = some ⟨30, .list (rowv r)⟩) T.rw T.d.rows
  nd : T.sl.Nodup ∧ T.rw.Nodup
noncomputable def noW (S : List Nat) : Bool := [20, 21, 22, 23, 24, 25, 26, 27, 28, 29, 30].all fun r => !S.contains r
theorem WRep.ext {S : List Nat} {σ σ' : Store} {T : Tb} (R : WRep σ T) (E : Ext S σ σ') (hS : noW S = true) : WRep σ' T := by
  have g : ∀ r ∈ [20, 21, 22, 23, 24, 25, 26, 27, 28, 29, 30], r ∉ S := fun r hr => by
    have := List.all_eq_true.mp hS r hr
    simpa using this
  exact ⟨E.keep _ _ R.w (g 20 (by decide)), E.keep _ _ R.here (g 21 (by decide)), E.keep _ _ R.whr (g 22 (by decide)), E.keep _ _ R.gens (g 23 (by decide)), E.keep _ _ R.slots (g 24 (by decide)), R.sl.mono fun _ _ e => E.keep _ _ e (g 25 (by decide)),
    E.keep _ _ R.roots (g 26 (by decide)), E.keep _ _ R.fin (g 27 (by decide)), E.keep _ _ R.rdy (g 28 (by decide)), E.keep _ _ R.rows (g 29 (by decide)), R.rw.mono fun _ _ e => E.keep _ _ e (g 30 (by decide)), R.nd⟩
noncomputable def InN (n : Nat) (a : Int) : Prop := 0 ≤ a ∧ a < n
noncomputable def InM (n : Nat) (a : Int) : Prop := -1 ≤ a ∧ a < n
structure TOk (T : Td) : Prop where
  n1 : T.whr.length = T.gens.length
  n2 : T.slots.length = T.gens.length
  n : T.gens.length ≤ 60
  here : ∀ i ∈ T.here, InN T.gens.length i
  hlen : T.here.length ≤ 60
  sl : ∀ s ∈ T.slots, s.length ≤ 2 ∧ ∀ b ∈ s, InM T.gens.length b
  roots : T.roots.length = 3 ∧ ∀ b ∈ T.roots, InM T.gens.length b
  fin : ∀ b ∈ T.fin, InN T.gens.length b
  rdy : ∀ b ∈ T.rdy, InN T.gens.length b
  flen : T.fin.length + T.rdy.length ≤ 1000
  rows : ∀ r ∈ T.rows, InM T.gens.length r.2.1
  rlen : T.rows.length ≤ 1000
noncomputable def gA (T : Td) (a : Int) : Int := T.gens.getD a.toNat 0
noncomputable def sA (T : Td) (a : Int) : List Int := T.slots.getD a.toNat []
noncomputable def wA (T : Td) (a : Int) : Int := T.whr.getD a.toNat 0
noncomputable def vA (T : Td) (a : Int) : Int := if a < 0 then 0 else wA T a
inductive RchI (G : Int → Int) (Sl : Int → List Int) (g : Int) (S : Int → Prop) : Int → Prop
  | seed (a : Int) : S a → 0 ≤ a → G a ≤ g → RchI G Sl g S a
  | step (a b : Int) : RchI G Sl g S a → b ∈ Sl a → 0 ≤ b → G b ≤ g → RchI G Sl g S b
structure ReachL (G : Int → Int) (Sl : Int → List Int) (g : Int) (seeds L : List Int) : Prop where
  srt : L.Pairwise (· ≤ ·)
  nd : L.Nodup
  mem : ∀ a, a ∈ L ↔ RchI G Sl g (· ∈ seeds) a
set_option genInjectivity false in
structure RSt where
  D : Addr
  todo : List Int
  found : List Int
  spot : Nat
structure RInv (T : Td) (g : Int) (seeds : List Int) (s : RSt) : Prop where
  le : s.spot ≤ s.todo.length
  len : s.todo.length ≤ 5000 + 2 * s.found.length
  rng : ∀ a ∈ s.todo, InM T.gens.length a
  cand : ∀ a ∈ s.todo, 0 ≤ a → gA T a ≤ g → RchI (gA T) (sA T) g (· ∈ seeds) a
  snd : ∀ a ∈ s.found, RchI (gA T) (sA T) g (· ∈ seeds) a ∧ InN T.gens.length a
  nd : s.found.Nodup
  done : ∀ (i : Nat) (a : Int), i < s.spot → s.todo[i]? = some a → 0 ≤ a → gA T a ≤ g → a ∈ s.found
  clo : ∀ f ∈ s.found, ∀ b ∈ sA T f, b ∈ s.todo
  seeds : ∀ a ∈ seeds, a ∈ s.todo
theorem int_nodup_len {n : Nat} {xs : List Int} (nd : xs.Nodup) (h : ∀ a ∈ xs, InN n a) : xs.length ≤ n := by
  have := nodup_len nd (ys := (List.range n).map fun k : Nat => (k : Int)) fun a ha => by
    obtain ⟨h1, h2⟩ := h a ha
    exact List.mem_map.mpr ⟨a.toNat, List.mem_range.mpr (by omega), by omega⟩
  simpa using this
theorem RInv.fin {T : Td} {g : Int} {seeds : List Int} {s : RSt} (h : RInv T g seeds s) (e : s.todo.length ≤ s.spot) (a : Int) : a ∈ s.found ↔ RchI (gA T) (sA T) g (· ∈ seeds) a := by
  refine ⟨fun ha => (h.snd a ha).1, fun hr => ?_⟩
  have all : ∀ a ∈ s.todo, 0 ≤ a → gA T a ≤ g → a ∈ s.found := fun a ha h0 hg => by
    obtain ⟨i, hi⟩ := List.getElem?_of_mem ha
    obtain ⟨hl, _⟩ := List.getElem?_eq_some_iff.mp hi
    exact h.done i a (by omega) hi h0 hg
  induction hr with
  | seed a hs h0 hg => exact all a (h.seeds a hs) h0 hg
  | step a b _ hb h0 hg ih => exact all b (h.clo a ih b hb) h0 hg

section
variable {W : Wd} {X : Cx} {l : Lcl} {σ : Store} {Q : MVal → Store → Prop} {e₁ e₂ ve se : Expr} {T : Tb} {x y : Addr} {r : Nat} {ns seeds : List Int} {a g k : Int} {v : MVal}
theorem po_ii (hx : σ x = some ⟨r, .list (ns.map .int)⟩) (h0 : 0 ≤ k) (hk : k < ns.length) (hz : ns.length ≤ 1000000)
    (hs : ∀ u, subscripted se false (.ref x) (.int k u) = operate [.ref x, .int k u] (getItem (.ref x) (.int k u)) := by intro _; with_unfolding_all rfl) :
    PO2 W X l σ (subscriptTail ve se) (.ref x) (.int k) (.int (ns.getD k.toNat 0)) := by
  have h : ns[k.toNat]? = some (ns.getD k.toNat 0) := by rw [List.getD_eq_getElem?_getD, List.getElem?_eq_getElem (by omega)]; rfl
  exact po_idx hx h0 (by rw [List.getElem?_map, h]; rfl) (by omega) hs

theorem c_law_size {n : Int} (hn : X.n < 60) (q : Q (.int (sizeOf' n)) σ) : OpC W X l σ (.ref (W.fn 78)) [.int n] Q := by
  refine def_call0 (x := "_law_size") 78 (by decide) ["count"] hn rfl (by walk_at "b1") rfl (fun _ => rfl) rfl rfl rfl ?_
  intro A h₀ L outer base A₀ cdv
  refine ex_let3 ?_
  intro Xx ll Qq
  refine ex_ret (ev_pe (pe_max pe_int (by walk_at "pe")) ?_)
  have : (if 3 < 2 + n then 2 + n else 3) = sizeOf' n := by unfold sizeOf'; split <;> split <;> omega
  rw [this]; exact q
theorem c_law_value (hn : X.n < 60) (hy : σ y = some ⟨r, .list (ns.map .int)⟩) (ha : InM ns.length a) (hz : ns.length ≤ 1000000) (q : Q (sv (if a < 0 then 0 else ns.getD a.toNat 0)) σ) : OpC W X l σ (.ref (W.fn 79)) [.int a, .ref y] Q := by
  refine def_call0 (x := "_law_value") 79 (by decide) ["a", "where"] hn rfl (by walk_at "b2") rfl (fun _ => rfl) rfl rfl rfl ?_
  intro A h₀ L outer base A₀ cdv
  refine ex_let3 ?_
  intro Xx ll Qq
  refine ex_ifb (by walk_at "pt") (fun hc => ?_) fun hc => ?_
  · rw [if_pos (of_decide_eq_true hc)] at q
    exact ex_ret (ev_tup (eva_cons (ev_pe (by walk_at "pe") (eva_cons (ev_pe (by walk_at "pe") (eva_nil ⟨[.int 4, .int 0], rfl, Nat.le_of_ble_eq_true rfl, q⟩))))))
  · try (refine ex_let2 ?_; intro lX QX)
    have hc := of_decide_eq_false hc
    rw [if_neg hc] at q
    exact ex_nil (ex_ret (ev_tup (eva_cons (ev_pe (by walk_at "pe") (eva_cons (ev_pe (pe_sub (by walk_at "pe") (by walk_at "pe") (po_ii hy (by omega) ha.2 hz)) (eva_nil ⟨[.int 4, .int _], rfl, Nat.le_of_ble_eq_true rfl, q⟩)))))))

theorem WRep.slot (R : WRep σ T) {i : Nat} {s : List Int} (h : T.d.slots[i]? = some s) : ∃ b, T.sl[i]? = some b ∧ σ b = some ⟨25, .list (s.map .int)⟩ := R.sl.get' h
theorem TOk.sA {T : Td} (ok : TOk T) {a : Int} (h : InN T.gens.length a) : T.slots[a.toNat]? = some (sA T a) ∧ (Mine.sA T a).length ≤ 2 ∧ ∀ b ∈ Mine.sA T a, InM T.gens.length b := by
  obtain ⟨h1, h2⟩ := h
  have n2 := ok.n2
  have e : T.slots[a.toNat]? = some (Mine.sA T a) := by unfold Mine.sA; rw [List.getD_eq_getElem?_getD, List.getElem?_eq_getElem (by omega)]; rfl
  exact ⟨e, ok.sl _ (List.mem_of_getElem? e)⟩

theorem c_law_reach (hn : X.n < 60) (R : WRep σ T) (ok : TOk T.d) (hy : σ y = some ⟨r, .list (seeds.map .int)⟩) (hb : ∀ a ∈ seeds, InM T.d.gens.length a) (hz : seeds.length ≤ 5000)
    (q : ∀ σ' D L, Ext [] σ σ' → σ D = none → σ' D = some ⟨63, .list (L.map .int)⟩ → ReachL (gA T.d) (sA T.d) g seeds L → Q (.ref D) σ') : OpC W X l σ (.ref (W.fn 80)) [.ref T.a, .int g, .ref y] Q := by
  refine def_call0 (x := "_law_reach") 80 (by decide) ["w", "gen", "seeds"] hn rfl (by walk_at "b3") rfl (fun _ => rfl) rfl rfl rfl ?_
  intro A h₀ L₁ outer base A₀ cdv
  refine ex_let3 ?_
  intro Xx ll Qq
  refine ex_assign_comp 61 [] seeds .int (fun _ => true) .int rfl (by decide) (by decide) rfl rfl rfl (ev_pe (by walk_at "pe") ⟨.inl ⟨y, r, rfl, hy⟩, by omega, fun C a ha => rfl, fun C a ha _ => pe_loc rfl, fun D0 hD0 => ?_⟩)
  have e0 : (seeds.filter fun _ => true).map MVal.int = seeds.map .int := by rw [List.filter_eq_self.mpr fun _ _ => rfl]
  rw [e0]
  have hD0' : (σ.set D0 ⟨61, .list (seeds.map .int)⟩) D0 = some ⟨61, .list (seeds.map .int)⟩ := Store.set_self _ _ _
  have E0 : Ext [] σ (σ.set D0 ⟨61, .list (seeds.map .int)⟩) := .new hD0
  generalize σ.set D0 ⟨61, .list (seeds.map .int)⟩ = σ0 at hD0' E0
  refine ex_assign (ev_list 62 (eva_nil ⟨Nat.le_of_ble_eq_true rfl, fun F hF => ?_⟩))
  have nF : σ F = none := E0.live hF
  refine ex_assign (ev_pe pe_int ?_)
  refine ex_while_l (ST := RSt) (fun s => [("w", .ref T.a), ("gen", .int g), ("todo", .ref s.D), ("found", .ref F), ("spot", .int s.spot)]) (fun s => 3 * (T.d.gens.length - s.found.length) + (s.todo.length - s.spot))
    (fun s σ₁ => Ext [] σ σ₁ ∧ σ₁ s.D = some ⟨61, .list (s.todo.map .int)⟩ ∧ σ₁ F = some ⟨62, .list (s.found.map .int)⟩ ∧ RInv T.d g seeds s) ⟨D0, seeds, [], 0⟩
    ⟨rfl, rfl, rfl, rfl, rfl, trivial⟩ ⟨E0.trans (.new hF), Store.get_new hD0' hF, Store.set_self _ _ _, ?_⟩ ?_
  · exact ⟨Nat.zero_le _, by simpa using hz, hb, fun a ha h0 hg => .seed a ha h0 hg, fun a ha => (by cases ha), List.nodup_nil, fun i a h => absurd h (Nat.not_lt_zero _), fun f hf => (by cases hf), fun a ha => ha⟩
  rintro s σ₁ ⟨E, hD, hF1, I⟩
  try (refine ex_let2 ?_; intro lX QX)
  have hN := ok.n
  have hfl : s.found.length ≤ T.d.gens.length := int_nodup_len I.nd fun a ha => (I.snd a ha).2
  have hle := I.le
  have hlen := I.len
  have R1 := R.ext E (by decide)
  have hw := R1.w
  have hg1 := R1.gens
  refine te_pt (pt_cmp (by walk_at "pe") (pe_len (by walk_at "pe") hD (by first | exact lenm (by omega) | (rw [List.length_map]; omega))) po_lt) ?_
  rw [List.length_map]
  by_cases hlt : s.spot < s.todo.length
  · rw [if_pos (by simpa using hlt)]
    have ha : s.todo[s.spot]? = some s.todo[s.spot] := List.getElem?_eq_getElem hlt
    generalize hae : s.todo[s.spot] = a at ha
    have ham : a ∈ s.todo := List.mem_of_getElem? ha
    have har := I.rng a ham
    have hgd : s.todo.getD (s.spot : Int).toNat 0 = a := by rw [Int.toNat_natCast]; exact getD_of ha
    refine ex_assign (ev_pe (pe_sub (by walk_at "pe") (by walk_at "pe") (po_ii hD (by omega) (by omega) (by omega))) ?_)
    rw [hgd]
    refine ex_aug rfl (ev_pe pe_int (op2_po po_iadd ?_))
    have next : ∀ (nf : a < 0 ∨ ¬ gA T.d a ≤ g ∨ a ∈ s.found), RInv T.d g seeds { s with spot := s.spot + 1 } := fun nf => { I with
      le := hlt
      done := fun i b hi hib h0 hgb => by
        by_cases hi' : i < s.spot
        · exact I.done i b hi' hib h0 hgb
        · have : i = s.spot := by have : i < s.spot + 1 := hi; omega
          subst this
          have hib : s.todo[s.spot]? = some b := hib
          rw [ha] at hib; cases hib
          rcases nf with h | h | h
          · omega
          · exact absurd hgb h
          · exact h }
    by_cases h0 : 0 ≤ a
    · try (refine ex_let2 ?_; intro lX QX)
      have haN : InN T.d.gens.length a := ⟨h0, har.2⟩
      have haN2 : a < T.d.gens.length := har.2
      refine ex_ifb (pt_and (by walk_at "pt") fun _ => pt_and (pt_cmp (pe_sub (by walk_at "pe") (by walk_at "pe") (po_ii hg1 h0 har.2 (by omega))) (by walk_at "pe") po_le) fun _ => pt_and (pt_cmp (by walk_at "pe") (by walk_at "pe") (po_notin hF1)) fun _ => pt_and0) (fun hc => ?_) fun hc => ?_
      · try (refine ex_let2 ?_; intro lX QX)
        have hc' : gA T.d a ≤ g ∧ a ∉ s.found := by
          simp only [Bool.and_true, Bool.and_eq_true, decide_eq_true_eq] at hc
          exact ⟨hc.2.1, hc.2.2⟩
        obtain ⟨hs1, hs2, hs3⟩ := ok.sA haN
        obtain ⟨b, hb1, hb2⟩ := R1.slot hs1
        refine ex_append (by walk_at "pe") hF1 (by first | exact lenm (by omega) | (rw [List.length_map]; omega)) (ev_pe (by walk_at "pe") ⟨hF1, ?_⟩)
        have hDF : (σ₁.set F ⟨62, .list (s.found.map .int ++ [.int a])⟩) s.D = some ⟨61, .list (s.todo.map .int)⟩ := Store.get_role hD hF1 (by decide)
        have E2 : Ext [62] σ₁ (σ₁.set F ⟨62, .list (s.found.map .int ++ [.int a])⟩) := .set hF1 (by decide)
        have E2' : Ext [] σ (σ₁.set F ⟨62, .list (s.found.map .int ++ [.int a])⟩) := E.setNew nF
        have hF2 : (σ₁.set F ⟨62, .list (s.found.map .int ++ [.int a])⟩) F = some ⟨62, .list ((s.found ++ [a]).map .int)⟩ := by rw [Store.set_self, List.map_append]; rfl
        generalize σ₁.set F ⟨62, .list (s.found.map .int ++ [.int a])⟩ = σ2 at hDF E2 E2' hF2
        have R2 := R1.ext E2 (by decide)
        have hw2 := R2.w
        have hb2' := E2.get hb2
        refine ex_assign (ev_bin (ev_pe (by walk_at "pe") (ev_pe (pe_sub (by walk_at "pe") (by walk_at "pe") (po_idx (v := .ref b) R2.slots h0 (by rw [List.getElem?_map, hb1]; rfl) (by omega))) (op_listadd 61 hDF hb2' (by simp only [List.length_map]; omega) fun D2 hD2 => ?_))))
        have hInN : ∀ x ∈ s.found ++ [a], RchI (gA T.d) (sA T.d) g (· ∈ seeds) x ∧ InN T.d.gens.length x := fun x hx => by
          rcases List.mem_append.mp hx with hx | hx
          · exact I.snd x hx
          · simp at hx; subst hx; exact ⟨I.cand x ham h0 hc'.1, haN⟩
        have hnd : (s.found ++ [a]).Nodup := List.nodup_append.mpr ⟨I.nd, by simp, fun x hx z hz => by simp at hz; subst hz; rintro rfl; exact hc'.2 hx⟩
        have hfl2 := int_nodup_len hnd fun x hx => (hInN x hx).2
        rw [List.length_append, List.length_singleton] at hfl2
        refine ex_nil (ex_nil ⟨⟨D2, s.todo ++ sA T.d a, s.found ++ [a], s.spot + 1⟩, ?_, ⟨rfl, rfl, rfl, rfl, rfl, trivial⟩, E2'.trans (.new hD2), ?_, Store.get_new hF2 hD2, ?_⟩)
        · simp only [List.length_append, List.length_singleton]; omega
        · rw [Store.set_self, List.map_append]
        · try (refine ex_let2 ?_; intro lX QX)
          refine ⟨by simp only [List.length_append]; omega, by simp only [List.length_append, List.length_singleton]; omega, fun x hx => ?_, fun x hx hx0 hxg => ?_, hInN, hnd, fun i x hi hix hx0 hxg => ?_, fun f hf x hx => ?_, fun x hx => List.mem_append_left _ (I.seeds x hx)⟩
          · try (refine ex_let2 ?_; intro lX QX)
            rcases List.mem_append.mp hx with hx | hx
            · exact I.rng x hx
            · exact hs3 x hx
          · try (refine ex_let2 ?_; intro lX QX)
            rcases List.mem_append.mp hx with hx | hx
            · exact I.cand x hx hx0 hxg
            · exact .step a x (I.cand a ham h0 hc'.1) hx hx0 hxg
          · dsimp only at hi hix
            rw [List.getElem?_append_left (by omega)] at hix
            by_cases hi' : i < s.spot
            · exact List.mem_append_left _ (I.done i x hi' hix hx0 hxg)
            · have : i = s.spot := by omega
              subst this
              rw [ha] at hix; cases hix
              exact List.mem_append_right _ (by simp)
          · try (refine ex_let2 ?_; intro lX QX)
            rcases List.mem_append.mp hf with hf | hf
            · exact List.mem_append_left _ (I.clo f hf x hx)
            · simp at hf; subst hf; exact List.mem_append_right _ hx
      · try (refine ex_let2 ?_; intro lX QX)
        have hc' : ¬ gA T.d a ≤ g ∨ a ∈ s.found := by
          by_cases hga : gA T.d a ≤ g
          · try (refine ex_let2 ?_; intro lX QX)
            refine .inr ?_
            by_cases hm : a ∈ s.found
            · exact hm
            · try (refine ex_let2 ?_; intro lX QX)
              exfalso
              rw [decide_eq_true h0, decide_eq_true (p := T.d.gens.getD a.toNat 0 ≤ g) hga, decide_eq_true hm] at hc
              cases hc
          · exact .inl hga
        exact ex_nil (ex_nil ⟨{ s with spot := s.spot + 1 }, by dsimp only; omega, ⟨rfl, rfl, rfl, rfl, rfl, trivial⟩, E, hD, hF1, next (.inr hc')⟩)
    · try (refine ex_let2 ?_; intro lX QX)
      refine ex_ifb (pt_and (d := true) (by walk_at "pt") fun hf => absurd hf (by simp [h0])) (fun hc => ?_) fun hc => ?_
      · simp [h0] at hc
      · exact ex_nil (ex_nil ⟨{ s with spot := s.spot + 1 }, by dsimp only; omega, ⟨rfl, rfl, rfl, rfl, rfl, trivial⟩, E, hD, hF1, next (.inl (by omega))⟩)
  · rw [if_neg (by simpa using hlt)]
    refine ex_ret (ev_sorted (ev_pe (by walk_at "pe") (call_sorted 63 hF1 (by omega) fun D L hD2 hp hs => ?_)))
    refine q _ D L (E.trans (.new hD2)) (E.live hD2) (Store.set_self _ _ _) ⟨hs, hp.nodup_iff.mpr I.nd, fun a => ?_⟩
    rw [hp.mem_iff]; exact I.fin (by omega) a
end


theorem all2_set {β : Type} {f : β → Body} {ro : Nat} {σ : Store} : ∀ {as : List Addr} {bs : List β} {i : Nat} {a : Addr} {b' : β}, All2 (fun a b => σ a = some ⟨ro, f b⟩) as bs → as.Nodup → as[i]? = some a → All2 (fun x b => (σ.set a ⟨ro, f b'⟩) x = some ⟨ro, f b⟩) as (bs.set i b')
  | [], [], _, _, _, _, _, h => by simp at h
  | x :: as, c :: bs, 0, a, b', ⟨h, t⟩, nd, e => by
    simp at e; subst e
    rw [List.nodup_cons] at nd
    refine ⟨Store.set_self _ _ _, ?_⟩
    have : ∀ {as : List Addr} {bs : List β}, All2 (fun a b => σ a = some ⟨ro, f b⟩) as bs → x ∉ as → All2 (fun y b => (σ.set x ⟨ro, f b'⟩) y = some ⟨ro, f b⟩) as bs := by
      intro as
      try (refine ex_let2 ?_; intro lX QX)
      induction as with
      | nil => intro bs h _; cases bs with | nil => trivial | cons _ _ => exact h.elim
      | cons z zs ih =>
        intro bs h hn
        try (refine ex_let2 ?_; intro lX QX)
        cases bs with
        | nil => exact h.elim
        | cons y ys =>
          obtain ⟨e, t⟩ := h
          rw [List.mem_cons, not_or] at hn
          exact ⟨(Store.set_ne _ _ (Ne.symm hn.1)).trans e, ih t hn.2⟩
    exact this t nd.1
  | x :: as, c :: bs, i + 1, a, b', ⟨e0, t⟩, nd, e => by
    rw [List.nodup_cons] at nd
    have e' : as[i]? = some a := by simpa using e
    refine ⟨(Store.set_ne _ _ ?_).trans e0, all2_set t nd.2 e'⟩
    rintro rfl; exact nd.1 (List.mem_of_getElem? e')
  | [], _ :: _, _, _, _, h, _, _ => h.elim
  | _ :: _, [], _, _, _, h, _, _ => h.elim

section
variable {W : Wd} {X : Cx} {l : Lcl} {σ : Store} {e : Expr} {body rest : List Stmt} {pos : Pos}
inductive ForS (W : Wd) (X : Cx) (l : Lcl) (xl : Str) (body rest : List Stmt) (Q : Flw → Lcl → Store → Prop) (ST : Type) (v : MVal) (σ : Store) : Prop
  | mk (y : Addr) (vs : List MVal) (s₀ : ST) (xs : Nat → ST → List (Str × MVal)) (P : Nat → ST → Store → Prop) (h1 : v = .ref y) (h2 : Has l (xs 0 s₀)) (h3 : P 0 s₀ σ) (h4 : ∀ k s σ₂, P k s σ₂ → ∃ r, σ₂ y = some ⟨r, .list vs⟩)
    (h5 : ∀ k u s σ₂, vs[k]? = some u → P k s σ₂ → Ex W X (upd (lc (xs k s)) xl u) σ₂ body (Fin Q fun l σ => ∃ s', Has l (xs (k + 1) s') ∧ P (k + 1) s' σ)) (h6 : ∀ s σ₂, P vs.length s σ₂ → Ex W X (lc (xs vs.length s)) σ₂ rest Q) : ForS W X l xl body rest Q ST v σ
theorem ex_for_s {ST : Type} {xl : Str} {px : Pos} {Q : Flw → Lcl → Store → Prop}
    (h : Ev W X l σ e (ForS W X l xl body rest Q ST))
    (hk : X.env.kindOf xl = some .local := by rfl) (hs : ∀ x, foldedSetIterable e X.env x = pure x := by intro _; rfl) : Ex W X l σ (.For (.Name xl px) e body [] pos :: rest) Q := by
  refine ex_for (h.mono ?_) hk hs
  rintro v σ1 ⟨y, vs, s₀, xs, P, rfl, hl, h0, hy, turn, fin⟩
  try (refine ex_let2 ?_; intro lX QX)
  refine ⟨y, vs, fun k l₁ σ₁ => ∃ s, Has l₁ (xs k s) ∧ P k s σ₁, rfl, ⟨s₀, hl, h0⟩, fun k l₂ σ₂ ⟨s, _, hp⟩ => hy k s σ₂ hp, fun k u l₂ σ₂ hu ⟨s, hh, hp⟩ => ?_, fun l₂ σ₂ ⟨s, hh, hp⟩ => ex_weak (fin s σ₂ hp) (le_lc hh)⟩
  refine ex_weak ((turn k u s σ₂ hu hp).mono ?_) (l' := upd (lc (xs k s)) xl u) ?_
  · intro f l3 σ3 hq
    try (refine ex_let2 ?_; intro lX QX)
    cases f with
    | ret v => exact hq
    | next => exact ⟨l3, Lcl.le_refl _, hq⟩
  · intro z v e
    try (refine ex_let2 ?_; intro lX QX)
    unfold upd at e ⊢
    split at e
    · try (refine ex_let2 ?_; intro lX QX)
      rename_i q; rw [if_pos q]; exact e
    · try (refine ex_let2 ?_; intro lX QX)
      rename_i q; rw [if_neg q]; exact le_lc hh z v e
end

noncomputable def cutT (T : Td) (g : Int) (L : List Int) (s : Int) (r : Int × Int × Int) : Int × Int × Int := if r.1 = s ∧ 0 ≤ r.2.1 ∧ gA T r.2.1 ≤ g ∧ r.2.1 ∉ L then (r.1, -1, r.2.2) else r
noncomputable def Tb.setRows (T : Tb) (rows : List (Int × Int × Int)) : Tb := { T with d := { T.d with rows := rows } }

section
variable {W : Wd} {X : Cx} {l : Lcl} {σ : Store} {Q : MVal → Store → Prop} {e₁ e₂ ve se : Expr} {T : Tb} {x y : Addr} {r : Nat} {ns seeds L : List Int} {a g k s : Int} {v : MVal}

theorem WRep.setRow {i : Nat} {b : Addr} {rv rv' : Int × Int × Int} (R : WRep σ T) (hb : T.rw[i]? = some b) : WRep (σ.set b ⟨30, .list (rowv rv')⟩) (T.setRows (T.d.rows.set i rv')) := by
  obtain ⟨rv, _, hrb⟩ := R.rw.get hb
  have E : Ext [30] σ (σ.set b ⟨30, .list (rowv rv')⟩) := .set hrb (by decide)
  exact ⟨E.get R.w, E.get R.here, E.get R.whr, E.get R.gens, E.get R.slots, R.sl.mono fun _ _ e => E.get e, E.get R.roots, E.get R.fin, E.get R.rdy, E.get R.rows, all2_set (f := fun r => .list (rowv r)) R.rw R.nd.2 hb, R.nd⟩

theorem c_law_clear (hn : X.n < 60) (R : WRep σ T) (ok : TOk T.d) (hy : σ y = some ⟨63, .list (L.map .int)⟩) (q : ∀ σ', Ext [30] σ σ' → WRep σ' (T.setRows (T.d.rows.map (cutT T.d g L s))) → Q .none σ') :
    OpC W X l σ (.ref (W.fn 81)) [.ref T.a, .int s, .int g, .ref y] Q := by
  refine def_call0 (x := "_law_clear") 81 (by decide) ["w", "sort", "gen", "found"] hn rfl (by walk_at "b4") rfl (fun _ => rfl) rfl rfl rfl ?_
  intro A h₀ L₁ outer base A₀ cdv
  refine ex_let3 ?_
  intro Xx ll Qq
  have hlen : T.rw.length = T.d.rows.length := All2.len R.rw
  have hw := R.w
  refine ex_for_l (ev_pe (by walk_at "pe") ⟨T.ao, T.rw.map .ref, fun i => [("w", .ref T.a), ("sort", .int s), ("gen", .int g), ("found", .ref y)],
    fun i σ₂ => Ext [30] σ σ₂ ∧ WRep σ₂ (T.setRows (mapTo (cutT T.d g L s) i T.d.rows)), rfl, ⟨rfl, rfl, rfl, rfl, trivial⟩, ⟨.refl, by rw [mapTo_zero]; exact R⟩, fun i σ₂ h => ⟨29, h.1.get R.rows⟩, fun i u σ₂ hu ⟨E, R2⟩ => ?_, fun σ₂ ⟨E, R2⟩ => ?_⟩)
  · obtain ⟨b, hb, rfl⟩ := map_get hu
    obtain ⟨rv, hrv, hrb0⟩ := R.rw.get hb
    have hg := mapTo_get (f := cutT T.d g L s) hrv
    obtain ⟨rv2, hrv2, hrb⟩ := R2.rw.get hb
    have : rv2 = rv := by
      have h : (mapTo (cutT T.d g L s) i T.d.rows)[i]? = some rv2 := hrv2
      rw [hg] at h; exact (Option.some.inj h).symm
    subst this
    obtain ⟨rs, ra, rl⟩ := rv2
    have hrr := ok.rows _ (List.mem_of_getElem? hrv)
    have hrr2 : ra < T.d.gens.length := hrr.2
    have hN := ok.n
    have hw2 : σ₂ T.a = some ⟨20, .dS T.kv⟩ := E.get R.w
    have hg2 := E.get R.gens
    have hy2 := E.get hy
    have stay : cutT T.d g L s (rs, ra, rl) = (rs, ra, rl) → WRep σ₂ (T.setRows (mapTo (cutT T.d g L s) (i + 1) T.d.rows)) := fun h => by rw [mapTo_same hrv h]; exact R2
    by_cases h0 : rs = s ∧ 0 ≤ ra
    · try (refine ex_let2 ?_; intro lX QX)
      refine ex_ifb (pt_and (pt_cmp (pe_sub (by walk_at "pe") (by walk_at "pe") (po_idx (v := .int rs) hrb (by decide) rfl (by decide))) (by walk_at "pe") po_eq) fun _ =>
        pt_and (pt_cmp (pe_sub (by walk_at "pe") (by walk_at "pe") (po_idx (v := .int ra) hrb (by decide) rfl (by decide))) (by walk_at "pe") po_ge) fun _ =>
        pt_and (pt_cmp (pe_sub (by walk_at "pe") (pe_sub (by walk_at "pe") (by walk_at "pe") (po_idx (v := .int ra) hrb (by decide) rfl (by decide))) (po_ii hg2 h0.2 hrr2 (by omega))) (by walk_at "pe") po_le) fun _ =>
        pt_and (pt_cmp (pe_sub (by walk_at "pe") (by walk_at "pe") (po_idx (v := .int ra) hrb (by decide) rfl (by decide))) (by walk_at "pe") (po_notin hy2)) fun _ => pt_and0) (fun hc => ?_) fun hc => ?_
      · try (refine ex_let2 ?_; intro lX QX)
        have hcut : cutT T.d g L s (rs, ra, rl) = (rs, -1, rl) := if_pos (by
          simp only [Bool.and_true, Bool.and_eq_true, decide_eq_true_eq] at hc
          exact ⟨hc.1, hc.2.1, hc.2.2.1, hc.2.2.2⟩)
        refine ex_sub_list (ev_pe (by walk_at "pe") ⟨b, 30, rowv (rs, ra, rl), 1, by walk_at "pe", by walk_at "pe", hrb, by decide, by simp [rowv], by simp [rowv], ?_⟩)
        refine ex_nil (ex_nil ⟨⟨rfl, rfl, rfl, rfl, trivial⟩, E.trans (.set hrb (by decide)), ?_⟩)
        rw [mapTo_next hrv, hcut]
        exact R2.setRow (rv := (rs, ra, rl)) (rv' := (rs, -1, rl)) hb
      · try (refine ex_let2 ?_; intro lX QX)
        refine ex_nil (ex_nil ⟨⟨rfl, rfl, rfl, rfl, trivial⟩, E, stay (if_neg fun h => ?_)⟩)
        obtain ⟨h1, h2, h3, h4⟩ := h
        rw [decide_eq_true h1, decide_eq_true h2, decide_eq_true (p := T.d.gens.getD ra.toNat 0 ≤ g) h3, decide_eq_true h4] at hc
        cases hc
    · try (refine ex_let2 ?_; intro lX QX)
      by_cases h1 : rs = s
      · try (refine ex_let2 ?_; intro lX QX)
        refine ex_ifb (pt_and (pt_cmp (pe_sub (by walk_at "pe") (by walk_at "pe") (po_idx (v := .int rs) hrb (by decide) rfl (by decide))) (by walk_at "pe") po_eq) fun _ =>
          pt_and (d := true) (pt_cmp (pe_sub (by walk_at "pe") (by walk_at "pe") (po_idx (v := .int ra) hrb (by decide) rfl (by decide))) (by walk_at "pe") po_ge) fun hf => absurd (of_decide_eq_true hf) fun h => h0 ⟨h1, h⟩) (fun hc => ?_) fun hc => ?_
        · try (refine ex_let2 ?_; intro lX QX)
          exfalso; apply h0
          simp only [Bool.and_true, Bool.and_eq_true, decide_eq_true_eq] at hc; exact hc
        · exact ex_nil (ex_nil ⟨⟨rfl, rfl, rfl, rfl, trivial⟩, E, stay (if_neg fun h => h0 ⟨h.1, h.2.1⟩)⟩)
      · try (refine ex_let2 ?_; intro lX QX)
        refine ex_ifb (pt_and (d := true) (pt_cmp (pe_sub (by walk_at "pe") (by walk_at "pe") (po_idx (v := .int rs) hrb (by decide) rfl (by decide))) (by walk_at "pe") po_eq) fun hf => absurd (of_decide_eq_true hf) h1) (fun hc => ?_) fun hc => ?_
        · try (refine ex_let2 ?_; intro lX QX)
          exfalso; apply h1
          simpa using hc
        · exact ex_nil (ex_nil ⟨⟨rfl, rfl, rfl, rfl, trivial⟩, E, stay (if_neg fun h => h1 h.1)⟩)
  · rw [List.length_map, hlen, mapTo_all (Nat.le_refl _)] at R2
    exact ex_nil (q σ₂ E R2)
end


noncomputable def strongT (T : Td) : List Int := (T.rows.filter fun r => decide (r.1 = 3)).map (·.2.1)
noncomputable def oldT (T : Td) (g : Int) : List Int := (T.here.filter fun i => decide (g < gA T i)).flatMap (sA T)
noncomputable def seedsT (T : Td) (g : Int) : List Int := T.roots ++ T.rdy ++ strongT T ++ oldT T g
noncomputable def pickT (T : Td) (g : Int) (L : List Int) (a : Int) : Bool := decide (gA T a ≤ g) && decide (a ∉ L)
noncomputable def livD (T : Td) (g : Int) (L1 L2 : List Int) : Td := { T with fin := T.fin.filter (fun a => !pickT T g L1 a), rdy := T.rdy ++ T.fin.filter (pickT T g L1), rows := (T.rows.map (cutT T g L1 1)).map (cutT T g L2 2) }

theorem WRep.put {σ : Store} {T : Tb} (hw : σ T.a = some ⟨20, .dS T.kv⟩) (T' : Tb) (ha : T'.a = T.a) (here : σ T'.ah = some ⟨21, .list (T'.d.here.map .int)⟩) (whr : σ T'.aw = some ⟨22, .list (T'.d.whr.map .int)⟩) (gens : σ T'.ag = some ⟨23, .list (T'.d.gens.map .int)⟩)
    (slots : σ T'.ax = some ⟨24, .list (T'.sl.map .ref)⟩) (sl : All2 (fun a s => σ a = some ⟨25, .list (s.map .int)⟩) T'.sl T'.d.slots) (roots : σ T'.ar = some ⟨26, .list (T'.d.roots.map .int)⟩) (fin : σ T'.af = some ⟨27, .list (T'.d.fin.map .int)⟩)
    (rdy : σ T'.ay = some ⟨28, .list (T'.d.rdy.map .int)⟩) (rows : σ T'.ao = some ⟨29, .list (T'.rw.map .ref)⟩) (rw : All2 (fun a r => σ a = some ⟨30, .list (rowv r)⟩) T'.rw T'.d.rows) (nd : T'.sl.Nodup ∧ T'.rw.Nodup) :
    WRep (σ.set T.a ⟨20, .dS T'.kv⟩) T' := by
  have E : Ext [20] σ (σ.set T.a ⟨20, .dS T'.kv⟩) := .set hw (by decide)
  exact ⟨by rw [ha]; exact Store.set_self _ _ _, E.get here, E.get whr, E.get gens, E.get slots, sl.mono fun _ _ e => E.get e, E.get roots, E.get fin, E.get rdy, E.get rows, rw.mono fun _ _ e => E.get e, nd⟩

theorem oldT_len {T : Td} (ok : TOk T) {g : Int} (i : Nat) : (((T.here.take i).filter fun i => decide (g < gA T i)).flatMap (sA T)).length ≤ 120 := by
  have h := flat_len (f := sA T) (n := 2) (xs := (T.here.take i).filter fun i => decide (g < gA T i)) fun a ha => (ok.sA (ok.here a (List.mem_of_mem_take (List.mem_filter.mp ha).1))).2.1
  have h2 := filter_len (fun i => decide (g < gA T i)) T.here i
  have h3 := ok.hlen
  omega
theorem strongT_len {T : Td} (ok : TOk T) (i : Nat) : (((T.rows.take i).filter fun r => decide (r.1 = 3)).map (·.2.1)).length ≤ 1000 := by
  have h2 := filter_len (fun r : Int × Int × Int => decide (r.1 = 3)) T.rows i
  have h3 := ok.rlen
  rw [List.length_map]; omega
theorem seedsT_rng {T : Td} (ok : TOk T) {g : Int} : ∀ a ∈ seedsT T g, InM T.gens.length a := fun a ha => by
  unfold seedsT at ha
  rcases List.mem_append.mp ha with ha | ha
  · try (refine ex_let2 ?_; intro lX QX)
    rcases List.mem_append.mp ha with ha | ha
    · try (refine ex_let2 ?_; intro lX QX)
      rcases List.mem_append.mp ha with ha | ha
      · exact ok.roots.2 a ha
      · try (refine ex_let2 ?_; intro lX QX)
        have := ok.rdy a ha; exact ⟨by have := this.1; omega, this.2⟩
    · try (refine ex_let2 ?_; intro lX QX)
      obtain ⟨r, hr, rfl⟩ := List.mem_map.mp ha
      exact ok.rows r (List.mem_filter.mp hr).1
  · try (refine ex_let2 ?_; intro lX QX)
    obtain ⟨i, hi, hb⟩ := List.mem_flatMap.mp ha
    exact (ok.sA (ok.here i (List.mem_filter.mp hi).1)).2.2 a hb

section
variable {W : Wd} {X : Cx} {l : Lcl} {σ : Store} {Q : MVal → Store → Prop} {e₁ e₂ ve se : Expr} {T : Tb} {x y : Addr} {r : Nat} {ns seeds L : List Int} {a g k s : Int} {v : MVal}

theorem c_law_living (hn : X.n < 59) (R : WRep σ T) (ok : TOk T.d)
    (q : ∀ σ' T' F L1 L2, Ext [20, 27, 28, 30] σ σ' → T'.a = T.a → T'.d = livD T.d g L1 L2 → WRep σ' T' → σ' F = some ⟨63, .list (L2.map .int)⟩ → ReachL (gA T.d) (sA T.d) g (seedsT T.d g) L1 →
      ReachL (gA T.d) (sA T.d) g (seedsT T.d g ++ (T.d.rdy ++ T.d.fin.filter (pickT T.d g L1))) L2 → Q (.ref F) σ') :
    OpC W X l σ (.ref (W.fn 82)) [.ref T.a, .int g] Q := by
  refine def_call0 (x := "_law_living") 82 (by decide) ["w", "gen"] (nle hn) rfl (by walk_at "b2") rfl (fun _ => rfl) rfl rfl rfl ?_
  intro A h₀ L₁ outer base A₀ cdv
  refine ex_let3 ?_
  intro Xx ll Qq
  have hN := ok.n
  have hw := R.w
  have hroots := ok.roots.1
  have hflen := ok.flen
  have hlenR : T.rw.length = T.d.rows.length := All2.len R.rw
  refine ex_assign (ev_bin (ev_pe (by walk_at "pe") (ev_pe (by walk_at "pe") (op_listadd 64 R.roots R.rdy (by simp only [List.length_map]; omega) fun S0 hS0 => ?_))))
  -- the strong ones
  refine ex_for_s (ST := Addr) (ev_pe (by walk_at "pe") ⟨T.ao, T.rw.map .ref, S0, fun i S => [("w", .ref T.a), ("gen", .int g), ("seeds", .ref S)], fun i S σ₂ => Ext [] σ σ₂ ∧ σ₂ S = some ⟨64, .list ((T.d.roots ++ T.d.rdy ++ ((T.d.rows.take i).filter fun r => decide (r.1 = 3)).map (·.2.1)).map .int)⟩,
    rfl, ⟨rfl, rfl, rfl, trivial⟩, ⟨.new hS0, by rw [Store.set_self]; simp⟩, fun i S σ₂ h => ⟨29, h.1.get R.rows⟩, fun i u S σ₂ hu => And.elim fun E hS => ?_, fun S σ₂ => And.elim fun E hS => ?_⟩)
  · try (refine ex_let2 ?_; intro lX QX)
    obtain ⟨b, hb, rfl⟩ := map_get hu
    obtain ⟨⟨rs, ra, rl⟩, hrv, hrb0⟩ := R.rw.get hb
    have hrb := E.get hrb0
    have l2 := strongT_len ok i
    refine ex_ifb (pt_cmp (pe_sub (by walk_at "pe") (by walk_at "pe") (po_idx (v := .int rs) hrb (by decide) rfl (by decide))) (by walk_at "pe") po_eq) (fun hc => ?_) fun hc => ?_
    · try (refine ex_let2 ?_; intro lX QX)
      refine ex_assign (ev_bin (ev_pe (by walk_at "pe") (ev_list 0 (eva_cons (ev_pe (pe_sub (by walk_at "pe") (by walk_at "pe") (po_idx (v := .int ra) hrb (by decide) rfl (by decide))) (eva_nil ⟨Nat.le_of_ble_eq_true rfl, fun D1 hD1 => op_listadd 64 (Store.get_new hS hD1) (Store.set_self _ _ _) (by simp only [List.length_map, List.length_append, List.length_singleton] at l2 ⊢; omega) fun D2 hD2 => ?_⟩))))))
      refine ex_nil (ex_nil ⟨D2, ⟨rfl, rfl, rfl, trivial⟩, (E.trans (.new hD1)).trans (.new hD2), ?_⟩)
      rw [Store.set_self, filter_next hrv, if_pos hc]
      simp only [List.map_append, List.append_assoc, List.map_cons, List.map_nil]
    · exact ex_nil (ex_nil ⟨S, ⟨rfl, rfl, rfl, trivial⟩, E, by rw [filter_next hrv, if_neg (by rw [hc]; decide), List.append_nil]; exact hS⟩)
  rw [List.length_map, hlenR, take_all] at hS
  clear hlenR
  -- the older ones' slots
  have R1 := R.ext E (by decide)
  have hw1 := R1.w
  have l2 := strongT_len ok T.d.rows.length
  rw [take_all] at l2
  refine ex_for_s (ST := Addr) (ev_pe (by walk_at "pe") ⟨T.ah, T.d.here.map .int, S, fun i S => [("w", .ref T.a), ("gen", .int g), ("seeds", .ref S)], fun i S σ₂ => Ext [] σ σ₂ ∧ σ₂ S = some ⟨64, .list ((T.d.roots ++ T.d.rdy ++ strongT T.d ++ ((T.d.here.take i).filter fun i => decide (g < gA T.d i)).flatMap (sA T.d)).map .int)⟩,
    rfl, ⟨rfl, rfl, rfl, trivial⟩, ⟨E, by simpa [strongT] using hS⟩, fun i S σ₂ h => ⟨21, h.1.get R.here⟩, fun i u S σ₂ hu => And.elim fun E hS => ?_, fun S σ₂ => And.elim fun E hS => ?_⟩)
  · try (refine ex_let2 ?_; intro lX QX)
    obtain ⟨j, hj, rfl⟩ := map_get hu
    have hjm := List.mem_of_getElem? hj
    have hjN := ok.here j hjm
    have hj1 := hjN.1
    have hj2 := hjN.2
    obtain ⟨hs1, hs2, hs3⟩ := ok.sA hjN
    obtain ⟨b, hb1, hb2⟩ := R.slot hs1
    have R2 := R.ext E (by decide)
    have hw2 := R2.w
    have l3 := oldT_len ok (g := g) i
    have l4 : (strongT T.d).length ≤ 1000 := l2
    refine ex_ifb (pt_cmp (pe_sub (by walk_at "pe") (by walk_at "pe") (po_ii R2.gens hj1 hj2 (by omega))) (by walk_at "pe") po_gt) (fun hc => ?_) fun hc => ?_
    · try (refine ex_let2 ?_; intro lX QX)
      refine ex_assign (ev_bin (ev_pe (by walk_at "pe") (ev_pe (pe_sub (by walk_at "pe") (by walk_at "pe") (po_idx (v := .ref b) R2.slots hj1 (by rw [List.getElem?_map, hb1]; rfl) (by omega))) (op_listadd 64 hS (E.get hb2) (by simp only [List.length_map, List.length_append]; omega) fun D2 hD2 => ?_))))
      refine ex_nil (ex_nil ⟨D2, ⟨rfl, rfl, rfl, trivial⟩, E.trans (.new hD2), ?_⟩)
      have hc' : decide (g < gA T.d j) = true := hc
      rw [Store.set_self, filter_next hj, if_pos hc', List.flatMap_append]
      simp only [List.map_append, List.append_assoc, List.flatMap_cons, List.flatMap_nil, List.append_nil]
    · try (refine ex_let2 ?_; intro lX QX)
      have hc' : decide (g < gA T.d j) = false := hc
      exact ex_nil (ex_nil ⟨S, ⟨rfl, rfl, rfl, trivial⟩, E, by rw [filter_next hj, hc', if_neg (by decide), List.append_nil]; exact hS⟩)
  rw [List.length_map, take_all] at hS
  have hS : σ₂ S = some ⟨64, .list ((seedsT T.d g).map .int)⟩ := hS
  have l3 := oldT_len ok (g := g) T.d.here.length
  rw [take_all] at l3
  have hsl : (seedsT T.d g).length ≤ 4000 := by
    have l4 : (strongT T.d).length ≤ 1000 := l2
    have l5 : (oldT T.d g).length ≤ 120 := l3
    unfold seedsT
    simp only [List.length_append]; omega
  have R2 := R.ext E (by decide)
  refine ex_assign (ev_c3 80 (by decide) (by walk_at "pe") (by walk_at "pe") (by walk_at "pe") (c_law_reach (nlt hn) R2 ok hS (seedsT_rng ok) (by omega) fun σ3 F1 L1 E3 hF1 hF1' hL1 => ?_))
  have R3 := R2.ext E3 (by decide)
  refine ex_expr (ev_c4 81 (by decide) (by walk_at "pe") (by walk_at "pe") (by walk_at "pe") (by walk_at "pe") (c_law_clear (nlt hn) R3 ok hF1' fun σ4 E4 R4 => ?_))
  refine ex_assign (ev_list 27 (eva_nil ⟨Nat.le_of_ble_eq_true rfl, fun St hSt => ?_⟩))
  have nSt : St ≠ T.af := (ne_new R4.fin hSt).symm
  have R5 := R4.ext (S := []) (.new (o := ⟨27, .list []⟩) hSt) (by decide)
  have hw5 : (σ4.set St ⟨27, .list []⟩) T.a = some ⟨20, .dS T.kv⟩ := R5.w
  have E05 : Ext [20, 27, 28, 30] σ (σ4.set St ⟨27, .list []⟩) := (E.mono (by first | decide | simp)).trans ((E3.mono (by first | decide | simp)).trans ((E4.mono (by first | decide | simp)).trans (.new hSt)))
  have hF5 := E4.get hF1'
  have hS5 := E4.get (E3.get hS)
  have hNN : ∀ b ∈ T.d.fin, InN T.d.gens.length b := ok.fin
  refine ex_for_s (ST := Addr) (ev_pe (by walk_at "pe") ⟨T.af, T.d.fin.map .int, T.ay, fun i D => [("w", .ref T.a), ("gen", .int g), ("seeds", .ref S), ("found", .ref F1), ("stay", .ref St)],
    fun i D σ₂ => Ext [20, 27, 28] σ4 σ₂ ∧ WRep σ₂ { T.setRows (T.d.rows.map (cutT T.d g L1 1)) with ay := D, d := { T.d with rows := T.d.rows.map (cutT T.d g L1 1), rdy := T.d.rdy ++ (T.d.fin.take i).filter (pickT T.d g L1) } } ∧ σ₂ St = some ⟨27, .list (((T.d.fin.take i).filter fun a => !pickT T.d g L1 a).map .int)⟩,
    rfl, ⟨rfl, rfl, rfl, rfl, rfl, trivial⟩, ⟨.new hSt, by rw [List.take_zero, List.filter_nil, List.append_nil]; exact R5, Store.set_self _ _ _⟩, fun i D σ₂ h => ⟨27, h.2.1.fin⟩, fun i u D σ₂ hu => And.elim fun E6 => And.elim fun R6 hSt6 => ?_, fun D σ₂ => And.elim fun E6 => And.elim fun R6 hSt6 => ?_⟩)
  · try (refine ex_let2 ?_; intro lX QX)
    obtain ⟨a, ha, rfl⟩ := map_get hu
    have haN := hNN a (List.mem_of_getElem? ha)
    have ha1 := haN.1
    have ha2 := haN.2
    have hw6 := R6.w
    have hF6 := E6.get hF5
    have hrdy6 := R6.rdy
    have hg6 : σ₂ T.ag = some ⟨23, .list (T.d.gens.map .int)⟩ := R6.gens
    have l6 := filter_len (pickT T.d g L1) T.d.fin i
    have l7 := filter_len (fun a => !pickT T.d g L1 a) T.d.fin i
    refine ex_ifb (pt_and (pt_cmp (pe_sub (by walk_at "pe") (by walk_at "pe") (po_ii hg6 ha1 ha2 (by omega))) (by walk_at "pe") po_le) fun _ => pt_and (pt_cmp (by walk_at "pe") (by walk_at "pe") (po_notin hF6)) fun _ => pt_and0) (fun hc => ?_) fun hc => ?_
    · try (refine ex_let2 ?_; intro lX QX)
      have hc' : pickT T.d g L1 a = true := by rw [Bool.and_true] at hc; exact hc
      refine ex_sub_key (ev_bin (ev_pe (by walk_at "pe") (ev_list 0 (eva_cons (ev_pe (by walk_at "pe") (eva_nil ⟨Nat.le_of_ble_eq_true rfl, fun D1 hD1 => op_listadd 28 (Store.get_new hrdy6 hD1) (Store.set_self _ _ _) (by simp only [List.length_map, List.length_append, List.length_singleton]; omega) fun D2 hD2 =>
        ⟨T.a, 20, _, by walk_at "pe", Store.get_new (Store.get_new hw6 hD1) hD2, Nat.le_of_ble_eq_true rfl, ?_⟩⟩))))))
      have E7 : Ext [] σ₂ ((σ₂.set D1 ⟨0, .list [.int a]⟩).set D2 ⟨28, .list ((T.d.rdy ++ (T.d.fin.take i).filter (pickT T.d g L1)).map .int ++ [.int a])⟩) := (Ext.new hD1).trans (.new hD2)
      have R7 := R6.ext E7 (by decide)
      have hD2' : ((σ₂.set D1 ⟨0, .list [.int a]⟩).set D2 ⟨28, .list ((T.d.rdy ++ (T.d.fin.take i).filter (pickT T.d g L1)).map .int ++ [.int a])⟩) D2 = some ⟨28, .list ((T.d.rdy ++ (T.d.fin.take (i + 1)).filter (pickT T.d g L1)).map .int)⟩ := by
        rw [Store.set_self, filter_next ha, if_pos hc', ← List.append_assoc, List.map_append (l₂ := [a])]; rfl
      have hw7 := R7.w
      have hSt7 := E7.get hSt6
      refine ex_nil (ex_nil ⟨D2, ⟨rfl, rfl, rfl, rfl, rfl, trivial⟩, E6.trans ((E7.mono (by first | decide | simp)).trans (.set hw7 (by decide))), ?_, ?_⟩)
      · exact WRep.put hw7 { T.setRows (T.d.rows.map (cutT T.d g L1 1)) with ay := D2, d := { T.d with rows := T.d.rows.map (cutT T.d g L1 1), rdy := T.d.rdy ++ (T.d.fin.take (i + 1)).filter (pickT T.d g L1) } } rfl R7.here R7.whr R7.gens R7.slots R7.sl R7.roots R7.fin hD2' R7.rows R7.rw R7.nd
      · try (refine ex_let2 ?_; intro lX QX)
        refine Store.get_role ?_ hw7 (by decide)
        rw [filter_next ha, hc', if_neg (by decide), List.append_nil]; exact hSt7
    · try (refine ex_let2 ?_; intro lX QX)
      have hc' : pickT T.d g L1 a = false := by rw [Bool.and_true] at hc; exact hc
      refine ex_append (by walk_at "pe") hSt6 (by first | exact lenm (by omega) | (rw [List.length_map]; omega)) (ev_pe (by walk_at "pe") ⟨hSt6, ?_⟩)
      have R7 : WRep (σ₂.set St ⟨27, .list (((T.d.fin.take i).filter fun a => !pickT T.d g L1 a).map .int ++ [.int a])⟩) { T.setRows (T.d.rows.map (cutT T.d g L1 1)) with ay := D, d := { T.d with rows := T.d.rows.map (cutT T.d g L1 1), rdy := T.d.rdy ++ (T.d.fin.take i).filter (pickT T.d g L1) } } := by
        have E7 : Ext [27] σ₂ (σ₂.set St ⟨27, .list (((T.d.fin.take i).filter fun a => !pickT T.d g L1 a).map .int ++ [.int a])⟩) := .set hSt6 (by decide)
        exact ⟨E7.get R6.w, E7.get R6.here, E7.get R6.whr, E7.get R6.gens, E7.get R6.slots, R6.sl.mono fun _ _ e => E7.get e, E7.get R6.roots, (Store.set_ne _ _ (Ne.symm nSt)).trans R6.fin, E7.get R6.rdy, E7.get R6.rows, R6.rw.mono fun _ _ e => E7.get e, R6.nd⟩
      refine ex_nil (ex_nil ⟨D, ⟨rfl, rfl, rfl, rfl, rfl, trivial⟩, E6.trans (.set hSt6 (by decide)), ?_, ?_⟩)
      · rw [filter_next ha, hc', if_neg (by decide), List.append_nil]; exact R7
      · rw [Store.set_self, filter_next ha, hc', if_pos (by decide), List.map_append]; rfl
  rw [List.length_map, take_all] at R6 hSt6
  have hw6 := R6.w
  refine ex_sub_key (ev_pe (by walk_at "pe") ⟨T.a, 20, _, by walk_at "pe", hw6, Nat.le_of_ble_eq_true rfl, ?_⟩)
  have R7 := WRep.put hw6 { T.setRows (T.d.rows.map (cutT T.d g L1 1)) with ay := D, af := St, d := { T.d with rows := T.d.rows.map (cutT T.d g L1 1), rdy := T.d.rdy ++ T.d.fin.filter (pickT T.d g L1), fin := T.d.fin.filter fun a => !pickT T.d g L1 a } } rfl R6.here R6.whr R6.gens R6.slots R6.sl R6.roots hSt6 R6.rdy R6.rows R6.rw R6.nd
  have E7 := E6.trans (Ext.set (S := [20, 27, 28]) (y := .dS (Tb.kv { T.setRows (T.d.rows.map (cutT T.d g L1 1)) with ay := D, af := St, d := { T.d with rows := T.d.rows.map (cutT T.d g L1 1), rdy := T.d.rdy ++ T.d.fin.filter (pickT T.d g L1), fin := T.d.fin.filter fun a => !pickT T.d g L1 a } })) hw6 (by decide))
  refine ex_weak (l' := lc [("w", .ref T.a), ("gen", .int g), ("seeds", .ref S)]) ?_ (le_lc ⟨rfl, rfl, rfl, trivial⟩)
  have go : ∀ σ5, Ext [20, 27, 28] σ4 σ5 → WRep σ5 { T.setRows (T.d.rows.map (cutT T.d g L1 1)) with ay := D, af := St, d := { T.d with rows := T.d.rows.map (cutT T.d g L1 1), rdy := T.d.rdy ++ T.d.fin.filter (pickT T.d g L1), fin := T.d.fin.filter fun a => !pickT T.d g L1 a } } →
      Ex W (mkCx "_law_living" (fScope (topS 82)) (W.fn 82) (X.n + 1) A h₀ L₁ outer base A₀ cdv) (lc [("w", .ref T.a), ("gen", .int g), ("seeds", .ref S)]) σ5 ((fBody (topS 82)).drop 8) fun fl _ σ'' => Q (retOf fl) σ'' := by
    intro σ5 E5 R5
    try (refine ex_let2 ?_; intro lX QX)
    have hw5 : σ5 T.a = some ⟨20, .dS _⟩ := R5.w
    have hS5' := E5.get hS5
    have hsplit := filter_split (pickT T.d g L1) T.d.fin
    have okT : TOk { T.d with rows := T.d.rows.map (cutT T.d g L1 1), rdy := T.d.rdy ++ T.d.fin.filter (pickT T.d g L1), fin := T.d.fin.filter fun a => !pickT T.d g L1 a } := by
      refine ⟨ok.n1, ok.n2, ok.n, ok.here, ok.hlen, ok.sl, ok.roots, fun b hb => ok.fin b (List.mem_filter.mp hb).1, fun b hb => ?_, by simp only [List.length_append]; omega, fun r hr => ?_, by rw [List.length_map]; exact ok.rlen⟩
      · try (refine ex_let2 ?_; intro lX QX)
        rcases List.mem_append.mp hb with hb | hb
        · exact ok.rdy b hb
        · exact ok.fin b (List.mem_filter.mp hb).1
      · obtain ⟨r', hr', rfl⟩ := List.mem_map.mp hr
        unfold cutT
        split
        · try (refine ex_let2 ?_; intro lX QX)
          have := ok.rows r' hr'; exact ⟨by dsimp only; omega, by have h1 := this.1; have h2 := this.2; dsimp only; omega⟩
        · exact ok.rows r' hr'
    have hrng : ∀ a ∈ seedsT T.d g ++ (T.d.rdy ++ T.d.fin.filter (pickT T.d g L1)), InM T.d.gens.length a := fun a ha => by
      rcases List.mem_append.mp ha with ha | ha
      · exact seedsT_rng ok a ha
      · try (refine ex_let2 ?_; intro lX QX)
        have := okT.rdy a ha; exact ⟨by have := this.1; omega, this.2⟩
    refine ex_assign (ev_def 80 (by decide) (eva_cons (ev_pe (by walk_at "pe") (eva_cons (ev_pe (by walk_at "pe") (eva_cons (ev_bin (ev_pe (by walk_at "pe") (ev_pe (by walk_at "pe") (op_listadd 65 hS5' R5.rdy (by simp only [List.length_map, List.length_append]; omega) fun D8 hD8 => ?_))))))))))
    refine eva_nil (c_law_reach (T := { T.setRows (T.d.rows.map (cutT T.d g L1 1)) with ay := D, af := St, d := { T.d with rows := T.d.rows.map (cutT T.d g L1 1), rdy := T.d.rdy ++ T.d.fin.filter (pickT T.d g L1), fin := T.d.fin.filter fun a => !pickT T.d g L1 a } })
      (seeds := seedsT T.d g ++ (T.d.rdy ++ T.d.fin.filter (pickT T.d g L1))) (nlt hn) (R5.ext (S := []) (.new hD8) (by decide)) okT (by rw [Store.set_self, List.map_append (l₁ := seedsT T.d g)]) hrng (by simp only [List.length_append]; omega) fun σ6 F2 L2 E6 hF2 hF2' hL2 => ?_)
    have E56 : Ext [] σ5 σ6 := (Ext.new hD8).trans E6
    refine ex_expr (ev_c4 81 (by decide) (by walk_at "pe") (by walk_at "pe") (by walk_at "pe") (by walk_at "pe") (c_law_clear (T := { T.setRows (T.d.rows.map (cutT T.d g L1 1)) with ay := D, af := St, d := { T.d with rows := T.d.rows.map (cutT T.d g L1 1), rdy := T.d.rdy ++ T.d.fin.filter (pickT T.d g L1), fin := T.d.fin.filter fun a => !pickT T.d g L1 a } }) (nlt hn) (R5.ext E56 (by decide)) okT hF2' fun σ7 E7 R7 => ?_))
    refine ex_ret (ev_pe (by walk_at "pe") (q σ7 _ F2 L1 L2 ?_ ?_ ?_ R7 (E7.get hF2') hL1 hL2))
    rotate_left 1
    · rfl
    · rfl
    exact (E.mono (by first | decide | simp)).trans ((E3.mono (by first | decide | simp)).trans ((E4.mono (by first | decide | simp)).trans ((E5.mono (by first | decide | simp)).trans ((E56.mono (by first | decide | simp)).trans (E7.mono (by first | decide | simp))))))
  exact go _ E7 R7
end


/-! ## the invariant -/
structure ThOf (T : Td) (t : Th) (i : Int) : Prop where
  addr : t.addr = wA T i
  kind : t.kind = 20 + i % 3
  gen : t.gen = gA T i
  size : t.size = sizeOf' (sA T i).length
  serial : t.serial = i + 1
  slots : t.slots = (sA T i).map (vA T)
noncomputable def chainT (T : Td) : Int → List Int → Int → Prop
  | pos, [], top => top = pos
  | pos, i :: r, top => wA T i = pos ∧ chainT T (pos + sizeOf' (sA T i).length) r top
noncomputable def OrIn (l : List Int) (a : Int) : Prop := a = -1 ∨ a ∈ l
structure RowOf (T : Td) (r : Rw) (q : Int × Int × Int) : Prop where
  alive : r.alive = q.2.2
  addr : r.addr = vA T q.2.1
  kind : (q.2.2 = 0 ∧ q.2.1 = -1 ∧ q.1 = 0) ∨ (q.2.2 = 1 ∧ r.sort = q.1)
structure TInv (T : Td) : Prop where
  ok : TOk T
  asc : T.here.Pairwise (· < ·)
  chain : chainT T 16 T.here T.top
  gen : ∀ i ∈ T.here, 0 ≤ gA T i ∧ gA T i ≤ 2
  mono : T.here.Pairwise fun i j => gA T j ≤ gA T i
  sl : ∀ i ∈ T.here, ∀ b ∈ sA T i, OrIn T.here b
  roots : ∀ b ∈ T.roots, OrIn T.here b
  fin : ∀ b ∈ T.fin, b ∈ T.here
  rdy : ∀ b ∈ T.rdy, b ∈ T.here
  rows : ∀ r ∈ T.rows, OrIn T.here r.2.1
  srt : ∀ r ∈ T.rows, 0 ≤ r.2.1 → 1 ≤ r.1 ∧ r.1 ≤ 3
structure Inv (H : Hp) (rows : List Rw) (cs : List (List Int)) (T : Td) : Prop where
  t : TInv T
  ok : HOk H
  ts : All2 (ThOf T) H.ts T.here
  fs : H.fs = T.fin.map (wA T)
  rs : H.rs = T.rdy.map (wA T)
  roots : cs = [T.roots.map (vA T)]
  rows : All2 (RowOf T) rows T.rows
  top : H.top = T.top
  made : H.made = T.gens.length
  cards : ∀ t ∈ H.ts, ∀ s : Nat, s < t.slots.length → refY H.ts t (t.slots.getD s 0) = true → cardOf (t.addr + 2 + (s : Int)) ∈ H.cs

theorem sizeOf_pos (n : Int) : 3 ≤ sizeOf' n := by unfold sizeOf'; split <;> omega
theorem chain_ge {T : Td} : ∀ {l : List Int} {pos top : Int}, chainT T pos l top → pos ≤ top ∧ ∀ i ∈ l, pos ≤ wA T i ∧ wA T i + sizeOf' (sA T i).length ≤ top
  | [], pos, top, h => ⟨by rw [show top = pos from h]; exact Int.le_refl _, fun i hi => by cases hi⟩
  | i :: r, pos, top, ⟨h1, h2⟩ => by
    obtain ⟨h3, h4⟩ := chain_ge h2
    have h5 := sizeOf_pos (sA T i).length
    refine ⟨by omega, fun j hj => ?_⟩
    rcases List.mem_cons.mp hj with rfl | hj
    · omega
    · try (refine ex_let2 ?_; intro lX QX)
      have := h4 j hj; omega
theorem chain_mono {T : Td} : ∀ {l : List Int} {pos top : Int}, chainT T pos l top → l.Pairwise fun i j => wA T i + sizeOf' (sA T i).length ≤ wA T j
  | [], _, _, _ => List.Pairwise.nil
  | i :: r, pos, top, ⟨h1, h2⟩ => by
    refine List.Pairwise.cons (fun j hj => ?_) (chain_mono h2)
    have := (chain_ge h2).2 j hj
    omega
theorem chain_inj {T : Td} {l : List Int} {pos top : Int} (h : chainT T pos l top) {i j : Int} (hi : i ∈ l) (hj : j ∈ l) (e : wA T i = wA T j) : i = j := by
  have hp := chain_mono h
  induction l generalizing pos with
  | nil => cases hi
  | cons x r ih =>
    rw [List.pairwise_cons] at hp
    have sx := sizeOf_pos (sA T x).length
    rcases List.mem_cons.mp hi with e1 | hi'
    · try (refine ex_let2 ?_; intro lX QX)
      rcases List.mem_cons.mp hj with e2 | hj'
      · rw [e1, e2]
      · try (refine ex_let2 ?_; intro lX QX)
        have := hp.1 j hj'; subst e1; omega
    · try (refine ex_let2 ?_; intro lX QX)
      rcases List.mem_cons.mp hj with e2 | hj'
      · try (refine ex_let2 ?_; intro lX QX)
        have := hp.1 i hi'; subst e2; omega
      · exact ih h.2 hi' hj' hp.2

section
variable {H : Hp} {rows : List Rw} {cs : List (List Int)} {T : Td} {g : Int} {S : Int → Prop} {st : MSt}
theorem TInv.pos (I : TInv T) {i : Int} (hi : i ∈ T.here) : 16 ≤ wA T i := ((chain_ge I.chain).2 i hi).1
theorem TInv.inj (I : TInv T) {i j : Int} (hi : i ∈ T.here) (hj : j ∈ T.here) (e : wA T i = wA T j) : i = j := chain_inj I.chain hi hj e
theorem TInv.nn (I : TInv T) {i : Int} (hi : i ∈ T.here) : 0 ≤ i := (I.ok.here i hi).1
theorem vA_in {i : Int} (h : 0 ≤ i) : vA T i = wA T i := if_neg (by omega)
theorem vA_neg : vA T (-1) = 0 := if_pos (by decide)
theorem Inv.thOf (I : Inv H rows cs T) {i : Int} (hi : i ∈ T.here) : ∃ t ∈ H.ts, ThOf T t i := by
  obtain ⟨k, hk⟩ := List.getElem?_of_mem hi
  obtain ⟨t, ht, h⟩ := I.ts.get' hk
  exact ⟨t, List.mem_of_getElem? ht, h⟩
theorem Inv.idxOf (I : Inv H rows cs T) {t : Th} (ht : t ∈ H.ts) : ∃ i ∈ T.here, ThOf T t i := by
  obtain ⟨k, hk⟩ := List.getElem?_of_mem ht
  obtain ⟨i, hi, h⟩ := I.ts.get hk
  exact ⟨i, List.mem_of_getElem? hi, h⟩
theorem Inv.at_ (I : Inv H rows cs T) {t : Th} {i : Int} (ht : t ∈ H.ts) (hi : i ∈ T.here) (e : t.addr = wA T i) : ThOf T t i := by
  obtain ⟨j, hj, h⟩ := I.idxOf ht
  have : i = j := I.t.inj hi hj (by rw [← e, h.addr])
  subst this; exact h
theorem Inv.thAt (I : Inv H rows cs T) {i : Int} (hi : i ∈ T.here) : ∃ t, thAt H.ts (wA T i) = some t ∧ t ∈ H.ts ∧ ThOf T t i := by
  obtain ⟨t, ht, h⟩ := I.thOf hi
  exact ⟨t, by rw [← h.addr]; exact thAt_of I.ok.ad ht, ht, h⟩
/-- the marking, by the table -/
structure MI (H : Hp) (T : Td) (g : Int) (S : Int → Prop) (st : MSt) : Prop where
  snd : ∀ b ∈ st.1, ∃ i ∈ T.here, wA T i = b ∧ RchI (gA T) (sA T) g S i
  wk : ∀ t ∈ st.2, t ∈ H.ts ∧ t.addr ∈ st.1
  cov : ∀ i ∈ T.here, wA T i ∈ st.1 → (∃ t ∈ st.2, t.addr = wA T i) ∨ ∀ b ∈ sA T i, 0 ≤ b → gA T b ≤ g → wA T b ∈ st.1
/-- what may be pushed -/
noncomputable def May (T : Td) (g : Int) (S : Int → Prop) (a : Int) : Prop := OrIn T.here a ∧ (0 ≤ a → gA T a ≤ g → RchI (gA T) (sA T) g S a)
theorem push_mi (I : Inv H rows cs T) (h : MI H T g S st) {a : Int} (hm : May T g S a) : MI H T g S (pushM H.ts g st (vA T a)) ∧ (∀ b ∈ st.1, b ∈ (pushM H.ts g st (vA T a)).1) ∧ (0 ≤ a → gA T a ≤ g → wA T a ∈ (pushM H.ts g st (vA T a)).1) := by
  rcases hm.1 with rfl | ha
  · have : pushM H.ts g st (vA T (-1)) = st := by rw [vA_neg]; exact pushM_zero I.ok.pos
    rw [this]
    exact ⟨h, fun b hb => hb, fun h0 => absurd h0 (by decide)⟩
  · have h0 := I.t.nn ha
    rw [vA_in h0]
    obtain ⟨t, e, ht, hto⟩ := I.thAt ha
    unfold pushM
    rw [e]
    dsimp only
    split
    · try (refine ex_let2 ?_; intro lX QX)
      rename_i q
      refine ⟨h, fun b hb => hb, fun _ hg => ?_⟩
      rcases q with q | q
      · rw [hto.gen] at q; omega
      · exact q
    · try (refine ex_let2 ?_; intro lX QX)
      rename_i q
      rw [not_or] at q
      have hg : gA T a ≤ g := by have := q.1; rw [hto.gen] at this; omega
      refine ⟨⟨fun b hb => ?_, fun u hu => ?_, fun i hi hib => ?_⟩, fun b hb => List.mem_append_left _ hb, fun _ _ => List.mem_append_right _ (by simp)⟩
      · try (refine ex_let2 ?_; intro lX QX)
        rcases List.mem_append.mp hb with hb | hb
        · exact h.snd b hb
        · simp at hb; exact ⟨a, ha, hb.symm, hm.2 h0 hg⟩
      · try (refine ex_let2 ?_; intro lX QX)
        rcases List.mem_append.mp hu with hu | hu
        · exact ⟨(h.wk u hu).1, List.mem_append_left _ (h.wk u hu).2⟩
        · simp at hu; subst hu; exact ⟨ht, List.mem_append_right _ (by rw [hto.addr]; simp)⟩
      · try (refine ex_let2 ?_; intro lX QX)
        rcases List.mem_append.mp hib with hib | hib
        · try (refine ex_let2 ?_; intro lX QX)
          rcases h.cov i hi hib with ⟨u, hu, eu⟩ | hc
          · exact .inl ⟨u, List.mem_append_left _ hu, eu⟩
          · exact .inr fun b hb h0 hg => List.mem_append_left _ (hc b hb h0 hg)
        · simp at hib
          exact .inl ⟨t, List.mem_append_right _ (by simp), by rw [hto.addr, hib]⟩
theorem pushs_mi (I : Inv H rows cs T) : ∀ {as : List Int} {st : MSt}, MI H T g S st → (∀ a ∈ as, May T g S a) → MI H T g S (pushs H.ts g (as.map (vA T)) st) ∧ (∀ b ∈ st.1, b ∈ (pushs H.ts g (as.map (vA T)) st).1) ∧ (∀ a ∈ as, 0 ≤ a → gA T a ≤ g → wA T a ∈ (pushs H.ts g (as.map (vA T)) st).1)
  | [], st, h, _ => ⟨h, fun b hb => hb, fun a ha => by cases ha⟩
  | a :: as, st, h, hm => by
    obtain ⟨h1, h2, h3⟩ := push_mi I h (hm a (.head _))
    obtain ⟨k1, k2, k3⟩ := pushs_mi I h1 fun b hb => hm b (.tail _ hb)
    refine ⟨k1, fun b hb => k2 b (h2 b hb), fun b hb h0 hg => ?_⟩
    rcases List.mem_cons.mp hb with rfl | hb
    · exact k2 _ (h3 h0 hg)
    · exact k3 b hb h0 hg
theorem drain_mi (I : Inv H rows cs T) {M : List Int} (hd : DrainR H.ts g st M) : MI H T g S st → MI H T g S (M, []) ∧ ∀ b ∈ st.1, b ∈ M := by
  induction hd with
  | done M => exact fun h => ⟨h, fun b hb => hb⟩
  | step M wk t M' hd ih =>
    intro h
    try (refine ex_let2 ?_; intro lX QX)
    obtain ⟨htm, hta⟩ := h.wk t (by simp)
    obtain ⟨i, hi, hto⟩ := I.idxOf htm
    have hri : RchI (gA T) (sA T) g S i := by
      obtain ⟨j, hj, e, hr⟩ := h.snd t.addr hta
      have : i = j := I.t.inj hi hj (by rw [← hto.addr, e])
      subst this; exact hr
    have h0 : MI H T g S (M, wk) ∨ True := .inr trivial
    -- without the popped one: its own slots are to be covered first
    have key : ∀ {as : List Int} {s : MSt}, (∀ a ∈ as, May T g S a) → (∀ b ∈ s.1, ∃ i ∈ T.here, wA T i = b ∧ RchI (gA T) (sA T) g S i) → (∀ t ∈ s.2, t ∈ H.ts ∧ t.addr ∈ s.1) →
        (∀ j ∈ T.here, wA T j ∈ s.1 → j = i ∨ (∃ t ∈ s.2, t.addr = wA T j) ∨ ∀ b ∈ sA T j, 0 ≤ b → gA T b ≤ g → wA T b ∈ s.1) →
        let s' := pushs H.ts g (as.map (vA T)) s
        (∀ b ∈ s'.1, ∃ i ∈ T.here, wA T i = b ∧ RchI (gA T) (sA T) g S i) ∧ (∀ t ∈ s'.2, t ∈ H.ts ∧ t.addr ∈ s'.1) ∧
        (∀ j ∈ T.here, wA T j ∈ s'.1 → j = i ∨ (∃ t ∈ s'.2, t.addr = wA T j) ∨ ∀ b ∈ sA T j, 0 ≤ b → gA T b ≤ g → wA T b ∈ s'.1) ∧ (∀ b ∈ s.1, b ∈ s'.1) ∧ ∀ a ∈ as, 0 ≤ a → gA T a ≤ g → wA T a ∈ s'.1 := by
      intro as
      try (refine ex_let2 ?_; intro lX QX)
      induction as with
      | nil => exact fun {s} _ h1 h2 h3 => ⟨h1, h2, h3, fun b hb => hb, fun a ha => by cases ha⟩
      | cons a as iha =>
        intro s hm h1 h2 h3
        try (refine ex_let2 ?_; intro lX QX)
        have one : (∀ b ∈ (pushM H.ts g s (vA T a)).1, ∃ i ∈ T.here, wA T i = b ∧ RchI (gA T) (sA T) g S i) ∧ (∀ t ∈ (pushM H.ts g s (vA T a)).2, t ∈ H.ts ∧ t.addr ∈ (pushM H.ts g s (vA T a)).1) ∧
            (∀ j ∈ T.here, wA T j ∈ (pushM H.ts g s (vA T a)).1 → j = i ∨ (∃ t ∈ (pushM H.ts g s (vA T a)).2, t.addr = wA T j) ∨ ∀ b ∈ sA T j, 0 ≤ b → gA T b ≤ g → wA T b ∈ (pushM H.ts g s (vA T a)).1) ∧
            (∀ b ∈ s.1, b ∈ (pushM H.ts g s (vA T a)).1) ∧ (0 ≤ a → gA T a ≤ g → wA T a ∈ (pushM H.ts g s (vA T a)).1) := by
          have hma := hm a (.head _)
          rcases hma.1 with rfl | ha
          · have : pushM H.ts g s (vA T (-1)) = s := by rw [vA_neg]; exact pushM_zero I.ok.pos
            rw [this]
            exact ⟨h1, h2, h3, fun b hb => hb, fun h0 => absurd h0 (by decide)⟩
          · have h0 := I.t.nn ha
            rw [vA_in h0]
            obtain ⟨u, e, hu, huo⟩ := I.thAt ha
            unfold pushM
            rw [e]
            dsimp only
            split
            · try (refine ex_let2 ?_; intro lX QX)
              rename_i q
              refine ⟨h1, h2, h3, fun b hb => hb, fun _ hg => ?_⟩
              rcases q with q | q
              · rw [huo.gen] at q; omega
              · exact q
            · try (refine ex_let2 ?_; intro lX QX)
              rename_i q
              rw [not_or] at q
              have hg : gA T a ≤ g := by have := q.1; rw [huo.gen] at this; omega
              refine ⟨fun b hb => ?_, fun x hx => ?_, fun j hj hjb => ?_, fun b hb => List.mem_append_left _ hb, fun _ _ => List.mem_append_right _ (by simp)⟩
              · try (refine ex_let2 ?_; intro lX QX)
                rcases List.mem_append.mp hb with hb | hb
                · exact h1 b hb
                · simp at hb; exact ⟨a, ha, hb.symm, hma.2 h0 hg⟩
              · try (refine ex_let2 ?_; intro lX QX)
                rcases List.mem_append.mp hx with hx | hx
                · exact ⟨(h2 x hx).1, List.mem_append_left _ (h2 x hx).2⟩
                · simp at hx; subst hx; exact ⟨hu, List.mem_append_right _ (by rw [huo.addr]; simp)⟩
              · try (refine ex_let2 ?_; intro lX QX)
                rcases List.mem_append.mp hjb with hjb | hjb
                · try (refine ex_let2 ?_; intro lX QX)
                  rcases h3 j hj hjb with rfl | ⟨x, hx, ex⟩ | hc
                  · exact .inl rfl
                  · exact .inr (.inl ⟨x, List.mem_append_left _ hx, ex⟩)
                  · exact .inr (.inr fun b hb h0 hg => List.mem_append_left _ (hc b hb h0 hg))
                · simp at hjb
                  exact .inr (.inl ⟨u, List.mem_append_right _ (by simp), by rw [huo.addr, hjb]⟩)
        obtain ⟨a1, a2, a3, a4, a5⟩ := one
        obtain ⟨b1, b2, b3, b4, b5⟩ := iha (fun b hb => hm b (.tail _ hb)) a1 a2 a3
        refine ⟨b1, b2, b3, fun b hb => b4 b (a4 b hb), fun b hb h0 hg => ?_⟩
        rcases List.mem_cons.mp hb with rfl | hb
        · exact b4 _ (a5 h0 hg)
        · exact b5 b hb h0 hg
    have hgi : ∀ b ∈ sA T i, May T g S b := fun b hb => ⟨I.t.sl i hi b hb, fun h0 hg => .step i b hri hb h0 hg⟩
    obtain ⟨c1, c2, c3, c4, c5⟩ := key (as := sA T i) (s := (M, wk)) hgi h.snd (fun u hu => h.wk u (by simp [hu])) fun j hj hjb => by
      rcases h.cov j hj hjb with ⟨u, hu, eu⟩ | hc
      · try (refine ex_let2 ?_; intro lX QX)
        rcases List.mem_append.mp hu with hu | hu
        · exact .inr (.inl ⟨u, hu, eu⟩)
        · simp at hu; subst hu
          exact .inl (I.t.inj hj hi (by rw [← eu, hto.addr]))
      · exact .inr (.inr hc)
    rw [← hto.slots] at c1 c2 c3 c4 c5
    obtain ⟨d1, d2⟩ := ih ⟨c1, c2, fun j hj hjb => by
      rcases c3 j hj hjb with rfl | hc | hc
      · exact .inr fun b hb h0 hg => c5 b hb h0 hg
      · exact .inl hc
      · exact .inr hc⟩
    exact ⟨d1, fun b hb => d2 b (c4 b hb)⟩
/-- closed marks are the reached ones -/
theorem mi_iff (I : Inv H rows cs T) {M : List Int} (h : MI H T g S (M, [])) (hs : ∀ a, S a → OrIn T.here a ∧ (0 ≤ a → gA T a ≤ g → wA T a ∈ M)) {i : Int} (hi : i ∈ T.here) : wA T i ∈ M ↔ RchI (gA T) (sA T) g S i := by
  constructor
  · intro hm
    obtain ⟨j, hj, e, hr⟩ := h.snd _ hm
    have : i = j := I.t.inj hi hj e.symm
    subst this; exact hr
  · intro hr
    try (refine ex_let2 ?_; intro lX QX)
    have : i ∈ T.here ∧ wA T i ∈ M := by
      clear hi
      induction hr with
      | seed a ha h0 hg =>
        obtain ⟨h1, h2⟩ := hs a ha
        exact ⟨h1.resolve_left (by omega), h2 h0 hg⟩
      | step a b _ hb h0 hg ih =>
        refine ⟨(I.t.sl a ih.1 b hb).resolve_left (by omega), ?_⟩
        rcases h.cov a ih.1 ih.2 with ⟨u, hu, _⟩ | hc
        · cases hu
        · exact hc b hb h0 hg
    exact this.2
end


theorem filter_map' {α β : Type} {f : α → β} {p : β → Bool} {q : α → Bool} : ∀ {xs : List α}, (∀ x ∈ xs, p (f x) = q x) → (xs.map f).filter p = (xs.filter q).map f
  | [], _ => rfl
  | x :: r, h => by
    have ih := filter_map' (xs := r) fun y hy => h y (.tail _ hy)
    simp only [List.map_cons, List.filter_cons, h x (.head _)]
    cases q x
    · simpa using ih
    · simpa using ih
theorem choose_map {α β : Type} {f : α → β} {P : α → Prop} : ∀ {xs : List β}, (∀ x ∈ xs, ∃ a, x = f a ∧ P a) → ∃ as : List α, xs = as.map f ∧ ∀ a ∈ as, P a
  | [], _ => ⟨[], rfl, fun a h => by cases h⟩
  | x :: r, h => by
    obtain ⟨a, e, p⟩ := h x (.head _)
    obtain ⟨as, e2, p2⟩ := choose_map (xs := r) fun y hy => h y (.tail _ hy)
    refine ⟨a :: as, by rw [List.map_cons, ← e, ← e2], fun b hb => ?_⟩
    rcases List.mem_cons.mp hb with rfl | hb
    · exact p
    · exact p2 b hb
theorem RchI.mono {G : Int → Int} {Sl : Int → List Int} {g : Int} {S S' : Int → Prop} (h : ∀ a, S a → S' a) {i : Int} (r : RchI G Sl g S i) : RchI G Sl g S' i := by
  induction r with
  | seed a ha h0 hg => exact .seed a (h a ha) h0 hg
  | step a b _ hb h0 hg ih => exact .step a b ih hb h0 hg

section
variable {H : Hp} {rows : List Rw} {cs : List (List Int)} {T : Td} {g : Int} {S S' : Int → Prop} {st : MSt} {M M1 M2 L1 L2 : List Int}
theorem MI.mono (h : MI H T g S st) (hs : ∀ a, S a → S' a) : MI H T g S' st := ⟨fun b hb => let ⟨i, hi, e, r⟩ := h.snd b hb; ⟨i, hi, e, r.mono hs⟩, h.wk, h.cov⟩
theorem vA_rdy (I : TInv T) {l : List Int} (h : ∀ b ∈ l, b ∈ T.here) : l.map (wA T) = l.map (vA T) := List.map_congr_left fun b hb => (vA_in (I.nn (h b hb))).symm
theorem strong_rows (I : TInv T) : ∀ {rows : List Rw} {qs : List (Int × Int × Int)}, All2 (RowOf T) rows qs → (∀ q ∈ qs, OrIn T.here q.2.1) → strong rows = (((qs.filter fun r => decide (r.1 = 3)).map (·.2.1)).filter fun a => decide (0 ≤ a)).map (vA T)
  | [], [], _, _ => rfl
  | r :: rs, q :: qs, ⟨h, t⟩, hq => by
    have ih := strong_rows I t fun x hx => hq x (.tail _ hx)
    have hq0 := hq q (.head _)
    unfold strong at ih ⊢
    by_cases c : q.1 = 3 ∧ 0 ≤ q.2.1
    · have hin : q.2.1 ∈ T.here := hq0.resolve_left (by have := c.2; omega)
      have hk : q.2.2 = 1 ∧ r.sort = q.1 := by
        rcases h.kind with ⟨_, _, h3⟩ | h3
        · try (refine ex_let2 ?_; intro lX QX)
          have := c.1; omega
        · exact h3
      have ha : r.addr = wA T q.2.1 := by rw [h.addr, vA_in c.2]
      have hp := I.pos hin
      have e1 : (decide (r.sort = 3) && (decide (r.alive = 1) && decide (r.addr ≠ 0))) = true := by
        rw [hk.2, c.1, h.alive, hk.1, ha]; simp; omega
      rw [List.filter_cons, if_pos e1, List.map_cons, ih, List.filter_cons, if_pos (by simpa using c.1), List.map_cons, List.filter_cons, if_pos (by simpa using c.2), List.map_cons, h.addr]
    · have e1 : (decide (r.sort = 3) && (decide (r.alive = 1) && decide (r.addr ≠ 0))) = false := by
        rw [Bool.eq_false_iff]
        intro e
        try (refine ex_let2 ?_; intro lX QX)
        simp only [Bool.and_eq_true, decide_eq_true_eq] at e
        apply c
        rcases h.kind with ⟨h1, h2, h3⟩ | ⟨h1, h2⟩
        · try (refine ex_let2 ?_; intro lX QX)
          have := h.alive; omega
        · try (refine ex_let2 ?_; intro lX QX)
          refine ⟨by omega, ?_⟩
          rcases hq0 with hm | hm
          · try (refine ex_let2 ?_; intro lX QX)
            have := h.addr
            rw [hm, vA_neg] at this
            exact absurd this e.2.2
          · exact I.nn hm
      rw [List.filter_cons, if_neg (by rw [e1]; decide), ih, List.filter_cons]
      split
      · rename_i hc
        have hc : q.1 = 3 := by simpa using hc
        rw [List.map_cons, List.filter_cons, if_neg]
        simp; by_cases h0 : 0 ≤ q.2.1
        · exact absurd ⟨hc, h0⟩ c
        · omega
      · rfl
  | [], _ :: _, h, _ => h.elim
  | _ :: _, [], h, _ => h.elim

theorem seeds_may (I : TInv T) : ∀ a ∈ seedsT T g, OrIn T.here a := fun a ha => by
  unfold seedsT at ha
  rcases List.mem_append.mp ha with ha | ha
  · try (refine ex_let2 ?_; intro lX QX)
    rcases List.mem_append.mp ha with ha | ha
    · try (refine ex_let2 ?_; intro lX QX)
      rcases List.mem_append.mp ha with ha | ha
      · exact I.roots a ha
      · exact .inr (I.rdy a ha)
    · try (refine ex_let2 ?_; intro lX QX)
      obtain ⟨r, hr, rfl⟩ := List.mem_map.mp ha
      exact I.rows r (List.mem_filter.mp hr).1
  · try (refine ex_let2 ?_; intro lX QX)
    obtain ⟨i, hi, hb⟩ := List.mem_flatMap.mp ha
    exact I.sl i (List.mem_filter.mp hi).1 a hb

theorem st0_mi (I : Inv H rows cs T) (hg : g ≤ 2) : MI H T g (· ∈ seedsT T g) (st0 H g (rootsOf H rows cs)) ∧ ∀ a ∈ seedsT T g, 0 ≤ a → gA T a ≤ g → wA T a ∈ (st0 H g (rootsOf H rows cs)).1 := by
  have hI := I.t
  have may : ∀ a ∈ seedsT T g, May T g (· ∈ seedsT T g) a := fun a ha => ⟨seeds_may hI a ha, fun h0 hg => .seed a ha h0 hg⟩
  have hst := strong_rows hI I.rows hI.rows
  let A := T.roots ++ T.rdy ++ (strongT T).filter fun a => decide (0 ≤ a)
  have hA : (rootsOf H rows cs).flatten = A.map (vA T) := by
    unfold rootsOf
    rw [I.roots, I.rs, hst, vA_rdy hI hI.rdy]
    simp [A, strongT, List.map_append]
  have hAs : ∀ a ∈ A, a ∈ seedsT T g := fun a ha => by
    unfold seedsT
    rcases List.mem_append.mp ha with ha | ha
    · exact List.mem_append_left _ (List.mem_append_left _ ha)
    · exact List.mem_append_left _ (List.mem_append_right _ (List.mem_filter.mp ha).1)
  have h0 : MI H T g (· ∈ seedsT T g) (([], []) : MSt) := ⟨fun b hb => (by cases hb), fun t ht => (by cases ht), fun i _ hb => (by cases hb)⟩
  obtain ⟨m1, _, c1⟩ := pushs_mi I h0 fun a ha => may a (hAs a ha)
  rw [← hA] at m1 c1
  -- the old ones' slots
  have oldx : ∀ x ∈ (oldPairs H.cs g H.ts).map oldVal, ∃ a, x = vA T a ∧ a ∈ oldT T g := fun x hx => by
    obtain ⟨⟨t, s⟩, hp, rfl⟩ := List.mem_map.mp hx
    obtain ⟨htm, hgt, hs, _⟩ := mem_oldPairs.mp hp
    dsimp only at htm hgt hs
    obtain ⟨i, hi, hto⟩ := I.idxOf htm
    have hs' : s < (sA T i).length := by have := hs; rw [hto.slots, List.length_map] at this; exact this
    refine ⟨(sA T i)[s], ?_, List.mem_flatMap.mpr ⟨i, List.mem_filter.mpr ⟨hi, by rw [← hto.gen]; simpa using hgt⟩, List.getElem_mem hs'⟩⟩
    unfold oldVal
    dsimp only
    rw [hto.slots, getD_of (x := vA T (sA T i)[s])]
    rw [List.getElem?_map, List.getElem?_eq_getElem hs']; rfl
  obtain ⟨B, hB, hBs⟩ := choose_map oldx
  have hBs' : ∀ a ∈ B, a ∈ seedsT T g := fun a ha => List.mem_append_right _ (hBs a ha)
  have covO : ∀ a ∈ oldT T g, 0 ≤ a → gA T a ≤ g → ∃ b ∈ B, b = a := fun a ha h0 hga => by
    obtain ⟨i, hi, hb⟩ := List.mem_flatMap.mp ha
    rw [List.mem_filter] at hi
    obtain ⟨hi, hgi⟩ := hi
    have hgi : g < gA T i := by simpa using hgi
    have hain : a ∈ T.here := (hI.sl i hi a hb).resolve_left (by omega)
    obtain ⟨t, htm, hto⟩ := I.thOf hi
    obtain ⟨s, hs⟩ := List.getElem?_of_mem hb
    obtain ⟨hsl, _⟩ := List.getElem?_eq_some_iff.mp hs
    have hs1 : s < t.slots.length := by rw [hto.slots, List.length_map]; exact hsl
    have hval : t.slots.getD s 0 = wA T a := by
      rw [hto.slots, getD_of (x := vA T a), vA_in h0]
      rw [List.getElem?_map, hs]; rfl
    obtain ⟨u, eu, hum, huo⟩ := I.thAt hain
    have hy : refY H.ts t (t.slots.getD s 0) = true := by
      unfold refY
      rw [hval, eu]
      dsimp only
      rw [huo.gen, hto.gen]; simp; omega
    have hp : (t, s) ∈ oldPairs H.cs g H.ts := mem_oldPairs.mpr ⟨htm, by dsimp only; rw [hto.gen]; exact hgi, hs1, I.cards t htm s hs1 hy⟩
    have hv : vA T a ∈ (oldPairs H.cs g H.ts).map oldVal := List.mem_map.mpr ⟨(t, s), hp, by unfold oldVal; dsimp only; rw [hval, vA_in h0]⟩
    rw [hB] at hv
    obtain ⟨b, hbB, e⟩ := List.mem_map.mp hv
    refine ⟨b, hbB, ?_⟩
    have hbo := seeds_may hI b (hBs' b hbB)
    rw [vA_in h0] at e
    have hpos := hI.pos hain
    rcases hbo with rfl | hbh
    · rw [vA_neg] at e; omega
    · rw [vA_in (hI.nn hbh)] at e
      exact hI.inj hbh hain e
  have cov1 : ∀ a ∈ T.roots ++ T.rdy ++ strongT T, 0 ≤ a → gA T a ≤ g → wA T a ∈ (pushs H.ts g (rootsOf H rows cs).flatten ([], [])).1 := fun a ha h0 hga => by
    refine c1 a ?_ h0 hga
    rcases List.mem_append.mp ha with ha | ha
    · exact List.mem_append_left _ ha
    · exact List.mem_append_right _ (List.mem_filter.mpr ⟨ha, by simpa using h0⟩)
  unfold st0
  by_cases hlt : g < 2
  · simp only [hlt, if_true]
    obtain ⟨m2, k2, c2⟩ := pushs_mi I m1 fun a ha => may a (hBs' a ha)
    rw [← hB] at m2 k2 c2
    refine ⟨m2, fun a ha h0 hga => ?_⟩
    rcases List.mem_append.mp ha with ha | ha
    · exact k2 _ (cov1 a ha h0 hga)
    · try (refine ex_let2 ?_; intro lX QX)
      obtain ⟨b, hb, rfl⟩ := covO a ha h0 hga
      exact c2 b hb h0 hga
  · simp only [hlt, if_false]
    refine ⟨m1, fun a ha h0 hga => ?_⟩
    rcases List.mem_append.mp ha with ha | ha
    · exact cov1 a ha h0 hga
    · try (refine ex_let2 ?_; intro lX QX)
      obtain ⟨i, hi, hb⟩ := List.mem_flatMap.mp ha
      rw [List.mem_filter] at hi
      have := (hI.gen i hi.1).2
      have hgi : g < gA T i := by simpa using hi.2
      omega

theorem marks1 (I : Inv H rows cs T) (hg : g ≤ 2) (hd : DrainR H.ts g (st0 H g (rootsOf H rows cs)) M1) : MI H T g (· ∈ seedsT T g) (M1, []) ∧ ∀ a ∈ seedsT T g, 0 ≤ a → gA T a ≤ g → wA T a ∈ M1 := by
  obtain ⟨h1, h2⟩ := st0_mi I hg
  obtain ⟨h3, h4⟩ := drain_mi I hd h1
  exact ⟨h3, fun a ha h0 hga => h4 _ (h2 a ha h0 hga)⟩
theorem marks1_iff (I : Inv H rows cs T) (hg : g ≤ 2) (hd : DrainR H.ts g (st0 H g (rootsOf H rows cs)) M1) (hL : ReachL (gA T) (sA T) g (seedsT T g) L1) {i : Int} (hi : i ∈ T.here) : wA T i ∈ M1 ↔ i ∈ L1 := by
  obtain ⟨h1, h2⟩ := marks1 I hg hd
  rw [hL.mem]
  exact mi_iff I h1 (fun a ha => ⟨seeds_may I.t a ha, h2 a ha⟩) hi
theorem dead_pick (I : Inv H rows cs T) (hm : ∀ i ∈ T.here, wA T i ∈ M ↔ i ∈ L1) {i : Int} (hi : i ∈ T.here) : dead H.ts g M (wA T i) = pickT T g L1 i := by
  obtain ⟨t, e, ht, hto⟩ := I.thAt hi
  unfold dead pickT
  rw [e]
  dsimp only
  rw [hto.gen]
  congr 1
  exact decide_eq_decide.mpr (not_congr (hm i hi))
theorem fs_dead (I : Inv H rows cs T) (hm : ∀ i ∈ T.here, wA T i ∈ M ↔ i ∈ L1) : H.fs.filter (dead H.ts g M) = (T.fin.filter (pickT T g L1)).map (wA T) := by
  rw [I.fs]; exact filter_map' fun a ha => dead_pick I hm (I.t.fin a ha)
theorem fs_kept (I : Inv H rows cs T) (hm : ∀ i ∈ T.here, wA T i ∈ M ↔ i ∈ L1) : H.fs.filter (fun a => !dead H.ts g M a) = (T.fin.filter fun a => !pickT T g L1 a).map (wA T) := by
  rw [I.fs]; exact filter_map' fun a ha => by rw [dead_pick I hm (I.t.fin a ha)]
theorem marks2_iff (I : Inv H rows cs T) (hg : g ≤ 2) (hd : DrainR H.ts g (st0 H g (rootsOf H rows cs)) M1) (hL : ReachL (gA T) (sA T) g (seedsT T g) L1)
    (hd2 : DrainR H.ts g (pushs H.ts g (H.fs.filter (dead H.ts g M1)) (M1, [])) M2) (hL2 : ReachL (gA T) (sA T) g (seedsT T g ++ (T.rdy ++ T.fin.filter (pickT T g L1))) L2) {i : Int} (hi : i ∈ T.here) : wA T i ∈ M2 ↔ i ∈ L2 := by
  have hm := fun i hi => marks1_iff (i := i) I hg hd hL hi
  obtain ⟨h1, h2⟩ := marks1 I hg hd
  have hP : ∀ a ∈ T.fin.filter (pickT T g L1), a ∈ T.here := fun a ha => I.t.fin a (List.mem_filter.mp ha).1
  rw [fs_dead I hm, vA_rdy I.t hP] at hd2
  have h1' := h1.mono (S' := (· ∈ seedsT T g ++ (T.rdy ++ T.fin.filter (pickT T g L1)))) fun a ha => List.mem_append_left _ ha
  obtain ⟨h3, h4, h5⟩ := pushs_mi (as := T.fin.filter (pickT T g L1)) I h1' fun a ha => ⟨.inr (hP a ha), fun h0 hg => .seed a (List.mem_append_right _ (List.mem_append_right _ ha)) h0 hg⟩
  obtain ⟨h6, h7⟩ := drain_mi I hd2 h3
  rw [hL2.mem]
  refine mi_iff I h6 (fun a ha => ?_) hi
  rcases List.mem_append.mp ha with ha | ha
  · exact ⟨seeds_may I.t a ha, fun h0 hga => h7 _ (h4 _ (h2 a ha h0 hga))⟩
  · try (refine ex_let2 ?_; intro lX QX)
    rcases List.mem_append.mp ha with ha | ha
    · try (refine ex_let2 ?_; intro lX QX)
      have hs : a ∈ seedsT T g := List.mem_append_left _ (List.mem_append_left _ (List.mem_append_right _ ha))
      exact ⟨seeds_may I.t a hs, fun h0 hga => h7 _ (h4 _ (h2 a hs h0 hga))⟩
    · exact ⟨.inr (hP a ha), fun h0 hga => h7 _ (h5 a ha h0 hga)⟩
end


theorem all2_map2 {α β : Type} {R R' : α → β → Prop} {f : α → α} {g : β → β} : ∀ {as : List α} {bs : List β}, All2 R as bs → (∀ a b, b ∈ bs → R a b → R' (f a) (g b)) → All2 R' (as.map f) (bs.map g)
  | [], [], _, _ => trivial
  | a :: as, b :: bs, ⟨h, t⟩, k => ⟨k a b (.head _) h, all2_map2 t fun x y hy hr => k x y (.tail _ hy) hr⟩
  | [], _ :: _, h, _ => h.elim
  | _ :: _, [], h, _ => h.elim

section
variable {H : Hp} {rows : List Rw} {cs : List (List Int)} {T : Td} {g s : Int} {M M1 M2 L L1 L2 : List Int} {r : Rw} {q : Int × Int × Int} {K : Addr}
theorem row_cut (I : Inv H rows cs T) (hm : ∀ i ∈ T.here, wA T i ∈ M ↔ i ∈ L) (hs : s ≠ 0) (hr : RowOf T r q) (hq : OrIn T.here q.2.1) : RowOf T (cutF H.ts g M s r) (cutT T g L s q) ∧ OrIn T.here (cutT T g L s q).2.1 := by
  have same : cutR H.ts g M s r = false → ¬ (q.1 = s ∧ 0 ≤ q.2.1 ∧ gA T q.2.1 ≤ g ∧ q.2.1 ∉ L) → RowOf T (cutF H.ts g M s r) (cutT T g L s q) ∧ OrIn T.here (cutT T g L s q).2.1 := fun h1 h2 => by
    unfold cutF cutT
    rw [if_neg (by rw [h1]; decide), if_neg h2]; exact ⟨hr, hq⟩
  rcases hr.kind with ⟨h1, h2, h3⟩ | ⟨h1, h2⟩
  · try (refine ex_let2 ?_; intro lX QX)
    refine same ?_ fun h => hs (by rw [← h.1, h3])
    unfold cutR
    rw [hr.addr, h2, vA_neg]; simp
  · try (refine ex_let2 ?_; intro lX QX)
    rcases hq with hq1 | hq1
    · try (refine ex_let2 ?_; intro lX QX)
      refine same ?_ fun h => by have := h.2.1; omega
      unfold cutR
      rw [hr.addr, hq1, vA_neg]; simp
    · try (refine ex_let2 ?_; intro lX QX)
      have h0 := I.t.nn hq1
      have ha : r.addr = wA T q.2.1 := by rw [hr.addr, vA_in h0]
      have hp := I.t.pos hq1
      have hd := dead_pick (g := g) I hm hq1
      by_cases c : q.1 = s ∧ 0 ≤ q.2.1 ∧ gA T q.2.1 ≤ g ∧ q.2.1 ∉ L
      · have e1 : cutR H.ts g M s r = true := by
          unfold cutR
          rw [ha, hd, h2, c.1]
          unfold pickT
          simp [c.2.2.1, c.2.2.2]; omega
        unfold cutF cutT
        rw [if_pos e1, if_pos c]
        exact ⟨⟨hr.alive, by dsimp only; rw [vA_neg], .inr ⟨h1, h2⟩⟩, .inl rfl⟩
      · try (refine ex_let2 ?_; intro lX QX)
        refine same ?_ c
        rw [Bool.eq_false_iff]
        intro e
        try (refine ex_let2 ?_; intro lX QX)
        unfold cutR at e
        rw [ha, hd, h2] at e
        unfold pickT at e
        simp only [Bool.and_eq_true, decide_eq_true_eq] at e
        exact c ⟨e.1, h0, e.2.2.1, e.2.2.2⟩
theorem liv_inv (I : Inv H rows cs T) (hg : g ≤ 2) (hd : DrainR H.ts g (st0 H g (rootsOf H rows cs)) M1) (hL : ReachL (gA T) (sA T) g (seedsT T g) L1)
    (hd2 : DrainR H.ts g (pushs H.ts g (H.fs.filter (dead H.ts g M1)) (M1, [])) M2) (hL2 : ReachL (gA T) (sA T) g (seedsT T g ++ (T.rdy ++ T.fin.filter (pickT T g L1))) L2) :
    Inv (livH H g M1 K) (livR H g M1 M2 rows) cs (livD T g L1 L2) := by
  have hm := fun i hi => marks1_iff (i := i) I hg hd hL hi
  have hm2 := fun i hi => marks2_iff (i := i) I hg hd hL hd2 hL2 hi
  have hI := I.t
  have hor : ∀ a, OrIn T.here a → InM T.gens.length a := fun a ha => by
    rcases ha with rfl | ha
    · exact ⟨by omega, by omega⟩
    · try (refine ex_let2 ?_; intro lX QX)
      have := hI.ok.here a ha; exact ⟨by have := this.1; omega, this.2⟩
  have hr1 : ∀ q ∈ T.rows.map (cutT T g L1 1), OrIn T.here q.2.1 := fun q hq => by
    obtain ⟨q', hq', rfl⟩ := List.mem_map.mp hq
    unfold cutT
    split
    · exact .inl rfl
    · exact hI.rows q' hq'
  have hr2 : ∀ q ∈ (T.rows.map (cutT T g L1 1)).map (cutT T g L2 2), OrIn T.here q.2.1 := fun q hq => by
    obtain ⟨q', hq', rfl⟩ := List.mem_map.mp hq
    unfold cutT
    split
    · exact .inl rfl
    · exact hr1 q' hq'
  have hs1 : ∀ q ∈ T.rows.map (cutT T g L1 1), 0 ≤ q.2.1 → 1 ≤ q.1 ∧ q.1 ≤ 3 := fun q hq => by
    obtain ⟨q', hq', rfl⟩ := List.mem_map.mp hq
    unfold cutT
    split
    · intro h; dsimp only at h; omega
    · exact hI.srt q' hq'
  have hs2 : ∀ q ∈ (T.rows.map (cutT T g L1 1)).map (cutT T g L2 2), 0 ≤ q.2.1 → 1 ≤ q.1 ∧ q.1 ≤ 3 := fun q hq => by
    obtain ⟨q', hq', rfl⟩ := List.mem_map.mp hq
    unfold cutT
    split
    · intro h; dsimp only at h; omega
    · exact hs1 q' hq'
  have hsp := filter_split (pickT T g L1) T.fin
  have hfl := hI.ok.flen
  have okT : TOk (livD T g L1 L2) := ⟨hI.ok.n1, hI.ok.n2, hI.ok.n, hI.ok.here, hI.ok.hlen, hI.ok.sl, hI.ok.roots, fun b hb => hI.ok.fin b (List.mem_filter.mp hb).1, fun b hb => by
    rcases List.mem_append.mp hb with hb | hb
    · exact hI.ok.rdy b hb
    · exact hI.ok.fin b (List.mem_filter.mp hb).1, by unfold livD; simp only [List.length_append]; omega, fun r hr => hor _ (hr2 r hr), by unfold livD; simp only [List.length_map]; exact hI.ok.rlen⟩
  refine ⟨⟨okT, hI.asc, ?_, hI.gen, hI.mono, hI.sl, hI.roots, fun b hb => hI.fin b (List.mem_filter.mp hb).1, fun b hb => ?_, hr2, hs2⟩, livH_ok I.ok, I.ts.mono fun t i h => ⟨h.addr, h.kind, h.gen, h.size, h.serial, h.slots⟩, fs_kept I hm, ?_, I.roots, ?_, I.top, I.made, I.cards⟩
  · try (refine ex_let2 ?_; intro lX QX)
    have : ∀ {l : List Int} {pos top : Int}, chainT T pos l top → chainT (livD T g L1 L2) pos l top := by
      intro l
      try (refine ex_let2 ?_; intro lX QX)
      induction l with
      | nil => exact fun h => h
      | cons i r ih => exact fun h => ⟨h.1, ih h.2⟩
    exact this hI.chain
  · try (refine ex_let2 ?_; intro lX QX)
    rcases List.mem_append.mp hb with hb | hb
    · exact hI.rdy b hb
    · exact hI.fin b (List.mem_filter.mp hb).1
  · show H.rs ++ H.fs.filter (dead H.ts g M1) = (T.rdy ++ T.fin.filter (pickT T g L1)).map (wA T)
    rw [I.rs, fs_dead I hm, List.map_append]
  · try (refine ex_let2 ?_; intro lX QX)
    have h1 : All2 (RowOf T) (rows.map (cutF H.ts g M1 1)) (T.rows.map (cutT T g L1 1)) := all2_map2 I.rows fun r q hq hr => (row_cut I hm (by decide) hr (hI.rows q hq)).1
    have h2 : All2 (RowOf T) ((rows.map (cutF H.ts g M1 1)).map (cutF H.ts g M2 2)) ((T.rows.map (cutT T g L1 1)).map (cutT T g L2 2)) := all2_map2 h1 fun r q hq hr => (row_cut I hm2 (by decide) hr (hr1 q hq)).1
    exact h2.mono fun r q h => ⟨h.alive, h.addr, h.kind⟩
end


/-! ## the sweep, as data -/
noncomputable def chainF (w z : Int → Int) : Int → List Int → Int → Prop
  | pos, [], top => top = pos
  | pos, i :: r, top => w i = pos ∧ chainF w z (pos + z i) r top
theorem chainT_F {T : Td} : ∀ {l : List Int} {pos top : Int}, chainT T pos l top ↔ chainF (wA T) (fun i => sizeOf' (sA T i).length) pos l top
  | [], _, _ => Iff.rfl
  | i :: r, pos, top => and_congr Iff.rfl (chainT_F (l := r))
theorem chainF_snoc {w z : Int → Int} : ∀ {l : List Int} {pos top : Int} {i : Int}, chainF w z pos l top → w i = top → chainF w z pos (l ++ [i]) (top + z i)
  | [], pos, top, i, h, e => ⟨by rw [e]; exact h, by rw [show top = pos from h]; rfl⟩
  | _ :: r, _, _, _, ⟨h1, h2⟩, e => ⟨h1, chainF_snoc h2 e⟩
theorem chainF_congr {w w' z : Int → Int} : ∀ {l : List Int} {pos top : Int}, (∀ i ∈ l, w' i = w i) → chainF w z pos l top → chainF w' z pos l top
  | [], _, _, _, h => h
  | i :: r, _, _, k, ⟨h1, h2⟩ => ⟨by rw [k i (.head _)]; exact h1, chainF_congr (fun j hj => k j (.tail _ hj)) h2⟩
theorem chainF_app {w z : Int → Int} : ∀ {l l' : List Int} {pos top : Int}, chainF w z pos (l ++ l') top → ∃ m, chainF w z pos l m ∧ chainF w z m l' top
  | [], _, pos, _, h => ⟨pos, rfl, h⟩
  | _ :: r, _, _, _, ⟨h1, h2⟩ => let ⟨m, a, b⟩ := chainF_app h2; ⟨m, ⟨h1, a⟩, b⟩

set_option genInjectivity false in
structure SwS where
  whr : List Int
  gens : List Int
  here : List Int
  pos : Int
noncomputable def up2 (x : Int) : Int := if x + 1 < 2 then x + 1 else 2
noncomputable def swStep (T : Td) (g : Int) (L : List Int) (s : SwS) (i : Int) : SwS := if g < s.gens.getD i.toNat 0 ∨ i ∈ L then
    ⟨s.whr.set i.toNat s.pos, if s.gens.getD i.toNat 0 ≤ g then s.gens.set i.toNat (up2 (s.gens.getD i.toNat 0)) else s.gens, s.here ++ [i], s.pos + sizeOf' (sA T i).length⟩
  else s
noncomputable def swAll (T : Td) (g : Int) (L : List Int) (l : List Int) : SwS := l.foldl (swStep T g L) ⟨T.whr, T.gens, [], 16⟩
noncomputable def stT (T : Td) (g : Int) (L : List Int) (i : Int) : Bool := decide (g < gA T i) || decide (i ∈ L)
noncomputable def sweptT (T : Td) (g : Int) (L : List Int) : Td := let s := swAll T g L T.here
  { T with whr := s.whr, gens := s.gens, here := s.here, top := s.pos }
noncomputable def ngA (T : Td) (g i : Int) : Int := if gA T i ≤ g then up2 (gA T i) else gA T i

structure SwInv (T : Td) (g : Int) (L l : List Int) (s : SwS) : Prop where
  n1 : s.whr.length = T.gens.length
  n2 : s.gens.length = T.gens.length
  here : s.here = l.filter (stT T g L)
  old : ∀ i : Int, 0 ≤ i → i ∉ l → s.gens.getD i.toNat 0 = gA T i
  new : ∀ i ∈ s.here, s.gens.getD i.toNat 0 = ngA T g i
  chain : chainF (fun i => s.whr.getD i.toNat 0) (fun i => sizeOf' (sA T i).length) 16 s.here s.pos
theorem getD_set {xs : List Int} {i j : Nat} {a : Int} : (xs.set i a).getD j 0 = if i = j then (if i < xs.length then a else 0) else xs.getD j 0 := by
  rw [List.getD_eq_getElem?_getD, List.getD_eq_getElem?_getD, List.getElem?_set]
  by_cases h : i = j
  · subst h
    rw [if_pos rfl, if_pos rfl]
    split <;> rfl
  · rw [if_neg h, if_neg h]
theorem sw_inv {T : Td} {g : Int} {L : List Int} (ok : TOk T) (nd : T.here.Nodup) : ∀ (l l' : List Int), T.here = l ++ l' → SwInv T g L l (swAll T g L l) := by
  intro l
  try (refine ex_let2 ?_; intro lX QX)
  have gen : ∀ (n : Nat) (l l' : List Int), l.length = n → T.here = l ++ l' → SwInv T g L l (swAll T g L l) := by
    intro n
    try (refine ex_let2 ?_; intro lX QX)
    induction n with
    | zero =>
      intro l l' hn he
      have : l = [] := List.length_eq_zero_iff.mp hn
      subst this
      exact ⟨ok.n1, rfl, rfl, fun i _ _ => rfl, fun i hi => (by cases hi), rfl⟩
    | succ n ih =>
      intro l l' hn he
      try (refine ex_let2 ?_; intro lX QX)
      rcases last_of l with rfl | ⟨l₀, i, rfl⟩
      · simp at hn
      · have hl0 : l₀.length = n := by simpa using hn
        have I := ih l₀ ([i] ++ l') hl0 (by rw [he]; simp)
        have hih : i ∈ T.here := by rw [he]; simp
        obtain ⟨h0, h1⟩ := ok.here i hih
        have hil : i ∉ l₀ := by
          rw [he, List.append_assoc, List.nodup_append] at nd
          intro h
          try (refine ex_let2 ?_; intro lX QX)
          exact nd.2.2 i h i (by simp) rfl
        have e : swAll T g L (l₀ ++ [i]) = swStep T g L (swAll T g L l₀) i := by unfold swAll; rw [List.foldl_append]; rfl
        rw [e]
        have hg := I.old i h0 hil
        have hinj : ∀ j : Int, 0 ≤ j → j ≠ i → i.toNat ≠ j.toNat := fun j hj hne e => hne (by omega)
        have hsub : ∀ j ∈ (swAll T g L l₀).here, j ∈ l₀ := fun j hj => by rw [I.here] at hj; exact (List.mem_filter.mp hj).1
        have hsub0 : ∀ j ∈ l₀, 0 ≤ j := fun j hj => (ok.here j (by rw [he]; simp [hj])).1
        unfold swStep
        rw [hg]
        by_cases c : g < gA T i ∨ i ∈ L
        · rw [if_pos c]
          have hst : stT T g L i = true := by unfold stT; simpa using c
          refine ⟨by rw [List.length_set]; exact I.n1, ?_, by rw [I.here, List.filter_append]; simp [hst], fun j hj hjl => ?_, fun j hj => ?_, ?_⟩
          · dsimp only; split
            · rw [List.length_set]; exact I.n2
            · exact I.n2
          · rw [List.mem_append, not_or] at hjl
            have hne : j ≠ i := fun e => hjl.2 (by simp [e])
            dsimp only
            split
            · rw [getD_set, if_neg (hinj j hj hne)]; exact I.old j hj hjl.1
            · exact I.old j hj hjl.1
          · dsimp only at hj ⊢
            rcases List.mem_append.mp hj with hj | hj
            · have hjl := hsub j hj
              have hne : j ≠ i := fun e => hil (e ▸ hjl)
              split
              · rw [getD_set, if_neg (hinj j (hsub0 j hjl) hne)]; exact I.new j hj
              · exact I.new j hj
            · simp at hj; subst hj
              unfold ngA
              split
              · rw [getD_set, if_pos rfl, if_pos (by rw [I.n2]; omega)]
              · exact hg
          · try (refine ex_let2 ?_; intro lX QX)
            refine chainF_snoc (chainF_congr (fun j hj => ?_) I.chain) ?_
            · have hjl := hsub j hj
              have hne : j ≠ i := fun e => hil (e ▸ hjl)
              dsimp only
              rw [getD_set, if_neg (hinj j (hsub0 j hjl) hne)]
            · dsimp only
              rw [getD_set, if_pos rfl, if_pos (by rw [I.n1]; omega)]
        · rw [if_neg c]
          have hst : stT T g L i = false := by unfold stT; rw [not_or] at c; simp [c.1, c.2]
          refine ⟨I.n1, I.n2, by rw [I.here, List.filter_append]; simp [hst], fun j hj hjl => I.old j hj fun h => hjl (List.mem_append_left _ h), I.new, I.chain⟩
  intro l' he
  try (refine ex_let2 ?_; intro lX QX)
  exact gen l.length l l' rfl he


/-! ## moving, by the table -/
theorem olds_first {T : Td} {g : Int} : ∀ {l : List Int}, (l.Pairwise fun i j => gA T j ≤ gA T i) → ∃ a b, l = a ++ b ∧ (∀ i ∈ a, g < gA T i) ∧ ∀ i ∈ b, gA T i ≤ g
  | [], _ => ⟨[], [], rfl, fun i h => (by cases h), fun i h => (by cases h)⟩
  | i :: r, h => by
    rw [List.pairwise_cons] at h
    by_cases c : g < gA T i
    · try (refine ex_let2 ?_; intro lX QX)
      obtain ⟨a, b, e, h1, h2⟩ := olds_first h.2
      refine ⟨i :: a, b, by rw [e]; rfl, fun j hj => ?_, h2⟩
      rcases List.mem_cons.mp hj with rfl | hj
      · exact c
      · exact h1 j hj
    · try (refine ex_let2 ?_; intro lX QX)
      refine ⟨[], i :: r, rfl, fun j h => (by cases h), fun j hj => ?_⟩
      rcases List.mem_cons.mp hj with rfl | hj
      · omega
      · try (refine ex_let2 ?_; intro lX QX)
        have := h.1 j hj; omega

section
variable {T : Td} {g : Int} {L M : List Int} {w : Int → Int}
theorem endOld_old : ∀ {ts : List Th} {l : List Int} {pos m : Int}, All2 (ThOf T) ts l → (∀ i ∈ l, g < gA T i) → chainF (wA T) (fun i => sizeOf' (sA T i).length) pos l m → ts.foldl (endStep g) pos = m
  | [], [], pos, m, _, _, h => (show m = pos from h).symm
  | t :: ts, i :: l, pos, m, ⟨ht, hts⟩, ho, ⟨h1, h2⟩ => by
    have hp := sizeOf_pos (sA T i).length
    rw [List.foldl_cons]
    have : endStep g pos t = pos + sizeOf' (sA T i).length := by
      unfold endStep
      rw [ht.gen, ht.addr, ht.size, h1, if_pos ⟨ho i (.head _), by omega⟩]
    rw [this]
    exact endOld_old hts (fun j hj => ho j (.tail _ hj)) h2
  | [], _ :: _, _, _, h, _, _ => h.elim
  | _ :: _, [], _, _, h, _, _ => h.elim
theorem endOld_young {e : Int} : ∀ {ts : List Th} {l : List Int}, All2 (ThOf T) ts l → (∀ i ∈ l, gA T i ≤ g) → ts.foldl (endStep g) e = e
  | [], [], _, _ => rfl
  | t :: ts, i :: l, ⟨ht, hts⟩, ho => by
    rw [List.foldl_cons]
    have : endStep g e t = e := by
      unfold endStep
      rw [if_neg]; rw [ht.gen]; have := ho i (.head _); omega
    rw [this]
    exact endOld_young hts fun j hj => ho j (.tail _ hj)
  | [], _ :: _, h, _ => h.elim
  | _ :: _, [], h, _ => h.elim
theorem plan_old {s : List (Int × Int) × Int} : ∀ {ts : List Th} {l : List Int}, All2 (ThOf T) ts l → (∀ i ∈ l, g < gA T i) → ts.foldl (planStep g M) s = s
  | [], [], _, _ => rfl
  | t :: ts, i :: l, ⟨ht, hts⟩, ho => by
    rw [List.foldl_cons]
    have : planStep g M s t = s := by
      unfold planStep goes
      rw [if_neg]; rw [ht.gen]; have := ho i (.head _); simp; omega
    rw [this]
    exact plan_old hts fun j hj => ho j (.tail _ hj)
  | [], _ :: _, h, _ => h.elim
  | _ :: _, [], h, _ => h.elim
theorem plan_young : ∀ {ts : List Th} {l : List Int} {mv : List (Int × Int)} {e m : Int}, All2 (ThOf T) ts l → (∀ i ∈ l, gA T i ≤ g) → (∀ i ∈ l, wA T i ∈ M ↔ i ∈ L) → chainF w (fun i => sizeOf' (sA T i).length) e (l.filter (stT T g L)) m →
    ts.foldl (planStep g M) (mv, e) = (mv ++ (l.filter (stT T g L)).map (fun i => (wA T i, w i)), m)
  | [], [], mv, e, m, _, _, _, h => by rw [show m = e from h]; simp
  | t :: ts, i :: l, mv, e, m, ⟨ht, hts⟩, hy, hM, h => by
    rw [List.foldl_cons]
    have hyi := hy i (.head _)
    by_cases c : i ∈ L
    · have hst : stT T g L i = true := by unfold stT; simp [c]
      have hgo : goes g M t = true := by
        unfold goes
        rw [ht.gen, ht.addr]
        have := (hM i (.head _)).mpr c
        simp [hyi, this]
      rw [List.filter_cons, if_pos hst] at h ⊢
      obtain ⟨h1, h2⟩ := h
      have : planStep g M (mv, e) t = (mv ++ [(wA T i, w i)], e + sizeOf' (sA T i).length) := by
        unfold planStep
        rw [if_pos hgo, ht.addr, ht.size, h1]
      rw [this, plan_young hts (fun j hj => hy j (.tail _ hj)) (fun j hj => hM j (.tail _ hj)) h2]
      simp
    · have hst : stT T g L i = false := by unfold stT; simp [c]; omega
      have hgo : goes g M t = false := by
        unfold goes
        rw [ht.gen, ht.addr]
        have : wA T i ∉ M := fun h => c ((hM i (.head _)).mp h)
        simp [this]
      rw [List.filter_cons, hst, if_neg (by decide)] at h ⊢
      have : planStep g M (mv, e) t = (mv, e) := by unfold planStep; rw [hgo, if_neg (by decide)]
      rw [this]
      exact plan_young hts (fun j hj => hy j (.tail _ hj)) (fun j hj => hM j (.tail _ hj)) h
  | [], _ :: _, _, _, _, h, _, _, _ => h.elim
  | _ :: _, [], _, _, _, h, _, _, _ => h.elim
theorem All2.split_r {α β : Type} {R : α → β → Prop} : ∀ {as : List α} {b1 b2 : List β}, All2 R as (b1 ++ b2) → ∃ a1 a2, as = a1 ++ a2 ∧ All2 R a1 b1 ∧ All2 R a2 b2
  | as, [], _, h => ⟨[], as, rfl, trivial, h⟩
  | a :: as, b :: b1, b2, ⟨h, t⟩ => let ⟨a1, a2, e, x, y⟩ := All2.split_r t; ⟨a :: a1, a2, by rw [e]; rfl, ⟨h, x⟩, y⟩
  | [], _ :: _, _, h => h.elim
theorem chain_old_same {z : Int → Int} {w w' : Int → Int} : ∀ {l : List Int} {pos m m' : Int}, chainF w z pos l m → chainF w' z pos l m' → m = m' ∧ ∀ i ∈ l, w i = w' i
  | [], _, _, _, h, h' => ⟨by rw [show _ = _ from h, show _ = _ from h'], fun i hi => by cases hi⟩
  | i :: r, _, _, _, ⟨h1, h2⟩, ⟨h3, h4⟩ => by
    obtain ⟨e, k⟩ := chain_old_same h2 h4
    refine ⟨e, fun j hj => ?_⟩
    rcases List.mem_cons.mp hj with rfl | hj
    · rw [h1, h3]
    · exact k j hj
theorem lookup_map {f k : Int → Int} : ∀ {l : List Int} {i : Int}, (∀ j ∈ l, f j = f i → j = i) → (l.map fun j => (f j, k j)).lookup (f i) = if i ∈ l then some (k i) else none
  | [], i, _ => by simp
  | j :: r, i, h => by
    rw [List.map_cons, List.lookup_cons]
    by_cases e : f j = f i
    · have := h j (.head _) e
      subst this
      simp
    · have e' : (f i == f j) = false := beq_eq_false_iff_ne.mpr (Ne.symm e)
      rw [e']
      dsimp only
      rw [lookup_map fun x hx => h x (.tail _ hx)]
      have hne : i ≠ j := fun q => e (by rw [q])
      simp [hne]
end

/-- what the moves are, by the table -/
structure Moves (T : Td) (g : Int) (L : List Int) (mv : List (Int × Int)) (T' : Td) : Prop where
  look : ∀ i ∈ T.here, mv.lookup (wA T i) = if gA T i ≤ g ∧ i ∈ L then some (wA T' i) else none
  zero : mv.lookup 0 = none
  old : ∀ i ∈ T.here, g < gA T i → wA T' i = wA T i
section
variable {H : Hp} {rows : List Rw} {cs : List (List Int)} {T : Td} {g s : Int} {M M1 M2 L L1 L2 : List Int}
theorem asc_nodup {l : List Int} (h : l.Pairwise (· < ·)) : l.Nodup := h.imp fun h => by omega
theorem moves_of (I : Inv H rows cs T) (hM : ∀ i ∈ T.here, wA T i ∈ M ↔ i ∈ L) : Moves T g L (mvOf H g M) (sweptT T g L) := by
  have hI := I.t
  have S := sw_inv (g := g) (L := L) hI.ok (asc_nodup hI.asc) T.here [] (by simp)
  obtain ⟨sw, hsw⟩ : ∃ sw, swAll T g L T.here = sw := ⟨_, rfl⟩
  rw [hsw] at S
  have hwA : ∀ i, wA (sweptT T g L) i = sw.whr.getD i.toNat 0 := fun i => by rw [← hsw]; rfl
  obtain ⟨a, b, e, ha, hb⟩ := olds_first (g := g) hI.mono
  have hc := chainT_F.mp hI.chain
  have hts := I.ts
  rw [e] at hc hts
  obtain ⟨m, c1, c2⟩ := chainF_app hc
  obtain ⟨t1, t2, et, r1, r2⟩ := hts.split_r
  have hch := S.chain
  rw [S.here, e, List.filter_append] at hch
  have hfa : a.filter (stT T g L) = a := List.filter_eq_self.mpr fun i hi => by unfold stT; simp [ha i hi]
  rw [hfa] at hch
  obtain ⟨m', d1, d2⟩ := chainF_app hch
  obtain ⟨em, ew⟩ := chain_old_same c1 d1
  subst em
  have hend : endOld g H.ts = m := by
    unfold endOld
    rw [et, List.foldl_append, endOld_old r1 ha c1, endOld_young r2 hb]
  have hmb : ∀ i ∈ b, wA T i ∈ M ↔ i ∈ L := fun i hi => hM i (by rw [e]; exact List.mem_append_right _ hi)
  have hmv : mvOf H g M = (b.filter (stT T g L)).map fun i => (wA T i, sw.whr.getD i.toNat 0) := by
    unfold mvOf plan
    rw [hend, et, List.foldl_append, plan_old r1 ha, plan_young r2 hb hmb (w := fun i => sw.whr.getD i.toNat 0) d2]
    simp
  have hbT : ∀ i ∈ b, i ∈ T.here := fun i hi => by rw [e]; exact List.mem_append_right _ hi
  refine ⟨fun i hi => ?_, ?_, fun i hi hg => ?_⟩
  · rw [hmv, lookup_map fun j hj ej => hI.inj (hbT j (List.mem_filter.mp hj).1) hi ej]
    have : i ∈ b.filter (stT T g L) ↔ gA T i ≤ g ∧ i ∈ L := by
      rw [List.mem_filter]
      constructor
      · rintro ⟨hib, hs⟩
        try (refine ex_let2 ?_; intro lX QX)
        have hy := hb i hib
        unfold stT at hs
        simp at hs
        exact ⟨hy, hs.resolve_left (by omega)⟩
      · rintro ⟨hy, hl⟩
        try (refine ex_let2 ?_; intro lX QX)
        have hi' := hi
        rw [e] at hi'
        rcases List.mem_append.mp hi' with hia | hib
        · try (refine ex_let2 ?_; intro lX QX)
          have := ha i hia; omega
        · exact ⟨hib, by unfold stT; simp [hl]⟩
    by_cases c : gA T i ≤ g ∧ i ∈ L
    · rw [if_pos c, if_pos (this.mpr c), hwA]
    · rw [if_neg c, if_neg fun h => c (this.mp h)]
  · rw [hmv]
    have : ∀ {l : List Int}, (∀ i ∈ l, i ∈ T.here) → (l.map fun i => (wA T i, sw.whr.getD i.toNat 0)).lookup 0 = none := by
      intro l
      try (refine ex_let2 ?_; intro lX QX)
      induction l with
      | nil => intro _; rfl
      | cons j r ih =>
        intro h
        rw [List.map_cons, List.lookup_cons]
        have := hI.pos (h j (.head _))
        have e' : ((0 : Int) == wA T j) = false := beq_eq_false_iff_ne.mpr (by omega)
        rw [e']
        exact ih fun x hx => h x (.tail _ hx)
    exact this fun i hi => hbT i (List.mem_filter.mp hi).1
  · try (refine ex_let2 ?_; intro lX QX)
    have hi' := hi
    rw [e] at hi'
    rcases List.mem_append.mp hi' with hia | hib
    · rw [hwA]; exact (ew i hia).symm
    · try (refine ex_let2 ?_; intro lX QX)
      have := hb i hib; omega
end


theorem all2_filter {α β : Type} {R : α → β → Prop} {p : α → Bool} {q : β → Bool} : ∀ {as : List α} {bs : List β}, All2 R as bs → (∀ a b, b ∈ bs → R a b → p a = q b) → All2 R (as.filter p) (bs.filter q)
  | [], [], _, _ => trivial
  | a :: as, b :: bs, ⟨h, t⟩, k => by
    have e := k a b (.head _) h
    have ih := all2_filter t fun x y hy hr => k x y (.tail _ hy) hr
    rw [List.filter_cons, List.filter_cons, e]
    cases q b
    · exact ih
    · exact ⟨h, ih⟩
  | [], _ :: _, h, _ => h.elim
  | _ :: _, [], h, _ => h.elim
theorem all2_map_l {α β : Type} {R R' : α → β → Prop} {f : α → α} : ∀ {as : List α} {bs : List β}, All2 R as bs → (∀ a b, b ∈ bs → R a b → R' (f a) b) → All2 R' (as.map f) bs
  | [], [], _, _ => trivial
  | a :: as, b :: bs, ⟨h, t⟩, k => ⟨k a b (.head _) h, all2_map_l t fun x y hy hr => k x y (.tail _ hy) hr⟩
  | [], _ :: _, h, _ => h.elim
  | _ :: _, [], h, _ => h.elim
theorem mem_cardsOf {ps : List (Th × Nat)} {p : Th × Nat} (h : p ∈ ps) : cardAt p ∈ cardsOf ps := by
  unfold cardsOf
  have keep : ∀ (ps : List (Th × Nat)) (cs : List Int) (c : Int), c ∈ cs → c ∈ ps.foldl (fun cs p => addC cs (cardAt p)) cs := by
    intro ps
    try (refine ex_let2 ?_; intro lX QX)
    induction ps with
    | nil => exact fun _ _ h => h
    | cons x r ih =>
      intro cs c h
      try (refine ex_let2 ?_; intro lX QX)
      refine ih _ _ ?_
      show c ∈ addC cs (cardAt x)
      unfold addC; split
      · exact h
      · exact List.mem_append_left _ h
  have : ∀ (ps : List (Th × Nat)) (cs : List Int), p ∈ ps → cardAt p ∈ ps.foldl (fun cs p => addC cs (cardAt p)) cs := by
    intro ps
    try (refine ex_let2 ?_; intro lX QX)
    induction ps with
    | nil => intro _ h; cases h
    | cons x r ih =>
      intro cs h
      try (refine ex_let2 ?_; intro lX QX)
      rcases List.mem_cons.mp h with rfl | h
      · try (refine ex_let2 ?_; intro lX QX)
        refine keep r _ _ ?_
        show cardAt p ∈ addC cs (cardAt p)
        unfold addC; split
        · try (refine ex_let2 ?_; intro lX QX)
          assumption
        · simp
      · exact ih _ h
  exact this ps [] h
theorem topOf_chain {T : Td} : ∀ {ts : List Th} {l : List Int} {pos top : Int}, All2 (ThOf T) ts l → chainT T pos l top → ts.foldl (fun _ t => t.addr + t.size) pos = top
  | [], [], _, _, _, h => (show _ = _ from h).symm
  | t :: ts, i :: l, pos, top, ⟨ht, hts⟩, ⟨h1, h2⟩ => by
    rw [List.foldl_cons, ht.addr, ht.size, h1]
    exact topOf_chain hts h2
  | [], _ :: _, _, _, h, _ => h.elim
  | _ :: _, [], _, _, h, _ => h.elim
/-- what is to stay is closed -/
structure Closed (T : Td) (g : Int) (L : List Int) : Prop where
  sl : ∀ i ∈ T.here, stT T g L i = true → ∀ b ∈ sA T i, b = -1 ∨ (b ∈ T.here ∧ stT T g L b = true)
  roots : ∀ b ∈ T.roots, b = -1 ∨ (b ∈ T.here ∧ stT T g L b = true)
  fin : ∀ b ∈ T.fin, stT T g L b = true
  rdy : ∀ b ∈ T.rdy, stT T g L b = true
  rows : ∀ r ∈ T.rows, r.2.1 = -1 ∨ (r.2.1 ∈ T.here ∧ stT T g L r.2.1 = true)

section
variable {H : Hp} {rows : List Rw} {cs : List (List Int)} {T : Td} {g s : Int} {M M1 M2 L L1 L2 : List Int} {mv : List (Int × Int)}
theorem fwd_v (I : TInv T) (hm : Moves T g L mv (sweptT T g L)) {b : Int} (hb : b = -1 ∨ (b ∈ T.here ∧ stT T g L b = true)) : fwd mv (vA T b) = vA (sweptT T g L) b := by
  rcases hb with rfl | ⟨hb, hs⟩
  · rw [vA_neg, vA_neg]; unfold fwd; rw [hm.zero]; rfl
  · have h0 := I.nn hb
    rw [vA_in h0, vA_in h0]
    unfold fwd
    rw [hm.look b hb]
    unfold stT at hs
    by_cases c : gA T b ≤ g
    · have hl : b ∈ L := by simp at hs; exact hs.resolve_left (by omega)
      rw [if_pos ⟨c, hl⟩]; rfl
    · rw [if_neg fun h => c h.1, hm.old b hb (by omega)]; rfl
theorem stay_iff (hm : Moves T g L mv (sweptT T g L)) {t : Th} {i : Int} (hi : i ∈ T.here) (ht : ThOf T t i) : stayB g mv t = stT T g L i := by
  unfold stayB stT
  rw [ht.gen, ht.addr, hm.look i hi]
  by_cases c : g < gA T i
  · simp [c]
  · try (refine ex_let2 ?_; intro lX QX)
    by_cases hl : i ∈ L
    · rw [if_pos ⟨by omega, hl⟩]; simp [hl]
    · rw [if_neg fun h => hl h.2]; simp [hl]
theorem th_moved (I : TInv T) (hg : g ≤ 2) (hm : Moves T g L mv (sweptT T g L)) (hc : Closed T g L) (S : SwInv T g L T.here (swAll T g L T.here)) {t : Th} {i : Int} (hi : i ∈ T.here) (hs : stT T g L i = true) (ht : ThOf T t i) : ThOf (sweptT T g L) (settleS g mv t) i := by
  have hiS : i ∈ (swAll T g L T.here).here := by rw [S.here]; exact List.mem_filter.mpr ⟨hi, hs⟩
  have hga : gA (sweptT T g L) i = ngA T g i := S.new i hiS
  have hgr := I.gen i hi
  have hv := fwd_v I hm (b := i) (.inr ⟨hi, hs⟩)
  have h0 := I.nn hi
  rw [vA_in h0, vA_in h0] at hv
  have hsl : t.slots.map (fwd mv) = (sA (sweptT T g L) i).map (vA (sweptT T g L)) := by
    rw [ht.slots, List.map_map]
    exact List.map_congr_left fun b hb => fwd_v I hm (hc.sl i hi hs b hb)
  unfold settleS settleF
  by_cases c : g < t.gen
  · simp only [c, if_true]
    have c' : g < gA T i := by rw [← ht.gen]; exact c
    exact ⟨by rw [ht.addr, hm.old i hi c'], ht.kind, by rw [hga]; unfold ngA; rw [if_neg (by omega), ht.gen], ht.size, ht.serial, hsl⟩
  · simp only [c, if_false]
    have c' : ¬ g < gA T i := by rw [← ht.gen]; exact c
    refine ⟨by dsimp only; rw [ht.addr, hv], ht.kind, ?_, ht.size, ht.serial, hsl⟩
    rw [hga]; unfold ngA up2
    simp only [ht.gen]
    have c3 : gA T i ≤ g := by omega
    simp only [c3, if_true]
    split <;> split <;> omega

theorem swept_tinv (I : TInv T) (hg : 0 ≤ g ∧ g ≤ 2) (hc : Closed T g L) (S : SwInv T g L T.here (swAll T g L T.here)) : TInv (sweptT T g L) := by
  have hh : (sweptT T g L).here = T.here.filter (stT T g L) := S.here
  have hmem : ∀ i, i ∈ (sweptT T g L).here ↔ i ∈ T.here ∧ stT T g L i = true := fun i => by rw [hh]; exact List.mem_filter
  have n1 : (sweptT T g L).whr.length = T.gens.length := S.n1
  have n2 : (sweptT T g L).gens.length = T.gens.length := S.n2
  have hor : ∀ b, (b = -1 ∨ (b ∈ T.here ∧ stT T g L b = true)) → OrIn (sweptT T g L).here b := fun b hb => hb.imp id fun h => (hmem b).mpr h
  have hga : ∀ i ∈ (sweptT T g L).here, gA (sweptT T g L) i = ngA T g i := fun i hi => S.new i hi
  have up : ∀ {x y : Int}, x ≤ y → up2 x ≤ up2 y := fun h => by unfold up2; split <;> split <;> omega
  refine ⟨⟨by rw [n1, n2], by rw [n2]; exact I.ok.n2, by rw [n2]; exact I.ok.n, fun i hi => by rw [n2]; exact I.ok.here i ((hmem i).mp hi).1, by rw [hh]; exact Nat.le_trans (List.length_filter_le _ _) I.ok.hlen, fun x hx => by rw [n2]; exact I.ok.sl x hx,
      by rw [n2]; exact I.ok.roots, by rw [n2]; exact I.ok.fin, by rw [n2]; exact I.ok.rdy, I.ok.flen, by rw [n2]; exact I.ok.rows, I.ok.rlen⟩,
    by rw [hh]; exact I.asc.filter _, chainT_F.mpr S.chain, fun i hi => ?_, ?_, fun i hi b hb => hor b (hc.sl i ((hmem i).mp hi).1 ((hmem i).mp hi).2 b hb), fun b hb => hor b (hc.roots b hb), fun b hb => (hmem b).mpr ⟨I.fin b hb, hc.fin b hb⟩, fun b hb => (hmem b).mpr ⟨I.rdy b hb, hc.rdy b hb⟩,
    fun r hr => hor _ (hc.rows r hr), I.srt⟩
  · rw [hga i hi]
    have := I.gen i ((hmem i).mp hi).1
    unfold ngA up2
    split
    · split <;> omega
    · omega
  · try (refine ex_let2 ?_; intro lX QX)
    have h1 : (sweptT T g L).here.Pairwise fun i j => gA T j ≤ gA T i := by rw [hh]; exact I.mono.filter _
    have h2 : ∀ l : List Int, (∀ i ∈ l, i ∈ (sweptT T g L).here) → (l.Pairwise fun i j => gA T j ≤ gA T i) → l.Pairwise fun i j => gA (sweptT T g L) j ≤ gA (sweptT T g L) i := by
      intro l
      try (refine ex_let2 ?_; intro lX QX)
      induction l with
      | nil => exact fun _ _ => List.Pairwise.nil
      | cons i r ih =>
        intro hl hp
        try (refine ex_let2 ?_; intro lX QX)
        rw [List.pairwise_cons] at hp
        refine List.Pairwise.cons (fun j hj => ?_) (ih (fun x hx => hl x (.tail _ hx)) hp.2)
        rw [hga i (hl i (.head _)), hga j (hl j (.tail _ hj))]
        have h3 := hp.1 j hj
        have h4 := I.gen i ((hmem i).mp (hl i (.head _))).1
        have h5 := I.gen j ((hmem j).mp (hl j (.tail _ hj))).1
        unfold ngA
        by_cases c1 : gA T i ≤ g
        · rw [if_pos c1, if_pos (by omega)]; exact up h3
        · rw [if_neg c1]
          by_cases c2 : gA T j ≤ g
          · rw [if_pos c2]; unfold up2; split <;> omega
          · rw [if_neg c2]; exact h3
    exact h2 _ (fun i hi => hi) h1

theorem sweep_inv (I : Inv H rows cs T) (hg : 0 ≤ g ∧ g ≤ 2) (hM : ∀ i ∈ T.here, wA T i ∈ M ↔ i ∈ L) (hc : Closed T g L) :
    ((H.ts.filter (stayB g (mvOf H g M))).map fun t => (settleF g (mvOf H g M) t).addr).Nodup ∧ (H.ts.filter (stayB g (mvOf H g M))).length = (sweptT T g L).here.length ∧
    (∀ LL A K mo, HOk (movH H g (mvOf H g M) LL A K mo)) ∧
    ∀ LL A K mo D lim, Inv (cardH (movH H g (mvOf H g M) LL A K mo) D lim) (rows.map (movF (mvOf H g M))) (cs.map (·.map (fwd (mvOf H g M)))) (sweptT T g L) := by
  have hI := I.t
  have hm := moves_of (g := g) I hM
  have S := sw_inv (g := g) (L := L) hI.ok (asc_nodup hI.asc) T.here [] (by simp)
  have hT := swept_tinv hI hg hc S
  generalize mvOf H g M = mv at hm ⊢
  have hh : (sweptT T g L).here = T.here.filter (stT T g L) := S.here
  have f1 : All2 (ThOf T) (H.ts.filter (stayB g mv)) (sweptT T g L).here := by
    rw [hh]; exact all2_filter I.ts fun t i hi ht => stay_iff hm hi ht
  have hmem : ∀ i, i ∈ (sweptT T g L).here ↔ i ∈ T.here ∧ stT T g L i = true := fun i => by rw [hh]; exact List.mem_filter
  have f2 : All2 (ThOf (sweptT T g L)) ((H.ts.filter (stayB g mv)).map (settleS g mv)) (sweptT T g L).here := all2_map_l f1 fun t i hi ht => th_moved hI hg.2 hm hc S ((hmem i).mp hi).1 ((hmem i).mp hi).2 ht
  have hlen := All2.len f1
  have addr_nd : ∀ {ts : List Th} {l : List Int}, All2 (ThOf (sweptT T g L)) ts l → (∀ i ∈ l, i ∈ (sweptT T g L).here) → l.Nodup → (ts.map Th.addr).Nodup := by
    intro ts
    try (refine ex_let2 ?_; intro lX QX)
    induction ts with
    | nil => intro _ _ _ _; exact List.nodup_nil
    | cons t ts ih =>
      intro l h hl nd
      try (refine ex_let2 ?_; intro lX QX)
      cases l with
      | nil => exact h.elim
      | cons i l =>
        obtain ⟨ht, hts⟩ := h
        rw [List.nodup_cons] at nd
        rw [List.map_cons, List.nodup_cons]
        refine ⟨fun hx => ?_, ih hts (fun j hj => hl j (.tail _ hj)) nd.2⟩
        obtain ⟨u, hu, e⟩ := List.mem_map.mp hx
        obtain ⟨k, hk⟩ := List.getElem?_of_mem hu
        obtain ⟨j, hj, hju⟩ := hts.get hk
        have hjl := List.mem_of_getElem? hj
        have : j = i := hT.inj (hl j (.tail _ hjl)) (hl i (.head _)) (by rw [← hju.addr, e, ht.addr])
        exact nd.1 (this ▸ hjl)
  have nd2 := addr_nd f2 (fun i hi => hi) (asc_nodup hT.asc)
  have idx : ∀ t ∈ (H.ts.filter (stayB g mv)).map (settleS g mv), ∃ i ∈ (sweptT T g L).here, ThOf (sweptT T g L) t i := fun t ht => by
    obtain ⟨k, hk⟩ := List.getElem?_of_mem ht
    obtain ⟨i, hi, h⟩ := f2.get hk
    exact ⟨i, List.mem_of_getElem? hi, h⟩
  have thof : ∀ i ∈ (sweptT T g L).here, ∃ t ∈ (H.ts.filter (stayB g mv)).map (settleS g mv), ThOf (sweptT T g L) t i := fun i hi => by
    obtain ⟨k, hk⟩ := List.getElem?_of_mem hi
    obtain ⟨t, ht, h⟩ := f2.get' hk
    exact ⟨t, List.mem_of_getElem? ht, h⟩
  have hfs : H.fs.map (fwd mv) = T.fin.map (wA (sweptT T g L)) := by
    rw [I.fs, List.map_map]
    refine List.map_congr_left fun b hb => ?_
    have h := fwd_v hI hm (b := b) (.inr ⟨hI.fin b hb, hc.fin b hb⟩)
    have h0 := hI.nn (hI.fin b hb)
    rw [vA_in h0, vA_in h0] at h; exact h
  have hrs : H.rs.map (fwd mv) = T.rdy.map (wA (sweptT T g L)) := by
    rw [I.rs, List.map_map]
    refine List.map_congr_left fun b hb => ?_
    have h := fwd_v hI hm (b := b) (.inr ⟨hI.rdy b hb, hc.rdy b hb⟩)
    have h0 := hI.nn (hI.rdy b hb)
    rw [vA_in h0, vA_in h0] at h; exact h
  have inTs : ∀ b ∈ (sweptT T g L).here, ∃ u ∈ (H.ts.filter (stayB g mv)).map (settleS g mv), u.addr = wA (sweptT T g L) b := fun b hb => let ⟨u, hu, h⟩ := thof b hb; ⟨u, hu, h.addr⟩
  have num := I.ok.num
  have hlf : (H.ts.filter (stayB g mv)).length ≤ H.ts.length := List.length_filter_le _ _
  have nfs := I.ok.nfs
  have hok : ∀ LL A K mo, HOk (movH H g mv LL A K mo) := fun LL A K mo => by
    refine ⟨nd2, fun t ht => ?_, ?_, I.ok.ncs, ?_, fun t ht => ?_, fun t ht => ?_, fun t ht b hb => ?_, fun b hb => ?_, fun b hb => ?_⟩
    · try (refine ex_let2 ?_; intro lX QX)
      obtain ⟨i, hi, h⟩ := idx t ht; rw [h.addr]; have := hT.pos hi; omega
    · show ((H.ts.filter (stayB g mv)).map (settleS g mv)).length ≤ 60; rw [List.length_map]; omega
    · show (H.fs.map (fwd mv)).length + (H.rs.map (fwd mv)).length ≤ 1000; rw [List.length_map, List.length_map]; exact nfs
    · try (refine ex_let2 ?_; intro lX QX)
      obtain ⟨i, hi, h⟩ := idx t ht; rw [h.slots, List.length_map]; exact (hT.ok.sA (hT.ok.here i hi)).2.1
    · try (refine ex_let2 ?_; intro lX QX)
      obtain ⟨i, hi, h⟩ := idx t ht; rw [h.gen]; exact hT.gen i hi
    · try (refine ex_let2 ?_; intro lX QX)
      obtain ⟨i, hi, h⟩ := idx t ht
      rw [h.slots] at hb
      obtain ⟨c, hcm, rfl⟩ := List.mem_map.mp hb
      rcases hT.sl i hi c hcm with rfl | hch
      · exact .inl vA_neg
      · rw [vA_in (hT.nn hch)]; exact .inr (inTs c hch)
    · try (refine ex_let2 ?_; intro lX QX)
      have hb : b ∈ H.rs.map (fwd mv) := hb
      rw [hrs] at hb
      obtain ⟨c, hcm, rfl⟩ := List.mem_map.mp hb
      exact inTs c (hT.rdy c hcm)
    · try (refine ex_let2 ?_; intro lX QX)
      have hb : b ∈ H.fs.map (fwd mv) := hb
      rw [hfs] at hb
      obtain ⟨c, hcm, rfl⟩ := List.mem_map.mp hb
      exact inTs c (hT.fin c hcm)
  refine ⟨?_, hlen, hok, fun LL A K mo D lim => ?_⟩
  · have : (H.ts.filter (stayB g mv)).map (fun t => (settleF g mv t).addr) = ((H.ts.filter (stayB g mv)).map (settleS g mv)).map Th.addr := by rw [List.map_map]; rfl
    rw [this]; exact nd2
  · try (refine ex_let2 ?_; intro lX QX)
    have h1 := hok LL A K mo
    have hyl := youngPairs_len h1 (movH H g mv LL A K mo).ts.length
    rw [take_all] at hyl
    have hcl := cardsOf_len (youngPairs (movH H g mv LL A K mo).ts (movH H g mv LL A K mo).ts)
    refine ⟨hT, ⟨h1.ad, h1.pos, h1.num, by show (cardsOf _).length ≤ 1000; omega, h1.nfs, h1.nsl, h1.gen, h1.sl, h1.rs, h1.fs⟩, f2, hfs, hrs, ?_, ?_, ?_, ?_, fun t ht s hs hy => ?_⟩
    · rw [I.roots, List.map_cons, List.map_map]
      show [T.roots.map (fwd mv ∘ vA T)] = [T.roots.map (vA (sweptT T g L))]
      congr 1
      exact List.map_congr_left fun b hb => fwd_v hI hm (hc.roots b hb)
    · try (refine ex_let2 ?_; intro lX QX)
      have : All2 (RowOf (sweptT T g L)) (rows.map (movF mv)) T.rows := all2_map_l I.rows fun r q hq hr => ⟨hr.alive, by show fwd mv r.addr = _; rw [hr.addr]; exact fwd_v hI hm (hc.rows q hq), hr.kind⟩
      exact this
    · show topOf ((H.ts.filter (stayB g mv)).map (settleF g mv)) = (sweptT T g L).top
      have : topOf ((H.ts.filter (stayB g mv)).map (settleF g mv)) = topOf ((H.ts.filter (stayB g mv)).map (settleS g mv)) := by unfold topOf; rw [List.foldl_map, List.foldl_map]; rfl
      rw [this]
      exact topOf_chain f2 hT.chain
    · show H.made = ((sweptT T g L).gens.length : Int)
      rw [I.made, show (sweptT T g L).gens.length = T.gens.length from S.n2]
    · try (refine ex_let2 ?_; intro lX QX)
      have hy0 : 0 < t.gen := by
        have hy' := hy
        unfold refY at hy'
        split at hy'
        · try (refine ex_let2 ?_; intro lX QX)
          rename_i u eu
          have hu := (thAt_some eu).1
          have := (h1.gen u hu).1
          simp at hy'; omega
        · cases hy'
      exact mem_cardsOf (p := (t, s)) (mem_youngPairs.mpr ⟨ht, hy0, hs, hy⟩)
end


section
variable {H : Hp} {rows : List Rw} {cs : List (List Int)} {T : Td} {g s : Int} {M M1 M2 L L1 L2 seeds : List Int} {S : Int → Prop} {mv : List (Int × Int)} {K : Addr}
theorem rch_here (I : TInv T) (hs : ∀ a, S a → OrIn T.here a) {a : Int} (h : RchI (gA T) (sA T) g S a) : a ∈ T.here := by
  induction h with
  | seed a ha h0 hg => exact (hs a ha).resolve_left (by omega)
  | step a b _ hb h0 hg ih => exact (I.sl a ih b hb).resolve_left (by omega)
theorem reach_of (I : Inv H rows cs T) (h : MI H T g (· ∈ seeds) (M, [])) (hs : ∀ a ∈ seeds, OrIn T.here a ∧ (0 ≤ a → gA T a ≤ g → wA T a ∈ M)) : ReachL (gA T) (sA T) g seeds (T.here.filter fun i => decide (wA T i ∈ M)) := by
  refine ⟨(I.t.asc.filter _).imp fun h => by omega, (asc_nodup I.t.asc).filter _, fun a => ?_⟩
  rw [List.mem_filter]
  constructor
  · rintro ⟨h1, h2⟩
    try (refine ex_let2 ?_; intro lX QX)
    exact (mi_iff I h (fun a ha => hs a ha) h1).mp (of_decide_eq_true h2)
  · intro hr
    try (refine ex_let2 ?_; intro lX QX)
    have h1 := rch_here I.t (fun a ha => (hs a ha).1) hr
    exact ⟨h1, decide_eq_true ((mi_iff I h (fun a ha => hs a ha) h1).mpr hr)⟩
theorem reach1 (I : Inv H rows cs T) (hg : g ≤ 2) (hd : DrainR H.ts g (st0 H g (rootsOf H rows cs)) M1) : ∃ L1, ReachL (gA T) (sA T) g (seedsT T g) L1 := by
  obtain ⟨h1, h2⟩ := marks1 I hg hd
  exact ⟨_, reach_of I h1 fun a ha => ⟨seeds_may I.t a ha, h2 a ha⟩⟩
theorem reach2 (I : Inv H rows cs T) (hg : g ≤ 2) (hd : DrainR H.ts g (st0 H g (rootsOf H rows cs)) M1) (hL : ReachL (gA T) (sA T) g (seedsT T g) L1)
    (hd2 : DrainR H.ts g (pushs H.ts g (H.fs.filter (dead H.ts g M1)) (M1, [])) M2) : ∃ L2, ReachL (gA T) (sA T) g (seedsT T g ++ (T.rdy ++ T.fin.filter (pickT T g L1))) L2 := by
  have hm := fun i hi => marks1_iff (i := i) I hg hd hL hi
  obtain ⟨h1, h2⟩ := marks1 I hg hd
  have hP : ∀ a ∈ T.fin.filter (pickT T g L1), a ∈ T.here := fun a ha => I.t.fin a (List.mem_filter.mp ha).1
  rw [fs_dead I hm, vA_rdy I.t hP] at hd2
  have h1' := h1.mono (S' := (· ∈ seedsT T g ++ (T.rdy ++ T.fin.filter (pickT T g L1)))) fun a ha => List.mem_append_left _ ha
  obtain ⟨h3, h4, h5⟩ := pushs_mi (as := T.fin.filter (pickT T g L1)) I h1' fun a ha => ⟨.inr (hP a ha), fun h0 hg => .seed a (List.mem_append_right _ (List.mem_append_right _ ha)) h0 hg⟩
  obtain ⟨h6, h7⟩ := drain_mi I hd2 h3
  refine ⟨_, reach_of I h6 fun a ha => ?_⟩
  rcases List.mem_append.mp ha with ha | ha
  · exact ⟨seeds_may I.t a ha, fun h0 hga => h7 _ (h4 _ (h2 a ha h0 hga))⟩
  · try (refine ex_let2 ?_; intro lX QX)
    rcases List.mem_append.mp ha with ha | ha
    · try (refine ex_let2 ?_; intro lX QX)
      have hs : a ∈ seedsT T g := List.mem_append_left _ (List.mem_append_left _ (List.mem_append_right _ ha))
      exact ⟨seeds_may I.t a hs, fun h0 hga => h7 _ (h4 _ (h2 a hs h0 hga))⟩
    · exact ⟨.inr (hP a ha), fun h0 hga => h7 _ (h5 a ha h0 hga)⟩
theorem closed_liv (I : TInv T) (hL : ReachL (gA T) (sA T) g (seedsT T g) L1) (hL2 : ReachL (gA T) (sA T) g (seedsT T g ++ (T.rdy ++ T.fin.filter (pickT T g L1))) L2) : Closed (livD T g L1 L2) g L2 := by
  have seed : ∀ b ∈ seedsT T g ++ (T.rdy ++ T.fin.filter (pickT T g L1)), b ∈ T.here → stT T g L2 b = true := fun b hb hh => by
    unfold stT
    by_cases c : g < gA T b
    · simp [c]
    · have : b ∈ L2 := (hL2.mem b).mpr (.seed b hb (I.nn hh) (by omega))
      simp [this]
  have sub : ∀ b ∈ L1, b ∈ L2 := fun b hb => (hL2.mem b).mpr (((hL.mem b).mp hb).mono fun a ha => List.mem_append_left _ ha)
  refine ⟨fun i hi hs b hb => ?_, fun b hb => ?_, fun b hb => ?_, fun b hb => ?_, fun r hr => ?_⟩
  · try (refine ex_let2 ?_; intro lX QX)
    rcases I.sl i hi b hb with h | h
    · exact .inl h
    · try (refine ex_let2 ?_; intro lX QX)
      refine .inr ⟨h, ?_⟩
      have hs : stT T g L2 i = true := hs
      by_cases ci : g < gA T i
      · exact seed b (List.mem_append_left _ (List.mem_append_right _ (List.mem_flatMap.mpr ⟨i, List.mem_filter.mpr ⟨hi, by simpa using ci⟩, hb⟩))) h
      · have hiL : i ∈ L2 := by unfold stT at hs; simp [ci] at hs; exact hs
        show stT T g L2 b = true
        unfold stT
        by_cases c : g < gA T b
        · simp [c]
        · have : b ∈ L2 := (hL2.mem b).mpr (.step i b ((hL2.mem i).mp hiL) hb (I.nn h) (by omega))
          simp [this]
  · try (refine ex_let2 ?_; intro lX QX)
    rcases I.roots b hb with h | h
    · exact .inl h
    · exact .inr ⟨h, seed b (List.mem_append_left _ (List.mem_append_left _ (List.mem_append_left _ (List.mem_append_left _ hb)))) h⟩
  · obtain ⟨h1, h2⟩ := List.mem_filter.mp hb
    show stT T g L2 b = true
    unfold stT
    by_cases c : g < gA T b
    · simp [c]
    · have : b ∈ L1 := by
        unfold pickT at h2
        simp at h2
        exact h2.resolve_left (by omega)
      simp [sub b this]
  · show stT T g L2 b = true
    have hb : b ∈ T.rdy ++ T.fin.filter (pickT T g L1) := hb
    refine seed b (List.mem_append_right _ hb) ?_
    rcases List.mem_append.mp hb with h | h
    · exact I.rdy b h
    · exact I.fin b (List.mem_filter.mp h).1
  · have hr : r ∈ (T.rows.map (cutT T g L1 1)).map (cutT T g L2 2) := hr
    rw [List.map_map] at hr
    obtain ⟨q, hq, rfl⟩ := List.mem_map.mp hr
    rw [Function.comp_apply]
    have hqs := I.srt q hq
    by_cases c1 : q.1 = 1 ∧ 0 ≤ q.2.1 ∧ gA T q.2.1 ≤ g ∧ q.2.1 ∉ L1
    · have e1 : cutT T g L1 1 q = (q.1, -1, q.2.2) := if_pos c1
      have e2 : cutT T g L2 2 (q.1, -1, q.2.2) = (q.1, -1, q.2.2) := if_neg fun h => by have := h.2.1; dsimp only at this; omega
      rw [e1, e2]; exact .inl rfl
    · have e1 : cutT T g L1 1 q = q := if_neg c1
      rw [e1]
      by_cases c2 : q.1 = 2 ∧ 0 ≤ q.2.1 ∧ gA T q.2.1 ≤ g ∧ q.2.1 ∉ L2
      · have e2 : cutT T g L2 2 q = (q.1, -1, q.2.2) := if_pos c2
        rw [e2]; exact .inl rfl
      · have e2 : cutT T g L2 2 q = q := if_neg c2
        rw [e2]
        rcases I.rows q hq with h | h
        · exact .inl h
        · try (refine ex_let2 ?_; intro lX QX)
          refine .inr ⟨h, ?_⟩
          show stT T g L2 q.2.1 = true
          have h0 := I.nn h
          obtain ⟨s1, s2⟩ := hqs h0
          by_cases c3 : q.1 = 3
          · exact seed q.2.1 (List.mem_append_left _ (List.mem_append_left _ (List.mem_append_right _ (List.mem_map.mpr ⟨q, List.mem_filter.mpr ⟨hq, by simpa using c3⟩, rfl⟩)))) h
          · unfold stT
            by_cases c : g < gA T q.2.1
            · simp [c]
            · have : q.2.1 ∈ L2 := by
                by_cases c4 : q.1 = 1
                · try (refine ex_let2 ?_; intro lX QX)
                  refine sub _ ?_
                  by_cases hm : q.2.1 ∈ L1
                  · exact hm
                  · exact absurd ⟨c4, h0, by omega, hm⟩ c1
                · try (refine ex_let2 ?_; intro lX QX)
                  by_cases hm : q.2.1 ∈ L2
                  · exact hm
                  · exact absurd ⟨by omega, h0, by omega, hm⟩ c2
              simp [this]
/-- all values from which the marking starts may be followed -/
theorem roots_wrd (I : Inv H rows cs T) : ∀ c ∈ rootsOf H rows cs, ∀ b ∈ c, Wrd H.ts b := by
  have hv : ∀ a, OrIn T.here a → Wrd H.ts (vA T a) := fun a ha => by
    rcases ha with rfl | ha
    · rw [vA_neg]; exact .inl rfl
    · rw [vA_in (I.t.nn ha)]
      obtain ⟨t, ht, h⟩ := I.thOf ha
      exact .inr ⟨t, ht, h.addr⟩
  intro c hc b hb
  try (refine ex_let2 ?_; intro lX QX)
  unfold rootsOf at hc
  rw [I.roots] at hc
  simp only [List.mem_append, List.mem_singleton] at hc
  rcases hc with (rfl | rfl) | rfl
  · try (refine ex_let2 ?_; intro lX QX)
    obtain ⟨a, ha, rfl⟩ := List.mem_map.mp hb
    exact hv a (I.t.roots a ha)
  · rw [I.rs] at hb
    obtain ⟨a, ha, rfl⟩ := List.mem_map.mp hb
    rw [← vA_in (T := T) (I.t.nn (I.t.rdy a ha))]
    exact hv a (.inr (I.t.rdy a ha))
  · rw [strong_rows I.t I.rows I.t.rows] at hb
    obtain ⟨a, ha, rfl⟩ := List.mem_map.mp hb
    obtain ⟨h1, _⟩ := List.mem_filter.mp ha
    obtain ⟨q, hq, rfl⟩ := List.mem_map.mp h1
    exact hv _ (I.t.rows q (List.mem_filter.mp hq).1)
theorem collect_ok (I : Inv H rows cs T) (hg : 0 ≤ g ∧ g ≤ 2) (hd : DrainR H.ts g (st0 H g (rootsOf H rows cs)) M1) (hd2 : DrainR H.ts g (pushs H.ts g (H.fs.filter (dead H.ts g M1)) (M1, [])) M2) :
    ((H.ts.filter (stayB g (mvOf H g M2))).map fun t => (settleF g (mvOf H g M2) t).addr).Nodup ∧ ∀ K L A K2 mo, HOk (movH (livH H g M1 K) g (mvOf H g M2) L A K2 mo) := by
  obtain ⟨L1, hL⟩ := reach1 I hg.2 hd
  obtain ⟨L2, hL2⟩ := reach2 I hg.2 hd hL hd2
  have h := fun K : Addr => sweep_inv (liv_inv (K := K) I hg.2 hd hL hd2 hL2) hg (fun i hi => marks2_iff I hg.2 hd hL hd2 hL2 hi) (closed_liv I.t hL hL2)
  exact ⟨(h 0).1, fun K => (h K).2.2.1⟩
end


structure Lw (σ : Store) (H : Hp) (h : Hd) (y ra : Addr) (T : Tb) : Prop where
  R : HRep σ H
  hR : HdRep σ h
  ro : Roots σ y [ra] [T.d.roots.map (vA T.d)]
  w : WRep σ T
  I : Inv H h.rows [T.d.roots.map (vA T.d)] T.d
/-- how large it may have grown -/
structure Bd (H : Hp) (T : Td) (k : Nat) : Prop where
  gens : T.gens.length ≤ k
  rows : T.rows.length ≤ k
  fin : T.fin.length + T.rdy.length ≤ k
  cs : H.cs.length ≤ 130 + k
noncomputable def noLw (S : List Nat) : Bool := noTouch S && noHd S && noW S && !S.contains 12 && !S.contains 13
theorem Lw.ext {S : List Nat} {σ σ' : Store} {H : Hp} {h : Hd} {y ra : Addr} {T : Tb} (w : Lw σ H h y ra T) (E : Ext S σ σ') (hS : noLw S = true) : Lw σ' H h y ra T := by
  unfold noLw at hS
  simp only [Bool.and_eq_true] at hS
  obtain ⟨⟨⟨⟨h1, h2⟩, h3⟩, h4⟩, h5⟩ := hS
  exact ⟨w.R.ext E h1, w.hR.ext E h2, w.ro.ext E (by simpa using h4) (by simpa using h5), w.w.ext E h3, w.I⟩

section
variable {W : Wd} {X : Cx} {l : Lcl} {σ : Store} {Q : MVal → Store → Prop} {T : Tb} {x y ra : Addr} {r : Nat} {ns seeds L : List Int} {a g k s n : Int} {v : MVal} {H : Hp} {h : Hd} {kk : Nat}

/-- .. where one name lies in a cell -/
theorem def_call1 {x : Str} {args : List MVal} (i : Nat) (hm : (i, x) ∈ defTab) (names : List Str) (cn : Str) (cv : MVal) (hn : X.n < 60) (hlen : args.length = names.length)
    (hbind : ∀ (rargs : List Value) doc pm an cdv ct, rargs.length = names.length → bindArgs (fnOf x x (fArgs (topS i)) (fBody (topS i)) (fScope (topS i)) .none .none doc pm an cdv ct) ⟨rargs, []⟩ = pure (names.zip rargs))
    (hnk : (names.all fun y => (fScope (topS i)).names.lookup y == some .local || (fScope (topS i)).names.lookup y == some .cell) = true)
    (hnc : ∀ n, cellsFrom n (fScope (topS i)).names [] = [(cn, n)])
    (hco : (fScope (topS i)).isCoroutine = false) (hgen : (fScope (topS i)).isGenerator = false) (hk : (fScope (topS i)).kind = .function)
    (hcv : ∀ L cdv, mbindC (envX x (fScope (topS i)) L (W.fn i) cdv (cellsFrom (L + 1) (fScope (topS i)).names [])).kindOf (names.zip args) (fun _ => none) cn = some cv)
    (h : ∀ A h₀ L outer base A₀ cdv σ', Ext [] σ σ' → σ' (L + 1) = some ⟨0, .cell (some cv)⟩ →
      Ex W (mkCx x (fScope (topS i)) (W.fn i) (X.n + 1) A h₀ L outer base A₀ cdv) (mbindL (envX x (fScope (topS i)) L (W.fn i) cdv (cellsFrom (L + 1) (fScope (topS i)).names [])).kindOf (names.zip args) fun _ => none) σ' (fBody (topS i)) fun fl _ σ'' => Q (retOf fl) σ'') :
    OpC W X l σ (.ref (W.fn i)) args Q :=
  def_call i hm names hn hlen hbind hnk (by rw [hnc]; simp) hco hgen hk fun A h₀ L outer base A₀ cdv σ' C => by
    have hlook : (cellsFrom (L + 1) (fScope (topS i)).names []).lookup cn = some (L + 1) := by rw [hnc]; simp
    obtain ⟨h1, h2⟩ := C.at_ cn (L + 1) hlook
    have hoff : ∀ b, b ≠ L + 1 → σ' b = σ b := fun b hb => C.off b (by rw [hnc]; simpa using hb)
    refine h A h₀ L outer base A₀ cdv σ' ⟨fun b o e _ => ?_, fun b o e => ⟨o, ?_, rfl⟩⟩ (by rw [h1, hcv])
    all_goals
      rw [hoff b (by rintro rfl; rw [h2] at e; cases e)]
      exact e

theorem RowOf.at_ {T : Td} {rows : List Rw} {i : Nat} (h : All2 (RowOf T) rows T.rows) {q : Int × Int × Int} (e : T.rows[i]? = some q) : ∃ r, rows[i]? = some r ∧ RowOf T r q := h.get' e

theorem nodup_set {α : Type} {d : α} : ∀ {xs : List α} {i : Nat}, xs.Nodup → d ∉ xs → (xs.set i d).Nodup
  | [], _, h, _ => h
  | x :: r, 0, h, hd => by
    rw [List.nodup_cons] at h
    rw [List.mem_cons, not_or] at hd
    exact List.nodup_cons.mpr ⟨hd.2, h.2⟩
  | x :: r, i + 1, h, hd => by
    rw [List.nodup_cons] at h
    rw [List.mem_cons, not_or] at hd
    refine List.nodup_cons.mpr ⟨fun hm => ?_, nodup_set h.2 hd.2⟩
    rcases List.mem_or_eq_of_mem_set hm with hm | hm
    · exact h.1 hm
    · exact hd.1 hm.symm
/-- the world with a handle given free -/
theorem free_inv {rows : List Rw} {T : Td} {cs : List (List Int)} (I : Inv H rows cs T) {i : Nat} {r : Rw} (hr : rows[i]? = some r) : Inv H (rows.set i { r with addr := 0, alive := 0 }) cs { T with rows := T.rows.set i (0, -1, 0) } := by
  have hI := I.t
  have hmem : ∀ q ∈ T.rows.set i (0, -1, 0), q = (0, -1, 0) ∨ q ∈ T.rows := fun q hq => List.mem_or_eq_of_mem_set hq |>.symm.imp id id
  have ok : TOk { T with rows := T.rows.set i (0, -1, 0) } := ⟨hI.ok.n1, hI.ok.n2, hI.ok.n, hI.ok.here, hI.ok.hlen, hI.ok.sl, hI.ok.roots, hI.ok.fin, hI.ok.rdy, hI.ok.flen, fun q hq => by
    rcases hmem q hq with rfl | h
    · exact ⟨by decide, by show (-1 : Int) < _; omega⟩
    · exact hI.ok.rows q h, by rw [List.length_set]; exact hI.ok.rlen⟩
  refine ⟨⟨ok, hI.asc, ?_, hI.gen, hI.mono, hI.sl, hI.roots, hI.fin, hI.rdy, fun q hq => ?_, fun q hq h0 => ?_⟩, I.ok, I.ts.mono fun t j h => ⟨h.addr, h.kind, h.gen, h.size, h.serial, h.slots⟩, I.fs, I.rs, I.roots, ?_, I.top, I.made, I.cards⟩
  · have : ∀ {l : List Int} {pos top : Int}, chainT T pos l top → chainT { T with rows := T.rows.set i (0, -1, 0) } pos l top := by
      intro l
      try (refine ex_let2 ?_; intro lX QX)
      induction l with
      | nil => exact fun h => h
      | cons i r ih => exact fun h => ⟨h.1, ih h.2⟩
    exact this hI.chain
  · rcases hmem q hq with rfl | h
    · exact .inl rfl
    · exact hI.rows q h
  · rcases hmem q hq with rfl | h
    · exact absurd h0 (by decide)
    · exact hI.srt q h h0
  · have : All2 (RowOf T) (rows.set i { r with addr := 0, alive := 0 }) (T.rows.set i (0, -1, 0)) := All2.set i I.rows ⟨rfl, by show (0 : Int) = vA T (-1); rw [vA_neg], .inl ⟨rfl, rfl, rfl⟩⟩
    exact this.mono fun r q h => ⟨h.alive, h.addr, h.kind⟩

theorem c_law_free (hn : X.n < 58) (w : Lw σ H h y ra T) (hn0 : 0 ≤ n) (q : ∀ σ' h' T', Ext [9, 29] σ σ' → T'.a = T.a → h'.a = h.a → Lw σ' H h' y ra T' → (∀ k, Bd H T.d k → Bd H T'.d k) → Q (.bool true) σ') : OpC W X l σ (.ref (W.fn 86)) [.ref h.a, .ref T.a, .int n] Q := by
  refine def_call0 (x := "_law_free") 86 (by decide) ["h", "w", "n"] (nle hn) rfl (by walk_at "b3") rfl (fun _ => rfl) rfl rfl rfl ?_
  intro A h₀ L₁ outer base A₀ cdv
  refine ex_let3 ?_
  intro Xx ll Qq
  have hlen : h.rows.length = T.d.rows.length := All2.len w.I.rows
  have hlenR : T.rw.length = T.d.rows.length := All2.len w.w.rw
  have hnum := w.hR.num
  refine ex_assign (ev_c2 48 (by decide) (by walk_at "pe") (by walk_at "pe") (c_free (n := n) (nlt hn) w.hR fun σ1 E1 hR1 => ?_))
  have hw := E1.get w.w.w
  have W1 := w.w.ext E1 (by decide)
  have hrows := W1.rows
  have same : freeRows h.rows n = h.rows → Lw σ1 H h y ra T := fun e => ⟨w.R.ext E1 (by decide), by rw [e] at hR1; exact hR1, w.ro.ext E1, W1, w.I⟩
  by_cases hb : n < 1 ∨ (h.rows.length : Int) < n
  · have e1 : freeAt h.rows n = false := if_pos hb
    have e2 : freeRows h.rows n = h.rows := by unfold freeRows; rw [e1, if_neg (by decide)]
    rw [e1]
    have fin : Q (.bool true) σ1 := q σ1 h T (E1.mono (by first | decide | simp)) rfl rfl (same e2) fun _ b => b
    by_cases h1 : n < 1
    · exact ex_ifb (pt_or (d := true) (by walk_at "pt") fun hf => absurd hf (by simp [h1])) (fun hc => ex_ret (ev_pe (pe_cmp (pe_loc rfl) pe_bool po_eqb) fin)) fun hc => by simp at hc
    · have h2 := hb.resolve_left h1
      exact ex_ifb (pt_or (by walk_at "pt") fun _ => pt_or (d := true) (pt_cmp (by walk_at "pe") (pe_len (by walk_at "pe") hrows (by first | exact lenm (by omega) | (rw [List.length_map]; omega))) po_gt) fun hf => absurd hf (by simp; omega)) (fun hc => ex_ret (ev_pe (pe_cmp (pe_loc rfl) pe_bool po_eqb) fin)) fun hc => by simp at hc
  · have hb' := hb
    rw [not_or] at hb'
    obtain ⟨qv, hq⟩ : ∃ qv, T.d.rows[(n - 1).toNat]? = some qv := ⟨_, List.getElem?_eq_getElem (by omega)⟩
    obtain ⟨r, hr, hro⟩ := w.I.rows.get' hq
    obtain ⟨b, hbw, hbr⟩ := W1.rw.get' hq
    have e1 : freeAt h.rows n = decide (r.alive ≠ 0) := by unfold freeAt; rw [if_neg hb, hr]
    have hal := hro.alive
    refine ex_ifb (pt_or (by walk_at "pt") fun _ => pt_or (pt_cmp (by walk_at "pe") (pe_len (by walk_at "pe") hrows (by first | exact lenm (by omega) | (rw [List.length_map]; omega))) po_gt) fun _ =>
      pt_or (pt_cmp (pe_sub (pe_sub (by walk_at "pe") (by walk_at "pe") (po_idx (v := .ref b) hrows (by omega) (by rw [List.getElem?_map, hbw]; rfl) (by omega))) (by walk_at "pe") (po_idx (v := .int qv.2.2) hbr (by decide) rfl (by decide))) (by walk_at "pe") po_eq) fun _ => pt_or0) (fun hc => ?_) fun hc => ?_
    · have h0 : qv.2.2 = 0 := by
        simp at hc
        rcases hc with h1 | h1 | h1
        · omega
        · omega
        · exact h1
      have e2 : freeAt h.rows n = false := by rw [e1, hal, h0]; rfl
      have e3 : freeRows h.rows n = h.rows := by unfold freeRows; rw [e2, if_neg (by decide)]
      rw [e2]
      exact ex_ret (ev_pe (pe_cmp (pe_loc rfl) pe_bool po_eqb) (q σ1 h T (E1.mono (by first | decide | simp)) rfl rfl (same e3) fun _ b => b))
    · have h0 : qv.2.2 ≠ 0 := by simp at hc; exact hc.2.2
      have e2 : freeAt h.rows n = true := by rw [e1, hal]; simp [h0]
      have e3 : freeRows h.rows n = h.rows.set (n - 1).toNat { r with addr := 0, alive := 0 } := by unfold freeRows; rw [e2, if_pos rfl, hr]
      rw [e2]
      refine ex_nil (ex_sub_list (ev_list 30 (eva_cons (ev_pe (by walk_at "pe") (eva_cons (ev_pe (by walk_at "pe") (eva_cons (ev_pe (by walk_at "pe") (eva_nil ⟨Nat.le_of_ble_eq_true rfl, fun D hD => ⟨T.ao, 29, T.rw.map .ref, n - 1, by walk_at "pe", by walk_at "pe", Store.get_new hrows hD, by omega, by rw [List.length_map]; omega, by rw [List.length_map]; omega, ?_⟩⟩)))))))))
      have hrows2 := Store.get_new (o' := ⟨30, .list [.int 0, .int (-1), .int 0]⟩) hrows hD
      refine ex_ret (ev_pe (pe_cmp (pe_loc rfl) pe_bool po_eqb) (q _ { h with rows := h.rows.set (n - 1).toNat { r with addr := 0, alive := 0 } } { T with d := { T.d with rows := T.d.rows.set (n - 1).toNat (0, -1, 0) }, rw := T.rw.set (n - 1).toNat D } ((E1.mono (by first | decide | simp)).trans ((Ext.new hD).trans (.set hrows2 (by decide)))) rfl rfl ?_ ?_))
      · have E2 : Ext [29] σ1 ((σ1.set D ⟨30, .list [.int 0, .int (-1), .int 0]⟩).set T.ao ⟨29, .list ((T.rw.map MVal.ref).set (n - 1).toNat (.ref D))⟩) := (Ext.new hD).trans (.set hrows2 (by decide))
        have hDD : ((σ1.set D ⟨30, .list [.int 0, .int (-1), .int 0]⟩).set T.ao ⟨29, .list ((T.rw.map MVal.ref).set (n - 1).toNat (.ref D))⟩) D = some ⟨30, .list (rowv (0, -1, 0))⟩ := Store.get_role (Store.set_self _ _ _) hrows2 (by decide)
        rw [e3] at hR1
        refine ⟨(w.R.ext E1 (by decide)).ext E2 (by decide), hR1.ext E2 (by decide), (w.ro.ext E1).ext E2, ⟨E2.get W1.w, E2.get W1.here, E2.get W1.whr, E2.get W1.gens, E2.get W1.slots, W1.sl.mono fun _ _ e => E2.get e, E2.get W1.roots, E2.get W1.fin, E2.get W1.rdy, ?_, ?_, W1.nd.1, ?_⟩, free_inv w.I hr⟩
        · rw [Store.set_self, List.map_set]
        · exact All2.set _ (W1.rw.mono fun _ _ e => E2.get e) hDD
        · have : D ∉ T.rw := fun hm => by
            obtain ⟨j, hj⟩ := List.getElem?_of_mem hm
            obtain ⟨_, _, e⟩ := W1.rw.get hj
            rw [hD] at e; cases e
          exact nodup_set W1.nd.2 this
      · intro k b
        try (refine ex_let2 ?_; intro lX QX)
        exact ⟨b.gens, by rw [List.length_set]; exact b.rows, b.fin, b.cs⟩
end


noncomputable def dataT (T : Td) (roots fin rdy : List Int) : Td := { T with roots := roots, fin := fin, rdy := rdy }
noncomputable def dataH (H : Hp) (T : Td) (fi re : Addr) (fin rdy : List Int) : Hp := { H with fi := fi, re := re, fs := fin.map (wA T), rs := rdy.map (wA T) }
theorem data_inv {H : Hp} {rows : List Rw} {cs : List (List Int)} {T : Td} {fi re : Addr} {roots fin rdy : List Int} (I : Inv H rows cs T) (h1 : ∀ b ∈ roots, OrIn T.here b) (h2 : ∀ b ∈ fin, b ∈ T.here) (h3 : ∀ b ∈ rdy, b ∈ T.here) (hl : roots.length = 3)
    (hn : fin.length + rdy.length ≤ 1000) : Inv (dataH H T fi re fin rdy) rows [roots.map (vA T)] (dataT T roots fin rdy) := by
  have hI := I.t
  have hor : ∀ b, OrIn T.here b → InM T.gens.length b := fun b hb => by
    rcases hb with rfl | hb
    · exact ⟨by decide, by omega⟩
    · try (refine ex_let2 ?_; intro lX QX)
      have := hI.ok.here b hb; exact ⟨by have := this.1; omega, this.2⟩
  have ok : TOk (dataT T roots fin rdy) := ⟨hI.ok.n1, hI.ok.n2, hI.ok.n, hI.ok.here, hI.ok.hlen, hI.ok.sl, ⟨hl, fun b hb => hor b (h1 b hb)⟩, fun b hb => hI.ok.here b (h2 b hb), fun b hb => hI.ok.here b (h3 b hb), hn, hI.ok.rows, hI.ok.rlen⟩
  have hch : ∀ {l : List Int} {pos top : Int}, chainT T pos l top → chainT (dataT T roots fin rdy) pos l top := by
    intro l
    try (refine ex_let2 ?_; intro lX QX)
    induction l with
    | nil => exact fun h => h
    | cons i r ih => exact fun h => ⟨h.1, ih h.2⟩
  have inTs : ∀ b ∈ T.here, ∃ u ∈ H.ts, u.addr = wA T b := fun b hb => let ⟨u, hu, h⟩ := I.thOf hb; ⟨u, hu, h.addr⟩
  have hokH : HOk (dataH H T fi re fin rdy) := ⟨I.ok.ad, I.ok.pos, I.ok.num, I.ok.ncs, by show (fin.map (wA T)).length + (rdy.map (wA T)).length ≤ 1000; rw [List.length_map, List.length_map]; exact hn, I.ok.nsl, I.ok.gen, I.ok.sl, fun b hb => by
    obtain ⟨c, hc, rfl⟩ := List.mem_map.mp hb
    exact inTs c (h3 c hc), fun b hb => by
    obtain ⟨c, hc, rfl⟩ := List.mem_map.mp hb
    exact inTs c (h2 c hc)⟩
  exact ⟨⟨ok, hI.asc, hch hI.chain, hI.gen, hI.mono, hI.sl, h1, h2, h3, hI.rows, hI.srt⟩, hokH, I.ts.mono fun t j h => ⟨h.addr, h.kind, h.gen, h.size, h.serial, h.slots⟩, rfl, rfl, rfl, I.rows.mono fun r q h => ⟨h.alive, h.addr, h.kind⟩, I.top, I.made, I.cards⟩
/-- the heap's and the table's own lists, without the invariant -/
structure Lr (σ : Store) (H : Hp) (h : Hd) (y ra : Addr) (c : List Int) (T : Tb) : Prop where
  R : HRep σ H
  hR : HdRep σ h
  ro : Roots σ y [ra] [c]
  w : WRep σ T
theorem Lw.lr {σ : Store} {H : Hp} {h : Hd} {y ra : Addr} {T : Tb} (w : Lw σ H h y ra T) : Lr σ H h y ra (T.d.roots.map (vA T.d)) T := ⟨w.R, w.hR, w.ro, w.w⟩
section
variable {σ σ' : Store} {H : Hp} {h : Hd} {y ra : Addr} {c : List Int} {T : Tb}
theorem Lr.reSet (w : Lr σ H h y ra c T) (rs : List Int) : Lr (σ.set H.re ⟨6, .list (rs.map sv)⟩) { H with rs := rs } h y ra c T :=
  have E : Ext [6] σ (σ.set H.re ⟨6, .list (rs.map sv)⟩) := .set w.R.re (by decide)
  ⟨w.R.reSet rs, w.hR.ext E (by decide), w.ro.ext E, w.w.ext E (by decide)⟩
theorem Lr.fiSet (w : Lr σ H h y ra c T) (fs : List Int) : Lr (σ.set H.fi ⟨5, .list (fs.map .int)⟩) { H with fs := fs } h y ra c T :=
  have E : Ext [5] σ (σ.set H.fi ⟨5, .list (fs.map .int)⟩) := .set w.R.fi (by decide)
  ⟨w.R.fiSet fs, w.hR.ext E (by decide), w.ro.ext E, w.w.ext E (by decide)⟩
theorem Lr.rootSet (w : Lr σ H h y ra c T) (c' : List Int) (hc : c'.length ≤ 10) : Lr (σ.set ra ⟨13, .list (c'.map sv)⟩) H h y ra c' T := by
  obtain ⟨⟨r, hr, e⟩, _⟩ := w.ro.f
  have hr : r = 13 := by simpa using hr
  subst hr
  have E : Ext [13] σ (σ.set ra ⟨13, .list (c'.map sv)⟩) := .set e (by decide)
  exact ⟨w.R.ext E (by decide), w.hR.ext E (by decide), ⟨E.get w.ro.y, ⟨⟨13, by decide, Store.set_self _ _ _⟩, trivial⟩, w.ro.nd, w.ro.n1, fun x hx => by simp at hx; subst hx; exact hc⟩, w.w.ext E (by decide)⟩
theorem Lr.raAt (w : Lr σ H h y ra c T) : σ ra = some ⟨13, .list (c.map sv)⟩ := by
  obtain ⟨⟨r, hr, e⟩, _⟩ := w.ro.f
  have hr : r = 13 := by simpa using hr
  subst hr; exact e
noncomputable def Tb.setRoots (T : Tb) (x : List Int) : Tb := { T with d := { T.d with roots := x } }
noncomputable def Tb.setFin (T : Tb) (x : List Int) : Tb := { T with d := { T.d with fin := x } }
theorem Lr.wRoots (w : Lr σ H h y ra c T) (x : List Int) : Lr (σ.set T.ar ⟨26, .list (x.map .int)⟩) H h y ra c (T.setRoots x) := by
  have E : Ext [26] σ (σ.set T.ar ⟨26, .list (x.map .int)⟩) := .set w.w.roots (by decide)
  have W := w.w
  exact ⟨w.R.ext E (by decide), w.hR.ext E (by decide), w.ro.ext E, ⟨E.get W.w, E.get W.here, E.get W.whr, E.get W.gens, E.get W.slots, W.sl.mono fun _ _ e => E.get e, Store.set_self _ _ _, E.get W.fin, E.get W.rdy, E.get W.rows, W.rw.mono fun _ _ e => E.get e, W.nd⟩⟩
theorem Lr.wFin (w : Lr σ H h y ra c T) (x : List Int) : Lr (σ.set T.af ⟨27, .list (x.map .int)⟩) H h y ra c (T.setFin x) := by
  have E : Ext [27] σ (σ.set T.af ⟨27, .list (x.map .int)⟩) := .set w.w.fin (by decide)
  have W := w.w
  exact ⟨w.R.ext E (by decide), w.hR.ext E (by decide), w.ro.ext E, ⟨E.get W.w, E.get W.here, E.get W.whr, E.get W.gens, E.get W.slots, W.sl.mono fun _ _ e => E.get e, E.get W.roots, Store.set_self _ _ _, E.get W.rdy, E.get W.rows, W.rw.mono fun _ _ e => E.get e, W.nd⟩⟩
theorem Lr.ext {S : List Nat} (w : Lr σ H h y ra c T) (E : Ext S σ σ') (hS : noLw S = true) : Lr σ' H h y ra c T := by
  unfold noLw at hS
  simp only [Bool.and_eq_true] at hS
  obtain ⟨⟨⟨⟨h1, h2⟩, h3⟩, h4⟩, h5⟩ := hS
  exact ⟨w.R.ext E h1, w.hR.ext E h2, w.ro.ext E (by simpa using h4) (by simpa using h5), w.w.ext E h3⟩
/-- the word `w['ready']` goes to a new list -/
theorem Lr.wRdy {D : Addr} (w : Lr σ H h y ra c T) (x : List Int) (hD : σ D = some ⟨28, .list (x.map .int)⟩) : Lr (σ.set T.a ⟨20, .dS (Tb.kv { T with ay := D })⟩) H h y ra c { T with ay := D, d := { T.d with rdy := x } } := by
  have W := w.w
  have E : Ext [20] σ (σ.set T.a ⟨20, .dS (Tb.kv { T with ay := D })⟩) := .set W.w (by decide)
  exact ⟨w.R.ext E (by decide), w.hR.ext E (by decide), w.ro.ext E, WRep.put W.w { T with ay := D, d := { T.d with rdy := x } } rfl W.here W.whr W.gens W.slots W.sl W.roots W.fin hD W.rows W.rw W.nd⟩
theorem Lr.wFinD {D : Addr} (w : Lr σ H h y ra c T) (x : List Int) (hD : σ D = some ⟨27, .list (x.map .int)⟩) : Lr (σ.set T.a ⟨20, .dS (Tb.kv { T with af := D })⟩) H h y ra c { T with af := D, d := { T.d with fin := x } } := by
  have W := w.w
  have E : Ext [20] σ (σ.set T.a ⟨20, .dS (Tb.kv { T with af := D })⟩) := .set W.w (by decide)
  exact ⟨w.R.ext E (by decide), w.hR.ext E (by decide), w.ro.ext E, WRep.put W.w { T with af := D, d := { T.d with fin := x } } rfl W.here W.whr W.gens W.slots W.sl W.roots hD W.rdy W.rows W.rw W.nd⟩
end


section
variable {W : Wd} {X : Cx} {l : Lcl} {σ : Store} {Q : MVal → Store → Prop} {T : Tb} {x y ra : Addr} {r : Nat} {ns seeds L : List Int} {a g s n yy : Int} {v : MVal} {H : Hp} {h : Hd} {k : Nat}

theorem Lr.lw {c : List Int} {roots fin rdy : List Int} {fi re : Addr} {H₀ : Hp} {T₀ : Tb} (w₀ : Inv H₀ h.rows [T₀.d.roots.map (vA T₀.d)] T₀.d) (h1 : ∀ b ∈ roots, OrIn T₀.d.here b) (h2 : ∀ b ∈ fin, b ∈ T₀.d.here) (h3 : ∀ b ∈ rdy, b ∈ T₀.d.here) (hl : roots.length = 3) (hn : fin.length + rdy.length ≤ 1000)
    (w : Lr σ H h y ra c T) (eH : H = dataH H₀ T₀.d fi re fin rdy) (eT : T.d = dataT T₀.d roots fin rdy) (ec : c = roots.map (vA T₀.d)) : Lw σ H h y ra T := by
  subst ec
  have e : T.d.roots.map (vA T.d) = roots.map (vA T₀.d) := by rw [eT]; rfl
  refine ⟨w.R, w.hR, by rw [e]; exact w.ro, w.w, ?_⟩
  rw [e, eH, eT]
  exact data_inv w₀ h1 h2 h3 hl hn

theorem mem_set_or {α : Type} {xs : List α} {i : Nat} {a b : α} (h : b ∈ xs.set i a) : b ∈ xs ∨ b = a := List.mem_or_eq_of_mem_set h

set_option maxHeartbeats 4000000 in
theorem c_law_take (hn : X.n < 58) (w : Lw σ H h y ra T) (b : Bd H T.d k) (hk : k ≤ 28) (hy0 : 0 ≤ yy) (q : ∀ σ' H' T', Ext [5, 6, 13, 20, 26, 27] σ σ' → H'.a = H.a → T'.a = T.a → Lw σ' H' h y ra T' → Bd H' T'.d (k + 1) → Q (.bool true) σ') :
    OpC W X l σ (.ref (W.fn 85)) [.ref H.a, .ref y, .ref T.a, .int yy] Q := by
  refine def_call0 (x := "_law_take") 85 (by decide) ["heap", "lists", "w", "y"] (nle hn) rfl (by walk_at "b4") rfl (fun _ => rfl) rfl rfl rfl ?_
  intro A h₀ L₁ outer base A₀ cdv
  refine ex_let3 ?_
  intro Xx ll Qq
  have hI := w.I.t
  have hfin := b.fin
  cases hrd : T.d.rdy with
  | nil =>
    have hrs : H.rs = [] := by rw [w.I.rs, hrd]; rfl
    refine ex_assign (ev_c1 57 (by decide) (by walk_at "pe") (c_take_ready0 (nlt hn) w.R hrs ?_))
    have hw := w.w.w
    have hr := w.w.rdy
    rw [hrd] at hr
    refine ex_if (te_cmp (ev_pe (by walk_at "pe") (ev_list 0 (eva_nil ⟨Nat.le_of_ble_eq_true rfl, fun D hD => op2_po (po_eqd 0 (by decide) (Store.get_new hr hD) (Store.set_self _ _ _) trivial) ⟨true, rfl, ?_⟩⟩))))
    exact ex_ret (ev_pe (by walk_at "pe") (q _ H T (.new hD) rfl rfl (w.ext (S := []) (.new hD) (by decide)) ⟨by have := b.gens; omega, by have := b.rows; omega, by omega, by have := b.cs; omega⟩))
  | cons a r =>
    have hrs : H.rs = wA T.d a :: r.map (wA T.d) := by rw [w.I.rs, hrd]; rfl
    have hain : a ∈ T.d.here := hI.rdy a (by rw [hrd]; exact .head _)
    have haN := hI.ok.here a hain
    have ha0 := haN.1
    have ha1 := haN.2
    have n1 := hI.ok.n1
    have nn := hI.ok.n
    rw [hrd, List.length_cons] at hfin
    have hlenrs : H.rs.length ≤ 10000 := by rw [hrs, List.length_cons, List.length_map]; omega
    refine ex_assign (ev_c1 57 (by decide) (by walk_at "pe") (c_take_ready (nlt hn) w.R hrs hlenrs ?_))
    have w1 := w.lr.reSet (r.map (wA T.d))
    have E1 : Ext [5, 6, 13, 20, 26, 27] σ (σ.set H.re ⟨6, .list ((r.map (wA T.d)).map sv)⟩) := .set w.R.re (by decide)
    generalize σ.set H.re ⟨6, .list ((r.map (wA T.d)).map sv)⟩ = σ1 at w1 E1
    have hw1 := w1.w.w
    have hr1 := w1.w.rdy
    rw [hrd] at hr1
    refine ex_if (te_cmp (ev_pe (by walk_at "pe") (ev_list 0 (eva_nil ⟨Nat.le_of_ble_eq_true rfl, fun D hD => op2_po (po_eql (Store.get_new hr1 hD) (Store.set_self _ _ _) (by simp)) ⟨false, rfl, ?_⟩⟩))))
    have w2 := w1.ext (S := []) (.new (o := ⟨0, .list []⟩) hD) (by decide)
    have E2 := E1.trans (Ext.new (o := ⟨0, .list []⟩) hD)
    generalize σ1.set D ⟨0, .list []⟩ = σ2 at w2 E2
    have hw2 := w2.w.w
    have hr2 := w2.w.rdy
    rw [hrd] at hr2
    refine ex_nil (ex_assign (ev_pe (pe_sub (by walk_at "pe") (by walk_at "pe") (po_idx (v := .int a) hr2 (by decide) rfl (by decide))) ?_))
    refine ex_sub_key (ev_from (k := 1) 28 (ev_pe (by walk_at "pe") ⟨T.ay, 28, _, rfl, hr2, by simp only [List.length_map, List.length_cons]; omega, fun D2 hD2 => ⟨T.a, 20, _, by walk_at "pe", Store.get_new hw2 hD2, Nat.le_of_ble_eq_true rfl, ?_⟩⟩))
    have w3 := w2.ext (S := []) (.new (o := ⟨28, .list (((a :: r).map MVal.int).drop 1)⟩) hD2) (by decide)
    have hD2' : (σ2.set D2 ⟨28, .list (((a :: r).map MVal.int).drop 1)⟩) D2 = some ⟨28, .list (r.map .int)⟩ := Store.set_self _ _ _
    have E3 := (E2.trans (Ext.new (o := ⟨28, .list (((a :: r).map MVal.int).drop 1)⟩) hD2)).trans (Ext.set (S := [5, 6, 13, 20, 26, 27]) (y := .dS (Tb.kv { T with ay := D2 })) w3.w.w (by decide))
    have w4 := w3.wRdy r hD2'
    have e4 : dput T.kv "ready" (.ref D2) = Tb.kv { T with ay := D2 } := rfl
    rw [e4]
    generalize (σ2.set D2 ⟨28, .list (((a :: r).map MVal.int).drop 1)⟩).set T.a ⟨20, .dS (Tb.kv { T with ay := D2 })⟩ = σ4 at w4 E3
    have hw4 : σ4 T.a = some ⟨20, .dS (Tb.kv { T with ay := D2 })⟩ := w4.w.w
    have hwh4 : σ4 T.aw = some ⟨22, .list (T.d.whr.map .int)⟩ := w4.w.whr
    refine ex_ifb (pt_cmp (by walk_at "pe") (pe_sub (by walk_at "pe") (by walk_at "pe") (po_ii hwh4 ha0 (by rw [n1]; exact ha1) (by omega))) po_ne) (fun hc => ?_) fun _ => ?_
    · try (refine ex_let2 ?_; intro lX QX)
      exfalso
      have : wA T.d a ≠ T.d.whr.getD a.toNat 0 := of_decide_eq_true hc
      exact this rfl
    -- the table's own part so far
    have hrdy : ∀ c ∈ r, c ∈ T.d.here := fun c hc => hI.rdy c (by rw [hrd]; exact .tail _ hc)
    have hro3 := hI.ok.roots.1
    have fin : ∀ (σ5 : Store) (H5 : Hp) (T5 : Tb) (c5 roots fin : List Int), Ext [5, 6, 13, 20, 26, 27] σ σ5 → Lr σ5 H5 h y ra c5 T5 → H5.a = H.a → T5.a = T.a → H5 = dataH H T.d H.fi H.re fin r → T5.d = dataT T.d roots fin r → c5 = roots.map (vA T.d) →
        (∀ c ∈ roots, OrIn T.d.here c) → (∀ c ∈ fin, c ∈ T.d.here) → roots.length = 3 → fin.length ≤ T.d.fin.length + 1 → Q (.bool true) σ5 := by
      intro σ5 H5 T5 c5 roots fin E5 w5 eHa eTa eH eT ec h1 h2 hl hfl
      try (refine ex_let2 ?_; intro lX QX)
      refine q σ5 H5 T5 E5 eHa eTa (w5.lw w.I h1 h2 hrdy hl (by omega) eH eT ec) ⟨?_, ?_, ?_, ?_⟩
      · rw [eT]; have := b.gens; show T.d.gens.length ≤ _; omega
      · rw [eT]; have := b.rows; show T.d.rows.length ≤ _; omega
      · rw [eT]; show fin.length + r.length ≤ _; omega
      · rw [eH]; have := b.cs; show H.cs.length ≤ _; omega
    have hm3 : yy % 3 = 0 ∨ yy % 3 = 1 ∨ yy % 3 = 2 := by omega
    have hfs : H.fs = T.d.fin.map (wA T.d) := w.I.fs
    have hflen := hI.ok.flen
    have dI : { H with rs := r.map (wA T.d) } = dataH H T.d H.fi H.re T.d.fin r := by
      unfold dataH; rw [← hfs]
    refine ex_nil (ex_weak (l' := lc [("heap", .ref H.a), ("lists", .ref y), ("w", .ref T.a), ("y", .int yy), ("gave", .int (wA T.d a)), ("a", .int a)]) ?_ (le_lc ⟨rfl, rfl, rfl, rfl, rfl, rfl, trivial⟩))
    refine ex_ifb (by walk_at "pt") (fun hc => ?_) fun hc => ?_
    · try (refine ex_let2 ?_; intro lX QX)
      have hc : yy % 3 = 1 := of_decide_eq_true hc
      have hi0 : 0 ≤ yy / 3 % 3 := by omega
      have hi1 : yy / 3 % 3 < 3 := by omega
      have hra := w4.raAt
      have hy4 := w4.ro.y
      refine ex_sub_list (ev_tup (eva_cons (ev_pe (by walk_at "pe") (eva_cons (ev_pe (by walk_at "pe") (eva_nil ⟨[.int 4, .int (wA T.d a)], rfl, Nat.le_of_ble_eq_true rfl, ra, 13, _, yy / 3 % 3, pe_sub (by walk_at "pe") (by walk_at "pe") (po_idx (v := .ref ra) hy4 (by decide) rfl (by decide)), by walk_at "pe", hra, hi0, by rw [List.length_map, List.length_map]; omega, by rw [List.length_map, List.length_map]; omega, ?_⟩))))))
      have es : ((T.d.roots.map (vA T.d)).map sv).set (yy / 3 % 3).toNat (.tup [.int 4, .int (wA T.d a)]) = (((T.d.roots.map (vA T.d)).set (yy / 3 % 3).toNat (wA T.d a))).map sv := by rw [List.map_set]; rfl
      rw [es]
      have w5 := w4.rootSet ((T.d.roots.map (vA T.d)).set (yy / 3 % 3).toNat (wA T.d a)) (by simp; omega)
      have E5 := E3.trans (Ext.set (S := [5, 6, 13, 20, 26, 27]) (y := .list (((T.d.roots.map (vA T.d)).set (yy / 3 % 3).toNat (wA T.d a)).map sv)) hra (by decide))
      generalize σ4.set ra ⟨13, .list (((T.d.roots.map (vA T.d)).set (yy / 3 % 3).toNat (wA T.d a)).map sv)⟩ = σ5 at w5 E5
      have hw5 : σ5 T.a = some ⟨20, .dS (Tb.kv { T with ay := D2 })⟩ := w5.w.w
      have hro5 : σ5 T.ar = some ⟨26, .list (T.d.roots.map .int)⟩ := w5.w.roots
      refine ex_sub_list (ev_pe (by walk_at "pe") ⟨T.ar, 26, _, yy / 3 % 3, by walk_at "pe", by walk_at "pe", hro5, hi0, by rw [List.length_map]; omega, by rw [List.length_map]; omega, ?_⟩)
      rw [← List.map_set]
      have w6 := w5.wRoots (T.d.roots.set (yy / 3 % 3).toNat a)
      have E6 := E5.trans (Ext.set (S := [5, 6, 13, 20, 26, 27]) (y := .list ((T.d.roots.set (yy / 3 % 3).toNat a).map .int)) hro5 (by decide))
      refine ex_nil (ex_ifb (by walk_at "pt") (fun hc2 => by have := of_decide_eq_true hc2; omega) fun _ => ex_nil (ex_ret (ev_pe pe_bool ?_)))
      refine fin _ _ _ _ (T.d.roots.set (yy / 3 % 3).toNat a) T.d.fin E6 w6 rfl rfl dI rfl ?_ (fun c hc => ?_) hI.fin (by rw [List.length_set]; exact hro3) (by omega)
      · rw [List.map_set, vA_in ha0]
      · try (refine ex_let2 ?_; intro lX QX)
        rcases mem_set_or hc with hc | rfl
        · exact hI.roots c hc
        · exact .inr hain
    · try (refine ex_let2 ?_; intro lX QX)
      refine ex_nil (ex_ifb (by walk_at "pt") (fun hc2 => ?_) fun hc2 => ?_)
      · try (refine ex_let2 ?_; intro lX QX)
        have hfi4 := w4.R.fi
        refine ex_expr (ev_c2 56 (by decide) (by walk_at "pe") (by walk_at "pe") (c_reregister (H := { H with rs := r.map (wA T.d) }) (nlt hn) w4.R (by show H.fs.length ≤ 10000; rw [hfs, List.length_map]; omega) ?_))
        have w5 := w4.fiSet (H.fs ++ [wA T.d a])
        have E5 := E3.trans (Ext.set (S := [5, 6, 13, 20, 26, 27]) (y := .list ((H.fs ++ [wA T.d a]).map .int)) hfi4 (by decide))
        generalize σ4.set H.fi ⟨5, .list ((H.fs ++ [wA T.d a]).map .int)⟩ = σ5 at w5 E5
        have hw5 : σ5 T.a = some ⟨20, .dS (Tb.kv { T with ay := D2 })⟩ := w5.w.w
        have hf5 : σ5 T.af = some ⟨27, .list (T.d.fin.map .int)⟩ := w5.w.fin
        refine ex_append (by walk_at "pe") hf5 (by first | exact lenm (by omega) | (rw [List.length_map]; omega)) (ev_pe (by walk_at "pe") ⟨hf5, ?_⟩)
        have ef : T.d.fin.map MVal.int ++ [.int a] = (T.d.fin ++ [a]).map .int := by rw [List.map_append]; rfl
        rw [ef]
        have w6 := w5.wFin (T.d.fin ++ [a])
        have E6 := E5.trans (Ext.set (S := [5, 6, 13, 20, 26, 27]) (y := .list ((T.d.fin ++ [a]).map .int)) hf5 (by decide))
        refine ex_nil (ex_ret (ev_pe pe_bool ?_))
        refine fin _ _ _ _ T.d.roots (T.d.fin ++ [a]) E6 w6 rfl rfl ?_ rfl rfl hI.roots (fun c hc => ?_) hro3 (by simp)
        · unfold dataH; rw [List.map_append, ← hfs]; rfl
        · try (refine ex_let2 ?_; intro lX QX)
          rcases List.mem_append.mp hc with hc | hc
          · exact hI.fin c hc
          · simp at hc; subst hc; exact hain
      · exact ex_nil (ex_ret (ev_pe pe_bool (fin _ _ _ _ T.d.roots T.d.fin E3 w4 rfl rfl dI rfl rfl hI.roots hI.fin hro3 (by omega))))
end


section
variable {W : Wd} {X : Cx} {l : Lcl} {σ : Store} {Q : MVal → Store → Prop} {T : Tb} {x y ra : Addr} {r : Nat} {ns seeds L : List Int} {a g s n yy : Int} {v : MVal} {H : Hp} {h : Hd} {k : Nat}

set_option maxHeartbeats 4000000 in
theorem c_law_drop (hn : X.n < 58) (w : Lw σ H h y ra T) (b : Bd H T.d k) (hk : k ≤ 29) (ha : a ∈ T.d.here) (q : ∀ σ' H' T', Ext [1, 5, 6, 20] σ σ' → H'.a = H.a → T'.a = T.a → Lw σ' H' h y ra T' → Bd H' T'.d k → Q .none σ') :
    OpC W X l σ (.ref (W.fn 87)) [.ref H.a, .ref T.a, .int a] Q := by
  refine def_call1 (x := "_law_drop") 87 (by decide) ["heap", "w", "a"] "a" (.int a) (nle hn) rfl (by walk_at "b3") rfl (fun _ => rfl) rfl rfl rfl (fun _ _ => rfl) ?_
  intro A h₀ L₁ outer base A₀ cdv σ0 E0 hc0
  refine ex_let3 ?_
  intro Xx ll Qq
  have hI := w.I.t
  have w0 := w.lr.ext E0 (by decide)
  have haN := hI.ok.here a ha
  have ha0 := haN.1
  have ha1 := haN.2
  have n1 := hI.ok.n1
  have nn := hI.ok.n
  have hfin := b.fin
  have hfs : H.fs = T.d.fin.map (wA T.d) := w.I.fs
  have hrs : H.rs = T.d.rdy.map (wA T.d) := w.I.rs
  have hw0 := w0.w.w
  have hwh := w0.w.whr
  refine ex_expr (ev_c2 55 (by decide) (by walk_at "pe") (pe_sub (by walk_at "pe") (by walk_at "pe") (po_ii hwh ha0 (by rw [n1]; exact ha1) (by omega))) (c_suppress (a := wA T.d a) (nlt hn) w0.R (by rw [hfs, List.length_map]; omega) (by rw [hrs, List.length_map]; omega) fun σ1 K P E1 R1 => ?_))
  have w1 : Lr σ1 _ h y ra _ T := ⟨R1, w0.hR.ext E1 (by decide), w0.ro.ext E1, w0.w.ext E1 (by decide)⟩
  have hc1 := E1.get hc0
  have hw1 := w1.w.w
  have hf1 := w1.w.fin
  have hflen := hI.ok.flen
  refine ex_sub_key (ev_comp 27 [("a", L₁ + 1)] T.d.fin .int (fun b => decide (b ≠ a)) .int rfl (by decide) (by decide) rfl (ev_pe (by walk_at "pe") ⟨.inl ⟨T.af, 27, rfl, hf1⟩, by omega,
    fun C b hb => pt_cmp (pe_loc rfl) (pe_cell rfl hc1) po_ne, fun C b hb _ => pe_loc rfl, fun D hD => ⟨T.a, 20, _, by walk_at "pe", Store.get_new hw1 hD, Nat.le_of_ble_eq_true rfl, ?_⟩⟩))
  have w2 := w1.ext (S := []) (.new (o := ⟨27, .list ((T.d.fin.filter fun b => decide (b ≠ a)).map .int)⟩) hD) (by decide)
  have w3 := w2.wFinD (D := D) (T.d.fin.filter fun b => decide (b ≠ a)) (Store.set_self _ _ _)
  have e3 : dput T.kv "finals" (.ref D) = Tb.kv { T with af := D } := rfl
  rw [e3]
  have E3 : Ext [1, 5, 6, 20] σ _ := (E0.mono (by first | decide | simp)).trans ((E1.mono (by first | decide | simp)).trans ((Ext.new (o := ⟨27, .list ((T.d.fin.filter fun b => decide (b ≠ a)).map .int)⟩) hD).trans (Ext.set (S := [1, 5, 6, 20]) (y := .dS (Tb.kv { T with af := D })) w2.w.w (by decide))))
  have hc3 := Store.get_role (r' := 20) (z := .dS (Tb.kv { T with af := D })) (Store.get_new (o' := ⟨27, .list ((T.d.fin.filter fun b => decide (b ≠ a)).map .int)⟩) hc1 hD) w2.w.w (by decide)
  generalize (σ1.set D ⟨27, .list ((T.d.fin.filter fun b => decide (b ≠ a)).map .int)⟩).set T.a ⟨20, .dS (Tb.kv { T with af := D })⟩ = σ3 at w3 E3 hc3
  have hw3 : σ3 T.a = some ⟨20, .dS (Tb.kv { T with af := D })⟩ := w3.w.w
  have hr3 : σ3 T.ay = some ⟨28, .list (T.d.rdy.map .int)⟩ := w3.w.rdy
  refine ex_sub_key (ev_comp 28 [("a", L₁ + 1)] T.d.rdy .int (fun b => decide (b ≠ a)) .int rfl (by decide) (by decide) rfl (ev_pe (by walk_at "pe") ⟨.inl ⟨T.ay, 28, rfl, hr3⟩, by omega,
    fun C b hb => pt_cmp (pe_loc rfl) (pe_cell rfl hc3) po_ne, fun C b hb _ => pe_loc rfl, fun D2 hD2 => ⟨T.a, 20, _, by walk_at "pe", Store.get_new hw3 hD2, Nat.le_of_ble_eq_true rfl, ?_⟩⟩))
  have w4 := w3.ext (S := []) (.new (o := ⟨28, .list ((T.d.rdy.filter fun b => decide (b ≠ a)).map .int)⟩) hD2) (by decide)
  have w5 := w4.wRdy (D := D2) (T.d.rdy.filter fun b => decide (b ≠ a)) (Store.set_self _ _ _)
  have e5 : dput (Tb.kv { T with af := D }) "ready" (.ref D2) = Tb.kv { T with af := D, ay := D2 } := rfl
  rw [e5]
  have E5 := E3.trans ((Ext.new (o := ⟨28, .list ((T.d.rdy.filter fun b => decide (b ≠ a)).map .int)⟩) hD2).trans (Ext.set (S := [1, 5, 6, 20]) (y := .dS (Tb.kv { T with af := D, ay := D2 })) w4.w.w (by decide)))
  have l1 := List.length_filter_le (fun b => decide (b ≠ a)) T.d.fin
  have l2 := List.length_filter_le (fun b => decide (b ≠ a)) T.d.rdy
  have inj : ∀ xs : List Int, (∀ c ∈ xs, c ∈ T.d.here) → (xs.map (wA T.d)).filter (fun c => decide (c ≠ wA T.d a)) = (xs.filter fun c => decide (c ≠ a)).map (wA T.d) := fun xs hx => filter_map' fun c hc => decide_eq_decide.mpr (not_congr ⟨fun e => hI.inj (hx c hc) ha e, fun e => by rw [e]⟩)
  refine ex_nil (q _ _ _ E5 ?_ ?_ (Lr.lw (roots := T.d.roots) (fin := T.d.fin.filter fun b => decide (b ≠ a)) (rdy := T.d.rdy.filter fun b => decide (b ≠ a)) (fi := K) (re := P) w.I hI.roots (fun c hc => hI.fin c (List.mem_filter.mp hc).1) (fun c hc => hI.rdy c (List.mem_filter.mp hc).1) hI.ok.roots.1 (by omega) w5 ?_ rfl rfl) ?_)
  rotate_left 2
  · unfold dataH; rw [hfs, hrs, inj _ hI.fin, inj _ hI.rdy]
  · exact ⟨b.gens, b.rows, by show (T.d.fin.filter fun b => decide (b ≠ a)).length + (T.d.rdy.filter fun b => decide (b ≠ a)).length ≤ k; omega, b.cs⟩
  · rfl
  · rfl
end


noncomputable def newT (T : Td) (ss : List Int) : Td := { T with here := T.here ++ [(T.gens.length : Int)], whr := T.whr ++ [T.top], gens := T.gens ++ [0], slots := T.slots ++ [ss], top := T.top + sizeOf' ss.length }
theorem getD_app {α : Type} {xs : List α} {a d : α} {j : Nat} (h : j < xs.length) : (xs ++ [a]).getD j d = xs.getD j d := by
  rw [List.getD_eq_getElem?_getD, List.getD_eq_getElem?_getD, List.getElem?_append_left h]
theorem getD_last {α : Type} {xs : List α} {a d : α} : (xs ++ [a]).getD xs.length d = a := by
  rw [List.getD_eq_getElem?_getD, List.getElem?_append_right (Nat.le_refl _), Nat.sub_self]; rfl
section
variable {T : Td} {ss : List Int} {i : Int}
theorem new_gA (h : InN T.gens.length i) : gA (newT T ss) i = gA T i := getD_app (by have := h.1; have := h.2; omega)
theorem new_sA (ok : TOk T) (h : InN T.gens.length i) : sA (newT T ss) i = sA T i := getD_app (by have := h.1; have := h.2; have := ok.n2; omega)
theorem new_wA (ok : TOk T) (h : InN T.gens.length i) : wA (newT T ss) i = wA T i := getD_app (by have := h.1; have := h.2; have := ok.n1; omega)
theorem new_gN : gA (newT T ss) T.gens.length = 0 := by unfold gA newT; rw [Int.toNat_natCast]; exact getD_last
theorem new_sN (ok : TOk T) : sA (newT T ss) T.gens.length = ss := by unfold sA newT; rw [Int.toNat_natCast]; dsimp only; rw [← ok.n2]; exact getD_last
theorem new_wN (ok : TOk T) : wA (newT T ss) T.gens.length = T.top := by unfold wA newT; rw [Int.toNat_natCast]; dsimp only; rw [← ok.n1]; exact getD_last
theorem new_vA (ok : TOk T) (h : InM T.gens.length i) : vA (newT T ss) i = vA T i := by
  unfold vA
  by_cases c : i < 0
  · rw [if_pos c, if_pos c]
  · rw [if_neg c, if_neg c]; exact new_wA ok ⟨by omega, h.2⟩
theorem new_tinv (I : TInv T) (hss : ∀ b ∈ ss, OrIn T.here b) (hl : ss.length ≤ 2) (hn : T.gens.length ≤ 59) : TInv (newT T ss) := by
  have ok := I.ok
  have hh : ∀ i ∈ T.here, InN T.gens.length i := ok.here
  have len : (newT T ss).gens.length = T.gens.length + 1 := by unfold newT; simp
  have up : ∀ i, InN T.gens.length i → InN (newT T ss).gens.length i := fun i h => ⟨h.1, by rw [len]; have := h.2; omega⟩
  have upm : ∀ i, InM T.gens.length i → InM (newT T ss).gens.length i := fun i h => ⟨h.1, by rw [len]; have := h.2; omega⟩
  have self : InN (newT T ss).gens.length (T.gens.length : Int) := ⟨by omega, by rw [len]; omega⟩
  have hmem : ∀ i ∈ (newT T ss).here, i ∈ T.here ∨ i = T.gens.length := fun i hi => by
    rcases List.mem_append.mp hi with h | h
    · exact .inl h
    · simp at h; exact .inr h
  have orin : ∀ b, OrIn T.here b → OrIn (newT T ss).here b := fun b h => h.imp id fun h => List.mem_append_left _ h
  have inm : ∀ b, OrIn T.here b → InM T.gens.length b := fun b hb => by
    rcases hb with rfl | hb
    · exact ⟨by decide, by omega⟩
    · try (refine ex_let2 ?_; intro lX QX)
      have := hh b hb; exact ⟨by have := this.1; omega, this.2⟩
  have hhl := int_nodup_len (asc_nodup I.asc) hh
  refine ⟨⟨by rw [len]; unfold newT; simp [ok.n1], by rw [len]; unfold newT; simp [ok.n2], by rw [len]; omega, fun i hi => ?_, by unfold newT; simp; omega, fun s hs => ?_, ⟨ok.roots.1, fun b hb => upm b (ok.roots.2 b hb)⟩, fun b hb => up b (ok.fin b hb), fun b hb => up b (ok.rdy b hb), ok.flen, fun r hr => upm _ (ok.rows r hr), ok.rlen⟩,
    ?_, ?_, fun i hi => ?_, ?_, fun i hi b hb => ?_, fun b hb => orin b (I.roots b hb), fun b hb => List.mem_append_left _ (I.fin b hb), fun b hb => List.mem_append_left _ (I.rdy b hb), fun r hr => orin _ (I.rows r hr), I.srt⟩
  · try (refine ex_let2 ?_; intro lX QX)
    rcases hmem i hi with h | rfl
    · exact up i (hh i h)
    · exact self
  · try (refine ex_let2 ?_; intro lX QX)
    rcases List.mem_append.mp hs with h | h
    · exact ⟨(ok.sl s h).1, fun b hb => upm b ((ok.sl s h).2 b hb)⟩
    · simp at h; subst h; exact ⟨hl, fun b hb => upm b (inm b (hss b hb))⟩
  · try (refine ex_let2 ?_; intro lX QX)
    refine List.pairwise_append.mpr ⟨I.asc, by simp, fun i hi j hj => ?_⟩
    simp at hj; subst hj; exact (hh i hi).2
  · try (refine ex_let2 ?_; intro lX QX)
    refine chainT_F.mpr ?_
    have h1 := chainT_F.mp I.chain
    have h2 := chainF_congr (w' := wA (newT T ss)) (fun i hi => new_wA ok (hh i hi)) h1
    have hz : ∀ {w z z' : Int → Int} {l : List Int} {pos top : Int}, (∀ i ∈ l, z' i = z i) → chainF w z pos l top → chainF w z' pos l top := by
      intro w z z' l
      try (refine ex_let2 ?_; intro lX QX)
      induction l with
      | nil => exact fun _ h => h
      | cons i r ih => intro pos top hk h; exact ⟨h.1, by rw [hk i (.head _)]; exact ih (fun j hj => hk j (.tail _ hj)) h.2⟩
    have h3 := hz (z' := fun i => sizeOf' (sA (newT T ss) i).length) (fun i hi => by rw [new_sA ok (hh i hi)]) h2
    have h4 := chainF_snoc h3 (i := (T.gens.length : Int)) (new_wN ok)
    rw [new_sN ok] at h4
    exact h4
  · try (refine ex_let2 ?_; intro lX QX)
    rcases hmem i hi with h | rfl
    · rw [new_gA (hh i h)]; exact I.gen i h
    · rw [new_gN]; decide
  · try (refine ex_let2 ?_; intro lX QX)
    refine List.pairwise_append.mpr ⟨?_, by simp, fun i hi j hj => ?_⟩
    · try (refine ex_let2 ?_; intro lX QX)
      have : ∀ l : List Int, (∀ i ∈ l, i ∈ T.here) → (l.Pairwise fun i j => gA T j ≤ gA T i) → l.Pairwise fun i j => gA (newT T ss) j ≤ gA (newT T ss) i := by
        intro l
        try (refine ex_let2 ?_; intro lX QX)
        induction l with
        | nil => exact fun _ _ => List.Pairwise.nil
        | cons i r ih =>
          intro hk hp
          try (refine ex_let2 ?_; intro lX QX)
          rw [List.pairwise_cons] at hp
          exact List.Pairwise.cons (fun j hj => by rw [new_gA (hh i (hk i (.head _))), new_gA (hh j (hk j (.tail _ hj)))]; exact hp.1 j hj) (ih (fun x hx => hk x (.tail _ hx)) hp.2)
      exact this _ (fun i hi => hi) I.mono
    · simp at hj; subst hj
      rw [new_gN, new_gA (hh i hi)]; exact (I.gen i hi).1
  · try (refine ex_let2 ?_; intro lX QX)
    rcases hmem i hi with h | rfl
    · rw [new_sA ok (hh i h)] at hb; exact orin b (I.sl i h b hb)
    · rw [new_sN ok] at hb; exact orin b (hss b hb)
end


theorem all2_mem {α β : Type} {R R' : α → β → Prop} : ∀ {as : List α} {bs : List β}, All2 R as bs → (∀ a b, b ∈ bs → R a b → R' a b) → All2 R' as bs
  | [], [], _, _ => trivial
  | a :: as, b :: bs, ⟨h, t⟩, k => ⟨k a b (.head _) h, all2_mem t fun x y hy hr => k x y (.tail _ hy) hr⟩
  | [], _ :: _, h, _ => h.elim
  | _ :: _, [], h, _ => h.elim
section
variable {H : Hp} {rows : List Rw} {cs : List (List Int)} {T : Td} {ss : List Int} {x sl : Addr} {kind : Int}
theorem top_gt (I : Inv H rows cs T) {t : Th} (ht : t ∈ H.ts) : t.addr < H.top := by
  obtain ⟨i, hi, h⟩ := I.idxOf ht
  have h1 := (chain_ge I.t.chain).2 i hi
  have h2 := sizeOf_pos (sA T i).length
  rw [h.addr, I.top]; omega
theorem thAt_app {ts : List Th} {t : Th} {a : Int} (h : a ≠ t.addr) : thAt (ts ++ [t]) a = thAt ts a := by
  unfold thAt
  rw [List.find?_append]
  have : ([t].find? fun u => u.addr == a) = none := by simp [Ne.symm h]
  rw [this]; simp
theorem new_inv (I : Inv H rows cs T) (hss : ∀ b ∈ ss, OrIn T.here b) (hl : ss.length ≤ 2) (hn : T.gens.length ≤ 59) (hk : kind = 20 + (T.gens.length : Int) % 3) :
    Inv (allocH H (newTh x sl H kind (ss.map (vA T)))) rows cs (newT T ss) := by
  have hI := I.t
  have ok := hI.ok
  have hT := new_tinv hI hss hl hn
  have hh : ∀ i ∈ T.here, InN T.gens.length i := ok.here
  have inm : ∀ b, OrIn T.here b → InM T.gens.length b := fun b hb => by
    rcases hb with rfl | hb
    · exact ⟨by decide, by omega⟩
    · try (refine ex_let2 ?_; intro lX QX)
      have := hh b hb; exact ⟨by have := this.1; omega, this.2⟩
  have hv : ∀ b, OrIn T.here b → vA (newT T ss) b = vA T b := fun b hb => new_vA ok (inm b hb)
  have hw : ∀ b ∈ T.here, wA (newT T ss) b = wA T b := fun b hb => new_wA ok (hh b hb)
  have hts : All2 (ThOf (newT T ss)) (H.ts ++ [newTh x sl H kind (ss.map (vA T))]) (T.here ++ [(T.gens.length : Int)]) := by
    refine All2.snoc (all2_mem I.ts fun t i hi h => ⟨by rw [hw i hi]; exact h.addr, h.kind, by rw [new_gA (hh i hi)]; exact h.gen, by rw [new_sA ok (hh i hi)]; exact h.size, h.serial, ?_⟩) ⟨by rw [new_wN ok]; exact I.top, hk, by rw [new_gN]; rfl, by rw [new_sN ok]; show sizeOf' ((ss.map (vA T)).length : Nat) = _; rw [List.length_map], by show H.made + 1 = _; rw [I.made], ?_⟩
    · rw [new_sA ok (hh i hi), h.slots]
      exact List.map_congr_left fun b hb => (hv b (hI.sl i hi b hb)).symm
    · rw [new_sN ok]
      exact List.map_congr_left fun b hb => (hv b (hss b hb)).symm
  have top0 : 0 < H.top := by rw [I.top]; have := (chain_ge hI.chain).1; omega
  have hlen : H.ts.length ≤ 59 := by
    have h1 := All2.len I.ts
    have h2 := int_nodup_len (asc_nodup hI.asc) hh
    omega
  have hmem : ∀ t ∈ H.ts ++ [newTh x sl H kind (ss.map (vA T))], t ∈ H.ts ∨ t = newTh x sl H kind (ss.map (vA T)) := fun t ht => by
    rcases List.mem_append.mp ht with h | h
    · exact .inl h
    · simp at h; exact .inr h
  have hval : ∀ b, OrIn T.here b → vA T b = 0 ∨ ∃ u ∈ H.ts, u.addr = vA T b := fun b hb => by
    rcases hb with rfl | hb
    · exact .inl vA_neg
    · rw [vA_in (hI.nn hb)]
      obtain ⟨u, hu, h⟩ := I.thOf hb
      exact .inr ⟨u, hu, h.addr⟩
  have hokH : HOk (allocH H (newTh x sl H kind (ss.map (vA T)))) := by
    refine ⟨?_, fun t ht => ?_, by unfold allocH; simp; omega, I.ok.ncs, I.ok.nfs, fun t ht => ?_, fun t ht => ?_, fun t ht b hb => ?_, fun b hb => ?_, fun b hb => ?_⟩
    · show ((H.ts ++ [_]).map Th.addr).Nodup
      rw [List.map_append, List.nodup_append]
      refine ⟨I.ok.ad, by simp, fun a ha c hc => ?_⟩
      simp at hc; subst hc
      obtain ⟨t, ht, rfl⟩ := List.mem_map.mp ha
      have := top_gt I ht
      show t.addr ≠ H.top; omega
    · try (refine ex_let2 ?_; intro lX QX)
      rcases hmem t ht with h | rfl
      · exact I.ok.pos t h
      · exact top0
    · try (refine ex_let2 ?_; intro lX QX)
      rcases hmem t ht with h | rfl
      · exact I.ok.nsl t h
      · show (ss.map (vA T)).length ≤ 2; rw [List.length_map]; exact hl
    · try (refine ex_let2 ?_; intro lX QX)
      rcases hmem t ht with h | rfl
      · exact I.ok.gen t h
      · exact ⟨Int.le_refl _, by show (0 : Int) ≤ 2; decide⟩
    · try (refine ex_let2 ?_; intro lX QX)
      have up : (b = 0 ∨ ∃ u ∈ H.ts, u.addr = b) → b = 0 ∨ ∃ u ∈ H.ts ++ [newTh x sl H kind (ss.map (vA T))], u.addr = b := fun h => h.imp id fun ⟨u, hu, e⟩ => ⟨u, List.mem_append_left _ hu, e⟩
      rcases hmem t ht with h | rfl
      · exact up (I.ok.sl t h b hb)
      · try (refine ex_let2 ?_; intro lX QX)
        obtain ⟨c, hc, rfl⟩ := List.mem_map.mp hb
        exact up (hval c (hss c hc))
    · try (refine ex_let2 ?_; intro lX QX)
      obtain ⟨u, hu, e⟩ := I.ok.rs b hb; exact ⟨u, List.mem_append_left _ hu, e⟩
    · try (refine ex_let2 ?_; intro lX QX)
      obtain ⟨u, hu, e⟩ := I.ok.fs b hb; exact ⟨u, List.mem_append_left _ hu, e⟩
  refine ⟨hT, hokH, hts, ?_, ?_, ?_, ?_, ?_, ?_, fun t ht s hs hy => ?_⟩
  · show H.fs = T.fin.map (wA (newT T ss))
    rw [I.fs]; exact List.map_congr_left fun b hb => (hw b (hI.fin b hb)).symm
  · show H.rs = T.rdy.map (wA (newT T ss))
    rw [I.rs]; exact List.map_congr_left fun b hb => (hw b (hI.rdy b hb)).symm
  · show cs = [T.roots.map (vA (newT T ss))]
    rw [I.roots]; congr 1; exact List.map_congr_left fun b hb => (hv b (hI.roots b hb)).symm
  · exact all2_mem I.rows fun r q hq h => ⟨h.alive, by rw [hv _ (hI.rows q hq)]; exact h.addr, h.kind⟩
  · show H.top + sizeOf' ((ss.map (vA T)).length : Nat) = T.top + sizeOf' ss.length
    rw [I.top, List.length_map]
  · show H.made + 1 = ((T.gens ++ [0]).length : Nat)
    rw [I.made]; simp
  · try (refine ex_let2 ?_; intro lX QX)
    rcases hmem t ht with h | rfl
    · try (refine ex_let2 ?_; intro lX QX)
      refine I.cards t h s hs ?_
      have hin : t.slots.getD s 0 ∈ t.slots := by rw [getD_of (x := t.slots[s]) (List.getElem?_eq_getElem hs)]; exact List.getElem_mem hs
      have hne : t.slots.getD s 0 ≠ H.top := by
        rcases I.ok.sl t h _ hin with e | ⟨u, hu, e⟩
        · rw [e]; omega
        · try (refine ex_let2 ?_; intro lX QX)
          have := top_gt I hu; omega
      have hy' : refY (H.ts ++ [newTh x sl H kind (ss.map (vA T))]) t (t.slots.getD s 0) = true := hy
      unfold refY at hy' ⊢
      rw [thAt_app (by exact hne)] at hy'
      exact hy'
    · try (refine ex_let2 ?_; intro lX QX)
      exfalso
      unfold refY at hy
      split at hy
      · try (refine ex_let2 ?_; intro lX QX)
        rename_i u eu
        have h1 := (hokH.gen u (thAt_some eu).1).1
        have h2 : u.gen < 0 := of_decide_eq_true hy
        omega
      · cases hy
end


/-- what the law draws for a new thing's slots -/
noncomputable def zAt (z m : Int) : Nat → Int
  | 0 => z
  | n + 1 => zAt z m n / (m + 1)
noncomputable def pickH (T : Td) (z : Int) (n : Nat) : Int := ((-1) :: T.here).getD (zAt z T.here.length n % ((T.here.length : Int) + 1)).toNat 0
noncomputable def drawn (T : Td) (z : Int) (n : Nat) : List Int := (List.range n).map (pickH T z)
theorem pickH_in {T : Td} {z : Int} {n : Nat} : OrIn T.here (pickH T z n) := by
  unfold pickH
  have h1 : (zAt z T.here.length n % ((T.here.length : Int) + 1)).toNat < ((-1) :: T.here).length := by
    have h2 : 0 ≤ zAt z T.here.length n % ((T.here.length : Int) + 1) := Int.emod_nonneg _ (by omega)
    have h3 : zAt z T.here.length n % ((T.here.length : Int) + 1) < (T.here.length : Int) + 1 := Int.emod_lt_of_pos _ (by omega)
    rw [List.length_cons]; omega
  have h4 : ((-1) :: T.here).getD (zAt z T.here.length n % ((T.here.length : Int) + 1)).toNat 0 ∈ (-1) :: T.here := by
    rw [getD_of (x := ((-1) :: T.here)[(zAt z T.here.length n % ((T.here.length : Int) + 1)).toNat]) (List.getElem?_eq_getElem h1)]
    exact List.getElem_mem h1
  rcases List.mem_cons.mp h4 with h | h
  · exact .inl h
  · exact .inr h
theorem zAt_nonneg {z m : Int} (hz : 0 ≤ z) (hm : 0 ≤ m) : ∀ n, 0 ≤ zAt z m n
  | 0 => hz
  | n + 1 => Int.ediv_nonneg (zAt_nonneg hz hm n) (by omega)


theorem ex_ifj {W : Wd} {X : Cx} {l : Lcl} {σ : Store} {e : Expr} {body orelse rest : List Stmt} {pos : Pos} {cb : Bool} {Q : Flw → Lcl → Store → Prop} (xs : List (Str × MVal)) (P : Store → Prop) (h : PT W X l σ e cb) (h1 : cb = true → Ex W X l σ body (Back Q xs P)) (h2 : cb = false → Ex W X l σ orelse (Back Q xs P))
    (h3 : ∀ σ', P σ' → Ex W X (lc xs) σ' rest Q) : Ex W X l σ (.If e body orelse pos :: rest) Q := by
  have k : ∀ f l' σ', Back Q xs P f l' σ' → Fin Q (fun l' σ' => Ex W X l' σ' rest Q) f l' σ' := by
    intro f l' σ' hb
    try (refine ex_let2 ?_; intro lX QX)
    cases f with
    | ret v => exact hb
    | next => exact ex_weak (h3 σ' hb.2) (le_lc hb.1)
  exact ex_ifb h (fun c => (h1 c).mono k) (fun c => (h2 c).mono k)
theorem app_int {xs : List Int} {a : Int} : xs.map MVal.int ++ [.int a] = (xs ++ [a]).map .int := by rw [List.map_append]; rfl
/-- what a new thing has come to: its entries among the finals and the roots are still open -/
noncomputable def NSt (S : List Nat) (σ : Store) (cell a : Addr) (H₀ : Hp) (T₀ : Td) (h : Hd) (y ra : Addr) (nf : Nat) (σ' : Store) : Prop :=
  ∃ (T6 : Tb) (fin roots : List Int), Ext S σ σ' ∧ σ' cell = some ⟨0, .cell (some (.ref a))⟩ ∧ Lr σ' (dataH H₀ T₀ H₀.fi H₀.re fin T₀.rdy) h y ra (roots.map (vA T₀)) T6 ∧ T6.a = a ∧ T6.d = dataT T₀ roots fin T₀.rdy ∧
    (∀ b ∈ fin, b ∈ T₀.here) ∧ (∀ b ∈ roots, OrIn T₀.here b) ∧ roots.length = 3 ∧ fin.length ≤ nf
section
variable {σ σ' : Store} {H : Hp} {h : Hd} {y ra : Addr} {c : List Int} {T : Tb}
theorem Lr.wGens (w : Lr σ H h y ra c T) (x : List Int) : Lr (σ.set T.ag ⟨23, .list (x.map .int)⟩) H h y ra c { T with d := { T.d with gens := x } } := by
  have E : Ext [23] σ (σ.set T.ag ⟨23, .list (x.map .int)⟩) := .set w.w.gens (by decide)
  have W := w.w
  exact ⟨w.R.ext E (by decide), w.hR.ext E (by decide), w.ro.ext E, ⟨E.get W.w, E.get W.here, E.get W.whr, Store.set_self _ _ _, E.get W.slots, W.sl.mono fun _ _ e => E.get e, E.get W.roots, E.get W.fin, E.get W.rdy, E.get W.rows, W.rw.mono fun _ _ e => E.get e, W.nd⟩⟩
theorem Lr.wWhr (w : Lr σ H h y ra c T) (x : List Int) : Lr (σ.set T.aw ⟨22, .list (x.map .int)⟩) H h y ra c { T with d := { T.d with whr := x } } := by
  have E : Ext [22] σ (σ.set T.aw ⟨22, .list (x.map .int)⟩) := .set w.w.whr (by decide)
  have W := w.w
  exact ⟨w.R.ext E (by decide), w.hR.ext E (by decide), w.ro.ext E, ⟨E.get W.w, E.get W.here, Store.set_self _ _ _, E.get W.gens, E.get W.slots, W.sl.mono fun _ _ e => E.get e, E.get W.roots, E.get W.fin, E.get W.rdy, E.get W.rows, W.rw.mono fun _ _ e => E.get e, W.nd⟩⟩
theorem Lr.wHere (w : Lr σ H h y ra c T) (x : List Int) : Lr (σ.set T.ah ⟨21, .list (x.map .int)⟩) H h y ra c { T with d := { T.d with here := x } } := by
  have E : Ext [21] σ (σ.set T.ah ⟨21, .list (x.map .int)⟩) := .set w.w.here (by decide)
  have W := w.w
  exact ⟨w.R.ext E (by decide), w.hR.ext E (by decide), w.ro.ext E, ⟨E.get W.w, Store.set_self _ _ _, E.get W.whr, E.get W.gens, E.get W.slots, W.sl.mono fun _ _ e => E.get e, E.get W.roots, E.get W.fin, E.get W.rdy, E.get W.rows, W.rw.mono fun _ _ e => E.get e, W.nd⟩⟩
theorem Lr.wSlots {D : Addr} {s : List Int} (w : Lr σ H h y ra c T) (hD : σ D = some ⟨25, .list (s.map .int)⟩) (hn : D ∉ T.sl) : Lr (σ.set T.ax ⟨24, .list (T.sl.map MVal.ref ++ [.ref D])⟩) H h y ra c { T with sl := T.sl ++ [D], d := { T.d with slots := T.d.slots ++ [s] } } := by
  have E : Ext [24] σ (σ.set T.ax ⟨24, .list (T.sl.map MVal.ref ++ [.ref D])⟩) := .set w.w.slots (by decide)
  have W := w.w
  refine ⟨w.R.ext E (by decide), w.hR.ext E (by decide), w.ro.ext E, ⟨E.get W.w, E.get W.here, E.get W.whr, E.get W.gens, ?_, All2.snoc (W.sl.mono fun _ _ e => E.get e) (E.get hD), E.get W.roots, E.get W.fin, E.get W.rdy, E.get W.rows, W.rw.mono fun _ _ e => E.get e, ?_, W.nd.2⟩⟩
  · rw [Store.set_self]; show _ = some (⟨24, .list ((T.sl ++ [D]).map .ref)⟩ : MObj); rw [List.map_append]; rfl
  · rw [List.nodup_append]
    refine ⟨W.nd.1, by simp, fun a ha b hb => ?_⟩
    simp at hb; subst hb
    rintro rfl; exact hn ha
theorem Lr.wTop (w : Lr σ H h y ra c T) (x : Int) : Lr (σ.set T.a ⟨20, .dS (Tb.kv { T with d := { T.d with top := x } })⟩) H h y ra c { T with d := { T.d with top := x } } := by
  have W := w.w
  have E : Ext [20] σ (σ.set T.a ⟨20, .dS (Tb.kv { T with d := { T.d with top := x } })⟩) := .set W.w (by decide)
  exact ⟨w.R.ext E (by decide), w.hR.ext E (by decide), w.ro.ext E, WRep.put W.w { T with d := { T.d with top := x } } rfl W.here W.whr W.gens W.slots W.sl W.roots W.fin W.rdy W.rows W.rw W.nd⟩
end
section
variable {W : Wd} {X : Cx} {l : Lcl} {σ : Store} {Q : MVal → Store → Prop} {e e₂ : Expr}
/-- one of the things here, or none -/
theorem ev_pick {p1 p2 p3 p4 p5 : Pos} {kk : Nat} {ah : Addr} {here : List Int} {k : Int} (wh : σ ah = some ⟨21, .list (here.map .int)⟩) (h1 : ∀ σ', Ext [] σ σ' → PE W X l σ' e (.ref ah)) (h2 : ∀ σ', Ext [] σ σ' → PE W X l σ' e₂ (.int k)) (k0 : 0 ≤ k) (k1 : k < here.length + 1) (hz : here.length ≤ 60)
    (q : ∀ σ', Ext [] σ σ' → Q (.int (((-1) :: here).getD k.toNat 0)) σ')
    (hs : ∀ x u, subscripted e₂ false (.ref x) (.int k u) = operate [.ref x, .int k u] (getItem (.ref x) (.int k u)) := by intro _ _; with_unfolding_all rfl) :
    Ev W X l σ (.Subscript (.BinOp (.List [.UnaryOp .USub (.Constant (.int 1) kk p1) p2] p3) .Add e p4) e₂ p5) Q := by
  refine ev_sub (ev_bin (ev_list 0 (eva_cons (ev_pe (pe_neg pe_int) (eva_nil ⟨Nat.le_of_ble_eq_true rfl, fun D hD => ?_⟩)))))
  have E1 : Ext [] σ (σ.set D ⟨0, .list [.int (-1)]⟩) := .new hD
  refine ev_pe (h1 _ E1) (op_listadd 0 (Store.set_self _ _ _) (E1.get wh) (by rw [List.length_map]; simp; omega) fun D2 hD2 => ?_)
  have E2 := E1.trans (Ext.new (o := ⟨0, .list ([.int (-1)] ++ here.map .int)⟩) hD2)
  refine ev_pe (h2 _ E2) (op2_po (po_ii (r := 0) (ns := (-1) :: here) (Store.set_self _ _ _) k0 (by rw [List.length_cons]; omega) (by rw [List.length_cons]; omega) (fun u => hs _ u)) (q _ E2))
end
section
variable {W : Wd} {X : Cx} {l : Lcl} {σ : Store} {Q : MVal → Store → Prop} {T : Tb} {x y ra : Addr} {r : Nat} {ns seeds L : List Int} {a g s n yy : Int} {v : MVal} {H : Hp} {h : Hd} {k : Nat}

set_option maxHeartbeats 8000000 in
theorem c_law_new (hn : X.n < 54) (w : Lw σ H h y ra T) (b : Bd H T.d k) (hk : k ≤ 28) (hy0 : 0 ≤ yy) (q : ∀ σ' H' T', Ext [1, 2, 3, 5, 13, 20, 21, 22, 23, 24, 26, 27] σ σ' → H'.a = H.a → T'.a = T.a → Lw σ' H' h y ra T' → Bd H' T'.d (k + 1) → Q (.bool true) σ') :
    OpC W X l σ (.ref (W.fn 84)) [.ref H.a, .ref y, .ref T.a, .int yy] Q := by
  refine def_call1 (x := "_law_new") 84 (by decide) ["heap", "lists", "w", "y"] "w" (.ref T.a) (nle hn) rfl (by walk_at "b4") rfl (fun _ => rfl) rfl rfl rfl (fun _ _ => rfl) ?_
  intro A h₀ L₁ outer base A₀ cdv σ0 E0 hc0
  refine ex_let3 ?_
  intro Xx ll Qq
  have hI := w.I.t
  have ok := hI.ok
  have w0 := w.lr.ext E0 (by decide)
  have hw0 := w0.w.w
  have hh0 := w0.w.here
  have hg0 := w0.w.gens
  have hhl := ok.hlen
  have nn := ok.n
  refine ex_assign (ev_pe (by walk_at "pe") ?_)
  rw [List.length_map]
  refine ex_assign (ev_pe (by walk_at "pe") ?_)
  rw [List.length_map]
  refine ex_assign (ev_pe (by walk_at "pe") ?_)
  refine ex_assign (ev_list 25 (eva_nil ⟨Nat.le_of_ble_eq_true rfl, fun D hD => ?_⟩))
  have nD : σ D = none := E0.live hD
  obtain ⟨m3, hm3⟩ : ∃ m3 : Nat, yy % 3 = (m3 : Int) := ⟨(yy % 3).toNat, by omega⟩
  have hm3' : m3 < 3 := by omega
  have zn := fun k => zAt_nonneg (z := yy / 24) (m := T.d.here.length) (by omega) (by omega) k
  refine ex_for_r (ev_pe (by walk_at "pe") ⟨m3, fun k => [("heap", .ref H.a), ("lists", .ref y), ("y", .int yy), ("many", .int T.d.here.length), ("i", .int T.d.gens.length), ("z", .int (zAt (yy / 24) T.d.here.length k)), ("slots", .ref D)],
    fun k σ₂ => Ext [] σ0 σ₂ ∧ σ₂ D = some ⟨25, .list ((drawn T.d (yy / 24) k).map .int)⟩, by rw [hm3], by omega, ⟨rfl, rfl, rfl, rfl, rfl, rfl, rfl, trivial⟩, ⟨.new hD, Store.set_self _ _ _⟩, ?_, ?_⟩)
  · rintro k σ2 hk ⟨E2, hD2⟩
    try (refine ex_let2 ?_; intro lX QX)
    have hw2 := E2.get hw0
    have hc2 := E2.get hc0
    have hh2 := E2.get hh0
    have hz0 := zn k
    have hmz : 0 ≤ zAt (yy / 24) T.d.here.length k % ((T.d.here.length : Int) + 1) := Int.emod_nonneg _ (by omega)
    have hmz1 : zAt (yy / 24) T.d.here.length k % ((T.d.here.length : Int) + 1) < T.d.here.length + 1 := Int.emod_lt_of_pos _ (by omega)
    refine ex_append (by walk_at "pe") hD2 (by rw [List.length_map]; unfold drawn; simp; omega) (ev_pick (k := zAt (yy / 24) T.d.here.length k % ((T.d.here.length : Int) + 1)) hh2 (fun σ' E => ?_) (fun σ' E => ?_) hmz hmz1 hhl fun σ3 E3 => ⟨E3.get hD2, ?_⟩)
    · try (refine ex_let2 ?_; intro lX QX)
      have hw3 := E.get hw2
      have hc3 := E.get hc2
      walk_at "pe"
    · try (refine ex_let2 ?_; intro lX QX)
      walk_at "pe"
    · try (refine ex_let2 ?_; intro lX QX)
      refine ex_assign (ev_pe (by walk_at "pe") ?_)
      refine ex_nil ⟨⟨rfl, rfl, rfl, rfl, rfl, rfl, rfl, trivial⟩, Ext.setNew (E2.trans E3) hD, ?_⟩
      rw [Store.set_self]
      unfold drawn
      rw [List.range_succ, List.map_append, List.map_append]
      rfl
  rintro σ1 ⟨E1, hD1⟩
  try (refine ex_let2 ?_; intro lX QX)
  have w1 := w0.ext E1 (by decide)
  have hc1 := E1.get hc0
  have hw1 := w1.w.w
  have hwh1 := w1.w.whr
  have n1 := ok.n1
  have hssl : (drawn T.d (yy / 24) m3).length = m3 := by unfold drawn; simp
  have hss : ∀ b ∈ drawn T.d (yy / 24) m3, OrIn T.d.here b := fun b hb => by
    unfold drawn at hb
    obtain ⟨j, _, rfl⟩ := List.mem_map.mp hb
    exact pickH_in
  have hinM : ∀ b, OrIn T.d.here b → InM T.d.gens.length b := fun b hb => by
    rcases hb with rfl | hb
    · exact ⟨by decide, by omega⟩
    · try (refine ex_let2 ?_; intro lX QX)
      have := ok.here b hb; exact ⟨by have := this.1; omega, this.2⟩
  refine ex_assign (ev_pe (by walk_at "pe") ?_)
  generalize hss' : drawn T.d (yy / 24) m3 = ss at hssl hss hD1
  refine ex_expr (ev_def 17 (by decide) (eva_cons (ev_pe (by walk_at "pe") (eva_cons (ev_pe (by walk_at "pe") (eva_cons (ev_comp 11 [("w", L₁ + 1)] ss .int (fun _ => true) (fun a => sv (vA T.d a)) rfl (by decide) (by decide) rfl (ev_pe (by walk_at "pe") ⟨.inl ⟨D, 25, rfl, hD1⟩, by omega,
    fun C a ha => rfl, fun C a ha _ => ⟨ev_c2 79 (by decide) (pe_loc rfl) (by walk_at "pe") (c_law_value (nlt hn) hwh1 (by rw [n1]; exact hinM a (hss a ha)) (by omega) ⟨rfl, rfl⟩)⟩, fun D3 hD3 => eva_nil ?_⟩))))))))
  have el : (ss.filter fun _ => true).map (fun a => sv (vA T.d a)) = (ss.map (vA T.d)).map sv := by rw [List.filter_eq_self.mpr (fun _ _ => rfl), List.map_map]; rfl
  rw [el]
  have w2 := w1.ext (S := []) (.new (o := ⟨11, .list ((ss.map (vA T.d)).map sv)⟩) hD3) (by decide)
  have E2 := E1.trans (Ext.new (o := ⟨11, .list ((ss.map (vA T.d)).map sv)⟩) hD3)
  have hD3' : (σ1.set D3 ⟨11, .list ((ss.map (vA T.d)).map sv)⟩) D3 = some ⟨11, .list ((ss.map (vA T.d)).map sv)⟩ := Store.set_self _ _ _
  have hD2 := Store.get_new (o' := ⟨11, .list ((ss.map (vA T.d)).map sv)⟩) hD1 hD3
  have hsl3 : D3 ∉ H.ts.map Th.sl := fun hm => by
    obtain ⟨t, ht, e⟩ := List.mem_map.mp hm
    have := (w1.R.ts t ht).2
    rw [e, hD3] at this; cases this
  generalize σ1.set D3 ⟨11, .list ((ss.map (vA T.d)).map sv)⟩ = σ2 at w2 E2 hD3' hD2
  have htop : H.top ∉ H.ts.map Th.addr := fun hm => by
    obtain ⟨t, ht, e⟩ := List.mem_map.mp hm
    have := top_gt w.I ht
    omega
  have hc2 := E2.get hc0
  have hpre : ∀ {S : List Nat} {σ' : Store}, Ext S σ2 σ' → Ext S σ σ' := fun E => (E0.mono (by first | decide | simp)).trans ((E2.mono (by first | decide | simp)).trans E)
  refine c_heap_alloc (nlt hn) w2.R hD3' hsl3 (by first | exact lenm (by omega) | (rw [List.length_map]; omega)) (by have := w.I.ok.num; omega) htop fun σ3 xr E3 R3 => ?_
  have hgens := b.gens
  have I0 := new_inv (x := xr) (sl := D3) w.I hss (by omega) (by omega) rfl
  have hDsl : D ∉ T.sl := fun hm => by
    obtain ⟨j, hj⟩ := List.getElem?_of_mem hm
    obtain ⟨_, _, e⟩ := w.w.sl.get hj
    rw [nD] at e; cases e
  generalize hH₀ : allocH H (newTh xr D3 H (20 + (T.d.gens.length : Int) % 3) (ss.map (vA T.d))) = H₀ at R3 I0
  have w3 : Lr σ3 H₀ h y ra (T.d.roots.map (vA T.d)) T := ⟨R3, w2.hR.ext E3 (by decide), w2.ro.ext E3, w2.w.ext E3 (by decide)⟩
  have hc3 := E3.get hc2
  have hD4 := E3.get hD2
  have F3 : Ext [1, 2, 3, 5, 13, 20, 21, 22, 23, 24, 26, 27] σ σ3 := hpre (E3.mono (by first | decide | simp))
  clear E3 hD2 hc2 w2 hD3' R3 hpre
  have hw3 := w3.w.w
  have hg3 := w3.w.gens
  refine ex_append (by walk_at "pe") hg3 (by first | exact lenm (by omega) | (rw [List.length_map]; omega)) (ev_pe (by walk_at "pe") ⟨hg3, ?_⟩)
  rw [app_int]
  have w4 := w3.wGens (T.d.gens ++ [0])
  have hc4 := Store.get_role (r' := 23) (z := .list ((T.d.gens ++ [0]).map .int)) hc3 hg3 (by decide)
  have hD5 := Store.get_role (r' := 23) (z := .list ((T.d.gens ++ [0]).map .int)) hD4 hg3 (by decide)
  have F4 := F3.trans (Ext.set (S := [1, 2, 3, 5, 13, 20, 21, 22, 23, 24, 26, 27]) (y := .list ((T.d.gens ++ [0]).map .int)) hg3 (by decide))
  generalize σ3.set T.ag ⟨23, .list ((T.d.gens ++ [0]).map .int)⟩ = σ4 at w4 hc4 hD5 F4
  clear w3 hc3 hD4 F3 hw3 hg3
  have hw4 : σ4 T.a = some ⟨20, .dS T.kv⟩ := w4.w.w
  have hx4 : σ4 T.ax = some ⟨24, .list (T.sl.map .ref)⟩ := w4.w.slots
  have n2 := ok.n2
  have hsll := All2.len w.w.sl
  refine ex_append (by walk_at "pe") hx4 (by first | exact lenm (by omega) | (rw [List.length_map]; omega)) (ev_pe (by walk_at "pe") ⟨hx4, ?_⟩)
  have w5 := w4.wSlots hD5 hDsl
  have hc5 := Store.get_role (r' := 24) (z := .list (T.sl.map MVal.ref ++ [.ref D])) hc4 hx4 (by decide)
  have F5 := F4.trans (Ext.set (S := [1, 2, 3, 5, 13, 20, 21, 22, 23, 24, 26, 27]) (y := .list (T.sl.map MVal.ref ++ [.ref D])) hx4 (by decide))
  generalize σ4.set T.ax ⟨24, .list (T.sl.map MVal.ref ++ [.ref D])⟩ = σ5 at w5 hc5 F5
  clear w4 hc4 hD5 F4 hw4 hx4
  have hw5 : σ5 T.a = some ⟨20, .dS T.kv⟩ := w5.w.w
  have hv5 : σ5 T.aw = some ⟨22, .list (T.d.whr.map .int)⟩ := w5.w.whr
  refine ex_append (by walk_at "pe") hv5 (by first | exact lenm (by omega) | (rw [List.length_map]; omega)) (ev_pe (by walk_at "pe") ⟨hv5, ?_⟩)
  rw [app_int]
  have w6 := w5.wWhr (T.d.whr ++ [T.d.top])
  have hc6 := Store.get_role (r' := 22) (z := .list ((T.d.whr ++ [T.d.top]).map .int)) hc5 hv5 (by decide)
  have F6 := F5.trans (Ext.set (S := [1, 2, 3, 5, 13, 20, 21, 22, 23, 24, 26, 27]) (y := .list ((T.d.whr ++ [T.d.top]).map .int)) hv5 (by decide))
  generalize σ5.set T.aw ⟨22, .list ((T.d.whr ++ [T.d.top]).map .int)⟩ = σ6 at w6 hc6 F6
  clear w5 hc5 F5 hw5 hv5
  have hw6 : σ6 T.a = some ⟨20, .dS T.kv⟩ := w6.w.w
  have hh6 : σ6 T.ah = some ⟨21, .list (T.d.here.map .int)⟩ := w6.w.here
  refine ex_append (by walk_at "pe") hh6 (by first | exact lenm (by omega) | (rw [List.length_map]; omega)) (ev_pe (by walk_at "pe") ⟨hh6, ?_⟩)
  rw [app_int]
  have w7 := w6.wHere (T.d.here ++ [(T.d.gens.length : Int)])
  have hc7 := Store.get_role (r' := 21) (z := .list ((T.d.here ++ [(T.d.gens.length : Int)]).map .int)) hc6 hh6 (by decide)
  have F7 := F6.trans (Ext.set (S := [1, 2, 3, 5, 13, 20, 21, 22, 23, 24, 26, 27]) (y := .list ((T.d.here ++ [(T.d.gens.length : Int)]).map .int)) hh6 (by decide))
  generalize σ6.set T.ah ⟨21, .list ((T.d.here ++ [(T.d.gens.length : Int)]).map .int)⟩ = σ7 at w7 hc7 F7
  clear w6 hc6 F6 hw6 hh6
  have hw7 : σ7 T.a = some ⟨20, .dS T.kv⟩ := w7.w.w
  refine ex_aug_key (by walk_at "pe") hw7 rfl (ev_c1 78 (by decide) (by walk_at "pe") (c_law_size (nlt hn) (op2_po po_iadd ⟨20, T.kv, hw7, Nat.le_of_ble_eq_true rfl, ?_⟩)))
  have et : T.d.top + sizeOf' (yy % 3) = T.d.top + sizeOf' ss.length := by rw [hssl, hm3]
  rw [et]
  have w8 := w7.wTop (T.d.top + sizeOf' ss.length)
  have e8 : dput T.kv "top" (.int (T.d.top + sizeOf' ss.length)) = Tb.kv { T with d := { T.d with top := T.d.top + sizeOf' ss.length } } := rfl
  rw [e8]
  have hc8 := Store.get_role (r' := 20) (z := .dS (Tb.kv { T with d := { T.d with top := T.d.top + sizeOf' ss.length } })) hc7 hw7 (by decide)
  have F8 := F7.trans (Ext.set (S := [1, 2, 3, 5, 13, 20, 21, 22, 23, 24, 26, 27]) (y := .dS (Tb.kv { T with d := { T.d with top := T.d.top + sizeOf' ss.length } })) hw7 (by decide))
  have w8' : Lr (σ7.set T.a ⟨20, .dS (Tb.kv { T with d := { T.d with top := T.d.top + sizeOf' ss.length } })⟩) H₀ h y ra (T.d.roots.map (vA T.d)) { T with sl := T.sl ++ [D], d := newT T.d ss } := w8
  generalize σ7.set T.a ⟨20, .dS (Tb.kv { T with d := { T.d with top := T.d.top + sizeOf' ss.length } })⟩ = σ8 at w8' hc8 F8
  clear w8 w7 hc7 F7 hw7 et e8
  have hroots : T.d.roots.map (vA T.d) = (newT T.d ss).roots.map (vA (newT T.d ss)) := by
    have := I0.roots
    simpa using this
  rw [hroots] at w8'
  have hfs : H₀.fs = T.d.fin.map (wA (newT T.d ss)) := I0.fs
  have hrs : H₀.rs = (newT T.d ss).rdy.map (wA (newT T.d ss)) := I0.rs
  have hfin := b.fin
  have hro3 := ok.roots.1
  have hin : ∀ {a}, a ∈ T.d.here → a ∈ (newT T.d ss).here := fun h => List.mem_append_left _ h
  have hnin : (T.d.gens.length : Int) ∈ (newT T.d ss).here := List.mem_append_right _ (.head _)
  have hwn : wA (newT T.d ss) T.d.gens.length = T.d.top := new_wN ok
  have hHa : H₀.a = H.a := by rw [← hH₀]; rfl
  have N8 : NSt [1, 2, 3, 5, 13, 20, 21, 22, 23, 24, 26, 27] σ (L₁ + 1) T.a H₀ (newT T.d ss) h y ra (T.d.fin.length) σ8 :=
    ⟨{ T with sl := T.sl ++ [D], d := newT T.d ss }, T.d.fin, T.d.roots, F8, hc8, by unfold dataH; rw [← hfs, ← hrs]; exact w8', rfl, rfl, fun c hc => hin (hI.fin c hc), fun c hc => (hI.roots c hc).imp id hin, hro3, Nat.le_refl _⟩
  clear w8' hc8 F8
  have hm2 : 0 ≤ yy / 6 % 4 := by omega
  refine ex_weak (l' := lc [("heap", .ref H₀.a), ("lists", .ref y), ("y", .int yy), ("i", .int T.d.gens.length), ("addr", .int T.d.top)]) ?_ (le_lc ⟨by rw [hHa]; rfl, rfl, rfl, rfl, rfl, trivial⟩)
  refine ex_ifj [("heap", .ref H₀.a), ("lists", .ref y), ("y", .int yy), ("i", .int T.d.gens.length), ("addr", .int T.d.top)] (NSt [1, 2, 3, 5, 13, 20, 21, 22, 23, 24, 26, 27] σ (L₁ + 1) T.a H₀ (newT T.d ss) h y ra (T.d.fin.length + 1)) (by walk_at "pt") (fun hc => ?_) (fun hc => ?_) fun σ9 N9 => ?_
  · try (refine ex_let2 ?_; intro lX QX)
    obtain ⟨T6, fin, roots, F, hcl, w6, hTa, hTd, hf, hr, hr3, hfl⟩ := N8
    have hfi : σ8 H₀.fi = some ⟨5, .list ((fin.map (wA (newT T.d ss))).map .int)⟩ := w6.R.fi
    refine ex_expr (ev_c2 54 (by decide) (by walk_at "pe") (by walk_at "pe") (c_register (H := dataH H₀ (newT T.d ss) H₀.fi H₀.re fin (newT T.d ss).rdy) (nlt hn) w6.R (by show (fin.map _).length ≤ _; rw [List.length_map]; omega) ?_))
    have w7 := w6.fiSet (fin.map (wA (newT T.d ss)) ++ [T.d.top])
    have F7 := F.trans (Ext.set (S := [1, 2, 3, 5, 13, 20, 21, 22, 23, 24, 26, 27]) (y := .list ((fin.map (wA (newT T.d ss)) ++ [T.d.top]).map .int)) hfi (by decide))
    have hc7 := Store.get_role (r' := 5) (z := .list ((fin.map (wA (newT T.d ss)) ++ [T.d.top]).map .int)) hcl hfi (by decide)
    have w7' : Lr (σ8.set H₀.fi ⟨5, .list ((fin.map (wA (newT T.d ss)) ++ [T.d.top]).map .int)⟩) { dataH H₀ (newT T.d ss) H₀.fi H₀.re fin (newT T.d ss).rdy with fs := fin.map (wA (newT T.d ss)) ++ [T.d.top] } h y ra (roots.map (vA (newT T.d ss))) T6 := w7
    show Ex W _ _ (σ8.set H₀.fi ⟨5, .list ((fin.map (wA (newT T.d ss)) ++ [T.d.top]).map .int)⟩) _ _
    generalize σ8.set H₀.fi ⟨5, .list ((fin.map (wA (newT T.d ss)) ++ [T.d.top]).map .int)⟩ = σ9 at w7' hc7 F7
    have hw7 := w7'.w.w
    rw [hTa] at hw7
    have hf7 : σ9 T6.af = some ⟨27, .list (fin.map .int)⟩ := by have := w7'.w.fin; rw [hTd] at this; exact this
    refine ex_append (by walk_at "pe") hf7 (by first | exact lenm (by omega) | (rw [List.length_map]; omega)) (ev_pe (by walk_at "pe") ⟨hf7, ?_⟩)
    rw [app_int]
    have w8 := w7'.wFin (fin ++ [(T.d.gens.length : Int)])
    refine ex_nil ⟨⟨rfl, rfl, rfl, rfl, rfl, trivial⟩, T6.setFin (fin ++ [(T.d.gens.length : Int)]), fin ++ [(T.d.gens.length : Int)], roots, F7.trans (Ext.set (S := [1, 2, 3, 5, 13, 20, 21, 22, 23, 24, 26, 27]) (y := .list ((fin ++ [(T.d.gens.length : Int)]).map .int)) hf7 (by decide)), Store.get_role (r' := 27) (z := .list ((fin ++ [(T.d.gens.length : Int)]).map .int)) hc7 hf7 (by decide), ?_, hTa, ?_, fun c hc => ?_, hr, hr3, by rw [List.length_append]; simp; omega⟩
    · have e : dataH H₀ (newT T.d ss) H₀.fi H₀.re (fin ++ [(T.d.gens.length : Int)]) (newT T.d ss).rdy = { dataH H₀ (newT T.d ss) H₀.fi H₀.re fin (newT T.d ss).rdy with fs := fin.map (wA (newT T.d ss)) ++ [T.d.top] } := by
        unfold dataH; rw [List.map_append, ← hwn]; rfl
      rw [e]; exact w8
    · show Td.mk _ _ _ _ _ _ _ _ _ = _; rw [hTd]; rfl
    · try (refine ex_let2 ?_; intro lX QX)
      rcases List.mem_append.mp hc with hc | hc
      · exact hf c hc
      · simp at hc; subst hc; exact hnin
  · try (refine ex_let2 ?_; intro lX QX)
    obtain ⟨T6, fin, roots, F, hcl, w6, hTa, hTd, hf, hr, hr3, hfl⟩ := N8
    exact ex_nil ⟨⟨rfl, rfl, rfl, rfl, rfl, trivial⟩, T6, fin, roots, F, hcl, w6, hTa, hTd, hf, hr, hr3, by omega⟩
  clear N8
  refine ex_ifj [("heap", .ref H₀.a), ("i", .int T.d.gens.length), ("addr", .int T.d.top)] (NSt [1, 2, 3, 5, 13, 20, 21, 22, 23, 24, 26, 27] σ (L₁ + 1) T.a H₀ (newT T.d ss) h y ra (T.d.fin.length + 1)) (by walk_at "pt") (fun hc => ?_) (fun hc => ?_) fun σ10 N10 => ?_
  · try (refine ex_let2 ?_; intro lX QX)
    obtain ⟨T6, fin, roots, F, hcl, w6, hTa, hTd, hf, hr, hr3, hfl⟩ := N9
    have hi1 : yy / 6 % 4 < 3 := of_decide_eq_true hc
    have hra := w6.raAt
    have hy6 := w6.ro.y
    refine ex_sub_list (ev_tup (eva_cons (ev_pe (by walk_at "pe") (eva_cons (ev_pe (by walk_at "pe") (eva_nil ⟨[.int 4, .int T.d.top], rfl, Nat.le_of_ble_eq_true rfl, ra, 13, _, yy / 6 % 4, pe_sub (by walk_at "pe") (by walk_at "pe") (po_idx (v := .ref ra) hy6 (by decide) rfl (by decide)), by walk_at "pe", hra, hm2, by rw [List.length_map, List.length_map]; omega, by rw [List.length_map, List.length_map]; omega, ?_⟩))))))
    have es : ((roots.map (vA (newT T.d ss))).map sv).set (yy / 6 % 4).toNat (.tup [.int 4, .int T.d.top]) = (((roots.map (vA (newT T.d ss))).set (yy / 6 % 4).toNat T.d.top)).map sv := by rw [List.map_set]; rfl
    rw [es]
    have w7 := w6.rootSet ((roots.map (vA (newT T.d ss))).set (yy / 6 % 4).toNat T.d.top) (by simp; omega)
    have F7 := F.trans (Ext.set (S := [1, 2, 3, 5, 13, 20, 21, 22, 23, 24, 26, 27]) (y := .list (((roots.map (vA (newT T.d ss))).set (yy / 6 % 4).toNat T.d.top).map sv)) hra (by decide))
    have hc7 := Store.get_role (r' := 13) (z := .list (((roots.map (vA (newT T.d ss))).set (yy / 6 % 4).toNat T.d.top).map sv)) hcl hra (by decide)
    generalize σ9.set ra ⟨13, .list (((roots.map (vA (newT T.d ss))).set (yy / 6 % 4).toNat T.d.top).map sv)⟩ = σ11 at w7 F7 hc7
    have hw7 := w7.w.w
    rw [hTa] at hw7
    have hro7 : σ11 T6.ar = some ⟨26, .list (roots.map .int)⟩ := by have := w7.w.roots; rw [hTd] at this; exact this
    refine ex_sub_list (ev_pe (by walk_at "pe") ⟨T6.ar, 26, _, yy / 6 % 4, by walk_at "pe", by walk_at "pe", hro7, hm2, by rw [List.length_map]; omega, by rw [List.length_map]; omega, ?_⟩)
    rw [← List.map_set]
    have w8 := w7.wRoots (roots.set (yy / 6 % 4).toNat (T.d.gens.length : Int))
    have ec : (roots.map (vA (newT T.d ss))).set (yy / 6 % 4).toNat T.d.top = (roots.set (yy / 6 % 4).toNat (T.d.gens.length : Int)).map (vA (newT T.d ss)) := by
      rw [List.map_set, vA_in (by omega), hwn]
    rw [ec] at w8
    refine ex_nil ⟨⟨rfl, rfl, rfl, trivial⟩, T6.setRoots (roots.set (yy / 6 % 4).toNat (T.d.gens.length : Int)), fin, roots.set (yy / 6 % 4).toNat (T.d.gens.length : Int), F7.trans (Ext.set (S := [1, 2, 3, 5, 13, 20, 21, 22, 23, 24, 26, 27]) (y := .list ((roots.set (yy / 6 % 4).toNat (T.d.gens.length : Int)).map .int)) hro7 (by decide)), Store.get_role (r' := 26) (z := .list ((roots.set (yy / 6 % 4).toNat (T.d.gens.length : Int)).map .int)) hc7 hro7 (by decide), w8, hTa, ?_, hf, fun c hc => ?_, by rw [List.length_set]; exact hr3, hfl⟩
    · show Td.mk _ _ _ _ _ _ _ _ _ = _; rw [hTd]; rfl
    · try (refine ex_let2 ?_; intro lX QX)
      rcases mem_set_or hc with hc | rfl
      · exact hr c hc
      · exact .inr hnin
  · try (refine ex_let2 ?_; intro lX QX)
    obtain ⟨T6, fin, roots, F, hcl, w6, hTa, hTd, hf, hr, hr3, hfl⟩ := N9
    exact ex_nil ⟨⟨rfl, rfl, rfl, trivial⟩, T6, fin, roots, F, hcl, w6, hTa, hTd, hf, hr, hr3, hfl⟩
  clear N9
  obtain ⟨T6, fin, roots, F, hcl, w6, hTa, hTd, hf, hr, hr3, hfl⟩ := N10
  have hlw : Lw σ10 (dataH H₀ (newT T.d ss) H₀.fi H₀.re fin (newT T.d ss).rdy) h y ra T6 :=
    Lr.lw (T₀ := { T with d := newT T.d ss }) (H₀ := H₀) (fi := H₀.fi) (re := H₀.re) (roots := roots) (fin := fin) (rdy := (newT T.d ss).rdy) (by rw [← hroots]; exact I0) hr hf (fun c hc => hin (hI.rdy c hc)) hr3 (by show fin.length + T.d.rdy.length ≤ 1000; omega) w6 rfl hTd rfl
  have hat := w6.R.at_
  have hmem : newTh xr D3 H (20 + (T.d.gens.length : Int) % 3) (ss.map (vA T.d)) ∈ H₀.ts := by rw [← hH₀]; exact List.mem_append_right _ (.head _)
  have htop2 : H.top = T.d.top := w.I.top
  have hmade : H.made = T.d.gens.length := w.I.made
  have hdg : dget (H₀.ts.map fun t => (t.addr, t.rv)) T.d.top = some (.ref xr) := by
    have := dget_map (f := Th.addr) (g := Th.rv) I0.ok.ad hmem
    rw [← htop2]; exact this
  obtain ⟨dx, nf, hnf, hxr⟩ := (w6.R.ts _ hmem).1
  have hha := w6.R.hp
  obtain ⟨dx2, nf2, hnf2, hha⟩ := hha
  have hha' : σ10 H₀.a = some ⟨1, .inst .heap dx2 nf2 (dataH H₀ (newT T.d ss) H₀.fi H₀.re fin (newT T.d ss).rdy).F⟩ := hha
  refine ex_ret (ev_pe (pe_cmp (pe_attr (pe_sub (by walk_at "pe") (by walk_at "pe") (po_dget hat hdg)) hxr rfl (by decide)) (by walk_at "pe") po_eq) ?_)
  have ed : decide ((newTh xr D3 H (20 + (T.d.gens.length : Int) % 3) (ss.map (vA T.d))).serial = (T.d.gens.length : Int) + 1) = true := decide_eq_true (by show H.made + 1 = _; rw [hmade])
  rw [ed]
  refine q _ (dataH H₀ (newT T.d ss) H₀.fi H₀.re fin (newT T.d ss).rdy) T6 F hHa hTa hlw ⟨?_, ?_, ?_, ?_⟩
  · rw [hTd]; show (T.d.gens ++ [0]).length ≤ _; simp; omega
  · rw [hTd]; have := b.rows; show T.d.rows.length ≤ _; omega
  · rw [hTd]; show fin.length + T.d.rdy.length ≤ _; omega
  · rw [← hH₀]; have := b.cs; show H.cs.length ≤ _; omega
end


/-- one row of what the sweep expects -/
noncomputable def rowS (T : Td) (p : Int × Addr) : MVal := .tup [.int (p.1 + 1), .int (wA T p.1), .int (20 + p.1 % 3), .int (gA T p.1), .int (sizeOf' (sA T p.1).length), .ref p.2]
section
variable {σ σ' : Store} {H : Hp} {h : Hd} {y ra : Addr} {c : List Int} {T : Tb}
theorem Lr.wHereD {D : Addr} (w : Lr σ H h y ra c T) (x : List Int) (hD : σ D = some ⟨21, .list (x.map .int)⟩) : Lr (σ.set T.a ⟨20, .dS (Tb.kv { T with ah := D })⟩) H h y ra c { T with ah := D, d := { T.d with here := x } } := by
  have W := w.w
  have E : Ext [20] σ (σ.set T.a ⟨20, .dS (Tb.kv { T with ah := D })⟩) := .set W.w (by decide)
  exact ⟨w.R.ext E (by decide), w.hR.ext E (by decide), w.ro.ext E, WRep.put W.w { T with ah := D, d := { T.d with here := x } } rfl hD W.whr W.gens W.slots W.sl W.roots W.fin W.rdy W.rows W.rw W.nd⟩
end
theorem sorted_same : ∀ {xs ys : List Int}, xs.Perm ys → xs.Pairwise (· ≤ ·) → ys.Pairwise (· ≤ ·) → xs = ys := fun p h1 h2 => p.eq_of_pairwise (fun _ _ _ _ => Int.le_antisymm) h1 h2
noncomputable def rowH (t : Th) : MVal := .tup [.int t.serial, .int t.addr, .int t.kind, .int t.gen, .int t.size, .ref t.sl]
theorem all2_of2 {α β γ δ : Type} {R : α → β → Prop} {S : γ → δ → Prop} {f : α → γ} {g : β → δ} : ∀ {as : List α} {bs : List β}, All2 R as bs → (∀ a b, a ∈ as → b ∈ bs → R a b → S (f a) (g b)) → All2 S (as.map f) (bs.map g)
  | [], [], _, _ => trivial
  | a :: as, b :: bs, ⟨h, t⟩, k => ⟨k a b (.head _) (.head _) h, all2_of2 t fun x y hx hy hr => k x y (.tail _ hx) (.tail _ hy) hr⟩
  | [], _ :: _, h, _ => h.elim
  | _ :: _, [], h, _ => h.elim
theorem all2_eq {α : Type} : ∀ {as bs : List α}, All2 (fun a b => a = b) as bs → as = bs
  | [], [], _ => rfl
  | _ :: _, _ :: _, ⟨h, t⟩ => by rw [h, all2_eq t]
  | [], _ :: _, h => h.elim
  | _ :: _, [], h => h.elim
theorem deq_sv {σ : Store} : ∀ xs : List Int, All2 (DEq σ 1) (xs.map sv) (xs.map sv)
  | [] => trivial
  | x :: r => ⟨.inr (.inr ⟨[.int 4, .int x], [.int 4, .int x], rfl, rfl, ⟨4, rfl, rfl⟩, ⟨x, rfl, rfl⟩, trivial⟩), deq_sv r⟩
theorem deq_int {σ : Store} : ∀ xs : List Int, All2 (DEq σ 0) (xs.map .int) (xs.map .int)
  | [] => trivial
  | x :: r => ⟨⟨x, rfl, rfl⟩, deq_int r⟩
theorem deq_row {σ : Store} {T : Td} {t : Th} {p : Int × Addr} (h : ThOf T t p.1) (h1 : σ t.sl = some ⟨11, .list (t.slots.map sv)⟩) (h2 : σ p.2 = some ⟨61, .list (((sA T p.1).map (vA T)).map sv)⟩) : DEq σ 3 (rowH t) (rowS T p) := by
  have di : ∀ {a b : Int}, a = b → DEq σ 2 (.int a) (.int b) := fun e => .inl ⟨_, rfl, by rw [e]⟩
  refine .inr (.inr ⟨_, _, rfl, rfl, di h.serial, di h.addr, di h.kind, di h.gen, di h.size, .inr (.inl ⟨t.sl, p.2, _, _, _, _, rfl, rfl, h1, h2, ?_⟩), trivial⟩)
  rw [h.slots]; exact deq_sv _
section
variable {W : Wd} {σ : Store} {T : Tb} {y ra Dh L₁ : Addr} {H : Hp} {h : Hd} {c hs : List Int} {pos gv : Int} {n : Nat} {A A₀ : Around} {h₀ base : Heap} {outer : List Env} {cdv : Value} {Q : Flw → Lcl → Store → Prop}

set_option maxHeartbeats 8000000 in
theorem sweep_tail (hn : n < 59) (hc0 : σ (L₁ + 1) = some ⟨0, .cell (some (.ref T.a))⟩) (w : Lr σ H h y ra c T) (hh : σ Dh = some ⟨21, .list (hs.map .int)⟩) (hz : T.d.here.length ≤ 60)
    (I : Inv H h.rows [c] { T.d with here := hs, top := pos }) (hgv : gv = (T.d.here.length : Int) - hs.length)
    (q : ∀ l' σ' T', Ext [20] σ σ' → T'.a = T.a → T'.d = { T.d with here := hs, top := pos } → Lr σ' H h y ra c T' → Q (.ret (.bool true)) l' σ') :
    Ex W (mkCx "_law_sweep" (fScope (topS 83)) (W.fn 83) n A h₀ L₁ outer base A₀ cdv) (lc [("heap", .ref H.a), ("lists", .ref y), ("gave", .int gv), ("here", .ref Dh), ("pos", .int pos)]) σ ((fBody (topS 83)).drop 5) Q := by
  have hI := I.t
  have ok := hI.ok
  have hhl : hs.length ≤ 60 := ok.hlen
  have hw := w.w.w
  have hhere := w.w.here
  refine ex_assign (ev_pe (by walk_at "pe") ?_)
  rw [List.length_map, List.length_map]
  refine ex_sub_key (ev_pe (by walk_at "pe") ⟨T.a, 20, _, by walk_at "pe", hw, Nat.le_of_ble_eq_true rfl, ?_⟩)
  have e1 : dput T.kv "here" (.ref Dh) = Tb.kv { T with ah := Dh } := rfl
  rw [e1]
  have w1 := w.wHereD hs hh
  have E1 : Ext [20] σ _ := Ext.set (S := [20]) (y := .dS (Tb.kv { T with ah := Dh })) hw (by decide)
  have hc1 := Store.get_role (r' := 20) (z := .dS (Tb.kv { T with ah := Dh })) hc0 hw (by decide)
  generalize σ.set T.a ⟨20, .dS (Tb.kv { T with ah := Dh })⟩ = σ1 at w1 E1 hc1
  have hw1 : σ1 T.a = some ⟨20, .dS (Tb.kv { T with ah := Dh })⟩ := w1.w.w
  refine ex_sub_key (ev_pe (by walk_at "pe") ⟨T.a, 20, _, by walk_at "pe", hw1, Nat.le_of_ble_eq_true rfl, ?_⟩)
  have e2 : dput (Tb.kv { T with ah := Dh }) "top" (.int pos) = Tb.kv { T with ah := Dh, d := { T.d with here := hs, top := pos } } := rfl
  rw [e2]
  have w2 : Lr (σ1.set T.a ⟨20, .dS (Tb.kv { T with ah := Dh, d := { T.d with here := hs, top := pos } })⟩) H h y ra c { T with ah := Dh, d := { T.d with here := hs, top := pos } } := w1.wTop pos
  have E2 := E1.trans (Ext.set (S := [20]) (y := .dS (Tb.kv { T with ah := Dh, d := { T.d with here := hs, top := pos } })) hw1 (by decide))
  have hc2 := Store.get_role (r' := 20) (z := .dS (Tb.kv { T with ah := Dh, d := { T.d with here := hs, top := pos } })) hc1 hw1 (by decide)
  generalize σ1.set T.a ⟨20, .dS (Tb.kv { T with ah := Dh, d := { T.d with here := hs, top := pos } })⟩ = σ2 at w2 E2 hc2
  clear e1 e2 w1 E1 hc1 hw1 w hh hw hc0 hhere
  generalize hT3 : ({ T with ah := Dh, d := { T.d with here := hs, top := pos } } : Tb) = T3 at w2
  have hTa : T3.a = T.a := by rw [← hT3]
  have hTd : T3.d = { T.d with here := hs, top := pos } := by rw [← hT3]
  have hTh : T3.ah = Dh := by rw [← hT3]
  have hd3 : T3.d.here = hs := by rw [hTd]
  rw [← hTd] at I hI ok
  clear hT3
  have hw2 := w2.w.w
  have hh2 := w2.w.here
  rw [hTa] at hw2
  rw [hTh, hd3] at hh2
  have n1 := ok.n1
  have nn := ok.n
  refine ex_assign (ev_list 60 (eva_nil ⟨Nat.le_of_ble_eq_true rfl, fun Dt hDt => ?_⟩))
  refine ex_for_l (ev_pe (by walk_at "pe") ⟨Dh, hs.map .int, fun _ => [("heap", .ref H.a), ("lists", .ref y), ("gave", .int gv), ("pos", .int pos), ("freed", .int ((T.d.here.length : Int) - (hs.length : Int))), ("things", .ref Dt)],
    fun k σ₂ => Ext [] σ2 σ₂ ∧ ∃ its : List (Int × Addr), its.map (·.1) = hs.take k ∧ (∀ p ∈ its, σ₂ p.2 = some ⟨61, .list (((sA T3.d p.1).map (vA T3.d)).map sv)⟩) ∧ σ₂ Dt = some ⟨60, .list (its.map (rowS T3.d))⟩,
    rfl, ⟨rfl, rfl, rfl, rfl, rfl, rfl, trivial⟩, ⟨.new hDt, [], rfl, fun p hp => (by cases hp), Store.set_self _ _ _⟩, fun k σ₂ hp => ⟨21, hp.1.get hh2⟩, ?_, ?_⟩)
  · rintro k u σ₂ hu ⟨E, its, hi1, hi2, hi3⟩
    try (refine ex_let2 ?_; intro lX QX)
    obtain ⟨i, hi, rfl⟩ := map_get hu
    have him : i ∈ T3.d.here := by rw [hd3]; exact List.mem_of_getElem? hi
    have hiN := ok.here i him
    have hi0 := hiN.1
    have hiL := hiN.2
    obtain ⟨hs1, hs2, hs3⟩ := ok.sA hiN
    have w3 := w2.ext E (by decide)
    have hw3 := E.get hw2
    have hc3 := E.get hc2
    have hx3 := w3.w.slots
    have hwh3 := w3.w.whr
    have hg3 := w3.w.gens
    obtain ⟨b, hb1, hb2⟩ := w3.w.slot hs1
    have hsm : ∀ a ∈ sA T3.d i, InM T3.d.whr.length a := fun a ha => by rw [n1]; exact hs3 a ha
    have hsl := All2.len w3.w.sl
    have n2 := ok.n2
    refine ex_assign_comp 61 [("w", L₁ + 1)] (sA T3.d i) .int (fun _ => true) (fun a => sv (vA T3.d a)) rfl (by decide) (by decide) rfl rfl rfl (ev_pe (pe_sub (by walk_at "pe") (by walk_at "pe") (po_idx (v := .ref b) hx3 hi0 (by rw [List.getElem?_map, hb1]; rfl) (by omega))) ⟨.inl ⟨b, 25, rfl, hb2⟩, by omega,
      fun C a ha => rfl, fun C a ha _ => ⟨ev_c2 79 (by decide) (pe_loc rfl) (by walk_at "pe") (c_law_value (nle hn) hwh3 (hsm a ha) (by omega) ⟨rfl, rfl⟩)⟩, fun D hD => ?_⟩)
    have el : ((sA T3.d i).filter fun _ => true).map (fun a => sv (vA T3.d a)) = ((sA T3.d i).map (vA T3.d)).map sv := by rw [List.filter_eq_self.mpr (fun _ _ => rfl), List.map_map]; rfl
    rw [el]
    have E4 := E.trans (Ext.new (o := ⟨61, .list (((sA T3.d i).map (vA T3.d)).map sv)⟩) hD)
    have hD4 : (σ₂.set D ⟨61, .list (((sA T3.d i).map (vA T3.d)).map sv)⟩) D = some ⟨61, .list (((sA T3.d i).map (vA T3.d)).map sv)⟩ := Store.set_self _ _ _
    have hi4 : ∀ p ∈ its ++ [(i, D)], (σ₂.set D ⟨61, .list (((sA T3.d i).map (vA T3.d)).map sv)⟩) p.2 = some ⟨61, .list (((sA T3.d p.1).map (vA T3.d)).map sv)⟩ := fun p hp => by
      rcases List.mem_append.mp hp with hp | hp
      · exact Store.get_new (hi2 p hp) hD
      · simp at hp; subst hp; exact hD4
    have hi5 := Store.get_new (o' := ⟨61, .list (((sA T3.d i).map (vA T3.d)).map sv)⟩) hi3 hD
    have hlen : its.length ≤ 60 := by
      have := congrArg List.length hi1
      rw [List.length_map, List.length_take] at this; omega
    generalize σ₂.set D ⟨61, .list (((sA T3.d i).map (vA T3.d)).map sv)⟩ = σ4 at E4 hD4 hi4 hi5
    have hw4 := E4.get hw2
    have hc4 := E4.get hc2
    have hwh4 := E4.get w2.w.whr
    have hg4 := E4.get w2.w.gens
    refine ex_append (by walk_at "pe") hi5 (by first | exact lenm (by omega) | (rw [List.length_map]; omega)) (ev_tup ?_)
    refine eva_cons (ev_pe (by walk_at "pe") ?_)
    refine eva_cons (ev_pe (pe_sub (by walk_at "pe") (by walk_at "pe") (po_ii hwh4 hi0 (by rw [n1]; exact hiL) (by omega))) ?_)
    refine eva_cons (ev_pe (by walk_at "pe") ?_)
    refine eva_cons (ev_pe (pe_sub (by walk_at "pe") (by walk_at "pe") (po_ii hg4 hi0 hiL (by omega))) ?_)
    refine eva_cons (ev_c1 78 (by decide) (pe_len (by walk_at "pe") hD4 (by rw [List.length_map, List.length_map]; omega)) (c_law_size (nle hn) ?_))
    refine eva_cons (ev_pe (by walk_at "pe") (eva_nil ?_))
    refine ⟨[.int (i + 1), .int (wA T3.d i), .int (20 + i % 3), .int (gA T3.d i), .int (sizeOf' (sA T3.d i).length), .ref D], ?_, by simp, hi5, ?_⟩
    · rw [List.length_map, List.length_map]; rfl
    · try (refine ex_let2 ?_; intro lX QX)
      refine ex_nil ⟨⟨rfl, rfl, rfl, rfl, rfl, rfl, trivial⟩, Ext.setNew E4 hDt, its ++ [(i, D)], ?_, fun p hp => ?_, ?_⟩
      · rw [List.map_append, hi1, take_next hi]; rfl
      · exact Store.get_role (hi4 p hp) hi5 (by decide)
      · rw [Store.set_self, List.map_append]; rfl
  · rintro σ3 ⟨E3, its, hi1, hi2, hi3⟩
    try (refine ex_let2 ?_; intro lX QX)
    rw [List.length_map, List.take_of_length_le (Nat.le_refl _)] at hi1
    have hitl : its.length ≤ 60 := by
      have := congrArg List.length hi1
      rw [List.length_map] at this; omega
    have w3 := w2.ext E3 (by decide)
    have hts : All2 (fun t (p : Int × Addr) => ThOf T3.d t p.1) H.ts its := by
      have h1 : All2 (ThOf T3.d) (H.ts.map id) (its.map (·.1)) := by rw [List.map_id, hi1, ← hd3]; exact I.ts
      exact all2_map h1
    have hw3 := E3.get hw2
    have hc3 := E3.get hc2
    have num := I.ok.num
    obtain ⟨dx, nf, hnf, hhp⟩ := w3.R.hp
    have hth3 := w3.R.th
    refine ex_ret (ev_and (ev_pe (pe_cmp (by walk_at "pe") (by walk_at "pe") po_eq) ⟨_, rfl, ?_⟩))
    rw [if_pos (decide_eq_true hgv)]
    -- the things
    refine ev_and (ev_cmp (ev_comp 62 [] H.ts Th.rv (fun _ => true) rowH rfl (by decide) (by decide) rfl (ev_pe (by walk_at "pe") ⟨.inl ⟨H.th, 2, rfl, hth3⟩, by omega, fun C t ht => rfl, fun C t ht _ => ?_, fun D hD => ?_⟩)))
    · try (refine ex_let2 ?_; intro lX QX)
      obtain ⟨⟨dt, nt, hnt, ht1⟩, ht2⟩ := w3.R.ts t ht
      have pa : ∀ {X' : Cx} {name : Str} {v : MVal} {p1 p2 : Pos}, X'.env.kindOf "t" = some .local → t.F name = some v → name ∈ Cls.thing.attrs → PE W X' (upd (fun _ => none) "t" t.rv) σ3 (.Attribute (.Name "t" p1) name p2) v := fun hk hf ha => pe_attr (pe_loc rfl hk) ht1 hf ha
      refine ⟨ev_tup (eva_cons (ev_pe (pa rfl rfl (by decide)) (eva_cons (ev_pe (pa rfl rfl (by decide)) (eva_cons (ev_pe (pa rfl rfl (by decide)) ?_))))))⟩
      refine eva_cons (ev_pe (pa rfl rfl (by decide)) (eva_cons (ev_pe (pa rfl rfl (by decide)) (eva_cons (ev_pe (pa rfl rfl (by decide)) (eva_nil ⟨[.int t.serial, .int t.addr, .int t.kind, .int t.gen, .int t.size, .ref t.sl], rfl, Nat.le_of_ble_eq_true rfl, rfl, rfl⟩))))))
    have e1 : (H.ts.filter fun _ => true).map rowH = H.ts.map rowH := by rw [List.filter_eq_self.mpr (fun _ _ => rfl)]
    rw [e1]
    have E4 : Ext [] σ3 (σ3.set D ⟨62, .list (H.ts.map rowH)⟩) := .new hD
    have hD4 : (σ3.set D ⟨62, .list (H.ts.map rowH)⟩) D = some ⟨62, .list (H.ts.map rowH)⟩ := Store.set_self _ _ _
    generalize σ3.set D ⟨62, .list (H.ts.map rowH)⟩ = σ4 at E4 hD4
    have hi4 := E4.get hi3
    refine ev_pe (by walk_at "pe") (op2_po (po_eqd 3 (by decide) hD4 hi4 (all2_of2 hts fun t p ht hp r => deq_row r (E4.get (w3.R.ts t ht).2) (E4.get (hi2 p hp)))) ⟨_, rfl, ?_⟩)
    rw [if_pos rfl]
    -- the words
    have hw4 := E4.get hw3
    have hhp4 := E4.get hhp
    have hat4 := E4.get w3.R.at_
    refine ev_and (ev_cmp (ev_sorted (ev_pe (by walk_at "pe") (call_sorted_d 63 hat4 (by first | exact lenm (by omega) | (rw [List.length_map]; omega)) fun D2 ns' hD2 hp hs2 => ?_))))
    have hi5 := Store.get_new (o' := ⟨63, .list (ns'.map .int)⟩) hi4 hD2
    have hD5 : (σ4.set D2 ⟨63, .list (ns'.map .int)⟩) D2 = some ⟨63, .list (ns'.map .int)⟩ := Store.set_self _ _ _
    have E5 := E4.trans (Ext.new (o := ⟨63, .list (ns'.map .int)⟩) hD2)
    generalize σ4.set D2 ⟨63, .list (ns'.map .int)⟩ = σ5 at hi5 hD5 E5
    refine ev_comp 64 [] its (rowS T3.d) (fun _ => true) (fun p => .int (wA T3.d p.1)) rfl (by decide) (by decide) rfl (ev_pe (by walk_at "pe") ⟨.inl ⟨Dt, 60, rfl, hi5⟩, by omega, fun C t ht => rfl, fun C t ht _ => pe_sub (pe_loc rfl) pe_int (po_ti (k := 1) rfl (by decide)), fun D3 hD3 => ?_⟩)
    have ew : ns' = its.map fun p => wA T3.d p.1 := by
      have k1 : (H.ts.map fun t => (t.addr, t.rv)).map (·.1) = its.map fun p => wA T3.d p.1 := by
        rw [List.map_map]
        have := all2_of2 (S := fun a b : Int => a = b) (f := Th.addr) (g := fun p : Int × Addr => wA T3.d p.1) hts fun t p _ _ r => r.addr
        exact all2_eq this
      rw [k1] at hp
      refine sorted_same hp hs2 ?_
      have k2 : (its.map fun p => wA T3.d p.1) = T3.d.here.map (wA T3.d) := by rw [hd3, ← hi1, List.map_map]; rfl
      rw [k2, List.pairwise_map]
      refine (chain_mono hI.chain).imp fun {a b} hab => ?_
      have := sizeOf_pos (sA T3.d a).length
      omega
    have e2 : (its.filter fun _ => true).map (fun p => MVal.int (wA T3.d p.1)) = ns'.map .int := by rw [List.filter_eq_self.mpr (fun _ _ => rfl), ew, List.map_map]; rfl
    rw [e2]
    refine op2_po (po_eqd 0 (by decide) (Store.get_new hD5 hD3) (Store.set_self _ _ _) (deq_int _)) ⟨_, rfl, ?_⟩
    rw [if_pos rfl]
    have E6 := E5.trans (Ext.new (o := ⟨64, .list (ns'.map .int)⟩) hD3)
    generalize σ5.set D3 ⟨64, .list (ns'.map .int)⟩ = σ6 at E6
    -- the top
    have w6 := w3.ext E6 (by decide)
    have hw6 := E6.get hw3
    have hc6 := E6.get hc3
    have hhp6 := E6.get hhp
    have hy6 := w6.ro.y
    have hra6 := w6.raAt
    have hwh6 := w6.w.whr
    have hro6 := w6.w.roots
    have htp : H.top = pos := by have := I.top; rw [hTd] at this; exact this
    refine ev_and (ev_pe (pe_cmp (by walk_at "pe") (by walk_at "pe") po_eq) ⟨_, rfl, ?_⟩)
    rw [if_pos (decide_eq_true htp)]
    -- the roots
    have hrl := ok.roots.1
    refine ev_and1 (ev_cmp (ev_pe (by walk_at "pe") (ev_list 0 (eva_cons (ev_comp 65 [("w", L₁ + 1)] T3.d.roots .int (fun _ => true) (fun a => sv (vA T3.d a)) rfl (by decide) (by decide) rfl (ev_pe (by walk_at "pe") ⟨.inl ⟨T3.ar, 26, rfl, hro6⟩, by omega,
      fun C a ha => rfl, fun C a ha _ => ⟨ev_c2 79 (by decide) (pe_loc rfl) (by walk_at "pe") (c_law_value (nle hn) hwh6 (by rw [n1]; exact ok.roots.2 a ha) (by omega) ⟨rfl, rfl⟩)⟩, fun D4 hD4 => eva_nil ⟨Nat.le_of_ble_eq_true rfl, fun D5 hD5 => ?_⟩⟩))))))
    have e3 : (T3.d.roots.filter fun _ => true).map (fun a => sv (vA T3.d a)) = c.map sv := by
      have := I.roots
      simp at this
      rw [List.filter_eq_self.mpr (fun _ _ => rfl), this, List.map_map]; rfl
    rw [e3] at hD5 ⊢
    have E7 := (E6.trans (Ext.new (o := ⟨65, .list (c.map sv)⟩) hD4)).trans (Ext.new (o := ⟨0, .list [.ref D4]⟩) hD5)
    refine op2_po (po_eqd 2 (by decide) (Store.get_new (Store.get_new hy6 hD4) hD5) (Store.set_self _ _ _) ⟨.inr (.inl ⟨ra, D4, _, _, _, _, rfl, rfl, Store.get_new (Store.get_new hra6 hD4) hD5, Store.get_new (Store.set_self _ _ _) hD5, deq_sv c⟩), trivial⟩) ?_
    exact q _ _ T3 (E2.trans ((E3.mono (by first | decide | simp)).trans (E7.mono (by first | decide | simp)))) hTa hTd (w3.ext E7 (by decide))
end


section
variable {σ σ' : Store} {H : Hp} {h : Hd} {y ra : Addr} {c : List Int} {T : Tb}
theorem Lr.wSw (w : Lr σ H h y ra c T) (E : Ext [22, 23] σ σ') {whr gens : List Int} (hw : σ' T.aw = some ⟨22, .list (whr.map .int)⟩) (hg : σ' T.ag = some ⟨23, .list (gens.map .int)⟩) : Lr σ' H h y ra c { T with d := { T.d with whr := whr, gens := gens } } := by
  have W := w.w
  exact ⟨w.R.ext E (by decide), w.hR.ext E (by decide), w.ro.ext E, ⟨E.get W.w, E.get W.here, hw, hg, E.get W.slots, W.sl.mono fun _ _ e => E.get e, E.get W.roots, E.get W.fin, E.get W.rdy, E.get W.rows, W.rw.mono fun _ _ e => E.get e, W.nd⟩⟩
end
theorem swAll_next {T : Td} {g : Int} {L l : List Int} {k : Nat} {i : Int} (h : l[k]? = some i) : swAll T g L (l.take (k + 1)) = swStep T g L (swAll T g L (l.take k)) i := foldl_next h
section
variable {W : Wd} {σ : Store} {T : Tb} {y ra Dh L₁ F : Addr} {H : Hp} {h : Hd} {c L : List Int} {pos gv g : Int} {n : Nat} {A A₀ : Around} {h₀ base : Heap} {outer : List Env} {cdv : Value} {Q : Flw → Lcl → Store → Prop}

set_option maxHeartbeats 8000000 in
theorem sweep_loop (hn : n < 59) (hc0 : σ (L₁ + 1) = some ⟨0, .cell (some (.ref T.a))⟩) (w : Lr σ H h y ra c T) (hF : σ F = some ⟨63, .list (L.map .int)⟩) (ok : TOk T.d) (nd : T.d.here.Nodup)
    (I : Inv H h.rows [c] (sweptT T.d g L)) (hgv : gv = (T.d.here.length : Int) - (sweptT T.d g L).here.length)
    (q : ∀ l' σ' T', Ext [20, 22, 23] σ σ' → T'.a = T.a → T'.d = sweptT T.d g L → Lr σ' H h y ra c T' → Q (.ret (.bool true)) l' σ') :
    Ex W (mkCx "_law_sweep" (fScope (topS 83)) (W.fn 83) n A h₀ L₁ outer base A₀ cdv) (lc [("heap", .ref H.a), ("lists", .ref y), ("gen", .int g), ("gave", .int gv), ("found", .ref F)]) σ ((fBody (topS 83)).drop 2) Q := by
  have hhl : T.d.here.length ≤ 60 := ok.hlen
  have nn := ok.n
  have n2 := ok.n2
  have hw := w.w.w
  have hhere := w.w.here
  have hsl := All2.len w.w.sl
  refine ex_assign (ev_list 21 (eva_nil ⟨Nat.le_of_ble_eq_true rfl, fun Dh hDh => ?_⟩))
  refine ex_assign (ev_pe (by walk_at "pe") ?_)
  refine ex_for_l (ev_pe (by walk_at "pe") ⟨T.ah, T.d.here.map .int, fun k => [("heap", .ref H.a), ("lists", .ref y), ("gen", .int g), ("gave", .int gv), ("found", .ref F), ("here", .ref Dh), ("pos", .int (swAll T.d g L (T.d.here.take k)).pos)],
    fun k σ₂ => Ext [22, 23] σ σ₂ ∧ σ₂ T.aw = some ⟨22, .list ((swAll T.d g L (T.d.here.take k)).whr.map .int)⟩ ∧ σ₂ T.ag = some ⟨23, .list ((swAll T.d g L (T.d.here.take k)).gens.map .int)⟩ ∧ σ₂ Dh = some ⟨21, .list ((swAll T.d g L (T.d.here.take k)).here.map .int)⟩,
    rfl, ⟨rfl, rfl, rfl, rfl, rfl, rfl, rfl, trivial⟩, ⟨.new hDh, Store.get_new w.w.whr hDh, Store.get_new w.w.gens hDh, Store.set_self _ _ _⟩, fun k σ₂ hp => ⟨21, hp.1.get hhere⟩, ?_, ?_⟩)
  · rintro k u σ₂ hu ⟨E, haw, hag, hdh⟩
    obtain ⟨i, hi, rfl⟩ := map_get hu
    have him : i ∈ T.d.here := List.mem_of_getElem? hi
    have hiN := ok.here i him
    have hi0 := hiN.1
    have hiL := hiN.2
    have S := sw_inv (g := g) (L := L) ok nd (T.d.here.take k) (T.d.here.drop k) (List.take_append_drop _ _).symm
    have es := swAll_next (T := T.d) (g := g) (L := L) hi
    have s1 := S.n1
    have s2 := S.n2
    have s3 : (swAll T.d g L (T.d.here.take k)).here.length ≤ 60 := by
      rw [S.here]
      have h1 := List.length_filter_le (stT T.d g L) (T.d.here.take k)
      rw [List.length_take] at h1; omega
    try dsimp only
    generalize swAll T.d g L (T.d.here.take k) = s at haw hag hdh S es s1 s2 s3 ⊢
    have hw2 := E.get hw
    have hc2 := E.get hc0
    have hF2 := E.get hF
    unfold swStep at es
    refine ex_ifb (pt_or (pt_cmp (pe_sub (by walk_at "pe") (by walk_at "pe") (po_ii hag hi0 (by rw [s2]; exact hiL) (by omega))) (by walk_at "pe") po_gt) fun _ => pt_or (pt_cmp (by walk_at "pe") (by walk_at "pe") (po_in hF2)) fun _ => pt_or0) (fun hc => ?_) (fun hc => ?_)
    · try (refine ex_let2 ?_; intro lX QX)
      have hc' : g < s.gens.getD i.toNat 0 ∨ i ∈ L := by simpa using hc
      rw [if_pos hc'] at es
      refine ex_ifj [("heap", .ref H.a), ("lists", .ref y), ("gen", .int g), ("gave", .int gv), ("found", .ref F), ("here", .ref Dh), ("pos", .int s.pos), ("i", .int i)]
        (fun σ₃ => Ext [22, 23] σ σ₃ ∧ σ₃ T.aw = some ⟨22, .list (s.whr.map .int)⟩ ∧ σ₃ T.ag = some ⟨23, .list ((if s.gens.getD i.toNat 0 ≤ g then s.gens.set i.toNat (up2 (s.gens.getD i.toNat 0)) else s.gens).map .int)⟩ ∧ σ₃ Dh = some ⟨21, .list (s.here.map .int)⟩)
        (pt_cmp (pe_sub (by walk_at "pe") (by walk_at "pe") (po_ii hag hi0 (by rw [s2]; exact hiL) (by omega))) (by walk_at "pe") po_le) (fun hd => ?_) (fun hd => ?_) ?_
      · try (refine ex_let2 ?_; intro lX QX)
        have hd := of_decide_eq_true hd
        refine ex_sub_list (ev_pe (pe_min pe_int (pe_bin (pe_sub (by walk_at "pe") (by walk_at "pe") (po_ii hag hi0 (by rw [s2]; exact hiL) (by omega))) pe_int po_add)) ⟨T.ag, 23, _, i, by walk_at "pe", by walk_at "pe", hag, hi0, by rw [List.length_map, s2]; exact hiL, by rw [List.length_map]; omega, ?_⟩)
        refine ex_nil ⟨⟨rfl, rfl, rfl, rfl, rfl, rfl, rfl, rfl, trivial⟩, E.trans (.set hag (by decide)), Store.get_role haw hag (by decide), ?_, Store.get_role hdh hag (by decide)⟩
        rw [Store.set_self, if_pos hd, List.map_set]; rfl
      · try (refine ex_let2 ?_; intro lX QX)
        have hd := of_decide_eq_false hd
        exact ex_nil ⟨⟨rfl, rfl, rfl, rfl, rfl, rfl, rfl, rfl, trivial⟩, E, haw, by rw [if_neg hd]; exact hag, hdh⟩
      rintro σ₃ ⟨E3, haw3, hag3, hdh3⟩
      try (refine ex_let2 ?_; intro lX QX)
      have hw3 := E3.get hw
      have hc3 := E3.get hc0
      refine ex_append (by walk_at "pe") hdh3 (by first | exact lenm (by omega) | (rw [List.length_map]; omega)) (ev_pe (by walk_at "pe") ⟨hdh3, ?_⟩)
      rw [app_int]
      have E4 := Ext.setNew (o := ⟨21, .list ((s.here ++ [i]).map .int)⟩) E3 hDh
      have haw4 := Store.get_role (r' := 21) (z := .list ((s.here ++ [i]).map .int)) haw3 hdh3 (by decide)
      have hag4 := Store.get_role (r' := 21) (z := .list ((s.here ++ [i]).map .int)) hag3 hdh3 (by decide)
      have hdh4 : (σ₃.set Dh ⟨21, .list ((s.here ++ [i]).map .int)⟩) Dh = some ⟨21, .list ((s.here ++ [i]).map .int)⟩ := Store.set_self _ _ _
      generalize σ₃.set Dh ⟨21, .list ((s.here ++ [i]).map .int)⟩ = σ₄ at E4 haw4 hag4 hdh4
      have hw4 := E4.get hw
      have hc4 := E4.get hc0
      refine ex_sub_list (ev_pe (by walk_at "pe") ⟨T.aw, 22, _, i, by walk_at "pe", by walk_at "pe", haw4, hi0, by rw [List.length_map, s1]; exact hiL, by rw [List.length_map]; omega, ?_⟩)
      rw [← List.map_set]
      have E5 := E4.trans (Ext.set (S := [22, 23]) (y := .list ((s.whr.set i.toNat s.pos).map .int)) haw4 (by decide))
      have hag5 := Store.get_role (r' := 22) (z := .list ((s.whr.set i.toNat s.pos).map .int)) hag4 haw4 (by decide)
      have hdh5 := Store.get_role (r' := 22) (z := .list ((s.whr.set i.toNat s.pos).map .int)) hdh4 haw4 (by decide)
      have haw5 : (σ₄.set T.aw ⟨22, .list ((s.whr.set i.toNat s.pos).map .int)⟩) T.aw = some ⟨22, .list ((s.whr.set i.toNat s.pos).map .int)⟩ := Store.set_self _ _ _
      generalize σ₄.set T.aw ⟨22, .list ((s.whr.set i.toNat s.pos).map .int)⟩ = σ₅ at E5 haw5 hag5 hdh5
      have hw5 := E5.get hw
      have hc5 := E5.get hc0
      have hx5 := E5.get w.w.slots
      obtain ⟨hs1, hs2, hs3⟩ := ok.sA hiN
      obtain ⟨bb, hb1, hb2⟩ := w.w.slot hs1
      have hb5 := E5.get hb2
      refine ex_aug rfl (ev_c1 78 (by decide) (pe_len (pe_sub (by walk_at "pe") (by walk_at "pe") (po_idx (v := .ref bb) hx5 hi0 (by rw [List.getElem?_map, hb1]; rfl) (by omega))) hb5 (by first | exact lenm (by omega) | (rw [List.length_map]; omega))) (c_law_size (nle hn) (op2_po po_iadd ?_)))
      rw [List.length_map]
      refine ex_nil (ex_nil ⟨⟨rfl, rfl, rfl, rfl, rfl, rfl, by rw [es]; rfl, trivial⟩, E5, ?_, ?_, ?_⟩)
      · rw [es]; exact haw5
      · rw [es]; exact hag5
      · rw [es]; exact hdh5
    · try (refine ex_let2 ?_; intro lX QX)
      have hc' : ¬ (g < s.gens.getD i.toNat 0 ∨ i ∈ L) := by simpa using hc
      rw [if_neg hc'] at es
      refine ex_nil (ex_nil ⟨⟨rfl, rfl, rfl, rfl, rfl, rfl, by rw [es]; rfl, trivial⟩, E, ?_, ?_, ?_⟩)
      · rw [es]; exact haw
      · rw [es]; exact hag
      · rw [es]; exact hdh
  · rintro σ₃ ⟨E3, haw3, hag3, hdh3⟩
    try dsimp only
    rw [List.length_map, List.take_of_length_le (Nat.le_refl _)] at haw3 hag3 hdh3 ⊢
    have w3 := w.wSw E3 haw3 hag3
    refine ex_weak (sweep_tail (T := { T with d := { T.d with whr := (swAll T.d g L T.d.here).whr, gens := (swAll T.d g L T.d.here).gens } }) hn (E3.get hc0) w3 hdh3 hhl I hgv fun l' σ' T' E hTa hTd w' => q l' σ' T' ((E3.mono (by first | decide | simp)).trans (E.mono (by first | decide | simp))) hTa hTd w') (le_lc ⟨rfl, rfl, rfl, rfl, rfl, trivial⟩)
end


section
variable {W : Wd} {X : Cx} {l : Lcl} {σ : Store} {Q : MVal → Store → Prop} {T : Tb} {x y ra : Addr} {r : Nat} {ns seeds L : List Int} {a g s n yy : Int} {v : MVal} {H : Hp} {h : Hd} {k : Nat}

theorem young_all (ok : HOk H) : (youngPairs H.ts H.ts).length ≤ 120 := by have := youngPairs_len ok H.ts.length; rwa [take_all] at this
theorem livD_rows {T : Td} {L1 L2 : List Int} : (livD T g L1 L2).rows.length = T.rows.length := by unfold livD; simp
theorem livD_fin {T : Td} {L1 L2 : List Int} : (livD T g L1 L2).fin.length + (livD T g L1 L2).rdy.length = T.fin.length + T.rdy.length := by
  have := filter_split (pickT T g L1) T.fin
  unfold livD; simp only [List.length_append]; omega

set_option maxHeartbeats 8000000 in
theorem c_law_sweep (hn : X.n < 53) (w : Lw σ H h y ra T) (b : Bd H T.d k) (hg : 0 ≤ g ∧ g ≤ 2)
    (q : ∀ σ' H' h' T', Ext [1, 4, 5, 6, 9, 10, 11, 13, 20, 22, 23, 27, 28, 30, 40, 41, 42, 43, 45, 46, 52] σ σ' → H'.a = H.a → h'.a = h.a → T'.a = T.a → Lw σ' H' h' y ra T' → Bd H' T'.d k → Q (.bool true) σ') :
    OpC W X l σ (.ref (W.fn 83)) [.ref H.a, .ref y, .ref h.a, .ref T.a, .int g] Q := by
  refine def_call1 (x := "_law_sweep") 83 (by decide) ["heap", "lists", "h", "w", "gen"] "w" (.ref T.a) (nle hn) rfl (by walk_at "b5") rfl (fun _ => rfl) rfl rfl rfl (fun _ _ => rfl) ?_
  intro A h₀ L₁ outer base A₀ cdv σ0 E0 hc0
  refine ex_let3 ?_
  intro Xx ll Qq
  have hI := w.I.t
  have w0 := w.lr.ext E0 (by decide)
  have hw0 := w0.w.w
  refine ex_assign (ev_c4 74 (by decide) (by walk_at "pe") (by walk_at "pe") (by walk_at "pe") (by walk_at "pe") ?_)
  refine c_collect (nlt hn) w0.R w.I.ok w0.hR w0.ro (roots_wrd w.I) (fun M1 M2 d1 d2 _ _ => collect_ok w.I hg d1 d2) fun σ1 M1 M2 K LL A1 K2 mo D lim E1 d1 d2 m1 m2 R1 hR1 ro1 => ?_
  have W1 := w0.w.ext E1 (by decide)
  have hw1 := W1.w
  have hc1 := E1.get hc0
  refine ex_assign (ev_c2 82 (by decide) (by walk_at "pe") (by walk_at "pe") (c_law_living (nlt hn) W1 hI.ok fun σ2 T1 F L1 L2 E2 hTa hTd W2 hF hL1 hL2 => ?_))
  have I1 := liv_inv (K := K) w.I hg.2 d1 hL1 d2 hL2
  have m2i : ∀ i ∈ (livD T.d g L1 L2).here, wA (livD T.d g L1 L2) i ∈ M2 ↔ i ∈ L2 := fun i hi => marks2_iff w.I hg.2 d1 hL1 d2 hL2 hi
  obtain ⟨_, hlen, _, hinv⟩ := sweep_inv I1 hg m2i (closed_liv hI hL1 hL2)
  have I2 := hinv LL A1 K2 mo D lim
  have hc2 := E2.get hc1
  have w2 : Lr σ2 _ _ y ra ((T.d.roots.map (vA T.d)).map (fwd (mvOf H g M2))) T1 := ⟨R1.ext E2 (by decide), hR1.ext E2 (by decide), ro1.ext E2, W2⟩
  have hts : H.ts.length = T.d.here.length := All2.len w.I.ts
  rw [← hTa] at hc2
  rw [← hTd] at I1 I2 hlen
  have hgv : (H.ts.length : Int) - ((H.ts.filter (stayB g (mvOf H g M2))).length : Nat) = (T1.d.here.length : Int) - (sweptT T1.d g L2).here.length := by
    have h1 : (H.ts.filter (stayB g (mvOf H g M2))).length = (sweptT T1.d g L2).here.length := hlen
    have h2 : T1.d.here.length = T.d.here.length := by rw [hTd]; rfl
    omega
  have Eall := (E0.mono (S' := [1, 4, 5, 6, 9, 10, 11, 13, 20, 22, 23, 27, 28, 30, 40, 41, 42, 43, 45, 46, 52]) (by first | decide | simp)).trans ((E1.mono (by decide)).trans (E2.mono (by decide)))
  refine ex_weak (sweep_loop (T := T1) (L := L2) (g := g) (nlt hn) hc2 w2 hF I1.t.ok (asc_nodup I1.t.asc) I2 hgv fun l' σ' T' E hTa' hTd' w' => ?_) (le_lc ⟨rfl, rfl, rfl, rfl, rfl, trivial⟩)
  rw [← hTd'] at I2
  have er := I2.roots
  simp only [List.map_cons, List.map_nil, List.cons.injEq, and_true] at er
  refine q σ' (cardH (movH (livH H g M1 K) g (mvOf H g M2) LL A1 K2 mo) D lim) { h with rows := (livR H g M1 M2 h.rows).map (movF (mvOf H g M2)) } T' (Eall.trans (E.mono (by decide))) rfl rfl (hTa'.trans hTa) ⟨w'.R, w'.hR, ?_, w'.w, ?_⟩ ⟨?_, ?_, ?_, ?_⟩
  · rw [← er]; exact w'.ro
  · rw [← er]; exact I2
  · rw [hTd', hTd]
    have := (sw_inv (g := g) (L := L2) I1.t.ok (asc_nodup I1.t.asc) T1.d.here [] (by simp)).n2
    have h1 : (sweptT (livD T.d g L1 L2) g L2).gens.length = (livD T.d g L1 L2).gens.length := by rw [← hTd]; exact this
    rw [h1]; exact b.gens
  · rw [hTd', hTd]; have := b.rows; show (livD T.d g L1 L2).rows.length ≤ k; rw [livD_rows]; exact this
  · rw [hTd', hTd]; have := b.fin; show (livD T.d g L1 L2).fin.length + (livD T.d g L1 L2).rdy.length ≤ k; rw [livD_fin]; exact this
  · try (refine ex_let2 ?_; intro lX QX)
    have h1 := young_all I2.ok
    exact Nat.le_trans (cardsOf_len _) (Nat.le_trans h1 (by omega))
end


theorem all2_of_get {α β : Type} {R : α → β → Prop} : ∀ {as : List α} {bs : List β}, as.length = bs.length → (∀ (k : Nat) a b, as[k]? = some a → bs[k]? = some b → R a b) → All2 R as bs
  | [], [], _, _ => trivial
  | a :: as, b :: bs, hl, h => ⟨h 0 a b rfl rfl, all2_of_get (by simpa using hl) fun k x y hx hy => h (k + 1) x y (by simpa using hx) (by simpa using hy)⟩
  | [], _ :: _, hl, _ => by simp at hl
  | _ :: _, [], hl, _ => by simp at hl
theorem all2_at_get {α β : Type} {R : α → β → Prop} {as : List α} {bs : List β} (h : All2 R as bs) {k : Nat} {a : α} {b : β} (ha : as[k]? = some a) (hb : bs[k]? = some b) : R a b := by
  obtain ⟨b', hb', r⟩ := h.get ha
  rw [hb] at hb'; cases hb'; exact r
theorem chain_size {w z z' : Int → Int} : ∀ {l : List Int} {pos top : Int}, (∀ i ∈ l, z' i = z i) → chainF w z pos l top → chainF w z' pos l top
  | [], _, _, _, h => h
  | i :: r, pos, top, hk, h => ⟨h.1, by rw [hk i (.head _)]; exact chain_size (fun j hj => hk j (.tail _ hj)) h.2⟩
theorem mem_addC {cs : List Int} {c x : Int} : x ∈ addC cs c ↔ x ∈ cs ∨ x = c := by
  unfold addC
  by_cases h : c ∈ cs
  · rw [if_pos h]; exact ⟨.inl, fun h' => h'.elim id fun e => by rw [e]; exact h⟩
  · rw [if_neg h, List.mem_append]; simp
noncomputable def storeT (T : Td) (a : Int) (j : Nat) (b : Int) : Td := { T with slots := T.slots.set a.toNat ((sA T a).set j b) }
section
variable {H : Hp} {rows : List Rw} {cs : List (List Int)} {T : Td} {a b s : Int} {i j : Nat} {t : Th} {D : Addr}
theorem store_sA (ok : TOk T) {x : Int} (ha : InN T.gens.length a) (hx : 0 ≤ x) : sA (storeT T a j b) x = if x = a then (sA T a).set j b else sA T x := by
  unfold storeT
  show (T.slots.set a.toNat ((sA T a).set j b)).getD x.toNat [] = _
  rw [List.getD_eq_getElem?_getD, List.getElem?_set]
  have h0 := ha.1
  by_cases c : x = a
  · subst c
    have := ha.2
    have := ok.n2
    rw [if_pos rfl, if_pos rfl, if_pos (by omega)]; rfl
  · rw [if_neg c, if_neg (by omega)]
    unfold sA; rw [List.getD_eq_getElem?_getD]
theorem store_tinv (I : TInv T) (ha : a ∈ T.here) (hb : OrIn T.here b) : TInv (storeT T a j b) := by
  have ok := I.ok
  have hh : ∀ i ∈ T.here, InN T.gens.length i := ok.here
  have inm : ∀ b, OrIn T.here b → InM T.gens.length b := fun b hb => by
    rcases hb with rfl | hb
    · exact ⟨by decide, by omega⟩
    · try (refine ex_let2 ?_; intro lX QX)
      have := hh b hb; exact ⟨by have := this.1; omega, this.2⟩
  have hz : ∀ x ∈ T.here, (sA (storeT T a j b) x).length = (sA T x).length := fun x hx => by
    rw [store_sA ok (hh a ha) (hh x hx).1]
    by_cases c : x = a
    · rw [if_pos c, List.length_set, c]
    · rw [if_neg c]
  refine ⟨⟨ok.n1, by show (T.slots.set _ _).length = _; rw [List.length_set]; exact ok.n2, ok.n, ok.here, ok.hlen, fun s hs => ?_, ok.roots, ok.fin, ok.rdy, ok.flen, ok.rows, ok.rlen⟩, I.asc, ?_, I.gen, I.mono, fun i hi x hx => ?_, I.roots, I.fin, I.rdy, I.rows, I.srt⟩
  · try (refine ex_let2 ?_; intro lX QX)
    rcases List.mem_or_eq_of_mem_set hs with hs | rfl
    · exact ok.sl s hs
    · try (refine ex_let2 ?_; intro lX QX)
      obtain ⟨_, h2, h3⟩ := ok.sA (hh a ha)
      refine ⟨by rw [List.length_set]; exact h2, fun x hx => ?_⟩
      rcases List.mem_or_eq_of_mem_set hx with hx | rfl
      · exact h3 x hx
      · exact inm _ hb
  · try (refine ex_let2 ?_; intro lX QX)
    refine chainT_F.mpr ?_
    have hch := chainT_F.mp I.chain
    exact chain_size (fun i hi => by rw [hz i hi]) hch
  · rw [store_sA ok (hh a ha) (hh i hi).1] at hx
    by_cases c : i = a
    · rw [if_pos c] at hx
      rcases List.mem_or_eq_of_mem_set hx with hx | rfl
      · exact I.sl a ha x hx
      · exact hb
    · rw [if_neg c] at hx; exact I.sl i hi x hx
theorem store_inv (I : Inv H rows cs T) (hi : H.ts[i]? = some t) (ha : T.here[i]? = some a) (hb : OrIn T.here b) (hj : j < (sA T a).length) (hcs : H.cs.length ≤ 999) :
    Inv { H with ts := storeTs H.ts i t j (vA T b), cs := storeCs H.cs t j (vA T b) } rows cs (storeT T a j b) := by
  have hI := I.t
  have ok := hI.ok
  have ham := List.mem_of_getElem? ha
  have hT := store_tinv (j := j) hI ham hb
  have haN := ok.here a ham
  have ht := all2_at_get I.ts hi ha
  have htm := List.mem_of_getElem? hi
  have had : (storeTs H.ts i t j (vA T b)).map Th.addr = H.ts.map Th.addr := set_map hi rfl
  have hlen : (storeTs H.ts i t j (vA T b)).length = H.ts.length := List.length_set ..
  have hts : All2 (ThOf (storeT T a j b)) (storeTs H.ts i t j (vA T b)) T.here := by
    refine all2_of_get (by rw [hlen]; exact All2.len I.ts) fun k u x hu hx => ?_
    have hxm := List.mem_of_getElem? hx
    have hx0 := (ok.here x hxm).1
    unfold storeTs at hu
    rw [List.getElem?_set] at hu
    by_cases c : i = k
    · subst c
      rw [ha] at hx; cases hx
      rw [if_pos rfl, if_pos (List.getElem?_eq_some_iff.mp hi).1] at hu
      cases hu
      refine ⟨ht.addr, ht.kind, ht.gen, ?_, ht.serial, ?_⟩
      · rw [store_sA ok haN hx0, if_pos rfl, List.length_set]; exact ht.size
      · rw [store_sA ok haN hx0, if_pos rfl, List.map_set, ← show vA T b = vA (storeT T a j b) b from rfl]
        show t.slots.set j (vA T b) = _
        rw [ht.slots]; rfl
    · rw [if_neg c] at hu
      have r := all2_at_get I.ts hu hx
      have hne : x ≠ a := fun e => c (nodup_get (f := id) (by rw [List.map_id]; exact asc_nodup hI.asc) ha hx e.symm)
      exact ⟨r.addr, r.kind, r.gen, by rw [store_sA ok haN hx0, if_neg hne]; exact r.size, r.serial, by rw [store_sA ok haN hx0, if_neg hne]; exact r.slots⟩
  have hmem : ∀ u ∈ storeTs H.ts i t j (vA T b), u = { t with slots := t.slots.set j (vA T b) } ∨ u ∈ H.ts := fun u hu => by
    rcases List.mem_or_eq_of_mem_set hu with h | h
    · exact .inr h
    · exact .inl h
  have hadr : ∀ {x : Int}, (∃ u ∈ H.ts, u.addr = x) → ∃ u ∈ storeTs H.ts i t j (vA T b), u.addr = x := fun {x} h => by
    have : x ∈ (storeTs H.ts i t j (vA T b)).map Th.addr := by rw [had]; exact List.mem_map.mpr h
    exact List.mem_map.mp this
  have hval : vA T b = 0 ∨ ∃ u ∈ H.ts, u.addr = vA T b := by
    rcases hb with rfl | hb
    · exact .inl vA_neg
    · rw [vA_in (hI.nn hb)]
      obtain ⟨u, hu, h⟩ := I.thOf hb
      exact .inr ⟨u, hu, h.addr⟩
  have hokH : HOk { H with ts := storeTs H.ts i t j (vA T b), cs := storeCs H.cs t j (vA T b) } := by
    refine ⟨by rw [had]; exact I.ok.ad, fun u hu => ?_, by rw [hlen]; exact I.ok.num, ?_, I.ok.nfs, fun u hu => ?_, fun u hu => ?_, fun u hu x hx => ?_, fun x hx => hadr (I.ok.rs x hx), fun x hx => hadr (I.ok.fs x hx)⟩
    · try (refine ex_let2 ?_; intro lX QX)
      rcases hmem u hu with rfl | h
      · exact I.ok.pos t htm
      · exact I.ok.pos u h
    · show (storeCs H.cs t j (vA T b)).length ≤ 1000
      unfold storeCs
      by_cases c : 0 < t.gen ∧ vA T b ≠ 0
      · rw [if_pos c]; have := addC_len H.cs (cardOf (t.addr + 2 + (j : Int))); omega
      · rw [if_neg c]; omega
    · try (refine ex_let2 ?_; intro lX QX)
      rcases hmem u hu with rfl | h
      · show (t.slots.set j _).length ≤ 2; rw [List.length_set]; exact I.ok.nsl t htm
      · exact I.ok.nsl u h
    · try (refine ex_let2 ?_; intro lX QX)
      rcases hmem u hu with rfl | h
      · exact I.ok.gen t htm
      · exact I.ok.gen u h
    · try (refine ex_let2 ?_; intro lX QX)
      have hx' : x = 0 ∨ ∃ u ∈ H.ts, u.addr = x := by
        rcases hmem u hu with rfl | h
        · try (refine ex_let2 ?_; intro lX QX)
          rcases List.mem_or_eq_of_mem_set hx with hx | rfl
          · exact I.ok.sl t htm x hx
          · exact hval
        · exact I.ok.sl u h x hx
      exact hx'.imp id hadr
  have hrefY : ∀ (u : Th) (v : Int), refY (storeTs H.ts i t j (vA T b)) u v = true → refY H.ts u v = true := fun u v hy => by
    unfold refY at hy
    split at hy
    · rename_i z ez
      have hz := thAt_some ez
      have hz2 : z.gen < u.gen := of_decide_eq_true hy
      have : ∃ z' ∈ H.ts, z'.addr = v ∧ z'.gen = z.gen := by
        rcases hmem z hz.1 with rfl | h
        · exact ⟨t, htm, hz.2, rfl⟩
        · exact ⟨z, h, hz.2, rfl⟩
      obtain ⟨z', h1, h2, h3⟩ := this
      unfold refY
      rw [← h2, thAt_of I.ok.ad h1]
      exact decide_eq_true (by omega)
    · cases hy
  have hold : ∀ x ∈ H.cs, x ∈ storeCs H.cs t j (vA T b) := fun x hx => by
    unfold storeCs
    by_cases c : 0 < t.gen ∧ vA T b ≠ 0
    · rw [if_pos c]; exact mem_addC.mpr (.inl hx)
    · rw [if_neg c]; exact hx
  refine ⟨hT, hokH, hts, I.fs, I.rs, I.roots, I.rows.mono fun r q h => ⟨h.alive, h.addr, h.kind⟩, I.top, I.made, fun u hu s hs hy => ?_⟩
  rcases hmem u hu with rfl | h
  · try (refine ex_let2 ?_; intro lX QX)
    have hy' := hrefY _ _ hy
    have hs' : s < t.slots.length := by
      have : s < (t.slots.set j (vA T b)).length := hs
      rwa [List.length_set] at this
    by_cases c : j = s
    · subst c
      have hv : (t.slots.set j (vA T b)).getD j 0 = vA T b := by rw [List.getD_eq_getElem?_getD, List.getElem?_set, if_pos rfl, if_pos hs']; rfl
      have hy2 : refY H.ts t (vA T b) = true := by
        have : refY H.ts { t with slots := t.slots.set j (vA T b) } ((t.slots.set j (vA T b)).getD j 0) = true := hy'
        rw [hv] at this; exact this
      unfold refY at hy2
      split at hy2
      · rename_i z ez
        have hz := thAt_some ez
        have hz2 : z.gen < t.gen := of_decide_eq_true hy2
        have g0 := (I.ok.gen z hz.1).1
        have p0 := I.ok.pos z hz.1
        show cardOf (t.addr + 2 + (j : Int)) ∈ storeCs H.cs t j (vA T b)
        unfold storeCs
        rw [if_pos ⟨by omega, by rw [← hz.2]; omega⟩]
        exact mem_addC.mpr (.inr rfl)
      · cases hy2
    · try (refine ex_let2 ?_; intro lX QX)
      refine hold _ (I.cards t htm s hs' ?_)
      have hv : (t.slots.set j (vA T b)).getD s 0 = t.slots.getD s 0 := by rw [List.getD_eq_getElem?_getD, List.getElem?_set, if_neg c, ← List.getD_eq_getElem?_getD]
      have : refY H.ts { t with slots := t.slots.set j (vA T b) } ((t.slots.set j (vA T b)).getD s 0) = true := hy'
      rw [hv] at this; exact this
  · exact hold _ (I.cards u h s hs (hrefY _ _ hy))
theorem handle_inv (I : Inv H rows cs T) (ha : a ∈ T.here) (hs : 1 ≤ s ∧ s ≤ 3) (hl : T.rows.length ≤ 999) : Inv H (rows ++ [⟨D, s, wA T a, 1⟩]) cs { T with rows := T.rows ++ [(s, a, 1)] } := by
  have hI := I.t
  have ok := hI.ok
  have haN := ok.here a ha
  have hch := chainT_F.mp hI.chain
  have hmem : ∀ q ∈ T.rows ++ [(s, a, (1 : Int))], q ∈ T.rows ∨ q = (s, a, 1) := fun q hq => by
    rcases List.mem_append.mp hq with h | h
    · exact .inl h
    · simp at h; exact .inr h
  refine ⟨⟨⟨ok.n1, ok.n2, ok.n, ok.here, ok.hlen, ok.sl, ok.roots, ok.fin, ok.rdy, ok.flen, fun q hq => ?_, by rw [List.length_append]; simp; omega⟩, hI.asc, chainT_F.mpr hch, hI.gen, hI.mono, hI.sl, hI.roots, hI.fin, hI.rdy, fun q hq => ?_, fun q hq h0 => ?_⟩, I.ok, I.ts.mono fun t j h => ⟨h.addr, h.kind, h.gen, h.size, h.serial, h.slots⟩, I.fs, I.rs, I.roots, ?_, I.top, I.made, I.cards⟩
  · try (refine ex_let2 ?_; intro lX QX)
    rcases hmem q hq with h | rfl
    · exact ok.rows q h
    · exact ⟨by have := haN.1; show -1 ≤ a; omega, haN.2⟩
  · try (refine ex_let2 ?_; intro lX QX)
    rcases hmem q hq with h | rfl
    · exact hI.rows q h
    · exact .inr ha
  · try (refine ex_let2 ?_; intro lX QX)
    rcases hmem q hq with h | rfl
    · exact hI.srt q h h0
    · exact hs
  · try (refine ex_let2 ?_; intro lX QX)
    refine All2.snoc (I.rows.mono fun r q h => ⟨h.alive, h.addr, h.kind⟩) ⟨rfl, ?_, .inr ⟨rfl, rfl⟩⟩
    show wA T a = vA { T with rows := T.rows ++ [(s, a, 1)] } a
    rw [vA_in haN.1]; rfl
end
theorem Bd.mono {H : Hp} {T : Td} {k k' : Nat} (b : Bd H T k) (h : k ≤ k') : Bd H T k' := ⟨Nat.le_trans b.gens h, Nat.le_trans b.rows h, Nat.le_trans b.fin h, Nat.le_trans b.cs (by omega)⟩


noncomputable def SW : List Nat := [1, 2, 3, 4, 5, 6, 8, 9, 10, 11, 13, 20, 21, 22, 23, 24, 25, 26, 27, 28, 29, 30, 40, 41, 42, 43, 45, 46, 52]
/-- what a deed leaves -/
noncomputable def Post (σ : Store) (H : Hp) (h : Hd) (y ra : Addr) (T : Tb) (k : Nat) (σ' : Store) : Prop :=
  ∃ H' h' T', Ext SW σ σ' ∧ H'.a = H.a ∧ h'.a = h.a ∧ T'.a = T.a ∧ Lw σ' H' h' y ra T' ∧ Bd H' T'.d k
noncomputable def ifBody : Option Stmt → List Stmt
  | some (.If _ b _ _) => b
  | _ => []
theorem pick_or {here : List Int} {k : Int} (k0 : 0 ≤ k) (k1 : k < here.length + 1) : OrIn here (((-1) :: here).getD k.toNat 0) := by
  have h1 : k.toNat < ((-1) :: here).length := by rw [List.length_cons]; omega
  have h4 : ((-1) :: here).getD k.toNat 0 ∈ (-1) :: here := by
    rw [getD_of (x := ((-1) :: here)[k.toNat]) (List.getElem?_eq_getElem h1)]
    exact List.getElem_mem h1
  rcases List.mem_cons.mp h4 with h | h
  · exact .inl h
  · exact .inr h
section
variable {σ σ' : Store} {H : Hp} {h : Hd} {y ra : Addr} {c : List Int} {T : Tb}
theorem dataH_self {T : Td} {rows : List Rw} {cs : List (List Int)} (I : Inv H rows cs T) : H = dataH H T H.fi H.re T.fin T.rdy := by unfold dataH; rw [← I.fs, ← I.rs]
theorem Lr.wRow {D : Addr} {r : Int × Int × Int} (w : Lr σ H h y ra c T) (hD : σ D = some ⟨30, .list (rowv r)⟩) (hn : D ∉ T.rw) : Lr (σ.set T.ao ⟨29, .list (T.rw.map MVal.ref ++ [.ref D])⟩) H h y ra c { T with rw := T.rw ++ [D], d := { T.d with rows := T.d.rows ++ [r] } } := by
  have E : Ext [29] σ (σ.set T.ao ⟨29, .list (T.rw.map MVal.ref ++ [.ref D])⟩) := .set w.w.rows (by decide)
  have W := w.w
  refine ⟨w.R.ext E (by decide), w.hR.ext E (by decide), w.ro.ext E, ⟨E.get W.w, E.get W.here, E.get W.whr, E.get W.gens, E.get W.slots, W.sl.mono fun _ _ e => E.get e, E.get W.roots, E.get W.fin, E.get W.rdy, ?_, All2.snoc (W.rw.mono fun _ _ e => E.get e) (E.get hD), W.nd.1, ?_⟩⟩
  · rw [Store.set_self]; show _ = some (⟨29, .list ((T.rw ++ [D]).map .ref)⟩ : MObj); rw [List.map_append]; rfl
  · rw [List.nodup_append]
    refine ⟨W.nd.2, by simp, fun a ha b hb => ?_⟩
    simp at hb; subst hb
    rintro rfl; exact hn ha
theorem Lr.wSlot {b : Addr} {i : Nat} (w : Lr σ H h y ra c T) (hb : T.sl[i]? = some b) {s : List Int} (hs : σ b = some ⟨25, .list (s.map .int)⟩) (s' : List Int) : Lr (σ.set b ⟨25, .list (s'.map .int)⟩) H h y ra c { T with d := { T.d with slots := T.d.slots.set i s' } } := by
  have E : Ext [25] σ (σ.set b ⟨25, .list (s'.map .int)⟩) := .set hs (by decide)
  have W := w.w
  exact ⟨w.R.ext E (by decide), w.hR.ext E (by decide), w.ro.ext E, ⟨E.get W.w, E.get W.here, E.get W.whr, E.get W.gens, E.get W.slots, all2_set (f := fun s : List Int => Body.list (s.map .int)) W.sl W.nd.1 hb, E.get W.roots, E.get W.fin, E.get W.rdy, E.get W.rows, W.rw.mono fun _ _ e => E.get e, W.nd⟩⟩
end
section
variable {W : Wd} {σ : Store} {T : Tb} {y ra L₁ : Addr} {H : Hp} {h : Hd} {op yy : Int} {n k : Nat} {A A₀ : Around} {h₀ base : Heap} {outer : List Env} {cdv : Value} {Q : Flw → Lcl → Store → Prop}

set_option maxHeartbeats 8000000 in
theorem step5 (hn : n < 59) (w : Lw σ H h y ra T) (b : Bd H T.d k) (hy0 : 0 ≤ yy) (q : ∀ l' σ', Post σ H h y ra T k σ' → Q (.ret (.bool true)) l' σ') :
    Ex W (mkCx "_law_step" (fScope (topS 88)) (W.fn 88) n A h₀ L₁ outer base A₀ cdv) (lc [("heap", .ref H.a), ("lists", .ref y), ("h", .ref h.a), ("w", .ref T.a), ("op", .int op), ("y", .int yy), ("many", .int T.d.here.length)]) σ (ifBody (nthS (fBody (topS 88)) 5)) Q := by
  have hI := w.I.t
  have ok := hI.ok
  have hhl := ok.hlen
  have nn := ok.n
  have n1 := ok.n1
  have hw := w.w.w
  have hh := w.w.here
  have hk0 : 0 ≤ yy / 3 % ((T.d.here.length : Int) + 1) := Int.emod_nonneg _ (by omega)
  have hk1 : yy / 3 % ((T.d.here.length : Int) + 1) < T.d.here.length + 1 := Int.emod_lt_of_pos _ (by omega)
  refine ex_assign (ev_pick (k := yy / 3 % ((T.d.here.length : Int) + 1)) hh (fun σ' E => ?_) (fun σ' E => by walk_at "pe") hk0 hk1 hhl fun σ1 E1 => ?_)
  · try (refine ex_let2 ?_; intro lX QX)
    have hw1 := E.get hw
    walk_at "pe"
  have ha := pick_or hk0 hk1
  generalize ((-1) :: T.d.here).getD (yy / 3 % ((T.d.here.length : Int) + 1)).toNat 0 = a at ha ⊢
  have haM : InM T.d.whr.length a := by
    rw [n1]
    rcases ha with rfl | ha
    · exact ⟨by decide, by omega⟩
    · try (refine ex_let2 ?_; intro lX QX)
      have := ok.here a ha; exact ⟨by have := this.1; omega, this.2⟩
  have w1 := w.lr.ext E1 (by decide)
  have hw1 := w1.w.w
  have hwh1 := w1.w.whr
  have hra := w1.raAt
  have hy1 := w1.ro.y
  have hro3 := ok.roots.1
  have hi0 : 0 ≤ yy % 3 := by omega
  have hi1 : yy % 3 < 3 := by omega
  refine ex_sub_list (ev_c2 79 (by decide) (by walk_at "pe") (by walk_at "pe") (c_law_value (nle hn) hwh1 haM (by omega) ⟨ra, 13, _, yy % 3, pe_sub (by walk_at "pe") (by walk_at "pe") (po_idx (v := .ref ra) hy1 (by decide) rfl (by decide)), by walk_at "pe", hra, hi0, by rw [List.length_map, List.length_map]; omega, by rw [List.length_map, List.length_map]; omega, ?_⟩))
  have es : ((T.d.roots.map (vA T.d)).map sv).set (yy % 3).toNat (sv (if a < 0 then 0 else T.d.whr.getD a.toNat 0)) = ((T.d.roots.set (yy % 3).toNat a).map (vA T.d)).map sv := by rw [List.map_set, List.map_set]; rfl
  rw [es]
  have w2 := w1.rootSet ((T.d.roots.set (yy % 3).toNat a).map (vA T.d)) (by simp; omega)
  have E2 := E1.mono (S' := SW) (by first | decide | simp) |>.trans (Ext.set (y := .list (((T.d.roots.set (yy % 3).toNat a).map (vA T.d)).map sv)) hra (by decide))
  generalize σ1.set ra ⟨13, .list (((T.d.roots.set (yy % 3).toNat a).map (vA T.d)).map sv)⟩ = σ2 at w2 E2
  have hw2 := w2.w.w
  have hro2 := w2.w.roots
  refine ex_sub_list (ev_pe (by walk_at "pe") ⟨T.ar, 26, _, yy % 3, by walk_at "pe", by walk_at "pe", hro2, hi0, by rw [List.length_map]; omega, by rw [List.length_map]; omega, ?_⟩)
  rw [← List.map_set]
  have w3 := w2.wRoots (T.d.roots.set (yy % 3).toNat a)
  have E3 := E2.trans (Ext.set (S := SW) (y := .list ((T.d.roots.set (yy % 3).toNat a).map .int)) hro2 (by decide))
  refine ex_ret (ev_pe pe_bool (q _ _ ⟨H, h, T.setRoots (T.d.roots.set (yy % 3).toNat a), E3, rfl, rfl, rfl, ?_, ⟨b.gens, b.rows, b.fin, b.cs⟩⟩))
  refine Lr.lw (T₀ := T) (H₀ := H) (fi := H.fi) (re := H.re) (roots := T.d.roots.set (yy % 3).toNat a) (fin := T.d.fin) (rdy := T.d.rdy) w.I (fun c hc => ?_) hI.fin hI.rdy (by rw [List.length_set]; exact hro3) ok.flen w3 (dataH_self w.I) rfl rfl
  rcases mem_set_or hc with hc | rfl
  · exact hI.roots c hc
  · exact ha

set_option maxHeartbeats 8000000 in
theorem step9 (hn : n < 59) (w : Lw σ H h y ra T) (b : Bd H T.d k) (hk : k ≤ 28) (hy0 : 0 ≤ yy) (hm : 0 < T.d.here.length) (q : ∀ l' σ', Post σ H h y ra T (k + 1) σ' → Q (.ret (.bool true)) l' σ') :
    Ex W (mkCx "_law_step" (fScope (topS 88)) (W.fn 88) n A h₀ L₁ outer base A₀ cdv) (lc [("heap", .ref H.a), ("lists", .ref y), ("h", .ref h.a), ("w", .ref T.a), ("op", .int op), ("y", .int yy), ("many", .int T.d.here.length)]) σ (ifBody (nthS (fBody (topS 88)) 9)) Q := by
  have hI := w.I.t
  have ok := hI.ok
  have hhl := ok.hlen
  have nn := ok.n
  have n1 := ok.n1
  have hw := w.w.w
  have hh := w.w.here
  have hk0 : 0 ≤ yy / 3 % (T.d.here.length : Int) := Int.emod_nonneg _ (by omega)
  have hk1 : yy / 3 % (T.d.here.length : Int) < T.d.here.length := Int.emod_lt_of_pos _ (by omega)
  refine ex_assign (ev_pe (pe_sub (by walk_at "pe") (by walk_at "pe") (po_ii hh hk0 hk1 (by omega))) ?_)
  have ha : T.d.here.getD (yy / 3 % (T.d.here.length : Int)).toNat 0 ∈ T.d.here := by
    have h1 : (yy / 3 % (T.d.here.length : Int)).toNat < T.d.here.length := by omega
    rw [getD_of (x := T.d.here[(yy / 3 % (T.d.here.length : Int)).toNat]) (List.getElem?_eq_getElem h1)]
    exact List.getElem_mem h1
  generalize T.d.here.getD (yy / 3 % (T.d.here.length : Int)).toNat 0 = a at ha ⊢
  have haN := ok.here a ha
  have ha0 := haN.1
  have ha1 := haN.2
  have hrows := w.w.rows
  have hrl := All2.len w.w.rw
  have hrl2 := All2.len w.I.rows
  have hb := b.rows
  refine ex_append (by walk_at "pe") hrows (by first | exact lenm (by omega) | (rw [List.length_map]; omega)) (ev_list 30 (eva_cons (ev_pe (by walk_at "pe") (eva_cons (ev_pe (by walk_at "pe") (eva_cons (ev_pe (by walk_at "pe") (eva_nil ⟨Nat.le_of_ble_eq_true rfl, fun D hD => ⟨Store.get_new hrows hD, ?_⟩⟩))))))))
  have w1 := w.lr.ext (S := []) (.new (o := ⟨30, .list [.int (1 + yy % 3), .int a, .int 1]⟩) hD) (by decide)
  have hDD : (σ.set D ⟨30, .list [.int (1 + yy % 3), .int a, .int 1]⟩) D = some ⟨30, .list (rowv (1 + yy % 3, a, 1))⟩ := Store.set_self _ _ _
  have E1 : Ext SW σ (σ.set D ⟨30, .list [.int (1 + yy % 3), .int a, .int 1]⟩) := .new hD
  have hDrw : D ∉ T.rw := fun hm => by
    obtain ⟨j, hj⟩ := List.getElem?_of_mem hm
    obtain ⟨_, _, e⟩ := w.w.rw.get hj
    rw [hD] at e; cases e
  generalize σ.set D ⟨30, .list [.int (1 + yy % 3), .int a, .int 1]⟩ = σ1 at w1 hDD E1
  have hrows1 := w1.w.rows
  have w2 := w1.wRow hDD hDrw
  have E2 := E1.trans (Ext.set (S := SW) (y := .list (T.rw.map MVal.ref ++ [.ref D])) hrows1 (by decide))
  generalize σ1.set T.ao ⟨29, .list (T.rw.map MVal.ref ++ [.ref D])⟩ = σ2 at w2 E2
  have hw2 : σ2 T.a = some ⟨20, .dS T.kv⟩ := w2.w.w
  have hwh2 : σ2 T.aw = some ⟨22, .list (T.d.whr.map .int)⟩ := w2.w.whr
  refine ex_ret (ev_cmp (ev_c3 46 (by decide) (by walk_at "pe") (by walk_at "pe") (pe_sub (by walk_at "pe") (by walk_at "pe") (po_ii hwh2 ha0 (by rw [n1]; exact ha1) (by omega))) (c_new_handle (nle hn) w2.hR (by omega) fun σ3 D2 E3 hR3 => ?_)))
  have hrows2 : σ2 T.ao = some ⟨29, .list ((T.rw ++ [D]).map .ref)⟩ := w2.w.rows
  have hrows3 := E3.get hrows2
  have hw3 := E3.get hw2
  refine ev_pe (pe_len (by walk_at "pe") hrows3 (by rw [List.length_map, List.length_append]; simp; omega)) (op2_po po_eq ?_)
  have ed : decide (((h.rows.length + 1 : Nat) : Int) = ((((T.rw ++ [D]).map MVal.ref).length : Nat) : Int)) = true := decide_eq_true (by rw [List.length_map, List.length_append]; simp; omega)
  rw [ed]
  have I2 := handle_inv (D := D2) (s := 1 + yy % 3) w.I ha ⟨by omega, by omega⟩ (by omega)
  refine q _ _ ⟨H, { h with rows := h.rows ++ [⟨D2, 1 + yy % 3, wA T.d a, 1⟩] }, { T with rw := T.rw ++ [D], d := { T.d with rows := T.d.rows ++ [(1 + yy % 3, a, 1)] } }, E2.trans (E3.mono (by decide)), rfl, rfl, rfl, ⟨w2.R.ext E3 (by decide), hR3, w2.ro.ext E3, w2.w.ext E3 (by decide), I2⟩, ?_⟩
  exact ⟨by have := b.gens; show T.d.gens.length ≤ _; omega, by show (T.d.rows ++ [_]).length ≤ _; rw [List.length_append]; simp; omega, by have := b.fin; show T.d.fin.length + T.d.rdy.length ≤ _; omega, by have := b.cs; omega⟩
end


section
variable {W : Wd} {σ : Store} {T : Tb} {y ra L₁ : Addr} {H : Hp} {h : Hd} {a yy : Int} {n k : Nat} {A A₀ : Around} {h₀ base : Heap} {outer : List Env} {cdv : Value} {Q : Flw → Lcl → Store → Prop}

set_option maxHeartbeats 8000000 in
theorem step7 (hn : n < 57) (w : Lw σ H h y ra T) (b : Bd H T.d k) (hk : k ≤ 28) (ha : a ∈ T.d.here) (q : ∀ l' σ', Post σ H h y ra T k σ' → Q (.ret (.bool true)) l' σ') :
    Ex W (mkCx "_law_step" (fScope (topS 88)) (W.fn 88) n A h₀ L₁ outer base A₀ cdv) (lc [("heap", .ref H.a), ("w", .ref T.a), ("op", .int 7), ("a", .int a)]) σ ((fBody (topS 88)).drop 11) Q := by
  refine ex_ifb (by walk_at "pt") (fun _ => ?_) fun hc => absurd hc (by decide)
  refine ex_expr (ev_c3 87 (by decide) (by walk_at "pe") (by walk_at "pe") (by walk_at "pe") (c_law_drop (nle hn) w b (by omega) ha fun σ1 H1 T1 E1 hHa hTa w1 b1 => ?_))
  refine ex_nil (ex_ifb (by walk_at "pt") (fun hc => absurd hc (by decide)) fun _ => ex_nil (ex_ifb (pt_and (d := true) (by walk_at "pt") fun hf => absurd hf (by decide)) (fun hc => absurd hc (by decide)) fun _ => ex_nil ?_))
  exact ex_ret (ev_pe pe_bool (q _ _ ⟨H1, h, T1, E1.mono (by decide), hHa, rfl, hTa, w1, b1⟩))

set_option maxHeartbeats 8000000 in
theorem step8 (hn : n < 57) (w : Lw σ H h y ra T) (b : Bd H T.d k) (hk : k ≤ 28) (ha : a ∈ T.d.here) (q : ∀ l' σ', Post σ H h y ra T (k + 1) σ' → Q (.ret (.bool true)) l' σ') :
    Ex W (mkCx "_law_step" (fScope (topS 88)) (W.fn 88) n A h₀ L₁ outer base A₀ cdv) (lc [("heap", .ref H.a), ("w", .ref T.a), ("op", .int 8), ("a", .int a)]) σ ((fBody (topS 88)).drop 11) Q := by
  have hI := w.I.t
  have ok := hI.ok
  have nn := ok.n
  have n1 := ok.n1
  have haN := ok.here a ha
  have ha0 := haN.1
  have ha1 := haN.2
  have hfin := b.fin
  have hw := w.w.w
  have hwh := w.w.whr
  have hfs : H.fs = T.d.fin.map (wA T.d) := w.I.fs
  refine ex_ifb (by walk_at "pt") (fun hc => absurd hc (by decide)) fun _ => ex_nil (ex_ifb (by walk_at "pt") (fun _ => ?_) fun hc => absurd hc (by decide))
  refine ex_expr (ev_c2 56 (by decide) (by walk_at "pe") (pe_sub (by walk_at "pe") (by walk_at "pe") (po_ii hwh ha0 (by rw [n1]; exact ha1) (by omega))) (c_reregister (nle hn) w.R (by rw [hfs, List.length_map]; omega) ?_))
  have w1 := w.lr.fiSet (H.fs ++ [wA T.d a])
  have E1 : Ext SW σ _ := Ext.set (y := .list ((H.fs ++ [wA T.d a]).map .int)) w.R.fi (by decide)
  show Ex W _ _ (σ.set H.fi ⟨5, .list ((H.fs ++ [wA T.d a]).map .int)⟩) _ _
  generalize σ.set H.fi ⟨5, .list ((H.fs ++ [wA T.d a]).map .int)⟩ = σ1 at w1 E1
  have hw1 := w1.w.w
  have hf1 := w1.w.fin
  refine ex_append (by walk_at "pe") hf1 (by first | exact lenm (by omega) | (rw [List.length_map]; omega)) (ev_pe (by walk_at "pe") ⟨hf1, ?_⟩)
  rw [app_int]
  have w2 := w1.wFin (T.d.fin ++ [a])
  have E2 := E1.trans (Ext.set (S := SW) (y := .list ((T.d.fin ++ [a]).map .int)) hf1 (by decide))
  generalize σ1.set T.af ⟨27, .list ((T.d.fin ++ [a]).map .int)⟩ = σ2 at w2 E2
  refine ex_nil (ex_ifb (pt_and (d := true) (by walk_at "pt") fun hf => absurd hf (by decide)) (fun hc => absurd hc (by decide)) fun _ => ex_nil ?_)
  refine ex_ret (ev_pe pe_bool (q _ _ ⟨{ H with fs := H.fs ++ [wA T.d a] }, h, T.setFin (T.d.fin ++ [a]), E2, rfl, rfl, rfl, ?_, ?_⟩))
  · try (refine ex_let2 ?_; intro lX QX)
    refine Lr.lw (T₀ := T) (H₀ := H) (fi := H.fi) (re := H.re) (roots := T.d.roots) (fin := T.d.fin ++ [a]) (rdy := T.d.rdy) w.I hI.roots (fun c hc => ?_) hI.rdy ok.roots.1 (by rw [List.length_append]; simp; omega) w2 ?_ rfl rfl
    · try (refine ex_let2 ?_; intro lX QX)
      rcases List.mem_append.mp hc with hc | hc
      · exact hI.fin c hc
      · simp at hc; subst hc; exact ha
    · unfold dataH; rw [List.map_append, ← hfs, ← w.I.rs]; rfl
  · exact ⟨by have := b.gens; show T.d.gens.length ≤ _; omega, by have := b.rows; show T.d.rows.length ≤ _; omega, by show (T.d.fin ++ [a]).length + T.d.rdy.length ≤ _; rw [List.length_append]; simp; omega, by have := b.cs; show H.cs.length ≤ _; omega⟩

set_option maxHeartbeats 8000000 in
theorem step6 {j : Nat} (hn : n < 57) (w : Lw σ H h y ra T) (b : Bd H T.d k) (hk : k ≤ 28) (hy0 : 0 ≤ yy) (hm : 0 < T.d.here.length) (hj : yy % (T.d.here.length : Int) = (j : Int)) (hja : T.d.here[j]? = some a) (q : ∀ l' σ', Post σ H h y ra T (k + 1) σ' → Q (.ret (.bool true)) l' σ') :
    Ex W (mkCx "_law_step" (fScope (topS 88)) (W.fn 88) n A h₀ L₁ outer base A₀ cdv) (lc [("heap", .ref H.a), ("w", .ref T.a), ("op", .int 6), ("a", .int a), ("y", .int yy), ("many", .int T.d.here.length)]) σ ((fBody (topS 88)).drop 11) Q := by
  have hI := w.I.t
  have ok := hI.ok
  have hhl := ok.hlen
  have nn := ok.n
  have n1 := ok.n1
  have n2 := ok.n2
  have ha := List.mem_of_getElem? hja
  have haN := ok.here a ha
  have ha0 := haN.1
  have ha1 := haN.2
  have hw := w.w.w
  have hx := w.w.slots
  have hh := w.w.here
  have hsl := All2.len w.w.sl
  obtain ⟨hs1, hs2, hs3⟩ := ok.sA haN
  obtain ⟨bb, hb1, hb2⟩ := w.w.slot hs1
  refine ex_ifb (by walk_at "pt") (fun hc => absurd hc (by decide)) fun _ => ex_nil (ex_ifb (by walk_at "pt") (fun hc => absurd hc (by decide)) fun _ => ex_nil ?_)
  refine ex_ifb (pt_and (by walk_at "pt") fun _ => pt_and (pt_cmp (pe_len (pe_sub (by walk_at "pe") (by walk_at "pe") (po_idx (v := .ref bb) hx ha0 (by rw [List.getElem?_map, hb1]; rfl) (by omega))) hb2 (by first | exact lenm (by omega) | (rw [List.length_map]; omega))) pe_int po_gt) fun _ => pt_and0) (fun hc => ?_) fun hc => ?_
  · try (refine ex_let2 ?_; intro lX QX)
    have hpos : 0 < (sA T.d a).length := by simpa using hc
    have hpos' : (0 : Int) < ((sA T.d a).length : Int) := by omega
    refine ex_assign (ev_pe (by walk_at "pe") ?_)
    have hz0 : 0 ≤ yy / (T.d.here.length : Int) := Int.ediv_nonneg hy0 (by omega)
    generalize yy / (T.d.here.length : Int) = z at hz0 ⊢
    refine ex_assign (ev_pe (pe_bin (by walk_at "pe") (pe_len (pe_sub (by walk_at "pe") (by walk_at "pe") (po_idx (v := .ref bb) hx ha0 (by rw [List.getElem?_map, hb1]; rfl) (by omega))) hb2 (by first | exact lenm (by omega) | (rw [List.length_map]; omega))) (po_mod (by rw [List.length_map]; exact hpos'))) ?_)
    rw [List.length_map]
    have hj0 : 0 ≤ z % ((sA T.d a).length : Int) := Int.emod_nonneg _ (by omega)
    have hj1 : z % ((sA T.d a).length : Int) < (sA T.d a).length := Int.emod_lt_of_pos _ hpos'
    obtain ⟨i, hi⟩ : ∃ i : Nat, z % ((sA T.d a).length : Int) = (i : Int) := ⟨(z % ((sA T.d a).length : Int)).toNat, by omega⟩
    rw [hi] at hj0 hj1 ⊢
    have hk0 : 0 ≤ z / ((sA T.d a).length : Int) % ((T.d.here.length : Int) + 1) := Int.emod_nonneg _ (by omega)
    have hk1 : z / ((sA T.d a).length : Int) % ((T.d.here.length : Int) + 1) < T.d.here.length + 1 := Int.emod_lt_of_pos _ (by omega)
    refine ex_assign (ev_pick (k := z / ((sA T.d a).length : Int) % ((T.d.here.length : Int) + 1)) hh (fun σ' E => ?_) (fun σ' E => ?_) hk0 hk1 hhl fun σ1 E1 => ?_)
    · try (refine ex_let2 ?_; intro lX QX)
      have hw1 := E.get hw
      walk_at "pe"
    · have hw1 := E.get hw
      have hx1 := E.get hx
      have hb3 := E.get hb2
      have el : ((sA T.d a).map MVal.int).length = (sA T.d a).length := List.length_map ..
      rw [← el]
      exact pe_bin (pe_bin (by walk_at "pe") (pe_len (pe_sub (by walk_at "pe") (by walk_at "pe") (po_idx (v := .ref bb) hx1 ha0 (by rw [List.getElem?_map, hb1]; rfl) (by omega))) hb3 (by omega)) (po_div (by omega) (by omega))) (by walk_at "pe") (po_mod (by omega))
    have hb := pick_or hk0 hk1
    generalize ((-1) :: T.d.here).getD (z / ((sA T.d a).length : Int) % ((T.d.here.length : Int) + 1)).toNat 0 = x at hb ⊢
    have w1 := w.lr.ext E1 (by decide)
    have hw1 := w1.w.w
    have hwh1 := w1.w.whr
    obtain ⟨t, hti, hto⟩ := w.I.ts.get' hja
    have hth1 := w1.R.th
    have htl := All2.len w.I.ts
    have hjlt : j < T.d.here.length := (List.getElem?_eq_some_iff.mp hja).1
    have haM : InM T.d.whr.length x := by
      rw [n1]
      rcases hb with rfl | hb
      · exact ⟨by decide, by omega⟩
      · try (refine ex_let2 ?_; intro lX QX)
        have := ok.here x hb; exact ⟨by have := this.1; omega, this.2⟩
    have htsl : t.slots.length = (sA T.d a).length := by rw [hto.slots, List.length_map]
    obtain ⟨dx, nf, hnf, hhp⟩ := w1.R.hp
    have hbc := b.cs
    refine ex_expr (ev_def 24 (by decide) ?_)
    refine eva_cons (ev_pe (by walk_at "pe") (eva_cons (ev_pe (pe_sub (by walk_at "pe") (by walk_at "pe") (po_idx (v := t.rv) hth1 (by omega) (by rw [hj, Int.toNat_natCast, List.getElem?_map, hti]; rfl) (by omega))) ?_)))
    refine eva_cons (ev_pe (by walk_at "pe") ?_)
    refine eva_cons (ev_c2 79 (by decide) (by walk_at "pe") (by walk_at "pe") (c_law_value (nle hn) hwh1 haM (by omega) (eva_nil ?_)))
    refine c_store_slot (i := j) (a := vA T.d x) (nle hn) w1.R (by omega) hti (by omega) (by omega) fun σ2 E2 R2 => ?_
    have w2 : Lr σ2 { H with ts := storeTs H.ts j t i (vA T.d x), cs := storeCs H.cs t i (vA T.d x) } h y ra (T.d.roots.map (vA T.d)) T := ⟨R2, w1.hR.ext E2 (by decide), w1.ro.ext E2, w1.w.ext E2 (by decide)⟩
    have hw2 := w2.w.w
    have hx2 := w2.w.slots
    have hb4 := E2.get (E1.get hb2)
    have E3 := (E1.mono (S' := SW) (by first | decide | simp)).trans (E2.mono (by decide))
    refine ex_sub_list (ev_pe (by walk_at "pe") ⟨bb, 25, _, i, pe_sub (by walk_at "pe") (by walk_at "pe") (po_idx (v := .ref bb) hx2 ha0 (by rw [List.getElem?_map, hb1]; rfl) (by omega)), by walk_at "pe", hb4, hj0, by rw [List.length_map]; exact hj1, by rw [List.length_map]; omega, ?_⟩)
    rw [← List.map_set, Int.toNat_natCast]
    have w3 := w2.wSlot (i := a.toNat) hb1 hb4 ((sA T.d a).set i x)
    have E4 := E3.trans (Ext.set (S := SW) (y := .list (((sA T.d a).set i x).map .int)) hb4 (by decide))
    have I3 := store_inv (b := x) (j := i) w.I hti hja hb (by omega) (by omega)
    refine ex_nil (ex_ret (ev_pe pe_bool (q _ _ ⟨{ H with ts := storeTs H.ts j t i (vA T.d x), cs := storeCs H.cs t i (vA T.d x) }, h, { T with d := storeT T.d a i x }, E4, rfl, rfl, rfl, ⟨w3.R, w3.hR, w3.ro, w3.w, I3⟩, ?_⟩)))
    refine ⟨by have := b.gens; show T.d.gens.length ≤ _; omega, by have := b.rows; show T.d.rows.length ≤ _; omega, by have := b.fin; show T.d.fin.length + T.d.rdy.length ≤ _; omega, ?_⟩
    show (storeCs H.cs t i (vA T.d x)).length ≤ _
    unfold storeCs
    by_cases c : 0 < t.gen ∧ vA T.d x ≠ 0
    · rw [if_pos c]; have := addC_len H.cs (cardOf (t.addr + 2 + (i : Int))); omega
    · rw [if_neg c]; omega
  · try (refine ex_let2 ?_; intro lX QX)
    refine ex_nil (ex_ret (ev_pe pe_bool (q _ _ ⟨H, h, T, .refl, rfl, rfl, rfl, w, b.mono (by omega)⟩)))
end


section
variable {W : Wd} {X : Cx} {l : Lcl} {σ : Store} {Q : MVal → Store → Prop} {T : Tb} {y ra : Addr} {x : Int} {H : Hp} {h : Hd} {k : Nat}

set_option maxHeartbeats 8000000 in
theorem c_law_step (hn : X.n < 52) (w : Lw σ H h y ra T) (b : Bd H T.d k) (hk : k ≤ 28) (hx : 0 ≤ x) (q : ∀ σ', Post σ H h y ra T (k + 1) σ' → Q (.bool true) σ') :
    OpC W X l σ (.ref (W.fn 88)) [.ref H.a, .ref y, .ref h.a, .ref T.a, .int x] Q := by
  refine def_call0 (x := "_law_step") 88 (by decide) ["heap", "lists", "h", "w", "x"] (nle hn) rfl (by walk_at "b5") rfl (fun _ => rfl) rfl rfl rfl ?_
  intro A h₀ L₁ outer base A₀ cdv
  refine ex_let3 ?_
  intro Xx ll Qq
  have hI := w.I.t
  have ok := hI.ok
  have hhl := ok.hlen
  have nn := ok.n
  have hw := w.w.w
  have hh := w.w.here
  have hrows := w.w.rows
  have hrl := All2.len w.w.rw
  have hbr := b.rows
  refine ex_assign (ev_pe (by walk_at "pe") ?_)
  refine ex_assign (ev_pe (by walk_at "pe") ?_)
  have hop : x % 12 < 12 ∧ 0 ≤ x % 12 := by omega
  have hy0 : 0 ≤ x / 12 := by omega
  generalize x % 12 = op at hop ⊢
  generalize x / 12 = yy at hy0 ⊢
  refine ex_assign (ev_pe (by walk_at "pe") ?_)
  rw [List.length_map]
  refine ex_ifd (by walk_at "pt") (fun _ => ?_) fun h2 => ex_nil ?_
  · exact ex_ret (ev_c4 84 (by decide) (by walk_at "pe") (by walk_at "pe") (by walk_at "pe") (by walk_at "pe") (c_law_new (nlt hn) w b hk hy0 fun σ' H' T' E ea eT w' b' => q σ' ⟨H', h, T', E.mono (by decide), ea, rfl, eT, w', b'⟩))
  refine ex_ifd (by walk_at "pt") (fun _ => ?_) fun h4 => ex_nil ?_
  · try (refine ex_let2 ?_; intro lX QX)
    refine ex_ret (ev_c3 86 (by decide) (by walk_at "pe") (by walk_at "pe") (pe_bin (by walk_at "pe") (pe_bin (pe_len (by walk_at "pe") hrows (by first | exact lenm (by omega) | (rw [List.length_map]; omega))) pe_int po_add) (po_mod (by omega))) (c_law_free (nlt hn) w (Int.emod_nonneg _ (by omega)) fun σ' h' T' E eT eh w' b' => q σ' ⟨H, h', T', E.mono (by decide), rfl, eh, eT, w', (b' k b).mono (by omega)⟩))
  refine ex_ifd (by walk_at "pt") (fun _ => ?_) fun h5 => ex_nil ?_
  · exact ex_weak (step5 (nlt hn) w b hy0 fun l' σ' ⟨H', h', T', E, ea, eh, eT, w', b'⟩ => q σ' ⟨H', h', T', E, ea, eh, eT, w', b'.mono (by omega)⟩) (le_lc ⟨rfl, rfl, rfl, rfl, rfl, rfl, rfl, trivial⟩)
  refine ex_ifd (by walk_at "pt") (fun _ => ?_) fun h9 => ex_nil ?_
  · exact ex_ret (ev_c4 85 (by decide) (by walk_at "pe") (by walk_at "pe") (by walk_at "pe") (by walk_at "pe") (c_law_take (nlt hn) w b hk hy0 fun σ' H' T' E ea eT w' b' => q σ' ⟨H', h, T', E.mono (by decide), ea, rfl, eT, w', b'⟩))
  refine ex_ifd (by walk_at "pt") (fun _ => ?_) fun h10 => ex_nil ?_
  · exact ex_ret (ev_c5 83 (by decide) (by walk_at "pe") (by walk_at "pe") (by walk_at "pe") (by walk_at "pe") (by walk_at "pe") (c_law_sweep (nlt hn) w b ⟨by omega, by omega⟩ fun σ' H' h' T' E ea eh eT w' b' => q σ' ⟨H', h', T', E.mono (by decide), ea, eh, eT, w', b'.mono (by omega)⟩))
  refine ex_ifd (by walk_at "pt") (fun _ => ?_) fun hm => ex_nil ?_
  · exact ex_ret (ev_pe pe_bool (q σ ⟨H, h, T, .refl, rfl, rfl, rfl, w, b.mono (by omega)⟩))
  have hm0 : 0 < T.d.here.length := by omega
  refine ex_ifd (by walk_at "pt") (fun _ => ?_) fun h3 => ex_nil ?_
  · exact ex_weak (step9 (nlt hn) w b hk hy0 hm0 fun l' σ' p => q σ' p) (le_lc ⟨rfl, rfl, rfl, rfl, rfl, rfl, rfl, trivial⟩)
  have hk0 : 0 ≤ yy % (T.d.here.length : Int) := Int.emod_nonneg _ (by omega)
  have hk1 : yy % (T.d.here.length : Int) < T.d.here.length := Int.emod_lt_of_pos _ (by omega)
  refine ex_assign (ev_pe (pe_sub (by walk_at "pe") (by walk_at "pe") (po_ii hh hk0 hk1 (by omega))) ?_)
  obtain ⟨j, hj⟩ : ∃ j : Nat, yy % (T.d.here.length : Int) = (j : Int) := ⟨(yy % (T.d.here.length : Int)).toNat, by omega⟩
  have hja : T.d.here[j]? = some (T.d.here.getD (yy % (T.d.here.length : Int)).toNat 0) := by
    rw [hj, Int.toNat_natCast]
    have h1 : j < T.d.here.length := by omega
    rw [getD_of (x := T.d.here[j]) (List.getElem?_eq_getElem h1)]
    exact List.getElem?_eq_getElem h1
  generalize T.d.here.getD (yy % (T.d.here.length : Int)).toNat 0 = a at hja ⊢
  have ha := List.mem_of_getElem? hja
  have h678 : op = 6 ∨ op = 7 ∨ op = 8 := by omega
  rcases h678 with rfl | rfl | rfl
  · exact ex_weak (step6 (nlt hn) w b hk hy0 hm0 hj hja fun l' σ' p => q σ' p) (le_lc ⟨rfl, rfl, rfl, rfl, rfl, rfl, trivial⟩)
  · exact ex_weak (step7 (nlt hn) w b hk ha fun l' σ' ⟨H', h', T', E, ea, eh, eT, w', b'⟩ => q σ' ⟨H', h', T', E, ea, eh, eT, w', b'.mono (by omega)⟩) (le_lc ⟨rfl, rfl, rfl, rfl, trivial⟩)
  · exact ex_weak (step8 (nlt hn) w b hk ha fun l' σ' p => q σ' p) (le_lc ⟨rfl, rfl, rfl, rfl, trivial⟩)
end


section
variable {W : Wd} {X : Cx} {l : Lcl} {σ : Store} {Q : MVal → Store → Prop}
/-- .. where two names lie in cells -/
theorem def_call2 {x : Str} {args : List MVal} (i : Nat) (hm : (i, x) ∈ defTab) (names : List Str) (cn dn : Str) (cv dv : MVal) (hn : X.n < 60) (hlen : args.length = names.length)
    (hbind : ∀ (rargs : List Value) doc pm an cdv ct, rargs.length = names.length → bindArgs (fnOf x x (fArgs (topS i)) (fBody (topS i)) (fScope (topS i)) .none .none doc pm an cdv ct) ⟨rargs, []⟩ = pure (names.zip rargs))
    (hnk : (names.all fun y => (fScope (topS i)).names.lookup y == some .local || (fScope (topS i)).names.lookup y == some .cell) = true)
    (hnc : ∀ n, cellsFrom n (fScope (topS i)).names [] = [(dn, n + 1), (cn, n)]) (hcd : (cn == dn) = false)
    (hco : (fScope (topS i)).isCoroutine = false) (hgen : (fScope (topS i)).isGenerator = false) (hk : (fScope (topS i)).kind = .function)
    (hcv : ∀ L cdv, mbindC (envX x (fScope (topS i)) L (W.fn i) cdv (cellsFrom (L + 1) (fScope (topS i)).names [])).kindOf (names.zip args) (fun _ => none) cn = some cv)
    (hdv : ∀ L cdv, mbindC (envX x (fScope (topS i)) L (W.fn i) cdv (cellsFrom (L + 1) (fScope (topS i)).names [])).kindOf (names.zip args) (fun _ => none) dn = some dv)
    (h : ∀ A h₀ L outer base A₀ cdv σ', Ext [] σ σ' → σ' (L + 1) = some ⟨0, .cell (some cv)⟩ → σ' (L + 1 + 1) = some ⟨0, .cell (some dv)⟩ →
      Ex W (mkCx x (fScope (topS i)) (W.fn i) (X.n + 1) A h₀ L outer base A₀ cdv) (mbindL (envX x (fScope (topS i)) L (W.fn i) cdv (cellsFrom (L + 1) (fScope (topS i)).names [])).kindOf (names.zip args) fun _ => none) σ' (fBody (topS i)) fun fl _ σ'' => Q (retOf fl) σ'') :
    OpC W X l σ (.ref (W.fn i)) args Q :=
  def_call i hm names hn hlen hbind hnk (by rw [hnc]; simp [Ne.symm (ne_of_beq_false hcd)]) hco hgen hk fun A h₀ L outer base A₀ cdv σ' C => by
    obtain ⟨h1, h2⟩ := C.at_ cn (L + 1) (by rw [hnc]; simp [List.lookup, hcd])
    obtain ⟨g1, g2⟩ := C.at_ dn (L + 1 + 1) (by rw [hnc]; simp)
    have hoff : ∀ b, b ≠ L + 1 → b ≠ L + 1 + 1 → σ' b = σ b := fun b hb hb' => C.off b (by rw [hnc]; simpa using ⟨hb', hb⟩)
    refine h A h₀ L outer base A₀ cdv σ' ⟨fun b o e _ => ?_, fun b o e => ⟨o, ?_, rfl⟩⟩ (by rw [h1, hcv]) (by rw [g1, hdv])
    all_goals
      rw [hoff b (by rintro rfl; rw [h2] at e; cases e) (by rintro rfl; rw [g2] at e; cases e)]
      exact e
end
noncomputable def gaveT (T : Td) : List Int := [0] ++ (T.rows.map fun r => vA T r.2.1) ++ [0]
theorem tgt_gave {T : Td} {rows : List Rw} (h : All2 (RowOf T) rows T.rows) : ((List.range (gaveT T).length).map fun n : Nat => tgt rows n) = gaveT T := by
  have hl := All2.len h
  have hg : (gaveT T).length = rows.length + 2 := by unfold gaveT; simp; omega
  refine List.ext_getElem (by rw [List.length_map, List.length_range]) fun i h1 h2 => ?_
  rw [List.getElem_map, List.getElem_range]
  rw [hg] at h2
  unfold tgt
  by_cases c0 : i = 0
  · subst c0
    rw [if_pos (.inl (by omega))]; rfl
  by_cases c1 : i = rows.length + 1
  · subst c1
    rw [if_pos (.inr (by omega))]
    have : (gaveT T)[rows.length + 1]? = some 0 := by
      unfold gaveT
      rw [List.getElem?_append_right (by simp; omega)]
      simp only [List.length_append, List.length_cons, List.length_nil, List.length_map]
      rw [show rows.length + 1 - (0 + 1 + T.rows.length) = 0 by omega]; rfl
    have h3 := List.getElem?_eq_getElem (l := gaveT T) (i := rows.length + 1) (by omega)
    rw [h3] at this; exact (Option.some.inj this).symm
  have hi : i - 1 < rows.length := by omega
  rw [if_neg (by omega)]
  have e1 : ((i : Int) - 1).toNat = i - 1 := by omega
  have hr : rows[i - 1]? = some rows[i - 1] := List.getElem?_eq_getElem hi
  obtain ⟨qv, hq, r⟩ := h.get hr
  rw [e1, hr]
  have hv : (gaveT T)[i] = vA T qv.2.1 := by
    have : (gaveT T)[i]? = some (vA T qv.2.1) := by
      unfold gaveT
      rw [List.getElem?_append_left (by simp; omega), List.getElem?_append_right (by simp; omega)]
      simp only [List.length_cons, List.length_nil]
      rw [List.getElem?_map, hq]; rfl
    have h3 := List.getElem?_eq_getElem (l := gaveT T) (i := i) (by omega)
    rw [h3] at this; exact Option.some.inj this
  rw [hv]
  show (if (rows[i - 1]).alive = 0 then 0 else (rows[i - 1]).addr) = _
  rcases r.kind with ⟨k1, k2, _⟩ | ⟨k1, _⟩
  · rw [if_pos (by rw [r.alive, k1]), k2, vA_neg]
  · rw [if_neg (by rw [r.alive, k1]; decide), r.addr]
theorem map_fst_zip {α β : Type} : ∀ {as : List α} {bs : List β}, as.length = bs.length → (as.zip bs).map (·.1) = as
  | [], [], _ => rfl
  | a :: as, b :: bs, h => by simp only [List.zip_cons_cons, List.map_cons]; rw [map_fst_zip (by simpa using h)]
  | [], _ :: _, h => by simp at h
  | _ :: _, [], h => by simp at h
theorem map_snd_zip {α β : Type} : ∀ {as : List α} {bs : List β}, as.length = bs.length → (as.zip bs).map (·.2) = bs
  | [], [], _ => rfl
  | a :: as, b :: bs, h => by simp only [List.zip_cons_cons, List.map_cons]; rw [map_snd_zip (by simpa using h)]
  | [], _ :: _, h => by simp at h
  | _ :: _, [], h => by simp at h
theorem all2_in_zip {α β : Type} {R : α → β → Prop} : ∀ {as : List α} {bs : List β}, All2 R as bs → ∀ p ∈ as.zip bs, R p.1 p.2
  | [], [], _, p, hp => by simp at hp
  | a :: as, b :: bs, ⟨h, t⟩, p, hp => by
    rw [List.zip_cons_cons] at hp
    rcases List.mem_cons.mp hp with rfl | hp
    · exact h
    · exact all2_in_zip t p hp
  | [], _ :: _, h, _, _ => h.elim
  | _ :: _, [], h, _, _ => h.elim
section
variable {W : Wd} {X : Cx} {l : Lcl} {σ : Store} {Q : MVal → Store → Prop} {T : Tb} {y ra : Addr} {H : Hp} {h : Hd} {k : Nat}

set_option maxHeartbeats 8000000 in
theorem c_law_same (hn : X.n < 58) (w : Lw σ H h y ra T) (q : ∀ σ', Ext [] σ σ' → Q (.bool true) σ') :
    OpC W X l σ (.ref (W.fn 89)) [.ref H.a, .ref h.a, .ref T.a] Q := by
  refine def_call2 (x := "_law_same") 89 (by decide) ["heap", "h", "w"] "h" "w" (.ref h.a) (.ref T.a) (by omega) rfl (by walk_at "b3") rfl (fun _ => rfl) rfl rfl rfl rfl (fun _ _ => rfl) (fun _ _ => rfl) ?_
  intro A h₀ L₁ outer base A₀ cdv σ0 E0 hc0 hd0
  refine ex_let3 ?_
  intro Xx ll Qq
  have hI := w.I.t
  have ok := hI.ok
  have nn := ok.n
  have n1 := ok.n1
  have rlen := ok.rlen
  have flen := ok.flen
  have w0 := w.lr.ext E0 (by decide)
  have hrl := All2.len w.w.rw
  refine ex_assign (ev_bin (ev_bin (ev_list 0 (eva_cons (ev_pe pe_int (eva_nil ⟨Nat.le_of_ble_eq_true rfl, fun D1 hD1 => ?_⟩))))))
  have w1 := w0.ext (S := []) (.new (o := ⟨0, .list [.int 0]⟩) hD1) (by decide)
  have E1 := E0.trans (Ext.new (o := ⟨0, .list [.int 0]⟩) hD1)
  have hc1 := Store.get_new (o' := ⟨0, .list [.int 0]⟩) hc0 hD1
  have hd1 := Store.get_new (o' := ⟨0, .list [.int 0]⟩) hd0 hD1
  have hl1 : (σ0.set D1 ⟨0, .list [.int 0]⟩) D1 = some ⟨0, .list [.int 0]⟩ := Store.set_self _ _ _
  generalize σ0.set D1 ⟨0, .list [.int 0]⟩ = σ1 at w1 E1 hc1 hd1 hl1
  have hw1 := w1.w.w
  have hwh1 := w1.w.whr
  have hrows1 := w1.w.rows
  have ez : (T.rw.zip T.d.rows).map (fun p => MVal.ref p.1) = T.rw.map .ref := by
    rw [← map_fst_zip hrl, List.map_map, map_fst_zip hrl]; rfl
  have hrws := all2_in_zip w1.w.rw
  have hzl : (T.rw.zip T.d.rows).length ≤ 1000 := by rw [List.length_zip]; omega
  refine ev_comp 66 [("w", L₁ + 1 + 1)] (T.rw.zip T.d.rows) (fun p => .ref p.1) (fun _ => true) (fun p => .int (vA T.d p.2.2.1)) rfl (by decide) (by decide) rfl (ev_pe (by walk_at "pe") ⟨.inl ⟨T.ao, 29, rfl, by rw [ez]; exact hrows1⟩, by omega,
    fun C p hp => rfl, fun C p hp _ => pe_sub (a := sv (if p.2.2.1 < 0 then 0 else T.d.whr.getD p.2.2.1.toNat 0)) ⟨ev_c2 79 (by decide) (pe_sub (pe_loc rfl) pe_int (po_idx (v := .int p.2.2.1) (hrws p hp) (by decide) rfl (by decide))) (by walk_at "pe") (c_law_value (nlt hn) hwh1 (by rw [n1]; exact ok.rows _ (List.of_mem_zip hp).2) (by omega) ⟨rfl, rfl⟩)⟩ pe_int (po_ti (k := 1) rfl (by decide)), fun D2 hD2 => ?_⟩)
  have eg : ((T.rw.zip T.d.rows).filter fun _ => true).map (fun p => MVal.int (vA T.d p.2.2.1)) = (T.d.rows.map fun r => vA T.d r.2.1).map .int := by
    rw [List.filter_eq_self.mpr (fun _ _ => rfl), List.map_map]
    conv => rhs; rw [← map_snd_zip hrl, List.map_map]
    rfl
  rw [eg]
  generalize hrv : (T.d.rows.map fun r => vA T.d r.2.1) = rv at hD2 ⊢
  have hrvl : rv.length ≤ 1000 := by rw [← hrv, List.length_map]; exact rlen
  refine op_listadd 67 (Store.get_new hl1 hD2) (Store.set_self _ _ _) (by rw [List.length_map]; simp; omega) fun D3 hD3 => ?_
  have E3 := (E1.trans (Ext.new (o := ⟨66, .list (rv.map .int)⟩) hD2)).trans (Ext.new (o := ⟨67, .list ([.int 0] ++ rv.map .int)⟩) hD3)
  have F3 := (Ext.new (S := []) (o := ⟨66, .list (rv.map .int)⟩) hD2).trans (Ext.new (o := ⟨67, .list ([.int 0] ++ rv.map .int)⟩) hD3)
  have hl3 : ((σ1.set D2 ⟨66, .list (rv.map .int)⟩).set D3 ⟨67, .list ([.int 0] ++ rv.map .int)⟩) D3 = some ⟨67, .list ([.int 0] ++ rv.map .int)⟩ := Store.set_self _ _ _
  generalize (σ1.set D2 ⟨66, .list (rv.map .int)⟩).set D3 ⟨67, .list ([.int 0] ++ rv.map .int)⟩ = σ3 at E3 F3 hl3
  refine ev_list 0 (eva_cons (ev_pe pe_int (eva_nil ⟨Nat.le_of_ble_eq_true rfl, fun D4 hD4 => ?_⟩)))
  refine op_listadd 68 (Store.get_new hl3 hD4) (Store.set_self _ _ _) (by simp; omega) fun D5 hD5 => ?_
  have F5 := (F3.trans (Ext.new (o := ⟨0, .list [.int 0]⟩) hD4)).trans (Ext.new (o := ⟨68, .list ([.int 0] ++ rv.map .int ++ [.int 0])⟩) hD5)
  have el5 : [MVal.int 0] ++ rv.map .int ++ [.int 0] = (gaveT T.d).map .int := by unfold gaveT; rw [hrv, List.map_append, List.map_append]; rfl
  have hl5 : ((σ3.set D4 ⟨0, .list [.int 0]⟩).set D5 ⟨68, .list ([.int 0] ++ rv.map .int ++ [.int 0])⟩) D5 = some ⟨68, .list ((gaveT T.d).map .int)⟩ := by rw [Store.set_self, el5]
  generalize (σ3.set D4 ⟨0, .list [.int 0]⟩).set D5 ⟨68, .list ([.int 0] ++ rv.map .int ++ [.int 0])⟩ = σ5 at F5 hl5
  have E5 := E1.trans F5
  have w5 := w1.ext F5 (by decide)
  have hc5 := F5.get hc1
  have hd5 := F5.get hd1
  have hw5 := w5.w.w
  obtain ⟨dx, nf, hnf, hhp5⟩ := w5.R.hp
  have hfi5 := w5.R.fi
  have hre5 := w5.R.re
  have hf5 := w5.w.fin
  have hr5 := w5.w.rdy
  have hwh5 := w5.w.whr
  have hgl : (gaveT T.d).length ≤ 1002 := by unfold gaveT; simp; omega
  have hinN : ∀ a ∈ T.d.here, InN T.d.gens.length a := ok.here
  -- the finals
  refine ex_ret (ev_and (ev_cmp (ev_pe (by walk_at "pe") (ev_comp 69 [("w", L₁ + 1 + 1)] T.d.fin .int (fun _ => true) (fun a => .int (wA T.d a)) rfl (by decide) (by decide) rfl (ev_pe (by walk_at "pe") ⟨.inl ⟨T.af, 27, rfl, hf5⟩, by omega,
    fun C a ha => rfl, fun C a ha _ => pe_sub (by walk_at "pe") (pe_loc rfl) (po_ii hwh5 (ok.fin a ha).1 (by rw [n1]; exact (ok.fin a ha).2) (by omega)), fun D6 hD6 => ?_⟩)))))
  have ef : (T.d.fin.filter fun _ => true).map (fun a => MVal.int (wA T.d a)) = H.fs.map .int := by rw [List.filter_eq_self.mpr (fun _ _ => rfl), w.I.fs, List.map_map]; rfl
  rw [ef]
  refine op2_po (po_eqd 0 (by decide) (Store.get_new hfi5 hD6) (Store.set_self _ _ _) (deq_int _)) ⟨_, rfl, ?_⟩
  rw [if_pos rfl]
  have F6 : Ext [] σ5 _ := Ext.new (o := ⟨69, .list (H.fs.map .int)⟩) hD6
  generalize σ5.set D6 ⟨69, .list (H.fs.map .int)⟩ = σ6 at F6
  have hw6 := F6.get hw5
  have hc6 := F6.get hc5
  have hd6 := F6.get hd5
  have hhp6 := F6.get hhp5
  have hre6 := F6.get hre5
  have hr6 := F6.get hr5
  have hwh6 := F6.get hwh5
  have hl6 := F6.get hl5
  -- what waits
  refine ev_and (ev_cmp (ev_pe (by walk_at "pe") (ev_comp 69 [("w", L₁ + 1 + 1)] T.d.rdy .int (fun _ => true) (fun a => sv (wA T.d a)) rfl (by decide) (by decide) rfl (ev_pe (by walk_at "pe") ⟨.inl ⟨T.ay, 28, rfl, hr6⟩, by omega,
    fun C a ha => rfl, fun C a ha _ => ⟨ev_tup (eva_cons (ev_pe (by walk_at "pe") (eva_cons (ev_pe (pe_sub (by walk_at "pe") (pe_loc rfl) (po_ii hwh6 (ok.rdy a ha).1 (by rw [n1]; exact (ok.rdy a ha).2) (by omega))) (eva_nil ⟨[.int 4, .int (wA T.d a)], rfl, Nat.le_of_ble_eq_true rfl, rfl, rfl⟩)))))⟩, fun D7 hD7 => ?_⟩))))
  have er : (T.d.rdy.filter fun _ => true).map (fun a => sv (wA T.d a)) = H.rs.map sv := by rw [List.filter_eq_self.mpr (fun _ _ => rfl), w.I.rs, List.map_map]; rfl
  rw [er]
  refine op2_po (po_eqd 1 (by decide) (Store.get_new hre6 hD7) (Store.set_self _ _ _) (deq_sv _)) ⟨_, rfl, ?_⟩
  rw [if_pos rfl]
  have F7 := F6.trans (Ext.new (o := ⟨69, .list (H.rs.map sv)⟩) hD7)
  have hc7 := Store.get_new (o' := ⟨69, .list (H.rs.map sv)⟩) hc6 hD7
  have hl7 := Store.get_new (o' := ⟨69, .list (H.rs.map sv)⟩) hl6 hD7
  generalize σ6.set D7 ⟨69, .list (H.rs.map sv)⟩ = σ7 at F7 hc7 hl7
  have hR7 := w5.hR.ext F7 (by decide)
  -- the handles
  refine ev_and1 (ev_cmp (ev_comp_range 70 [("h", L₁ + 1)] (fun _ => true) (fun n => .int (tgt h.rows n)) rfl (by decide) (by decide) rfl (by boot_fast) (ev_pe (by walk_at "pe") ⟨(gaveT T.d).length, by rw [List.length_map], by omega, fun C a ha => rfl, fun C a ha _ => ⟨ev_c2 47 (by decide) (by walk_at "pe") (pe_loc rfl) (c_target (nlt hn) hR7 ⟨rfl, rfl⟩)⟩, fun D8 hD8 => ?_⟩)))
  have et : ((List.range (gaveT T.d).length).filter fun _ => true).map (fun n : Nat => MVal.int (tgt h.rows n)) = (gaveT T.d).map .int := by
    rw [List.filter_eq_self.mpr (fun _ _ => rfl)]
    conv => rhs; rw [← tgt_gave w.I.rows, List.map_map]
    rfl
  rw [et]
  refine ev_pe (by walk_at "pe") (op2_po (po_eqd 0 (by decide) (Store.set_self _ _ _) (Store.get_new hl7 hD8) (deq_int _)) ?_)
  exact q _ (E5.trans (F7.trans (Ext.new hD8)))
end


section
variable {σ σ' σ'' : Store} {H H' : Hp} {h h' : Hd} {y ra : Addr} {T T' : Tb} {k k' : Nat}
theorem Post.ext (p : Post σ H h y ra T k σ') (E : Ext [] σ' σ'') : Post σ H h y ra T k σ'' := by
  obtain ⟨H', h', T', E1, ea, eh, eT, w, b⟩ := p
  exact ⟨H', h', T', E1.trans (E.mono (by first | decide | simp)), ea, eh, eT, w.ext E (by decide), b⟩
theorem Post.trans (E : Ext SW σ σ') (ea : H'.a = H.a) (eh : h'.a = h.a) (eT : T'.a = T.a) (p : Post σ' H' h' y ra T' k σ'') : Post σ H h y ra T k σ'' := by
  obtain ⟨H2, h2, T2, E2, ea2, eh2, eT2, w, b⟩ := p
  exact ⟨H2, h2, T2, E.trans E2, ea2.trans ea, eh2.trans eh, eT2.trans eT, w, b⟩
end
section
variable {W : Wd} {X : Cx} {l : Lcl} {σ : Store} {Q : MVal → Store → Prop} {T : Tb} {y ra z : Addr} {H : Hp} {h : Hd} {k : Nat} {xs : List Int}

set_option maxHeartbeats 8000000 in
theorem c_law_walk_l (hn : X.n < 51) (hz : σ z = some ⟨80, .list (xs.map .int)⟩) (hx : ∀ x ∈ xs, 0 ≤ x) (w : Lw σ H h y ra T) (b : Bd H T.d k) (hk : k + xs.length ≤ 29) (q : ∀ σ', Post σ H h y ra T (k + xs.length) σ' → Q (.bool true) σ') :
    OpC W X l σ (.ref (W.fn 90)) [.ref H.a, .ref y, .ref h.a, .ref T.a, .ref z] Q := by
  refine def_call0 (x := "_law_walk") 90 (by decide) ["heap", "lists", "h", "w", "row"] (nle hn) rfl (by walk_at "b5") rfl (fun _ => rfl) rfl rfl rfl ?_
  intro A h₀ L₁ outer base A₀ cdv
  refine ex_let3 ?_
  intro Xx ll Qq
  refine ex_for_l (ev_pe (by walk_at "pe") ⟨z, xs.map .int, fun _ => [("heap", .ref H.a), ("lists", .ref y), ("h", .ref h.a), ("w", .ref T.a)], fun i σ₂ => Post σ H h y ra T (k + i) σ₂, rfl, ⟨rfl, rfl, rfl, rfl, trivial⟩,
    ⟨H, h, T, .refl, rfl, rfl, rfl, w, b⟩, fun i σ₂ p => ⟨80, p.choose_spec.choose_spec.choose_spec.1.get hz⟩, ?_, ?_⟩)
  · rintro i u σ₂ hu ⟨H', h', T', E, ea, eh, eT, w', b'⟩
    obtain ⟨x, hxi, rfl⟩ := map_get hu
    have hi : i < xs.length := (List.getElem?_eq_some_iff.mp hxi).1
    try dsimp only
    rw [← ea, ← eh, ← eT]
    refine ex_if (te_or (te_not (te_val (ev_c5 88 (by decide) (by walk_at "pe") (by walk_at "pe") (by walk_at "pe") (by walk_at "pe") (by walk_at "pe") (c_law_step (nlt hn) w' b' (by omega) (hx x (List.mem_of_getElem? hxi)) fun σ3 p3 => ⟨true, rfl, ?_⟩)))))
    obtain ⟨H3, h3, T3, E3, ea3, eh3, eT3, w3, b3⟩ := p3
    rw [← ea3, ← eh3, ← eT3]
    refine te_or (te_not (te_val (ev_c3 89 (by decide) (by walk_at "pe") (by walk_at "pe") (by walk_at "pe") (c_law_same (nlt hn) w3 fun σ4 E4 => ⟨true, rfl, te_or0 (ex_nil (ex_nil ?_))⟩))))
    exact ⟨⟨by rw [ea3, ea]; rfl, rfl, by rw [eh3, eh]; rfl, by rw [eT3, eT]; rfl, trivial⟩, H3, h3, T3, E.trans (E3.trans (E4.mono (by first | decide | simp))), ea3.trans ea, eh3.trans eh, eT3.trans eT, w3.ext E4 (by decide), b3⟩
  · intro σ2 p
    try (refine ex_let2 ?_; intro lX QX)
    rw [List.length_map] at p
    exact ex_ret (ev_pe pe_bool (q σ2 p))

set_option maxHeartbeats 8000000 in
theorem c_law_walk_t (hn : X.n < 51) (hx : ∀ x ∈ xs, 0 ≤ x) (w : Lw σ H h y ra T) (b : Bd H T.d k) (hk : k + xs.length ≤ 29) (q : ∀ σ', Post σ H h y ra T (k + xs.length) σ' → Q (.bool true) σ') :
    OpC W X l σ (.ref (W.fn 90)) [.ref H.a, .ref y, .ref h.a, .ref T.a, .tup (xs.map .int)] Q := by
  refine def_call0 (x := "_law_walk") 90 (by decide) ["heap", "lists", "h", "w", "row"] (nle hn) rfl (by walk_at "b5") rfl (fun _ => rfl) rfl rfl rfl ?_
  intro A h₀ L₁ outer base A₀ cdv
  refine ex_let3 ?_
  intro Xx ll Qq
  refine ex_for_t (ev_pe (by walk_at "pe") ⟨xs.map .int, fun _ => [("heap", .ref H.a), ("lists", .ref y), ("h", .ref h.a), ("w", .ref T.a)], fun i σ₂ => Post σ H h y ra T (k + i) σ₂, rfl, ⟨rfl, rfl, rfl, rfl, trivial⟩,
    ⟨H, h, T, .refl, rfl, rfl, rfl, w, b⟩, ?_, ?_⟩)
  · rintro i u σ₂ hu ⟨H', h', T', E, ea, eh, eT, w', b'⟩
    obtain ⟨x, hxi, rfl⟩ := map_get hu
    have hi : i < xs.length := (List.getElem?_eq_some_iff.mp hxi).1
    try dsimp only
    rw [← ea, ← eh, ← eT]
    refine ex_if (te_or (te_not (te_val (ev_c5 88 (by decide) (by walk_at "pe") (by walk_at "pe") (by walk_at "pe") (by walk_at "pe") (by walk_at "pe") (c_law_step (x := x) (nlt hn) w' b' (by omega) (hx x (List.mem_of_getElem? hxi)) fun σ3 p3 => ⟨true, rfl, ?_⟩)))))
    obtain ⟨H3, h3, T3, E3, ea3, eh3, eT3, w3, b3⟩ := p3
    rw [← ea3, ← eh3, ← eT3]
    refine te_or (te_not (te_val (ev_c3 89 (by decide) (by walk_at "pe") (by walk_at "pe") (by walk_at "pe") (c_law_same (nlt hn) w3 fun σ4 E4 => ⟨true, rfl, te_or0 (ex_nil (ex_nil ?_))⟩))))
    exact ⟨⟨by rw [ea3, ea]; rfl, rfl, by rw [eh3, eh]; rfl, by rw [eT3, eT]; rfl, trivial⟩, H3, h3, T3, E.trans (E3.trans (E4.mono (by first | decide | simp))), ea3.trans ea, eh3.trans eh, eT3.trans eT, w3.ext E4 (by decide), b3⟩
  · intro σ2 p
    try (refine ex_let2 ?_; intro lX QX)
    rw [List.length_map] at p
    exact ex_ret (ev_pe pe_bool (q σ2 p))
end


noncomputable def T0 : Td := { here := [], whr := [], gens := [], slots := [], roots := [-1, -1, -1], fin := [], rdy := [], rows := [], top := 16 }
theorem init_inv {a th at_ ca fi re : Addr} : Inv (H0 a th at_ ca fi re) [] [T0.roots.map (vA T0)] T0 := by
  refine ⟨⟨⟨rfl, rfl, by decide, fun i hi => (by cases hi), by decide, fun s hs => (by cases hs), ⟨rfl, fun b hb => ?_⟩, fun b hb => (by cases hb), fun b hb => (by cases hb), by decide, fun r hr => (by cases hr), by decide⟩, List.Pairwise.nil, rfl, fun i hi => (by cases hi), List.Pairwise.nil, fun i hi => (by cases hi), fun b hb => ?_, fun b hb => (by cases hb), fun b hb => (by cases hb), fun r hr => (by cases hr), fun r hr => (by cases hr)⟩,
    ⟨List.nodup_nil, fun t ht => (by cases ht), Nat.zero_le _, Nat.zero_le _, Nat.zero_le _, fun t ht => (by cases ht), fun t ht => (by cases ht), fun t ht => (by cases ht), fun t ht => (by cases ht), fun t ht => (by cases ht)⟩, trivial, rfl, rfl, rfl, trivial, rfl, rfl, fun t ht => (by cases ht)⟩
  · have : b = -1 := by simpa [T0] using hb
    subst this; exact ⟨by decide, by decide⟩
  · have : b = -1 := by simpa [T0] using hb
    subst this; exact .inl rfl
section
variable {H : Hp} {rows : List Rw} {cs : List (List Int)} {T : Td} {g : Int} {M1 M2 L1 L2 ns : List Int}
theorem wA_asc (I : TInv T) : T.here.Pairwise fun i j => wA T i < wA T j := (chain_mono I.chain).imp fun {a b} hab => by
  have := sizeOf_pos (sA T a).length
  omega
theorem asc_mono {T : Td} {l : List Int} (h1 : l.Pairwise (· < ·)) (h2 : l.Pairwise fun i j => wA T i < wA T j) {i j : Int} (hi : i ∈ l) (hj : j ∈ l) (hij : i < j) : wA T i < wA T j := by
  induction l with
  | nil => cases hi
  | cons a r ih =>
    rw [List.pairwise_cons] at h1 h2
    rcases List.mem_cons.mp hi with e1 | hi'
    · subst e1
      rcases List.mem_cons.mp hj with e2 | hj
      · omega
      · exact h2.1 j hj
    · try (refine ex_let2 ?_; intro lX QX)
      rcases List.mem_cons.mp hj with e2 | hj'
      · try (refine ex_let2 ?_; intro lX QX)
        have := h1.1 i hi'; omega
      · exact ih h1.2 h2.2 hi' hj'
/-- what is found alive, by its words -/
theorem living_words (I : Inv H rows cs T) (hg : g ≤ 2) (hd : DrainR H.ts g (st0 H g (rootsOf H rows cs)) M1) (hL : ReachL (gA T) (sA T) g (seedsT T g) L1)
    (hd2 : DrainR H.ts g (pushs H.ts g (H.fs.filter (dead H.ts g M1)) (M1, [])) M2) (hL2 : ReachL (gA T) (sA T) g (seedsT T g ++ (T.rdy ++ T.fin.filter (pickT T g L1))) L2) (mo : MOk H.ts (M2, []))
    (hp : ns.Perm M2) (hs : ns.Pairwise (· ≤ ·)) : ns = L2.map (wA T) := by
  have hI := I.t
  have hin : ∀ i ∈ L2, i ∈ T.here := fun i hi => rch_here hI (fun a ha => by
    rcases List.mem_append.mp ha with h | h
    · exact seeds_may hI a h
    · try (refine ex_let2 ?_; intro lX QX)
      rcases List.mem_append.mp h with h | h
      · exact .inr (hI.rdy a h)
      · exact .inr (hI.fin a (List.mem_filter.mp h).1)) ((hL2.mem i).mp hi)
  have hsort : (L2.map (wA T)).Pairwise (· ≤ ·) := by
    rw [List.pairwise_map]
    refine (hL2.srt.and hL2.nd).imp_of_mem fun {a b} ha hb h => ?_
    have hlt : a < b := by have := h.1; have := h.2; omega
    have := asc_mono hI.asc (wA_asc hI) (hin a ha) (hin b hb) hlt
    omega
  refine sorted_same (hp.trans ?_) hs hsort
  have nd2 : (L2.map (wA T)).Nodup := by
    have : (L2.map (wA T)).Pairwise (· ≠ ·) := by
      rw [List.pairwise_map]
      exact hL2.nd.imp_of_mem fun {a b} ha hb h e => h (hI.inj (hin a ha) (hin b hb) e)
    exact this
  refine (List.perm_ext_iff_of_nodup mo.nd nd2).mpr fun x => ⟨fun hx => ?_, fun hx => ?_⟩
  · try (refine ex_let2 ?_; intro lX QX)
    obtain ⟨t, ht, rfl⟩ := List.mem_map.mp (mo.sub x hx)
    obtain ⟨i, hi, h⟩ := I.idxOf ht
    rw [h.addr] at hx ⊢
    exact List.mem_map.mpr ⟨i, (marks2_iff I hg hd hL hd2 hL2 hi).mp hx, rfl⟩
  · try (refine ex_let2 ?_; intro lX QX)
    obtain ⟨i, hi, rfl⟩ := List.mem_map.mp hx
    exact (marks2_iff I hg hd hL hd2 hL2 (hin i hi)).mpr hi
end


theorem ReachL.uniq {G : Int → Int} {Sl : Int → List Int} {g : Int} {s L L' : List Int} (h : ReachL G Sl g s L) (h' : ReachL G Sl g s L') : L = L' :=
  sorted_same ((List.perm_ext_iff_of_nodup h.nd h'.nd).mpr fun a => (h.mem a).trans (h'.mem a).symm) h.srt h'.srt
section
variable {W : Wd} {σ : Store} {L₁ sc fA : Addr} {n : Nat} {A A₀ : Around} {h₀ base : Heap} {outer : List Env} {cdv : Value} {Q : Flw → Lcl → Store → Prop} {rvs : List Value} {ns : List Int}

set_option maxHeartbeats 8000000 in
theorem law_body (hn : n < 49) (hys : h₀.IsList sc rvs.toArray) (hint : IntsAre rvs ns) (hlen : ns.length ≤ 63) (hc0 : σ (L₁ + 1) = some ⟨0, .cell none⟩) (q : ∀ l' σ', Q (.ret (.bool true)) l' σ') :
    Ex W (mkCx "law" (fScope (topS 91)) fA n A h₀ L₁ outer base A₀ cdv) (lc [("script", .ref sc)]) σ (fBody (topS 91)) Q := by
  refine ex_assign_comp 71 [] (ns.take 16) .int (fun _ => true) (fun a => .int (a % 99991)) rfl (by decide) (by decide) rfl rfl rfl (ev_upto_base (k := 16) 72 (pe_loc rfl) hys hint (by omega) fun D0 hD0 => ⟨.inl ⟨D0, 72, rfl, Store.set_self _ _ _⟩, by rw [List.length_take]; omega,
    fun C a ha => rfl, fun C a ha _ => by walk_at "pe", fun D hD => ?_⟩)
  have e1 : ((ns.take 16).filter fun _ => true).map (fun a => MVal.int (a % 99991)) = ((ns.take 16).map fun a => a % 99991).map .int := by rw [List.filter_eq_self.mpr (fun _ _ => rfl), List.map_map]; rfl
  rw [e1]
  have hnl : ((ns.take 16).map fun a => a % 99991).length ≤ 16 := by rw [List.length_map, List.length_take]; omega
  have hnn : ∀ x ∈ (ns.take 16).map fun a => a % 99991, 0 ≤ x := fun x hx => by
    obtain ⟨a, _, rfl⟩ := List.mem_map.mp hx
    exact Int.emod_nonneg _ (by decide)
  generalize (ns.take 16).map (fun a => a % 99991) = nums at hnl hnn ⊢
  have E1 := (Ext.new (S := []) (o := ⟨72, .list ((ns.take 16).map .int)⟩) hD0).trans (Ext.new (o := ⟨71, .list (nums.map .int)⟩) hD)
  have hD1 : ((σ.set D0 ⟨72, .list ((ns.take 16).map .int)⟩).set D ⟨71, .list (nums.map .int)⟩) D = some ⟨71, .list (nums.map .int)⟩ := Store.set_self _ _ _
  generalize (σ.set D0 ⟨72, .list ((ns.take 16).map .int)⟩).set D ⟨71, .list (nums.map .int)⟩ = σ1 at E1 hD1
  have hc1 := E1.get hc0
  -- gen
  refine ex_assign (ev_bin (ev_sub (ev_bin (ev_pe (by walk_at "pe") ?_))))
  refine ev_list 0 (eva_cons (ev_pe pe_int (eva_nil ⟨Nat.le_of_ble_eq_true rfl, fun D2 hD2 => ?_⟩)))
  refine op_listadd 0 (Store.get_new hD1 hD2) (Store.set_self _ _ _) (by rw [List.length_map]; simp; omega) fun D3 hD3 => ?_
  refine ev_pe pe_int (op2_po (po_ii (ns := nums ++ [0]) (r := 0) ?_ (by decide) (by simp) (by simp; omega)) ?_)
  · rw [Store.set_self, List.map_append]; rfl
  refine ev_pe pe_int (op2_po (po_mod (by decide)) ?_)
  have E3 := (E1.trans (Ext.new (o := ⟨0, .list [.int 0]⟩) hD2)).trans (Ext.new (o := ⟨0, .list (nums.map .int ++ [.int 0])⟩) hD3)
  have hD4 := Store.get_new (o' := ⟨0, .list (nums.map .int ++ [.int 0])⟩) (Store.get_new (o' := ⟨0, .list [.int 0]⟩) hD1 hD2) hD3
  generalize (σ1.set D2 ⟨0, .list [.int 0]⟩).set D3 ⟨0, .list (nums.map .int ++ [.int 0])⟩ = σ3 at E3 hD4
  have hg : 0 ≤ (nums ++ [0]).getD (0 : Int).toNat 0 % 3 ∧ (nums ++ [0]).getD (0 : Int).toNat 0 % 3 ≤ 2 := by omega
  generalize (nums ++ [0]).getD (0 : Int).toNat 0 % 3 = g at hg ⊢
  have hc3 := E3.get hc0
  -- the table
  refine' ex_assign_cell ?hc ?h ?hl ?hs
  case hc => rfl
  case hl => rfl
  case hs => rfl
  refine @ev_dictS W _ _ _ _ _ _ _ 20 rfl rfl (List.cons_ne_nil _ _) (Nat.le_of_ble_eq_true rfl) fun a ha => ?_
  have Ea : Ext [] σ3 (σ3.set a ⟨20, .dS []⟩) := .new ha
  have hwa : (σ3.set a ⟨20, .dS []⟩) a = some ⟨20, .dS []⟩ := Store.set_self _ _ _
  generalize σ3.set a ⟨20, .dS []⟩ = σ4 at Ea hwa
  refine @evp_cons W _ _ _ _ _ _ _ _ _ _ _ (ev_list 21 (eva_nil ⟨Nat.le_of_ble_eq_true rfl, fun a1 h1 => ?_⟩))
  refine @evp_cons W _ _ _ _ _ _ _ _ _ _ _ (ev_list 22 (eva_nil ⟨Nat.le_of_ble_eq_true rfl, fun a2 h2 => ?_⟩))
  refine @evp_cons W _ _ _ _ _ _ _ _ _ _ _ (ev_list 23 (eva_nil ⟨Nat.le_of_ble_eq_true rfl, fun a3 h3 => ?_⟩))
  refine @evp_cons W _ _ _ _ _ _ _ _ _ _ _ (ev_list 24 (eva_nil ⟨Nat.le_of_ble_eq_true rfl, fun a4 h4 => ?_⟩))
  refine @evp_cons W _ _ _ _ _ _ _ _ _ _ _ (ev_list 26 (eva_cons (ev_pe (pe_neg pe_int) (eva_cons (ev_pe (pe_neg pe_int) (eva_cons (ev_pe (pe_neg pe_int) (eva_nil ⟨Nat.le_of_ble_eq_true rfl, fun a5 h5 => ?_⟩))))))))
  refine @evp_cons W _ _ _ _ _ _ _ _ _ _ _ (ev_list 27 (eva_nil ⟨Nat.le_of_ble_eq_true rfl, fun a6 h6 => ?_⟩))
  refine @evp_cons W _ _ _ _ _ _ _ _ _ _ _ (ev_list 28 (eva_nil ⟨Nat.le_of_ble_eq_true rfl, fun a7 h7 => ?_⟩))
  refine @evp_cons W _ _ _ _ _ _ _ _ _ _ _ (ev_list 29 (eva_nil ⟨Nat.le_of_ble_eq_true rfl, fun a8 h8 => ?_⟩))
  refine @evp_cons W _ _ _ _ _ _ _ _ _ _ _ (ev_pe pe_int ?_)
  refine @evp_nil W _ _ _ _ _ ?_
  have k0 : ((((((((σ4.set a1 ⟨21, .list []⟩).set a2 ⟨22, .list []⟩).set a3 ⟨23, .list []⟩).set a4 ⟨24, .list []⟩).set a5 ⟨26, .list [.int (-1), .int (-1), .int (-1)]⟩).set a6 ⟨27, .list []⟩).set a7 ⟨28, .list []⟩).set a8 ⟨29, .list []⟩) a = some ⟨20, .dS []⟩ := by walk_at "st"
  have k1 : ((((((((σ4.set a1 ⟨21, .list []⟩).set a2 ⟨22, .list []⟩).set a3 ⟨23, .list []⟩).set a4 ⟨24, .list []⟩).set a5 ⟨26, .list [.int (-1), .int (-1), .int (-1)]⟩).set a6 ⟨27, .list []⟩).set a7 ⟨28, .list []⟩).set a8 ⟨29, .list []⟩) a1 = some ⟨21, .list []⟩ := by walk_at "st"
  have k2 : ((((((((σ4.set a1 ⟨21, .list []⟩).set a2 ⟨22, .list []⟩).set a3 ⟨23, .list []⟩).set a4 ⟨24, .list []⟩).set a5 ⟨26, .list [.int (-1), .int (-1), .int (-1)]⟩).set a6 ⟨27, .list []⟩).set a7 ⟨28, .list []⟩).set a8 ⟨29, .list []⟩) a2 = some ⟨22, .list []⟩ := by walk_at "st"
  have k3 : ((((((((σ4.set a1 ⟨21, .list []⟩).set a2 ⟨22, .list []⟩).set a3 ⟨23, .list []⟩).set a4 ⟨24, .list []⟩).set a5 ⟨26, .list [.int (-1), .int (-1), .int (-1)]⟩).set a6 ⟨27, .list []⟩).set a7 ⟨28, .list []⟩).set a8 ⟨29, .list []⟩) a3 = some ⟨23, .list []⟩ := by walk_at "st"
  have k4 : ((((((((σ4.set a1 ⟨21, .list []⟩).set a2 ⟨22, .list []⟩).set a3 ⟨23, .list []⟩).set a4 ⟨24, .list []⟩).set a5 ⟨26, .list [.int (-1), .int (-1), .int (-1)]⟩).set a6 ⟨27, .list []⟩).set a7 ⟨28, .list []⟩).set a8 ⟨29, .list []⟩) a4 = some ⟨24, .list []⟩ := by walk_at "st"
  have k5 : ((((((((σ4.set a1 ⟨21, .list []⟩).set a2 ⟨22, .list []⟩).set a3 ⟨23, .list []⟩).set a4 ⟨24, .list []⟩).set a5 ⟨26, .list [.int (-1), .int (-1), .int (-1)]⟩).set a6 ⟨27, .list []⟩).set a7 ⟨28, .list []⟩).set a8 ⟨29, .list []⟩) a5 = some ⟨26, .list [.int (-1), .int (-1), .int (-1)]⟩ := by walk_at "st"
  have k6 : ((((((((σ4.set a1 ⟨21, .list []⟩).set a2 ⟨22, .list []⟩).set a3 ⟨23, .list []⟩).set a4 ⟨24, .list []⟩).set a5 ⟨26, .list [.int (-1), .int (-1), .int (-1)]⟩).set a6 ⟨27, .list []⟩).set a7 ⟨28, .list []⟩).set a8 ⟨29, .list []⟩) a6 = some ⟨27, .list []⟩ := by walk_at "st"
  have k7 : ((((((((σ4.set a1 ⟨21, .list []⟩).set a2 ⟨22, .list []⟩).set a3 ⟨23, .list []⟩).set a4 ⟨24, .list []⟩).set a5 ⟨26, .list [.int (-1), .int (-1), .int (-1)]⟩).set a6 ⟨27, .list []⟩).set a7 ⟨28, .list []⟩).set a8 ⟨29, .list []⟩) a7 = some ⟨28, .list []⟩ := by walk_at "st"
  have k8 : ((((((((σ4.set a1 ⟨21, .list []⟩).set a2 ⟨22, .list []⟩).set a3 ⟨23, .list []⟩).set a4 ⟨24, .list []⟩).set a5 ⟨26, .list [.int (-1), .int (-1), .int (-1)]⟩).set a6 ⟨27, .list []⟩).set a7 ⟨28, .list []⟩).set a8 ⟨29, .list []⟩) a8 = some ⟨29, .list []⟩ := by walk_at "st"
  have F8 : Ext [] σ4 ((((((((σ4.set a1 ⟨21, .list []⟩).set a2 ⟨22, .list []⟩).set a3 ⟨23, .list []⟩).set a4 ⟨24, .list []⟩).set a5 ⟨26, .list [.int (-1), .int (-1), .int (-1)]⟩).set a6 ⟨27, .list []⟩).set a7 ⟨28, .list []⟩).set a8 ⟨29, .list []⟩) :=
    (((((((Ext.new h1).trans (.new h2)).trans (.new h3)).trans (.new h4)).trans (.new h5)).trans (.new h6)).trans (.new h7)).trans (.new h8)
  show DicS 20 a _ _ ((((((((σ4.set a1 ⟨21, .list []⟩).set a2 ⟨22, .list []⟩).set a3 ⟨23, .list []⟩).set a4 ⟨24, .list []⟩).set a5 ⟨26, .list [.int (-1), .int (-1), .int (-1)]⟩).set a6 ⟨27, .list []⟩).set a7 ⟨28, .list []⟩).set a8 ⟨29, .list []⟩)
  generalize ((((((((σ4.set a1 ⟨21, .list []⟩).set a2 ⟨22, .list []⟩).set a3 ⟨23, .list []⟩).set a4 ⟨24, .list []⟩).set a5 ⟨26, .list [.int (-1), .int (-1), .int (-1)]⟩).set a6 ⟨27, .list []⟩).set a7 ⟨28, .list []⟩).set a8 ⟨29, .list []⟩) = σ5 at k0 k1 k2 k3 k4 k5 k6 k7 k8 F8
  clear h1 h2 h3 h4 h5 h6 h7 h8
  have E5 := (E3.trans Ea).trans F8
  have hc5 := E5.get hc0
  have hnd : List.Nodup [("here" : Str), "where", "gens", "slots", "roots", "finals", "ready", "rows", "top"] := by decide
  refine ⟨k0, hnd, ?_⟩
  refine ⟨0, none, Store.get_role hc5 k0 (by decide), ?_⟩
  have ET : Ext [20] σ5 (σ5.set a ⟨20, .dS (Tb.kv ⟨T0, a, a1, a2, a3, a4, a5, a6, a7, a8, [], []⟩)⟩) := .set k0 (by decide)
  have wr0 : WRep (σ5.set a ⟨20, .dS (Tb.kv ⟨T0, a, a1, a2, a3, a4, a5, a6, a7, a8, [], []⟩)⟩) ⟨T0, a, a1, a2, a3, a4, a5, a6, a7, a8, [], []⟩ :=
    ⟨Store.set_self _ _ _, ET.get k1, ET.get k2, ET.get k3, ET.get k4, trivial, ET.get k5, ET.get k6, ET.get k7, ET.get k8, trivial, ⟨List.nodup_nil, List.nodup_nil⟩⟩
  have hc6 := ET.get hc5
  have hnums6 := (ET.get (F8.get (Ea.get hD4)))
  show Ex W _ _ ((σ5.set a ⟨20, .dS (Tb.kv ⟨T0, a, a1, a2, a3, a4, a5, a6, a7, a8, [], []⟩)⟩).set (L₁ + 1) ⟨0, .cell (some (.ref a))⟩) _ _
  generalize σ5.set a ⟨20, .dS (Tb.kv ⟨T0, a, a1, a2, a3, a4, a5, a6, a7, a8, [], []⟩)⟩ = σ6 at wr0 hc6 hnums6
  clear ET k0 k1 k2 k3 k4 k5 k6 k7 k8 hc5 E5 F8 hwa Ea hD4 E3 hnd
  generalize hT : (⟨T0, a, a1, a2, a3, a4, a5, a6, a7, a8, [], []⟩ : Tb) = T at wr0
  have hTa : T.a = a := by rw [← hT]
  have hTd : T.d = T0 := by rw [← hT]
  clear hT
  have EC : Ext [0] σ6 (σ6.set (L₁ + 1) ⟨0, .cell (some (.ref a))⟩) := .set hc6 (by decide)
  have wr1 := wr0.ext EC (by decide)
  have hc7 : (σ6.set (L₁ + 1) ⟨0, .cell (some (.ref a))⟩) (L₁ + 1) = some ⟨0, .cell (some (.ref a))⟩ := Store.set_self _ _ _
  have hnums7 := EC.get hnums6
  generalize σ6.set (L₁ + 1) ⟨0, .cell (some (.ref a))⟩ = σ7 at wr1 hc7 hnums7
  clear EC wr0 hc6 hnums6
  -- the heap, the roots, the handles
  refine ex_assign (ev_new .heap rfl (eva_cons (ev_pe pe_int (eva_cons (ev_pe pe_int (eva_nil ?_))))))
  refine c_Heap (nle hn) fun σ8 ha hth hat hca hfi hre E8 R8 => ?_
  have wr8 := wr1.ext E8 (by decide)
  have hc8 := E8.get hc7
  have hnums8 := E8.get hnums7
  refine ex_assign (ev_list 12 (eva_cons (ev_list 13 ?_)))
  refine eva_cons (ev_tup (eva_cons (ev_pe (by walk_at "pe") (eva_cons (ev_pe pe_int (eva_nil ⟨[.int 4, .int 0], rfl, Nat.le_of_ble_eq_true rfl, ?_⟩))))))
  refine eva_cons (ev_tup (eva_cons (ev_pe (by walk_at "pe") (eva_cons (ev_pe pe_int (eva_nil ⟨[.int 4, .int 0], rfl, Nat.le_of_ble_eq_true rfl, ?_⟩))))))
  refine eva_cons (ev_tup (eva_cons (ev_pe (by walk_at "pe") (eva_cons (ev_pe pe_int (eva_nil ⟨[.int 4, .int 0], rfl, Nat.le_of_ble_eq_true rfl, ?_⟩))))))
  refine eva_nil ⟨Nat.le_of_ble_eq_true rfl, fun ra hra => eva_nil ⟨Nat.le_of_ble_eq_true rfl, fun y hy => ?_⟩⟩
  have G9 : Ext [] σ8 ((σ8.set ra ⟨13, .list [sv 0, sv 0, sv 0]⟩).set y ⟨12, .list [.ref ra]⟩) := (Ext.new hra).trans (.new hy)
  have ro9 : Roots ((σ8.set ra ⟨13, .list [sv 0, sv 0, sv 0]⟩).set y ⟨12, .list [.ref ra]⟩) y [ra] [[0, 0, 0]] :=
    ⟨Store.set_self _ _ _, ⟨⟨13, by decide, Store.get_new (Store.set_self _ _ _) hy⟩, trivial⟩, by simp, by simp, fun c hc => by simp at hc; subst hc; decide⟩
  show Ex W _ _ ((σ8.set ra ⟨13, .list [sv 0, sv 0, sv 0]⟩).set y ⟨12, .list [.ref ra]⟩) _ _
  generalize (σ8.set ra ⟨13, .list [sv 0, sv 0, sv 0]⟩).set y ⟨12, .list [.ref ra]⟩ = σ9 at G9 ro9
  refine ex_assign (ev_new .handles rfl (eva_nil ?_))
  refine c_Handles (nle hn) fun σ10 hA rl E10 hR => ?_
  have F10 := G9.trans E10
  have hc10 := F10.get hc8
  have hnums10 := F10.get hnums8
  have w10 : Lw σ10 (H0 ha hth hat hca hfi hre) ⟨hA, rl, []⟩ y ra T := by
    refine ⟨R8.ext F10 (by decide), hR, ?_, wr8.ext F10 (by decide), ?_⟩
    · rw [hTd]; exact ro9.ext E10
    · rw [hTd]; exact init_inv
  have b10 : Bd (H0 ha hth hat hca hfi hre) T.d 0 := by rw [hTd]; exact ⟨Nat.le_refl _, Nat.le_refl _, Nat.le_refl _, Nat.zero_le _⟩
  clear R8 wr8 hc8 hnums8 G9 ro9 E10 hR F10 hra hy
  -- the first walk
  refine ex_if (te_not (te_val ?_))
  refine ev_def 90 (by decide) (eva_cons (ev_pe (by walk_at "pe") (eva_cons (ev_pe (by walk_at "pe") (eva_cons (ev_pe (by walk_at "pe") ?_)))))) 
  rw [← hTa] at hc10
  refine eva_cons (ev_pe (by walk_at "pe") (eva_cons (ev_bin ?_)))
  have hbf : ([216, 216, 624, 74, 86, 38, 50, 5] : List Int).length = 8 := rfl
  have hbn : ∀ x ∈ ([216, 216, 624, 74, 86, 38, 50, 5] : List Int), 0 ≤ x := by decide
  refine ev_comp 73 [] (([216, 216, 624, 74, 86, 38, 50, 5] : List Int).map Atom.int) Atom.val (fun _ => true) Atom.val rfl (by decide) (by decide) rfl (ev_pe (pe_gtup (fun k => k.before)) ⟨.inr ⟨_, rfl, rfl⟩, by decide, fun C a ha => rfl, fun C a ha _ => pe_loc rfl, fun D5 hD5 => ?_⟩)
  have eb : ((([216, 216, 624, 74, 86, 38, 50, 5] : List Int).map Atom.int).filter fun _ => true).map Atom.val = ([216, 216, 624, 74, 86, 38, 50, 5] : List Int).map .int := rfl
  rw [eb]
  generalize ([216, 216, 624, 74, 86, 38, 50, 5] : List Int) = bf at hbf hbn
  refine ev_pe (by walk_at "pe") (op_listadd 80 (Store.set_self _ _ _) (Store.get_new hnums10 hD5) (by rw [List.length_map, List.length_map]; omega) fun D6 hD6 => eva_nil ?_)
  have G6 : Ext [] σ10 ((σ10.set D5 ⟨73, .list (bf.map .int)⟩).set D6 ⟨80, .list (bf.map .int ++ nums.map .int)⟩) := (Ext.new hD5).trans (.new hD6)
  have hz : ((σ10.set D5 ⟨73, .list (bf.map .int)⟩).set D6 ⟨80, .list (bf.map .int ++ nums.map .int)⟩) D6 = some ⟨80, .list ((bf ++ nums).map .int)⟩ := by rw [Store.set_self, List.map_append]
  generalize (σ10.set D5 ⟨73, .list (bf.map .int)⟩).set D6 ⟨80, .list (bf.map .int ++ nums.map .int)⟩ = σ11 at G6 hz
  have hc11 := G6.get hc10
  have hbl : (bf ++ nums).length ≤ 24 := by rw [List.length_append]; omega
  refine c_law_walk_l (H := H0 ha hth hat hca hfi hre) (h := ⟨hA, rl, []⟩) (T := T) (k := 0) (nle hn) hz (fun x hx => (List.mem_append.mp hx).elim (hbn x) (hnn x)) (w10.ext G6 (by decide)) b10 (by omega) fun σ12 ⟨H', h', T', E', ea, eh, eT, w', b'⟩ => ⟨true, rfl, ex_nil ?_⟩
  have hc12 := E'.get hc11
  have ea : H'.a = ha := ea
  have eh : h'.a = hA := eh
  rw [← eT] at hc12
  rw [← ea, ← eh]
  clear ea eh eT E' hc11 hz G6 b10 w10 hc10 hnums10 hD5 hD6 eb hbn hnn hTa hTd
  generalize hkk : 0 + (bf ++ nums).length = kk at b'
  -- what is alive
  have hok := w'.I.t.ok
  refine ex_assign (ev_c4 73 (by decide) (by walk_at "pe") (by walk_at "pe") (by walk_at "pe") (by walk_at "pe") ?_)
  refine c_find_living (nle hn) w'.R w'.I.ok w'.hR w'.ro (roots_wrd w'.I) fun σ13 m K M1 M2 E13 d1 d2 m1 m2 R13 hR13 hm => ?_
  have hc13 := E13.get hc12
  have wr13 := w'.w.ext E13 (by decide)
  have ro13 := w'.ro.ext E13
  obtain ⟨L1, hL1⟩ := reach1 w'.I hg.2 d1
  obtain ⟨L2, hL2⟩ := reach2 w'.I hg.2 d1 hL1 d2
  have I13 := liv_inv (K := K) w'.I hg.2 d1 hL1 d2 hL2
  have hM2 : M2.length ≤ 60 := Nat.le_trans m2.len w'.I.ok.num
  refine ex_if (te_or (te_cmp (ev_sorted (ev_pe (by walk_at "pe") (call_sorted_d 74 hm (by first | exact lenm (by omega) | (rw [List.length_map]; omega)) fun D7 ns' hD7 hp hs => ?_)))))
  rw [mkv_keys] at hp
  have ew := living_words w'.I hg.2 d1 hL1 d2 hL2 m2 hp hs
  have G14 : Ext [] σ13 (σ13.set D7 ⟨74, .list (ns'.map .int)⟩) := .new hD7
  have hD14 : (σ13.set D7 ⟨74, .list (ns'.map .int)⟩) D7 = some ⟨74, .list (ns'.map .int)⟩ := Store.set_self _ _ _
  generalize σ13.set D7 ⟨74, .list (ns'.map .int)⟩ = σ14 at G14 hD14
  have wr14 := wr13.ext G14 (by decide)
  have hw14 := wr14.w
  have hc14 := G14.get hc13
  have hL2l : L2.length ≤ 60 := by
    have h1 := congrArg List.length ew
    rw [List.length_map, hp.length_eq] at h1; omega
  refine ev_comp 75 [("w", L₁ + 1)] L2 .int (fun _ => true) (fun a => .int (wA T'.d a)) rfl (by decide) (by decide) rfl (ev_c2 82 (by decide) (by walk_at "pe") (by walk_at "pe") (c_law_living (nle hn) wr14 hok fun σ15 T2 F L1' L2' E15 hTa2 hTd2 W2 hF hL1' hL2' => ?_))
  have u1 := hL1.uniq hL1'
  subst u1
  have u2 := hL2.uniq hL2'
  subst u2
  have hc15 := E15.get hc14
  rw [← hTa2] at hc15
  have hw15 := W2.w
  have hwh15 := W2.whr
  have ewh : T2.d.whr = T'.d.whr := by rw [hTd2]; rfl
  rw [ewh] at hwh15
  have hlw : T'.d.whr.length = T'.d.gens.length := hok.n1
  have hnn2 := hok.n
  have hD15 := E15.get hD14
  have hL2in : ∀ i ∈ L2, InN T'.d.gens.length i := fun i hi => hok.here i (rch_here w'.I.t (fun a ha => by
      rcases List.mem_append.mp ha with h | h
      · exact seeds_may w'.I.t a h
      · try (refine ex_let2 ?_; intro lX QX)
        rcases List.mem_append.mp h with h | h
        · exact .inr (w'.I.t.rdy a h)
        · exact .inr (w'.I.t.fin a (List.mem_filter.mp h).1)) ((hL2.mem i).mp hi))
  refine ⟨.inl ⟨F, 63, rfl, hF⟩, by omega, fun C i hi => rfl, fun C i hi _ => ?_, fun D8 hD8 => ?_⟩
  · exact pe_sub (by walk_at "pe") (pe_loc rfl) (po_ii hwh15 (hL2in i hi).1 (by rw [hlw]; exact (hL2in i hi).2) (by omega))
  have e8 : (L2.filter fun _ => true).map (fun a => MVal.int (wA T'.d a)) = ns'.map .int := by rw [List.filter_eq_self.mpr (fun _ _ => rfl), ew, List.map_map]; rfl
  rw [e8]
  refine op2_po (po_ned 0 (by decide) (Store.get_new hD15 hD8) (Store.set_self _ _ _) (deq_int _)) ⟨false, rfl, ?_⟩
  have F15 : Ext [] σ15 (σ15.set D8 ⟨75, .list (ns'.map .int)⟩) := .new hD8
  generalize σ15.set D8 ⟨75, .list (ns'.map .int)⟩ = σ16 at F15
  have hc16 := F15.get hc15
  have w16 : Lw σ16 (livH H' g M1 K) { h' with rows := livR H' g M1 M2 h'.rows } y ra T2 := by
    have E16 := (G14.mono (S' := [20, 27, 28, 30]) (by first | decide | simp)).trans (E15.trans (F15.mono (by first | decide | simp)))
    refine ⟨R13.ext E16 (by decide), hR13.ext E16 (by decide), ?_, W2.ext F15 (by decide), ?_⟩
    · rw [hTd2]; exact ro13.ext E16
    · rw [hTd2]; exact I13
  have b16 : Bd (livH H' g M1 K) T2.d kk := by
    rw [hTd2]
    exact ⟨b'.gens, by rw [livD_rows]; exact b'.rows, by rw [livD_fin]; exact b'.fin, b'.cs⟩
  have hw16 := w16.w.w
  show Te W _ _ σ16 _ _
  refine te_or (te_not (te_val ?_))
  refine ev_c3 89 (by decide) (by walk_at "pe") (by walk_at "pe") (by walk_at "pe") (c_law_same (H := livH H' g M1 K) (h := { h' with rows := livR H' g M1 M2 h'.rows }) (nle hn) w16 fun σ17 E17 => ⟨true, rfl, te_or0 (ex_nil ?_)⟩)
  have hc17 := E17.get hc16
  have w17 := w16.ext E17 (by decide)
  refine ex_ret (ev_def 90 (by decide) (eva_cons (ev_pe (by walk_at "pe") (eva_cons (ev_pe (by walk_at "pe") ?_)))))
  refine eva_cons (ev_pe (by walk_at "pe") (eva_cons (ev_pe (by walk_at "pe") ?_)))
  refine eva_cons (ev_pe (pe_gtup (fun k => k.after)) (eva_nil ?_))
  exact c_law_walk_t (xs := [10, 21, 22, 5, 34]) (H := livH H' g M1 K) (h := { h' with rows := livR H' g M1 M2 h'.rows }) (nle hn) (by decide) w17 b16 (by simp; omega) fun σ18 _ => q _ _
end

noncomputable def wdOf (q : Program) (loose : List Str) (w : World) (K : Frag) (mg mb : Str → Option Value) : Wd :=
  { prog := PySem.Challenge.rw_qd0037_01.row.prog, w := w, K := K, p := q, loose := loose, mg := mg, mb := mb, cls := fun C => refOf K C.name,
    fn := fun i => match defTab.lookup i with | some x => refOf K x | none => 0, ini := iniOf K }
theorem lookup_nodup {α : Type} : ∀ {l : List (Nat × α)}, (l.map (·.1)).Nodup → ∀ p ∈ l, l.lookup p.1 = some p.2
  | [], _, p, h => (by cases h)
  | (a, x) :: r, nd, p, h => by
    rw [List.map_cons, List.nodup_cons] at nd
    rcases List.mem_cons.mp h with rfl | h
    · simp
    · have : p.1 ≠ a := fun e => nd.1 (e ▸ List.mem_map.mpr ⟨p, h, rfl⟩)
      rw [List.lookup_cons, beq_eq_false_iff_ne.mpr this]; exact lookup_nodup nd.2 p h
theorem fnSees_at {q : Program} {loose : List Str} {w : World} {K : Frag} {mg mb : Str → Option Value} {a : Addr} {n qual : Str} {ps : Arguments} {b : List Stmt} {sc : Scope} (e : fnSees K a qual = some (fnOf0 n qual ps b sc, true)) : FnAt (wdOf q loose w K mg mb) a n qual ps b sc := by
  unfold fnSees at e
  split at e
  · rename_i oc od f osl hk
    have e' := Option.some.inj e
    have e1 := of_blank (Prod.mk.inj e').1
    have e2 := (Prod.mk.inj e').2
    exact ⟨oc, od, osl, f.doc, f.pyModule, f.annotations, f.code, f.closureTuple, by rw [← e1]; exact hk, e2⟩
  · cases e
theorem tupSees_at {q : Program} {loose : List Str} {w : World} {K : Frag} {mg mb : Str → Option Value} {x : Str} {xs : List Int} (e : tupSees K x = some (.type "tuple", xs.map some, #[])) : TupOk (wdOf q loose w K mg mb) x xs := by
  unfold tupSees at e
  split at e
  · rename_i a hn
    split at e
    · rename_i c oc items n sl hk
      have e' := Option.some.inj e
      obtain ⟨rfl, e2⟩ := Prod.mk.inj e'
      obtain ⟨e3, rfl⟩ := Prod.mk.inj e2
      refine ⟨a, oc, n, items, hn, hk, ?_⟩
      have : ∀ (vs : List Value) (xs : List Int), vs.map intOf? = xs.map some → All2 AMatch (xs.map .int) vs := by
        intro vs
        induction vs with
        | nil => intro xs h; cases xs with | nil => trivial | cons _ _ => cases h
        | cons v r ih =>
          intro xs h
          cases xs with
          | nil => cases h
          | cons i t =>
            simp only [List.map_cons, List.cons.injEq] at h
            refine ⟨?_, ih t h.2⟩
            cases v with
            | int j u => have := h.1; simp only [intOf?, Option.some.injEq] at this; subst this; exact ⟨u, rfl⟩
            | _ => cases h.1
      exact this _ _ e3
    · cases e
  · cases e
theorem kok_of {q : Program} {loose : List Str} {w : World} {K : Frag} {mg mb : Str → Option Value} (e : sees K = good) : KOk (wdOf q loose w K mg mb) := by
  have e1 := (Prod.mk.inj e).1
  have e2 := (Prod.mk.inj (Prod.mk.inj e).2).1
  have e3 := (Prod.mk.inj (Prod.mk.inj (Prod.mk.inj e).2).2).1
  have e4 := (Prod.mk.inj (Prod.mk.inj (Prod.mk.inj (Prod.mk.inj e).2).2).2).1
  have e5 := (Prod.mk.inj (Prod.mk.inj (Prod.mk.inj (Prod.mk.inj (Prod.mk.inj e).2).2).2).2).1
  have e6 := (Prod.mk.inj (Prod.mk.inj (Prod.mk.inj (Prod.mk.inj (Prod.mk.inj (Prod.mk.inj e).2).2).2).2).2).1
  have e7 := (Prod.mk.inj (Prod.mk.inj (Prod.mk.inj (Prod.mk.inj (Prod.mk.inj (Prod.mk.inj e).2).2).2).2).2).2
  have hC : ∀ C : Cls, C ∈ clss := fun C => by cases C <;> simp [clss]
  refine ⟨fun C a ha => ?_, fun p hp => ?_, fun C => ?_, fun p hp => ?_, fun x hx => ?_, tupSees_at e6, tupSees_at e7⟩
  · have h := List.map_inj_left.mp (List.map_inj_left.mp e3 C (hC C)) a ha
    obtain ⟨h1, h⟩ := Prod.mk.inj h
    obtain ⟨h2, h⟩ := Prod.mk.inj h
    obtain ⟨h3, h⟩ := Prod.mk.inj h
    obtain ⟨h4, h⟩ := Prod.mk.inj h
    obtain ⟨h5, h6⟩ := Prod.mk.inj h
    refine ⟨h1, h2, ?_, h4, h5, h6⟩
    split at h3
    · rename_i at_ hf; exact ⟨at_, hf, h3⟩
    · cases h3
  · have h := List.map_inj_left.mp e1 p hp
    obtain ⟨h1, h⟩ := Prod.mk.inj h
    obtain ⟨h2, h3⟩ := Prod.mk.inj h
    have hf : (wdOf q loose w K mg mb).fn p.1 = refOf K p.2 := by
      show (match defTab.lookup p.1 with | some x => refOf K x | none => 0) = _
      rw [lookup_nodup (by decide) p hp]
    exact ⟨by rw [hf]; exact refOf_ns h1, by rw [hf]; exact h2, by rw [hf]; exact fnSees_at h3⟩
  · have h := List.map_inj_left.mp e2 C (hC C)
    obtain ⟨h1, h⟩ := Prod.mk.inj h
    obtain ⟨h2, h⟩ := Prod.mk.inj h
    obtain ⟨h3, h⟩ := Prod.mk.inj h
    obtain ⟨h4, h⟩ := Prod.mk.inj h
    obtain ⟨h5, h6⟩ := Prod.mk.inj h
    refine ⟨refOf_ns h1, h2, h3, ?_, h5, fnSees_at h6⟩
    show findIn K (.ref (refOf K C.name)) "__init__" = some (some (.ref (iniOf K C)))
    split at h4
    · rename_i a hf; unfold iniOf; rw [hf]
    · cases h4
  · have h := List.map_inj_left.mp e4 p hp
    unfold intSees at h
    split at h
    · rename_i i t hn
      have h := Option.some.inj h
      exact ⟨t, by rw [← h]; exact hn⟩
    · cases h
  · exact List.map_inj_left.mp e5 x hx

theorem law_run {q : Program} {loose : List Str} {w : World} {s₁ : Shared} {mg mb : Str → Option Value} {K : Frag} (hK : K.In s₁.heap) (hs : sees K = good) (T : TopRead q loose mg mb s₁.heap) (K0 : Below callerA s₁.heap [] s₁.heap) {fa sc : Addr} {cd : Value}
    {rvs : List Value} {ns : List Int} (hL : s₁.heap.IsList sc rvs.toArray) (hI : IntsAre rvs ns) (hlen : ns.length ≤ 63) {h₁ : Heap} {tk₁ : Nat} {mL : Str → Option Value} (F : Fr s₁.heap s₁.heap.objs.size h₁ mL) (hm : mL "script" = some (.ref sc))
    {ob : Obj} (hob : ob.data = .cell none) (N0 : News s₁.heap s₁.heap.objs.size h₁ [(s₁.heap.objs.size + 1, ob)]) (hg : s₁.gens = #[]) {Q : Flow → Shared → Prop} {E : Value → Shared → Prop}
    (hQ : ∀ s' m', Fr s₁.heap s₁.heap.objs.size s'.heap m' → s'.gens = #[] → s'.os = s₁.os → Q (.ret (.bool true)) s') :
    wpAny (model PySem.Challenge.rw_qd0037_01.row.prog w) (callerA.deeper (envX "law" (fScope (topS 91)) s₁.heap.objs.size fa cd (cellsFrom (s₁.heap.objs.size + 1) (fScope (topS 91)).names [])))
      (execs (fBody (topS 91)) (envX "law" (fScope (topS 91)) s₁.heap.objs.size fa cd (cellsFrom (s₁.heap.objs.size + 1) (fScope (topS 91)).names []))) Q E { heap := h₁, gens := s₁.gens, drawn := s₁.drawn, toks := tk₁, os := s₁.os } := by
  have none_at : ∀ a, s₁.heap.objs.size ≤ a → s₁.heap.get? a = none := fun a ha => by
    cases e : s₁.heap.get? a with
    | none => rfl
    | some o => exact absurd (Nat.lt_of_lt_of_le (Heap.lt_size e) ha) (Nat.lt_irrefl _)
  have kok := kok_of (q := q) (loose := loose) (w := w) (mg := mg) (mb := mb) hs
  generalize hW : wdOf q loose w K mg mb = W at kok
  have hWM : model PySem.Challenge.rw_qd0037_01.row.prog w = W.M := by rw [← hW]; rfl
  have hWK : W.K = K := by rw [← hW]; rfl
  have hWp : W.p = q := by rw [← hW]; rfl
  have hWl : W.loose = loose := by rw [← hW]; rfl
  have hWg : W.mg = mg := by rw [← hW]; rfl
  have hWb : W.mb = mb := by rw [← hW]; rfl
  rw [hWM]
  generalize hLe : s₁.heap.objs.size = L at *
  let X : Cx := mkCx "law" (fScope (topS 91)) fa 1 (callerA.deeper (envX "law" (fScope (topS 91)) L fa cd (cellsFrom (L + 1) (fScope (topS 91)).names []))) s₁.heap L [] s₁.heap callerA cd
  let σ : Store := fun a => if a = L + 1 then some ⟨0, .cell none⟩ else none
  have hσ : ∀ a o, σ a = some o → a = L + 1 ∧ o = ⟨0, .cell none⟩ := fun a o e => by
    by_cases c : a = L + 1
    · have : σ a = some ⟨0, .cell none⟩ := if_pos c
      rw [this] at e; cases e; exact ⟨c, rfl⟩
    · have : σ a = none := if_neg c
      rw [this] at e; cases e
  have hfoot : ∀ a, Foot σ a → a = L + 1 := fun a hf => by
    rcases hf with hf | ⟨x, r, C, nf, fs, hx⟩
    · obtain ⟨o, ho⟩ := Option.isSome_iff_exists.mp hf
      exact (hσ a o ho).1
    · have := (hσ _ _ hx).2; cases this
  have ok : Ok W X := by
    refine ⟨kok, rfl, rfl, rfl, rfl, rfl, rfl, rfl, K0, by rw [hWK]; exact hK, by rw [hWp, hWl, hWg, hWb]; exact T, by show s₁.heap.objs.size ≤ L; omega, ?_, ?_, by show 1 ≤ 60; decide⟩
    · show 1 + claimMargin + 1 ≤ 301 + 10 * 1; decide
    · show 4 + 3 ≤ 4 + 20 * 1; decide
  have R : SRel W X (lc [("script", .ref sc)]) σ { heap := h₁, gens := s₁.gens, drawn := s₁.drawn, toks := tk₁, os := s₁.os } := by
    refine ⟨⟨mL, F.ns, fun x v e => ?_⟩, F.keep, ⟨mL, F.ns⟩, none_at L (Nat.le_refl _), fun a o e => ?_, fun a hf => ?_, fun x r C dx nf fs e => ?_, fun x y r q C D dx nf mf fs gs e _ => ?_⟩
    · unfold lc upd at e
      split at e
      · rename_i c; cases e; exact ⟨_, by rw [c]; exact hm, rfl⟩
      · cases e
    · obtain ⟨rfl, rfl⟩ := hσ a o e
      exact ⟨ob, (N0 _ (.head _)).1, hob⟩
    · obtain rfl := hfoot a hf
      exact ⟨none_at _ (Nat.le_succ _), Nat.succ_ne_self _, Nat.succ_ne_self _⟩
    · have := (hσ _ _ e).2; cases this
    · have := (hσ _ _ e).2; cases this
  have hb := law_body (W := W) (σ := σ) (L₁ := L) (sc := sc) (fA := fa) (n := 1) (A := X.A) (A₀ := callerA) (h₀ := s₁.heap) (base := s₁.heap) (outer := []) (cdv := cd) (Q := fun f _ _ => f = .ret (.bool true)) (by decide) hL hI hlen (if_pos rfl) (fun _ _ => rfl)
  refine wpAny_mono (hb ok _ R) ?_ fun _ _ x => x.elim
  rintro fl s' ⟨f, l', σ', mf, R', S', rfl⟩
  obtain ⟨rv, rfl, hv⟩ := mf
  have hv : rv = .bool true := hv
  subst hv
  obtain ⟨m', F'⟩ := R'.ground ok
  obtain ⟨hh, tt, e⟩ := S'.same
  exact hQ s' m' F' (by rw [e]; exact hg) (by rw [e])
set_option maxHeartbeats 0

set_option pp.maxSteps 600 in
theorem hAll : PySem.Challenge.rw_qd0037_01.Holds := by
  refine holds_law hSaid fun said => ?_
  refine holds_open (q := qV) (loose := looseV) (Xt := xtV) (XP := XL qV []) (Yf := fun s => sees (fullK s.heap)) (Ya := fun _ => good) (YP := fun _ h => ∃ K : Frag, K.In h ∧ sees K = good) (d := dLaw) (kwd := []) (N := 6544) hLeft (fun w s e => ⟨fullK s.heap, fullK_in _, e⟩) (fun w h h' ⟨K, k1, k2⟩ k => ⟨K, k1.keeps k, k2⟩)
    (fun s e => xl_of s (Bool.and_eq_true_iff.mp e).1) XL.keeps hDef hThe hKw (fun s e => recFacts_of (Bool.and_eq_true_iff.mp e).2) (by rfl) said hOk ⟨rfl, rfl, rfl, rfl, rfl, by decide +kernel⟩ ?hw ?hc
  case hw => w_witness2
  case hc =>
    intro w s₀ s₁ mg mb G Y fa o pm cd doc dV kV ho hd hcd hD hmg hg args vals as hpre hlay hrd hwl hlo
    refine Ground.open G ?_
    intro T B D TE TW
    have TA := at_of_top T
    try (obtain ⟨_, _, he, B0⟩ := based_of_top T rfl hmg ho hd; have he' : cd = _ := he; subst he'; clear he)
    clear hmg
    wrow_args hpre hlay hrd hwl hlo
    first | refine callC_kw (enter_call ?_) | refine enter_call ?_ | refine callC_kw (enter_callW ?_) | refine enter_callW ?_ | w_how
    w_top on
    try refine codeAny_mono ?_ (fun _ _ g => GoodW.toG g)
    have K0 := below_caller (Top.heap T)
    w_call any ho hd hcd hD T F
    clear hd TA
    k_drop
    rename_i w8 w7 ns hs0 hlay0 hL1 hr1 hl2 w5 w4 sc rvs w1 hL ra w1' r0 hI hr hc1 hc2 h1 tk1 ob hob N0 X0
    obtain ⟨K, hK, hs⟩ := Y
    have hlen : ns.length ≤ 63 := by have := hc1; omega
    refine law_run (fa := fa) (sc := sc) (rvs := rvs) (ns := ns) hK hs (topRead_of T) K0 hL hI hlen F ?_ (ob := ob) ?_ N0 hg fun s' m' F' g' o' => ?_
    · rfl
    · rw [hob]; rfl
    · refine goodW_bool F' g' (fun _ => rfl) ?_ o'
      wrow_post
end Mine
theorem PySem.Challenge.cw_qd0037_01_holds : PySem.Challenge.rw_qd0037_01.Holds :=
  Mine.hAll
