import PyProof.Rows.All
import Wide.All
import Open.Line
import Open.FastT9
import Open.Boot
import PySem.Challenge.RW_xm0121_01
set_option Elab.async false
set_option maxRecDepth 100000
set_option linter.unusedVariables false
set_option linter.unusedSimpArgs false

section
open PySem PySem.W PyProof.Rows
set_option maxRecDepth 100000
namespace Mine

/-- plain values: what a Python value is told as -/
inductive PV where
  | none
  | bool (b : Bool)
  | int (i : Int)
  | str (x : Str)
  | tup (l : List PV)
  | ref (r : Nat)
  | base (a : Addr)

abbrev Store := List (List PV)
abbrev PEnv := Str → Option PV

structure Gh where
  rho : List Addr
  tups : List (Addr × List Value)

mutual
noncomputable def VRel (g : Gh) : PV → Value → Prop
  | .none, v => v = .none
  | .bool b, v => v = .bool b
  | .int i, v => ∃ t, v = .int i t
  | .str x, v => ∃ t, v = .str x t
  | .tup l, v => ∃ a vs, v = .ref a ∧ (a, vs) ∈ g.tups ∧ VRels g l vs
  | .ref r, v => ∃ a, v = .ref a ∧ g.rho[r]? = some a
  | .base a, v => v = .ref a
noncomputable def VRels (g : Gh) : List PV → List Value → Prop
  | [], vs => vs = []
  | p :: l, vs => ∃ v r, vs = v :: r ∧ VRel g p v ∧ VRels g l r
end

structure Gh.le (g g' : Gh) : Prop where
  rho : ∀ (r : Nat) (a : Addr), g.rho[r]? = some a → g'.rho[r]? = some a
  tups : ∀ x ∈ g.tups, x ∈ g'.tups
theorem Gh.le.refl (g : Gh) : g.le g := ⟨fun _ _ h => h, fun _ h => h⟩
theorem Gh.le.trans {g g' g'' : Gh} (a : g.le g') (b : g'.le g'') : g.le g'' := ⟨fun r x h => b.rho r x (a.rho r x h), fun x h => b.tups x (a.tups x h)⟩

mutual
theorem VRel.mono {g g' : Gh} (hg : g.le g') : ∀ {p : PV} {v : Value}, VRel g p v → VRel g' p v
  | .none, _, h => by simpa only [VRel] using h
  | .bool _, _, h => by simpa only [VRel] using h
  | .int _, _, h => by simpa only [VRel] using h
  | .str _, _, h => by simpa only [VRel] using h
  | .tup l, v, h => by
    simp only [VRel] at h ⊢
    obtain ⟨a, vs, e, m, r⟩ := h
    exact ⟨a, vs, e, hg.tups _ m, VRels.mono hg r⟩
  | .ref r, v, h => by
    simp only [VRel] at h ⊢
    obtain ⟨a, e, m⟩ := h
    exact ⟨a, e, hg.rho _ _ m⟩
  | .base _, _, h => by simpa only [VRel] using h
theorem VRels.mono {g g' : Gh} (hg : g.le g') : ∀ {l : List PV} {vs : List Value}, VRels g l vs → VRels g' l vs
  | [], _, h => by simpa only [VRels] using h
  | p :: l, vs, h => by
    simp only [VRels] at h ⊢
    obtain ⟨v, r, e, h1, h2⟩ := h
    exact ⟨v, r, e, VRel.mono hg h1, VRels.mono hg h2⟩
end

theorem VRels.length {g : Gh} : ∀ {l : List PV} {vs : List Value}, VRels g l vs → vs.length = l.length
  | [], _, h => by simp only [VRels] at h; simp [h]
  | _ :: l, vs, h => by
    simp only [VRels] at h
    obtain ⟨v, r, rfl, _, h2⟩ := h
    simp [VRels.length h2]
theorem VRels.get {g : Gh} : ∀ {l : List PV} {vs : List Value}, VRels g l vs → ∀ {i : Nat} {p : PV}, l[i]? = some p → ∃ v, vs[i]? = some v ∧ VRel g p v
  | [], _, _, _, _, hi => by simp at hi
  | q :: l, vs, h, i, p, hi => by
    simp only [VRels] at h
    obtain ⟨v, r, rfl, h1, h2⟩ := h
    cases i with
    | zero => simp at hi; subst hi; exact ⟨v, by simp, h1⟩
    | succ i => simp at hi; simpa using VRels.get h2 hi
theorem VRels.get' {g : Gh} : ∀ {l : List PV} {vs : List Value}, VRels g l vs → ∀ {i : Nat} {v : Value}, vs[i]? = some v → ∃ p, l[i]? = some p ∧ VRel g p v
  | [], _, h, _, _, hi => by simp only [VRels] at h; subst h; simp at hi
  | q :: l, vs, h, i, w, hi => by
    simp only [VRels] at h
    obtain ⟨v, r, rfl, h1, h2⟩ := h
    cases i with
    | zero => simp at hi; subst hi; exact ⟨q, by simp, h1⟩
    | succ i => simp at hi; simpa using VRels.get' h2 hi
theorem VRels.nil {g : Gh} : VRels g [] [] := by simp [VRels]
theorem VRels.cons {g : Gh} {p : PV} {v : Value} {l : List PV} {vs : List Value} (h : VRel g p v) (h2 : VRels g l vs) : VRels g (p :: l) (v :: vs) := by
  simp only [VRels]; exact ⟨v, vs, rfl, h, h2⟩
theorem VRels.append {g : Gh} : ∀ {l l' : List PV} {vs vs' : List Value}, VRels g l vs → VRels g l' vs' → VRels g (l ++ l') (vs ++ vs')
  | [], l', vs, vs', h, h' => by simp only [VRels] at h; subst h; simpa using h'
  | p :: l, l', vs, vs', h, h' => by
    simp only [VRels] at h
    obtain ⟨v, r, rfl, h1, h2⟩ := h
    exact VRels.cons h1 (VRels.append h2 h')
theorem VRels.of_get {g : Gh} : ∀ {l : List PV} {vs : List Value}, l.length = vs.length → (∀ (i : Nat) p v, l[i]? = some p → vs[i]? = some v → VRel g p v) → VRels g l vs
  | [], vs, hl, _ => by cases vs with | nil => exact .nil | cons => simp at hl
  | p :: l, vs, hl, h => by
    cases vs with
    | nil => simp at hl
    | cons v vs => exact .cons (h 0 p v (by simp) (by simp)) (VRels.of_get (by simpa using hl) fun i q w h1 h2 => h (i + 1) q w (by simpa using h1) (by simpa using h2))
theorem VRels.set {g : Gh} {l : List PV} {vs : List Value} (h : VRels g l vs) (k : Nat) {p : PV} {v : Value} (hv : VRel g p v) : VRels g (l.set k p) (vs.set k v) := by
  refine VRels.of_get (by simp [h.length]) fun i q w h1 h2 => ?_
  rw [List.getElem?_set] at h1 h2
  by_cases hk : k = i
  · subst hk
    simp only [if_true] at h1 h2
    split at h1 <;> simp_all
  · rw [if_neg hk] at h1 h2
    obtain ⟨w', e, r⟩ := h.get h1
    rw [h2] at e; cases e; exact r
theorem VRels.reverse {g : Gh} {l : List PV} {vs : List Value} (h : VRels g l vs) : VRels g l.reverse vs.reverse := by
  refine VRels.of_get (by simp [h.length]) fun i q w h1 h2 => ?_
  have hi : i < l.length := by
    rcases Nat.lt_or_ge i l.length with h | h
    · exact h
    · rw [List.getElem?_eq_none (by simpa using h)] at h1; cases h1
  rw [List.getElem?_reverse hi] at h1
  rw [List.getElem?_reverse (by rw [h.length]; exact hi), h.length] at h2
  obtain ⟨w', e, r⟩ := h.get h1
  rw [h2] at e; cases e; exact r
theorem VRels.take {g : Gh} {l : List PV} {vs : List Value} (h : VRels g l vs) (k : Nat) : VRels g (l.take k) (vs.take k) := by
  refine VRels.of_get (by simp [h.length]) fun i q w h1 h2 => ?_
  rw [List.getElem?_take] at h1 h2
  split at h1
  · rename_i hk
    rw [if_pos hk] at h2
    obtain ⟨w', e, r⟩ := h.get h1
    rw [h2] at e; cases e; exact r
  · cases h1
theorem VRels.drop {g : Gh} {l : List PV} {vs : List Value} (h : VRels g l vs) (k : Nat) : VRels g (l.drop k) (vs.drop k) := by
  refine VRels.of_get (by simp [h.length]) fun i q w h1 h2 => ?_
  rw [List.getElem?_drop] at h1 h2
  obtain ⟨w', e, r⟩ := h.get h1
  rw [h2] at e; cases e; exact r

abbrev LObj (vs : List Value) (n : Nat) : Obj := { cls := .type "list", dict := none, data := .seq vs.toArray n, slots := #[] }

structure HInv (g : Gh) (σ : Store) (h : Heap) : Prop where
  len : g.rho.length = σ.length
  nd : g.rho.Nodup
  lists : ∀ (r : Nat) (l : List PV), σ[r]? = some l → ∃ a vs n, g.rho[r]? = some a ∧ h.get? a = some (LObj vs n) ∧ VRels g l vs
  tups : ∀ x ∈ g.tups, h.IsTuple x.1 x.2.toArray ∧ x.1 ∉ g.rho
  small : ∀ l ∈ σ, l.length ≤ 4096

structure Base where
  prog : Program
  w : World
  p : Program
  loose : List Str
  mean : ExcName → Option Value
  mg : Str → Option Value
  mb : Str → Option Value
  hb : Heap
  top : Top p loose mean mg mb hb
  tree : prog.given.tree = none
  seer : hb.NoSeer

noncomputable def Prot (B : Base) (g : Gh) (h : Heap) : Prop := ∀ a o, B.hb.get? a = some o → h.get? a = some o ∧ a ∉ g.rho
noncomputable def Keep (g g' : Gh) (h h' : Heap) : Prop := ∀ a o, h.get? a = some o → a ∉ g.rho → h'.get? a = some o ∧ a ∉ g'.rho
theorem Keep.refl (g : Gh) (h : Heap) : Keep g g h h := fun _ _ e n => ⟨e, n⟩
theorem Keep.trans {g g' g'' : Gh} {h h' h'' : Heap} (a : Keep g g' h h') (b : Keep g' g'' h' h'') : Keep g g'' h h'' := fun x o e n => let ⟨e', n'⟩ := a x o e n; b x o e' n'
theorem Prot.keep {B : Base} {g g' : Gh} {h h' : Heap} (p : Prot B g h) (k : Keep g g' h h') : Prot B g' h' := fun a o e => let ⟨e', n⟩ := p a o e; k a o e' n

structure EnvRel (κ : Str → Option NameKind) (env : Env) (ε : PEnv) (g : Gh) (h : Heap) : Prop where
  kind : env.scope.kind = .function
  glob : env.globals = mainGlobals
  blt : env.builtins = builtinsNs
  kap : ∀ x, env.kindOf x = κ x
  ns : ∃ m, h.Ns env.locals m ∧ ∀ x p, ε x = some p → κ x = some .local → ∃ v, m x = some v ∧ VRel g p v
  cells : ∀ x, κ x = some .cell ∨ κ x = some .free → ∃ c ov, env.cells.lookup x = some c ∧ h.IsCell c ov ∧ ∀ p, ε x = some p → ∃ v, ov = some v ∧ VRel g p v
  locOff : env.locals ∉ g.rho
  cellOff : ∀ x c, env.cells.lookup x = some c → c ∉ g.rho ∧ c ≠ env.locals ∧ ∃ ov, h.IsCell c ov
  cellInj : ∀ x y c, env.cells.lookup x = some c → env.cells.lookup y = some c → x = y
  dom : ∀ x p, ε x = some p → κ x = some .local ∨ κ x = some .cell ∨ κ x = some .free

theorem EnvRel.keep {κ : Str → Option NameKind} {env : Env} {ε : PEnv} {g g' : Gh} {h h' : Heap} (R : EnvRel κ env ε g h) (l : g.le g') (k : Keep g g' h h') : EnvRel κ env ε g' h' where
  kind := R.kind
  glob := R.glob
  blt := R.blt
  kap := R.kap
  ns := by
    obtain ⟨m, hn, hv⟩ := R.ns
    exact ⟨m, hn.at' fun o e => (k _ o e R.locOff).1, fun x p hx hk => let ⟨v, e, r⟩ := hv x p hx hk; ⟨v, e, r.mono l⟩⟩
  cells := fun x hx => by
    obtain ⟨c, ov, hc, ⟨o, ho, hd⟩, hp⟩ := R.cells x hx
    exact ⟨c, ov, hc, ⟨o, (k _ o ho (R.cellOff x c hc).1).1, hd⟩, fun p hp' => let ⟨v, e, r⟩ := hp p hp'; ⟨v, e, r.mono l⟩⟩
  locOff := by
    obtain ⟨m, ⟨o, es, ep, ho, r⟩, hv⟩ := R.ns
    exact (k _ o ho R.locOff).2
  cellOff := fun x c hc => by
    obtain ⟨a, b, ov, o, ho, hd⟩ := R.cellOff x c hc
    exact ⟨(k _ o ho a).2, b, ov, o, (k _ o ho a).1, hd⟩
  cellInj := R.cellInj
  dom := R.dom

/-- room for d more calls -/
structure AOk (A : Around) (d : Nat) : Prop where
  handled : A.handled = none
  depth : A.depth + d ≤ 800
  units : A.units + 4 * d ≤ 9000
  frames : ∃ env l, A.frames = some (env :: l) ∧ env.scope.isGenerator = false ∧ env.scope.isCoroutine = false ∧ env.builtins = builtinsNs ∧ env.globals = mainGlobals
theorem AOk.deeper {A : Around} {d : Nat} {env : Env} (h : AOk A (d + 1)) (h1 : env.scope.isGenerator = false) (h2 : env.scope.isCoroutine = false) (h3 : env.builtins = builtinsNs) (h4 : env.globals = mainGlobals) : AOk (A.deeper env) d :=
  ⟨h.handled, by have := h.depth; show A.depth + 1 + d ≤ 800; omega, by have := h.units; show A.units + 3 + 4 * d ≤ 9000; omega, by
    obtain ⟨e, l, hf, _⟩ := h.frames
    exact ⟨env, e :: l, by show A.frames.map (env :: ·) = _; rw [hf]; rfl, h1, h2, h3, h4⟩⟩
theorem AOk.le {A : Around} {d d' : Nat} (h : AOk A d) (hd : d' ≤ d) : AOk A d' :=
  ⟨h.handled, by have := h.depth; omega, by have := h.units; omega, h.frames⟩
theorem AOk.room {A : Around} {d : Nat} (h : AOk A d) : A.depth < recursionLimit := by have := h.depth; show A.depth < 1000; omega
theorem AOk.cRoom {A : Around} {d : Nat} (h : AOk A d) : A.units < cLine := by have := h.units; show A.units < 9900; omega

theorem Prot.keeps {B : Base} {g : Gh} {h : Heap} (p : Prot B g h) : ∀ a o, B.hb.get? a = some o → h.get? a = some o := fun a o e => (p a o e).1
theorem pylongRoom {B : Base} {g : Gh} {A : Around} {d : Nat} {s : Shared} (hA : AOk A d) (p : Prot B g s.heap) : PylongRoom (model B.prog B.w) A s := by
  obtain ⟨env, l, hf, h1, h2, h3, h4⟩ := hA.frames
  refine PylongRoom.of (B.top.nolimit.keeps p.keeps) ?_ (SeerAt.of (B.seer.keeps p.keeps) B.tree hf h1 h2 h3 h4)
  have := hA.depth
  show A.depth + 100 < 1000
  omega

abbrev VPost := PV → Store → Prop
/-- what a tree that gives a value hands on -/
noncomputable def VCont (g : Gh) (s : Shared) (P : VPost) (Q : Value → Shared → Prop) : Prop :=
  ∀ p σ' v g' h' tk', P p σ' → g.le g' → HInv g' σ' h' → Keep g g' s.heap h' → VRel g' p v → Q v { s with heap := h', toks := tk' }
noncomputable def VsCont (g : Gh) (s : Shared) (P : List PV → Store → Prop) (Q : List Value → Shared → Prop) : Prop :=
  ∀ ps σ' vs g' h' tk', P ps σ' → g.le g' → HInv g' σ' h' → Keep g g' s.heap h' → VRels g' ps vs → Q vs { s with heap := h', toks := tk' }
noncomputable def BCont (g : Gh) (s : Shared) (P : Bool → Store → Prop) (Q : Bool → Shared → Prop) : Prop :=
  ∀ b σ' g' h' tk', P b σ' → g.le g' → HInv g' σ' h' → Keep g g' s.heap h' → Q b { s with heap := h', toks := tk' }

abbrev Nay : Value → Shared → Prop := fun _ _ => False

section
variable (B : Base) (d : Nat) (κ : Str → Option NameKind) (ε : PEnv) (σ : Store)
noncomputable def Ev (e : Expr) (P : VPost) : Prop :=
  ∀ (A : Around) (g : Gh) (env : Env) (s : Shared) (Q : Value → Shared → Prop), AOk A d → HInv g σ s.heap → Prot B g s.heap → EnvRel κ env ε g s.heap → VCont g s P Q →
    wpAny (model B.prog B.w) A (eval e env) Q Nay s
noncomputable def Evs (es : List Expr) (P : List PV → Store → Prop) : Prop :=
  ∀ (A : Around) (g : Gh) (env : Env) (pos : Pos) (s : Shared) (Q : List Value → Shared → Prop), AOk A d → HInv g σ s.heap → Prot B g s.heap → EnvRel κ env ε g s.heap → VsCont g s P Q →
    wpAny (model B.prog B.w) A (spliced (backTo pos (starEach es env))) Q Nay s
noncomputable def Tst (e : Expr) (P : Bool → Store → Prop) : Prop :=
  ∀ (A : Around) (g : Gh) (env : Env) (s : Shared) (Q : Bool → Shared → Prop), AOk A d → HInv g σ s.heap → Prot B g s.heap → EnvRel κ env ε g s.heap → BCont g s P Q →
    wpAny (model B.prog B.w) A (isTrue e env (eval e env)) Q Nay s
end
/-- a call of a value with arguments, from any state -/
noncomputable def CallV (B : Base) (d : Nat) (f : Value) (ps : List PV) (σ : Store) (P : VPost) : Prop :=
  ∀ (A : Around) (g : Gh) (s : Shared) (vs : List Value) (Q : Value → Shared → Prop), AOk A d → HInv g σ s.heap → Prot B g s.heap → VRels g ps vs → VCont g s P Q →
    wpAny (model B.prog B.w) A (call f vs) Q Nay s
noncomputable def Fn (B : Base) (d : Nat) (name : Str) (ps : List PV) (σ : Store) (P : VPost) : Prop :=
  ∃ a, B.mg name = some (.ref a) ∧ (∃ o fd, B.hb.get? a = some o ∧ o.data = .func fd) ∧ CallV B d (.ref a) ps σ P

theorem Ev.mono {B : Base} {d : Nat} {κ : Str → Option NameKind} {ε : PEnv} {σ : Store} {e : Expr} {P P' : VPost} (h : Ev B d κ ε σ e P) (hP : ∀ p σ', P p σ' → P' p σ') : Ev B d κ ε σ e P' :=
  fun A g env s Q hA hI hp hR hQ => h A g env s Q hA hI hp hR fun p σ' v g' h' tk' hp' a b c e => hQ p σ' v g' h' tk' (hP _ _ hp') a b c e

/-- sequencing: from the state handed on -/
theorem VCont.step {g g' : Gh} {s : Shared} {h' : Heap} {tk : Nat} {P : VPost} {Q : Value → Shared → Prop} (hQ : VCont g s P Q) (l : g.le g') (k : Keep g g' s.heap h') : VCont g' { s with heap := h', toks := tk } P Q :=
  fun p σ' v g'' h'' tk' hp a b c e => hQ p σ' v g'' h'' tk' hp (l.trans a) b (k.trans c) e
theorem VCont.now {g : Gh} {s : Shared} {σ : Store} {P : VPost} {Q : Value → Shared → Prop} {p : PV} {v : Value} {tk : Nat} (hQ : VCont g s P Q) (hI : HInv g σ s.heap) (hP : P p σ) (hv : VRel g p v) : Q v { s with toks := tk } :=
  hQ p σ v g s.heap tk hP (.refl g) hI (.refl g _) hv
end Mine
end

section
open PySem PySem.W PyProof.Rows
set_option maxRecDepth 100000
namespace Mine
section
variable {B : Base} {d : Nat} {κ : Str → Option NameKind} {ε : PEnv} {σ : Store}

theorem ev_int {i : Int} {k : Nat} {pos : Pos} {P : VPost} (h : P (.int i) σ) : Ev B d κ ε σ (.Constant (.int i) k pos) P :=
  fun A g env s Q hA hI hp hR hQ => wpAny_Constant_int (hQ.now hI h (by simp [VRel]))
theorem ev_str {x : Str} {k : Nat} {pos : Pos} {P : VPost} (h : P (.str x) σ) : Ev B d κ ε σ (.Constant (.str x) k pos) P :=
  fun A g env s Q hA hI hp hR hQ => Calls.Constant_str (hQ.now hI h (by simp [VRel]))
theorem ev_none {k : Nat} {pos : Pos} {P : VPost} (h : P .none σ) : Ev B d κ ε σ (.Constant .none k pos) P :=
  fun A g env s Q hA hI hp hR hQ => by
    show wpAny _ _ (pure Value.none) _ _ _
    exact wpAny_pure (hQ.now (tk := s.toks) hI h (by simp [VRel]))
theorem ev_true {b : Bool} {k : Nat} {pos : Pos} {P : VPost} (h : P (.bool b) σ) : Ev B d κ ε σ (.Constant (.bool b) k pos) P :=
  fun A g env s Q hA hI hp hR hQ => by
    show wpAny _ _ (pure (Value.bool b)) _ _ _
    exact wpAny_pure (hQ.now (tk := s.toks) hI h (by simp [VRel]))

/-- a name that the frame holds -/
theorem ev_name {x : Str} {pos : Pos} {p : PV} {P : VPost} (hx : ε x = some p) (h : P p σ) (hd : (x == ("__debug__" : Str)) = false := by decide)
    (hn : (x == ("__classdict__" : Str)) = false := by decide) : Ev B d κ ε σ (.Name x pos) P := by
  intro A g env s Q hA hI hp hR hQ
  rcases hR.dom x p hx with hk | hk | hk
  · obtain ⟨m, hm, hv⟩ := hR.ns
    obtain ⟨v, e, r⟩ := hv x p hx hk
    exact wpAny_Name (wpAny_loadName_local hR.kind ((hR.kap x).trans hk) hm e (hQ.now (tk := s.toks) hI h r)) hd
  · obtain ⟨c, ov, hc, hcell, hv⟩ := hR.cells x (.inl hk)
    obtain ⟨v, rfl, r⟩ := hv p hx
    exact wpAny_Name (wpAny_loadName_cell hR.kind ((hR.kap x).trans hk) hc hcell (hQ.now (tk := s.toks) hI h r)) hd
  · obtain ⟨c, ov, hc, hcell, hv⟩ := hR.cells x (.inr hk)
    obtain ⟨v, rfl, r⟩ := hv p hx
    exact wpAny_Name (wpAny_loadName_free hR.kind ((hR.kap x).trans hk) hc hcell (hQ.now (tk := s.toks) hI h r) hn) hd

/-- a table's name of the top that holds a tuple -/
structure TopTup (B : Base) (x : Str) (l : List PV) : Prop where
  ex : ∃ a vs, B.mg x = some (.ref a) ∧ B.hb.IsTuple a vs.toArray ∧ ∀ g, VRels g l vs

theorem ev_toptup {x : Str} {pos : Pos} {l : List PV} {P : VPost} (T : TopTup B x l) (hk : κ x = some .globalImplicit) (h : P (.tup l) σ) (hd : (x == ("__debug__" : Str)) = false := by decide) :
    Ev B d κ ε σ (.Name x pos) P := by
  intro A g env s Q hA hI hp hR hQ
  obtain ⟨a, vs, hm, ht, hv⟩ := T.ex
  have ht' : s.heap.IsTuple a vs.toArray := by obtain ⟨o, ho, r⟩ := ht; exact ⟨o, hp.keeps _ _ ho, r⟩
  have hoff : a ∉ g.rho := by obtain ⟨o, ho, r⟩ := ht; exact (hp _ _ ho).2
  refine Calls.Name_function_global hR.kind ((hR.kap x).trans hk) (Calls.loadGlobal_global (mg := B.mg) (by rw [hR.glob]; exact B.top.g.keeps hp.keeps) hm ?_) hd
  refine hQ (.tup l) σ (.ref a) ⟨g.rho, (a, vs) :: g.tups⟩ s.heap s.toks h ⟨fun _ _ e => e, fun _ e => .tail _ e⟩ ⟨hI.len, hI.nd, fun r l' hl => ?_, fun x hx => ?_, hI.small⟩ (fun _ _ e n => ⟨e, n⟩) ?_
  · obtain ⟨b, ws, n, e1, e2, e3⟩ := hI.lists r l' hl
    exact ⟨b, ws, n, e1, e2, VRels.mono (g := g) (g' := ⟨g.rho, (a, vs) :: g.tups⟩) ⟨fun _ _ e => e, fun _ e => .tail _ e⟩ e3⟩
  · rcases List.mem_cons.mp hx with rfl | hx
    · exact ⟨ht', hoff⟩
    · exact hI.tups x hx
  · simp only [VRel]
    exact ⟨a, vs, rfl, .head _, hv _⟩

/-- two operands, then a step on their values -/
noncomputable def Bin (B : Base) (d : Nat) (op : Operator) (p q : PV) (σ : Store) (P : VPost) : Prop :=
  ∀ (A : Around) (g : Gh) (s : Shared) (v w : Value) (Q : Value → Shared → Prop), AOk A d → HInv g σ s.heap → Prot B g s.heap → VRel g p v → VRel g q w → VCont g s P Q → wpAny (model B.prog B.w) A (binaryOp op v w) Q Nay s
noncomputable def Cmp (B : Base) (d : Nat) (op : CmpOp) (p q : PV) (σ : Store) (P : Bool → Prop) : Prop :=
  ∀ (A : Around) (g : Gh) (s : Shared) (v w : Value) (Q : Value → Shared → Prop), AOk A d → HInv g σ s.heap → Prot B g s.heap → VRel g p v → VRel g q w → (∀ b, P b → Q (.bool b) s) → wpAny (model B.prog B.w) A (compareOp op v w) Q Nay s

theorem ev_bin {l r : Expr} {op : Operator} {pos : Pos} {P : VPost} (h : Ev B d κ ε σ l fun p σ₁ => Ev B d κ ε σ₁ r fun q σ₂ => Bin B d op p q σ₂ P) : Ev B d κ ε σ (.BinOp l op r pos) P := by
  intro A g env s Q hA hI hp hR hQ
  refine wpAny_BinOp (h A g env s _ hA hI hp hR fun p σ₁ v g₁ h₁ t₁ H l₁ I₁ k₁ r₁ => ?_)
  refine H A g₁ env _ _ hA I₁ (hp.keep k₁) (hR.keep l₁ k₁) fun q σ₂ w g₂ h₂ t₂ H₂ l₂ I₂ k₂ r₂ => ?_
  exact H₂ A g₂ _ v w _ hA I₂ ((hp.keep k₁).keep k₂) (r₁.mono l₂) r₂ ((hQ.step l₁ k₁).step l₂ k₂)

theorem ev_cmp {l r : Expr} {op : CmpOp} {pos : Pos} {P : VPost} (h : Ev B d κ ε σ l fun p σ₁ => Ev B d κ ε σ₁ r fun q σ₂ => Cmp B d op p q σ₂ fun b => P (.bool b) σ₂)
    (hm : behindInMarks op r = false := by with_unfolding_all rfl) : Ev B d κ ε σ (.Compare l [op] [r] pos) P := by
  intro A g env s Q hA hI hp hR hQ
  refine wpAny_Compare1 (h A g env s _ hA hI hp hR fun p σ₁ v g₁ h₁ t₁ H l₁ I₁ k₁ r₁ => ?_) hm
  refine H A g₁ env _ _ hA I₁ (hp.keep k₁) (hR.keep l₁ k₁) fun q σ₂ w g₂ h₂ t₂ H₂ l₂ I₂ k₂ r₂ => ?_
  exact H₂ A g₂ _ v w _ hA I₂ ((hp.keep k₁).keep k₂) (r₁.mono l₂) r₂ fun b hb => ((hQ.step l₁ k₁).step l₂ k₂).now (s := { s with heap := h₂, toks := t₂ }) (tk := t₂) I₂ hb (by simp [VRel])

theorem tst_cmp {l r : Expr} {op : CmpOp} {pos : Pos} {P : Bool → Store → Prop} (h : Ev B d κ ε σ l fun p σ₁ => Ev B d κ ε σ₁ r fun q σ₂ => Cmp B d op p q σ₂ fun b => P b σ₂)
    (hm : behindInMarks op r = false := by with_unfolding_all rfl) : Tst B d κ ε σ (.Compare l [op] [r] pos) P := by
  intro A g env s Q hA hI hp hR hQ
  refine wpAny_isTrue_Compare1 (h A g env s _ hA hI hp hR fun p σ₁ v g₁ h₁ t₁ H l₁ I₁ k₁ r₁ => ?_) hm
  refine H A g₁ env _ _ hA I₁ (hp.keep k₁) (hR.keep l₁ k₁) fun q σ₂ w g₂ h₂ t₂ H₂ l₂ I₂ k₂ r₂ => ?_
  refine H₂ A g₂ _ v w _ hA I₂ ((hp.keep k₁).keep k₂) (r₁.mono l₂) r₂ fun b hb => wpAny_truthy_bool ?_
  exact hQ b σ₂ g₂ h₂ t₂ hb (l₁.trans l₂) I₂ (k₁.trans k₂)

/-- a bool's truth -/
theorem tst_bool {e : Expr} {P : Bool → Store → Prop} (h : Ev B d κ ε σ e fun p σ₁ => ∃ b, p = .bool b ∧ P b σ₁)
    (hs : ∀ env whole, isTrue e env whole = (do let v ← whole; standAt e.pos; holding [v] (truthy v)) := by intros; rfl) : Tst B d κ ε σ e P := by
  intro A g env s Q hA hI hp hR hQ
  rw [hs]
  refine wpAny_bind (h A g env s _ hA hI hp hR fun p σ₁ v g₁ h₁ t₁ H l₁ I₁ k₁ r₁ => ?_)
  obtain ⟨b, rfl, hb⟩ := H
  simp only [VRel] at r₁
  subst r₁
  exact wpAny_bind (wpAny_standAt (wpAny_holding (wpAny_truthy_bool (hQ b σ₁ g₁ h₁ t₁ hb l₁ I₁ k₁))))

theorem tst_not {e : Expr} {pos : Pos} {P : Bool → Store → Prop} (h : Tst B d κ ε σ e fun b σ₁ => P (!b) σ₁) : Tst B d κ ε σ (.UnaryOp .Not e pos) P := by
  intro A g env s Q hA hI hp hR hQ
  show wpAny _ _ (isTrue e env (eval e env) >>= fun b => pure (!b)) _ _ _
  exact wpAny_bind (h A g env s _ hA hI hp hR fun b σ₁ g₁ h₁ t₁ H l₁ I₁ k₁ => wpAny_pure (hQ _ σ₁ g₁ h₁ t₁ H l₁ I₁ k₁))

theorem BCont.step {g g' : Gh} {s : Shared} {h' : Heap} {tk : Nat} {P : Bool → Store → Prop} {Q : Bool → Shared → Prop} (hQ : BCont g s P Q) (l : g.le g') (k : Keep g g' s.heap h') : BCont g' { s with heap := h', toks := tk } P Q :=
  fun b σ' g'' h'' tk' hp a b' c => hQ b σ' g'' h'' tk' hp (l.trans a) b' (k.trans c)
theorem VsCont.step {g g' : Gh} {s : Shared} {h' : Heap} {tk : Nat} {P : List PV → Store → Prop} {Q : List Value → Shared → Prop} (hQ : VsCont g s P Q) (l : g.le g') (k : Keep g g' s.heap h') : VsCont g' { s with heap := h', toks := tk } P Q :=
  fun b σ' vs g'' h'' tk' hp a b' c e => hQ b σ' vs g'' h'' tk' hp (l.trans a) b' (k.trans c) e

theorem tst_or {e f : Expr} {pos : Pos} {P : Bool → Store → Prop} (h : Tst B d κ ε σ e fun b σ₁ => if b then P true σ₁ else Tst B d κ ε σ₁ f P) : Tst B d κ ε σ (.BoolOp .Or [e, f] pos) P := by
  intro A g env s Q hA hI hp hR hQ
  show wpAny _ _ (allTrue .Or [e, f] env) _ _ _
  unfold allTrue
  refine wpAny_bind (h A g env s _ hA hI hp hR fun b σ₁ g₁ h₁ t₁ H l₁ I₁ k₁ => ?_)
  cases b with
  | true => exact wpAny_pure (hQ _ σ₁ g₁ h₁ t₁ H l₁ I₁ k₁)
  | false =>
    dsimp only
    unfold allTrue
    refine wpAny_bind (H A g₁ env _ _ hA I₁ (hp.keep k₁) (hR.keep l₁ k₁) fun b σ₂ g₂ h₂ t₂ H₂ l₂ I₂ k₂ => ?_)
    have fin := (hQ.step (tk := t₁) l₁ k₁) b σ₂ g₂ h₂ t₂ H₂ l₂ I₂ k₂
    cases b with
    | true => exact wpAny_pure fin
    | false => dsimp only; unfold allTrue; exact wpAny_pure fin
theorem tst_and {e f : Expr} {pos : Pos} {P : Bool → Store → Prop} (h : Tst B d κ ε σ e fun b σ₁ => if b then Tst B d κ ε σ₁ f P else P false σ₁) : Tst B d κ ε σ (.BoolOp .And [e, f] pos) P := by
  intro A g env s Q hA hI hp hR hQ
  show wpAny _ _ (allTrue .And [e, f] env) _ _ _
  unfold allTrue
  refine wpAny_bind (h A g env s _ hA hI hp hR fun b σ₁ g₁ h₁ t₁ H l₁ I₁ k₁ => ?_)
  cases b with
  | false => exact wpAny_pure (hQ _ σ₁ g₁ h₁ t₁ H l₁ I₁ k₁)
  | true =>
    dsimp only
    unfold allTrue
    refine wpAny_bind (H A g₁ env _ _ hA I₁ (hp.keep k₁) (hR.keep l₁ k₁) fun b σ₂ g₂ h₂ t₂ H₂ l₂ I₂ k₂ => ?_)
    have fin := (hQ.step (tk := t₁) l₁ k₁) b σ₂ g₂ h₂ t₂ H₂ l₂ I₂ k₂
    cases b with
    | false => exact wpAny_pure fin
    | true => dsimp only; unfold allTrue; exact wpAny_pure fin

theorem ev_if {t b o : Expr} {pos : Pos} {P : VPost} (h : Tst B d κ ε σ t fun c σ₁ => if c then Ev B d κ ε σ₁ b P else Ev B d κ ε σ₁ o P) : Ev B d κ ε σ (.IfExp t b o pos) P := by
  intro A g env s Q hA hI hp hR hQ
  show wpAny _ _ (isTrue t env (eval t env) >>= fun c => if c = true then eval b env else eval o env) _ _ _
  refine wpAny_bind (h A g env s _ hA hI hp hR fun c σ₁ g₁ h₁ t₁ H l₁ I₁ k₁ => ?_)
  cases c with
  | true => exact H A g₁ env _ _ hA I₁ (hp.keep k₁) (hR.keep l₁ k₁) (hQ.step l₁ k₁)
  | false => exact H A g₁ env _ _ hA I₁ (hp.keep k₁) (hR.keep l₁ k₁) (hQ.step l₁ k₁)

/-- and | or of two bools, as a value -/
theorem ev_boolop {op : BoolOp} {e f : Expr} {pos : Pos} {P : VPost}
    (h : Ev B d κ ε σ e fun p σ₁ => ∃ b, p = .bool b ∧ if b = (op == .And) then Ev B d κ ε σ₁ f P else P (.bool b) σ₁) : Ev B d κ ε σ (.BoolOp op [e, f] pos) P := by
  intro A g env s Q hA hI hp hR hQ
  show wpAny _ _ (boolOp pos op [eval e env, eval f env]) _ _ _
  unfold boolOp
  refine wpAny_bind (h A g env s _ hA hI hp hR fun p σ₁ v g₁ h₁ t₁ H l₁ I₁ k₁ r₁ => ?_)
  obtain ⟨b, rfl, hb⟩ := H
  simp only [VRel] at r₁
  subst r₁
  refine wpAny_bind (wpAny_standAt ?_)
  refine wpAny_bind (wpAny_holding (wpAny_truthy_bool ?_))
  have go : (Ev B d κ ε σ₁ f P) → wpAny (model B.prog B.w) A (boolOp pos op [eval f env]) Q Nay { s with heap := h₁, toks := t₁ } := fun H => by
    unfold boolOp
    exact H A g₁ env _ _ hA I₁ (hp.keep k₁) (hR.keep l₁ k₁) (hQ.step l₁ k₁)
  have fin : P (.bool b) σ₁ → Q (.bool b) { s with heap := h₁, toks := t₁ } := fun H => hQ _ σ₁ _ g₁ h₁ t₁ H l₁ I₁ k₁ (by simp [VRel])
  cases op <;> cases b <;> simp at hb <;> first | exact go hb | exact wpAny_pure (fin hb)

theorem evs_nil {P : List PV → Store → Prop} (h : P [] σ) : Evs B d κ ε σ [] P :=
  fun A g env pos s Q hA hI hp hR hQ => Calls.spliced_nil (hQ [] σ [] g s.heap s.toks h (.refl g) hI (.refl g _) .nil)
theorem evs_cons {e : Expr} {es : List Expr} {P : List PV → Store → Prop} (h : Ev B d κ ε σ e fun p σ₁ => Evs B d κ ε σ₁ es fun ps σ₂ => P (p :: ps) σ₂)
    (hs : ∀ env pos, backTo pos (starEach (e :: es) env) = (false, eval e env) :: backTo pos (starEach es env) := by intros; rfl) :
    Evs B d κ ε σ (e :: es) P := by
  intro A g env pos s Q hA hI hp hR hQ
  rw [hs env pos]
  refine Calls.spliced_cons (h A g env s _ hA hI hp hR fun p σ₁ v g₁ h₁ t₁ H l₁ I₁ k₁ r₁ => ?_)
  refine H A g₁ env pos _ _ hA I₁ (hp.keep k₁) (hR.keep l₁ k₁) fun ps σ₂ vs g₂ h₂ t₂ H₂ l₂ I₂ k₂ r₂ => ?_
  exact hQ (p :: ps) σ₂ (v :: vs) g₂ h₂ t₂ H₂ (l₁.trans l₂) I₂ (k₁.trans k₂) (.cons (r₁.mono l₂) r₂)
end
end Mine
end

section
open PySem PySem.W PyProof.Rows
set_option maxRecDepth 100000
namespace Mine

theorem HInv.rho_some {g : Gh} {σ : Store} {h : Heap} (I : HInv g σ h) {a : Addr} (ha : a ∈ g.rho) : ∃ o, h.get? a = some o := by
  obtain ⟨r, hr, e⟩ := List.getElem_of_mem ha
  have hs : r < σ.length := by rw [← I.len]; exact hr
  obtain ⟨b, vs, n, e1, e2, _⟩ := I.lists r σ[r] (by simp)
  have : b = a := by rw [List.getElem?_eq_getElem hr] at e1; rw [← e]; exact (Option.some.inj e1).symm
  exact ⟨_, this ▸ e2⟩
theorem HInv.tup_some {g : Gh} {σ : Store} {h : Heap} (I : HInv g σ h) {x : Addr × List Value} (hx : x ∈ g.tups) : ∃ o, h.get? x.1 = some o := let ⟨⟨o, ho, _⟩, _⟩ := I.tups x hx; ⟨o, ho⟩
theorem HInv.grow {g : Gh} {σ : Store} {h h' : Heap} (I : HInv g σ h) (hk : ∀ b o, h.get? b = some o → h'.get? b = some o) : HInv g σ h' where
  len := I.len
  nd := I.nd
  lists := fun r l hl => let ⟨a, vs, n, e1, e2, e3⟩ := I.lists r l hl; ⟨a, vs, n, e1, hk _ _ e2, e3⟩
  tups := fun x hx => let ⟨⟨o, ho, r⟩, n⟩ := I.tups x hx; ⟨⟨o, hk _ _ ho, r⟩, n⟩
  small := I.small
theorem Keep.grow {g : Gh} {h h' : Heap} (hk : ∀ b o, h.get? b = some o → h'.get? b = some o) : Keep g g h h' := fun a o e n => ⟨hk a o e, n⟩
theorem HInv.get {g : Gh} {σ : Store} {h : Heap} (I : HInv g σ h) {r : Nat} {l : List PV} {v : Value} (hl : σ[r]? = some l) (hv : VRel g (.ref r) v) :
    ∃ a vs n, v = .ref a ∧ g.rho[r]? = some a ∧ h.get? a = some (LObj vs n) ∧ VRels g l vs := by
  simp only [VRel] at hv
  obtain ⟨a, e, hr⟩ := hv
  obtain ⟨b, vs, n, e1, e2, e3⟩ := I.lists r l hl
  rw [hr] at e1; cases e1
  exact ⟨a, vs, n, e, hr, e2, e3⟩
theorem lobj_isList {h : Heap} {a : Addr} {vs : List Value} {n : Nat} (e : h.get? a = some (LObj vs n)) : h.IsList a vs.toArray := ⟨_, e, rfl, n, rfl⟩
theorem HInv.len_le {g : Gh} {σ : Store} {h : Heap} (I : HInv g σ h) {r : Nat} {l : List PV} (hl : σ[r]? = some l) : l.length ≤ 4096 := I.small l (List.mem_of_getElem? hl)

abbrev Gh.addL (g : Gh) (D : Addr) : Gh := ⟨g.rho ++ [D], g.tups⟩
abbrev Gh.addT (g : Gh) (D : Addr) (vs : List Value) : Gh := ⟨g.rho, (D, vs) :: g.tups⟩
theorem Gh.le_addL (g : Gh) (D : Addr) : g.le (g.addL D) := by
  refine ⟨fun r a e => ?_, fun _ h => h⟩
  show (g.rho ++ [D])[r]? = some a
  rw [List.getElem?_append_left (List.getElem?_eq_some_iff.mp e).1]
  exact e
theorem nodup_idx {α : Type} : ∀ {l : List α}, l.Nodup → ∀ {i j : Nat} {a : α}, l[i]? = some a → l[j]? = some a → i = j
  | [], _, _, _, _, h, _ => by simp at h
  | x :: l, hn, i, j, a, h, h' => by
    obtain ⟨h1, h2⟩ := List.nodup_cons.mp hn
    cases i with
    | zero =>
      cases j with
      | zero => rfl
      | succ j =>
        simp at h h'
        exact absurd (List.mem_of_getElem? h') (h ▸ h1)
    | succ i =>
      cases j with
      | zero =>
        simp at h h'
        exact absurd (List.mem_of_getElem? h) (h' ▸ h1)
      | succ j => exact congrArg (· + 1) (nodup_idx h2 (by simpa using h) (by simpa using h'))
theorem Gh.le_addT (g : Gh) (D : Addr) (vs : List Value) : g.le (g.addT D vs) := ⟨fun _ _ e => e, fun _ h => .tail _ h⟩

/-- a new list -/
theorem HInv.newL {g : Gh} {σ : Store} {h h' : Heap} {D : Addr} {l : List PV} {vs : List Value} {n : Nat} (I : HInv g σ h) (hk : ∀ b o, h.get? b = some o → h'.get? b = some o) (hn : h.get? D = none) (hD : h'.get? D = some (LObj vs n))
    (hv : VRels g l vs) (hl : l.length ≤ 4096) : HInv (g.addL D) (σ ++ [l]) h' ∧ Keep g (g.addL D) h h' ∧ VRel (g.addL D) (.ref σ.length) (.ref D) := by
  have hDn : D ∉ g.rho := fun hm => by obtain ⟨o, ho⟩ := I.rho_some hm; rw [hn] at ho; cases ho
  refine ⟨⟨by simp [I.len], ?_, fun r l' hl' => ?_, fun x hx => ?_, fun l' hl' => ?_⟩, fun a o e hna => ⟨hk a o e, ?_⟩, ?_⟩
  · rw [List.nodup_append]
    refine ⟨I.nd, by simp, fun a ha b hb => ?_⟩
    rw [List.mem_singleton.mp hb]
    exact fun e => hDn (e ▸ ha)
  · rcases Nat.lt_or_ge r σ.length with h1 | h1
    · rw [List.getElem?_append_left h1] at hl'
      obtain ⟨a, ws, k, e1, e2, e3⟩ := I.lists r l' hl'
      exact ⟨a, ws, k, (g.le_addL D).rho _ _ e1, hk _ _ e2, e3.mono (g.le_addL D)⟩
    · have h2 : r = σ.length := by
        rcases Nat.lt_or_ge σ.length r with h3 | h3
        · rw [List.getElem?_eq_none (by simp; omega)] at hl'; cases hl'
        · omega
      subst h2
      simp at hl'
      subst hl'
      refine ⟨D, vs, n, ?_, hD, hv.mono (g.le_addL D)⟩
      show (g.rho ++ [D])[σ.length]? = some D
      rw [← I.len]; simp
  · obtain ⟨⟨o, ho, r⟩, hnm⟩ := I.tups x hx
    refine ⟨⟨o, hk _ _ ho, r⟩, fun hm => ?_⟩
    rcases List.mem_append.mp hm with hm | hm
    · exact hnm hm
    · rw [List.mem_singleton.mp hm, hn] at ho; cases ho
  · rcases List.mem_append.mp hl' with hm | hm
    · exact I.small l' hm
    · rw [List.mem_singleton.mp hm]; exact hl
  · intro hm
    rcases List.mem_append.mp hm with hm | hm
    · exact hna hm
    · rw [List.mem_singleton.mp hm, hn] at e; cases e
  · simp only [VRel]
    refine ⟨D, rfl, ?_⟩
    show (g.rho ++ [D])[σ.length]? = some D
    rw [← I.len]; simp
/-- a new tuple -/
theorem HInv.newT {g : Gh} {σ : Store} {h h' : Heap} {D : Addr} {l : List PV} {vs : List Value} (I : HInv g σ h) (hk : ∀ b o, h.get? b = some o → h'.get? b = some o) (hn : h.get? D = none) (hD : h'.IsTuple D vs.toArray)
    (hv : VRels g l vs) : HInv (g.addT D vs) σ h' ∧ Keep g (g.addT D vs) h h' ∧ VRel (g.addT D vs) (.tup l) (.ref D) := by
  have hDn : D ∉ g.rho := fun hm => by obtain ⟨o, ho⟩ := I.rho_some hm; rw [hn] at ho; cases ho
  refine ⟨⟨I.len, I.nd, fun r l' hl' => ?_, fun x hx => ?_, I.small⟩, fun a o e hna => ⟨hk a o e, hna⟩, ?_⟩
  · obtain ⟨a, ws, k, e1, e2, e3⟩ := I.lists r l' hl'
    exact ⟨a, ws, k, e1, hk _ _ e2, e3.mono (g.le_addT D vs)⟩
  · rcases List.mem_cons.mp hx with rfl | hx
    · exact ⟨hD, hDn⟩
    · obtain ⟨⟨o, ho, r⟩, hnm⟩ := I.tups x hx
      exact ⟨⟨o, hk _ _ ho, r⟩, hnm⟩
  · simp only [VRel]
    exact ⟨D, vs, rfl, .head _, hv.mono (g.le_addT D vs)⟩
/-- a list turned -/
theorem HInv.turn {g : Gh} {σ : Store} {h h' : Heap} {r : Nat} {a : Addr} {l : List PV} {vs : List Value} {n : Nat} (I : HInv g σ h) (ha : g.rho[r]? = some a) (hs : Heap.SameBut a h h') (hD : h'.get? a = some (LObj vs n))
    (hv : VRels g l vs) (hl : l.length ≤ 4096) : HInv g (σ.set r l) h' ∧ Keep g g h h' := by
  have ham : a ∈ g.rho := List.mem_of_getElem? ha
  refine ⟨⟨by simp [I.len], I.nd, fun k l' hl' => ?_, fun x hx => ?_, fun l' hl' => ?_⟩, fun b o e hnb => ⟨?_, hnb⟩⟩
  · rw [List.getElem?_set] at hl'
    by_cases hk : r = k
    · subst hk
      rw [if_pos rfl] at hl'
      split at hl'
      · cases hl'
        exact ⟨a, vs, n, ha, hD, hv⟩
      · cases hl'
    · rw [if_neg hk] at hl'
      obtain ⟨b, ws, m, e1, e2, e3⟩ := I.lists k l' hl'
      have hne : b ≠ a := fun e => hk (nodup_idx I.nd ha (e ▸ e1))
      exact ⟨b, ws, m, e1, (hs.2 b hne).trans e2, e3⟩
  · obtain ⟨⟨o, ho, q⟩, hnm⟩ := I.tups x hx
    exact ⟨⟨o, (hs.2 x.1 fun e => hnm (e ▸ ham)).trans ho, q⟩, hnm⟩
  · rcases List.mem_or_eq_of_mem_set hl' with hm | hm
    · exact I.small l' hm
    · rw [hm]; exact hl
  · exact (hs.2 b fun e' => hnb (e' ▸ ham)).trans e

theorem push_new (h : Heap) (o : Obj) : h.get? h.objs.size = none := by
  cases e : h.get? h.objs.size with
  | none => rfl
  | some o' => exact absurd (Heap.lt_size e) (Nat.lt_irrefl _)

section
variable {B : Base} {d : Nat} {κ : Str → Option NameKind} {ε : PEnv} {σ : Store}

theorem small_line {n : Nat} (h : n ≤ 4096) : n ≤ sizeLine := Nat.le_trans h (by decide)

theorem ev_tuple {es : List Expr} {k : Nat} {pos : Pos} {P : VPost} (h : Evs B d κ ε σ es fun ps σ₁ => ps.length ≤ 4096 ∧ P (.tup ps) σ₁) : Ev B d κ ε σ (.Tuple es k pos) P := by
  intro A g env s Q hA hI hp hR hQ
  refine Tuple_ (h A g env _ s _ hA hI hp hR fun ps σ₁ vs g₁ h₁ t₁ H l₁ I₁ k₁ r₁ => ?_)
  obtain ⟨hl, H⟩ := H
  refine wpAny_newObj_type ?_ (by show vs.toArray.size ≤ sizeLine; rw [List.size_toArray, r₁.length]; exact small_line hl)
  obtain ⟨I₂, k₂, r₂⟩ := I₁.newT (D := h₁.objs.size) (h' := h₁.push { cls := .type "tuple", data := .seq vs.toArray }) (fun b o e => Heap.get?_push_of_some _ e) (push_new h₁ { cls := .type "tuple", data := .seq vs.toArray }) ⟨_, Heap.get?_push_size _ rfl, rfl, _, rfl⟩ r₁
  exact hQ _ σ₁ _ _ _ _ H (l₁.trans (g₁.le_addT _ _)) I₂ (k₁.trans k₂) r₂
theorem ev_list {es : List Expr} {pos : Pos} {P : VPost} (h : Evs B d κ ε σ es fun ps σ₁ => ps.length ≤ 4096 ∧ P (.ref σ₁.length) (σ₁ ++ [ps])) : Ev B d κ ε σ (.List es pos) P := by
  intro A g env s Q hA hI hp hR hQ
  refine List_ (h A g env _ s _ hA hI hp hR fun ps σ₁ vs g₁ h₁ t₁ H l₁ I₁ k₁ r₁ => ?_)
  obtain ⟨hl, H⟩ := H
  refine wpAny_newObj_type ?_ (by show vs.toArray.size ≤ sizeLine; rw [List.size_toArray, r₁.length]; exact small_line hl)
  obtain ⟨I₂, k₂, r₂⟩ := I₁.newL (D := h₁.objs.size) (n := 0) (h' := h₁.push { cls := .type "list", data := .seq vs.toArray }) (fun b o e => Heap.get?_push_of_some _ e) (push_new h₁ { cls := .type "list", data := .seq vs.toArray }) (Heap.get?_push_size _ rfl) r₁ hl
  exact hQ _ _ _ _ _ _ H (l₁.trans (g₁.le_addL _)) I₂ (k₁.trans k₂) r₂

/-! ints -/
theorem bin_add {a b : Int} {P : VPost} (h : P (.int (a + b)) σ) : Bin B d .Add (.int a) (.int b) σ P := fun A g s v w Q hA hI hp hv hw hQ => by
  simp only [VRel] at hv hw
  obtain ⟨t, rfl⟩ := hv; obtain ⟨u, rfl⟩ := hw
  exact add_int (hQ.now hI h (by simp [VRel]))
theorem bin_sub {a b : Int} {P : VPost} (h : P (.int (a - b)) σ) : Bin B d .Sub (.int a) (.int b) σ P := fun A g s v w Q hA hI hp hv hw hQ => by
  simp only [VRel] at hv hw
  obtain ⟨t, rfl⟩ := hv; obtain ⟨u, rfl⟩ := hw
  exact sub_int (hQ.now hI h (by simp [VRel]))
noncomputable def Bits (a : Int) : Prop := Builtin.Int.intBits a ≤ 2 ^ 20
theorem bin_mul {a b : Int} {P : VPost} (ha : Bits a) (hb : Bits b) (h : P (.int (a * b)) σ) : Bin B d .Mult (.int a) (.int b) σ P := fun A g s v w Q hA hI hp hv hw hQ => by
  simp only [VRel] at hv hw
  obtain ⟨t, rfl⟩ := hv; obtain ⟨u, rfl⟩ := hw
  exact mul_int (hQ.now hI h (by simp [VRel])) (IntMulOk.of_bits ha hb)
theorem bin_mod {a b : Int} {P : VPost} (hb : b ≠ 0) (h : P (.int (a.fmod b)) σ) : Bin B d .Mod (.int a) (.int b) σ P := fun A g s v w Q hA hI hp hv hw hQ => by
  simp only [VRel] at hv hw
  obtain ⟨t, rfl⟩ := hv; obtain ⟨u, rfl⟩ := hw
  exact mod_int' hb (hQ.now hI h (by simp [VRel]))
theorem bin_div {a b : Int} {P : VPost} (hb : b ≠ 0) (h : P (.int (a.fdiv b)) σ) : Bin B d .FloorDiv (.int a) (.int b) σ P := fun A g s v w Q hA hI hp hv hw hQ => by
  simp only [VRel] at hv hw
  obtain ⟨t, rfl⟩ := hv; obtain ⟨u, rfl⟩ := hw
  exact floordiv_int hb (hQ.now hI h (by simp [VRel])) (.inr (pylongRoom hA hp))

/-! lists -/
theorem bin_cat {r q : Nat} {l m : List PV} {P : VPost} (h1 : σ[r]? = some l) (h2 : σ[q]? = some m) (hs : l.length + m.length ≤ 4096) (h : P (.ref σ.length) (σ ++ [l ++ m])) : Bin B d .Add (.ref r) (.ref q) σ P :=
  fun A g s v w Q hA hI hp hv hw hQ => by
    obtain ⟨a, vs, n, rfl, e1, e2, e3⟩ := hI.get h1 hv
    obtain ⟨b, ws, k, rfl, f1, f2, f3⟩ := hI.get h2 hw
    refine PySem.P.add_list e2 f2 ?_ (by simp [e3.length, f3.length]; exact small_line hs)
    rw [show (vs.toArray ++ ws.toArray) = (vs ++ ws).toArray by simp]
    obtain ⟨I₂, k₂, r₂⟩ := hI.newL (D := s.heap.objs.size) (n := 0) (h' := s.heap.push { cls := .type "list", data := .seq (vs ++ ws).toArray }) (fun b o e => Heap.get?_push_of_some _ e) (push_new s.heap { cls := .type "list", data := .seq (vs ++ ws).toArray }) (Heap.get?_push_size _ rfl) (e3.append f3) (by simpa using hs)
    exact hQ _ _ _ _ _ s.toks h (g.le_addL _) I₂ k₂ r₂
theorem flatten_rep {α : Type} (x : α) : ∀ n : Nat, (List.replicate n [x]).flatten = List.replicate n x
  | 0 => rfl
  | n + 1 => by rw [List.replicate_succ, List.flatten_cons, flatten_rep x n]; rfl
theorem bin_rep {r : Nat} {p : PV} {k : Int} {P : VPost} (h1 : σ[r]? = some [p]) (h0 : 0 ≤ k) (hk : k ≤ 256) (h : P (.ref σ.length) (σ ++ [List.replicate k.toNat p])) : Bin B d .Mult (.ref r) (.int k) σ P :=
  fun A g s v w Q hA hI hp hv hw hQ => by
    obtain ⟨a, vs, n, rfl, e1, e2, e3⟩ := hI.get h1 hv
    simp only [VRel] at hw
    obtain ⟨u, rfl⟩ := hw
    obtain ⟨x, hx, rx⟩ := e3.get (i := 0) (p := p) rfl
    have hvs : vs = [x] := by
      obtain ⟨y, rfl⟩ := List.length_eq_one_iff.mp e3.length
      simp at hx
      rw [hx]
    subst hvs
    have hl := lobj_isList e2
    have key : wpAny (model B.prog B.w) A (binaryOp .Mult (.ref a) (.int k u)) Q Nay s := by
      have hsz' : ([x] : List Value).toArray.size * k.toNat ≤ 256 := by simp; omega
      refine wpAny_binaryOp_repeat_ref (T := "list") (U := "int") (by decide) ⟨_, e2, rfl⟩ (fun s' => typeIs_int s' k u) noFill_list_mul F.fills_int_mul F.slot_int_rmul repeat_list F.slot_int_index.lookup
        (call_meets F.slot_int_rmul (typeIs_int s k u) F.entry_int_rmul (F.args_int_rmul_2 _ _) (lm_int_rmul_list_any k u a [x].toArray n none #[])
          ⟨e2, rfl, ⟨_, e2, rfl⟩, call_meets F.slot_list_mul ⟨_, e2, rfl⟩ F.entry_list_mul (F.args_list_mul_2 _ _)
            (lm_list_mul_any a [x].toArray n none #[] k u (by simp [Builtin.List.listFitsIndex]; omega) (by omega) (by simp [Builtin.List.listTooLong, sizeLine]; omega))
            ⟨e2, ?_⟩⟩)
      rw [listMul_foldl_if, flatten_rep]
      obtain ⟨I₂, k₂, r₂⟩ := hI.newL (D := s.heap.objs.size) (n := 0) (l := List.replicate k.toNat p) (h' := s.heap.push { cls := .type "list", data := .seq (List.replicate k.toNat x).toArray }) (fun b o e => Heap.get?_push_of_some _ e) (push_new s.heap { cls := .type "list", data := .seq (List.replicate k.toNat x).toArray }) (Heap.get?_push_size _ rfl)
        (VRels.of_get (by simp) fun i q w h1 h2 => by
          rw [List.getElem?_replicate] at h1 h2
          split at h1
          · rename_i hi
            rw [if_pos hi] at h2
            cases h1; cases h2; exact rx
          · cases h1) (by simp; omega)
      exact hQ _ _ _ _ _ s.toks h (g.le_addL _) I₂ k₂ r₂
    exact key
end
end Mine
end

section
open PySem PySem.W PyProof.Rows
set_option maxRecDepth 100000
namespace Mine

theorem VRels.ints {g : Gh} : ∀ {ns : List Int} {vs : List Value}, VRels g (ns.map .int) vs → ∀ (i : Nat) (h1 : i < vs.length) (h2 : i < ns.length), ∃ t, vs[i] = .int ns[i] t := fun {ns vs} h i h1 h2 => by
  obtain ⟨v, e, r⟩ := h.get (i := i) (p := .int ns[i]) (by simp [h2])
  simp only [VRel] at r
  obtain ⟨t, rfl⟩ := r
  rw [List.getElem?_eq_getElem h1] at e
  exact ⟨t, Option.some.inj e⟩

theorem all_eq {as bs : List Int} (hl : as.length = bs.length) : ((List.range as.length).all fun j => as.getD j 0 == bs.getD j 0) = decide (as = bs) := by
  rw [Bool.eq_iff_iff, List.all_eq_true, decide_eq_true_eq]
  constructor
  · intro h
    refine List.ext_getElem hl fun i h1 h2 => ?_
    have := h i (List.mem_range.mpr h1)
    simpa [h1, h2] using this
  · rintro rfl j _
    simp

section
variable {B : Base} {d : Nat} {κ : Str → Option NameKind} {ε : PEnv} {σ : Store}

theorem cmp_eq {a b : Int} {P : Bool → Prop} (h : P (a == b)) : Cmp B d .Eq (.int a) (.int b) σ P := fun A g s v w Q hA hI hp hv hw hQ => by
  simp only [VRel] at hv hw
  obtain ⟨t, rfl⟩ := hv; obtain ⟨u, rfl⟩ := hw
  exact eq_int (hQ _ h)
theorem cmp_ne {a b : Int} {P : Bool → Prop} (h : P (a != b)) : Cmp B d .NotEq (.int a) (.int b) σ P := fun A g s v w Q hA hI hp hv hw hQ => by
  simp only [VRel] at hv hw
  obtain ⟨t, rfl⟩ := hv; obtain ⟨u, rfl⟩ := hw
  exact ne_int (hQ _ h)
theorem cmp_lt {a b : Int} {P : Bool → Prop} (h : P (decide (a < b))) : Cmp B d .Lt (.int a) (.int b) σ P := fun A g s v w Q hA hI hp hv hw hQ => by
  simp only [VRel] at hv hw
  obtain ⟨t, rfl⟩ := hv; obtain ⟨u, rfl⟩ := hw
  exact lt_int (hQ _ h)
theorem cmp_gt {a b : Int} {P : Bool → Prop} (h : P (decide (b < a))) : Cmp B d .Gt (.int a) (.int b) σ P := fun A g s v w Q hA hI hp hv hw hQ => by
  simp only [VRel] at hv hw
  obtain ⟨t, rfl⟩ := hv; obtain ⟨u, rfl⟩ := hw
  exact gt_int (hQ _ h)
theorem cmp_eq_bool {a b : Bool} {P : Bool → Prop} (h : P (a == b)) : Cmp B d .Eq (.bool a) (.bool b) σ P := fun A g s v w Q hA hI hp hv hw hQ => by
  simp only [VRel] at hv hw
  subst hv hw
  exact SeqAt.RcAt.bool_bool (A := A) (s := s) a b _ _ _ _ (hQ _ h)
theorem cmp_ne_bool {a b : Bool} {P : Bool → Prop} (h : P (a != b)) : Cmp B d .NotEq (.bool a) (.bool b) σ P := fun A g s v w Q hA hI hp hv hw hQ => by
  simp only [VRel] at hv hw
  subst hv hw
  exact SeqAt.RcNeAt.bool_bool (A := A) (s := s) a b _ _ _ _ (hQ _ (by exact h))
theorem cmp_is_none {r : Nat} {P : Bool → Prop} (h : P false) : Cmp B d .Is (.ref r) .none σ P := fun A g s v w Q hA hI hp hv hw hQ => by
  simp only [VRel] at hv hw
  obtain ⟨a, rfl, _⟩ := hv
  subst hw
  exact wpAny_is_other rfl (fun e => nomatch e) (hQ _ h)
theorem cmp_none_none {P : Bool → Prop} (h : P true) : Cmp B d .Is .none .none σ P := fun A g s v w Q hA hI hp hv hw hQ => by
  simp only [VRel] at hv hw
  subst hv hw
  exact wpAny_is_self rfl (hQ _ h)

theorem tups_eq {g : Gh} {A : Around} {s : Shared} {as bs : List Int} {vs ws : List Value} (hv : VRels g (as.map .int) vs) (hw : VRels g (bs.map .int) ws) (hl : as.length = bs.length) :
    ∀ j (h1 : j < vs.toArray.size) (h2 : j < ws.toArray.size), SeqAt.EqAt A.in1 s vs.toArray[j] ws.toArray[j] (as.getD j 0 == bs.getD j 0) := by
  intro j h1 h2
  have e1 := hv.length; have e2 := hw.length
  simp only [List.length_map] at e1 e2
  simp only [List.size_toArray] at h1 h2
  obtain ⟨t, h3⟩ := hv.ints j h1 (by omega)
  obtain ⟨u, h4⟩ := hw.ints j h2 (by omega)
  simp only [List.getElem_toArray]
  rw [h3, h4, show as.getD j 0 = as[j]'(by omega) by simp [show j < as.length by omega], show bs.getD j 0 = bs[j]'(by omega) by simp [show j < bs.length by omega]]
  exact SeqAt.EqAt.int_int _ _ _ _

theorem cmp_eq_tup {as bs : List Int} {P : Bool → Prop} (hl : as.length = bs.length) (h : P (decide (as = bs))) : Cmp B d .Eq (.tup (as.map .int)) (.tup (bs.map .int)) σ P := fun A g s v w Q hA hI hp hv hw hQ => by
  simp only [VRel] at hv hw
  obtain ⟨a, vs, rfl, m1, r1⟩ := hv
  obtain ⟨b, ws, rfl, m2, r2⟩ := hw
  have e1 := r1.length; have e2 := r2.length
  simp only [List.length_map] at e1 e2
  refine SeqAt.RcAt.tuples (A := A) (s := s) (e := fun j => as.getD j 0 == bs.getD j 0) (hI.tups _ m1).1 (hI.tups _ m2).1 hA.cRoom (tups_eq r1 r2 hl) _ _ _ _ (hQ _ ?_)
  simp only [List.size_toArray, e1, e2, hl, Nat.min_self]
  rw [← hl, all_eq hl]
  simpa using h
theorem cmp_ne_tup {as bs : List Int} {P : Bool → Prop} (hl : as.length = bs.length) (h : P (!decide (as = bs))) : Cmp B d .NotEq (.tup (as.map .int)) (.tup (bs.map .int)) σ P := fun A g s v w Q hA hI hp hv hw hQ => by
  simp only [VRel] at hv hw
  obtain ⟨a, vs, rfl, m1, r1⟩ := hv
  obtain ⟨b, ws, rfl, m2, r2⟩ := hw
  have e1 := r1.length; have e2 := r2.length
  simp only [List.length_map] at e1 e2
  refine SeqAt.RcNeAt.tuples (A := A) (s := s) (e := fun j => as.getD j 0 == bs.getD j 0) (hI.tups _ m1).1 (hI.tups _ m2).1 hA.cRoom (tups_eq r1 r2 hl) _ _ _ _ (hQ _ ?_)
  simp only [List.size_toArray, e1, e2, hl, Nat.min_self]
  rw [← hl, all_eq hl]
  simpa using h
theorem cmp_ne_ints {r q : Nat} {as bs : List Int} {P : Bool → Prop} (h1 : σ[r]? = some (as.map .int)) (h2 : σ[q]? = some (bs.map .int)) (h : P (!decide (as = bs))) : Cmp B d .NotEq (.ref r) (.ref q) σ P := fun A g s v w Q hA hI hp hv hw hQ => by
  obtain ⟨a, vs, n, rfl, _, e, r1⟩ := hI.get h1 hv
  obtain ⟨b, ws, k, rfl, _, f, r2⟩ := hI.get h2 hw
  have e1 := r1.length; have e2 := r2.length
  simp only [List.length_map] at e1 e2
  by_cases hl : as.length = bs.length
  · refine SeqAt.RcNeAt.lists (A := A) (s := s) (e := fun j => as.getD j 0 == bs.getD j 0) (lobj_isList e) (lobj_isList f) (by simp [e1, e2, hl]) hA.cRoom (tups_eq r1 r2 hl) _ _ _ _ (hQ _ ?_)
    simp only [List.size_toArray, e1]
    rw [all_eq hl]
    exact h
  · refine SeqAt.RcNeAt.lists_lengths (A := A) (s := s) (lobj_isList e) (lobj_isList f) (by simp [e1, e2, hl]) hA.cRoom _ _ _ _ (hQ _ ?_)
    have : ¬ as = bs := fun e => hl (by rw [e])
    simpa [this] using h
/-- against the empty list -/
theorem cmp_ne_nil {r q : Nat} {l : List PV} {P : Bool → Prop} (h1 : σ[r]? = some l) (h2 : σ[q]? = some []) (h : P (!l.isEmpty)) : Cmp B d .NotEq (.ref r) (.ref q) σ P := fun A g s v w Q hA hI hp hv hw hQ => by
  obtain ⟨a, vs, n, rfl, _, e, r1⟩ := hI.get h1 hv
  obtain ⟨b, ws, k, rfl, _, f, r2⟩ := hI.get h2 hw
  simp only [VRels] at r2
  subst r2
  have e1 := r1.length
  cases l with
  | nil =>
    simp only [VRels] at r1
    subst r1
    exact SeqAt.RcNeAt.lists (A := A) (s := s) (e := fun j => true) (lobj_isList e) (lobj_isList f) rfl hA.cRoom (fun j h1 => nomatch h1) _ _ _ _ (hQ _ (by simpa using h))
  | cons p l =>
    exact SeqAt.RcNeAt.lists_lengths (A := A) (s := s) (lobj_isList e) (lobj_isList f) (by simp [e1]) hA.cRoom _ _ _ _ (hQ _ (by simpa using h))
theorem cmp_eq_nil {r q : Nat} {l : List PV} {P : Bool → Prop} (h1 : σ[r]? = some l) (h2 : σ[q]? = some []) (h : P l.isEmpty) : Cmp B d .Eq (.ref r) (.ref q) σ P := fun A g s v w Q hA hI hp hv hw hQ => by
  obtain ⟨a, vs, n, rfl, _, e, r1⟩ := hI.get h1 hv
  obtain ⟨b, ws, k, rfl, _, f, r2⟩ := hI.get h2 hw
  simp only [VRels] at r2
  subst r2
  have e1 := r1.length
  cases l with
  | nil =>
    simp only [VRels] at r1
    subst r1
    exact SeqAt.RcAt.lists (A := A) (s := s) (e := fun j => true) (lobj_isList e) (lobj_isList f) rfl hA.cRoom (fun j h1 => nomatch h1) _ _ _ _ (hQ _ (by simpa using h))
  | cons p l =>
    exact SeqAt.RcAt.lists_lengths (A := A) (s := s) (lobj_isList e) (lobj_isList f) (by simp [e1]) hA.cRoom _ _ _ _ (hQ _ (by simpa using h))

/-! an item -/
noncomputable def Itm (σ : Store) (p : PV) (k : Int) (q : PV) : Prop := match p with
  | .ref r => ∃ l, σ[r]? = some l ∧ 0 ≤ k ∧ k < 2 ^ 63 ∧ l[k.toNat]? = some q
  | .tup l => 0 ≤ k ∧ k < 2 ^ 63 ∧ l[k.toNat]? = some q
  | _ => False
theorem ev_item {value slice : Expr} {pos : Pos} {P : VPost} (h : Ev B d κ ε σ value fun p σ₁ => Ev B d κ ε σ₁ slice fun q σ₂ => ∃ k x, q = .int k ∧ Itm σ₂ p k x ∧ P x σ₂)
    (hs : ∀ o i, subscripted slice false o i = operate [o, i] (getItem o i) := by intros; with_unfolding_all rfl) : Ev B d κ ε σ (.Subscript value slice pos) P := by
  intro A g env s Q hA hI hp hR hQ
  refine Subscript_ (h A g env s _ hA hI hp hR fun p σ₁ v g₁ h₁ t₁ H l₁ I₁ k₁ r₁ => ?_)
  refine H A g₁ env _ _ hA I₁ (hp.keep k₁) (hR.keep l₁ k₁) fun q σ₂ w g₂ h₂ t₂ H₂ l₂ I₂ k₂ r₂ => ?_
  obtain ⟨k, x, rfl, hx, hP⟩ := H₂
  simp only [VRel] at r₂
  obtain ⟨u, rfl⟩ := r₂
  have r₁' := r₁.mono l₂
  have fin : ∀ y, VRel g₂ x y → Q y { s with heap := h₂, toks := t₂ } := fun y hy => ((hQ.step (tk := t₁) l₁ k₁).step (tk := t₂) l₂ k₂).now (s := { s with heap := h₂, toks := t₂ }) (tk := t₂) I₂ hP hy
  cases p with
  | ref r =>
    obtain ⟨l, hl, h0, h1, hx⟩ := hx
    obtain ⟨a, vs, n, rfl, e1, e2, e3⟩ := I₂.get hl r₁'
    obtain ⟨y, hy, ry⟩ := e3.get hx
    have hL := lobj_isList e2
    exact tail_any hL.typeIs slot_list_getitem.lookup (wpAny_getItem_list hL h0 h1 (by simpa using hy) (fin y ry)) (hs _ _)
  | tup l =>
    obtain ⟨h0, h1, hx⟩ := hx
    simp only [VRel] at r₁'
    obtain ⟨a, vs, rfl, m1, r3⟩ := r₁'
    obtain ⟨y, hy, ry⟩ := r3.get hx
    have hT := (I₂.tups _ m1).1
    have hlt : k.toNat < vs.length := (List.getElem?_eq_some_iff.mp hy).1
    have hT' : IsTup h₂ a vs.toArray := hT
    refine tail_any hT'.typeIs slot_tuple_getitem.lookup (getItem_tuple (j := k.toNat) hT' (by omega) h1 ?_ (by simpa using hy) (fin y ry)) (hs _ _)
    simp only [List.size_toArray]
    unfold seqIndex?
    have e0 : ¬ k < 0 := by omega
    simp only [e0, if_false]
    rw [if_pos (by simp only [Bool.and_eq_true, decide_eq_true_eq]; omega)]
  | _ => exact hx.elim

/-! a slice of a list -/
noncomputable def PartP (q : PV) (n : Option Nat) : Prop := match n with
  | none => q = .none
  | some k => q = .int k
theorem part_of {g : Gh} {q : PV} {n : Option Nat} {v : Value} (h : PartP q n) (hv : VRel g q v) : IsPart v (n.map fun k => (k : Int)) := by
  cases n with
  | none => subst h; simp only [VRel] at hv; subst hv; exact .none
  | some k => subst h; simp only [VRel] at hv; obtain ⟨t, rfl⟩ := hv; exact .int _ _
noncomputable def cut (l : List PV) : Option Nat → Option Nat → List PV
  | none, none => l
  | some a, none => l.drop a
  | none, some b => l.take b
  | some a, some b => (l.drop a).take (b - a)
theorem pick_cut {g : Gh} {l : List PV} {vs : List Value} (h : VRels g l vs) (lo hi : Option Nat) (h1 : lo = none ∨ hi = none) (hl : ∀ a, lo = some a → a ≤ l.length) :
    ∃ ws, slicePick vs.toArray (lo.map fun k => (k : Int)) (hi.map fun k => (k : Int)) none = ws.toArray ∧ VRels g (cut l lo hi) ws := by
  have e := h.length
  cases lo with
  | none =>
    cases hi with
    | none => exact ⟨vs, slicePick_all _, h⟩
    | some b =>
      rcases Nat.lt_or_ge vs.length b with hb | hb
      · refine ⟨vs, ?_, ?_⟩
        · show slicePick vs.toArray none (some (b : Int)) none = vs.toArray
          have e2 : sliceBounds none (some (b : Int)) none vs.toArray.size = (((0 : Nat) : Int), (vs.toArray.size : Int), 1) := by
            simp only [sliceBounds, Option.getD_none]
            have h2 : ¬ ((b : Int) < 0) := by omega
            simp only [h2, if_false, show (1 : Int) > 0 by decide, if_true, List.size_toArray]
            congr 1
            congr 1; omega
          unfold slicePick
          rw [e2]
          simp only [sliceRange_one, pick_run]
          simp
        · show VRels g (l.take b) vs
          rw [List.take_of_length_le (by omega)]; exact h
      · exact ⟨vs.take b, slicePick_upto _ b (by simpa using hb), h.take b⟩
  | some a =>
    cases hi with
    | none => exact ⟨vs.drop a, slicePick_from _ a (by simp [e]; exact hl a rfl), h.drop a⟩
    | some b => exact h1.elim (fun x => nomatch x) fun x => nomatch x
noncomputable def EvO (B : Base) (d : Nat) (κ : Str → Option NameKind) (ε : PEnv) (σ : Store) (e : Option Expr) (P : VPost) : Prop := match e with
  | none => P .none σ
  | some e => Ev B d κ ε σ e P
theorem evPart {e : Option Expr} {P : VPost} (h : EvO B d κ ε σ e P) {A : Around} {g : Gh} {env : Env} {s : Shared} {Q : Value → Shared → Prop} (hA : AOk A d) (hI : HInv g σ s.heap) (hp : Prot B g s.heap) (hR : EnvRel κ env ε g s.heap) (hQ : VCont g s P Q) :
    wpAny (model B.prog B.w) A (evalPart e env) Q Nay s := by
  cases e with
  | none => exact wpAny_pure (hQ.now (tk := s.toks) hI h (by simp [VRel]))
  | some e => exact h A g env s Q hA hI hp hR hQ
theorem eval_Slice_eq (lo hi : Option Expr) (p : Pos) (env : Env) : eval (.Slice lo hi none p) env = eval (.Slice lo hi none p) env := rfl
theorem ev_slice {value : Expr} {lo hi : Option Expr} {p pos : Pos} {P : VPost}
    (h : Ev B d κ ε σ value fun q σ₁ => EvO B d κ ε σ₁ lo fun ql σ₂ => EvO B d κ ε σ₂ hi fun qu σ₃ => ∃ r l a b, q = .ref r ∧ σ₃[r]? = some l ∧ PartP ql a ∧ PartP qu b ∧ (a = none ∨ b = none) ∧ (∀ k, a = some k → k ≤ l.length) ∧ P (.ref σ₃.length) (σ₃ ++ [cut l a b])) :
    Ev B d κ ε σ (.Subscript value (.Slice lo hi none p) pos) P := by
  intro A g env s Q hA hI hp hR hQ
  refine Subscript_ (h A g env s _ hA hI hp hR fun q σ₁ v g₁ h₁ t₁ H l₁ I₁ k₁ r₁ => ?_)
  refine wpAny_Slice (evPart H hA I₁ (hp.keep k₁) (hR.keep l₁ k₁) fun ql σ₂ vl g₂ h₂ t₂ H₂ l₂ I₂ k₂ r₂ => ?_)
  refine evPart H₂ hA I₂ ((hp.keep k₁).keep k₂) ((hR.keep l₁ k₁).keep l₂ k₂) fun qu σ₃ vu g₃ h₃ t₃ H₃ l₃ I₃ k₃ r₃ => ?_
  rw [evalPart_none]
  obtain ⟨r, l, a, b, rfl, hl, pa, pb, hab, hal, hP⟩ := H₃
  obtain ⟨D, vs, n, rfl, e1, e2, e3⟩ := I₃.get hl ((r₁.mono l₂).mono l₃)
  obtain ⟨ws, hws, rws⟩ := pick_cut e3 a b hab hal
  refine wpAny_pure ?_
  have e2' : (h₃.push { cls := .type "slice", data := .fields #[vl, vu, .none] }).get? D = some (LObj vs n) := Heap.get?_push_of_some _ e2
  have hL := lobj_isList e2'
  have hsz : vs.length ≤ 4096 := by rw [e3.length]; exact I₃.len_le hl
  refine tail_any (T := "list") hL.typeIs slot_list_getitem.lookup (wpAny_getItem_list_slice hL (Heap.IsSliceOf.new ..) (part_of pa (r₂.mono l₃)) (part_of pb r₃) .none (by simp) ?_ (by simpa using small_line hsz)) rfl
  rw [hws]
  obtain ⟨I₄, k₄, r₄⟩ := I₃.newL (D := (h₃.push { cls := .type "slice", data := .fields #[vl, vu, .none] }).objs.size) (n := 0) (l := cut l a b) (vs := ws)
    (h' := (h₃.push { cls := .type "slice", data := .fields #[vl, vu, .none] }).push { cls := .type "list", data := .seq ws.toArray })
    (fun b o e => Heap.get?_push_of_some _ (Heap.get?_push_of_some _ e)) (Heap.get?_none_of_le (by rw [Heap.size_push]; omega)) (Heap.get?_push_size _ rfl) rws
    (by have := I₃.len_le hl
        rcases a with _ | a <;> rcases b with _ | b <;> simp only [cut, List.length_drop, List.length_take] <;> omega)
  exact (((hQ.step (tk := t₁) l₁ k₁).step (tk := t₂) l₂ k₂).step (tk := t₃) l₃ k₃) _ _ _ _ _ t₃ hP (g₃.le_addL _) I₄ k₄ r₄
end
end Mine
end

section
open PySem PySem.W PyProof.Rows
set_option maxRecDepth 100000
namespace Mine

/-- what a global name holds that can be called -/
inductive Callee (B : Base) (x : Str) : Value → Prop where
  | fn {a : Addr} {o : Obj} {fd : FuncData} : B.mg x = some (.ref a) → B.hb.get? a = some o → o.data = .func fd → Callee B x (.ref a)
  | bi {id : String} : B.mg x = none → bootBuiltins x = some (.builtin id) → x ≠ "__name__" → Callee B x (.builtin id)
  | ty {T : String} : B.mg x = none → bootBuiltins x = some (.type T) → x ≠ "__name__" → Callee B x (.type T)

section
variable {B : Base} {d : Nat} {κ : Str → Option NameKind} {ε : PEnv} {σ : Store}

theorem load_callee {x : Str} {f : Value} (F : Callee B x f) {A : Around} {g : Gh} {env : Env} {s : Shared} {Q : Value → Shared → Prop} (hk : κ x = some .globalImplicit) (hp : Prot B g s.heap) (hR : EnvRel κ env ε g s.heap) (h : Q f s) {pos : Pos}
    (hd : (x == ("__debug__" : Str)) = false) : wpAny (model B.prog B.w) A (eval (.Name x pos) env) Q Nay s := by
  refine Calls.Name_function_global hR.kind ((hR.kap x).trans hk) ?_ hd
  have hg : s.heap.Ns env.globals B.mg := by rw [hR.glob]; exact B.top.g.keeps hp.keeps
  have hb : s.heap.Ns env.builtins B.mb := by rw [hR.blt]; exact B.top.b.keeps hp.keeps
  cases F with
  | fn h1 h2 h3 => exact Calls.loadGlobal_global hg h1 h
  | bi h1 h2 h3 => exact Calls.loadGlobal_builtin hg h1 hb ((B.top.builtins x h3).trans h2) h
  | ty h1 h2 h3 => exact Calls.loadGlobal_builtin hg h1 hb ((B.top.builtins x h3).trans h2) h

theorem callWith_callee {x : Str} {f : Value} (F : Callee B x f) {A : Around} {env : Env} {pos : Pos} {e : Expr} {rest : List Expr} {s : Shared} {Q : Value → Shared → Prop}
    (h : wpAny (model B.prog B.w) A (spliced (backTo pos (starEach (e :: rest) env))) (fun vs s₁ => (∀ a o, B.hb.get? a = some o → s₁.heap.get? a = some o) ∧ wpAny (model B.prog B.w) A (call f vs) Q Nay s₁) Nay s)
    (he : starEach (e :: rest) env = (false, eval e env) :: starEach rest env) (hplain : (backTo pos (starEach rest env)).any (·.1) = false) :
    wpAny (model B.prog B.w) A (callWith pos f [] (backTo pos (starEach (e :: rest) env)) []) Q Nay s := by
  have ha : (backTo pos (starEach (e :: rest) env)).any (·.1) = false := by rw [he]; show (false || (backTo pos (starEach rest env)).any (·.1)) = false; rw [hplain]; rfl
  have he' : backTo pos (starEach (e :: rest) env) = (false, eval e env) :: backTo pos (starEach rest env) := by rw [he]; rfl
  rw [he'] at h ⊢
  rw [he'] at ha
  cases F with
  | fn h1 h2 h3 => exact Calls.callWith_function (Calls.evalArgs_plain (wpAny_mono h (fun vs s₁ h₁ => ⟨⟨h₁.1 _ _ h2, h3⟩, h₁.2⟩) fun _ _ x => x))
  | bi h1 h2 h3 => exact Calls.callWith_builtin ha (Calls.evalArgs_plain (wpAny_mono h (fun vs s₁ h₁ => h₁.2) fun _ _ x => x))
  | ty h1 h2 h3 => exact PyProof.Rows.callWith_type ha (Calls.evalArgs_plain (wpAny_mono h (fun vs s₁ h₁ => h₁.2) fun _ _ x => x))

/-- a call by a global name -/
theorem ev_call {x : Str} {f : Value} {p pos : Pos} {e : Expr} {rest : List Expr} {P : VPost} (F : Callee B x f) (hk : κ x = some .globalImplicit) (h : Evs B d κ ε σ (e :: rest) fun ps σ₁ => CallV B d f ps σ₁ P)
    (hd : (x == ("__debug__" : Str)) = false := by decide)
    (he : ∀ env, starEach (e :: rest) env = (false, eval e env) :: starEach rest env := by intros; rfl) (hplain : ∀ pos env, (backTo pos (starEach rest env)).any (·.1) = false := by intros; rfl) :
    Ev B d κ ε σ (.Call (.Name x p) (e :: rest) [] pos) P := by
  intro A g env s Q hA hI hp hR hQ
  refine Call_Name rfl (load_callee F hk hp hR ?_ hd)
  refine callWith_callee F (h A g env pos s _ hA hI hp hR fun ps σ₁ vs g₁ h₁ t₁ H l₁ I₁ k₁ r₁ => ⟨(hp.keep k₁).keeps, ?_⟩) (he env) (hplain pos env)
  exact H A g₁ _ vs Q hA I₁ (hp.keep k₁) r₁ (hQ.step l₁ k₁)

/-! built-in calls -/
theorem call_len {r : Nat} {l : List PV} {P : VPost} (h1 : σ[r]? = some l) (h : P (.int l.length) σ) : CallV B d (.builtin "len") [.ref r] σ P := fun A g s vs Q hA hI hp hv hQ => by
  simp only [VRels] at hv
  obtain ⟨v, _, rfl, hv, rfl⟩ := hv
  obtain ⟨a, ws, n, rfl, e1, e2, e3⟩ := hI.get h1 hv
  have hl := hI.len_le h1
  refine Calls.call_len_list (lobj_isList e2) (by simp only [List.size_toArray, e3.length]; omega) ?_
  simp only [List.size_toArray, e3.length]
  exact hQ.now hI h (by simp [VRel])
theorem call_abs {a : Int} {P : VPost} (h : P (.int (if a < 0 then -a else a)) σ) : CallV B d (.builtin "abs") [.int a] σ P := fun A g s vs Q hA hI hp hv hQ => by
  simp only [VRels, VRel] at hv
  obtain ⟨v, _, rfl, ⟨t, rfl⟩, rfl⟩ := hv
  exact call_abs_int fun u tk => hQ.now hI h (by simp [VRel])
theorem call_int {a : Int} {P : VPost} (h : P (.int a) σ) : CallV B d (.type "int") [.int a] σ P := fun A g s vs Q hA hI hp hv hQ => by
  simp only [VRels, VRel] at hv
  obtain ⟨v, _, rfl, ⟨t, rfl⟩, rfl⟩ := hv
  exact call_int_int (hQ.now (tk := s.toks) hI h (by simp [VRel]))
theorem call_copy {r : Nat} {l : List PV} {P : VPost} (h1 : σ[r]? = some l) (h : P (.ref σ.length) (σ ++ [l])) : CallV B d (.type "list") [.ref r] σ P := fun A g s vs Q hA hI hp hv hQ => by
  simp only [VRels] at hv
  obtain ⟨v, _, rfl, hv, rfl⟩ := hv
  obtain ⟨a, ws, n, rfl, e1, e2, e3⟩ := hI.get h1 hv
  refine call_list_seq (items := ws.toArray) a (.inl rfl) e2 rfl rfl (fun h' c' hk hD => ?_) (by simp only [List.size_toArray, e3.length]; exact small_line (hI.len_le h1))
  obtain ⟨I₂, k₂, r₂⟩ := hI.newL (h' := h') hk (push_new s.heap { cls := .type "list", data := .seq #[] }) hD e3 (hI.len_le h1)
  exact hQ _ _ _ _ _ s.toks h (g.le_addL _) I₂ k₂ r₂

/-! a method of a list -/
theorem getMethod_list {l : Addr} {o : Obj} {name : Str} {id : String} {pl : Sem Bool} {Q : Value × List Value → Shared → Prop} {A : Around} {s : Shared} (slot : Slot "list" name id)
    (hty : typeOf (.builtin id) = pure (.type "method_descriptor")) (ho : s.heap.get? l = some o) (hc : o.cls = .type "list") (hd : o.dict = none)
    (h : Q (.builtin id, [.ref l]) s) : wpAny (model B.prog B.w) A (getMethod (.ref l) name pl) Q Nay s := by
  have hT : s.TypeIs (.ref l) "list" := ⟨o, ho, hc⟩
  unfold getMethod
  refine wpAny_bind (wpAny_specialOf hT list_getattribute ?_)
  show wpAny _ A (if (Manifest.canonical "list.__getattribute__" != "object.__getattribute__") = true then _ else _) Q _ s
  rw [canon_list_getattribute, if_neg Bool.false_ne_true]
  refine wpAny_bind (wpAny_specialOf hT list_getattr_none ?_)
  refine wpAny_bind (wpAny_specialOf hT slot.lookup ?_)
  refine wpAny_bind (wpAny_of_eq hty ?_)
  refine wpAny_bind (wpAny_load ho ?_)
  rw [hd]
  exact wpAny_bind (wpAny_rule (wpAny_pure h))

theorem ev_append {o elt : Expr} {apos pos : Pos} {P : VPost}
    (h : Ev B d κ ε σ o fun p σ₁ => ∃ r, p = .ref r ∧ r < σ₁.length ∧ Ev B d κ ε σ₁ elt fun q σ₂ => ∃ l, σ₂[r]? = some l ∧ l.length < 4096 ∧ P .none (σ₂.set r (l ++ [q])))
    (hbase : ∀ env : Env, attributeBase o "append" env (eval o env) = eval o env := by intros; rfl)
    (hfew : ∀ env : Env, ((backTo pos (starEach [elt] env)).all (fun x => !x.1) && (backToKw pos (keywordEach [] env)).all (fun x => x.1.isSome)
      && decide (([elt] : List Expr).length + ([] : List Keyword).length + (if ([] : List Keyword).isEmpty then 0 else 1) < 30)) = true := by intros; rfl)
    (hline : (apos.endLine == pos.line) = true := by decide)
    (htrees : ∀ env : Env, backTo pos (starEach [elt] env) = [(false, eval elt env)] := by intros; rfl) : Ev B d κ ε σ (.Call (.Attribute o "append" apos) [elt] [] pos) P := by
  intro A g env s Q hA hI hp hR hQ
  rw [arm_eval_Call, hbase]
  refine wpAny_bind (h A g env s _ hA hI hp hR fun p σ₁ v g₁ h₁ t₁ H l₁ I₁ k₁ r₁ => ?_)
  obtain ⟨r, rfl, hr, H⟩ := H
  have key : ∀ D, v = .ref D → wpAny (model B.prog B.w) A (callWith pos (.builtin "list.append") [.ref D] (backTo pos (starEach [elt] env)) []) Q Nay { s with heap := h₁, toks := t₁ } := by
    rintro D rfl
    rw [htrees env]
    refine PySem.P.append_list (H A g₁ env _ _ hA I₁ (hp.keep k₁) (hR.keep l₁ k₁) fun q σ₂ w g₂ h₂ t₂ H₂ l₂ I₂ k₂ r₂ => ?_)
    obtain ⟨l, hl, hlen, hP⟩ := H₂
    obtain ⟨D', ws, m, hD', e1, e2, e3⟩ := I₂.get hl (r₁.mono l₂)
    cases hD'
    refine ⟨ws.toArray, m, by simp only [List.size_toArray, e3.length]; exact small_line (Nat.le_of_lt hlen), e2, ?_⟩
    have hx := IsL.update (h := h₂) (l := D) (items := ws.toArray) (n := m) e2 (·.push w)
    obtain ⟨I₃, k₃⟩ := I₂.turn (h' := h₂.update D (Obj.mapSeq (·.push w))) (vs := ws ++ [w]) (n := m + 1) (l := l ++ [q]) e1 (Heap.SameBut.update ..) (by
      refine hx.trans ?_
      congr 1
      simp) (e3.append (.cons r₂ .nil)) (by simp; omega)
    exact ((hQ.step (tk := t₁) l₁ k₁).step (tk := t₂) l₂ k₂) .none _ _ _ _ t₂ hP (.refl _) I₃ k₃ (by simp [VRel])
  obtain ⟨D, vs, n, rfl, e1, e2, e3⟩ := I₁.get (r := r) (l := σ₁[r]) (by simp) r₁
  refine wpAny_bind (wpAny_standAt ?_)
  have fin := key D rfl
  have hform : methodCallForm (([elt] : List Expr).length + ([] : List Keyword).length) (backTo pos (starEach [elt] env)) (backToKw pos (keywordEach [] env)) = true := hfew env
  have hpos : methodCallPos true o env apos pos = pure pos := by unfold methodCallPos; simp [hline]
  unfold methodCall
  rw [hform]
  refine wpAny_bind (wpAny_holding (Calls.getMethod_list_append e2 rfl rfl ?_))
  exact wpAny_bind (wpAny_of_eq hpos fin)

theorem ev_reverse {o : Expr} {apos pos : Pos} {P : VPost}
    (h : Ev B d κ ε σ o fun p σ₁ => ∃ r l, p = .ref r ∧ σ₁[r]? = some l ∧ P .none (σ₁.set r l.reverse))
    (hbase : ∀ env : Env, attributeBase o "reverse" env (eval o env) = eval o env := by intros; rfl)
    (hline : (apos.endLine == pos.line) = true := by decide) : Ev B d κ ε σ (.Call (.Attribute o "reverse" apos) [] [] pos) P := by
  intro A g env s Q hA hI hp hR hQ
  rw [arm_eval_Call, hbase]
  refine wpAny_bind (h A g env s _ hA hI hp hR fun p σ₁ v g₁ h₁ t₁ H l₁ I₁ k₁ r₁ => ?_)
  obtain ⟨r, l, rfl, hl, hP⟩ := H
  obtain ⟨D, vs, n, rfl, e1, e2, e3⟩ := I₁.get hl r₁
  refine wpAny_bind (wpAny_standAt ?_)
  have hpos : methodCallPos true o env apos pos = pure pos := by unfold methodCallPos; simp [hline]
  have hform : methodCallForm (([] : List Expr).length + ([] : List Keyword).length) (backTo pos (starEach [] env)) (backToKw pos (keywordEach [] env)) = true := rfl
  unfold methodCall
  rw [hform]
  refine wpAny_bind (wpAny_holding (getMethod_list PySem.F.slot_list_reverse PySem.F.type_list_reverse e2 rfl rfl ?_))
  refine wpAny_bind (wpAny_of_eq hpos ?_)
  have hx := IsL.update (h := h₁) (l := D) (items := vs.toArray) (n := n) e2 (fun x => x.reverse)
  obtain ⟨I₃, k₃⟩ := I₁.turn (h' := h₁.update D (Obj.mapSeq fun x => x.reverse)) (vs := vs.reverse) (n := if (vs.toArray.reverse).size == vs.toArray.size then n else n + 1) (l := l.reverse) e1 (Heap.SameBut.update ..) (by
      refine hx.trans ?_
      congr 1
      simp) e3.reverse (by simpa using I₁.len_le hl)
  exact PySem.P.reverse_list e2 ((hQ.step (tk := t₁) l₁ k₁) .none _ _ _ _ t₁ hP (.refl _) I₃ k₃ (by simp [VRel])) (by simp only [List.size_toArray, e3.length]; exact small_line (I₁.len_le hl))
end
end Mine
end

section
open PySem PySem.W PyProof.Rows
set_option maxRecDepth 100000
namespace Mine

inductive PFlow where
  | next
  | brk
  | cont
  | ret (p : PV)
noncomputable def FRel (g : Gh) : PFlow → Flow → Prop
  | .next, f => f = .next
  | .brk, f => f = .brk
  | .cont, f => f = .cont
  | .ret p, f => ∃ v, f = .ret v ∧ VRel g p v
abbrev SPost := PFlow → PEnv → Store → Prop
noncomputable def upd (ε : PEnv) (x : Str) (p : PV) : PEnv := fun y => if y = x then some p else ε y

noncomputable def KeepE (env : Env) (g g' : Gh) (h h' : Heap) : Prop := ∀ a o, h.get? a = some o → a ∉ g.rho → a ≠ env.locals → (∀ y, env.cells.lookup y ≠ some a) → h'.get? a = some o ∧ a ∉ g'.rho
theorem KeepE.refl (env : Env) (g : Gh) (h : Heap) : KeepE env g g h h := fun _ _ e n _ _ => ⟨e, n⟩
theorem KeepE.trans {env : Env} {g g' g'' : Gh} {h h' h'' : Heap} (a : KeepE env g g' h h') (b : KeepE env g' g'' h' h'') : KeepE env g g'' h h'' := fun x o e n l c => let ⟨e', n'⟩ := a x o e n l c; b x o e' n' l c
theorem Keep.toE {env : Env} {g g' : Gh} {h h' : Heap} (k : Keep g g' h h') : KeepE env g g' h h' := fun a o e n _ _ => k a o e n
structure EnvOff (B : Base) (env : Env) : Prop where
  loc : B.hb.get? env.locals = none
  cell : ∀ x c, env.cells.lookup x = some c → B.hb.get? c = none
theorem Prot.keepE {B : Base} {env : Env} {g g' : Gh} {h h' : Heap} (p : Prot B g h) (O : EnvOff B env) (k : KeepE env g g' h h') : Prot B g' h' := fun a o e => by
  obtain ⟨e', n⟩ := p a o e
  exact k a o e' n (fun q => by rw [q, O.loc] at e; cases e) fun y q => by rw [O.cell y a q] at e; cases e

noncomputable def SCont (κ : Str → Option NameKind) (env : Env) (g : Gh) (s : Shared) (P : SPost) (Q : Flow → Shared → Prop) : Prop :=
  ∀ fl ε' σ' f g' h' tk', P fl ε' σ' → g.le g' → HInv g' σ' h' → KeepE env g g' s.heap h' → EnvRel κ env ε' g' h' → FRel g' fl f → Q f { s with heap := h', toks := tk' }
noncomputable def ACont (κ : Str → Option NameKind) (env : Env) (g : Gh) (s : Shared) (P : PEnv → Store → Prop) (Q : Unit → Shared → Prop) : Prop :=
  ∀ ε' σ' g' h' tk', P ε' σ' → g.le g' → HInv g' σ' h' → KeepE env g g' s.heap h' → EnvRel κ env ε' g' h' → Q () { s with heap := h', toks := tk' }
theorem SCont.step {κ : Str → Option NameKind} {env : Env} {g g' : Gh} {s : Shared} {h' : Heap} {tk : Nat} {P : SPost} {Q : Flow → Shared → Prop} (hQ : SCont κ env g s P Q) (l : g.le g') (k : KeepE env g g' s.heap h') : SCont κ env g' { s with heap := h', toks := tk } P Q :=
  fun fl ε' σ' f g'' h'' tk' hp a b c e r => hQ fl ε' σ' f g'' h'' tk' hp (l.trans a) b (k.trans c) e r
theorem ACont.step {κ : Str → Option NameKind} {env : Env} {g g' : Gh} {s : Shared} {h' : Heap} {tk : Nat} {P : PEnv → Store → Prop} {Q : Unit → Shared → Prop} (hQ : ACont κ env g s P Q) (l : g.le g') (k : KeepE env g g' s.heap h') : ACont κ env g' { s with heap := h', toks := tk } P Q :=
  fun ε' σ' g'' h'' tk' hp a b c e => hQ ε' σ' g'' h'' tk' hp (l.trans a) b (k.trans c) e

section
variable (B : Base) (d : Nat) (κ : Str → Option NameKind) (ε : PEnv) (σ : Store)
noncomputable def Ex (ss : List Stmt) (P : SPost) : Prop :=
  ∀ (A : Around) (g : Gh) (env : Env) (s : Shared) (Q : Flow → Shared → Prop), AOk A d → HInv g σ s.heap → Prot B g s.heap → EnvRel κ env ε g s.heap → EnvOff B env → SCont κ env g s P Q → wpAny (model B.prog B.w) A (execs ss env) Q Nay s
noncomputable def Ex1 (st : Stmt) (P : SPost) : Prop :=
  ∀ (A : Around) (g : Gh) (env : Env) (s : Shared) (Q : Flow → Shared → Prop), AOk A d → HInv g σ s.heap → Prot B g s.heap → EnvRel κ env ε g s.heap → EnvOff B env → SCont κ env g s P Q → wpAny (model B.prog B.w) A (exec st env) Q Nay s
noncomputable def As (t : Expr) (p : PV) (P : PEnv → Store → Prop) : Prop :=
  ∀ (A : Around) (g : Gh) (env : Env) (s : Shared) (v : Value) (Q : Unit → Shared → Prop), AOk A d → HInv g σ s.heap → Prot B g s.heap → EnvRel κ env ε g s.heap → EnvOff B env → VRel g p v → ACont κ env g s P Q → wpAny (model B.prog B.w) A (assign t env v) Q Nay s
end

section
variable {B : Base} {d : Nat} {κ : Str → Option NameKind} {ε : PEnv} {σ : Store}

/-- the store of a name -/
theorem store_name {A : Around} {g : Gh} {env : Env} {s : Shared} {x : Str} {p : PV} {v : Value} {Q : Unit → Shared → Prop} (hI : HInv g σ s.heap) (hR : EnvRel κ env ε g s.heap) (hk : κ x = some .local ∨ κ x = some .cell) (hv : VRel g p v)
    (hQ : ∀ h' tk, HInv g σ h' → EnvRel κ env (upd ε x p) g h' → (∀ a o, a ≠ env.locals → env.cells.lookup x ≠ some a → s.heap.get? a = some o → h'.get? a = some o) → Q () { s with heap := h', toks := tk }) :
    wpAny (model B.prog B.w) A (storeName env x v) Q Nay s := by
  have inv : ∀ (L : Addr) (h' : Heap), L ∉ g.rho → (∀ y ∈ g.tups, y.1 ≠ L ∨ h'.get? y.1 = s.heap.get? y.1) → (∀ a o, a ≠ L → s.heap.get? a = some o → h'.get? a = some o) → HInv g σ h' := fun L h' hL hT hk' => by
    refine ⟨hI.len, hI.nd, fun r l hl => ?_, fun y hy => ?_, hI.small⟩
    · obtain ⟨a, vs, n, e1, e2, e3⟩ := hI.lists r l hl
      exact ⟨a, vs, n, e1, hk' a _ (fun e => hL (e ▸ List.mem_of_getElem? e1)) e2, e3⟩
    · obtain ⟨⟨o, ho, q⟩, n⟩ := hI.tups y hy
      refine ⟨⟨o, ?_, q⟩, n⟩
      rcases hT y hy with h | h
      · exact hk' _ _ h ho
      · rw [h]; exact ho
  rcases hk with hk | hk
  · obtain ⟨m, hm, hmv⟩ := hR.ns
    have hT : ∀ y ∈ g.tups, y.1 ≠ env.locals := by
      intro y hy e
      obtain ⟨o, ho, hc, n, hd⟩ := (hI.tups y hy).1
      obtain ⟨o', es, ep, ho', hd', _⟩ := hm
      rw [e, ho'] at ho; cases ho
      rw [hd'] at hd; cases hd
    refine wpAny_storeName_local ((hR.kap x).trans hk) hm (fun h' hn hs => ?_) (by rw [hR.kind]; rfl)
    have hk' : ∀ a o, a ≠ env.locals → s.heap.get? a = some o → h'.get? a = some o := fun a o ha e => (hs.2 a ha).trans e
    refine hQ h' _ (inv env.locals h' hR.locOff (fun y hy => .inl (hT y hy)) hk') ?_ fun a o ha _ e => hk' a o ha e
    refine ⟨hR.kind, hR.glob, hR.blt, hR.kap, ⟨_, hn, fun y q hy hky => ?_⟩, fun y hy => ?_, hR.locOff, fun y c hc => ?_, hR.cellInj, fun y q hy => ?_⟩
    · unfold upd at hy
      by_cases hyx : y = x
      · rw [if_pos hyx] at hy; cases hy
        exact ⟨v, by simp [hyx], hv⟩
      · rw [if_neg hyx] at hy
        obtain ⟨w, e, r⟩ := hmv y q hy hky
        exact ⟨w, by simp [hyx, e], r⟩
    · obtain ⟨c, ov, hc, ⟨o, ho, hd⟩, hp⟩ := hR.cells y hy
      refine ⟨c, ov, hc, ⟨o, hk' c o (hR.cellOff y c hc).2.1 ho, hd⟩, fun q hq => hp q ?_⟩
      unfold upd at hq
      rw [if_neg] at hq
      · exact hq
      · rintro rfl
        rw [hk] at hy
        rcases hy with h | h <;> cases h
    · obtain ⟨a, b, ov, o, ho, hd⟩ := hR.cellOff y c hc
      exact ⟨a, b, ov, o, hk' c o b ho, hd⟩
    · unfold upd at hy
      by_cases hyx : y = x
      · exact .inl (hyx ▸ hk)
      · rw [if_neg hyx] at hy; exact hR.dom y q hy
  · obtain ⟨c, ov, hc, hcell, hp⟩ := hR.cells x (.inl hk)
    obtain ⟨c1, c2, c3⟩ := hR.cellOff x c hc
    have hT : ∀ y ∈ g.tups, y.1 ≠ c := by
      intro y hy e
      obtain ⟨o, ho, hcl, n, hd⟩ := (hI.tups y hy).1
      obtain ⟨o', ho', hd'⟩ := hcell
      rw [e, ho'] at ho; cases ho
      rw [hd'] at hd; cases hd
    refine wpAny_storeName_cell hR.kind ((hR.kap x).trans hk) hc hcell fun h' hc' hs => ?_
    have hk' : ∀ a o, a ≠ c → s.heap.get? a = some o → h'.get? a = some o := fun a o ha e => (hs.2 a ha).trans e
    refine hQ h' s.toks (inv c h' c1 (fun y hy => .inl (hT y hy)) hk') ?_ fun a o _ ha e => hk' a o (fun e' => ha (e' ▸ hc)) e
    refine ⟨hR.kind, hR.glob, hR.blt, hR.kap, ?_, fun y hy => ?_, hR.locOff, fun y b hb => ?_, hR.cellInj, fun y q hy => ?_⟩
    · obtain ⟨m, hm, hmv⟩ := hR.ns
      refine ⟨m, hm.at' fun o e => hk' _ o (Ne.symm c2) e, fun y q hy hky => ?_⟩
      unfold upd at hy
      by_cases hyx : y = x
      · subst hyx; rw [hk] at hky; cases hky
      · rw [if_neg hyx] at hy; exact hmv y q hy hky
    · obtain ⟨b, ob, hb, ⟨o, ho, hd⟩, hq⟩ := hR.cells y hy
      by_cases hyx : y = x
      · subst hyx
        rw [hc] at hb; cases hb
        refine ⟨c, some v, hc, hc', fun q hq' => ?_⟩
        unfold upd at hq'
        rw [if_pos rfl] at hq'; cases hq'
        exact ⟨v, rfl, hv⟩
      · have hbc : b ≠ c := fun e => hyx (hR.cellInj y x c (e ▸ hb) hc)
        refine ⟨b, ob, hb, ⟨o, hk' b o hbc ho, hd⟩, fun q hq' => hq q ?_⟩
        unfold upd at hq'
        rwa [if_neg hyx] at hq'
    · obtain ⟨a1, a2, ob, o, ho, hd⟩ := hR.cellOff y b hb
      by_cases hbc : b = c
      · subst hbc; exact ⟨a1, a2, _, hc'⟩
      · exact ⟨a1, a2, ob, o, hk' b o hbc ho, hd⟩
    · unfold upd at hy
      by_cases hyx : y = x
      · exact .inr (.inl (hyx ▸ hk))
      · rw [if_neg hyx] at hy; exact hR.dom y q hy

theorem as_name {x : Str} {pos : Pos} {p : PV} {P : PEnv → Store → Prop} (hk : κ x = some .local ∨ κ x = some .cell) (h : P (upd ε x p) σ) : As B d κ ε σ (.Name x pos) p P := by
  intro A g env s v Q hA hI hp hR hO hv hQ
  exact wpAny_assign_Name (store_name hI hR hk hv fun h' tk I' R' k' => hQ _ _ _ _ _ h (.refl g) I' (fun a o e n l c => ⟨k' a o l (c x) e, n⟩) R')

theorem as_item {o i : Expr} {pos : Pos} {p : PV} {P : PEnv → Store → Prop}
    (h : Ev B d κ ε σ o fun po σ₁ => Ev B d κ ε σ₁ i fun pi σ₂ => ∃ r k l, po = .ref r ∧ pi = .int k ∧ σ₂[r]? = some l ∧ 0 ≤ k ∧ k.toNat < l.length ∧ P ε (σ₂.set r (l.set k.toNat p))) : As B d κ ε σ (.Subscript o i pos) p P := by
  intro A g env s v Q hA hI hp hR hO hv hQ
  rw [arm_assign_Subscript]
  refine wpAny_bind (wpAny_holding (h A g env s _ hA hI hp hR fun po σ₁ ov g₁ h₁ t₁ H l₁ I₁ k₁ r₁ => ?_))
  refine wpAny_bind (wpAny_holding (H A g₁ env _ _ hA I₁ (hp.keep k₁) (hR.keep l₁ k₁) fun pi σ₂ iv g₂ h₂ t₂ H₂ l₂ I₂ k₂ r₂ => ?_))
  obtain ⟨r, k, l, rfl, rfl, hl, h0, hlt, hP⟩ := H₂
  simp only [VRel] at r₂
  obtain ⟨u, rfl⟩ := r₂
  obtain ⟨a, vs, n, rfl, e1, e2, e3⟩ := I₂.get hl (r₁.mono l₂)
  have hlen := I₂.len_le hl
  have hL := lobj_isList e2
  have hfit := fitsIndex_of h0 (show k < 2 ^ 63 by omega)
  refine wpAny_bind (wpAny_standAt (wpAny_bind (wpAny_holding ?_)))
  unfold setItem
  refine wpAny_holding (wpAny_bind (wpAny_sequenceKey hL.typeIs (by decide) (wpAny_bind (wpAny_callSpecial?_slot (name := Str.ofString "__setitem__") hL.typeIs slot_list_setitem (wpAny_call_entry slot_list_setitem hL.typeIs entry_list_setitem ?_ (args_list_setitem _ _ _))))))
  show wpAny _ _ (Builtin.List.listSubscript? (.int k u) >>= _) _ _ _
  refine wpAny_bind (wpAny_listSubscript_int hfit ?_)
  clear hfit
  obtain ⟨j, rfl⟩ := Int.eq_ofNat_of_zero_le h0
  have hj : j < vs.toArray.size := by simp only [List.size_toArray, e3.length]; exact hlt
  show wpAny _ _ ((seqItemAt a j >>= fun r => pure (r.map (j, ·))) >>= _) _ _ _
  refine wpAny_bind (wpAny_bind (wpAny_seqItemAt e2 rfl (wpAny_pure ?_)))
  rw [Array.getElem?_eq_getElem hj]
  show wpAny _ _ (setSeqItemAt a j v >>= _) _ _ _
  refine wpAny_bind (wpAny_setSeqItemAt e2 rfl ?_)
  refine wpAny_pure ⟨.none, rfl, wpAny_pure ?_⟩
  have hx := IsL.update (h := h₂) (l := a) (items := vs.toArray) (n := n) e2 (·.setIfInBounds j v)
  obtain ⟨I₃, k₃⟩ := I₂.turn (h' := h₂.update a (Obj.mapSeq (·.setIfInBounds j v))) (vs := vs.set j v) (n := if (vs.toArray.setIfInBounds j v).size == vs.toArray.size then n else n + 1) (l := l.set j p) e1 (Heap.SameBut.update ..) (by
      refine hx.trans ?_
      congr 1
      simp) (e3.set j ((hv.mono l₁).mono l₂)) (by simpa using hlen)
  have fin := hQ ε _ g₂ _ t₂ hP (l₁.trans l₂) I₃ (((k₁.trans k₂).trans k₃).toE) (((hR.keep l₁ k₁).keep l₂ k₂).keep (.refl _) k₃)
  refine fun Γ q hΓ => ?_
  rw [Sem.wp_release]
  exact fin
end
end Mine
end

section
open PySem PySem.W PyProof.Rows
set_option maxRecDepth 100000
namespace Mine
section
variable {B : Base} {d : Nat} {κ : Str → Option NameKind} {ε : PEnv} {σ : Store}

/-- several targets, in order -/
noncomputable def Ass (B : Base) (d : Nat) (κ : Str → Option NameKind) : PEnv → Store → List Expr → List PV → (PEnv → Store → Prop) → Prop
  | ε, σ, [], [], P => P ε σ
  | ε, σ, t :: ts, p :: ps, P => As B d κ ε σ t p fun ε' σ' => Ass B d κ ε' σ' ts ps P
  | _, _, _, _, _ => False
theorem ass_run : ∀ {ts : List Expr} {ps : List PV} {ε : PEnv} {σ : Store} {P : PEnv → Store → Prop}, Ass B d κ ε σ ts ps P → ∀ {A : Around} {g : Gh} {env : Env} {s : Shared} {vs : List Value} {Q : Unit → Shared → Prop} {fs : List (Value → Sem Unit)},
    fs = ts.map (fun t => assign t env) → AOk A d → HInv g σ s.heap → Prot B g s.heap → EnvRel κ env ε g s.heap → EnvOff B env → VRels g ps vs → ACont κ env g s P Q → wpAny (model B.prog B.w) A (assignInOrder fs vs) Q Nay s
  | [], [], ε, σ, P, h, A, g, env, s, vs, Q, fs, hf, hA, hI, hp, hR, hO, hv, hQ => by
    subst hf
    unfold assignInOrder
    exact wpAny_pure (hQ ε σ g s.heap s.toks h (.refl g) hI (.refl _ g _) hR)
  | t :: ts, p :: ps, ε, σ, P, h, A, g, env, s, vs, Q, fs, hf, hA, hI, hp, hR, hO, hv, hQ => by
    subst hf
    simp only [VRels] at hv
    obtain ⟨v, r, rfl, h1, h2⟩ := hv
    show wpAny _ _ (assignInOrder (assign t env :: ts.map (fun t => assign t env)) (v :: r)) _ _ _
    unfold assignInOrder
    refine wpAny_bind (wpAny_holding (h A g env s v _ hA hI hp hR hO h1 fun ε' σ' g' h' tk' H l I k R => ?_))
    exact ass_run H rfl hA I (hp.keepE hO k) R hO (h2.mono l) (hQ.step l k)
  | [], _ :: _, _, _, _, h, _, _, _, _, _, _, _, _, _, _, _, _, _, _, _ => h.elim
  | _ :: _, [], _, _, _, h, _, _, _, _, _, _, _, _, _, _, _, _, _, _, _ => h.elim

theorem as_tuple {ts : List Expr} {k : Nat} {pos : Pos} {ps : List PV} {P : PEnv → Store → Prop} (hn : ts.length = ps.length) (h : Ass B d κ ε σ ts ps P)
    (hs : ∀ env, assignEach ts env = ts.map (fun t => (false, assign t env)) := by intros; rfl) : As B d κ ε σ (.Tuple ts k pos) (.tup ps) P := by
  intro A g env s v Q hA hI hp hR hO hv hQ
  simp only [VRel] at hv
  obtain ⟨a, vs, rfl, m, r⟩ := hv
  rw [arm_assign_Tuple]
  refine wpAny_bind (wpAny_standAt ?_)
  unfold unpack
  rw [hs env]
  have hno : (ts.map (fun t => (false, assign t env))).findIdx? (·.1) = none := by
    rw [List.findIdx?_eq_none_iff]
    intro x hx
    obtain ⟨t, _, rfl⟩ := List.mem_map.mp hx
    rfl
  rw [hno]
  refine wpAny_bind (wpAny_holding ?_)
  have hT : IsTup s.heap a vs.toArray := (hI.tups _ m).1
  have hl : (ts.map (fun t => (false, assign t env))).length = vs.toArray.size := by simp [r.length, hn]
  rw [hl]
  refine unpackItems_tuple hA.handled hT fun h' he => ?_
  have hk : ∀ b o, s.heap.get? b = some o → h'.get? b = some o := fun b o e => he b o (Nat.ne_of_lt (Heap.lt_size e)) e
  refine ass_run (ts := ts) (s := { s with heap := h' }) h ?_ hA (hI.grow hk) (fun x o e => ⟨hk _ _ (hp x o e).1, (hp x o e).2⟩) (hR.keep (.refl g) (Keep.grow hk)) hO r (hQ.step (tk := s.toks) (.refl g) (Keep.grow hk).toE)
  rw [List.map_map]; rfl

theorem ex_nil {P : SPost} (h : P .next ε σ) : Ex B d κ ε σ [] P := fun A g env s Q hA hI hp hR hO hQ => wpAny_execs_nil (hQ .next ε σ .next g s.heap s.toks h (.refl g) hI (.refl _ _ _) hR rfl)
theorem ex_cons {st : Stmt} {rest : List Stmt} {P : SPost} (h : Ex1 B d κ ε σ st fun fl ε' σ' => match fl with | .next => Ex B d κ ε' σ' rest P | fl => P fl ε' σ') : Ex B d κ ε σ (st :: rest) P := by
  intro A g env s Q hA hI hp hR hO hQ
  refine wpAny_execs_cons (h A g env s _ hA hI hp hR hO fun fl ε' σ' f g' h' tk' H l I k R r => ?_)
  cases fl with
  | next =>
    cases r
    exact H A g' env _ Q hA I (hp.keepE hO k) R hO (hQ.step l k)
  | brk => cases r; exact hQ _ _ _ _ _ _ _ H l I k R rfl
  | cont => cases r; exact hQ _ _ _ _ _ _ _ H l I k R rfl
  | ret p =>
    obtain ⟨v, rfl, hv⟩ := r
    exact hQ _ _ _ _ _ _ _ H l I k R ⟨v, rfl, hv⟩
theorem Ex1.mono {st : Stmt} {P P' : SPost} (h : Ex1 B d κ ε σ st P) (hP : ∀ fl ε' σ', P fl ε' σ' → P' fl ε' σ') : Ex1 B d κ ε σ st P' :=
  fun A g env s Q hA hI hp hR hO hQ => h A g env s Q hA hI hp hR hO fun fl ε' σ' f g' h' tk' H => hQ fl ε' σ' f g' h' tk' (hP _ _ _ H)
theorem Ex.mono {ss : List Stmt} {P P' : SPost} (h : Ex B d κ ε σ ss P) (hP : ∀ fl ε' σ', P fl ε' σ' → P' fl ε' σ') : Ex B d κ ε σ ss P' :=
  fun A g env s Q hA hI hp hR hO hQ => h A g env s Q hA hI hp hR hO fun fl ε' σ' f g' h' tk' H => hQ fl ε' σ' f g' h' tk' (hP _ _ _ H)

/-- a plain store -/
theorem ex_assign {t value : Expr} {pos : Pos} {P : SPost} (h : Ev B d κ ε σ value fun p σ₁ => As B d κ ε σ₁ t p fun ε' σ' => P .next ε' σ')
    (hs : ∀ env, swapsWithSole [t] value pos.line env = pure false := by intros; rfl) (hw : ∀ env, swappedStores [t] value env = pure none := by intros; rfl)
    (hst : ∀ env, assignEach [t] env = [(false, assign t env)] := by intros; rfl) : Ex1 B d κ ε σ (.Assign [t] value pos) P := by
  intro A g env s Q hA hI hp hR hO hQ
  rw [arm_exec_Assign, hs env, hst env]
  refine wpAny_bind (wpAny_standAt (wpAny_bind (wpAny_pure ?_)))
  simp only [Bool.false_eq_true, if_false]
  refine wpAny_bind (h A g env s _ hA hI hp hR fun p σ₁ v g₁ h₁ t₁ H l₁ I₁ k₁ r₁ => ?_)
  rw [hw env]
  refine wpAny_bind (wpAny_pure ?_)
  show wpAny (model B.prog B.w) A (assign t env v >>= fun _ => pure Flow.next) Q Nay _
  refine wpAny_bind (H A g₁ env _ v _ hA I₁ (hp.keep k₁) (hR.keep l₁ k₁) hO r₁ fun ε' σ' g' h' tk' H₂ l I k R => ?_)
  exact wpAny_pure (hQ .next ε' σ' .next g' h' tk' H₂ (l₁.trans l) I (k₁.toE.trans k) R rfl)

noncomputable def kapOf (sc : Scope) : Str → Option NameKind := fun x => sc.names.lookup x
noncomputable def envK (sc : Scope) : Env := { scope := sc, locals := 0, globals := 0, cells := [] }
theorem swapped_congr {env env' : Env} (hk : ∀ x, env.kindOf x = env'.kindOf x) (hb : env.blockKind = env'.blockKind) (ts : List Expr) (v : Expr) : swappedStores ts v env = swappedStores ts v env' := by
  have e : env.kindOf = env'.kindOf := funext hk
  delta swappedStores
  rw [e, hb]

noncomputable def updR (ε : PEnv) : List Str → List PV → PEnv
  | n :: ns, p :: ps => updR (upd ε n p) ns ps
  | _, _ => ε
theorem names_run : ∀ {ns : List Str} {ps : List PV} {ε : PEnv} {A : Around} {g : Gh} {env : Env} {s : Shared} {vs : List Value} {Q : Unit → Shared → Prop} {P : PEnv → Store → Prop}, ns.length = ps.length → (∀ n ∈ ns, κ n = some .local) → P (updR ε ns ps) σ →
    HInv g σ s.heap → EnvRel κ env ε g s.heap → VRels g ps vs → ACont κ env g s P Q → wpAny (model B.prog B.w) A (assignInOrder (ns.map fun n => bindName env n) vs) Q Nay s
  | [], [], ε, A, g, env, s, vs, Q, P, hl, hk, h, hI, hR, hv, hQ => by
    show wpAny _ _ (assignInOrder [] vs) _ _ _
    unfold assignInOrder
    exact wpAny_pure (hQ ε σ g s.heap s.toks h (.refl g) hI (.refl _ g _) hR)
  | n :: ns, p :: ps, ε, A, g, env, s, vs, Q, P, hl, hk, h, hI, hR, hv, hQ => by
    simp only [VRels] at hv
    obtain ⟨v, r, rfl, h1, h2⟩ := hv
    show wpAny _ _ (assignInOrder (bindName env n :: ns.map fun n => bindName env n) (v :: r)) _ _ _
    unfold assignInOrder
    refine wpAny_bind (wpAny_holding (wpAny_bindName (store_name hI hR (.inl (hk n (.head _))) h1 fun h' tk I' R' k' => ?_)))
    have kE : KeepE env g g s.heap h' := fun a o e m l c => ⟨k' a o l (c n) e, m⟩
    exact names_run (by simpa using hl) (fun m hm => hk m (.tail _ hm)) h I' R' h2 (hQ.step (.refl g) kE)
  | [], _ :: _, _, _, _, _, _, _, _, _, hl, _, _, _, _, _, _ => by simp at hl
  | _ :: _, [], _, _, _, _, _, _, _, _, hl, _, _, _, _, _, _ => by simp at hl

/-- two or three names at once: stored from behind -/
theorem ex_swap {sc : Scope} {ts vs : List Expr} {k k' : Nat} {tp vp pos : Pos} {names : List Str} {P : SPost} (hκ : κ = kapOf sc) (hsc : sc.kind = .function)
    (hw : swappedStores [.Tuple ts k tp] (.Tuple vs k' vp) (envK sc) = pure (some names)) (hn : ∀ n ∈ names, κ n = some .local)
    (h : Evs B d κ ε σ vs fun ps σ₁ => ps.length = names.length ∧ names.length ≤ 3 ∧ P .next (updR ε names.reverse ps.reverse) σ₁)
    (hst : ∀ env, assignEach [.Tuple ts k tp] env = [(false, assign (.Tuple ts k tp) env)] := by intros; rfl) : Ex1 B d κ ε σ (.Assign [.Tuple ts k tp] (.Tuple vs k' vp) pos) P := by
  intro A g env s Q hA hI hp hR hO hQ
  rw [arm_exec_Assign, hst env]
  have hs : swapsWithSole [.Tuple ts k tp] (.Tuple vs k' vp) pos.line env = pure false := rfl
  rw [hs]
  refine wpAny_bind (wpAny_standAt (wpAny_bind (wpAny_pure ?_)))
  simp only [Bool.false_eq_true, if_false]
  have ev : Ev B d κ ε σ (.Tuple vs k' vp) fun p σ₁ => ∃ ps, p = .tup ps ∧ ps.length = names.length ∧ P .next (updR ε names.reverse ps.reverse) σ₁ :=
    ev_tuple fun A g env pos s Q a b c e f => h A g env pos s Q a b c e fun ps σ' vs g' h' tk' hP => f ps σ' vs g' h' tk' ⟨by omega, ps, rfl, hP.1, hP.2.2⟩
  refine wpAny_bind (ev A g env s _ hA hI hp hR fun p σ₁ v g₁ h₁ t₁ H l₁ I₁ k₁ r₁ => ?_)
  obtain ⟨ps, rfl, hlen, hP⟩ := H
  rw [swapped_congr (env := env) (env' := envK sc) (fun x => by rw [hR.kap x, hκ]; rfl) (by unfold Env.blockKind; rw [hR.kind, show (envK sc).scope.kind = .function from hsc]), hw]
  refine wpAny_bind (wpAny_pure ?_)
  simp only [VRel] at r₁
  obtain ⟨a, ws, rfl, m, r⟩ := r₁
  have hT : IsTup h₁ a ws.toArray := (I₁.tups _ m).1
  show wpAny (model B.prog B.w) A (do rule "assign.swapped-stores"; let items ← unpackItems (.ref a) names.length none; assignInOrder (names.reverse.map fun n => bindName env n) items.reverse; pure Flow.next) Q Nay _
  refine wpAny_bind (wpAny_rule (wpAny_bind ?_))
  rw [show names.length = ws.toArray.size by simp [r.length, hlen]]
  refine unpackItems_tuple hA.handled hT fun h' he => ?_
  have hk : ∀ b o, h₁.get? b = some o → h'.get? b = some o := fun b o e => he b o (Nat.ne_of_lt (Heap.lt_size e)) e
  refine wpAny_bind (names_run (s := { s with heap := h', toks := t₁ }) (P := fun ε' σ' => P .next ε' σ') (by simp [hlen]) (fun n hm => hn n (List.mem_reverse.mp hm)) hP (I₁.grow hk) ((hR.keep l₁ k₁).keep (.refl _) (Keep.grow hk)) r.reverse fun ε' σ' g' h'' tk' H₂ l I k R => ?_)
  exact wpAny_pure (hQ .next ε' σ' .next g' h'' tk' H₂ (l₁.trans l) I ((k₁.toE.trans (Keep.grow hk).toE).trans k) R rfl)

theorem ex_expr {e : Expr} {pos : Pos} {P : SPost} (h : Ev B d κ ε σ e fun _ σ₁ => P .next ε σ₁) (hs : ∀ env, swapsWith e none pos.line env = pure false := by intros; rfl) : Ex1 B d κ ε σ (.Expr e pos) P := by
  intro A g env s Q hA hI hp hR hO hQ
  have hi : interactive env = false := by unfold interactive; rw [hR.kind]; rfl
  exact wpAny_Expr_any (h A g env s _ hA hI hp hR fun p σ₁ v g₁ h₁ t₁ H l₁ I₁ k₁ r₁ => hQ _ _ _ _ _ _ _ H l₁ I₁ k₁.toE (hR.keep l₁ k₁) rfl) hi (hs env)
theorem ex_return {e : Expr} {pos : Pos} {P : SPost} (h : Ev B d κ ε σ e fun p σ₁ => P (.ret p) ε σ₁) : Ex1 B d κ ε σ (.Return (some e) pos) P := by
  intro A g env s Q hA hI hp hR hO hQ
  exact wpAny_Return_some (h A g env s _ hA hI hp hR fun p σ₁ v g₁ h₁ t₁ H l₁ I₁ k₁ r₁ => hQ _ _ _ _ _ _ _ H l₁ I₁ k₁.toE (hR.keep l₁ k₁) ⟨v, rfl, r₁⟩)
theorem ex_continue {pos : Pos} {P : SPost} (h : P .cont ε σ) : Ex1 B d κ ε σ (.Continue pos) P := by
  intro A g env s Q hA hI hp hR hO hQ
  show wpAny (model B.prog B.w) A (standAt pos >>= fun _ => pure Flow.cont) Q Nay s
  exact wpAny_bind (wpAny_standAt (wpAny_pure (hQ _ ε σ _ g s.heap s.toks h (.refl g) hI (.refl _ _ _) hR rfl)))
theorem ex_if {t : Expr} {b o : List Stmt} {pos : Pos} {P : SPost} (h : Tst B d κ ε σ t fun c σ₁ => if c then Ex B d κ ε σ₁ b P else Ex B d κ ε σ₁ o P) : Ex1 B d κ ε σ (.If t b o pos) P := by
  intro A g env s Q hA hI hp hR hO hQ
  refine wpAny_If (h A g env s _ hA hI hp hR fun c σ₁ g₁ h₁ t₁ H l₁ I₁ k₁ => ?_)
  cases c with
  | true => exact H A g₁ env _ _ hA I₁ (hp.keep k₁) (hR.keep l₁ k₁) hO (hQ.step l₁ k₁.toE)
  | false => exact H A g₁ env _ _ hA I₁ (hp.keep k₁) (hR.keep l₁ k₁) hO (hQ.step l₁ k₁.toE)

theorem noted_nay {M : Model} {A : Around} {env : Env} {α : Type} {t : Sem α} {Q : α → Shared → Prop} {E : Value → Shared → Prop} {s : Shared} (h : wpAny M A t Q Nay s) : wpAny M A t Q E s := wpAny_mono h (fun _ _ x => x) fun _ _ x => x.elim

/-- a while by a measure -/
theorem ex_while {t : Expr} {body : List Stmt} {pos : Pos} {P : SPost} (J : Nat → PEnv → Store → Prop) (n : Nat) (h0 : J n ε σ)
    (step : ∀ n ε σ, J n ε σ → Tst B d κ ε σ t fun c σ₁ => if c then Ex B d κ ε σ₁ body (fun fl ε' σ' => match fl with
      | .next | .cont => ∃ m, m < n ∧ J m ε' σ'
      | .brk => P .next ε' σ'
      | .ret p => P (.ret p) ε' σ') else P .next ε σ₁) : Ex1 B d κ ε σ (.While t body [] pos) P := by
  intro A g env s Q hA hI hp hR hO hQ
  refine wpAny_While (codeAny_whileLoop (fun k s' => ∃ ε' σ' g' h' tk', s' = { s with heap := h', toks := tk' } ∧ J k ε' σ' ∧ g.le g' ∧ HInv g' σ' h' ∧ KeepE env g g' s.heap h' ∧ EnvRel κ env ε' g' h') ?_ n
    ⟨ε, σ, g, s.heap, s.toks, rfl, h0, .refl g, hI, .refl _ _ _, hR⟩)
  rintro k s' ⟨ε', σ', g', h', tk', rfl, hJ, l, I, K, R⟩
  refine noted_nay (env := env) (step k ε' σ' hJ A g' env _ _ hA I (hp.keepE hO K) R fun c σ₁ g₁ h₁ t₁ H l₁ I₁ k₁ => ?_)
  have R₁ := R.keep l₁ k₁
  have K₁ := K.trans k₁.toE
  cases c with
  | true =>
    refine noted_nay (env := env) (H A g₁ env _ _ hA I₁ (hp.keepE hO K₁) R₁ hO fun fl ε₂ σ₂ f g₂ h₂ t₂ H₂ l₂ I₂ k₂ R₂ r₂ => ?_)
    have fin := hQ (ε' := ε₂) (σ' := σ₂) (g' := g₂) (h' := h₂) (tk' := t₂)
    cases fl with
    | next => cases r₂; obtain ⟨m, hm, hJ'⟩ := H₂; exact ⟨m, hm, ε₂, σ₂, g₂, h₂, t₂, rfl, hJ', (l.trans l₁).trans l₂, I₂, K₁.trans k₂, R₂⟩
    | cont => cases r₂; obtain ⟨m, hm, hJ'⟩ := H₂; exact ⟨m, hm, ε₂, σ₂, g₂, h₂, t₂, rfl, hJ', (l.trans l₁).trans l₂, I₂, K₁.trans k₂, R₂⟩
    | brk => cases r₂; exact fin .next .next H₂ ((l.trans l₁).trans l₂) I₂ (K₁.trans k₂) R₂ rfl
    | ret p => obtain ⟨v, rfl, hv⟩ := r₂; exact fin (.ret p) (.ret v) H₂ ((l.trans l₁).trans l₂) I₂ (K₁.trans k₂) R₂ ⟨v, rfl, hv⟩
  | false => exact wpAny_execs_nil (hQ _ _ _ _ _ _ _ H (l.trans l₁) I₁ K₁ R₁ rfl)
end
end Mine
end

section
open PySem PySem.W PyProof.Rows
set_option maxRecDepth 100000
namespace Mine

/-! the cells of a block -/
noncomputable def newAddr (x : Str) : Nat → List (Str × NameKind) → Option Addr
  | _, [] => none
  | n, (y, k) :: r => if k == .cell then (match newAddr x (n + 1) r with
      | some a => some a
      | none => if x == y then some n else none) else newAddr x n r
theorem cellsFrom_lookup (x : Str) : ∀ (names : List (Str × NameKind)) (n : Nat) (acc : List (Str × Addr)), (cellsFrom n names acc).lookup x = (newAddr x n names).or (acc.lookup x)
  | [], n, acc => by simp [cellsFrom, newAddr]
  | (y, k) :: r, n, acc => by
    unfold cellsFrom newAddr
    by_cases hk : (k == .cell) = true
    · rw [if_pos hk, if_pos hk, cellsFrom_lookup x r (n + 1) _, List.lookup_cons]
      cases newAddr x (n + 1) r with
      | some a => simp
      | none => cases hxy : x == y <;> simp
    · rw [if_neg hk, if_neg hk, cellsFrom_lookup x r n acc]
theorem newAddr_ok {x : Str} : ∀ {names : List (Str × NameKind)} {h : Heap} {a : Addr}, newAddr x h.objs.size names = some a → h.objs.size ≤ a ∧ (pushCells h names).IsCell a none ∧ (x, NameKind.cell) ∈ names
  | [], h, a, e => by simp [newAddr] at e
  | (y, k) :: r, h, a, e => by
    unfold newAddr at e
    unfold pushCells
    by_cases hk : (k == .cell) = true
    · rw [if_pos hk] at e ⊢
      have ih := @newAddr_ok x r (h.push { cls := .type "cell", data := .cell none })
      rw [Heap.size_push] at ih
      cases q : newAddr x (h.objs.size + 1) r with
      | some b =>
        rw [q] at e; cases e
        obtain ⟨a1, a2, a3⟩ := ih q
        exact ⟨by omega, a2, .tail _ a3⟩
      | none =>
        rw [q] at e
        by_cases hx : (x == y) = true
        · simp only [hx, if_true] at e; cases e
          refine ⟨Nat.le_refl _, ⟨_, pushCells_keeps _ _ _ _ (Heap.get?_push_size _ rfl), rfl⟩, ?_⟩
          rw [beq_iff_eq.mp hx, beq_iff_eq.mp hk]; exact .head _
        · simp [hx] at e
    · rw [if_neg hk] at e ⊢
      obtain ⟨a1, a2, a3⟩ := newAddr_ok e
      exact ⟨a1, a2, .tail _ a3⟩
theorem newAddr_le {x : Str} : ∀ {names : List (Str × NameKind)} {n : Nat} {a : Addr}, newAddr x n names = some a → n ≤ a
  | [], n, a, e => by simp [newAddr] at e
  | (y, k) :: r, n, a, e => by
    unfold newAddr at e
    by_cases hk : (k == .cell) = true
    · rw [if_pos hk] at e
      cases q : newAddr x (n + 1) r with
      | some b => rw [q] at e; cases e; exact Nat.le_of_succ_le (newAddr_le q)
      | none =>
        rw [q] at e
        by_cases hx : (x == y) = true
        · simp only [hx, if_true] at e; cases e; exact Nat.le_refl _
        · simp [hx] at e
    · rw [if_neg hk] at e; exact newAddr_le e
theorem newAddr_inj {x z : Str} : ∀ {names : List (Str × NameKind)} {n : Nat} {a : Addr}, newAddr x n names = some a → newAddr z n names = some a → x = z
  | [], n, a, e, _ => by simp [newAddr] at e
  | (y, k) :: r, n, a, e, f => by
    unfold newAddr at e f
    by_cases hk : (k == .cell) = true
    · rw [if_pos hk] at e f
      cases q : newAddr x (n + 1) r with
      | some b =>
        rw [q] at e; cases e
        have h1 := newAddr_le q
        cases q' : newAddr z (n + 1) r with
        | some b' => rw [q'] at f; cases f; exact newAddr_inj q q'
        | none =>
          rw [q'] at f
          by_cases hz : (z == y) = true
          · simp only [hz, if_true] at f; cases f; exact absurd h1 (Nat.not_succ_le_self _)
          · simp [hz] at f
      | none =>
        rw [q] at e
        by_cases hx : (x == y) = true
        · simp only [hx, if_true] at e; cases e
          cases q' : newAddr z (n + 1) r with
          | some b' => rw [q'] at f; cases f; exact absurd (newAddr_le q') (Nat.not_succ_le_self _)
          | none =>
            rw [q'] at f
            by_cases hz : (z == y) = true
            · rw [beq_iff_eq.mp hx, beq_iff_eq.mp hz]
            · simp [hz] at f
        · simp [hx] at e
    · rw [if_neg hk] at e f; exact newAddr_inj e f
theorem newAddr_some {x : Str} : ∀ {names : List (Str × NameKind)} {n : Nat}, (x, NameKind.cell) ∈ names → ∃ a, newAddr x n names = some a
  | (y, k) :: r, n, h => by
    unfold newAddr
    rcases List.mem_cons.mp h with e | h
    · cases e
      simp only [beq_self_eq_true, if_true]
      cases newAddr x (n + 1) r with
      | some a => exact ⟨a, rfl⟩
      | none => exact ⟨n, rfl⟩
    · by_cases hk : (k == .cell) = true
      · rw [if_pos hk]
        obtain ⟨a, e⟩ := newAddr_some (n := n + 1) h
        rw [e]; exact ⟨a, rfl⟩
      · rw [if_neg hk]; exact newAddr_some h

theorem closure_ex (env : Env) : ∀ (names : List (Str × NameKind)) (acc : List (Str × Addr)), (∀ x, (x, NameKind.free) ∈ names → ∃ c, env.cells.lookup x = some c) → (∀ x c, acc.lookup x = some c → env.cells.lookup x = some c) →
    ∃ cl, (forIn names acc (fun (p : Str × NameKind) (cs : List (Str × Addr)) => if p.2 == NameKind.free then (do let c ← cellOf env p.1; pure (ForInStep.yield ((p.1, c) :: cs))) else pure (ForInStep.yield cs)) : Sem (List (Str × Addr))) = pure cl ∧
      (∀ x c, cl.lookup x = some c → env.cells.lookup x = some c) ∧ (∀ x, ((x, NameKind.free) ∈ names ∨ (acc.lookup x).isSome = true) → cl.lookup x = env.cells.lookup x) ∧ (∀ x c, cl.lookup x = some c → (x, NameKind.free) ∈ names ∨ (acc.lookup x).isSome = true)
  | [], acc, _, h2 => ⟨acc, by simp, h2, fun x hx => by
      rcases hx with hx | hx
      · cases hx
      · obtain ⟨c, hc⟩ := Option.isSome_iff_exists.mp hx
        rw [hc, h2 x c hc], fun x c hc => .inr (by rw [hc]; rfl)⟩
  | (y, k) :: r, acc, h1, h2 => by
    rw [List.forIn_cons]
    by_cases hk : (k == .free) = true
    · obtain ⟨c, hc⟩ := h1 y (by rw [beq_iff_eq.mp hk]; exact .head _)
      have h2' : ∀ x b, List.lookup x ((y, c) :: acc) = some b → env.cells.lookup x = some b := fun x b hb => by
        rw [List.lookup_cons] at hb
        cases hxy : x == y with
        | true => rw [hxy] at hb; cases hb; rw [beq_iff_eq.mp hxy]; exact hc
        | false => rw [hxy] at hb; exact h2 x b hb
      obtain ⟨cl, e, a1, a2, a3⟩ := closure_ex env r ((y, c) :: acc) (fun x hx => h1 x (.tail _ hx)) h2'
      refine ⟨cl, ?_, a1, fun x hx => a2 x ?_, fun x b hb => ?_⟩
      · have hcell : cellOf env y = pure c := by unfold cellOf; rw [hc]
        simp only [hk, if_true, hcell]
        exact e
      · rcases hx with hx | hx
        · rcases List.mem_cons.mp hx with e' | hx
          · cases e'; right; simp
          · exact .inl hx
        · right
          rw [List.lookup_cons]
          cases x == y <;> simp [hx]
      · rcases a3 x b hb with h | h
        · exact .inl (.tail _ h)
        · rw [List.lookup_cons] at h
          cases hxy : x == y with
          | true => left; rw [beq_iff_eq.mp hxy, ← beq_iff_eq.mp hk]; exact .head _
          | false => rw [hxy] at h; exact .inr h
    · obtain ⟨cl, e, a1, a2, a3⟩ := closure_ex env r acc (fun x hx => h1 x (.tail _ hx)) h2
      refine ⟨cl, ?_, a1, fun x hx => a2 x ?_, fun x b hb => (a3 x b hb).imp (fun h => .tail _ h) id⟩
      · simp only [hk]
        exact e
      · rcases hx with hx | hx
        · rcases List.mem_cons.mp hx with e' | hx
          · cases e'; simp at hk
          · exact .inl hx
        · exact .inr hx
theorem closureFor_ex (env : Env) (scope : Scope) (h1 : ∀ x, (x, NameKind.free) ∈ scope.names → ∃ c, env.cells.lookup x = some c) :
    ∃ cl, closureFor scope env = pure cl ∧ (∀ x c, cl.lookup x = some c → env.cells.lookup x = some c) ∧ (∀ x, (x, NameKind.free) ∈ scope.names → cl.lookup x = env.cells.lookup x) ∧ (∀ x c, cl.lookup x = some c → (x, NameKind.free) ∈ scope.names) := by
  obtain ⟨cl, e, a, b, c⟩ := closure_ex env scope.names [] h1 (fun x c hc => by simp at hc)
  refine ⟨cl, ?_, a, fun x hx => b x (.inl hx), fun x k hk => (c x k hk).elim id (fun h => by simp at h)⟩
  unfold closureFor
  exact (Sem.bind_pure _).trans e

/-! the block of a comprehension -/
noncomputable def kapC (κ : Str → Option NameKind) (scope : Scope) : Str → Option NameKind := fun x => match scope.names.lookup x with
  | some .free => if κ x = some .cell then some .cell else some .free
  | k => k
noncomputable def freeOf (scope : Scope) (ε : PEnv) : PEnv := fun x => if scope.names.lookup x = some .free then ε x else none
structure CompScope (κ : Str → Option NameKind) (scope : Scope) : Prop where
  kind : scope.kind = .function
  free : ∀ x ∈ scope.names, x.2 = .free → κ x.1 = some .cell ∨ κ x.1 = some .free
  nodup : (scope.names.map (·.1)).Nodup
theorem lookup_mem {names : List (Str × NameKind)} : (names.map (·.1)).Nodup → ∀ {x : Str} {k : NameKind}, (x, k) ∈ names → names.lookup x = some k := by
  induction names with
  | nil => intro _ x k h; cases h
  | cons y r ih =>
    intro hn x k h
    obtain ⟨y, j⟩ := y
    obtain ⟨h1, h2⟩ := List.nodup_cons.mp hn
    rw [List.lookup_cons]
    rcases List.mem_cons.mp h with e | h'
    · cases e; simp
    · have : (x == y) = false := by
        rw [beq_eq_false_iff_ne]
        rintro rfl
        exact h1 (List.mem_map.mpr ⟨(x, k), h', rfl⟩)
      rw [this]; exact ih h2 h'
theorem relabel_lookup {env : Env} {κ : Str → Option NameKind} (hk : env.scope.kind = .function) (hκ : ∀ x, env.kindOf x = κ x) (scope : Scope) (x : Str) : (relabel scope env).names.lookup x = kapC κ scope x := by
  unfold relabel kapC
  dsimp only
  generalize scope.names = names
  induction names with
  | nil => rfl
  | cons y r ih =>
    obtain ⟨y, k⟩ := y
    rw [List.map_cons, List.lookup_cons]
    by_cases hc : (k == NameKind.free && env.scope.kind == .function && env.kindOf y == some .cell) = true
    · simp only [hc, if_true]
      rw [List.lookup_cons]
      cases hxy : x == y with
      | true =>
        simp only [Bool.and_eq_true, beq_iff_eq] at hc
        rw [beq_iff_eq.mp hxy, hc.1.1, ← hκ y, hc.2]
        simp
      | false => exact ih
    · simp only [hc]
      show List.lookup x ((y, k) :: _) = _
      rw [List.lookup_cons]
      cases hxy : x == y with
      | true =>
        simp only [Bool.and_eq_true, beq_iff_eq, hk, hκ] at hc
        rw [beq_iff_eq.mp hxy]
        cases k with
        | free => simp at hc; simp [hc]
        | _ => simp
      | false =>
        have e : List.lookup x ((y, k) :: r) = List.lookup x r := by rw [List.lookup_cons, hxy]
        rw [e]; exact ih

section
variable {B : Base} {d : Nat} {κ : Str → Option NameKind} {ε : PEnv} {σ : Store}
theorem new_block {A : Around} {g : Gh} {env : Env} {s : Shared} {scope : Scope} {Q : Env → Shared → Prop} {cl : List (Str × Addr)} (hI : HInv g σ s.heap) (hR : EnvRel κ env ε g s.heap) (S : CompScope κ scope)
    (c1 : ∀ x c, cl.lookup x = some c → env.cells.lookup x = some c) (c3 : ∀ x c, cl.lookup x = some c → (x, NameKind.free) ∈ scope.names) (c2 : ∀ x, (x, NameKind.free) ∈ scope.names → cl.lookup x = env.cells.lookup x)
    (hQ : ∀ cenv h', (∀ b o, s.heap.get? b = some o → h'.get? b = some o) → EnvRel (kapC κ scope) { cenv with scope := relabel scope env } (freeOf scope ε) g h' → s.heap.get? cenv.locals = none →
      (∀ x c, cenv.cells.lookup x = some c → scope.names.lookup x ≠ some .free → s.heap.get? c = none) → (∀ x c, cenv.cells.lookup x = some c → scope.names.lookup x = some .free → env.cells.lookup x = some c) → Q cenv { s with heap := h' }) :
    wpAny (model B.prog B.w) A (newFunctionEnv scope env.globals cl [] env.qual none .none (some env)) Q Nay s := by
  simp only [newFunctionEnv, Option.isSome_some, if_true]
  refine wpAny_bind (wpAny_alloc ?_)
  refine wpAny_bind (wpAny_layCells _ (fun name kind cells => by cases hkc : kind == NameKind.cell <;> simp [hkc]) _ _ _ _ ?_)
  rw [show ({ s with heap := s.heap.push { cls := .type "dict", data := .dict #[] } } : Shared).heap.objs.size = s.heap.objs.size + 1 from Heap.size_push ..]
  rw [List.forIn_nil]
  refine wpAny_bind (wpAny_pure (wpAny_pure ?_))
  have hk : ∀ b o, s.heap.get? b = some o → (pushCells (s.heap.push { cls := .type "dict", data := .dict #[] }) scope.names).get? b = some o := fun b o e => pushCells_keeps _ _ b o (Heap.get?_push_of_some _ e)
  have hL : s.heap.get? s.heap.objs.size = none := push_new s.heap { cls := .type "dict", data := .dict #[] }
  have fresh : ∀ c, s.heap.objs.size ≤ c → s.heap.get? c = none := fun c hc => Heap.get?_none_of_le hc
  have sz : (s.heap.push { cls := .type "dict", data := .dict #[] }).objs.size = s.heap.objs.size + 1 := Heap.size_push ..
  have look := fun x => cellsFrom_lookup x scope.names (s.heap.objs.size + 1) cl
  have newok : ∀ x a, newAddr x (s.heap.objs.size + 1) scope.names = some a → s.heap.objs.size + 1 ≤ a ∧ (pushCells (s.heap.push { cls := .type "dict", data := .dict #[] }) scope.names).IsCell a none ∧ (x, NameKind.cell) ∈ scope.names := fun x a e => by
    have := newAddr_ok (x := x) (names := scope.names) (h := s.heap.push { cls := .type "dict", data := .dict #[] }) (a := a) (by rw [sz]; exact e)
    rwa [sz] at this
  have noNew : ∀ x, scope.names.lookup x ≠ some .cell → newAddr x (s.heap.objs.size + 1) scope.names = none := fun x hx => by
    cases e : newAddr x (s.heap.objs.size + 1) scope.names with
    | none => rfl
    | some a => exact absurd (lookup_mem S.nodup (newok x a e).2.2) hx
  have rhoOff : ∀ c, s.heap.objs.size ≤ c → c ∉ g.rho := fun c hc hm => by obtain ⟨o, ho⟩ := hI.rho_some hm; rw [fresh c hc] at ho; cases ho
  refine hQ _ _ hk ⟨S.kind, hR.glob, hR.blt, fun x => relabel_lookup hR.kind hR.kap scope x, ?_, fun x hx => ?_, rhoOff _ (Nat.le_refl _), fun x c hc => ?_, fun x y c hx hy => ?_, fun x p hx => ?_⟩ hL (fun x c hc hx => ?_) fun x c hc hx => ?_
  · refine ⟨fun _ => none, (Heap.Ns.new s.heap (.type "dict")).keeps (pushCells_keeps _ _), fun x p hx hxl => ?_⟩
    unfold freeOf at hx
    split at hx
    · rename_i hfree
      unfold kapC at hxl
      rw [hfree] at hxl
      dsimp only at hxl
      split at hxl <;> cases hxl
    · cases hx
  · by_cases hfree : scope.names.lookup x = some .free
    · have hmem := mem_of_lookup hfree
      obtain ⟨c, ov, hc, hcell, hp⟩ := hR.cells x (S.free _ hmem rfl)
      refine ⟨c, ov, ?_, hcell.keeps hk, fun p hp' => hp p ?_⟩
      · show (cellsFrom _ _ _).lookup x = _
        rw [look, noNew x (by rw [hfree]; simp), c2 x hmem, hc]; rfl
      · unfold freeOf at hp'; rw [if_pos hfree] at hp'; exact hp'
    · have hcellk : scope.names.lookup x = some .cell := by
        unfold kapC at hx
        revert hx hfree
        cases scope.names.lookup x with
        | none => intro h _; rcases h with h | h <;> cases h
        | some k => cases k <;> simp
      obtain ⟨a, ha⟩ := newAddr_some (n := s.heap.objs.size + 1) (mem_of_lookup hcellk)
      refine ⟨a, none, ?_, (newok x a ha).2.1, fun p hp' => ?_⟩
      · show (cellsFrom _ _ _).lookup x = _
        rw [look, ha]; rfl
      · unfold freeOf at hp'; rw [if_neg hfree] at hp'; cases hp'
  · have hc' : (cellsFrom (s.heap.objs.size + 1) scope.names cl).lookup x = some c := hc
    rw [look] at hc'
    cases e : newAddr x (s.heap.objs.size + 1) scope.names with
    | some a =>
      rw [e] at hc'; cases hc'
      obtain ⟨b1, b2, _⟩ := newok x _ e
      exact ⟨rhoOff _ (Nat.le_of_succ_le b1), fun q => absurd b1 (by rw [q]; exact Nat.not_succ_le_self _), none, b2⟩
    | none =>
      rw [e] at hc'
      obtain ⟨b1, b2, ov, hcell⟩ := hR.cellOff x c (c1 x c hc')
      exact ⟨b1, Nat.ne_of_lt hcell.lt, ov, hcell.keeps hk⟩
  · have hx' : (cellsFrom (s.heap.objs.size + 1) scope.names cl).lookup x = some c := hx
    have hy' : (cellsFrom (s.heap.objs.size + 1) scope.names cl).lookup y = some c := hy
    rw [look] at hx' hy'
    cases e : newAddr x (s.heap.objs.size + 1) scope.names with
    | some a =>
      rw [e] at hx'; cases hx'
      cases f : newAddr y (s.heap.objs.size + 1) scope.names with
      | some b => rw [f] at hy'; cases hy'; exact newAddr_inj e f
      | none =>
        rw [f] at hy'
        obtain ⟨_, _, ov, hcell⟩ := hR.cellOff y c (c1 y c hy')
        exact absurd hcell.lt (Nat.not_lt.mpr (Nat.le_of_succ_le (newok x _ e).1))
    | none =>
      rw [e] at hx'
      obtain ⟨_, _, ov, hcell⟩ := hR.cellOff x c (c1 x c hx')
      cases f : newAddr y (s.heap.objs.size + 1) scope.names with
      | some b => rw [f] at hy'; cases hy'; exact absurd hcell.lt (Nat.not_lt.mpr (Nat.le_of_succ_le (newok y _ f).1))
      | none => rw [f] at hy'; exact hR.cellInj x y c (c1 x c hx') (c1 y c hy')
  · unfold freeOf at hx
    split at hx
    · rename_i hfree
      unfold kapC
      rw [hfree]
      dsimp only
      split
      · exact .inr (.inl rfl)
      · exact .inr (.inr rfl)
    · cases hx
  · have hc' : (cellsFrom (s.heap.objs.size + 1) scope.names cl).lookup x = some c := hc
    rw [look] at hc'
    cases e : newAddr x (s.heap.objs.size + 1) scope.names with
    | some a => rw [e] at hc'; cases hc'; exact fresh _ (Nat.le_of_succ_le (newok x _ e).1)
    | none => rw [e] at hc'; exact absurd (lookup_mem S.nodup (c3 x c hc')) hx
  · have hc' : (cellsFrom (s.heap.objs.size + 1) scope.names cl).lookup x = some c := hc
    rw [look, noNew x (by rw [hx]; simp)] at hc'
    exact c1 x c hc'
end
end Mine
end

section
open PySem PySem.W PyProof.Rows
set_option maxRecDepth 100000
namespace Mine

/-- what an iterator hands out for one item -/
noncomputable def ItemIs (target : Expr) (g : Gh) (p : PV) (v : Value) (h : Heap) : Prop := match target with
  | .Tuple .. => ∃ T l vs, p = .tup l ∧ v = .ref T ∧ h.IsTuple T vs.toArray ∧ VRels g l vs
  | _ => VRel g p v

structure Src (B : Base) (A : Around) (target : Expr) (I : Addr) (wr : List Addr) (g₀ : Gh) (ok : Store → Prop) (items : List PV) (St : Nat → Heap → Prop) : Prop where
  frame : ∀ i h h', St i h → (∀ b ∈ wr, ∀ o, h.get? b = some o → h'.get? b = some o) → St i h'
  turn : ∀ (i : Nat) p g σ (s : Shared) (Q : Value → Shared → Prop), items[i]? = some p → St i s.heap → g₀.le g → HInv g σ s.heap → ok σ → (∀ b ∈ wr, b ∉ g.rho) →
    (∀ v h' tk, St (i + 1) h' → ItemIs target g p v h' → (∀ b o, b ∉ wr → s.heap.get? b = some o → h'.get? b = some o) → (∀ b ∈ wr, ∃ o', h'.get? b = some o' ∧ o'.cls ≠ .type "tuple") → Q v { s with heap := h', toks := tk }) →
    wpAny (model B.prog B.w) A (pyNext (.ref I)) (fun r s₁ => match r with
      | none => False
      | some v => wpAny (model B.prog B.w) A (letOwnedTupleGo target (.ref I) v) (fun _ s₂ => Q v s₂) Nay s₁) Nay s
  done : ∀ g σ (s : Shared) (Q : Shared → Prop), St items.length s.heap → g₀.le g → HInv g σ s.heap → ok σ → (∀ b ∈ wr, b ∉ g.rho) →
    (∀ h' tk, (∀ b o, b ∉ wr → s.heap.get? b = some o → h'.get? b = some o) → Q { s with heap := h', toks := tk }) →
    wpAny (model B.prog B.w) A (pyNext (.ref I)) (fun r s₁ => r = none ∧ Q s₁) Nay s
  self : ∀ (s : Shared) (Q : Value → Shared → Prop), St 0 s.heap → Q (.ref I) s → wpAny (model B.prog B.w) A (pyIter (.ref I)) Q Nay s

theorem src_list {B : Base} {A : Around} {x : Str} {px : Pos} {I a : Addr} {g₀ : Gh} {r : Nat} {l : List PV} (hh : A.handled = none) (ha : g₀.rho[r]? = some a) (hne : a ≠ I) :
    Src B A (.Name x px) I [I] g₀ (fun σ => σ[r]? = some l) l (fun i h => h.IsListIter I a i) where
  frame := fun i h h' st hk => st.at fun o e => hk I (by simp) o e
  turn := fun i p g σ s Q hp st hg hI hok hoff hQ => by
    obtain ⟨b, vs, n, e1, e2, e3⟩ := hI.lists r l hok
    rw [hg.rho r a ha] at e1; cases e1
    obtain ⟨v, hv, rv⟩ := e3.get hp
    refine wpAny_pyNext_list_item st (lobj_isList e2) (x := v) (by simpa using hv) fun h' hit hs => ?_
    show wpAny (model B.prog B.w) A (pure ()) _ _ _
    refine wpAny_pure (hQ v h' s.toks hit rv (fun b o hb e => (hs.2 b fun q => hb (by simp [q])).trans e) ?_)
    intro b hb
    rw [List.mem_singleton.mp hb]
    obtain ⟨o, ho, hc, _⟩ := hit
    exact ⟨o, ho, by rw [hc]; decide⟩
  done := fun g σ s Q st hg hI hok hoff hQ => by
    obtain ⟨b, vs, n, e1, e2, e3⟩ := hI.lists r l hok
    rw [hg.rho r a ha] at e1; cases e1
    refine wpAny_pyNext_list_end hh st (lobj_isList e2) (by simp [e3.length]) fun h' he => ?_
    exact ⟨rfl, hQ h' s.toks fun b o hb e => he b o (fun q => hb (by simp [q])) e⟩
  self := fun s Q st hQ => wpAny_pyIter_listiter st hQ

noncomputable def rangeP (a : Int) (n : Nat) : List PV := (List.range n).map fun (i : Nat) => PV.int (a + (i : Int))
theorem rangeP_get {a : Int} {n i : Nat} {p : PV} (h : (rangeP a n)[i]? = some p) : i < n ∧ p = .int (a + (i : Int)) := by
  have hi : i < n := by
    have := (List.getElem?_eq_some_iff.mp h).1
    simpa [rangeP] using this
  refine ⟨hi, ?_⟩
  simp [rangeP, hi] at h
  exact h.symm
theorem src_range {B : Base} {A : Around} {x : Str} {px : Pos} {I : Addr} {g₀ : Gh} {a : Int} {n : Nat} (hh : A.handled = none) :
    Src B A (.Name x px) I [I] g₀ (fun _ => True) (rangeP a n) (fun i h => IsRangeIter h I (a + (i : Nat) * 1) ((n : Int) - (i : Nat)) 1) where
  frame := fun i h h' st hk => hk I (by simp) _ st
  turn := fun i p g σ s Q hp st hg hI hok hoff hQ => by
    obtain ⟨hi, rfl⟩ := rangeP_get hp
    refine wpAny_pyNext_range_item st (by omega) fun h' hit' hs' => ?_
    show wpAny (model B.prog B.w) A (pure ()) _ _ _
    refine wpAny_pure (hQ _ h' _ ?_ ?_ (fun b o hb e => (hs'.2 b fun q => hb (by simp [q])).trans e) fun b hb => by rw [List.mem_singleton.mp hb]; exact ⟨_, hit', by simp⟩)
    · have e1 : a + ((i + 1 : Nat) : Int) * 1 = a + (i : Int) * 1 + 1 := by push_cast; omega
      have e2 : (n : Int) - ((i + 1 : Nat) : Int) = (n : Int) - (i : Int) - 1 := by push_cast; omega
      rw [e1, e2]; exact hit'
    · simp only [ItemIs, VRel]
      exact ⟨_, by rw [Int.mul_one]⟩
  done := fun g σ s Q st hg hI hok hoff hQ => by
    rw [show (rangeP a n).length = n by simp [rangeP]] at st
    exact wpAny_pyNext_range_end hh st (by omega) fun h' he' => ⟨rfl, hQ h' s.toks fun b o hb e => he' b o (fun h => hb (by simp [h])) e⟩
  self := fun s Q st hQ => wpAny_pyIter_rangeiter st hQ

noncomputable def enumP (l : List PV) : List PV := l.mapIdx fun i p => PV.tup [.int (i : Nat), p]
theorem src_enum {B : Base} {A : Around} {elts : List Expr} {k : Nat} {pos : Pos} {e it a : Addr} {g₀ : Gh} {r : Nat} {l : List PV} (hh : A.handled = none) (ha : g₀.rho[r]? = some a) (hei : e ≠ it) (hae : a ≠ e) (hai : a ≠ it) :
    Src B A (.Tuple elts k pos) e [e, it] g₀ (fun σ => σ[r]? = some l) (enumP l) (fun i h => (∃ old, IsEnum h e it i old) ∧ h.IsListIter it a i) where
  frame := fun i h h' st hk => ⟨let ⟨old, x⟩ := st.1; ⟨old, hk e (by simp) _ x⟩, st.2.at fun o x => hk it (by simp) o x⟩
  turn := fun i p g σ s Q hp st hg hI hok hoff hQ => by
    obtain ⟨b, vs, n, e1, e2, e3⟩ := hI.lists r l hok
    rw [hg.rho r a ha] at e1; cases e1
    obtain ⟨q, hq, rfl⟩ : ∃ q, l[i]? = some q ∧ p = PV.tup [.int (i : Nat), q] := by
      unfold enumP at hp
      rw [List.getElem?_mapIdx] at hp
      cases hq : l[i]? with
      | none => rw [hq] at hp; cases hp
      | some q => rw [hq] at hp; cases hp; exact ⟨q, rfl, rfl⟩
    obtain ⟨v, hv, rv⟩ := e3.get hq
    obtain ⟨⟨old, he⟩, hit⟩ := st
    refine wpAny_pyNext_enum_item he hit (lobj_isList e2) (x := v) (by simpa using hv) hei fun h' ho hit' hT hsz hk => ?_
    show wpAny (model B.prog B.w) A (letOwnedTupleGo (.Tuple elts k pos) (.ref e) (.ref s.heap.objs.size)) _ _ _
    refine wpAny_letOwnedTupleGo_enum ho fun h'' he' hs' => ?_
    have hne : s.heap.objs.size ≠ e := Nat.ne_of_gt (Heap.lt_size he)
    have al : ∀ b ∈ [e, it], ∃ o', h''.get? b = some o' ∧ o'.cls ≠ .type "tuple" := fun b hb => by
      rcases List.mem_cons.mp hb with rfl | hb
      · exact ⟨_, he', by simp⟩
      · rw [List.mem_singleton.mp hb]
        obtain ⟨o', x', hc, _⟩ := hit'
        exact ⟨o', (hs'.2 it hei.symm).trans x', by rw [hc]; decide⟩
    refine hQ _ h'' _ ⟨⟨v, by simpa using he'⟩, hit'.at fun o y => (hs'.2 it hei.symm).trans y⟩ ?_ (fun b o hb y => ?_) al
    · refine ⟨s.heap.objs.size, _, [.int (i : Nat) s.toks, v], rfl, rfl, ⟨_, (hs'.2 _ hne).trans hT, rfl, _, rfl⟩, .cons (by simp [VRel]) (.cons rv .nil)⟩
    · have hbe : b ≠ e := fun q => hb (by simp [q])
      have hbi : b ≠ it := fun q => hb (by simp [q])
      exact (hs'.2 b hbe).trans (hk b o hbe hbi y)
  done := fun g σ s Q st hg hI hok hoff hQ => by
    obtain ⟨b, vs, n, e1, e2, e3⟩ := hI.lists r l hok
    rw [hg.rho r a ha] at e1; cases e1
    obtain ⟨⟨old, he⟩, hit⟩ := st
    have hlen : (enumP l).length = l.length := by simp [enumP]
    exact wpAny_pyNext_enum_end hh he hit (lobj_isList e2) (by rw [hlen]; simp [e3.length]) fun h' hx => ⟨rfl, hQ h' s.toks fun b o hb y => hx b o (fun q => hb (by simp [q])) y⟩
  self := fun s Q st hQ => by
    obtain ⟨⟨old, he⟩, _⟩ := st
    exact wpAny_pyIter_enum he hQ

/-- what is iterated -/
noncomputable def IterP (B : Base) (d : Nat) (κ : Str → Option NameKind) (ε : PEnv) (σ : Store) (target : Expr) (iter : Expr) (K : List PV → (Store → Prop) → Store → Prop) : Prop :=
  ∀ (A : Around) (g : Gh) (env : Env) (s : Shared) (Q : Value → Shared → Prop), AOk A d → HInv g σ s.heap → Prot B g s.heap → EnvRel κ env ε g s.heap →
    (∀ items ok σ' g' h' tk' I wr St, K items ok σ' → ok σ' → items.length ≤ 4096 → g.le g' → HInv g' σ' h' → Keep g g' s.heap h' → Src B A target I wr g' ok items St → St 0 h' →
      (∀ b ∈ wr, b ∉ g'.rho ∧ s.heap.get? b = none ∧ ∃ o, h'.get? b = some o ∧ o.cls ≠ .type "tuple") → Q (.ref I) { s with heap := h', toks := tk' }) →
    wpAny (model B.prog B.w) A (eval iter env) (fun xv s₁ => wpAny (model B.prog B.w) A (pyIter xv) Q Nay s₁) Nay s

theorem HInv.alive {g g' : Gh} {σ' : Store} {h h' : Heap} (I : HInv g' σ' h') (l : g.le g') (k : Keep g g' h h') {b : Addr} {o : Obj} (e : h.get? b = some o) : ∃ o', h'.get? b = some o' := by
  by_cases hb : b ∈ g.rho
  · obtain ⟨r, hr⟩ := List.getElem?_of_mem hb
    exact I.rho_some (List.mem_of_getElem? (l.rho r b hr))
  · exact ⟨o, (k b o e hb).1⟩
theorem none_of_new {g g' : Gh} {σ' : Store} {h h' : Heap} (I : HInv g' σ' h') (l : g.le g') (k : Keep g g' h h') {b : Addr} (hb : h'.get? b = none) : h.get? b = none := by
  cases e : h.get? b with
  | none => rfl
  | some o => obtain ⟨o', e'⟩ := I.alive l k e; rw [hb] at e'; cases e'

section
variable {B : Base} {d : Nat} {κ : Str → Option NameKind} {ε : PEnv} {σ : Store}
theorem HInv.off {g : Gh} {h : Heap} (I : HInv g σ h) {b : Addr} (hb : h.get? b = none) : b ∉ g.rho := fun hm => by obtain ⟨o, ho⟩ := I.rho_some hm; rw [hb] at ho; cases ho

theorem iter_list {x : Str} {px : Pos} {iter : Expr} {K : List PV → (Store → Prop) → Store → Prop} (h : Ev B d κ ε σ iter fun p σ' => ∃ r l, p = .ref r ∧ σ'[r]? = some l ∧ K l (fun σ => σ[r]? = some l) σ') : IterP B d κ ε σ (.Name x px) iter K := by
  intro A g env s Q hA hI hp hR hQ
  refine h A g env s _ hA hI hp hR fun p σ₁ v g₁ h₁ t₁ H l₁ I₁ k₁ r₁ => ?_
  obtain ⟨r, l, rfl, hl, hK⟩ := H
  obtain ⟨a, vs, n, rfl, e1, e2, e3⟩ := I₁.get hl r₁
  refine wpAny_pyIter_list (lobj_isList e2) ?_
  have hnew : h₁.get? h₁.objs.size = none := push_new h₁ (LObj vs n)
  have hk : ∀ b o, h₁.get? b = some o → (h₁.push { cls := .type "list_iterator", data := .fields #[.ref a, .int 0 0] }).get? b = some o := fun b o e => Heap.get?_push_of_some _ e
  have hne : a ≠ h₁.objs.size := Nat.ne_of_lt (Heap.lt_size e2)
  refine hQ l _ σ₁ g₁ _ t₁ h₁.objs.size [h₁.objs.size] _ hK hl (I₁.len_le hl) l₁ (I₁.grow hk) (k₁.trans (Keep.grow hk)) (src_list hA.handled e1 hne) ⟨_, Heap.get?_push_size _ rfl, rfl, rfl⟩ fun b hb => ?_
  rw [List.mem_singleton.mp hb]
  exact ⟨I₁.off hnew, none_of_new I₁ l₁ k₁ hnew, _, Heap.get?_push_size _ rfl, by simp⟩

theorem iter_range1 {x rn : Str} {px rp pos : Pos} {e : Expr} {K : List PV → (Store → Prop) → Store → Prop} (F : Callee B rn (.type "range")) (hk : κ rn = some .globalImplicit)
    (h : Evs B d κ ε σ [e] fun ps σ' => ∃ n : Nat, ps = [.int n] ∧ n ≤ 4096 ∧ K (rangeP 0 n) (fun _ => True) σ') (hd : (rn == ("__debug__" : Str)) = false := by decide)
    (he : ∀ env, starEach [e] env = (false, eval e env) :: starEach [] env := by intros; rfl) : IterP B d κ ε σ (.Name x px) (.Call (.Name rn rp) [e] [] pos) K := by
  intro A g env s Q hA hI hp hR hQ
  refine Call_Name rfl (load_callee F hk hp hR ?_ hd)
  refine callWith_callee F (h A g env pos s _ hA hI hp hR fun ps σ₁ vs g₁ h₁ t₁ H l₁ I₁ k₁ r₁ => ⟨(hp.keep k₁).keeps, ?_⟩) (he env) rfl
  obtain ⟨n, rfl, hn, hK⟩ := H
  simp only [VRels, VRel] at r₁
  obtain ⟨v, _, rfl, ⟨t, rfl⟩, rfl⟩ := r₁
  refine call_range_1 ?_
  refine wpAny_pyIter_range (IsRange.new ..) (small_one (by omega) (by omega) (by omega) (by omega)) ?_
  have z : (h₁.push { cls := .type "range", data := .fields #[.int 0 t₁, .int n t, .int 1 (t₁ + 1)] }).objs.size = h₁.objs.size + 1 := Heap.size_push ..
  have hk : ∀ b o, h₁.get? b = some o → ((h₁.push { cls := .type "range", data := .fields #[.int 0 t₁, .int n t, .int 1 (t₁ + 1)] }).push { cls := .type "range_iterator", data := .fields #[rawInt 0, rawInt (Builtin.Range.rangeSize 0 n 1), rawInt 1] }).get? b = some o :=
    fun b o e => Heap.get?_push_of_some _ (Heap.get?_push_of_some _ e)
  have hnew : h₁.get? (h₁.objs.size + 1) = none := Heap.get?_none_of_le (Nat.le_succ _)
  refine hQ (rangeP 0 n) (fun _ => True) σ₁ g₁ _ _ _ [h₁.objs.size + 1] _ hK trivial (by simp [rangeP]; exact hn) l₁ (I₁.grow hk) (k₁.trans (Keep.grow hk)) (by rw [z]; exact src_range hA.handled) ?_ fun b hb => ?_
  · have hz : Builtin.Range.rangeSize 0 (n : Int) 1 = (n : Int) - ((0 : Nat) : Int) := by rw [rangeSize_one]; split <;> omega
    have := Heap.get?_push_size (h₁.push { cls := .type "range", data := .fields #[.int 0 t₁, .int n t, .int 1 (t₁ + 1)] }) (o := { cls := .type "range_iterator", data := .fields #[rawInt 0, rawInt (Builtin.Range.rangeSize 0 n 1), rawInt 1] }) rfl
    rw [z] at this
    show IsRangeIter _ _ _ _ _
    rw [← hz]
    exact this
  · rw [List.mem_singleton.mp hb]
    refine ⟨I₁.off hnew, none_of_new I₁ l₁ k₁ hnew, ?_⟩
    rw [← z]
    exact ⟨_, Heap.get?_push_size _ rfl, by simp⟩

theorem iter_range2 {x rn : Str} {px rp pos : Pos} {e f : Expr} {K : List PV → (Store → Prop) → Store → Prop} (F : Callee B rn (.type "range")) (hk : κ rn = some .globalImplicit)
    (h : Evs B d κ ε σ [e, f] fun ps σ' => ∃ a b : Nat, ps = [.int a, .int b] ∧ a ≤ 4096 ∧ b ≤ 4096 ∧ K (rangeP a (b - a)) (fun _ => True) σ') (hd : (rn == ("__debug__" : Str)) = false := by decide)
    (he : ∀ env, starEach [e, f] env = (false, eval e env) :: starEach [f] env := by intros; rfl) (hpl : ∀ pos env, (backTo pos (starEach [f] env)).any (·.1) = false := by intros; rfl) : IterP B d κ ε σ (.Name x px) (.Call (.Name rn rp) [e, f] [] pos) K := by
  intro A g env s Q hA hI hp hR hQ
  refine Call_Name rfl (load_callee F hk hp hR ?_ hd)
  refine callWith_callee F (h A g env pos s _ hA hI hp hR fun ps σ₁ vs g₁ h₁ t₁ H l₁ I₁ k₁ r₁ => ⟨(hp.keep k₁).keeps, ?_⟩) (he env) (hpl pos env)
  obtain ⟨a, b, rfl, ha, hb, hK⟩ := H
  simp only [VRels, VRel] at r₁
  obtain ⟨v, _, rfl, ⟨t, rfl⟩, w, _, rfl, ⟨u, rfl⟩, rfl⟩ := r₁
  refine call_range_2 ?_
  refine wpAny_pyIter_range (IsRange.new ..) (small_one (by omega) (by omega) (by omega) (by omega)) ?_
  have z : (h₁.push { cls := .type "range", data := .fields #[.int a t, .int b u, .int 1 t₁] }).objs.size = h₁.objs.size + 1 := Heap.size_push ..
  have hk : ∀ c o, h₁.get? c = some o → ((h₁.push { cls := .type "range", data := .fields #[.int a t, .int b u, .int 1 t₁] }).push { cls := .type "range_iterator", data := .fields #[rawInt a, rawInt (Builtin.Range.rangeSize a b 1), rawInt 1] }).get? c = some o :=
    fun b o e => Heap.get?_push_of_some _ (Heap.get?_push_of_some _ e)
  have hnew : h₁.get? (h₁.objs.size + 1) = none := Heap.get?_none_of_le (Nat.le_succ _)
  refine hQ (rangeP a (b - a)) (fun _ => True) σ₁ g₁ _ _ _ [h₁.objs.size + 1] _ hK trivial (by simp [rangeP]; omega) l₁ (I₁.grow hk) (k₁.trans (Keep.grow hk)) (by rw [z]; exact src_range hA.handled) ?_ fun c hc => ?_
  · have hz : Builtin.Range.rangeSize (a : Int) (b : Int) 1 = ((b - a : Nat) : Int) - ((0 : Nat) : Int) := by rw [rangeSize_one]; split <;> omega
    have := Heap.get?_push_size (h₁.push { cls := .type "range", data := .fields #[.int a t, .int b u, .int 1 t₁] }) (o := { cls := .type "range_iterator", data := .fields #[rawInt a, rawInt (Builtin.Range.rangeSize a b 1), rawInt 1] }) rfl
    rw [z] at this
    show IsRangeIter _ _ _ _ _
    rw [← hz, show ((a : Nat) : Int) + ((0 : Nat) : Int) * 1 = a by omega]
    exact this
  · rw [List.mem_singleton.mp hc]
    refine ⟨I₁.off hnew, none_of_new I₁ l₁ k₁ hnew, ?_⟩
    rw [← z]
    exact ⟨_, Heap.get?_push_size _ rfl, by simp⟩

theorem iter_enum {elts : List Expr} {k : Nat} {tp rp pos : Pos} {rn : Str} {e : Expr} {K : List PV → (Store → Prop) → Store → Prop} (F : Callee B rn (.type "enumerate")) (hk : κ rn = some .globalImplicit)
    (h : Evs B d κ ε σ [e] fun ps σ' => ∃ r l, ps = [.ref r] ∧ σ'[r]? = some l ∧ K (enumP l) (fun σ => σ[r]? = some l) σ') (hd : (rn == ("__debug__" : Str)) = false := by decide)
    (he : ∀ env, starEach [e] env = (false, eval e env) :: starEach [] env := by intros; rfl) : IterP B d κ ε σ (.Tuple elts k tp) (.Call (.Name rn rp) [e] [] pos) K := by
  intro A g env s Q hA hI hp hR hQ
  refine Call_Name rfl (load_callee F hk hp hR ?_ hd)
  refine callWith_callee F (h A g env pos s _ hA hI hp hR fun ps σ₁ vs g₁ h₁ t₁ H l₁ I₁ k₁ r₁ => ⟨(hp.keep k₁).keeps, ?_⟩) (he env) rfl
  obtain ⟨r, l, rfl, hl, hK⟩ := H
  simp only [VRels] at r₁
  obtain ⟨v, _, rfl, r₁, rfl⟩ := r₁
  obtain ⟨a, vs, n, rfl, e1, e2, e3⟩ := I₁.get hl r₁
  refine call_enumerate_list (lobj_isList e2) fun h' hE hit hsz hk => ?_
  refine wpAny_pyIter_enum hE ?_
  have hlt := Heap.lt_size e2
  have n1 : h₁.get? (h₁.objs.size + 1) = none := Heap.get?_none_of_le (Nat.le_succ _)
  have n0 : h₁.get? h₁.objs.size = none := Heap.get?_none_of_le (Nat.le_refl _)
  refine hQ (enumP l) _ σ₁ g₁ h' t₁ _ [h₁.objs.size + 1, h₁.objs.size] _ hK hl (by simp [enumP]; exact I₁.len_le hl) l₁ (I₁.grow hk) (k₁.trans (Keep.grow hk))
    (src_enum hA.handled e1 (Nat.succ_ne_self _) (Nat.ne_of_lt (Nat.lt_succ_of_lt hlt)) (Nat.ne_of_lt hlt)) ⟨⟨_, hE⟩, hit⟩ fun b hb => ?_
  rcases List.mem_cons.mp hb with rfl | hb
  · exact ⟨I₁.off n1, none_of_new I₁ l₁ k₁ n1, _, hE, by simp⟩
  · rw [List.mem_singleton.mp hb]
    obtain ⟨o, ho, hc, _⟩ := hit
    exact ⟨I₁.off n0, none_of_new I₁ l₁ k₁ n0, o, ho, by rw [hc]; decide⟩
end
end Mine
end

section
open PySem PySem.W PyProof.Rows
set_option maxRecDepth 100000
namespace Mine

/-- the names of a target bound to an item -/
noncomputable def BindT (κ : Str → Option NameKind) (target : Expr) (p : PV) (ε ε₁ : PEnv) : Prop :=
  (∃ x px, target = .Name x px ∧ (κ x = some .local ∨ κ x = some .cell) ∧ ε₁ = upd ε x p) ∨
  (∃ x px y py k pos, target = .Tuple [.Name x px, .Name y py] k pos ∧ (κ x = some .local ∨ κ x = some .cell) ∧ (κ y = some .local ∨ κ y = some .cell) ∧ ∃ q r, p = .tup [q, r] ∧ ε₁ = upd (upd ε x q) y r)
noncomputable def targetNames : Expr → List Str
  | .Name x _ => [x]
  | .Tuple [.Name x _, .Name y _] _ _ => [x, y]
  | _ => []

section
variable {B : Base} {d : Nat} {κ : Str → Option NameKind} {ε : PEnv} {σ : Store}

/-- the target of a turn is stored -/
theorem assign_item {A : Around} {g : Gh} {env : Env} {s : Shared} {target : Expr} {p : PV} {v : Value} {ε₁ : PEnv} {Q : Unit → Shared → Prop} (hh : A.handled = none) (hI : HInv g σ s.heap) (hR : EnvRel κ env ε g s.heap) (hb : BindT κ target p ε ε₁) (hv : ItemIs target g p v s.heap)
    (hQ : ∀ h' tk, HInv g σ h' → EnvRel κ env ε₁ g h' → (∀ a o, a ≠ env.locals → (∀ x ∈ targetNames target, env.cells.lookup x ≠ some a) → s.heap.get? a = some o → h'.get? a = some o) → Q () { s with heap := h', toks := tk }) :
    wpAny (model B.prog B.w) A (assign target env v) Q Nay s := by
  rcases hb with ⟨x, pos, rfl, hk, rfl⟩ | ⟨x, px, y, py, k, pos, rfl, hk1, hk2, q, r, rfl, rfl⟩
  · exact wpAny_assign_Name (store_name hI hR hk hv fun h' tk I' R' k' => hQ h' tk I' R' fun a o l c e => k' a o l (c x (.head _)) e)
  · obtain ⟨T, l, vs, hl, rfl, hT, rv⟩ := hv
    cases hl
    simp only [VRels] at rv
    obtain ⟨v1, _, rfl, r1, v2, _, rfl, r2, rfl⟩ := rv
    rw [arm_assign_Tuple]
    refine wpAny_bind (wpAny_standAt ?_)
    show wpAny (model B.prog B.w) A (unpack (.ref T) [(false, assign (.Name x px) env), (false, assign (.Name y py) env)]) Q Nay s
    unfold unpack
    refine wpAny_bind (wpAny_holding ?_)
    show wpAny (model B.prog B.w) A (unpackItems (.ref T) 2 none) _ Nay s
    have hT' : IsTup s.heap T #[v1, v2] := hT
    refine unpackItems_tuple (items := #[v1, v2]) hh hT' fun h' he => ?_
    have hk : ∀ b o, s.heap.get? b = some o → h'.get? b = some o := fun b o e => he b o (Nat.ne_of_lt (Heap.lt_size e)) e
    show wpAny (model B.prog B.w) A (assignInOrder [assign (.Name x px) env, assign (.Name y py) env] [v1, v2]) Q Nay _
    unfold assignInOrder
    refine wpAny_bind (wpAny_holding (wpAny_assign_Name (store_name (s := { s with heap := h' }) (hI.grow hk) (hR.keep (.refl g) (Keep.grow hk)) hk1 r1 fun h₁ t₁ I₁ R₁ k₁ => ?_)))
    unfold assignInOrder
    refine wpAny_bind (wpAny_holding (wpAny_assign_Name (store_name (s := { s with heap := h₁, toks := t₁ }) I₁ R₁ hk2 r2 fun h₂ t₂ I₂ R₂ k₂ => ?_)))
    unfold assignInOrder
    exact wpAny_pure (hQ h₂ t₂ I₂ R₂ fun a o l c e => k₂ a o l (c y (.tail _ (.head _))) (k₁ a o l (c x (.head _)) (hk a o e)))

/-- a for's turns -/
noncomputable def ForL (B : Base) (d : Nat) (κ : Str → Option NameKind) (target : Expr) (body : List Stmt) (ok : Store → Prop) (P : SPost) : List PV → PEnv → Store → Prop
  | [], ε, σ => P .next ε σ
  | p :: rest, ε, σ => ∃ ε₁, BindT κ target p ε ε₁ ∧ Ex B d κ ε₁ σ body fun fl ε' σ' => (fl = .next ∨ fl = .cont) ∧ ok σ' ∧ ForL B d κ target body ok P rest ε' σ'

theorem HInv.turned {g : Gh} {h h' : Heap} {wr : List Addr} (I : HInv g σ h) (hk : ∀ b o, b ∉ wr → h.get? b = some o → h'.get? b = some o) (hw : ∀ b ∈ wr, b ∉ g.rho ∧ ∃ o, h.get? b = some o ∧ (o.cls ≠ .type "tuple" ∨ ∃ es n, o.data = .dict es n)) : HInv g σ h' := by
  refine ⟨I.len, I.nd, fun r l hl => ?_, fun x hx => ?_, I.small⟩
  · obtain ⟨a, vs, n, e1, e2, e3⟩ := I.lists r l hl
    exact ⟨a, vs, n, e1, hk a _ (fun hm => (hw a hm).1 (List.mem_of_getElem? e1)) e2, e3⟩
  · obtain ⟨⟨o, ho, hc, n, q⟩, hn⟩ := I.tups x hx
    refine ⟨⟨o, hk _ _ (fun hm => ?_) ho, hc, n, q⟩, hn⟩
    obtain ⟨_, o', ho', hc'⟩ := hw _ hm
    rw [ho] at ho'; cases ho'
    rcases hc' with hc' | ⟨es, k, hd⟩
    · exact hc' hc
    · rw [q] at hd; cases hd
theorem wr_of {g : Gh} {h : Heap} {wr : List Addr} (hw : ∀ b ∈ wr, b ∉ g.rho ∧ ∃ o, h.get? b = some o ∧ o.cls ≠ .type "tuple") : ∀ b ∈ wr, b ∉ g.rho ∧ ∃ o, h.get? b = some o ∧ (o.cls ≠ .type "tuple" ∨ ∃ es n, o.data = .dict es n) :=
  fun b hb => let ⟨n, o, ho, hc⟩ := hw b hb; ⟨n, o, ho, .inl hc⟩
theorem EnvRel.turned {g : Gh} {env : Env} {h h' : Heap} {wr : List Addr} (R : EnvRel κ env ε g h) (hk : ∀ b o, b ∉ wr → h.get? b = some o → h'.get? b = some o) (hL : env.locals ∉ wr) (hC : ∀ y c, env.cells.lookup y = some c → c ∉ wr) : EnvRel κ env ε g h' where
  kind := R.kind
  glob := R.glob
  blt := R.blt
  kap := R.kap
  ns := let ⟨m, hn, hv⟩ := R.ns; ⟨m, hn.at' fun o e => hk _ o hL e, hv⟩
  cells := fun x hx => let ⟨c, ov, hc, ⟨o, ho, hd⟩, hp⟩ := R.cells x hx; ⟨c, ov, hc, ⟨o, hk _ o (hC x c hc) ho, hd⟩, hp⟩
  locOff := R.locOff
  cellOff := fun x c hc => let ⟨a, b, ov, o, ho, hd⟩ := R.cellOff x c hc; ⟨a, b, ov, o, hk _ o (hC x c hc) ho, hd⟩
  cellInj := R.cellInj
  dom := R.dom

theorem ex_for {target iter : Expr} {body : List Stmt} {pos : Pos} {P : SPost} (h : IterP B d κ ε σ target iter fun items ok σ₁ => ForL B d κ target body ok P items ε σ₁)
    (hs : ∀ env x, foldedSetIterable iter env x = pure x := by intros; rfl) : Ex1 B d κ ε σ (.For target iter body [] pos) P := by
  intro A g env s Q hA hI hp hR hO hQ
  refine wpAny_For (h A g env s _ hA hI hp hR fun items ok σ₁ g₁ h₁ t₁ I wr St hK hok hlen l₁ I₁ k₁ W hst hwr => ?_) (hs env)
  have hL : env.locals ∉ wr := fun hb => by
    obtain ⟨m, ⟨o, es, ep, ho, _⟩, _⟩ := hR.ns
    rw [(hwr _ hb).2.1] at ho; cases ho
  have hC : ∀ y c, env.cells.lookup y = some c → c ∉ wr := fun y c e hb => by
    obtain ⟨_, _, ov, o, ho, _⟩ := hR.cellOff y c e
    rw [(hwr c hb).2.1] at ho; cases ho
  refine codeAny_forLoop_any
    (fun k s' => ∃ i ε' σ' g' h' tk', s' = { s with heap := h', toks := tk' } ∧ i ≤ items.length ∧ k = items.length + 1 - i ∧ St i h' ∧ g₁.le g' ∧ HInv g' σ' h' ∧ KeepE env g g' s.heap h' ∧ EnvRel κ env ε' g' h' ∧ ok σ' ∧
      (∀ b ∈ wr, b ∉ g'.rho ∧ ∃ o, h'.get? b = some o ∧ o.cls ≠ .type "tuple") ∧ ForL B d κ target body ok P (items.drop i) ε' σ') ?_ (items.length + 1)
    ⟨0, ε, σ₁, g₁, h₁, t₁, rfl, Nat.zero_le _, rfl, hst, .refl g₁, I₁, k₁.toE, hR.keep l₁ k₁, hok, fun b hb => ⟨(hwr b hb).1, (hwr b hb).2.2⟩, hK⟩
  rintro k s' ⟨i, ε', σ', g', h', tk', rfl, hi, rfl, st, l, I', K, R, ok', wr', hF⟩
  have keepW : ∀ {h'' : Heap}, (∀ b o, b ∉ wr → h'.get? b = some o → h''.get? b = some o) → KeepE env g g' s.heap h'' := fun hk a o e n lo c => by
    obtain ⟨e', n'⟩ := K a o e n lo c
    exact ⟨hk a o (fun hb => by rw [(hwr a hb).2.1] at e; cases e) e', n'⟩
  by_cases hlt : i < items.length
  · rw [List.drop_eq_getElem_cons hlt] at hF
    obtain ⟨ε₁, hB, hX⟩ := hF
    refine noted_nay (env := env) (wpAny_mono (W.turn i items[i] g' σ' { s with heap := h', toks := tk' } (fun v s₂ => wpAny (model B.prog B.w) A (assign target env v) (fun _ s₃ => wpAny (model B.prog B.w) A (execs body env) (fun f s₄ => match f with
        | .next | .cont => ∃ m, m < items.length + 1 - i ∧ ∃ i ε' σ' g' h' tk', s₄ = { s with heap := h', toks := tk' } ∧ i ≤ items.length ∧ m = items.length + 1 - i ∧ St i h' ∧ g₁.le g' ∧ HInv g' σ' h' ∧ KeepE env g g' s.heap h' ∧ EnvRel κ env ε' g' h' ∧ ok σ' ∧
      (∀ b ∈ wr, b ∉ g'.rho ∧ ∃ o, h'.get? b = some o ∧ o.cls ≠ .type "tuple") ∧ ForL B d κ target body ok P (items.drop i) ε' σ'
        | .brk => Q .next s₄
        | .ret v => Q (.ret v) s₄) Nay s₃) Nay s₂) (List.getElem?_eq_getElem hlt) st l I' ok' (fun b hb => (wr' b hb).1) fun v h₂ t₂ st₂ hv k₂ al₂ => ?_)
      (fun r s₁ hr => by
        cases r with
        | none => exact hr.elim
        | some v => exact noted_nay (env := env) (wpAny_mono hr (fun _ s₂ h₂ => noted_nay (env := env) (wpAny_mono h₂ (fun _ s₃ h₃ => noted_nay (env := env) h₃) fun _ _ x => x)) fun _ _ x => x)) fun _ _ x => x)
    have wr₂ : ∀ b ∈ wr, b ∉ g'.rho ∧ ∃ o, h₂.get? b = some o ∧ o.cls ≠ .type "tuple" := fun b hb => ⟨(wr' b hb).1, al₂ b hb⟩
    have I₂ : HInv g' σ' h₂ := I'.turned k₂ (wr_of wr')
    have R₂ : EnvRel κ env ε' g' h₂ := R.turned k₂ hL hC
    have K₂ := keepW k₂
    refine assign_item (s := { s with heap := h₂, toks := t₂ }) hA.handled I₂ R₂ hB hv fun h₃ t₃ I₃ R₃ k₃ => ?_
    have k₃E : KeepE env g' g' h₂ h₃ := fun a o e n lo c => ⟨k₃ a o lo (fun x _ => c x) e, n⟩
    have onW : ∀ {g'' : Gh} {h'' : Heap}, KeepE env g' g'' h₃ h'' → ∀ b ∈ wr, b ∉ g''.rho ∧ ∃ o, h''.get? b = some o ∧ o.cls ≠ .type "tuple" := fun k b hb => by
      obtain ⟨n, o, ho, hc⟩ := wr₂ b hb
      obtain ⟨e1, _⟩ := k₃E b o ho n (fun e => hL (e ▸ hb)) fun y e => hC y b e hb
      obtain ⟨e2, n2⟩ := k b o e1 n (fun e => hL (e ▸ hb)) fun y e => hC y b e hb
      exact ⟨n2, o, e2, hc⟩
    have stOn : ∀ {g'' : Gh} {h'' : Heap}, KeepE env g' g'' h₃ h'' → St (i + 1) h'' := fun k => W.frame _ h₂ _ st₂ fun b hb o ho => by
      obtain ⟨n, _⟩ := wr₂ b hb
      obtain ⟨e1, _⟩ := k₃E b o ho n (fun e => hL (e ▸ hb)) fun y e => hC y b e hb
      exact (k b o e1 n (fun e => hL (e ▸ hb)) fun y e => hC y b e hb).1
    have K₃ := K₂.trans k₃E
    refine hX A g' env _ _ hA I₃ (hp.keepE hO K₃) R₃ hO fun fl ε₂ σ₂ f g₄ h₄ t₄ H₄ l₄ I₄ k₄ R₄ r₄ => ?_
    obtain ⟨hfl, ok₄, hF₄⟩ := H₄
    have fin : ∃ m, m < items.length + 1 - i ∧ ∃ i ε' σ' g' h' tk', ({ s with heap := h₄, toks := t₄ } : Shared) = { s with heap := h', toks := tk' } ∧ i ≤ items.length ∧ m = items.length + 1 - i ∧ St i h' ∧ g₁.le g' ∧ HInv g' σ' h' ∧ KeepE env g g' s.heap h' ∧ EnvRel κ env ε' g' h' ∧ ok σ' ∧
      (∀ b ∈ wr, b ∉ g'.rho ∧ ∃ o, h'.get? b = some o ∧ o.cls ≠ .type "tuple") ∧ ForL B d κ target body ok P (items.drop i) ε' σ' :=
      ⟨items.length + 1 - (i + 1), by omega, i + 1, ε₂, σ₂, g₄, h₄, t₄, rfl, hlt, rfl, stOn k₄, l.trans l₄, I₄, K₃.trans k₄, R₄, ok₄, onW k₄, hF₄⟩
    rcases hfl with rfl | rfl
    · cases r₄; exact fin
    · cases r₄; exact fin
  · have hin : i = items.length := Nat.le_antisymm hi (Nat.not_lt.mp hlt)
    subst hin
    rw [List.drop_length] at hF
    refine noted_nay (env := env) (wpAny_mono (W.done g' σ' { s with heap := h', toks := tk' } (fun s₁ => Q .next s₁) st l I' ok' (fun b hb => (wr' b hb).1) fun h₂ t₂ k₂ => ?_) (fun r s₁ hr => by
      obtain ⟨rfl, hr⟩ := hr
      exact wpAny_execs_nil hr) fun _ _ x => x)
    exact hQ .next ε' σ' .next g' h₂ t₂ hF (l₁.trans l) (I'.turned k₂ (wr_of wr')) (keepW k₂) (R.turned k₂ hL hC) rfl
end
end Mine
end

section
open PySem PySem.W PyProof.Rows
set_option maxRecDepth 100000
namespace Mine

theorem comp_loop_any {prog : Program} {w : World} {A : Around} {R : Result → Shared → Prop} {elt target iter : Expr} {ifs : List Expr} {scope : Scope} {pos : Pos} {it acc : Value} {env : Env} (I : Nat → Shared → Prop)
    (turn : ∀ n s, I n s → wpAny (model prog w) A (pyNext it) (fun r s₁ => match r with
      | none => R (.ok .next) s₁
      | some v => wpAny (model prog w) A (letOwnedTupleGo target it v) (fun _ s₁' => wpAny (model prog w) A (assign target env v) (fun _ s₂ =>
          wpAny (model prog w) A (forIn ifs true fun c r => if r = true then do let ok ← isTrue c env (eval c env); pure (ForInStep.yield ok) else pure (ForInStep.yield r)) (fun ok s₃ =>
            if ok = true then wpAny (model prog w) A (eval elt env) (fun x s₄ =>
              wpAny (model prog w) A (call (.builtin "list.append") [acc, x]) (fun _ s₅ => ∃ m, m < n ∧ I m s₅) Nay s₄) Nay s₃
            else ∃ m, m < n ∧ I m s₃) Nay s₂) Nay s₁') Nay s₁) Nay s)
    (n : Nat) {s : Shared} (h : I n s) : codeAny (model prog w) A (.compLoop (.ListComp elt [⟨target, iter, ifs, 0⟩] scope pos) 0 it acc env) R s := by
  refine codeAny_loop rfl I (fun n s hI => ?_) n h
  show wpAny _ A ((compTurn (.ListComp elt [⟨target, iter, ifs, 0⟩] scope pos) 0 it acc env).onRaise (fun x => do noteFrame x env; theTreesLotGoes x)) _ _ s
  refine wpAny_noted (noted_nay (env := env) ?_)
  rw [compTurn_list]
  refine wpAny_bind (wpAny_standAt (wpAny_bind (wpAny_mono (turn n s hI) (fun r s₁ h₁ => ?_) fun _ _ h' => h')))
  cases r with
  | none => exact wpAny_pure h₁
  | some v =>
    refine wpAny_bind (wpAny_mono h₁ (fun _ s₁' h₁' => wpAny_bind (wpAny_mono h₁' (fun _ s₂ h₂ => wpAny_bind (wpAny_mono h₂ (fun ok s₃ h₃ => ?_) fun _ _ h' => h')) fun _ _ h' => h')) fun _ _ h' => h')
    cases ok with
    | false => exact wpAny_pure ⟨rfl, h₃⟩
    | true =>
      exact wpAny_bind (wpAny_bind (wpAny_mono h₃ (fun x s₄ h₄ => wpAny_bind (wpAny_mono h₄ (fun _ s₅ h₅ => wpAny_pure (wpAny_pure ⟨rfl, h₅⟩)) fun _ _ h' => h')) fun _ _ h' => h'))

theorem HInv.adopt {g : Gh} {σ : Store} {h : Heap} {D : Addr} {l : List PV} {vs : List Value} {n : Nat} (I : HInv g σ h) (hn : D ∉ g.rho) (hD : h.get? D = some (LObj vs n)) (hv : VRels g l vs) (hl : l.length ≤ 4096) :
    HInv (g.addL D) (σ ++ [l]) h ∧ VRel (g.addL D) (.ref σ.length) (.ref D) := by
  refine ⟨⟨by simp [I.len], ?_, fun r l' hl' => ?_, fun x hx => ?_, fun l' hl' => ?_⟩, ?_⟩
  · rw [List.nodup_append]
    refine ⟨I.nd, by simp, fun a ha b hb => ?_⟩
    rw [List.mem_singleton.mp hb]
    exact fun e => hn (e ▸ ha)
  · rcases Nat.lt_or_ge r σ.length with h1 | h1
    · rw [List.getElem?_append_left h1] at hl'
      obtain ⟨a, ws, k, e1, e2, e3⟩ := I.lists r l' hl'
      exact ⟨a, ws, k, (g.le_addL D).rho _ _ e1, e2, e3.mono (g.le_addL D)⟩
    · have h2 : r = σ.length := by
        rcases Nat.lt_or_ge σ.length r with h3 | h3
        · rw [List.getElem?_eq_none (by simp; omega)] at hl'; cases hl'
        · omega
      subst h2
      simp at hl'
      subst hl'
      refine ⟨D, vs, n, ?_, hD, hv.mono (g.le_addL D)⟩
      show (g.rho ++ [D])[σ.length]? = some D
      rw [← I.len]; simp
  · obtain ⟨⟨o, ho, hc, r⟩, hnm⟩ := I.tups x hx
    refine ⟨⟨o, ho, hc, r⟩, fun hm => ?_⟩
    rcases List.mem_append.mp hm with hm | hm
    · exact hnm hm
    · rw [List.mem_singleton.mp hm, hD] at ho
      cases ho
      simp at hc
  · rcases List.mem_append.mp hl' with hm | hm
    · exact I.small l' hm
    · rw [List.mem_singleton.mp hm]; exact hl
  · simp only [VRel]
    refine ⟨D, rfl, ?_⟩
    show (g.rho ++ [D])[σ.length]? = some D
    rw [← I.len]; simp

/-- a comprehension's turns -/
noncomputable def CompL (B : Base) (d : Nat) (κ : Str → Option NameKind) (εf : PEnv) (elt : Expr) (ifs : List Expr) (target : Expr) (ok : Store → Prop) (P : List PV → Store → Prop) : List PV → List PV → Store → Prop
  | [], acc, σ => P acc σ
  | p :: rest, acc, σ => ∃ ε₁, BindT κ target p εf ε₁ ∧ match ifs with
    | [] => Ev B d κ ε₁ σ elt fun q σ' => ok σ' ∧ CompL B d κ εf elt ifs target ok P rest (acc ++ [q]) σ'
    | [c] => Tst B d κ ε₁ σ c fun b σ' => if b then Ev B d κ ε₁ σ' elt fun q σ'' => ok σ'' ∧ CompL B d κ εf elt ifs target ok P rest (acc ++ [q]) σ'' else ok σ' ∧ CompL B d κ εf elt ifs target ok P rest acc σ'
    | _ => False

theorem EnvRel.weaken {κ : Str → Option NameKind} {env : Env} {ε ε' : PEnv} {g : Gh} {h : Heap} (R : EnvRel κ env ε g h) (hw : ∀ x p, ε' x = some p → ε x = some p) : EnvRel κ env ε' g h where
  kind := R.kind
  glob := R.glob
  blt := R.blt
  kap := R.kap
  ns := let ⟨m, hn, hv⟩ := R.ns; ⟨m, hn, fun x p hx => hv x p (hw x p hx)⟩
  cells := fun x hx => let ⟨c, ov, a, b, hp⟩ := R.cells x hx; ⟨c, ov, a, b, fun p hp' => hp p (hw x p hp')⟩
  locOff := R.locOff
  cellOff := R.cellOff
  cellInj := R.cellInj
  dom := fun x p hx => R.dom x p (hw x p hx)

theorem bindT_off {κ : Str → Option NameKind} {target : Expr} {p : PV} {ε ε₁ : PEnv} (h : BindT κ target p ε ε₁) : ∀ x q, (∀ y ∈ targetNames target, x ≠ y) → ε x = some q → ε₁ x = some q := by
  rcases h with ⟨_, _, rfl, _, rfl⟩ | ⟨_, _, _, _, _, _, rfl, _, _, q', r, _, rfl⟩
  · intro x q hx e
    unfold upd
    rw [if_neg (hx _ (.head _))]; exact e
  · intro x q hx e
    unfold upd
    rw [if_neg (hx _ (.tail _ (.head _))), if_neg (hx _ (.head _))]; exact e

section
variable {B : Base} {d : Nat} {κ : Str → Option NameKind} {ε : PEnv} {σ : Store}

theorem comp_core {A : Around} {g₁ : Gh} {env : Env} {s : Shared} {elt target iter : Expr} {ifs : List Expr} {scope : Scope} {pos : Pos} {I : Addr} {wr : List Addr} {ok : Store → Prop} {items : List PV} {St : Nat → Heap → Prop} {cl : List (Str × Addr)}
    {P : List PV → Store → Prop} {RR : Value → Addr → Result → Shared → Prop}
    (hA : AOk A d) (hI : HInv g₁ σ s.heap) (hp : Prot B g₁ s.heap) (hR : EnvRel κ env ε g₁ s.heap) (S : CompScope κ scope) (W : Src B A target I wr g₁ ok items St) (hst : St 0 s.heap) (hok : ok σ) (hlen : items.length ≤ 4096)
    (hwr : ∀ b ∈ wr, b ∉ g₁.rho ∧ ∃ o, s.heap.get? b = some o ∧ o.cls ≠ .type "tuple") (htn : ∀ x ∈ targetNames target, scope.names.lookup x ≠ some .free)
    (c1 : ∀ x c, cl.lookup x = some c → env.cells.lookup x = some c) (c3 : ∀ x c, cl.lookup x = some c → (x, NameKind.free) ∈ scope.names) (c2 : ∀ x, (x, NameKind.free) ∈ scope.names → cl.lookup x = env.cells.lookup x)
    (hwe : ∀ b ∈ wr, B.hb.get? b = none ∧ ∀ y, env.cells.lookup y ≠ some b)
    (hC : CompL B d (kapC κ scope) (freeOf scope ε) elt ifs target ok P items [] σ)
    (hRR : ∀ acc σ' g' h' tk D C vs n m, P acc σ' → acc.length ≤ 4096 → g₁.le g' → HInv g' σ' h' → (∀ a o, s.heap.get? a = some o → a ∉ g₁.rho → a ∉ wr → h'.get? a = some o ∧ a ∉ g'.rho) → s.heap.get? D = none → s.heap.get? C = none → D ≠ C → D ∉ g'.rho → C ∉ g'.rho →
      h'.get? D = some (LObj vs n) → VRels g' acc vs → h'.Ns C m → RR (.ref D) C (.ok .next) { s with heap := h', toks := tk }) :
    wpAny (model B.prog B.w) A (newList []) (fun acc s₃ => wpAny (model B.prog B.w) A (newFunctionEnv scope env.globals cl [] env.qual none .none (some env)) (fun cenv s₄ =>
      codeAny (model B.prog B.w) A (.compStart (.ListComp elt [⟨target, iter, ifs, 0⟩] scope pos) 0 (.ref I) acc { cenv with scope := relabel scope env }) (RR acc cenv.locals) s₄) Nay s₃) Nay s := by
  refine wpAny_newObj_type ?_
  have hk0 : ∀ b o, s.heap.get? b = some o → (s.heap.push { cls := .type "list", data := .seq ([] : List Value).toArray }).get? b = some o := fun b o e => Heap.get?_push_of_some _ e
  have hDn : s.heap.get? s.heap.objs.size = none := push_new s.heap (LObj [] 0)
  have hD0 : (s.heap.push { cls := .type "list", data := .seq ([] : List Value).toArray }).get? s.heap.objs.size = some (LObj [] 0) := Heap.get?_push_size _ rfl
  generalize s.heap.objs.size = D at hDn hD0 ⊢
  generalize (s.heap.push { cls := .type "list", data := .seq ([] : List Value).toArray }) = h0 at hk0 hD0 ⊢
  have I0 : HInv g₁ σ h0 := hI.grow hk0
  refine new_block (s := { s with heap := h0 }) I0 (hR.keep (.refl _) (Keep.grow hk0)) S c1 c3 c2 fun cenv h1 hk1 R1 hC1 hCell hFree => ?_
  have I1 : HInv g₁ σ h1 := I0.grow hk1
  have hk : ∀ b o, s.heap.get? b = some o → h1.get? b = some o := fun b o e => hk1 b o (hk0 b o e)
  have hD1 := hk1 _ _ hD0
  have hDC : D ≠ cenv.locals := fun e => by rw [← e, hD0] at hC1; cases hC1
  have hCs : s.heap.get? cenv.locals = none := by
    cases e : s.heap.get? cenv.locals with
    | none => rfl
    | some o => have := hk0 _ _ e; rw [hC1] at this; cases this
  have hDrho : D ∉ g₁.rho := fun hm => by obtain ⟨o, ho⟩ := hI.rho_some hm; rw [hDn] at ho; cases ho
  have wrAlive : ∀ b ∈ wr, ∃ o, s.heap.get? b = some o := fun b hb => let ⟨_, o, ho, _⟩ := hwr b hb; ⟨o, ho⟩
  have hDw : D ∉ wr := fun hb => by obtain ⟨o, ho⟩ := wrAlive D hb; rw [hDn] at ho; cases ho
  have hCw : cenv.locals ∉ wr := fun hb => by obtain ⟨o, ho⟩ := wrAlive _ hb; rw [hCs] at ho; cases ho
  -- the block's cells off the iterator
  have hcw : ∀ y c, cenv.cells.lookup y = some c → c ∉ wr := fun y c hy hb => by
    by_cases hf : scope.names.lookup y = some .free
    · exact (hwe c hb).2 y (hFree y c hy hf)
    · obtain ⟨o, ho⟩ := wrAlive c hb
      have := hk0 _ _ ho
      rw [hCell y c hy hf] at this; cases this
  have hcD : ∀ y c, cenv.cells.lookup y = some c → c ≠ D := fun y c hy e => by
    obtain ⟨_, _, ov, o, ho, hd⟩ := R1.cellOff y c hy
    rw [e, hD1] at ho; cases ho; cases hd
  have hCell' : ∀ x c, cenv.cells.lookup x = some c → scope.names.lookup x ≠ some .free → s.heap.get? c = none := fun x c hc hx => by
    cases e : s.heap.get? c with
    | none => rfl
    | some o => have := hk0 _ _ e; rw [hCell x c hc hx] at this; cases this
  have hCoff : cenv.locals ∉ g₁.rho := R1.locOff
  have hk_wr1 : ∀ b ∈ wr, b ∉ g₁.rho ∧ ∃ o, h1.get? b = some o ∧ o.cls ≠ .type "tuple" := fun b hb => let ⟨n, o, ho, hc⟩ := hwr b hb; ⟨n, o, hk _ _ ho, hc⟩
  have loop : codeAny (model B.prog B.w) A (.compLoop (.ListComp elt [⟨target, iter, ifs, 0⟩] scope pos) 0 (.ref I) (.ref D) { cenv with scope := relabel scope env }) (RR (.ref D) cenv.locals) { s with heap := h1 } := by
    refine comp_loop_any
      (fun k s' => ∃ i acc σ' g' h' tk' vs n, s' = { s with heap := h', toks := tk' } ∧ i ≤ items.length ∧ k = items.length + 1 - i ∧ St i h' ∧ g₁.le g' ∧ HInv g' σ' h' ∧
        (∀ a o, s.heap.get? a = some o → a ∉ g₁.rho → a ∉ wr → h'.get? a = some o ∧ a ∉ g'.rho) ∧ EnvRel (kapC κ scope) { cenv with scope := relabel scope env } (freeOf scope ε) g' h' ∧ ok σ' ∧
        (∀ b ∈ wr, b ∉ g'.rho ∧ ∃ o, h'.get? b = some o ∧ o.cls ≠ .type "tuple") ∧ D ∉ g'.rho ∧ h'.get? D = some (LObj vs n) ∧ VRels g' acc vs ∧ acc.length ≤ i ∧
        CompL B d (kapC κ scope) (freeOf scope ε) elt ifs target ok P (items.drop i) acc σ') ?_ (items.length + 1)
      ⟨0, [], σ, g₁, h1, s.toks, [], 0, rfl, Nat.zero_le _, rfl, W.frame 0 _ _ hst (fun b _ o e => hk b o e), .refl g₁, I1, fun a o e n _ => ⟨hk a o e, n⟩, R1, hok, hk_wr1, hDrho, hD1, .nil, Nat.le_refl _, hC⟩
    rintro k s' ⟨i, acc, σ', g', h', tk', vs, n, rfl, hi, rfl, st, l, I', Kw, R, ok', wr', hDr, hD', rv, hal, hF⟩
    by_cases hlt : i < items.length
    · rw [List.drop_eq_getElem_cons hlt] at hF
      obtain ⟨ε₁, hB, hX⟩ := hF
      refine wpAny_mono (W.turn i items[i] g' σ' { s with heap := h', toks := tk' } (fun v s₂ => wpAny (model B.prog B.w) A (assign target { cenv with scope := relabel scope env } v) (fun _ s₂ =>
          wpAny (model B.prog B.w) A (forIn ifs true fun c r => if r = true then do let ok ← isTrue c { cenv with scope := relabel scope env } (eval c { cenv with scope := relabel scope env }); pure (ForInStep.yield ok) else pure (ForInStep.yield r)) (fun ok₁ s₃ =>
            if ok₁ = true then wpAny (model B.prog B.w) A (eval elt { cenv with scope := relabel scope env }) (fun x s₄ =>
              wpAny (model B.prog B.w) A (call (.builtin "list.append") [.ref D, x]) (fun _ s₅ => ∃ m, m < items.length + 1 - i ∧ ∃ i acc σ' g' h' tk' vs n, s₅ = { s with heap := h', toks := tk' } ∧ i ≤ items.length ∧ m = items.length + 1 - i ∧ St i h' ∧ g₁.le g' ∧ HInv g' σ' h' ∧
        (∀ a o, s.heap.get? a = some o → a ∉ g₁.rho → a ∉ wr → h'.get? a = some o ∧ a ∉ g'.rho) ∧ EnvRel (kapC κ scope) { cenv with scope := relabel scope env } (freeOf scope ε) g' h' ∧ ok σ' ∧
        (∀ b ∈ wr, b ∉ g'.rho ∧ ∃ o, h'.get? b = some o ∧ o.cls ≠ .type "tuple") ∧ D ∉ g'.rho ∧ h'.get? D = some (LObj vs n) ∧ VRels g' acc vs ∧ acc.length ≤ i ∧
        CompL B d (kapC κ scope) (freeOf scope ε) elt ifs target ok P (items.drop i) acc σ') Nay s₄) Nay s₃
            else ∃ m, m < items.length + 1 - i ∧ ∃ i acc σ' g' h' tk' vs n, s₃ = { s with heap := h', toks := tk' } ∧ i ≤ items.length ∧ m = items.length + 1 - i ∧ St i h' ∧ g₁.le g' ∧ HInv g' σ' h' ∧
        (∀ a o, s.heap.get? a = some o → a ∉ g₁.rho → a ∉ wr → h'.get? a = some o ∧ a ∉ g'.rho) ∧ EnvRel (kapC κ scope) { cenv with scope := relabel scope env } (freeOf scope ε) g' h' ∧ ok σ' ∧
        (∀ b ∈ wr, b ∉ g'.rho ∧ ∃ o, h'.get? b = some o ∧ o.cls ≠ .type "tuple") ∧ D ∉ g'.rho ∧ h'.get? D = some (LObj vs n) ∧ VRels g' acc vs ∧ acc.length ≤ i ∧
        CompL B d (kapC κ scope) (freeOf scope ε) elt ifs target ok P (items.drop i) acc σ') Nay s₂) Nay s₂) (List.getElem?_eq_getElem hlt) st l I' ok' (fun b hb => (wr' b hb).1) fun v h₂ t₂ st₂ hv k₂ al₂ => ?_)
        (fun r s₁ hr => by
          cases r with
          | none => exact hr.elim
          | some v => exact hr) fun _ _ x => x
      have wr₂ : ∀ b ∈ wr, b ∉ g'.rho ∧ ∃ o, h₂.get? b = some o ∧ o.cls ≠ .type "tuple" := fun b hb => ⟨(wr' b hb).1, al₂ b hb⟩
      have I₂ : HInv g' σ' h₂ := I'.turned k₂ (wr_of wr')
      have R₂ := R.turned k₂ hCw hcw
      have hD₂ := k₂ D _ hDw hD'
      refine assign_item (s := { s with heap := h₂, toks := t₂ }) hA.handled I₂ R₂ hB hv fun h₃ t₃ I₃ R₃ k₃ => ?_
      have tc : ∀ x ∈ targetNames target, ∀ a o, s.heap.get? a = some o → cenv.cells.lookup x ≠ some a := fun x hx a o e e' => by
        rw [hCell' x a e' (htn x hx)] at e; cases e
      have Kw₃ : ∀ a o, s.heap.get? a = some o → a ∉ g₁.rho → a ∉ wr → h₃.get? a = some o ∧ a ∉ g'.rho := fun a o e n hw => by
        obtain ⟨e1, n1⟩ := Kw a o e n hw
        exact ⟨k₃ a o (fun q => by rw [q, hCs] at e; cases e) (fun x hx => tc x hx a o e) (k₂ a o hw e1), n1⟩
      have wr₃ : ∀ b ∈ wr, b ∉ g'.rho ∧ ∃ o, h₃.get? b = some o ∧ o.cls ≠ .type "tuple" := fun b hb => by
        obtain ⟨nb, o, ho, hc⟩ := wr₂ b hb
        exact ⟨nb, o, k₃ b o (fun q => hCw (q ▸ hb)) (fun x hx e => hcw x b e hb) ho, hc⟩
      have st₃ : St (i + 1) h₃ := W.frame _ _ _ st₂ fun b hb o ho => k₃ b o (fun q => hCw (q ▸ hb)) (fun x hx e => hcw x b e hb) ho
      have hD₃ := k₃ D _ hDC (fun x hx e => hcD x D e rfl) hD₂
      have pr : ∀ {g'' : Gh} {h'' : Heap}, (∀ a o, s.heap.get? a = some o → a ∉ g₁.rho → a ∉ wr → h''.get? a = some o ∧ a ∉ g''.rho) → Prot B g'' h'' := fun K a o e => by
        obtain ⟨e1, n1⟩ := hp a o e
        exact K a o e1 n1 fun hb => by rw [(hwe a hb).1] at e; cases e
      have weak : ∀ x p, freeOf scope ε x = some p → ε₁ x = some p := fun x p hx => bindT_off hB x p (fun y hy e => by
        unfold freeOf at hx
        split at hx
        · rename_i hf; exact htn y hy (e ▸ hf)
        · cases hx) hx
      -- from a state behind the tests: the element, then the append
      have fin : ∀ {σ₄ g₄ h₄ t₄}, g'.le g₄ → HInv g₄ σ₄ h₄ → Keep g' g₄ h₃ h₄ → EnvRel (kapC κ scope) { cenv with scope := relabel scope env } ε₁ g₄ h₄ → (Ev B d (kapC κ scope) ε₁ σ₄ elt fun q σ'' => ok σ'' ∧ CompL B d (kapC κ scope) (freeOf scope ε) elt ifs target ok P (items.drop (i + 1)) (acc ++ [q]) σ'') →
          wpAny (model B.prog B.w) A (eval elt { cenv with scope := relabel scope env }) (fun x s₄ =>
              wpAny (model B.prog B.w) A (call (.builtin "list.append") [.ref D, x]) (fun _ s₅ => ∃ m, m < items.length + 1 - i ∧ ∃ i acc σ' g' h' tk' vs n, s₅ = { s with heap := h', toks := tk' } ∧ i ≤ items.length ∧ m = items.length + 1 - i ∧ St i h' ∧ g₁.le g' ∧ HInv g' σ' h' ∧
        (∀ a o, s.heap.get? a = some o → a ∉ g₁.rho → a ∉ wr → h'.get? a = some o ∧ a ∉ g'.rho) ∧ EnvRel (kapC κ scope) { cenv with scope := relabel scope env } (freeOf scope ε) g' h' ∧ ok σ' ∧
        (∀ b ∈ wr, b ∉ g'.rho ∧ ∃ o, h'.get? b = some o ∧ o.cls ≠ .type "tuple") ∧ D ∉ g'.rho ∧ h'.get? D = some (LObj vs n) ∧ VRels g' acc vs ∧ acc.length ≤ i ∧
        CompL B d (kapC κ scope) (freeOf scope ε) elt ifs target ok P (items.drop i) acc σ') Nay s₄) Nay { s with heap := h₄, toks := t₄ } := by
        intro σ₄ g₄ h₄ t₄ l₄ I₄ K₄ R₄ hE
        have Kw₄ : ∀ a o, s.heap.get? a = some o → a ∉ g₁.rho → a ∉ wr → h₄.get? a = some o ∧ a ∉ g₄.rho := fun a o e n hw => let ⟨e1, n1⟩ := Kw₃ a o e n hw; K₄ a o e1 n1
        refine hE A g₄ _ _ _ hA I₄ (pr Kw₄) R₄ fun q σ₅ y g₅ h₅ t₅ H₅ l₅ I₅ K₅ r₅ => ?_
        obtain ⟨ok₅, hF₅⟩ := H₅
        have K₅' := K₄.trans K₅
        obtain ⟨hD₅, hDr₅⟩ := K₅' D _ hD₃ hDr
        have rv₅ : VRels g₅ acc vs := rv.mono (l₄.trans l₅)
        refine wpAny_list_append_plain (items := vs.toArray) ⟨n, hD₅⟩ (fun h₆ hP₆ hs₆ => ?_) (by simp only [List.size_toArray, rv.length]; exact small_line (by omega))
        obtain ⟨n₆, hD₆⟩ := hP₆
        have off : ∀ b o, b ∉ [D] → h₅.get? b = some o → h₆.get? b = some o := fun b o hb e => (hs₆.2 b fun q => hb (by simp [q])).trans e
        have wr₅ : ∀ b ∈ wr, b ∉ g₅.rho ∧ ∃ o, h₅.get? b = some o ∧ o.cls ≠ .type "tuple" := fun b hb => by
          obtain ⟨nb, o, ho, hc⟩ := wr₃ b hb
          obtain ⟨e1, n1⟩ := K₅' b o ho nb
          exact ⟨n1, o, e1, hc⟩
        refine ⟨items.length + 1 - (i + 1), by omega, i + 1, acc ++ [q], σ₅, g₅, h₆, t₅, vs ++ [y], n₆, rfl, hlt, rfl, ?_, (l.trans l₄).trans l₅, I₅.turned off ?_, fun a o e nn hw => ?_, ?_, ok₅, fun b hb => ?_, hDr₅, ?_, rv₅.append (.cons r₅ .nil), by simp; omega, hF₅⟩
        · refine W.frame _ _ _ st₃ fun b hb o ho => ?_
          obtain ⟨e1, _⟩ := K₅' b o ho (wr₃ b hb).1
          exact off b o (fun q => hDw (List.mem_singleton.mp q ▸ hb)) e1
        · intro b hb
          rw [List.mem_singleton.mp hb]
          exact ⟨hDr₅, _, hD₅, .inl (by simp)⟩
        · obtain ⟨e1, n1⟩ := Kw₄ a o e nn hw
          obtain ⟨e2, n2⟩ := K₅ a o e1 n1
          exact ⟨off a o (fun q => by rw [List.mem_singleton.mp q, hDn] at e; cases e) e2, n2⟩
        · exact (EnvRel.turned (env := { cenv with scope := relabel scope env }) (R₄.keep l₅ K₅) off (fun q => hDC (List.mem_singleton.mp q).symm) fun y' c hy q => hcD y' c hy (List.mem_singleton.mp q)).weaken weak
        · obtain ⟨nb, o, ho, hc⟩ := wr₅ b hb
          exact ⟨nb, o, off b o (fun q => hDw (List.mem_singleton.mp q ▸ hb)) ho, hc⟩
        · rw [hD₆]
          congr 1
          simp
      cases ifs with
      | nil =>
        refine wpAny_tests_nil ?_
        rw [if_pos rfl]
        exact fin (.refl _) I₃ (.refl _ _) R₃ hX
      | cons c r =>
        cases r with
        | cons c' r => exact hX.elim
        | nil =>
          refine wpAny_tests_one ?_
          refine hX A g' _ _ _ hA I₃ (pr Kw₃) R₃ fun b σ₄ g₄ h₄ t₄ H₄ l₄ I₄ K₄ => ?_
          have R₄ := R₃.keep l₄ K₄
          cases b with
          | true =>
            rw [if_pos rfl]
            exact fin l₄ I₄ K₄ R₄ H₄
          | false =>
            rw [if_neg (by simp)]
            obtain ⟨ok₄, hF₄⟩ := H₄
            obtain ⟨hD₄, hDr₄⟩ := K₄ D _ hD₃ hDr
            refine ⟨items.length + 1 - (i + 1), by omega, i + 1, acc, σ₄, g₄, h₄, t₄, vs, n, rfl, hlt, rfl, ?_, l.trans l₄, I₄, fun a o e nn hw => ?_, R₄.weaken weak, ok₄, fun b hb => ?_, hDr₄, hD₄, rv.mono l₄, by omega, hF₄⟩
            · exact W.frame _ _ _ st₃ fun b hb o ho => (K₄ b o ho (wr₃ b hb).1).1
            · obtain ⟨e1, n1⟩ := Kw₃ a o e nn hw
              exact K₄ a o e1 n1
            · obtain ⟨nb, o, ho, hc⟩ := wr₃ b hb
              obtain ⟨e1, n1⟩ := K₄ b o ho nb
              exact ⟨n1, o, e1, hc⟩
    · have hin : i = items.length := Nat.le_antisymm hi (Nat.not_lt.mp hlt)
      subst hin
      rw [List.drop_length] at hF
      refine wpAny_mono (W.done g' σ' { s with heap := h', toks := tk' } (fun s₁ => RR (.ref D) cenv.locals (.ok .next) s₁) st l I' ok' (fun b hb => (wr' b hb).1) fun h₂ t₂ k₂ => ?_) (fun r s₁ hr => by
        obtain ⟨rfl, hr⟩ := hr
        exact hr) fun _ _ x => x
      obtain ⟨m, hm, _⟩ := R.ns
      exact hRR acc σ' g' h₂ t₂ D cenv.locals vs n m hF (by omega) l (I'.turned k₂ (wr_of wr')) (fun a o e nn hw => let ⟨e1, n1⟩ := Kw a o e nn hw; ⟨k₂ a o hw e1, n1⟩) hDn hCs hDC hDr R.locOff (k₂ D _ hDw hD') rv (hm.at' fun o e => k₂ _ o hCw e)
  exact codeAny_compStart_list loop (noted_nay (env := env) (W.self _ _ (W.frame 0 _ _ hst fun b _ o e => hk b o e) loop))
end
end Mine
end

section
open PySem PySem.W PyProof.Rows
set_option maxRecDepth 100000
namespace Mine
section
variable {B : Base} {d : Nat} {κ : Str → Option NameKind} {ε : PEnv} {σ : Store}

theorem ns_turn {C : Addr} {m : Str → Option Value} {g : Gh} {h : Heap} (hn : h.Ns C m) (hC : C ∉ g.rho) : ∀ b ∈ [C], b ∉ g.rho ∧ ∃ o, h.get? b = some o ∧ (o.cls ≠ .type "tuple" ∨ ∃ es n, o.data = .dict es n) := fun b hb => by
  rw [List.mem_singleton.mp hb]
  obtain ⟨o, es, ep, ho, hd, _⟩ := hn
  exact ⟨hC, o, ho, .inr ⟨es, ep, hd⟩⟩

theorem ev_comp {elt target iter : Expr} {ifs : List Expr} {scope : Scope} {pos : Pos} {P : VPost} (S : CompScope κ scope) (htn : ∀ x ∈ targetNames target, scope.names.lookup x ≠ some .free)
    (h : IterP B d κ ε σ target iter fun items ok σ₁ => CompL B d (kapC κ scope) (freeOf scope ε) elt ifs target ok (fun acc σ' => P (.ref σ'.length) (σ' ++ [acc])) items [] σ₁)
    (hs : ∀ env x, foldedSetIterable iter env x = pure x := by intros; rfl) : Ev B d κ ε σ (.ListComp elt [⟨target, iter, ifs, 0⟩] scope pos) P := by
  intro A g env s Q hA hI hp hR hQ
  obtain ⟨cl, hclos, c1, c2, c3⟩ := closureFor_ex env scope fun x hx => by
    obtain ⟨c, ov, hc, _⟩ := hR.cells x (S.free _ hx rfl)
    exact ⟨c, hc⟩
  rw [eval_ListComp]
  refine wpAny_comprehension_free (use := none) rfl (hs env) hclos S.kind (fun x hx hl => lookup_mem S.nodup (by rw [← hl]; exact hx)) (h A g env s _ hA hI hp hR fun items ok σ₁ g₁ h₁ t₁ I wr St hK hok hlen l₁ I₁ k₁ W hst hwr => ?_)
  refine comp_core (s := { s with heap := h₁, toks := t₁ }) (RR := fun acc C => compPost (model B.prog B.w) A Nay none Q acc C) hA I₁ (hp.keep k₁) (hR.keep l₁ k₁) S W hst hok hlen (fun b hb => ⟨(hwr b hb).1, (hwr b hb).2.2⟩) htn c1 c3 c2 (fun b hb => ⟨?_, fun y e => ?_⟩) hK
    fun acc σ' g' h' tk D C vs n m hP hal l I' Kw hDn hCn hDC hDr hCr hD rv hns => ?_
  · cases e : B.hb.get? b with
    | none => rfl
    | some o => have := (hp b o e).1; rw [(hwr b hb).2.1] at this; cases this
  · obtain ⟨_, _, ov, o, ho, _⟩ := hR.cellOff y b e
    rw [(hwr b hb).2.1] at ho; cases ho
  refine ⟨m, hns, fun h'' hs'' => ?_⟩
  have off : ∀ b o, b ∉ [C] → h'.get? b = some o → h''.get? b = some o := fun b o hb e => (hs''.2 b fun q => hb (by simp [q])).trans e
  have I₂ : HInv g' σ' h'' := I'.turned off (ns_turn hns hCr)
  have hD₂ := off D _ (fun q => hDC (List.mem_singleton.mp q)) hD
  obtain ⟨I₃, r₃⟩ := I₂.adopt hDr hD₂ rv hal
  refine hQ _ _ _ _ h'' tk hP ((l₁.trans l).trans (g'.le_addL D)) I₃ (fun a o e na => ?_) r₃
  obtain ⟨e1, n1⟩ := k₁ a o e na
  obtain ⟨e2, n2⟩ := Kw a o e1 n1 fun hb => by rw [(hwr a hb).2.1] at e; cases e
  have haC : a ≠ C := fun q => by rw [q] at e1; have : h₁.get? C = none := hCn; rw [this] at e1; cases e1
  have haD : a ≠ D := fun q => by rw [q] at e1; have : h₁.get? D = none := hDn; rw [this] at e1; cases e1
  refine ⟨off a o (fun q => haC (List.mem_singleton.mp q)) e2, fun hm => ?_⟩
  rcases List.mem_append.mp hm with hm | hm
  · exact n2 hm
  · exact haD (List.mem_singleton.mp hm)

theorem ex_assign_comp {elt target iter : Expr} {ifs : List Expr} {scope : Scope} {y : Str} {py pos spos : Pos} {P : SPost} (S : CompScope κ scope) (htn : ∀ x ∈ targetNames target, scope.names.lookup x ≠ some .free)
    (hy : κ y = some .local ∨ κ y = some .cell)
    (h : IterP B d κ ε σ target iter fun items ok σ₁ => CompL B d (kapC κ scope) (freeOf scope ε) elt ifs target ok (fun acc σ' => P .next (upd ε y (.ref σ'.length)) (σ' ++ [acc])) items [] σ₁)
    (hs : ∀ env x, foldedSetIterable iter env x = pure x := by intros; rfl) : Ex1 B d κ ε σ (.Assign [.Name y py] (.ListComp elt [⟨target, iter, ifs, 0⟩] scope pos) spos) P := by
  intro A g env s Q hA hI hp hR hO hQ
  have hst : assignEach [.Name y py] env = [(false, assign (.Name y py) env)] := rfl
  rw [arm_exec_Assign, hst]
  have hsw : swapsWithSole [.Name y py] (.ListComp elt [⟨target, iter, ifs, 0⟩] scope pos) spos.line env = pure (env.blockKind == .function && env.kindOf y == some .local && py.line == pos.line
      && !(scope.names.any fun (n, k) => n == y && (k == .local || k == .cell))) := rfl
  rw [hsw]
  refine wpAny_bind (wpAny_standAt (wpAny_bind (wpAny_pure ?_)))
  generalize (env.blockKind == .function && env.kindOf y == some .local && py.line == pos.line && !(scope.names.any fun (n, k) => n == y && (k == .local || k == .cell))) = b
  cases b with
  | false =>
    simp only [Bool.false_eq_true, if_false]
    refine wpAny_bind (ev_comp (P := fun p σ' => P .next (upd ε y p) σ') S htn h hs A g env s _ hA hI hp hR fun p σ₁ v g₁ h₁ t₁ H l₁ I₁ k₁ r₁ => ?_)
    have hw : swappedStores [.Name y py] (.ListComp elt [⟨target, iter, ifs, 0⟩] scope pos) env = pure none := rfl
    rw [hw]
    refine wpAny_bind (wpAny_pure ?_)
    show wpAny (model B.prog B.w) A (assign (.Name y py) env v >>= fun _ => pure Flow.next) Q Nay _
    refine wpAny_bind (as_name (P := fun ε' σ' => P .next ε' σ') hy H A g₁ env _ v _ hA I₁ (hp.keep k₁) (hR.keep l₁ k₁) hO r₁ fun ε' σ' g' h' tk' H₂ l I k R => ?_)
    exact wpAny_pure (hQ .next ε' σ' .next g' h' tk' H₂ (l₁.trans l) I (k₁.toE.trans k) R rfl)
  | true =>
    rw [if_pos rfl]
    obtain ⟨cl, hclos, c1, c2, c3⟩ := closureFor_ex env scope fun x hx => by
      obtain ⟨c, ov, hc, _⟩ := hR.cells x (S.free _ hx rfl)
      exact ⟨c, hc⟩
    show wpAny (model B.prog B.w) A ((do let _ ← comprehension (.ListComp elt [⟨target, iter, ifs, 0⟩] scope pos) scope env (firstIterPos [⟨target, iter, ifs, 0⟩] pos) (newList []) (firstAsync [⟨target, iter, ifs, 0⟩]) (firstIter [⟨target, iter, ifs, 0⟩] env) (some fun v => assignAll v [assign (.Name y py) env])) >>= fun _ => pure Flow.next) Q Nay s
    refine wpAny_bind (wpAny_bind (wpAny_mono (wpAny_comprehension_free (Q := fun _ s' => Q .next s') (use := some fun v => assignAll v [assign (.Name y py) env]) rfl (hs env) hclos S.kind (fun x hx hl => lookup_mem S.nodup (by rw [← hl]; exact hx)) (h A g env s _ hA hI hp hR fun items ok σ₁ g₁ h₁ t₁ I wr St hK hok hlen l₁ I₁ k₁ W hst hwr => ?_)) (fun _ s' hq => wpAny_pure (wpAny_pure hq)) fun _ _ x => x))
    refine comp_core (s := { s with heap := h₁, toks := t₁ }) (RR := fun acc C => compPost (model B.prog B.w) A Nay (some fun v => assignAll v [assign (.Name y py) env]) (fun _ s' => Q .next s') acc C) hA I₁ (hp.keep k₁) (hR.keep l₁ k₁) S W hst hok hlen (fun b hb => ⟨(hwr b hb).1, (hwr b hb).2.2⟩) htn c1 c3 c2 (fun b hb => ⟨?_, fun y e => ?_⟩) hK
      fun acc σ' g' h' tk D C vs n m hP hal l I' Kw hDn hCn hDC hDr hCr hD rv hns => ?_
    · cases e : B.hb.get? b with
      | none => rfl
      | some o => have := (hp b o e).1; rw [(hwr b hb).2.1] at this; cases this
    · obtain ⟨_, _, ov, o, ho, _⟩ := hR.cellOff y b e
      rw [(hwr b hb).2.1] at ho; cases ho
    show wpAny (model B.prog B.w) A (assign (.Name y py) env (.ref D)) _ Nay _
    obtain ⟨I₃, r₃⟩ := I'.adopt hDr hD rv hal
    have K₃ : Keep g (g'.addL D) s.heap h' := fun a o e na => by
      obtain ⟨e1, n1⟩ := k₁ a o e na
      obtain ⟨e2, n2⟩ := Kw a o e1 n1 fun hb => by rw [(hwr a hb).2.1] at e; cases e
      have haD : a ≠ D := fun q => by rw [q] at e1; have : h₁.get? D = none := hDn; rw [this] at e1; cases e1
      refine ⟨e2, fun hm => ?_⟩
      rcases List.mem_append.mp hm with hm | hm
      · exact n2 hm
      · exact haD (List.mem_singleton.mp hm)
    have hCs : s.heap.get? C = none := none_of_new I₁ l₁ k₁ hCn
    have hLC : env.locals ≠ C := fun q => by obtain ⟨m', ⟨o, es, ep, ho, _⟩, _⟩ := hR.ns; rw [q, hCs] at ho; cases ho
    have hcC : ∀ z c, env.cells.lookup z = some c → c ≠ C := fun z c hz q => by obtain ⟨_, _, ov, o, ho, _⟩ := hR.cellOff z c hz; rw [q, hCs] at ho; cases ho
    have hCr' : C ∉ (g'.addL D).rho := fun hm => by
      rcases List.mem_append.mp hm with hm | hm
      · exact hCr hm
      · exact hDC (List.mem_singleton.mp hm).symm
    refine wpAny_assign_Name (store_name (s := { s with heap := h', toks := tk }) I₃ (hR.keep ((l₁.trans l).trans (g'.le_addL D)) K₃) hy r₃ fun h₄ t₄ I₄ R₄ k₄ => ?_)
    have hns₄ : h₄.Ns C m := hns.at' fun o e => k₄ C o hLC.symm (fun q => hcC y C q rfl) e
    refine ⟨m, hns₄, fun h'' hs'' => ?_⟩
    have off : ∀ b o, b ∉ [C] → h₄.get? b = some o → h''.get? b = some o := fun b o hb e => (hs''.2 b fun q => hb (by simp [q])).trans e
    refine hQ .next _ _ .next (g'.addL D) h'' t₄ hP ((l₁.trans l).trans (g'.le_addL D)) (I₄.turned off (ns_turn hns₄ hCr')) (fun a o e na la ca => ?_) (R₄.turned off (fun q => hLC (List.mem_singleton.mp q)) fun z c hz q => hcC z c hz (List.mem_singleton.mp q)) rfl
    obtain ⟨e1, n1⟩ := K₃ a o e na
    exact ⟨off a o (fun q => by rw [List.mem_singleton.mp q, hCs] at e; cases e) (k₄ a o la (ca y) e1), n1⟩

/-- a def of the top -/
structure DefAt (B : Base) (name : Str) (params : Arguments) (body : List Stmt) (scope : Scope) (a : Addr) : Prop where
  mg : B.mg name = some (.ref a)
  obj : ∃ o pm code doc, B.hb.get? a = some o ∧ o.data = .func (Calls.docDef name params body scope pm code doc) ∧ B.hb.CodeRec code name

theorem DefAt.callee {name : Str} {params : Arguments} {body : List Stmt} {scope : Scope} {a : Addr} (D : DefAt B name params body scope a) : Callee B name (.ref a) := let ⟨_, _, _, _, ho, hd, _⟩ := D.obj; .fn D.mg ho hd

noncomputable def bindE (binds : List (Str × PV)) : PEnv := binds.foldl (fun ε x => upd ε x.1 x.2) fun _ => none

theorem bindE_run {κ : Str → Option NameKind} {g : Gh} : ∀ {binds : List (Str × PV)} {vs : List Value} {ε : PEnv} {mL mC : Str → Option Value}, VRels g (binds.map (·.2)) vs → (∀ x ∈ binds, κ x.1 = some .local ∨ κ x.1 = some .cell) →
    (∀ x p, ε x = some p → κ x = some .local → ∃ v, mL x = some v ∧ VRel g p v) → (∀ x p, ε x = some p → κ x = some .cell → ∃ v, mC x = some v ∧ VRel g p v) → (∀ x p, ε x = some p → κ x = some .local ∨ κ x = some .cell) →
    (∀ x p, (binds.foldl (fun ε x => upd ε x.1 x.2) ε) x = some p → κ x = some .local → ∃ v, bindL κ ((binds.map (·.1)).zip vs) mL x = some v ∧ VRel g p v) ∧
    (∀ x p, (binds.foldl (fun ε x => upd ε x.1 x.2) ε) x = some p → κ x = some .cell → ∃ v, bindC κ ((binds.map (·.1)).zip vs) mC x = some v ∧ VRel g p v) ∧
    (∀ x p, (binds.foldl (fun ε x => upd ε x.1 x.2) ε) x = some p → κ x = some .local ∨ κ x = some .cell)
  | [], vs, ε, mL, mC, hv, hk, h1, h2, h3 => ⟨fun x p hx hl => h1 x p hx hl, fun x p hx hl => h2 x p hx hl, h3⟩
  | (n, q) :: r, vs, ε, mL, mC, hv, hk, h1, h2, h3 => by
    simp only [List.map_cons, VRels] at hv
    obtain ⟨v, vs, rfl, hq, hr⟩ := hv
    have hkn := hk (n, q) (.head _)
    simp only [List.foldl_cons, List.map_cons, List.zip_cons_cons]
    unfold bindL bindC
    refine bindE_run hr (fun x hx => hk x (.tail _ hx)) (fun x p hx hl => ?_) (fun x p hx hl => ?_) fun x p hx => ?_
    · unfold upd at hx
      try dsimp only at hx
      by_cases hxn : x = n
      · rw [if_pos hxn] at hx; cases hx
        subst hxn
        rw [if_pos hl]
        exact ⟨v, by simp, hq⟩
      · rw [if_neg hxn] at hx
        obtain ⟨w, e, rw'⟩ := h1 x p hx hl
        split
        · exact ⟨w, by simp [hxn, e], rw'⟩
        · exact ⟨w, e, rw'⟩
    · unfold upd at hx
      try dsimp only at hx
      by_cases hxn : x = n
      · rw [if_pos hxn] at hx; cases hx
        subst hxn
        rw [if_neg (by rw [hl]; simp)]
        exact ⟨v, by simp, hq⟩
      · rw [if_neg hxn] at hx
        obtain ⟨w, e, rw'⟩ := h2 x p hx hl
        split
        · exact ⟨w, e, rw'⟩
        · exact ⟨w, by simp [hxn, e], rw'⟩
    · unfold upd at hx
      try dsimp only at hx
      by_cases hxn : x = n
      · rw [hxn]; exact hkn
      · rw [if_neg hxn] at hx; exact h3 x p hx

structure DefScope (scope : Scope) : Prop where
  kind : scope.kind = .function
  nogen : scope.isGenerator = false
  noco : scope.isCoroutine = false
  nofree : ∀ x ∈ scope.names, x.2 ≠ .free

theorem zip_snd {α β : Type} : ∀ {l : List α} {r : List β}, l.length = r.length → (l.zip r).map (·.2) = r
  | [], [], _ => rfl
  | a :: l, b :: r, h => by simp only [List.zip_cons_cons, List.map_cons]; rw [zip_snd (by simpa using h)]
  | [], _ :: _, h => by simp at h
  | _ :: _, [], h => by simp at h
theorem zip_fst {α β : Type} : ∀ {l : List α} {r : List β}, l.length = r.length → (l.zip r).map (·.1) = l
  | [], [], _ => rfl
  | a :: l, b :: r, h => by simp only [List.zip_cons_cons, List.map_cons]; rw [zip_fst (by simpa using h)]
  | [], _ :: _, h => by simp at h
  | _ :: _, [], h => by simp at h

/-- a call of a def: its body on the arguments -/
theorem call_def {name : Str} {params : Arguments} {body : List Stmt} {scope : Scope} {a : Addr} {names : List Str} {ps : List PV} {P : VPost} (D : DefAt B name params body scope a) (S : DefScope scope)
    (hk' : (names.all fun x => scope.names.lookup x == some .local || scope.names.lookup x == some .cell) = true)
    (hb' : ∀ pm code doc vs, vs.length = names.length → bindArgs (Calls.docDef name params body scope pm code doc) ⟨vs, []⟩ = pure (names.zip vs)) (hl : names.length = ps.length)
    (h : Ex B d (kapOf scope) (bindE (names.zip ps)) σ body fun fl _ σ' => ∃ p, (fl = .ret p ∨ (fl = .next ∧ p = .none)) ∧ P p σ') : CallV B (d + 1) (.ref a) ps σ P := by
  have hk : ∀ x ∈ names.zip ps, scope.names.lookup x.1 = some .local ∨ scope.names.lookup x.1 = some .cell := fun x hx => by
    have := List.all_eq_true.mp hk' x.1 (List.of_mem_zip hx).1
    simpa using this
  have hb : ∀ pm code doc vs, vs.length = (names.zip ps).length → bindArgs (Calls.docDef name params body scope pm code doc) ⟨vs, []⟩ = pure (((names.zip ps).map (·.1)).zip vs) := fun pm code doc vs hv => by
    rw [zip_fst hl]
    exact hb' pm code doc vs (by rw [hv, List.length_zip]; omega)
  rw [← zip_snd hl]
  generalize names.zip ps = binds at hk hb h ⊢
  intro A g s vs Q hA hI hp hv hQ
  obtain ⟨o, pm, code, doc, ho, hd, hcd⟩ := D.obj
  have hvl : vs.length = binds.length := by rw [hv.length, List.length_map]
  refine wpAny_call (codeAny_call_cells (fd := Calls.docDef name params body scope pm code doc) (binds := (binds.map (·.1)).zip vs) hA.room (hp.keeps _ _ ho) hd (B.top.nolimit.keeps hp.keeps) (hcd.keeps hp.keeps) rfl (hb pm code doc vs hvl) rfl ?_ ?_ S.noco S.nogen S.kind)
  · intro x hx
    have hx1 : x.1 ∈ binds.map (·.1) := (List.of_mem_zip hx).1
    obtain ⟨y, hy, hyx⟩ := List.mem_map.mp hx1
    rcases hk y hy with e | e
    · left; rw [← hyx]; exact e
    · right
      refine ⟨by rw [← hyx]; exact e, ?_⟩
      rw [cellsFrom_lookup]
      obtain ⟨c, hc⟩ := newAddr_some (n := s.heap.objs.size + 1) (mem_of_lookup e)
      rw [← hyx]
      show ((newAddr y.1 (s.heap.objs.size + 1) scope.names).or _).isSome = true
      rw [hc]; rfl
  · intro s₁ hC
    have kap : ∀ x, (callEnvC (Calls.docDef name params body scope pm code doc) s.heap.objs.size a).kindOf x = kapOf scope x := fun x => rfl
    have cells : ∀ x, (callEnvC (Calls.docDef name params body scope pm code doc) s.heap.objs.size a).cells.lookup x = newAddr x (s.heap.objs.size + 1) scope.names := fun x => by
      show (cellsFrom (s.heap.objs.size + 1) scope.names []).lookup x = _
      rw [cellsFrom_lookup]
      simp
    obtain ⟨h₁, t₁, rfl⟩ := hC.toInCall.same
    have keep := hC.toInCall.keep
    have fresh : ∀ c, s.heap.objs.size ≤ c → s.heap.get? c = none := fun c hc => Heap.get?_none_of_le hc
    have off : ∀ c, s.heap.objs.size ≤ c → c ∉ g.rho := fun c hc => hI.off (fresh c hc)
    obtain ⟨b1, b2, b3⟩ := bindE_run (κ := kapOf scope) (g := g) (binds := binds) (vs := vs) (ε := fun _ => none) (mL := fun _ => none) (mC := fun _ => none) hv hk (fun x p hx => nomatch hx) (fun x p hx => nomatch hx) (fun x p hx => nomatch hx)
    have R : EnvRel (kapOf scope) (callEnvC (Calls.docDef name params body scope pm code doc) s.heap.objs.size a) (bindE binds) g h₁ := by
      refine ⟨S.kind, rfl, rfl, kap, ⟨_, hC.toInCall.ns, b1⟩, fun x hx => ?_, off _ (Nat.le_refl _), fun x c hc => ?_, fun x y c hx hy => ?_, fun x p hx => (b3 x p hx).imp id .inl⟩
      · have hxc : scope.names.lookup x = some .cell := by
          rcases hx with hx | hx
          · exact hx
          · exact absurd rfl (S.nofree _ (mem_of_lookup hx))
        obtain ⟨c, hc⟩ := newAddr_some (n := s.heap.objs.size + 1) (mem_of_lookup hxc)
        have hc' := (cells x).trans hc
        exact ⟨c, _, hc', hC.cell x c hc', fun p hp => b2 x p hp hxc⟩
      · have := hC.above x c (mem_of_lookup hc)
        have hlt : s.heap.objs.size < c := this
        exact ⟨off c (Nat.le_of_lt hlt), Ne.symm (Nat.ne_of_lt hlt), _, hC.cell x c hc⟩
      · rw [cells] at hx hy
        exact newAddr_inj hx hy
    have O : EnvOff B (callEnvC (Calls.docDef name params body scope pm code doc) s.heap.objs.size a) := by
      refine ⟨?_, fun x c hc => ?_⟩
      · cases e : B.hb.get? (callEnvC (Calls.docDef name params body scope pm code doc) s.heap.objs.size a).locals with
        | none => rfl
        | some o => have := hp.keeps _ _ e; rw [show s.heap.get? (callEnvC (Calls.docDef name params body scope pm code doc) s.heap.objs.size a).locals = none from fresh _ (Nat.le_refl _)] at this; cases this
      · cases e : B.hb.get? c with
        | none => rfl
        | some o =>
          have hlt : s.heap.objs.size < c := hC.above x c (mem_of_lookup hc)
          have := hp.keeps _ _ e; rw [fresh c (Nat.le_of_lt hlt)] at this; cases this
    refine noted_nay (env := envK scope) (h (A.deeper _) g _ { s with heap := h₁, toks := t₁ } _ (hA.deeper S.nogen S.noco rfl rfl) (hI.grow keep) (fun x o e => ⟨keep _ _ (hp x o e).1, (hp x o e).2⟩) R O fun fl ε' σ' f g' h' tk' H l I k R' r => ?_)
    obtain ⟨p, hfl, hP⟩ := H
    have fin : ∀ v, VRel g' p v → Q v { s with heap := h', toks := tk' } := fun v hv' => by
      refine hQ p σ' v g' h' tk' hP l I (fun b o e nb => ?_) hv'
      have hlt := Heap.lt_size e
      refine k b o (keep b o e) nb (Nat.ne_of_lt hlt) fun y hy => ?_
      have : s.heap.objs.size < b := hC.above y b (mem_of_lookup hy)
      exact absurd this (Nat.not_lt.mpr (Nat.le_of_lt hlt))
    rcases hfl with rfl | ⟨rfl, rfl⟩
    · obtain ⟨v, rfl, hv'⟩ := r
      exact fin v hv'
    · cases r
      exact fin .none (by simp [VRel])
end
end Mine
end

section
open PySem PySem.W PyProof.Rows
set_option maxRecDepth 100000
namespace Mine
section
variable {B : Base} {d : Nat} {κ : Str → Option NameKind} {ε : PEnv} {σ : Store}

theorem ev_neg {e : Expr} {pos : Pos} {P : VPost} (h : Ev B d κ ε σ e fun p σ₁ => ∃ a, p = .int a ∧ P (.int (-a)) σ₁) : Ev B d κ ε σ (.UnaryOp .USub e pos) P := by
  intro A g env s Q hA hI hp hR hQ
  refine UnaryOp_ (h A g env s _ hA hI hp hR fun p σ₁ v g₁ h₁ t₁ H l₁ I₁ k₁ r₁ => ?_)
  obtain ⟨a, rfl, hP⟩ := H
  simp only [VRel] at r₁
  obtain ⟨t, rfl⟩ := r₁
  exact PyProof.Rows.neg_int ((hQ.step (tk := t₁) l₁ k₁).now (s := { s with heap := h₁, toks := t₁ }) (tk := t₁ + 1) I₁ hP (by simp [VRel]))

/-- list(range(n)) -/
theorem ev_list_range {ln rn : Str} {lp rp pos pos' : Pos} {e : Expr} {P : VPost} (L : Callee B ln (.type "list")) (F : Callee B rn (.type "range")) (hkl : κ ln = some .globalImplicit) (hk : κ rn = some .globalImplicit)
    (h : Evs B d κ ε σ [e] fun ps σ' => ∃ n : Nat, ps = [.int n] ∧ n ≤ 4096 ∧ P (.ref σ'.length) (σ' ++ [rangeP 0 n])) (hd : (rn == ("__debug__" : Str)) = false := by decide) (hdl : (ln == ("__debug__" : Str)) = false := by decide)
    (he : ∀ env, starEach [e] env = (false, eval e env) :: starEach [] env := by intros; rfl)
    (he' : ∀ env, starEach [.Call (.Name rn rp) [e] [] pos'] env = (false, eval (.Call (.Name rn rp) [e] [] pos') env) :: starEach [] env := by intros; rfl) : Ev B d κ ε σ (.Call (.Name ln lp) [.Call (.Name rn rp) [e] [] pos'] [] pos) P := by
  intro A g env s Q hA hI hp hR hQ
  refine Call_Name rfl (load_callee L hkl hp hR ?_ hdl)
  refine callWith_callee L ?_ (he' env) rfl
  rw [he' env]
  show wpAny _ _ (spliced ((false, eval (.Call (.Name rn rp) [e] [] pos') env) :: backTo pos (starEach [] env))) _ _ _
  refine Calls.spliced_cons ?_
  refine Call_Name rfl (load_callee F hk hp hR ?_ hd)
  refine callWith_callee F (h A g env pos' s _ hA hI hp hR fun ps σ₁ vs g₁ h₁ t₁ H l₁ I₁ k₁ r₁ => ⟨(hp.keep k₁).keeps, ?_⟩) (he env) rfl
  obtain ⟨n, rfl, hn, hP⟩ := H
  simp only [VRels, VRel] at r₁
  obtain ⟨v, _, rfl, ⟨t, rfl⟩, rfl⟩ := r₁
  refine call_range_1 ?_
  refine Calls.spliced_nil ?_
  have hz : Builtin.Range.rangeSize 0 (n : Int) 1 = (n : Int) := by rw [rangeSize_one]; split <;> omega
  have k1 : ∀ b o, h₁.get? b = some o → (h₁.push { cls := .type "range", data := .fields #[.int 0 t₁, .int n t, .int 1 (t₁ + 1)] }).get? b = some o := fun b o e => Heap.get?_push_of_some _ e
  refine ⟨fun a o e => k1 _ _ ((hp.keep k₁).keeps a o e), ?_⟩
  refine call_list_range (n := n) hA.handled (IsRange.new ..) (small_one (by omega) (by omega) (by omega) (by omega)) hz (by omega) fun h' tk acc' c' hk' hD hacc => ?_
  have hx : ∀ b o, h₁.get? b = some o → h'.get? b = some o := fun b o e => hk' b o (k1 b o e)
  have hnew : h₁.get? (h₁.push { cls := .type "range", data := .fields #[.int 0 t₁, .int n t, .int 1 (t₁ + 1)] }).objs.size = none := Heap.get?_none_of_le (by rw [Heap.size_push]; exact Nat.le_succ _)
  have hv : VRels g₁ (rangeP 0 n) acc'.toList := by
    obtain ⟨hs, hi⟩ := hacc
    refine VRels.of_get (by simp [rangeP, hs]) fun i p w h1 h2 => ?_
    obtain ⟨hlt, rfl⟩ := rangeP_get h1
    have hw : acc'[i]? = some w := by simpa using h2
    obtain ⟨u, hu⟩ := hi i w hw
    subst hu
    simp only [VRel]
    exact ⟨u, by simp⟩
  obtain ⟨I₂, k₂, r₂⟩ := I₁.newL (h' := h') (vs := acc'.toList) (n := c') hx hnew (by simpa using hD) hv (by simp [rangeP]; exact hn)
  exact hQ _ _ _ _ _ tk hP (l₁.trans (g₁.le_addL _)) I₂ (k₁.trans k₂) r₂

/-- a tuple stored to targets that are not all plain locals -/
theorem ex_assignT {sc : Scope} {t value : Expr} {pos : Pos} {P : SPost} (hκ : κ = kapOf sc) (hsc : sc.kind = .function) (hw : swappedStores [t] value (envK sc) = pure none)
    (h : Ev B d κ ε σ value fun p σ₁ => As B d κ ε σ₁ t p fun ε' σ' => P .next ε' σ')
    (hs : ∀ env, swapsWithSole [t] value pos.line env = pure false := by intros; rfl)
    (hst : ∀ env, assignEach [t] env = [(false, assign t env)] := by intros; rfl) : Ex1 B d κ ε σ (.Assign [t] value pos) P := by
  intro A g env s Q hA hI hp hR hO hQ
  rw [arm_exec_Assign, hs env, hst env]
  refine wpAny_bind (wpAny_standAt (wpAny_bind (wpAny_pure ?_)))
  simp only [Bool.false_eq_true, if_false]
  refine wpAny_bind (h A g env s _ hA hI hp hR fun p σ₁ v g₁ h₁ t₁ H l₁ I₁ k₁ r₁ => ?_)
  rw [swapped_congr (env := env) (env' := envK sc) (fun x => by rw [hR.kap x, hκ]; rfl) (by unfold Env.blockKind; rw [hR.kind, show (envK sc).scope.kind = .function from hsc]), hw]
  refine wpAny_bind (wpAny_pure ?_)
  show wpAny (model B.prog B.w) A (assign t env v >>= fun _ => pure Flow.next) Q Nay _
  refine wpAny_bind (H A g₁ env _ v _ hA I₁ (hp.keep k₁) (hR.keep l₁ k₁) hO r₁ fun ε' σ' g' h' tk' H₂ l I k R => ?_)
  exact wpAny_pure (hQ .next ε' σ' .next g' h' tk' H₂ (l₁.trans l) I (k₁.toE.trans k) R rfl)

/-- what is kept -/
noncomputable def Ext (σ σ' : Store) : Prop := ∀ (r : Nat) l, σ[r]? = some l → σ'[r]? = some l
theorem Ext.refl (σ : Store) : Ext σ σ := fun _ _ h => h
theorem Ext.trans {a b c : Store} (h : Ext a b) (h' : Ext b c) : Ext a c := fun r l e => h' r l (h r l e)
theorem Ext.app (σ : Store) (l : List PV) : Ext σ (σ ++ [l]) := fun r l' e => by rw [List.getElem?_append_left (List.getElem?_eq_some_iff.mp e).1]; exact e
theorem Ext.len {σ σ' : Store} (h : Ext σ σ') : σ.length ≤ σ'.length := by
  rcases Nat.lt_or_ge σ'.length σ.length with hl | hl
  · have := h _ _ (List.getElem?_eq_getElem hl)
    rw [List.getElem?_eq_none (Nat.le_refl _)] at this
    cases this
  · exact hl
theorem Ext.set {σ σ' : Store} (h : Ext σ σ') {r : Nat} (hr : σ.length ≤ r) (l : List PV) : Ext σ (σ'.set r l) := fun k l' e => by
  have hk := (List.getElem?_eq_some_iff.mp e).1
  rw [List.getElem?_set_ne (by omega)]
  exact h k l' e
theorem app_get (σ : Store) (l : List PV) : (σ ++ [l])[σ.length]? = some l := by simp
theorem len_app (σ : Store) (l : List PV) : (σ ++ [l]).length = σ.length + 1 := by simp

theorem forL_ind {target : Expr} {body : List Stmt} {ok : Store → Prop} {P : SPost} {items : List PV} (I : Nat → PEnv → Store → Prop) (h0 : I 0 ε σ)
    (step : ∀ (i : Nat) p ε σ, items[i]? = some p → I i ε σ → ∃ ε₁, BindT κ target p ε ε₁ ∧ Ex B d κ ε₁ σ body fun fl ε' σ' => (fl = .next ∨ fl = .cont) ∧ ok σ' ∧ I (i + 1) ε' σ')
    (fin : ∀ ε σ, I items.length ε σ → P .next ε σ) : ForL B d κ target body ok P items ε σ := by
  suffices ∀ (l : List PV) (k : Nat) ε σ, items.drop k = l → k ≤ items.length → I k ε σ → ForL B d κ target body ok P l ε σ from this items 0 ε σ rfl (Nat.zero_le _) h0
  intro l
  induction l with
  | nil =>
    intro k ε σ hk hkl hI
    have : items.length ≤ k := by
      have := congrArg List.length hk
      simp at this
      omega
    rw [show k = items.length by omega] at hI
    exact fin ε σ hI
  | cons p l ih =>
    intro k ε σ hk hkl hI
    have hp : items[k]? = some p := by
      have := congrArg (fun x => x[0]?) hk
      simpa using this
    have hlt := (List.getElem?_eq_some_iff.mp hp).1
    obtain ⟨ε₁, hb, hx⟩ := step k p ε σ hp hI
    refine ⟨ε₁, hb, hx.mono fun fl ε' σ' ⟨a, b, c⟩ => ⟨a, b, ih (k + 1) ε' σ' ?_ hlt c⟩⟩
    rw [List.drop_eq_getElem_cons hlt] at hk
    exact (List.cons.inj hk).2

theorem compL_ind {elt target : Expr} {εf : PEnv} {ok : Store → Prop} {P : List PV → Store → Prop} {items : List PV} (I : Nat → List PV → Store → Prop) (h0 : I 0 [] σ)
    (step : ∀ (i : Nat) p acc σ, items[i]? = some p → I i acc σ → ∃ ε₁, BindT κ target p εf ε₁ ∧ Ev B d κ ε₁ σ elt fun q σ' => ok σ' ∧ I (i + 1) (acc ++ [q]) σ')
    (fin : ∀ acc σ, I items.length acc σ → P acc σ) : CompL B d κ εf elt [] target ok P items [] σ := by
  suffices ∀ (l : List PV) (k : Nat) acc σ, items.drop k = l → k ≤ items.length → I k acc σ → CompL B d κ εf elt [] target ok P l acc σ from this items 0 [] σ rfl (Nat.zero_le _) h0
  intro l
  induction l with
  | nil =>
    intro k acc σ hk hkl hI
    have : items.length ≤ k := by
      have := congrArg List.length hk
      simp at this
      omega
    rw [show k = items.length by omega] at hI
    exact fin acc σ hI
  | cons p l ih =>
    intro k acc σ hk hkl hI
    have hp : items[k]? = some p := by
      have := congrArg (fun x => x[0]?) hk
      simpa using this
    have hlt := (List.getElem?_eq_some_iff.mp hp).1
    obtain ⟨ε₁, hb, hx⟩ := step k p acc σ hp hI
    refine ⟨ε₁, hb, hx.mono fun q σ' ⟨b, c⟩ => ⟨b, ih (k + 1) _ σ' ?_ hlt c⟩⟩
    rw [List.drop_eq_getElem_cons hlt] at hk
    exact (List.cons.inj hk).2

theorem rmap_get {α : Type} {n i : Nat} {f : Nat → α} {p : α} (h : ((List.range n).map f)[i]? = some p) : i < n ∧ p = f i := by
  have hi : i < n := by simpa using (List.getElem?_eq_some_iff.mp h).1
  refine ⟨hi, ?_⟩
  simp [hi] at h
  exact h.symm
theorem rmap_some {α : Type} {n i : Nat} {f : Nat → α} (h : i < n) : ((List.range n).map f)[i]? = some (f i) := by simp [h]
theorem range_snoc {α : Type} (f : Nat → α) (n : Nat) : (List.range (n + 1)).map f = (List.range n).map f ++ [f n] := by simp [List.range_succ]

/-- a row of plain values -/
theorem compL_row {elt target : Expr} {εf : PEnv} {ok : Store → Prop} {P : List PV → Store → Prop} {items : List PV} {n : Nat} (go : Nat → PV) (hn : items.length = n) (hok : ∀ σ', Ext σ σ' → ok σ')
    (h : ∀ (i : Nat) p σ₁, items[i]? = some p → i < n → Ext σ σ₁ → ∃ ε₁, BindT κ target p εf ε₁ ∧ ∀ K : VPost, (∀ σ', Ext σ₁ σ' → K (go i) σ') → Ev B d κ ε₁ σ₁ elt K)
    (fin : ∀ σ', Ext σ σ' → P ((List.range n).map go) σ') : CompL B d κ εf elt [] target ok P items [] σ := by
  subst hn
  refine compL_ind (fun i acc σ' => acc = (List.range i).map go ∧ Ext σ σ') ⟨rfl, .refl _⟩ ?_ fun acc σ' ⟨e, x⟩ => e ▸ fin σ' x
  rintro i p acc σ₁ hp ⟨rfl, x⟩
  obtain ⟨ε₁, hb, hK⟩ := h i p σ₁ hp (List.getElem?_eq_some_iff.mp hp).1 x
  exact ⟨ε₁, hb, hK _ fun σ' x' => ⟨hok _ (x.trans x'), (range_snoc go i).symm, x.trans x'⟩⟩

/-- a table: a list of lists, rows apart from one another and from the table -/
structure TabAt (σ : Store) (r : Nat) (rs : List PV) (n : Nat) (rw : Nat → List PV) : Prop where
  tab : σ[r]? = some rs
  len : rs.length = n
  row : ∀ (i : Nat) q, rs[i]? = some q → ∃ r', q = .ref r' ∧ r' ≠ r ∧ σ[r']? = some (rw i)
noncomputable def Tab (σ : Store) (p : PV) (n : Nat) (rw : Nat → List PV) : Prop := ∃ r rs, p = .ref r ∧ TabAt σ r rs n rw
theorem TabAt.ext {σ σ' : Store} {r : Nat} {rs : List PV} {n : Nat} {rw : Nat → List PV} (h : TabAt σ r rs n rw) (x : Ext σ σ') : TabAt σ' r rs n rw :=
  ⟨x _ _ h.tab, h.len, fun i q e => let ⟨r', a, b, c⟩ := h.row i q e; ⟨r', a, b, x _ _ c⟩⟩
theorem Tab.ext {σ σ' : Store} {p : PV} {n : Nat} {rw : Nat → List PV} (h : Tab σ p n rw) (x : Ext σ σ') : Tab σ' p n rw := let ⟨r, rs, e, t⟩ := h; ⟨r, rs, e, t.ext x⟩
theorem TabAt.get {σ : Store} {r : Nat} {rs : List PV} {n : Nat} {rw : Nat → List PV} (h : TabAt σ r rs n rw) {i : Nat} (hi : i < n) : ∃ r', rs[i]? = some (.ref r') ∧ r' ≠ r ∧ σ[r']? = some (rw i) := by
  have hl : i < rs.length := by rw [h.len]; exact hi
  obtain ⟨r', a, b, c⟩ := h.row i rs[i] (by simp [hl])
  exact ⟨r', by rw [← a]; simp [hl], b, c⟩
/-- the rows are one list each, and new -/
structure Apart (σ : Store) (rs : List PV) : Prop where
  nd : rs.Nodup
  own : ∀ q ∈ rs, ∃ r', q = .ref r' ∧ σ.length ≤ r'

theorem compL_tab {elt target : Expr} {εf : PEnv} {ok : Store → Prop} {P : List PV → Store → Prop} {items : List PV} {n : Nat} (go : Nat → List PV) (hn : items.length = n) (hok : ∀ σ', Ext σ σ' → ok σ')
    (h : ∀ (i : Nat) p σ₁, items[i]? = some p → i < n → Ext σ σ₁ → ∃ ε₁, BindT κ target p εf ε₁ ∧ ∀ K : VPost, (∀ r σ', Ext σ₁ σ' → σ₁.length ≤ r → σ'[r]? = some (go i) → K (.ref r) σ') → Ev B d κ ε₁ σ₁ elt K)
    (fin : ∀ acc σ', Ext σ σ' → Apart σ acc → TabAt (σ' ++ [acc]) σ'.length acc n go → P acc σ') : CompL B d κ εf elt [] target ok P items [] σ := by
  subst hn
  refine compL_ind (fun i acc σ' => acc.length = i ∧ acc.Nodup ∧ (∀ (k : Nat) q, acc[k]? = some q → ∃ r', q = .ref r' ∧ σ'[r']? = some (go k) ∧ σ.length ≤ r') ∧ Ext σ σ') ⟨rfl, List.nodup_nil, (fun k q e => nomatch e), .refl _⟩ ?_ fun acc σ' ⟨e, nd, hr, x⟩ => fin acc σ' x ⟨nd, fun q hq => ?_⟩ ?_
  · rintro i p acc σ₁ hp ⟨rfl, nd, hr, x⟩
    obtain ⟨ε₁, hb, hK⟩ := h _ p σ₁ hp (List.getElem?_eq_some_iff.mp hp).1 x
    refine ⟨ε₁, hb, hK _ fun r σ' x' hl hr' => ⟨hok _ (x.trans x'), by simp, ?_, fun k q e => ?_, x.trans x'⟩⟩
    · rw [List.nodup_append]
      refine ⟨nd, by simp, fun a ha b hb' => ?_⟩
      rw [List.mem_singleton.mp hb']
      rintro rfl
      obtain ⟨k, hk⟩ := List.getElem?_of_mem ha
      obtain ⟨r', e, e', _⟩ := hr k _ hk
      cases e
      have := (List.getElem?_eq_some_iff.mp e').1
      omega
    · rcases Nat.lt_or_ge k acc.length with hk | hk
      · rw [List.getElem?_append_left hk] at e
        obtain ⟨r', a, b, c⟩ := hr k q e
        exact ⟨r', a, x' _ _ b, c⟩
      · have hk' : k = acc.length := by
          have := (List.getElem?_eq_some_iff.mp e).1
          simp at this
          omega
        subst hk'
        simp at e
        exact ⟨r, e.symm, hr', Nat.le_trans x.len hl⟩
  · obtain ⟨k, hk⟩ := List.getElem?_of_mem hq
    obtain ⟨r', a, _, c⟩ := hr k q hk
    exact ⟨r', a, c⟩
  · refine ⟨app_get _ _, e, fun k q hq => ?_⟩
    obtain ⟨r', a, b, _⟩ := hr k q hq
    have := (List.getElem?_eq_some_iff.mp b).1
    exact ⟨r', a, by omega, Ext.app _ _ _ _ b⟩

/-- what a filter lets through -/
noncomputable def sel (t : Nat → Bool) (go : Nat → PV) : Nat → List PV
  | 0 => []
  | n + 1 => if t n then sel t go n ++ [go n] else sel t go n
theorem compL_sel {elt c target : Expr} {εf : PEnv} {ok : Store → Prop} {P : List PV → Store → Prop} {items : List PV} {n : Nat} (t : Nat → Bool) (go : Nat → PV) (hn : items.length = n) (hok : ∀ σ', Ext σ σ' → ok σ')
    (h : ∀ (i : Nat) p σ₁, items[i]? = some p → i < n → Ext σ σ₁ → ∃ ε₁, BindT κ target p εf ε₁ ∧ (∀ K : Bool → Store → Prop, (∀ σ', Ext σ₁ σ' → K (t i) σ') → Tst B d κ ε₁ σ₁ c K) ∧ ∀ (σ₂ : Store) (K : VPost), Ext σ₁ σ₂ → t i = true → (∀ σ', Ext σ₂ σ' → K (go i) σ') → Ev B d κ ε₁ σ₂ elt K)
    (fin : ∀ σ', Ext σ σ' → P (sel t go n) σ') : CompL B d κ εf elt [c] target ok P items [] σ := by
  subst hn
  suffices ∀ (l : List PV) (k : Nat) σ₁, items.drop k = l → k ≤ items.length → Ext σ σ₁ → CompL B d κ εf elt [c] target ok P l (sel t go k) σ₁ from this items 0 σ rfl (Nat.zero_le _) (.refl _)
  intro l
  induction l with
  | nil =>
    intro k σ₁ hk hkl x
    have : items.length ≤ k := by
      have := congrArg List.length hk
      simp at this
      omega
    have hk : k = items.length := by omega
    subst hk
    exact fin σ₁ x
  | cons p l ih =>
    intro k σ₁ hk hkl x
    have hp : items[k]? = some p := by
      have := congrArg (fun x => x[0]?) hk
      simpa using this
    have hlt := (List.getElem?_eq_some_iff.mp hp).1
    obtain ⟨ε₁, hb, ht, he⟩ := h k p σ₁ hp hlt x
    have hd : items.drop (k + 1) = l := by
      rw [List.drop_eq_getElem_cons hlt] at hk
      exact (List.cons.inj hk).2
    refine ⟨ε₁, hb, ht _ fun σ₂ x₂ => ?_⟩
    have := ih (k + 1)
    cases hc : t k with
    | true =>
      rw [if_pos rfl]
      refine he σ₂ _ x₂ hc fun σ₃ x₃ => ⟨hok _ (x.trans (x₂.trans x₃)), ?_⟩
      have := ih (k + 1) σ₃ hd hlt (x.trans (x₂.trans x₃))
      rw [sel, hc, if_pos rfl] at this
      exact this
    | false =>
      rw [if_neg (by simp)]
      refine ⟨hok _ (x.trans x₂), ?_⟩
      have := ih (k + 1) σ₂ hd hlt (x.trans x₂)
      rw [sel, hc, if_neg (by simp)] at this
      exact this
end
end Mine
end

section
open PySem PySem.W PyProof.Rows
set_option maxRecDepth 100000
namespace Mine
theorem len1 {P : List Value → Prop} (h : ∀ u, P [u]) (vs : List Value) (hl : vs.length = 1) : P vs := by
  obtain ⟨u, rfl⟩ := List.length_eq_one_iff.mp hl
  exact h u
theorem len2 {P : List Value → Prop} (h : ∀ u v, P [u, v]) (vs : List Value) (hl : vs.length = 2) : P vs := by
  cases vs with
  | nil => cases hl
  | cons u r => exact len1 (P := fun r => P (u :: r)) (h u) r (Nat.succ.inj hl)
theorem len3 {P : List Value → Prop} (h : ∀ u v w, P [u, v, w]) (vs : List Value) (hl : vs.length = 3) : P vs := by
  cases vs with
  | nil => cases hl
  | cons u r => exact len2 (P := fun r => P (u :: r)) (h u) r (Nat.succ.inj hl)
theorem len4 {P : List Value → Prop} (h : ∀ u v w z, P [u, v, w, z]) (vs : List Value) (hl : vs.length = 4) : P vs := by
  cases vs with
  | nil => cases hl
  | cons u r => exact len3 (P := fun r => P (u :: r)) (h u) r (Nat.succ.inj hl)
noncomputable def nthS : List Stmt → Nat → Stmt
  | s :: _, 0 => s
  | _ :: r, n + 1 => nthS r n
  | [], _ => .Pass ⟨0, 0, 0, 0⟩
noncomputable def fnParams : Stmt → Arguments
  | .FunctionDef _ a _ _ _ _ _ _ _ _ => a
  | _ => { posonlyargs := [], args := [], vararg := none, kwonlyargs := [], kw_defaults := [], kwarg := none, defaults := [] }
noncomputable def fnBody : Stmt → List Stmt
  | .FunctionDef _ _ b _ _ _ _ _ _ _ => b
  | _ => []
noncomputable def fnScope : Stmt → Scope
  | .FunctionDef _ _ _ _ _ _ s _ _ _ => s
  | _ => { kind := .module, names := [], isGenerator := false, isCoroutine := false, more := [] }
noncomputable def fn (k : Nat) : Stmt := nthS PySem.Challenge.pw_xm0121_01.main.body k
noncomputable def adr (B : Base) (x : Str) : Addr := match B.mg x with
  | some (.ref a) => a
  | _ => 0
abbrev DefK (B : Base) (x : Str) (k : Nat) : Prop := DefAt B x (fnParams (fn k)) (fnBody (fn k)) (fnScope (fn k)) (adr B x)

/-- what the top holds -/
structure Glob (B : Base) : Prop where
  gcd : DefK B "gcd" 3
  rat : DefK B "rat" 7
  radd : DefK B "radd" 8
  rsub : DefK B "rsub" 9
  rmul : DefK B "rmul" 10
  rdiv : DefK B "rdiv" 11
  rneg : DefK B "rneg" 12
  shape : DefK B "shape" 14
  need_shape : DefK B "need_shape" 15
  copied : DefK B "copied" 16
  from_whole : DefK B "from_whole" 17
  unit_matrix : DefK B "unit_matrix" 18
  transposed : DefK B "transposed" 19
  dot : DefK B "dot" 20
  mat_add : DefK B "mat_add" 21
  mat_scale : DefK B "mat_scale" 22
  mat_mul : DefK B "mat_mul" 23
  trace : DefK B "trace" 24
  swap_rows : DefK B "swap_rows" 25
  take_off : DefK B "take_off" 26
  echelon : DefK B "echelon" 27
  rank : DefK B "rank" 28
  inverse : DefK B "inverse" 29
  charpoly : DefK B "charpoly" 31
  draw : DefK B "_law_draw" 33
  signs : DefK B "_law_signs" 34
  told : DefK B "_law_told" 35
  part : DefK B "_law_part_right" 36
  R0 : TopTup B "R0" [.int 0, .int 1]
  R1 : TopTup B "R1" [.int 1, .int 1]
  len : Callee B "len" (.builtin "len")
  abs : Callee B "abs" (.builtin "abs")
  int : Callee B "int" (.type "int")
  list : Callee B "list" (.type "list")
  range : Callee B "range" (.type "range")
  enumerate : Callee B "enumerate" (.type "enumerate")
end Mine
end

section
open PySem PySem.W PyProof.Rows
set_option maxRecDepth 100000
set_option maxHeartbeats 4000000
namespace Mine
theorem fmod_lt {x y : Int} (hx : 0 ≤ x) (h : 0 < y) : 0 ≤ x.fmod y ∧ (x.fmod y).natAbs < y.natAbs ∧ Int.gcd y (x.fmod y) = Int.gcd x y := by
  rw [Int.fmod_eq_emod_of_nonneg _ (Int.le_of_lt h)]
  refine ⟨Int.emod_nonneg _ (by omega), ?_, ?_⟩
  · have := Int.emod_lt_of_pos x h
    have := Int.emod_nonneg x (b := y) (by omega)
    omega
  · obtain ⟨m, rfl⟩ := Int.eq_ofNat_of_zero_le hx
    obtain ⟨n, rfl⟩ := Int.eq_ofNat_of_zero_le (Int.le_of_lt h)
    show Nat.gcd n (((m : Int) % (n : Int)).natAbs) = Nat.gcd m n
    rw [show ((m : Int) % (n : Int)).natAbs = m % n from rfl, Nat.gcd_comm m n, Nat.gcd_rec n m, Nat.gcd_comm]
theorem abs_eq (x : Int) : (if x < 0 then -x else x) = (x.natAbs : Int) := by split <;> omega
theorem gcd_ok {B : Base} (G : Glob B) {d : Nat} {σ : Store} {x y : Int} {P : VPost} (h : P (.int (Int.gcd x y)) σ) : CallV B (d + 1) (.ref (adr B "gcd")) [.int x, .int y] σ P := by
  refine call_def (names := ["a", "b"]) G.gcd ⟨rfl, rfl, rfl, by decide +kernel⟩ (by decide +kernel) (fun pm code doc => len2 fun u v => rfl) rfl ?_
  refine ex_cons (ex_swap (sc := fnScope (fn 3)) (names := ["a", "b"]) rfl rfl rfl (by decide +kernel) ?_)
  refine evs_cons (ev_call G.abs rfl (evs_cons (ev_name rfl (evs_nil (call_abs ?_)))))
  refine evs_cons (ev_call G.abs rfl (evs_cons (ev_name rfl (evs_nil (call_abs ?_)))))
  refine evs_nil ⟨rfl, by decide, ?_⟩
  refine ex_cons (ex_while (fun n ε σ' => ∃ a b : Int, ε "a" = some (.int a) ∧ ε "b" = some (.int b) ∧ σ' = σ ∧ 0 ≤ a ∧ 0 ≤ b ∧ Int.gcd a b = Int.gcd x y ∧ n = b.natAbs) _ ⟨_, _, rfl, rfl, rfl, ?_, ?_, ?_, rfl⟩ ?_)
  · rw [abs_eq]; omega
  · rw [abs_eq]; omega
  · rw [abs_eq, abs_eq]; rfl
  rintro n ε _ ⟨a, b, ha, hb, rfl, h0, h1, hg, rfl⟩
  refine tst_cmp (ev_name hb (ev_int (cmp_ne ?_)))
  by_cases hz : b = 0
  · subst hz
    rw [show ((0 : Int) != 0) = false from rfl]
    refine ex_cons (ex_return (ev_name ha ⟨_, .inl rfl, ?_⟩))
    have : a = (Int.gcd x y : Int) := by rw [← hg]; simp; omega
    rw [this]; exact h
  · rw [show (b != 0) = true by simpa using hz]
    refine ex_cons (ex_swap (sc := fnScope (fn 3)) (names := ["a", "b"]) rfl rfl rfl (by decide +kernel) ?_)
    refine evs_cons (ev_name hb (evs_cons (ev_bin (ev_name ha (ev_name hb (bin_mod hz (evs_nil ⟨rfl, by decide, ?_⟩)))))))
    obtain ⟨m1, m2, m3⟩ := fmod_lt (x := a) (y := b) h0 (by omega)
    exact ex_nil ⟨_, m2, _, _, rfl, rfl, rfl, h1, m1, m3.trans hg, rfl⟩
end Mine
end

section
open PySem PySem.W PyProof.Rows
set_option maxRecDepth 100000
set_option maxHeartbeats 4000000
namespace Mine
local macro_rules | `(tactic| walk_at "sv") => `(tactic| first
  | refine ex_cons ?_
  | refine ex_return ?_
  | refine ex_assign ?_
  | refine ex_expr ?_
  | refine ex_if ?_
  | refine ev_bin ?_
  | refine ev_int ?_
  | refine ev_none ?_
  | refine ev_true ?_
  | refine ev_str ?_
  | refine ev_name (by first | rfl | assumption) ?_
  | refine evs_cons ?_
  | refine ev_tuple ?_
  | refine ev_cmp ?_
  | refine tst_cmp ?_
  | refine tst_not ?_
  | refine ev_if ?_
  | refine cmp_eq ?_
  | refine cmp_ne ?_
  | refine cmp_lt ?_
  | refine cmp_gt ?_
  | refine bin_add ?_
  | refine bin_sub ?_
  | refine as_name (by first | exact .inl rfl | exact .inr rfl) ?_)
local macro_rules | `(tactic| walk_at "go") => `(tactic| repeat walk_at "sv")


noncomputable def rq (q : Rat) : PV := .tup [.int q.num, .int (q.den : Int)]

theorem fdiv_pos {a g : Int} (h : 0 < g) : a.fdiv g = a / g := Int.fdiv_eq_ediv_of_nonneg a (Int.le_of_lt h)
theorem fdiv_neg' {a g : Int} (h : g ∣ a) : a.fdiv (-g) = (-a) / g := by
  obtain ⟨k, rfl⟩ := h
  by_cases hg : g = 0
  · subst hg; simp
  · rw [show g * k = -g * -k by rw [Int.neg_mul_neg], Int.mul_fdiv_cancel_left _ (by omega), show -(-g * -k) = g * -k by rw [Int.neg_mul, Int.neg_neg], Int.mul_ediv_cancel_left _ hg]

theorem rat_ok {B : Base} (G : Glob B) {d : Nat} {σ : Store} {x y : Int} {P : VPost} (hy : y ≠ 0) (h : P (rq (Rat.divInt x y)) σ) : CallV B (d + 2) (.ref (adr B "rat")) [.int x, .int y] σ P := by
  refine call_def (names := ["top", "bottom"]) G.rat ⟨rfl, rfl, rfl, by decide +kernel⟩ (by decide +kernel) (fun pm code doc => len2 fun u v => rfl) rfl ?_
  walk_at "go"
  rw [show (y == 0) = false by simpa using hy]
  refine ex_nil ?_
  have hg : (Int.gcd x y : Int) ≠ 0 := by
    intro e
    have := Int.gcd_eq_zero_iff.mp (Int.ofNat.inj e)
    exact hy this.2
  have hgp : 0 < (Int.gcd x y : Int) := by omega
  have d1 : (Int.gcd x y : Int) ∣ x := Int.gcd_dvd_left ..
  have d2 : (Int.gcd x y : Int) ∣ y := Int.gcd_dvd_right ..
  have hc : (y.gcd x : Int) = (x.gcd y : Int) := by rw [Int.gcd_comm]
  walk_at "go"
  by_cases hp : 0 < y
  · rw [decide_eq_true hp, if_pos rfl]
    refine ev_call G.gcd.callee rfl ?_
    walk_at "go"
    refine evs_nil (gcd_ok G ?_)
    walk_at "go"
    refine bin_div hg ?_
    walk_at "go"
    refine bin_div hg (evs_nil ⟨Nat.le_of_ble_eq_true rfl, _, .inl rfl, ?_⟩)
    have e1 : (Rat.divInt x y).num = x.fdiv (x.gcd y) := by rw [Rat.num_divInt, fdiv_pos hgp, hc, Int.sign_eq_one_of_pos hp, Int.one_mul]
    have e2 : (((Rat.divInt x y).den : Nat) : Int) = y.fdiv (x.gcd y) := by
      rw [Rat.den_divInt, if_neg hy, fdiv_pos hgp, ← hc]
      rw [Int.natCast_ediv]
      congr 1
      omega
    rw [← e1, ← e2]
    exact h
  · rw [decide_eq_false hp, if_neg (by simp)]
    walk_at "go"
    refine ev_call G.gcd.callee rfl ?_
    walk_at "go"
    refine evs_nil (gcd_ok G ?_)
    walk_at "go"
    have hn : (0 - (Int.gcd x y : Int)) = -(Int.gcd x y : Int) := by omega
    rw [hn]
    have hg' : -(Int.gcd x y : Int) ≠ 0 := by omega
    refine bin_div hg' ?_
    walk_at "go"
    refine bin_div hg' (evs_nil ⟨Nat.le_of_ble_eq_true rfl, _, .inl rfl, ?_⟩)
    have e1 : (Rat.divInt x y).num = x.fdiv (-(x.gcd y)) := by
      rw [Rat.num_divInt, fdiv_neg' d1, hc, Int.sign_eq_neg_one_of_neg (by omega)]
      congr 1
      omega
    have e2 : (((Rat.divInt x y).den : Nat) : Int) = y.fdiv (-(x.gcd y)) := by
      rw [Rat.den_divInt, if_neg hy, fdiv_neg' d2, ← hc]
      rw [Int.natCast_ediv]
      congr 1
      omega
    rw [← e1, ← e2]
    exact h
end Mine
end

section
open PySem PySem.W PyProof.Rows
set_option maxRecDepth 100000
set_option maxHeartbeats 4000000
namespace Mine
section
variable {B : Base} {d : Nat} {κ : Str → Option NameKind} {ε : PEnv} {σ : Store}
theorem ev_num {x : Str} {px pc pos : Pos} {k : Nat} {q : Rat} {P : VPost} (hx : ε x = some (rq q)) (h : P (.int q.num) σ) (hd : (x == ("__debug__" : Str)) = false := by decide) (hn : (x == ("__classdict__" : Str)) = false := by decide) :
    Ev B d κ ε σ (.Subscript (.Name x px) (.Constant (.int 0) k pc) pos) P :=
  ev_item (ev_name hx (ev_int ⟨0, _, rfl, ⟨by decide, by decide, rfl⟩, h⟩) hd hn)
theorem ev_den {x : Str} {px pc pos : Pos} {k : Nat} {q : Rat} {P : VPost} (hx : ε x = some (rq q)) (h : P (.int q.den) σ) (hd : (x == ("__debug__" : Str)) = false := by decide) (hn : (x == ("__classdict__" : Str)) = false := by decide) :
    Ev B d κ ε σ (.Subscript (.Name x px) (.Constant (.int 1) k pc) pos) P :=
  ev_item (ev_name hx (ev_int ⟨1, _, rfl, ⟨by decide, by decide, rfl⟩, h⟩) hd hn)

/-- height -/
noncomputable def Ht (k : Nat) (q : Rat) : Prop := q.num.natAbs ≤ 2 ^ k ∧ q.den ≤ 2 ^ k
theorem bits_of {a : Int} {k : Nat} (h : a.natAbs ≤ 2 ^ k) (hk : k < 2 ^ 20) : Bits a := by
  unfold Bits Builtin.Int.intBits
  split
  · omega
  · rename_i hz
    have hz' : a.natAbs ≠ 0 := by simpa using hz
    have h1 : a.natAbs < 2 ^ (k + 1) := Nat.lt_of_le_of_lt h (Nat.pow_lt_pow_right (by omega) (by omega))
    have := (Nat.log2_lt hz').mpr h1
    omega
theorem Ht.num {k : Nat} {q : Rat} (h : Ht k q) (hk : k < 2 ^ 20) : Bits q.num := bits_of h.1 hk
theorem Ht.den {k : Nat} {q : Rat} (h : Ht k q) (hk : k < 2 ^ 20) : Bits (q.den : Int) := bits_of (by simpa using h.2) hk
theorem den_ne (q : Rat) : (q.den : Int) ≠ 0 := by have := q.den_nz; omega
theorem add_divInt (p q : Rat) : Rat.divInt (p.num * q.den + q.num * p.den) (p.den * q.den) = p + q := by
  conv => rhs; rw [← Rat.num_divInt_den p, ← Rat.num_divInt_den q]
  rw [Rat.divInt_add_divInt _ _ (den_ne p) (den_ne q)]
theorem sub_divInt (p q : Rat) : Rat.divInt (p.num * q.den - q.num * p.den) (p.den * q.den) = p - q := by
  conv => rhs; rw [← Rat.num_divInt_den p, ← Rat.num_divInt_den q]
  rw [Rat.divInt_sub_divInt _ _ (den_ne p) (den_ne q)]
theorem mul_divInt (p q : Rat) : Rat.divInt (p.num * q.num) (p.den * q.den) = p * q := by
  conv => rhs; rw [← Rat.num_divInt_den p, ← Rat.num_divInt_den q]
  rw [Rat.divInt_mul_divInt]
theorem div_divInt (p q : Rat) : Rat.divInt (p.num * q.den) (p.den * q.num) = p / q := by
  rw [Rat.div_def]
  conv => rhs; rw [← Rat.num_divInt_den p]
  rw [Rat.inv_def, Rat.divInt_mul_divInt]

theorem radd_ok {B : Base} (G : Glob B) {d : Nat} {σ : Store} {p q : Rat} {a b : Nat} {P : VPost} (hp : Ht a p) (hq : Ht b q) (ha : a < 2 ^ 20) (hb : b < 2 ^ 20) (h : P (rq (p + q)) σ) : CallV B (d + 3) (.ref (adr B "radd")) [rq p, rq q] σ P := by
  refine call_def (names := ["a", "b"]) G.radd ⟨rfl, rfl, rfl, by decide +kernel⟩ (by decide +kernel) (fun pm code doc => len2 fun u v => rfl) rfl ?_
  refine ex_cons ?_
  refine ex_return ?_
  refine ev_call G.rat.callee rfl ?_
  refine evs_cons ?_
  refine ev_bin ?_
  refine ev_bin ?_
  refine ev_num rfl ?_
  refine ev_den rfl ?_
  refine bin_mul (hp.num ha) (hq.den hb) ?_
  refine ev_bin ?_
  refine ev_num rfl ?_
  refine ev_den rfl ?_
  refine bin_mul (hq.num hb) (hp.den ha) ?_
  refine bin_add ?_
  refine evs_cons ?_
  refine ev_bin ?_
  refine ev_den rfl ?_
  refine ev_den rfl ?_
  refine bin_mul (hp.den ha) (hq.den hb) ?_
  refine evs_nil ?_
  refine rat_ok G (Int.mul_ne_zero (den_ne p) (den_ne q)) ?_
  refine ⟨_, .inl rfl, ?_⟩
  rw [add_divInt]; exact h
theorem rsub_ok {B : Base} (G : Glob B) {d : Nat} {σ : Store} {p q : Rat} {a b : Nat} {P : VPost} (hp : Ht a p) (hq : Ht b q) (ha : a < 2 ^ 20) (hb : b < 2 ^ 20) (h : P (rq (p - q)) σ) : CallV B (d + 3) (.ref (adr B "rsub")) [rq p, rq q] σ P := by
  refine call_def (names := ["a", "b"]) G.rsub ⟨rfl, rfl, rfl, by decide +kernel⟩ (by decide +kernel) (fun pm code doc => len2 fun u v => rfl) rfl ?_
  refine ex_cons ?_
  refine ex_return ?_
  refine ev_call G.rat.callee rfl ?_
  refine evs_cons ?_
  refine ev_bin ?_
  refine ev_bin ?_
  refine ev_num rfl ?_
  refine ev_den rfl ?_
  refine bin_mul (hp.num ha) (hq.den hb) ?_
  refine ev_bin ?_
  refine ev_num rfl ?_
  refine ev_den rfl ?_
  refine bin_mul (hq.num hb) (hp.den ha) ?_
  refine bin_sub ?_
  refine evs_cons ?_
  refine ev_bin ?_
  refine ev_den rfl ?_
  refine ev_den rfl ?_
  refine bin_mul (hp.den ha) (hq.den hb) ?_
  refine evs_nil ?_
  refine rat_ok G (Int.mul_ne_zero (den_ne p) (den_ne q)) ?_
  refine ⟨_, .inl rfl, ?_⟩
  rw [sub_divInt]; exact h
theorem rmul_ok {B : Base} (G : Glob B) {d : Nat} {σ : Store} {p q : Rat} {a b : Nat} {P : VPost} (hp : Ht a p) (hq : Ht b q) (ha : a < 2 ^ 20) (hb : b < 2 ^ 20) (h : P (rq (p * q)) σ) : CallV B (d + 3) (.ref (adr B "rmul")) [rq p, rq q] σ P := by
  refine call_def (names := ["a", "b"]) G.rmul ⟨rfl, rfl, rfl, by decide +kernel⟩ (by decide +kernel) (fun pm code doc => len2 fun u v => rfl) rfl ?_
  refine ex_cons ?_
  refine ex_return ?_
  refine ev_call G.rat.callee rfl ?_
  refine evs_cons ?_
  refine ev_bin ?_
  refine ev_num rfl ?_
  refine ev_num rfl ?_
  refine bin_mul (hp.num ha) (hq.num hb) ?_
  refine evs_cons ?_
  refine ev_bin ?_
  refine ev_den rfl ?_
  refine ev_den rfl ?_
  refine bin_mul (hp.den ha) (hq.den hb) ?_
  refine evs_nil ?_
  refine rat_ok G (Int.mul_ne_zero (den_ne p) (den_ne q)) ?_
  refine ⟨_, .inl rfl, ?_⟩
  rw [mul_divInt]; exact h
theorem rdiv_ok {B : Base} (G : Glob B) {d : Nat} {σ : Store} {p q : Rat} {a b : Nat} {P : VPost} (hp : Ht a p) (hq : Ht b q) (ha : a < 2 ^ 20) (hb : b < 2 ^ 20) (hz : q ≠ 0) (h : P (rq (p / q)) σ) : CallV B (d + 3) (.ref (adr B "rdiv")) [rq p, rq q] σ P := by
  refine call_def (names := ["a", "b"]) G.rdiv ⟨rfl, rfl, rfl, by decide +kernel⟩ (by decide +kernel) (fun pm code doc => len2 fun u v => rfl) rfl ?_
  refine ex_cons ?_
  refine ex_return ?_
  refine ev_call G.rat.callee rfl ?_
  refine evs_cons ?_
  refine ev_bin ?_
  refine ev_num rfl ?_
  refine ev_den rfl ?_
  refine bin_mul (hp.num ha) (hq.den hb) ?_
  refine evs_cons ?_
  refine ev_bin ?_
  refine ev_den rfl ?_
  refine ev_num rfl ?_
  refine bin_mul (hp.den ha) (hq.num hb) ?_
  refine evs_nil ?_
  refine rat_ok G (Int.mul_ne_zero (den_ne p) (fun e => hz (Rat.num_eq_zero.mp e))) ?_
  refine ⟨_, .inl rfl, ?_⟩
  rw [div_divInt]; exact h
theorem rneg_ok {B : Base} (G : Glob B) {d : Nat} {σ : Store} {p : Rat} {P : VPost} (h : P (rq (-p)) σ) : CallV B (d + 1) (.ref (adr B "rneg")) [rq p] σ P := by
  refine call_def (names := ["a"]) G.rneg ⟨rfl, rfl, rfl, by decide +kernel⟩ (by decide +kernel) (fun pm code doc => len1 fun u => rfl) rfl ?_
  refine ex_cons ?_
  refine ex_return ?_
  refine ev_tuple ?_
  refine evs_cons ?_
  refine ev_bin ?_
  refine ev_int ?_
  refine ev_num rfl ?_
  refine bin_sub ?_
  refine evs_cons ?_
  refine ev_den rfl ?_
  refine evs_nil ?_
  refine ⟨Nat.le_of_ble_eq_true rfl, _, .inl rfl, ?_⟩
  have e1 : (0 : Int) - p.num = (-p).num := by rw [Rat.neg_num]; omega
  have e2 : ((p.den : Nat) : Int) = ((-p).den : Nat) := by rw [Rat.neg_den]
  rw [e1, e2]
  exact h
end
end Mine
end

section
open PySem PySem.W PyProof.Rows
set_option maxRecDepth 100000
set_option maxHeartbeats 4000000
namespace Mine
theorem BindT.name {κ : Str → Option NameKind} {x : Str} {px : Pos} {p : PV} {ε : PEnv} (h : κ x = some .local ∨ κ x = some .cell) : BindT κ (.Name x px) p ε (upd ε x p) := .inl ⟨_, _, rfl, h, rfl⟩
theorem BindT.pair {κ : Str → Option NameKind} {x y : Str} {px py pos : Pos} {k : Nat} {p q : PV} {ε : PEnv} (h : κ x = some .local ∨ κ x = some .cell) (h' : κ y = some .local ∨ κ y = some .cell) : BindT κ (.Tuple [.Name x px, .Name y py] k pos) (.tup [p, q]) ε (upd (upd ε x p) y q) := .inr ⟨_, _, _, _, _, _, rfl, h, h', p, q, rfl, rfl⟩
theorem enum_get {l : List PV} {i : Nat} {p : PV} (h : (enumP l)[i]? = some p) : ∃ q, l[i]? = some q ∧ p = .tup [.int (i : Nat), q] := by
  unfold enumP at h
  rw [List.getElem?_mapIdx] at h
  cases hq : l[i]? with
  | none => rw [hq] at h; cases h
  | some q => rw [hq] at h; cases h; exact ⟨q, rfl, rfl⟩
theorem enum_len (l : List PV) : (enumP l).length = l.length := by simp [enumP]
theorem range_len (a : Int) (n : Nat) : (rangeP a n).length = n := by simp [rangeP]
section
variable {B : Base} {d : Nat} {κ : Str → Option NameKind} {ε : PEnv} {σ : Store}
theorem call_len' {r : Nat} {l : List PV} {n : Nat} {P : VPost} (h1 : σ[r]? = some l) (hn : l.length = n) (h : P (.int n) σ) : CallV B d (.builtin "len") [.ref r] σ P := call_len h1 (hn ▸ h)
theorem Itm.at {r : Nat} {l : List PV} {k : Nat} {x : PV} (h : σ[r]? = some l) (hx : l[k]? = some x) (hk : k < 2 ^ 63) : Itm σ (.ref r) k x := ⟨l, h, by omega, by omega, by simpa using hx⟩
theorem shape_ok (G : Glob B) {p : PV} {n m : Nat} {rw : Nat → List PV} {P : VPost} (T : Tab σ p n rw) (hn : 0 < n) (hm : (rw 0).length = m) (h : P (.tup [.int n, .int m]) σ) : CallV B (d + 1) (.ref (adr B "shape")) [p] σ P := by
  obtain ⟨r, rs, rfl, T⟩ := T
  obtain ⟨r0, e0, _, h0⟩ := T.get hn
  refine call_def (names := ["a"]) G.shape ⟨rfl, rfl, rfl, by decide +kernel⟩ (by decide +kernel) (fun pm code doc => len1 fun u => rfl) rfl ?_
  refine ex_cons ?_
  refine ex_return ?_
  refine ev_tuple ?_
  refine evs_cons ?_
  refine ev_call G.len rfl ?_
  refine evs_cons ?_
  refine ev_name rfl ?_
  refine evs_nil ?_
  refine call_len' T.tab T.len ?_
  refine evs_cons ?_
  refine ev_if ?_
  refine tst_cmp ?_
  refine ev_call G.len rfl ?_
  refine evs_cons ?_
  refine ev_name rfl ?_
  refine evs_nil ?_
  refine call_len' T.tab T.len ?_
  refine ev_int ?_
  refine cmp_gt ?_
  rw [decide_eq_true (by omega), if_pos rfl]
  refine ev_call G.len rfl ?_
  refine evs_cons ?_
  refine ev_item ?_
  refine ev_name rfl ?_
  refine ev_int ?_
  refine ⟨_, _, rfl, Itm.at T.tab e0 (by decide), ?_⟩
  refine evs_nil ?_
  refine call_len' h0 hm ?_
  refine evs_nil ?_
  refine ⟨Nat.le_of_ble_eq_true rfl, _, .inl rfl, ?_⟩
  exact h
theorem need_ok (G : Glob B) {t : Str} {b : Bool} {P : VPost} (hb : b = true) (h : P .none σ) : CallV B (d + 1) (.ref (adr B "need_shape")) [.bool b, .str t] σ P := by
  subst hb
  refine call_def (names := ["is_right", "text"]) G.need_shape ⟨rfl, rfl, rfl, by decide +kernel⟩ (by decide +kernel) (fun pm code doc => len2 fun u v => rfl) rfl ?_
  refine ex_cons ?_
  refine ex_if ?_
  refine tst_not ?_
  refine tst_bool ?_
  refine ev_name rfl ?_
  refine ⟨_, rfl, ?_⟩
  rw [show (!true) = false from rfl, if_neg (by simp)]
  refine ex_nil ?_
  refine ex_nil ?_
  exact ⟨_, .inr ⟨rfl, rfl⟩, h⟩
theorem copied_ok (G : Glob B) {p : PV} {n : Nat} {rw : Nat → List PV} {P : VPost} (T : Tab σ p n rw) (h : ∀ r rs σ', Ext σ σ' → Apart σ rs → σ.length ≤ r → TabAt σ' r rs n rw → P (.ref r) σ') : CallV B (d + 1) (.ref (adr B "copied")) [p] σ P := by
  obtain ⟨r, rs, rfl, T⟩ := T
  refine call_def (names := ["a"]) G.copied ⟨rfl, rfl, rfl, by decide +kernel⟩ (by decide +kernel) (fun pm code doc => len1 fun u => rfl) rfl ?_
  refine ex_cons ?_
  refine ex_return ?_
  refine ev_comp ⟨by rfl, by decide +kernel, by decide +kernel⟩ (by decide +kernel) ?_
  refine iter_list ?_
  refine ev_name rfl ?_
  refine ⟨_, _, rfl, T.tab, ?_⟩
  refine compL_tab rw T.len (fun σ' x => x _ _ T.tab) (fun i p σ₁ hp hi x => ?_) fun acc σ' x nd T' => ⟨_, .inl rfl, h _ _ _ (x.trans (Ext.app _ _)) nd x.len T'⟩
  obtain ⟨r', rfl, _, hr'⟩ := T.row i p hp
  refine ⟨_, .name (.inl rfl), fun K hK => ?_⟩
  refine ev_call G.list rfl ?_
  refine evs_cons ?_
  refine ev_name rfl ?_
  refine evs_nil ?_
  refine call_copy (x _ _ hr') ?_
  exact hK _ _ (Ext.app _ _) (Nat.le_refl _) (app_get _ _)
end
end Mine
end

section
open PySem PySem.W PyProof.Rows
set_option maxRecDepth 100000
set_option maxHeartbeats 4000000
namespace Mine
theorem Ht.mono {a b : Nat} {q : Rat} (h : Ht a q) (hab : a ≤ b) : Ht b q := ⟨Nat.le_trans h.1 (Nat.pow_le_pow_right (by omega) hab), Nat.le_trans h.2 (Nat.pow_le_pow_right (by omega) hab)⟩
theorem num_divInt_le (x y : Int) : (Rat.divInt x y).num.natAbs ≤ x.natAbs := by
  rw [Rat.num_divInt]
  refine Nat.le_trans (Int.natAbs_ediv_le_natAbs _ _) ?_
  rw [Int.natAbs_mul]
  rcases Int.lt_trichotomy y 0 with h | h | h
  · rw [Int.sign_eq_neg_one_of_neg h]; simp
  · subst h; simp
  · rw [Int.sign_eq_one_of_pos h]; simp
theorem den_divInt_le {x y : Int} (hy : y ≠ 0) : (Rat.divInt x y).den ≤ y.natAbs := by
  rw [Rat.den_divInt, if_neg hy]
  exact Nat.div_le_self _ _
theorem Ht.of_divInt {k : Nat} {x y : Int} (hy : y ≠ 0) (h1 : x.natAbs ≤ 2 ^ k) (h2 : y.natAbs ≤ 2 ^ k) : Ht k (Rat.divInt x y) := ⟨Nat.le_trans (num_divInt_le x y) h1, Nat.le_trans (den_divInt_le hy) h2⟩
theorem mul_le_pow {a b x y : Nat} (h1 : x ≤ 2 ^ a) (h2 : y ≤ 2 ^ b) : x * y ≤ 2 ^ (a + b) := by rw [Nat.pow_add]; exact Nat.mul_le_mul h1 h2
theorem Ht.add {a b : Nat} {p q : Rat} (hp : Ht a p) (hq : Ht b q) : Ht (a + b + 1) (p + q) := by
  rw [← add_divInt]
  refine Ht.of_divInt (Int.mul_ne_zero (den_ne p) (den_ne q)) ?_ ?_
  · have h1 := mul_le_pow hp.1 hq.2
    have h2 := mul_le_pow hq.1 hp.2
    have h3 := Int.natAbs_add_le (p.num * q.den) (q.num * p.den)
    rw [Int.natAbs_mul, Int.natAbs_mul, Int.natAbs_natCast, Int.natAbs_natCast] at h3
    rw [Nat.add_comm b a] at h2
    rw [Nat.pow_succ]; omega
  · rw [Int.natAbs_mul, Int.natAbs_natCast, Int.natAbs_natCast]
    exact Nat.le_trans (mul_le_pow hp.2 hq.2) (Nat.pow_le_pow_right (by omega) (by omega))
theorem Ht.neg {a : Nat} {p : Rat} (hp : Ht a p) : Ht a (-p) := by
  refine ⟨?_, ?_⟩
  · rw [Rat.neg_num, Int.natAbs_neg]; exact hp.1
  · rw [Rat.neg_den]; exact hp.2
theorem Ht.sub {a b : Nat} {p q : Rat} (hp : Ht a p) (hq : Ht b q) : Ht (a + b + 1) (p - q) := by
  rw [Rat.sub_eq_add_neg]; exact hp.add hq.neg
theorem Ht.mul {a b : Nat} {p q : Rat} (hp : Ht a p) (hq : Ht b q) : Ht (a + b) (p * q) := by
  rw [← mul_divInt]
  refine Ht.of_divInt (Int.mul_ne_zero (den_ne p) (den_ne q)) ?_ ?_
  · rw [Int.natAbs_mul]; exact mul_le_pow hp.1 hq.1
  · rw [Int.natAbs_mul, Int.natAbs_natCast, Int.natAbs_natCast]; exact mul_le_pow hp.2 hq.2
theorem Ht.div {a b : Nat} {p q : Rat} (hp : Ht a p) (hq : Ht b q) (hz : q ≠ 0) : Ht (a + b) (p / q) := by
  rw [← div_divInt]
  refine Ht.of_divInt (Int.mul_ne_zero (den_ne p) (fun e => hz (Rat.num_eq_zero.mp e))) ?_ ?_
  · rw [Int.natAbs_mul, Int.natAbs_natCast]; exact mul_le_pow hp.1 hq.2
  · rw [Int.natAbs_mul, Int.natAbs_natCast]; exact mul_le_pow hp.2 hq.1
theorem Ht.zero : Ht 0 0 := ⟨by decide, by decide⟩
theorem Ht.one : Ht 0 1 := ⟨by decide, by decide⟩
theorem rq_int (z : Int) : rq (z : Rat) = .tup [.int z, .int 1] := by unfold rq; rw [Rat.num_intCast, Rat.den_intCast]; rfl
theorem rq_zero : rq 0 = .tup [.int 0, .int 1] := rfl
theorem rq_one : rq 1 = .tup [.int 1, .int 1] := rfl

noncomputable def rowQ (m : Nat) (f : Nat → Rat) : List PV := (List.range m).map fun j => rq (f j)
noncomputable def rowI (m : Nat) (f : Nat → Int) : List PV := (List.range m).map fun j => .int (f j)
theorem range0_get {n i : Nat} {p : PV} (h : (rangeP 0 n)[i]? = some p) : i < n ∧ p = .int (i : Int) := by
  obtain ⟨h1, h2⟩ := rangeP_get h
  exact ⟨h1, by rw [h2]; simp⟩
noncomputable def TabQ (σ : Store) (p : PV) (n m : Nat) (F : Nat → Nat → Rat) : Prop := Tab σ p n fun i => rowQ m (F i)
noncomputable def TabI (σ : Store) (p : PV) (n m : Nat) (F : Nat → Nat → Int) : Prop := Tab σ p n fun i => rowI m (F i)
theorem TabQ.ext {σ σ' : Store} {p : PV} {n m : Nat} {F : Nat → Nat → Rat} (h : TabQ σ p n m F) (x : Ext σ σ') : TabQ σ' p n m F := Tab.ext h x
theorem TabI.ext {σ σ' : Store} {p : PV} {n m : Nat} {F : Nat → Nat → Int} (h : TabI σ p n m F) (x : Ext σ σ') : TabI σ' p n m F := Tab.ext h x
theorem rowQ_len (m : Nat) (f : Nat → Rat) : (rowQ m f).length = m := by simp [rowQ]
theorem rowI_len (m : Nat) (f : Nat → Int) : (rowI m f).length = m := by simp [rowI]
theorem rowQ_at {m j : Nat} {f : Nat → Rat} (h : j < m) : (rowQ m f)[j]? = some (rq (f j)) := rmap_some h
theorem rowI_at {m j : Nat} {f : Nat → Int} (h : j < m) : (rowI m f)[j]? = some (.int (f j)) := rmap_some h

noncomputable def dotN : Nat → (Nat → Rat) → (Nat → Rat) → Rat
  | 0, _, _ => 0
  | k + 1, f, g => dotN k f g + f k * g k
theorem dotN_ht {a b : Nat} {f g : Nat → Rat} : ∀ {n : Nat}, (∀ i, i < n → Ht a (f i)) → (∀ i, i < n → Ht b (g i)) → Ht (n * (a + b + 1)) (dotN n f g)
  | 0, _, _ => by rw [Nat.zero_mul]; exact Ht.zero
  | n + 1, hf, hg => by
    have h := (dotN_ht (n := n) (fun i hi => hf i (by omega)) fun i hi => hg i (by omega)).add ((hf n (by omega)).mul (hg n (by omega)))
    rw [Nat.succ_mul]
    exact h
noncomputable def trN : Nat → (Nat → Nat → Rat) → Rat
  | 0, _ => 0
  | k + 1, F => trN k F + F k k
theorem trN_ht {a : Nat} {F : Nat → Nat → Rat} : ∀ {n : Nat}, (∀ i, i < n → Ht a (F i i)) → Ht (n * (a + 1)) (trN n F)
  | 0, _ => by rw [Nat.zero_mul]; exact Ht.zero
  | n + 1, hf => by
    have h := (trN_ht (n := n) (fun i hi => hf i (by omega))).add (hf n (by omega))
    rw [Nat.succ_mul]
    exact h

section
variable {B : Base} {d : Nat} {κ : Str → Option NameKind} {ε : PEnv} {σ : Store}
theorem from_whole_ok (G : Glob B) {p : PV} {n m : Nat} {F : Nat → Nat → Int} {P : VPost} (T : TabI σ p n m F) (h : ∀ q σ', Ext σ σ' → TabQ σ' q n m (fun i j => (F i j : Rat)) → P q σ') : CallV B (d + 1) (.ref (adr B "from_whole")) [p] σ P := by
  obtain ⟨r, rs, rfl, T⟩ := T
  refine call_def (names := ["a"]) G.from_whole ⟨rfl, rfl, rfl, by decide +kernel⟩ (by decide +kernel) (fun pm code doc => len1 fun u => rfl) rfl ?_
  refine ex_cons ?_
  refine ex_return ?_
  refine ev_comp ⟨by rfl, by decide +kernel, by decide +kernel⟩ (by decide +kernel) ?_
  refine iter_list ?_
  refine ev_name rfl ?_
  refine ⟨_, _, rfl, T.tab, ?_⟩
  refine compL_tab (fun i => rowQ m (fun j => (F i j : Rat))) T.len (fun σ' x => x _ _ T.tab) (fun i p σ₁ hp hi x => ?_) fun acc σ' x nd T' => ⟨_, .inl rfl, h _ _ (x.trans (Ext.app _ _)) ⟨_, _, rfl, T'⟩⟩
  obtain ⟨r', rfl, _, hr'⟩ := T.row i p hp
  refine ⟨_, .name (.inl rfl), fun K hK => ?_⟩
  refine ev_comp ⟨by rfl, by decide +kernel, by decide +kernel⟩ (by decide +kernel) ?_
  refine iter_list ?_
  refine ev_name rfl ?_
  refine ⟨_, _, rfl, x _ _ hr', ?_⟩
  refine compL_row (fun j => rq (F i j : Rat)) (rowI_len _ _) (fun σ' x' => x' _ _ (x _ _ hr')) (fun j p σ₂ hp hj x' => ?_) fun σ' x' => hK _ _ (x'.trans (Ext.app _ _)) x'.len (app_get _ _)
  obtain ⟨_, rfl⟩ := rmap_get hp
  refine ⟨_, .name (.inl rfl), fun K' hK' => ?_⟩
  refine ev_tuple ?_
  refine evs_cons ?_
  refine ev_name rfl ?_
  refine evs_cons ?_
  refine ev_int ?_
  refine evs_nil ?_
  refine ⟨Nat.le_of_ble_eq_true rfl, ?_⟩
  rw [← rq_int]
  exact hK' _ (.refl _)
theorem unit_ok (G : Glob B) {n : Nat} {P : VPost} (hn : n ≤ 4096) (h : ∀ q σ', Ext σ σ' → TabQ σ' q n n (fun i j => if i = j then 1 else 0) → P q σ') : CallV B (d + 1) (.ref (adr B "unit_matrix")) [.int n] σ P := by
  refine call_def (names := ["n"]) G.unit_matrix ⟨rfl, rfl, rfl, by decide +kernel⟩ (by decide +kernel) (fun pm code doc => len1 fun u => rfl) rfl ?_
  refine ex_cons ?_
  refine ex_return ?_
  refine ev_comp ⟨by rfl, by decide +kernel, by decide +kernel⟩ (by decide +kernel) ?_
  refine iter_range1 G.range rfl ?_
  refine evs_cons ?_
  refine ev_name rfl ?_
  refine evs_nil ?_
  refine ⟨n, rfl, hn, ?_⟩
  refine compL_tab (fun i => rowQ n (fun j => if i = j then 1 else 0)) (range_len 0 n) (fun σ' x => trivial) (fun i p σ₁ hp hi x => ?_) fun acc σ' x nd T' => ⟨_, .inl rfl, h _ _ (x.trans (Ext.app _ _)) ⟨_, _, rfl, T'⟩⟩
  obtain ⟨_, rfl⟩ := range0_get hp
  refine ⟨_, .name (.inr rfl), fun K hK => ?_⟩
  refine ev_comp ⟨by rfl, by decide +kernel, by decide +kernel⟩ (by decide +kernel) ?_
  refine iter_range1 G.range rfl ?_
  refine evs_cons ?_
  refine ev_name rfl ?_
  refine evs_nil ?_
  refine ⟨n, rfl, hn, ?_⟩
  refine compL_row (fun j => rq (if i = j then 1 else 0)) (range_len 0 n) (fun σ' x' => trivial) (fun j p σ₂ hp hj x' => ?_) fun σ' x' => hK _ _ (x'.trans (Ext.app _ _)) x'.len (app_get _ _)
  obtain ⟨_, rfl⟩ := range0_get hp
  refine ⟨_, .name (.inl rfl), fun K' hK' => ?_⟩
  refine ev_if ?_
  refine tst_cmp ?_
  refine ev_name rfl ?_
  refine ev_name rfl ?_
  refine cmp_eq ?_
  have hk := hK' _ (.refl _)
  by_cases e : i = j
  · subst e
    rw [if_pos rfl] at hk
    rw [show ((i : Int) == (i : Int)) = true by simp, if_pos rfl]
    exact ev_toptup G.R1 rfl hk
  · rw [if_neg e] at hk
    rw [show ((i : Int) == (j : Int)) = false from beq_eq_false_iff_ne.mpr (by omega), if_neg (by simp)]
    exact ev_toptup G.R0 rfl hk
theorem transposed_ok (G : Glob B) {p : PV} {n m : Nat} {g : Nat → Nat → PV} {P : VPost} (T : Tab σ p n fun i => (List.range m).map (g i)) (hn : 0 < n) (hm : m ≤ 4096) (h : ∀ q σ', Ext σ σ' → Tab σ' q m (fun j => (List.range n).map fun i => g i j) → P q σ') : CallV B (d + 2) (.ref (adr B "transposed")) [p] σ P := by
  have T₀ := T
  obtain ⟨r, rs, rfl, T⟩ := T
  refine call_def (names := ["a"]) G.transposed ⟨rfl, rfl, rfl, by decide +kernel⟩ (by decide +kernel) (fun pm code doc => len1 fun u => rfl) rfl ?_
  refine ex_cons ?_
  refine ex_return ?_
  refine ev_comp ⟨by rfl, by decide +kernel, by decide +kernel⟩ (by decide +kernel) ?_
  refine iter_range1 G.range rfl ?_
  refine evs_cons ?_
  refine ev_item ?_
  refine ev_call G.shape.callee rfl ?_
  refine evs_cons ?_
  refine ev_name rfl ?_
  refine evs_nil ?_
  refine shape_ok (m := m) G T₀ hn (by simp) ?_
  refine ev_int ?_
  refine ⟨1, _, rfl, ⟨by decide, by decide, rfl⟩, ?_⟩
  refine evs_nil ?_
  refine ⟨m, rfl, hm, ?_⟩
  refine compL_tab (fun j => (List.range n).map fun i => g i j) (range_len 0 m) (fun σ' x => trivial) (fun j p σ₁ hp hj x => ?_) fun acc σ' x nd T' => ⟨_, .inl rfl, h _ _ (x.trans (Ext.app _ _)) ⟨_, _, rfl, T'⟩⟩
  obtain ⟨_, rfl⟩ := range0_get hp
  refine ⟨_, .name (.inr rfl), fun K hK => ?_⟩
  refine ev_comp ⟨by rfl, by decide +kernel, by decide +kernel⟩ (by decide +kernel) ?_
  refine iter_list ?_
  refine ev_name rfl ?_
  refine ⟨_, _, rfl, x _ _ T.tab, ?_⟩
  refine compL_row (fun i => g i j) T.len (fun σ' x' => x' _ _ (x _ _ T.tab)) (fun i p σ₂ hp hi x' => ?_) fun σ' x' => hK _ _ (x'.trans (Ext.app _ _)) x'.len (app_get _ _)
  obtain ⟨r', rfl, _, hr'⟩ := T.row i p hp
  refine ⟨_, .name (.inl rfl), fun K' hK' => ?_⟩
  refine ev_item ?_
  refine ev_name rfl ?_
  refine ev_name rfl ?_
  exact ⟨_, _, rfl, Itm.at ((x.trans x') _ _ hr') (rmap_some hj) (by omega), hK' _ (.refl _)⟩
theorem dot_ok (G : Glob B) {r1 r2 n a b : Nat} {f g : Nat → Rat} {P : VPost} (h1 : σ[r1]? = some (rowQ n f)) (h2 : σ[r2]? = some (rowQ n g)) (hf : ∀ i, i < n → Ht a (f i)) (hg : ∀ i, i < n → Ht b (g i)) (hs : n * (a + b + 1) < 2 ^ 20) (hn : n ≤ 4096)
    (h : P (rq (dotN n f g)) σ) : CallV B (d + 4) (.ref (adr B "dot")) [.ref r1, .ref r2] σ P := by
  refine call_def (names := ["one", "other"]) G.dot ⟨rfl, rfl, rfl, by decide +kernel⟩ (by decide +kernel) (fun pm code doc => len2 fun u v => rfl) rfl ?_
  refine ex_cons ?_
  refine ex_assign ?_
  refine ev_toptup G.R0 rfl ?_
  refine as_name (.inl rfl) ?_
  refine ex_cons ?_
  refine ex_for ?_
  refine iter_enum G.enumerate rfl ?_
  refine evs_cons ?_
  refine ev_name rfl ?_
  refine evs_nil ?_
  refine ⟨_, _, rfl, h1, ?_⟩
  refine forL_ind (fun i ε σ' => σ' = σ ∧ ε "other" = some (.ref r2) ∧ ε "found" = some (rq (dotN i f g))) ⟨rfl, rfl, rfl⟩ ?_ ?_
  · rintro i p ε _ hp ⟨rfl, ho, hfo⟩
    obtain ⟨q, hq, rfl⟩ := enum_get hp
    obtain ⟨hi, rfl⟩ := rmap_get hq
    have hle : (i + 1) * (a + b + 1) ≤ n * (a + b + 1) := Nat.mul_le_mul_right _ hi
    rw [Nat.succ_mul] at hle
    refine ⟨_, .pair (.inl rfl) (.inl rfl), ?_⟩
    refine ex_cons ?_
    refine ex_assign ?_
    refine ev_call G.radd.callee rfl ?_
    refine evs_cons ?_
    refine ev_name hfo ?_
    refine evs_cons ?_
    refine ev_call G.rmul.callee rfl ?_
    refine evs_cons ?_
    refine ev_name rfl ?_
    refine evs_cons ?_
    refine ev_item ?_
    refine ev_name ho ?_
    refine ev_name rfl ?_
    refine ⟨_, _, rfl, Itm.at h2 (rowQ_at hi) (by omega), ?_⟩
    refine evs_nil ?_
    refine rmul_ok G (hf i hi) (hg i hi) (by omega) (by omega) ?_
    refine evs_nil (radd_ok G (dotN_ht (n := i) (fun k hk => hf k (by omega)) fun k hk => hg k (by omega)) ((hf i hi).mul (hg i hi)) (by omega) (by omega) ?_)
    refine as_name (.inl rfl) ?_
    refine ex_nil ?_
    exact ⟨.inl rfl, h1, rfl, ho, rfl⟩
  · rintro ε _ ⟨rfl, ho, hfo⟩
    rw [enum_len, rowQ_len] at hfo
    refine ex_cons ?_
    refine ex_return ?_
    refine ev_name hfo ?_
    refine ⟨_, .inl rfl, ?_⟩
    exact h
end
end Mine
end

section
open PySem PySem.W PyProof.Rows
set_option maxRecDepth 100000
set_option maxHeartbeats 4000000
namespace Mine
noncomputable def HtM (k n m : Nat) (F : Nat → Nat → Rat) : Prop := ∀ i j, i < n → j < m → Ht k (F i j)
theorem HtM.mono {a b n m : Nat} {F : Nat → Nat → Rat} (h : HtM a n m F) (hab : a ≤ b) : HtM b n m F := fun i j hi hj => (h i j hi hj).mono hab
noncomputable def mulF (k : Nat) (F G : Nat → Nat → Rat) : Nat → Nat → Rat := fun i j => dotN k (F i) fun t => G t j
theorem mulF_ht {a b n k m : Nat} {F G : Nat → Nat → Rat} (hF : HtM a n k F) (hG : HtM b k m G) : HtM (k * (a + b + 1)) n m (mulF k F G) := fun i j hi hj => dotN_ht (fun t ht => hF i t hi ht) fun t ht => hG t j ht hj
theorem TabAt.set {σ σ' : Store} {r : Nat} {rs : List PV} {n : Nat} {rw : Nat → List PV} (T : TabAt σ r rs n rw) (x : Ext σ σ') {nr i : Nat} {row : List PV} (hr : σ'[nr]? = some row) (hne : nr ≠ r) (hi : i < n) : TabAt (σ'.set r (rs.set i (.ref nr))) r (rs.set i (.ref nr)) n (fun k => if k = i then row else rw k) := by
  have hlt : r < σ'.length := (List.getElem?_eq_some_iff.mp (x _ _ T.tab)).1
  refine ⟨by simp [hlt], by simp [T.len], fun k q hq => ?_⟩
  rw [List.getElem?_set] at hq
  by_cases e : i = k
  · subst e
    rw [if_pos rfl, if_pos (by rw [T.len]; exact hi)] at hq
    cases hq
    refine ⟨nr, rfl, hne, ?_⟩
    rw [List.getElem?_set_ne (Ne.symm hne), if_pos rfl]
    exact hr
  · rw [if_neg e] at hq
    obtain ⟨r', a, b, c⟩ := T.row k q hq
    refine ⟨r', a, b, ?_⟩
    rw [List.getElem?_set_ne (Ne.symm b), if_neg (Ne.symm e)]
    exact x _ _ c
section
variable {B : Base} {d : Nat} {κ : Str → Option NameKind} {ε : PEnv} {σ : Store}
theorem mat_add_ok (G : Glob B) {p q : PV} {n m a b : Nat} {F H : Nat → Nat → Rat} {P : VPost} (T : TabQ σ p n m F) (U : TabQ σ q n m H) (hF : HtM a n m F) (hH : HtM b n m H) (ha : a < 2 ^ 20) (hb : b < 2 ^ 20) (hn : 0 < n) (hn' : n < 2 ^ 63) (hm : m < 2 ^ 63)
    (h : ∀ q σ', Ext σ σ' → TabQ σ' q n m (fun i j => F i j + H i j) → P q σ') : CallV B (d + 4) (.ref (adr B "mat_add")) [p, q] σ P := by
  have T₀ := T
  have U₀ := U
  obtain ⟨r, rs, rfl, T⟩ := T
  obtain ⟨u, us, rfl, U⟩ := U
  refine call_def (names := ["a", "b"]) G.mat_add ⟨rfl, rfl, rfl, by decide +kernel⟩ (by decide +kernel) (fun pm code doc => len2 fun u v => rfl) rfl ?_
  refine ex_cons ?_
  refine ex_expr ?_
  refine ev_call G.need_shape.callee rfl ?_
  refine evs_cons ?_
  refine ev_cmp ?_
  refine ev_call G.shape.callee rfl ?_
  refine evs_cons ?_
  refine ev_name rfl ?_
  refine evs_nil ?_
  refine shape_ok (m := m) G T₀ hn (rowQ_len _ _) ?_
  refine ev_call G.shape.callee rfl ?_
  refine evs_cons ?_
  refine ev_name rfl ?_
  refine evs_nil ?_
  refine shape_ok (m := m) G U₀ hn (rowQ_len _ _) ?_
  refine cmp_eq_tup (as := [(n : Int), m]) (bs := [(n : Int), m]) rfl ?_
  refine evs_cons ?_
  refine ev_str ?_
  refine evs_nil ?_
  refine need_ok G (by simp) ?_
  refine ex_cons ?_
  refine ex_return ?_
  refine ev_comp ⟨by rfl, by decide +kernel, by decide +kernel⟩ (by decide +kernel) ?_
  refine iter_enum G.enumerate rfl ?_
  refine evs_cons ?_
  refine ev_name rfl ?_
  refine evs_nil ?_
  refine ⟨_, _, rfl, T.tab, ?_⟩
  refine compL_tab (fun i => rowQ m (fun j => F i j + H i j)) ((enum_len _).trans T.len) (fun σ' x => x _ _ T.tab) (fun i p σ₁ hp hi x => ?_) fun acc σ' x nd T' => ⟨_, .inl rfl, h _ _ (x.trans (Ext.app _ _)) ⟨_, _, rfl, T'⟩⟩
  obtain ⟨_, hq, rfl⟩ := enum_get hp
  obtain ⟨r', rfl, _, hr'⟩ := T.row i _ hq
  obtain ⟨u', e', _, hu'⟩ := U.get hi
  refine ⟨_, .pair (.inr rfl) (.inl rfl), fun K hK => ?_⟩
  refine ev_comp ⟨by rfl, by decide +kernel, by decide +kernel⟩ (by decide +kernel) ?_
  refine iter_enum G.enumerate rfl ?_
  refine evs_cons ?_
  refine ev_name rfl ?_
  refine evs_nil ?_
  refine ⟨_, _, rfl, x _ _ hr', ?_⟩
  refine compL_row (fun j => rq (F i j + H i j)) ((enum_len _).trans (rowQ_len _ _)) (fun σ' x' => x' _ _ (x _ _ hr')) (fun j p σ₂ hp hj x' => ?_) fun σ' x' => hK _ _ (x'.trans (Ext.app _ _)) x'.len (app_get _ _)
  obtain ⟨_, hq, rfl⟩ := enum_get hp
  obtain ⟨_, rfl⟩ := rmap_get hq
  refine ⟨_, .pair (.inl rfl) (.inl rfl), fun K' hK' => ?_⟩
  refine ev_call G.radd.callee rfl ?_
  refine evs_cons ?_
  refine ev_name rfl ?_
  refine evs_cons ?_
  refine ev_item ?_
  refine ev_item ?_
  refine ev_name rfl ?_
  refine ev_name rfl ?_
  refine ⟨_, _, rfl, Itm.at ((x.trans x') _ _ U.tab) e' (by omega), ?_⟩
  refine ev_name rfl ?_
  refine ⟨_, _, rfl, Itm.at ((x.trans x') _ _ hu') (rowQ_at hj) (by omega), ?_⟩
  refine evs_nil ?_
  refine radd_ok G (hF i j hi hj) (hH i j hi hj) ha hb ?_
  exact hK' _ (.refl _)
theorem mat_scale_ok (G : Glob B) {p : PV} {n m a b : Nat} {F : Nat → Nat → Rat} {c : Rat} {P : VPost} (T : TabQ σ p n m F) (hF : HtM a n m F) (hc : Ht b c) (ha : a < 2 ^ 20) (hb : b < 2 ^ 20)
    (h : ∀ q σ', Ext σ σ' → TabQ σ' q n m (fun i j => F i j * c) → P q σ') : CallV B (d + 4) (.ref (adr B "mat_scale")) [p, rq c] σ P := by
  obtain ⟨r, rs, rfl, T⟩ := T
  refine call_def (names := ["a", "number"]) G.mat_scale ⟨rfl, rfl, rfl, by decide +kernel⟩ (by decide +kernel) (fun pm code doc => len2 fun u v => rfl) rfl ?_
  refine ex_cons ?_
  refine ex_return ?_
  refine ev_comp ⟨by rfl, by decide +kernel, by decide +kernel⟩ (by decide +kernel) ?_
  refine iter_list ?_
  refine ev_name rfl ?_
  refine ⟨_, _, rfl, T.tab, ?_⟩
  refine compL_tab (fun i => rowQ m (fun j => F i j * c)) T.len (fun σ' x => x _ _ T.tab) (fun i p σ₁ hp hi x => ?_) fun acc σ' x nd T' => ⟨_, .inl rfl, h _ _ (x.trans (Ext.app _ _)) ⟨_, _, rfl, T'⟩⟩
  obtain ⟨r', rfl, _, hr'⟩ := T.row i p hp
  refine ⟨_, .name (.inl rfl), fun K hK => ?_⟩
  refine ev_comp ⟨by rfl, by decide +kernel, by decide +kernel⟩ (by decide +kernel) ?_
  refine iter_list ?_
  refine ev_name rfl ?_
  refine ⟨_, _, rfl, x _ _ hr', ?_⟩
  refine compL_row (fun j => rq (F i j * c)) (rowQ_len _ _) (fun σ' x' => x' _ _ (x _ _ hr')) (fun j p σ₂ hp hj x' => ?_) fun σ' x' => hK _ _ (x'.trans (Ext.app _ _)) x'.len (app_get _ _)
  obtain ⟨_, rfl⟩ := rmap_get hp
  refine ⟨_, .name (.inl rfl), fun K' hK' => ?_⟩
  refine ev_call G.rmul.callee rfl ?_
  refine evs_cons ?_
  refine ev_name rfl ?_
  refine evs_cons ?_
  refine ev_name rfl ?_
  refine evs_nil ?_
  refine rmul_ok G (hF i j hi hj) hc ha hb ?_
  exact hK' _ (.refl _)
theorem mat_mul_own (G : Glob B) {p q : PV} {n k m a b : Nat} {F H : Nat → Nat → Rat} {P : VPost} (T : TabQ σ p n k F) (U : TabQ σ q k m H) (hF : HtM a n k F) (hH : HtM b k m H) (hs : k * (a + b + 1) < 2 ^ 20) (hn : 0 < n) (hk : 0 < k) (hk' : k ≤ 4096) (hm : m ≤ 4096)
    (h : ∀ r rs σ', Ext σ σ' → Apart σ rs → σ.length ≤ r → TabAt σ' r rs n (fun i => rowQ m (mulF k F H i)) → P (.ref r) σ') : CallV B (d + 5) (.ref (adr B "mat_mul")) [p, q] σ P := by
  have T₀ := T
  have U₀ := U
  obtain ⟨r, rs, rfl, T⟩ := T
  obtain ⟨u, us, rfl, U⟩ := U
  refine call_def (names := ["a", "b"]) G.mat_mul ⟨rfl, rfl, rfl, by decide +kernel⟩ (by decide +kernel) (fun pm code doc => len2 fun u v => rfl) rfl ?_
  refine ex_cons ?_
  refine ex_expr ?_
  refine ev_call G.need_shape.callee rfl ?_
  refine evs_cons ?_
  refine ev_cmp ?_
  refine ev_item ?_
  refine ev_call G.shape.callee rfl ?_
  refine evs_cons ?_
  refine ev_name rfl ?_
  refine evs_nil ?_
  refine shape_ok (m := k) G T₀ hn (rowQ_len _ _) ?_
  refine ev_int ?_
  refine ⟨1, _, rfl, ⟨by decide, by decide, rfl⟩, ?_⟩
  refine ev_call G.len rfl ?_
  refine evs_cons ?_
  refine ev_name rfl ?_
  refine evs_nil ?_
  refine call_len' U.tab U.len ?_
  refine cmp_eq ?_
  refine evs_cons ?_
  refine ev_str ?_
  refine evs_nil ?_
  refine need_ok G (by simp) ?_
  refine ex_cons ?_
  refine ex_assign ?_
  refine ev_call G.transposed.callee rfl ?_
  refine evs_cons ?_
  refine ev_name rfl ?_
  refine evs_nil ?_
  refine transposed_ok G U₀ hk hm (fun q σ₁ x C => ?_)
  refine as_name (.inr rfl) ?_
  obtain ⟨c, cs, rfl, C⟩ := C
  refine ex_cons ?_
  refine ex_return ?_
  refine ev_comp ⟨by rfl, by decide +kernel, by decide +kernel⟩ (by decide +kernel) ?_
  refine iter_list ?_
  refine ev_name rfl ?_
  refine ⟨_, _, rfl, x _ _ T.tab, ?_⟩
  refine compL_tab (fun i => rowQ m (mulF k F H i)) T.len (fun σ' x' => x' _ _ (x _ _ T.tab)) (fun i p σ₂ hp hi x' => ?_) fun acc σ' x' nd T' => ⟨_, .inl rfl, h _ _ _ (x.trans (x'.trans (Ext.app _ _))) ⟨nd.nd, fun q hq => let ⟨r', a, b⟩ := nd.own q hq; ⟨r', a, Nat.le_trans x.len b⟩⟩ (x.trans x').len T'⟩
  obtain ⟨r', rfl, _, hr'⟩ := T.row i p hp
  refine ⟨_, .name (.inr rfl), fun K hK => ?_⟩
  refine ev_comp ⟨by rfl, by decide +kernel, by decide +kernel⟩ (by decide +kernel) ?_
  refine iter_list ?_
  refine ev_name rfl ?_
  refine ⟨_, _, rfl, x' _ _ C.tab, ?_⟩
  refine compL_row (fun j => rq (mulF k F H i j)) C.len (fun σ' x₂ => x₂ _ _ (x' _ _ C.tab)) (fun j p σ₃ hp hj x₂ => ?_) fun σ' x₂ => hK _ _ (x₂.trans (Ext.app _ _)) x₂.len (app_get _ _)
  obtain ⟨c', rfl, _, hc'⟩ := C.row j p hp
  refine ⟨_, .name (.inl rfl), fun K' hK' => ?_⟩
  refine ev_call G.dot.callee rfl ?_
  refine evs_cons ?_
  refine ev_name rfl ?_
  refine evs_cons ?_
  refine ev_name rfl ?_
  refine evs_nil ?_
  exact dot_ok G ((x.trans (x'.trans x₂)) _ _ hr') ((x'.trans x₂) _ _ hc') (fun t ht => hF i t hi ht) (fun t ht => hH t j ht hj) hs hk' (hK' _ (.refl _))
theorem mat_mul_ok (G : Glob B) {p q : PV} {n k m a b : Nat} {F H : Nat → Nat → Rat} {P : VPost} (T : TabQ σ p n k F) (U : TabQ σ q k m H) (hF : HtM a n k F) (hH : HtM b k m H) (hs : k * (a + b + 1) < 2 ^ 20) (hn : 0 < n) (hk : 0 < k) (hk' : k ≤ 4096) (hm : m ≤ 4096)
    (h : ∀ q σ', Ext σ σ' → TabQ σ' q n m (mulF k F H) → P q σ') : CallV B (d + 5) (.ref (adr B "mat_mul")) [p, q] σ P :=
  mat_mul_own G T U hF hH hs hn hk hk' hm fun r rs σ' x _ _ T => h _ _ x ⟨_, _, rfl, T⟩
theorem trace_ok (G : Glob B) {p : PV} {n a : Nat} {F : Nat → Nat → Rat} {P : VPost} (T : TabQ σ p n n F) (hF : HtM a n n F) (hs : n * (a + 1) < 2 ^ 20) (hn : 0 < n) (hn' : n ≤ 4096) (h : P (rq (trN n F)) σ) : CallV B (d + 4) (.ref (adr B "trace")) [p] σ P := by
  have T₀ := T
  obtain ⟨r, rs, rfl, T⟩ := T
  refine call_def (names := ["a"]) G.trace ⟨rfl, rfl, rfl, by decide +kernel⟩ (by decide +kernel) (fun pm code doc => len1 fun u => rfl) rfl ?_
  refine ex_cons ?_
  refine ex_expr ?_
  refine ev_call G.need_shape.callee rfl ?_
  refine evs_cons ?_
  refine ev_cmp ?_
  refine ev_call G.len rfl ?_
  refine evs_cons ?_
  refine ev_name rfl ?_
  refine evs_nil ?_
  refine call_len' T.tab T.len ?_
  refine ev_item ?_
  refine ev_call G.shape.callee rfl ?_
  refine evs_cons ?_
  refine ev_name rfl ?_
  refine evs_nil ?_
  refine shape_ok (m := n) G T₀ hn (rowQ_len _ _) ?_
  refine ev_int ?_
  refine ⟨1, _, rfl, ⟨by decide, by decide, rfl⟩, ?_⟩
  refine cmp_eq ?_
  refine evs_cons ?_
  refine ev_str ?_
  refine evs_nil ?_
  refine need_ok G (by simp) ?_
  refine ex_cons ?_
  refine ex_assign ?_
  refine ev_toptup G.R0 rfl ?_
  refine as_name (.inl rfl) ?_
  refine ex_cons ?_
  refine ex_for ?_
  refine iter_range1 G.range rfl ?_
  refine evs_cons ?_
  refine ev_call G.len rfl ?_
  refine evs_cons ?_
  refine ev_name rfl ?_
  refine evs_nil ?_
  refine call_len' T.tab T.len ?_
  refine evs_nil ?_
  refine ⟨n, rfl, hn', ?_⟩
  refine forL_ind (fun i ε σ' => σ' = σ ∧ ε "a" = some (.ref r) ∧ ε "found" = some (rq (trN i F))) ⟨rfl, rfl, rfl⟩ ?_ ?_
  · rintro i p ε _ hp ⟨rfl, ho, hfo⟩
    obtain ⟨hi, rfl⟩ := range0_get hp
    obtain ⟨r', e', _, hr'⟩ := T.get hi
    have hle : (i + 1) * (a + 1) ≤ n * (a + 1) := Nat.mul_le_mul_right _ hi
    rw [Nat.succ_mul] at hle
    refine ⟨_, .name (.inl rfl), ?_⟩
    refine ex_cons ?_
    refine ex_assign ?_
    refine ev_call G.radd.callee rfl ?_
    refine evs_cons ?_
    refine ev_name hfo ?_
    refine evs_cons ?_
    refine ev_item ?_
    refine ev_item ?_
    refine ev_name ho ?_
    refine ev_name rfl ?_
    refine ⟨_, _, rfl, Itm.at T.tab e' (by omega), ?_⟩
    refine ev_name rfl ?_
    refine ⟨_, _, rfl, Itm.at hr' (rowQ_at hi) (by omega), ?_⟩
    refine evs_nil ?_
    refine radd_ok G (trN_ht (n := i) (F := F) fun k hk => hF k k (by omega) (by omega)) (hF i i hi hi) (by omega) (by omega) ?_
    refine as_name (.inl rfl) ?_
    refine ex_nil ?_
    exact ⟨.inl rfl, trivial, rfl, ho, rfl⟩
  · rintro ε _ ⟨rfl, ho, hfo⟩
    rw [range_len] at hfo
    refine ex_cons ?_
    refine ex_return ?_
    refine ev_name hfo ?_
    refine ⟨_, .inl rfl, ?_⟩
    exact h
theorem swap_ok (G : Glob B) {r i j : Nat} {rs : List PV} {x y : PV} {P : VPost} (h1 : σ[r]? = some rs) (hi : rs[i]? = some x) (hj : rs[j]? = some y) (hi' : i < 2 ^ 63) (hj' : j < 2 ^ 63) (h : P .none (σ.set r ((rs.set i y).set j x))) : CallV B (d + 1) (.ref (adr B "swap_rows")) [.ref r, .int i, .int j] σ P := by
  have li := (List.getElem?_eq_some_iff.mp hi).1
  have lj := (List.getElem?_eq_some_iff.mp hj).1
  have lr := (List.getElem?_eq_some_iff.mp h1).1
  refine call_def (names := ["a", "one", "other"]) G.swap_rows ⟨rfl, rfl, rfl, by decide +kernel⟩ (by decide +kernel) (fun pm code doc => len3 fun u v w => rfl) rfl ?_
  refine ex_cons ?_
  refine ex_assignT (sc := fnScope (fn 25)) rfl rfl rfl ?_
  refine ev_tuple ?_
  refine evs_cons ?_
  refine ev_item ?_
  refine ev_name rfl ?_
  refine ev_name rfl ?_
  refine ⟨_, _, rfl, Itm.at h1 hj hj', ?_⟩
  refine evs_cons ?_
  refine ev_item ?_
  refine ev_name rfl ?_
  refine ev_name rfl ?_
  refine ⟨_, _, rfl, Itm.at h1 hi hi', ?_⟩
  refine evs_nil ?_
  refine ⟨Nat.le_of_ble_eq_true rfl, ?_⟩
  refine as_tuple rfl ?_
  refine as_item ?_
  refine ev_name rfl ?_
  refine ev_name rfl ?_
  refine ⟨_, _, _, rfl, rfl, h1, by omega, by simpa using li, ?_⟩
  refine as_item ?_
  refine ev_name rfl ?_
  refine ev_name rfl ?_
  refine ⟨_, _, (rs.set i y), rfl, rfl, by simp [lr], by omega, by simpa using lj, ?_⟩
  show Ex _ _ _ _ _ _ _
  refine ex_nil ?_
  refine ⟨_, .inr ⟨rfl, rfl⟩, ?_⟩
  rw [List.set_set]
  exact h
theorem take_off_ok (G : Glob B) {r i s n m a b : Nat} {rs : List PV} {F : Nat → Nat → Rat} {c : Rat} {P : VPost} (T : TabAt σ r rs n fun i => rowQ m (F i)) (hF : HtM a n m F) (hc : Ht b c) (hs : a + b < 2 ^ 20) (hi : i < n) (hs' : s < n) (hn : n ≤ 4096) (hm : m ≤ 4096)
    (h : ∀ σ' nr, Ext σ σ' → σ'[nr]? = some (rowQ m fun j => F i j - c * F s j) → nr ≠ r → P .none (σ'.set r (rs.set i (.ref nr)))) : CallV B (d + 4) (.ref (adr B "take_off")) [.ref r, .int i, .int s, rq c] σ P := by
  obtain ⟨ri, ei, _, hri⟩ := T.get hi
  obtain ⟨r2, es, _, hrs⟩ := T.get hs'
  refine call_def (names := ["a", "row", "source", "number"]) G.take_off ⟨rfl, rfl, rfl, by decide +kernel⟩ (by decide +kernel) (fun pm code doc => len4 fun u v w z => rfl) rfl ?_
  refine ex_cons ?_
  refine ex_assign ?_
  refine ev_comp ⟨by rfl, by decide +kernel, by decide +kernel⟩ (by decide +kernel) ?_
  refine iter_enum G.enumerate rfl ?_
  refine evs_cons ?_
  refine ev_item ?_
  refine ev_name rfl ?_
  refine ev_name rfl ?_
  refine ⟨_, _, rfl, Itm.at T.tab ei (by omega), ?_⟩
  refine evs_nil ?_
  refine ⟨_, _, rfl, hri, ?_⟩
  refine compL_row (fun j => rq (F i j - c * F s j)) ((enum_len _).trans (rowQ_len _ _)) (fun σ' x' => x' _ _ hri) (fun j p σ₂ hp hj x => ?_) fun σ' x => ?_
  · obtain ⟨_, hq, rfl⟩ := enum_get hp
    obtain ⟨_, rfl⟩ := rmap_get hq
    refine ⟨_, .pair (.inl rfl) (.inl rfl), fun K' hK' => ?_⟩
    refine ev_call G.rsub.callee rfl ?_
    refine evs_cons ?_
    refine ev_name rfl ?_
    refine evs_cons ?_
    refine ev_call G.rmul.callee rfl ?_
    refine evs_cons ?_
    refine ev_name rfl ?_
    refine evs_cons ?_
    refine ev_item ?_
    refine ev_item ?_
    refine ev_name rfl ?_
    refine ev_name rfl ?_
    refine ⟨_, _, rfl, Itm.at (x _ _ T.tab) es (by omega), ?_⟩
    refine ev_name rfl ?_
    refine ⟨_, _, rfl, Itm.at (x _ _ hrs) (rowQ_at hj) (by omega), ?_⟩
    refine evs_nil ?_
    refine rmul_ok G hc (hF s j hs' hj) (by omega) (by omega) ?_
    refine evs_nil ?_
    refine rsub_ok G (hF i j hi hj) (hc.mul (hF s j hs' hj)) (by omega) (by omega) ?_
    exact hK' _ (.refl _)
  · refine as_item ?_
    refine ev_name rfl ?_
    refine ev_name rfl ?_
    refine ⟨_, _, rs, rfl, rfl, Ext.app _ _ _ _ (x _ _ T.tab), by omega, by simpa [T.len] using hi, ?_⟩
    have hlt := (List.getElem?_eq_some_iff.mp (x _ _ T.tab)).1
    refine ex_nil ?_
    refine ⟨_, .inr ⟨rfl, rfl⟩, ?_⟩
    exact h _ _ (x.trans (Ext.app _ _)) (app_get _ _) (by omega)
end
end Mine
end

section
open PySem PySem.W PyProof.Rows
set_option maxRecDepth 100000
set_option maxHeartbeats 4000000
namespace Mine
noncomputable def firstN (t : Nat → Bool) : Nat → Option Nat
  | 0 => none
  | k + 1 => match firstN t k with
    | some i => some i
    | none => if t k then some k else none
theorem firstN_some {t : Nat → Bool} : ∀ {n i : Nat}, firstN t n = some i → i < n ∧ t i = true ∧ ∀ k, k < i → t k = false
  | n + 1, i, h => by
    unfold firstN at h
    cases e : firstN t n with
    | some j =>
      rw [e] at h
      cases h
      obtain ⟨a, b, c⟩ := firstN_some e
      exact ⟨by omega, b, c⟩
    | none =>
      rw [e] at h
      dsimp only at h
      split at h
      · cases h
        rename_i ht
        refine ⟨by omega, ht, fun k hk => ?_⟩
        have : ∀ m, firstN t m = none → ∀ k, k < m → t k = false := by
          intro m
          induction m with
          | zero => intro _ k hk; omega
          | succ m ih =>
            intro hm k hk
            unfold firstN at hm
            cases e' : firstN t m with
            | some j => rw [e'] at hm; cases hm
            | none =>
              rw [e'] at hm
              dsimp only at hm
              split at hm
              · cases hm
              · rcases Nat.lt_or_ge k m with h | h
                · exact ih e' k h
                · have : k = m := by omega
                  subst this
                  simpa using ‹¬ t k = true›
        exact this n e k hk
      · cases h
theorem firstN_none {t : Nat → Bool} : ∀ {n : Nat}, firstN t n = none → ∀ k, k < n → t k = false
  | 0, _, k, hk => by omega
  | n + 1, h, k, hk => by
    unfold firstN at h
    cases e : firstN t n with
    | some j => rw [e] at h; cases h
    | none =>
      rw [e] at h
      dsimp only at h
      split at h
      · cases h
      · rcases Nat.lt_or_ge k n with h' | h'
        · exact firstN_none e k h'
        · have : k = n := by omega
          subst this
          simpa using ‹¬ t k = true›
theorem sel_first (t : Nat → Bool) (go : Nat → PV) : ∀ n, match firstN t n with
    | none => sel t go n = []
    | some i => ∃ l, sel t go n = go i :: l
  | 0 => rfl
  | n + 1 => by
    have ih := sel_first t go n
    unfold firstN sel
    cases e : firstN t n with
    | some i =>
      rw [e] at ih
      obtain ⟨l, hl⟩ := ih
      dsimp only
      rw [hl]
      split <;> exact ⟨_, rfl⟩
    | none =>
      rw [e] at ih
      dsimp only at ih ⊢
      rw [ih]
      cases t n <;> simp
theorem sel_le (t : Nat → Bool) (go : Nat → PV) : ∀ n, (sel t go n).length ≤ n
  | 0 => Nat.le_refl _
  | n + 1 => by
    have := sel_le t go n
    unfold sel
    split
    · simp; omega
    · omega

noncomputable def swapF {α : Type} (F : Nat → α) (a b : Nat) : Nat → α := fun i => if i = b then F a else if i = a then F b else F i
noncomputable def elim (F : Nat → Nat → Rat) (row s c : Nat) : Nat → Nat → Rat := fun i j =>
  if i = row then swapF F row s row j / swapF F row s row c else swapF F row s i j - swapF F row s i c * (swapF F row s row j / swapF F row s row c)
noncomputable def echStep (n c : Nat) (st : (Nat → Nat → Rat) × List Nat) : (Nat → Nat → Rat) × List Nat :=
  match firstN (fun i => decide (st.1 (st.2.length + i) c ≠ 0)) (n - st.2.length) with
  | none => st
  | some i => (elim st.1 st.2.length (st.2.length + i) c, st.2 ++ [c])
noncomputable def ech (n : Nat) (F : Nat → Nat → Rat) : Nat → (Nat → Nat → Rat) × List Nat
  | 0 => (F, [])
  | k + 1 => echStep n k (ech n F k)
noncomputable def hts (k : Nat) : Nat → Nat
  | 0 => k
  | p + 1 => 4 * hts k p + 1
theorem hts_succ (k p : Nat) : hts k (p + 1) = 4 * hts k p + 1 := rfl
theorem hts_le {k p q : Nat} (h : p ≤ q) : hts k p ≤ hts k q := by
  induction h with
  | refl => exact Nat.le_refl _
  | step _ ih => exact Nat.le_trans ih (by show _ ≤ 4 * _ + 1; omega)
theorem ech_len {n : Nat} {F : Nat → Nat → Rat} : ∀ k, (ech n F k).2.length ≤ n
  | 0 => Nat.zero_le _
  | k + 1 => by
    have ih := ech_len (n := n) (F := F) k
    unfold ech echStep
    split
    · exact ih
    · rename_i i h
      have := (firstN_some h).1
      simp
      omega
theorem swapF_ht {k n m a b : Nat} {F : Nat → Nat → Rat} (h : HtM k n m F) (ha : a < n) (hb : b < n) : HtM k n m (swapF F a b) := fun i j hi hj => by
  unfold swapF
  split
  · exact h a j ha hj
  · split
    · exact h b j hb hj
    · exact h i j hi hj
theorem TabAt.congr {σ : Store} {r : Nat} {rs : List PV} {n : Nat} {rw rw' : Nat → List PV} (T : TabAt σ r rs n rw) (h : ∀ i, i < n → rw i = rw' i) : TabAt σ r rs n rw' :=
  ⟨T.tab, T.len, fun i q hq => let ⟨r', a, b, c⟩ := T.row i q hq; ⟨r', a, b, by rw [← h i (by rw [← T.len]; exact (List.getElem?_eq_some_iff.mp hq).1)]; exact c⟩⟩
theorem swap_at {rs : List PV} {i j : Nat} {x y : PV} (hi : rs[i]? = some x) (hj : rs[j]? = some y) : ∀ k, ((rs.set i y).set j x)[k]? = swapF (fun k => rs[k]?) i j k := fun k => by
  have li := (List.getElem?_eq_some_iff.mp hi).1
  have lj := (List.getElem?_eq_some_iff.mp hj).1
  unfold swapF
  rw [List.getElem?_set, List.getElem?_set]
  by_cases e : j = k
  · subst e; simp [lj, hi]
  · rw [if_neg e, if_neg (Ne.symm e)]
    by_cases e' : i = k
    · subst e'; simp [li, hj]
    · rw [if_neg e', if_neg (Ne.symm e')]
theorem TabAt.swap {σ : Store} {r : Nat} {rs : List PV} {n i j : Nat} {rw : Nat → List PV} {x y : PV} (T : TabAt σ r rs n rw) (hi : rs[i]? = some x) (hj : rs[j]? = some y) :
    TabAt (σ.set r ((rs.set i y).set j x)) r ((rs.set i y).set j x) n (swapF rw i j) := by
  have hlt := (List.getElem?_eq_some_iff.mp T.tab).1
  refine ⟨by simp [hlt], by simp [T.len], fun k q hq => ?_⟩
  rw [swap_at hi hj] at hq
  have fin : ∀ k', rs[k']? = some q → rw k' = swapF rw i j k → ∃ r', q = .ref r' ∧ r' ≠ r ∧ (σ.set r ((rs.set i y).set j x))[r']? = some (swapF rw i j k) := fun k' h1 h2 => by
    obtain ⟨r', a, b, c⟩ := T.row k' q h1
    exact ⟨r', a, b, by rw [List.getElem?_set_ne (Ne.symm b), ← h2]; exact c⟩
  unfold swapF at hq
  split at hq
  · exact fin i hq (by unfold swapF; rw [if_pos ‹_›])
  · split at hq
    · exact fin j hq (by unfold swapF; rw [if_neg ‹_›, if_pos ‹_›])
    · exact fin k hq (by unfold swapF; rw [if_neg ‹_›, if_neg ‹_›])
theorem swap_mem {rs : List PV} {i j : Nat} {x y : PV} (hi : rs[i]? = some x) (hj : rs[j]? = some y) {q : PV} (h : q ∈ (rs.set i y).set j x) : q ∈ rs := by
  obtain ⟨k, hk⟩ := List.getElem?_of_mem h
  rw [swap_at hi hj] at hk
  unfold swapF at hk
  split at hk
  · exact List.mem_of_getElem? hk
  · split at hk <;> exact List.mem_of_getElem? hk
theorem rq_ne (q : Rat) : (!decide ([q.num, (q.den : Int)] = [0, 1])) = decide (q ≠ 0) := by
  by_cases h : q = 0
  · subst h; decide
  · have : q.num ≠ 0 := fun e => h (Rat.num_eq_zero.mp e)
    simp [h, this]
noncomputable def IsInts (σ : Store) (p : PV) (l : List Nat) : Prop := ∃ r, p = .ref r ∧ σ[r]? = some (l.map fun (k : Nat) => PV.int (k : Int))
theorem IsInts.ext {σ σ' : Store} {p : PV} {l : List Nat} (h : IsInts σ p l) (x : Ext σ σ') : IsInts σ' p l := let ⟨r, a, b⟩ := h; ⟨r, a, x _ _ b⟩
theorem rangeN_get {a n i : Nat} {p : PV} (h : (rangeP (a : Int) n)[i]? = some p) : i < n ∧ p = .int ((a + i : Nat) : Int) := by
  obtain ⟨h1, h2⟩ := rangeP_get h
  exact ⟨h1, by rw [h2]; simp⟩
section
variable {B : Base} {d : Nat} {κ : Str → Option NameKind} {ε : PEnv} {σ : Store}
theorem cmp_ne_rq0 {q : Rat} {P : Bool → Prop} (h : P (decide (q ≠ 0))) : Cmp B d .NotEq (rq q) (.tup [.int 0, .int 1]) σ P :=
  cmp_ne_tup (as := [q.num, (q.den : Int)]) (bs := [0, 1]) rfl (by rw [rq_ne]; exact h)

theorem echelon_ok (G : Glob B) {p : PV} {n m k : Nat} {F : Nat → Nat → Rat} {P : VPost} (T : TabQ σ p n m F) (hF : HtM k n m F) (hs : 2 * hts k n < 2 ^ 20) (hn : 0 < n) (hn' : n ≤ 4096) (hm : m ≤ 4095)
    (h : ∀ q1 q2 σ', Ext σ σ' → TabQ σ' q1 n m (ech n F m).1 → IsInts σ' q2 (ech n F m).2 → P (.tup [q1, q2]) σ') : CallV B (d + 5) (.ref (adr B "echelon")) [p] σ P := by
  have T₀ := T
  obtain ⟨r, rs, rfl, T⟩ := T
  refine call_def (names := ["a"]) G.echelon ⟨rfl, rfl, rfl, by decide +kernel⟩ (by decide +kernel) (fun pm code doc => len1 fun u => rfl) rfl ?_
  refine ex_cons ?_
  refine ex_assignT (sc := fnScope (fn 27)) rfl rfl rfl ?_
  refine ev_tuple ?_
  refine evs_cons ?_
  refine ev_call G.copied.callee rfl ?_
  refine evs_cons ?_
  refine ev_name rfl ?_
  refine evs_nil ?_
  refine copied_ok G T₀ fun fr rs₁ σ₁ x₁ nd hfr T₁ => ?_
  refine evs_cons ?_
  refine ev_list ?_
  refine evs_nil ?_
  refine ⟨Nat.zero_le _, ?_⟩
  refine evs_nil ?_
  refine ⟨Nat.le_of_ble_eq_true rfl, ?_⟩
  refine as_tuple rfl ?_
  refine as_name (.inr rfl) ?_
  refine as_name (.inl rfl) ?_
  show Ex _ _ _ _ _ _ _
  have lfr : fr < σ₁.length := (List.getElem?_eq_some_iff.mp T₁.tab).1
  refine ex_cons ?_
  refine ex_for ?_
  refine iter_range1 G.range rfl ?_
  refine evs_cons ?_
  refine ev_item ?_
  refine ev_call G.shape.callee rfl ?_
  refine evs_cons ?_
  refine ev_name rfl ?_
  refine evs_nil ?_
  refine shape_ok (m := m) G (T₀.ext (x₁.trans (Ext.app _ _))) hn (rowQ_len _ _) ?_
  refine ev_int ?_
  refine ⟨1, _, rfl, ⟨by decide, by decide, rfl⟩, ?_⟩
  refine evs_nil ?_
  refine ⟨m, rfl, by omega, ?_⟩
  have hpr : σ₁.length ≠ fr := by omega
  have hprσ : σ.length ≤ σ₁.length := x₁.len
  refine forL_ind (fun c ε σ' => ∃ rs, Ext σ σ' ∧ σ₁.length < σ'.length ∧ TabAt σ' fr rs n (fun i => rowQ m ((ech n F c).1 i)) ∧ σ'[σ₁.length]? = some ((ech n F c).2.map fun (k : Nat) => PV.int (k : Int)) ∧ (∀ q ∈ rs, q ≠ .ref σ₁.length) ∧
    HtM (hts k (ech n F c).2.length) n m (ech n F c).1 ∧ (ech n F c).2.length ≤ c ∧ ε "found" = some (.ref fr) ∧ ε "pivots" = some (.ref σ₁.length)) ?_ ?_ ?_
  · refine ⟨rs₁, x₁.trans (Ext.app _ _), by simp, T₁.ext (Ext.app _ _), app_get _ _, fun q hq e => ?_, hF, Nat.le_refl _, rfl, rfl⟩
    obtain ⟨i, hi⟩ := List.getElem?_of_mem hq
    obtain ⟨r', a, b, c⟩ := T₁.row i q hi
    rw [a] at e
    cases e
    exact absurd (List.getElem?_eq_some_iff.mp c).1 (Nat.lt_irrefl _)
  · rintro c p ε σ₂ hp ⟨rs₂, x₂, l₂, T₂, hpiv, hq₂, ht, hcl, hfo, hpi⟩
    obtain ⟨hc, rfl⟩ := range0_get hp
    refine ⟨_, .name (.inr rfl), ?_⟩
    generalize hst : ech n F c = st at *
    obtain ⟨F₂, piv⟩ := st
    dsimp only at *
    have hlen : piv.length ≤ n := by have := ech_len (n := n) (F := F) c; rw [hst] at this; exact this
    have hstep : ech n F (c + 1) = echStep n c (F₂, piv) := by rw [ech, hst]
    have hbig : 2 * hts k piv.length < 2 ^ 20 := Nat.lt_of_le_of_lt (Nat.mul_le_mul_left _ (hts_le hlen)) hs
    refine ex_cons ?_
    refine ex_assign ?_
    refine ev_call G.len rfl ?_
    refine evs_cons ?_
    refine ev_name hpi ?_
    refine evs_nil ?_
    refine call_len' (n := piv.length) hpiv (by simp) ?_
    refine as_name (.inl rfl) ?_
    refine ex_cons ?_
    refine ex_assign_comp ⟨by rfl, by decide +kernel, by decide +kernel⟩ (by decide +kernel) (.inl rfl) ?_
    refine iter_range2 G.range rfl ?_
    refine evs_cons ?_
    refine ev_name rfl ?_
    refine evs_cons ?_
    refine ev_call G.len rfl ?_
    refine evs_cons ?_
    refine ev_name hfo ?_
    refine evs_nil ?_
    refine call_len' T₂.tab T₂.len ?_
    refine evs_nil ?_
    refine ⟨piv.length, n, rfl, by omega, hn', ?_⟩
    refine compL_sel (fun i => decide (F₂ (piv.length + i) c ≠ 0)) (fun i => .int ((piv.length + i : Nat) : Int)) (range_len _ _) (fun σ' x => trivial) (fun i p σ₃ hp hi x => ?_) fun σ₃ x₃ => ?_
    · obtain ⟨_, rfl⟩ := rangeN_get hp
      obtain ⟨r', e', _, hr'⟩ := T₂.get (i := piv.length + i) (by omega)
      refine ⟨_, .name (.inl rfl), fun K hK => ?_, fun σ₄ K x₄ hti hK => ev_name rfl (hK _ (.refl _))⟩
      refine tst_cmp ?_
      refine ev_item ?_
      refine ev_item ?_
      refine ev_name hfo ?_
      refine ev_name rfl ?_
      refine ⟨_, _, rfl, Itm.at (x _ _ T₂.tab) e' (by omega), ?_⟩
      refine ev_name rfl ?_
      refine ⟨_, _, rfl, Itm.at (x _ _ hr') (rowQ_at hc) (by omega), ?_⟩
      refine ev_toptup G.R0 rfl ?_
      exact cmp_ne_rq0 (hK _ (.refl _))
    have hsf := sel_first (fun i => decide (F₂ (piv.length + i) c ≠ 0)) (fun i => PV.int ((piv.length + i : Nat) : Int)) (n - piv.length)
    refine ex_cons ?_
    refine ex_if ?_
    refine tst_cmp ?_
    refine ev_call G.len rfl ?_
    refine evs_cons ?_
    refine ev_name rfl ?_
    refine evs_nil ?_
    refine call_len (app_get _ _) ?_
    refine ev_int ?_
    refine cmp_eq ?_
    have x₃' : Ext σ₂ (σ₃ ++ [sel (fun i => decide (F₂ (piv.length + i) c ≠ 0)) (fun i => PV.int ((piv.length + i : Nat) : Int)) (n - piv.length)]) := x₃.trans (Ext.app _ _)
    have hsp := app_get σ₃ (sel (fun i => decide (F₂ (piv.length + i) c ≠ 0)) (fun i => PV.int ((piv.length + i : Nat) : Int)) (n - piv.length))
    have lsp : σ₂.length ≤ σ₃.length := x₃.len
    generalize σ₃ ++ [sel (fun i => decide (F₂ (piv.length + i) c ≠ 0)) (fun i => PV.int ((piv.length + i : Nat) : Int)) (n - piv.length)] = σ₄ at *
    generalize hspn : σ₃.length = spn at *
    cases hf : firstN (fun i => decide (F₂ (piv.length + i) c ≠ 0)) (n - piv.length) with
    | none =>
      rw [hf] at hsf
      dsimp only at hsf
      rw [hsf]
      rw [show (((([] : List PV).length : Nat) : Int) == 0) = true from rfl, if_pos rfl]
      refine ex_cons ?_
      refine ex_continue ?_
      have e : ech n F (c + 1) = (F₂, piv) := by rw [hstep]; unfold echStep; dsimp only; rw [hf]
      rw [e]
      exact ⟨.inr rfl, trivial, rs₂, x₂.trans x₃', Nat.lt_of_lt_of_le l₂ x₃'.len, T₂.ext x₃', x₃' _ _ hpiv, hq₂, ht, by show piv.length ≤ c + 1; omega, hfo, hpi⟩
    | some i =>
      rw [hf] at hsf
      obtain ⟨ls, hls⟩ := hsf
      obtain ⟨hi, hti, _⟩ := firstN_some hf
      have hne : F₂ (piv.length + i) c ≠ 0 := by simpa using hti
      rw [hls] at hsp ⊢
      rw [show ((((PV.int ((piv.length + i : Nat) : Int) :: ls).length : Nat) : Int) == 0) = false from beq_eq_false_iff_ne.mpr (by simp; omega), if_neg (by simp)]
      have hrow : piv.length < n := by omega
      have hsn : piv.length + i < n := by omega
      obtain ⟨rr, er, nr, hr⟩ := T₂.get hrow
      obtain ⟨sr, es, ns, hsr⟩ := T₂.get hsn
      refine ex_nil ?_
      refine ex_cons ?_
      refine ex_expr ?_
      refine ev_call G.swap_rows.callee rfl ?_
      refine evs_cons ?_
      refine ev_name hfo ?_
      refine evs_cons ?_
      refine ev_name rfl ?_
      refine evs_cons ?_
      refine ev_item ?_
      refine ev_name rfl ?_
      refine ev_int ?_
      refine ⟨0, _, rfl, Itm.at hsp rfl (by decide), ?_⟩
      refine evs_nil ?_
      refine swap_ok G (x₃' _ _ T₂.tab) er es (by omega) (by omega) ?_
      have T₄ := ((T₂.ext x₃').swap er es).congr (rw' := fun i' => rowQ m (swapF F₂ piv.length (piv.length + i) i')) fun i' _ => by
        unfold swapF
        split
        · rfl
        · split <;> rfl
      have hmem : ∀ q ∈ (rs₂.set piv.length (.ref sr)).set (piv.length + i) (.ref rr), q ≠ .ref σ₁.length := fun q hq => hq₂ q (swap_mem er es hq)
      have x₄ : Ext σ (σ₄.set fr ((rs₂.set piv.length (.ref sr)).set (piv.length + i) (.ref rr))) := (x₂.trans x₃').set hfr _
      have l₄ : σ₁.length < (σ₄.set fr ((rs₂.set piv.length (.ref sr)).set (piv.length + i) (.ref rr))).length := by rw [List.length_set]; exact Nat.lt_of_lt_of_le l₂ x₃'.len
      have hp₄ : (σ₄.set fr ((rs₂.set piv.length (.ref sr)).set (piv.length + i) (.ref rr)))[σ₁.length]? = some (piv.map fun (k : Nat) => PV.int (k : Int)) := by rw [List.getElem?_set_ne (Ne.symm hpr)]; exact x₃' _ _ hpiv
      have htS := swapF_ht ht hrow hsn
      have hlead : swapF F₂ piv.length (piv.length + i) piv.length c ≠ 0 := by
        unfold swapF
        split
        · rename_i e; rw [e]; exact hne
        · rw [if_pos rfl]; exact hne
      generalize σ₄.set fr ((rs₂.set piv.length (.ref sr)).set (piv.length + i) (.ref rr)) = σ₅ at *
      generalize (rs₂.set piv.length (.ref sr)).set (piv.length + i) (.ref rr) = rs₅ at *
      have e' : ech n F (c + 1) = (elim F₂ piv.length (piv.length + i) c, piv ++ [c]) := by rw [hstep]; unfold echStep; dsimp only; rw [hf]
      unfold elim at e'
      generalize swapF F₂ piv.length (piv.length + i) = S at *
      rw [e']
      obtain ⟨rr, er, nr, hr⟩ := T₄.get hrow
      refine ex_cons ?_
      refine ex_assign ?_
      refine ev_item ?_
      refine ev_item ?_
      refine ev_name hfo ?_
      refine ev_name rfl ?_
      refine ⟨_, _, rfl, Itm.at T₄.tab er (by omega), ?_⟩
      refine ev_name rfl ?_
      refine ⟨_, _, rfl, Itm.at hr (rowQ_at hc) (by omega), ?_⟩
      refine as_name (.inr rfl) ?_
      refine ex_cons ?_
      refine ex_assign ?_
      refine ev_comp ⟨by rfl, by decide +kernel, by decide +kernel⟩ (by decide +kernel) ?_
      refine iter_list ?_
      refine ev_item ?_
      refine ev_name hfo ?_
      refine ev_name rfl ?_
      refine ⟨_, _, rfl, Itm.at T₄.tab er (by omega), ?_⟩
      refine ⟨_, _, rfl, hr, ?_⟩
      refine compL_row (fun j => rq (S piv.length j / S piv.length c)) (rowQ_len _ _) (fun σ' x' => x' _ _ hr) (fun j p σ₆ hp hj x => ?_) fun σ₆ x₆ => ?_
      · obtain ⟨_, rfl⟩ := rmap_get hp
        refine ⟨_, .name (.inl rfl), fun K' hK' => ?_⟩
        refine ev_call G.rdiv.callee rfl ?_
        refine evs_cons ?_
        refine ev_name rfl ?_
        refine evs_cons ?_
        refine ev_name rfl ?_
        refine evs_nil ?_
        refine rdiv_ok G (htS _ j hrow hj) (htS _ c hrow hc) (by omega) (by omega) hlead ?_
        exact hK' _ (.refl _)
      refine as_item ?_
      refine ev_name hfo ?_
      refine ev_name rfl ?_
      refine ⟨_, _, rs₅, rfl, rfl, Ext.app _ _ _ _ (x₆ _ _ T₄.tab), by omega, by simpa [T₄.len] using hrow, ?_⟩
      have lfr₆ : fr < σ₆.length := (List.getElem?_eq_some_iff.mp (x₆ _ _ T₄.tab)).1
      have T₆ := T₄.set (i := piv.length) (x₆.trans (Ext.app σ₆ (rowQ m fun j => S piv.length j / S piv.length c))) (app_get _ _) (by omega) hrow
      have x₇ := (x₄.trans (x₆.trans (Ext.app σ₆ (rowQ m fun j => S piv.length j / S piv.length c)))).set hfr (rs₅.set piv.length (.ref σ₆.length))
      have l₇ : σ₁.length < ((σ₆ ++ [rowQ m fun j => S piv.length j / S piv.length c]).set fr (rs₅.set piv.length (.ref σ₆.length))).length := by rw [List.length_set, len_app]; have := x₆.len; omega
      have hp₇ : ((σ₆ ++ [rowQ m fun j => S piv.length j / S piv.length c]).set fr (rs₅.set piv.length (.ref σ₆.length)))[σ₁.length]? = some (piv.map fun (k : Nat) => PV.int (k : Int)) := by rw [List.getElem?_set_ne (Ne.symm hpr)]; exact Ext.app _ _ _ _ (x₆ _ _ hp₄)
      have hmem₇ : ∀ q ∈ rs₅.set piv.length (.ref σ₆.length), q ≠ .ref σ₁.length := fun q hq => by
        rcases List.mem_or_eq_of_mem_set hq with h | h
        · exact hmem q h
        · subst h
          have := x₆.len
          intro e
          have := PV.ref.inj e
          omega
      show Ex _ _ _ _ ((σ₆ ++ [rowQ m fun j => S piv.length j / S piv.length c]).set fr (rs₅.set piv.length (.ref σ₆.length))) _ _
      generalize (σ₆ ++ [rowQ m fun j => S piv.length j / S piv.length c]).set fr (rs₅.set piv.length (.ref σ₆.length)) = σ₇ at *
      generalize rs₅.set piv.length (.ref σ₆.length) = rs₇ at *
      refine ex_cons ?_
      refine ex_for ?_
      refine iter_range1 G.range rfl ?_
      refine evs_cons ?_
      refine ev_call G.len rfl ?_
      refine evs_cons ?_
      refine ev_name hfo ?_
      refine evs_nil ?_
      refine call_len' T₆.tab T₆.len ?_
      refine evs_nil ?_
      refine ⟨n, rfl, hn', ?_⟩
      have htD : ∀ j, j < m → Ht (2 * hts k piv.length) (S piv.length j / S piv.length c) := fun j hj => by rw [Nat.two_mul]; exact (htS _ j hrow hj).div (htS _ c hrow hc) hlead
      refine forL_ind (fun o ε σ' => ∃ rs, Ext σ σ' ∧ σ₁.length < σ'.length ∧ TabAt σ' fr rs n (fun i => rowQ m fun j => if i = piv.length then S piv.length j / S piv.length c else if i < o then S i j - S i c * (S piv.length j / S piv.length c) else S i j) ∧
        σ'[σ₁.length]? = some (piv.map fun (k : Nat) => PV.int (k : Int)) ∧ (∀ q ∈ rs, q ≠ .ref σ₁.length) ∧ ε "found" = some (.ref fr) ∧ ε "pivots" = some (.ref σ₁.length) ∧ ε "row" = some (.int piv.length) ∧ ε "column" = some (.int c)) ?_ ?_ ?_
      · refine ⟨rs₇, x₇, l₇, T₆.congr fun i' _ => ?_, hp₇, hmem₇, hfo, hpi, rfl, rfl⟩
        by_cases e : i' = piv.length
        · subst e; simp [rowQ]
        · simp [rowQ, e]
      · rintro o p ε σ₈ hp ⟨rs₈, x₈, l₈, T₈, hp₈, hm₈, hfo, hpi, hrw, hcol⟩
        obtain ⟨ho, rfl⟩ := range0_get hp
        refine ⟨_, .name (.inl rfl), ?_⟩
        refine ex_cons ?_
        refine ex_if ?_
        refine tst_and ?_
        refine tst_cmp ?_
        refine ev_name rfl ?_
        refine ev_name hrw ?_
        refine cmp_ne ?_
        obtain ⟨ro, eo, no, hro⟩ := T₈.get ho
        by_cases e : o = piv.length
        · rw [show ((o : Int) != (piv.length : Int)) = false by simp [e], if_neg (by simp), if_neg (by simp)]
          refine ex_nil ?_
          refine ex_nil ?_
          refine ⟨.inl rfl, trivial, rs₈, x₈, l₈, T₈.congr fun i' _ => ?_, hp₈, hm₈, hfo, hpi, hrw, hcol⟩
          unfold rowQ
          congr 1
          funext j
          dsimp only
          by_cases e1 : i' = piv.length
          · rw [if_pos e1, if_pos e1]
          · rw [if_neg e1, if_neg e1]
            by_cases e2 : i' < o
            · rw [if_pos e2, if_pos (by omega)]
            · rw [if_neg e2, if_neg (by omega)]
        · rw [show ((o : Int) != (piv.length : Int)) = true by simp; omega, if_pos rfl]
          have hSo : ∀ j, (if o = piv.length then S piv.length j / S piv.length c else if o < o then S o j - S o c * (S piv.length j / S piv.length c) else S o j) = S o j := fun j => by rw [if_neg e, if_neg (Nat.lt_irrefl _)]
          simp only [hSo] at hro
          refine tst_cmp ?_
          refine ev_item ?_
          refine ev_item ?_
          refine ev_name hfo ?_
          refine ev_name rfl ?_
          refine ⟨_, _, rfl, Itm.at T₈.tab eo (by omega), ?_⟩
          refine ev_name hcol ?_
          refine ⟨_, _, rfl, Itm.at hro (rowQ_at hc) (by omega), ?_⟩
          refine ev_toptup G.R0 rfl ?_
          refine cmp_ne_rq0 ?_
          by_cases hz : S o c = 0
          · rw [decide_eq_false (by simpa using hz), if_neg (by simp)]
            refine ex_nil ?_
            refine ex_nil ?_
            refine ⟨.inl rfl, trivial, rs₈, x₈, l₈, T₈.congr fun i' _ => ?_, hp₈, hm₈, hfo, hpi, hrw, hcol⟩
            unfold rowQ
            congr 1
            funext j
            dsimp only
            by_cases e1 : i' = piv.length
            · rw [if_pos e1, if_pos e1]
            · rw [if_neg e1, if_neg e1]
              by_cases e2 : i' < o
              · rw [if_pos e2, if_pos (by omega)]
              · rw [if_neg e2]
                by_cases e3 : i' = o
                · subst e3
                  rw [if_pos (by omega), hz, Rat.zero_mul, Rat.sub_eq_add_neg, Rat.neg_zero, Rat.add_zero]
                · rw [if_neg (by omega)]
          · rw [decide_eq_true (by simpa using hz), if_pos rfl]
            refine ex_cons ?_
            refine ex_expr ?_
            refine ev_call G.take_off.callee rfl ?_
            refine evs_cons ?_
            refine ev_name hfo ?_
            refine evs_cons ?_
            refine ev_name rfl ?_
            refine evs_cons ?_
            refine ev_name hrw ?_
            refine evs_cons ?_
            refine ev_item ?_
            refine ev_item ?_
            refine ev_name hfo ?_
            refine ev_name rfl ?_
            refine ⟨_, _, rfl, Itm.at T₈.tab eo (by omega), ?_⟩
            refine ev_name hcol ?_
            refine ⟨_, _, rfl, Itm.at hro (rowQ_at hc) (by omega), ?_⟩
            refine evs_nil ?_
            refine take_off_ok (a := 4 * hts k piv.length + 1) G T₈ (fun i' j hi' hj => ?_) (htS o c ho hc) (by have := hts_le (k := k) (show piv.length + 1 ≤ n by omega); rw [hts_succ] at this; omega) ho hrow hn' (by omega) fun σ₉ nr x₉ hnr hne => ?_
            · try dsimp only
              split
              · exact (htD j hj).mono (by omega)
              · split
                · exact (((htS i' j hi' hj)).sub ((htS i' c hi' hc).mul (htD j hj))).mono (by omega)
                · exact (htS i' j hi' hj).mono (by omega)
            refine ex_nil ?_
            refine ex_nil ?_
            have lne : nr ≠ σ₁.length := fun e => by
              subst e
              rw [x₉ _ _ hp₈] at hnr
              have hnr := Option.some.inj hnr
              have := congrArg (fun l => l[0]?) hnr
              rw [show (rowQ m fun j => (if o = piv.length then S piv.length j / S piv.length c else if o < o then S o j - S o c * (S piv.length j / S piv.length c) else S o j) - S o c * (if piv.length = piv.length then S piv.length j / S piv.length c else if piv.length < o then S piv.length j - S piv.length c * (S piv.length j / S piv.length c) else S piv.length j))[0]? = _ from rowQ_at (Nat.lt_of_le_of_lt (Nat.zero_le _) hc)] at this
              rw [List.getElem?_map] at this
              cases hh : piv[0]? with
              | none => rw [hh] at this; cases this
              | some z => rw [hh] at this; cases this
            have T₉ := T₈.set (i := o) x₉ hnr hne ho
            refine ⟨.inl rfl, trivial, _, (x₈.trans x₉).set hfr _, by rw [List.length_set]; exact Nat.lt_of_lt_of_le l₈ x₉.len, T₉.congr fun i' _ => ?_, by rw [List.getElem?_set_ne (Ne.symm hpr)]; exact x₉ _ _ hp₈, fun q hq => ?_, hfo, hpi, hrw, hcol⟩
            · by_cases e3 : i' = o
              · subst e3
                rw [if_pos rfl]
                unfold rowQ
                congr 1
                funext j
                dsimp only
                rw [if_neg e, if_neg (Nat.lt_irrefl _), if_pos rfl, if_neg e, if_pos (by omega)]
              · rw [if_neg e3]
                unfold rowQ
                congr 1
                funext j
                dsimp only
                by_cases e1 : i' = piv.length
                · rw [if_pos e1, if_pos e1]
                · rw [if_neg e1, if_neg e1]
                  by_cases e2 : i' < o
                  · rw [if_pos e2, if_pos (by omega)]
                  · rw [if_neg e2, if_neg (by omega)]
            · rcases List.mem_or_eq_of_mem_set hq with h | h
              · exact hm₈ q h
              · subst h
                intro e
                cases e
                exact lne rfl
      · rintro ε σ₈ ⟨rs₈, x₈, l₈, T₈, hp₈, hm₈, hfo, hpi, hrw, hcol⟩
        rw [range_len] at T₈
        refine ex_cons ?_
        refine ex_expr ?_
        refine ev_append ?_
        refine ev_name hpi ?_
        refine ⟨_, rfl, l₈, ?_⟩
        refine ev_name hcol ?_
        refine ⟨_, hp₈, by simp; omega, ?_⟩
        refine ex_nil ?_
        refine ⟨.inl rfl, trivial, rs₈, x₈.set hprσ _, by rw [List.length_set]; exact l₈, ?_, by simp [l₈], hm₈, fun i' j hi' hj => ?_, by simp; omega, hfo, hpi⟩
        · refine ⟨by rw [List.getElem?_set_ne hpr]; exact T₈.tab, T₈.len, fun i' q hq => ?_⟩
          obtain ⟨r', a, b, c'⟩ := T₈.row i' q hq
          have hne' : r' ≠ σ₁.length := fun e => hm₈ q (List.mem_of_getElem? hq) (by rw [a, e])
          refine ⟨r', a, b, ?_⟩
          rw [List.getElem?_set_ne (Ne.symm hne'), c']
          congr 1
          unfold rowQ
          congr 1
          funext j
          have : i' < n := by rw [← T₈.len]; exact (List.getElem?_eq_some_iff.mp hq).1
          dsimp only
          by_cases e1 : i' = piv.length
          · rw [if_pos e1, if_pos e1]
          · rw [if_neg e1, if_neg e1, if_pos this]
        · rw [show (piv ++ [c]).length = piv.length + 1 by simp]
          show Ht (4 * hts k piv.length + 1) _
          try dsimp only
          split
          · exact (htD j hj).mono (by omega)
          · exact (((htS i' j hi' hj)).sub ((htS i' c hi' hc).mul (htD j hj))).mono (by omega)
  · rintro ε σ' ⟨rs₂, x₂, l₂, T₂, hpiv, hq₂, ht, hcl, hfo, hpi⟩
    rw [range_len] at T₂ hpiv
    refine ex_cons ?_
    refine ex_return ?_
    refine ev_tuple ?_
    refine evs_cons ?_
    refine ev_name hfo ?_
    refine evs_cons ?_
    refine ev_name hpi ?_
    refine evs_nil ?_
    refine ⟨Nat.le_of_ble_eq_true rfl, _, .inl rfl, ?_⟩
    exact h _ _ _ x₂ ⟨_, _, rfl, T₂⟩ ⟨_, rfl, hpiv⟩
end
end Mine
end

section
open PySem PySem.W PyProof.Rows
set_option maxRecDepth 100000
set_option maxHeartbeats 4000000
namespace Mine
noncomputable def wideF (n : Nat) (F : Nat → Nat → Rat) : Nat → Nat → Rat := fun i j => if j < n then F i j else if i = j - n then 1 else 0
noncomputable def invE (n : Nat) (F : Nat → Nat → Rat) : (Nat → Nat → Rat) × List Nat := ech n (wideF n F) (2 * n)
noncomputable def invF (n : Nat) (F : Nat → Nat → Rat) : Nat → Nat → Rat := fun i j => (invE n F).1 i (n + j)
noncomputable def invOk (n : Nat) (F : Nat → Nat → Rat) : Bool := decide ((invE n F).2.take n = List.range n)
theorem wide_ht {k n : Nat} {F : Nat → Nat → Rat} (h : HtM k n n F) : HtM k n (2 * n) (wideF n F) := fun i j hi hj => by
  unfold wideF
  split
  · exact h i j hi ‹_›
  · split
    · exact Ht.one.mono (Nat.zero_le _)
    · exact Ht.zero.mono (Nat.zero_le _)
theorem row_wide (n i : Nat) (F : Nat → Nat → Rat) : rowQ n (F i) ++ rowQ n (fun j => if i = j then 1 else 0) = rowQ (2 * n) (wideF n F i) := by
  refine List.ext_getElem? fun j => ?_
  have hR : (rowQ (2 * n) (wideF n F i))[j]? = if j < 2 * n then some (rq (wideF n F i j)) else none := by
    split
    · exact rowQ_at ‹_›
    · exact List.getElem?_eq_none (by rw [rowQ_len]; omega)
  rw [hR, List.getElem?_append, rowQ_len]
  by_cases h : j < n
  · rw [if_pos h, if_pos (by omega), rowQ_at h]
    unfold wideF
    rw [if_pos h]
  · rw [if_neg h]
    by_cases h2 : j < 2 * n
    · rw [if_pos h2, rowQ_at (by omega)]
      unfold wideF
      rw [if_neg h]
    · rw [if_neg h2]
      exact List.getElem?_eq_none (by rw [rowQ_len]; omega)
theorem row_drop (n : Nat) (f : Nat → Rat) : (rowQ (2 * n) f).drop n = rowQ n fun j => f (n + j) := by
  refine List.ext_getElem (by simp [rowQ]; omega) fun j h1 h2 => ?_
  simp [rowQ]
noncomputable def cpM (n : Nat) (F : Nat → Nat → Rat) : Nat → Nat → Nat → Rat
  | 0 => fun i j => if i = j then 1 else 0
  | k + 1 => fun i j => mulF n F (cpM n F k) i j + (if i = j then 1 else 0) * -(trN n (mulF n F (cpM n F k)) / ((1 + k : Nat) : Int))
noncomputable def cpC (n : Nat) (F : Nat → Nat → Rat) (k : Nat) : Rat := -(trN n (mulF n F (cpM n F k)) / ((1 + k : Nat) : Int))
noncomputable def cp (n : Nat) (F : Nat → Nat → Rat) (i : Nat) : Rat := if i = n then 1 else cpC n F (n - 1 - i)
noncomputable def cpT (a n h : Nat) : Nat := n * (a + h + 1)
noncomputable def cpH (a n : Nat) : Nat → Nat
  | 0 => 0
  | k + 1 => cpT a n (cpH a n k) + (0 + (n * (cpT a n (cpH a n k) + 1) + 2)) + 1
theorem cpH_le {a n : Nat} (hn : 0 < n) : ∀ {p q : Nat}, p ≤ q → cpH a n p ≤ cpH a n q := fun {p q} h => by
  induction h with
  | refl => exact Nat.le_refl _
  | @step m _ ih =>
    refine Nat.le_trans ih ?_
    show _ ≤ cpT a n (cpH a n m) + (0 + (n * (cpT a n (cpH a n m) + 1) + 2)) + 1
    have : cpH a n m ≤ cpT a n (cpH a n m) := by
      unfold cpT
      exact Nat.le_trans (by omega) (Nat.le_mul_of_pos_left (a + cpH a n m + 1) hn)
    omega
theorem ht_step {k : Nat} (h : k ≤ 4) : Ht 2 (((k : Nat) : Int) : Rat) := by
  refine ⟨?_, ?_⟩
  · rw [Rat.num_intCast]; simp; omega
  · rw [Rat.den_intCast]; decide
theorem cpM_ht {a n : Nat} {F : Nat → Nat → Rat} (hF : HtM a n n F) (hn : n ≤ 4) : ∀ {k : Nat}, k ≤ n → HtM (cpH a n k) n n (cpM n F k)
  | 0, _ => fun i j _ _ => by
    unfold cpM
    split
    · exact Ht.one
    · exact Ht.zero
  | k + 1, hk => fun i j hi hj => by
    have h1 := mulF_ht hF (cpM_ht hF hn (k := k) (by omega))
    have h2 := trN_ht (n := n) fun i hi => h1 i i hi hi
    have hne : ((((1 + k : Nat) : Int)) : Rat) ≠ 0 := by
      intro e
      have := Rat.intCast_inj.mp (e.trans Rat.intCast_zero.symm)
      omega
    have h3 := (h2.div (ht_step (k := 1 + k) (by omega)) hne).neg
    have h4 : Ht 0 (if i = j then (1 : Rat) else 0) := by
      split
      · exact Ht.one
      · exact Ht.zero
    exact (h1 i j hi hj).add (h4.mul h3)
theorem neStep (k : Nat) : ((((1 + k : Nat) : Int)) : Rat) ≠ 0 := by
  intro e
  have := Rat.intCast_inj.mp (e.trans Rat.intCast_zero.symm)
  omega
theorem cpL_rev (n : Nat) (F : Nat → Nat → Rat) : (rq 1 :: (List.range n).map fun k => rq (cpC n F k)).reverse = rowQ (n + 1) (cp n F) := by
  refine List.ext_getElem (by simp [rowQ]) fun j h1 h2 => ?_
  rw [List.getElem_reverse]
  have hj : j < n + 1 := by simpa [rowQ] using h2
  simp only [rowQ, List.getElem_map, List.getElem_range, cp]
  by_cases e : j = n
  · subst e
    simp
  · rw [if_neg e]
    have : (rq 1 :: (List.range n).map fun k => rq (cpC n F k)).length - 1 - j = (n - 1 - j) + 1 := by simp; omega
    simp only [this, List.getElem_cons_succ, List.getElem_map, List.getElem_range]
section
variable {B : Base} {d : Nat} {κ : Str → Option NameKind} {ε : PEnv} {σ : Store}
theorem rank_ok (G : Glob B) {p : PV} {n m k : Nat} {F : Nat → Nat → Rat} {P : VPost} (T : TabQ σ p n m F) (hF : HtM k n m F) (hs : 2 * hts k n < 2 ^ 20) (hn : 0 < n) (hn' : n ≤ 4096) (hm : m ≤ 4095)
    (h : ∀ σ', Ext σ σ' → P (.int ((ech n F m).2.length : Nat)) σ') : CallV B (d + 6) (.ref (adr B "rank")) [p] σ P := by
  refine call_def (names := ["a"]) G.rank ⟨rfl, rfl, rfl, by decide +kernel⟩ (by decide +kernel) (fun pm code doc => len1 fun u => rfl) rfl ?_
  refine ex_cons ?_
  refine ex_return ?_
  refine ev_call G.len rfl ?_
  refine evs_cons ?_
  refine ev_item ?_
  refine ev_call G.echelon.callee rfl ?_
  refine evs_cons ?_
  refine ev_name rfl ?_
  refine evs_nil ?_
  refine echelon_ok G T hF hs hn hn' hm fun q1 q2 σ' x T' I' => ?_
  obtain ⟨r, rfl, hr⟩ := I'
  refine ev_int ?_
  refine ⟨1, _, rfl, ⟨by decide, by decide, rfl⟩, ?_⟩
  refine evs_nil ?_
  refine call_len' hr (by simp; rfl) ?_
  exact ⟨_, .inl rfl, h _ x⟩
theorem ints_map (l : List Nat) : (l.map fun (k : Nat) => PV.int (k : Int)) = (l.map fun (k : Nat) => (k : Int)).map .int := by rw [List.map_map]; rfl
theorem ints_eq (l m : List Nat) : decide ((l.map fun (k : Nat) => (k : Int)) = m.map fun (k : Nat) => (k : Int)) = decide (l = m) := by
  by_cases e : l = m
  · subst e; simp
  · have : (l.map fun (k : Nat) => (k : Int)) ≠ m.map fun (k : Nat) => (k : Int) := fun h => e (List.map_inj_right (fun a b h => Int.ofNat.inj h) |>.mp h)
    simp [e, this]
theorem inverse_ok (G : Glob B) {p : PV} {n k : Nat} {F : Nat → Nat → Rat} {P : VPost} (T : TabQ σ p n n F) (hF : HtM k n n F) (hs : 2 * hts k n < 2 ^ 20) (hn : 0 < n) (hn' : n ≤ 100)
    (h : ∀ q σ', Ext σ σ' → (if invOk n F = true then TabQ σ' q n n (invF n F) else q = .none) → P q σ') : CallV B (d + 6) (.ref (adr B "inverse")) [p] σ P := by
  have T₀ := T
  obtain ⟨r, rs, rfl, T⟩ := T
  refine call_def (names := ["a"]) G.inverse ⟨rfl, rfl, rfl, by decide +kernel⟩ (by decide +kernel) (fun pm code doc => len1 fun u => rfl) rfl ?_
  refine ex_cons ?_
  refine ex_assign ?_
  refine ev_call G.len rfl ?_
  refine evs_cons ?_
  refine ev_name rfl ?_
  refine evs_nil ?_
  refine call_len' T.tab T.len ?_
  refine as_name (.inr rfl) ?_
  refine ex_cons ?_
  refine ex_expr ?_
  refine ev_call G.need_shape.callee rfl ?_
  refine evs_cons ?_
  refine ev_boolop ?_
  refine ev_cmp ?_
  refine ev_name rfl ?_
  refine ev_item ?_
  refine ev_call G.shape.callee rfl ?_
  refine evs_cons ?_
  refine ev_name rfl ?_
  refine evs_nil ?_
  refine shape_ok (m := n) G T₀ hn (rowQ_len _ _) ?_
  refine ev_int ?_
  refine ⟨1, _, rfl, ⟨by decide, by decide, rfl⟩, ?_⟩
  refine cmp_eq ?_
  refine ⟨true, by simp, ?_⟩
  rw [if_neg (by decide)]
  refine evs_cons ?_
  refine ev_str ?_
  refine evs_nil ?_
  refine need_ok G rfl ?_
  refine ex_cons ?_
  refine ex_assign_comp ⟨by rfl, by decide +kernel, by decide +kernel⟩ (by decide +kernel) (.inl rfl) ?_
  refine iter_enum G.enumerate rfl ?_
  refine evs_cons ?_
  refine ev_name rfl ?_
  refine evs_nil ?_
  refine ⟨_, _, rfl, T.tab, ?_⟩
  refine compL_tab (fun i => rowQ (2 * n) (wideF n F i)) ((enum_len _).trans T.len) (fun σ' x => x _ _ T.tab) (fun i p σ₁ hp hi x => ?_) fun acc σ₁ x nd T₁ => ?_
  · obtain ⟨_, hq, rfl⟩ := enum_get hp
    obtain ⟨r', rfl, _, hr'⟩ := T.row i _ hq
    refine ⟨_, .pair (.inl rfl) (.inl rfl), fun K hK => ?_⟩
    refine ev_bin ?_
    refine ev_call G.list rfl ?_
    refine evs_cons ?_
    refine ev_name rfl ?_
    refine evs_nil ?_
    refine call_copy (x _ _ hr') ?_
    refine ev_item ?_
    refine ev_call G.unit_matrix.callee rfl ?_
    refine evs_cons ?_
    refine ev_name rfl ?_
    refine evs_nil ?_
    refine unit_ok G (by omega) (fun q σ₂ x₂ U => ?_)
    obtain ⟨u, us, rfl, U⟩ := U
    obtain ⟨u', e', _, hu'⟩ := U.get hi
    refine ev_name rfl ?_
    refine ⟨_, _, rfl, Itm.at U.tab e' (by omega), ?_⟩
    refine bin_cat (x₂ _ _ (app_get _ _)) hu' (by simp [rowQ_len]; omega) ?_
    rw [row_wide]
    exact hK _ _ ((Ext.app _ _).trans (x₂.trans (Ext.app _ _))) ((Ext.app σ₁ _).trans x₂).len (app_get _ _)
  have W : TabQ (σ₁ ++ [acc]) (.ref σ₁.length) n (2 * n) (wideF n F) := ⟨_, _, rfl, T₁⟩
  have x₁ : Ext σ (σ₁ ++ [acc]) := x.trans (Ext.app _ _)
  refine ex_cons ?_
  refine ex_assign ?_
  refine ev_call G.echelon.callee rfl ?_
  refine evs_cons ?_
  refine ev_name rfl ?_
  refine evs_nil ?_
  refine echelon_ok G W (wide_ht hF) hs hn (by omega) (by omega) (fun q1 q2 σ₂ x₂ T₂ I₂ => ?_)
  refine as_tuple rfl ?_
  refine as_name (.inl rfl) ?_
  refine as_name (.inl rfl) ?_
  show Ex _ _ _ _ _ _ _
  obtain ⟨pr, rfl, hpr⟩ := I₂
  refine ex_cons ?_
  refine ex_if ?_
  refine tst_cmp ?_
  refine ev_slice ?_
  refine ev_name rfl ?_
  show Ev _ _ _ _ _ _ _
  refine ev_name rfl ?_
  refine ⟨pr, _, none, some n, rfl, hpr, rfl, rfl, .inl rfl, (fun k e => nomatch e), ?_⟩
  refine ev_list_range G.list G.range rfl rfl ?_
  refine evs_cons ?_
  refine ev_name rfl ?_
  refine evs_nil ?_
  refine ⟨n, rfl, by omega, ?_⟩
  have e1 : cut ((ech n (wideF n F) (2 * n)).2.map fun (k : Nat) => PV.int (k : Int)) none (some n) = ((invE n F).2.take n |>.map fun (k : Nat) => (k : Int)).map .int := by
    show List.take n _ = _
    rw [← List.map_take, ints_map]; rfl
  have e2 : rangeP 0 n = ((List.range n).map fun (k : Nat) => (k : Int)).map .int := by unfold rangeP; rw [List.map_map]; congr 1; funext k; simp
  refine cmp_ne_ints (as := (invE n F).2.take n |>.map fun (k : Nat) => (k : Int)) (bs := (List.range n).map fun (k : Nat) => (k : Int)) (by rw [← e1]; exact Ext.app _ _ _ _ (app_get _ _)) (by rw [← e2]; exact app_get _ _) ?_
  rw [ints_eq, show decide ((invE n F).2.take n = List.range n) = invOk n F from rfl]
  have x₃ : Ext σ₂ ((σ₂ ++ [cut ((ech n (wideF n F) (2 * n)).2.map fun (k : Nat) => PV.int (k : Int)) none (some n)]) ++ [rangeP 0 n]) := (Ext.app _ _).trans (Ext.app _ _)
  generalize (σ₂ ++ [cut ((ech n (wideF n F) (2 * n)).2.map fun (k : Nat) => PV.int (k : Int)) none (some n)]) ++ [rangeP 0 n] = σ₃ at *
  cases hok : invOk n F with
  | false =>
    rw [show (!false) = true from rfl, if_pos rfl]
    refine ex_cons ?_
    refine ex_return ?_
    refine ev_none ?_
    refine ⟨_, .inl rfl, ?_⟩
    refine h _ _ (x₁.trans (x₂.trans x₃)) ?_
    rw [hok, if_neg (by simp)]
  | true =>
    rw [show (!true) = false from rfl, if_neg (by simp)]
    obtain ⟨f, fs, rfl, T₂⟩ := T₂
    replace T₂ := T₂.ext x₃
    refine ex_nil ?_
    refine ex_cons ?_
    refine ex_return ?_
    refine ev_comp ⟨by rfl, by decide +kernel, by decide +kernel⟩ (by decide +kernel) ?_
    refine iter_list ?_
    refine ev_name rfl ?_
    refine ⟨_, _, rfl, T₂.tab, ?_⟩
    refine compL_tab (fun i => rowQ n (invF n F i)) T₂.len (fun σ' x => x _ _ T₂.tab) (fun i p σ₄ hp hi x => ?_) fun acc σ' x nd T' => ⟨_, .inl rfl, h _ _ (x₁.trans (x₂.trans (x₃.trans (x.trans (Ext.app _ _))))) ?_⟩
    · obtain ⟨r', rfl, _, hr'⟩ := T₂.row i p hp
      refine ⟨_, .name (.inl rfl), fun K hK => ?_⟩
      refine ev_slice ?_
      refine ev_name rfl ?_
      show Ev _ _ _ _ _ _ _
      refine ev_name rfl ?_
      refine ⟨r', _, some n, none, rfl, x _ _ hr', rfl, rfl, .inr rfl, fun k e => ?_, ?_⟩
      · cases e; rw [rowQ_len]; omega
      · show K (.ref σ₄.length) (σ₄ ++ [(rowQ (2 * n) ((ech n (wideF n F) (2 * n)).1 i)).drop n])
        rw [row_drop]
        exact hK _ _ (Ext.app _ _) (Nat.le_refl _) (app_get _ _)
    · rw [hok, if_pos rfl]
      exact ⟨_, _, rfl, T'⟩
theorem charpoly_ok (G : Glob B) {p : PV} {n a : Nat} {F : Nat → Nat → Rat} {P : VPost} (T : TabQ σ p n n F) (hF : HtM a n n F) (hs : cpH a n n < 2 ^ 20) (hn : 0 < n) (hn' : n ≤ 3)
    (h : ∀ r σ', Ext σ σ' → σ'[r]? = some (rowQ (n + 1) (cp n F)) → P (.ref r) σ') : CallV B (d + 6) (.ref (adr B "charpoly")) [p] σ P := by
  have T₀ := T
  obtain ⟨r, rs, rfl, T⟩ := T
  refine call_def (names := ["a"]) G.charpoly ⟨rfl, rfl, rfl, by decide +kernel⟩ (by decide +kernel) (fun pm code doc => len1 fun u => rfl) rfl ?_
  refine ex_cons ?_
  refine ex_assign ?_
  refine ev_call G.len rfl ?_
  refine evs_cons ?_
  refine ev_name rfl ?_
  refine evs_nil ?_
  refine call_len' T.tab T.len ?_
  refine as_name (.inl rfl) ?_
  refine ex_cons ?_
  refine ex_expr ?_
  refine ev_call G.need_shape.callee rfl ?_
  refine evs_cons ?_
  refine ev_cmp ?_
  refine ev_name rfl ?_
  refine ev_item ?_
  refine ev_call G.shape.callee rfl ?_
  refine evs_cons ?_
  refine ev_name rfl ?_
  refine evs_nil ?_
  refine shape_ok (m := n) G T₀ hn (rowQ_len _ _) ?_
  refine ev_int ?_
  refine ⟨1, _, rfl, ⟨by decide, by decide, rfl⟩, ?_⟩
  refine cmp_eq ?_
  refine evs_cons ?_
  refine ev_str ?_
  refine evs_nil ?_
  refine need_ok G (by simp) ?_
  refine ex_cons (ex_swap (sc := fnScope (fn 31)) (names := ["found", "power"]) rfl rfl rfl (by decide +kernel) ?_)
  refine evs_cons ?_
  refine ev_list ?_
  refine evs_cons ?_
  refine ev_toptup G.R1 rfl ?_
  refine evs_nil ?_
  refine ⟨Nat.le_of_ble_eq_true rfl, ?_⟩
  refine evs_cons ?_
  refine ev_call G.unit_matrix.callee rfl ?_
  refine evs_cons ?_
  refine ev_name rfl ?_
  refine evs_nil ?_
  refine unit_ok G (by omega) (fun q₁ σ₁ x₁ U₁ => ?_)
  refine evs_nil ?_
  refine ⟨rfl, by decide, ?_⟩
  have h₁ := x₁ _ _ (app_get σ [PV.tup [.int 1, .int 1]])
  have x₁' : Ext σ σ₁ := (Ext.app _ _).trans x₁
  have l₁ : σ.length < σ₁.length := (List.getElem?_eq_some_iff.mp h₁).1
  refine ex_cons ?_
  refine ex_for ?_
  refine iter_range2 G.range rfl ?_
  refine evs_cons ?_
  refine ev_int ?_
  refine evs_cons ?_
  refine ev_bin ?_
  refine ev_name rfl ?_
  refine ev_int ?_
  refine bin_add ?_
  refine evs_nil ?_
  refine ⟨1, n + 1, rfl, by omega, by omega, ?_⟩
  refine forL_ind (fun i ε σ' => ∃ q, Ext σ σ' ∧ σ.length < σ'.length ∧ σ'[σ.length]? = some (rq 1 :: (List.range i).map fun k => rq (cpC n F k)) ∧ TabQ σ' q n n (cpM n F i) ∧ ε "power" = some q ∧ ε "found" = some (.ref σ.length) ∧ ε "a" = some (.ref r) ∧ ε "n" = some (.int n)) ?_ ?_ ?_
  · exact ⟨q₁, x₁', l₁, h₁, U₁, rfl, rfl, rfl, rfl⟩
  · rintro i p ε σ₂ hp ⟨q₂, x₂, l₂, hfd, U₂, hpw, hfo, ha, hnn⟩
    obtain ⟨hi, rfl⟩ := rangeN_get (a := 1) hp
    have hi : i < n := by omega
    have hH := cpM_ht hF (by omega) (k := i) (by omega)
    have hle := cpH_le (a := a) hn (show i + 1 ≤ n from hi)
    have hnx : cpH a n (i + 1) = cpT a n (cpH a n i) + (0 + (n * (cpT a n (cpH a n i) + 1) + 2)) + 1 := rfl
    have hM := mulF_ht hF hH
    have hTr := trN_ht (n := n) fun i hi => hM i i hi hi
    have hC := (hTr.div (ht_step (k := 1 + i) (by omega)) (neStep i)).neg
    have hct : n * (a + cpH a n i + 1) = cpT a n (cpH a n i) := rfl
    rw [hct] at hM hTr hC
    refine ⟨_, .name (.inl rfl), ?_⟩
    refine ex_cons ?_
    refine ex_assign ?_
    refine ev_call G.mat_mul.callee rfl ?_
    refine evs_cons ?_
    refine ev_name ha ?_
    refine evs_cons ?_
    refine ev_name hpw ?_
    refine evs_nil ?_
    refine mat_mul_own G (T₀.ext x₂) U₂ hF hH (by rw [hct]; omega) hn hn (by omega) (by omega) (fun mr ms σ₃ x₃ own hmr T₃ => ?_)
    refine as_name (.inl rfl) ?_
    have M₃ : TabQ σ₃ (.ref mr) n n (mulF n F (cpM n F i)) := ⟨_, _, rfl, T₃⟩
    refine ex_cons ?_
    refine ex_assign ?_
    refine ev_call G.rneg.callee rfl ?_
    refine evs_cons ?_
    refine ev_call G.rdiv.callee rfl ?_
    refine evs_cons ?_
    refine ev_call G.trace.callee rfl ?_
    refine evs_cons ?_
    refine ev_name rfl ?_
    refine evs_nil ?_
    refine trace_ok G M₃ hM (by omega) hn (by omega) ?_
    refine evs_cons ?_
    refine ev_tuple ?_
    refine evs_cons ?_
    refine ev_name rfl ?_
    refine evs_cons ?_
    refine ev_int ?_
    refine evs_nil ?_
    refine ⟨Nat.le_of_ble_eq_true rfl, ?_⟩
    refine evs_nil ?_
    rw [← rq_int]
    refine rdiv_ok G hTr (ht_step (k := 1 + i) (by omega)) (by omega) (by omega) (neStep i) ?_
    refine evs_nil ?_
    refine rneg_ok G ?_
    refine as_name (.inl rfl) ?_
    have h₃ := x₃ _ _ hfd
    refine ex_cons ?_
    refine ex_expr ?_
    refine ev_append ?_
    refine ev_name hfo ?_
    refine ⟨_, rfl, Nat.lt_of_lt_of_le l₂ x₃.len, ?_⟩
    refine ev_name rfl ?_
    refine ⟨_, h₃, by simp; omega, ?_⟩
    have l₃ : σ.length < σ₃.length := (List.getElem?_eq_some_iff.mp h₃).1
    have T₄ : TabAt (σ₃.set σ.length ((rq 1 :: (List.range i).map fun k => rq (cpC n F k)) ++ [rq (cpC n F i)])) mr ms n (fun i' => rowQ n (mulF n F (cpM n F i) i')) := by
      refine ⟨by rw [List.getElem?_set_ne (by omega)]; exact T₃.tab, T₃.len, fun k q hq => ?_⟩
      obtain ⟨r', e, b, c⟩ := T₃.row k q hq
      obtain ⟨r'', e', b'⟩ := own.own q (List.mem_of_getElem? hq)
      rw [e] at e'
      cases e'
      exact ⟨r', e, b, by rw [List.getElem?_set_ne (by omega)]; exact c⟩
    have x₄ : Ext σ (σ₃.set σ.length ((rq 1 :: (List.range i).map fun k => rq (cpC n F k)) ++ [rq (cpC n F i)])) := (x₂.trans x₃).set (Nat.le_refl _) _
    have h₄ : (σ₃.set σ.length ((rq 1 :: (List.range i).map fun k => rq (cpC n F k)) ++ [rq (cpC n F i)]))[σ.length]? = some ((rq 1 :: (List.range i).map fun k => rq (cpC n F k)) ++ [rq (cpC n F i)]) := by simp [l₃]
    show Ex _ _ _ _ (σ₃.set σ.length ((rq 1 :: (List.range i).map fun k => rq (cpC n F k)) ++ [rq (cpC n F i)])) _ _
    generalize σ₃.set σ.length ((rq 1 :: (List.range i).map fun k => rq (cpC n F k)) ++ [rq (cpC n F i)]) = σ₄ at *
    have M₄ : TabQ σ₄ (.ref mr) n n (mulF n F (cpM n F i)) := ⟨_, _, rfl, T₄⟩
    have hU : HtM 0 n n fun i j => if i = j then (1 : Rat) else 0 := fun i j _ _ => by
      dsimp only
      split
      · exact Ht.one
      · exact Ht.zero
    refine ex_cons ?_
    refine ex_assign ?_
    refine ev_call G.mat_add.callee rfl ?_
    refine evs_cons ?_
    refine ev_name rfl ?_
    refine evs_cons ?_
    refine ev_call G.mat_scale.callee rfl ?_
    refine evs_cons ?_
    refine ev_call G.unit_matrix.callee rfl ?_
    refine evs_cons ?_
    refine ev_name hnn ?_
    refine evs_nil ?_
    refine unit_ok G (by omega) (fun q₅ σ₅ x₅ U₅ => ?_)
    refine evs_cons ?_
    refine ev_name rfl ?_
    refine evs_nil ?_
    refine mat_scale_ok G U₅ hU hC (by omega) (by omega) (fun q₆ σ₆ x₆ U₆ => ?_)
    refine evs_nil ?_
    have hU₆ : HtM (0 + (n * (cpT a n (cpH a n i) + 1) + 2)) n n fun i' j => (if i' = j then (1 : Rat) else 0) * cpC n F i := fun i' j hi' hj => (hU i' j hi' hj).mul hC
    refine mat_add_ok G (M₄.ext (x₅.trans x₆)) U₆ hM hU₆ (by omega) (by omega) hn (by omega) (by omega) (fun q₇ σ₇ x₇ U₇ => ?_)
    refine as_name (.inl rfl) ?_
    refine ex_nil ?_
    have xx := x₅.trans (x₆.trans x₇)
    refine ⟨.inl rfl, trivial, q₇, x₄.trans xx, ?_, ?_, U₇, rfl, hfo, ha, hnn⟩
    · have := (List.getElem?_eq_some_iff.mp (xx _ _ h₄)).1
      exact this
    · rw [xx _ _ h₄, range_snoc]
      rfl
  · rintro ε σ₂ ⟨q₂, x₂, l₂, hfd, U₂, hpw, hfo, ha, hnn⟩
    rw [range_len, show n + 1 - 1 = n by omega] at hfd
    refine ex_cons ?_
    refine ex_expr ?_
    refine ev_reverse ?_
    refine ev_name hfo ?_
    refine ⟨_, _, rfl, hfd, ?_⟩
    refine ex_cons ?_
    refine ex_return ?_
    refine ev_name hfo ?_
    refine ⟨_, .inl rfl, ?_⟩
    refine h _ _ (x₂.set (Nat.le_refl _) _) ?_
    rw [cpL_rev]
    simp [l₂]
end
end Mine
end

section
open PySem PySem.W PyProof.Rows
set_option maxRecDepth 100000
set_option maxHeartbeats 4000000
namespace Mine
noncomputable def selZ (t : Nat → Bool) (go : Nat → Int) : Nat → List Int
  | 0 => []
  | n + 1 => if t n then selZ t go n ++ [go n] else selZ t go n
theorem selZ_eq (t : Nat → Bool) (go : Nat → Int) : ∀ n, sel t (fun i => .int (go i)) n = (selZ t go n).map .int
  | 0 => rfl
  | n + 1 => by
    unfold sel selZ
    rw [selZ_eq t go n]
    split <;> simp
theorem selZ_le (t : Nat → Bool) (go : Nat → Int) (n : Nat) : (selZ t go n).length ≤ n := by
  have := sel_le t (fun i => .int (go i)) n
  rw [selZ_eq, List.length_map] at this
  exact this
noncomputable def chg (S : List Int) : Nat := (selZ (fun i => S.getD (1 + i) 0 != S.getD i 0) (fun _ => 1) (S.length - 1)).length
noncomputable def nz (c : Nat → Rat) (i : Nat) : Bool := (c i).num != 0
noncomputable def sgnsC (c : Nat → Rat) (n : Nat) : List Int := selZ (nz c) (fun i => if 0 < (c i).num then 1 else -1) (n + 1)
noncomputable def zerosC (c : Nat → Rat) (n : Nat) : Nat := (firstN (nz c) (n + 1)).getD 0
noncomputable def toldC (c : Nat → Rat) (n : Nat) : List Int := [(chg (sgnsC c n) : Int), (zerosC c n : Int), (n : Int) - chg (sgnsC c n) - zerosC c n]
noncomputable def told (n : Nat) (F : Nat → Nat → Rat) : List Int := toldC (cp n F) n
theorem mapint_at {S : List Int} {k : Nat} (h : k < S.length) : (S.map PV.int)[k]? = some (.int (S.getD k 0)) := by simp [h]
section
variable {B : Base} {d : Nat} {κ : Str → Option NameKind} {ε : PEnv} {σ : Store}
theorem Itm.at' {r : Nat} {l : List PV} {k : Int} {i : Nat} {x : PV} (h : σ[r]? = some l) (hk : k = (i : Int)) (hx : l[i]? = some x) (hi : i < 2 ^ 63) : Itm σ (.ref r) k x := by
  subst hk
  exact Itm.at h hx hi
theorem told_ok (G : Glob B) {p : PV} {n a : Nat} {F : Nat → Nat → Rat} {P : VPost} (T : TabQ σ p n n F) (hF : HtM a n n F) (hs : cpH a n n < 2 ^ 20) (hn : 0 < n) (hn' : n ≤ 3)
    (h : ∀ σ', Ext σ σ' → P (.tup ((told n F).map .int)) σ') : CallV B (d + 7) (.ref (adr B "_law_told")) [p] σ P := by
  have T₀ := T
  obtain ⟨r, rs, rfl, T⟩ := T
  refine call_def (names := ["a"]) G.told ⟨rfl, rfl, rfl, by decide +kernel⟩ (by decide +kernel) (fun pm code doc => len1 fun u => rfl) rfl ?_
  refine ex_cons ?_
  refine ex_assign ?_
  refine ev_call G.charpoly.callee rfl ?_
  refine evs_cons ?_
  refine ev_name rfl ?_
  refine evs_nil ?_
  refine charpoly_ok G T₀ hF hs hn hn' (fun cr σ₁ x₁ hcr => ?_)
  refine as_name (.inl rfl) ?_
  refine ex_cons ?_
  refine ex_assign_comp ⟨by rfl, by decide +kernel, by decide +kernel⟩ (by decide +kernel) (.inr rfl) ?_
  refine iter_list ?_
  refine ev_name rfl ?_
  refine ⟨_, _, rfl, hcr, ?_⟩
  refine compL_sel (nz (cp n F)) (fun i => .int (if 0 < (cp n F i).num then 1 else -1)) (rowQ_len _ _) (fun σ' x => x _ _ hcr) (fun i p σ₂ hp hi x => ?_) fun σ₂ x₂ => ?_
  · obtain ⟨_, rfl⟩ := rmap_get hp
    refine ⟨_, .name (.inl rfl), fun K hK => ?_, fun σ₃ K x₃ hti hK => ?_⟩
    · refine tst_cmp ?_
      refine ev_num rfl ?_
      refine ev_int ?_
      refine cmp_ne ?_
      exact hK _ (.refl _)
    · refine ev_if ?_
      refine tst_cmp ?_
      refine ev_num rfl ?_
      refine ev_int ?_
      refine cmp_gt ?_
      have hk := hK _ (.refl _)
      by_cases e : 0 < (cp n F i).num
      · rw [if_pos e] at hk
        rw [decide_eq_true e, if_pos rfl]
        exact ev_int hk
      · rw [if_neg e] at hk
        rw [decide_eq_false e, if_neg (by simp)]
        exact ev_neg (ev_int ⟨_, rfl, hk⟩)
  rw [selZ_eq]
  show Ex _ _ _ (upd _ _ (.ref σ₂.length)) (σ₂ ++ [(sgnsC (cp n F) n).map .int]) _ _
  have x₂' : Ext σ₁ (σ₂ ++ [(sgnsC (cp n F) n).map .int]) := x₂.trans (Ext.app _ _)
  have hsg := app_get σ₂ ((sgnsC (cp n F) n).map .int)
  generalize σ₂ ++ [(sgnsC (cp n F) n).map .int] = σ₃ at *
  generalize σ₂.length = sr at *
  have hc₃ := x₂' _ _ hcr
  refine ex_cons ?_
  refine ex_assign ?_
  refine ev_item ?_
  refine ev_comp ⟨by rfl, by decide +kernel, by decide +kernel⟩ (by decide +kernel) ?_
  refine iter_enum G.enumerate rfl ?_
  refine evs_cons ?_
  refine ev_name rfl ?_
  refine evs_nil ?_
  refine ⟨_, _, rfl, hc₃, ?_⟩
  refine compL_sel (nz (cp n F)) (fun i => .int (i : Nat)) ((enum_len _).trans (rowQ_len _ _)) (fun σ' x => x _ _ hc₃) (fun i p σ₂ hp hi x => ?_) fun σ₄ x₄ => ?_
  · obtain ⟨_, hq, rfl⟩ := enum_get hp
    obtain ⟨_, rfl⟩ := rmap_get hq
    refine ⟨_, .pair (.inl rfl) (.inl rfl), fun K hK => ?_, fun σ₃ K x₃ hti hK => ?_⟩
    · refine tst_cmp ?_
      refine ev_num rfl ?_
      refine ev_int ?_
      refine cmp_ne ?_
      exact hK _ (.refl _)
    · refine ev_name rfl ?_
      exact hK _ (.refl _)
  have hsf := sel_first (nz (cp n F)) (fun i => PV.int (i : Nat)) (n + 1)
  obtain ⟨z, hz⟩ : ∃ z, firstN (nz (cp n F)) (n + 1) = some z := by
    cases e : firstN (nz (cp n F)) (n + 1) with
    | some z => exact ⟨z, rfl⟩
    | none =>
      have := firstN_none e n (by omega)
      unfold nz cp at this
      rw [if_pos rfl] at this
      exact absurd this (by decide)
  rw [hz] at hsf
  obtain ⟨zl, hzl⟩ := hsf
  rw [hzl]
  refine ev_int ?_
  refine ⟨0, _, rfl, Itm.at (app_get _ _) rfl (by decide), ?_⟩
  refine as_name (.inl rfl) ?_
  have x₄' : Ext σ₃ (σ₄ ++ [PV.int (z : Nat) :: zl]) := x₄.trans (Ext.app _ _)
  have hs₄ := x₄' _ _ hsg
  have xx : Ext σ (σ₄ ++ [PV.int (z : Nat) :: zl]) := x₁.trans (x₂'.trans x₄')
  generalize σ₄ ++ [PV.int (z : Nat) :: zl] = σ₅ at *
  have hl := selZ_le (nz (cp n F)) (fun i => if 0 < (cp n F i).num then 1 else -1) (n + 1)
  change (sgnsC (cp n F) n).length ≤ _ at hl
  refine ex_cons ?_
  refine ex_assign ?_
  refine ev_call G.len rfl ?_
  refine evs_cons ?_
  refine ev_comp ⟨by rfl, by decide +kernel, by decide +kernel⟩ (by decide +kernel) ?_
  refine iter_range2 G.range rfl ?_
  refine evs_cons ?_
  refine ev_int ?_
  refine evs_cons ?_
  refine ev_call G.len rfl ?_
  refine evs_cons ?_
  refine ev_name rfl ?_
  refine evs_nil ?_
  refine call_len' (n := (sgnsC (cp n F) n).length) hs₄ (by simp) ?_
  refine evs_nil ?_
  refine ⟨1, _, rfl, by omega, by omega, ?_⟩
  refine compL_sel (fun i => (sgnsC (cp n F) n).getD (1 + i) 0 != (sgnsC (cp n F) n).getD i 0) (fun i => .int 1) (range_len _ _) (fun σ' x => trivial) (fun i p σ₂ hp hi x => ?_) fun σ₆ x₆ => ?_
  · obtain ⟨_, rfl⟩ := rangeN_get (a := 1) hp
    refine ⟨_, .name (.inl rfl), fun K hK => ?_, fun σ₃ K x₃ hti hK => ?_⟩
    · refine tst_cmp ?_
      refine ev_item ?_
      refine ev_name rfl ?_
      refine ev_name rfl ?_
      refine ⟨_, _, rfl, Itm.at (x _ _ hs₄) (mapint_at (by omega)) (by omega), ?_⟩
      refine ev_item ?_
      refine ev_name rfl ?_
      refine ev_bin ?_
      refine ev_name rfl ?_
      refine ev_int ?_
      refine bin_sub ?_
      refine ⟨_, _, rfl, Itm.at' (i := i) (x _ _ hs₄) (by omega) (mapint_at (by omega)) (by omega), ?_⟩
      refine cmp_ne ?_
      exact hK _ (.refl _)
    · refine ev_int ?_
      exact hK _ (.refl _)
  rw [selZ_eq]
  refine evs_nil ?_
  refine call_len' (n := chg (sgnsC (cp n F) n)) (app_get _ _) (by rw [List.length_map]; rfl) ?_
  refine as_name (.inl rfl) ?_
  have xf : Ext σ (σ₆ ++ [(selZ (fun i => (sgnsC (cp n F) n).getD (1 + i) 0 != (sgnsC (cp n F) n).getD i 0) (fun i => 1) ((sgnsC (cp n F) n).length - 1)).map PV.int]) := xx.trans (x₆.trans (Ext.app _ _))
  refine ex_cons ?_
  refine ex_return ?_
  refine ev_tuple ?_
  refine evs_cons ?_
  refine ev_name rfl ?_
  refine evs_cons ?_
  refine ev_name rfl ?_
  refine evs_cons ?_
  refine ev_bin ?_
  refine ev_bin ?_
  refine ev_call G.len rfl ?_
  refine evs_cons ?_
  refine ev_name rfl ?_
  refine evs_nil ?_
  refine call_len' (xf _ _ T.tab) T.len ?_
  refine ev_name rfl ?_
  refine bin_sub ?_
  refine ev_name rfl ?_
  refine bin_sub ?_
  refine evs_nil ?_
  refine ⟨Nat.le_of_ble_eq_true rfl, _, .inl rfl, ?_⟩
  have := h _ xf
  unfold told toldC zerosC at this
  rw [hz] at this
  exact this

theorem draw_ok (G : Glob B) {pr sr k : Nat} {cells : List Int} {many : Int} {P : VPost} (h1 : σ[pr]? = some [.ref sr, .int k]) (h2 : σ[sr]? = some (cells.map .int)) (hne : sr ≠ pr) (hc : cells.length ≤ 4096) (hm : 0 < many)
    (h : ∀ v, 0 ≤ v → v < many → P (.int v) (σ.set pr [.ref sr, .int (k + 1 : Nat)])) : CallV B (d + 1) (.ref (adr B "_law_draw")) [.ref pr, .int many] σ P := by
  have hlt := (List.getElem?_eq_some_iff.mp h1).1
  refine call_def (names := ["pool", "many"]) G.draw ⟨rfl, rfl, rfl, by decide +kernel⟩ (by decide +kernel) (fun pm code doc => len2 fun u v => rfl) rfl ?_
  refine ex_cons ?_
  refine ex_assign ?_
  refine ev_item ?_
  refine ev_name rfl ?_
  refine ev_int ?_
  refine ⟨1, _, rfl, Itm.at (k := 1) h1 rfl (by decide), ?_⟩
  refine as_name (.inl rfl) ?_
  refine ex_cons ?_
  refine ex_assign ?_
  refine ev_bin ?_
  refine ev_name rfl ?_
  refine ev_int ?_
  refine bin_add ?_
  refine as_item ?_
  refine ev_name rfl ?_
  refine ev_int ?_
  refine ⟨pr, 1, _, rfl, rfl, h1, by omega, Nat.le_of_ble_eq_true rfl, ?_⟩
  show Ex _ _ _ _ (σ.set pr [.ref sr, .int (k + 1 : Nat)]) _ _
  have h1' : (σ.set pr [.ref sr, .int (k + 1 : Nat)])[pr]? = some [.ref sr, .int (k + 1 : Nat)] := by simp [hlt]
  have h2' : (σ.set pr [.ref sr, .int (k + 1 : Nat)])[sr]? = some (cells.map .int) := by rw [List.getElem?_set_ne (Ne.symm hne)]; exact h2
  generalize σ.set pr [.ref sr, .int (k + 1 : Nat)] = σ₁ at *
  have fin : ∀ z : Int, ∃ p, (PFlow.ret (.int (z.fmod many)) = PFlow.ret p ∨ PFlow.ret (.int (z.fmod many)) = PFlow.next ∧ p = .none) ∧ P p σ₁ := fun z => ⟨_, .inl rfl, h _ (Int.fmod_nonneg_of_pos z hm) (Int.fmod_lt_of_pos z hm)⟩
  refine ex_cons ?_
  refine ex_if ?_
  refine tst_cmp ?_
  refine ev_name rfl ?_
  refine ev_call G.len rfl ?_
  refine evs_cons ?_
  refine ev_item ?_
  refine ev_name rfl ?_
  refine ev_int ?_
  refine ⟨0, _, rfl, Itm.at (k := 0) h1' rfl (by decide), ?_⟩
  refine evs_nil ?_
  refine call_len' (n := cells.length) h2' (by simp) ?_
  refine cmp_lt ?_
  by_cases hk : (k : Int) < cells.length
  · rw [decide_eq_true hk, if_pos rfl]
    refine ex_cons ?_
    refine ex_return ?_
    refine ev_bin ?_
    refine ev_call G.abs rfl ?_
    refine evs_cons ?_
    refine ev_item ?_
    refine ev_item ?_
    refine ev_name rfl ?_
    refine ev_int ?_
    refine ⟨0, _, rfl, Itm.at (k := 0) h1' rfl (by decide), ?_⟩
    refine ev_name rfl ?_
    refine ⟨_, _, rfl, Itm.at (k := k) h2' (mapint_at (by omega)) (by omega), ?_⟩
    refine evs_nil ?_
    refine call_abs ?_
    refine ev_name rfl ?_
    refine bin_mod (by omega) ?_
    exact fin _
  · rw [decide_eq_false hk, if_neg (by simp)]
    refine ex_nil ?_
    refine ex_cons ?_
    refine ex_return ?_
    refine ev_bin ?_
    refine ev_item ?_
    refine ev_tuple ?_
    iterate 11 refine evs_cons (ev_int ?_)
    refine evs_nil ?_
    refine ⟨Nat.le_of_ble_eq_true rfl, ?_⟩
    refine ev_bin ?_
    refine ev_name rfl ?_
    refine ev_int ?_
    refine bin_mod (by decide) ?_
    have e0 : 0 ≤ (k : Int).fmod 11 := Int.fmod_nonneg_of_pos _ (by decide)
    have e1 : (k : Int).fmod 11 < 11 := Int.fmod_lt_of_pos _ (by decide)
    have hl : ((k : Int).fmod 11).toNat < ([1, 3, 4, 2, 3, 3, 1, 3, 2, 3, 1] : List Int).length := by simp; omega
    refine ⟨_, .int (([1, 3, 4, 2, 3, 3, 1, 3, 2, 3, 1] : List Int).getD ((k : Int).fmod 11).toNat 0), rfl, ⟨e0, by omega, mapint_at (S := [1, 3, 4, 2, 3, 3, 1, 3, 2, 3, 1]) hl⟩, ?_⟩
    refine ev_name rfl ?_
    refine bin_mod (by omega) ?_
    exact fin _
end
end Mine
end

section
open PySem PySem.W PyProof.Rows
set_option maxRecDepth 100000
set_option maxHeartbeats 4000000
namespace Mine
abbrev IMat := Nat → Nat → Int
noncomputable def pairT (k : Nat) (F : IMat) (i : Nat) : Bool := (firstN (fun j => F i j != 0) k).isSome
noncomputable def mixR (F : IMat) (at' spot : Nat) : IMat := fun i j => if i = at' then F at' j + F spot j else F i j
noncomputable def mixC (F : IMat) (at' spot : Nat) : IMat := fun i j => if j = at' then F i at' + F i spot else F i j
noncomputable def mix (F : IMat) (at' spot : Nat) : IMat := mixC (mixR F at' spot) at' spot
noncomputable def skip (at' i : Nat) : Nat := if i < at' then i else i + 1
noncomputable def less (F : IMat) (at' : Nat) : IMat := fun i j => F at' at' * (F at' at' * F (skip at' i) (skip at' j) - F (skip at' i) at' * F at' (skip at' j))
noncomputable def pivI (k : Nat) (F : IMat) : Option (Nat × IMat) := match firstN (fun i => F i i != 0) k with
  | some at' => some (at', F)
  | none => match firstN (pairT k F) k with
    | none => none
    | some at' => match firstN (fun j => F at' j != 0) k with
      | none => none
      | some spot => some (at', mix F at' spot)
noncomputable def signsM : Nat → IMat → Int → Int → List Int
  | 0, _, a, b => [a, 0, b]
  | k + 1, F, a, b => match pivI (k + 1) F with
    | none => [a, ((k + 1 : Nat) : Int), b]
    | some (at', G) => signsM k (less G at') (a + if 0 < G at' at' then 1 else 0) (b + if G at' at' < 0 then 1 else 0)
noncomputable def HtI (b k : Nat) (F : IMat) : Prop := ∀ i j, i < k → j < k → (F i j).natAbs ≤ 2 ^ b
noncomputable def hbs : Nat → Nat → Nat
  | 0, b => b
  | k + 1, b => hbs k (3 * (b + 2) + 1)
theorem hbs_le : ∀ {k b : Nat}, b ≤ hbs k b
  | 0, b => Nat.le_refl _
  | k + 1, b => Nat.le_trans (by omega) (hbs_le (k := k) (b := 3 * (b + 2) + 1))
theorem nat_add {x y : Int} {a : Nat} (hx : x.natAbs ≤ 2 ^ a) (hy : y.natAbs ≤ 2 ^ a) : (x + y).natAbs ≤ 2 ^ (a + 1) := by
  rw [Nat.pow_succ]
  have := Int.natAbs_add_le x y
  omega
theorem nat_sub {x y : Int} {a : Nat} (hx : x.natAbs ≤ 2 ^ a) (hy : y.natAbs ≤ 2 ^ a) : (x - y).natAbs ≤ 2 ^ (a + 1) := by
  rw [Nat.pow_succ]
  have := Int.natAbs_sub_le x y
  omega
theorem nat_mul {x y : Int} {a b : Nat} (hx : x.natAbs ≤ 2 ^ a) (hy : y.natAbs ≤ 2 ^ b) : (x * y).natAbs ≤ 2 ^ (a + b) := by
  rw [Int.natAbs_mul]
  exact mul_le_pow hx hy
theorem nat_mono {x : Int} {a b : Nat} (h : x.natAbs ≤ 2 ^ a) (hab : a ≤ b) : x.natAbs ≤ 2 ^ b := Nat.le_trans h (Nat.pow_le_pow_right (by omega) hab)
theorem skip_lt {at' i k : Nat} (hi : i < k) : skip at' i < k + 1 := by unfold skip; split <;> omega
theorem less_in {b k at' : Nat} {F : IMat} (h : HtI b (k + 1) F) (ha : at' < k + 1) {i j : Nat} (hi : i < k) (hj : j < k) : (F at' at' * F (skip at' i) (skip at' j) - F (skip at' i) at' * F at' (skip at' j)).natAbs ≤ 2 ^ (b + b + 1) :=
  nat_sub (nat_mul (h _ _ ha ha) (h _ _ (skip_lt hi) (skip_lt hj))) (nat_mul (h _ _ (skip_lt hi) ha) (h _ _ ha (skip_lt hj)))
theorem less_ht {b k at' : Nat} {F : IMat} (h : HtI b (k + 1) F) (ha : at' < k + 1) : HtI (3 * b + 1) k (less F at') := fun i j hi hj =>
  nat_mono (nat_mul (h _ _ ha ha) (less_in h ha hi hj)) (by omega)
theorem mixR_ht {b k at' spot : Nat} {F : IMat} (h : HtI b k F) (ha : at' < k) (hs : spot < k) : HtI (b + 1) k (mixR F at' spot) := fun i j hi hj => by
  unfold mixR
  split
  · exact nat_add (h _ _ ha hj) (h _ _ hs hj)
  · exact nat_mono (h _ _ hi hj) (by omega)
theorem mixC_ht {b k at' spot : Nat} {F : IMat} (h : HtI b k F) (ha : at' < k) (hs : spot < k) : HtI (b + 1) k (mixC F at' spot) := fun i j hi hj => by
  unfold mixC
  split
  · exact nat_add (h _ _ hi ha) (h _ _ hi hs)
  · exact nat_mono (h _ _ hi hj) (by omega)
theorem sel_skip (at' : Nat) : ∀ m, sel (fun i => (i : Int) != (at' : Int)) (fun i => .int (i : Nat)) m = if m ≤ at' then (List.range m).map (fun i => PV.int ((skip at' i : Nat) : Int)) else (List.range (m - 1)).map fun i => PV.int ((skip at' i : Nat) : Int)
  | 0 => by simp [sel]
  | m + 1 => by
    unfold sel
    rw [sel_skip at' m]
    by_cases h1 : m < at'
    · rw [show ((m : Int) != (at' : Int)) = true by simp; omega, if_pos rfl, if_pos (by omega), if_pos (by omega), range_snoc]
      congr 3
      unfold skip
      rw [if_pos h1]
    · by_cases h2 : m = at'
      · subst h2
        rw [show ((m : Int) != (m : Int)) = false by simp, if_neg (by simp), if_pos (Nat.le_refl _), if_neg (by omega)]
        rfl
      · rw [show ((m : Int) != (at' : Int)) = true by simp; omega, if_pos rfl, if_neg (by omega), if_neg (by omega)]
        obtain ⟨q, rfl⟩ : ∃ q, m = q + 1 := ⟨m - 1, by omega⟩
        rw [show q + 1 + 1 - 1 = q + 1 from rfl, show q + 1 - 1 = q from rfl, range_snoc]
        congr 3
        unfold skip
        rw [if_neg (by omega)]
theorem TabAt.rowset {σ : Store} {r : Nat} {rs : List PV} {n : Nat} {rw : Nat → List PV} (T : TabAt σ r rs n rw) (nd : rs.Nodup) {i r' : Nat} (hi : rs[i]? = some (.ref r')) (l : List PV) : TabAt (σ.set r' l) r rs n (fun k => if k = i then l else rw k) := by
  obtain ⟨r'', e, hne, hr⟩ := T.row i _ hi
  cases e
  refine ⟨by rw [List.getElem?_set_ne hne]; exact T.tab, T.len, fun k q hq => ?_⟩
  obtain ⟨r2, e2, n2, h2⟩ := T.row k q hq
  refine ⟨r2, e2, n2, ?_⟩
  by_cases e : k = i
  · subst e
    rw [hi] at hq
    cases hq
    cases e2
    simp [(List.getElem?_eq_some_iff.mp hr).1]
  · rw [if_neg e, List.getElem?_set_ne]
    · exact h2
    · rintro rfl
      rw [e2] at hq
      exact e (nodup_idx nd hq hi)
noncomputable def stBody : Stmt → List Stmt
  | .While _ b _ _ => b
  | _ => []
noncomputable def signsRest : List Stmt := (stBody (nthS (fnBody (fn 34)) 1)).drop 2
structure SJ (σ₀ : Store) (tgt : List Int) (k : Nat) (ε : PEnv) (σ : Store) (F : IMat) (a b : Int) (r : Nat) (rs : List PV) (hb : Nat) : Prop where
  left : ε "left" = some (.ref r)
  above : ε "above" = some (.int a)
  below : ε "below" = some (.int b)
  ext : Ext σ₀ σ
  own : σ₀.length ≤ r
  rows : Apart σ₀ rs
  tab : TabAt σ r rs k fun i => rowI k (F i)
  ht : HtI hb k F
  big : hbs k hb < 2 ^ 18
  same : signsM k F a b = tgt
section
variable {B : Base} {d : Nat} {σ : Store}
theorem signs_rest (G : Glob B) {σ₀ : Store} {ε : PEnv} {k at' sp r hb : Nat} {ls rs : List PV} {F : IMat} {a b : Int} {P : SPost} (hl : ε "left" = some (.ref r)) (ha : ε "above" = some (.int a)) (hbl : ε "below" = some (.int b)) (hs : ε "spots" = some (.ref sp))
    (hsp : σ[sp]? = some (.int (at' : Nat) :: ls)) (hat : at' < k + 1) (x₀ : Ext σ₀ σ) (T : TabAt σ r rs (k + 1) fun i => rowI (k + 1) (F i)) (hF : HtI hb (k + 1) F) (hbig : 3 * hb + 1 < 2 ^ 18) (hk : k ≤ 1000)
    (h : ∀ ε' σ' r' rs', ε' "left" = some (.ref r') → ε' "above" = some (.int (a + if 0 < F at' at' then 1 else 0)) → ε' "below" = some (.int (b + if F at' at' < 0 then 1 else 0)) → Ext σ₀ σ' → σ₀.length ≤ r' → Apart σ₀ rs' → TabAt σ' r' rs' k (fun i => rowI k (less F at' i)) → P .next ε' σ') :
    Ex B d (kapOf (fnScope (fn 34))) ε σ signsRest P := by
  obtain ⟨ar, ea, _, har⟩ := T.get hat
  refine ex_cons ?_
  refine ex_assign ?_
  refine ev_item ?_
  refine ev_name hs ?_
  refine ev_int ?_
  refine ⟨0, _, rfl, Itm.at (k := 0) hsp rfl (by decide), ?_⟩
  refine as_name (.inr rfl) ?_
  refine ex_cons ?_
  refine ex_assignT (sc := fnScope (fn 34)) rfl rfl rfl ?_
  refine ev_tuple ?_
  refine evs_cons ?_
  refine ev_item ?_
  refine ev_item ?_
  refine ev_name hl ?_
  refine ev_name rfl ?_
  refine ⟨_, _, rfl, Itm.at T.tab ea (by omega), ?_⟩
  refine ev_name rfl ?_
  refine ⟨_, _, rfl, Itm.at har (rowI_at hat) (by omega), ?_⟩
  refine evs_cons ?_
  refine ev_comp ⟨by rfl, by decide +kernel, by decide +kernel⟩ (by decide +kernel) ?_
  refine iter_range1 G.range rfl ?_
  refine evs_cons ?_
  refine ev_call G.len rfl ?_
  refine evs_cons ?_
  refine ev_name hl ?_
  refine evs_nil ?_
  refine call_len' T.tab T.len ?_
  refine evs_nil ?_
  refine ⟨k + 1, rfl, by omega, ?_⟩
  refine compL_sel (fun i => (i : Int) != (at' : Int)) (fun i => .int (i : Nat)) (range_len _ _) (fun σ' x => trivial) (fun i p σ₁ hp hi x => ?_) fun σ₁ x₁ => ?_
  · obtain ⟨_, rfl⟩ := range0_get hp
    refine ⟨_, .name (.inl rfl), fun K hK => ?_, fun σ₃ K x₃ hti hK => ?_⟩
    · refine tst_cmp ?_
      refine ev_name rfl ?_
      refine ev_name rfl ?_
      refine cmp_ne ?_
      exact hK _ (.refl _)
    · refine ev_name rfl ?_
      exact hK _ (.refl _)
  rw [sel_skip, if_neg (by omega), show k + 1 - 1 = k from rfl]
  refine evs_nil ?_
  refine ⟨Nat.le_of_ble_eq_true rfl, ?_⟩
  refine as_tuple rfl ?_
  refine as_name (.inr rfl) ?_
  refine as_name (.inl rfl) ?_
  show Ex _ _ _ _ _ _ _
  have x₂ : Ext σ (σ₁ ++ [(List.range k).map fun i => PV.int ((skip at' i : Nat) : Int)]) := x₁.trans (Ext.app _ _)
  have hot := app_get σ₁ ((List.range k).map fun i => PV.int ((skip at' i : Nat) : Int))
  generalize σ₁ ++ [(List.range k).map fun i => PV.int ((skip at' i : Nat) : Int)] = σ₂ at *
  generalize σ₁.length = ot at *
  refine ex_cons (ex_swap (sc := fnScope (fn 34)) (names := ["above", "below"]) rfl rfl rfl (by decide +kernel) ?_)
  refine evs_cons ?_
  refine ev_bin ?_
  refine ev_name ha ?_
  refine ev_if ?_
  refine tst_cmp ?_
  refine ev_name rfl ?_
  refine ev_int ?_
  refine cmp_gt ?_
  have one : ∀ {c : Bool} {x y : Int} {k1 k2 p1 p2} {P : VPost}, (P (.int (if c = true then x else y)) σ₂) → (if c = true then Ev B d (kapOf (fnScope (fn 34))) (upd (upd (upd ε "at" (.int (at' : Nat))) "lead" (.int (F at' at'))) "others" (.ref ot)) σ₂ (.Constant (.int x) k1 p1) P else Ev B d (kapOf (fnScope (fn 34))) (upd (upd (upd ε "at" (.int (at' : Nat))) "lead" (.int (F at' at'))) "others" (.ref ot)) σ₂ (.Constant (.int y) k2 p2) P) := fun {c x y k1 k2 p1 p2 P} hp => by
    cases c
    · rw [if_neg (by simp)] at hp ⊢
      exact ev_int hp
    · rw [if_pos rfl] at hp ⊢
      exact ev_int hp
  refine one ?_
  refine bin_add ?_
  refine evs_cons ?_
  refine ev_bin ?_
  refine ev_name hbl ?_
  refine ev_if ?_
  refine tst_cmp ?_
  refine ev_name rfl ?_
  refine ev_int ?_
  refine cmp_lt ?_
  refine one ?_
  refine bin_add ?_
  refine evs_nil ?_
  refine ⟨rfl, by decide, ?_⟩
  refine ex_cons ?_
  refine ex_assign ?_
  refine ev_list ?_
  refine evs_nil ?_
  refine ⟨Nat.zero_le _, ?_⟩
  refine as_name (.inl rfl) ?_
  have hot₃ := Ext.app σ₂ [] _ _ hot
  refine ex_cons ?_
  refine ex_for ?_
  refine iter_list ?_
  refine ev_name rfl ?_
  refine ⟨_, _, rfl, hot₃, ?_⟩
  have l₂ : σ₀.length ≤ σ₂.length := (x₀.trans x₂).len
  refine forL_ind (fun i ε' σ' => ∃ acc, Ext σ₂ σ' ∧ σ₂.length < σ'.length ∧ σ'[σ₂.length]? = some acc ∧ acc.length = i ∧ Apart σ₀ acc ∧ (∀ (k' : Nat) q, acc[k']? = some q → ∃ r', q = .ref r' ∧ r' ≠ σ₂.length ∧ σ'[r']? = some (rowI k (less F at' k'))) ∧
    ε' "left" = some (.ref r) ∧ ε' "above" = some (.int (a + if 0 < F at' at' then 1 else 0)) ∧ ε' "below" = some (.int (b + if F at' at' < 0 then 1 else 0)) ∧ ε' "less" = some (.ref σ₂.length) ∧ ε' "others" = some (.ref ot) ∧ ε' "lead" = some (.int (F at' at')) ∧ ε' "at" = some (.int (at' : Nat))) ?_ ?_ ?_
  · refine ⟨[], Ext.app _ _, by simp, app_get _ _, rfl, ⟨List.nodup_nil, (fun q hq => nomatch hq)⟩, (fun k' q hq => nomatch hq), hl, ?_, ?_, rfl, rfl, rfl, rfl⟩
    · show some (PV.int (a + if decide (0 < F at' at') = true then 1 else 0)) = _
      simp
    · show some (PV.int (b + if decide (F at' at' < 0) = true then 1 else 0)) = _
      simp
  · rintro i p ε' σ₃ hp ⟨acc, x₃, l₃, hac, hal, hap, hro, e1, e2, e3, e4, e5, e6, e7⟩
    obtain ⟨hi, rfl⟩ := rmap_get hp
    have hsi := skip_lt (at' := at') hi
    refine ⟨_, .name (.inr rfl), ?_⟩
    obtain ⟨sr, es, _, hsr⟩ := T.get hsi
    have xT := x₂.trans x₃
    refine ex_cons ?_
    refine ex_expr ?_
    refine ev_append ?_
    refine ev_name e4 ?_
    refine ⟨_, rfl, l₃, ?_⟩
    refine ev_comp ⟨by rfl, by decide +kernel, by decide +kernel⟩ (by decide +kernel) ?_
    refine iter_list ?_
    refine ev_name e5 ?_
    refine ⟨_, _, rfl, x₃ _ _ hot, ?_⟩
    refine compL_row (fun j => .int (less F at' i j)) (n := k) (by simp) (fun σ' x' => x' _ _ (x₃ _ _ hot)) (fun j p σ₄ hp hj x => ?_) fun σ₄ x₄ => ?_
    · obtain ⟨_, rfl⟩ := rmap_get hp
      have hsj := skip_lt (at' := at') hj
      have X := xT.trans x
      have b1 := bits_of (hF _ _ hat hat) (by omega)
      refine ⟨_, .name (.inl rfl), fun K hK => ?_⟩
      refine ev_bin ?_
      refine ev_name e6 ?_
      refine ev_bin ?_
      refine ev_bin ?_
      refine ev_name e6 ?_
      refine ev_item ?_
      refine ev_item ?_
      refine ev_name e1 ?_
      refine ev_name rfl ?_
      refine ⟨_, _, rfl, Itm.at (X _ _ T.tab) es (by omega), ?_⟩
      refine ev_name rfl ?_
      refine ⟨_, _, rfl, Itm.at (X _ _ hsr) (rowI_at hsj) (by omega), ?_⟩
      refine bin_mul b1 (bits_of (hF _ _ hsi hsj) (by omega)) ?_
      refine ev_bin ?_
      refine ev_item ?_
      refine ev_item ?_
      refine ev_name e1 ?_
      refine ev_name rfl ?_
      refine ⟨_, _, rfl, Itm.at (X _ _ T.tab) es (by omega), ?_⟩
      refine ev_name e7 ?_
      refine ⟨_, _, rfl, Itm.at (X _ _ hsr) (rowI_at hat) (by omega), ?_⟩
      refine ev_item ?_
      refine ev_item ?_
      refine ev_name e1 ?_
      refine ev_name e7 ?_
      refine ⟨_, _, rfl, Itm.at (X _ _ T.tab) ea (by omega), ?_⟩
      refine ev_name rfl ?_
      refine ⟨_, _, rfl, Itm.at (X _ _ har) (rowI_at hsj) (by omega), ?_⟩
      refine bin_mul (bits_of (hF _ _ hsi hat) (by omega)) (bits_of (hF _ _ hat hsj) (by omega)) ?_
      refine bin_sub ?_
      refine bin_mul b1 (bits_of (less_in hF hat hi hj) (by omega)) ?_
      exact hK _ (.refl _)
    · refine ⟨acc, (x₄.trans (Ext.app _ _)) _ _ hac, by omega, ?_⟩
      have lt4 : σ₂.length < σ₄.length := Nat.lt_of_lt_of_le l₃ x₄.len
      have xx := x₄.trans (Ext.app σ₄ ((List.range k).map fun j => PV.int (less F at' i j)))
      refine ex_nil ?_
      refine ⟨.inl rfl, ?_, acc ++ [.ref σ₄.length], (x₃.trans xx).set (Nat.le_refl _) _, by rw [List.length_set, len_app]; omega, List.getElem?_set_self (by rw [len_app]; omega), by simp [hal], ⟨?_, fun q hq => ?_⟩, fun k' q hq => ?_, e1, e2, e3, e4, e5, e6, e7⟩
      · show (List.set _ σ₂.length _)[ot]? = _
        rw [List.getElem?_set_ne (by have := (List.getElem?_eq_some_iff.mp hot).1; omega)]
        exact xx _ _ (x₃ _ _ hot)
      · rw [List.nodup_append]
        refine ⟨hap.nd, by simp, fun q hq q' hq' => ?_⟩
        rw [List.mem_singleton.mp hq']
        rintro rfl
        obtain ⟨k', hk'⟩ := List.getElem?_of_mem hq
        obtain ⟨r', e, _, e'⟩ := hro k' _ hk'
        cases e
        have := (List.getElem?_eq_some_iff.mp e').1
        have := x₄.len
        omega
      · rcases List.mem_append.mp hq with hq | hq
        · exact hap.own q hq
        · exact ⟨_, List.mem_singleton.mp hq, by omega⟩
      · rcases Nat.lt_or_ge k' acc.length with hk' | hk'
        · rw [List.getElem?_append_left hk'] at hq
          obtain ⟨r', a1, a2, a3⟩ := hro k' q hq
          exact ⟨r', a1, a2, by rw [List.getElem?_set_ne (Ne.symm a2)]; exact xx _ _ a3⟩
        · have hk'' : k' = acc.length := by
            have := (List.getElem?_eq_some_iff.mp hq).1
            simp at this
            omega
          subst hk''
          simp at hq
          refine ⟨_, hq.symm, by omega, ?_⟩
          rw [List.getElem?_set_ne (by omega), hal]
          exact app_get _ _
  · rintro ε' σ₃ ⟨acc, x₃, l₃, hac, hal, hap, hro, e1, e2, e3, e4, e5, e6, e7⟩
    have hal : acc.length = k := by rw [hal]; simp
    refine ex_cons ?_
    refine ex_assign ?_
    refine ev_name e4 ?_
    refine as_name (.inr rfl) ?_
    refine ex_nil ?_
    exact h _ _ _ acc rfl e2 e3 ((x₀.trans x₂).trans x₃) l₂ hap ⟨hac, hal, hro⟩
end
end Mine
end

section
open PySem PySem.W PyProof.Rows
set_option maxRecDepth 100000
set_option maxHeartbeats 4000000
namespace Mine
theorem nodup_set {rs : List PV} (nd : rs.Nodup) (i : Nat) {x : PV} (hx : x ∉ rs) : (rs.set i x).Nodup := by
  unfold List.Nodup at *
  rw [List.pairwise_iff_getElem] at *
  intro a b ha hb hab
  rw [List.getElem_set, List.getElem_set]
  simp only [List.length_set] at ha hb
  split
  · split
    · omega
    · exact fun e => hx (e ▸ List.getElem_mem _)
  · split
    · exact fun e => hx (e ▸ List.getElem_mem _)
    · exact nd a b ha hb hab
theorem rowI_set {m at' : Nat} {f : Nat → Int} {v : Int} : (rowI m f).set at' (.int v) = rowI m fun j => if j = at' then v else f j := by
  refine List.ext_getElem? fun j => ?_
  rw [List.getElem?_set]
  by_cases hj : j < m
  · rw [rowI_at hj, rowI_len]
    by_cases e : at' = j
    · subst e
      rw [if_pos rfl, if_pos hj, rowI_at hj, if_pos rfl]
    · rw [if_neg e, rowI_at hj, if_neg (Ne.symm e)]
  · have h1 : (rowI m f)[j]? = none := List.getElem?_eq_none (by rw [rowI_len]; omega)
    have h2 : (rowI m fun j => if j = at' then v else f j)[j]? = none := List.getElem?_eq_none (by rw [rowI_len]; omega)
    rw [h1, h2, rowI_len]
    split
    · rw [if_neg (by omega)]
    · rfl
theorem sel_empty (t : Nat → Bool) (go : Nat → PV) (n : Nat) : (sel t go n).isEmpty = !(firstN t n).isSome := by
  have := sel_first t go n
  cases e : firstN t n with
  | none => rw [e] at this; rw [show sel t go n = [] from this]; rfl
  | some i => rw [e] at this; obtain ⟨l, hl⟩ := this; rw [hl]; rfl
section
variable {B : Base} {d : Nat} {σ : Store}
theorem signs_ok (G : Glob B) {p : PV} {n b : Nat} {F : IMat} {P : VPost} (T : TabI σ p n n F) (hF : HtI b n F) (hs : hbs n b < 2 ^ 18) (hn : n ≤ 1000) (h : ∀ σ', Ext σ σ' → P (.tup ((signsM n F 0 0).map .int)) σ') : CallV B (d + 1) (.ref (adr B "_law_signs")) [p] σ P := by
  obtain ⟨r, rs, rfl, T⟩ := T
  refine call_def (names := ["rows"]) G.signs ⟨rfl, rfl, rfl, by decide +kernel⟩ (by decide +kernel) (fun pm code doc => len1 fun u => rfl) rfl ?_
  refine ex_cons ?_
  refine ex_assignT (sc := fnScope (fn 34)) rfl rfl rfl ?_
  refine ev_tuple ?_
  refine evs_cons ?_
  refine ev_comp ⟨by rfl, by decide +kernel, by decide +kernel⟩ (by decide +kernel) ?_
  refine iter_list ?_
  refine ev_name rfl ?_
  refine ⟨_, _, rfl, T.tab, ?_⟩
  refine compL_tab (fun i => rowI n (F i)) T.len (fun σ' x => x _ _ T.tab) (fun i p σ₁ hp hi x => ?_) fun acc σ₁ x nd T₁ => ?_
  · obtain ⟨r', rfl, _, hr'⟩ := T.row i p hp
    refine ⟨_, .name (.inl rfl), fun K hK => ?_⟩
    refine ev_call G.list rfl ?_
    refine evs_cons ?_
    refine ev_name rfl ?_
    refine evs_nil ?_
    refine call_copy (x _ _ hr') ?_
    exact hK _ _ (Ext.app _ _) (Nat.le_refl _) (app_get _ _)
  refine evs_cons ?_
  refine ev_int ?_
  refine evs_cons ?_
  refine ev_int ?_
  refine evs_nil ?_
  refine ⟨Nat.le_of_ble_eq_true rfl, ?_⟩
  refine as_tuple rfl ?_
  refine as_name (.inr rfl) ?_
  refine as_name (.inl rfl) ?_
  refine as_name (.inl rfl) ?_
  show Ex _ _ _ _ _ _ _
  refine ex_cons (ex_while (fun k ε σ' => k ≤ n ∧ ∃ F' a' b' r' rs' hb, SJ σ (signsM n F 0 0) k ε σ' F' a' b' r' rs' hb) n ⟨Nat.le_refl _, F, 0, 0, _, acc, b, rfl, rfl, rfl, x.trans (Ext.app _ _), x.len, nd, T₁, hF, hs, rfl⟩ ?_)
  rintro k ε σ₂ ⟨hk, F', a', b', r', rs', hb, J⟩
  refine tst_cmp ?_
  refine ev_name J.left ?_
  refine ev_list ?_
  refine evs_nil ?_
  refine ⟨Nat.zero_le _, ?_⟩
  have T₂ := J.tab.ext (Ext.app σ₂ [])
  refine cmp_ne_nil T₂.tab (app_get _ _) ?_
  cases k with
  | zero =>
    have e : rs' = [] := List.eq_nil_of_length_eq_zero J.tab.len
    subst e
    rw [show (!([] : List PV).isEmpty) = false from rfl, if_neg (by simp)]
    refine ex_cons ?_
    refine ex_return ?_
    refine ev_tuple ?_
    refine evs_cons ?_
    refine ev_name J.above ?_
    refine evs_cons ?_
    refine ev_int ?_
    refine evs_cons ?_
    refine ev_name J.below ?_
    refine evs_nil ?_
    refine ⟨Nat.le_of_ble_eq_true rfl, _, .inl rfl, ?_⟩
    have := h _ (J.ext.trans (Ext.app _ []))
    rw [← J.same] at this
    exact this
  | succ k =>
    have e : rs'.isEmpty = false := by
      cases hr : rs' with
      | nil => have := J.tab.len; rw [hr] at this; cases this
      | cons => rfl
    rw [e, show (!false) = true from rfl, if_pos rfl]
    have hF' := J.ht
    have hbig : hbs k (3 * (hb + 2) + 1) < 2 ^ 18 := J.big
    have hb1 : 3 * (hb + 2) + 1 < 2 ^ 18 := Nat.lt_of_le_of_lt hbs_le hbig
    have same := J.same
    refine ex_cons ?_
    refine ex_assign_comp ⟨by rfl, by decide +kernel, by decide +kernel⟩ (by decide +kernel) (.inl rfl) ?_
    refine iter_enum G.enumerate rfl ?_
    refine evs_cons ?_
    refine ev_name J.left ?_
    refine evs_nil ?_
    refine ⟨_, _, rfl, T₂.tab, ?_⟩
    refine compL_sel (fun i => F' i i != 0) (fun i => .int (i : Nat)) ((enum_len _).trans T₂.len) (fun σ' x => x _ _ T₂.tab) (fun i p σ₃ hp hi x => ?_) fun σ₃ x₃ => ?_
    · obtain ⟨_, hq, rfl⟩ := enum_get hp
      obtain ⟨r2, rfl, _, hr2⟩ := T₂.row i _ hq
      refine ⟨_, .pair (.inl rfl) (.inl rfl), fun K hK => ?_, fun σ₃ K x₃ hti hK => ?_⟩
      · refine tst_cmp ?_
        refine ev_item ?_
        refine ev_name rfl ?_
        refine ev_name rfl ?_
        refine ⟨_, _, rfl, Itm.at (x _ _ hr2) (rowI_at hi) (by omega), ?_⟩
        refine ev_int ?_
        refine cmp_ne ?_
        exact hK _ (.refl _)
      · refine ev_name rfl ?_
        exact hK _ (.refl _)
    have hsf := sel_first (fun i => F' i i != 0) (fun i => PV.int (i : Nat)) (k + 1)
    have hse := sel_empty (fun i => F' i i != 0) (fun i => PV.int (i : Nat)) (k + 1)
    have x₄ : Ext σ₂ (σ₃ ++ [sel (fun i => F' i i != 0) (fun i => PV.int (i : Nat)) (k + 1)]) := (Ext.app _ _).trans (x₃.trans (Ext.app _ _))
    have hsp := app_get σ₃ (sel (fun i => F' i i != 0) (fun i => PV.int (i : Nat)) (k + 1))
    generalize sel (fun i => F' i i != 0) (fun i => PV.int (i : Nat)) (k + 1) = spl at *
    generalize σ₃ ++ [spl] = σ₄ at *
    generalize σ₃.length = sp at *
    refine ex_cons ?_
    refine ex_if ?_
    refine tst_cmp ?_
    refine ev_name rfl ?_
    refine ev_list ?_
    refine evs_nil ?_
    refine ⟨Nat.zero_le _, ?_⟩
    refine cmp_eq_nil (Ext.app _ _ _ _ hsp) (app_get _ _) ?_
    have x₅ : Ext σ₂ (σ₄ ++ [[]]) := x₄.trans (Ext.app _ _)
    replace hsp := Ext.app σ₄ [] _ _ hsp
    generalize σ₄ ++ [[]] = σ₅ at *
    rw [hse]
    have T₅ := J.tab.ext x₅
    have X₅ := J.ext.trans x₅
    cases hf : firstN (fun i => F' i i != 0) (k + 1) with
    | some at' =>
      rw [hf] at hsf
      obtain ⟨ls, rfl⟩ := hsf
      obtain ⟨hat, hne, _⟩ := firstN_some hf
      rw [show (!(some at').isSome) = false from rfl, if_neg (by simp)]
      refine ex_nil ?_
      refine signs_rest G (σ₀ := σ) (hb := hb + 2) J.left J.above J.below rfl hsp hat X₅ T₅ (fun i j hi hj => nat_mono (hF' i j hi hj) (by omega)) hb1 (by omega) fun ε' σ' r2 rs2 e1 e2 e3 x' own' ap' T' => ?_
      refine ⟨k, by omega, by omega, _, _, _, r2, rs2, _, e1, e2, e3, x', own', ap', T', less_ht (fun i j hi hj => nat_mono (hF' i j hi hj) (by omega)) hat, hbig, ?_⟩
      rw [← same]
      conv => rhs; unfold signsM
      unfold pivI
      rw [hf]
    | none =>
      rw [show (!(none : Option Nat).isSome) = true from rfl, if_pos rfl]
      refine ex_cons ?_
      refine ex_assign_comp ⟨by rfl, by decide +kernel, by decide +kernel⟩ (by decide +kernel) (.inl rfl) ?_
      refine iter_enum G.enumerate rfl ?_
      refine evs_cons ?_
      refine ev_name J.left ?_
      refine evs_nil ?_
      refine ⟨_, _, rfl, T₅.tab, ?_⟩
      refine compL_sel (pairT (k + 1) F') (fun i => .int (i : Nat)) ((enum_len _).trans T₅.len) (fun σ' x => x _ _ T₅.tab) (fun i p σ₃ hp hi x => ?_) fun σ₆ x₆ => ?_
      · obtain ⟨_, hq, rfl⟩ := enum_get hp
        obtain ⟨r2, rfl, _, hr2⟩ := T₅.row i _ hq
        refine ⟨_, .pair (.inl rfl) (.inl rfl), fun K hK => ?_, fun σ₃ K x₃ hti hK => ?_⟩
        · refine tst_cmp ?_
          refine ev_comp ⟨by rfl, by decide +kernel, by decide +kernel⟩ (by decide +kernel) ?_
          refine iter_list ?_
          refine ev_name rfl ?_
          refine ⟨_, _, rfl, x _ _ hr2, ?_⟩
          refine compL_sel (fun j => F' i j != 0) (fun j => .int (F' i j)) (rowI_len _ _) (fun σ' x' => x' _ _ (x _ _ hr2)) (fun j p σ₄ hp hj x' => ?_) fun σ₄ x' => ?_
          · obtain ⟨_, rfl⟩ := rmap_get hp
            refine ⟨_, .name (.inl rfl), fun K hK => ?_, fun σ₃ K x₃ hti hK => ?_⟩
            · refine tst_cmp ?_
              refine ev_name rfl ?_
              refine ev_int ?_
              refine cmp_ne ?_
              exact hK _ (.refl _)
            · refine ev_name rfl ?_
              exact hK _ (.refl _)
          refine ev_list ?_
          refine evs_nil ?_
          refine ⟨Nat.zero_le _, ?_⟩
          refine cmp_ne_nil (Ext.app _ _ _ _ (app_get _ _)) (app_get _ _) ?_
          rw [sel_empty, Bool.not_not]
          exact hK _ (x'.trans ((Ext.app _ _).trans (Ext.app _ _)))
        · refine ev_name rfl ?_
          exact hK _ (.refl _)
      have hsf := sel_first (pairT (k + 1) F') (fun i => PV.int (i : Nat)) (k + 1)
      have hse := sel_empty (pairT (k + 1) F') (fun i => PV.int (i : Nat)) (k + 1)
      have x₇ : Ext σ₅ (σ₆ ++ [sel (pairT (k + 1) F') (fun i => PV.int (i : Nat)) (k + 1)]) := x₆.trans (Ext.app _ _)
      have hsp := app_get σ₆ (sel (pairT (k + 1) F') (fun i => PV.int (i : Nat)) (k + 1))
      generalize sel (pairT (k + 1) F') (fun i => PV.int (i : Nat)) (k + 1) = spl at *
      generalize σ₆ ++ [spl] = σ₇ at *
      generalize σ₆.length = sp at *
      refine ex_cons ?_
      refine ex_if ?_
      refine tst_cmp ?_
      refine ev_name rfl ?_
      refine ev_list ?_
      refine evs_nil ?_
      refine ⟨Nat.zero_le _, ?_⟩
      refine cmp_eq_nil (Ext.app _ _ _ _ hsp) (app_get _ _) ?_
      have x₈ : Ext σ₅ (σ₇ ++ [[]]) := x₇.trans (Ext.app _ _)
      replace hsp := Ext.app σ₇ [] _ _ hsp
      generalize σ₇ ++ [[]] = σ₈ at *
      rw [hse]
      have T₈ := T₅.ext x₈
      cases hf2 : firstN (pairT (k + 1) F') (k + 1) with
      | none =>
        rw [show (!(none : Option Nat).isSome) = true from rfl, if_pos rfl]
        refine ex_cons ?_
        refine ex_return ?_
        refine ev_tuple ?_
        refine evs_cons ?_
        refine ev_name J.above ?_
        refine evs_cons ?_
        refine ev_call G.len rfl ?_
        refine evs_cons ?_
        refine ev_name J.left ?_
        refine evs_nil ?_
        refine call_len' T₈.tab T₈.len ?_
        refine evs_cons ?_
        refine ev_name J.below ?_
        refine evs_nil ?_
        refine ⟨Nat.le_of_ble_eq_true rfl, _, .inl rfl, ?_⟩
        have := h _ (X₅.trans x₈)
        rw [← same] at this
        unfold signsM pivI at this
        rw [hf, hf2] at this
        exact this
      | some at' =>
        rw [hf2] at hsf
        obtain ⟨ls, rfl⟩ := hsf
        obtain ⟨hat, hpt, _⟩ := firstN_some hf2
        rw [show (!(some at').isSome) = false from rfl, if_neg (by simp)]
        obtain ⟨spot, hf3⟩ := Option.isSome_iff_exists.mp hpt
        obtain ⟨hspot, hne, _⟩ := firstN_some hf3
        obtain ⟨ar, ea, _, har⟩ := T₈.get hat
        refine ex_nil ?_
        refine ex_cons ?_
        refine ex_assign ?_
        refine ev_item ?_
        refine ev_name rfl ?_
        refine ev_int ?_
        refine ⟨0, _, rfl, Itm.at (k := 0) hsp rfl (by decide), ?_⟩
        refine as_name (.inr rfl) ?_
        refine ex_cons ?_
        refine ex_assign ?_
        refine ev_item ?_
        refine ev_comp ⟨by rfl, by decide +kernel, by decide +kernel⟩ (by decide +kernel) ?_
        refine iter_enum G.enumerate rfl ?_
        refine evs_cons ?_
        refine ev_item ?_
        refine ev_name J.left ?_
        refine ev_name rfl ?_
        refine ⟨_, _, rfl, Itm.at T₈.tab ea (by omega), ?_⟩
        refine evs_nil ?_
        refine ⟨_, _, rfl, har, ?_⟩
        refine compL_sel (fun j => F' at' j != 0) (fun i => .int (i : Nat)) ((enum_len _).trans (rowI_len _ _)) (fun σ' x => x _ _ har) (fun i p σ₃ hp hi x => ?_) fun σ₉ x₉ => ?_
        · obtain ⟨_, hq, rfl⟩ := enum_get hp
          obtain ⟨_, rfl⟩ := rmap_get hq
          refine ⟨_, .pair (.inl rfl) (.inl rfl), fun K hK => ?_, fun σ₃ K x₃ hti hK => ?_⟩
          · refine tst_cmp ?_
            refine ev_name rfl ?_
            refine ev_int ?_
            refine cmp_ne ?_
            exact hK _ (.refl _)
          · refine ev_name rfl ?_
            exact hK _ (.refl _)
        have hsf := sel_first (fun j => F' at' j != 0) (fun i => PV.int (i : Nat)) (k + 1)
        rw [hf3] at hsf
        obtain ⟨ls2, hls2⟩ := hsf
        rw [hls2]
        refine ev_int ?_
        refine ⟨0, _, rfl, Itm.at (k := 0) (app_get _ _) rfl (by decide), ?_⟩
        refine as_name (.inr rfl) ?_
        have y₁ : Ext σ₈ (σ₉ ++ [PV.int (spot : Nat) :: ls2]) := x₉.trans (Ext.app _ _)
        generalize σ₉ ++ [PV.int (spot : Nat) :: ls2] = τ₁ at *
        have U₁ := T₈.ext y₁
        have Y₁ := (X₅.trans x₈).trans y₁
        have har₁ := y₁ _ _ har
        obtain ⟨or', eo, _, hor⟩ := U₁.get hspot
        refine ex_cons ?_
        refine ex_assign ?_
        refine ev_comp ⟨by rfl, by decide +kernel, by decide +kernel⟩ (by decide +kernel) ?_
        refine iter_enum G.enumerate rfl ?_
        refine evs_cons ?_
        refine ev_item ?_
        refine ev_name J.left ?_
        refine ev_name rfl ?_
        refine ⟨_, _, rfl, Itm.at U₁.tab ea (by omega), ?_⟩
        refine evs_nil ?_
        refine ⟨_, _, rfl, har₁, ?_⟩
        refine compL_row (fun j => .int (F' at' j + F' spot j)) ((enum_len _).trans (rowI_len _ _)) (fun σ' x => x _ _ har₁) (fun j p τ₂ hp hj x => ?_) fun τ₂ z₂ => ?_
        · obtain ⟨_, hq, rfl⟩ := enum_get hp
          obtain ⟨_, rfl⟩ := rmap_get hq
          refine ⟨_, .pair (.inl rfl) (.inl rfl), fun K hK => ?_⟩
          refine ev_bin ?_
          refine ev_name rfl ?_
          refine ev_item ?_
          refine ev_item ?_
          refine ev_name J.left ?_
          refine ev_name rfl ?_
          refine ⟨_, _, rfl, Itm.at (x _ _ U₁.tab) eo (by omega), ?_⟩
          refine ev_name rfl ?_
          refine ⟨_, _, rfl, Itm.at (x _ _ hor) (rowI_at hj) (by omega), ?_⟩
          refine bin_add ?_
          exact hK _ (.refl _)
        refine as_item ?_
        have lr' := (List.getElem?_eq_some_iff.mp U₁.tab).1
        have lτ := z₂.len
        have U₂ := U₁.set (i := at') (z₂.trans (Ext.app τ₂ (rowI (k + 1) fun j => F' at' j + F' spot j))) (app_get _ _) (by omega) hat
        refine ev_name J.left ?_
        refine ev_name rfl ?_
        refine ⟨_, _, rs', rfl, rfl, Ext.app _ _ _ _ (z₂ _ _ U₁.tab), by omega, by simpa [U₁.len] using hat, ?_⟩
        have Y₂ := (Y₁.trans (z₂.trans (Ext.app τ₂ (rowI (k + 1) fun j => F' at' j + F' spot j)))).set J.own (rs'.set at' (.ref τ₂.length))
        have nd₂ : Apart σ (rs'.set at' (.ref τ₂.length)) := by
          refine ⟨nodup_set J.rows.nd at' fun hm => ?_, fun q hq => ?_⟩
          · obtain ⟨i, hi⟩ := List.getElem?_of_mem hm
            obtain ⟨r2, e2, _, h2⟩ := U₁.row i _ hi
            cases e2
            have := (List.getElem?_eq_some_iff.mp h2).1
            omega
          · rcases List.mem_or_eq_of_mem_set hq with hq | hq
            · exact J.rows.own q hq
            · exact ⟨_, hq, by have := Y₁.len; omega⟩
        show Ex _ _ _ _ ((τ₂ ++ [rowI (k + 1) fun j => F' at' j + F' spot j]).set r' (rs'.set at' (.ref τ₂.length))) _ _
        generalize (τ₂ ++ [rowI (k + 1) fun j => F' at' j + F' spot j]).set r' (rs'.set at' (.ref τ₂.length)) = τ₃ at *
        generalize rs'.set at' (.ref τ₂.length) = rs₃ at *
        have U₃ := U₂.congr (rw' := fun i => rowI (k + 1) (mixR F' at' spot i)) fun i _ => by
          unfold mixR
          by_cases e : i = at'
          · subst e; simp
          · simp [e]
        refine ex_cons ?_
        refine ex_for ?_
        refine iter_list ?_
        refine ev_name J.left ?_
        refine ⟨_, _, rfl, U₃.tab, ?_⟩
        refine forL_ind (fun i ε' τ => Ext σ τ ∧ TabAt τ r' rs₃ (k + 1) (fun i' => rowI (k + 1) (fun j => if i' < i then mix F' at' spot i' j else mixR F' at' spot i' j)) ∧ ε' "left" = some (.ref r') ∧ ε' "above" = some (.int a') ∧ ε' "below" = some (.int b') ∧ ε' "at" = some (.int (at' : Nat)) ∧ ε' "spot" = some (.int (spot : Nat))) ?_ ?_ ?_
        · exact ⟨Y₂, U₃.congr fun i _ => by simp, J.left, J.above, J.below, rfl, rfl⟩
        · rintro i p ε' τ hp ⟨Y, U, e1, e2, e3, e4, e5⟩
          obtain ⟨r2, rfl, n2, hr2⟩ := U.row i p hp
          obtain ⟨r3, e3', own3⟩ := nd₂.own _ (List.mem_of_getElem? hp)
          cases e3'
          refine ⟨_, .name (.inl rfl), ?_⟩
          have hi : i < k + 1 := by rw [← U.len]; exact (List.getElem?_eq_some_iff.mp hp).1
          refine ex_cons ?_
          refine ex_assign ?_
          refine ev_bin ?_
          refine ev_item ?_
          refine ev_name rfl ?_
          refine ev_name e4 ?_
          refine ⟨_, _, rfl, Itm.at hr2 (rowI_at hat) (by omega), ?_⟩
          refine ev_item ?_
          refine ev_name rfl ?_
          refine ev_name e5 ?_
          refine ⟨_, _, rfl, Itm.at hr2 (rowI_at hspot) (by omega), ?_⟩
          refine bin_add ?_
          refine as_item ?_
          refine ev_name rfl ?_
          refine ev_name e4 ?_
          refine ⟨_, _, _, rfl, rfl, hr2, by omega, by simpa [rowI_len] using hat, ?_⟩
          refine ex_nil ?_
          have U' := U.rowset nd₂.nd hp (rowI (k + 1) (mix F' at' spot i))
          have ee : (rowI (k + 1) fun j => if i < i then mix F' at' spot i j else mixR F' at' spot i j).set ((at' : Nat) : Int).toNat (.int ((if i < i then mix F' at' spot i at' else mixR F' at' spot i at') + (if i < i then mix F' at' spot i spot else mixR F' at' spot i spot))) = rowI (k + 1) (mix F' at' spot i) := by
            simp only [Nat.lt_irrefl, if_false, Int.toNat_natCast]
            rw [rowI_set]
            rfl
          rw [ee]
          refine ⟨.inl rfl, ?_, Y.set own3 _, U'.congr fun i' _ => ?_, e1, e2, e3, e4, e5⟩
          · show (List.set _ _ _)[r']? = _
            rw [List.getElem?_set_ne n2]
            exact U.tab
          · by_cases e : i' = i
            · subst e
              rw [if_pos rfl]
              simp
            · rw [if_neg e]
              by_cases e' : i' < i
              · simp [e', show i' < i + 1 by omega]
              · simp [e', show ¬ i' < i + 1 by omega]
        · rintro ε' τ ⟨Y, U, e1, e2, e3, e4, e5⟩
          have U' := U.congr (rw' := fun i => rowI (k + 1) (mix F' at' spot i)) fun i hi => by
            rw [show rs₃.length = k + 1 from U₃.len]
            simp [hi]
          refine ex_cons ?_
          refine ex_assign ?_
          refine ev_list ?_
          refine evs_cons ?_
          refine ev_name e4 ?_
          refine evs_nil ?_
          refine ⟨Nat.le_of_ble_eq_true rfl, ?_⟩
          refine as_name (.inl rfl) ?_
          refine ex_nil ?_
          have hM : HtI (hb + 2) (k + 1) (mix F' at' spot) := mixC_ht (mixR_ht hF' hat hspot) hat hspot
          refine signs_rest G (σ₀ := σ) (hb := hb + 2) e1 e2 e3 rfl (app_get _ _) hat (Y.trans (Ext.app _ _)) (U'.ext (Ext.app _ _)) hM hb1 (by omega) fun ε' σ' r2 rs2 e1 e2 e3 x' own' ap' T' => ?_
          refine ⟨k, by omega, by omega, _, _, _, r2, rs2, _, e1, e2, e3, x', own', ap', T', less_ht hM hat, hbig, ?_⟩
          rw [← same]
          conv => rhs; unfold signsM
          unfold pivI
          rw [hf, hf2]
          dsimp only
          rw [hf3]
end
end Mine
end

section
open PySem PySem.W PyProof.Rows
set_option maxRecDepth 100000
set_option maxHeartbeats 4000000
namespace Mine
theorem elim_ht {k n m row s c : Nat} {F : Nat → Nat → Rat} (h : HtM k n m F) (hr : row < n) (hs : s < n) (hc : c < m) (hne : F s c ≠ 0) : HtM (4 * k + 1) n m (elim F row s c) := fun i j hi hj => by
  have hS := swapF_ht h hr hs
  have hlead : swapF F row s row c ≠ 0 := by
    unfold swapF
    split
    · rename_i e; rw [e]; exact hne
    · rw [if_pos rfl]; exact hne
  have hD := (hS row j hr hj).div (hS row c hr hc) hlead
  unfold elim
  split
  · exact hD.mono (by omega)
  · exact ((hS i j hi hj).sub ((hS i c hi hc).mul hD)).mono (by omega)
theorem ech_ht {k n m : Nat} {F : Nat → Nat → Rat} (h : HtM k n m F) : ∀ c, c ≤ m → HtM (hts k (ech n F c).2.length) n m (ech n F c).1
  | 0, _ => h
  | c + 1, hc => by
    have ih := ech_ht h c (by omega)
    unfold ech echStep
    split
    · exact ih
    · rename_i i hi
      obtain ⟨h1, h2, _⟩ := firstN_some hi
      rw [show ((ech n F c).2 ++ [c]).length = (ech n F c).2.length + 1 by simp, hts_succ]
      exact elim_ht ih (by omega) (by omega) (by omega) (by simpa using h2)
theorem inv_ht {k n : Nat} {F : Nat → Nat → Rat} (h : HtM k n n F) : HtM (hts k n) n n (invF n F) := fun i j hi hj =>
  ((ech_ht (wide_ht h) (2 * n) (Nat.le_refl _)) i (n + j) hi (by omega)).mono (hts_le (ech_len _))
theorem ht_int {z : Int} {k : Nat} (h : z.natAbs ≤ 2 ^ k) : Ht k (z : Rat) := ⟨by rw [Rat.num_intCast]; exact h, by rw [Rat.den_intCast]; exact Nat.one_le_two_pow⟩
theorem whole_ht {b n : Nat} {F : IMat} (h : HtI b n F) : HtM b n n fun i j => (F i j : Rat) := fun i j hi hj => ht_int (h i j hi hj)
theorem rowI_take {n s : Nat} {f : Nat → Int} (h : s ≤ n) : (rowI n f).take s = rowI s f := by
  unfold rowI
  rw [← List.map_take, List.take_range, Nat.min_eq_left h]
theorem rowI_drop {n s : Nat} {f : Nat → Int} (h : s ≤ n) : (rowI n f).drop s = rowI (n - s) fun j => f (s + j) := by
  refine List.ext_getElem? fun j => ?_
  rw [List.getElem?_drop]
  by_cases hj : s + j < n
  · rw [rowI_at hj, rowI_at (by omega)]
  · rw [List.getElem?_eq_none (by rw [rowI_len]; omega), List.getElem?_eq_none (by rw [rowI_len]; omega)]
noncomputable def schurF (n s : Nat) (F : IMat) : Nat → Nat → Rat := fun i j => (F (s + i) (s + j) : Rat) + mulF s (fun i t => (F t (s + i) : Rat)) (mulF s (invF s fun i j => (F i j : Rat)) fun t j => (F t (s + j) : Rat)) i j * ((-1 : Int) : Rat)
theorem cpH_small {a m : Nat} (ha : a ≤ 98) (hm : m ≤ 2) : cpH a m m < 2 ^ 20 := by
  have : m = 0 ∨ m = 1 ∨ m = 2 := by omega
  rcases this with rfl | rfl | rfl <;> simp only [cpH, cpT] <;> omega
theorem hbs_small {s b : Nat} (hs : s ≤ 3) (hb : b ≤ 3) : hbs s b < 2 ^ 18 := by
  have : s = 0 ∨ s = 1 ∨ s = 2 ∨ s = 3 := by omega
  rcases this with rfl | rfl | rfl | rfl <;> simp only [hbs] <;> omega
section
variable {B : Base} {d : Nat} {κ : Str → Option NameKind} {ε : PEnv} {σ : Store}
/-- a slice with the low or the high bound a name that holds a number -/
theorem ev_hi {v x : Str} {pv px p pos : Pos} {r s : Nat} {l : List PV} {P : VPost} (hv : ε v = some (.ref r)) (hl : σ[r]? = some l) (hx : ε x = some (.int (s : Nat))) (h : P (.ref σ.length) (σ ++ [l.take s]))
    (hd : (v == ("__debug__" : Str)) = false := by decide) (hn : (v == ("__classdict__" : Str)) = false := by decide) (hd' : (x == ("__debug__" : Str)) = false := by decide) (hn' : (x == ("__classdict__" : Str)) = false := by decide) : Ev B d κ ε σ (.Subscript (.Name v pv) (.Slice none (some (.Name x px)) none p) pos) P :=
  ev_slice (ev_name hv (by
    show Ev _ _ _ _ _ _ _
    exact ev_name hx ⟨r, l, none, some s, rfl, hl, rfl, rfl, .inl rfl, (fun k e => nomatch e), h⟩ hd' hn') hd hn)
theorem ev_lo {v x : Str} {pv px p pos : Pos} {r s : Nat} {l : List PV} {P : VPost} (hv : ε v = some (.ref r)) (hl : σ[r]? = some l) (hx : ε x = some (.int (s : Nat))) (hs : s ≤ l.length) (h : P (.ref σ.length) (σ ++ [l.drop s]))
    (hd : (v == ("__debug__" : Str)) = false := by decide) (hn : (v == ("__classdict__" : Str)) = false := by decide) (hd' : (x == ("__debug__" : Str)) = false := by decide) (hn' : (x == ("__classdict__" : Str)) = false := by decide) : Ev B d κ ε σ (.Subscript (.Name v pv) (.Slice (some (.Name x px)) none none p) pos) P :=
  ev_slice (ev_name hv (by
    show Ev _ _ _ _ _ _ _
    exact ev_name hx ⟨r, l, some s, none, rfl, hl, rfl, rfl, .inr rfl, (fun k e => by cases e; exact hs), h⟩ hd' hn') hd hn)
theorem part_ok (G : Glob B) {p : PV} {n s : Nat} {F : IMat} {x y z D0 D1 D2 : Int} {P : VPost} (T : TabI σ p n n F) (hF : HtI 1 n F) (hs : 0 < s) (hsn : s < n) (hn : n ≤ 3) (hside : signsM s F 0 0 = [x, y, z])
    (h1 : invOk s (fun i j => (F i j : Rat)) = !decide (0 < y)) (h2 : invOk s (fun i j => (F i j : Rat)) = true → told (n - s) (schurF n s F) = [D0 - x, D1 - y, D2 - z]) (h : ∀ σ', Ext σ σ' → P (.bool true) σ') :
    CallV B (d + 8) (.ref (adr B "_law_part_right")) [p, .int (s : Nat), .tup [.int D0, .int D1, .int D2]] σ P := by
  obtain ⟨r, rs, rfl, T⟩ := T
  have hFs : HtI 1 s F := fun i j hi hj => hF i j (by omega) (by omega)
  have hW := whole_ht hFs
  have hts2 : hts 1 s ≤ 21 := Nat.le_trans (hts_le (show s ≤ 2 by omega)) (by decide)
  refine call_def (names := ["rows", "size", "due"]) G.part ⟨rfl, rfl, rfl, by decide +kernel⟩ (by decide +kernel) (fun pm code doc => len3 fun u v w => rfl) rfl ?_
  refine ex_cons ?_
  refine ex_assign_comp ⟨by rfl, by decide +kernel, by decide +kernel⟩ (by decide +kernel) (.inl rfl) ?_
  refine iter_list ?_
  refine ev_hi rfl T.tab rfl ?_
  refine ⟨_, _, rfl, app_get _ _, ?_⟩
  have hlen : (rs.take s).length = s := by rw [List.length_take, T.len]; omega
  refine compL_tab (fun i => rowI s (F i)) hlen (fun σ' x => x _ _ (app_get _ _)) (fun i p σ₁ hp hi x => ?_) fun acc σ₁ x₁ nd T₁ => ?_
  · rw [List.getElem?_take, if_pos hi] at hp
    obtain ⟨r', rfl, _, hr'⟩ := T.row i p hp
    refine ⟨_, .name (.inl rfl), fun K hK => ?_⟩
    refine ev_hi rfl (x _ _ (Ext.app _ _ _ _ hr')) rfl ?_
    rw [rowI_take (by omega)]
    exact hK _ _ (Ext.app _ _) (Nat.le_refl _) (app_get _ _)
  have C₁ : TabI (σ₁ ++ [acc]) (.ref σ₁.length) s s F := ⟨_, _, rfl, T₁⟩
  have X₁ : Ext σ (σ₁ ++ [acc]) := (Ext.app _ _).trans (x₁.trans (Ext.app _ _))
  show Ex _ _ _ _ (σ₁ ++ [acc]) _ _
  generalize σ₁ ++ [acc] = τ₁ at *
  generalize σ₁.length = cr at *
  refine ex_cons (ex_swap (sc := fnScope (fn 36)) (names := ["inner", "side"]) rfl rfl rfl (by decide +kernel) ?_)
  refine evs_cons ?_
  refine ev_call G.inverse.callee rfl ?_
  refine evs_cons ?_
  refine ev_call G.from_whole.callee rfl ?_
  refine evs_cons ?_
  refine ev_name rfl ?_
  refine evs_nil ?_
  refine from_whole_ok G C₁ (fun q₂ τ₂ x₂ W₂ => ?_)
  refine evs_nil ?_
  refine inverse_ok G W₂ hW (by omega) hs (by omega) (fun q₃ τ₃ x₃ I₃ => ?_)
  refine evs_cons ?_
  refine ev_call G.signs.callee rfl ?_
  refine evs_cons ?_
  refine ev_name rfl ?_
  refine evs_nil ?_
  refine signs_ok G (C₁.ext (x₂.trans x₃)) hFs (hbs_small (by omega) (by omega)) (by omega) fun τ₄ x₄ => ?_
  rw [hside]
  refine evs_nil ?_
  refine ⟨rfl, by decide, ?_⟩
  have X₄ := X₁.trans (x₂.trans (x₃.trans x₄))
  refine ex_cons ?_
  refine ex_if ?_
  refine tst_cmp ?_
  refine ev_cmp ?_
  refine ev_name rfl ?_
  refine ev_none ?_
  have two : ∀ {e : Bool} {P : Bool → Prop}, e = decide (0 < y) → P false → Cmp B (d + 7) .NotEq (.bool e) (.bool (decide (0 < y))) τ₄ P := fun {e P} he hp => cmp_ne_bool (by rw [he]; simpa using hp)
  cases hok : invOk s (fun i j => (F i j : Rat)) with
  | false =>
    rw [hok, if_neg (by simp)] at I₃
    subst I₃
    refine cmp_none_none ?_
    refine ev_cmp ?_
    refine ev_item ?_
    refine ev_name rfl ?_
    refine ev_int ?_
    refine ⟨1, _, rfl, ⟨by decide, by decide, rfl⟩, ?_⟩
    refine ev_int ?_
    refine cmp_gt ?_
    refine two (by rw [hok] at h1; simpa using h1) ?_
    rw [if_neg (by simp)]
    refine ex_nil ?_
    refine ex_cons ?_
    refine ex_if ?_
    refine tst_cmp ?_
    refine ev_name rfl ?_
    refine ev_none ?_
    refine cmp_none_none ?_
    rw [if_pos rfl]
    refine ex_cons ?_
    refine ex_return ?_
    refine ev_true ?_
    refine ⟨_, .inl rfl, ?_⟩
    exact h _ X₄
  | true =>
    rw [hok, if_pos rfl] at I₃
    have I₄ := I₃.ext x₄
    obtain ⟨ir, irs, rfl, I₅⟩ := I₃
    refine cmp_is_none ?_
    refine ev_cmp ?_
    refine ev_item ?_
    refine ev_name rfl ?_
    refine ev_int ?_
    refine ⟨1, _, rfl, ⟨by decide, by decide, rfl⟩, ?_⟩
    refine ev_int ?_
    refine cmp_gt ?_
    refine two (by rw [hok] at h1; simpa using h1) ?_
    rw [if_neg (by simp)]
    refine ex_nil ?_
    refine ex_cons ?_
    refine ex_if ?_
    refine tst_cmp ?_
    refine ev_name rfl ?_
    refine ev_none ?_
    refine cmp_is_none ?_
    rw [if_neg (by simp)]
    refine ex_nil ?_
    have T₄ := T.ext X₄
    refine ex_cons (ex_swap (sc := fnScope (fn 36)) (names := ["cross", "rest"]) rfl rfl rfl (by decide +kernel) ?_)
    refine evs_cons ?_
    refine ev_call G.from_whole.callee rfl ?_
    refine evs_cons ?_
    refine ev_comp ⟨by rfl, by decide +kernel, by decide +kernel⟩ (by decide +kernel) ?_
    refine iter_list ?_
    refine ev_hi rfl T₄.tab rfl ?_
    refine ⟨_, _, rfl, app_get _ _, ?_⟩
    refine compL_tab (fun i => rowI (n - s) (fun j => F i (s + j))) hlen (fun σ' x => x _ _ (app_get _ _)) (fun i p σ₁ hp hi x => ?_) fun acc σ₁ x₁ nd T₁ => ?_
    · rw [List.getElem?_take, if_pos hi] at hp
      obtain ⟨r', rfl, _, hr'⟩ := T₄.row i p hp
      refine ⟨_, .name (.inl rfl), fun K hK => ?_⟩
      refine ev_lo rfl (x _ _ (Ext.app _ _ _ _ hr')) rfl (by rw [rowI_len]; omega) ?_
      rw [rowI_drop (by omega)]
      exact hK _ _ (Ext.app _ _) (Nat.le_refl _) (app_get _ _)
    have C₅ : TabI (σ₁ ++ [acc]) (.ref σ₁.length) s (n - s) (fun i j => F i (s + j)) := ⟨_, _, rfl, T₁⟩
    have X₅ : Ext τ₄ (σ₁ ++ [acc]) := (Ext.app _ _).trans (x₁.trans (Ext.app _ _))
    generalize σ₁ ++ [acc] = τ₅ at *
    refine evs_nil ?_
    refine from_whole_ok G C₅ (fun qc τ₆ x₆ C₆ => ?_)
    have T₆ := T₄.ext (X₅.trans x₆)
    have hlen' : (rs.drop s).length = n - s := by rw [List.length_drop, T.len]
    refine evs_cons ?_
    refine ev_call G.from_whole.callee rfl ?_
    refine evs_cons ?_
    refine ev_comp ⟨by rfl, by decide +kernel, by decide +kernel⟩ (by decide +kernel) ?_
    refine iter_list ?_
    refine ev_lo rfl T₆.tab rfl (by rw [T.len]; omega) ?_
    refine ⟨_, _, rfl, app_get _ _, ?_⟩
    refine compL_tab (fun i => rowI (n - s) (fun j => F (s + i) (s + j))) hlen' (fun σ' x => x _ _ (app_get _ _)) (fun i p σ₁ hp hi x => ?_) fun acc σ₂ x₂ nd T₁ => ?_
    · rw [List.getElem?_drop] at hp
      obtain ⟨r', rfl, _, hr'⟩ := T₆.row _ p hp
      refine ⟨_, .name (.inl rfl), fun K hK => ?_⟩
      refine ev_lo rfl (x _ _ (Ext.app _ _ _ _ hr')) rfl (by rw [rowI_len]; omega) ?_
      rw [rowI_drop (by omega)]
      exact hK _ _ (Ext.app _ _) (Nat.le_refl _) (app_get _ _)
    have C₇ : TabI (σ₂ ++ [acc]) (.ref σ₂.length) (n - s) (n - s) (fun i j => F (s + i) (s + j)) := ⟨_, _, rfl, T₁⟩
    have X₇ : Ext τ₆ (σ₂ ++ [acc]) := (Ext.app _ _).trans (x₂.trans (Ext.app _ _))
    generalize σ₂ ++ [acc] = τ₇ at *
    refine evs_nil ?_
    refine from_whole_ok G C₇ (fun qr τ₈ x₈ C₈ => ?_)
    refine evs_nil ?_
    refine ⟨rfl, by decide, ?_⟩
    have hC : HtM 1 s (n - s) (fun i j => (F i (s + j) : Rat)) := fun i j hi hj => ht_int (hF _ _ (by omega) (by omega))
    have hCT : HtM 1 (n - s) s (fun i j => (F j (s + i) : Rat)) := fun i j hi hj => ht_int (hF _ _ (by omega) (by omega))
    have hR : HtM 1 (n - s) (n - s) (fun i j => (F (s + i) (s + j) : Rat)) := fun i j hi hj => ht_int (hF _ _ (by omega) (by omega))
    have hI := inv_ht hW
    refine ex_cons ?_
    refine ex_assign ?_
    refine ev_call G.mat_mul.callee rfl ?_
    refine evs_cons ?_
    refine ev_call G.transposed.callee rfl ?_
    refine evs_cons ?_
    refine ev_name rfl ?_
    refine evs_nil ?_
    refine transposed_ok G (C₆.ext (X₇.trans x₈)) hs (by omega) (fun qt τ₉ x₉ C₉ => ?_)
    refine evs_cons ?_
    refine ev_call G.mat_mul.callee rfl ?_
    refine evs_cons ?_
    refine ev_name rfl ?_
    refine evs_cons ?_
    refine ev_name rfl ?_
    refine evs_nil ?_
    have e46 : s * (hts 1 s + 1 + 1) ≤ 46 := by
      have := Nat.mul_le_mul (show s ≤ 2 by omega) (show hts 1 s + 1 + 1 ≤ 23 by omega)
      omega
    have e96 : s * (1 + s * (hts 1 s + 1 + 1) + 1) ≤ 96 := by
      have := Nat.mul_le_mul (show s ≤ 2 by omega) (show 1 + s * (hts 1 s + 1 + 1) + 1 ≤ 48 by omega)
      omega
    refine mat_mul_ok G (I₄.ext (X₅.trans (x₆.trans (X₇.trans (x₈.trans x₉))))) (C₆.ext (X₇.trans (x₈.trans x₉))) hI hC (by omega) hs hs (by omega) (by omega) (fun qm τa xa Ca => ?_)
    refine evs_nil ?_
    have hM := mulF_ht (n := s) (m := n - s) hI hC
    refine mat_mul_ok (n := n - s) (k := s) G (F := fun i t => (F t (s + i) : Rat)) (Tab.ext C₉ xa) Ca hCT hM (by omega) (by omega) hs (by omega) (by omega) (fun qp τb xb Cb => ?_)
    refine as_name (.inl rfl) ?_
    have hP := mulF_ht (n := n - s) (m := n - s) hCT hM
    refine ex_cons ?_
    refine ex_assign ?_
    refine ev_call G.told.callee rfl ?_
    refine evs_cons ?_
    refine ev_call G.mat_add.callee rfl ?_
    refine evs_cons ?_
    refine ev_name rfl ?_
    refine evs_cons ?_
    refine ev_call G.mat_scale.callee rfl ?_
    refine evs_cons ?_
    refine ev_name rfl ?_
    refine evs_cons ?_
    refine ev_tuple ?_
    refine evs_cons ?_
    refine ev_neg ?_
    refine ev_int ?_
    refine ⟨1, rfl, ?_⟩
    refine evs_cons ?_
    refine ev_int ?_
    refine evs_nil ?_
    refine ⟨Nat.le_of_ble_eq_true rfl, ?_⟩
    refine evs_nil ?_
    rw [← rq_int]
    have hc1 : Ht 0 ((-1 : Int) : Rat) := ht_int (by decide)
    refine mat_scale_ok G Cb hP hc1 (by omega) (by omega) (fun qs τc xc Cc => ?_)
    refine evs_nil ?_
    have hS : HtM _ (n - s) (n - s) _ := fun i j hi hj => (hP i j hi hj).mul hc1
    refine mat_add_ok G (C₈.ext (x₉.trans (xa.trans (xb.trans xc)))) Cc hR hS (by omega) (by omega) (by omega) (by omega) (by omega) (fun qa τd xd Cd => ?_)
    refine evs_nil ?_
    have hA : HtM _ (n - s) (n - s) _ := fun i j hi hj => ((hR i j hi hj).add (hS i j hi hj)).mono (show _ ≤ 98 by omega)
    refine told_ok G Cd hA (cpH_small (Nat.le_refl _) (by omega)) (by omega) (by omega) (fun τe xe => ?_)
    refine as_name (.inl rfl) ?_
    have e2 := h2 hok
    unfold schurF at e2
    rw [e2]
    have xx := X₄.trans (X₅.trans (x₆.trans (X₇.trans (x₈.trans (x₉.trans (xa.trans (xb.trans (xc.trans (xd.trans xe)))))))))
    refine ex_cons ?_
    refine ex_return ?_
    refine ev_cmp ?_
    refine ev_name rfl ?_
    refine ev_tuple ?_
    refine evs_cons ?_
    refine ev_bin ?_
    refine ev_item ?_
    refine ev_name rfl ?_
    refine ev_int ?_
    refine ⟨0, _, rfl, ⟨by decide, by decide, rfl⟩, ?_⟩
    refine ev_item ?_
    refine ev_name rfl ?_
    refine ev_int ?_
    refine ⟨0, _, rfl, ⟨by decide, by decide, rfl⟩, ?_⟩
    refine bin_sub ?_
    refine evs_cons ?_
    refine ev_bin ?_
    refine ev_item ?_
    refine ev_name rfl ?_
    refine ev_int ?_
    refine ⟨1, _, rfl, ⟨by decide, by decide, rfl⟩, ?_⟩
    refine ev_item ?_
    refine ev_name rfl ?_
    refine ev_int ?_
    refine ⟨1, _, rfl, ⟨by decide, by decide, rfl⟩, ?_⟩
    refine bin_sub ?_
    refine evs_cons ?_
    refine ev_bin ?_
    refine ev_item ?_
    refine ev_name rfl ?_
    refine ev_int ?_
    refine ⟨2, _, rfl, ⟨by decide, by decide, rfl⟩, ?_⟩
    refine ev_item ?_
    refine ev_name rfl ?_
    refine ev_int ?_
    refine ⟨2, _, rfl, ⟨by decide, by decide, rfl⟩, ?_⟩
    refine bin_sub ?_
    refine evs_nil ?_
    refine ⟨Nat.le_of_ble_eq_true rfl, ?_⟩
    refine cmp_eq_tup (as := [D0 - x, D1 - y, D2 - z]) (bs := [D0 - x, D1 - y, D2 - z]) rfl ?_
    rw [decide_eq_true rfl]
    exact ⟨_, .inl rfl, h _ xx⟩
end
end Mine
end

section
open PySem PySem.W PyProof.Rows
set_option maxRecDepth 100000
set_option maxHeartbeats 4000000
namespace Mine
abbrev QM (F : IMat) : Nat → Nat → Rat := fun i j => (F i j : Rat)
noncomputable def moreF (F : IMat) (v : Nat → Int) : IMat := fun i j => F i j + v i * v j
noncomputable def numQ (n : Nat) (F : IMat) (v : Nat → Int) : Rat := mulF n (fun _ j => (v j : Rat)) (mulF n (invF n (QM F)) fun i _ => (v i : Rat)) 0 0
/-- what the law asks, told of the plain functions -/
structure Facts (n s : Nat) (F : IMat) (v : Nat → Int) (D0 D1 D2 L0 L1 L2 x y z : Int) : Prop where
  due : signsM n F 0 0 = [D0, D1, D2]
  told : told n (QM F) = [D0, D1, D2]
  rank : (((ech n (QM F) n).2.length : Nat) : Int) = (n : Int) - D1
  inv : invOk n (QM F) = !decide (0 < D1)
  side : signsM s F 0 0 = [x, y, z]
  inner : invOk s (QM F) = !decide (0 < y)
  part : invOk s (QM F) = true → Mine.told (n - s) (schurF n s F) = [D0 - x, D1 - y, D2 - z]
  later : signsM n (moreF F v) 0 0 = [L0, L1, L2]
  toldLater : Mine.told n (QM (moreF F v)) = [L0, L1, L2]
  back : D1 ≤ 0 → Mine.told n (invF n (QM F)) = [D0, D1, D2]
  above : D1 ≤ 0 → decide (0 < (numQ n F v).num + (numQ n F v).den) = decide ([L0, L1, L2] = [D0, D1, D2])
  nought : D1 ≤ 0 → ((numQ n F v).num + (numQ n F v).den == 0) = decide (0 < L1)
theorem cpH_small3 {a m : Nat} (ha : a ≤ 85) (hm : m ≤ 3) : cpH a m m < 2 ^ 20 := by
  have : m = 0 ∨ m = 1 ∨ m = 2 ∨ m = 3 := by omega
  rcases this with rfl | rfl | rfl | rfl <;> simp only [cpH, cpT] <;> omega
theorem tab_snoc {σ₀ σ₁ σ : Store} {acc : List PV} {k nr mr : Nat} {go : Nat → List PV} {row : List PV} (x : Ext σ₁ σ) (hac : σ₁[mr]? = some acc) (hal : acc.length = k) (hap : Apart σ₀ acc) (hro : ∀ (k' : Nat) q, acc[k']? = some q → ∃ r', q = .ref r' ∧ r' ≠ mr ∧ σ₁[r']? = some (go k'))
    (hnr : σ[nr]? = some row) (hrow : row = go k) (hnew : σ₁.length ≤ nr) (h0 : σ₀.length ≤ nr) : Apart σ₀ (acc ++ [.ref nr]) ∧ ∀ (k' : Nat) q, (acc ++ [.ref nr])[k']? = some q → ∃ r', q = .ref r' ∧ r' ≠ mr ∧ (σ.set mr (acc ++ [.ref nr]))[r']? = some (go k') := by
  have hm := (List.getElem?_eq_some_iff.mp hac).1
  refine ⟨⟨?_, fun q hq => ?_⟩, fun k' q hq => ?_⟩
  · rw [List.nodup_append]
    refine ⟨hap.nd, by simp, fun q hq q' hq' => ?_⟩
    rw [List.mem_singleton.mp hq']
    rintro rfl
    obtain ⟨k', hk'⟩ := List.getElem?_of_mem hq
    obtain ⟨r', e, _, e'⟩ := hro k' _ hk'
    cases e
    have := (List.getElem?_eq_some_iff.mp e').1
    omega
  · rcases List.mem_append.mp hq with hq | hq
    · exact hap.own q hq
    · exact ⟨_, List.mem_singleton.mp hq, h0⟩
  · rcases Nat.lt_or_ge k' acc.length with hk' | hk'
    · rw [List.getElem?_append_left hk'] at hq
      obtain ⟨r', a1, a2, a3⟩ := hro k' q hq
      exact ⟨r', a1, a2, by rw [List.getElem?_set_ne (Ne.symm a2)]; exact x _ _ a3⟩
    · have hk'' : k' = acc.length := by
        have := (List.getElem?_eq_some_iff.mp hq).1
        simp at this
        omega
      subst hk''
      simp at hq
      refine ⟨_, hq.symm, by omega, ?_⟩
      rw [List.getElem?_set_ne (by omega), hal, ← hrow]
      exact hnr
section
variable {B : Base} {d : Nat} {κ : Str → Option NameKind} {ε : PEnv} {σ : Store}
theorem law2_ok (G : Glob B) {r lr n s : Nat} {F : IMat} {v : Nat → Int} {D0 D1 D2 L0 L1 L2 x y z : Int} {P : SPost} (hr : ε "rows" = some (.ref r)) (hl : ε "line" = some (.ref lr)) (hsz : ε "size" = some (.int (s : Nat))) (hm : ε "many" = some (.int (n : Nat)))
    (T₀ : TabI σ (.ref r) n n F) (V : σ[lr]? = some (rowI n v)) (hF : HtI 1 n F) (hv : ∀ i, i < n → (v i).natAbs ≤ 2 ^ 1) (hs : 0 < s) (hsn : s < n) (hn : n ≤ 3) (K : Facts n s F v D0 D1 D2 L0 L1 L2 x y z)
    (h : ∀ ε' σ', P (.ret (.bool true)) ε' σ') : Ex B (d + 8) (kapOf (fnScope (fn 37))) ε σ ((fnBody (fn 37)).drop 6) P := by
  have T := T₀
  obtain ⟨_, rs, e, T⟩ := T
  cases e
  have hW := whole_ht hF
  have hts3 : hts 1 n ≤ 85 := Nat.le_trans (hts_le (show n ≤ 3 by omega)) (by decide)
  refine ex_cons (ex_swap (sc := fnScope (fn 37)) (names := ["due", "whole"]) rfl rfl rfl (by decide +kernel) ?_)
  refine evs_cons ?_
  refine ev_call G.signs.callee rfl ?_
  refine evs_cons ?_
  refine ev_name hr ?_
  refine evs_nil ?_
  refine signs_ok G T₀ hF (hbs_small hn (by omega)) (by omega) (fun τ₁ x₁ => ?_)
  rw [K.due]
  refine evs_cons ?_
  refine ev_call G.from_whole.callee rfl ?_
  refine evs_cons ?_
  refine ev_name hr ?_
  refine evs_nil ?_
  refine from_whole_ok G (T₀.ext x₁) (fun qw τ₂ x₂ W => ?_)
  refine evs_nil ?_
  refine ⟨rfl, by decide, ?_⟩
  refine ex_cons ?_
  refine ex_if ?_
  refine tst_or ?_
  refine tst_cmp ?_
  refine ev_call G.told.callee rfl ?_
  refine evs_cons ?_
  refine ev_name rfl ?_
  refine evs_nil ?_
  refine told_ok G W hW (cpH_small3 (by omega) hn) (by omega) hn (fun τ₃ x₃ => ?_)
  refine ev_name rfl ?_
  rw [K.told]
  refine cmp_ne_tup (as := [D0, D1, D2]) (bs := [D0, D1, D2]) rfl ?_
  rw [decide_eq_true rfl, show (!true) = false from rfl, if_neg (by simp)]
  refine tst_cmp ?_
  refine ev_call G.rank.callee rfl ?_
  refine evs_cons ?_
  refine ev_name rfl ?_
  refine evs_nil ?_
  refine rank_ok G (W.ext x₃) hW (by omega) (by omega) (by omega) (by omega) (fun τ₄ x₄ => ?_)
  refine ev_bin ?_
  refine ev_name hm ?_
  refine ev_item ?_
  refine ev_name rfl ?_
  refine ev_int ?_
  refine ⟨1, _, rfl, ⟨by decide, by decide, rfl⟩, ?_⟩
  refine bin_sub ?_
  refine cmp_ne ?_
  rw [K.rank, show (((n : Int) - D1) != (n : Int) - D1) = false by simp, if_neg (by simp)]
  have W₄ := W.ext (x₃.trans x₄)
  have X₄ := x₁.trans (x₂.trans (x₃.trans x₄))
  refine ex_nil ?_
  refine ex_cons ?_
  refine ex_assign ?_
  refine ev_call G.inverse.callee rfl ?_
  refine evs_cons ?_
  refine ev_name rfl ?_
  refine evs_nil ?_
  refine inverse_ok G W₄ hW (by omega) (by omega) (by omega) (fun qb τ₅ x₅ I => ?_)
  refine as_name (.inl rfl) ?_
  have X₅ := X₄.trans x₅
  have hcmp : ∀ {Q : Bool → Prop}, Q (decide (0 < D1)) → Cmp B (d + 8) .Is qb .none τ₅ Q := fun {Q} hq => by
    have e1 := K.inv
    cases hok : invOk n (QM F) with
    | false =>
      rw [hok] at e1
      rw [show (invOk n fun i j => (F i j : Rat)) = false from hok, if_neg (by simp)] at I
      subst I
      refine cmp_none_none ?_
      rw [show decide (0 < D1) = true by simpa using e1] at hq
      exact hq
    | true =>
      rw [hok] at e1
      rw [show (invOk n fun i j => (F i j : Rat)) = true from hok, if_pos rfl] at I
      obtain ⟨ir, irs, rfl, _⟩ := I
      refine cmp_is_none ?_
      rw [show decide (0 < D1) = false by simpa using e1] at hq
      exact hq
  refine ex_cons ?_
  refine ex_if ?_
  refine tst_or ?_
  refine tst_cmp ?_
  refine ev_cmp ?_
  refine ev_name rfl ?_
  refine ev_none ?_
  refine hcmp ?_
  refine ev_cmp ?_
  refine ev_item ?_
  refine ev_name rfl ?_
  refine ev_int ?_
  refine ⟨1, _, rfl, ⟨by decide, by decide, rfl⟩, ?_⟩
  refine ev_int ?_
  refine cmp_gt ?_
  refine cmp_ne_bool ?_
  rw [show (decide (0 < D1) != decide (0 < D1)) = false by simp, if_neg (by simp)]
  refine tst_not ?_
  refine tst_bool ?_
  refine ev_call G.part.callee rfl ?_
  refine evs_cons ?_
  refine ev_name hr ?_
  refine evs_cons ?_
  refine ev_name hsz ?_
  refine evs_cons ?_
  refine ev_name rfl ?_
  refine evs_nil ?_
  refine part_ok G (T₀.ext X₅) hF hs hsn hn K.side K.inner K.part (fun τ₆ x₆ => ?_)
  refine ⟨true, rfl, ?_⟩
  rw [show (!true) = false from rfl, if_neg (by simp)]
  have X₆ := X₅.trans x₆
  have T₆ := T.ext (X₆.trans (Ext.app τ₆ []))
  refine ex_nil ?_
  refine ex_cons ?_
  refine ex_assign ?_
  refine ev_list ?_
  refine evs_nil ?_
  refine ⟨Nat.zero_le _, ?_⟩
  refine as_name (.inl rfl) ?_
  have V₆ := X₆ _ _ V
  refine ex_cons ?_
  refine ex_for ?_
  refine iter_enum G.enumerate rfl ?_
  refine evs_cons ?_
  refine ev_name hr ?_
  refine evs_nil ?_
  refine ⟨_, _, rfl, T₆.tab, ?_⟩
  refine forL_ind (fun i ε' τ => ∃ acc, Ext τ₆ τ ∧ τ₆.length < τ.length ∧ τ[τ₆.length]? = some acc ∧ acc.length = i ∧ Apart τ₆ acc ∧ (∀ (k' : Nat) q, acc[k']? = some q → ∃ r', q = .ref r' ∧ r' ≠ τ₆.length ∧ τ[r']? = some (rowI n (moreF F v k'))) ∧
    ε' "line" = some (.ref lr) ∧ ε' "more" = some (.ref τ₆.length) ∧ ε' "due" = some (.tup [.int D0, .int D1, .int D2]) ∧ ε' "back" = some qb) ?_ ?_ ?_
  · exact ⟨[], Ext.app _ _, by simp, app_get _ _, rfl, ⟨List.nodup_nil, (fun q hq => nomatch hq)⟩, (fun k' q hq => nomatch hq), hl, rfl, rfl, rfl⟩
  · rintro i p ε' τ hp ⟨acc, xτ, lτ, hac, hal, hap, hro, e1, e2, e3, e4⟩
    obtain ⟨q, hq, rfl⟩ := enum_get hp
    have hi : i < n := by rw [← T.len]; exact (List.getElem?_eq_some_iff.mp hq).1
    obtain ⟨r', rfl, _, hr'⟩ := T.row i _ hq
    have hr₂ := xτ _ _ (X₆ _ _ hr')
    refine ⟨_, .pair (.inr rfl) (.inl rfl), ?_⟩
    refine ex_cons ?_
    refine ex_expr ?_
    refine ev_append ?_
    refine ev_name e2 ?_
    refine ⟨_, rfl, lτ, ?_⟩
    refine ev_comp ⟨by rfl, by decide +kernel, by decide +kernel⟩ (by decide +kernel) ?_
    refine iter_enum G.enumerate rfl ?_
    refine evs_cons ?_
    refine ev_name rfl ?_
    refine evs_nil ?_
    refine ⟨_, _, rfl, hr₂, ?_⟩
    refine compL_row (fun j => .int (moreF F v i j)) ((enum_len _).trans (rowI_len _ _)) (fun σ' x' => x' _ _ hr₂) (fun j p τ' hp hj xx => ?_) fun τ' xx => ?_
    · obtain ⟨_, hq, rfl⟩ := enum_get hp
      obtain ⟨_, rfl⟩ := rmap_get hq
      have V' := xx _ _ (xτ _ _ V₆)
      refine ⟨_, .pair (.inl rfl) (.inl rfl), fun K hK => ?_⟩
      refine ev_bin ?_
      refine ev_name rfl ?_
      refine ev_bin ?_
      refine ev_item ?_
      refine ev_name e1 ?_
      refine ev_name rfl ?_
      refine ⟨_, _, rfl, Itm.at V' (rowI_at hi) (by omega), ?_⟩
      refine ev_item ?_
      refine ev_name e1 ?_
      refine ev_name rfl ?_
      refine ⟨_, _, rfl, Itm.at V' (rowI_at hj) (by omega), ?_⟩
      refine bin_mul (bits_of (hv i hi) (by omega)) (bits_of (hv j hj) (by omega)) ?_
      refine bin_add ?_
      exact hK _ (.refl _)
    · obtain ⟨hap', hro'⟩ := tab_snoc (σ := τ' ++ [(List.range n).map fun j => PV.int (moreF F v i j)]) (nr := τ'.length) (xx.trans (Ext.app _ _)) hac hal hap hro (app_get _ _) rfl xx.len (by have := xx.len; omega)
      have lt := xx.len
      refine ⟨acc, (xx.trans (Ext.app _ _)) _ _ hac, by omega, ?_⟩
      refine ex_nil ?_
      refine ⟨.inl rfl, ?_, _, (xτ.trans (xx.trans (Ext.app _ _))).set (Nat.le_refl _) _, by rw [List.length_set, len_app]; omega, List.getElem?_set_self (by rw [len_app]; omega), by simp [hal], hap', hro', e1, e2, e3, e4⟩
      show (List.set _ τ₆.length _)[r]? = _
      have := (List.getElem?_eq_some_iff.mp (X₆ _ _ T.tab)).1
      rw [List.getElem?_set_ne (by omega)]
      exact (xx.trans (Ext.app _ _)) _ _ (xτ _ _ (X₆ _ _ T.tab))
  · rintro ε' τ ⟨acc, xτ, lτ, hac, hal, hap, hro, e1, e2, e3, e4⟩
    have hal : acc.length = n := by rw [hal, enum_len, T.len]
    have M : TabI τ (.ref τ₆.length) n n (moreF F v) := ⟨_, _, rfl, hac, hal, hro⟩
    have hM : HtI 3 n (moreF F v) := fun i j hi hj => by
      have h1 := hF i j hi hj
      have h2 := nat_mul (hv i hi) (hv j hj)
      exact nat_add (nat_mono h1 (show 1 ≤ 2 by omega)) h2
    refine ex_cons ?_
    refine ex_assign ?_
    refine ev_call G.signs.callee rfl ?_
    refine evs_cons ?_
    refine ev_name e2 ?_
    refine evs_nil ?_
    refine signs_ok G M hM (hbs_small hn (by omega)) (by omega) (fun τ₇ x₇ => ?_)
    refine as_name (.inl rfl) ?_
    rw [K.later]
    refine ex_cons ?_
    refine ex_if ?_
    refine tst_cmp ?_
    refine ev_call G.told.callee rfl ?_
    refine evs_cons ?_
    refine ev_call G.from_whole.callee rfl ?_
    refine evs_cons ?_
    refine ev_name e2 ?_
    refine evs_nil ?_
    refine from_whole_ok G (M.ext x₇) (fun qm τ₈ x₈ M₈ => ?_)
    refine evs_nil ?_
    refine told_ok G M₈ (whole_ht hM) (cpH_small3 (by omega) hn) (by omega) hn (fun τ₉ x₉ => ?_)
    refine ev_name rfl ?_
    have e5 := K.toldLater
    unfold QM at e5
    rw [e5]
    refine cmp_ne_tup (as := [L0, L1, L2]) (bs := [L0, L1, L2]) rfl ?_
    rw [decide_eq_true rfl, show (!true) = false from rfl, if_neg (by simp)]
    refine ex_nil ?_
    refine ex_cons ?_
    refine ex_if ?_
    refine tst_cmp ?_
    refine ev_item ?_
    refine ev_name e3 ?_
    refine ev_int ?_
    refine ⟨1, _, rfl, ⟨by decide, by decide, rfl⟩, ?_⟩
    refine ev_int ?_
    refine cmp_gt ?_
    by_cases hD : 0 < D1
    · rw [decide_eq_true hD, if_pos rfl]
      refine ex_cons ?_
      refine ex_return ?_
      refine ev_true ?_
      exact h _ _
    · rw [decide_eq_false hD, if_neg (by simp)]
      have hok : invOk n (QM F) = true := by rw [K.inv]; simpa using hD
      rw [show (invOk n fun i j => (F i j : Rat)) = true from hok, if_pos rfl] at I
      have hI : HtM (hts 1 n) n n (invF n (QM F)) := inv_ht hW
      have Y : Ext τ₅ τ₉ := x₆.trans (xτ.trans (x₇.trans (x₈.trans x₉)))
      have I₉ : TabQ τ₉ qb n n (invF n (QM F)) := I.ext Y
      refine ex_nil ?_
      refine ex_cons ?_
      refine ex_if ?_
      refine tst_cmp ?_
      refine ev_call G.told.callee rfl ?_
      refine evs_cons ?_
      refine ev_name e4 ?_
      refine evs_nil ?_
      refine told_ok G I₉ hI (cpH_small3 (by omega) hn) (by omega) hn (fun τa xa => ?_)
      refine ev_name e3 ?_
      rw [K.back (by omega)]
      refine cmp_ne_tup (as := [D0, D1, D2]) (bs := [D0, D1, D2]) rfl ?_
      rw [decide_eq_true rfl, show (!true) = false from rfl, if_neg (by simp)]
      refine ex_nil ?_
      refine ex_cons ?_
      refine ex_assign ?_
      refine ev_call G.from_whole.callee rfl ?_
      refine evs_cons ?_
      refine ev_list ?_
      refine evs_cons ?_
      refine ev_name e1 ?_
      refine evs_nil ?_
      refine ⟨Nat.le_of_ble_eq_true rfl, ?_⟩
      refine evs_nil ?_
      have Va := xa _ _ (Y _ _ (X₅ _ _ V))
      have la := (List.getElem?_eq_some_iff.mp Va).1
      have A : TabI (τa ++ [[.ref lr]]) (.ref τa.length) 1 n (fun _ => v) := ⟨_, _, rfl, app_get _ _, rfl, fun i q hq => by
        have : i = 0 := by have := (List.getElem?_eq_some_iff.mp hq).1; simp at this; omega
        subst this
        cases hq
        exact ⟨lr, rfl, by omega, Ext.app _ _ _ _ Va⟩⟩
      refine from_whole_ok G A (fun qx τb xb Ab => ?_)
      refine as_name (.inl rfl) ?_
      have hA : HtM 1 1 n (fun _ j => (v j : Rat)) := fun i j _ hj => ht_int (hv j hj)
      have hAT : HtM 1 n 1 (fun i _ => (v i : Rat)) := fun i j hi _ => ht_int (hv i hi)
      have e261 : n * (hts 1 n + 1 + 1) ≤ 261 := by
        have := Nat.mul_le_mul hn (show hts 1 n + 1 + 1 ≤ 87 by omega)
        omega
      have e789 : n * (1 + n * (hts 1 n + 1 + 1) + 1) ≤ 789 := by
        have := Nat.mul_le_mul hn (show 1 + n * (hts 1 n + 1 + 1) + 1 ≤ 263 by omega)
        omega
      have Ib := I₉.ext (xa.trans ((Ext.app _ [.ref lr]).trans xb))
      refine ex_cons ?_
      refine ex_assign ?_
      refine ev_item ?_
      refine ev_item ?_
      refine ev_call G.mat_mul.callee rfl ?_
      refine evs_cons ?_
      refine ev_name rfl ?_
      refine evs_cons ?_
      refine ev_call G.mat_mul.callee rfl ?_
      refine evs_cons ?_
      refine ev_name e4 ?_
      refine evs_cons ?_
      refine ev_call G.transposed.callee rfl ?_
      refine evs_cons ?_
      refine ev_name rfl ?_
      refine evs_nil ?_
      refine transposed_ok G Ab (by omega) (by omega) (fun qt τc xc Ac => ?_)
      refine evs_nil ?_
      refine mat_mul_ok (m := 1) G (H := fun i _ => (v i : Rat)) (Ib.ext xc) Ac hI hAT (by omega) (by omega) (by omega) (by omega) (by omega) (fun qd τd xd Ad => ?_)
      refine evs_nil ?_
      refine mat_mul_ok (n := 1) G (Ab.ext (xc.trans xd)) Ad hA (mulF_ht hI hAT) (by omega) (by omega) (by omega) (by omega) (by omega) (fun qe τe xe Ae => ?_)
      obtain ⟨er, es, rfl, Ae⟩ := Ae
      obtain ⟨e0, ee, _, he0⟩ := Ae.get (show 0 < 1 by omega)
      refine ev_int ?_
      refine ⟨0, _, rfl, Itm.at (k := 0) Ae.tab ee (by decide), ?_⟩
      refine ev_int ?_
      refine ⟨0, _, rfl, Itm.at (k := 0) he0 (rowQ_at (by omega)) (by decide), ?_⟩
      refine as_name (.inl rfl) ?_
      show Ex _ _ _ (upd _ _ (rq (numQ n F v))) _ _ _
      refine ex_cons ?_
      refine ex_assign ?_
      refine ev_bin ?_
      refine ev_num rfl ?_
      refine ev_den rfl ?_
      refine bin_add ?_
      refine as_name (.inl rfl) ?_
      refine ex_cons ?_
      refine ex_return ?_
      refine ev_boolop ?_
      refine ev_cmp ?_
      refine ev_cmp ?_
      refine ev_name rfl ?_
      refine ev_int ?_
      refine cmp_gt ?_
      refine ev_cmp ?_
      refine ev_name rfl ?_
      refine ev_name e3 ?_
      refine cmp_eq_tup (as := [L0, L1, L2]) (bs := [D0, D1, D2]) rfl ?_
      refine cmp_eq_bool ?_
      rw [K.above (by omega), show (decide ([L0, L1, L2] = [D0, D1, D2]) == decide ([L0, L1, L2] = [D0, D1, D2])) = true by simp]
      refine ⟨true, rfl, ?_⟩
      rw [if_pos (by decide)]
      refine ev_cmp ?_
      refine ev_cmp ?_
      refine ev_name rfl ?_
      refine ev_int ?_
      refine cmp_eq ?_
      refine ev_cmp ?_
      refine ev_item ?_
      refine ev_name rfl ?_
      refine ev_int ?_
      refine ⟨1, _, rfl, ⟨by decide, by decide, rfl⟩, ?_⟩
      refine ev_int ?_
      refine cmp_gt ?_
      refine cmp_eq_bool ?_
      rw [K.nought (by omega), show (decide (0 < L1) == decide (0 < L1)) = true by simp]
      exact h _ _
end
end Mine
end

section
open PySem PySem.W PyProof.Rows
set_option maxRecDepth 100000
set_option maxHeartbeats 4000000
namespace Mine
noncomputable def SymB (n : Nat) (F : IMat) : Prop := ∀ i j, i < n → j < n → F i j = F j i ∧ (F i j).natAbs ≤ 2
theorem map_getD (S : List Int) : (List.range S.length).map (fun i => PV.int (S.getD i 0)) = S.map .int := by
  refine List.ext_getElem (by simp) fun i h1 h2 => ?_
  have : i < S.length := by simpa using h1
  simp [this]
theorem rowI_of {S : List Int} {n : Nat} (h : S.length = n) : S.map PV.int = rowI n fun j => S.getD j 0 := by
  subst h
  exact (map_getD S).symm
theorem TabAt.off {σ : Store} {r : Nat} {rs : List PV} {n : Nat} {rw : Nat → List PV} (T : TabAt σ r rs n rw) {pr : Nat} (h1 : r ≠ pr) (h2 : ∀ q ∈ rs, q ≠ .ref pr) (l : List PV) : TabAt (σ.set pr l) r rs n rw := by
  refine ⟨by rw [List.getElem?_set_ne (Ne.symm h1)]; exact T.tab, T.len, fun k q hq => ?_⟩
  obtain ⟨r', e, b, c⟩ := T.row k q hq
  refine ⟨r', e, b, ?_⟩
  rw [List.getElem?_set_ne]
  · exact c
  · rintro rfl
    exact h2 q (List.mem_of_getElem? hq) e
section
variable {B : Base} {d : Nat} {κ : Str → Option NameKind} {ε : PEnv} {σ : Store}
/-- a slice of a list that stood ahead -/
theorem ev_cutb {x : Str} {px pc p pos : Pos} {k kk : Nat} {a : Addr} {vs : List Value} {l : List PV} {P : VPost} (hx : ε x = some (.base a)) (hb : B.hb.IsList a vs.toArray) (hv : ∀ g, VRels g l vs) (hl : l.length ≤ 4096) (h : P (.ref σ.length) (σ ++ [l.take k]))
    (hd : (x == ("__debug__" : Str)) = false := by decide) (hn : (x == ("__classdict__" : Str)) = false := by decide) : Ev B d κ ε σ (.Subscript (.Name x px) (.Slice none (some (.Constant (.int (k : Nat)) kk pc)) none p) pos) P := by
  intro A g env s Q hA hI hp hR hQ
  refine Subscript_ (ev_name (P := fun q σ' => q = .base a ∧ σ' = σ) hx ⟨rfl, rfl⟩ hd hn A g env s _ hA hI hp hR fun q σ₁ v g₁ h₁ t₁ H l₁ I₁ k₁ r₁ => ?_)
  obtain ⟨rfl, rfl⟩ := H
  simp only [VRel] at r₁
  subst r₁
  have lo : EvO B d κ ε σ₁ none fun q σ' => q = .none ∧ σ' = σ₁ := ⟨rfl, rfl⟩
  have hi : EvO B d κ ε σ₁ (some (.Constant (.int (k : Nat)) kk pc)) fun q σ' => q = .int (k : Nat) ∧ σ' = σ₁ := ev_int ⟨rfl, rfl⟩
  refine wpAny_Slice (evPart lo hA I₁ (hp.keep k₁) (hR.keep l₁ k₁) fun ql σ₂ vl g₂ h₂ t₂ H₂ l₂ I₂ k₂ r₂ => ?_)
  obtain ⟨rfl, rfl⟩ := H₂
  refine evPart hi hA I₂ ((hp.keep k₁).keep k₂) ((hR.keep l₁ k₁).keep l₂ k₂) fun qu σ₃ vu g₃ h₃ t₃ H₃ l₃ I₃ k₃ r₃ => ?_
  obtain ⟨rfl, rfl⟩ := H₃
  rw [evalPart_none]
  obtain ⟨ws, hws, rws⟩ := pick_cut (hv g₃) none (some k) (.inl rfl) (fun a e => nomatch e)
  refine wpAny_pure ?_
  have hp₃ := ((hp.keep k₁).keep k₂).keep k₃
  have hL : (h₃.push { cls := .type "slice", data := .fields #[vl, vu, .none] }).IsList a vs.toArray := by
    obtain ⟨o, ho, q⟩ := hb
    exact ⟨o, Heap.get?_push_of_some _ (hp₃.keeps _ _ ho), q⟩
  have hsz : vs.length ≤ 4096 := by rw [(hv g₃).length]; exact hl
  refine tail_any (T := "list") hL.typeIs slot_list_getitem.lookup (wpAny_getItem_list_slice hL (Heap.IsSliceOf.new ..) (part_of (n := none) rfl (r₂.mono l₃)) (part_of (n := some k) rfl r₃) .none (by simp) ?_ (by simpa using small_line hsz)) rfl
  rw [hws]
  obtain ⟨I₄, k₄, r₄⟩ := I₃.newL (D := (h₃.push { cls := .type "slice", data := .fields #[vl, vu, .none] }).objs.size) (n := 0) (l := l.take k) (vs := ws)
    (h' := (h₃.push { cls := .type "slice", data := .fields #[vl, vu, .none] }).push { cls := .type "list", data := .seq ws.toArray })
    (fun b o e => Heap.get?_push_of_some _ (Heap.get?_push_of_some _ e)) (Heap.get?_none_of_le (by rw [Heap.size_push]; omega)) (Heap.get?_push_size _ rfl) rws
    (by rw [List.length_take]; omega)
  exact (((hQ.step (tk := t₁) l₁ k₁).step (tk := t₂) l₂ k₂).step (tk := t₃) l₃ k₃) _ _ _ _ _ t₃ h (g₃.le_addL _) I₄ k₄ r₄

structure Pool (σ : Store) (pr sr : Nat) (cells : List Int) : Prop where
  pool : ∃ k : Nat, σ[pr]? = some [.ref sr, .int k]
  cells : σ[sr]? = some (cells.map .int)
theorem law_ok (G : Glob B) {a : Addr} {vs : List Value} {ns : List Int} {P : SPost} (hx : ε "script" = some (.base a)) (hb : B.hb.IsList a vs.toArray) (hv : ∀ g, VRels g (ns.map .int) vs) (hn63 : ns.length ≤ 63)
    (HF : ∀ n s F v, (n = 2 ∨ n = 3) → 0 < s → s < n → SymB n F → (∀ i, i < n → (v i).natAbs ≤ 2) → ∃ D0 D1 D2 L0 L1 L2 x y z, Facts n s F v D0 D1 D2 L0 L1 L2 x y z)
    (h : ∀ ε' σ', P (.ret (.bool true)) ε' σ') : Ex B (d + 8) (kapOf (fnScope (fn 37))) ε σ (fnBody (fn 37)) P := by
  refine ex_cons ?_
  refine ex_assign ?_
  refine ev_list ?_
  refine evs_cons ?_
  refine ev_comp ⟨by rfl, by decide +kernel, by decide +kernel⟩ (by decide +kernel) ?_
  refine iter_list ?_
  refine ev_cutb (k := 11) hx hb hv (by simp; omega) ?_
  refine ⟨_, _, rfl, app_get _ _, ?_⟩
  rw [← List.map_take]
  have hcl : (ns.take 11).length ≤ 11 := by rw [List.length_take]; omega
  generalize ns.take 11 = cells at *
  refine compL_row (fun i => .int (cells.getD i 0)) (n := cells.length) (by simp) (fun σ' x => x _ _ (app_get _ _)) (fun i p σ₁ hp hi x => ?_) fun σ₁ x₁ => ?_
  · rw [mapint_at hi] at hp
    cases hp
    refine ⟨_, .name (.inl rfl), fun K hK => ?_⟩
    refine ev_call G.int rfl ?_
    refine evs_cons ?_
    refine ev_name rfl ?_
    refine evs_nil ?_
    refine call_int ?_
    exact hK _ (.refl _)
  rw [map_getD]
  refine evs_cons ?_
  refine ev_int ?_
  refine evs_nil ?_
  refine ⟨Nat.le_of_ble_eq_true rfl, ?_⟩
  refine as_name (.inr rfl) ?_
  have hps : (σ₁ ++ [cells.map PV.int]).length ≠ σ₁.length := by rw [len_app]; omega
  have hP₀ : Pool (((σ₁ ++ [cells.map PV.int]) ++ [[PV.ref σ₁.length, PV.int 0]] : List (List PV))) (σ₁ ++ [cells.map PV.int]).length σ₁.length cells := ⟨⟨0, app_get _ _⟩, Ext.app _ _ _ _ (app_get _ _)⟩
  have hlen₀ : (σ₁ ++ [cells.map PV.int]).length < (((σ₁ ++ [cells.map PV.int]) ++ [[PV.ref σ₁.length, PV.int 0]] : List (List PV))).length := by rw [len_app (σ₁ ++ _)]; omega
  have hlen₁ : σ₁.length < (((σ₁ ++ [cells.map PV.int]) ++ [[PV.ref σ₁.length, PV.int 0]] : List (List PV))).length := by rw [len_app, len_app]; omega
  show Ex _ _ _ (upd ε "pool" (.ref (σ₁ ++ [cells.map PV.int]).length)) (((σ₁ ++ [cells.map PV.int]) ++ [[PV.ref σ₁.length, PV.int 0]] : List (List PV))) _ _
  generalize ((σ₁ ++ [cells.map PV.int]) ++ [[PV.ref σ₁.length, PV.int 0]] : List (List PV)) = τ₀ at *
  generalize (σ₁ ++ [cells.map PV.int]).length = pr at *
  generalize σ₁.length = sr at *
  have draw : ∀ {τ : Store} {many : Int} {P : VPost}, Pool τ pr sr cells → 0 < many → (∀ v τ', 0 ≤ v → v < many → Pool τ' pr sr cells → (∃ l, τ' = τ.set pr l) → P (.int v) τ') → CallV B (d + 8) (.ref (adr B "_law_draw")) [.ref pr, .int many] τ P := fun {τ many P} hP hm hh => by
    obtain ⟨⟨k, h1⟩, h2⟩ := hP
    refine draw_ok (d := d + 7) G h1 h2 (Ne.symm hps) (by omega) hm fun v v0 v1 => hh v _ v0 v1 ⟨⟨k + 1, ?_⟩, ?_⟩ ⟨_, rfl⟩
    · exact List.getElem?_set_self (List.getElem?_eq_some_iff.mp h1).1
    · rw [List.getElem?_set_ne hps]; exact h2
  refine ex_cons ?_
  refine ex_assign ?_
  refine ev_bin ?_
  refine ev_int ?_
  refine ev_call G.draw.callee rfl ?_
  refine evs_cons ?_
  refine ev_name rfl ?_
  refine evs_cons ?_
  refine ev_int ?_
  refine evs_nil ?_
  refine draw hP₀ (by decide) (fun v τ₁ v0 v1 hP₁ hset => ?_)
  refine bin_add ?_
  refine as_name (.inr rfl) ?_
  obtain ⟨w, rfl⟩ := Int.eq_ofNat_of_zero_le v0
  obtain ⟨_, rfl⟩ := hset
  rw [← List.length_set (as := τ₀) (i := pr) (a := _)] at hlen₀ hlen₁
  generalize List.set τ₀ pr _ = τ₁ at *
  have hn : 2 + w = 2 ∨ 2 + w = 3 := by omega
  show Ex _ _ _ (upd _ _ (.int ((2 + w : Nat) : Int))) _ _ _
  generalize 2 + w = n at *
  refine ex_cons ?_
  refine ex_assign_comp ⟨by rfl, by decide +kernel, by decide +kernel⟩ (by decide +kernel) (.inl rfl) ?_
  refine iter_range1 G.range rfl ?_
  refine evs_cons ?_
  refine ev_name rfl ?_
  refine evs_nil ?_
  refine ⟨n, rfl, by omega, ?_⟩
  refine compL_tab (fun i => rowI n fun _ => 0) (range_len 0 n) (fun σ' x => trivial) (fun i p σ₂ hp hi x => ?_) fun rs σ₂ x₂ nd T₂ => ?_
  · obtain ⟨_, rfl⟩ := range0_get hp
    refine ⟨_, .name (.inl rfl), fun K hK => ?_⟩
    refine ev_bin ?_
    refine ev_list ?_
    refine evs_cons ?_
    refine ev_int ?_
    refine evs_nil ?_
    refine ⟨Nat.le_of_ble_eq_true rfl, ?_⟩
    refine ev_name rfl ?_
    refine bin_rep (app_get _ _) (by omega) (by omega) ?_
    refine hK _ _ ((Ext.app _ _).trans (Ext.app _ _)) (by rw [len_app]; omega) ?_
    rw [app_get]
    congr 1
    exact List.ext_getElem (by simp [rowI]) fun i h1 h2 => by simp [rowI]
  have lσ := x₂.len
  have hP₂ : Pool (σ₂ ++ [rs]) pr sr cells := by
    obtain ⟨⟨k, h1⟩, h2⟩ := hP₁
    exact ⟨⟨k, (x₂.trans (Ext.app _ _)) _ _ h1⟩, (x₂.trans (Ext.app _ _)) _ _ h2⟩
  have ro : ∀ q ∈ rs, q ≠ .ref pr ∧ q ≠ .ref sr := fun q hq => by
    obtain ⟨r', rfl, hr'⟩ := nd.own q hq
    refine ⟨fun e => ?_, fun e => ?_⟩
    · have := PV.ref.inj e; omega
    · have := PV.ref.inj e; omega
  have r1 : σ₂.length ≠ pr := by omega
  have r2 : σ₂.length ≠ sr := by omega
  have ndp := nd.nd
  generalize σ₂ ++ [rs] = τ₂ at *
  generalize σ₂.length = r at *
  have SY₀ : SymB n fun _ _ => 0 := fun i j _ _ => ⟨rfl, Nat.zero_le _⟩
  have five : ∀ v : Int, 0 ≤ v → v < 5 → (v - 2).natAbs ≤ 2 := fun v a b => by omega
  refine ex_cons ?_
  refine ex_for ?_
  refine iter_range1 G.range rfl ?_
  refine evs_cons ?_
  refine ev_name rfl ?_
  refine evs_nil ?_
  refine ⟨n, rfl, by omega, ?_⟩
  refine forL_ind (fun _ ε' τ => ∃ F, Pool τ pr sr cells ∧ TabAt τ r rs n (fun i => rowI n (F i)) ∧ SymB n F ∧ ε' "rows" = some (.ref r) ∧ ε' "pool" = some (.ref pr) ∧ ε' "many" = some (.int (n : Nat))) ⟨_, hP₂, T₂, SY₀, rfl, rfl, rfl⟩ ?_ ?_
  · rintro i p ε' τ hp ⟨F, hP, T, SY, e1, e2, e3⟩
    obtain ⟨hi, rfl⟩ := range0_get hp
    refine ⟨_, .name (.inr rfl), ?_⟩
    refine ex_cons ?_
    refine ex_for ?_
    refine iter_range2 G.range rfl ?_
    refine evs_cons ?_
    refine ev_name rfl ?_
    refine evs_cons ?_
    refine ev_name e3 ?_
    refine evs_nil ?_
    refine ⟨i, n, rfl, by omega, by omega, ?_⟩
    refine forL_ind (fun _ ε' τ => ∃ F, Pool τ pr sr cells ∧ TabAt τ r rs n (fun i => rowI n (F i)) ∧ SymB n F ∧ ε' "rows" = some (.ref r) ∧ ε' "pool" = some (.ref pr) ∧ ε' "many" = some (.int (n : Nat)) ∧ ε' "at" = some (.int (i : Nat))) ⟨F, hP, T, SY, e1, e2, e3, rfl⟩ ?_ ?_
    · clear e1 e2 e3 SY T hP F
      rintro j p ε' τ hp ⟨F, hP, T, SY, e1, e2, e3, e4⟩
      obtain ⟨hj, rfl⟩ := rangeN_get hp
      have hj : i + j < n := by omega
      generalize i + j = k at *
      refine ⟨_, .name (.inl rfl), ?_⟩
      refine ex_cons ?_
      refine ex_assign ?_
      refine ev_bin ?_
      refine ev_call G.draw.callee rfl ?_
      refine evs_cons ?_
      refine ev_name e2 ?_
      refine evs_cons ?_
      refine ev_int ?_
      refine evs_nil ?_
      refine draw hP (by decide) (fun v τ' v0 v1 hP' hset => ?_)
      refine ev_int ?_
      refine bin_sub ?_
      obtain ⟨pl, rfl⟩ := hset
      have T' := T.off r1 (fun q hq => (ro q hq).1) pl
      generalize List.set τ pr pl = τ' at *
      have hv2 := five v v0 v1
      generalize v - 2 = v' at *
      obtain ⟨ir, ei, ni, hir⟩ := T'.get hi
      have roi := ro _ (List.mem_of_getElem? ei)
      refine as_item ?_
      refine ev_item ?_
      refine ev_name e1 ?_
      refine ev_name e4 ?_
      refine ⟨_, _, rfl, Itm.at T'.tab ei (by omega), ?_⟩
      refine ev_name rfl ?_
      refine ⟨_, _, _, rfl, rfl, hir, by omega, by simpa [rowI_len] using hj, ?_⟩
      have T'' := T'.rowset ndp ei ((rowI n (F i)).set k (.int v'))
      have hP'' : Pool (τ'.set ir ((rowI n (F i)).set k (.int v'))) pr sr cells := by
        obtain ⟨⟨kk, h1⟩, h2⟩ := hP'
        exact ⟨⟨kk, by rw [List.getElem?_set_ne (fun e => roi.1 (by rw [e]))]; exact h1⟩, by rw [List.getElem?_set_ne (fun e => roi.2 (by rw [e]))]; exact h2⟩
      show Ex _ _ _ _ (τ'.set ir ((rowI n (F i)).set k (.int v'))) _ _
      generalize τ'.set ir ((rowI n (F i)).set k (.int v')) = τ₃ at *
      rw [rowI_set] at T''
      replace T'' := T''.congr (rw' := fun a => rowI n (fun b => if a = i ∧ b = k then v' else F a b)) fun a _ => by
        by_cases e : a = i
        · subst e; simp
        · simp [e]
      obtain ⟨ir, ei, ni, hir⟩ := T''.get hi
      obtain ⟨kr, ek, nk, hkr⟩ := T''.get hj
      have rok := ro _ (List.mem_of_getElem? ek)
      refine ex_cons ?_
      refine ex_assign ?_
      refine ev_item ?_
      refine ev_item ?_
      refine ev_name e1 ?_
      refine ev_name e4 ?_
      refine ⟨_, _, rfl, Itm.at T''.tab ei (by omega), ?_⟩
      refine ev_name rfl ?_
      refine ⟨_, _, rfl, Itm.at hir (rowI_at hj) (by omega), ?_⟩
      rw [if_pos ⟨rfl, rfl⟩]
      refine as_item ?_
      refine ev_item ?_
      refine ev_name e1 ?_
      refine ev_name rfl ?_
      refine ⟨_, _, rfl, Itm.at T''.tab ek (by omega), ?_⟩
      refine ev_name e4 ?_
      refine ⟨_, _, _, rfl, rfl, hkr, by omega, by simpa [rowI_len] using hi, ?_⟩
      refine ex_nil ?_
      have U := T''.rowset ndp ek ((rowI n fun b => if k = i ∧ b = k then v' else F k b).set i (.int v'))
      rw [rowI_set] at U
      refine ⟨.inl rfl, trivial, fun a b => if (a = i ∧ b = k) ∨ (a = k ∧ b = i) then v' else F a b, ?_, ?_, ?_, e1, e2, e3, e4⟩
      · obtain ⟨⟨kk, h1⟩, h2⟩ := hP''
        exact ⟨⟨kk, by rw [List.getElem?_set_ne (fun e => rok.1 (by rw [e]))]; exact h1⟩, by rw [List.getElem?_set_ne (fun e => rok.2 (by rw [e]))]; exact h2⟩
      · show TabAt (List.set τ₃ kr ((rowI n fun b => if k = i ∧ b = k then v' else F k b).set i (.int v'))) _ _ _ _
        rw [rowI_set]
        refine U.congr fun a _ => ?_
        by_cases e : a = k
        · subst e
          rw [if_pos rfl]
          congr 1
          funext b
          by_cases e' : b = i
          · simp [e']
          · simp [e']
        · rw [if_neg e]
          congr 1
          funext b
          simp [e]
      · intro a b ha hb'
        obtain ⟨s1, s2⟩ := SY a b ha hb'
        dsimp only
        by_cases c : (a = i ∧ b = k) ∨ (a = k ∧ b = i)
        · rw [if_pos c, if_pos (by omega)]
          exact ⟨rfl, hv2⟩
        · rw [if_neg c, if_neg (by omega)]
          exact ⟨s1, s2⟩
    · rintro ε' τ ⟨F, hP, T, SY, e1, e2, e3, e4⟩
      refine ex_nil ?_
      exact ⟨.inl rfl, trivial, F, hP, T, SY, e1, e2, e3⟩
  · rintro ε' τ ⟨F, hP, T, SY, e1, e2, e3⟩
    refine ex_cons ?_
    refine ex_assign_comp ⟨by rfl, by decide +kernel, by decide +kernel⟩ (by decide +kernel) (.inr rfl) ?_
    refine iter_range1 G.range rfl ?_
    refine evs_cons ?_
    refine ev_name e3 ?_
    refine evs_nil ?_
    refine ⟨n, rfl, by omega, ?_⟩
    refine compL_ind (fun i acc τ' => ∃ S : List Int, acc = S.map .int ∧ S.length = i ∧ (∀ x ∈ S, x.natAbs ≤ 2) ∧ Pool τ' pr sr cells ∧ TabAt τ' r rs n (fun i => rowI n (F i)) ∧ τ'.length = τ.length) ⟨[], rfl, rfl, (fun x hx => nomatch hx), hP, T, rfl⟩ ?_ ?_
    · rintro i p acc τ' hp ⟨S, rfl, hS, hb', hP', T', hl⟩
      obtain ⟨_, rfl⟩ := range0_get hp
      refine ⟨_, .name (.inl rfl), ?_⟩
      refine ev_bin ?_
      refine ev_call G.draw.callee rfl ?_
      refine evs_cons ?_
      refine ev_name e2 ?_
      refine evs_cons ?_
      refine ev_int ?_
      refine evs_nil ?_
      refine draw hP' (by decide) (fun v τ'' v0 v1 hP'' hset => ?_)
      refine ev_int ?_
      refine bin_sub ?_
      obtain ⟨_, rfl⟩ := hset
      refine ⟨trivial, S ++ [v - 2], by simp, by simp [hS], fun x hx => ?_, hP'', T'.off r1 (fun q hq => (ro q hq).1) _, by rw [List.length_set]; exact hl⟩
      rcases List.mem_append.mp hx with hx | hx
      · exact hb' x hx
      · rw [List.mem_singleton.mp hx]; exact five v v0 v1
    · rintro acc τ' ⟨S, rfl, hS, hb', hP', T', hl⟩
      rw [range_len] at hS
      have hP₃ : Pool (τ' ++ [S.map .int]) pr sr cells := by
        obtain ⟨⟨kk, h1⟩, h2⟩ := hP'
        exact ⟨⟨kk, Ext.app _ _ _ _ h1⟩, Ext.app _ _ _ _ h2⟩
      have T₃ := T'.ext (Ext.app τ' (S.map .int))
      have V₃ := app_get τ' (S.map PV.int)
      have lp : τ'.length ≠ pr := by
        obtain ⟨⟨kk, h1⟩, h2⟩ := hP'
        have := (List.getElem?_eq_some_iff.mp h1).1
        omega
      rw [rowI_of hS] at *
      generalize τ' ++ [rowI n fun j => S.getD j 0] = τ₃ at *
      generalize τ'.length = lr at *
      refine ex_cons ?_
      refine ex_assign ?_
      refine ev_bin ?_
      refine ev_int ?_
      refine ev_call G.draw.callee rfl ?_
      refine evs_cons ?_
      refine ev_name e2 ?_
      refine evs_cons ?_
      refine ev_bin ?_
      refine ev_name e3 ?_
      refine ev_int ?_
      refine bin_sub ?_
      refine evs_nil ?_
      refine draw hP₃ (by omega) (fun v τ₄ v0 v1 hP₄ hset => ?_)
      refine bin_add ?_
      refine as_name (.inl rfl) ?_
      obtain ⟨w', rfl⟩ := Int.eq_ofNat_of_zero_le v0
      obtain ⟨_, rfl⟩ := hset
      have hb2 : ∀ i, i < n → (S.getD i 0).natAbs ≤ 2 := fun i hi => hb' _ (by
        have : i < S.length := by omega
        rw [List.getD_eq_getElem?_getD, List.getElem?_eq_getElem this]
        exact List.getElem_mem _)
      obtain ⟨D0, D1, D2, L0, L1, L2, x, y, z, K⟩ := HF n (1 + w') F (fun j => S.getD j 0) hn (by omega) (by omega) SY hb2
      refine law2_ok G (r := r) (lr := lr) (s := 1 + w') e1 rfl rfl e3 ⟨r, rs, rfl, T₃.off r1 (fun q hq => (ro q hq).1) _⟩ (by rw [List.getElem?_set_ne (Ne.symm lp)]; exact V₃) (fun i j hi hj => (SY i j hi hj).2) hb2 (by omega) (by omega) (by omega) K h
end
end Mine
end

section
namespace Mine
theorem sqn (x : Int) : 0 ≤ x * x := by
  rcases Int.le_total 0 x with h | h
  · exact Int.mul_nonneg h h
  · have := Int.mul_nonneg (show 0 ≤ -x by omega) (show 0 ≤ -x by omega)
    rwa [Int.neg_mul_neg] at this
theorem sqp {x : Int} (h : x ≠ 0) : 0 < x * x := by
  have h1 := sqn x
  have : x * x ≠ 0 := Int.mul_ne_zero h h
  omega
theorem pos_of_mul {x y : Int} (hx : 0 < x) (h : 0 < x * y) : 0 < y := by
  rcases Int.lt_or_le 0 y with h' | h'
  · exact h'
  · have := Int.mul_nonneg (Int.le_of_lt hx) (show 0 ≤ -y by omega)
    rw [Int.mul_neg] at this
    omega
theorem nonneg_of_mul {x y : Int} (hx : 0 < x) (h : 0 ≤ x * y) : 0 ≤ y := by
  rcases Int.lt_or_le y 0 with h' | h'
  · have := Int.mul_pos hx (show 0 < -y by omega)
    rw [Int.mul_neg] at this
    omega
  · exact h'
theorem neg_of_mul {x y : Int} (hx : x < 0) (h : 0 < x * y) : y < 0 := by
  have := pos_of_mul (x := -x) (y := -y) (by omega) (by rw [Int.neg_mul_neg]; exact h)
  omega
/-- the parts of a 3 by 3 matrix [[a,b,c],[b,e,f],[c,f,g]] -/
noncomputable def dt (a b c e f g : Int) : Int := a * (e * g - f * f) - b * (b * g - f * c) + c * (b * f - e * c)
noncomputable def s2 (a b c e f g : Int) : Int := (a * e - b * b) + (a * g - c * c) + (e * g - f * f)
noncomputable def Pp (a b c e f g : Int) : Int := (a * e - b * b) + (a * g - c * c)
structure KP (a b c e f g : Int) : Prop where
  p0 : 0 < a * dt a b c e f g → Pp a b c e f g ≠ 0
  p1 : 0 < dt a b c e f g → 0 < Pp a b c e f g → 0 < s2 a b c e f g ∧ 0 < a + e + g
  p2 : 0 < dt a b c e f g → Pp a b c e f g < 0 → ¬(0 ≤ s2 a b c e f g ∧ 0 ≤ a + e + g)
  p3 : dt a b c e f g < 0 → ¬(0 ≤ s2 a b c e f g ∧ a + e + g ≤ 0)
  p4 : dt a b c e f g = 0 → 0 < Pp a b c e f g → 0 < s2 a b c e f g ∧ 0 < a + e + g
  p5 : dt a b c e f g = 0 → Pp a b c e f g < 0 → s2 a b c e f g < 0
  p6 : dt a b c e f g = 0 → Pp a b c e f g = 0 → s2 a b c e f g = 0 ∧ 0 < a + e + g
theorem kp_core {a s t d D P R w X Y Z : Int} (ha : 0 < a) (hD : D = a * d) (hP : P = X + Y) (eD : D = X * Y - Z * Z) (eS : a * a * s = a * a * P + D + R) (eT : a * t = a * a + P + w) (hK : D * w ≤ P * R) (q3 : 0 ≤ w) (hR : X = 0 → Y = 0 → Z = 0 → R = 0) :
    (0 < a * d → P ≠ 0) ∧ (0 < d → 0 < P → 0 < s ∧ 0 < t) ∧ (0 < d → P < 0 → ¬(0 ≤ s ∧ 0 ≤ t)) ∧ (d < 0 → ¬(0 ≤ s ∧ t ≤ 0)) ∧ (d = 0 → 0 < P → 0 < s ∧ 0 < t) ∧ (d = 0 → P < 0 → s < 0) ∧ (d = 0 → P = 0 → s = 0 ∧ 0 < t) := by
  have q4 : 4 * D ≤ P * P := by
    have h1 := sqn (X - Y)
    have h2 := sqn Z
    have h3 : P * P = (X - Y) * (X - Y) + 4 * (X * Y) := by rw [hP]; grind
    omega
  have haa : 0 < a * a := Int.mul_pos ha ha
  have zero : P = 0 → 0 ≤ D → X = 0 ∧ Y = 0 ∧ Z = 0 := fun h0 hd0 => by
    have hy : Y = -X := by omega
    rw [hy] at eD
    have h1 := sqn X
    have h2 := sqn Z
    have h3 : X * -X = -(X * X) := by rw [Int.mul_neg]
    have hx : X * X = 0 := by omega
    have hz : Z * Z = 0 := by omega
    have hx' := (Int.mul_eq_zero.mp hx)
    have hz' := (Int.mul_eq_zero.mp hz)
    omega
  have dpos : 0 < d → 0 < D := fun h => by rw [hD]; exact Int.mul_pos ha h
  have tpos : 0 ≤ P → 0 < t := fun h => pos_of_mul ha (by omega)
  have h3 : a * a * s * P = a * a * (P * P) + D * P + P * R := by rw [eS]; grind
  have h5 : 0 < P * P - D → 0 < a * a * (P * P - D) := fun h => Int.mul_pos haa h
  have h6 : a * a * (P * P - D) = a * a * (P * P) - a * a * D := by rw [Int.mul_sub]
  have h7 : D * (a * a + P + w) = a * a * D + D * P + D * w := by grind
  have h8 : 0 ≤ s → P < 0 → a * a * s * P ≤ 0 := fun hs hp => by
    have := Int.mul_nonneg (Int.mul_nonneg (Int.le_of_lt haa) hs) (show 0 ≤ -P by omega)
    rw [Int.mul_neg] at this
    omega
  refine ⟨fun h0 hp => ?_, fun hdp hp => ?_, fun hdp hp hs => ?_, fun hdn hs => ?_, fun hd0 hp => ?_, fun hd0 hp => ?_, fun hd0 hp => ?_⟩
  · obtain ⟨x0, y0, z0⟩ := zero hp (by omega)
    subst x0 y0 z0
    omega
  · have hDp := dpos hdp
    have hR0 : 0 ≤ R := nonneg_of_mul hp (Int.le_trans (Int.mul_nonneg (by omega) q3) hK)
    refine ⟨pos_of_mul haa ?_, tpos (by omega)⟩
    rw [eS]
    have := Int.mul_pos haa hp
    omega
  · obtain ⟨hs, ht⟩ := hs
    have hDp := dpos hdp
    have h1 : 0 ≤ a * t := Int.mul_nonneg (by omega) ht
    have h2 : 0 ≤ D * (a * a + P + w) := Int.mul_nonneg (by omega) (by omega)
    have h4 := h8 hs hp
    have := h5 (by omega)
    omega
  · obtain ⟨hs, ht⟩ := hs
    have hDn : D < 0 := by rw [hD]; have := Int.mul_pos ha (show 0 < -d by omega); rw [Int.mul_neg] at this; omega
    have h1 : a * t ≤ 0 := by have := Int.mul_nonneg (Int.le_of_lt ha) (show 0 ≤ -t by omega); rw [Int.mul_neg] at this; omega
    have h2 : 0 ≤ (-D) * (-(a * a + P + w)) := Int.mul_nonneg (by omega) (by omega)
    rw [Int.neg_mul_neg] at h2
    have hPn : P < 0 := by omega
    have h4 := h8 hs hPn
    have := h5 (by have := sqn P; omega)
    omega
  · have hD0 : D = 0 := by rw [hD, hd0, Int.mul_zero]
    have hR0 : 0 ≤ R := nonneg_of_mul hp (by rw [hD0, Int.zero_mul] at hK; exact hK)
    refine ⟨pos_of_mul haa ?_, tpos (by omega)⟩
    rw [eS]
    have := Int.mul_pos haa hp
    omega
  · have hD0 : D = 0 := by rw [hD, hd0, Int.mul_zero]
    have hR0 : R ≤ 0 := by
      have := nonneg_of_mul (x := -P) (y := -R) (by omega) (by rw [Int.neg_mul_neg]; rw [hD0, Int.zero_mul] at hK; exact hK)
      omega
    have h1 := Int.mul_pos haa (show 0 < -P by omega)
    rw [Int.mul_neg] at h1
    have := pos_of_mul (x := a * a) (y := -s) haa (by rw [Int.mul_neg, eS]; omega)
    omega
  · have hD0 : D = 0 := by rw [hD, hd0, Int.mul_zero]
    obtain ⟨x0, y0, z0⟩ := zero hp (by omega)
    have hR0 := hR x0 y0 z0
    refine ⟨?_, tpos (by omega)⟩
    rw [hp, hD0, hR0, Int.mul_zero] at eS
    rcases Int.mul_eq_zero.mp eS with h | h
    · omega
    · exact h
theorem kp {a b c e f g : Int} (ha : 0 < a) : KP a b c e f g := by
  have eD : a * dt a b c e f g = (a * e - b * b) * (a * g - c * c) - (a * f - b * c) * (a * f - b * c) := by unfold dt; grind
  have q1 := sqn ((a * g - c * c) * b - (a * f - b * c) * c)
  have q2 := sqn ((a * e - b * b) * c - (a * f - b * c) * b)
  obtain ⟨h0, h1, h2, h3, h4, h5, h6⟩ := kp_core (a := a) (s := s2 a b c e f g) (t := a + e + g) (d := dt a b c e f g) (P := Pp a b c e f g) (X := a * e - b * b) (Y := a * g - c * c) (Z := a * f - b * c)
    (R := (a * e - b * b) * (c * c) + (a * g - c * c) * (b * b) - 2 * (b * c * (a * f - b * c))) (w := b * b + c * c) ha rfl rfl eD (by unfold s2 Pp dt; grind) (by unfold Pp; grind)
    (by
      have eK : Pp a b c e f g * ((a * e - b * b) * (c * c) + (a * g - c * c) * (b * b) - 2 * (b * c * (a * f - b * c))) = ((a * g - c * c) * b - (a * f - b * c) * c) * ((a * g - c * c) * b - (a * f - b * c) * c) + ((a * e - b * b) * c - (a * f - b * c) * b) * ((a * e - b * b) * c - (a * f - b * c) * b) + a * dt a b c e f g * (b * b + c * c) := by unfold Pp dt; grind
      omega)
    (by have := sqn b; have := sqn c; omega) (fun x y z => by rw [x, y, z]; simp)
  exact ⟨h0, h1, h2, h3, h4, h5, h6⟩
end Mine
end

section
set_option maxHeartbeats 4000000
namespace Mine
noncomputable def T1 (a : Int) : List Int := if 0 < a then [1, 0, 0] else if a < 0 then [0, 0, 1] else [0, 1, 0]
noncomputable def T2 (t q : Int) : List Int := if 0 < q then (if 0 < t then [2, 0, 0] else [0, 0, 2]) else if q < 0 then [1, 0, 1] else if 0 < t then [1, 1, 0] else if t < 0 then [0, 1, 1] else [0, 2, 0]
noncomputable def T3 (t s d : Int) : List Int := if 0 < d then (if 0 < s ∧ 0 < t then [3, 0, 0] else [1, 0, 2]) else if d < 0 then (if 0 ≤ s ∧ t ≤ 0 then [0, 0, 3] else [2, 0, 1])
  else if 0 < s then (if 0 < t then [2, 1, 0] else [0, 1, 2]) else if s < 0 then [1, 1, 1] else if 0 < t then [1, 2, 0] else if t < 0 then [0, 2, 1] else [0, 3, 0]
noncomputable def addL (l : List Int) (a b : Int) : List Int := match l with
  | [x, y, z] => [a + x, y, b + z]
  | l => l
theorem signs_shape : ∀ (k : Nat) (F : IMat) (a b : Int), ∃ x y z, signsM k F a b = [x, y, z]
  | 0, F, a, b => ⟨_, _, _, rfl⟩
  | k + 1, F, a, b => by
    unfold signsM
    split
    · exact ⟨_, _, _, rfl⟩
    · exact signs_shape k _ _ _
theorem addL_add (l : List Int) (a b c d : Int) (h : ∃ x y z, l = [x, y, z]) : addL (addL l a b) c d = addL l (c + a) (d + b) := by
  obtain ⟨x, y, z, rfl⟩ := h
  simp [addL, Int.add_assoc]
theorem signs_add : ∀ (k : Nat) (F : IMat) (a b : Int), signsM k F a b = addL (signsM k F 0 0) a b
  | 0, F, a, b => by simp [signsM, addL]
  | k + 1, F, a, b => by
    unfold signsM
    split
    · simp [addL]
    · rename_i at' G h
      rw [signs_add k (less G at') (a + _) (b + _), signs_add k (less G at') (0 + _) (0 + _), addL_add _ _ _ _ _ (signs_shape k _ _ _)]
      congr 1 <;> omega
/-- a turn with a number not 0 in the diagonal at hand -/
theorem signs_turn {k at' : Nat} {F G : IMat} (h : pivI (k + 1) F = some (at', G)) : signsM (k + 1) F 0 0 = addL (signsM k (less G at') 0 0) (if 0 < G at' at' then 1 else 0) (if G at' at' < 0 then 1 else 0) := by
  conv => lhs; unfold signsM
  rw [h]
  dsimp only
  rw [signs_add, Int.zero_add, Int.zero_add]
theorem signs_stop {k : Nat} {F : IMat} (h : pivI (k + 1) F = none) : signsM (k + 1) F 0 0 = [0, ((k + 1 : Nat) : Int), 0] := by
  unfold signsM
  rw [h]
theorem sig1 (F : IMat) : signsM 1 F 0 0 = T1 (F 0 0) := by
  by_cases h : F 0 0 = 0
  · rw [signs_stop (k := 0) (by simp [pivI, firstN, pairT, h]), h]; rfl
  · rw [signs_turn (k := 0) (at' := 0) (G := F) (by simp [pivI, firstN, h])]
    unfold T1
    simp only [signsM, addL]
    rcases Int.lt_trichotomy (F 0 0) 0 with h' | h' | h'
    · simp [h', show ¬ 0 < F 0 0 by omega]
    · exact absurd h' h
    · simp [h', show ¬ F 0 0 < 0 by omega]
theorem n1 {a : Int} (h : a < 0) : ¬ 0 < a := by omega
theorem n2 {a : Int} (h : 0 < a) : ¬ a < 0 := by omega
theorem z1 {a : Int} (h : a = 0) : ¬ 0 < a := by omega
theorem z2 {a : Int} (h : a = 0) : ¬ a < 0 := by omega
theorem t2_core {a q t u : Int} (ha : a ≠ 0) (h1 : 0 < a → (0 < q → 0 < u) ∧ (q < 0 → u < 0)) (h2 : a < 0 → (0 < q → u < 0) ∧ (q < 0 → 0 < u)) (h0 : q = 0 → u = 0) (h3 : 0 < a → 0 ≤ q → 0 < t) (h4 : a < 0 → 0 ≤ q → t < 0) :
    addL (T1 u) (if 0 < a then 1 else 0) (if a < 0 then 1 else 0) = T2 t q := by
  unfold T1 T2 addL
  rcases Int.lt_trichotomy a 0 with h | h | h
  · rw [if_neg (n1 h), if_pos h]
    rcases Int.lt_trichotomy q 0 with hq | hq | hq
    · rw [if_pos ((h2 h).2 hq), if_neg (n1 hq), if_pos hq]; rfl
    · have ht := h4 h (Int.le_of_eq hq.symm)
      rw [if_neg (z1 (h0 hq)), if_neg (z2 (h0 hq)), if_neg (z1 hq), if_neg (z2 hq), if_neg (n1 ht), if_pos ht]; rfl
    · have hu := (h2 h).1 hq
      rw [if_neg (n1 hu), if_pos hu, if_pos hq, if_neg (n1 (h4 h (Int.le_of_lt hq)))]; rfl
  · exact absurd h ha
  · rw [if_pos h, if_neg (n2 h)]
    rcases Int.lt_trichotomy q 0 with hq | hq | hq
    · have hu := (h1 h).2 hq
      rw [if_neg (n1 hu), if_pos hu, if_neg (n1 hq), if_pos hq]; rfl
    · rw [if_neg (z1 (h0 hq)), if_neg (z2 (h0 hq)), if_neg (z1 hq), if_neg (z2 hq), if_pos (h3 h (Int.le_of_eq hq.symm))]; rfl
    · rw [if_pos ((h1 h).1 hq), if_pos hq, if_pos (h3 h (Int.le_of_lt hq))]; rfl
theorem mul_pn {a b : Int} (h : 0 < a) (h' : b < 0) : a * b < 0 := by
  have := Int.mul_pos h (show 0 < -b by omega)
  rw [Int.mul_neg] at this
  omega
theorem mul_np {a b : Int} (h : a < 0) (h' : 0 < b) : a * b < 0 := by rw [Int.mul_comm]; exact mul_pn h' h
theorem mul_nn {a b : Int} (h : a < 0) (h' : b < 0) : 0 < a * b := by
  have := Int.mul_pos (show 0 < -a by omega) (show 0 < -b by omega)
  rwa [Int.neg_mul_neg] at this
theorem neg_of_mul' {x y : Int} (hx : 0 < x) (h : x * y < 0) : y < 0 := by
  have := pos_of_mul (x := x) (y := -y) hx (by rw [Int.mul_neg]; omega)
  omega
theorem t2_of {a b e : Int} (ha : a ≠ 0) : addL (T1 (a * (a * e - b * b))) (if 0 < a then 1 else 0) (if a < 0 then 1 else 0) = T2 (a + e) (a * e - b * b) := by
  have hb := sqn b
  have haa := sqp ha
  have ht : a * (a + e) = a * a + (a * e - b * b) + b * b := by grind
  refine t2_core ha (fun h => ⟨fun hq => Int.mul_pos h hq, fun hq => mul_pn h hq⟩) (fun h => ⟨fun hq => mul_np h hq, fun hq => mul_nn h hq⟩) (fun hq => by rw [hq, Int.mul_zero]) (fun h hq => pos_of_mul h (by omega)) fun h hq => ?_
  exact neg_of_mul h (by omega)
theorem t3_pos {P s t d u v : Int} (hu : (0 < P → 0 < u) ∧ (P < 0 → u < 0) ∧ (P = 0 → u = 0)) (hv : (0 < d → 0 < v) ∧ (d < 0 → v < 0) ∧ (d = 0 → v = 0)) (p0 : 0 < d → P ≠ 0) (p1 : 0 < d → 0 < P → 0 < s ∧ 0 < t) (p2 : 0 < d → P < 0 → ¬(0 ≤ s ∧ 0 ≤ t)) (p3 : d < 0 → ¬(0 ≤ s ∧ t ≤ 0))
    (p4 : d = 0 → 0 < P → 0 < s ∧ 0 < t) (p5 : d = 0 → P < 0 → s < 0) (p6 : d = 0 → P = 0 → s = 0 ∧ 0 < t) : addL (T2 u v) 1 0 = T3 t s d := by
  unfold T2 T3
  rcases Int.lt_trichotomy d 0 with hd | hd | hd
  · rw [if_neg (n1 (hv.2.1 hd)), if_pos (hv.2.1 hd), if_neg (n1 hd), if_pos hd, if_neg (p3 hd)]; rfl
  · have v0 := hv.2.2 hd
    rw [if_neg (z1 v0), if_neg (z2 v0), if_neg (z1 hd), if_neg (z2 hd)]
    rcases Int.lt_trichotomy P 0 with hP | hP | hP
    · have u0 := hu.2.1 hP
      have s0 := p5 hd hP
      rw [if_neg (n1 u0), if_pos u0, if_neg (n1 s0), if_pos s0]; rfl
    · have u0 := hu.2.2 hP
      obtain ⟨s0, t0⟩ := p6 hd hP
      rw [if_neg (z1 u0), if_neg (z2 u0), if_neg (z1 s0), if_neg (z2 s0), if_pos t0]; rfl
    · obtain ⟨s0, t0⟩ := p4 hd hP
      rw [if_pos (hu.1 hP), if_pos s0, if_pos t0]; rfl
  · rw [if_pos (hv.1 hd), if_pos hd]
    rcases Int.lt_trichotomy P 0 with hP | hP | hP
    · rw [if_neg (n1 (hu.2.1 hP)), if_neg (fun h => p2 hd hP ⟨Int.le_of_lt h.1, Int.le_of_lt h.2⟩)]; rfl
    · exact absurd hP (p0 hd)
    · rw [if_pos (hu.1 hP), if_pos (p1 hd hP)]; rfl
theorem t3_neg {P s t d u v : Int} (hu : (0 < P → u < 0) ∧ (P < 0 → 0 < u) ∧ (P = 0 → u = 0)) (hv : (0 < d → v < 0) ∧ (d < 0 → 0 < v) ∧ (d = 0 → v = 0)) (p0 : d < 0 → P ≠ 0) (p1 : d < 0 → 0 < P → 0 < s ∧ t < 0) (p2 : d < 0 → P < 0 → ¬(0 ≤ s ∧ t ≤ 0)) (p3 : 0 < d → ¬(0 ≤ s ∧ 0 ≤ t))
    (p4 : d = 0 → 0 < P → 0 < s ∧ t < 0) (p5 : d = 0 → P < 0 → s < 0) (p6 : d = 0 → P = 0 → s = 0 ∧ t < 0) : addL (T2 u v) 0 1 = T3 t s d := by
  unfold T2 T3
  rcases Int.lt_trichotomy d 0 with hd | hd | hd
  · rw [if_pos (hv.2.1 hd), if_neg (n1 hd), if_pos hd]
    rcases Int.lt_trichotomy P 0 with hP | hP | hP
    · rw [if_pos (hu.2.1 hP), if_neg (p2 hd hP)]; rfl
    · exact absurd hP (p0 hd)
    · obtain ⟨s0, t0⟩ := p1 hd hP
      rw [if_neg (n1 (hu.1 hP)), if_pos ⟨Int.le_of_lt s0, Int.le_of_lt t0⟩]; rfl
  · have v0 := hv.2.2 hd
    rw [if_neg (z1 v0), if_neg (z2 v0), if_neg (z1 hd), if_neg (z2 hd)]
    rcases Int.lt_trichotomy P 0 with hP | hP | hP
    · have s0 := p5 hd hP
      rw [if_pos (hu.2.1 hP), if_neg (n1 s0), if_pos s0]; rfl
    · have u0 := hu.2.2 hP
      obtain ⟨s0, t0⟩ := p6 hd hP
      rw [if_neg (z1 u0), if_neg (z2 u0), if_neg (z1 s0), if_neg (z2 s0), if_neg (n1 t0), if_pos t0]; rfl
    · have u0 := hu.1 hP
      obtain ⟨s0, t0⟩ := p4 hd hP
      rw [if_neg (n1 u0), if_pos u0, if_pos s0, if_neg (n1 t0)]; rfl
  · have v0 := hv.1 hd
    rw [if_neg (n1 v0), if_pos v0, if_pos hd, if_neg (fun h => p3 hd ⟨Int.le_of_lt h.1, Int.le_of_lt h.2⟩)]; rfl
theorem mul_sgn {a x : Int} (h : 0 < a) : (0 < x → 0 < a * x) ∧ (x < 0 → a * x < 0) ∧ (x = 0 → a * x = 0) := ⟨fun hx => Int.mul_pos h hx, fun hx => mul_pn h hx, fun hx => by rw [hx, Int.mul_zero]⟩
theorem mul_sgn' {a x : Int} (h : a < 0) : (0 < x → a * x < 0) ∧ (x < 0 → 0 < a * x) ∧ (x = 0 → a * x = 0) := ⟨fun hx => mul_np h hx, fun hx => mul_nn h hx, fun hx => by rw [hx, Int.mul_zero]⟩
theorem t3_of {a b c e f g : Int} (ha : a ≠ 0) : addL (T2 (a * Pp a b c e f g) (a * (a * (a * dt a b c e f g)))) (if 0 < a then 1 else 0) (if a < 0 then 1 else 0) = T3 (a + e + g) (s2 a b c e f g) (dt a b c e f g) := by
  rcases Int.lt_trichotomy a 0 with h | h | h
  · rw [if_neg (show ¬ 0 < a by omega), if_pos h]
    have K := kp (a := -a) (b := -b) (c := -c) (e := -e) (f := -f) (g := -g) (by omega)
    have e1 : dt (-a) (-b) (-c) (-e) (-f) (-g) = -dt a b c e f g := by unfold dt; grind
    have e2 : Pp (-a) (-b) (-c) (-e) (-f) (-g) = Pp a b c e f g := by unfold Pp; grind
    have e3 : s2 (-a) (-b) (-c) (-e) (-f) (-g) = s2 a b c e f g := by unfold s2; grind
    obtain ⟨k0, k1, k2, k3, k4, k5, k6⟩ := K
    rw [e1] at k0 k1 k2 k3 k4 k5 k6
    rw [e2] at k0 k1 k2 k4 k5 k6
    rw [e3] at k1 k2 k3 k4 k5 k6
    rw [Int.neg_mul_neg] at k0
    have m1 := mul_sgn' (x := dt a b c e f g) h
    have m2 := mul_sgn' (x := a * dt a b c e f g) h
    have m3 := mul_sgn' (x := a * (a * dt a b c e f g)) h
    have sg : (0 < dt a b c e f g → a * (a * (a * dt a b c e f g)) < 0) ∧ (dt a b c e f g < 0 → 0 < a * (a * (a * dt a b c e f g))) ∧ (dt a b c e f g = 0 → a * (a * (a * dt a b c e f g)) = 0) :=
      ⟨fun q => m3.1 (m2.2.1 (m1.1 q)), fun q => m3.2.1 (m2.1 (m1.2.1 q)), fun q => m3.2.2 (m2.2.2 (m1.2.2 q))⟩
    clear m1 m2 m3 e1 e2 e3
    generalize dt a b c e f g = D at *
    generalize s2 a b c e f g = S at *
    have ht : -a + -e + -g = -(a + e + g) := by clear k0 k1 k2 k3 k4 k5 k6 sg h ha; omega
    rw [ht] at k1 k2 k3 k4 k6
    have neg : D < 0 → 0 < -D := Int.neg_pos_of_neg
    generalize a + e + g = t at *
    exact t3_neg (mul_sgn' h) sg (fun hd => k0 (mul_nn h hd)) (fun hd hp => let ⟨x, y⟩ := k1 (neg hd) hp; ⟨x, Int.neg_of_neg_pos y⟩) (fun hd hp hh => k2 (neg hd) hp ⟨hh.1, Int.neg_nonneg_of_nonpos hh.2⟩) (fun hd hh => k3 (Int.neg_neg_of_pos hd) ⟨hh.1, Int.neg_nonpos_of_nonneg hh.2⟩)
      (fun hd hp => let ⟨x, y⟩ := k4 (by rw [hd]; rfl) hp; ⟨x, Int.neg_of_neg_pos y⟩) (fun hd hp => k5 (by rw [hd]; rfl) hp) (fun hd hp => let ⟨x, y⟩ := k6 (by rw [hd]; rfl) hp; ⟨x, Int.neg_of_neg_pos y⟩)
  · exact absurd h ha
  · rw [if_pos h, if_neg (show ¬ a < 0 by omega)]
    obtain ⟨k0, k1, k2, k3, k4, k5, k6⟩ := kp (b := b) (c := c) (e := e) (f := f) (g := g) h
    have m1 := mul_sgn (x := dt a b c e f g) h
    have m2 := mul_sgn (x := a * dt a b c e f g) h
    have m3 := mul_sgn (x := a * (a * dt a b c e f g)) h
    exact t3_pos (mul_sgn h) ⟨fun q => m3.1 (m2.1 (m1.1 q)), fun q => m3.2.1 (m2.2.1 (m1.2.1 q)), fun q => m3.2.2 (m2.2.2 (m1.2.2 q))⟩ (fun hd => k0 (Int.mul_pos h hd)) k1 k2 k3 k4 k5 k6
theorem sig2 (F : IMat) (h01 : F 1 0 = F 0 1) : signsM 2 F 0 0 = T2 (F 0 0 + F 1 1) (F 0 0 * F 1 1 - F 0 1 * F 0 1) := by
  by_cases h0 : F 0 0 = 0
  · by_cases h1 : F 1 1 = 0
    · by_cases h2 : F 0 1 = 0
      · rw [signs_stop (k := 1) (by simp [pivI, firstN, pairT, h0, h1, h2, h01]), h0, h1, h2]; rfl
      · rw [signs_turn (k := 1) (at' := 0) (G := mix F 0 1) (by simp [pivI, firstN, pairT, h0, h1, h2, h01]), sig1]
        have e0 : mix F 0 1 0 0 = 2 * F 0 1 := by simp [mix, mixC, mixR, h0, h1, h01]; omega
        have e1 : less (mix F 0 1) 0 0 0 = (2 * F 0 1) * ((2 * F 0 1) * 0 - F 0 1 * F 0 1) := by
          simp [less, skip, mix, mixC, mixR, h0, h1, h01]
          grind
        rw [e0, e1, t2_of (by omega)]
        have hb := sqp h2
        unfold T2
        rw [h0, h1]
        rw [if_neg (by omega), if_pos (by omega), if_neg (by omega), if_pos (by omega)]
    · rw [signs_turn (k := 1) (at' := 1) (G := F) (by simp [pivI, firstN, h0, h1]), sig1]
      have e1 : less F 1 0 0 = F 1 1 * (F 1 1 * F 0 0 - F 0 1 * F 0 1) := by simp [less, skip, h01]
      rw [e1, t2_of h1]
      congr 1 <;> grind
  · rw [signs_turn (k := 1) (at' := 0) (G := F) (by simp [pivI, firstN, h0]), sig1]
    have e1 : less F 0 0 0 = F 0 0 * (F 0 0 * F 1 1 - F 0 1 * F 0 1) := by simp [less, skip, h01]
    rw [e1, t2_of h0]
/-- with the lead a at hand -/
theorem sig3_turn {F G : IMat} {at' : Nat} {a b c e f g : Int} (h : pivI 3 F = some (at', G)) (ha : G at' at' = a) (hne : a ≠ 0) (h00 : less G at' 0 0 = a * (a * e - b * b)) (h11 : less G at' 1 1 = a * (a * g - c * c)) (h01 : less G at' 0 1 = a * (a * f - b * c)) (h10 : less G at' 1 0 = a * (a * f - b * c)) :
    signsM 3 F 0 0 = T3 (a + e + g) (s2 a b c e f g) (dt a b c e f g) := by
  rw [signs_turn (k := 2) h, ha, sig2 _ (by rw [h10, h01]), h00, h11, h01, ← t3_of hne]
  congr 2
  · unfold Pp; grind
  · unfold dt; grind
theorem t3_zero {t t' s s' d : Int} (hs : s < 0) (hs' : s' < 0) : T3 t s d = T3 t' s' d := by
  unfold T3
  rcases Int.lt_trichotomy d 0 with hd | hd | hd
  · rw [if_neg (show ¬ 0 < d by omega), if_pos hd, if_neg (show ¬ 0 < d by omega), if_pos hd, if_neg (by omega), if_neg (by omega)]
  · rw [if_neg (show ¬ 0 < d by omega), if_neg (show ¬ d < 0 by omega), if_neg (show ¬ 0 < s by omega), if_pos hs, if_neg (show ¬ 0 < d by omega), if_neg (show ¬ d < 0 by omega), if_neg (show ¬ 0 < s' by omega), if_pos hs']
  · rw [if_pos hd, if_neg (by omega), if_pos hd, if_neg (by omega)]
noncomputable def dI (F : IMat) : Int := dt (F 0 0) (F 0 1) (F 0 2) (F 1 1) (F 1 2) (F 2 2)
noncomputable def sI (F : IMat) : Int := s2 (F 0 0) (F 0 1) (F 0 2) (F 1 1) (F 1 2) (F 2 2)
noncomputable def tI (F : IMat) : Int := F 0 0 + F 1 1 + F 2 2
theorem sig3 (F : IMat) (h01 : F 1 0 = F 0 1) (h02 : F 2 0 = F 0 2) (h12 : F 2 1 = F 1 2) : signsM 3 F 0 0 = T3 (tI F) (sI F) (dI F) := by
  unfold tI sI dI
  by_cases h0 : F 0 0 = 0
  · by_cases h1 : F 1 1 = 0
    · by_cases h2 : F 2 2 = 0
      · have hz : ∀ {t s' : Int} {x y z : Int}, x = F 0 1 → y = F 0 2 → z = F 1 2 → s' < 0 → (x ≠ 0 ∨ y ≠ 0 ∨ z ≠ 0) → T3 t s' (2 * (x * y * z)) = T3 (F 0 0 + F 1 1 + F 2 2) (s2 (F 0 0) (F 0 1) (F 0 2) (F 1 1) (F 1 2) (F 2 2)) (dt (F 0 0) (F 0 1) (F 0 2) (F 1 1) (F 1 2) (F 2 2)) := by
          intro t s' x y z hx hy hz hs' hne
          rw [h0, h1, h2, ← hx, ← hy, ← hz]
          have e1 : dt 0 x y 0 z 0 = 2 * (x * y * z) := by unfold dt; grind
          rw [e1]
          refine t3_zero hs' ?_
          unfold s2
          have q1 := sqn x
          have q2 := sqn y
          have q3 := sqn z
          rcases hne with h | h | h
          · have := sqp h; omega
          · have := sqp h; omega
          · have := sqp h; omega
        by_cases h3 : F 0 1 = 0
        · by_cases h4 : F 0 2 = 0
          · by_cases h5 : F 1 2 = 0
            · rw [signs_stop (k := 2) (by simp [pivI, firstN, pairT, h0, h1, h2, h3, h4, h5, h01, h02, h12]), h0, h1, h2, h3, h4, h5]; rfl
            · rw [sig3_turn (F := F) (G := mix F 1 2) (at' := 1) (a := 2 * F 1 2) (b := F 0 1 + F 0 2) (c := F 1 2) (e := 0) (f := F 0 2) (g := 0) (by simp [pivI, firstN, pairT, h0, h1, h2, h3, h4, h5, h01, h02, h12])
                (by simp [mix, mixC, mixR, h1, h2, h12]; omega) (by omega) (by simp [less, skip, mix, mixC, mixR, h0, h1, h2, h01, h02, h12]; grind) (by simp [less, skip, mix, mixC, mixR, h0, h1, h2, h01, h02, h12]; grind) (by simp [less, skip, mix, mixC, mixR, h0, h1, h2, h01, h02, h12]; grind) (by simp [less, skip, mix, mixC, mixR, h0, h1, h2, h01, h02, h12]; grind)]
              have e1 : dt (2 * F 1 2) (F 0 1 + F 0 2) (F 1 2) 0 (F 0 2) 0 = 2 * (F 0 1 * F 0 2 * F 1 2) := by unfold dt; grind
              rw [e1]
              refine hz rfl rfl rfl ?_ (.inr (.inr h5))
              unfold s2
              have q1 := sqn (F 0 1 + F 0 2)
              have q2 := sqn (F 0 2)
              have q3 := sqp h5
              omega
          · rw [sig3_turn (F := F) (G := mix F 0 2) (at' := 0) (a := 2 * F 0 2) (b := F 0 1 + F 1 2) (c := F 0 2) (e := 0) (f := F 1 2) (g := 0) (by simp [pivI, firstN, pairT, h0, h1, h2, h3, h4, h01, h02, h12])
              (by simp [mix, mixC, mixR, h0, h2, h02]; omega) (by omega) (by simp [less, skip, mix, mixC, mixR, h0, h1, h2, h01, h02, h12]; grind) (by simp [less, skip, mix, mixC, mixR, h0, h1, h2, h01, h02, h12]; grind) (by simp [less, skip, mix, mixC, mixR, h0, h1, h2, h01, h02, h12]; grind) (by simp [less, skip, mix, mixC, mixR, h0, h1, h2, h01, h02, h12]; grind)]
            have e1 : dt (2 * F 0 2) (F 0 1 + F 1 2) (F 0 2) 0 (F 1 2) 0 = 2 * (F 0 1 * F 0 2 * F 1 2) := by unfold dt; grind
            rw [e1]
            refine hz rfl rfl rfl ?_ (.inr (.inl h4))
            unfold s2
            have q1 := sqn (F 0 1 + F 1 2)
            have q2 := sqn (F 1 2)
            have q3 := sqp h4
            omega
        · rw [sig3_turn (F := F) (G := mix F 0 1) (at' := 0) (a := 2 * F 0 1) (b := F 0 1) (c := F 0 2 + F 1 2) (e := 0) (f := F 1 2) (g := 0) (by simp [pivI, firstN, pairT, h0, h1, h2, h3, h01, h02, h12])
            (by simp [mix, mixC, mixR, h0, h1, h01]; omega) (by omega) (by simp [less, skip, mix, mixC, mixR, h0, h1, h2, h01, h02, h12]; grind) (by simp [less, skip, mix, mixC, mixR, h0, h1, h2, h01, h02, h12]; grind) (by simp [less, skip, mix, mixC, mixR, h0, h1, h2, h01, h02, h12]; grind) (by simp [less, skip, mix, mixC, mixR, h0, h1, h2, h01, h02, h12]; grind)]
          have e1 : dt (2 * F 0 1) (F 0 1) (F 0 2 + F 1 2) 0 (F 1 2) 0 = 2 * (F 0 1 * F 0 2 * F 1 2) := by unfold dt; grind
          rw [e1]
          refine hz rfl rfl rfl ?_ (.inl h3)
          unfold s2
          have q1 := sqn (F 0 2 + F 1 2)
          have q2 := sqn (F 1 2)
          have q3 := sqp h3
          omega
      · rw [sig3_turn (F := F) (G := F) (at' := 2) (a := F 2 2) (b := F 0 2) (c := F 1 2) (e := F 0 0) (f := F 0 1) (g := F 1 1) (by simp [pivI, firstN, h0, h1, h2]) rfl h2
          (by simp [less, skip, h01, h02, h12]) (by simp [less, skip, h01, h02, h12]) (by simp [less, skip, h01, h02, h12]) (by simp [less, skip, h01, h02, h12]; grind)]
        congr 1
        · omega
        · unfold s2; grind
        · unfold dt; grind
    · rw [sig3_turn (F := F) (G := F) (at' := 1) (a := F 1 1) (b := F 0 1) (c := F 1 2) (e := F 0 0) (f := F 0 2) (g := F 2 2) (by simp [pivI, firstN, h0, h1]) rfl h1
        (by simp [less, skip, h01, h02, h12]) (by simp [less, skip, h01, h02, h12]) (by simp [less, skip, h01, h02, h12]) (by simp [less, skip, h01, h02, h12]; grind)]
      congr 1
      · omega
      · unfold s2; grind
      · unfold dt; grind
  · rw [sig3_turn (F := F) (G := F) (at' := 0) (a := F 0 0) (b := F 0 1) (c := F 0 2) (e := F 1 1) (f := F 1 2) (g := F 2 2) (by simp [pivI, firstN, h0]) rfl h0
      (by simp [less, skip, h01, h02, h12]) (by simp [less, skip, h01, h02, h12]) (by simp [less, skip, h01, h02, h12]) (by simp [less, skip, h01, h02, h12]; grind)]
end Mine
end

section
set_option maxHeartbeats 4000000
namespace Mine
theorem sgn3 (z : Int) : (0 < z ∧ ¬ z < 0 ∧ z ≠ 0) ∨ (z < 0 ∧ ¬ 0 < z ∧ z ≠ 0) ∨ (z = 0 ∧ ¬ 0 < z ∧ ¬ z < 0) := by omega
theorem toldC1 (c : Nat → Rat) (h1 : c 1 = 1) : toldC c 1 = T1 (-(c 0).num) := by
  have e1 : (c 1).num = 1 := by rw [h1]; rfl
  rcases sgn3 (c 0).num with ⟨a, a', a''⟩ | ⟨a, a', a''⟩ | ⟨a, a', a''⟩
  · have : toldC c 1 = [0, 0, 1] := by simp [toldC, sgnsC, zerosC, nz, selZ, firstN, chg, e1, a, a', a'']
    rw [this]; unfold T1; rw [if_neg (by omega), if_pos (by omega)]
  · have : toldC c 1 = [1, 0, 0] := by simp [toldC, sgnsC, zerosC, nz, selZ, firstN, chg, e1, a, a', a'']
    rw [this]; unfold T1; rw [if_pos (by omega)]
  · have : toldC c 1 = [0, 1, 0] := by simp [toldC, sgnsC, zerosC, nz, selZ, firstN, chg, e1, a, a', a'']
    rw [this]; unfold T1; rw [if_neg (by omega), if_neg (by omega)]
theorem toldC2 (c : Nat → Rat) (h2 : c 2 = 1) : toldC c 2 = T2 (-(c 1).num) (c 0).num := by
  have e2 : (c 2).num = 1 := by rw [h2]; rfl
  rcases sgn3 (c 0).num with ⟨a, a', a''⟩ | ⟨a, a', a''⟩ | ⟨a, a', a''⟩ <;> rcases sgn3 (c 1).num with ⟨b, b', b''⟩ | ⟨b, b', b''⟩ | ⟨b, b', b''⟩ <;>
    simp [toldC, sgnsC, zerosC, nz, selZ, firstN, chg, e2, a, a', a'', b, b', b'', T2] <;> omega
theorem sgn5 (z : Int) : (0 < z ∧ ¬ z < 0 ∧ z ≠ 0 ∧ 0 ≤ z) ∨ (z < 0 ∧ ¬ 0 < z ∧ z ≠ 0 ∧ ¬ 0 ≤ z) ∨ (z = 0 ∧ ¬ 0 < z ∧ ¬ z < 0 ∧ 0 ≤ z) := by omega
theorem toldC3 (c : Nat → Rat) (h3 : c 3 = 1) : toldC c 3 = T3 (-(c 2).num) (c 1).num (-(c 0).num) := by
  have e3 : (c 3).num = 1 := by rw [h3]; rfl
  rcases sgn5 (c 0).num with ⟨a, a', a'', a3⟩ | ⟨a, a', a'', a3⟩ | ⟨a, a', a'', a3⟩ <;> rcases sgn5 (c 1).num with ⟨b, b', b'', b3⟩ | ⟨b, b', b'', b3⟩ | ⟨b, b', b'', b3⟩ <;> rcases sgn5 (c 2).num with ⟨d, d', d'', d3⟩ | ⟨d, d', d'', d3⟩ | ⟨d, d', d'', d3⟩ <;>
    simp [toldC, sgnsC, zerosC, nz, selZ, firstN, chg, e3, a, a', a'', a3, b, b', b'', b3, d, d', d'', d3, T3]
end Mine
end

section
set_option maxHeartbeats 4000000
namespace Mine
theorem dot1 (f g : Nat → Rat) : dotN 1 f g = f 0 * g 0 := by simp only [dotN]; grind
theorem dot2 (f g : Nat → Rat) : dotN 2 f g = f 0 * g 0 + f 1 * g 1 := by simp only [dotN]; grind
theorem dot3 (f g : Nat → Rat) : dotN 3 f g = f 0 * g 0 + f 1 * g 1 + f 2 * g 2 := by simp only [dotN]; grind
theorem tr1 (F : Nat → Nat → Rat) : trN 1 F = F 0 0 := by simp only [trN]; grind
theorem tr2 (F : Nat → Nat → Rat) : trN 2 F = F 0 0 + F 1 1 := by simp only [trN]; grind
theorem tr3 (F : Nat → Nat → Rat) : trN 3 F = F 0 0 + F 1 1 + F 2 2 := by simp only [trN]; grind
theorem cpM_succ (n : Nat) (F : Nat → Nat → Rat) (k i j : Nat) : cpM n F (k + 1) i j = mulF n F (cpM n F k) i j + (if i = j then 1 else 0) * cpC n F k := rfl
noncomputable def tQ (F : Nat → Nat → Rat) : Rat := F 0 0 + F 1 1 + F 2 2
noncomputable def sQ (F : Nat → Nat → Rat) : Rat := (F 0 0 * F 1 1 - F 0 1 * F 1 0) + (F 0 0 * F 2 2 - F 0 2 * F 2 0) + (F 1 1 * F 2 2 - F 1 2 * F 2 1)
noncomputable def dQ (F : Nat → Nat → Rat) : Rat := F 0 0 * (F 1 1 * F 2 2 - F 1 2 * F 2 1) - F 0 1 * (F 1 0 * F 2 2 - F 1 2 * F 2 0) + F 0 2 * (F 1 0 * F 2 1 - F 1 1 * F 2 0)
theorem told1 (F : Nat → Nat → Rat) : told 1 F = T1 (F 0 0).num := by
  have e0 : cp 1 F 0 = -(F 0 0) := by
    show cpC 1 F 0 = _
    simp only [cpC, tr1, mulF, dot1, cpM]
    have : (((1 + 0 : Nat) : Int) : Rat) = 1 := rfl
    rw [this]; simp; grind
  unfold told
  rw [toldC1 _ rfl, e0, Rat.neg_num, Int.neg_neg]
theorem told2 (F : Nat → Nat → Rat) : told 2 F = T2 (F 0 0 + F 1 1).num (F 0 0 * F 1 1 - F 0 1 * F 1 0).num := by
  have i1 : (((1 + 0 : Nat) : Int) : Rat) = 1 := rfl
  have i2 : (((1 + 1 : Nat) : Int) : Rat) = 2 := rfl
  have c0 : cpC 2 F 0 = -(F 0 0 + F 1 1) := by
    simp only [cpC, tr2, mulF, dot2, cpM]
    rw [i1]; simp; grind
  have c1 : cpC 2 F 1 = F 0 0 * F 1 1 - F 0 1 * F 1 0 := by
    unfold cpC
    simp only [tr2, mulF, dot2, cpM_succ]
    rw [c0, i2]
    simp only [cpM]
    simp
    grind
  unfold told
  rw [toldC2 _ rfl, show cp 2 F 1 = cpC 2 F 0 from rfl, show cp 2 F 0 = cpC 2 F 1 from rfl, c0, c1, Rat.neg_num, Int.neg_neg]
theorem told3 (F : Nat → Nat → Rat) : told 3 F = T3 (tQ F).num (sQ F).num (dQ F).num := by
  have i1 : (((1 + 0 : Nat) : Int) : Rat) = 1 := rfl
  have i2 : (((1 + 1 : Nat) : Int) : Rat) = 2 := rfl
  have i3 : (((1 + 2 : Nat) : Int) : Rat) = 3 := rfl
  have m0 : ∀ i j, i < 3 → j < 3 → mulF 3 F (cpM 3 F 0) i j = F i j := by
    intro i j hi hj
    simp only [mulF, dot3, cpM]
    have : j = 0 ∨ j = 1 ∨ j = 2 := by omega
    rcases this with rfl | rfl | rfl <;> simp <;> grind
  have c0 : cpC 3 F 0 = -tQ F := by
    unfold cpC tQ
    rw [tr3, m0 0 0 (by omega) (by omega), m0 1 1 (by omega) (by omega), m0 2 2 (by omega) (by omega), i1]
    grind
  have m1 : ∀ i j, i < 3 → j < 3 → cpM 3 F 1 i j = F i j - (if i = j then 1 else 0) * tQ F := by
    intro i j hi hj
    rw [cpM_succ, m0 i j hi hj, c0]
    grind
  have c1 : cpC 3 F 1 = sQ F := by
    unfold cpC sQ
    simp only [tr3, mulF, dot3]
    rw [m1 0 0 (by omega) (by omega), m1 0 1 (by omega) (by omega), m1 0 2 (by omega) (by omega), m1 1 0 (by omega) (by omega), m1 1 1 (by omega) (by omega), m1 1 2 (by omega) (by omega), m1 2 0 (by omega) (by omega), m1 2 1 (by omega) (by omega), m1 2 2 (by omega) (by omega), i2]
    unfold tQ
    simp
    grind
  have m2 : ∀ i j, i < 3 → j < 3 → cpM 3 F 2 i j = F i 0 * cpM 3 F 1 0 j + F i 1 * cpM 3 F 1 1 j + F i 2 * cpM 3 F 1 2 j + (if i = j then 1 else 0) * sQ F := by
    intro i j hi hj
    rw [cpM_succ, c1]
    simp only [mulF, dot3]
  have c2 : cpC 3 F 2 = -dQ F := by
    unfold cpC
    simp only [tr3, mulF, dot3]
    rw [m2 0 0 (by omega) (by omega), m2 0 1 (by omega) (by omega), m2 0 2 (by omega) (by omega), m2 1 0 (by omega) (by omega), m2 1 1 (by omega) (by omega), m2 1 2 (by omega) (by omega), m2 2 0 (by omega) (by omega), m2 2 1 (by omega) (by omega), m2 2 2 (by omega) (by omega), i3]
    rw [m1 0 0 (by omega) (by omega), m1 0 1 (by omega) (by omega), m1 0 2 (by omega) (by omega), m1 1 0 (by omega) (by omega), m1 1 1 (by omega) (by omega), m1 1 2 (by omega) (by omega), m1 2 0 (by omega) (by omega), m1 2 1 (by omega) (by omega), m1 2 2 (by omega) (by omega)]
    unfold tQ sQ dQ
    simp
    grind
  unfold told
  rw [toldC3 _ rfl, show cp 3 F 2 = cpC 3 F 0 from rfl, show cp 3 F 1 = cpC 3 F 1 from rfl, show cp 3 F 0 = cpC 3 F 2 from rfl, c0, c1, c2, Rat.neg_num, Int.neg_neg, Rat.neg_num, Int.neg_neg]
/-- of whole numbers -/
theorem toldI1 (F : IMat) : told 1 (QM F) = signsM 1 F 0 0 := by
  rw [told1, sig1]
  unfold QM
  rw [Rat.num_intCast]
theorem toldI2 (F : IMat) (h : F 1 0 = F 0 1) : told 2 (QM F) = signsM 2 F 0 0 := by
  rw [told2, sig2 F h]
  unfold QM
  rw [h, show ((F 0 0 : Rat) + (F 1 1 : Rat)) = ((F 0 0 + F 1 1 : Int) : Rat) by rw [Rat.intCast_add], show ((F 0 0 : Rat) * (F 1 1 : Rat) - (F 0 1 : Rat) * (F 0 1 : Rat)) = ((F 0 0 * F 1 1 - F 0 1 * F 0 1 : Int) : Rat) by rw [Rat.intCast_sub, Rat.intCast_mul, Rat.intCast_mul],
    Rat.num_intCast, Rat.num_intCast]
theorem tQ_int (F : IMat) : tQ (QM F) = ((tI F : Int) : Rat) := by
  unfold tQ tI QM
  rw [Rat.intCast_add, Rat.intCast_add]
theorem sQ_int (F : IMat) (h01 : F 1 0 = F 0 1) (h02 : F 2 0 = F 0 2) (h12 : F 2 1 = F 1 2) : sQ (QM F) = ((sI F : Int) : Rat) := by
  unfold sQ sI s2 QM
  rw [h01, h02, h12]
  simp only [Rat.intCast_add, Rat.intCast_sub, Rat.intCast_mul]
theorem dQ_int (F : IMat) (h01 : F 1 0 = F 0 1) (h02 : F 2 0 = F 0 2) (h12 : F 2 1 = F 1 2) : dQ (QM F) = ((dI F : Int) : Rat) := by
  unfold dQ dI dt QM
  rw [h01, h02, h12]
  simp only [Rat.intCast_add, Rat.intCast_sub, Rat.intCast_mul]
theorem toldI3 (F : IMat) (h01 : F 1 0 = F 0 1) (h02 : F 2 0 = F 0 2) (h12 : F 2 1 = F 1 2) : told 3 (QM F) = signsM 3 F 0 0 := by
  rw [told3, sig3 F h01 h02 h12, tQ_int, sQ_int F h01 h02 h12, dQ_int F h01 h02 h12, Rat.num_intCast, Rat.num_intCast, Rat.num_intCast]
end Mine
end

section
set_option maxHeartbeats 4000000
namespace Mine
structure EI (n c : Nat) (H : Nat → Nat → Rat) (piv : List Nat) : Prop where
  len : piv.length ≤ n
  inc : piv.Pairwise (· < ·)
  lt : ∀ p ∈ piv, p < c
  col : ∀ (k p : Nat), piv[k]? = some p → ∀ i, i < n → H i p = if i = k then 1 else 0
  low : ∀ j, j < c → ∀ i, piv.length ≤ i → i < n → H i j = 0
theorem div_self' {L : Rat} (h : L ≠ 0) : L / L = 1 := by rw [Rat.div_def, Rat.mul_inv_cancel _ h]
theorem zero_div' (L : Rat) : 0 / L = 0 := by rw [Rat.div_def, Rat.zero_mul]
theorem swap_lead {F : Nat → Nat → Rat} {row s : Nat} : swapF F row s row = F s := by
  unfold swapF
  split
  · rename_i e; rw [e]
  · rw [if_pos rfl]
theorem EI.step {n c : Nat} {st : (Nat → Nat → Rat) × List Nat} (h : EI n c st.1 st.2) : EI n (c + 1) (echStep n c st).1 (echStep n c st).2 := by
  obtain ⟨H, piv⟩ := st
  dsimp only at h
  unfold echStep
  dsimp only
  cases hf : firstN (fun i => decide (H (piv.length + i) c ≠ 0)) (n - piv.length) with
  | none =>
    dsimp only
    have hz := firstN_none hf
    refine ⟨h.len, h.inc, fun p hp => Nat.lt_succ_of_lt (h.lt p hp), h.col, fun j hj i hi hin => ?_⟩
    by_cases e : j = c
    · subst e
      have := hz (i - piv.length) (by omega)
      rw [show piv.length + (i - piv.length) = i by omega] at this
      simpa using this
    · exact h.low j (by omega) i hi hin
  | some i0 =>
    dsimp only
    obtain ⟨hi0, ht, _⟩ := firstN_some hf
    have hL : H (piv.length + i0) c ≠ 0 := by simpa using ht
    generalize hs : piv.length + i0 = s at *
    generalize hr : piv.length = r at *
    have hrn : r < n := by omega
    have hsn : s < n := by omega
    have lowG : ∀ j, j < c → ∀ i, r ≤ i → i < n → swapF H r s i j = 0 := fun j hj i hi hin => by
      unfold swapF
      split
      · exact h.low j hj r (by omega) hrn
      · split
        · exact h.low j hj s (by omega) hsn
        · exact h.low j hj i (by omega) hin
    have e1 : ∀ i j, elim H r s c i j = if i = r then H s j / H s c else swapF H r s i j - swapF H r s i c * (H s j / H s c) := fun i j => by
      unfold elim
      rw [swap_lead]
    have hpc : ∀ i, i < n → elim H r s c i c = if i = r then 1 else 0 := fun i hi => by
      rw [e1]
      split
      · exact div_self' hL
      · rw [div_self' hL, Rat.mul_one, Rat.sub_eq_add_neg, Rat.add_neg_cancel]
    refine ⟨by simp [hr]; omega, ?_, fun p hp => ?_, fun k p hk i hi => ?_, fun j hj i hi hin => ?_⟩
    · rw [List.pairwise_append]
      refine ⟨h.inc, List.pairwise_singleton _ _, fun a ha b hb => ?_⟩
      rw [List.mem_singleton.mp hb]
      exact h.lt a ha
    · rcases List.mem_append.mp hp with hp | hp
      · exact Nat.lt_succ_of_lt (h.lt p hp)
      · rw [List.mem_singleton.mp hp]; exact Nat.lt_succ_self c
    · rcases Nat.lt_or_ge k r with hkr | hkr
      · rw [List.getElem?_append_left (by omega)] at hk
        have hpc' := h.lt p (List.mem_of_getElem? hk)
        have hsp : H s p = 0 := h.low p hpc' s (by omega) hsn
        rw [e1, hsp, zero_div']
        split
        · rw [if_neg (by omega)]
        · rw [Rat.mul_zero, Rat.sub_eq_add_neg, Rat.neg_zero, Rat.add_zero]
          by_cases hir : r ≤ i
          · rw [lowG p hpc' i hir hi, if_neg (by omega)]
          · have : swapF H r s i p = H i p := by
              unfold swapF
              rw [if_neg (by omega), if_neg (by omega)]
            rw [this]
            exact h.col k p hk i hi
      · have hk2 := (List.getElem?_eq_some_iff.mp hk).1
        simp at hk2
        have : k = r := by omega
        subst this
        rw [List.getElem?_append_right (by omega), hr, Nat.sub_self] at hk
        cases hk
        exact hpc i hi
    · have hi' : r + 1 ≤ i := by simpa [hr] using hi
      by_cases e : j = c
      · subst e
        rw [hpc i hin, if_neg (by omega)]
      · have hjc : j < c := by omega
        rw [e1, if_neg (by omega), h.low j hjc s (by omega) hsn, zero_div', Rat.mul_zero, lowG j hjc i (by omega) hin, Rat.sub_eq_add_neg, Rat.neg_zero, Rat.add_zero]
theorem ech_EI (n : Nat) (F : Nat → Nat → Rat) : ∀ c, EI n c (ech n F c).1 (ech n F c).2
  | 0 => ⟨Nat.zero_le _, List.Pairwise.nil, (fun p hp => nomatch hp), (fun k p hk => nomatch hk), (fun j hj => absurd hj (Nat.not_lt_zero j))⟩
  | c + 1 => (ech_EI n F c).step

/-- what a turn of the elimination keeps -/
theorem ech_keep {n : Nat} {F : Nat → Nat → Rat} (K : (Nat → Nat → Rat) → Prop) (h0 : K F) (hs : ∀ G row s c, row < n → s < n → row ≤ s → G s c ≠ 0 → K G → K (elim G row s c)) : ∀ c, K (ech n F c).1
  | 0 => h0
  | c + 1 => by
    have ih := ech_keep K h0 hs c
    unfold ech echStep
    split
    · exact ih
    · rename_i i hi
      obtain ⟨h1, h2, _⟩ := firstN_some hi
      exact hs _ _ _ _ (by omega) (by omega) (by omega) (by simpa using h2) ih

noncomputable def Zr (n : Nat) (F : Nat → Nat → Rat) : Prop := ∀ i j, i < n → j < n → F i j = 0
noncomputable def M2 (n : Nat) (F : Nat → Nat → Rat) : Prop := ∀ i k j l, i < n → k < n → j < n → l < n → F i j * F k l = F i l * F k j
theorem elim_row {F : Nat → Nat → Rat} {row s c j : Nat} (hL : F s c ≠ 0) : swapF F row s row j = F s c * elim F row s c row j := by
  unfold elim
  rw [if_pos rfl, swap_lead, Rat.div_def, Rat.mul_comm (F s j), ← Rat.mul_assoc, Rat.mul_inv_cancel _ hL, Rat.one_mul]
theorem elim_other {F : Nat → Nat → Rat} {row s c i j : Nat} (hi : i ≠ row) : swapF F row s i j = elim F row s c i j + swapF F row s i c * elim F row s c row j := by
  unfold elim
  rw [if_neg hi, if_pos rfl]
  grind
theorem swap_any {P : (Nat → Rat) → Prop} {n : Nat} {F : Nat → Nat → Rat} {row s : Nat} (hr : row < n) (hs : s < n) : (∀ i, i < n → P (F i)) ↔ ∀ i, i < n → P (swapF F row s i) := by
  constructor
  · intro h i hi
    unfold swapF
    split
    · exact h row hr
    · split
      · exact h s hs
      · exact h i hi
  · intro h i hi
    by_cases e : i = row
    · have := h s hs
      unfold swapF at this
      rw [if_pos rfl] at this
      rw [e]; exact this
    · by_cases e' : i = s
      · have := h row hr
        rw [swap_lead] at this
        rw [e']; exact this
      · have := h i hi
        unfold swapF at this
        rw [if_neg e', if_neg e] at this
        exact this
theorem swap_any2 {P : (Nat → Rat) → (Nat → Rat) → Prop} {n : Nat} {F : Nat → Nat → Rat} {row s : Nat} (hr : row < n) (hs : s < n) : (∀ i k, i < n → k < n → P (F i) (F k)) ↔ ∀ i k, i < n → k < n → P (swapF F row s i) (swapF F row s k) := by
  constructor
  · intro h i k hi hk
    have h1 : ∀ i, i < n → ∀ k, k < n → P (F i) (F k) := fun i hi k hk => h i k hi hk
    have h2 : ∀ i, i < n → ∀ k, k < n → P (F i) (swapF F row s k) := fun i hi => (swap_any (P := fun x => P (F i) x) hr hs).mp (h1 i hi)
    exact (swap_any (P := fun x => ∀ k, k < n → P x (swapF F row s k)) hr hs).mp h2 i hi k hk
  · intro h i k hi hk
    have h1 : ∀ i, i < n → ∀ k, k < n → P (swapF F row s i) (swapF F row s k) := fun i hi k hk => h i k hi hk
    have h2 := (swap_any (P := fun x => ∀ k, k < n → P x (swapF F row s k)) hr hs).mpr h1
    exact (swap_any (P := fun x => P (F i) x) hr hs).mpr (h2 i hi) k hk
theorem Zr.elim {n row s c : Nat} {F : Nat → Nat → Rat} (hr : row < n) (hs : s < n) (hL : F s c ≠ 0) : Zr n (elim F row s c) ↔ Zr n F := by
  have hsw : Zr n F ↔ Zr n (swapF F row s) := by
    have := swap_any (P := fun x => ∀ j, j < n → x j = 0) (F := F) hr hs
    constructor
    · intro h i j hi hj; exact this.mp (fun i hi j hj => h i j hi hj) i hi j hj
    · intro h i j hi hj; exact this.mpr (fun i hi j hj => h i j hi hj) i hi j hj
  rw [hsw]
  constructor
  · intro h i j hi hj
    by_cases e : i = row
    · subst e
      rw [elim_row hL, h i j hi hj, Rat.mul_zero]
    · rw [elim_other (c := c) e, h i j hi hj, h row j hr hj, Rat.mul_zero, Rat.add_zero]
  · intro h i j hi hj
    unfold Mine.elim
    split
    · rw [h row j hr hj, zero_div']
    · rw [h row j hr hj, zero_div', h i j hi hj, Rat.mul_zero, Rat.sub_eq_add_neg, Rat.neg_zero, Rat.add_zero]
theorem M2.elim {n row s c : Nat} {F : Nat → Nat → Rat} (hr : row < n) (hs : s < n) (hL : F s c ≠ 0) : M2 n (elim F row s c) ↔ M2 n F := by
  have hsw : M2 n F ↔ M2 n (swapF F row s) := by
    have := swap_any2 (P := fun x y => ∀ j l, j < n → l < n → x j * y l = x l * y j) (F := F) hr hs
    constructor
    · intro h i k j l hi hk hj hl; exact this.mp (fun i k hi hk j l hj hl => h i k j l hi hk hj hl) i k hi hk j l hj hl
    · intro h i k j l hi hk hj hl; exact this.mpr (fun i k hi hk j l hj hl => h i k j l hi hk hj hl) i k hi hk j l hj hl
  rw [hsw]
  have er : ∀ j, swapF F row s row j = F s c * Mine.elim F row s c row j := fun j => elim_row hL
  have eo : ∀ i j, i ≠ row → swapF F row s i j = Mine.elim F row s c i j + swapF F row s i c * Mine.elim F row s c row j := fun i j hi => elim_other hi
  generalize hL' : F s c = L at *
  generalize Mine.elim F row s c = E at *
  generalize swapF F row s = G at *
  constructor
  · intro h i k j l hi hk hj hl
    have h1 := h i k j l hi hk hj hl
    have h2 := h i row j l hi hr hj hl
    have h3 := h row k j l hr hk hj hl
    by_cases e1 : i = row
    · by_cases e2 : k = row
      · subst e1 e2; rw [Rat.mul_comm]
      · subst e1
        rw [er j, er l, eo k j e2, eo k l e2]
        grind
    · by_cases e2 : k = row
      · subst e2
        rw [er j, er l, eo i j e1, eo i l e1]
        grind
      · rw [eo i j e1, eo i l e1, eo k j e2, eo k l e2]
        grind
  · intro h i k j l hi hk hj hl
    have h1 := h i k j l hi hk hj hl
    have h2 := h i row j l hi hr hj hl
    have h3 := h row k j l hr hk hj hl
    have hinv := Rat.mul_inv_cancel L hL
    have er' : ∀ j, E row j = L⁻¹ * G row j := fun j => by rw [er j, ← Rat.mul_assoc, Rat.mul_comm _ L, hinv, Rat.one_mul]
    have eo' : ∀ i j, i ≠ row → E i j = G i j - G i c * (L⁻¹ * G row j) := fun i j hi => by rw [← er', eo i j hi]; grind
    by_cases e1 : i = row
    · by_cases e2 : k = row
      · subst e1 e2; rw [Rat.mul_comm]
      · subst e1
        rw [eo' k j e2, eo' k l e2, er' j, er' l]
        grind
    · by_cases e2 : k = row
      · subst e2
        rw [eo' i j e1, eo' i l e1, er' j, er' l]
        grind
      · rw [eo' i j e1, eo' i l e1, eo' k j e2, eo' k l e2]
        grind
end Mine
end

section
set_option maxHeartbeats 4000000
namespace Mine
noncomputable def d2 (F : Nat → Nat → Rat) : Rat := F 0 0 * F 1 1 - F 0 1 * F 1 0
theorem zero_iff {L x y : Rat} (hL : L ≠ 0) (h : L * x = y) : x = 0 ↔ y = 0 := by
  constructor
  · intro e; rw [← h, e, Rat.mul_zero]
  · intro e
    rw [e] at h
    rcases Rat.mul_eq_zero.mp h with h | h
    · exact absurd h hL
    · exact h
theorem d2_swap {F : Nat → Nat → Rat} {row s : Nat} (hr : row < 2) (hs : s < 2) : d2 (swapF F row s) = 0 ↔ d2 F = 0 := by
  have h1 : row = 0 ∨ row = 1 := by omega
  have h2 : s = 0 ∨ s = 1 := by omega
  unfold d2
  rcases h1 with rfl | rfl <;> rcases h2 with rfl | rfl <;> simp [swapF] <;> grind
theorem d2_elim {F : Nat → Nat → Rat} {row s c : Nat} (hr : row < 2) (hs : s < 2) (hL : F s c ≠ 0) : d2 (elim F row s c) = 0 ↔ d2 F = 0 := by
  refine Iff.trans (zero_iff hL ?_) (d2_swap hr hs)
  have er : ∀ j, swapF F row s row j = F s c * elim F row s c row j := fun j => elim_row hL
  have eo : ∀ i j, i ≠ row → swapF F row s i j = elim F row s c i j + swapF F row s i c * elim F row s c row j := fun i j hi => elim_other hi
  generalize F s c = L at *
  generalize elim F row s c = E at *
  generalize swapF F row s = G at *
  unfold d2
  have h1 : row = 0 ∨ row = 1 := by omega
  rcases h1 with rfl | rfl
  · rw [er 0, er 1, eo 1 0 (by omega), eo 1 1 (by omega)]; grind
  · rw [er 0, er 1, eo 0 0 (by omega), eo 0 1 (by omega)]; grind
theorem d3_swap {F : Nat → Nat → Rat} {row s : Nat} (hr : row < 3) (hs : s < 3) : dQ (swapF F row s) = 0 ↔ dQ F = 0 := by
  have h1 : row = 0 ∨ row = 1 ∨ row = 2 := by omega
  have h2 : s = 0 ∨ s = 1 ∨ s = 2 := by omega
  unfold dQ
  rcases h1 with rfl | rfl | rfl <;> rcases h2 with rfl | rfl | rfl <;> simp [swapF] <;> grind
theorem d3_elim {F : Nat → Nat → Rat} {row s c : Nat} (hr : row < 3) (hs : s < 3) (hL : F s c ≠ 0) : dQ (elim F row s c) = 0 ↔ dQ F = 0 := by
  refine Iff.trans (zero_iff hL ?_) (d3_swap hr hs)
  have er : ∀ j, swapF F row s row j = F s c * elim F row s c row j := fun j => elim_row hL
  have eo : ∀ i j, i ≠ row → swapF F row s i j = elim F row s c i j + swapF F row s i c * elim F row s c row j := fun i j hi => elim_other hi
  generalize F s c = L at *
  generalize elim F row s c = E at *
  generalize swapF F row s = G at *
  unfold dQ
  have h1 : row = 0 ∨ row = 1 ∨ row = 2 := by omega
  rcases h1 with rfl | rfl | rfl
  · rw [er 0, er 1, er 2, eo 1 0 (by omega), eo 1 1 (by omega), eo 1 2 (by omega), eo 2 0 (by omega), eo 2 1 (by omega), eo 2 2 (by omega)]; grind
  · rw [er 0, er 1, er 2, eo 0 0 (by omega), eo 0 1 (by omega), eo 0 2 (by omega), eo 2 0 (by omega), eo 2 1 (by omega), eo 2 2 (by omega)]; grind
  · rw [er 0, er 1, er 2, eo 0 0 (by omega), eo 0 1 (by omega), eo 0 2 (by omega), eo 1 0 (by omega), eo 1 1 (by omega), eo 1 2 (by omega)]; grind
theorem keep_d2 (F : Nat → Nat → Rat) (c : Nat) : d2 (ech 2 F c).1 = 0 ↔ d2 F = 0 := ech_keep (n := 2) (F := F) (fun G => d2 G = 0 ↔ d2 F = 0) Iff.rfl (fun G row s c hr hs _ hL ih => (d2_elim hr hs hL).trans ih) c
theorem keep_d3 (F : Nat → Nat → Rat) (c : Nat) : dQ (ech 3 F c).1 = 0 ↔ dQ F = 0 := ech_keep (n := 3) (F := F) (fun G => dQ G = 0 ↔ dQ F = 0) Iff.rfl (fun G row s c hr hs _ hL ih => (d3_elim hr hs hL).trans ih) c
theorem keep_Zr (n : Nat) (F : Nat → Nat → Rat) (c : Nat) : Zr n (ech n F c).1 ↔ Zr n F := ech_keep (n := n) (F := F) (fun G => Zr n G ↔ Zr n F) Iff.rfl (fun G row s c hr hs _ hL ih => (Zr.elim hr hs hL).trans ih) c
theorem keep_M2 (n : Nat) (F : Nat → Nat → Rat) (c : Nat) : M2 n (ech n F c).1 ↔ M2 n F := ech_keep (n := n) (F := F) (fun G => M2 n G ↔ M2 n F) Iff.rfl (fun G row s c hr hs _ hL ih => (M2.elim hr hs hL).trans ih) c

theorem full1 {piv : List Nat} (h : piv.length = 1) (hl : ∀ p ∈ piv, p < 1) : piv = [0] := by
  match piv, h with
  | [a], _ => have := hl a (by simp); rw [show a = 0 by omega]
theorem full2 {piv : List Nat} (h : piv.length = 2) (hi : piv.Pairwise (· < ·)) (hl : ∀ p ∈ piv, p < 2) : piv = [0, 1] := by
  match piv, h with
  | [a, b], _ =>
    have h1 := hl a (by simp)
    have h2 := hl b (by simp)
    simp at hi
    rw [show a = 0 by omega, show b = 1 by omega]
theorem full3 {piv : List Nat} (h : piv.length = 3) (hi : piv.Pairwise (· < ·)) (hl : ∀ p ∈ piv, p < 3) : piv = [0, 1, 2] := by
  match piv, h with
  | [a, b, c], _ =>
    have h1 := hl a (by simp)
    have h2 := hl b (by simp)
    have h3 := hl c (by simp)
    simp at hi
    rw [show a = 0 by omega, show b = 1 by omega, show c = 2 by omega]
theorem rank2 (F : Nat → Nat → Rat) : ((ech 2 F 2).2.length = 2 ∧ d2 F ≠ 0) ∨ ((ech 2 F 2).2.length = 1 ∧ d2 F = 0 ∧ ¬ Zr 2 F) ∨ ((ech 2 F 2).2.length = 0 ∧ Zr 2 F) := by
  have E := ech_EI 2 F 2
  have kd := keep_d2 F 2
  have kz := keep_Zr 2 F 2
  generalize ech 2 F 2 = st at *
  obtain ⟨H, piv⟩ := st
  dsimp only at *
  have hl := E.len
  have : piv.length = 0 ∨ piv.length = 1 ∨ piv.length = 2 := by omega
  rcases this with h | h | h
  · refine .inr (.inr ⟨h, kz.mp fun i j hi hj => E.low j hj i (by omega) hi⟩)
  · refine .inr (.inl ⟨h, kd.mp ?_, fun hz => ?_⟩)
    · have h0 := E.low 0 (by omega) 1 (by omega) (by omega)
      have h1 := E.low 1 (by omega) 1 (by omega) (by omega)
      unfold d2
      rw [h0, h1]
      grind
    · obtain ⟨p, hp⟩ : ∃ p, piv[0]? = some p := ⟨_, List.getElem?_eq_getElem (by omega)⟩
      have h0 := E.col 0 p hp 0 (by omega)
      have := kz.mpr hz 0 p (by omega) (E.lt p (List.mem_of_getElem? hp))
      rw [this] at h0
      exact absurd h0 (by decide +kernel)
  · refine .inl ⟨h, fun hd => ?_⟩
    have := kd.mpr hd
    have e := full2 h E.inc E.lt
    subst e
    have c00 := E.col 0 0 rfl 0 (by omega)
    have c01 := E.col 0 0 rfl 1 (by omega)
    have c10 := E.col 1 1 rfl 0 (by omega)
    have c11 := E.col 1 1 rfl 1 (by omega)
    simp at c00 c01 c10 c11
    unfold d2 at this
    rw [c00, c01, c10, c11] at this
    exact absurd this (by decide +kernel)
theorem rank3 (F : Nat → Nat → Rat) : ((ech 3 F 3).2.length = 3 ∧ dQ F ≠ 0) ∨ ((ech 3 F 3).2.length = 2 ∧ dQ F = 0 ∧ ¬ M2 3 F) ∨ ((ech 3 F 3).2.length = 1 ∧ dQ F = 0 ∧ M2 3 F ∧ ¬ Zr 3 F) ∨ ((ech 3 F 3).2.length = 0 ∧ Zr 3 F) := by
  have E := ech_EI 3 F 3
  have kd := keep_d3 F 3
  have kz := keep_Zr 3 F 3
  have km := keep_M2 3 F 3
  generalize ech 3 F 3 = st at *
  obtain ⟨H, piv⟩ := st
  dsimp only at *
  have hl := E.len
  have low : piv.length < 3 → dQ H = 0 := fun h => by
    have h0 := E.low 0 (by omega) 2 (by omega) (by omega)
    have h1 := E.low 1 (by omega) 2 (by omega) (by omega)
    have h2 := E.low 2 (by omega) 2 (by omega) (by omega)
    unfold dQ
    rw [h0, h1, h2]
    grind
  have : piv.length = 0 ∨ piv.length = 1 ∨ piv.length = 2 ∨ piv.length = 3 := by omega
  rcases this with h | h | h | h
  · refine .inr (.inr (.inr ⟨h, kz.mp fun i j hi hj => E.low j hj i (by omega) hi⟩))
  · refine .inr (.inr (.inl ⟨h, kd.mp (low (by omega)), km.mp fun i k j l hi hk hj hl => ?_, fun hz => ?_⟩))
    · by_cases e1 : i = 0
      · by_cases e2 : k = 0
        · subst e1 e2; rw [Rat.mul_comm]
        · rw [E.low l hl k (by omega) hk, E.low j hj k (by omega) hk, Rat.mul_zero, Rat.mul_zero]
      · rw [E.low l hl i (by omega) hi, E.low j hj i (by omega) hi, Rat.zero_mul, Rat.zero_mul]
    · obtain ⟨p, hp⟩ : ∃ p, piv[0]? = some p := ⟨_, List.getElem?_eq_getElem (by omega)⟩
      have h0 := E.col 0 p hp 0 (by omega)
      have := kz.mpr hz 0 p (by omega) (E.lt p (List.mem_of_getElem? hp))
      rw [this] at h0
      exact absurd h0 (by decide +kernel)
  · refine .inr (.inl ⟨h, kd.mp (low (by omega)), fun hm => ?_⟩)
    obtain ⟨p, hp⟩ : ∃ p, piv[0]? = some p := ⟨_, List.getElem?_eq_getElem (by omega)⟩
    obtain ⟨q, hq⟩ : ∃ q, piv[1]? = some q := ⟨_, List.getElem?_eq_getElem (by omega)⟩
    have c00 := E.col 0 p hp 0 (by omega)
    have c01 := E.col 0 p hp 1 (by omega)
    have c10 := E.col 1 q hq 0 (by omega)
    have c11 := E.col 1 q hq 1 (by omega)
    have := km.mpr hm 0 1 p q (by omega) (by omega) (E.lt p (List.mem_of_getElem? hp)) (E.lt q (List.mem_of_getElem? hq))
    rw [c00, c01, c10, c11] at this
    exact absurd this (by decide +kernel)
  · refine .inl ⟨h, fun hd => ?_⟩
    have := kd.mpr hd
    have e := full3 h E.inc E.lt
    subst e
    have c00 := E.col 0 0 rfl 0 (by omega)
    have c01 := E.col 0 0 rfl 1 (by omega)
    have c02 := E.col 0 0 rfl 2 (by omega)
    have c10 := E.col 1 1 rfl 0 (by omega)
    have c11 := E.col 1 1 rfl 1 (by omega)
    have c12 := E.col 1 1 rfl 2 (by omega)
    have c20 := E.col 2 2 rfl 0 (by omega)
    have c21 := E.col 2 2 rfl 1 (by omega)
    have c22 := E.col 2 2 rfl 2 (by omega)
    simp at c00 c01 c02 c10 c11 c12 c20 c21 c22
    unfold dQ at this
    rw [c00, c01, c02, c10, c11, c12, c20, c21, c22] at this
    exact absurd this (by decide +kernel)

/-! the inverse -/
theorem ech_more (n : Nat) (F : Nat → Nat → Rat) (m : Nat) : ∀ k, ∃ rest, (ech n F (m + k)).2 = (ech n F m).2 ++ rest ∧ ∀ p ∈ rest, m ≤ p
  | 0 => ⟨[], by simp, (fun p hp => nomatch hp)⟩
  | k + 1 => by
    obtain ⟨rest, e, h⟩ := ech_more n F m k
    show ∃ rest, (echStep n (m + k) (ech n F (m + k))).2 = _ ∧ _
    unfold echStep
    split
    · exact ⟨rest, e, h⟩
    · refine ⟨rest ++ [m + k], by rw [e]; simp, fun p hp => ?_⟩
      rcases List.mem_append.mp hp with hp | hp
      · exact h p hp
      · rw [List.mem_singleton.mp hp]; omega
theorem ech_full {n : Nat} {F : Nat → Nat → Rat} {m : Nat} (h : (ech n F m).2.length = n) : ∀ k, ech n F (m + k) = ech n F m
  | 0 => rfl
  | k + 1 => by
    show echStep n (m + k) (ech n F (m + k)) = _
    rw [ech_full h k]
    unfold echStep
    rw [h, Nat.sub_self]
    rfl
theorem inv_not {n : Nat} {A : Nat → Nat → Rat} (h : (ech n (wideF n A) n).2.length < n) : invOk n A = false := by
  unfold invOk invE
  rw [decide_eq_false_iff_not, show 2 * n = n + n by omega]
  obtain ⟨rest, e, hr⟩ := ech_more n (wideF n A) n n
  rw [e]
  intro hh
  have := congrArg (fun l => l[(ech n (wideF n A) n).2.length]?) hh
  try dsimp only at this
  rw [List.getElem?_take, if_pos h, List.getElem?_append_right (Nat.le_refl _), Nat.sub_self, List.getElem?_range h] at this
  have hm := hr _ (List.mem_of_getElem? this)
  omega
noncomputable def Solves (n : Nat) (A : Nat → Nat → Rat) (H : Nat → Nat → Rat) : Prop := ∀ i j, i < n → j < n → H i j = dotN n (fun t => H i (n + t)) fun t => A t j
theorem dot_lin {n : Nat} {f g h : Nat → Rat} {x : Rat} : dotN n (fun t => f t - x * g t) h = dotN n f h - x * dotN n g h := by
  induction n with
  | zero => simp only [dotN]; grind
  | succ n ih => simp only [dotN]; rw [ih]; grind
theorem dot_div {n : Nat} {f h : Nat → Rat} {x : Rat} : dotN n (fun t => f t / x) h = dotN n f h / x := by
  induction n with
  | zero => simp only [dotN]; rw [zero_div']
  | succ n ih => simp only [dotN]; rw [ih, Rat.div_def, Rat.div_def, Rat.div_def]; grind
theorem solves_elim {n : Nat} {A G : Nat → Nat → Rat} {row s c : Nat} (hr : row < n) (hs : s < n) (h : Solves n A G) : Solves n A (elim G row s c) := by
  have hS : ∀ i, i < n → ∀ j, j < n → swapF G row s i j = dotN n (fun t => swapF G row s i (n + t)) fun t => A t j := (swap_any (P := fun x => ∀ j, j < n → x j = dotN n (fun t => x (n + t)) fun t => A t j) hr hs).mp fun i hi j hj => h i j hi hj
  intro i j hi hj
  unfold elim
  by_cases e : i = row
  · simp only [if_pos e]
    rw [dot_div, ← hS row hr j hj]
  · simp only [if_neg e]
    rw [dot_lin, dot_div, ← hS i hi j hj, ← hS row hr j hj]
theorem dot_unit {n i : Nat} {f : Nat → Rat} : dotN n (fun t => if i = t then 1 else 0) f = if i < n then f i else 0 := by
  induction n with
  | zero => rfl
  | succ n ih =>
    simp only [dotN]
    rw [ih]
    by_cases h1 : i < n
    · rw [if_pos h1, if_neg (by omega), if_pos (by omega)]; grind
    · by_cases h2 : i = n
      · rw [if_neg h1, if_pos h2, if_pos (by omega), h2]; grind
      · rw [if_neg h1, if_neg h2, if_neg (by omega)]; grind
theorem solves_wide (n : Nat) (A : Nat → Nat → Rat) : Solves n A (wideF n A) := fun i j hi hj => by
  have e1 : wideF n A i j = A i j := by unfold wideF; rw [if_pos hj]
  have e2 : (fun t => wideF n A i (n + t)) = fun t => if i = t then 1 else 0 := by
    funext t
    unfold wideF
    rw [if_neg (by omega), show n + t - n = t by omega]
  rw [e1, e2, dot_unit, if_pos hi]
theorem inv_full {n : Nat} {A : Nat → Nat → Rat} (h : (ech n (wideF n A) n).2.length = n) (hr : (ech n (wideF n A) n).2 = List.range n) : invOk n A = true ∧ ∀ i j, i < n → j < n → dotN n (invF n A i) (fun t => A t j) = if i = j then 1 else 0 := by
  have e : invE n A = ech n (wideF n A) n := by unfold invE; rw [show 2 * n = n + n by omega, ech_full h]
  refine ⟨by unfold invOk; rw [e, hr]; simp, fun i j hi hj => ?_⟩
  have hS : Solves n A (ech n (wideF n A) n).1 := ech_keep (n := n) (fun G => Solves n A G) (solves_wide n A) (fun G row s c hr hs _ _ ih => solves_elim hr hs ih) n
  have hc := (ech_EI n (wideF n A) n).col j j (by rw [hr]; simp [hj]) i hi
  have := hS i j hi hj
  rw [hc] at this
  unfold invF
  rw [e, ← this]
theorem inv1 (A : Nat → Nat → Rat) : (A 0 0 = 0 ∧ invOk 1 A = false) ∨ (A 0 0 ≠ 0 ∧ invOk 1 A = true ∧ invF 1 A 0 0 * A 0 0 = 1) := by
  have E := ech_EI 1 (wideF 1 A) 1
  have kz := keep_Zr 1 (wideF 1 A) 1
  have z : Zr 1 (wideF 1 A) ↔ A 0 0 = 0 := ⟨fun h => h 0 0 (by omega) (by omega), fun h i j hi hj => by rw [show i = 0 by omega, show j = 0 by omega]; exact h⟩
  have hl := E.len
  by_cases h : (ech 1 (wideF 1 A) 1).2.length = 1
  · have e := full1 h E.lt
    obtain ⟨a, b⟩ := inv_full h e
    have := b 0 0 (by omega) (by omega)
    rw [dot1, if_pos rfl] at this
    refine .inr ⟨fun h0 => ?_, a, this⟩
    rw [h0, Rat.mul_zero] at this
    exact absurd this (by decide +kernel)
  · refine .inl ⟨z.mp (kz.mp fun i j hi hj => E.low j hj i (by omega) hi), inv_not (by omega)⟩
theorem inv2 (A : Nat → Nat → Rat) : (d2 A = 0 ∧ invOk 2 A = false) ∨ (d2 A ≠ 0 ∧ invOk 2 A = true ∧ ∀ i j, i < 2 → j < 2 → invF 2 A i 0 * A 0 j + invF 2 A i 1 * A 1 j = if i = j then 1 else 0) := by
  have E := ech_EI 2 (wideF 2 A) 2
  have kd := keep_d2 (wideF 2 A) 2
  have z : d2 (wideF 2 A) = d2 A := rfl
  rw [z] at kd
  have hl := E.len
  by_cases h : (ech 2 (wideF 2 A) 2).2.length = 2
  · have e := full2 h E.inc E.lt
    obtain ⟨a, b⟩ := inv_full h e
    refine .inr ⟨fun h0 => ?_, a, fun i j hi hj => by have := b i j hi hj; rw [dot2] at this; exact this⟩
    have := kd.mpr h0
    have c00 := E.col 0 0 (by rw [e]; rfl) 0 (by omega)
    have c01 := E.col 0 0 (by rw [e]; rfl) 1 (by omega)
    have c10 := E.col 1 1 (by rw [e]; rfl) 0 (by omega)
    have c11 := E.col 1 1 (by rw [e]; rfl) 1 (by omega)
    simp at c00 c01 c10 c11
    unfold d2 at this
    rw [c00, c01, c10, c11] at this
    exact absurd this (by decide +kernel)
  · refine .inl ⟨kd.mp ?_, inv_not (by omega)⟩
    have h0 := E.low 0 (by omega) 1 (by omega) (by omega)
    have h1 := E.low 1 (by omega) 1 (by omega) (by omega)
    unfold d2
    rw [h0, h1]
    grind
theorem inv3 (A : Nat → Nat → Rat) : (dQ A = 0 ∧ invOk 3 A = false) ∨ (dQ A ≠ 0 ∧ invOk 3 A = true ∧ ∀ i j, i < 3 → j < 3 → invF 3 A i 0 * A 0 j + invF 3 A i 1 * A 1 j + invF 3 A i 2 * A 2 j = if i = j then 1 else 0) := by
  have E := ech_EI 3 (wideF 3 A) 3
  have kd := keep_d3 (wideF 3 A) 3
  have z : dQ (wideF 3 A) = dQ A := rfl
  rw [z] at kd
  have hl := E.len
  by_cases h : (ech 3 (wideF 3 A) 3).2.length = 3
  · have e := full3 h E.inc E.lt
    obtain ⟨a, b⟩ := inv_full h e
    refine .inr ⟨fun h0 => ?_, a, fun i j hi hj => by have := b i j hi hj; rw [dot3] at this; exact this⟩
    have := kd.mpr h0
    have c00 := E.col 0 0 (by rw [e]; rfl) 0 (by omega)
    have c01 := E.col 0 0 (by rw [e]; rfl) 1 (by omega)
    have c02 := E.col 0 0 (by rw [e]; rfl) 2 (by omega)
    have c10 := E.col 1 1 (by rw [e]; rfl) 0 (by omega)
    have c11 := E.col 1 1 (by rw [e]; rfl) 1 (by omega)
    have c12 := E.col 1 1 (by rw [e]; rfl) 2 (by omega)
    have c20 := E.col 2 2 (by rw [e]; rfl) 0 (by omega)
    have c21 := E.col 2 2 (by rw [e]; rfl) 1 (by omega)
    have c22 := E.col 2 2 (by rw [e]; rfl) 2 (by omega)
    simp at c00 c01 c02 c10 c11 c12 c20 c21 c22
    unfold dQ at this
    rw [c00, c01, c02, c10, c11, c12, c20, c21, c22] at this
    exact absurd this (by decide +kernel)
  · refine .inl ⟨kd.mp ?_, inv_not (by omega)⟩
    have h0 := E.low 0 (by omega) 2 (by omega) (by omega)
    have h1 := E.low 1 (by omega) 2 (by omega) (by omega)
    have h2 := E.low 2 (by omega) 2 (by omega) (by omega)
    unfold dQ
    rw [h0, h1, h2]
    grind
end Mine
end

section
set_option maxHeartbeats 4000000
namespace Mine
theorem l3 {a b c x y z : Int} (h : [a, b, c] = [x, y, z]) : b = y := by
  injection h with _ h
  injection h
theorem t1_mid {a x y z : Int} (h : T1 a = [x, y, z]) : (y = 0 ∧ a ≠ 0) ∨ (y = 1 ∧ a = 0) := by
  unfold T1 at h
  split at h
  · exact .inl ⟨(l3 h).symm, Int.ne_of_gt ‹_›⟩
  · split at h
    · exact .inl ⟨(l3 h).symm, Int.ne_of_lt ‹_›⟩
    · exact .inr ⟨(l3 h).symm, by omega⟩
theorem t2_mid {t q x y z : Int} (h : T2 t q = [x, y, z]) : (y = 0 ∧ q ≠ 0) ∨ (y = 1 ∧ q = 0 ∧ t ≠ 0) ∨ (y = 2 ∧ q = 0 ∧ t = 0) := by
  unfold T2 at h
  split at h
  · refine .inl ⟨?_, Int.ne_of_gt ‹_›⟩
    split at h <;> exact (l3 h).symm
  · split at h
    · exact .inl ⟨(l3 h).symm, Int.ne_of_lt ‹_›⟩
    · have hq : q = 0 := by clear h; omega
      split at h
      · exact .inr (.inl ⟨(l3 h).symm, hq, Int.ne_of_gt ‹_›⟩)
      · split at h
        · exact .inr (.inl ⟨(l3 h).symm, hq, Int.ne_of_lt ‹_›⟩)
        · exact .inr (.inr ⟨(l3 h).symm, hq, by clear h hq; omega⟩)
theorem t3_mid {t s d x y z : Int} (h : T3 t s d = [x, y, z]) : (y = 0 ∧ d ≠ 0) ∨ (y = 1 ∧ d = 0 ∧ s ≠ 0) ∨ (y = 2 ∧ d = 0 ∧ s = 0 ∧ t ≠ 0) ∨ (y = 3 ∧ d = 0 ∧ s = 0 ∧ t = 0) := by
  unfold T3 at h
  split at h
  · refine .inl ⟨?_, Int.ne_of_gt ‹_›⟩
    split at h <;> exact (l3 h).symm
  · split at h
    · refine .inl ⟨?_, Int.ne_of_lt ‹_›⟩
      split at h <;> exact (l3 h).symm
    · have hd : d = 0 := by clear h; omega
      split at h
      · refine .inr (.inl ⟨?_, hd, Int.ne_of_gt ‹_›⟩)
        split at h <;> exact (l3 h).symm
      · split at h
        · exact .inr (.inl ⟨(l3 h).symm, hd, Int.ne_of_lt ‹_›⟩)
        · have hs : s = 0 := by clear h hd; omega
          split at h
          · exact .inr (.inr (.inl ⟨(l3 h).symm, hd, hs, Int.ne_of_gt ‹_›⟩))
          · split at h
            · exact .inr (.inr (.inl ⟨(l3 h).symm, hd, hs, Int.ne_of_lt ‹_›⟩))
            · exact .inr (.inr (.inr ⟨(l3 h).symm, hd, hs, by clear h hd hs; omega⟩))
noncomputable def Sg (a b : Int) : Prop := (0 < a ↔ 0 < b) ∧ (a < 0 ↔ b < 0)
theorem Sg.refl (a : Int) : Sg a a := ⟨Iff.rfl, Iff.rfl⟩
theorem Sg.mul {k x : Int} (hk : 0 < k) : Sg (k * x) x := by
  have := mul_sgn (x := x) hk
  unfold Sg
  omega
theorem Sg.trans {a b c : Int} (h : Sg a b) (h' : Sg b c) : Sg a c := ⟨h.1.trans h'.1, h.2.trans h'.2⟩
theorem Sg.symm {a b : Int} (h : Sg a b) : Sg b a := ⟨h.1.symm, h.2.symm⟩
theorem t1_congr {a b : Int} (h : Sg a b) : T1 a = T1 b := by unfold T1; simp only [h.1, h.2]
theorem t2_congr {t t' q q' : Int} (h : Sg t t') (h' : Sg q q') : T2 t q = T2 t' q' := by unfold T2; simp only [h.1, h.2, h'.1, h'.2]
theorem t3_congr {t t' s s' d d' : Int} (h : Sg t t') (h' : Sg s s') (h'' : Sg d d') : T3 t s d = T3 t' s' d' := by
  have e1 : 0 ≤ s ↔ 0 ≤ s' := by have := h'.2; omega
  have e2 : t ≤ 0 ↔ t' ≤ 0 := by have := h.1; omega
  unfold T3
  simp only [h.1, h.2, h'.1, h'.2, h''.1, h''.2, e1, e2]
/-- what is left when the side's signs are taken away -/
theorem addL_less {l : List Int} {a D0 D1 D2 x y z : Int} (hl : ∃ u v w, l = [u, v, w]) (ha : a ≠ 0) (h : addL l (if 0 < a then 1 else 0) (if a < 0 then 1 else 0) = [D0, D1, D2]) (h1 : T1 a = [x, y, z]) : l = [D0 - x, D1 - y, D2 - z] := by
  obtain ⟨u, v, w, rfl⟩ := hl
  unfold addL at h
  unfold T1 at h1
  simp only [List.cons.injEq] at h
  rcases Int.lt_trichotomy a 0 with h' | h' | h'
  · rw [if_neg (show ¬ 0 < a by omega), if_pos h'] at h1 h
    simp at h1
    simp
    omega
  · exact absurd h' ha
  · rw [if_pos h'] at h1
    rw [if_pos h', if_neg (show ¬ a < 0 by omega)] at h
    simp at h1
    simp
    omega
theorem t1_shape (a : Int) : ∃ u v w, T1 a = [u, v, w] := by
  unfold T1
  repeat' split
  all_goals exact ⟨_, _, _, rfl⟩
theorem t2_shape (a b : Int) : ∃ u v w, T2 a b = [u, v, w] := by
  unfold T2
  repeat' split
  all_goals exact ⟨_, _, _, rfl⟩
theorem t3_shape (a b c : Int) : ∃ u v w, T3 a b c = [u, v, w] := by
  unfold T3
  repeat' split
  all_goals exact ⟨_, _, _, rfl⟩
/-- a corner of two rows -/
noncomputable def plusL (l m : List Int) : List Int := match l, m with
  | [x, y, z], [u, v, w] => [x + u, y + v, z + w]
  | l, _ => l
theorem addL_plus {l : List Int} (hl : ∃ u v w, l = [u, v, w]) {a : Int} (ha : a ≠ 0) : addL l (if 0 < a then 1 else 0) (if a < 0 then 1 else 0) = plusL (T1 a) l := by
  obtain ⟨u, v, w, rfl⟩ := hl
  unfold T1 addL plusL
  rcases Int.lt_trichotomy a 0 with h' | h' | h'
  · rw [if_neg (show ¬ 0 < a by omega), if_pos h', if_neg (show ¬ 0 < a by omega), if_pos h']; simp
  · exact absurd h' ha
  · rw [if_pos h', if_neg (show ¬ a < 0 by omega), if_pos h']; simp
theorem corner_a {a b c e f g : Int} (ha : a ≠ 0) (hX : a * e - b * b ≠ 0) : T3 (a + e + g) (s2 a b c e f g) (dt a b c e f g) = plusL (T2 (a + e) (a * e - b * b)) (T1 ((a * e - b * b) * dt a b c e f g)) := by
  rw [← t3_of ha, ← t2_of ha, addL_plus (t2_shape _ _) ha, addL_plus (t1_shape _) ha]
  have k := t2_of (a := a * (a * e - b * b)) (b := a * (a * f - b * c)) (e := a * (a * g - c * c)) (Int.mul_ne_zero ha hX)
  have e1 : a * (a * e - b * b) + a * (a * g - c * c) = a * Pp a b c e f g := by unfold Pp; grind
  have e2 : a * (a * e - b * b) * (a * (a * g - c * c)) - a * (a * f - b * c) * (a * (a * f - b * c)) = a * (a * (a * dt a b c e f g)) := by unfold dt; grind
  rw [e1, e2] at k
  rw [← k, addL_plus (t1_shape _) (Int.mul_ne_zero ha hX)]
  have e3 : T1 (a * (a * e - b * b) * (a * (a * (a * dt a b c e f g)))) = T1 ((a * e - b * b) * dt a b c e f g) := by
    refine t1_congr ?_
    have : a * (a * e - b * b) * (a * (a * (a * dt a b c e f g))) = (a * a) * ((a * a) * ((a * e - b * b) * dt a b c e f g)) := by grind
    rw [this]
    exact (Sg.mul (sqp ha)).trans (Sg.mul (sqp ha))
  rw [e3]
  obtain ⟨u, v, w, h1⟩ := t1_shape a
  obtain ⟨u', v', w', h2⟩ := t1_shape (a * (a * e - b * b))
  obtain ⟨u3, v3, w3, h3⟩ := t1_shape ((a * e - b * b) * dt a b c e f g)
  rw [h1, h2, h3]
  unfold plusL
  simp [Int.add_assoc]
theorem corner {a b c e f g : Int} (hX : a * e - b * b ≠ 0) : T3 (a + e + g) (s2 a b c e f g) (dt a b c e f g) = plusL (T2 (a + e) (a * e - b * b)) (T1 ((a * e - b * b) * dt a b c e f g)) := by
  by_cases ha : a = 0
  · by_cases he : e = 0
    · subst ha he
      have hb : b ≠ 0 := fun h => by subst h; simp at hX
      have hb2 := sqp hb
      have hs : s2 0 b c 0 f g < 0 := by
        unfold s2
        have := sqn c
        have := sqn f
        simp
        omega
      have e2 : T2 (0 + 0) (0 * 0 - b * b) = [1, 0, 1] := by unfold T2; rw [if_neg (by omega), if_pos (by omega)]
      rw [e2]
      have e3 : Sg ((0 * 0 - b * b) * dt 0 b c 0 f g) (-dt 0 b c 0 f g) := by
        have : (0 * 0 - b * b) * dt 0 b c 0 f g = (b * b) * (-dt 0 b c 0 f g) := by grind
        rw [this]
        exact Sg.mul hb2
      rw [t1_congr e3]
      generalize dt 0 b c 0 f g = d at *
      unfold T3 T1 plusL
      rcases Int.lt_trichotomy d 0 with hd | hd | hd
      · rw [if_neg (show ¬ 0 < d by omega), if_pos hd, if_neg (by omega), if_pos (show 0 < -d by omega)]; rfl
      · rw [if_neg (show ¬ 0 < d by omega), if_neg (show ¬ d < 0 by omega), if_neg (by omega), if_pos hs, if_neg (by omega), if_neg (by omega)]; rfl
      · rw [if_pos hd, if_neg (by omega), if_neg (by omega), if_pos (by omega)]; rfl
    · have k := corner_a (a := e) (b := b) (c := f) (e := a) (f := c) (g := g) he (by rw [Int.mul_comm]; exact hX)
      have e1 : s2 e b f a c g = s2 a b c e f g := by unfold s2; grind
      have e2 : dt e b f a c g = dt a b c e f g := by unfold dt; grind
      rw [e1, e2, Int.add_comm e a, Int.mul_comm e a] at k
      exact k
  · exact corner_a ha hX

/-! above 0 throughout -/
structure PD (a b c e f g : Int) : Prop where
  p1 : 0 < a
  p2 : 0 < a * e - b * b
  p3 : 0 < dt a b c e f g
theorem PD.sums {a b c e f g : Int} (h : PD a b c e f g) : 0 < s2 a b c e f g ∧ 0 < a + e + g := by
  refine (kp h.p1).p1 h.p3 ?_
  have eD : a * dt a b c e f g = (a * e - b * b) * (a * g - c * c) - (a * f - b * c) * (a * f - b * c) := by unfold dt; grind
  have h1 := Int.mul_pos h.p1 h.p3
  have h2 := sqn (a * f - b * c)
  have h3 := pos_of_mul h.p2 (show 0 < (a * e - b * b) * (a * g - c * c) by omega)
  have := h.p2
  unfold Pp
  omega
theorem pd_of {a b c e f g : Int} (hd : 0 < dt a b c e f g) (hs : 0 ≤ s2 a b c e f g) (ht : 0 ≤ a + e + g) : PD a b c e f g := by
  have ha : 0 < a := by
    rcases Int.lt_trichotomy a 0 with h | h | h
    · have K := (kp (a := -a) (b := -b) (c := -c) (e := -e) (f := -f) (g := -g) (by omega)).p3
      have e1 : dt (-a) (-b) (-c) (-e) (-f) (-g) = -dt a b c e f g := by unfold dt; grind
      have e3 : s2 (-a) (-b) (-c) (-e) (-f) (-g) = s2 a b c e f g := by unfold s2; grind
      rw [e1, e3] at K
      exact absurd ⟨hs, by omega⟩ (K (by omega))
    · subst h
      exfalso
      have e1 : dt 0 b c e f g = -(g * (b * b) - 2 * (f * b * c) + e * (c * c)) := by unfold dt; grind
      have e2 : s2 0 b c e f g = (e * g - f * f) - b * b - c * c := by unfold s2; grind
      have q1 := sqn b
      have q2 := sqn c
      have q3 := sqn f
      have q4 := sqn (e * c - f * b)
      have e3 : e * (g * (b * b) - 2 * (f * b * c) + e * (c * c)) = (e * c - f * b) * (e * c - f * b) + (e * g - f * f) * (b * b) := by grind
      have q5 : 0 ≤ (e * g - f * f) * (b * b) := Int.mul_nonneg (by omega) q1
      have he : 0 ≤ e := by
        rcases Int.lt_or_le e 0 with h | h
        · have hg : 0 < g := by omega
          have := mul_np h hg
          omega
        · exact h
      rcases Int.lt_or_eq_of_le he with h | h
      · have := nonneg_of_mul h (by omega : 0 ≤ e * (g * (b * b) - 2 * (f * b * c) + e * (c * c)))
        omega
      · subst h
        have hf : f * f = 0 := by simp at e2; omega
        have hb : b * b = 0 := by simp at e2; omega
        have hb' : b = 0 := by rcases Int.mul_eq_zero.mp hb with h | h <;> exact h
        subst hb'
        simp at e1
        omega
    · exact h
  have K := kp (b := b) (c := c) (e := e) (f := f) (g := g) ha
  have hP : 0 < Pp a b c e f g := by
    have h0 := K.p0 (Int.mul_pos ha hd)
    rcases Int.lt_trichotomy (Pp a b c e f g) 0 with h | h | h
    · exact absurd ⟨hs, ht⟩ (K.p2 hd h)
    · exact absurd h h0
    · exact h
  refine ⟨ha, ?_, hd⟩
  have eD : a * dt a b c e f g = (a * e - b * b) * (a * g - c * c) - (a * f - b * c) * (a * f - b * c) := by unfold dt; grind
  have h1 := Int.mul_pos ha hd
  have h2 := sqn (a * f - b * c)
  have h3 : 0 < (a * e - b * b) * (a * g - c * c) := by omega
  rcases Int.lt_or_le 0 (a * e - b * b) with h | h
  · exact h
  · exfalso
    have h4 : 0 < a * g - c * c := by unfold Pp at hP; omega
    have := Int.mul_nonneg (show 0 ≤ -(a * e - b * b) by omega) (Int.le_of_lt h4)
    rw [Int.neg_mul] at this
    omega
/-- the two rows' own square -/
theorem q2_low {a b e x y : Int} (ha : 0 < a) (hD : 0 < a * e - b * b) : (a * e - b * b) * (x * x) ≤ a * (a * (y * y) - 2 * (b * x * y) + e * (x * x)) ∧ 0 ≤ a * (y * y) - 2 * (b * x * y) + e * (x * x) := by
  have e1 : a * (a * (y * y) - 2 * (b * x * y) + e * (x * x)) = (a * y - b * x) * (a * y - b * x) + (a * e - b * b) * (x * x) := by grind
  have h1 := sqn (a * y - b * x)
  have h2 := Int.mul_nonneg (Int.le_of_lt hD) (sqn x)
  exact ⟨by omega, nonneg_of_mul ha (by omega)⟩
noncomputable def Q3 (a b c e f g x y z : Int) : Int := (e * g - f * f) * (x * x) + (a * g - c * c) * (y * y) + (a * e - b * b) * (z * z) + 2 * ((c * f - b * g) * (x * y) + (b * f - c * e) * (x * z) + (b * c - a * f) * (y * z))
theorem q3_low {a b c e f g x y z : Int} (h : PD a b c e f g) : dt a b c e f g * (a * (y * y) - 2 * (b * x * y) + e * (x * x)) ≤ (a * e - b * b) * Q3 a b c e f g x y z := by
  have e1 : (a * e - b * b) * Q3 a b c e f g x y z = ((b * f - c * e) * x + (b * c - a * f) * y + (a * e - b * b) * z) * ((b * f - c * e) * x + (b * c - a * f) * y + (a * e - b * b) * z) + dt a b c e f g * (a * (y * y) - 2 * (b * x * y) + e * (x * x)) := by unfold Q3 dt; grind
  have h1 := sqn ((b * f - c * e) * x + (b * c - a * f) * y + (a * e - b * b) * z)
  omega
theorem dt_more (a b c e f g x y z : Int) : dt (a + x * x) (b + x * y) (c + x * z) (e + y * y) (f + y * z) (g + z * z) = dt a b c e f g + Q3 a b c e f g x y z := by unfold dt Q3; grind
theorem dt_less (a b c e f g x y z : Int) : dt (a - x * x) (b - x * y) (c - x * z) (e - y * y) (f - y * z) (g - z * z) = dt a b c e f g - Q3 a b c e f g x y z := by unfold dt Q3; grind
theorem pd_more {a b c e f g : Int} (x y z : Int) (h : PD a b c e f g) : PD (a + x * x) (b + x * y) (c + x * z) (e + y * y) (f + y * z) (g + z * z) := by
  obtain ⟨l1, l2⟩ := q2_low (x := x) (y := y) h.p1 h.p2
  have l3 := q3_low (x := x) (y := y) (z := z) h
  have := h.p1
  have := h.p2
  have := h.p3
  refine ⟨by have := sqn x; omega, ?_, ?_⟩
  · have : (a + x * x) * (e + y * y) - (b + x * y) * (b + x * y) = (a * e - b * b) + (a * (y * y) - 2 * (b * x * y) + e * (x * x)) := by grind
    omega
  · rw [dt_more]
    have h4 := Int.mul_nonneg (Int.le_of_lt h.p3) l2
    have := nonneg_of_mul h.p2 (Int.le_trans h4 l3)
    omega
theorem pd_less {a b c e f g : Int} (x y z : Int) (h : PD a b c e f g) (hd : 0 < dt (a - x * x) (b - x * y) (c - x * z) (e - y * y) (f - y * z) (g - z * z)) : PD (a - x * x) (b - x * y) (c - x * z) (e - y * y) (f - y * z) (g - z * z) := by
  obtain ⟨l1, l2⟩ := q2_low (x := x) (y := y) h.p1 h.p2
  have l3 := q3_low (x := x) (y := y) (z := z) h
  have hd' := hd
  rw [dt_less] at hd'
  have h4 : (a * e - b * b) * Q3 a b c e f g x y z < (a * e - b * b) * dt a b c e f g := Int.mul_lt_mul_of_pos_left (by omega) h.p2
  have h5 : a * (y * y) - 2 * (b * x * y) + e * (x * x) < a * e - b * b := by
    have : dt a b c e f g * (a * (y * y) - 2 * (b * x * y) + e * (x * x)) < dt a b c e f g * (a * e - b * b) := by rw [Int.mul_comm (dt a b c e f g) (a * e - b * b)]; omega
    exact Int.lt_of_mul_lt_mul_left this (Int.le_of_lt h.p3)
  have h6 : x * x < a := by
    have h7 : a * (a * (y * y) - 2 * (b * x * y) + e * (x * x)) < a * (a * e - b * b) := Int.mul_lt_mul_of_pos_left h5 h.p1
    have : (a * e - b * b) * (x * x) < (a * e - b * b) * a := by rw [Int.mul_comm (a * e - b * b) a]; omega
    exact Int.lt_of_mul_lt_mul_left this (Int.le_of_lt h.p2)
  refine ⟨by omega, ?_, hd⟩
  have : (a - x * x) * (e - y * y) - (b - x * y) * (b - x * y) = (a * e - b * b) - (a * (y * y) - 2 * (b * x * y) + e * (x * x)) := by grind
  omega
theorem pd2_less {a b e : Int} (x y : Int) (ha : 0 < a) (hD : 0 < a * e - b * b) (hd : 0 < (a - x * x) * (e - y * y) - (b - x * y) * (b - x * y)) : 0 < a - x * x := by
  obtain ⟨l1, l2⟩ := q2_low (x := x) (y := y) ha hD
  have h5 : a * (y * y) - 2 * (b * x * y) + e * (x * x) < a * e - b * b := by
    have : (a - x * x) * (e - y * y) - (b - x * y) * (b - x * y) = (a * e - b * b) - (a * (y * y) - 2 * (b * x * y) + e * (x * x)) := by grind
    omega
  have h7 : a * (a * (y * y) - 2 * (b * x * y) + e * (x * x)) < a * (a * e - b * b) := Int.mul_lt_mul_of_pos_left h5 ha
  have : (a * e - b * b) * (x * x) < (a * e - b * b) * a := by rw [Int.mul_comm (a * e - b * b) a]; omega
  have := Int.lt_of_mul_lt_mul_left this (Int.le_of_lt hD)
  omega
end Mine
end

section
set_option maxHeartbeats 4000000
namespace Mine
theorem t3_dpos {t s d : Int} (h : 0 < d) : T3 t s d = if 0 < s ∧ 0 < t then [3, 0, 0] else [1, 0, 2] := by unfold T3; rw [if_pos h]
theorem t3_dneg {t s d : Int} (h : d < 0) : T3 t s d = if 0 ≤ s ∧ t ≤ 0 then [0, 0, 3] else [2, 0, 1] := by unfold T3; rw [if_neg (by omega), if_pos h]
theorem ite_same {p q : Prop} [Decidable p] [Decidable q] {l m : List Int} (h : l ≠ m) : ((if p then l else m) = if q then l else m) ↔ (p ↔ q) := by
  by_cases hp : p <;> by_cases hq : q
  · simp [hp, hq]
  · simp [hp, hq, h]
  · simp [hp, hq, Ne.symm h]
  · simp [hp, hq]
theorem above3 {a b c e f g x y z : Int} (hd : dt a b c e f g ≠ 0) :
    (T3 ((a + x * x) + (e + y * y) + (g + z * z)) (s2 (a + x * x) (b + x * y) (c + x * z) (e + y * y) (f + y * z) (g + z * z)) (dt (a + x * x) (b + x * y) (c + x * z) (e + y * y) (f + y * z) (g + z * z)) = T3 (a + e + g) (s2 a b c e f g) (dt a b c e f g)) ↔ 0 < dt a b c e f g * dt (a + x * x) (b + x * y) (c + x * z) (e + y * y) (f + y * z) (g + z * z) := by
  generalize hd' : dt (a + x * x) (b + x * y) (c + x * z) (e + y * y) (f + y * z) (g + z * z) = d' at *
  generalize hs' : s2 (a + x * x) (b + x * y) (c + x * z) (e + y * y) (f + y * z) (g + z * z) = s' at *
  generalize ht' : (a + x * x) + (e + y * y) + (g + z * z) = t' at *
  have neg1 : ∀ {a b c e f g : Int}, dt (-a) (-b) (-c) (-e) (-f) (-g) = -dt a b c e f g := by intros; unfold dt; grind
  have neg2 : ∀ {a b c e f g : Int}, s2 (-a) (-b) (-c) (-e) (-f) (-g) = s2 a b c e f g := by intros; unfold s2; grind
  rcases Int.lt_trichotomy d' 0 with h' | h' | h'
  · rcases Int.lt_trichotomy (dt a b c e f g) 0 with h | h | h
    · -- both below 0
      have hp := mul_nn h h'
      refine iff_of_true ?_ hp
      rw [t3_dneg h', t3_dneg h, ite_same (by decide)]
      constructor
      · rintro ⟨h1, h2⟩
        have P : PD (-(a + x * x)) (-(b + x * y)) (-(c + x * z)) (-(e + y * y)) (-(f + y * z)) (-(g + z * z)) := pd_of (by rw [neg1, hd']; omega) (by rw [neg2, hs']; exact h1) (by omega)
        have P' := pd_more x y z P
        have e1 : ∀ p q : Int, -(p + q) + q = -p := fun p q => by omega
        simp only [e1] at P'
        obtain ⟨k1, k2⟩ := P'.sums
        rw [neg2] at k1
        omega
      · rintro ⟨h1, h2⟩
        have P : PD (-a) (-b) (-c) (-e) (-f) (-g) := pd_of (by rw [neg1]; omega) (by rw [neg2]; exact h1) (by omega)
        have e1 : ∀ p q : Int, -p - q = -(p + q) := fun p q => by omega
        have P' := pd_less x y z P (by simp only [e1]; rw [neg1, hd']; omega)
        simp only [e1] at P'
        obtain ⟨k1, k2⟩ := P'.sums
        rw [neg2, hs'] at k1
        omega
    · exact absurd h hd
    · have hn := mul_pn h h'
      refine iff_of_false (fun hh => ?_) (by omega)
      rw [t3_dneg h', t3_dpos h] at hh
      (repeat' split at hh) <;> simp at hh
  · subst h'
    rw [Int.mul_zero]
    refine iff_of_false (fun hh => ?_) (by omega)
    obtain ⟨u, v, w, e⟩ := t3_shape (a + e + g) (s2 a b c e f g) (dt a b c e f g)
    have m1 := t3_mid e
    rw [e] at hh
    have m2 := t3_mid hh
    omega
  · rcases Int.lt_trichotomy (dt a b c e f g) 0 with h | h | h
    · have hn := mul_np h h'
      refine iff_of_false (fun hh => ?_) (by omega)
      rw [t3_dpos h', t3_dneg h] at hh
      (repeat' split at hh) <;> simp at hh
    · exact absurd h hd
    · have hp := Int.mul_pos h h'
      refine iff_of_true ?_ hp
      rw [t3_dpos h', t3_dpos h, ite_same (by decide)]
      constructor
      · rintro ⟨h1, h2⟩
        have P : PD (a + x * x) (b + x * y) (c + x * z) (e + y * y) (f + y * z) (g + z * z) := pd_of (by rw [hd']; exact h') (by rw [hs']; omega) (by omega)
        have e1 : ∀ p q : Int, p + q - q = p := fun p q => by omega
        have P' := pd_less x y z P (by simp only [e1]; exact h)
        simp only [e1] at P'
        exact P'.sums
      · rintro ⟨h1, h2⟩
        have P : PD a b c e f g := pd_of h (by omega) (by omega)
        have P' := pd_more x y z P
        obtain ⟨k1, k2⟩ := P'.sums
        rw [hs'] at k1
        omega
theorem pos2 {a b e : Int} (hq : 0 < a * e - b * b) (ht : 0 < a + e) : 0 < a := by
  have hb := sqn b
  rcases Int.lt_or_le 0 a with h | h
  · exact h
  · exfalso
    have := Int.mul_nonneg (show 0 ≤ -a by omega) (show 0 ≤ e by omega)
    rw [Int.neg_mul] at this
    omega
theorem tr_pos {a b e : Int} (hq : 0 < a * e - b * b) (ha : 0 < a) : 0 < a + e := by
  have hb := sqn b
  have := pos_of_mul ha (show 0 < a * e by omega)
  omega
theorem above2 {a b e x y : Int} (hq : a * e - b * b ≠ 0) : (T2 ((a + x * x) + (e + y * y)) ((a + x * x) * (e + y * y) - (b + x * y) * (b + x * y)) = T2 (a + e) (a * e - b * b)) ↔ 0 < (a * e - b * b) * ((a + x * x) * (e + y * y) - (b + x * y) * (b + x * y)) := by
  have e1 : (a + x * x - x * x) * (e + y * y - y * y) - (b + x * y - x * y) * (b + x * y - x * y) = a * e - b * b := by
    rw [show a + x * x - x * x = a by omega, show e + y * y - y * y = e by omega, show b + x * y - x * y = b by omega]
  have key : 0 < a * e - b * b → 0 < (a + x * x) * (e + y * y) - (b + x * y) * (b + x * y) → (0 < (a + x * x) + (e + y * y) ↔ 0 < a + e) := fun h h' => by
    constructor
    · intro ht
      have h1 := pos2 h' ht
      have h2 := pd2_less x y h1 h' (by rw [e1]; exact h)
      exact tr_pos h (by omega)
    · intro ht
      have h1 := pos2 h ht
      exact tr_pos h' (by have := sqn x; omega)
  generalize hq' : (a + x * x) * (e + y * y) - (b + x * y) * (b + x * y) = q' at *
  generalize hqq : a * e - b * b = q at *
  generalize (a + x * x) + (e + y * y) = t' at *
  generalize a + e = t at *
  rcases Int.lt_trichotomy q 0 with h | h | h
  · rcases Int.lt_trichotomy q' 0 with h' | h' | h'
    · refine iff_of_true ?_ (mul_nn h h')
      unfold T2
      rw [if_neg (by omega), if_pos h', if_neg (by omega), if_pos h]
    · rw [h', Int.mul_zero]
      refine iff_of_false (fun hh => ?_) (by omega)
      obtain ⟨u, v, w, e⟩ := t2_shape t q
      have m1 := t2_mid e
      rw [e] at hh
      have m2 := t2_mid hh
      omega
    · have := mul_np h h'
      refine iff_of_false (fun hh => ?_) (by omega)
      unfold T2 at hh
      rw [if_pos h', if_neg (show ¬ 0 < q by omega), if_pos h] at hh
      split at hh <;> simp at hh
  · exact absurd h hq
  · rcases Int.lt_trichotomy q' 0 with h' | h' | h'
    · have := mul_pn h h'
      refine iff_of_false (fun hh => ?_) (by omega)
      unfold T2 at hh
      rw [if_pos h, if_neg (show ¬ 0 < q' by omega), if_pos h'] at hh
      split at hh <;> simp at hh
    · rw [h', Int.mul_zero]
      refine iff_of_false (fun hh => ?_) (by omega)
      obtain ⟨u, v, w, e⟩ := t2_shape t q
      have m1 := t2_mid e
      rw [e] at hh
      have m2 := t2_mid hh
      omega
    · refine iff_of_true ?_ (Int.mul_pos h h')
      unfold T2
      rw [if_pos h', if_pos h, ite_same (by decide)]
      exact key h h'
/-! rationals -/
theorem mul_den (x : Rat) : x * ((x.den : Int) : Rat) = ((x.num : Int) : Rat) := by
  have h : (((x.den : Nat) : Int) : Rat) ≠ 0 := fun e => den_ne x (Rat.intCast_inj.mp (e.trans Rat.intCast_zero.symm))
  have := Rat.div_mul_cancel (a := ((x.num : Int) : Rat)) h
  rw [← Rat.divInt_eq_div, Rat.num_divInt_den] at this
  exact this
theorem den_pos (x : Rat) : (0 : Int) < x.den := by have := x.den_nz; omega
theorem sg_of {k z n : Int} {m : Int} (hk : k ≠ 0) (hm : 0 < m) (h : k * n = z * m) : Sg n (k * z) := by
  have h1 : (k * k) * n = m * (k * z) := by rw [Int.mul_assoc, h]; grind
  have h2 := Sg.mul (x := n) (sqp hk)
  rw [h1] at h2
  exact h2.symm.trans (Sg.mul hm)
theorem rsg {k z : Int} {x : Rat} (hk : k ≠ 0) (h : (k : Rat) * x = (z : Rat)) : Sg x.num (k * z) := by
  refine sg_of hk (den_pos x) (Rat.intCast_inj.mp ?_)
  rw [Rat.intCast_mul, Rat.intCast_mul, ← mul_den, ← h, Rat.mul_assoc]
theorem rsg1 {k z : Int} {x : Rat} (hk : k ≠ 0) (h : (k : Rat) * (1 + x) = (z : Rat)) : Sg (x.num + x.den) (k * z) := by
  refine sg_of hk (den_pos x) (Rat.intCast_inj.mp ?_)
  rw [Rat.intCast_mul, Rat.intCast_mul, Rat.intCast_add, ← mul_den, ← h]
  grind
end Mine
end

section
set_option maxHeartbeats 4000000
namespace Mine
theorem cast0 {z : Int} : (z : Rat) = 0 ↔ z = 0 := ⟨fun e => Rat.intCast_inj.mp (e.trans Rat.intCast_zero.symm), fun e => by rw [e]; rfl⟩
theorem more_sym {F : IMat} {v : Nat → Int} {i j : Nat} (h : F i j = F j i) : moreF F v i j = moreF F v j i := by unfold moreF; rw [h, Int.mul_comm]
noncomputable def Mid2 (D1 t q : Int) : Prop := (D1 = 0 ∧ q ≠ 0) ∨ (D1 = 1 ∧ q = 0 ∧ t ≠ 0) ∨ (D1 = 2 ∧ q = 0 ∧ t = 0)
theorem Mid2.m0 {D1 t q : Int} (h : Mid2 D1 t q) (hd : q ≠ 0) : D1 = 0 := by unfold Mid2 at h; omega
theorem Mid2.m1 {D1 t q : Int} (h : Mid2 D1 t q) (hd : q = 0) (ht : t ≠ 0) : D1 = 1 := by unfold Mid2 at h; omega
theorem Mid2.m2 {D1 t q : Int} (h : Mid2 D1 t q) (hd : q = 0) (ht : t = 0) : D1 = 2 := by unfold Mid2 at h; omega
theorem Mid2.pos {D1 t q : Int} (h : Mid2 D1 t q) : 0 < D1 ↔ q = 0 := by unfold Mid2 at h; omega
theorem Mid2.le {D1 t q : Int} (h : Mid2 D1 t q) (hl : D1 ≤ 0) : q ≠ 0 := fun e => by have := h.pos.mpr e; omega
theorem mid1_pos {y a : Int} (h : (y = 0 ∧ a ≠ 0) ∨ (y = 1 ∧ a = 0)) : 0 < y ↔ a = 0 := by omega
theorem Sg.zero {a b : Int} (h : Sg a b) : a = 0 ↔ b = 0 := by unfold Sg at h; omega
theorem tr_zero {a b e : Int} (hq : a * e - b * b = 0) (ht : a + e = 0) : a = 0 ∧ b = 0 ∧ e = 0 := by
  have he : e = -a := by omega
  subst he
  rw [Int.mul_neg] at hq
  have h1 := sqn a
  have h2 := sqn b
  have h3 : a * a = 0 := by omega
  have h4 : b * b = 0 := by omega
  have h5 : a = 0 := by rcases Int.mul_eq_zero.mp h3 with h | h <;> exact h
  have h6 : b = 0 := by rcases Int.mul_eq_zero.mp h4 with h | h <;> exact h
  exact ⟨h5, h6, by rw [h5]; rfl⟩
theorem facts2 (F : IMat) (h01 : F 1 0 = F 0 1) (v : Nat → Int) : ∃ D0 D1 D2 L0 L1 L2 x y z, Facts 2 1 F v D0 D1 D2 L0 L1 L2 x y z := by
  have m01 : moreF F v 1 0 = moreF F v 0 1 := more_sym h01
  have eD := sig2 F h01
  have eL := sig2 (moreF F v) m01
  have tD := toldI2 F h01
  have tL := toldI2 (moreF F v) m01
  have eS := sig1 F
  obtain ⟨D0, D1, D2, hD⟩ := t2_shape (F 0 0 + F 1 1) (F 0 0 * F 1 1 - F 0 1 * F 0 1)
  obtain ⟨L0, L1, L2, hL⟩ := t2_shape (moreF F v 0 0 + moreF F v 1 1) (moreF F v 0 0 * moreF F v 1 1 - moreF F v 0 1 * moreF F v 0 1)
  obtain ⟨x, y, z, hS⟩ := t1_shape (F 0 0)
  have mD : Mid2 D1 _ _ := t2_mid hD
  have mL : Mid2 L1 _ _ := t2_mid hL
  have mS := mid1_pos (t1_mid hS)
  have dd : d2 (QM F) = ((F 0 0 * F 1 1 - F 0 1 * F 0 1 : Int) : Rat) := by
    unfold d2 QM
    rw [h01]
    simp only [Rat.intCast_sub, Rat.intCast_mul]
  have zz : Zr 2 (QM F) → F 0 0 = 0 ∧ F 0 1 = 0 ∧ F 1 1 = 0 := fun h => ⟨cast0.mp (h 0 0 (by omega) (by omega)), cast0.mp (h 0 1 (by omega) (by omega)), cast0.mp (h 1 1 (by omega) (by omega))⟩
  have zz' : F 0 0 = 0 → F 0 1 = 0 → F 1 1 = 0 → Zr 2 (QM F) := fun a b c i j hi hj => by
    have h1 : i = 0 ∨ i = 1 := by omega
    have h2 : j = 0 ∨ j = 1 := by omega
    refine cast0.mpr ?_
    rcases h1 with rfl | rfl <;> rcases h2 with rfl | rfl <;> simp [a, b, c, h01]
  have hinv := inv2 (QM F)
  rw [dd, Ne, cast0] at hinv
  refine ⟨D0, D1, D2, L0, L1, L2, x, y, z, eD.trans hD, tD.trans (eD.trans hD), ?_, ?_, eS.trans hS, ?_, fun hok => ?_, eL.trans hL, tL.trans (eL.trans hL), fun h1 => ?_, fun h1 => ?_, fun h1 => ?_⟩
  · have r := rank2 (QM F)
    rw [dd, Ne, cast0] at r
    rcases r with ⟨e, hne⟩ | ⟨e, hq, hz⟩ | ⟨e, hz⟩
    · rw [e, mD.m0 hne]; rfl
    · rw [e, mD.m1 hq fun ht => hz (let ⟨a, b, c⟩ := tr_zero hq ht; zz' a b c)]; rfl
    · obtain ⟨a, b, c⟩ := zz hz
      rw [e, mD.m2 (by rw [a, b, c]; rfl) (by rw [a, c]; rfl)]; rfl
  · rcases hinv with ⟨h, e⟩ | ⟨h, e, _⟩
    · rw [e, decide_eq_true (mD.pos.mpr h)]; rfl
    · rw [e, decide_eq_false (fun h' => h (mD.pos.mp h'))]; rfl
  · rcases inv1 (QM F) with ⟨h, e⟩ | ⟨h, e, _⟩
    · rw [e, decide_eq_true (mS.mpr (cast0.mp h))]; rfl
    · rw [e, decide_eq_false (fun h' => h (cast0.mpr (mS.mp h')))]; rfl
  · rcases inv1 (QM F) with ⟨h, e⟩ | ⟨h, e, hm⟩
    · rw [hok] at e; cases e
    · have ha : F 0 0 ≠ 0 := fun e' => h (cast0.mpr e')
      show told 1 (schurF 2 1 F) = _
      have e0 : (F 0 0 : Rat) * schurF 2 1 F 0 0 = ((F 0 0 * F 1 1 - F 0 1 * F 0 1 : Int) : Rat) := by
        unfold schurF
        simp only [mulF, dot1]
        have e1 : ((-1 : Int) : Rat) = -1 := rfl
        rw [e1]
        simp only [Rat.intCast_sub, Rat.intCast_mul, Nat.add_zero]
        have hm' : invF 1 (fun i j => (F i j : Rat)) 0 0 * (F 0 0 : Rat) = 1 := hm
        grind
      have s1 := rsg ha e0
      rw [told1, t1_congr s1]
      have k := t2_of (a := F 0 0) (b := F 0 1) (e := F 1 1) ha
      rw [hD] at k
      exact addL_less (t1_shape _) ha k hS
  · rcases hinv with ⟨h, e⟩ | ⟨hq, e, hR⟩
    · exact absurd h (mD.le h1)
    · have r00 := hR 0 0 (by omega) (by omega)
      have r01 := hR 0 1 (by omega) (by omega)
      have r10 := hR 1 0 (by omega) (by omega)
      have r11 := hR 1 1 (by omega) (by omega)
      simp only [if_true, reduceCtorEq, Nat.zero_ne_one, Nat.one_ne_zero, if_false] at r00 r01 r10 r11
      unfold QM at r00 r01 r10 r11
      rw [h01] at r00 r10
      show told 2 (invF 2 (QM F)) = _
      unfold QM
      rw [told2]
      generalize invF 2 (fun i j => (F i j : Rat)) = R at *
      have t0 : ((F 0 0 * F 1 1 - F 0 1 * F 0 1 : Int) : Rat) * (R 0 0 + R 1 1) = ((F 0 0 + F 1 1 : Int) : Rat) := by
        simp only [Rat.intCast_sub, Rat.intCast_mul, Rat.intCast_add]
        grind
      have t1 : ((F 0 0 * F 1 1 - F 0 1 * F 0 1 : Int) : Rat) * (R 0 0 * R 1 1 - R 0 1 * R 1 0) = ((1 : Int) : Rat) := by
        have e1 : ((1 : Int) : Rat) = 1 := rfl
        rw [e1]
        simp only [Rat.intCast_sub, Rat.intCast_mul]
        grind
      rw [t2_congr (rsg hq t0) (rsg hq t1), ← hD, Int.mul_one]
      generalize F 0 0 * F 1 1 - F 0 1 * F 0 1 = q at *
      rcases Int.lt_trichotomy q 0 with h | h | h
      · unfold T2; rw [if_neg (by omega), if_pos h, if_neg (by omega), if_pos h]
      · exact absurd h hq
      · exact t2_congr (Sg.mul h) (Sg.refl q)
  all_goals
    rcases hinv with ⟨h, e⟩ | ⟨hq, e, hR⟩
    · exact absurd h (mD.le h1)
    have r00 := hR 0 0 (by omega) (by omega)
    have r01 := hR 0 1 (by omega) (by omega)
    have r10 := hR 1 0 (by omega) (by omega)
    have r11 := hR 1 1 (by omega) (by omega)
    simp only [if_true, reduceCtorEq, Nat.zero_ne_one, Nat.one_ne_zero, if_false] at r00 r01 r10 r11
    unfold QM at r00 r01 r10 r11
    rw [h01] at r00 r10
    have n0 : ((F 0 0 * F 1 1 - F 0 1 * F 0 1 : Int) : Rat) * (1 + numQ 2 F v) = ((moreF F v 0 0 * moreF F v 1 1 - moreF F v 0 1 * moreF F v 0 1 : Int) : Rat) := by
      unfold numQ QM
      simp only [mulF, dot2]
      generalize invF 2 (fun i j => (F i j : Rat)) = R at *
      unfold moreF
      simp only [Rat.intCast_sub, Rat.intCast_mul, Rat.intCast_add]
      have q00 : ((F 0 0 : Rat) * (F 1 1 : Rat) - (F 0 1 : Rat) * (F 0 1 : Rat)) * R 0 0 = F 1 1 := by grind
      have q01 : ((F 0 0 : Rat) * (F 1 1 : Rat) - (F 0 1 : Rat) * (F 0 1 : Rat)) * R 0 1 = -F 0 1 := by grind
      have q10 : ((F 0 0 : Rat) * (F 1 1 : Rat) - (F 0 1 : Rat) * (F 0 1 : Rat)) * R 1 0 = -F 0 1 := by grind
      have q11 : ((F 0 0 : Rat) * (F 1 1 : Rat) - (F 0 1 : Rat) * (F 0 1 : Rat)) * R 1 1 = F 0 0 := by grind
      clear r00 r01 r10 r11 hR
      grind
    have sn := rsg1 hq n0
  · rw [← hD, ← hL]
    have k := above2 (a := F 0 0) (b := F 0 1) (e := F 1 1) (x := v 0) (y := v 1) hq
    have : (0 < (numQ 2 F v).num + (numQ 2 F v).den) ↔ (T2 (moreF F v 0 0 + moreF F v 1 1) (moreF F v 0 0 * moreF F v 1 1 - moreF F v 0 1 * moreF F v 0 1) = T2 (F 0 0 + F 1 1) (F 0 0 * F 1 1 - F 0 1 * F 0 1)) := sn.1.trans k.symm
    simp only [this]
  · have : ((numQ 2 F v).num + (numQ 2 F v).den = 0) ↔ 0 < L1 := by
      rw [sn.zero, Int.mul_eq_zero, mL.pos]
      exact ⟨fun h => h.resolve_left hq, .inr⟩
    rw [Bool.eq_iff_iff]
    simp [this]
end Mine
end

section
set_option maxHeartbeats 4000000
namespace Mine
theorem adj_zero {a b c e f g : Int} (hs : s2 a b c e f g = 0) (hd : dt a b c e f g = 0) : e * g - f * f = 0 ∧ a * g - c * c = 0 ∧ a * e - b * b = 0 ∧ c * f - b * g = 0 ∧ b * f - c * e = 0 ∧ b * c - a * f = 0 := by
  have key : (e * g - f * f) * (e * g - f * f) + (a * g - c * c) * (a * g - c * c) + (a * e - b * b) * (a * e - b * b) + 2 * ((c * f - b * g) * (c * f - b * g) + (b * f - c * e) * (b * f - c * e) + (b * c - a * f) * (b * c - a * f)) = s2 a b c e f g * s2 a b c e f g - 2 * ((a + e + g) * dt a b c e f g) := by unfold s2 dt; grind
  rw [hs, hd, Int.mul_zero, Int.mul_zero] at key
  have z : ∀ x : Int, x * x = 0 → x = 0 := fun x h => by rcases Int.mul_eq_zero.mp h with h | h <;> exact h
  have h1 := sqn (e * g - f * f)
  have h2 := sqn (a * g - c * c)
  have h3 := sqn (a * e - b * b)
  have h4 := sqn (c * f - b * g)
  have h5 := sqn (b * f - c * e)
  have h6 := sqn (b * c - a * f)
  clear hs hd
  generalize (e * g - f * f) = A1 at *
  generalize (a * g - c * c) = A2 at *
  generalize (a * e - b * b) = A3 at *
  generalize (c * f - b * g) = A4 at *
  generalize (b * f - c * e) = A5 at *
  generalize (b * c - a * f) = A6 at *
  exact ⟨z _ (by omega), z _ (by omega), z _ (by omega), z _ (by omega), z _ (by omega), z _ (by omega)⟩
theorem m2_int (F : IMat) (h01 : F 1 0 = F 0 1) (h02 : F 2 0 = F 0 2) (h12 : F 2 1 = F 1 2) (a1 : F 1 1 * F 2 2 - F 1 2 * F 1 2 = 0) (a2 : F 0 0 * F 2 2 - F 0 2 * F 0 2 = 0) (a3 : F 0 0 * F 1 1 - F 0 1 * F 0 1 = 0) (a4 : F 0 2 * F 1 2 - F 0 1 * F 2 2 = 0)
    (a5 : F 0 1 * F 1 2 - F 0 2 * F 1 1 = 0) (a6 : F 0 1 * F 0 2 - F 0 0 * F 1 2 = 0) : ∀ i k j l, i < 3 → k < 3 → j < 3 → l < 3 → F i j * F k l = F i l * F k j := by
  have o : ∀ n, n < 3 → n = 0 ∨ n = 1 ∨ n = 2 := fun n hn => by omega
  -- one pair of rows at a time, one pair of columns at a time
  have c01 : ∀ j l, (j = 0 ∧ l = 1) ∨ (j = 0 ∧ l = 2) ∨ (j = 1 ∧ l = 2) → F 0 j * F 1 l = F 0 l * F 1 j ∧ F 0 j * F 2 l = F 0 l * F 2 j ∧ F 1 j * F 2 l = F 1 l * F 2 j := by
    have m1 := Int.mul_comm (F 0 1) (F 1 2)
    have m2 := Int.mul_comm (F 0 2) (F 1 2)
    have m3 := Int.mul_comm (F 0 2) (F 0 1)
    have m4 := Int.mul_comm (F 1 1) (F 0 2)
    have m5 := Int.mul_comm (F 1 2) (F 0 1)
    rintro j l (⟨rfl, rfl⟩ | ⟨rfl, rfl⟩ | ⟨rfl, rfl⟩)
    · rw [h01, h02, h12]; exact ⟨by omega, by omega, by omega⟩
    · rw [h01, h02]; exact ⟨by omega, by omega, by omega⟩
    · rw [h12]; exact ⟨by omega, by omega, by omega⟩
  have col : ∀ i k, (∀ j l, (j = 0 ∧ l = 1) ∨ (j = 0 ∧ l = 2) ∨ (j = 1 ∧ l = 2) → F i j * F k l = F i l * F k j) → ∀ j l, j < 3 → l < 3 → F i j * F k l = F i l * F k j := fun i k h j l hj hl => by
    by_cases e : j = l
    · rw [e]
    · by_cases e' : j < l
      · exact h j l (by omega)
      · exact (h l j (by omega)).symm
  intro i k j l hi hk hj hl
  have sw : ∀ i k, (∀ j l, j < 3 → l < 3 → F i j * F k l = F i l * F k j) → F k j * F i l = F k l * F i j := fun i k h => by
    rw [Int.mul_comm, Int.mul_comm (F k l)]
    exact (h j l hj hl).symm
  have r01 := col 0 1 fun j l h => (c01 j l h).1
  have r02 := col 0 2 fun j l h => (c01 j l h).2.1
  have r12 := col 1 2 fun j l h => (c01 j l h).2.2
  rcases o i hi with rfl | rfl | rfl <;> rcases o k hk with rfl | rfl | rfl
  · exact Int.mul_comm _ _
  · exact r01 j l hj hl
  · exact r02 j l hj hl
  · exact sw 0 1 r01
  · exact Int.mul_comm _ _
  · exact r12 j l hj hl
  · exact sw 0 2 r02
  · exact sw 1 2 r12
  · exact Int.mul_comm _ _
theorem m2_of (F : IMat) (h01 : F 1 0 = F 0 1) (h02 : F 2 0 = F 0 2) (h12 : F 2 1 = F 1 2) (a1 : F 1 1 * F 2 2 - F 1 2 * F 1 2 = 0) (a2 : F 0 0 * F 2 2 - F 0 2 * F 0 2 = 0) (a3 : F 0 0 * F 1 1 - F 0 1 * F 0 1 = 0) (a4 : F 0 2 * F 1 2 - F 0 1 * F 2 2 = 0)
    (a5 : F 0 1 * F 1 2 - F 0 2 * F 1 1 = 0) (a6 : F 0 1 * F 0 2 - F 0 0 * F 1 2 = 0) : M2 3 (QM F) := by
  intro i k j l hi hk hj hl
  have key := m2_int F h01 h02 h12 a1 a2 a3 a4 a5 a6 i k j l hi hk hj hl
  unfold QM
  rw [← Rat.intCast_mul, ← Rat.intCast_mul, key]
theorem m2_s (F : IMat) (h01 : F 1 0 = F 0 1) (h02 : F 2 0 = F 0 2) (h12 : F 2 1 = F 1 2) (h : M2 3 (QM F)) : sI F = 0 := by
  have c : ∀ {x y z w : Int}, (x : Rat) * (y : Rat) = (z : Rat) * (w : Rat) → x * y = z * w := fun h => by
    rw [← Rat.intCast_mul, ← Rat.intCast_mul] at h
    exact Rat.intCast_inj.mp h
  have h1 := c (h 0 1 0 1 (by omega) (by omega) (by omega) (by omega))
  have h2 := c (h 0 2 0 2 (by omega) (by omega) (by omega) (by omega))
  have h3 := c (h 1 2 1 2 (by omega) (by omega) (by omega) (by omega))
  rw [h01] at h1
  rw [h02] at h2
  rw [h12] at h3
  unfold sI s2
  omega
theorem sym_zero {a b c e f g : Int} (hs : s2 a b c e f g = 0) (hd : dt a b c e f g = 0) (ht : a + e + g = 0) : a = 0 ∧ b = 0 ∧ c = 0 ∧ e = 0 ∧ f = 0 ∧ g = 0 := by
  obtain ⟨a1, a2, a3, a4, a5, a6⟩ := adj_zero hs hd
  have z : ∀ x : Int, x * x = 0 → x = 0 := fun x h => by rcases Int.mul_eq_zero.mp h with h | h <;> exact h
  have e1 : a * a + b * b + c * c = a * (a + e + g) - (a * e - b * b) - (a * g - c * c) := by grind
  have e2 : b * b + e * e + f * f = e * (a + e + g) - (a * e - b * b) - (e * g - f * f) := by grind
  have e3 : c * c + f * f + g * g = g * (a + e + g) - (a * g - c * c) - (e * g - f * f) := by grind
  rw [ht, Int.mul_zero] at e1 e2 e3
  have h1 := sqn a
  have h2 := sqn b
  have h3 := sqn c
  have h4 := sqn e
  have h5 := sqn f
  have h6 := sqn g
  rw [a1, a2, a3] at *
  clear a1 a2 a3 a4 a5 a6 hs hd ht
  exact ⟨z _ (by omega), z _ (by omega), z _ (by omega), z _ (by omega), z _ (by omega), z _ (by omega)⟩
theorem adj_col {A R : Nat → Nat → Rat} {i : Nat} {d0 d1 d2 : Rat} (h0 : R i 0 * A 0 0 + R i 1 * A 1 0 + R i 2 * A 2 0 = d0) (h1 : R i 0 * A 0 1 + R i 1 * A 1 1 + R i 2 * A 2 1 = d1) (h2 : R i 0 * A 0 2 + R i 1 * A 1 2 + R i 2 * A 2 2 = d2) :
    dQ A * R i 0 = d0 * (A 1 1 * A 2 2 - A 1 2 * A 2 1) + d1 * (A 1 2 * A 2 0 - A 1 0 * A 2 2) + d2 * (A 1 0 * A 2 1 - A 1 1 * A 2 0) ∧
    dQ A * R i 1 = d0 * (A 0 2 * A 2 1 - A 0 1 * A 2 2) + d1 * (A 0 0 * A 2 2 - A 0 2 * A 2 0) + d2 * (A 0 1 * A 2 0 - A 0 0 * A 2 1) ∧
    dQ A * R i 2 = d0 * (A 0 1 * A 1 2 - A 0 2 * A 1 1) + d1 * (A 0 2 * A 1 0 - A 0 0 * A 1 2) + d2 * (A 0 0 * A 1 1 - A 0 1 * A 1 0) := by
  rw [← h0, ← h1, ← h2]
  unfold dQ
  refine ⟨?_, ?_, ?_⟩ <;> grind
theorem cancel {d x y : Rat} (hd : d ≠ 0) (h : d * x = d * y) : x = y := by
  have : d * (x - y) = 0 := by rw [Rat.sub_eq_add_neg, Rat.mul_add, h, Rat.mul_neg, Rat.add_neg_cancel]
  rcases Rat.mul_eq_zero.mp this with h | h
  · exact absurd h hd
  · grind
/-- the inverse by the parts -/
structure Adj (a b c e f g d : Rat) (R : Nat → Nat → Rat) : Prop where
  r00 : d * R 0 0 = e * g - f * f
  r01 : d * R 0 1 = c * f - b * g
  r02 : d * R 0 2 = b * f - c * e
  r10 : d * R 1 0 = c * f - b * g
  r11 : d * R 1 1 = a * g - c * c
  r12 : d * R 1 2 = b * c - a * f
  r20 : d * R 2 0 = b * f - c * e
  r21 : d * R 2 1 = b * c - a * f
  r22 : d * R 2 2 = a * e - b * b
theorem adj_of {F : IMat} (h01 : F 1 0 = F 0 1) (h02 : F 2 0 = F 0 2) (h12 : F 2 1 = F 1 2) {R : Nat → Nat → Rat} (hR : ∀ i j, i < 3 → j < 3 → R i 0 * QM F 0 j + R i 1 * QM F 1 j + R i 2 * QM F 2 j = if i = j then 1 else 0) : Adj (F 0 0) (F 0 1) (F 0 2) (F 1 1) (F 1 2) (F 2 2) (dQ (QM F)) R := by
  obtain ⟨a1, a2, a3⟩ := adj_col (hR 0 0 (by omega) (by omega)) (hR 0 1 (by omega) (by omega)) (hR 0 2 (by omega) (by omega))
  obtain ⟨b1, b2, b3⟩ := adj_col (hR 1 0 (by omega) (by omega)) (hR 1 1 (by omega) (by omega)) (hR 1 2 (by omega) (by omega))
  obtain ⟨c1, c2, c3⟩ := adj_col (hR 2 0 (by omega) (by omega)) (hR 2 1 (by omega) (by omega)) (hR 2 2 (by omega) (by omega))
  simp only [if_true, reduceCtorEq, Nat.zero_ne_one, Nat.one_ne_zero, if_false, show ¬ (0 : Nat) = 2 by omega, show ¬ (2 : Nat) = 0 by omega, show ¬ (1 : Nat) = 2 by omega, show ¬ (2 : Nat) = 1 by omega] at a1 a2 a3 b1 b2 b3 c1 c2 c3
  have q1 : QM F 1 0 = QM F 0 1 := by unfold QM; rw [h01]
  have q2 : QM F 2 0 = QM F 0 2 := by unfold QM; rw [h02]
  have q3 : QM F 2 1 = QM F 1 2 := by unfold QM; rw [h12]
  rw [q1, q2, q3] at *
  clear q1 q2 q3 hR
  refine ⟨?_, ?_, ?_, ?_, ?_, ?_, ?_, ?_, ?_⟩
  · rw [a1]; unfold QM; (try rw [h01]); (try rw [h02]); (try rw [h12]); clear a1 a2 a3 b1 b2 b3 c1 c2 c3 h01 h02 h12; grind
  · rw [a2]; unfold QM; (try rw [h01]); (try rw [h02]); (try rw [h12]); clear a1 a2 a3 b1 b2 b3 c1 c2 c3 h01 h02 h12; grind
  · rw [a3]; unfold QM; (try rw [h01]); (try rw [h02]); (try rw [h12]); clear a1 a2 a3 b1 b2 b3 c1 c2 c3 h01 h02 h12; grind
  · rw [b1]; unfold QM; (try rw [h01]); (try rw [h02]); (try rw [h12]); clear a1 a2 a3 b1 b2 b3 c1 c2 c3 h01 h02 h12; grind
  · rw [b2]; unfold QM; (try rw [h01]); (try rw [h02]); (try rw [h12]); clear a1 a2 a3 b1 b2 b3 c1 c2 c3 h01 h02 h12; grind
  · rw [b3]; unfold QM; (try rw [h01]); (try rw [h02]); (try rw [h12]); clear a1 a2 a3 b1 b2 b3 c1 c2 c3 h01 h02 h12; grind
  · rw [c1]; unfold QM; (try rw [h01]); (try rw [h02]); (try rw [h12]); clear a1 a2 a3 b1 b2 b3 c1 c2 c3 h01 h02 h12; grind
  · rw [c2]; unfold QM; (try rw [h01]); (try rw [h02]); (try rw [h12]); clear a1 a2 a3 b1 b2 b3 c1 c2 c3 h01 h02 h12; grind
  · rw [c3]; unfold QM; (try rw [h01]); (try rw [h02]); (try rw [h12]); clear a1 a2 a3 b1 b2 b3 c1 c2 c3 h01 h02 h12; grind
theorem poly_s (a b c e f g d : Rat) (h : d = a * (e * g - f * f) - b * (b * g - f * c) + c * (b * f - e * c)) : ((e * g - f * f) * (a * g - c * c) - (c * f - b * g) * (c * f - b * g)) + ((e * g - f * f) * (a * e - b * b) - (b * f - c * e) * (b * f - c * e)) + ((a * g - c * c) * (a * e - b * b) - (b * c - a * f) * (b * c - a * f)) = d * (a + e + g) := by
  rw [h]; clear h; grind
theorem poly_d (a b c e f g d : Rat) (h : d = a * (e * g - f * f) - b * (b * g - f * c) + c * (b * f - e * c)) : (e * g - f * f) * ((a * g - c * c) * (a * e - b * b) - (b * c - a * f) * (b * c - a * f)) - (c * f - b * g) * ((c * f - b * g) * (a * e - b * b) - (b * c - a * f) * (b * f - c * e)) + (b * f - c * e) * ((c * f - b * g) * (b * c - a * f) - (a * g - c * c) * (b * f - c * e)) = d * (d * 1) := by
  have h1 : (a * g - c * c) * (a * e - b * b) - (b * c - a * f) * (b * c - a * f) = a * d := by rw [h]; clear h; grind
  have h2 : (c * f - b * g) * (a * e - b * b) - (b * c - a * f) * (b * f - c * e) = -(b * d) := by rw [h]; clear h h1; grind
  have h3 : (c * f - b * g) * (b * c - a * f) - (a * g - c * c) * (b * f - c * e) = c * d := by rw [h]; clear h h1 h2; grind
  rw [h1, h2, h3]
  clear h1 h2 h3
  have : (e * g - f * f) * (a * d) - (c * f - b * g) * -(b * d) + (b * f - c * e) * (c * d) = (a * (e * g - f * f) - b * (b * g - f * c) + c * (b * f - e * c)) * d := by clear h; grind
  rw [this, ← h, Rat.mul_one]
theorem poly_t (a b c e f g d p q r : Rat) (h1 : d * p = e * g - f * f) (h2 : d * q = a * g - c * c) (h3 : d * r = a * e - b * b) : d * (p + q + r) = (a * e - b * b) + (a * g - c * c) + (e * g - f * f) := by
  rw [Rat.mul_add, Rat.mul_add, h1, h2, h3]; clear h1 h2 h3; grind
theorem poly_n (a b c e f g d x y z : Rat) : d + (x * ((e * g - f * f) * x + (c * f - b * g) * y + (b * f - c * e) * z) + y * ((c * f - b * g) * x + (a * g - c * c) * y + (b * c - a * f) * z) + z * ((b * f - c * e) * x + (b * c - a * f) * y + (a * e - b * b) * z)) =
    d + ((e * g - f * f) * (x * x) + (a * g - c * c) * (y * y) + (a * e - b * b) * (z * z) + 2 * ((c * f - b * g) * (x * y) + (b * f - c * e) * (x * z) + (b * c - a * f) * (y * z))) := by grind
theorem poly_m (d x y z p00 p01 p02 p10 p11 p12 p20 p21 p22 : Rat) : d * (1 + (x * (p00 * x + p01 * y + p02 * z) + y * (p10 * x + p11 * y + p12 * z) + z * (p20 * x + p21 * y + p22 * z))) = d + (x * ((d * p00) * x + (d * p01) * y + (d * p02) * z) + y * ((d * p10) * x + (d * p11) * y + (d * p12) * z) + z * ((d * p20) * x + (d * p21) * y + (d * p22) * z)) := by grind
theorem poly_ss (d : Rat) (R : Nat → Nat → Rat) : d * (d * sQ R) = ((d * R 0 0) * (d * R 1 1) - (d * R 0 1) * (d * R 1 0)) + ((d * R 0 0) * (d * R 2 2) - (d * R 0 2) * (d * R 2 0)) + ((d * R 1 1) * (d * R 2 2) - (d * R 1 2) * (d * R 2 1)) := by unfold sQ; grind
theorem poly_dd (d : Rat) (R : Nat → Nat → Rat) : d * (d * (d * dQ R)) = (d * R 0 0) * ((d * R 1 1) * (d * R 2 2) - (d * R 1 2) * (d * R 2 1)) - (d * R 0 1) * ((d * R 1 0) * (d * R 2 2) - (d * R 1 2) * (d * R 2 0)) + (d * R 0 2) * ((d * R 1 0) * (d * R 2 1) - (d * R 1 1) * (d * R 2 0)) := by unfold dQ; grind
noncomputable def Mid3 (D1 t s d : Int) : Prop := (D1 = 0 ∧ d ≠ 0) ∨ (D1 = 1 ∧ d = 0 ∧ s ≠ 0) ∨ (D1 = 2 ∧ d = 0 ∧ s = 0 ∧ t ≠ 0) ∨ (D1 = 3 ∧ d = 0 ∧ s = 0 ∧ t = 0)
theorem Mid3.m0 {D1 t s d : Int} (h : Mid3 D1 t s d) (hd : d ≠ 0) : D1 = 0 := by unfold Mid3 at h; omega
theorem Mid3.m1 {D1 t s d : Int} (h : Mid3 D1 t s d) (hd : d = 0) (hs : s ≠ 0) : D1 = 1 := by unfold Mid3 at h; omega
theorem Mid3.m2 {D1 t s d : Int} (h : Mid3 D1 t s d) (hd : d = 0) (hs : s = 0) (ht : t ≠ 0) : D1 = 2 := by unfold Mid3 at h; omega
theorem Mid3.m3 {D1 t s d : Int} (h : Mid3 D1 t s d) (hd : d = 0) (hs : s = 0) (ht : t = 0) : D1 = 3 := by unfold Mid3 at h; omega
theorem Mid3.pos {D1 t s d : Int} (h : Mid3 D1 t s d) : 0 < D1 ↔ d = 0 := by unfold Mid3 at h; omega
theorem Mid3.le {D1 t s d : Int} (h : Mid3 D1 t s d) (hl : D1 ≤ 0) : d ≠ 0 := fun e => by have := h.pos.mpr e; omega
theorem below {d s : Int} (h : d < 0) : (0 ≤ d * s ↔ s ≤ 0) ∧ (d * s ≤ 0 ↔ 0 ≤ s) := by have := mul_sgn' (x := s) h; omega
theorem aboveZ {d s : Int} (h : 0 < d) : 0 < d * s ↔ 0 < s := by have := mul_sgn (x := s) h; omega
theorem core3 (F : IMat) (h01 : F 1 0 = F 0 1) (h02 : F 2 0 = F 0 2) (h12 : F 2 1 = F 1 2) (v : Nat → Int) {D0 D1 D2 L0 L1 L2 : Int} (hD : T3 (tI F) (sI F) (dI F) = [D0, D1, D2]) (hL : T3 (tI (moreF F v)) (sI (moreF F v)) (dI (moreF F v)) = [L0, L1, L2]) :
    ((((ech 3 (QM F) 3).2.length : Nat) : Int) = (3 : Nat) - D1) ∧ (invOk 3 (QM F) = !decide (0 < D1)) ∧ (D1 ≤ 0 → told 3 (invF 3 (QM F)) = [D0, D1, D2]) ∧
    (D1 ≤ 0 → decide (0 < (numQ 3 F v).num + (numQ 3 F v).den) = decide ([L0, L1, L2] = [D0, D1, D2])) ∧ (D1 ≤ 0 → ((numQ 3 F v).num + (numQ 3 F v).den == 0) = decide (0 < L1)) := by
  have mD : Mid3 D1 (tI F) (sI F) (dI F) := t3_mid hD
  have mL : Mid3 L1 (tI (moreF F v)) (sI (moreF F v)) (dI (moreF F v)) := t3_mid hL
  have dd := dQ_int F h01 h02 h12
  have hinv := inv3 (QM F)
  rw [dd, Ne, cast0] at hinv
  have zz : Zr 3 (QM F) → F 0 0 = 0 ∧ F 0 1 = 0 ∧ F 0 2 = 0 ∧ F 1 1 = 0 ∧ F 1 2 = 0 ∧ F 2 2 = 0 := fun h => ⟨cast0.mp (h 0 0 (by omega) (by omega)), cast0.mp (h 0 1 (by omega) (by omega)), cast0.mp (h 0 2 (by omega) (by omega)), cast0.mp (h 1 1 (by omega) (by omega)), cast0.mp (h 1 2 (by omega) (by omega)), cast0.mp (h 2 2 (by omega) (by omega))⟩
  have zz' : F 0 0 = 0 → F 0 1 = 0 → F 0 2 = 0 → F 1 1 = 0 → F 1 2 = 0 → F 2 2 = 0 → Zr 3 (QM F) := fun a b c e f g i j hi hj => by
    have o : ∀ n, n < 3 → n = 0 ∨ n = 1 ∨ n = 2 := fun n hn => by omega
    refine cast0.mpr ?_
    rcases o i hi with rfl | rfl | rfl <;> rcases o j hj with rfl | rfl | rfl <;> simp [a, b, c, e, f, g, h01, h02, h12]
  have adj : dI F ≠ 0 → Adj (F 0 0) (F 0 1) (F 0 2) (F 1 1) (F 1 2) (F 2 2) ((dI F : Int) : Rat) (invF 3 (QM F)) := fun hne => by
    rcases hinv with ⟨h, _⟩ | ⟨_, _, hR⟩
    · exact absurd h hne
    · have := adj_of h01 h02 h12 hR
      rw [dd] at this
      exact this
  have dne : dI F ≠ 0 → ((dI F : Int) : Rat) ≠ 0 := fun h e => h (cast0.mp e)
  have num : dI F ≠ 0 → Sg ((numQ 3 F v).num + (numQ 3 F v).den) (dI F * dI (moreF F v)) := fun hne => by
    have J := adj hne
    refine rsg1 hne ?_
    have e1 : dI (moreF F v) = dI F + Q3 (F 0 0) (F 0 1) (F 0 2) (F 1 1) (F 1 2) (F 2 2) (v 0) (v 1) (v 2) := dt_more ..
    rw [e1, Rat.intCast_add]
    clear e1
    unfold numQ
    simp only [mulF, dot3]
    generalize invF 3 (QM F) = R at *
    obtain ⟨j00, j01, j02, j10, j11, j12, j20, j21, j22⟩ := J
    generalize ((dI F : Int) : Rat) = d at *
    unfold Q3
    simp only [Rat.intCast_sub, Rat.intCast_mul, Rat.intCast_add]
    have e2 : ((2 : Int) : Rat) = 2 := rfl
    rw [poly_m, j00, j01, j02, j10, j11, j12, j20, j21, j22, e2]
    exact poly_n ..
  refine ⟨?_, ?_, fun h1 => ?_, fun h1 => ?_, fun h1 => ?_⟩
  · have r := rank3 (QM F)
    rw [dd, Ne, cast0] at r
    have m2 : sI F = 0 → dI F = 0 → M2 3 (QM F) := fun hs hd => by
      obtain ⟨a1, a2, a3, a4, a5, a6⟩ := adj_zero hs hd
      exact m2_of F h01 h02 h12 a1 a2 a3 a4 a5 a6
    rcases r with ⟨e, hne⟩ | ⟨e, hd, hm⟩ | ⟨e, hd, hm, hz⟩ | ⟨e, hz⟩
    · rw [e, mD.m0 hne]; rfl
    · rw [e, mD.m1 hd fun hs => hm (m2 hs hd)]; rfl
    · have hs := m2_s F h01 h02 h12 hm
      have ht : tI F ≠ 0 := fun ht => by
        obtain ⟨a, b, c, e, f, g⟩ := sym_zero hs hd ht
        exact hz (zz' a b c e f g)
      rw [e, mD.m2 hd hs ht]; rfl
    · obtain ⟨a, b, c, e', f, g⟩ := zz hz
      have hd : dI F = 0 := by unfold dI dt; rw [a, b, c]; simp
      have hs : sI F = 0 := by unfold sI s2; rw [a, b, c, e', f, g]; simp
      have ht : tI F = 0 := by unfold tI; rw [a, e', g]; simp
      rw [e, mD.m3 hd hs ht]; rfl
  · rcases hinv with ⟨h, e⟩ | ⟨h, e, _⟩
    · rw [e, decide_eq_true (mD.pos.mpr h)]; rfl
    · rw [e, decide_eq_false (fun h' => h (mD.pos.mp h'))]; rfl
  · have hne : dI F ≠ 0 := mD.le h1
    have J := adj hne
    have hd := dne hne
    rw [told3]
    generalize invF 3 (QM F) = R at *
    obtain ⟨j00, j01, j02, j10, j11, j12, j20, j21, j22⟩ := J
    have ed : ((dI F : Int) : Rat) = dQ (QM F) := dd.symm
    have t0 : ((dI F : Int) : Rat) * tQ R = ((sI F : Int) : Rat) := by
      unfold tQ sI s2
      simp only [Rat.intCast_sub, Rat.intCast_mul, Rat.intCast_add]
      exact poly_t _ _ _ _ _ _ _ _ _ _ j00 j11 j22
    have dI_eq : ((dI F : Int) : Rat) = (F 0 0 : Rat) * ((F 1 1 : Rat) * (F 2 2 : Rat) - (F 1 2 : Rat) * (F 1 2 : Rat)) - (F 0 1 : Rat) * ((F 0 1 : Rat) * (F 2 2 : Rat) - (F 1 2 : Rat) * (F 0 2 : Rat)) + (F 0 2 : Rat) * ((F 0 1 : Rat) * (F 1 2 : Rat) - (F 1 1 : Rat) * (F 0 2 : Rat)) := by
      unfold dI dt
      simp only [Rat.intCast_sub, Rat.intCast_mul, Rat.intCast_add]
    have s0 : ((dI F : Int) : Rat) * sQ R = ((tI F : Int) : Rat) := by
      refine cancel hd ?_
      rw [poly_ss, j00, j01, j02, j10, j11, j12, j20, j21, j22]
      unfold tI
      simp only [Rat.intCast_add]
      exact poly_s _ _ _ _ _ _ _ dI_eq
    have d0 : ((dI F : Int) : Rat) * dQ R = ((1 : Int) : Rat) := by
      refine cancel hd (cancel hd ?_)
      have e2 : ((1 : Int) : Rat) = 1 := rfl
      rw [poly_dd, j00, j01, j02, j10, j11, j12, j20, j21, j22, e2]
      exact poly_d _ _ _ _ _ _ _ dI_eq
    rw [t3_congr (rsg hne t0) (rsg hne s0) (rsg hne d0), ← hD, Int.mul_one]
    generalize dI F = d at *
    generalize tI F = t at *
    generalize sI F = s at *
    rcases Int.lt_trichotomy d 0 with h | h | h
    · rw [t3_dneg h, t3_dneg h, ite_same (by decide), (below h).1, (below h).2]
      exact And.comm
    · exact absurd h hne
    · rw [t3_dpos h, t3_dpos h, ite_same (by decide), aboveZ h, aboveZ h]
      exact And.comm
  · have hne : dI F ≠ 0 := mD.le h1
    have sn := num hne
    rw [← hD, ← hL]
    have k := above3 (a := F 0 0) (b := F 0 1) (c := F 0 2) (e := F 1 1) (f := F 1 2) (g := F 2 2) (x := v 0) (y := v 1) (z := v 2) hne
    have : (0 < (numQ 3 F v).num + (numQ 3 F v).den) ↔ (T3 (tI (moreF F v)) (sI (moreF F v)) (dI (moreF F v)) = T3 (tI F) (sI F) (dI F)) := sn.1.trans k.symm
    simp only [this]
  · have hne : dI F ≠ 0 := mD.le h1
    have sn := num hne
    have : ((numQ 3 F v).num + (numQ 3 F v).den = 0) ↔ 0 < L1 := by
      rw [sn.zero, Int.mul_eq_zero, mL.pos]
      exact ⟨fun h => h.resolve_left hne, .inr⟩
    rw [Bool.eq_iff_iff]
    simp [this]
end Mine
end

section
set_option maxHeartbeats 4000000
namespace Mine
theorem facts3a (F : IMat) (h01 : F 1 0 = F 0 1) (h02 : F 2 0 = F 0 2) (h12 : F 2 1 = F 1 2) (v : Nat → Int) : ∃ D0 D1 D2 L0 L1 L2 x y z, Facts 3 1 F v D0 D1 D2 L0 L1 L2 x y z := by
  have m01 : moreF F v 1 0 = moreF F v 0 1 := more_sym h01
  have m02 : moreF F v 2 0 = moreF F v 0 2 := more_sym h02
  have m12 : moreF F v 2 1 = moreF F v 1 2 := more_sym h12
  have eD := sig3 F h01 h02 h12
  have eL := sig3 (moreF F v) m01 m02 m12
  have tD := toldI3 F h01 h02 h12
  have tL := toldI3 (moreF F v) m01 m02 m12
  have eS := sig1 F
  obtain ⟨D0, D1, D2, hD⟩ := t3_shape (tI F) (sI F) (dI F)
  obtain ⟨L0, L1, L2, hL⟩ := t3_shape (tI (moreF F v)) (sI (moreF F v)) (dI (moreF F v))
  obtain ⟨x, y, z, hS⟩ := t1_shape (F 0 0)
  have mS := mid1_pos (t1_mid hS)
  obtain ⟨c1, c2, c3, c4, c5⟩ := core3 F h01 h02 h12 v hD hL
  refine ⟨D0, D1, D2, L0, L1, L2, x, y, z, eD.trans hD, tD.trans (eD.trans hD), c1, c2, eS.trans hS, ?_, fun hok => ?_, eL.trans hL, tL.trans (eL.trans hL), c3, c4, c5⟩
  · rcases inv1 (QM F) with ⟨h, e⟩ | ⟨h, e, _⟩
    · rw [e, decide_eq_true (mS.mpr (cast0.mp h))]; rfl
    · rw [e, decide_eq_false (fun h' => h (cast0.mpr (mS.mp h')))]; rfl
  · rcases inv1 (QM F) with ⟨h, e⟩ | ⟨h, e, hm⟩
    · rw [hok] at e; cases e
    · have ha : F 0 0 ≠ 0 := fun e' => h (cast0.mpr e')
      show told 2 (schurF 3 1 F) = _
      have hm' : (F 0 0 : Rat) * invF 1 (fun i j => (F i j : Rat)) 0 0 = 1 := by rw [Rat.mul_comm]; exact hm
      have en : ((-1 : Int) : Rat) = -1 := rfl
      have sc : ∀ i j, (F 0 0 : Rat) * schurF 3 1 F i j = (F 0 0 : Rat) * (F (1 + i) (1 + j) : Rat) - (F 0 (1 + i) : Rat) * (F 0 (1 + j) : Rat) := fun i j => by
        unfold schurF
        simp only [mulF, dot1]
        rw [en]
        generalize invF 1 (fun i j => (F i j : Rat)) 0 0 = r at *
        grind
      have s00 := sc 0 0
      have s01 := sc 0 1
      have s10 := sc 1 0
      have s11 := sc 1 1
      simp only [Nat.add_zero, show 1 + 1 = 2 from rfl] at s00 s01 s10 s11
      rw [h12] at s10
      have t0 : (F 0 0 : Rat) * (schurF 3 1 F 0 0 + schurF 3 1 F 1 1) = ((Pp (F 0 0) (F 0 1) (F 0 2) (F 1 1) (F 1 2) (F 2 2) : Int) : Rat) := by
        unfold Pp
        simp only [Rat.intCast_sub, Rat.intCast_mul, Rat.intCast_add]
        rw [Rat.mul_add, s00, s11]
      have hz : (F 0 0 : Rat) ≠ 0 := h
      have t1 : (F 0 0 : Rat) * (schurF 3 1 F 0 0 * schurF 3 1 F 1 1 - schurF 3 1 F 0 1 * schurF 3 1 F 1 0) = ((dI F : Int) : Rat) := by
        refine cancel hz ?_
        have e1 : (F 0 0 : Rat) * ((F 0 0 : Rat) * (schurF 3 1 F 0 0 * schurF 3 1 F 1 1 - schurF 3 1 F 0 1 * schurF 3 1 F 1 0)) = ((F 0 0 : Rat) * schurF 3 1 F 0 0) * ((F 0 0 : Rat) * schurF 3 1 F 1 1) - ((F 0 0 : Rat) * schurF 3 1 F 0 1) * ((F 0 0 : Rat) * schurF 3 1 F 1 0) := by grind
        rw [e1, s00, s01, s10, s11]
        unfold dI dt
        simp only [Rat.intCast_sub, Rat.intCast_mul, Rat.intCast_add]
        grind
      rw [told2, t2_congr (rsg ha t0) ((rsg ha t1).trans ((Sg.mul (sqp ha)).symm.trans (by rw [Int.mul_assoc]; exact Sg.refl _)))]
      have k := t3_of (a := F 0 0) (b := F 0 1) (c := F 0 2) (e := F 1 1) (f := F 1 2) (g := F 2 2) ha
      have hD' : T3 (F 0 0 + F 1 1 + F 2 2) (s2 (F 0 0) (F 0 1) (F 0 2) (F 1 1) (F 1 2) (F 2 2)) (dt (F 0 0) (F 0 1) (F 0 2) (F 1 1) (F 1 2) (F 2 2)) = [D0, D1, D2] := hD
      rw [hD'] at k
      exact addL_less (t2_shape _ _) ha k hS
theorem plus_less {l m : List Int} {D0 D1 D2 x y z : Int} (hm : ∃ u v w, m = [u, v, w]) (h : plusL l m = [D0, D1, D2]) (hl : l = [x, y, z]) : m = [D0 - x, D1 - y, D2 - z] := by
  obtain ⟨u, v, w, rfl⟩ := hm
  subst hl
  unfold plusL at h
  simp at h
  simp
  omega
theorem facts3b (F : IMat) (h01 : F 1 0 = F 0 1) (h02 : F 2 0 = F 0 2) (h12 : F 2 1 = F 1 2) (v : Nat → Int) : ∃ D0 D1 D2 L0 L1 L2 x y z, Facts 3 2 F v D0 D1 D2 L0 L1 L2 x y z := by
  have m01 : moreF F v 1 0 = moreF F v 0 1 := more_sym h01
  have m02 : moreF F v 2 0 = moreF F v 0 2 := more_sym h02
  have m12 : moreF F v 2 1 = moreF F v 1 2 := more_sym h12
  have eD := sig3 F h01 h02 h12
  have eL := sig3 (moreF F v) m01 m02 m12
  have tD := toldI3 F h01 h02 h12
  have tL := toldI3 (moreF F v) m01 m02 m12
  have eS := sig2 F h01
  obtain ⟨D0, D1, D2, hD⟩ := t3_shape (tI F) (sI F) (dI F)
  obtain ⟨L0, L1, L2, hL⟩ := t3_shape (tI (moreF F v)) (sI (moreF F v)) (dI (moreF F v))
  obtain ⟨x, y, z, hS⟩ := t2_shape (F 0 0 + F 1 1) (F 0 0 * F 1 1 - F 0 1 * F 0 1)
  have mS : Mid2 y _ _ := t2_mid hS
  obtain ⟨c1, c2, c3, c4, c5⟩ := core3 F h01 h02 h12 v hD hL
  have dd : d2 (QM F) = ((F 0 0 * F 1 1 - F 0 1 * F 0 1 : Int) : Rat) := by
    unfold d2 QM
    rw [h01]
    simp only [Rat.intCast_sub, Rat.intCast_mul]
  have hinv := inv2 (QM F)
  rw [dd, Ne, cast0] at hinv
  refine ⟨D0, D1, D2, L0, L1, L2, x, y, z, eD.trans hD, tD.trans (eD.trans hD), c1, c2, eS.trans hS, ?_, fun hok => ?_, eL.trans hL, tL.trans (eL.trans hL), c3, c4, c5⟩
  · rcases hinv with ⟨h, e⟩ | ⟨h, e, _⟩
    · rw [e, decide_eq_true (mS.pos.mpr h)]; rfl
    · rw [e, decide_eq_false (fun h' => h (mS.pos.mp h'))]; rfl
  · rcases hinv with ⟨h, e⟩ | ⟨hq, e, hR⟩
    · rw [hok] at e; cases e
    · show told 1 (schurF 3 2 F) = _
      have r00 := hR 0 0 (by omega) (by omega)
      have r01 := hR 0 1 (by omega) (by omega)
      have r10 := hR 1 0 (by omega) (by omega)
      have r11 := hR 1 1 (by omega) (by omega)
      simp only [if_true, reduceCtorEq, Nat.zero_ne_one, Nat.one_ne_zero, if_false] at r00 r01 r10 r11
      unfold QM at r00 r01 r10 r11
      rw [h01] at r00 r10
      have e0 : ((F 0 0 * F 1 1 - F 0 1 * F 0 1 : Int) : Rat) * schurF 3 2 F 0 0 = ((dI F : Int) : Rat) := by
        unfold schurF
        simp only [mulF, dot2, Nat.add_zero]
        have en : ((-1 : Int) : Rat) = -1 := rfl
        rw [en]
        generalize invF 2 (fun i j => (F i j : Rat)) = R at *
        simp only [Rat.intCast_sub, Rat.intCast_mul]
        have q00 : ((F 0 0 : Rat) * (F 1 1 : Rat) - (F 0 1 : Rat) * (F 0 1 : Rat)) * R 0 0 = F 1 1 := by grind
        have q01 : ((F 0 0 : Rat) * (F 1 1 : Rat) - (F 0 1 : Rat) * (F 0 1 : Rat)) * R 0 1 = -F 0 1 := by grind
        have q10 : ((F 0 0 : Rat) * (F 1 1 : Rat) - (F 0 1 : Rat) * (F 0 1 : Rat)) * R 1 0 = -F 0 1 := by grind
        have q11 : ((F 0 0 : Rat) * (F 1 1 : Rat) - (F 0 1 : Rat) * (F 0 1 : Rat)) * R 1 1 = F 0 0 := by grind
        clear r00 r01 r10 r11 hR
        have e1 : ((F 0 0 : Rat) * (F 1 1 : Rat) - (F 0 1 : Rat) * (F 0 1 : Rat)) * ((F 2 2 : Rat) + ((F 0 2 : Rat) * (R 0 0 * (F 0 2 : Rat) + R 0 1 * (F 1 2 : Rat)) + (F 1 2 : Rat) * (R 1 0 * (F 0 2 : Rat) + R 1 1 * (F 1 2 : Rat))) * -1) =
          ((F 0 0 : Rat) * (F 1 1 : Rat) - (F 0 1 : Rat) * (F 0 1 : Rat)) * (F 2 2 : Rat) - ((F 0 2 : Rat) * ((((F 0 0 : Rat) * (F 1 1 : Rat) - (F 0 1 : Rat) * (F 0 1 : Rat)) * R 0 0) * (F 0 2 : Rat) + (((F 0 0 : Rat) * (F 1 1 : Rat) - (F 0 1 : Rat) * (F 0 1 : Rat)) * R 0 1) * (F 1 2 : Rat)) + (F 1 2 : Rat) * ((((F 0 0 : Rat) * (F 1 1 : Rat) - (F 0 1 : Rat) * (F 0 1 : Rat)) * R 1 0) * (F 0 2 : Rat) + (((F 0 0 : Rat) * (F 1 1 : Rat) - (F 0 1 : Rat) * (F 0 1 : Rat)) * R 1 1) * (F 1 2 : Rat))) := by
          clear q00 q01 q10 q11
          generalize ((F 0 0 : Rat) * (F 1 1 : Rat) - (F 0 1 : Rat) * (F 0 1 : Rat)) = q
          grind
        rw [e1, q00, q01, q10, q11]
        unfold dI dt
        simp only [Rat.intCast_sub, Rat.intCast_mul, Rat.intCast_add]
        clear e1 q00 q01 q10 q11
        grind
      rw [told1, t1_congr (rsg hq e0)]
      have k := corner (a := F 0 0) (b := F 0 1) (c := F 0 2) (e := F 1 1) (f := F 1 2) (g := F 2 2) hq
      have hD' : T3 (F 0 0 + F 1 1 + F 2 2) (s2 (F 0 0) (F 0 1) (F 0 2) (F 1 1) (F 1 2) (F 2 2)) (dt (F 0 0) (F 0 1) (F 0 2) (F 1 1) (F 1 2) (F 2 2)) = [D0, D1, D2] := hD
      rw [hD'] at k
      exact plus_less (t1_shape _) k.symm hS
theorem all_facts (n s : Nat) (F : IMat) (v : Nat → Int) (hn : n = 2 ∨ n = 3) (hs : 0 < s) (hsn : s < n) (SY : SymB n F) (hv : ∀ i, i < n → (v i).natAbs ≤ 2) : ∃ D0 D1 D2 L0 L1 L2 x y z, Facts n s F v D0 D1 D2 L0 L1 L2 x y z := by
  rcases hn with rfl | rfl
  · have : s = 1 := by omega
    subst this
    exact facts2 F (SY 1 0 (by omega) (by omega)).1 v
  · have h01 := (SY 1 0 (by omega) (by omega)).1
    have h02 := (SY 2 0 (by omega) (by omega)).1
    have h12 := (SY 2 1 (by omega) (by omega)).1
    have : s = 1 ∨ s = 2 := by omega
    rcases this with rfl | rfl
    · exact facts3a F h01 h02 h12 v
    · exact facts3b F h01 h02 h12 v
end Mine
end

section
open PySem PySem.W PyProof.Rows
set_option maxRecDepth 100000
set_option maxHeartbeats 4000000
namespace Mine
/-- the first call, from a place of any kind -/
theorem call_def_top {B : Base} {d : Nat} {σ : Store} {name : Str} {params : Arguments} {body : List Stmt} {scope : Scope} {a : Addr} {names : List Str} {ps : List PV} {P : VPost} (D : DefAt B name params body scope a) (S : DefScope scope)
    (hk' : (names.all fun x => scope.names.lookup x == some .local || scope.names.lookup x == some .cell) = true)
    (hb' : ∀ pm code doc vs, vs.length = names.length → bindArgs (Calls.docDef name params body scope pm code doc) ⟨vs, []⟩ = pure (names.zip vs)) (hl : names.length = ps.length)
    (h : Ex B d (kapOf scope) (bindE (names.zip ps)) σ body fun fl _ σ' => ∃ p, (fl = .ret p ∨ (fl = .next ∧ p = .none)) ∧ P p σ')
    (A : Around) (g : Gh) (s : Shared) (vs : List Value) (Q : Value → Shared → Prop) (hroom : A.depth < recursionLimit) (hA : ∀ env : Env, env.scope.isGenerator = false → env.scope.isCoroutine = false → env.builtins = builtinsNs → env.globals = mainGlobals → AOk (A.deeper env) d)
    (hI : HInv g σ s.heap) (hp : Prot B g s.heap) (hv : VRels g ps vs) (hQ : VCont g s P Q) : wpAny (model B.prog B.w) A (call (.ref a) vs) Q Nay s := by
  have hk : ∀ x ∈ names.zip ps, scope.names.lookup x.1 = some .local ∨ scope.names.lookup x.1 = some .cell := fun x hx => by
    have := List.all_eq_true.mp hk' x.1 (List.of_mem_zip hx).1
    simpa using this
  have hb : ∀ pm code doc vs, vs.length = (names.zip ps).length → bindArgs (Calls.docDef name params body scope pm code doc) ⟨vs, []⟩ = pure (((names.zip ps).map (·.1)).zip vs) := fun pm code doc vs hv => by
    rw [zip_fst hl]
    exact hb' pm code doc vs (by rw [hv, List.length_zip]; omega)
  rw [← zip_snd hl] at hv
  generalize names.zip ps = binds at hk hb h hv
  obtain ⟨o, pm, code, doc, ho, hd, hcd⟩ := D.obj
  have hvl : vs.length = binds.length := by rw [hv.length, List.length_map]
  refine wpAny_call (codeAny_call_cells (fd := Calls.docDef name params body scope pm code doc) (binds := (binds.map (·.1)).zip vs) hroom (hp.keeps _ _ ho) hd (B.top.nolimit.keeps hp.keeps) (hcd.keeps hp.keeps) rfl (hb pm code doc vs hvl) rfl ?_ ?_ S.noco S.nogen S.kind)
  · intro x hx
    have hx1 : x.1 ∈ binds.map (·.1) := (List.of_mem_zip hx).1
    obtain ⟨y, hy, hyx⟩ := List.mem_map.mp hx1
    rcases hk y hy with e | e
    · left; rw [← hyx]; exact e
    · right
      refine ⟨by rw [← hyx]; exact e, ?_⟩
      rw [cellsFrom_lookup]
      obtain ⟨c, hc⟩ := newAddr_some (n := s.heap.objs.size + 1) (mem_of_lookup e)
      rw [← hyx]
      show ((newAddr y.1 (s.heap.objs.size + 1) scope.names).or _).isSome = true
      rw [hc]; rfl
  · intro s₁ hC
    have kap : ∀ x, (callEnvC (Calls.docDef name params body scope pm code doc) s.heap.objs.size a).kindOf x = kapOf scope x := fun x => rfl
    have cells : ∀ x, (callEnvC (Calls.docDef name params body scope pm code doc) s.heap.objs.size a).cells.lookup x = newAddr x (s.heap.objs.size + 1) scope.names := fun x => by
      show (cellsFrom (s.heap.objs.size + 1) scope.names []).lookup x = _
      rw [cellsFrom_lookup]
      simp
    obtain ⟨h₁, t₁, rfl⟩ := hC.toInCall.same
    have keep := hC.toInCall.keep
    have fresh : ∀ c, s.heap.objs.size ≤ c → s.heap.get? c = none := fun c hc => Heap.get?_none_of_le hc
    have off : ∀ c, s.heap.objs.size ≤ c → c ∉ g.rho := fun c hc => hI.off (fresh c hc)
    obtain ⟨b1, b2, b3⟩ := bindE_run (κ := kapOf scope) (g := g) (binds := binds) (vs := vs) (ε := fun _ => none) (mL := fun _ => none) (mC := fun _ => none) hv hk (fun x p hx => nomatch hx) (fun x p hx => nomatch hx) (fun x p hx => nomatch hx)
    have R : EnvRel (kapOf scope) (callEnvC (Calls.docDef name params body scope pm code doc) s.heap.objs.size a) (bindE binds) g h₁ := by
      refine ⟨S.kind, rfl, rfl, kap, ⟨_, hC.toInCall.ns, b1⟩, fun x hx => ?_, off _ (Nat.le_refl _), fun x c hc => ?_, fun x y c hx hy => ?_, fun x p hx => (b3 x p hx).imp id .inl⟩
      · have hxc : scope.names.lookup x = some .cell := by
          rcases hx with hx | hx
          · exact hx
          · exact absurd rfl (S.nofree _ (mem_of_lookup hx))
        obtain ⟨c, hc⟩ := newAddr_some (n := s.heap.objs.size + 1) (mem_of_lookup hxc)
        have hc' := (cells x).trans hc
        exact ⟨c, _, hc', hC.cell x c hc', fun p hp => b2 x p hp hxc⟩
      · have := hC.above x c (mem_of_lookup hc)
        have hlt : s.heap.objs.size < c := this
        exact ⟨off c (Nat.le_of_lt hlt), Ne.symm (Nat.ne_of_lt hlt), _, hC.cell x c hc⟩
      · rw [cells] at hx hy
        exact newAddr_inj hx hy
    have O : EnvOff B (callEnvC (Calls.docDef name params body scope pm code doc) s.heap.objs.size a) := by
      refine ⟨?_, fun x c hc => ?_⟩
      · cases e : B.hb.get? (callEnvC (Calls.docDef name params body scope pm code doc) s.heap.objs.size a).locals with
        | none => rfl
        | some o => have := hp.keeps _ _ e; rw [show s.heap.get? (callEnvC (Calls.docDef name params body scope pm code doc) s.heap.objs.size a).locals = none from fresh _ (Nat.le_refl _)] at this; cases this
      · cases e : B.hb.get? c with
        | none => rfl
        | some o =>
          have hlt : s.heap.objs.size < c := hC.above x c (mem_of_lookup hc)
          have := hp.keeps _ _ e; rw [fresh c (Nat.le_of_lt hlt)] at this; cases this
    refine noted_nay (env := envK scope) (h (A.deeper _) g _ { s with heap := h₁, toks := t₁ } _ (hA _ S.nogen S.noco rfl rfl) (hI.grow keep) (fun x o e => ⟨keep _ _ (hp x o e).1, (hp x o e).2⟩) R O fun fl ε' σ' f g' h' tk' H l I k R' r => ?_)
    obtain ⟨p, hfl, hP⟩ := H
    have fin : ∀ v, VRel g' p v → Q v { s with heap := h', toks := tk' } := fun v hv' => by
      refine hQ p σ' v g' h' tk' hP l I (fun b o e nb => ?_) hv'
      have hlt := Heap.lt_size e
      refine k b o (keep b o e) nb (Nat.ne_of_lt hlt) fun y hy => ?_
      have : s.heap.objs.size < b := hC.above y b (mem_of_lookup hy)
      exact absurd this (Nat.not_lt.mpr (Nat.le_of_lt hlt))
    rcases hfl with rfl | ⟨rfl, rfl⟩
    · obtain ⟨v, rfl, hv'⟩ := r
      exact fin v hv'
    · cases r
      exact fin .none (by simp [VRel])

theorem ints_rel {g : Gh} : ∀ {vs : List Value} {ns : List Int}, IntsAre vs ns → VRels g (ns.map .int) vs := by
  intro vs ns h
  induction h with
  | nil => exact .nil
  | cons => exact .cons (by simp only [VRel]; exact ⟨_, rfl⟩) (by assumption)

theorem defK {B : Base} {k : Nat} {x : Str} {pos : Pos} (hd : (⟨x, fnParams (fn k), fnBody (fn k), fnScope (fn k), pos⟩ : DefRec) ∈ recsOf B.p) : DefK B x k := by
  obtain ⟨a, o, pm, code, doc, h1, h2, h3, h4⟩ := B.top.fn _ hd
  have e : adr B x = a := by unfold adr; rw [show B.mg x = some (.ref a) from h1]
  exact ⟨by rw [e]; exact h1, ⟨o, pm, code, doc, by rw [e]; exact h2, h3, h4⟩⟩

theorem topTup {B : Base} {w : World} {x : Str} {ns : List Int} (T : Tables B.p w B.mg B.hb) (h : tupIntsOf B.p x = some ns) : TopTup B x (ns.map .int) := by
  obtain ⟨a, vs, h1, h2, h3⟩ := T.tupI x ns h
  exact ⟨a, vs, h1, h2, fun g => ints_rel h3⟩
noncomputable def freeIn (p : Program) (loose : List Str) (x : Str) : Bool := !(startupNames ++ loose ++ (recsOf p).map (·.name) ++ (litsOf p).map (·.1) ++ (clssOf p loose).map (·.name)).contains x
theorem mg_free {B : Base} {x : Str} (h : freeIn B.p B.loose x = true) : B.mg x = none := by
  unfold freeIn at h
  simp only [Bool.not_eq_true', List.contains_eq_mem, List.mem_append, decide_eq_false_iff_not, not_or] at h
  exact B.top.free x h.1.1.1.1 h.1.1.1.2 h.1.1.2 h.1.2 h.2
theorem law_entry {B : Base} (G : Glob B) (D : DefK B "law" 37) {l : Addr} {vs : List Value} {ns : List Int} {s : Shared} {Q : Value → Shared → Prop} (hs : s.heap = B.hb) (hl : B.hb.IsList l vs.toArray) (hI : IntsAre vs ns) (hn : ns.length ≤ 63)
    (HF : ∀ n s F v, (n = 2 ∨ n = 3) → 0 < s → s < n → SymB n F → (∀ i, i < n → (v i).natAbs ≤ 2) → ∃ D0 D1 D2 L0 L1 L2 x y z, Facts n s F v D0 D1 D2 L0 L1 L2 x y z)
    (hQ : ∀ h' tk, (∀ a o, s.heap.get? a = some o → h'.get? a = some o) → Q (.bool true) { s with heap := h', toks := tk }) : wpAny (model B.prog B.w) callerA (call (.ref (adr B "law")) [.ref l]) Q Nay s := by
  have hroom : callerA.depth < recursionLimit := by decide +kernel
  refine call_def_top (d := 8) (names := ["script"]) (ps := [.base l]) (P := fun p _ => p = .bool true) D ⟨rfl, rfl, rfl, by decide +kernel⟩ (by decide +kernel) (fun pm code doc => len1 fun u => rfl) rfl
    (law_ok G rfl hl (fun g => ints_rel hI) hn HF fun ε' σ' => ⟨_, .inl rfl, rfl⟩) callerA ⟨[], []⟩ s [.ref l] Q hroom (fun env h1 h2 h3 h4 => ⟨rfl, Nat.le_of_ble_eq_true (show Nat.ble (callerA.depth + 1 + 8) 800 = true by decide +kernel), Nat.le_of_ble_eq_true (show Nat.ble (callerA.units + 3 + 4 * 8) 9000 = true by decide +kernel), env, [], rfl, h1, h2, h3, h4⟩)
    (σ := []) ⟨rfl, List.nodup_nil, (fun r l e => nomatch e), (fun x hx => nomatch hx), (fun l hl => nomatch hl)⟩ (fun a o e => ⟨by rw [hs]; exact e, by simp⟩) (.cons (by simp [VRel]) .nil) fun p σ' v g' h' tk' hP l I k r => ?_
  subst hP
  simp only [VRel] at r
  subst r
  exact hQ h' tk' fun a o e => (k a o e (by simp)).1
noncomputable def recOf : Stmt → DefRec
  | .FunctionDef n a b _ _ _ s _ _ pos => ⟨n, a, b, s, pos⟩
  | _ => ⟨"", { posonlyargs := [], args := [], vararg := none, kwonlyargs := [], kw_defaults := [], kwarg := none, defaults := [] }, [], { kind := .module, names := [], isGenerator := false, isCoroutine := false, more := [] }, ⟨0, 0, 0, 0⟩⟩
noncomputable def recNums : List Nat := [3, 7, 8, 9, 10, 11, 12, 14, 15, 16, 17, 18, 19, 20, 21, 22, 23, 24, 25, 26, 27, 28, 29, 31, 33, 34, 35, 36, 37]
structure TopIs (p : Program) (loose : List Str) : Prop where
  recs : recsOf p = recNums.map fun k => recOf (fn k)
  R0 : tupIntsOf p "R0" = some [0, 1]
  R1 : tupIntsOf p "R1" = some [1, 1]
  imps : importsNone p = true
  len : freeIn p loose "len" = true
  abs : freeIn p loose "abs" = true
  int : freeIn p loose "int" = true
  list : freeIn p loose "list" = true
  range : freeIn p loose "range" = true
  enumerate : freeIn p loose "enumerate" = true
theorem topIs_of {p : Program} {loose : List Str} (a : recsOf p = recNums.map fun k => recOf (fn k)) (b : tupIntsOf p "R0" = some [0, 1]) (c : tupIntsOf p "R1" = some [1, 1]) (d : importsNone p = true)
    (f : (["len", "abs", "int", "list", "range", "enumerate"] : List Str).all (freeIn p loose) = true) : TopIs p loose := by
  have g := List.all_eq_true.mp f
  exact ⟨a, b, c, d, g _ (by simp), g _ (by simp), g _ (by simp), g _ (by simp), g _ (by simp), g _ (by simp)⟩
theorem defR {B : Base} (K : TopIs B.p B.loose) {k : Nat} {x : Str} (hk : k ∈ recNums) (hx : ⟨x, fnParams (fn k), fnBody (fn k), fnScope (fn k), (recOf (fn k)).pos⟩ = recOf (fn k)) : DefK B x k :=
  defK (pos := (recOf (fn k)).pos) (by rw [K.recs, hx]; exact List.mem_map.mpr ⟨k, hk, rfl⟩)
theorem glob_of {B : Base} {w : World} (T : Tables B.p w B.mg B.hb) (K : TopIs B.p B.loose) : Glob B where
  gcd := defR K (by decide) rfl
  rat := defR K (by decide) rfl
  radd := defR K (by decide) rfl
  rsub := defR K (by decide) rfl
  rmul := defR K (by decide) rfl
  rdiv := defR K (by decide) rfl
  rneg := defR K (by decide) rfl
  shape := defR K (by decide) rfl
  need_shape := defR K (by decide) rfl
  copied := defR K (by decide) rfl
  from_whole := defR K (by decide) rfl
  unit_matrix := defR K (by decide) rfl
  transposed := defR K (by decide) rfl
  dot := defR K (by decide) rfl
  mat_add := defR K (by decide) rfl
  mat_scale := defR K (by decide) rfl
  mat_mul := defR K (by decide) rfl
  trace := defR K (by decide) rfl
  swap_rows := defR K (by decide) rfl
  take_off := defR K (by decide) rfl
  echelon := defR K (by decide) rfl
  rank := defR K (by decide) rfl
  inverse := defR K (by decide) rfl
  charpoly := defR K (by decide) rfl
  draw := defR K (by decide) rfl
  signs := defR K (by decide) rfl
  told := defR K (by decide) rfl
  part := defR K (by decide) rfl
  R0 := topTup T K.R0
  R1 := topTup T K.R1
  len := .bi (mg_free K.len) (by kernel_rfl) (by decide)
  abs := .bi (mg_free K.abs) (by kernel_rfl) (by decide)
  int := .ty (mg_free K.int) (by kernel_rfl) (by decide)
  list := .ty (mg_free K.list) (by kernel_rfl) (by decide)
  range := .ty (mg_free K.range) (by kernel_rfl) (by decide)
  enumerate := .ty (mg_free K.enumerate) (by kernel_rfl) (by decide)
theorem join {p : Program} {loose : List Str} {w : World} {s₀ s₁ : Shared} {mg mb : Str → Option Value} {fa l : Addr} {vs : List Value} {ns : List Int} {E : Value → Shared → Prop} (K : TopIs p loose) (T : Top p loose (ExcName.means s₀.heap) mg mb s₁.heap) (TB : Tables p w mg s₁.heap)
    (hmg : mg "law" = some (.ref fa)) (hg : s₁.gens = #[]) (hL : s₁.heap.IsList l vs.toArray) (hI : IntsAre vs ns) (hn : ¬ (63 : Int) < ns.length)
    (HF : ∀ n s F v, (n = 2 ∨ n = 3) → 0 < s → s < n → SymB n F → (∀ i, i < n → (v i).natAbs ≤ 2) → ∃ D0 D1 D2 L0 L1 L2 x y z, Facts n s F v D0 D1 D2 L0 L1 L2 x y z) :
    wpAny (model PySem.Challenge.rw_xm0121_01.row.prog w) callerA (call (.ref fa) [.ref l]) (fun v s' => GoodWG PySem.Challenge.rw_xm0121_01.row.claim (classAt s₀.heap) (ExcName.means s₀.heap) [ofPy (PyData.list (List.map PyData.int ns))] s₁ (.ok (.ret v)) s') E s₁ := by
  let B : Base := ⟨PySem.Challenge.rw_xm0121_01.row.prog, w, p, loose, ExcName.means s₀.heap, mg, mb, s₁.heap, T, rfl, T.seer K.imps⟩
  have G : Glob B := glob_of (B := B) TB K
  have ea : adr B "law" = fa := by unfold adr; rw [show B.mg "law" = some (.ref fa) from hmg]
  rw [← ea]
  refine noted_nay (env := envK (fnScope (fn 37))) (law_entry G (defR (B := B) K (by decide) rfl) rfl hL hI (by omega) HF fun h' tk hk => ?_)
  refine GoodW.toG ⟨.inl ⟨_, _, _, rfl, fun cls => rfl, .bool true, ?_, unshared_nil⟩, hk, rfl, hg⟩
  kernel_rfl
end Mine
end

section
open PySem PySem.W PyProof.Rows
set_option maxRecDepth 100000
set_option maxHeartbeats 8000000
namespace Mine
/-- what the row itself must say -/
theorem said0 : PySem.Challenge.rw_xm0121_01.row.wellSaid = true := by
  rw [PySem.W.Fast.te17960256430627541270]
  delta PySem.W.Fast.tw17960256430627541270 PySem.W.Fast.tw2436336058641802641 PySem.W.Fast.tw12908688711261696721
  repeat' (with_reducible refine look_both ?_ ?_)
  all_goals kernel_rfl
/-- what a law must say: the looks by their quick twins, one by one -/
theorem well0 : PySem.Challenge.rw_xm0121_01.wellSaid = true := by
  have e : PySem.W.Fast.tw17960256430627541270 PySem.Challenge.rw_xm0121_01.row = true := by rw [← PySem.W.Fast.te17960256430627541270]; exact said0
  rw [PySem.W.Fast.te9446332074065402090]
  delta PySem.W.Fast.tw9446332074065402090
  repeat' (with_reducible refine look_both ?_ ?_)
  · exact e
  all_goals kernel_rfl
abbrev theProg : Program := PySem.Challenge.rw_xm0121_01.row.prog
/-- the text without its six file names -/
noncomputable def q0 : Program := view theProg [1,3,5,6,7,8,9,10,11,12,14,15,16,17,18,19,20,21,22,23,24,25,26,27,28,29,31,33,34,35,36,37]
noncomputable abbrev xt0 (s : Shared) : Bool := xlAt q0 [] s && recOk (RowW.records PySem.Challenge.rw_xm0121_01.row.toRowW) s
theorem open0 : ∀ w : World, (fencedOpening treeTable theProg w 2386).map (fun s => (s.heap, s.gens, s.drawn, s.toks)) = some (boot_heap w.params, Array.mk [], boot_drawn, boot_toks) :=
  boot_open (by kernel_rfl) (by kernel_rfl) (fun s => rfl)
noncomputable def s0 (w : World) (os : OsState) : Shared := ⟨boot_heap w.params, Array.mk [], boot_drawn, boot_toks, os⟩
/-- a top that was run and looked at in one stroke, by twins of the run, the table and the look -/
theorem top_gen {p q : Program} {loose : List Str} {Xt : Shared → Bool} {α : Type} {Yf : Shared → α} {y : α} {N m : Nat} {ann : Option Value} {g0 : Bool} {w : World} {s₀ : Shared} {T} {R} {S}
    (eT : treeTable = T) (eR : @topRun = R) (eS : @openSeen = S)
    (z : (s₀.heap.isNs mainGlobals && s₀.gens.size == 0) = true) (z2 : s₀.heap.objs.size = m) (z3 : s₀.heap.nsMap mainGlobals "__annotations__" = ann)
    (h : (R T p w m ann N s₀ (topStub p)).map (fun s => (staticsOk (importedModules p.main.body) s₀.heap s.heap && namesBound p s.heap && gensDone s && laidKept s₀.heap s.heap, S q loose (importedModules p.main.body) Xt g0 s, Yf s)) = some (true, openGood q loose, y)) :
    (topFrom treeTable p w N s₀).map (fun s => (openSeen q loose (importedModules p.main.body) Xt g0 s, Yf s)) = some (openGood q loose, y) := by
  subst eT eR eS z2 z3
  unfold topFrom
  rw [z]
  cases r : topRun treeTable p w s₀.heap.objs.size (s₀.heap.nsMap mainGlobals "__annotations__") N s₀ (topStub p) with
  | none => rw [r] at h; cases h
  | some s =>
    rw [r] at h
    have h1 := Option.some.inj h
    have f := congrArg Prod.fst h1
    dsimp only at f
    rw [Option.bind_some, f]
    exact congrArg (fun x => some x.2) h1
theorem see0 (w : World) (os : OsState) : (PySem.W.Fast.tw14082659384304107361 PySem.W.Fast.tw14364793385576792824 theProg w 11 (some (.ref 6)) 2386 (s0 w os) (topStub theProg)).map (fun s =>
      (staticsOk (importedModules theProg.main.body) (s0 w os).heap s.heap && namesBound theProg s.heap && gensDone s && laidKept (s0 w os).heap s.heap,
       PySem.W.Fast.tw4187177175401517315 q0 [] (importedModules theProg.main.body) xt0 true s, Hook.obs Hook.none s)) = some (true, openGood q0 [], Hook.val Hook.none w) := by
  kernel_rfl
theorem left0 : LeftO theProg q0 [] xt0 (Hook.obs Hook.none) (Hook.val Hook.none) 2386 := fun w => by
  have a := open0 w
  unfold openEnds
  cases b : fencedOpening treeTable theProg w 2386 with
  | none => rw [b] at a; cases a
  | some s =>
    rw [b] at a
    have c := Option.some.inj a
    have e : s = s0 w s.os := by
      cases s with
      | mk hp gs dr tk os =>
        have c1 : hp = boot_heap w.params := congrArg Prod.fst c
        have c2 : gs = Array.mk [] := congrArg (fun x => x.2.1) c
        have c3 : dr = boot_drawn := congrArg (fun x => x.2.2.1) c
        have c4 : tk = boot_toks := congrArg (fun x => x.2.2.2) c
        rw [c1, c2, c3, c4]; rfl
    rw [e, Option.bind_some]
    exact top_gen PySem.W.Fast.te14364793385576792824 PySem.W.Fast.te14082659384304107361 PySem.W.Fast.te4187177175401517315 (by kernel_rfl) (by kernel_rfl) (by kernel_rfl) (see0 w s.os)
end Mine
end

open PySem PySem.W PyProof.Rows
set_option maxHeartbeats 8000000 in
theorem PySem.Challenge.cw_xm0121_01_holds : PySem.Challenge.rw_xm0121_01.Holds := by
  w_on
  refine holds_law Mine.well0 fun said => ?_
  refine holds_open (q := Mine.q0) (loose := []) (Xt := Mine.xt0) (XP := XL Mine.q0 []) (Yf := Hook.obs Hook.none) (Ya := Hook.val Hook.none) (YP := Hook.says Hook.none) (N := 2386) Mine.left0 (Hook.of Hook.none) (Hook.keeps Hook.none)
    (fun s e => xl_of s (Bool.and_eq_true_iff.mp e).1) XL.keeps (by rfl) (by rfl) (by rfl) (fun s e => recFacts_of (Bool.and_eq_true_iff.mp e).2) (by rfl) (by assumption) (by decide +kernel) ⟨rfl, rfl, rfl, rfl, rfl, by decide +kernel⟩ ?hw ?hc
  case hw => w_witness2
  intro w s₀ s₁ mg mb G Y fa o pm cd doc dV kV ho hdd hcd hD hmg hg args vals as hpre hlay hrd hwl hlo
  refine Ground.open G ?_
  intro T B D TE TW
  clear hcd hD Y TE TW D hdd
  wrow_args hpre hlay hrd hwl hlo
  rename_i hL _ _ _ hI _ hn _
  exact Mine.join (Mine.topIs_of (by kernel_rfl) (by kernel_rfl) (by kernel_rfl) (by decide +kernel) (by decide +kernel)) T B hmg hg hL hI hn Mine.all_facts
