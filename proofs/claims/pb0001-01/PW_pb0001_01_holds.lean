import PyProof.Rows.All
import Wide.All
import OpenK.AllK
import Wide.FinOn
import PySem.Challenge.RW_pb0001_01
open PySem PySem.W PyProof.Rows
set_option Elab.async false
set_option maxRecDepth 100000
set_option linter.unusedVariables false
set_option maxHeartbeats 8000000
namespace Mine
open_top hd for PySem.Challenge.rw_pb0001_01
end Mine
namespace Mine

/-- python values as trees; `ref`: a mutable list or dict that the store tells of -/
inductive PV where
  | none
  | bool (b : Bool)
  | int (i : Int)
  | str (s : Str)
  | tup (xs : List PV)
  | fl (xs : List PV)
  | al (xs : List PV)
  | ref (a : Addr)

inductive MO where
  | lst (xs : List PV)
  | dct (es : List (Str × PV))

noncomputable abbrev Store := Addr → Option MO

mutual
inductive VR (σ : Store) (h : Heap) : PV → Value → Prop where
  | none : VR σ h .none .none
  | bool (b : Bool) : VR σ h (.bool b) (.bool b)
  | int (i : Int) (t : Tok) : VR σ h (.int i) (.int i t)
  | str (x : Str) (t : Tok) : VR σ h (.str x) (.str x t)
  | ref (a : Addr) : VR σ h (.ref a) (.ref a)
  | tup {a : Addr} {vs : Array Value} {n : Nat} {xs : List PV} : h.get? a = some { cls := .type "tuple", data := .seq vs n } → σ a = Option.none → VRs σ h xs vs.toList → VR σ h (.tup xs) (.ref a)
  | fl {a : Addr} {vs : Array Value} {n : Nat} {xs : List PV} : h.get? a = some { cls := .type "list", data := .seq vs n } → σ a = Option.none → VRs σ h xs vs.toList → VR σ h (.fl xs) (.ref a)
  | al {a : Addr} {o : Obj} {vs : Array Value} {n : Nat} {xs : List PV} : h.get? a = some o → o.cls = .type "list" → o.data = .seq vs n → σ a = Option.none → VRs σ h xs vs.toList → VR σ h (.al xs) (.ref a)
inductive VRs (σ : Store) (h : Heap) : List PV → List Value → Prop where
  | nil : VRs σ h [] []
  | cons {x : PV} {xs : List PV} {v : Value} {vs : List Value} : VR σ h x v → VRs σ h xs vs → VRs σ h (x :: xs) (v :: vs)
end

theorem VR.inv_ref {σ : Store} {h : Heap} {a : Addr} {v : Value} (x : VR σ h (.ref a) v) : v = .ref a := by cases x; rfl
theorem VR.inv_none {σ : Store} {h : Heap} {v : Value} (x : VR σ h .none v) : v = .none := by cases x; rfl
theorem VR.inv_bool {σ : Store} {h : Heap} {b : Bool} {v : Value} (x : VR σ h (.bool b) v) : v = .bool b := by cases x; rfl
theorem VR.inv_int {σ : Store} {h : Heap} {i : Int} {v : Value} (x : VR σ h (.int i) v) : ∃ t, v = .int i t := by cases x; exact ⟨_, rfl⟩
theorem VR.inv_str {σ : Store} {h : Heap} {s : Str} {v : Value} (x : VR σ h (.str s) v) : ∃ t, v = .str s t := by cases x; exact ⟨_, rfl⟩
inductive IsSeq (σ : Store) (h : Heap) (T : String) (xs : List PV) (v : Value) : Prop
  | mk (a : Addr) (vs : Array Value) (n : Nat) (e : v = .ref a) (h1 : h.get? a = some { cls := .type T, data := .seq vs n }) (h4 : σ a = Option.none) (h5 : VRs σ h xs vs.toList)
theorem VR.inv_tup {σ : Store} {h : Heap} {xs : List PV} {v : Value} (x : VR σ h (.tup xs) v) : IsSeq σ h "tuple" xs v := by cases x with | tup h1 h4 h5 => exact ⟨_, _, _, rfl, h1, h4, h5⟩
theorem VR.inv_fl {σ : Store} {h : Heap} {xs : List PV} {v : Value} (x : VR σ h (.fl xs) v) : IsSeq σ h "list" xs v := by cases x with | fl h1 h4 h5 => exact ⟨_, _, _, rfl, h1, h4, h5⟩
theorem VRs.inv_nil {σ : Store} {h : Heap} {vs : List Value} (x : VRs σ h [] vs) : vs = [] := by cases x; rfl
inductive IsCons (σ : Store) (h : Heap) (p : PV) (ps : List PV) (vs : List Value) : Prop
  | mk (v : Value) (us : List Value) (e : vs = v :: us) (w : VR σ h p v) (ws : VRs σ h ps us)
theorem VRs.inv_cons {σ : Store} {h : Heap} {p : PV} {ps : List PV} {vs : List Value} (x : VRs σ h (p :: ps) vs) : IsCons σ h p ps vs := by cases x with | cons a b => exact ⟨_, _, rfl, a, b⟩

/-- the sequences that the store does not tell of stay -/
noncomputable def Safe (σ : Store) (h : Heap) (σ' : Store) (h' : Heap) : Prop :=
  ∀ a o vs n, h.get? a = some o → o.data = .seq vs n → σ a = none → h'.get? a = some o ∧ σ' a = none

theorem VR.safe {σ σ' : Store} {h h' : Heap} (S : Safe σ h σ' h') {p : PV} {v : Value} (x : VR σ h p v) : VR σ' h' p v :=
  VR.rec (motive_1 := fun p v _ => VR σ' h' p v) (motive_2 := fun ps vs _ => VRs σ' h' ps vs) .none .bool .int .str .ref
    (fun e1 e4 _ r => .tup (S _ _ _ _ e1 rfl e4).1 (S _ _ _ _ e1 rfl e4).2 r) (fun e1 e4 _ r => .fl (S _ _ _ _ e1 rfl e4).1 (S _ _ _ _ e1 rfl e4).2 r)
    (fun e1 e2 e3 e4 _ r => .al (S _ _ _ _ e1 e3 e4).1 e2 e3 (S _ _ _ _ e1 e3 e4).2 r) .nil (fun _ _ a b => .cons a b) x
theorem VRs.ind {σ : Store} {h : Heap} {P : List PV → List Value → Prop} (n : P [] []) (c : ∀ x xs v vs, VR σ h x v → VRs σ h xs vs → P xs vs → P (x :: xs) (v :: vs)) {ps : List PV} {vs : List Value} (x : VRs σ h ps vs) : P ps vs :=
  VRs.rec (motive_1 := fun _ _ _ => True) (motive_2 := fun ps vs _ => P ps vs) trivial (fun _ => trivial) (fun _ _ => trivial) (fun _ _ => trivial) (fun _ => trivial) (fun _ _ _ _ => trivial) (fun _ _ _ _ => trivial) (fun _ _ _ _ _ _ => trivial) n (fun a b _ ih => c _ _ _ _ a b ih) x
theorem VRs.safe {σ σ' : Store} {h h' : Heap} (S : Safe σ h σ' h') {p : List PV} {v : List Value} (x : VRs σ h p v) : VRs σ' h' p v :=
  VRs.ind (P := fun ps vs => VRs σ' h' ps vs) .nil (fun _ _ _ _ a _ ih => .cons (a.safe S) ih) x
theorem VRs.length {σ : Store} {h : Heap} {ps : List PV} {vs : List Value} (x : VRs σ h ps vs) : vs.length = ps.length :=
  VRs.ind (P := fun ps vs => vs.length = ps.length) rfl (fun _ _ _ _ _ _ ih => congrArg Nat.succ ih) x
theorem VRs.get {σ : Store} {h : Heap} {ps : List PV} {vs : List Value} (x : VRs σ h ps vs) {i : Nat} {p : PV} (e : ps[i]? = some p) : ∃ v, vs[i]? = some v ∧ VR σ h p v := by
  have key : ∀ (i : Nat) (p : PV), ps[i]? = some p → ∃ v, vs[i]? = some v ∧ VR σ h p v := by
    refine VRs.ind (P := fun ps vs => ∀ (i : Nat) (p : PV), ps[i]? = some p → ∃ v, vs[i]? = some v ∧ VR σ h p v) (fun i p e => ?_) (fun y ys v vs a _ ih i p e => ?_) x
    · rw [List.getElem?_nil] at e; cases e
    · cases i with
      | zero => rw [List.getElem?_cons_zero] at e; exact ⟨v, rfl, Option.some.inj e ▸ a⟩
      | succ i => rw [List.getElem?_cons_succ] at e ⊢; exact ih i p e
  exact key i p e
theorem VRs.append {σ : Store} {h : Heap} {ps qs : List PV} {vs ws : List Value} (x : VRs σ h ps vs) (b : VRs σ h qs ws) : VRs σ h (ps ++ qs) (vs ++ ws) :=
  VRs.ind (P := fun ps vs => VRs σ h (ps ++ qs) (vs ++ ws)) b (fun _ _ _ _ a _ ih => .cons a ih) x
theorem VRs.one {σ : Store} {h : Heap} {p : PV} {v : Value} (r : VR σ h p v) : VRs σ h [p] [v] := .cons r .nil
theorem VRs.take {σ : Store} {h : Heap} {ps : List PV} {vs : List Value} (n : Nat) (x : VRs σ h ps vs) : VRs σ h (ps.take n) (vs.take n) :=
  VRs.ind (P := fun ps vs => ∀ n : Nat, VRs σ h (ps.take n) (vs.take n)) (fun n => by rw [List.take_nil, List.take_nil]; exact .nil) (fun _ _ _ _ a _ ih n => match n with
    | 0 => .nil
    | n + 1 => .cons a (ih n)) x n
theorem VRs.drop {σ : Store} {h : Heap} {ps : List PV} {vs : List Value} (n : Nat) (x : VRs σ h ps vs) : VRs σ h (ps.drop n) (vs.drop n) :=
  VRs.ind (P := fun ps vs => ∀ n : Nat, VRs σ h (ps.drop n) (vs.drop n)) (fun n => by rw [List.drop_nil, List.drop_nil]; exact .nil) (fun _ _ _ _ a r ih n => match n with
    | 0 => .cons a r
    | n + 1 => ih n) x n
theorem VRs.set {σ : Store} {h : Heap} {ps : List PV} {vs : List Value} (n : Nat) {p : PV} {v : Value} (x : VRs σ h ps vs) (b : VR σ h p v) : VRs σ h (ps.set n p) (vs.set n v) :=
  VRs.ind (P := fun ps vs => ∀ n : Nat, VRs σ h (ps.set n p) (vs.set n v)) (fun _ => .nil) (fun _ _ _ _ a r ih n => match n with
    | 0 => .cons b r
    | n + 1 => .cons a (ih n)) x n

/-- what the store says of one object -/
noncomputable def MR (g : Program) (w : World) (σ : Store) (h : Heap) (a : Addr) : MO → Prop
  | .lst xs => ∃ vs : Array Value, h.PlainList a vs ∧ VRs σ h xs vs.toList
  | .dct es => ∃ kvs : List (Str × Value), h.DictOf (strKind g w) a kvs ∧ kvs.map (·.1) = es.map (·.1) ∧ VRs σ h (es.map (·.2)) (kvs.map (·.2))

structure Fc where
  A : Around
  env : Env
  envs : List Env
  n : Nat
  wc : Bool
noncomputable def Fc.fr (fc : Fc) : List Addr := fc.envs.filterMap (·.frame)

structure Fc.Ok (fc : Fc) : Prop where
  frames : fc.A.frames = some fc.envs
  hd : fc.A.handled = none
  dep : fc.A.depth + fc.n ≤ 900
  uni : fc.A.units + 8 * fc.n ≤ 9000
  glob : fc.env.globals = mainGlobals
  bi : fc.env.builtins = builtinsNs
  kind : fc.env.scope.kind = .function
  head : ∃ e r, fc.envs = e :: r ∧ fc.env.frame = e.frame
  all : ∀ e ∈ fc.envs, e.scope.kind ≠ .module ∧ e.frame.isSome = true
  cellIn : ∀ x, fc.env.kindOf x = some .cell → ∃ a, fc.env.cells.lookup x = some a
  inj : ∀ x y a, fc.env.cells.lookup x = some a → fc.env.cells.lookup y = some a → x = y

structure Gx where
  prog : Program
  w : World
  h0 : Heap
  os : OsState
  sys : ∃ o, h0.get? cStatics = some o
noncomputable abbrev Gx.M (g : Gx) : Model := model g.prog g.w

structure AS where
  m : Str → Option PV
  σ : Store

noncomputable def Foot (fc : Fc) (σ : Store) (b : Addr) : Prop := σ b ≠ none ∨ b = fc.env.locals ∨ (fc.wc = true ∧ ∃ x, fc.env.cells.lookup x = some b)

/-- the name's value lies in the block's names or in a cell -/
noncomputable def Bound (fc : Fc) (σ : Store) (h : Heap) (mV : Str → Option Value) (x : Str) (p : PV) : Prop :=
  (fc.env.kindOf x = some .local ∧ ∃ v, mV x = some v ∧ VR σ h p v) ∨
  (fc.env.kindOf x = some .cell ∧ ∃ ca o v, fc.env.cells.lookup x = some ca ∧ h.get? ca = some o ∧ o.data = .cell (some v) ∧ VR σ h p v)

structure R (g : Gx) (fc : Fc) (st : AS) (s : Shared) : Prop where
  ok : fc.Ok
  base : ∀ b o, g.h0.get? b = some o → s.heap.get? b = some o
  gens : s.gens = #[]
  os : s.os = g.os
  loc : ∃ mV, s.heap.Ns fc.env.locals mV ∧ ∀ x p, st.m x = some p → Bound fc st.σ s.heap mV x p
  cel : ∀ x ca, fc.env.cells.lookup x = some ca → g.h0.get? ca = none ∧ st.σ ca = none ∧ ∃ o v, s.heap.get? ca = some o ∧ o.data = .cell v
  nl : g.h0.get? fc.env.locals = none ∧ st.σ fc.env.locals = none
  fr : ∀ L ∈ fc.fr, g.h0.get? L = none ∧ st.σ L = none ∧ ∃ o es ep, s.heap.get? L = some o ∧ o.data = .dict es ep
  sto : ∀ a mo, st.σ a = some mo → (g.h0.get? a = none ∧ a ≠ sysModules) ∧ MR g.prog g.w st.σ s.heap a mo

/-- what a run may change -/
structure Step (fc : Fc) (σ σ' : Store) (h h' : Heap) : Prop where
  live : ∀ b o, h.get? b = some o → ∃ o', h'.get? b = some o'
  keep : ∀ b o, h.get? b = some o → ¬ Foot fc σ b → b ∉ fc.fr → h'.get? b = some o
  slots : ∀ b o, h.get? b = some o → ¬ Foot fc σ b → b ∈ fc.fr → ∃ sl, h'.get? b = some { o with slots := sl }
  grow : ∀ b o, h.get? b = some o → σ b = none → σ' b = none

theorem Step.refl {fc : Fc} {σ : Store} {h : Heap} : Step fc σ σ h h := ⟨fun _ o e => ⟨o, e⟩, fun _ _ e _ _ => e, fun _ o e _ _ => ⟨o.slots, e⟩, fun _ _ _ e => e⟩
theorem Foot.grow {fc : Fc} {σ σ' : Store} {h h' : Heap} (S : Step fc σ σ' h h') {b : Addr} {o : Obj} (e : h.get? b = some o) (n : ¬ Foot fc σ b) : ¬ Foot fc σ' b := by
  intro f
  rcases f with f | f | f
  · exact f (S.grow b _ e (Classical.byContradiction fun q => n (.inl q)))
  · exact n (.inr (.inl f))
  · exact n (.inr (.inr f))
theorem Step.trans {fc : Fc} {σ σ' σ'' : Store} {h h' h'' : Heap} (S : Step fc σ σ' h h') (T : Step fc σ' σ'' h' h'') : Step fc σ σ'' h h'' := by
  refine ⟨fun b o e => let ⟨o', e'⟩ := S.live b o e; T.live b o' e', fun b o e n m => ?_, fun b o e n m => ?_, fun b o l e => let ⟨o', e'⟩ := S.live b o l; T.grow b o' e' (S.grow b o l e)⟩
  · exact T.keep b o (S.keep b o e n m) (Foot.grow S e n) m
  · obtain ⟨s1, h1⟩ := S.slots b o e n m
    obtain ⟨s2, h2⟩ := T.slots b _ h1 (Foot.grow S e n) m
    exact ⟨s2, h2⟩

theorem R.notFoot {g : Gx} {fc : Fc} {st : AS} {s : Shared} (r : R g fc st s) {a : Addr} {o : Obj} {vs : Array Value} {n : Nat} (e : s.heap.get? a = some o) (d : o.data = .seq vs n) (q : st.σ a = none) : ¬ Foot fc st.σ a ∧ a ∉ fc.fr := by
  refine ⟨fun f => ?_, fun f => ?_⟩
  · rcases f with f | f | ⟨_, x, f⟩
    · exact f q
    · obtain ⟨mV, ⟨o', es, ep, h1, h2, _⟩, _⟩ := r.loc
      rw [← f, e] at h1; cases h1; rw [d] at h2; cases h2
    · obtain ⟨_, _, o', v, h1, h2⟩ := r.cel x a f
      rw [e] at h1; cases h1; rw [d] at h2; cases h2
  · obtain ⟨_, _, o', es, ep, h1, h2⟩ := r.fr a f
    rw [e] at h1; cases h1; rw [d] at h2; cases h2
theorem R.safe {g : Gx} {fc : Fc} {st st' : AS} {s s' : Shared} (r : R g fc st s) (S : Step fc st.σ st'.σ s.heap s'.heap) : Safe st.σ s.heap st'.σ s'.heap := fun a o vs n e d q =>
  have z := r.notFoot e d q
  ⟨S.keep a o e z.1 z.2, S.grow a _ e q⟩
end Mine

namespace Mine

/-- a CheckFault of line l, made behind n, flies -/
inductive FL (b : Bool) (l : Int) (n : Heap) (σ : Store) (h : Heap) (e : Value) : Prop
  | mk (a : Addr) (oe : Obj) (vs : Array Value) (d : Addr) (es : List DictEntry) (k : Nat) (tb : Value) (t : Tok) (h1 : e = .ref a) (h2 : n.get? a = none) (h3 : h.get? a = some oe) (h4 : oe.cls = .ref 51) (h5 : oe.dict = some d)
    (h6 : oe.data = .fields vs) (h7 : 2 < vs.size) (h8 : vs[1]? = some tb) (h9 : n.get? d = none) (h10 : h.get? d = some (dictOf es k)) (h11 : getL "line" es = some (some (.int l t))) (h12 : σ d = none)
    (h13 : (b = false ∧ tb = .none) ∨ ∃ T oT ts, tb = .ref T ∧ n.get? T = none ∧ T ≠ a ∧ h.get? T = some oT ∧ oT.data = .fields ts ∧ 3 < ts.size)
theorem newOf {n m : Heap} (k : ∀ b o, m.get? b = some o → ∃ o', n.get? b = some o') {a : Addr} (h : n.get? a = none) : m.get? a = none := by
  cases q : m.get? a with
  | none => rfl
  | some o => obtain ⟨o', e⟩ := k a o q; rw [h] at e; cases e
theorem FL.le {b : Bool} {l : Int} {n m : Heap} {σ : Store} {h : Heap} {e : Value} (x : FL b l n σ h e) (k : ∀ b o, m.get? b = some o → ∃ o', n.get? b = some o') : FL b l m σ h e := by
  obtain ⟨a, oe, vs, d, es, c, tb, t, h1, h2, h3, h4, h5, h6, h7, h8, h9, h10, h11, h12, h13⟩ := x
  refine ⟨a, oe, vs, d, es, c, tb, t, h1, newOf k h2, h3, h4, h5, h6, h7, h8, newOf k h9, h10, h11, h12, ?_⟩
  rcases h13 with q | ⟨T, oT, ts, q1, q2, q3⟩
  · exact .inl q
  · exact .inr ⟨T, oT, ts, q1, newOf k q2, q3⟩

section
variable {α β γ δ : Type}
inductive PostH (g : Gx) (fc : Fc) (rel : Store → Heap → β → α → Prop) (σ : Store) (h : Heap) (K : β → AS → Prop) (v : α) (s' : Shared) : Prop
  | mk (p : β) (st' : AS) (h1 : rel st'.σ s'.heap p v) (h2 : R g fc st' s') (h3 : Step fc σ st'.σ h s'.heap) (h4 : K p st')
noncomputable def Post (g : Gx) (fc : Fc) (rel : Store → Heap → β → α → Prop) (st : AS) (s : Shared) (K : β → AS → Prop) (v : α) (s' : Shared) : Prop := PostH g fc rel st.σ s.heap K v s'
inductive EPostH (b : Bool) (g : Gx) (fc : Fc) (σ : Store) (h : Heap) (X : Int → AS → Prop) (e : Value) (s' : Shared) : Prop
  | mk (l : Int) (st' : AS) (h1 : FL b l h st'.σ s'.heap e) (h2 : R g fc st' s') (h3 : Step fc σ st'.σ h s'.heap) (h4 : X l st')
noncomputable def EPostB (b : Bool) (g : Gx) (fc : Fc) (st : AS) (s : Shared) (X : Int → AS → Prop) (e : Value) (s' : Shared) : Prop := EPostH b g fc st.σ s.heap X e s'
noncomputable def EPost (g : Gx) (fc : Fc) (st : AS) (s : Shared) (X : Int → AS → Prop) (e : Value) (s' : Shared) : Prop := EPostH false g fc st.σ s.heap X e s'
noncomputable def Wat (g : Gx) (fc : Fc) (rel : Store → Heap → β → α → Prop) (t : Sem α) (st : AS) (s : Shared) (K : β → AS → Prop) (X : Int → AS → Prop) : Prop :=
  wpAny g.M fc.A t (Post g fc rel st s K) (EPost g fc st s X) s
noncomputable def Wp (g : Gx) (fc : Fc) (rel : Store → Heap → β → α → Prop) (t : Sem α) (st : AS) (K : β → AS → Prop) (X : Int → AS → Prop) : Prop :=
  ∀ s, R g fc st s → Wat g fc rel t st s K X

variable {g : Gx} {fc : Fc} {rel : Store → Heap → β → α → Prop} {st st₁ : AS} {s s₁ : Shared} {K : β → AS → Prop} {X : Int → AS → Prop}
theorem Post.intro {p : β} {v : α} (r : R g fc st s) (q : rel st.σ s.heap p v) (k : K p st) : Post g fc rel st s K v s := ⟨p, st, q, r, Step.refl, k⟩
theorem Post.from {v : α} {s' : Shared} (S : Step fc st.σ st₁.σ s.heap s₁.heap) (p : Post g fc rel st₁ s₁ K v s') : Post g fc rel st s K v s' :=
  let ⟨p, st', a, b, c, d⟩ := p; ⟨p, st', a, b, S.trans c, d⟩
theorem EPost.from {e : Value} {s' : Shared} (S : Step fc st.σ st₁.σ s.heap s₁.heap) (p : EPost g fc st₁ s₁ X e s') : EPost g fc st s X e s' :=
  let ⟨l, st', a, b, c, d⟩ := p; ⟨l, st', a.le S.live, b, S.trans c, d⟩
theorem Wat.from {t : Sem α} (S : Step fc st.σ st₁.σ s.heap s₁.heap) (h : Wat g fc rel t st₁ s₁ K X) : wpAny g.M fc.A t (Post g fc rel st s K) (EPost g fc st s X) s₁ :=
  wpAny_mono h (fun _ _ p => Post.from S p) fun _ _ p => EPost.from S p
theorem Wat.mono {t : Sem α} {K' : β → AS → Prop} {X' : Int → AS → Prop} (h : Wat g fc rel t st s K X) (hk : ∀ p st', K p st' → K' p st') (hx : ∀ l st', X l st' → X' l st') : Wat g fc rel t st s K' X' :=
  wpAny_mono h (fun _ _ ⟨p, st', a, b, c, d⟩ => ⟨p, st', a, b, c, hk _ _ d⟩) fun _ _ ⟨l, st', a, b, c, d⟩ => ⟨l, st', a, b, c, hx _ _ d⟩
theorem Wp.mono {t : Sem α} {K' : β → AS → Prop} {X' : Int → AS → Prop} (h : Wp g fc rel t st K X) (hk : ∀ p st', K p st' → K' p st') (hx : ∀ l st', X l st' → X' l st') : Wp g fc rel t st K' X' :=
  fun s r => (h s r).mono hk hx
/-- the use of a run's end: what is wanted of the very heap behind it -/
theorem Wat.use {t : Sem α} {Q : α → Shared → Prop} {E : Value → Shared → Prop} (h : Wat g fc rel t st s K X)
    (k : ∀ p st₁ v s₁, rel st₁.σ s₁.heap p v → R g fc st₁ s₁ → Step fc st.σ st₁.σ s.heap s₁.heap → K p st₁ → Q v s₁) (e : ∀ v s₁, EPost g fc st s X v s₁ → E v s₁) : wpAny g.M fc.A t Q E s :=
  wpAny_mono h (fun _ _ ⟨_, _, a, b, c, d⟩ => k _ _ _ _ a b c d) fun _ _ z => e _ _ z
/-- one run, then another, ends in the first's start -/
theorem Wat.then {rel' : Store → Heap → δ → γ → Prop} {t : Sem α} {f : α → Sem γ} {K' : δ → AS → Prop} (h : Wat g fc rel t st s K X)
    (k : ∀ p st₁ v s₁, rel st₁.σ s₁.heap p v → R g fc st₁ s₁ → Step fc st.σ st₁.σ s.heap s₁.heap → K p st₁ → Wat g fc rel' (f v) st₁ s₁ K' X) : Wat g fc rel' (t >>= f) st s K' X :=
  wpAny_bind (h.use (fun p st₁ v s₁ a b c d => Wat.from c (k p st₁ v s₁ a b c d)) fun _ _ z => z)
end

noncomputable abbrev WE (g : Gx) (fc : Fc) (t : Sem Value) (st : AS) (K : PV → AS → Prop) (X : Int → AS → Prop) : Prop := Wp g fc VR t st K X
noncomputable abbrev WL (g : Gx) (fc : Fc) (t : Sem (List Value)) (st : AS) (K : List PV → AS → Prop) (X : Int → AS → Prop) : Prop := Wp g fc VRs t st K X
noncomputable def BRl (_ : Store) (_ : Heap) (b : Bool) (a : Bool) : Prop := a = b
noncomputable abbrev WB (g : Gx) (fc : Fc) (t : Sem Bool) (st : AS) (K : Bool → AS → Prop) (X : Int → AS → Prop) : Prop := Wp g fc BRl t st K X
noncomputable def URl (_ : Store) (_ : Heap) (_ : Unit) (_ : Unit) : Prop := True
noncomputable abbrev WU (g : Gx) (fc : Fc) (t : Sem Unit) (st : AS) (K : Unit → AS → Prop) (X : Int → AS → Prop) : Prop := Wp g fc URl t st K X

inductive AF where
  | next | brk | cont
  | ret (p : PV)
inductive FRl (σ : Store) (h : Heap) : AF → Flow → Prop where
  | next : FRl σ h .next .next
  | brk : FRl σ h .brk .brk
  | cont : FRl σ h .cont .cont
  | ret {p : PV} {v : Value} : VR σ h p v → FRl σ h (.ret p) (.ret v)
/-- a turn's end -/
noncomputable abbrev loopK (J : AS → Prop) (K : AF → AS → Prop) : AF → AS → Prop := fun f st => match f with
  | .next => J st
  | .cont => J st
  | .brk => K .next st
  | .ret q => K (.ret q) st
noncomputable abbrev WS (g : Gx) (fc : Fc) (t : Sem Flow) (st : AS) (K : AF → AS → Prop) (X : Int → AS → Prop) : Prop := Wp g fc FRl t st K X
/-- what follows: a plain end goes on to the next statements, any other end leaves -/
noncomputable abbrev seqK (g : Gx) (fc : Fc) (ts : List Stmt) (X : Int → AS → Prop) (K : AF → AS → Prop) : AF → AS → Prop := fun f st => match f with
  | .next => WS g fc (execs ts fc.env) st K X
  | f => K f st
noncomputable abbrev retK (K : AF → AS → Prop) : PV → AS → Prop := fun p st => K (.ret p) st
noncomputable abbrev consK2 (p : PV) (K : List PV → AS → Prop) : List PV → AS → Prop := fun ps st => K (p :: ps) st
noncomputable abbrev consK (g : Gx) (fc : Fc) (es : List Expr) (pos : Pos) (X : Int → AS → Prop) (K : List PV → AS → Prop) : PV → AS → Prop := fun p st => WL g fc (spliced (backTo pos (starEach es fc.env))) st (consK2 p K) X

section
variable {g : Gx} {fc : Fc} {st : AS} {s : Shared} {X : Int → AS → Prop}

/-- only the counter of tokens turns -/
theorem R.toks {k : Nat} (r : R g fc st s) : R g fc st { s with toks := k } := ⟨r.ok, r.base, r.gens, r.os, r.loc, r.cel, r.nl, r.fr, r.sto⟩
theorem Post.toks {α β : Type} {rel : Store → Heap → β → α → Prop} {K : β → AS → Prop} {p : β} {v : α} {k : Nat} (r : R g fc st s) (q : rel st.σ s.heap p v) (kk : K p st) : Post g fc rel st s K v { s with toks := k } :=
  ⟨p, st, q, r.toks, Step.refl, kk⟩

theorem e_name {x : Str} {pos : Pos} {p : PV} {K : PV → AS → Prop} (hm : st.m x = some p) (h : K p st) (hd : (x == ("__debug__" : Str)) = false := by decide) : WE g fc (eval (.Name x pos) fc.env) st K X := by
  intro s r
  obtain ⟨mV, hn, hb⟩ := r.loc
  rcases hb x p hm with ⟨hk, v, hv, q⟩ | ⟨hk, ca, o, v, hc, ho, hdt, q⟩
  · exact wpAny_Name (wpAny_loadName_local r.ok.kind hk hn hv (Post.intro r q h)) hd
  · exact wpAny_Name (wpAny_loadName_cell r.ok.kind hk hc ⟨o, ho, hdt⟩ (Post.intro r q h)) hd

theorem e_int {i : Int} {k : Nat} {pos : Pos} {K : PV → AS → Prop} (h : K (.int i) st) : WE g fc (eval (.Constant (.int i) k pos) fc.env) st K X :=
  fun s r => wpAny_Constant_int (Post.toks r (.int _ _) h)
theorem e_str {x : Str} {k : Nat} {pos : Pos} {K : PV → AS → Prop} (h : K (.str x) st) : WE g fc (eval (.Constant (.str x) k pos) fc.env) st K X :=
  fun s r => Calls.Constant_str (Post.toks r (.str _ _) h)
theorem e_none {k : Nat} {pos : Pos} {K : PV → AS → Prop} (h : K .none st) : WE g fc (eval (.Constant .none k pos) fc.env) st K X :=
  fun s r => wpAny_pure (a := Value.none) (Post.intro r .none h)
theorem e_bool {b : Bool} {k : Nat} {pos : Pos} {K : PV → AS → Prop} (h : K (.bool b) st) : WE g fc (eval (.Constant (.bool b) k pos) fc.env) st K X :=
  fun s r => wpAny_pure (a := Value.bool b) (Post.intro r (.bool _) h)

theorem l_nil {pos : Pos} {K : List PV → AS → Prop} (h : K [] st) : WL g fc (spliced (backTo pos (starEach [] fc.env))) st K X :=
  fun s r => Calls.spliced_nil (Post.intro r .nil h)
theorem l_cons {e : Expr} {es : List Expr} {pos : Pos} {K : List PV → AS → Prop}
    (h : WE g fc (eval e fc.env) st (consK g fc es pos X K) X)
    (he : starEach (e :: es) fc.env = (false, eval e fc.env) :: starEach es fc.env := by rfl) : WL g fc (spliced (backTo pos (starEach (e :: es) fc.env))) st K X := by
  intro s r
  rw [he]
  refine Calls.spliced_cons ((h s r).use (fun p st₁ v s₁ q r₁ S k => ?_) fun _ _ z => z)
  exact (k s₁ r₁).use (fun ps st₂ vs s₂ qs r₂ S₂ k₂ => ⟨p :: ps, st₂, .cons (q.safe (r₁.safe S₂)) qs, r₂, S.trans S₂, k₂⟩) fun _ _ z => EPost.from S z
end

theorem R.new0 {g : Gx} {fc : Fc} {st : AS} {s : Shared} (r : R g fc st s) : g.h0.get? s.heap.objs.size = none ∧ s.heap.objs.size ≠ sysModules := by
  refine ⟨?_, fun z => ?_⟩
  · cases q : g.h0.get? s.heap.objs.size with
    | none => rfl
    | some o => exact absurd (Heap.lt_size (r.base _ _ q)) (Nat.lt_irrefl _)
  · obtain ⟨o, e⟩ := g.sys
    have := Heap.lt_size (r.base _ _ e)
    rw [z] at this
    exact absurd this (by decide)

/-- a new object that the store does not tell of -/
theorem R.push {g : Gx} {fc : Fc} {st : AS} {s : Shared} (r : R g fc st s) (o : Obj) : R g fc st { s with heap := s.heap.push o } := by
  have keep : ∀ b x, s.heap.get? b = some x → (s.heap.push o).get? b = some x := fun b x e => Heap.get?_push_of_some _ e
  have hs : Safe st.σ s.heap st.σ (s.heap.push o) := fun a x vs n e _ q => ⟨keep _ _ e, q⟩
  refine ⟨r.ok, fun b x e => keep _ _ (r.base b x e), r.gens, r.os, ?_, fun x ca e => ?_, r.nl, fun L e => ?_, fun a mo e => ?_⟩
  · obtain ⟨mV, hn, hb⟩ := r.loc
    refine ⟨mV, hn.keeps keep, fun x p e => ?_⟩
    rcases hb x p e with ⟨a, v, b, c⟩ | ⟨a, ca, ob, v, b, c, d, e⟩
    · exact .inl ⟨a, v, b, c.safe hs⟩
    · exact .inr ⟨a, ca, ob, v, b, keep _ _ c, d, e.safe hs⟩
  · obtain ⟨a, b, ob, v, c, d⟩ := r.cel x ca e
    exact ⟨a, b, ob, v, keep _ _ c, d⟩
  · obtain ⟨a, b, ob, es, ep, c, d⟩ := r.fr L e
    exact ⟨a, b, ob, es, ep, keep _ _ c, d⟩
  · obtain ⟨a, b⟩ := r.sto a mo e
    refine ⟨a, ?_⟩
    cases mo with
    | lst xs => obtain ⟨vs, b1, b2⟩ := b; exact ⟨vs, b1.at fun o e => keep _ _ e, b2.safe hs⟩
    | dct es => obtain ⟨kvs, b1, b2, b3⟩ := b; exact ⟨kvs, b1.push _, b2, b3.safe hs⟩
theorem Step.push {fc : Fc} {σ : Store} {h : Heap} {o : Obj} : Step fc σ σ h (h.push o) :=
  ⟨fun b x e => ⟨x, Heap.get?_push_of_some _ e⟩, fun b x e _ _ => Heap.get?_push_of_some _ e, fun b x e _ _ => ⟨x.slots, Heap.get?_push_of_some _ e⟩, fun _ _ _ e => e⟩
theorem R.fresh {g : Gx} {fc : Fc} {st : AS} {s : Shared} (r : R g fc st s) : st.σ s.heap.objs.size = none := by
  cases q : st.σ s.heap.objs.size with
  | none => rfl
  | some mo =>
    have h := (r.sto _ _ q).2
    cases mo with
    | lst xs => obtain ⟨vs, ⟨n, e⟩, _⟩ := h; exact absurd (Heap.lt_size e) (Nat.lt_irrefl _)
    | dct es => obtain ⟨kvs, ⟨o, es, ep, e, _⟩, _⟩ := h; exact absurd (Heap.lt_size e) (Nat.lt_irrefl _)

section
variable {g : Gx} {fc : Fc} {st : AS} {s : Shared} {X : Int → AS → Prop}
theorem new_tup {vs : List Value} {ps : List PV} {K : PV → AS → Prop} (r : R g fc st s) (q : VRs st.σ s.heap ps vs) (hl : ps.length ≤ 10000) (h : K (.tup ps) st) : Wat g fc VR (newTuple vs) st s K X := by
  have hlen := q.length
  refine wpAny_newTuple ?_ (by rw [sizeLine_eq]; omega)
  have S := Step.push (fc := fc) (σ := st.σ) (h := s.heap) (o := { cls := .type "tuple", data := .seq vs.toArray })
  exact ⟨.tup ps, st, .tup (Heap.get?_push_size _ rfl) r.fresh (by exact q.safe (r.safe (st' := st) (s' := { s with heap := _ }) S)), r.push _, S, h⟩
theorem new_fl {vs : List Value} {ps : List PV} {K : PV → AS → Prop} (r : R g fc st s) (q : VRs st.σ s.heap ps vs) (hl : ps.length ≤ 10000) (h : K (.fl ps) st) : Wat g fc VR (newList vs) st s K X := by
  have hlen := q.length
  refine wpAny_newList ?_ (by rw [sizeLine_eq]; omega)
  have S := Step.push (fc := fc) (σ := st.σ) (h := s.heap) (o := { cls := .type "list", data := .seq vs.toArray })
  exact ⟨.fl ps, st, .fl (Heap.get?_push_size _ rfl) r.fresh (by exact q.safe (r.safe (st' := st) (s' := { s with heap := _ }) S)), r.push _, S, h⟩

/-- a sequence of the values read -/
inductive KSq (K : PV → AS → Prop) (mk : List PV → PV) (ps : List PV) (st : AS) : Prop
  | mk (hl : ps.length ≤ 10000) (k : K (mk ps) st)
inductive KSl (K : PV → AS → Prop) (ps : List PV) (st : AS) : Prop
  | mk (hl : ps.length ≤ 10000) (k : ∀ a, st.σ a = none → K (.ref a) { st with σ := fun b => if b = a then some (.lst ps) else st.σ b })
theorem e_tuple {elts : List Expr} {k : Nat} {pos : Pos} {K : PV → AS → Prop}
    (h : WL g fc (spliced (backTo pos (starEach elts fc.env))) st (KSq K .tup) X) : WE g fc (eval (.Tuple elts k pos) fc.env) st K X :=
  fun s r => Tuple_ ((h s r).use (fun ps st₁ vs s₁ q r₁ S k => let ⟨k1, k2⟩ := k; Wat.from S (new_tup r₁ q k1 k2)) fun _ _ z => z)
theorem e_list_fl {elts : List Expr} {pos : Pos} {K : PV → AS → Prop}
    (h : WL g fc (spliced (backTo pos (starEach elts fc.env))) st (KSq K .fl) X) : WE g fc (eval (.List elts pos) fc.env) st K X :=
  fun s r => List_ ((h s r).use (fun ps st₁ vs s₁ q r₁ S k => let ⟨k1, k2⟩ := k; Wat.from S (new_fl r₁ q k1 k2)) fun _ _ z => z)
end

noncomputable def upd (σ : Store) (a : Addr) (mo : MO) : Store := fun b => if b = a then some mo else σ b
@[simp] theorem upd_self {σ : Store} {a : Addr} {mo : MO} : upd σ a mo a = some mo := by simp [upd]
theorem upd_ne {σ : Store} {a b : Addr} {mo : MO} (h : b ≠ a) : upd σ a mo b = σ b := by simp [upd, h]
noncomputable abbrev AS.up (st : AS) (a : Addr) (mo : MO) : AS := { st with σ := upd st.σ a mo }

theorem MR.safe {p : Program} {w : World} {σ σ' : Store} {h h' : Heap} {a : Addr} {mo : MO} (x : MR p w σ h a mo) (hs : Safe σ h σ' h') (k : h'.get? a = h.get? a) : MR p w σ' h' a mo := by
  cases mo with
  | lst xs => obtain ⟨vs, b1, b2⟩ := x; exact ⟨vs, b1.at fun o e => k.trans e, b2.safe hs⟩
  | dct es => obtain ⟨kvs, b1, b2, b3⟩ := x; exact ⟨kvs, b1.at fun o e => k.trans e, b2, b3.safe hs⟩

/-- an object that the store tells of changes; all else stays -/
theorem R.set {g : Gx} {fc : Fc} {st : AS} {s : Shared} {h' : Heap} {a : Addr} {mo mo' : MO} {tk : Nat} (r : R g fc st s) (ha : st.σ a = some mo) (S : Heap.SameBut a s.heap h')
    (hm : ∀ σ' , Safe st.σ s.heap σ' h' → MR g.prog g.w σ' h' a mo') : R g fc (st.up a mo') { s with heap := h', toks := tk } ∧ Step fc st.σ (upd st.σ a mo') s.heap h' ∧ Safe st.σ s.heap (upd st.σ a mo') h' := by
  have ne : ∀ b, st.σ b = none → b ≠ a := fun b q e => by rw [e, ha] at q; cases q
  have hs : Safe st.σ s.heap (upd st.σ a mo') h' := fun b x vs n e _ q => ⟨(S.2 b (ne b q)).trans e, (upd_ne (ne b q)).trans q⟩
  obtain ⟨g0, gm⟩ := r.sto a mo ha
  have nb : ∀ b o, g.h0.get? b = some o → b ≠ a := fun b o e q => by rw [q, g0.1] at e; cases e
  have al : ∃ o', h'.get? a = some o' := by
    have := hm _ hs
    cases mo' with
    | lst xs => obtain ⟨vs, ⟨n, e⟩, _⟩ := this; exact ⟨_, e⟩
    | dct es => obtain ⟨kvs, ⟨o, es, ep, e, _⟩, _⟩ := this; exact ⟨_, e⟩
  refine ⟨⟨r.ok, fun b o e => (S.2 b (nb b o e)).trans (r.base b o e), r.gens, r.os, ?_, fun x ca e => ?_, ⟨r.nl.1, (upd_ne (ne _ r.nl.2)).trans r.nl.2⟩, fun L e => ?_, fun b mb e => ?_⟩, ⟨fun b o e => ?_, fun b o e n _ => ?_, fun b o e n _ => ?_, fun b _ _ q => (upd_ne (ne b q)).trans q⟩, hs⟩
  · obtain ⟨mV, hn, hb⟩ := r.loc
    refine ⟨mV, hn.sameBut S (ne _ r.nl.2), fun x p e => ?_⟩
    rcases hb x p e with ⟨a1, v, b1, c1⟩ | ⟨a1, ca, ob, v, b1, c1, d1, e1⟩
    · exact .inl ⟨a1, v, b1, c1.safe hs⟩
    · exact .inr ⟨a1, ca, ob, v, b1, (S.2 ca (ne _ (r.cel x ca b1).2.1)).trans c1, d1, e1.safe hs⟩
  · obtain ⟨a1, b1, ob, v, c1, d1⟩ := r.cel x ca e
    exact ⟨a1, (upd_ne (ne _ b1)).trans b1, ob, v, (S.2 ca (ne _ b1)).trans c1, d1⟩
  · obtain ⟨a1, b1, ob, es, ep, c1, d1⟩ := r.fr L e
    exact ⟨a1, (upd_ne (ne _ b1)).trans b1, ob, es, ep, (S.2 L (ne _ b1)).trans c1, d1⟩
  · change upd _ _ _ _ = _ at e
    by_cases q : b = a
    · subst q; rw [upd_self] at e; cases e; exact ⟨g0, hm _ hs⟩
    · rw [upd_ne q] at e
      exact ⟨(r.sto b mb e).1, (r.sto b mb e).2.safe hs (S.2 b q)⟩
  · by_cases q : b = a
    · subst q; exact al
    · exact ⟨o, (S.2 b q).trans e⟩
  · exact (S.2 b fun q => n (.inl (by rw [q, ha]; simp))).trans e
  · exact ⟨o.slots, (S.2 b fun q => n (.inl (by rw [q, ha]; simp))).trans e⟩

/-- a new object that the store tells of -/
theorem R.new {g : Gx} {fc : Fc} {st : AS} {s : Shared} {o : Obj} {mo : MO} (r : R g fc st s)
    (hm : ∀ σ', Safe st.σ s.heap σ' (s.heap.push o) → MR g.prog g.w σ' (s.heap.push o) s.heap.objs.size mo) :
    R g fc (st.up s.heap.objs.size mo) { s with heap := s.heap.push o } ∧ Step fc st.σ (upd st.σ s.heap.objs.size mo) s.heap (s.heap.push o) := by
  have keep : ∀ b x, s.heap.get? b = some x → (s.heap.push o).get? b = some x := fun b x e => Heap.get?_push_of_some _ e
  have ne : ∀ b x, s.heap.get? b = some x → b ≠ s.heap.objs.size := fun b x e => Nat.ne_of_lt (Heap.lt_size e)
  have hs : Safe st.σ s.heap (upd st.σ s.heap.objs.size mo) (s.heap.push o) := fun b x vs n e _ q => ⟨keep _ _ e, (upd_ne (ne b x e)).trans q⟩
  refine ⟨⟨r.ok, fun b x e => keep _ _ (r.base b x e), r.gens, r.os, ?_, fun x ca e => ?_, ⟨r.nl.1, ?_⟩, fun L e => ?_, fun b mb e => ?_⟩, ⟨fun b x e => ⟨x, keep _ _ e⟩, fun b x e _ _ => keep _ _ e, fun b x e _ _ => ⟨x.slots, keep _ _ e⟩, fun b x e q => (upd_ne (ne b x e)).trans q⟩⟩
  · obtain ⟨mV, hn, hb⟩ := r.loc
    refine ⟨mV, hn.keeps keep, fun x p e => ?_⟩
    rcases hb x p e with ⟨a, v, b, c⟩ | ⟨a, ca, ob, v, b, c, d, e⟩
    · exact .inl ⟨a, v, b, c.safe hs⟩
    · exact .inr ⟨a, ca, ob, v, b, keep _ _ c, d, e.safe hs⟩
  · obtain ⟨a, b, ob, v, c, d⟩ := r.cel x ca e
    exact ⟨a, (upd_ne (ne _ _ c)).trans b, ob, v, keep _ _ c, d⟩
  · obtain ⟨mV, ⟨ob, es, ep, c, _⟩, _⟩ := r.loc
    exact (upd_ne (ne _ _ c)).trans r.nl.2
  · obtain ⟨a, b, ob, es, ep, c, d⟩ := r.fr L e
    exact ⟨a, (upd_ne (ne _ _ c)).trans b, ob, es, ep, keep _ _ c, d⟩
  · change upd _ _ _ _ = _ at e
    by_cases q : b = s.heap.objs.size
    · subst q; rw [upd_self] at e; cases e; exact ⟨r.new0, hm _ hs⟩
    · rw [upd_ne q] at e
      obtain ⟨a, z⟩ := r.sto b mb e
      refine ⟨a, ?_⟩
      cases mb with
      | lst xs => obtain ⟨vs, b1, b2⟩ := z; exact ⟨vs, b1.at fun o e => keep _ _ e, b2.safe hs⟩
      | dct es => obtain ⟨kvs, b1, b2, b3⟩ := z; exact ⟨kvs, b1.push _, b2, b3.safe hs⟩

section
variable {g : Gx} {fc : Fc} {st : AS} {s : Shared} {X : Int → AS → Prop}
theorem new_list {vs : List Value} {ps : List PV} {K : PV → AS → Prop} (r : R g fc st s) (q : VRs st.σ s.heap ps vs) (hl : ps.length ≤ 10000) (h : ∀ a, st.σ a = none → K (.ref a) (st.up a (.lst ps))) : Wat g fc VR (newList vs) st s K X := by
  have hlen := q.length
  refine wpAny_newList ?_ (by rw [sizeLine_eq]; omega)
  have z := r.new (o := { cls := .type "list", data := .seq vs.toArray }) (mo := .lst ps) (fun σ' hs => ⟨vs.toArray, ⟨0, Heap.get?_push_size _ rfl⟩, by exact q.safe hs⟩)
  exact ⟨.ref _, _, .ref _, z.1, z.2, h _ r.fresh⟩
theorem e_list {elts : List Expr} {pos : Pos} {K : PV → AS → Prop}
    (h : WL g fc (spliced (backTo pos (starEach elts fc.env))) st (KSl K) X) : WE g fc (eval (.List elts pos) fc.env) st K X :=
  fun s r => List_ ((h s r).use (fun ps st₁ vs s₁ q r₁ S k => let ⟨k1, k2⟩ := k; Wat.from S (new_list r₁ q k1 k2)) fun _ _ z => z)
end
end Mine

namespace Mine

section
variable {α β : Type} {g : Gx} {fc : Fc} {st : AS} {X : Int → AS → Prop}

/-- what two values in hand end in, under a step of the machine -/
noncomputable def On2 (g : Gx) (fc : Fc) (f : Value → Value → Sem Value) (pa pb : PV) (st : AS) (K : PV → AS → Prop) (X : Int → AS → Prop) : Prop :=
  ∀ s a b, R g fc st s → VR st.σ s.heap pa a → VR st.σ s.heap pb b → Wat g fc VR (f a b) st s K X
noncomputable def On1 (g : Gx) (fc : Fc) (f : Value → Sem Value) (pa : PV) (st : AS) (K : PV → AS → Prop) (X : Int → AS → Prop) : Prop :=
  ∀ s a, R g fc st s → VR st.σ s.heap pa a → Wat g fc VR (f a) st s K X
noncomputable abbrev op2K (g : Gx) (fc : Fc) (f : Value → Value → Sem Value) (pa : PV) (X : Int → AS → Prop) (K : PV → AS → Prop) : PV → AS → Prop := fun pb st => On2 g fc f pa pb st K X
noncomputable abbrev op1K (g : Gx) (fc : Fc) (f : Value → Value → Sem Value) (r : Expr) (X : Int → AS → Prop) (K : PV → AS → Prop) : PV → AS → Prop := fun pa st => WE g fc (eval r fc.env) st (op2K g fc f pa X K) X

theorem e_binop {l r : Expr} {op : Operator} {pos : Pos} {K : PV → AS → Prop}
    (h : WE g fc (eval l fc.env) st (op1K g fc (binaryOp op) r X K) X) : WE g fc (eval (.BinOp l op r pos) fc.env) st K X := by
  intro s r
  refine wpAny_BinOp ((h s r).use (fun pa st₁ a s₁ qa r₁ S₁ k₁ => ?_) fun _ _ z => z)
  refine (k₁ s₁ r₁).use (fun pb st₂ b s₂ qb r₂ S₂ k₂ => ?_) fun _ _ z => EPost.from S₁ z
  exact Wat.from (S₁.trans S₂) (k₂ s₂ a b r₂ (qa.safe (r₁.safe S₂)) qb)

theorem add_ii {i j : Int} {K : PV → AS → Prop} (h : K (.int (i + j)) st) : On2 g fc (binaryOp .Add) (.int i) (.int j) st K X := by
  intro s v1 v2 r q1 q2; (first | obtain rfl := VR.inv_ref q1 | obtain ⟨_, rfl⟩ := VR.inv_int q1 | obtain ⟨_, rfl⟩ := VR.inv_str q1 | obtain rfl := VR.inv_bool q1 | obtain rfl := VR.inv_none q1); (first | obtain rfl := VR.inv_ref q2 | obtain ⟨_, rfl⟩ := VR.inv_int q2 | obtain ⟨_, rfl⟩ := VR.inv_str q2 | obtain rfl := VR.inv_bool q2 | obtain rfl := VR.inv_none q2); exact PyProof.Rows.add_int (Post.toks r (.int _ _) h)
theorem sub_ii {i j : Int} {K : PV → AS → Prop} (h : K (.int (i - j)) st) : On2 g fc (binaryOp .Sub) (.int i) (.int j) st K X := by
  intro s v1 v2 r q1 q2; (first | obtain rfl := VR.inv_ref q1 | obtain ⟨_, rfl⟩ := VR.inv_int q1 | obtain ⟨_, rfl⟩ := VR.inv_str q1 | obtain rfl := VR.inv_bool q1 | obtain rfl := VR.inv_none q1); (first | obtain rfl := VR.inv_ref q2 | obtain ⟨_, rfl⟩ := VR.inv_int q2 | obtain ⟨_, rfl⟩ := VR.inv_str q2 | obtain rfl := VR.inv_bool q2 | obtain rfl := VR.inv_none q2); exact PyProof.Rows.sub_int' (Post.toks r (.int _ _) h)
theorem mul_ii {i j : Int} {K : PV → AS → Prop} (hi : -(2 ^ 60) < i ∧ i < 2 ^ 60) (h : K (.int (i * j)) st) : On2 g fc (binaryOp .Mult) (.int i) (.int j) st K X := by
  intro s v1 v2 r q1 q2; (first | obtain rfl := VR.inv_ref q1 | obtain ⟨_, rfl⟩ := VR.inv_int q1 | obtain ⟨_, rfl⟩ := VR.inv_str q1 | obtain rfl := VR.inv_bool q1 | obtain rfl := VR.inv_none q1); (first | obtain rfl := VR.inv_ref q2 | obtain ⟨_, rfl⟩ := VR.inv_int q2 | obtain ⟨_, rfl⟩ := VR.inv_str q2 | obtain rfl := VR.inv_bool q2 | obtain rfl := VR.inv_none q2); exact PyProof.Rows.mul_int (Post.toks r (.int _ _) h) (IntMulOk.of_left (intBits_le_64 (by omega) (by omega)))
theorem mod_ii {i j : Int} {K : PV → AS → Prop} (hj : j ≠ 0) (h : K (.int (i.fmod j)) st) : On2 g fc (binaryOp .Mod) (.int i) (.int j) st K X := by
  intro s v1 v2 r q1 q2; (first | obtain rfl := VR.inv_ref q1 | obtain ⟨_, rfl⟩ := VR.inv_int q1 | obtain ⟨_, rfl⟩ := VR.inv_str q1 | obtain rfl := VR.inv_bool q1 | obtain rfl := VR.inv_none q1); (first | obtain rfl := VR.inv_ref q2 | obtain ⟨_, rfl⟩ := VR.inv_int q2 | obtain ⟨_, rfl⟩ := VR.inv_str q2 | obtain rfl := VR.inv_bool q2 | obtain rfl := VR.inv_none q2); exact PyProof.Rows.mod_int' hj (Post.toks r (.int _ _) h)
theorem add_ss {x y : Str} {K : PV → AS → Prop} (hl : x.length + y.length ≤ 10000) (h : K (.str (x ++ y)) st) : On2 g fc (binaryOp .Add) (.str x) (.str y) st K X := by
  intro s v1 v2 r q1 q2; (first | obtain rfl := VR.inv_ref q1 | obtain ⟨_, rfl⟩ := VR.inv_int q1 | obtain ⟨_, rfl⟩ := VR.inv_str q1 | obtain rfl := VR.inv_bool q1 | obtain rfl := VR.inv_none q1); (first | obtain rfl := VR.inv_ref q2 | obtain ⟨_, rfl⟩ := VR.inv_int q2 | obtain ⟨_, rfl⟩ := VR.inv_str q2 | obtain rfl := VR.inv_bool q2 | obtain rfl := VR.inv_none q2); exact PyProof.Rows.add_str (fun t' tk => Post.toks r (.str _ _) h) (by rw [sizeLine_eq]; omega)

theorem e_cmp {l r : Expr} {op : CmpOp} {pos : Pos} {K : PV → AS → Prop}
    (h : WE g fc (eval l fc.env) st (op1K g fc (compareOp op) r X K) X)
    (hm : behindInMarks op r = false := by with_unfolding_all rfl) : WE g fc (eval (.Compare l [op] [r] pos) fc.env) st K X := by
  intro s r
  refine wpAny_Compare1 ((h s r).use (fun pa st₁ a s₁ qa r₁ S₁ k₁ => ?_) fun _ _ z => z) hm
  refine (k₁ s₁ r₁).use (fun pb st₂ b s₂ qb r₂ S₂ k₂ => ?_) fun _ _ z => EPost.from S₁ z
  exact Wat.from (S₁.trans S₂) (k₂ s₂ a b r₂ (qa.safe (r₁.safe S₂)) qb)

/-- the truth of a value -/
noncomputable def TruthOf (p : PV) : Option Bool := match p with
  | .none => some false
  | .bool b => some b
  | .tup xs => some (!xs.isEmpty)
  | .fl xs => some (!xs.isEmpty)
  | _ => none
noncomputable def PV.short : PV → Prop
  | .tup xs => xs.length ≤ 10000
  | .fl xs => xs.length ≤ 10000
  | _ => True
theorem truthy_of {p : PV} {b : Bool} {v : Value} {s : Shared} {K : Bool → AS → Prop} (e : TruthOf p = some b) (r : R g fc st s) (q : VR st.σ s.heap p v) (hl : p.short) (h : K b st) :
    Wat g fc BRl (truthy v) st s K X := by
  cases q with
  | none => cases e; exact wpAny_pure (a := false) (Post.intro r rfl h)
  | bool c => cases e; exact wpAny_truthy_bool (Post.intro r rfl h)
  | int _ _ => cases e
  | str _ _ => cases e
  | ref _ => cases e
  | al _ _ _ _ _ => cases e
  | @tup a vs n xs h1 h4 h5 =>
    have hlen := h5.length
    have hv : vs.toList.length = vs.size := by simp
    have e2 : vs.isEmpty = xs.isEmpty := by
      rw [← Array.isEmpty_toList]
      generalize vs.toList = l at h5
      cases h5 <;> rfl
    have hs : (vs.size : Int) < 2 ^ 63 := by
      simp only [PV.short] at hl; omega
    cases e
    refine PyProof.Rows.truthy_tuple (items := vs) ⟨_, h1, rfl, n, rfl⟩ hs ?_
    rw [e2]; exact Post.toks (s := { s with toks := s.toks + 1 + 1 }) (k := s.toks + 1 + 1) r.toks rfl h
  | @fl a vs n xs h1 h4 h5 =>
    have hlen := h5.length
    have hv : vs.toList.length = vs.size := by simp
    have e2 : vs.isEmpty = xs.isEmpty := by
      rw [← Array.isEmpty_toList]
      generalize vs.toList = l at h5
      cases h5 <;> rfl
    have hs : (vs.size : Int) < 2 ^ 63 := by
      simp only [PV.short] at hl; omega
    cases e
    refine wpAny_truthy_list (items := vs) ⟨_, h1, rfl, n, rfl⟩ hs ?_
    rw [e2]; exact Post.toks (s := { s with toks := s.toks + 1 + 1 }) (k := s.toks + 1 + 1) r.toks rfl h

inductive KB (K : Bool → AS → Prop) (p : PV) (st : AS) : Prop
  | mk (b : Bool) (h : p = .bool b) (k : K b st)
inductive KT (K : Bool → AS → Prop) (p : PV) (st : AS) : Prop
  | mk (b : Bool) (h : TruthOf p = some b) (hs : p.short) (k : K b st)
theorem t_cmp {l r : Expr} {op : CmpOp} {pos : Pos} {whole : Sem Value} {K : Bool → AS → Prop}
    (h : WE g fc (eval l fc.env) st (op1K g fc (compareOp op) r X (KB K)) X)
    (hm : behindInMarks op r = false := by with_unfolding_all rfl) : WB g fc (isTrue (.Compare l [op] [r] pos) fc.env whole) st K X := by
  intro s r
  refine wpAny_isTrue_Compare1 ((h s r).use (fun pa st₁ a s₁ qa r₁ S₁ k₁ => ?_) fun _ _ z => z) hm
  refine (k₁ s₁ r₁).use (fun pb st₂ b s₂ qb r₂ S₂ k₂ => ?_) fun _ _ z => EPost.from S₁ z
  refine (k₂ s₂ a b r₂ (qa.safe (r₁.safe S₂)) qb).use (fun p st₃ c s₃ qc r₃ S₃ k₃ => ?_) fun _ _ z => EPost.from (S₁.trans S₂) z
  obtain ⟨bb, rfl, k⟩ := k₃
  cases qc
  exact wpAny_truthy_bool (Post.from (S₁.trans (S₂.trans S₃)) (Post.intro r₃ rfl k))
theorem t_val {e : Expr} {K : Bool → AS → Prop}
    (h : WE g fc (eval e fc.env) st (KT K) X)
    (he : isTrue e fc.env (eval e fc.env) = (do let v ← eval e fc.env; standAt e.pos; holding [v] (truthy v)) := by rfl) : WB g fc (isTrue e fc.env (eval e fc.env)) st K X := by
  intro s r
  refine wpAny_isTrue_value ((h s r).use (fun p st₁ v s₁ q r₁ S k => ?_) fun _ _ z => z) he
  obtain ⟨b, e, hl, k⟩ := k
  exact Wat.from S (truthy_of e r₁ q hl k)
theorem t_and {a b : Expr} {pos : Pos} {whole : Sem Value} {K : Bool → AS → Prop}
    (h : WB g fc (isTrue a fc.env (eval a fc.env)) st (fun c st₁ => if c then WB g fc (isTrue b fc.env (eval b fc.env)) st₁ K X else K false st₁) X) : WB g fc (isTrue (.BoolOp .And [a, b] pos) fc.env whole) st K X := by
  intro s r
  refine isTrue_and ((h s r).use (fun c st₁ v s₁ q r₁ S k => ?_) fun _ _ z => z)
  cases q
  cases c with
  | false => exact Post.from S (Post.intro r₁ rfl k)
  | true =>
    refine isTrue_and ((k s₁ r₁).use (fun d st₂ v₂ s₂ q₂ r₂ S₂ k₂ => ?_) fun _ _ z => EPost.from S z)
    cases q₂
    cases d with
    | false => exact Post.from (S.trans S₂) (Post.intro r₂ rfl k₂)
    | true => exact isTrue_and_nil (Post.from (S.trans S₂) (Post.intro r₂ rfl k₂))
theorem t_or {a b : Expr} {pos : Pos} {whole : Sem Value} {K : Bool → AS → Prop}
    (h : WB g fc (isTrue a fc.env (eval a fc.env)) st (fun c st₁ => if c then K true st₁ else WB g fc (isTrue b fc.env (eval b fc.env)) st₁ K X) X) : WB g fc (isTrue (.BoolOp .Or [a, b] pos) fc.env whole) st K X := by
  intro s r
  refine isTrue_or ((h s r).use (fun c st₁ v s₁ q r₁ S k => ?_) fun _ _ z => z)
  cases q
  cases c with
  | true => exact Post.from S (Post.intro r₁ rfl k)
  | false =>
    refine isTrue_or ((k s₁ r₁).use (fun d st₂ v₂ s₂ q₂ r₂ S₂ k₂ => ?_) fun _ _ z => EPost.from S z)
    cases q₂
    cases d with
    | true => exact Post.from (S.trans S₂) (Post.intro r₂ rfl k₂)
    | false => exact isTrue_or_nil (Post.from (S.trans S₂) (Post.intro r₂ rfl k₂))
theorem t_or3 {a b c : Expr} {pos : Pos} {whole : Sem Value} {K : Bool → AS → Prop}
    (h : WB g fc (isTrue a fc.env (eval a fc.env)) st (fun d st₁ => if d then K true st₁ else WB g fc (isTrue (.BoolOp .Or [b, c] pos) fc.env whole) st₁ K X) X) : WB g fc (isTrue (.BoolOp .Or [a, b, c] pos) fc.env whole) st K X := by
  intro s r
  refine isTrue_or ((h s r).use (fun d st₁ v s₁ q r₁ S k => ?_) fun _ _ z => z)
  cases q
  cases d with
  | true => exact Post.from S (Post.intro r₁ rfl k)
  | false => exact Wat.from S (k s₁ r₁)

theorem e_ifexp {test body orelse : Expr} {pos : Pos} {K : PV → AS → Prop}
    (h : WB g fc (isTrue test fc.env (eval test fc.env)) st (fun c st₁ => if c then WE g fc (eval body fc.env) st₁ K X else WE g fc (eval orelse fc.env) st₁ K X) X) : WE g fc (eval (.IfExp test body orelse pos) fc.env) st K X := by
  intro s r
  refine wpAny_IfExp ((h s r).use (fun c st₁ v s₁ q r₁ S k => ?_) fun _ _ z => z)
  cases q
  cases c with
  | true => exact Wat.from S (k s₁ r₁)
  | false => exact Wat.from S (k s₁ r₁)
theorem e_and {a b : Expr} {pos : Pos} {K : PV → AS → Prop}
    (h : WE g fc (eval a fc.env) st (fun p => KT (fun c st₁ => if c then WE g fc (eval b fc.env) st₁ K X else K p st₁) p) X) : WE g fc (eval (.BoolOp .And [a, b] pos) fc.env) st K X := by
  intro s r
  refine BoolOp_and ((h s r).use (fun p st₁ v s₁ q r₁ S k => ?_) fun _ _ z => z)
  obtain ⟨c, e, hl, k⟩ := k
  refine (truthy_of (K := fun d st₂ => d = c ∧ st₂ = st₁) e r₁ q hl ⟨rfl, rfl⟩).use (fun d st₂ v₂ s₂ q₂ r₂ S₂ k₂ => ?_) fun _ _ z => EPost.from S z
  obtain ⟨rfl, rfl⟩ := k₂
  cases q₂
  cases d with
  | true => exact BoolOp_one (Wat.from (S.trans S₂) (k s₂ r₂))
  | false => exact Post.from (S.trans S₂) (Post.intro r₂ (q.safe (r₁.safe S₂)) k)
theorem e_or {a b : Expr} {pos : Pos} {K : PV → AS → Prop}
    (h : WE g fc (eval a fc.env) st (fun p => KT (fun c st₁ => if c then K p st₁ else WE g fc (eval b fc.env) st₁ K X) p) X) : WE g fc (eval (.BoolOp .Or [a, b] pos) fc.env) st K X := by
  intro s r
  refine BoolOp_or ((h s r).use (fun p st₁ v s₁ q r₁ S k => ?_) fun _ _ z => z)
  obtain ⟨c, e, hl, k⟩ := k
  refine (truthy_of (K := fun d st₂ => d = c ∧ st₂ = st₁) e r₁ q hl ⟨rfl, rfl⟩).use (fun d st₂ v₂ s₂ q₂ r₂ S₂ k₂ => ?_) fun _ _ z => EPost.from S z
  obtain ⟨rfl, rfl⟩ := k₂
  cases q₂
  cases d with
  | false => exact BoolOp_one (Wat.from (S.trans S₂) (k s₂ r₂))
  | true => exact Post.from (S.trans S₂) (Post.intro r₂ (q.safe (r₁.safe S₂)) k)

/-- an item of what is in hand -/
noncomputable def SubW (g : Gx) (fc : Fc) (po pi : PV) (st : AS) (K : PV → AS → Prop) (X : Int → AS → Prop) : Prop :=
  ∀ s o i, R g fc st s → VR st.σ s.heap po o → VR st.σ s.heap pi i → ∃ T id, s.TypeIs o T ∧ typeLookup (.type T) "__getitem__" = pure (some (.builtin id)) ∧ Wat g fc VR (getItem o i) st s K X
noncomputable abbrev sub2K (g : Gx) (fc : Fc) (po : PV) (X : Int → AS → Prop) (K : PV → AS → Prop) : PV → AS → Prop := fun pi st => SubW g fc po pi st K X
noncomputable abbrev sub1K (g : Gx) (fc : Fc) (slice : Expr) (X : Int → AS → Prop) (K : PV → AS → Prop) : PV → AS → Prop := fun po st => WE g fc (eval slice fc.env) st (sub2K g fc po X K) X
theorem subscripted_false {M : Model} {A : Around} {E : Value → Shared → Prop} {Q : Value → Shared → Prop} {s : Shared} {slice : Expr} {o i : Value} (h : wpAny M A (getItem o i) Q E s) : wpAny M A (subscripted slice false o i) Q E s := by
  unfold subscripted
  split
  · exact wpAny_operate' h
  · rename_i e; cases e
  · exact wpAny_operate' h
theorem tail_of {value slice : Expr} {o i : Value} {s : Shared} {T id : String} {Q : Value → Shared → Prop} {E : Value → Shared → Prop} {A : Around} (hT : s.TypeIs o T) (hl : typeLookup (.type T) "__getitem__" = pure (some (.builtin id)))
    (h : wpAny g.M A (getItem o i) Q E s) : wpAny g.M A (subscriptTail value slice o i) Q E s := by
  unfold subscriptTail
  refine wpAny_bind (m := getitemInPython o) ?_
  unfold getitemInPython
  refine wpAny_bind ?_
  refine wpAny_specialOf hT hl ?_
  refine wpAny_pure ?_
  refine wpAny_bind (subscripted_false (wpAny_mono h (fun r s' hq => wpAny_bind (wpAny_letTemporaryGo (wpAny_pure hq))) fun _ _ z => z))
theorem e_sub {value slice : Expr} {pos : Pos} {K : PV → AS → Prop}
    (h : WE g fc (eval value fc.env) st (sub1K g fc slice X K) X) : WE g fc (eval (.Subscript value slice pos) fc.env) st K X := by
  intro s r
  refine Subscript_ ((h s r).use (fun po st₁ o s₁ qo r₁ S₁ k₁ => ?_) fun _ _ z => z)
  refine (k₁ s₁ r₁).use (fun pi st₂ i s₂ qi r₂ S₂ k₂ => ?_) fun _ _ z => EPost.from S₁ z
  obtain ⟨T, id, hT, hl, w⟩ := k₂ s₂ o i r₂ (qo.safe (r₁.safe S₂)) qi
  exact tail_of hT hl (Wat.from (S₁.trans S₂) w)
end
end Mine

namespace Mine

mutual
noncomputable def PV.D : PV → PyData
  | .none => .none
  | .bool b => .bool b
  | .int i => .int i
  | .str s => .str s
  | .tup xs => .tuple (PV.Ds xs)
  | .fl xs => .list (PV.Ds xs)
  | .al _ => .none
  | .ref _ => .none
noncomputable def PV.Ds : List PV → List PyData
  | [] => []
  | x :: xs => x.D :: PV.Ds xs
end
mutual
noncomputable def PV.clean : PV → Bool
  | .none => true
  | .bool _ => true
  | .int _ => true
  | .str s => PyData.strOk s
  | .tup xs => PV.cleans xs
  | .fl xs => PV.cleans xs
  | .al _ => false
  | .ref _ => false
noncomputable def PV.cleans : List PV → Bool
  | [] => true
  | x :: xs => x.clean && PV.cleans xs
end
theorem VR.reads0 {σ : Store} {h : Heap} {p : PV} {v : Value} (x : VR σ h p v) : p.clean = true → ∃ as, Reads h v p.D as :=
  VR.rec (motive_1 := fun p v _ => p.clean = true → ∃ as, Reads h v p.D as) (motive_2 := fun ps vs _ => PV.cleans ps = true → ∃ as, ReadsAll h vs (PV.Ds ps) as)
    (fun _ => ⟨_, by rw [PV.D]; exact .none⟩) (fun b _ => ⟨_, by rw [PV.D]; exact .bool b⟩) (fun i t _ => ⟨_, by rw [PV.D]; exact .int i t⟩) (fun x t _ => ⟨_, by rw [PV.D]; exact .str x t⟩)
    (fun _ h => by rw [PV.clean] at h; cases h)
    (fun e1 e4 _ ih h => by
      rw [PV.clean] at h
      obtain ⟨as, q⟩ := ih h
      exact ⟨_, by rw [PV.D]; exact .tuple e1 rfl rfl q⟩)
    (fun e1 e4 _ ih h => by
      rw [PV.clean] at h
      obtain ⟨as, q⟩ := ih h
      exact ⟨_, by rw [PV.D]; exact .list e1 rfl rfl q⟩)
    (fun _ _ _ _ _ _ h => by rw [PV.clean] at h; cases h)
    (fun _ => ⟨_, by rw [PV.Ds]; exact .nil⟩)
    (fun _ _ ia ib h => by
      rw [PV.cleans, Bool.and_eq_true] at h
      obtain ⟨as, q⟩ := ia h.1
      obtain ⟨bs, z⟩ := ib h.2
      exact ⟨_, by rw [PV.Ds]; exact .cons q z⟩) x
theorem VR.reads {σ : Store} {h : Heap} {p : PV} {v : Value} (x : VR σ h p v) (hc : p.clean = true) : ∃ as, Reads h v p.D as := x.reads0 hc
mutual
theorem PV.canLay : ∀ {p : PV}, p.clean = true → p.D.canLay0 = true
  | .none, _ => by simp [PV.D, PyData.canLay0]
  | .bool b, _ => by simp [PV.D, PyData.canLay0]
  | .int b, _ => by simp [PV.D, PyData.canLay0]
  | .str b, h => by simpa [PV.D, PyData.canLay0, PV.clean] using h
  | .ref b, h => by simp [PV.clean] at h
  | .al b, h => by simp [PV.clean] at h
  | .tup xs, h => by
    have := PV.canLays (ps := xs) (by simpa [PV.clean] using h)
    simpa [PV.D, PyData.canLay0] using this
  | .fl xs, h => by
    have := PV.canLays (ps := xs) (by simpa [PV.clean] using h)
    simpa [PV.D, PyData.canLay0] using this
theorem PV.canLays : ∀ {ps : List PV}, PV.cleans ps = true → PyData.canLayAll0 (PV.Ds ps) = true
  | [], _ => by simp [PV.Ds, PyData.canLayAll0]
  | x :: xs, h => by
    rw [PV.cleans, Bool.and_eq_true] at h
    simp [PV.Ds, PyData.canLayAll0, PV.canLay h.1, PV.canLays h.2]
end
/-- data that may be compared -/
noncomputable def PV.ok (p : PV) : Bool := p.clean && decide (p.D.depth ≤ 64)
theorem PV.ok_shaped {p : PV} (h : p.ok = true) : SeqAt.shaped p.D = true := by
  unfold PV.ok at h
  rw [Bool.and_eq_true] at h
  unfold SeqAt.shaped
  rw [PV.canLay h.1, Bool.true_and]; exact h.2
theorem PV.ok_clean {p : PV} (h : p.ok = true) : p.clean = true := by
  unfold PV.ok at h
  rw [Bool.and_eq_true] at h
  exact h.1
noncomputable def PV.eq (p q : PV) : Bool := PyData.eqv p.D q.D

section
variable {g : Gx} {fc : Fc} {st : AS} {X : Int → AS → Prop}
theorem cmp_eq {p q : PV} {K : PV → AS → Prop} (hp : p.ok = true) (hq : q.ok = true) (h : K (.bool (p.eq q)) st) : On2 g fc (compareOp .Eq) p q st K X := by
  intro s a b r va vb
  obtain ⟨as, ra⟩ := va.reads (PV.ok_clean hp)
  obtain ⟨bs, rb⟩ := vb.reads (PV.ok_clean hq)
  exact eq_dataH ra rb (PV.ok_shaped hp) (PV.ok_shaped hq) (by have := r.ok.uni; show fc.A.units + 64 < 9900; omega) (Post.intro r (.bool _) h)
theorem cmp_ne {p q : PV} {K : PV → AS → Prop} (hp : p.ok = true) (hq : q.ok = true) (h : K (.bool (!p.eq q)) st) : On2 g fc (compareOp .NotEq) p q st K X := by
  intro s a b r va vb
  obtain ⟨as, ra⟩ := va.reads (PV.ok_clean hp)
  obtain ⟨bs, rb⟩ := vb.reads (PV.ok_clean hq)
  exact ne_dataH ra rb (PV.ok_shaped hp) (PV.ok_shaped hq) (by have := r.ok.uni; show fc.A.units + 64 < 9900; omega) (Post.intro r (.bool _) h)
theorem eq_ii (i j : Int) : (PV.int i).eq (.int j) = (i == j) := by simp [PV.eq, PV.D, PyData.eqv]
theorem eq_ss (i j : Str) : (PV.str i).eq (.str j) = (i == j) := by simp [PV.eq, PV.D, PyData.eqv]
theorem cmp_lt {i j : Int} {K : PV → AS → Prop} (h : K (.bool (decide (i < j))) st) : On2 g fc (compareOp .Lt) (.int i) (.int j) st K X := by
  intro s v1 v2 r q1 q2; (first | obtain rfl := VR.inv_ref q1 | obtain ⟨_, rfl⟩ := VR.inv_int q1 | obtain ⟨_, rfl⟩ := VR.inv_str q1 | obtain rfl := VR.inv_bool q1 | obtain rfl := VR.inv_none q1); (first | obtain rfl := VR.inv_ref q2 | obtain ⟨_, rfl⟩ := VR.inv_int q2 | obtain ⟨_, rfl⟩ := VR.inv_str q2 | obtain rfl := VR.inv_bool q2 | obtain rfl := VR.inv_none q2); exact PyProof.Rows.lt_int (Post.intro r (.bool _) h)
theorem cmp_gt {i j : Int} {K : PV → AS → Prop} (h : K (.bool (decide (j < i))) st) : On2 g fc (compareOp .Gt) (.int i) (.int j) st K X := by
  intro s v1 v2 r q1 q2; (first | obtain rfl := VR.inv_ref q1 | obtain ⟨_, rfl⟩ := VR.inv_int q1 | obtain ⟨_, rfl⟩ := VR.inv_str q1 | obtain rfl := VR.inv_bool q1 | obtain rfl := VR.inv_none q1); (first | obtain rfl := VR.inv_ref q2 | obtain ⟨_, rfl⟩ := VR.inv_int q2 | obtain ⟨_, rfl⟩ := VR.inv_str q2 | obtain rfl := VR.inv_bool q2 | obtain rfl := VR.inv_none q2); exact PyProof.Rows.gt_int (Post.intro r (.bool _) h)
theorem cmp_ge {i j : Int} {K : PV → AS → Prop} (h : K (.bool (decide (j ≤ i))) st) : On2 g fc (compareOp .GtE) (.int i) (.int j) st K X := by
  intro s v1 v2 r q1 q2; (first | obtain rfl := VR.inv_ref q1 | obtain ⟨_, rfl⟩ := VR.inv_int q1 | obtain ⟨_, rfl⟩ := VR.inv_str q1 | obtain rfl := VR.inv_bool q1 | obtain rfl := VR.inv_none q1); (first | obtain rfl := VR.inv_ref q2 | obtain ⟨_, rfl⟩ := VR.inv_int q2 | obtain ⟨_, rfl⟩ := VR.inv_str q2 | obtain rfl := VR.inv_bool q2 | obtain rfl := VR.inv_none q2); exact PyProof.Rows.ge_int (Post.intro r (.bool _) h)
noncomputable def PV.isNone : PV → Bool
  | .none => true
  | _ => false
theorem cmp_is_none {p : PV} {K : PV → AS → Prop} (h : K (.bool p.isNone) st) : On2 g fc (compareOp .Is) p .none st K X := by
  rintro s a _ r va ⟨⟩
  cases va <;> first | exact wpAny_is_self rfl (Post.intro r (.bool _) h) | exact wpAny_is_other rfl (by simp) (Post.intro r (.bool _) h)

/-- values of a dict by its keys -/
noncomputable def at? (es : List (Str × PV)) (k : Str) : Option PV := (es.find? fun e => e.1 = k).map (·.2)
theorem valueAt_rel {σ : Store} {h : Heap} : ∀ {es : List (Str × PV)} {kvs : List (Str × Value)}, kvs.map (·.1) = es.map (·.1) → VRs σ h (es.map (·.2)) (kvs.map (·.2)) → ∀ k,
    match at? es k with | some p => ∃ v, valueAt kvs k = some v ∧ VR σ h p v | none => valueAt kvs k = none
  | [], [], _, _, k => rfl
  | [], _ :: _, e, _, _ => by simp at e
  | _ :: _, [], e, _, _ => by simp at e
  | (x, p) :: es, (y, v) :: kvs, e, r, k => by
    simp only [List.map_cons, List.cons.injEq] at e
    obtain ⟨rfl, e⟩ := e
    simp only [List.map_cons] at r
    cases r with
    | cons a b =>
      have ih := valueAt_rel e b k
      unfold at? valueAt at ih ⊢
      rw [List.find?_cons, List.find?_cons]
      by_cases q : y = k
      · simp only [q, decide_true]; exact ⟨v, rfl, a⟩
      · simp only [q, decide_false]; exact ih
theorem DictNe {g : Gx} {fc : Fc} {st : AS} {s : Shared} {a : Addr} {mo : MO} (r : R g fc st s) (lim : g.h0.NoLimit) (e : st.σ a = some mo) : (a == sysModules) = false :=
  beq_eq_false_iff_ne.mpr (r.sto a mo e).1.2
theorem cmp_in {a : Addr} {es : List (Str × PV)} {k : Str} {K : PV → AS → Prop} (lim : g.h0.NoLimit) (e : st.σ a = some (.dct es)) (h : K (.bool (at? es k).isSome) st) : On2 g fc (compareOp .In) (.str k) (.ref a) st K X := by
  intro s v1 v2 r q1 q2
  (first | obtain rfl := VR.inv_ref q1 | obtain ⟨_, rfl⟩ := VR.inv_int q1 | obtain ⟨_, rfl⟩ := VR.inv_str q1 | obtain rfl := VR.inv_bool q1 | obtain rfl := VR.inv_none q1)
  (first | obtain rfl := VR.inv_ref q2 | obtain ⟨_, rfl⟩ := VR.inv_int q2 | obtain ⟨_, rfl⟩ := VR.inv_str q2 | obtain rfl := VR.inv_bool q2 | obtain rfl := VR.inv_none q2)
  obtain ⟨kvs, hd, hk, hv⟩ := (r.sto a _ e).2
  refine wpAny_in_of (knd := strKind g.prog g.w) (strKind_is _ _ _ _) (DictNe r lim e) hd.mapOf ?_
  have := valueAt_rel hk hv k
  cases q : at? es k with
  | none => rw [q] at this h; rw [this]; exact Post.toks r (.bool _) h
  | some p => rw [q] at this h; obtain ⟨v, z, _⟩ := this; rw [z]; exact Post.toks r (.bool _) h
theorem cmp_notin {a : Addr} {es : List (Str × PV)} {k : Str} {K : PV → AS → Prop} (lim : g.h0.NoLimit) (e : st.σ a = some (.dct es)) (h : K (.bool (!(at? es k).isSome)) st) : On2 g fc (compareOp .NotIn) (.str k) (.ref a) st K X := by
  intro s v1 v2 r q1 q2
  (first | obtain rfl := VR.inv_ref q1 | obtain ⟨_, rfl⟩ := VR.inv_int q1 | obtain ⟨_, rfl⟩ := VR.inv_str q1 | obtain rfl := VR.inv_bool q1 | obtain rfl := VR.inv_none q1)
  (first | obtain rfl := VR.inv_ref q2 | obtain ⟨_, rfl⟩ := VR.inv_int q2 | obtain ⟨_, rfl⟩ := VR.inv_str q2 | obtain rfl := VR.inv_bool q2 | obtain rfl := VR.inv_none q2)
  obtain ⟨kvs, hd, hk, hv⟩ := (r.sto a _ e).2
  refine wpAny_notIn_of (knd := strKind g.prog g.w) (strKind_is _ _ _ _) (DictNe r lim e) hd.mapOf ?_
  have := valueAt_rel hk hv k
  cases q : at? es k with
  | none => rw [q] at this h; rw [this]; exact Post.toks r (.bool _) h
  | some p => rw [q] at this h; obtain ⟨v, z, _⟩ := this; rw [z]; exact Post.toks r (.bool _) h

-- items
theorem sub_dict {a : Addr} {es : List (Str × PV)} {k : Str} {p : PV} {K : PV → AS → Prop} (e : st.σ a = some (.dct es)) (hp : at? es k = some p) (h : K p st) : SubW g fc (.ref a) (.str k) st K X := by
  intro s v1 v2 r q1 q2
  (first | obtain rfl := VR.inv_ref q1 | obtain ⟨_, rfl⟩ := VR.inv_int q1 | obtain ⟨_, rfl⟩ := VR.inv_str q1 | obtain rfl := VR.inv_bool q1 | obtain rfl := VR.inv_none q1)
  (first | obtain rfl := VR.inv_ref q2 | obtain ⟨_, rfl⟩ := VR.inv_int q2 | obtain ⟨_, rfl⟩ := VR.inv_str q2 | obtain rfl := VR.inv_bool q2 | obtain rfl := VR.inv_none q2)
  obtain ⟨kvs, hd, hk, hv⟩ := (r.sto a _ e).2
  have := valueAt_rel hk hv k
  rw [hp] at this
  obtain ⟨v, z, q⟩ := this
  exact ⟨_, _, hd.typeIs, slot_dict_getitem.lookup, wpAny_getItem_of (knd := strKind g.prog g.w) (strKind_is _ _ _ _) hd.mapOf z (Post.toks r q h)⟩
theorem sub_tup {xs : List PV} {i : Int} {j : Nat} {p : PV} {K : PV → AS → Prop} (hlo : -(2 ^ 63) ≤ i) (hhi : i < 2 ^ 63) (hj : seqIndex? i xs.length = some j) (hp : xs[j]? = some p) (h : K p st) : SubW g fc (.tup xs) (.int i) st K X := by
  rintro s _ _ r va ⟨⟩
  cases va with
  | tup h1 h4 h5 =>
    rename_i t vs n
    obtain ⟨v, hv, q⟩ := h5.get hp
    refine ⟨_, _, ⟨_, h1, rfl⟩, slot_tuple_getitem.lookup, PyProof.Rows.getItem_tuple (items := vs) ⟨_, h1, rfl, n, rfl⟩ hlo hhi (j := j) (by rw [← Array.length_toList, h5.length]; exact hj) (by simpa using hv) (Post.intro r q h)⟩
theorem sub_fl {xs : List PV} {i : Int} {p : PV} {K : PV → AS → Prop} (hlo : 0 ≤ i) (hhi : i < 2 ^ 63) (hp : xs[i.toNat]? = some p) (h : K p st) : SubW g fc (.fl xs) (.int i) st K X := by
  rintro s _ _ r va ⟨⟩
  cases va with
  | fl h1 h4 h5 =>
    rename_i t vs n
    obtain ⟨v, hv, q⟩ := h5.get hp
    refine ⟨_, _, ⟨_, h1, rfl⟩, slot_list_getitem.lookup, wpAny_getItem_list (items := vs) ⟨_, h1, rfl, n, rfl⟩ hlo hhi (by simpa using hv) (Post.intro r q h)⟩
theorem sub_lst {a : Addr} {xs : List PV} {i : Int} {p : PV} {K : PV → AS → Prop} (e : st.σ a = some (.lst xs)) (hlo : 0 ≤ i) (hhi : i < 2 ^ 63) (hp : xs[i.toNat]? = some p) (h : K p st) : SubW g fc (.ref a) (.int i) st K X := by
  intro s v1 v2 r q1 q2
  (first | obtain rfl := VR.inv_ref q1 | obtain ⟨_, rfl⟩ := VR.inv_int q1 | obtain ⟨_, rfl⟩ := VR.inv_str q1 | obtain rfl := VR.inv_bool q1 | obtain rfl := VR.inv_none q1)
  (first | obtain rfl := VR.inv_ref q2 | obtain ⟨_, rfl⟩ := VR.inv_int q2 | obtain ⟨_, rfl⟩ := VR.inv_str q2 | obtain rfl := VR.inv_bool q2 | obtain rfl := VR.inv_none q2)
  obtain ⟨vs, hd, hv⟩ := (r.sto a _ e).2
  obtain ⟨v, hv, q⟩ := hv.get hp
  exact ⟨_, _, hd.isList.typeIs, slot_list_getitem.lookup, wpAny_getItem_list hd.isList hlo hhi (by simpa using hv) (Post.intro r q h)⟩
theorem e_neg1 {k : Nat} {pos p2 : Pos} {K : PV → AS → Prop} (h : K (.int (-1)) st) : WE g fc (eval (.UnaryOp .USub (.Constant (.int 1) k pos) p2) fc.env) st K X := by
  intro s r
  show wpAny _ _ (do let v ← eval (.Constant (.int 1) k pos) fc.env; standAt p2; holding [v] (unaryOp .USub v)) _ _ s
  exact wpAny_bind (wpAny_Constant_int (wpAny_bind (wpAny_standAt (wpAny_holding (PyProof.Rows.neg_int (Post.toks (s := { s with toks := s.toks + 1 }) r.toks (.int _ _) h))))))
end
end Mine

namespace Mine

section
variable {α β : Type} {g : Gx} {fc : Fc} {st : AS} {X : Int → AS → Prop}

-- slices
theorem e_slice_al {x : Str} {p1 p2 p3 pos : Pos} {k : Nat} {n : Nat} {xs : List PV} {K : PV → AS → Prop} (hl : xs.length ≤ 10000) (hx : st.m x = some (.al xs)) (h : K (.fl (xs.take n)) st) (hd : (x == ("__debug__" : Str)) = false := by decide) :
    WE g fc (eval (.Subscript (.Name x p1) (.Slice none (some (.Constant (.int n) k p2)) none p3) pos) fc.env) st K X := by
  intro s r
  refine wpAny_Subscript_list_slice ((e_name (K := fun p st₁ => p = .al xs ∧ st₁ = st) hx ⟨rfl, rfl⟩ hd s r).use (fun p st₁ v s₁ q r₁ S kk => ?_) fun _ _ z => z)
  obtain ⟨rfl, rfl⟩ := kk
  rw [evalPart_none]
  refine wpAny_pure ?_
  rw [evalPart_some]
  refine wpAny_Constant_int ?_
  cases q with
  | @al a o vs c _ h1 h2 h3 h4 h5 =>
    have hlen := h5.length
    have hsz : vs.toList.length = vs.size := by simp
    have epick : slicePick vs none (some (n : Int)) none = (vs.toList.take n).toArray := by
      rw [kms_pick_eq]
      congr 1
      unfold kms_pick kms_lo kms_hi
      simp only [List.drop_zero, Nat.sub_zero]
      have : ¬ ((n : Int) < 0) := by omega
      simp [this]
    refine ⟨a, vs, none, some n, rfl, ⟨o, h1, h2, c, h3⟩, by rw [sizeLine_eq]; omega, .none, .int _ _, ?_⟩
    rw [epick]
    have S1 := Step.push (fc := fc) (σ := st₁.σ) (h := s₁.heap) (o := { cls := .type "slice", data := .fields #[.none, .int (n : Int) s₁.toks, .none] })
    have r2 := R.toks (k := s₁.toks + 1) (r₁.push { cls := .type "slice", data := .fields #[.none, .int (n : Int) s₁.toks, .none] })
    have S2 := Step.push (fc := fc) (σ := st₁.σ) (h := (s₁.heap.push { cls := .type "slice", data := .fields #[.none, .int (n : Int) s₁.toks, .none] })) (o := { cls := .type "list", data := .seq (vs.toList.take n).toArray })
    have r3 := r2.push { cls := .type "list", data := .seq (vs.toList.take n).toArray }
    refine ⟨.fl (xs.take n), st₁, ?_, r3, S.trans (S1.trans S2), h⟩
    have e : (s₁.heap.push { cls := .type "slice", data := .fields #[.none, .int (n : Int) s₁.toks, .none] }).objs.size = s₁.heap.objs.size + 1 := by rw [Heap.size_push]
    have f := r2.fresh
    rw [← e]
    have safe1 : Safe st₁.σ s₁.heap st₁.σ (s₁.heap.push { cls := .type "slice", data := .fields #[.none, .int (n : Int) s₁.toks, .none] }) := r₁.safe (st' := st₁) (s' := { s₁ with heap := _ }) S1
    have safe2 := r2.safe (st' := st₁) (s' := { s₁ with heap := _ }) S2
    exact .fl (vs := (vs.toList.take n).toArray) (Heap.get?_push_size _ rfl) f ((VRs.safe safe2 (VRs.safe safe1 h5)).take n)

-- dict displays
theorem e_dict0 {pos : Pos} {K : PV → AS → Prop} (h : ∀ a, st.σ a = none → K (.ref a) (st.up a (.dct []))) : WE g fc (eval (.Dict [] [] pos) fc.env) st K X := by
  intro s r
  refine wpAny_Dict_empty ?_
  have z := r.new (o := { cls := .type "dict", data := .dict #[] }) (mo := .dct []) (fun σ' hs => ⟨[], Heap.DictOf.new _, rfl, .nil⟩)
  exact ⟨.ref _, _, .ref _, z.1, z.2, h _ r.fresh⟩
theorem e_dict2 {k1 k2 : Str} {e1 e2 : Expr} {n1 n2 : Nat} {p1 p2 pos : Pos} {K : PV → AS → Prop} (hk : k1 ≠ k2)
    (h : ∀ a, st.σ a = none → WE g fc (eval e1 fc.env) (st.up a (.dct [])) (fun q1 st₁ => WE g fc (eval e2 fc.env) st₁ (fun q2 st₂ => st₂.σ a = some (.dct []) ∧ K (.ref a) (st₂.up a (.dct [(k1, q1), (k2, q2)]))) X) X) :
    WE g fc (eval (.Dict [some (.Constant (.str k1) n1 p1), some (.Constant (.str k2) n2 p2)] [e1, e2] pos) fc.env) st K X := by
  intro s r
  refine wpAny_Dict_walk (knd := strKind g.prog g.w) rfl rfl (by simp) (by simp) ?_
  have z := r.new (o := { cls := .type "dict", data := .dict #[] }) (mo := .dct []) (fun σ' hs => ⟨[], Heap.DictOf.new _, rfl, .nil⟩)
  show wpAny _ _ (evalPairs [(eval (.Constant (.str k1) n1 p1) fc.env, do let x ← eval e1 fc.env; standAt pos; pure x), (eval (.Constant (.str k2) n2 p2) fc.env, do let x ← eval e2 fc.env; standAt pos; pure x)]) _ _ _
  refine evalPairs_cons (Calls.Constant_str ?_)
  refine wpAny_bind ?_
  refine (h _ r.fresh _ z.1.toks).use (fun q1 st₁ v1 s₁ w1 r₁ S₁ kk => ?_) fun _ _ y => EPost.from z.2 y
  refine wpAny_bind (wpAny_standAt (wpAny_pure ?_))
  refine evalPairs_cons (Calls.Constant_str ?_)
  refine wpAny_bind ?_
  refine (kk _ r₁.toks).use (fun q2 st₂ v2 s₂ w2 r₂ S₂ kk => ?_) fun _ _ y => EPost.from (z.2.trans S₁) y
  refine wpAny_bind (wpAny_standAt (wpAny_pure ?_))
  refine evalPairs_nil ?_
  obtain ⟨ha, kk⟩ := kk
  have gone := r₂.sto _ _ ha
  obtain ⟨kvs, hd, hke, hv⟩ := gone.2
  have : kvs = [] := by simpa using hke
  subst this
  have sw := w1.safe (r₁.safe S₂)
  refine ⟨[(k1, v1), (k2, v2)], ⟨strKind_is _ _ _ _, rfl, strKind_is _ _ _ _, rfl, trivial⟩, hd, fun h' hdo hs => ?_⟩
  have hm : merged [] [(k1, v1), (k2, v2)] = [(k1, v1), (k2, v2)] := by simp [merged, stored, hk]
  rw [hm] at hdo
  have zz := r₂.set (h' := h') (mo' := .dct [(k1, q1), (k2, q2)]) (tk := s₂.toks + 2) ha hs (fun σ' ss => ⟨[(k1, v1), (k2, v2)], hdo, rfl, .cons (sw.safe ss) (.cons (w2.safe ss) .nil)⟩)
  exact ⟨.ref _, _, .ref _, zz.1, z.2.trans (S₁.trans (S₂.trans zz.2.1)), kk⟩

-- storing
noncomputable def put (es : List (Str × PV)) (k : Str) (p : PV) : List (Str × PV) :=
  if es.any (fun e => e.1 = k) then es.map (fun e => if e.1 = k then (e.1, p) else e) else es ++ [(k, p)]
theorem put_rel {σ : Store} {h : Heap} {k : Str} {p : PV} {v : Value} (hp : VR σ h p v) {es : List (Str × PV)} {kvs : List (Str × Value)} (e : kvs.map (·.1) = es.map (·.1)) (r : VRs σ h (es.map (·.2)) (kvs.map (·.2))) :
    (stored kvs k v).map (·.1) = (put es k p).map (·.1) ∧ VRs σ h ((put es k p).map (·.2)) ((stored kvs k v).map (·.2)) := by
  have ha : kvs.any (fun kv => decide (kv.1 = k)) = es.any (fun e => decide (e.1 = k)) := by
    have h1 : kvs.any (fun kv => decide (kv.1 = k)) = (kvs.map (·.1)).any (fun x => decide (x = k)) := by rw [List.any_map]; rfl
    have h2 : es.any (fun kv => decide (kv.1 = k)) = (es.map (·.1)).any (fun x => decide (x = k)) := by rw [List.any_map]; rfl
    rw [h1, h2, e]
  unfold put stored
  rw [ha]
  split
  · rename_i hx
    clear ha hx
    induction es generalizing kvs with
    | nil => cases kvs with
      | nil => exact ⟨rfl, .nil⟩
      | cons _ _ => simp at e
    | cons x xs ih => cases kvs with
      | nil => simp at e
      | cons y ys =>
        simp only [List.map_cons, List.cons.injEq] at e
        simp only [List.map_cons] at r
        cases r with
        | cons a b =>
          obtain ⟨i1, i2⟩ := ih e.2 b
          simp only [List.map_cons]
          by_cases q : x.1 = k
          · rw [if_pos q, if_pos (e.1.trans q)]
            exact ⟨by rw [e.1, i1], .cons hp i2⟩
          · rw [if_neg q, if_neg (fun z => q (e.1.symm.trans z))]
            exact ⟨by rw [e.1, i1], .cons a i2⟩
  · rw [List.map_append, List.map_append, List.map_append, List.map_append, e]
    exact ⟨rfl, r.append (.one hp)⟩
theorem set_dict {a : Addr} {es : List (Str × PV)} {k : Str} {t : Tok} {p : PV} {v : Value} {s : Shared} (e : st.σ a = some (.dct es)) (hl : es.length ≤ 10000) (r : R g fc st s) (hv : VR st.σ s.heap p v) {K : Unit → AS → Prop}
    (h : K () (st.up a (.dct (put es k p)))) : Wat g fc URl (setItem (.ref a) (.str k t) v) st s K X := by
  obtain ⟨kvs, hd, hk, hvs⟩ := (r.sto a _ e).2
  have hlen : kvs.length = es.length := by have := congrArg List.length hk; simpa using this
  refine wpAny_setItem_pairs (knd := strKind g.prog g.w) (strKind_is _ _ _ _) hd (fun h' hd' hs => ?_) (by rw [sizeLine_eq]; omega)
  have zz := r.set (h' := h') (mo' := .dct (put es k p)) (tk := s.toks + 1) e hs (fun σ' ss => by
    obtain ⟨a1, a2⟩ := put_rel (k := k) (hv.safe ss) hk (VRs.safe ss hvs)
    exact ⟨_, hd', a1, a2⟩)
  exact ⟨(), _, trivial, zz.1, zz.2.1, h⟩

-- lists
theorem add_ff {xs ys : List PV} {K : PV → AS → Prop} (hl : xs.length + ys.length ≤ 10000) (h : K (.fl (xs ++ ys)) st) : On2 g fc (binaryOp .Add) (.fl xs) (.fl ys) st K X := by
  intro s a b r va vb
  obtain ⟨la, vs, n, rfl, h1, h4, h5⟩ := VR.inv_fl va
  · obtain ⟨lb, us, n', rfl, k1, k4, k5⟩ := VR.inv_fl vb
    · 
      have e1 := h5.length
      have e2 := k5.length
      have z1 : vs.toList.length = vs.size := by simp
      have z2 : us.toList.length = us.size := by simp
      refine P.add_list (items := vs) (items2 := us) h1 k1 ?_ (by rw [sizeLine_eq]; omega)
      have S := Step.push (fc := fc) (σ := st.σ) (h := s.heap) (o := { cls := .type "list", data := .seq (vs ++ us) })
      have sf := r.safe (st' := st) (s' := { s with heap := _ }) S
      exact ⟨.fl (xs ++ ys), st, .fl (vs := vs ++ us) (Heap.get?_push_size _ rfl) r.fresh (by rw [Array.toList_append]; exact (h5.safe sf).append (k5.safe sf)), r.push _, S, h⟩
end
end Mine

namespace Mine
noncomputable abbrev KF (P : Params) : Frag := hd.heap_39 P
theorem n_tell (P : Params) : nsIn (KF P) mainGlobals ("_law_tell" : Str) = some (some (.ref 87)) := by kernel_rfl
theorem n_formal (P : Params) : nsIn (KF P) mainGlobals ("_law_formal" : Str) = some (some (.ref 94)) := by kernel_rfl
theorem n_rows (P : Params) : nsIn (KF P) mainGlobals ("_law_rows" : Str) = some (some (.ref 99)) := by kernel_rfl
theorem n_choice (P : Params) : nsIn (KF P) mainGlobals ("_law_choice" : Str) = some (some (.ref 106)) := by kernel_rfl
theorem n_plain (P : Params) : nsIn (KF P) mainGlobals ("_law_plain" : Str) = some (some (.ref 113)) := by kernel_rfl
theorem n_due (P : Params) : nsIn (KF P) mainGlobals ("_law_due" : Str) = some (some (.ref 118)) := by kernel_rfl
theorem n_heard (P : Params) : nsIn (KF P) mainGlobals ("_law_heard" : Str) = some (some (.ref 125)) := by kernel_rfl
theorem n_match (P : Params) : nsIn (KF P) mainGlobals ("match_formals" : Str) = some (some (.ref 79)) := by kernel_rfl
theorem n_fnames (P : Params) : nsIn (KF P) mainGlobals ("formal_names" : Str) = some (some (.ref 60)) := by kernel_rfl
theorem n_dflt (P : Params) : nsIn (KF P) mainGlobals ("default_of" : Str) = some (some (.ref 67)) := by kernel_rfl
theorem n_cname (P : Params) : nsIn (KF P) mainGlobals ("choice_name" : Str) = some (some (.ref 74)) := by kernel_rfl
theorem n_fault (P : Params) : nsIn (KF P) mainGlobals ("CheckFault" : Str) = some (some (.ref 51)) := by kernel_rfl
theorem n_ada (P : Params) : nsIn (KF P) mainGlobals ("AdaError" : Str) = some (some (.ref 31)) := by kernel_rfl
theorem n_names (P : Params) : nsIn (KF P) mainGlobals ("_law_names" : Str) = some (some (.ref 80)) := by kernel_rfl
theorem n_len (P : Params) : nsIn (KF P) mainGlobals ("len" : Str) = some none := by kernel_rfl
theorem n_list (P : Params) : nsIn (KF P) mainGlobals ("list" : Str) = some none := by kernel_rfl
theorem n_range (P : Params) : nsIn (KF P) mainGlobals ("range" : Str) = some none := by kernel_rfl
theorem n_exc (P : Params) : nsIn (KF P) mainGlobals ("Exception" : Str) = some none := by kernel_rfl
theorem k_tell (P : Params) : keepIn (KF P) (.ref 87) = true := by kernel_rfl
theorem k_formal (P : Params) : keepIn (KF P) (.ref 94) = true := by kernel_rfl
theorem k_rows (P : Params) : keepIn (KF P) (.ref 99) = true := by kernel_rfl
theorem k_choice (P : Params) : keepIn (KF P) (.ref 106) = true := by kernel_rfl
theorem k_plain (P : Params) : keepIn (KF P) (.ref 113) = true := by kernel_rfl
theorem k_due (P : Params) : keepIn (KF P) (.ref 118) = true := by kernel_rfl
theorem k_heard (P : Params) : keepIn (KF P) (.ref 125) = true := by kernel_rfl
theorem k_match (P : Params) : keepIn (KF P) (.ref 79) = true := by kernel_rfl
theorem k_fnames (P : Params) : keepIn (KF P) (.ref 60) = true := by kernel_rfl
theorem k_dflt (P : Params) : keepIn (KF P) (.ref 67) = true := by kernel_rfl
theorem k_cname (P : Params) : keepIn (KF P) (.ref 74) = true := by kernel_rfl
example : bootBuiltins "len" = some (.builtin "len") := PyProof.Rows.Boot.«len»
end Mine

namespace Mine

theorem R.keeps {g : Gx} {fc : Fc} {st : AS} {s : Shared} {h' : Heap} {tk : Nat} (r : R g fc st s) (keep : ∀ b x, s.heap.get? b = some x → h'.get? b = some x) :
    R g fc st { s with heap := h', toks := tk } ∧ Step fc st.σ st.σ s.heap h' ∧ Safe st.σ s.heap st.σ h' := by
  have hs : Safe st.σ s.heap st.σ h' := fun a x vs n e _ q => ⟨keep _ _ e, q⟩
  refine ⟨⟨r.ok, fun b x e => keep _ _ (r.base b x e), r.gens, r.os, ?_, fun x ca e => ?_, r.nl, fun L e => ?_, fun a mo e => ?_⟩, ⟨fun b x e => ⟨x, keep _ _ e⟩, fun b x e _ _ => keep _ _ e, fun b x e _ _ => ⟨x.slots, keep _ _ e⟩, fun _ _ _ e => e⟩, hs⟩
  · obtain ⟨mV, hn, hb⟩ := r.loc
    refine ⟨mV, hn.keeps keep, fun x p e => ?_⟩
    rcases hb x p e with ⟨a, v, b, c⟩ | ⟨a, ca, ob, v, b, c, d, e⟩
    · exact .inl ⟨a, v, b, c.safe hs⟩
    · exact .inr ⟨a, ca, ob, v, b, keep _ _ c, d, e.safe hs⟩
  · obtain ⟨a, b, ob, v, c, d⟩ := r.cel x ca e
    exact ⟨a, b, ob, v, keep _ _ c, d⟩
  · obtain ⟨a, b, ob, es, ep, c, d⟩ := r.fr L e
    exact ⟨a, b, ob, es, ep, keep _ _ c, d⟩
  · obtain ⟨a, b⟩ := r.sto a mo e
    refine ⟨a, ?_⟩
    cases mo with
    | lst xs => obtain ⟨vs, b1, b2⟩ := b; exact ⟨vs, b1.at fun o e => keep _ _ e, b2.safe hs⟩
    | dct es => obtain ⟨kvs, b1, b2, b3⟩ := b; exact ⟨kvs, b1.at fun o e => keep _ _ e, b2, b3.safe hs⟩

theorem R.none_of_le {g : Gx} {fc : Fc} {st : AS} {s : Shared} (r : R g fc st s) {a : Addr} (l : s.heap.objs.size ≤ a) : st.σ a = none := by
  cases q : st.σ a with
  | none => rfl
  | some mo =>
    have h := (r.sto _ _ q).2
    cases mo with
    | lst xs => obtain ⟨vs, ⟨n, e⟩, _⟩ := h; exact absurd (Heap.lt_size e) (Nat.not_lt.mpr l)
    | dct es => obtain ⟨kvs, ⟨o, es, ep, e, _⟩, _⟩ := h; exact absurd (Heap.lt_size e) (Nat.not_lt.mpr l)

theorem R.new1 {g : Gx} {fc : Fc} {st : AS} {s : Shared} (r : R g fc st s) {a : Addr} (la : s.heap.objs.size ≤ a) : g.h0.get? a = none ∧ a ≠ sysModules := by
  refine ⟨?_, fun z => ?_⟩
  · cases q : g.h0.get? a with
    | none => rfl
    | some o => exact absurd (Heap.lt_size (r.base _ _ q)) (Nat.not_lt.mpr la)
  · obtain ⟨o, e⟩ := g.sys
    have := Nat.lt_of_lt_of_le (Heap.lt_size (r.base _ _ e)) la
    rw [z] at this
    exact absurd this (by decide)
theorem R.newK {g : Gx} {fc : Fc} {st : AS} {s : Shared} {h' : Heap} {tk : Nat} {a : Addr} {mo : MO} (r : R g fc st s) (keep : ∀ b x, s.heap.get? b = some x → h'.get? b = some x)
    (la : s.heap.objs.size ≤ a) (hm : ∀ σ', Safe st.σ s.heap σ' h' → MR g.prog g.w σ' h' a mo) :
    R g fc (st.up a mo) { s with heap := h', toks := tk } ∧ Step fc st.σ (upd st.σ a mo) s.heap h' ∧ st.σ a = none := by
  have ne : ∀ b x, s.heap.get? b = some x → b ≠ a := fun b x e => Nat.ne_of_lt (Nat.lt_of_lt_of_le (Heap.lt_size e) la)
  have hs : Safe st.σ s.heap (upd st.σ a mo) h' := fun b x vs n e _ q => ⟨keep _ _ e, (upd_ne (ne b x e)).trans q⟩
  refine ⟨⟨r.ok, fun b x e => keep _ _ (r.base b x e), r.gens, r.os, ?_, fun x ca e => ?_, ⟨r.nl.1, ?_⟩, fun L e => ?_, fun b mb e => ?_⟩, ⟨fun b x e => ⟨x, keep _ _ e⟩, fun b x e _ _ => keep _ _ e, fun b x e _ _ => ⟨x.slots, keep _ _ e⟩, fun b x e q => (upd_ne (ne b x e)).trans q⟩, r.none_of_le la⟩
  · obtain ⟨mV, hn, hb⟩ := r.loc
    refine ⟨mV, hn.keeps keep, fun x p e => ?_⟩
    rcases hb x p e with ⟨a, v, b, c⟩ | ⟨a, ca, ob, v, b, c, d, e⟩
    · exact .inl ⟨a, v, b, c.safe hs⟩
    · exact .inr ⟨a, ca, ob, v, b, keep _ _ c, d, e.safe hs⟩
  · obtain ⟨a, b, ob, v, c, d⟩ := r.cel x ca e
    exact ⟨a, (upd_ne (ne _ _ c)).trans b, ob, v, keep _ _ c, d⟩
  · obtain ⟨mV, ⟨ob, es, ep, c, _⟩, _⟩ := r.loc
    exact (upd_ne (ne _ _ c)).trans r.nl.2
  · obtain ⟨a, b, ob, es, ep, c, d⟩ := r.fr L e
    exact ⟨a, (upd_ne (ne _ _ c)).trans b, ob, es, ep, keep _ _ c, d⟩
  · change upd _ _ _ _ = _ at e
    by_cases q : b = a
    · subst q; rw [upd_self] at e; cases e; exact ⟨r.new1 la, hm _ hs⟩
    · rw [upd_ne q] at e
      obtain ⟨a, z⟩ := r.sto b mb e
      refine ⟨a, ?_⟩
      cases mb with
      | lst xs => obtain ⟨vs, b1, b2⟩ := z; exact ⟨vs, b1.at fun o e => keep _ _ e, b2.safe hs⟩
      | dct es => obtain ⟨kvs, b1, b2, b3⟩ := z; exact ⟨kvs, b1.at fun o e => keep _ _ e, b2, b3.safe hs⟩

structure Gx.Ok (g : Gx) : Prop where
  K : (KF g.w.params).In g.h0
  lim : g.h0.NoLimit
  gl : ∃ mg, g.h0.Ns mainGlobals mg
  bi : ∃ mb, g.h0.Ns builtinsNs mb ∧ ∀ x : Str, x ≠ "__name__" → mb x = bootBuiltins x

section
variable {g : Gx} {fc : Fc} {st : AS} {s : Shared} {X : Int → AS → Prop}
theorem name_glob (G : g.Ok) (r : R g fc st s) {x : Str} {pos : Pos} {v : Value} {Q : Value → Shared → Prop} {E : Value → Shared → Prop} (hn : nsIn (KF g.w.params) mainGlobals x = some (some v)) (hx : fc.env.kindOf x = some .globalImplicit) (h : Q v s)
    (hd : (x == ("__debug__" : Str)) = false := by decide) : wpAny g.M fc.A (eval (.Name x pos) fc.env) Q E s := by
  obtain ⟨mg, hg⟩ := G.gl
  refine Calls.Name_function_global r.ok.kind hx (Calls.loadGlobal_global (mg := mg) ?_ (mg_of G.K hg hn) h) hd
  rw [r.ok.glob]; exact hg.keeps r.base
theorem name_boot (G : g.Ok) (r : R g fc st s) {x : Str} {pos : Pos} {v : Value} {Q : Value → Shared → Prop} {E : Value → Shared → Prop} (hn : nsIn (KF g.w.params) mainGlobals x = some none) (hv : bootBuiltins x = some v) (hnn : x ≠ "__name__") (hx : fc.env.kindOf x = some .globalImplicit) (h : Q v s)
    (hd : (x == ("__debug__" : Str)) = false := by decide) : wpAny g.M fc.A (eval (.Name x pos) fc.env) Q E s := by
  obtain ⟨mg, hg⟩ := G.gl
  obtain ⟨mb, hb, hbb⟩ := G.bi
  refine Calls.Name_function_global r.ok.kind hx (Calls.loadGlobal_builtin (mg := mg) (mb := mb) ?_ (mg_none_of G.K hg hn) ?_ ((hbb x hnn).trans hv) h) hd
  · rw [r.ok.glob]; exact hg.keeps r.base
  · rw [r.ok.bi]; exact hb.keeps r.base

/-- a call of a def of the text -/
noncomputable def WC (g : Gx) (fc : Fc) (f : Addr) (pvs : List PV) (σ : Store) (K : PV → Store → Prop) (X : Int → Store → Prop) : Prop :=
  ∀ st s vals, st.σ = σ → R g fc st s → VRs σ s.heap pvs vals →
    Wat g fc VR (call (.ref f) vals []) st s (fun p st' => ∃ σ', st' = { st with σ := σ' } ∧ K p σ') (fun l st' => ∃ σ', st' = { st with σ := σ' } ∧ X l σ')
theorem WC.mono {f : Addr} {pvs : List PV} {σ : Store} {K K' : PV → Store → Prop} {X X' : Int → Store → Prop} (h : WC g fc f pvs σ K X) (hk : ∀ p σ', K p σ' → K' p σ') (hx : ∀ l σ', X l σ' → X' l σ') : WC g fc f pvs σ K' X' :=
  fun st s vals e r q => (h st s vals e r q).mono (fun _ _ ⟨σ', a, b⟩ => ⟨σ', a, hk _ _ b⟩) fun _ _ ⟨σ', a, b⟩ => ⟨σ', a, hx _ _ b⟩

theorem e_call {f : Str} {fa : Addr} {a : Expr} {args : List Expr} {p pos : Pos} {K : PV → AS → Prop} (G : g.Ok) (hn : nsIn (KF g.w.params) mainGlobals f = some (some (.ref fa))) (hk : keepIn (KF g.w.params) (.ref fa) = true) (hx : fc.env.kindOf f = some .globalImplicit)
    (h : WL g fc (spliced (backTo pos (starEach (a :: args) fc.env))) st (fun pvs st₁ => WC g fc fa pvs st₁.σ (fun q σ' => K q { st₁ with σ := σ' }) (fun l σ' => X l { st₁ with σ := σ' })) X)
    (he : starEach (a :: args) fc.env = (false, eval a fc.env) :: starEach args fc.env := by rfl) (hplain : (backTo pos (starEach args fc.env)).any (·.1) = false := by rfl)
    (hd : (f == ("__debug__" : Str)) = false := by decide) : WE g fc (eval (.Call (.Name f p) (a :: args) [] pos) fc.env) st K X := by
  intro s r
  refine Call_ (name_glob G r hn hx ?_ hd)
  refine callWith_K (K := KF g.w.params) (h₀ := g.h0) G.K hk ?_ he hplain
  refine (h s r).use (fun pvs st₁ vs s₁ q r₁ S k => ?_) fun _ _ z => z
  refine ⟨G.K.keeps r₁.base, ?_⟩
  refine Wat.from S ((k st₁ s₁ vs rfl r₁ q).mono ?_ ?_)
  · rintro q _ ⟨σ', rfl, k⟩; exact k
  · rintro l _ ⟨σ', rfl, k⟩; exact k

inductive KLn (K : PV → AS → Prop) (q : PV) (st : AS) : Prop
  | mk (n : Nat) (hn : n ≤ 10000) (hq : match q with | .fl xs => xs.length = n | .ref a => (match st.σ a with | some (.lst xs) => xs.length = n | some (.dct es) => es.length = n | none => False) | _ => False) (k : K (.int n) st)
theorem e_len {e : Expr} {p pos : Pos} {K : PV → AS → Prop} (G : g.Ok) (hx : fc.env.kindOf "len" = some .globalImplicit)
    (h : WE g fc (eval e fc.env) st (KLn K) X)
    (he : starEach [e] fc.env = [(false, eval e fc.env)] := by rfl) : WE g fc (eval (.Call (.Name "len" p) [e] [] pos) fc.env) st K X := by
  intro s r
  refine Call_ (name_boot G r (n_len _) PyProof.Rows.Boot.«len» (by decide) hx ?_)
  refine Calls.callWith_builtin (by rw [he]; rfl) ?_
  have hb : backTo pos (starEach [e] fc.env) = [(false, eval e fc.env)] := by rw [he]; rfl
  show wpAny _ _ (evalArgs _ true (backTo pos (starEach [e] fc.env)) []) _ _ _
  rw [hb]
  refine Calls.evalArgs_plain (Calls.spliced_cons ?_)
  refine (h s r).use (fun q st₁ v s₁ w r₁ S k => ?_) fun _ _ z => z
  refine Calls.spliced_nil ?_
  obtain ⟨n, hn, hq, k⟩ := k
  show wpAny _ _ (call (.builtin "len") [v]) _ _ _
  cases w with
  | @fl a vs c xs h1 h4 h5 =>
    simp only at hq
    have e1 := h5.length
    have e2 : vs.toList.length = vs.size := by simp
    have e3 : vs.size = n := by omega
    refine Calls.call_len_list (items := vs) ⟨_, h1, rfl, c, rfl⟩ (by omega) ?_
    rw [e3]
    exact Post.from S (Post.toks (s := { s₁ with toks := s₁.toks + 1 + 1 }) (k := s₁.toks + 1 + 1) r₁.toks (.int _ _) k)
  | ref a =>
    simp only at hq
    cases q : st₁.σ a with
    | none => rw [q] at hq; exact hq.elim
    | some mo =>
      rw [q] at hq
      have z := (r₁.sto a mo q).2
      cases mo with
      | lst xs =>
        obtain ⟨vs, hd, hv⟩ := z
        simp only at hq
        have e1 := hv.length
        have e2 : vs.toList.length = vs.size := by simp
        have e3 : vs.size = n := by omega
        refine Calls.call_len_list (items := vs) hd.isList (by omega) ?_
        rw [e3]
        exact Post.from S (Post.toks (s := { s₁ with toks := s₁.toks + 1 + 1 }) (k := s₁.toks + 1 + 1) r₁.toks (.int _ _) k)
      | dct es =>
        obtain ⟨kvs, hd, hk, hv⟩ := z
        simp only at hq
        have e3 : kvs.length = n := by have := congrArg List.length hk; simp at this; omega
        refine call_len_dict (knd := strKind g.prog g.w) (DictNe r₁ G.lim q) hd (by omega) ?_
        rw [e3]
        exact Post.from S (Post.toks (s := { s₁ with toks := s₁.toks + 1 + 1 }) (k := s₁.toks + 1 + 1) r₁.toks (.int _ _) k)
  | none => exact hq.elim
  | bool _ => exact hq.elim
  | int _ _ => exact hq.elim
  | str _ _ => exact hq.elim
  | tup _ _ _ => exact hq.elim
  | al _ _ _ _ _ => exact hq.elim

/-- list(range(e)) -/
noncomputable def intsTo (n : Nat) : List PV := (List.range n).map fun i => PV.int (i : Nat)
theorem intsTo_rel {σ : Store} {h : Heap} {acc : Array Value} {n : Nat} (hi : ItemsOf (fun i v => ∃ t, v = Value.int (0 + i * 1) t) acc n) : VRs σ h (intsTo n) acc.toList := by
  obtain ⟨hl, hv⟩ := hi
  unfold intsTo
  have key : ∀ (l : List Value) (m k : Nat), l.length = m → (∀ j v, l[j]? = some v → ∃ t, v = Value.int ((k + j : Nat) : Int) t) → VRs σ h ((List.range' k m).map fun i => PV.int (i : Nat)) l := by
    intro l
    induction l with
    | nil => intro m k e _; simp at e; subst e; exact .nil
    | cons v l ih =>
      intro m k e hj
      cases m with
      | zero => simp at e
      | succ m =>
        rw [List.range'_succ, List.map_cons]
        obtain ⟨t, rfl⟩ := hj 0 v rfl
        refine .cons (.int _ _) (ih m (k + 1) (by simpa using e) fun j v e => ?_)
        obtain ⟨t, rfl⟩ := hj (j + 1) v (by simpa using e)
        exact ⟨t, by congr 1; omega⟩
  rw [List.range_eq_range']
  refine key acc.toList n 0 (by simpa using hl) fun j v e => ?_
  obtain ⟨t, rfl⟩ := hv j v (by simpa using e)
  exact ⟨t, by congr 1; omega⟩
end
end Mine

namespace Mine

/-- what the notes on a flying exception change: records made behind n, the slots of frames -/
structure Late (n : Heap) (fr : List Addr) (h h' : Heap) : Prop where
  live : ∀ b o, h.get? b = some o → ∃ o', h'.get? b = some o'
  keep : ∀ b o, h.get? b = some o → (n.get? b ≠ none ∨ ∀ vs, o.data ≠ .fields vs) → b ∉ fr → h'.get? b = some o
  slots : ∀ b o, h.get? b = some o → (n.get? b ≠ none ∨ ∀ vs, o.data ≠ .fields vs) → b ∈ fr → ∃ sl, h'.get? b = some { o with slots := sl }
theorem Late.refl {n : Heap} {fr : List Addr} {h : Heap} : Late n fr h h := ⟨fun _ o e => ⟨o, e⟩, fun _ _ e _ _ => e, fun _ o e _ _ => ⟨o.slots, e⟩⟩
theorem Late.trans {n : Heap} {fr : List Addr} {h h' h'' : Heap} (x : Late n fr h h') (y : Late n fr h' h'') : Late n fr h h'' :=
  ⟨fun b o e => let ⟨o', e'⟩ := x.live b o e; y.live b o' e', fun b o e c m => y.keep b o (x.keep b o e c m) c m, fun b o e c m => by
    obtain ⟨s1, h1⟩ := x.slots b o e c m
    obtain ⟨s2, h2⟩ := y.slots b _ h1 c m
    exact ⟨s2, h2⟩⟩

section
variable {g : Gx} {fc : Fc} {st st₀ : AS} {s s₀ : Shared} {n h' : Heap}
theorem R.late (r : R g fc st s) (L : Late n fc.fr s.heap h') (hn : ∀ b o, g.h0.get? b = some o → n.get? b ≠ none) : R g fc st { s with heap := h' } ∧ Safe st.σ s.heap st.σ h' := by
  have nf : ∀ b o, g.h0.get? b = some o → b ∉ fc.fr := fun b o l m => by rw [(r.fr b m).1] at l; cases l
  have hs : Safe st.σ s.heap st.σ h' := fun a x vs k e d q => ⟨L.keep a x e (.inr fun ws z => by rw [d] at z; cases z) (fun m => by
    obtain ⟨_, _, o, es, ep, h1, h2⟩ := r.fr a m
    rw [e] at h1; cases h1; rw [d] at h2; cases h2), q⟩
  have dd : ∀ b o es ep, s.heap.get? b = some o → o.data = .dict es ep → ∃ o', h'.get? b = some o' ∧ o'.data = .dict es ep := fun b o es ep e d => by
    by_cases m : b ∈ fc.fr
    · obtain ⟨sl, h1⟩ := L.slots b o e (.inr fun ws z => by rw [d] at z; cases z) m
      exact ⟨_, h1, d⟩
    · exact ⟨o, L.keep b o e (.inr fun ws z => by rw [d] at z; cases z) m, d⟩
  have cc : ∀ b o v, s.heap.get? b = some o → o.data = .cell v → h'.get? b = some o := fun b o v e d => L.keep b o e (.inr fun ws z => by rw [d] at z; cases z) fun m => by
    obtain ⟨_, _, o', es, ep, h1, h2⟩ := r.fr b m
    rw [e] at h1; cases h1; rw [d] at h2; cases h2
  refine ⟨⟨r.ok, fun b x e => L.keep b x (r.base b x e) (.inl (hn b x e)) (nf b x e), r.gens, r.os, ?_, fun x ca e => ?_, r.nl, fun a m => ?_, fun a mo e => ?_⟩, hs⟩
  · obtain ⟨mV, ⟨o, es, ep, h1, h2, h3⟩, hb⟩ := r.loc
    obtain ⟨o', h1', h2'⟩ := dd _ _ _ _ h1 h2
    refine ⟨mV, ⟨o', es, ep, h1', h2', h3⟩, fun x p e => ?_⟩
    rcases hb x p e with ⟨a, v, b, c⟩ | ⟨a, ca, ob, v, b, c, d, e⟩
    · exact .inl ⟨a, v, b, c.safe hs⟩
    · exact .inr ⟨a, ca, ob, v, b, cc _ _ _ c d, d, e.safe hs⟩
  · obtain ⟨a, b, ob, v, c, d⟩ := r.cel x ca e
    exact ⟨a, b, ob, v, cc _ _ _ c d, d⟩
  · obtain ⟨a1, b, o, es, ep, h1, h2⟩ := r.fr a m
    obtain ⟨o', h1', h2'⟩ := dd _ _ _ _ h1 h2
    exact ⟨a1, b, o', es, ep, h1', h2'⟩
  · obtain ⟨a1, b⟩ := r.sto a mo e
    have m : a ∉ fc.fr := fun m => by rw [(r.fr a m).2.1] at e; cases e
    refine ⟨a1, ?_⟩
    cases mo with
    | lst xs => obtain ⟨vs, ⟨c, b1⟩, b2⟩ := b; exact ⟨vs, ⟨c, L.keep a _ b1 (.inr fun ws z => by cases z) m⟩, b2.safe hs⟩
    | dct es =>
      obtain ⟨kvs, ⟨o, es', ep, b1, b2, b3, b4⟩, c2, c3⟩ := b
      exact ⟨kvs, ⟨o, es', ep, L.keep a _ b1 (.inr fun ws z => by rw [b3] at z; cases z) m, b2, b3, b4⟩, c2, c3.safe hs⟩
theorem Step.late {σ σ' : Store} {h h₁ h' : Heap} (S : Step fc σ σ' h h₁) (L : Late h fc.fr h₁ h') : Step fc σ σ' h h' := by
  refine ⟨fun b o e => let ⟨o', e'⟩ := S.live b o e; L.live b o' e', fun b o e nf m => L.keep b o (S.keep b o e nf m) (.inl (by rw [e]; simp)) m, fun b o e nf m => ?_, S.grow⟩
  obtain ⟨s1, h1⟩ := S.slots b o e nf m
  obtain ⟨s2, h2⟩ := L.slots b _ h1 (.inl (by rw [e]; simp)) m
  exact ⟨s2, h2⟩

theorem R.funFrames (r : R g fc st s) : s.heap.FunFrames g.h0 fc.envs := by
  have key : ∀ l : List Env, (∀ e ∈ l, e ∈ fc.envs) → s.heap.FunFrames g.h0 l := by
    intro l
    induction l with
    | nil => intro _; trivial
    | cons e l ih =>
      intro h
      have he := h e (.head _)
      obtain ⟨hk, hf⟩ := r.ok.all e he
      obtain ⟨L, hL⟩ := Option.isSome_iff_exists.mp hf
      have m : L ∈ fc.fr := List.mem_filterMap.mpr ⟨e, he, hL⟩
      obtain ⟨a, b, o, es, ep, h1, h2⟩ := r.fr L m
      exact ⟨hk, ⟨L, o, hL, a, h1, fun vs z => by rw [h2] at z; cases z⟩, ih fun x hx => h x (.tail _ hx)⟩
  exact key _ fun _ h => h

theorem late_slots {h h' : Heap} (x : Heap.SlotsOnly fc.fr h h') : Late n fc.fr h h' :=
  ⟨fun b o e => let ⟨sl, z⟩ := x.2.2 b o e; ⟨_, z⟩, fun b o e _ m => (x.2.1 b m).trans e, fun b o e _ _ => x.2.2 b o e⟩
theorem late_push {h : Heap} {fr : List Addr} {o : Obj} : Late n fr h (h.push o) :=
  ⟨fun b x e => ⟨x, Heap.get?_push_of_some _ e⟩, fun b x e _ _ => Heap.get?_push_of_some _ e, fun b x e _ _ => ⟨x.slots, Heap.get?_push_of_some _ e⟩⟩
theorem late_rec {h : Heap} {fr : List Addr} {a : Addr} {o : Obj} {vs : Array Value} {f : Obj → Obj} (e : h.get? a = some o) (d : o.data = .fields vs) (l : n.get? a = none) (hf : Obj.isFreed (f o) = false := by exact Obj.isFreed_of_fields (Obj.data_mapFields (by assumption) _)) : Late n fr h (h.update a f) := by
  have ne : ∀ b x, h.get? b = some x → (n.get? b ≠ none ∨ ∀ vs, x.data ≠ .fields vs) → a ≠ b := fun b x q c z => by
    subst z
    rcases c with c | c
    · exact c l
    · rw [e] at q; cases q; exact c _ d
  refine ⟨fun b x q => ?_, fun b x q c _ => (Heap.get?_update_other _ _ (ne b x q c)).trans q, fun b x q c _ => ⟨x.slots, (Heap.get?_update_other _ _ (ne b x q c)).trans q⟩⟩
  by_cases z : a = b
  · subst z; exact ⟨_, Heap.get?_update_self f e hf⟩
  · exact ⟨x, (Heap.get?_update_other _ _ z).trans q⟩

/-- the dict of an exception, under what Late keeps -/
theorem dict_late {fr : List Addr} {h h' : Heap} {d : Addr} {es : List DictEntry} {k : Nat} (L : Late n fr h h') (e : h.get? d = some (dictOf es k)) (m : d ∉ fr) : h'.get? d = some (dictOf es k) :=
  L.keep d _ e (.inr fun vs z => by cases z) m

theorem frameOf_R {Q : Value → Shared → Prop} {E : Value → Shared → Prop} (r : R g fc st s) (h : ∀ L h', fc.env.frame = some L → Heap.SlotsOnly fc.fr s.heap h' → Q (.ref L) { s with heap := h' }) : wpAny g.M fc.A (PySem.frameOf fc.env) Q E s := by
  obtain ⟨e0, rest, he, hf⟩ := r.ok.head
  have ff := r.funFrames
  obtain ⟨L, hL⟩ := Option.isSome_iff_exists.mp (r.ok.all e0 (by rw [he]; exact .head _)).2
  unfold PySem.frameOf
  refine wpAny_bind (wpAny_frameEnvs r.ok.frames ?_)
  have hdw : (fc.envs.dropWhile fun x => x.frame != fc.env.frame) = fc.envs := by rw [he]; simp [List.dropWhile, hf]
  rw [hdw]
  rw [he] at ff ⊢
  unfold frameObject
  refine wpAny_bind (wpAny_bind (wpAny_readyFrames_fun ff fun h₁ hs₁ => wpAny_pure ?_))
  rw [hL]
  exact wpAny_pure (h L h₁ (hf.trans hL) (by unfold Fc.fr; rw [he]; exact hs₁))

theorem FL.ref {b : Bool} {l : Int} {σ : Store} {h : Heap} {e : Value} (x : FL b l n σ h e) : ∃ a, e = .ref a := by
  obtain ⟨a, oe, vs, d, es, k, tb, t, rfl, _⟩ := x; exact ⟨a, rfl⟩

/-- a new entry of the traceback -/
theorem entry_R {l : Int} {a d : Addr} {oe : Obj} {vs : Array Value} {es : List DictEntry} {k : Nat} {t : Tok} {head : Value} {f : Addr} {hadNext : Bool} {Q : Unit → Shared → Prop} {E : Value → Shared → Prop} (r : R g fc st s) (hn : ∀ b o, g.h0.get? b = some o → n.get? b ≠ none) (hl : ∀ b o, n.get? b = some o → ∃ o', s.heap.get? b = some o')
    (h2 : n.get? a = none) (h3 : s.heap.get? a = some oe) (h4 : oe.cls = .ref 51) (h5 : oe.dict = some d) (h6 : oe.data = .fields vs) (h7 : 2 < vs.size)
    (h9 : n.get? d = none) (h10 : s.heap.get? d = some (dictOf es k)) (h11 : getL "line" es = some (some (.int l t))) (h12 : st.σ d = none) (hfr : ∀ b ∈ fc.fr, n.get? b ≠ none)
    (hQ : ∀ h', FL true l n st.σ h' (.ref a) → Late n fc.fr s.heap h' → Q () { s with heap := h' }) :
    wpAny g.M fc.A (do let x ← PySem.frameOf fc.env; let pl ← entryPlaceOf f hadNext; let b ← EntryCells.newEntry head x .none (rawInt f) .none pl; setField (.ref a) 1 b) Q E s := by
  refine wpAny_bind (frameOf_R r fun L h₁ hL hs₁ => ?_)
  refine wpAny_bind (wpAny_entryPlaceOf fun pl hpl => ?_)
  unfold EntryCells.newEntry newFields
  refine wpAny_bind (wpAny_newObj_type ?_ (hpl.sizeOk5 _ _ _ _ _))
  have na : a ∉ fc.fr := fun m => hfr a m h2
  have nd : d ∉ fc.fr := fun m => hfr d m h9
  have he₁ : h₁.get? a = some oe := (hs₁.2.1 a na).trans h3
  have he₂ := Heap.get?_push_of_some (h := h₁) { cls := .type "traceback", dict := none, data := .fields ([head, .ref L, .none, rawInt f, .none] ++ (if pl.isEmpty then List.replicate 6 Value.none else pl)).toArray } he₁
  have hd₁ : h₁.get? d = some (dictOf es k) := (hs₁.2.1 d nd).trans h10
  have hd₂ := Heap.get?_push_of_some (h := h₁) { cls := .type "traceback", dict := none, data := .fields ([head, .ref L, .none, rawInt f, .none] ++ (if pl.isEmpty then List.replicate 6 Value.none else pl)).toArray } hd₁
  refine wpAny_setField he₂ h6 (by omega) (hQ _ ?_ ?_)
  · have hd₃ := Obj.data_mapFields h6 (·.setIfInBounds 1 (Value.ref h₁.objs.size))
    have he₃ := Heap.get?_update_self (Obj.mapFields (·.setIfInBounds 1 (Value.ref h₁.objs.size))) he₂ (Obj.isFreed_of_fields hd₃)
    have hTa : h₁.objs.size ≠ a := Nat.ne_of_gt (Heap.lt_size he₁)
    have hda : a ≠ d := fun z => by rw [z, h10] at h3; cases h3; cases h6
    have hT₃ := (Heap.get?_update_other (h₁.push { cls := .type "traceback", dict := none, data := .fields ([head, .ref L, .none, rawInt f, .none] ++ (if pl.isEmpty then List.replicate 6 Value.none else pl)).toArray })
      (Obj.mapFields (·.setIfInBounds 1 (Value.ref h₁.objs.size))) (Ne.symm hTa)).trans (Heap.get?_push_size h₁ rfl)
    refine ⟨a, _, _, d, es, k, .ref h₁.objs.size, t, rfl, h2, he₃, (Obj.cls_mapFields _ _).trans h4, ?_, hd₃, by simpa using h7, ?_, h9, (Heap.get?_update_other _ _ hda).trans hd₂, h11, h12, .inr ⟨h₁.objs.size, _, _, rfl, ?_, hTa, hT₃, rfl, ?_⟩⟩
    · obtain ⟨c, dd, dt, sl⟩ := oe; simp only at h6 h5; subst h6; exact h5
    · rw [Array.getElem?_setIfInBounds_self_of_lt]; omega
    · cases q : n.get? h₁.objs.size with
      | none => rfl
      | some o =>
        obtain ⟨o', e'⟩ := hl _ _ q
        have lt := Heap.lt_size e'
        rw [← hs₁.1] at lt
        exact absurd lt (Nat.lt_irrefl _)
    · simp only [List.size_toArray, List.length_append, List.length_cons, List.length_nil]; omega
  · exact (late_slots hs₁).trans (late_push.trans (late_rec he₂ h6 h2))

theorem noteFrame_R {b : Bool} {l : Int} {e : Value} {Q : Unit → Shared → Prop} {E : Value → Shared → Prop} (r : R g fc st s) (F : FL b l n st.σ s.heap e) (hn : ∀ b o, g.h0.get? b = some o → n.get? b ≠ none) (hl : ∀ b o, n.get? b = some o → ∃ o', s.heap.get? b = some o') (hfr : ∀ b ∈ fc.fr, n.get? b ≠ none)
    (hQ : ∀ h', FL true l n st.σ h' e → Late n fc.fr s.heap h' → Q () { s with heap := h' }) : wpAny g.M fc.A (noteFrame e fc.env) Q E s := by
  obtain ⟨e0, rest, he, hf⟩ := r.ok.head
  obtain ⟨L, hL⟩ := Option.isSome_iff_exists.mp (r.ok.all e0 (by rw [he]; exact .head _)).2
  have hL : fc.env.frame = some L := hf.trans hL
  have F0 := F
  obtain ⟨a, oe, vs, d, es, k, tb, t, rfl, h2, h3, h4, h5, h6, h7, h8, h9, h10, h11, h12, h13⟩ := F
  unfold noteFrame
  simp only [hL]
  refine wpAny_bind (wpAny_field h3 h6 h8 ?_)
  rcases h13 with ⟨_, rfl⟩ | ⟨T, oT, ts, rfl, q1, q2, q3, q4, q5⟩
  · rw [if_neg (by decide)]
    exact entry_R r hn hl h2 h3 h4 h5 h6 h7 h9 h10 h11 h12 hfr hQ
  · rw [if_pos (show (Value.ref T != Value.none) = true from by simp)]
    refine wpAny_bind (wpAny_field q3 q4 (x := ts[3]) (by simp [q5]) ?_)
    by_cases z : (ts[3] == rawInt L) = true
    · rw [if_pos z]
      exact wpAny_pure (hQ s.heap ⟨a, oe, vs, d, es, k, .ref T, t, rfl, h2, h3, h4, h5, h6, h7, h8, h9, h10, h11, h12, .inr ⟨T, oT, ts, rfl, q1, q2, q3, q4, q5⟩⟩ Late.refl)
    · rw [if_neg z]
      refine wpAny_bind (wpAny_setField q3 q4 q5 ?_)
      have other : ∀ b, b ≠ T → (s.heap.update T (Obj.mapFields (·.setIfInBounds 3 Value.none))).get? b = s.heap.get? b := fun b hb => Heap.get?_update_other _ _ (Ne.symm hb)
      have L1 := late_rec (n := n) (fr := fc.fr) (f := Obj.mapFields (·.setIfInBounds 3 Value.none)) q3 q4 q1
      have r1 := (r.late L1 hn).1
      have hdT : d ≠ T := fun w => by rw [w, q3] at h10; cases h10; cases q4
      exact entry_R r1 hn (fun b o e => let ⟨o', e'⟩ := hl b o e; L1.live b o' e') h2 ((other a (Ne.symm q2)).trans h3) h4 h5 h6 h7 h9 ((other d hdT).trans h10) h11 h12 hfr fun h' x y => hQ h' x (L1.trans y)

theorem setFlight_R {b : Bool} {l : Int} {σ : Store} {fr : List Addr} {e : Value} {x : Option Addr} {Q : Unit → Shared → Prop} {E : Value → Shared → Prop} (F : FL b l n σ s.heap e)
    (hQ : ∀ h', FL b l n σ h' e → Late n fr s.heap h' → Q () { s with heap := h' }) : wpAny g.M fc.A (setFlight e x) Q E s := by
  obtain ⟨a, oe, vs, d, es, k, tb, t, rfl, h2, h3, h4, h5, h6, h7, h8, h9, h10, h11, h12, h13⟩ := F
  unfold setFlight
  refine wpAny_bind (wpAny_field h3 h6 h8 ?_)
  rcases h13 with ⟨hb, rfl⟩ | ⟨T, oT, ts, rfl, q1, q2, q3, q4, q5⟩
  · rw [if_neg (by decide)]
    exact wpAny_pure (hQ s.heap ⟨a, oe, vs, d, es, k, .none, t, rfl, h2, h3, h4, h5, h6, h7, h8, h9, h10, h11, h12, .inl ⟨hb, rfl⟩⟩ Late.refl)
  · rw [if_pos (show (Value.ref T != Value.none) = true from by simp)]
    refine wpAny_setField q3 q4 q5 (hQ _ ?_ (late_rec q3 q4 q1))
    have other : ∀ b, b ≠ T → (s.heap.update T (Obj.mapFields (·.setIfInBounds 3 (x.elim .none fun f => rawInt f)))).get? b = s.heap.get? b := fun b hb => Heap.get?_update_other _ _ (Ne.symm hb)
    have hdT : d ≠ T := fun w => by rw [w, q3] at h10; cases h10; cases q4
    refine ⟨a, oe, vs, d, es, k, .ref T, t, rfl, h2, (other a (Ne.symm q2)).trans h3, h4, h5, h6, h7, h8, h9, (other d hdT).trans h10, h11, h12, .inr ⟨T, _, _, rfl, q1, q2, Heap.get?_update_self _ q3 (Obj.isFreed_of_fields (Obj.data_mapFields q4 _)), Obj.data_mapFields q4 _, by simpa using q5⟩⟩

theorem leaving_R {b : Bool} {l : Int} {e : Value} {Q : Unit → Shared → Prop} {E : Value → Shared → Prop} (r : R g fc st s) (F : FL b l n st.σ s.heap e) (hn : ∀ b o, g.h0.get? b = some o → n.get? b ≠ none) (hl : ∀ b o, n.get? b = some o → ∃ o', s.heap.get? b = some o') (hfr : ∀ b ∈ fc.fr, n.get? b ≠ none)
    (hQ : ∀ h', FL true l n st.σ h' e → Late n fc.fr s.heap h' → Q () { s with heap := h' }) : wpAny g.M fc.A (leaving fc.env e) Q E s := by
  unfold leaving
  refine wpAny_bind (noteFrame_R r F hn hl hfr fun h₁ F₁ L₁ => ?_)
  exact setFlight_R F₁ fun h₂ F₂ L₂ => hQ h₂ F₂ (L₁.trans L₂)

theorem FL.weaken {b : Bool} {l : Int} {σ : Store} {h : Heap} {e : Value} (F : FL b l n σ h e) : FL false l n σ h e := by
  obtain ⟨a, oe, vs, d, es, k, tb, t, rfl, h2, h3, h4, h5, h6, h7, h8, h9, h10, h11, h12, h13⟩ := F
  refine ⟨a, oe, vs, d, es, k, tb, t, rfl, h2, h3, h4, h5, h6, h7, h8, h9, h10, h11, h12, ?_⟩
  rcases h13 with ⟨_, q⟩ | q
  · exact .inl ⟨rfl, q⟩
  · exact .inr q
theorem EPostB.weaken {b : Bool} {X : Int → AS → Prop} {e : Value} {s' : Shared} (x : EPostB b g fc st s X e s') : EPost g fc st s X e s' :=
  let ⟨l, st', F, r, S, k⟩ := x; ⟨l, st', F.weaken, r, S, k⟩
theorem frLt (r : R g fc st s) : ∀ b ∈ fc.fr, s.heap.get? b ≠ none := fun b m => by
  obtain ⟨_, _, o, es, ep, h1, _⟩ := r.fr b m; rw [h1]; simp
theorem R.h0in (r : R g fc st s) : ∀ b o, g.h0.get? b = some o → s.heap.get? b ≠ none := fun b o e => by rw [r.base b o e]; simp
theorem EPost.note {b : Bool} {X : Int → AS → Prop} {e : Value} {s' : Shared} {Q : Unit → Shared → Prop} {E : Value → Shared → Prop} (r : R g fc st s) (x : EPostB b g fc st s X e s') (h : ∀ s'', EPostB true g fc st s X e s'' → Q () s'') : wpAny g.M fc.A (noteFrame e fc.env) Q E s' := by
  obtain ⟨l, st', F, r', S, k⟩ := x
  exact noteFrame_R r' F r.h0in S.live (frLt r) fun h' F' L => h _ ⟨l, st', F', (r'.late L r.h0in).1, S.late L, k⟩
theorem EPost.flight {b : Bool} {X : Int → AS → Prop} {e : Value} {s' : Shared} {x' : Option Addr} {Q : Unit → Shared → Prop} {E : Value → Shared → Prop} (r : R g fc st s) (x : EPostB b g fc st s X e s') (h : ∀ s'', EPostB b g fc st s X e s'' → Q () s'') : wpAny g.M fc.A (setFlight e x') Q E s' := by
  obtain ⟨l, st', F, r', S, k⟩ := x
  exact setFlight_R (fr := fc.fr) F fun h' F' L => h _ ⟨l, st', F', (r'.late L r.h0in).1, S.late L, k⟩
theorem EPost.hasTb {X : Int → AS → Prop} {e : Value} {s' : Shared} {Q : Value → Shared → Prop} {E : Value → Shared → Prop} (x : EPostB true g fc st s X e s') (h : ∀ v, (v == Value.none) = false → Q v s') : wpAny g.M fc.A (field e 1) Q E s' := by
  obtain ⟨l, st', ⟨a, oe, vs, d, es, k, tb, t, rfl, h2, h3, h4, h5, h6, h7, h8, h9, h10, h11, h12, h13⟩, r', S, kk⟩ := x
  rcases h13 with ⟨q, _⟩ | ⟨T, oT, ts, rfl, q⟩
  · cases q
  · exact wpAny_field h3 h6 h8 (h _ (by simp))
theorem EPost.pass {α : Type} {X : Int → AS → Prop} {e : Value} {s' : Shared} {what : String} {Q : α → Shared → Prop} {E : Value → Shared → Prop} (r : R g fc st s) (x : EPostB true g fc st s X e s') (h : ∀ s'', EPostB true g fc st s X e s'' → E e s'') : wpAny g.M fc.A (PySem.passOn (α := α) what e fc.env) Q E s' := by
  unfold PySem.passOn
  refine wpAny_bind (EPost.hasTb x fun v hv => ?_)
  rw [if_neg (by rw [hv]; decide)]
  exact wpAny_bind (EPost.flight r x fun s'' y => wpAny_throw (h s'' y))
end
end Mine

namespace Mine

theorem leU {a b c : Nat} (h : a ≤ b) (hb : b ≤ c := by decide) : a ≤ c := Nat.le_trans h hb
theorem nSub {k m n : Nat} (h : m ≤ n) (hk : k + 1 ≤ m := by decide) : k ≤ n - 1 := by omega
theorem i63 {r n : Nat} (h : r < n) (hn : n ≤ 10000) : -(2 ^ 63) ≤ (r : Int) ∧ (r : Int) < 2 ^ 63 := by omega
theorem len1 {P : List Value → Prop} (h : ∀ a, P [a]) (vals : List Value) (hl : vals.length = 1) : P vals := by
  cases vals with
  | nil => cases hl
  | cons a t => cases t with
    | nil => exact h a
    | cons b t => cases hl
theorem len2 {P : List Value → Prop} (h : ∀ a b, P [a, b]) (vals : List Value) (hl : vals.length = 2) : P vals := by
  cases vals with
  | nil => cases hl
  | cons a t => exact len1 (P := fun t => P (a :: t)) (fun b => h a b) t (Nat.succ.inj hl)
theorem len3 {P : List Value → Prop} (h : ∀ a b c, P [a, b, c]) (vals : List Value) (hl : vals.length = 3) : P vals := by
  cases vals with
  | nil => cases hl
  | cons a t => exact len2 (P := fun t => P (a :: t)) (fun b c => h a b c) t (Nat.succ.inj hl)
/-- what a def gives back -/
noncomputable abbrev retV (fl : AF) : PV := match fl with
  | .ret p => p
  | _ => .none
section
variable {g : Gx} {fc fc' : Fc} {st st₁ st' : AS} {s s₁ s' : Shared}

/-- what ran inside is a run of the block around -/
theorem R.back (r : R g fc st s) (r₁ : R g fc' st₁ s₁) (e1 : st₁.σ = st.σ) (keep : ∀ b o, s.heap.get? b = some o → s₁.heap.get? b = some o)
    (nf : ∀ b o, s.heap.get? b = some o → st.σ b = none → ¬ Foot fc' st.σ b) (nfr : ∀ b ∈ fc'.fr, ∀ o, s.heap.get? b = some o → b ∈ fc.fr)
    (S : Step fc' st.σ st'.σ s₁.heap s'.heap) (r' : R g fc' st' s') : R g fc { st with σ := st'.σ } s' ∧ Step fc st.σ st'.σ s.heap s'.heap := by
  have sf : Safe st.σ s₁.heap st'.σ s'.heap := e1 ▸ r₁.safe (st' := st') (s' := s') (e1 ▸ S)
  have sf : Safe st.σ s.heap st'.σ s'.heap := fun a o vs n e d q => sf a o vs n (keep _ _ e) d q
  have gr : ∀ b o, s.heap.get? b = some o → st.σ b = none → st'.σ b = none := fun b o l q => S.grow b o (keep _ _ l) q
  have dd : ∀ b o, s.heap.get? b = some o → st.σ b = none → ∃ sl, s'.heap.get? b = some { o with slots := sl } := fun b o e q => by
    by_cases m : b ∈ fc'.fr
    · exact S.slots b o (keep _ _ e) (nf b o e q) m
    · exact ⟨o.slots, S.keep b o (keep _ _ e) (nf b o e q) m⟩
  refine ⟨⟨r.ok, r'.base, r'.gens, r'.os, ?_, fun x ca e => ?_, ⟨r.nl.1, ?_⟩, fun L e => ?_, fun a mo e => r'.sto a mo e⟩, ⟨fun b o e => S.live b o (keep b o e), fun b o e n m => ?_, fun b o e n m => ?_, gr⟩⟩
  · obtain ⟨mV, ⟨o, es, ep, h1, h2, h3⟩, hb⟩ := r.loc
    obtain ⟨sl, h1'⟩ := dd _ _ h1 r.nl.2
    refine ⟨mV, ⟨_, es, ep, h1', h2, h3⟩, fun x p e => ?_⟩
    rcases hb x p e with ⟨a, v, b, c⟩ | ⟨a, ca, ob, v, b, c, d, e⟩
    · exact .inl ⟨a, v, b, c.safe sf⟩
    · obtain ⟨sl, c'⟩ := dd _ _ c (r.cel x ca b).2.1
      exact .inr ⟨a, ca, _, v, b, c', d, e.safe sf⟩
  · obtain ⟨a, b, ob, v, c, d⟩ := r.cel x ca e
    obtain ⟨sl, c'⟩ := dd _ _ c b
    exact ⟨a, gr _ _ c b, _, v, c', d⟩
  · obtain ⟨mV, ⟨o, es, ep, h1, h2, h3⟩, hb⟩ := r.loc
    exact gr _ _ h1 r.nl.2
  · obtain ⟨a, b, ob, es, ep, c, d⟩ := r.fr L e
    obtain ⟨sl, c'⟩ := dd _ _ c b
    exact ⟨a, gr _ _ c b, _, es, ep, c', d⟩
  · have q : st.σ b = none := Classical.byContradiction fun q => n (.inl q)
    exact S.keep b o (keep _ _ e) (nf b o e q) fun z => m (nfr b z o e)
  · have q : st.σ b = none := Classical.byContradiction fun q => n (.inl q)
    exact dd b o e q

noncomputable def Fc.into (fc : Fc) (env' : Env) : Fc := ⟨fc.A.deeper env', env', env' :: fc.envs, fc.n - 1, true⟩

theorem bindL_out {k : Str → Option NameKind} {x : Str} : ∀ {ns : List Str} {vs : List Value} {m : Str → Option Value}, x ∉ ns → bindL k (ns.zip vs) m x = m x
  | [], _, _, _ => rfl
  | _ :: _, [], _, _ => rfl
  | y :: ns, v :: vs, m, h => by
    rw [List.zip_cons_cons, bindL, bindL_out fun q => h (.tail _ q)]
    split
    · exact if_neg fun q => h (by rw [q]; exact .head _)
    · rfl
theorem bindC_out {k : Str → Option NameKind} {x : Str} : ∀ {ns : List Str} {vs : List Value} {m : Str → Option Value}, x ∉ ns → bindC k (ns.zip vs) m x = m x
  | [], _, _, _ => rfl
  | _ :: _, [], _, _ => rfl
  | y :: ns, v :: vs, m, h => by
    rw [List.zip_cons_cons, bindC, bindC_out fun q => h (.tail _ q)]
    split
    · rfl
    · exact if_neg fun q => h (by rw [q]; exact .head _)
theorem bind_get {σ : Store} {h : Heap} {k : Str → Option NameKind} {x : Str} {p : PV} : ∀ {ns : List Str} {ps : List PV} {vs : List Value}, VRs σ h ps vs → ns.Nodup → (ns.zip ps).lookup x = some p →
    x ∈ ns ∧ ∃ v, VR σ h p v ∧ (k x = some .local → ∀ m, bindL k (ns.zip vs) m x = some v) ∧ (k x ≠ some .local → ∀ m, bindC k (ns.zip vs) m x = some v)
  | [], _, _, _, _, e => by simp at e
  | _ :: _, _, _, .nil, _, e => by simp at e
  | y :: ns, _, _, .cons a r, nd, e => by
    rw [List.zip_cons_cons, List.lookup_cons] at e
    obtain ⟨n1, n2⟩ := List.nodup_cons.mp nd
    by_cases q : x = y
    · subst q
      simp only [beq_self_eq_true] at e
      cases e
      refine ⟨.head _, _, a, fun kl m => ?_, fun kl m => ?_⟩
      · rw [List.zip_cons_cons, bindL, bindL_out n1, if_pos kl, if_pos rfl]
      · rw [List.zip_cons_cons, bindC, bindC_out n1, if_neg kl, if_pos rfl]
    · rw [beq_eq_false_iff_ne.mpr q] at e
      obtain ⟨i1, v, i2, i3, i4⟩ := bind_get (k := k) r n2 e
      exact ⟨.tail _ i1, v, i2, fun kl m => by rw [List.zip_cons_cons, bindL]; exact i3 kl _, fun kl m => by rw [List.zip_cons_cons, bindC]; exact i4 kl _⟩

theorem EPost.leaves {b : Bool} {X : Int → AS → Prop} {e : Value} {Q : Unit → Shared → Prop} {E : Value → Shared → Prop} (r : R g fc st s) (x : EPostB b g fc st s X e s') (h : ∀ s'', EPostB true g fc st s X e s'' → Q () s'') : wpAny g.M fc.A (leaving fc.env e) Q E s' := by
  obtain ⟨l, st', F, r', S, k⟩ := x
  exact leaving_R r' F r.h0in S.live (frLt r) fun h' F' L => h _ ⟨l, st', F', (r'.late L r.h0in).1, S.late L, k⟩

theorem WC.enter {f : Addr} {o : Obj} {fd : FuncData} {body : List Stmt} {pvs : List PV} {σ : Store} {K : PV → Store → Prop} {X : Int → Store → Prop} (names : List Str) (G : g.Ok)
    (h : ∀ L, (fc.into (callEnvC fd L f)).n = fc.n - 1 → WS g (fc.into (callEnvC fd L f)) (execs body (fc.into (callEnvC fd L f)).env) ⟨fun x => (names.zip pvs).lookup x, σ⟩ (fun fl st' => K (retV fl) st'.σ) (fun l st' => X l st'.σ))
    (hn : 1 ≤ fc.n)
    (hlen : names.length = pvs.length)
    (ho : (KF g.w.params).lookup f = some o) (hd : o.data = .func fd) (hbody : fd.body = .stmts body)
    (hc : codeIn (KF g.w.params) fd.code fd.qualname = true)
    (hclo : fd.closure = []) (hgl : fd.globals = mainGlobals) (hbi : fd.builtins = builtinsNs)
    (hnd : names.Nodup) 
    (hbind : ∀ vals : List Value, vals.length = names.length → bindArgs fd ⟨vals, []⟩ = pure (names.zip vals))
    (hkind : ∀ x ∈ names, fd.scope.names.lookup x = some .local ∨ fd.scope.names.lookup x = some .cell)
    (hco : fd.scope.isCoroutine = false) (hgen : fd.scope.isGenerator = false) (hk : fd.scope.kind = .function) : WC g fc f pvs σ K X := by
  intro st s vals e r q
  subst e
  have hvl : vals.length = names.length := by rw [q.length, hlen]
  refine wpAny_call (codeAny_call_cells (o := o) (fd := fd) (body := body) (binds := names.zip vals) ?_ ((G.K.keeps r.base) _ _ ho) hd (G.lim.keeps r.base) (codeRec_of (G.K.keeps r.base) hc) hbody (hbind vals hvl) hclo (fun y hy => ?_) (fun s₁ x => ?_) hco hgen hk)
  · have := r.ok.dep; have e2 : recursionLimit = 1000 := rfl; rw [e2]; omega
  · rcases hkind y.1 (List.of_mem_zip (by exact (show (y.1, y.2) ∈ _ from hy))).1 with z | z
    · exact .inl z
    · exact .inr ⟨z, cellsFrom_some _ _ _ (.inl z)⟩
  have nD : ∀ x p, (names.zip pvs).lookup x = some p → x ∈ names := fun x p z => (bind_get (k := (callEnvC fd s.heap.objs.size f).kindOf) q hnd z).1
  obtain ⟨h₁, tk, rfl⟩ := x.toInCall.same
  have keep := x.toInCall.keep
  have hL : (callEnvC fd s.heap.objs.size f).locals = s.heap.objs.size := rfl
  have hsz : s.heap.objs.size < h₁.objs.size := by
    obtain ⟨_, _, _, z, _⟩ := x.toInCall.ns
    rw [hL] at z; exact Heap.lt_size z
  obtain ⟨rk, _, sf⟩ := r.keeps (tk := tk) keep
  have r₁ : R g (fc.into (callEnvC fd s.heap.objs.size f)) ⟨fun x => (names.zip pvs).lookup x, st.σ⟩ { s with heap := h₁, toks := tk } := by
    refine ⟨⟨Around.frames_deeper r.ok.frames, r.ok.hd, ?_, ?_, hgl, hbi, hk, ⟨_, _, rfl, rfl⟩, fun e he => ?_, fun y hy => ?_, fun y z a hy hz => name_of_addr x.apart (mem_of_lookup hy) (mem_of_lookup hz)⟩, rk.base, rk.gens, rk.os, ?_, fun y ca hy => ?_, ⟨r.new0.1, ?_⟩, fun L m => ?_, fun a mo z => rk.sto a mo z⟩
    · have := r.ok.dep
      show fc.A.depth + 1 + (fc.n - 1) ≤ 900
      omega
    · have := r.ok.uni
      show fc.A.units + 3 + 8 * (fc.n - 1) ≤ 9000
      omega
    · rcases List.mem_cons.mp he with rfl | he
      · exact ⟨by rw [show (callEnvC fd s.heap.objs.size f).scope.kind = fd.scope.kind from rfl, hk]; decide, rfl⟩
      · exact r.ok.all e he
    · exact Option.isSome_iff_exists.mp (cellsFrom_some fd.scope.names _ _ (.inl hy))
    · refine ⟨_, x.toInCall.ns, fun y p hy => ?_⟩
      obtain ⟨hm, v, hv, z1, z2⟩ := bind_get (k := (callEnvC fd s.heap.objs.size f).kindOf) q hnd hy
      have hv' : VR st.σ h₁ p v := VR.safe sf hv
      rcases hkind y hm with kl | kc
      · exact .inl ⟨kl, v, z1 kl _, hv'⟩
      · obtain ⟨ca, hca⟩ := Option.isSome_iff_exists.mp (cellsFrom_some (x := y) fd.scope.names (s.heap.objs.size + 1) [] (.inl kc))
        obtain ⟨oc, c1, c2⟩ := x.cell y ca hca
        rw [z2 (by rw [show (callEnvC fd s.heap.objs.size f).kindOf y = _ from kc]; decide)] at c2
        exact .inr ⟨kc, ca, oc, v, hca, c1, c2, hv'⟩
    · have ab := x.above y ca (mem_of_lookup hy)
      obtain ⟨oc, c1, c2⟩ := x.cell y ca hy
      exact ⟨(r.new1 (Nat.le_of_lt (hL ▸ ab))).1, r.none_of_le (Nat.le_of_lt (hL ▸ ab)), oc, _, c1, c2⟩
    · exact r.fresh
    · have hm : L = s.heap.objs.size ∨ L ∈ fc.fr := by
        have : (fc.into (callEnvC fd s.heap.objs.size f)).fr = s.heap.objs.size :: fc.fr := rfl
        rw [this] at m; exact List.mem_cons.mp m
      rcases hm with rfl | hm
      · obtain ⟨ob, es, ep, z, z2, _⟩ := x.toInCall.ns
        exact ⟨r.new0.1, r.fresh, ob, es, ep, z, z2⟩
      · exact rk.fr L hm
  have nf : ∀ b o, s.heap.get? b = some o → st.σ b = none → ¬ Foot (fc.into (callEnvC fd s.heap.objs.size f)) st.σ b := fun b o l z w => by
    have l := Heap.lt_size l
    rcases w with w | w | ⟨_, y, w⟩
    · exact w z
    · exact absurd (w.trans hL ▸ l) (Nat.lt_irrefl _)
    · exact absurd (Nat.lt_trans l (hL ▸ x.above y b (mem_of_lookup w))) (Nat.lt_irrefl _)
  have nfr : ∀ b ∈ (fc.into (callEnvC fd s.heap.objs.size f)).fr, ∀ o, s.heap.get? b = some o → b ∈ fc.fr := fun b m o l => by
    have l := Heap.lt_size l
    have : (fc.into (callEnvC fd s.heap.objs.size f)).fr = s.heap.objs.size :: fc.fr := rfl
    rw [this] at m
    rcases List.mem_cons.mp m with rfl | m
    · exact absurd l (Nat.lt_irrefl _)
    · exact m
  refine wpAny_mono (h s.heap.objs.size rfl _ r₁) (fun fl s' hp => ?_) fun ex s' hx => ?_
  · obtain ⟨p, st', fr, r', S, k⟩ := hp
    obtain ⟨a1, a2⟩ := r.back r₁ rfl keep nf nfr S r'
    refine ⟨_, _, ?_, a1, a2, st'.σ, rfl, k⟩
    cases fr with
    | ret v => exact v
    | next => exact .none
    | brk => exact .none
    | cont => exact .none
  · refine EPost.leaves (b := false) r₁ hx fun s'' y => ?_
    obtain ⟨l, st', F, r', S, k⟩ := y
    obtain ⟨a1, a2⟩ := r.back r₁ rfl keep nf nfr S r'
    exact ⟨l, { st with σ := st'.σ }, F.weaken.le (fun b o e => ⟨o, keep b o e⟩), a1, a2, st'.σ, rfl, k⟩
end
end Mine

namespace Mine

noncomputable def setm (m : Str → Option PV) (x : Str) (p : PV) : Str → Option PV := fun y => if y = x then some p else m y
noncomputable abbrev AS.sv (st : AS) (x : Str) (p : PV) : AS := { st with m := setm st.m x p }
noncomputable def del (σ : Store) (a : Addr) : Store := fun b => if b = a then none else σ b

section
variable {α β : Type} {g : Gx} {fc : Fc} {st : AS} {s : Shared} {X : Int → AS → Prop}

/-- one object of the frame (its names, or a cell) changes -/
theorem R.pokeM {h' : Heap} {c : Addr} {o : Obj} {tk : Nat} {m' : Str → Option PV} (r : R g fc st s) (hc : s.heap.get? c = some o) (hnd : ∀ vs n, o.data ≠ .seq vs n) (hq : st.σ c = none) (hb : g.h0.get? c = none) (hf : Foot fc st.σ c) (S : Heap.SameBut c s.heap h')
    (hfr : ∀ es ep, o.data = .dict es ep → ∃ o' es ep, h'.get? c = some o' ∧ o'.data = .dict es ep)
    (hcl : ∀ v, o.data = .cell v → ∃ o' v, h'.get? c = some o' ∧ o'.data = .cell v)
    (hal : ∃ o', h'.get? c = some o')
    (hloc : Safe st.σ s.heap st.σ h' → ∃ mV, h'.Ns fc.env.locals mV ∧ ∀ y q, m' y = some q → Bound fc st.σ h' mV y q) :
    R g fc ⟨m', st.σ⟩ { s with heap := h', toks := tk } ∧ Step fc st.σ st.σ s.heap h' := by
  have hs : Safe st.σ s.heap st.σ h' := fun b ob vs n e d q => ⟨(S.2 b fun z => by subst z; rw [e] at hc; cases hc; exact hnd _ _ d).trans e, q⟩
  refine ⟨⟨r.ok, fun b ob e => (S.2 b fun z => by subst z; rw [hb] at e; cases e).trans (r.base b ob e), r.gens, r.os, hloc hs, fun y ca e => ?_, r.nl, fun L e => ?_, fun a mo e => ?_⟩,
    ⟨fun b ob e => if z : b = c then z ▸ hal else ⟨ob, (S.2 b z).trans e⟩, fun b ob e n _ => (S.2 b fun z => n (z ▸ hf)).trans e, fun b ob e n _ => ⟨ob.slots, (S.2 b fun z => n (z ▸ hf)).trans e⟩, fun _ _ _ e => e⟩⟩
  · obtain ⟨a1, b1, ob, v, c1, d1⟩ := r.cel y ca e
    by_cases z : ca = c
    · subst z; rw [hc] at c1; cases c1
      obtain ⟨o', v', e1, e2⟩ := hcl v d1
      exact ⟨a1, b1, o', v', e1, e2⟩
    · exact ⟨a1, b1, ob, v, (S.2 ca z).trans c1, d1⟩
  · obtain ⟨a1, b1, ob, es, ep, c1, d1⟩ := r.fr L e
    by_cases z : L = c
    · subst z; rw [hc] at c1; cases c1
      obtain ⟨o', es', ep', e1, e2⟩ := hfr es ep d1
      exact ⟨a1, b1, o', es', ep', e1, e2⟩
    · exact ⟨a1, b1, ob, es, ep, (S.2 L z).trans c1, d1⟩
  · exact ⟨(r.sto a mo e).1, (r.sto a mo e).2.safe hs (S.2 a fun z => by rw [z, hq] at e; cases e)⟩

theorem R.poke {h' : Heap} {c : Addr} {o : Obj} {tk : Nat} {x : Str} {p : PV} (r : R g fc st s) (hc : s.heap.get? c = some o) (hnd : ∀ vs n, o.data ≠ .seq vs n) (hq : st.σ c = none) (hb : g.h0.get? c = none) (hf : Foot fc st.σ c) (S : Heap.SameBut c s.heap h')
    (hfr : ∀ es ep, o.data = .dict es ep → ∃ o' es ep, h'.get? c = some o' ∧ o'.data = .dict es ep)
    (hcl : ∀ v, o.data = .cell v → ∃ o' v, h'.get? c = some o' ∧ o'.data = .cell v)
    (hal : ∃ o', h'.get? c = some o')
    (hloc : Safe st.σ s.heap st.σ h' → ∃ mV, h'.Ns fc.env.locals mV ∧ ∀ y q, (st.sv x p).m y = some q → Bound fc st.σ h' mV y q) :
    R g fc (st.sv x p) { s with heap := h', toks := tk } ∧ Step fc st.σ st.σ s.heap h' := r.pokeM hc hnd hq hb hf S hfr hcl hal hloc

theorem store {x : Str} {p : PV} {v : Value} {K : Unit → AS → Prop} (r : R g fc st s) (q : VR st.σ s.heap p v) (hk : fc.env.kindOf x = some .local ∨ (fc.env.kindOf x = some .cell ∧ fc.wc = true)) (h : K () (st.sv x p)) :
    Wat g fc URl (storeName fc.env x v) st s K X := by
  obtain ⟨mV, hn, hb⟩ := r.loc
  have hn0 := hn
  obtain ⟨oL, esL, epL, hL1, hL2, hL3⟩ := hn0
  rcases hk with kl | ⟨kc, kw⟩
  · refine wpAny_storeName_local kl hn (fun h' hn' S => ?_) (by rw [r.ok.kind]; rfl)
    have z := r.poke (tk := s.toks + 1) (x := x) (p := p) hL1 (fun vs n z => by rw [hL2] at z; cases z) r.nl.2 r.nl.1 (.inr (.inl rfl)) S (fun _ _ _ => by obtain ⟨o', es', ep', e1, e2, _⟩ := hn'; exact ⟨o', es', ep', e1, e2⟩) (fun v z => by rw [hL2] at z; cases z) (by obtain ⟨o', es', ep', e1, e2, _⟩ := hn'; exact ⟨o', e1⟩) (fun hs => ⟨_, hn', fun y w e => ?_⟩)
    · exact ⟨(), _, trivial, z.1, z.2, h⟩
    · change setm _ _ _ _ = _ at e
      unfold setm at e
      by_cases hy : y = x
      · rw [if_pos hy] at e; cases e
        exact .inl ⟨hy ▸ kl, v, if_pos hy, q.safe hs⟩
      · rw [if_neg hy] at e
        rcases hb y w e with ⟨a, u, b, c⟩ | ⟨a, ca, ob, u, b, c, d, e⟩
        · exact .inl ⟨a, u, (if_neg hy).trans b, c.safe hs⟩
        · exact .inr ⟨a, ca, ob, u, b, (S.2 ca fun z => by subst z; rw [hL1] at c; cases c; rw [hL2] at d; cases d).trans c, d, e.safe hs⟩
  · obtain ⟨ca, hca⟩ := r.ok.cellIn x kc
    obtain ⟨b1, b2, oc, vc, c1, c2⟩ := r.cel x ca hca
    refine wpAny_storeName_cell r.ok.kind kc hca ⟨oc, c1, c2⟩ (fun h' hc' S => ?_)
    have z := r.poke (tk := s.toks) (x := x) (p := p) c1 (fun vs n z => by rw [c2] at z; cases z) b2 b1 (.inr (.inr ⟨kw, x, hca⟩)) S (fun _ _ z => by rw [c2] at z; cases z) (fun _ _ => by obtain ⟨o', e1, e2⟩ := hc'; exact ⟨o', _, e1, e2⟩) (by obtain ⟨o', e1, e2⟩ := hc'; exact ⟨o', e1⟩) (fun hs => ⟨mV, ⟨oL, esL, epL, (S.2 _ fun z => by rw [z, c1] at hL1; cases hL1; rw [c2] at hL2; cases hL2).trans hL1, hL2, hL3⟩, fun y w e => ?_⟩)
    · exact ⟨(), _, trivial, z.1, z.2, h⟩
    · change setm _ _ _ _ = _ at e
      unfold setm at e
      by_cases hy : y = x
      · rw [if_pos hy] at e; cases e
        obtain ⟨o', e1, e2⟩ := hc'
        exact .inr ⟨hy ▸ kc, ca, o', v, hy ▸ hca, e1, e2, q.safe hs⟩
      · rw [if_neg hy] at e
        rcases hb y w e with ⟨a, u, b, c⟩ | ⟨a, ca', ob, u, b, c, d, e⟩
        · exact .inl ⟨a, u, b, c.safe hs⟩
        · exact .inr ⟨a, ca', ob, u, b, (S.2 ca' fun z => hy (r.ok.inj y x ca (z ▸ b) hca)).trans c, d, e.safe hs⟩

-- statements
theorem s_nil {K : AF → AS → Prop} (h : K .next st) : WS g fc (execs [] fc.env) st K X := fun s r => wpAny_execs_nil (Post.intro r .next h)
theorem s_cons {t : Stmt} {ts : List Stmt} {K : AF → AS → Prop} (h : WS g fc (exec t fc.env) st (seqK g fc ts X K) X) : WS g fc (execs (t :: ts) fc.env) st K X := by
  intro s r
  refine wpAny_execs_cons ((h s r).use (fun p st₁ f s₁ q r₁ S k => ?_) fun _ _ z => z)
  cases q with
  | next => exact Wat.from S (k s₁ r₁)
  | brk => exact Post.from S (Post.intro r₁ .brk k)
  | cont => exact Post.from S (Post.intro r₁ .cont k)
  | ret v => exact Post.from S (Post.intro r₁ (.ret v) k)
theorem s_if {e : Expr} {b o : List Stmt} {pos : Pos} {K : AF → AS → Prop} (h : WB g fc (isTrue e fc.env (eval e fc.env)) st (fun c st₁ => if c then WS g fc (execs b fc.env) st₁ K X else WS g fc (execs o fc.env) st₁ K X) X) : WS g fc (exec (.If e b o pos) fc.env) st K X := by
  intro s r
  refine wpAny_If ((h s r).use (fun c st₁ v s₁ q r₁ S k => ?_) fun _ _ z => z)
  cases q
  cases c with
  | true => exact Wat.from S (k s₁ r₁)
  | false => exact Wat.from S (k s₁ r₁)
theorem s_ret {e : Expr} {pos : Pos} {K : AF → AS → Prop} (h : WE g fc (eval e fc.env) st (retK K) X) : WS g fc (exec (.Return (some e) pos) fc.env) st K X :=
  fun s r => wpAny_Return_some ((h s r).use (fun p st₁ v s₁ q r₁ S k => Post.from S (Post.intro r₁ (.ret q) k)) fun _ _ z => z)
/-- a name is bound, then the rest -/
noncomputable abbrev setK (x : Str) (K : AF → AS → Prop) : PV → AS → Prop := fun q st => K .next (st.sv x q)
theorem s_set {x : Str} {e : Expr} {p pos : Pos} {K : AF → AS → Prop} (h : WE g fc (eval e fc.env) st (setK x K) X) (hk : fc.env.kindOf x = some .local ∨ (fc.env.kindOf x = some .cell ∧ fc.wc = true))
    (hs : swapsWith e (some (.Name x p)) pos.line fc.env = pure false := by rfl) : WS g fc (exec (.Assign [.Name x p] e pos) fc.env) st K X := by
  intro s r
  refine wpAny_Assign_Name ((h s r).use (fun p st₁ v s₁ q r₁ S k => ?_) fun _ _ z => z) hs
  exact (store r₁ q hk (K := fun _ st₂ => K .next st₂) k).use (fun _ st₂ _ s₂ _ r₂ S₂ k₂ => Post.from (S.trans S₂) (Post.intro r₂ .next k₂)) fun _ _ z => EPost.from S z

theorem VR.del {σ : Store} {h : Heap} {a : Addr} {p : PV} {v : Value} (x : VR σ h p v) : VR (del σ a) h p v := x.safe fun b o vs n e _ q => ⟨e, by unfold Mine.del; split; rfl; exact q⟩
theorem VRs.del {σ : Store} {h : Heap} {a : Addr} {p : List PV} {v : List Value} (x : VRs σ h p v) : VRs (del σ a) h p v := x.safe fun b o vs n e _ q => ⟨e, by unfold Mine.del; split; rfl; exact q⟩
/-- a list that is not changed any more -/
theorem R.freeze {a : Addr} {xs : List PV} (r : R g fc st s) (ha : st.σ a = some (.lst xs)) : R g fc { st with σ := del st.σ a } s ∧ Step fc st.σ (del st.σ a) s.heap s.heap ∧ VR (del st.σ a) s.heap (.fl xs) (.ref a) := by
  have dn : ∀ b, st.σ b = none → del st.σ a b = none := fun b q => by unfold del; split; rfl; exact q
  have sf : Safe st.σ s.heap (del st.σ a) s.heap := fun b o vs n e _ q => ⟨e, dn b q⟩
  refine ⟨⟨r.ok, r.base, r.gens, r.os, ?_, fun x ca e => ?_, ⟨r.nl.1, dn _ r.nl.2⟩, fun L e => ?_, fun b mo e => ?_⟩, ⟨fun _ o e => ⟨o, e⟩, fun _ _ e _ _ => e, fun _ o e _ _ => ⟨o.slots, e⟩, fun b _ _ q => dn b q⟩, ?_⟩
  · obtain ⟨mV, hn, hb⟩ := r.loc
    refine ⟨mV, hn, fun x p e => ?_⟩
    rcases hb x p e with ⟨a, v, b, c⟩ | ⟨a, ca, ob, v, b, c, d, e⟩
    · exact .inl ⟨a, v, b, c.safe sf⟩
    · exact .inr ⟨a, ca, ob, v, b, c, d, e.safe sf⟩
  · obtain ⟨a1, b1, z⟩ := r.cel x ca e; exact ⟨a1, dn _ b1, z⟩
  · obtain ⟨a1, b1, z⟩ := r.fr L e; exact ⟨a1, dn _ b1, z⟩
  · change del _ _ _ = _ at e
    unfold del at e
    split at e
    · cases e
    · exact ⟨(r.sto b mo e).1, (r.sto b mo e).2.safe sf rfl⟩
  · obtain ⟨vs, ⟨n, e⟩, w⟩ := (r.sto a _ ha).2
    exact .fl e (by unfold del; rw [if_pos rfl]) (w.safe sf)
theorem Wp.freeze {rel : Store → Heap → β → α → Prop} {t : Sem α} {x : Str} {a : Addr} {xs : List PV} {K : β → AS → Prop} (hm : st.m x = some (.ref a)) (ha : st.σ a = some (.lst xs)) (h : Wp g fc rel t ⟨setm st.m x (.fl xs), del st.σ a⟩ K X) : Wp g fc rel t st K X := by
  intro s r
  obtain ⟨r1, S1, q1⟩ := r.freeze ha
  refine Wat.from (st₁ := ⟨setm st.m x (.fl xs), del st.σ a⟩) (s₁ := s) S1 (h s ?_)
  refine ⟨r1.ok, r1.base, r1.gens, r1.os, ?_, r1.cel, r1.nl, r1.fr, r1.sto⟩
  obtain ⟨mV, hn, hb⟩ := r1.loc
  refine ⟨mV, hn, fun y p e => ?_⟩
  change setm _ _ _ _ = _ at e
  unfold setm at e
  by_cases hy : y = x
  · rw [if_pos hy] at e; cases e; subst hy
    rcases hb y _ hm with ⟨a, v, b, c⟩ | ⟨a, ca, ob, v, b, c, d, e⟩
    · cases c; exact .inl ⟨a, _, b, q1⟩
    · cases e; exact .inr ⟨a, ca, ob, _, b, c, d, q1⟩
  · rw [if_neg hy] at e; exact hb y p e
/-- names that are not needed any more -/
theorem Wp.forget {rel : Store → Heap → β → α → Prop} {t : Sem α} {m : Str → Option PV} {K : β → AS → Prop} (hm : ∀ x p, m x = some p → st.m x = some p) (h : Wp g fc rel t ⟨m, st.σ⟩ K X) : Wp g fc rel t st K X := by
  intro s r
  have r' : R g fc ⟨m, st.σ⟩ s := by
    refine ⟨r.ok, r.base, r.gens, r.os, ?_, r.cel, r.nl, r.fr, r.sto⟩
    obtain ⟨mV, hn, hb⟩ := r.loc
    exact ⟨mV, hn, fun y p e => hb y p (hm y p e)⟩
  exact h s r'

-- «a[b] = e», «a[b] += e»
inductive KPut (K : AS → Prop) (pv po pi : PV) (st : AS) : Prop
  | mk (a : Addr) (k : Str) (es : List (Str × PV)) (h1 : po = .ref a) (h2 : pi = .str k) (h3 : st.σ a = some (.dct es)) (hl : es.length ≤ 10000) (kk : K (st.up a (.dct (put es k pv))))
inductive KAdd (K : AS → Prop) (d : Int) (po pi : PV) (st : AS) : Prop
  | mk (a : Addr) (k : Str) (es : List (Str × PV)) (n : Int) (h1 : po = .ref a) (h2 : pi = .str k) (h3 : st.σ a = some (.dct es)) (hl : es.length ≤ 10000) (h4 : at? es k = some (.int n)) (kk : K (st.up a (.dct (put es k (.int (n + d))))))
theorem s_put {o i e : Expr} {p pos : Pos} {K : AF → AS → Prop}
    (h : WE g fc (eval e fc.env) st (fun pv st₁ => WE g fc (eval o fc.env) st₁ (fun po st₂ => WE g fc (eval i fc.env) st₂ (KPut (K .next) pv po) X) X) X)
    (hs : swapsWith e (some (.Subscript o i p)) pos.line fc.env = pure false := by rfl) : WS g fc (exec (.Assign [.Subscript o i p] e pos) fc.env) st K X := by
  intro s r
  refine wpAny_Assign_Subscript ((h s r).use (fun pv st₁ v s₁ q r₁ S k => ?_) fun _ _ z => z) hs
  refine (k s₁ r₁).use (fun po st₂ ov s₂ q₂ r₂ S₂ k => ?_) fun _ _ z => EPost.from S z
  refine (k s₂ r₂).use (fun pi st₃ iv s₃ q₃ r₃ S₃ k => ?_) fun _ _ z => EPost.from (S.trans S₂) z
  obtain ⟨a, kk, es, rfl, rfl, ha, hl, kq⟩ := k
  have q' := (q.safe (r₁.safe S₂)).safe (r₂.safe S₃)
  (first | obtain rfl := VR.inv_ref q₂ | obtain ⟨_, rfl⟩ := VR.inv_int q₂ | obtain ⟨_, rfl⟩ := VR.inv_str q₂ | obtain rfl := VR.inv_bool q₂ | obtain rfl := VR.inv_none q₂)
  (first | obtain rfl := VR.inv_ref q₃ | obtain ⟨_, rfl⟩ := VR.inv_int q₃ | obtain ⟨_, rfl⟩ := VR.inv_str q₃ | obtain rfl := VR.inv_bool q₃ | obtain rfl := VR.inv_none q₃)
  exact (set_dict (K := fun _ st₄ => K .next st₄) ha hl r₃ q' kq).use (fun _ st₄ _ s₄ _ r₄ S₄ k₄ => Post.from (S.trans (S₂.trans (S₃.trans S₄))) (Post.intro r₄ .next k₄)) fun _ _ z => EPost.from (S.trans (S₂.trans S₃)) z
theorem s_add1 {o i : Expr} {d : Int} {k : Nat} {p cpos pos : Pos} {K : AF → AS → Prop}
    (h : WE g fc (eval o fc.env) st (fun po st₂ => WE g fc (eval i fc.env) st₂ (KAdd (K .next) d po) X) X)
    (ha : ∀ ov iv new, augStore i ov iv new = (do holding [new, ov, iv] (setItem ov iv new); release [new, ov, iv] []; pure .next) := by intro _ _ _; rfl) : WS g fc (exec (.AugAssign (.Subscript o i p) .Add (.Constant (.int d) k cpos) pos) fc.env) st K X := by
  intro s r
  refine wpAny_AugAssign_Subscript_any ((h s r).use (fun po st₂ ov s₂ q₂ r₂ S₂ k => ?_) fun _ _ z => z) ha
  refine (k s₂ r₂).use (fun pi st₃ iv s₃ q₃ r₃ S₃ k => ?_) fun _ _ z => EPost.from S₂ z
  obtain ⟨a, kk, es, n, rfl, rfl, hst, hl, hat, kq⟩ := k
  have Q2 := q₂.safe (r₂.safe S₃)
  obtain ⟨T, id, hT, hlk, w⟩ := sub_dict (K := fun p st₄ => p = .int n ∧ st₄ = st₃) (X := X) hst hat ⟨rfl, rfl⟩ s₃ _ _ r₃ Q2 q₃
  refine w.use (fun p₄ st₄ old s₄ q₄ r₄ S₄ k₄ => ?_) fun _ _ z => EPost.from (S₂.trans S₃) z
  obtain ⟨rfl, rfl⟩ := k₄
  (first | obtain rfl := VR.inv_ref q₄ | obtain ⟨_, rfl⟩ := VR.inv_int q₄ | obtain ⟨_, rfl⟩ := VR.inv_str q₄ | obtain rfl := VR.inv_bool q₄ | obtain rfl := VR.inv_none q₄)
  refine wpAny_Constant_int ?_
  refine wpAny_iadd_int ?_
  (first | obtain rfl := VR.inv_ref q₂ | obtain ⟨_, rfl⟩ := VR.inv_int q₂ | obtain ⟨_, rfl⟩ := VR.inv_str q₂ | obtain rfl := VR.inv_bool q₂ | obtain rfl := VR.inv_none q₂)
  (first | obtain rfl := VR.inv_ref q₃ | obtain ⟨_, rfl⟩ := VR.inv_int q₃ | obtain ⟨_, rfl⟩ := VR.inv_str q₃ | obtain rfl := VR.inv_bool q₃ | obtain rfl := VR.inv_none q₃)
  have r5 : R g fc st₄ { s₄ with toks := s₄.toks + 1 + 1 } := r₄.toks
  exact (set_dict (K := fun _ st₄ => K .next st₄) hst hl r5 (.int _ _) kq).use (fun _ st₆ _ s₆ _ r₆ S₆ k₆ => Post.from (S₂.trans (S₃.trans (S₄.trans S₆))) (Post.intro r₆ .next k₆)) fun _ _ z => EPost.from (S₂.trans (S₃.trans S₄)) z
end
end Mine

namespace Mine

section
variable {g : Gx} {fc : Fc} {st st₀ : AS} {s s₀ : Shared} {X : Int → AS → Prop}

theorem R.notFootF (r : R g fc st s) {a : Addr} {o : Obj} {vs : Array Value} (e : s.heap.get? a = some o) (d : o.data = .fields vs) : ¬ Foot fc st.σ a ∧ a ∉ fc.fr ∧ st.σ a = none := by
  have hn : st.σ a = none := by
    cases q : st.σ a with
    | none => rfl
    | some mo =>
      have h := (r.sto a mo q).2
      cases mo with
      | lst xs => obtain ⟨vs, ⟨n, z⟩, _⟩ := h; rw [e] at z; cases z; cases d
      | dct es => obtain ⟨kvs, ⟨o', es, ep, z, _, z2, _⟩, _⟩ := h; rw [e] at z; cases z; rw [d] at z2; cases z2
  refine ⟨fun f => ?_, fun f => ?_, hn⟩
  · rcases f with f | f | ⟨_, x, f⟩
    · exact f hn
    · obtain ⟨mV, ⟨o', es, ep, h1, h2, _⟩, _⟩ := r.loc
      rw [← f, e] at h1; cases h1; rw [d] at h2; cases h2
    · obtain ⟨_, _, o', v, h1, h2⟩ := r.cel x a f
      rw [e] at h1; cases h1; rw [d] at h2; cases h2
  · obtain ⟨_, _, o', es, ep, h1, h2⟩ := r.fr a f
    rw [e] at h1; cases h1; rw [d] at h2; cases h2

/-- an iterator of ours moves -/
theorem R.other {I : Addr} {o : Obj} {fs : Array Value} {h' : Heap} {tk : Nat} (r : R g fc st s) (e : s.heap.get? I = some o) (d : o.data = .fields fs) (hI : g.h0.get? I = none) (k : ∀ b x, b ≠ I → s.heap.get? b = some x → h'.get? b = some x) :
    R g fc st { s with heap := h', toks := tk } ∧ Safe st.σ s.heap st.σ h' := by
  have hs : Safe st.σ s.heap st.σ h' := fun b x vs n z q w => ⟨k b x (fun y => by subst y; rw [e] at z; cases z; rw [d] at q; cases q) z, w⟩
  have dd : ∀ b x es ep, s.heap.get? b = some x → x.data = .dict es ep → h'.get? b = some x := fun b x es ep z q => k b x (fun y => by subst y; rw [e] at z; cases z; rw [d] at q; cases q) z
  have cc : ∀ b x v, s.heap.get? b = some x → x.data = .cell v → h'.get? b = some x := fun b x v z q => k b x (fun y => by subst y; rw [e] at z; cases z; rw [d] at q; cases q) z
  have ss : ∀ b x vs n, s.heap.get? b = some x → x.data = .seq vs n → h'.get? b = some x := fun b x vs n z q => k b x (fun y => by subst y; rw [e] at z; cases z; rw [d] at q; cases q) z
  refine ⟨⟨r.ok, fun b x z => k b x (fun y => by subst y; rw [hI] at z; cases z) (r.base b x z), r.gens, r.os, ?_, fun x ca z => ?_, r.nl, fun L z => ?_, fun a mo z => ?_⟩, hs⟩
  · obtain ⟨mV, ⟨ob, es, ep, h1, h2, h3⟩, hb⟩ := r.loc
    refine ⟨mV, ⟨ob, es, ep, dd _ _ _ _ h1 h2, h2, h3⟩, fun x p z => ?_⟩
    rcases hb x p z with ⟨a, v, b, c⟩ | ⟨a, ca, ob, v, b, c, q, w⟩
    · exact .inl ⟨a, v, b, c.safe hs⟩
    · exact .inr ⟨a, ca, ob, v, b, cc _ _ _ c q, q, w.safe hs⟩
  · obtain ⟨a, b, ob, v, c, q⟩ := r.cel x ca z
    exact ⟨a, b, ob, v, cc _ _ _ c q, q⟩
  · obtain ⟨a, b, ob, es, ep, c, q⟩ := r.fr L z
    exact ⟨a, b, ob, es, ep, dd _ _ _ _ c q, q⟩
  · obtain ⟨a1, b⟩ := r.sto a mo z
    refine ⟨a1, ?_⟩
    cases mo with
    | lst xs => obtain ⟨vs, ⟨n, b1⟩, b2⟩ := b; exact ⟨vs, ⟨n, ss _ _ _ _ b1 rfl⟩, b2.safe hs⟩
    | dct es => obtain ⟨kvs, ⟨ob, es', ep, b1, b0, b2, b3⟩, c2, c3⟩ := b; exact ⟨kvs, ⟨ob, es', ep, dd _ _ _ _ b1 b2, b0, b2, b3⟩, c2, c3.safe hs⟩
theorem Step.other {σ σ' : Store} {h h₁ h' : Heap} {I : Addr} (S : Step fc σ σ' h h₁) (k : ∀ b x, b ≠ I → h₁.get? b = some x → h'.get? b = some x) (hI : h.get? I = none) : Step fc σ σ' h h' := by
  have ne : ∀ b o, h.get? b = some o → b ≠ I := fun b o e z => by rw [z, hI] at e; cases e
  refine ⟨fun b o e => let ⟨o', e'⟩ := S.live b o e; ⟨o', k b o' (ne b o e) e'⟩, fun b o e n m => k b o (ne b o e) (S.keep b o e n m), fun b o e n m => ?_, S.grow⟩
  obtain ⟨sl, z⟩ := S.slots b o e n m
  exact ⟨sl, k b _ (ne b o e) z⟩

/-- an iterator that has ps ahead -/
inductive ItAt (σ : Store) (h : Heap) (I : Addr) : List PV → Prop
  | lst {ax : Addr} {vs : Array Value} {n : Nat} {xs : List PV} {i : Nat} : h.IsListIter I ax i → h.get? ax = some { cls := .type "list", data := .seq vs n } → σ ax = none → VRs σ h xs vs.toList → ItAt σ h I (xs.drop i)
  | rng {a m : Nat} : IsRangeIter h I a m 1 → ItAt σ h I ((List.range' a m).map fun i => PV.int (i : Nat))
theorem ItAt.obj {σ : Store} {h : Heap} {I : Addr} {ps : List PV} (x : ItAt σ h I ps) : ∃ o nm fs, h.get? I = some o ∧ o.cls = .type nm ∧ o.data = .fields fs ∧ (nm = "list_iterator" ∨ nm = "range_iterator") := by
  cases x with
  | lst a _ _ _ => obtain ⟨o, h1, h2, h3⟩ := a; exact ⟨o, _, _, h1, h2, h3, .inl rfl⟩
  | rng a => exact ⟨_, _, _, a, rfl, rfl, .inr rfl⟩
theorem ItAt.safe {σ σ' : Store} {h h' : Heap} {I : Addr} {ps : List PV} (x : ItAt σ h I ps) (S : Safe σ h σ' h') (k : ∀ o, h.get? I = some o → h'.get? I = some o) : ItAt σ' h' I ps := by
  cases x with
  | lst a b c d => obtain ⟨o, h1, h2⟩ := a; exact .lst ⟨o, k o h1, h2⟩ (S _ _ _ _ b rfl c).1 (S _ _ _ _ b rfl c).2 (d.safe S)
  | rng a => exact .rng (k _ a)
theorem it_next {p : PV} {ps qs : List PV} {I : Addr} {Q : Option Value → Shared → Prop} {E : Value → Shared → Prop} (r : R g fc st s) (it : ItAt st.σ s.heap I qs) (eq : qs = p :: ps) (hI : g.h0.get? I = none)
    (h : ∀ v h' tk, R g fc st { s with heap := h', toks := tk } → VR st.σ h' p v → ItAt st.σ h' I ps → (∀ b x, b ≠ I → s.heap.get? b = some x → h'.get? b = some x) → Q (some v) { s with heap := h', toks := tk }) : wpAny g.M fc.A (pyNext (.ref I)) Q E s := by
  obtain ⟨oI, nm, fs, i1, i2, i3, _⟩ := it.obj
  cases it with
  | @lst ax vs n xs i a b c d =>
    have hd : xs[i]? = some p := by
      have := congrArg (fun l => l[0]?) eq
      simpa using this
    obtain ⟨v, hv, q⟩ := d.get hd
    have hne : ax ≠ I := fun z => by subst z; rw [b] at i1; cases i1; cases i3
    refine wpAny_pyNext_list_item a (items := vs) ⟨_, b, rfl, n, rfl⟩ (x := v) (by simpa using hv) fun h' hit' hs' => ?_
    have kk : ∀ b x, b ≠ I → s.heap.get? b = some x → h'.get? b = some x := fun b x hb e => (hs'.2 b hb).trans e
    obtain ⟨r', sf⟩ := r.other (tk := s.toks) i1 i3 hI kk
    refine h v h' s.toks r' (q.safe sf) ?_ kk
    have e2 : xs.drop (i + 1) = ps := by
      have := congrArg List.tail eq
      simpa using this
    rw [← e2]
    exact .lst hit' (kk _ _ hne b) c (d.safe sf)
  | @rng a m a1 =>
    cases m with
    | zero => simp at eq
    | succ m =>
      rw [List.range'_succ, List.map_cons] at eq
      injection eq with e1 e2
      subst e1
      refine wpAny_pyNext_range_item a1 (by omega) fun h' hit' hs' => ?_
      have kk : ∀ b x, b ≠ I → s.heap.get? b = some x → h'.get? b = some x := fun b x hb e => (hs'.2 b hb).trans e
      obtain ⟨r', sf⟩ := r.other (tk := s.toks + 1) i1 i3 hI kk
      refine h _ h' (s.toks + 1) r' (.int _ _) ?_ kk
      rw [← e2]
      have e3 : ((m + 1 : Nat) : Int) - 1 = (m : Nat) := by omega
      rw [e3] at hit'
      exact .rng hit'
theorem it_end {qs : List PV} {I : Addr} {Q : Option Value → Shared → Prop} {E : Value → Shared → Prop} (r : R g fc st s) (it : ItAt st.σ s.heap I qs) (eq : qs = []) (hI : g.h0.get? I = none)
    (h : ∀ h' tk, R g fc st { s with heap := h', toks := tk } → (∀ b x, b ≠ I → s.heap.get? b = some x → h'.get? b = some x) → Q none { s with heap := h', toks := tk }) : wpAny g.M fc.A (pyNext (.ref I)) Q E s := by
  obtain ⟨oI, nm, fs, i1, i2, i3, _⟩ := it.obj
  cases it with
  | @lst ax vs n xs i a b c d =>
    have hl := d.length
    have e0 : xs.length ≤ i := by
      have := congrArg List.length eq
      simp at this; omega
    refine wpAny_pyNext_list_end r.ok.hd a (items := vs) ⟨_, b, rfl, n, rfl⟩ (by
      have : vs.toList.length = vs.size := by simp
      simp; omega) fun h' he' => ?_
    exact h h' s.toks (r.other (tk := s.toks) i1 i3 hI he').1 he'
  | @rng a m a1 =>
    cases m with
    | succ m => rw [List.range'_succ, List.map_cons] at eq; cases eq
    | zero => exact wpAny_pyNext_range_end r.ok.hd a1 (by omega) fun h' he' => h h' s.toks (r.other (tk := s.toks) i1 i3 hI he').1 he'
theorem it_go {I : Addr} {ps : List PV} {target : Expr} {v : Value} {Q : Unit → Shared → Prop} {E : Value → Shared → Prop} {σ : Store} (it : ItAt σ s.heap I ps) (h : Q () s) : wpAny g.M fc.A (letOwnedTupleGo target (.ref I) v) Q E s := by
  obtain ⟨o, nm, fs, i1, i2, i3, i4⟩ := it.obj
  have no : (["enumerate", "zip", "dict_itemiterator", "dict_reverseitemiterator", "odict_iterator", "itertools.zip_longest", "itertools.pairwise"].contains nm) = false := by
    rcases i4 with rfl | rfl <;> decide
  unfold letOwnedTupleGo
  cases target <;> first | exact wpAny_pure h | (cases v <;> first | exact wpAny_pure h | (
    refine wpAny_bind (wpAny_load i1 ?_)
    rw [i2, i3]
    dsimp only
    rw [if_neg (by rw [no, Bool.false_and]; exact Bool.false_ne_true)]
    exact wpAny_pure h))

/-- a store into a target -/
noncomputable def WAs (g : Gx) (fc : Fc) (target : Expr) (p : PV) (st : AS) (K : AS → Prop) (X : Int → AS → Prop) : Prop :=
  ∀ s v, R g fc st s → VR st.σ s.heap p v → Wat g fc URl (assign target fc.env v) st s (fun _ => K) X
theorem as_name {x : Str} {pos : Pos} {p : PV} {K : AS → Prop} (h : K (st.sv x p)) (hk : fc.env.kindOf x = some .local ∨ (fc.env.kindOf x = some .cell ∧ fc.wc = true)) : WAs g fc (.Name x pos) p st K X :=
  fun s v r q => wpAny_assign_Name (store r q hk h)
theorem as_tup2 {x y : Str} {p1 p2 pos : Pos} {k : Nat} {p q : PV} {K : AS → Prop} (h : K ((st.sv x p).sv y q)) (hk : fc.env.kindOf x = some .local ∨ (fc.env.kindOf x = some .cell ∧ fc.wc = true)) (hk2 : fc.env.kindOf y = some .local ∨ (fc.env.kindOf y = some .cell ∧ fc.wc = true))
    (he : assignEach [.Name x p1, .Name y p2] fc.env = [(false, assign (.Name x p1) fc.env), (false, assign (.Name y p2) fc.env)] := by rfl) : WAs g fc (.Tuple [.Name x p1, .Name y p2] k pos) (.tup [p, q]) st K X := by
  intro s v r w
  obtain ⟨a, vs, n, rfl, h1, h4, h5⟩ := VR.inv_tup w
  ·
    have hlen := h5.length
    have hsz : vs.toList.length = vs.size := by simp
    refine wpAny_assign_Tuple (items := vs) r.ok.hd ⟨_, h1, rfl, n, rfl⟩ (by rw [he]; show 2 = vs.size; simp at hlen; omega) (by rw [he]; rfl) fun h' e => ?_
    have kk : ∀ b x, s.heap.get? b = some x → h'.get? b = some x := fun b x z => e b x (Nat.ne_of_lt (Heap.lt_size z)) z
    obtain ⟨r', S', sf⟩ := r.keeps (tk := s.toks) kk
    rw [he]
    generalize vs.toList = l at h5
    obtain ⟨v1, l1, rfl, w1, y5⟩ := VRs.inv_cons h5
    obtain ⟨v2, l2, rfl, w2, y6⟩ := VRs.inv_cons y5
    obtain rfl := VRs.inv_nil y6
    ·   
        refine wpAny_bind (wpAny_holding ?_)
        refine wpAny_assign_Name ((store (K := fun _ st₁ => st₁ = st.sv x p) (X := X) r' (w1.safe sf) hk rfl).use (fun _ st₁ _ s₁ _ r₁ S₁ k₁ => ?_) fun _ _ z => EPost.from S' z)
        subst k₁
        refine wpAny_bind (wpAny_holding ?_)
        refine wpAny_assign_Name ((store (K := fun _ st₁ => K st₁) (X := X) r₁ ((w2.safe sf).safe (r'.safe S₁)) hk2 h).use (fun _ st₂ _ s₂ _ r₂ S₂ k₂ => ?_) fun _ _ z => EPost.from (S'.trans S₁) z)
        exact wpAny_pure ⟨(), st₂, trivial, r₂, S'.trans (S₁.trans S₂), k₂⟩
end
end Mine

namespace Mine

section
variable {g : Gx} {fc : Fc} {st st₀ : AS} {s s₀ : Shared} {X : Int → AS → Prop}

/-- what stands at the head of a turn -/
inductive TurnH (g : Gx) (fc : Fc) (σ₀ : Store) (h₀ : Heap) (I : Addr) (J : List PV → AS → Prop) (ps : List PV) (s : Shared) : Prop
  | mk (st : AS) (h1 : R g fc st s) (h2 : Step fc σ₀ st.σ h₀ s.heap) (h3 : ItAt st.σ s.heap I ps) (h4 : J ps st)
noncomputable def Turn (g : Gx) (fc : Fc) (st₀ : AS) (s₀ : Shared) (I : Addr) (J : List PV → AS → Prop) (ps : List PV) (s : Shared) : Prop := TurnH g fc st₀.σ s₀.heap I J ps s

theorem errBack {e : Value} {s' : Shared} {E : Value → Shared → Prop} (r₀ : R g fc st₀ s₀) (x : EPost g fc st₀ s₀ X e s') (h : ∀ s'', EPostB true g fc st₀ s₀ X e s'' → E e s'') : notedBy g.M fc.A fc.env E e s' :=
  EPost.note (b := false) r₀ x h
theorem cameBack {e : Value} {s' : Shared} {E : Value → Shared → Prop} (r₀ : R g fc st₀ s₀) (x : EPostB true g fc st₀ s₀ X e s') (h : ∀ s'', EPostB true g fc st₀ s₀ X e s'' → E e s'') : cameBackBy g.M fc.A fc.env E e s' := by
  unfold cameBackBy
  refine wpAny_bind (EPost.hasTb x fun v hv => ?_)
  rw [if_neg (by rw [hv]; decide)]
  exact EPost.flight r₀ x h

theorem forLoop_core {target : Expr} {I : Addr} {body : List Stmt} {J : List PV → AS → Prop} {K : AF → AS → Prop} (r₀ : R g fc st₀ s₀) (hI : s₀.heap.get? I = none)
    (turn : ∀ p ps st, J (p :: ps) st → WAs g fc target p st (fun st₁ => WS g fc (execs body fc.env) st₁ (loopK (J ps) K) X) X)
    (fin : ∀ st, J [] st → K .next st) {ps : List PV} (h : Turn g fc st₀ s₀ I J ps s) :
    codeAny g.M fc.A (.forLoop target (.ref I) body [] fc.env) (fun r s' => match r with | .ok f => Post g fc FRl st₀ s₀ K f s' | .error e => cameBackBy g.M fc.A fc.env (EPost g fc st₀ s₀ X) e s') s := by
  have h0 : g.h0.get? I = none := by
    cases q : g.h0.get? I with
    | none => rfl
    | some o => rw [r₀.base _ _ q] at hI; cases hI
  have err : ∀ e s', EPost g fc st₀ s₀ X e s' → notedBy g.M fc.A fc.env (fun e s' => cameBackBy g.M fc.A fc.env (EPost g fc st₀ s₀ X) e s') e s' := fun e s' x =>
    errBack r₀ x fun s'' y => cameBack r₀ y fun s3 z => z.weaken
  refine codeAny_forLoop_any (fun n s => ∃ ps, ps.length = n ∧ Turn g fc st₀ s₀ I J ps s) (fun n s hT => ?_) ps.length ⟨ps, rfl, h⟩
  obtain ⟨ps, hn, st, r, S, it, j⟩ := hT
  cases ps with
  | nil =>
    refine it_end r it rfl h0 fun h' tk r' k => ?_
    exact wpAny_execs_nil ⟨.next, st, .next, r', S.other k hI, fin st j⟩
  | cons p ps =>
    refine it_next r it rfl h0 fun v h' tk r' q it' k => ?_
    refine it_go it' ?_
    have S' := S.other k hI
    refine (turn p ps st j _ v r' q).use (fun _ st₁ _ s₁ _ r₁ S₁ k₁ => ?_) fun e s' z => err e s' (EPost.from S' z)
    refine (k₁ s₁ r₁).use (fun fl st₂ f s₂ qf r₂ S₂ k₂ => ?_) fun e s' z => err e s' (EPost.from (S'.trans S₁) z)
    have S3 := S'.trans (S₁.trans S₂)
    have it2 : ItAt st₂.σ s₂.heap I ps := by
      obtain ⟨o, nm, fs, i1, i2, i3, _⟩ := it'.obj
      obtain ⟨a, b, c⟩ := r'.notFootF i1 i3
      have SS := S₁.trans S₂
      exact it'.safe (r'.safe SS) fun o' e => by
        have z := SS.keep I o' e a b
        exact z
    cases qf with
    | next => exact ⟨ps.length, by simp [← hn], ps, rfl, st₂, r₂, S3, it2, k₂⟩
    | cont => exact ⟨ps.length, by simp [← hn], ps, rfl, st₂, r₂, S3, it2, k₂⟩
    | brk => exact ⟨.next, st₂, .next, r₂, S3, k₂⟩
    | ret v => exact ⟨.ret _, st₂, .ret v, r₂, S3, k₂⟩

theorem mk_it_list {xs : List PV} {v : Value} {Q : Value → Shared → Prop} {E : Value → Shared → Prop} (r : R g fc st s) (q : VR st.σ s.heap (.fl xs) v)
    (h : ∀ I h', s.heap.get? I = none → R g fc st { s with heap := h' } → Step fc st.σ st.σ s.heap h' → ItAt st.σ h' I xs → Q (.ref I) { s with heap := h' }) : wpAny g.M fc.A (pyIter v) Q E s := by
  cases q with
  | @fl a vs n _ h1 h4 h5 =>
    refine wpAny_pyIter_list (items := vs) ⟨_, h1, rfl, n, rfl⟩ (h _ _ ?_ (r.push _) Step.push ?_)
    · cases q : s.heap.get? s.heap.objs.size with
      | none => rfl
      | some o => exact absurd (Heap.lt_size q) (Nat.lt_irrefl _)
    · have S := Step.push (fc := fc) (σ := st.σ) (h := s.heap) (o := { cls := .type "list_iterator", data := .fields #[.ref a, .int 0 0] })
      have sf := r.safe (st' := st) (s' := { s with heap := _ }) S
      exact .lst (i := 0) ⟨_, Heap.get?_push_size _ rfl, rfl, rfl⟩ (Heap.get?_push_of_some _ h1) h4 (h5.safe sf)

inductive ItQ (g : Gx) (fc : Fc) (σ : Store) (h : Heap) (K : List PV → AS → Prop) (it : Value) (s₂ : Shared) : Prop
  | mk (I : Addr) (ps : List PV) (st₁ : AS) (h1 : it = .ref I) (h2 : h.get? I = none) (h3 : R g fc st₁ s₂) (h4 : Step fc σ st₁.σ h s₂.heap) (h5 : ItAt st₁.σ s₂.heap I ps) (k : K ps st₁)
inductive KFl (K : List PV → AS → Prop) (p : PV) (st : AS) : Prop
  | mk (ps : List PV) (h : p = .fl ps) (k : K ps st)
inductive KRg (K : List PV → AS → Prop) (p : PV) (st : AS) : Prop
  | mk (n : Nat) (h : p = .int n) (hn : n ≤ 10000) (k : K (intsTo n) st)
/-- an iterator over ps comes from the text i -/
noncomputable def IterW (g : Gx) (fc : Fc) (i : Expr) (st : AS) (K : List PV → AS → Prop) (X : Int → AS → Prop) : Prop :=
  ∀ s, R g fc st s → wpAny g.M fc.A (eval i fc.env) (fun x s₁ => wpAny g.M fc.A (pyIter x) (ItQ g fc st.σ s.heap K) (EPost g fc st s X) s₁) (EPost g fc st s X) s
theorem iter_fl {i : Expr} {K : List PV → AS → Prop} (h : WE g fc (eval i fc.env) st (KFl K) X) : IterW g fc i st K X := by
  intro s r
  refine (h s r).use (fun p st₁ v s₁ q r₁ S k => ?_) fun _ _ z => z
  obtain ⟨ps, rfl, j⟩ := k
  exact mk_it_list r₁ q fun I h' hI r' S' it => ⟨I, ps, st₁, rfl, newOf S.live hI, r', S.trans S', it, j⟩
theorem iter_range {e : Expr} {p1 p2 : Pos} {K : List PV → AS → Prop} (G : g.Ok) (hx : fc.env.kindOf "range" = some .globalImplicit)
    (h : WE g fc (eval e fc.env) st (KRg K) X) (he : starEach [e] fc.env = [(false, eval e fc.env)] := by rfl) : IterW g fc (.Call (.Name "range" p1) [e] [] p2) st K X := by
  intro s r
  refine Call_ (name_boot G r (n_range _) PyProof.Rows.Boot.«range» (by decide) hx ?_)
  refine PyProof.Rows.callWith_type1 ?_ he
  have hb : backTo p2 (starEach [e] fc.env) = [(false, eval e fc.env)] := by rw [he]; rfl
  rw [hb]
  refine Calls.spliced_cons ?_
  refine (h s r).use (fun q st₁ v s₁ w r₁ S k => ?_) fun _ _ z => z
  refine Calls.spliced_nil ?_
  obtain ⟨n, rfl, hn, j⟩ := k
  obtain ⟨t, rfl⟩ := VR.inv_int w
  ·
    refine call_range_1 ?_
    have r2 := R.toks (k := s₁.toks + 1 + 1) (r₁.push { cls := .type "range", data := .fields #[.int 0 s₁.toks, .int n t, .int 1 (s₁.toks + 1)] })
    have S2 : Step fc st₁.σ st₁.σ s₁.heap (s₁.heap.push { cls := .type "range", data := .fields #[.int 0 s₁.toks, .int n t, .int 1 (s₁.toks + 1)] }) := Step.push
    have hz : Builtin.Range.rangeSize 0 (n : Int) 1 = (n : Nat) := by rw [rangeSize_one]; split <;> omega
    refine wpAny_pyIter_range (a := 0) (b := n) (c := 1) (t := s₁.toks) (u := t) (v := s₁.toks + 1) (Heap.get?_push_size _ rfl) (small_one (by omega) (by omega) (by omega) (by omega)) ?_
    rw [hz]
    have r3 := r2.push { cls := .type "range_iterator", data := .fields #[rawInt 0, rawInt (n : Int), rawInt 1] }
    have S3 := S.trans (S2.trans (Step.push (o := { cls := .type "range_iterator", data := .fields #[rawInt 0, rawInt (n : Int), rawInt 1] })))
    have hI : ∀ b : Heap, b.get? b.objs.size = none := fun b => by
      cases q : b.get? b.objs.size with
      | none => rfl
      | some o => exact absurd (Heap.lt_size q) (Nat.lt_irrefl _)
    have hI0 : s.heap.get? (s₁.heap.push { cls := .type "range", data := .fields #[.int 0 s₁.toks, .int n t, .int 1 (s₁.toks + 1)] }).objs.size = none := newOf (S.trans S2).live (hI _)
    exact ⟨_, intsTo n, st₁, rfl, hI0, r3, S3, by
      unfold intsTo
      rw [List.range_eq_range']
      exact .rng (a := 0) (m := n) (Heap.get?_push_size _ rfl), j⟩

theorem s_for {target iter : Expr} {body : List Stmt} {pos : Pos} {J : List PV → AS → Prop} {K : AF → AS → Prop}
    (h : IterW g fc iter st J X)
    (turn : ∀ p ps st, J (p :: ps) st → WAs g fc target p st (fun st₁ => WS g fc (execs body fc.env) st₁ (loopK (J ps) K) X) X)
    (fin : ∀ st, J [] st → K .next st)
    (hs : ∀ x, foldedSetIterable iter fc.env x = pure x := by intro _; rfl) : WS g fc (exec (.For target iter body [] pos) fc.env) st K X := by
  intro s r
  refine wpAny_For (wpAny_mono (h s r) (fun x s₁ h₁ => wpAny_mono h₁ (fun it s₂ h₂ => ?_) fun _ _ z => z) fun _ _ z => z) hs
  obtain ⟨I, ps, st₁, rfl, hI, r₁, S, it, j⟩ := h₂
  exact forLoop_core r hI turn fin (ps := ps) ⟨st₁, r₁, S, it, j⟩
end
end Mine

namespace Mine

section
variable {g : Gx} {fc : Fc} {st st₀ : AS} {s s₀ : Shared} {X : Int → AS → Prop}

theorem Step.lateN {σ σ' : Store} {h h₁ h' n : Heap} (S : Step fc σ σ' h h₁) (hn : ∀ b o, h.get? b = some o → ∃ o', n.get? b = some o') (L : Late n fc.fr h₁ h') : Step fc σ σ' h h' := by
  have z : ∀ b o, h.get? b = some o → n.get? b ≠ none := fun b o e => by obtain ⟨o', e'⟩ := hn b o e; rw [e']; simp
  refine ⟨fun b o e => let ⟨o', e'⟩ := S.live b o e; L.live b o' e', fun b o e nf m => L.keep b o (S.keep b o e nf m) (.inl (z b o e)) m, fun b o e nf m => ?_, S.grow⟩
  obtain ⟨s1, h1⟩ := S.slots b o e nf m
  obtain ⟨s2, h2⟩ := L.slots b _ h1 (.inl (z b o e)) m
  exact ⟨s2, h2⟩

noncomputable def tstOf (c : Option Expr) (env : Env) : Sem Bool := match c with
  | none => pure true
  | some c => isTrue c env (eval c env)

/-- what a turn does with an item that passes the test, by its wp -/
noncomputable abbrev WpT := (Unit → Shared → Prop) → (Value → Shared → Prop) → Shared → Prop
noncomputable def WpT.Mono (T : WpT) : Prop := ∀ Q Q' E E' s, T Q E s → (∀ a s, Q a s → Q' a s) → (∀ e s, E e s → E' e s) → T Q' E' s
noncomputable def ofTree (g : Gx) (fc : Fc) (t : Sem Unit) : WpT := fun Q E s => wpAny g.M fc.A t Q E s
theorem ofTree_mono {g : Gx} {fc : Fc} {t : Sem Unit} : (ofTree g fc t).Mono := fun _ _ _ _ _ h a b => wpAny_mono h a b
noncomputable def WT (g : Gx) (fc : Fc) (T : WpT) (st : AS) (K : AS → Prop) (X : Int → AS → Prop) : Prop := ∀ s, R g fc st s → T (Post g fc URl st s fun _ => K) (EPost g fc st s X) s
/-- one turn of a comprehension, by its parts -/
noncomputable def CUn (g : Gx) (fc : Fc) (e : Expr) (d : Nat) (acc : Value) (target : Expr) (test : Option Expr) (stage : WpT) : Prop :=
  ∀ (it : Value) (Q : Fin → Shared → Prop) (E : Value → Shared → Prop) (s : Shared), wpAny g.M fc.A (pyNext it) (fun r s₁ => match r with
    | none => Q (.done .next) s₁
    | some v => wpAny g.M fc.A (letOwnedTupleGo target it v) (fun _ s₂ => wpAny g.M fc.A (assign target fc.env v) (fun _ s₃ => wpAny g.M fc.A (tstOf test fc.env) (fun ok s₄ =>
        if ok = true then stage (fun _ s₅ => Q (.again (.compLoop e d it acc fc.env)) s₅) E s₄ else Q (.again (.compLoop e d it acc fc.env)) s₄) E s₃) E s₂) E s₁) E s →
    wpAny g.M fc.A (compTurn e d it acc fc.env) Q E s

noncomputable def TurnW (g : Gx) (fc : Fc) (target : Expr) (test : Option Expr) (stage : WpT) (X : Int → AS → Prop) (J : List PV → AS → Prop) : Prop :=
  ∀ p ps st, J (p :: ps) st → WAs g fc target p st (fun st₁ => WB g fc (tstOf test fc.env) st₁ (fun ok st₂ => if ok = true then WT g fc stage st₂ (fun st₃ => J ps st₃) X else J ps st₂) X) X

noncomputable def Live (n h : Heap) : Prop := ∀ b o, n.get? b = some o → ∃ o', h.get? b = some o'
theorem Live.trans {a b c : Heap} (x : Live a b) (y : Live b c) : Live a c := fun q o e => let ⟨o', e'⟩ := x q o e; y q o' e'
/-- the base of a loop: Z keeps what was changed since the start, n is the heap of the start (without the iterator) -/
structure Base (g : Gx) (fc : Fc) (n : Heap) (I : Addr) (Z : Store → Heap → Prop) : Prop where
  step : ∀ {σ₁ σ₂ : Store} {h₁ h₂ : Heap}, Z σ₁ h₁ → Step fc σ₁ σ₂ h₁ h₂ → Z σ₂ h₂
  other : ∀ {σ : Store} {h h' : Heap}, Z σ h → (∀ b x, b ≠ I → h.get? b = some x → h'.get? b = some x) → Z σ h'
  late : ∀ {σ : Store} {h h' : Heap}, Z σ h → Late n fc.fr h h' → Z σ h'
  h0n : ∀ b o, g.h0.get? b = some o → n.get? b ≠ none
  frn : ∀ b ∈ fc.fr, n.get? b ≠ none
  h0I : g.h0.get? I = none
  nI : n.get? I = none
theorem Base.self {I : Addr} (r : R g fc st s) (hI : s.heap.get? I = none) : Base g fc s.heap I (fun σ h => Step fc st.σ σ s.heap h) where
  step := fun a b => a.trans b
  other := fun a b => a.other b hI
  late := fun a b => a.late b
  h0n := r.h0in
  frn := frLt r
  h0I := by
    cases q : g.h0.get? I with
    | none => rfl
    | some o => rw [r.base _ _ q] at hI; cases hI
  nI := hI
inductive TurnO (g : Gx) (fc : Fc) (n : Heap) (Z : Store → Heap → Prop) (I : Addr) (J : List PV → AS → Prop) (ps : List PV) (s : Shared) : Prop
  | mk (st : AS) (h1 : R g fc st s) (h2 : Z st.σ s.heap) (h3 : Live n s.heap) (h4 : ItAt st.σ s.heap I ps) (h5 : J ps st)
inductive EO (b : Bool) (g : Gx) (fc : Fc) (n : Heap) (Z : Store → Heap → Prop) (X : Int → AS → Prop) (e : Value) (s' : Shared) : Prop
  | mk (l : Int) (st' : AS) (h1 : FL b l n st'.σ s'.heap e) (h2 : R g fc st' s') (h3 : Z st'.σ s'.heap) (h4 : Live n s'.heap) (h5 : X l st')
variable {n : Heap} {I : Addr} {Z : Store → Heap → Prop}
theorem EO.of (B : Base g fc n I Z) (S : Z st.σ s.heap) (L : Live n s.heap) {e : Value} {s' : Shared} (x : EPost g fc st s X e s') : EO false g fc n Z X e s' :=
  let ⟨l, st', F, r, S', k⟩ := x; ⟨l, st', F.le L, r, B.step S S', L.trans S'.live, k⟩
theorem EO.note (B : Base g fc n I Z) {b : Bool} {e : Value} {s' : Shared} {Q : Unit → Shared → Prop} {E : Value → Shared → Prop} (x : EO b g fc n Z X e s') (h : ∀ s'', EO true g fc n Z X e s'' → Q () s'') : wpAny g.M fc.A (noteFrame e fc.env) Q E s' := by
  obtain ⟨l, st', F, r', S, Ln, k⟩ := x
  exact noteFrame_R r' F B.h0n Ln B.frn fun h' F' L => h _ ⟨l, st', F', (r'.late L B.h0n).1, B.late S L, Ln.trans L.live, k⟩
theorem EO.flight (B : Base g fc n I Z) {b : Bool} {e : Value} {s' : Shared} {x' : Option Addr} {Q : Unit → Shared → Prop} {E : Value → Shared → Prop} (x : EO b g fc n Z X e s') (h : ∀ s'', EO b g fc n Z X e s'' → Q () s'') : wpAny g.M fc.A (setFlight e x') Q E s' := by
  obtain ⟨l, st', F, r', S, Ln, k⟩ := x
  exact setFlight_R (fr := fc.fr) F fun h' F' L => h _ ⟨l, st', F', (r'.late L B.h0n).1, B.late S L, Ln.trans L.live, k⟩
theorem FL.hasTb {l : Int} {σ : Store} {e : Value} {Q : Value → Shared → Prop} {E : Value → Shared → Prop} (x : FL true l n σ s.heap e) (h : ∀ v, (v == Value.none) = false → Q v s) : wpAny g.M fc.A (field e 1) Q E s := by
  obtain ⟨a, oe, vs, d, es, k, tb, t, rfl, h2, h3, h4, h5, h6, h7, h8, h9, h10, h11, h12, h13⟩ := x
  rcases h13 with ⟨q, _⟩ | ⟨T, oT, ts, rfl, q⟩
  · cases q
  · exact wpAny_field h3 h6 h8 (h _ (by simp))
theorem EO.came (B : Base g fc n I Z) {e : Value} {s' : Shared} {E : Value → Shared → Prop} (x : EO true g fc n Z X e s') (h : ∀ s'', EO true g fc n Z X e s'' → E e s'') : cameBackBy g.M fc.A fc.env E e s' := by
  have x0 := x
  obtain ⟨l, st', F, _, _, _, _⟩ := x
  unfold cameBackBy
  refine wpAny_bind (F.hasTb fun v hv => ?_)
  rw [if_neg (by rw [hv]; decide)]
  exact EO.flight B x0 h

theorem comp_turn {e : Expr} {d : Nat} {acc : Value} {target : Expr} {test : Option Expr} {stage : WpT} {J : List PV → AS → Prop} {Q : Result → Shared → Prop} (B : Base g fc n I Z) (hmo : stage.Mono) (hun : CUn g fc e d acc target test stage) (turn : TurnW g fc target test stage X J)
    (hQ : ∀ s', (∃ st', R g fc st' s' ∧ Z st'.σ s'.heap ∧ Live n s'.heap ∧ J [] st') → Q (.ok .next) s') (hE : ∀ e s', EO true g fc n Z X e s' → Q (.error e) s')
    {ps : List PV} (h : TurnO g fc n Z I J ps s) :
    wpAny g.M fc.A (compTurn e d (.ref I) acc fc.env) (fun fin s' => match fin with | .done f => Q (.ok f) s' | .again c' => c' = .compLoop e d (.ref I) acc fc.env ∧ ∃ m, m < ps.length + 1 ∧ ∃ qs, qs.length + 1 = m ∧ TurnO g fc n Z I J qs s') (notedBy g.M fc.A fc.env fun e s' => Q (.error e) s') s := by
  have err : ∀ e s', EO false g fc n Z X e s' → notedBy g.M fc.A fc.env (fun e s' => Q (.error e) s') e s' := fun e s' x => EO.note B x fun s'' y => hE _ _ y
  obtain ⟨st, r, S, Ln, it, j⟩ := h
  refine hun _ _ _ _ ?_
  cases ps with
  | nil => exact it_end r it rfl B.h0I fun h' tk r' k => hQ _ ⟨st, r', B.other S k, fun b o e => let ⟨o', e'⟩ := Ln b o e; ⟨o', k b o' (fun z => by rw [z, B.nI] at e; cases e) e'⟩, j⟩
  | cons p ps =>
    refine it_next r it rfl B.h0I fun v h' tk r' q it' k => ?_
    refine it_go it' ?_
    have S' := B.other S k
    have Ln' : Live n h' := fun b o e => let ⟨o', e'⟩ := Ln b o e; ⟨o', k b o' (fun z => by rw [z, B.nI] at e; cases e) e'⟩
    have stay : ∀ {st₂ : AS} {s₂ : Shared}, Step fc st.σ st₂.σ h' s₂.heap → ItAt st₂.σ s₂.heap I ps := fun {st₂ s₂} SS => by
      obtain ⟨o, nm, fs, i1, i2, i3, _⟩ := it'.obj
      obtain ⟨a, b, c⟩ := r'.notFootF i1 i3
      exact it'.safe (r'.safe (st' := st₂) (s' := s₂) SS) fun o' e => SS.keep I o' e a b
    refine (turn p ps st j _ v r' q).use (fun _ st₁ _ s₁ _ r₁ S₁ k₁ => ?_) fun e s' z => err e s' (EO.of B S' Ln' z)
    refine (k₁ s₁ r₁).use (fun ok st₂ f s₂ qf r₂ S₂ k₂ => ?_) fun e s' z => err e s' (EO.of B (B.step S' S₁) (Ln'.trans S₁.live) z)
    cases qf
    cases ok with
    | false => exact ⟨rfl, ps.length + 1, by simp, ps, rfl, st₂, r₂, B.step S' (S₁.trans S₂), Ln'.trans (S₁.trans S₂).live, stay (S₁.trans S₂), k₂⟩
    | true =>
      refine hmo _ _ _ _ _ (k₂ s₂ r₂) (fun _ s₃ ⟨_, st₃, _, r₃, S₃, k₃⟩ => ?_) fun e s' z => err e s' (EO.of B (B.step S' (S₁.trans S₂)) (Ln'.trans (S₁.trans S₂).live) z)
      exact ⟨rfl, ps.length + 1, by simp, ps, rfl, st₃, r₃, B.step S' (S₁.trans (S₂.trans S₃)), Ln'.trans (S₁.trans (S₂.trans S₃)).live, stay (S₁.trans (S₂.trans S₃)), k₃⟩

theorem lcomp_loop {elt : Expr} {gens : List Comprehension} {sc : Scope} {pos : Pos} {d : Nat} {acc : Value} {target : Expr} {test : Option Expr} {stage : WpT} {J : List PV → AS → Prop} {Q : Result → Shared → Prop} (B : Base g fc n I Z) (hmo : stage.Mono) (hun : CUn g fc (.ListComp elt gens sc pos) d acc target test stage) (turn : TurnW g fc target test stage X J)
    (hQ : ∀ s', (∃ st', R g fc st' s' ∧ Z st'.σ s'.heap ∧ Live n s'.heap ∧ J [] st') → Q (.ok .next) s') (hE : ∀ e s', EO true g fc n Z X e s' → Q (.error e) s')
    {ps : List PV} (h : TurnO g fc n Z I J ps s) : codeAny g.M fc.A (.compLoop (.ListComp elt gens sc pos) d (.ref I) acc fc.env) Q s := by
  refine codeAny_loop rfl (fun k s => ∃ qs, qs.length + 1 = k ∧ TurnO g fc n Z I J qs s) (fun k s hT => ?_) (ps.length + 1) ⟨ps, rfl, h⟩
  obtain ⟨qs, rfl, hT⟩ := hT
  show wpAny _ fc.A ((compTurn (.ListComp elt gens sc pos) d (.ref I) acc fc.env).onRaise (fun x => do noteFrame x fc.env; theTreesLotGoes x)) _ _ s
  exact wpAny_noted (comp_turn B hmo hun turn hQ hE hT)
theorem dcomp_loop {kx vx : Expr} {gens : List Comprehension} {sc : Scope} {pos : Pos} {d : Nat} {acc : Value} {target : Expr} {test : Option Expr} {stage : WpT} {J : List PV → AS → Prop} {Q : Result → Shared → Prop} (B : Base g fc n I Z) (hmo : stage.Mono) (hun : CUn g fc (.DictComp kx vx gens sc pos) d acc target test stage) (turn : TurnW g fc target test stage X J)
    (hQ : ∀ s', (∃ st', R g fc st' s' ∧ Z st'.σ s'.heap ∧ Live n s'.heap ∧ J [] st') → Q (.ok .next) s') (hE : ∀ e s', EO true g fc n Z X e s' → Q (.error e) s')
    {ps : List PV} (h : TurnO g fc n Z I J ps s) : codeAny g.M fc.A (.compLoop (.DictComp kx vx gens sc pos) d (.ref I) acc fc.env) Q s := by
  refine codeAny_loop rfl (fun k s => ∃ qs, qs.length + 1 = k ∧ TurnO g fc n Z I J qs s) (fun k s hT => ?_) (ps.length + 1) ⟨ps, rfl, h⟩
  obtain ⟨qs, rfl, hT⟩ := hT
  show wpAny _ fc.A ((compTurn (.DictComp kx vx gens sc pos) d (.ref I) acc fc.env).onRaise (fun x => do noteFrame x fc.env; theTreesLotGoes x)) _ _ s
  exact wpAny_noted (comp_turn B hmo hun turn hQ hE hT)

noncomputable def ifsOf : Option Expr → List Expr
  | none => []
  | some c => [c]
theorem wp_tests {M : Model} {A : Around} {E : Value → Shared → Prop} {env : Env} {test : Option Expr} {Q : Bool → Shared → Prop} (h : wpAny M A (tstOf test env) Q E s) :
    wpAny M A (forIn (ifsOf test) true fun c r => if r = true then do let ok ← isTrue c env (eval c env); pure (ForInStep.yield ok) else pure (ForInStep.yield r)) Q E s := by
  cases test with
  | none => exact h
  | some c =>
    simp only [ifsOf, List.forIn_cons, List.forIn_nil, if_true]
    exact wpAny_bind (wpAny_bind (wpAny_mono h (fun b s' hb => wpAny_pure (wpAny_pure hb)) fun _ _ x => x))

theorem un_list1 {elt target iter : Expr} {test : Option Expr} {sc : Scope} {pos : Pos} {acc : Value} : CUn g fc (.ListComp elt [⟨target, iter, ifsOf test, 0⟩] sc pos) 0 acc target test (ofTree g fc do let _ ← call (.builtin "list.append") [acc, ← eval elt fc.env]) := by
  intro it Q E s h
  rw [compTurn_list]
  refine wpAny_bind (wpAny_standAt (wpAny_bind (wpAny_mono h (fun r s₁ h₁ => ?_) fun _ _ h' => h')))
  cases r with
  | none => exact wpAny_pure h₁
  | some v =>
    refine wpAny_bind (wpAny_mono h₁ (fun _ s₂ h₂ => wpAny_bind (wpAny_mono h₂ (fun _ s₃ h₃ => wpAny_bind (wpAny_mono (wp_tests h₃) (fun ok s₄ h₄ => ?_) fun _ _ h' => h')) fun _ _ h' => h')) fun _ _ h' => h')
    cases ok with
    | false => exact wpAny_pure h₄
    | true => exact wpAny_bind (wpAny_mono h₄ (fun _ s₅ h₅ => wpAny_pure h₅) fun _ _ h' => h')
theorem un_dict1 {kx vx target iter : Expr} {test : Option Expr} {sc : Scope} {pos : Pos} {D : Addr} : CUn g fc (.DictComp kx vx [⟨target, iter, ifsOf test, 0⟩] sc pos) 0 (.ref D) target test (ofTree g fc do
            let kv ← eval kx fc.env
            let vv ← holding [kv] (eval vx fc.env)
            standAt { kx.pos with endLine := vx.pos.endLine, endCol := vx.pos.endCol }
            holding [kv, vv] (dictSet D kv vv)) := by
  intro it Q E s h
  rw [compTurn_dict]
  refine wpAny_bind (wpAny_standAt (wpAny_bind (wpAny_mono h (fun r s₁ h₁ => ?_) fun _ _ h' => h')))
  cases r with
  | none => exact wpAny_pure h₁
  | some v =>
    refine wpAny_bind (wpAny_mono h₁ (fun _ s₂ h₂ => wpAny_bind (wpAny_mono h₂ (fun _ s₃ h₃ => wpAny_bind (wpAny_mono (wp_tests h₃) (fun ok s₄ h₄ => ?_) fun _ _ h' => h')) fun _ _ h' => h')) fun _ _ h' => h')
    cases ok with
    | false => exact wpAny_pure h₄
    | true => exact wpAny_bind (wpAny_mono h₄ (fun _ s₅ h₅ => wpAny_pure h₅) fun _ _ h' => h')
end
end Mine

namespace Mine

section
variable {g : Gx} {fc : Fc} {st st₀ : AS} {s s₀ : Shared} {X : Int → AS → Prop}

theorem un_list2b {elt t1 t2 i1 i2 : Expr} {c1 c2 : Option Expr} {sc : Scope} {pos : Pos} {acc : Value} : CUn g fc (.ListComp elt [⟨t1, i1, ifsOf c1, 0⟩, ⟨t2, i2, ifsOf c2, 0⟩] sc pos) 1 acc t2 c2 (ofTree g fc do let _ ← call (.builtin "list.append") [acc, ← eval elt fc.env]) := by
  intro it Q E s h
  unfold compTurn
  refine wpAny_bind (wpAny_standAt (wpAny_bind (wpAny_mono h (fun r s₁ h₁ => ?_) fun _ _ h' => h')))
  cases r with
  | none => exact wpAny_pure h₁
  | some v =>
    refine wpAny_bind (wpAny_mono h₁ (fun _ s₂ h₂ => wpAny_bind (wpAny_mono h₂ (fun _ s₃ h₃ => wpAny_bind (wpAny_mono (wp_tests h₃) (fun ok s₄ h₄ => ?_) fun _ _ h' => h')) fun _ _ h' => h')) fun _ _ h' => h')
    cases ok with
    | false => exact wpAny_pure h₄
    | true => exact wpAny_bind (wpAny_mono h₄ (fun _ s₅ h₅ => wpAny_pure h₅) fun _ _ h' => h')
noncomputable def innerT (g : Gx) (fc : Fc) (e : Expr) (i2 : Expr) (acc : Value) : WpT := fun Q E s =>
  wpAny g.M fc.A (eval i2 fc.env) (fun x s₁ => wpAny g.M fc.A (pyIter x) (fun it s₂ => codeAny g.M fc.A (.compStart e 1 it acc fc.env) (fun r s' => match r with | .ok _ => Q () s' | .error e => cameBackBy g.M fc.A fc.env E e s') s₂) E s₁) E s
theorem innerT_mono {e i2 : Expr} {acc : Value} : (innerT g fc e i2 acc).Mono := fun Q Q' E E' s h a b =>
  wpAny_mono h (fun x s₁ h => wpAny_mono h (fun it s₂ h => codeAny_mono h fun r s' h => by
    cases r with
    | ok f => exact a _ _ h
    | error e => exact wpAny_mono h (fun _ _ => b _ _) fun _ _ => b _ _) fun _ _ => b _ _) fun _ _ => b _ _
theorem un_list2a {elt t1 t2 i1 i2 : Expr} {c1 c2 : Option Expr} {sc : Scope} {pos : Pos} {acc : Value} (hs : ∀ x, foldedSetIterable i2 fc.env x = pure x) : CUn g fc (.ListComp elt [⟨t1, i1, ifsOf c1, 0⟩, ⟨t2, i2, ifsOf c2, 0⟩] sc pos) 0 acc t1 c1
    (innerT g fc (.ListComp elt [⟨t1, i1, ifsOf c1, 0⟩, ⟨t2, i2, ifsOf c2, 0⟩] sc pos) i2 acc) := by
  intro it Q E s h
  unfold compTurn
  refine wpAny_bind (wpAny_standAt (wpAny_bind (wpAny_mono h (fun r s₁ h₁ => ?_) fun _ _ h' => h')))
  cases r with
  | none => exact wpAny_pure h₁
  | some v =>
    refine wpAny_bind (wpAny_mono h₁ (fun _ s₂ h₂ => wpAny_bind (wpAny_mono h₂ (fun _ s₃ h₃ => wpAny_bind (wpAny_mono (wp_tests h₃) (fun ok s₄ h₄ => ?_) fun _ _ h' => h')) fun _ _ h' => h')) fun _ _ h' => h')
    cases ok with
    | false => exact wpAny_pure h₄
    | true =>
      refine wpAny_bind (wpAny_mono h₄ (fun x s₅ h₅ => ?_) fun _ _ h' => h')
      refine wpAny_bind (wpAny_standAt (wpAny_bind (wpAny_of_eq (hs x) (wpAny_bind (wpAny_holding (wpAny_mono h₅ (fun it' s₆ h₆ => ?_) fun _ _ h' => h'))))))
      refine wpAny_bind (wpAny_mono (wpAny_runOwn (Q := fun _ s' => Q (.again (.compLoop _ 0 it acc fc.env)) s') (codeAny_mono h₆ fun r s' h => ?_)) (fun _ s' h => wpAny_pure h) fun _ _ h' => h')
      cases r with
      | ok f => exact h
      | error e => exact h
end
end Mine

namespace Mine

/-- the cells that a comprehension captures -/
noncomputable def clAll (env : Env) : List (Str × NameKind) → List (Str × Addr) → List (Str × Addr)
  | [], acc => acc
  | (n, k) :: r, acc => if k == .free then clAll env r ((n, (env.cells.lookup n).getD 0) :: acc) else clAll env r acc
theorem clAll_mem {env : Env} {x : Str} {a : Addr} : ∀ {names : List (Str × NameKind)} {acc : List (Str × Addr)}, (x, a) ∈ clAll env names acc → (x, a) ∈ acc ∨ ((x, .free) ∈ names ∧ a = (env.cells.lookup x).getD 0)
  | [], acc, h => .inl h
  | (n, k) :: r, acc, h => by
    unfold clAll at h
    split at h
    · rename_i hk
      have hk : k = .free := by simpa using hk
      rcases clAll_mem h with h | ⟨h1, h2⟩
      · rcases List.mem_cons.mp h with h | h
        · cases h; exact .inr ⟨by rw [hk]; exact .head _, rfl⟩
        · exact .inl h
      · exact .inr ⟨.tail _ h1, h2⟩
    · rcases clAll_mem h with h | ⟨h1, h2⟩
      · exact .inl h
      · exact .inr ⟨.tail _ h1, h2⟩
theorem clAll_some {env : Env} {x : Str} : ∀ {names : List (Str × NameKind)} {acc : List (Str × Addr)}, ((x, .free) ∈ names ∨ (acc.lookup x).isSome = true) → ((clAll env names acc).lookup x).isSome = true
  | [], acc, h => by
    rcases h with h | h
    · cases h
    · exact h
  | (n, k) :: r, acc, h => by
    unfold clAll
    split
    · rename_i hk
      refine clAll_some ?_
      rcases h with h | h
      · rcases List.mem_cons.mp h with h | h
        · cases h; exact .inr (by simp)
        · exact .inl h
      · refine .inr ?_
        rw [List.lookup_cons]
        split
        · rfl
        · exact h
    · rename_i hk
      refine clAll_some ?_
      rcases h with h | h
      · rcases List.mem_cons.mp h with h | h
        · cases h; simp at hk
        · exact .inl h
      · exact .inr h
theorem closure_all {scope : Scope} {env : Env} (h : ∀ n, (n, NameKind.free) ∈ scope.names → ∃ a, env.cells.lookup n = some a) : closureFor scope env = pure (clAll env scope.names []) := by
  have key : ∀ (l : List (Str × NameKind)) (acc : List (Str × Addr)), (∀ n, (n, NameKind.free) ∈ l → ∃ a, env.cells.lookup n = some a) →
      (forIn l acc fun x r => do
        if (x.2 == NameKind.free) = true then
          let y ← cellOf env x.1
          pure (ForInStep.yield ((x.1, y) :: r))
        else pure (ForInStep.yield r)) = (pure (clAll env l acc) : Sem (List (Str × Addr))) := by
    intro l
    induction l with
    | nil => intro acc _; rfl
    | cons x l ih =>
      intro acc hl
      obtain ⟨n, k⟩ := x
      rw [List.forIn_cons]
      unfold clAll
      cases hk : (k == NameKind.free) with
      | true =>
        have hk' : k = .free := by simpa using hk
        obtain ⟨a, ha⟩ := hl n (by rw [hk']; exact .head _)
        have hc : cellOf env n = pure a := by unfold cellOf; rw [ha]
        simp only [if_true, hc, pure_bind, ha, Option.getD_some]
        exact ih _ fun n hn => hl n (.tail _ hn)
      | false =>
        simp only [Bool.false_eq_true, if_false, pure_bind]
        exact ih _ fun n hn => hl n (.tail _ hn)
  unfold closureFor
  have := key scope.names [] h
  simp only [bind_pure_comp] at this ⊢
  simpa using this

noncomputable def okScope (sc : Scope) (env : Env) : Bool :=
  sc.kind == .function && sc.names.all fun y => y.2 != .cell && (y.2 != .free || env.kindOf y.1 == some .cell) && (y.2 != .local || sc.names.lookup y.1 == some .local)
theorem okScope_kind {sc : Scope} {env : Env} (h : okScope sc env = true) : sc.kind = .function := by
  unfold okScope at h; rw [Bool.and_eq_true] at h; simpa using h.1
theorem okScope_all {sc : Scope} {env : Env} (h : okScope sc env = true) {x : Str} {k : NameKind} (m : (x, k) ∈ sc.names) : k ≠ .cell ∧ (k = .free → env.kindOf x = some .cell) ∧ (k = .local → sc.names.lookup x = some .local) := by
  unfold okScope at h; rw [Bool.and_eq_true] at h
  have := List.all_eq_true.mp h.2 _ m
  simp only [Bool.and_eq_true, Bool.or_eq_true, bne_iff_ne, beq_iff_eq, ne_eq] at this
  obtain ⟨⟨a, b⟩, c⟩ := this
  exact ⟨a, fun e => b.resolve_left fun z => z e, fun e => c.resolve_left fun z => z e⟩

/-- the block of a comprehension -/
noncomputable def Fc.comp (fc : Fc) (sc : Scope) (C : Addr) : Fc := ⟨fc.A, compEnvC sc (clAll fc.env sc.names []) C fc.env, fc.envs, fc.n, false⟩
noncomputable def capt (fc : Fc) (sc : Scope) (m : Str → Option PV) : Str → Option PV := fun x => if (relabel sc fc.env).names.lookup x = some .cell then m x else none

theorem relabel_cell {sc : Scope} {env : Env} {x : Str} (ok : okScope sc env = true) (h : (relabel sc env).names.lookup x = some .cell) : (x, NameKind.free) ∈ sc.names := by
  have m := mem_of_lookup h
  unfold relabel at m
  obtain ⟨⟨n, k⟩, h1, h2⟩ := List.mem_map.mp m
  dsimp only at h2
  split at h2
  · rename_i hc
    cases h2
    simp only [Bool.and_eq_true, beq_iff_eq] at hc
    rw [← hc.1.1]; exact h1
  · cases h2
    exact absurd rfl (okScope_all ok h1).1

section
variable {g : Gx} {fc : Fc} {st st₀ : AS} {s s₀ : Shared} {X : Int → AS → Prop}

theorem R.captured {sc : Scope} (r : R g fc st s) (ok : okScope sc fc.env = true) {x : Str} (m : (x, NameKind.free) ∈ sc.names) : ∃ a, fc.env.cells.lookup x = some a :=
  r.ok.cellIn x ((okScope_all ok m).2.1 rfl)
theorem cl_lookup {sc : Scope} (r : R g fc st s) (ok : okScope sc fc.env = true) {x : Str} {a : Addr} (h : (clAll fc.env sc.names []).lookup x = some a) : fc.env.cells.lookup x = some a := by
  rcases clAll_mem (mem_of_lookup h) with h | ⟨h1, h2⟩
  · cases h
  · obtain ⟨b, hb⟩ := r.captured ok h1
    rw [hb] at h2 ⊢; rw [h2]; rfl

theorem comp_env {sc : Scope} {Q : Env → Shared → Prop} {E : Value → Shared → Prop} (r : R g fc st s) (ok : okScope sc fc.env = true)
    (h : ∀ C h' tk cenv, s.heap.get? C = none → cenv.locals = C → { cenv with scope := relabel sc fc.env } = (fc.comp sc C).env → R g (fc.comp sc C) ⟨capt fc sc st.m, st.σ⟩ { s with heap := h', toks := tk } →
      (∀ b o, s.heap.get? b = some o → h'.get? b = some o) → Q cenv { s with heap := h', toks := tk }) :
    wpAny g.M fc.A (newFunctionEnv sc fc.env.globals (clAll fc.env sc.names []) [] fc.env.qual none .none (some fc.env)) Q E s := by
  refine wpAny_newFunctionEnv (fun x hx => (okScope_all ok (x := x.1) (k := x.2) hx).1) (by intro y hy; simp at hy) (fun h' hns hsb => ?_) (okScope_kind ok)
  have keep : ∀ b o, s.heap.get? b = some o → h'.get? b = some o := fun b o e => hsb.extBut b o (Nat.ne_of_lt (Heap.lt_size e)) (Heap.get?_push_of_some _ e)
  obtain ⟨rk, _, sf⟩ := r.keeps (tk := s.toks + ([] : List (Str × Value)).length) keep
  have hC : s.heap.get? s.heap.objs.size = none := by
    cases q : s.heap.get? s.heap.objs.size with
    | none => rfl
    | some o => exact absurd (Heap.lt_size q) (Nat.lt_irrefl _)
  refine h s.heap.objs.size h' _ _ hC rfl rfl ?_ keep
  refine ⟨⟨r.ok.frames, r.ok.hd, r.ok.dep, r.ok.uni, r.ok.glob, r.ok.bi, (show sc.kind = .function from okScope_kind ok), r.ok.head, r.ok.all, fun x hx => ?_, fun x y a hx hy => r.ok.inj x y a (cl_lookup r ok hx) (cl_lookup r ok hy)⟩, rk.base, rk.gens, rk.os, ?_, fun x ca e => ?_, ⟨r.new0.1, r.fresh⟩, rk.fr, rk.sto⟩
  · have m := relabel_cell ok hx
    exact Option.isSome_iff_exists.mp (clAll_some (.inl m))
  · refine ⟨_, hns, fun x p e => ?_⟩
    change capt fc sc st.m x = some p at e
    unfold capt at e
    split at e
    · rename_i hx
      have m := relabel_cell ok hx
      obtain ⟨mV, hn, hb⟩ := rk.loc
      rcases hb x p e with ⟨a, v, b, c⟩ | ⟨a, ca, ob, v, b, c, d, e⟩
      · rw [(okScope_all ok m).2.1 rfl] at a; cases a
      · obtain ⟨ca', hca'⟩ := Option.isSome_iff_exists.mp (clAll_some (env := fc.env) (acc := []) (.inl m))
        have := cl_lookup r ok hca'
        rw [b] at this; cases this
        exact .inr ⟨hx, ca, ob, v, hca', c, d, e⟩
    · cases e
  · exact rk.cel x ca (cl_lookup r ok e)

theorem it_self {I : Addr} {ps : List PV} {Q : Value → Shared → Prop} {E : Value → Shared → Prop} {σ : Store} (it : ItAt σ s.heap I ps) (h : Q (.ref I) s) : wpAny g.M fc.A (pyIter (.ref I)) Q E s := by
  cases it with
  | lst a _ _ _ => exact wpAny_pyIter_listiter a h
  | rng a => exact wpAny_pyIter_rangeiter a h

/-- the block ends: what is around holds again -/
theorem comp_back {sc : Scope} {C : Addr} {st' : AS} {s₁ s' : Shared} (r : R g fc st s) (r₁ : R g (fc.comp sc C) ⟨capt fc sc st.m, st.σ⟩ s₁) (hC : s.heap.get? C = none) (keep : ∀ b o, s.heap.get? b = some o → s₁.heap.get? b = some o)
    (S : Step (fc.comp sc C) st.σ st'.σ s₁.heap s'.heap) (r' : R g (fc.comp sc C) st' s') : R g fc { st with σ := st'.σ } s' ∧ Step fc st.σ st'.σ s.heap s'.heap := by
  refine r.back r₁ rfl keep (fun b o e q f => ?_) (fun b m o e => m) S r'
  rcases f with f | f | ⟨f, _⟩
  · exact f q
  · have : b = C := f
    rw [this, hC] at e; cases e
  · cases f

theorem R.other2 {I : Addr} {o : Obj} {h' : Heap} {tk : Nat} (r₀ : R g fc st₀ s₀) (r : R g fc st s) (hI : s₀.heap.get? I = none) (e : s.heap.get? I = some o) (d : ∀ vs n, o.data ≠ .seq vs n) (hσ : st.σ I = none) (k : ∀ b x, b ≠ I → s.heap.get? b = some x → h'.get? b = some x) :
    R g fc st { s with heap := h', toks := tk } ∧ Safe st.σ s.heap st.σ h' := by
  have hs : Safe st.σ s.heap st.σ h' := fun b x vs n z q w => ⟨k b x (fun y => by subst y; rw [e] at z; cases z; exact d _ _ q) z, w⟩
  have h0 : g.h0.get? I = none := by
    cases q : g.h0.get? I with
    | none => rfl
    | some o => rw [r₀.base _ _ q] at hI; cases hI
  refine ⟨⟨r.ok, fun b x z => k b x (fun y => by subst y; rw [h0] at z; cases z) (r.base b x z), r.gens, r.os, ?_, fun x ca z => ?_, r.nl, fun L z => ?_, fun a mo z => ?_⟩, hs⟩
  · obtain ⟨mV, ⟨ob, es, ep, h1, h2, h3⟩, hb⟩ := r.loc
    have nL : fc.env.locals ≠ I := fun z => by
      obtain ⟨_, ⟨_, _, _, q, _⟩, _⟩ := r₀.loc
      rw [z, hI] at q; cases q
    refine ⟨mV, ⟨ob, es, ep, k _ _ nL h1, h2, h3⟩, fun x p z => ?_⟩
    rcases hb x p z with ⟨a, v, b, c⟩ | ⟨a, ca, ob, v, b, c, q, w⟩
    · exact .inl ⟨a, v, b, c.safe hs⟩
    · exact .inr ⟨a, ca, ob, v, b, k _ _ (fun z => by
        obtain ⟨_, _, _, _, q, _⟩ := r₀.cel x ca b
        rw [z, hI] at q; cases q) c, q, w.safe hs⟩
  · obtain ⟨a, b, ob, v, c, q⟩ := r.cel x ca z
    exact ⟨a, b, ob, v, k _ _ (fun y => by
      obtain ⟨_, _, _, _, q, _⟩ := r₀.cel x ca z
      rw [y, hI] at q; cases q) c, q⟩
  · obtain ⟨a, b, ob, es, ep, c, q⟩ := r.fr L z
    exact ⟨a, b, ob, es, ep, k _ _ (fun y => by
      obtain ⟨_, _, _, _, _, q, _⟩ := r₀.fr L z
      rw [y, hI] at q; cases q) c, q⟩
  · obtain ⟨a1, b⟩ := r.sto a mo z
    have ne : a ≠ I := fun y => by rw [y, hσ] at z; cases z
    refine ⟨a1, ?_⟩
    cases mo with
    | lst xs => obtain ⟨vs, ⟨n, b1⟩, b2⟩ := b; exact ⟨vs, ⟨n, k _ _ ne b1⟩, b2.safe hs⟩
    | dct es => obtain ⟨kvs, ⟨ob, es', ep, b1, b0, b2, b3⟩, c2, c3⟩ := b; exact ⟨kvs, ⟨ob, es', ep, k _ _ ne b1, b0, b2, b3⟩, c2, c3.safe hs⟩
end
end Mine

namespace Mine

section
variable {g : Gx} {fc fc' : Fc} {st st₀ st' : AS} {s s₀ s' : Shared} {X : Int → AS → Prop}

/-- a step that leaves the names alone -/
structure StepQ (fr : List Addr) (σ σ' : Store) (h h' : Heap) : Prop where
  live : Live h h'
  keep : ∀ b o, h.get? b = some o → σ b = none → b ∉ fr → h'.get? b = some o
  slots : ∀ b o, h.get? b = some o → σ b = none → b ∈ fr → ∃ sl, h'.get? b = some { o with slots := sl }
  grow : ∀ b o, h.get? b = some o → σ b = none → σ' b = none
theorem StepQ.step {σ σ' : Store} {h h' : Heap} (S : StepQ fc.fr σ σ' h h') : Step fc σ σ' h h' :=
  ⟨S.live, fun b o e n m => S.keep b o e (Classical.byContradiction fun q => n (.inl q)) m, fun b o e n m => S.slots b o e (Classical.byContradiction fun q => n (.inl q)) m, S.grow⟩
theorem StepQ.refl {fr : List Addr} {σ : Store} {h : Heap} : StepQ fr σ σ h h := ⟨fun _ o e => ⟨o, e⟩, fun _ _ e _ _ => e, fun _ o e _ _ => ⟨o.slots, e⟩, fun _ _ _ q => q⟩

theorem R.back2 (r : R g fc st s) (S : StepQ fc.fr st.σ st'.σ s.heap s'.heap) (r' : R g fc' st' s') : R g fc { st with σ := st'.σ } s' := by
  have dd : ∀ b o, s.heap.get? b = some o → st.σ b = none → ∃ sl, s'.heap.get? b = some { o with slots := sl } := fun b o e q => by
    by_cases m : b ∈ fc.fr
    · exact S.slots b o e q m
    · exact ⟨o.slots, S.keep b o e q m⟩
  have sf : Safe st.σ s.heap st'.σ s'.heap := r.safe (st' := st') (s' := s') S.step
  refine ⟨r.ok, r'.base, r'.gens, r'.os, ?_, fun x ca e => ?_, ⟨r.nl.1, ?_⟩, fun L e => ?_, fun a mo e => r'.sto a mo e⟩
  · obtain ⟨mV, ⟨o, es, ep, h1, h2, h3⟩, hb⟩ := r.loc
    obtain ⟨sl, h1'⟩ := dd _ _ h1 r.nl.2
    refine ⟨mV, ⟨_, es, ep, h1', h2, h3⟩, fun x p e => ?_⟩
    rcases hb x p e with ⟨a, v, b, c⟩ | ⟨a, ca, ob, v, b, c, d, e⟩
    · exact .inl ⟨a, v, b, c.safe sf⟩
    · obtain ⟨sl, c'⟩ := dd _ _ c (r.cel x ca b).2.1
      exact .inr ⟨a, ca, _, v, b, c', d, e.safe sf⟩
  · obtain ⟨a, b, ob, v, c, d⟩ := r.cel x ca e
    obtain ⟨sl, c'⟩ := dd _ _ c b
    exact ⟨a, S.grow _ _ c b, _, v, c', d⟩
  · obtain ⟨mV, ⟨o, es, ep, h1, h2, h3⟩, hb⟩ := r.loc
    exact S.grow _ _ h1 r.nl.2
  · obtain ⟨a, b, ob, es, ep, c, d⟩ := r.fr L e
    obtain ⟨sl, c'⟩ := dd _ _ c b
    exact ⟨a, S.grow _ _ c b, _, es, ep, c', d⟩

theorem StepQ.inner {sc : Scope} {C : Addr} {σ σ₁ σ₂ : Store} {h h₁ h₂ : Heap} (S : StepQ fc.fr σ σ₁ h h₁) (T : Step (fc.comp sc C) σ₁ σ₂ h₁ h₂) (hC : h.get? C = none) : StepQ fc.fr σ σ₂ h h₂ := by
  have nf : ∀ b o, h.get? b = some o → σ b = none → ¬ Foot (fc.comp sc C) σ₁ b := fun b o e q f => by
    rcases f with f | f | ⟨f, _⟩
    · exact f (S.grow b o e q)
    · have : b = C := f
      rw [this, hC] at e; cases e
    · cases f
  refine ⟨S.live.trans T.live, fun b o e q m => T.keep b o (S.keep b o e q m) (nf b o e q) m, fun b o e q m => ?_, fun b o e q => let ⟨o', e'⟩ := S.live b o e; T.grow b o' e' (S.grow b o e q)⟩
  obtain ⟨s1, h1⟩ := S.slots b o e q m
  obtain ⟨s2, h2⟩ := T.slots b _ h1 (nf b o e q) m
  exact ⟨s2, h2⟩
theorem StepQ.other {fr : List Addr} {σ σ' : Store} {h h₁ h' : Heap} {I : Addr} (S : StepQ fr σ σ' h h₁) (k : ∀ b x, b ≠ I → h₁.get? b = some x → h'.get? b = some x) (hI : h.get? I = none) : StepQ fr σ σ' h h' := by
  have ne : ∀ b o, h.get? b = some o → b ≠ I := fun b o e z => by rw [z, hI] at e; cases e
  refine ⟨fun b o e => let ⟨o', e'⟩ := S.live b o e; ⟨o', k b o' (ne b o e) e'⟩, fun b o e n m => k b o (ne b o e) (S.keep b o e n m), fun b o e n m => ?_, S.grow⟩
  obtain ⟨sl, z⟩ := S.slots b o e n m
  exact ⟨sl, k b _ (ne b o e) z⟩
theorem StepQ.late {fr : List Addr} {σ σ' : Store} {h h₁ h' n : Heap} (S : StepQ fr σ σ' h h₁) (hn : Live h n) (L : Late n fr h₁ h') : StepQ fr σ σ' h h' := by
  have z : ∀ b o, h.get? b = some o → n.get? b ≠ none := fun b o e => by obtain ⟨o', e'⟩ := hn b o e; rw [e']; simp
  refine ⟨S.live.trans L.live, fun b o e q m => L.keep b o (S.keep b o e q m) (.inl (z b o e)) m, fun b o e q m => ?_, S.grow⟩
  obtain ⟨s1, h1⟩ := S.slots b o e q m
  obtain ⟨s2, h2⟩ := L.slots b _ h1 (.inl (z b o e)) m
  exact ⟨s2, h2⟩

/-- the exception does not lie where C lies -/
theorem FL.sameBut {b : Bool} {l : Int} {n h h' : Heap} {σ : Store} {e : Value} {C : Addr} (F : FL b l n σ h e) (hC : n.get? C ≠ none) (S : Heap.SameBut C h h') : FL b l n σ h' e := by
  obtain ⟨a, oe, vs, d, es, k, tb, t, rfl, h2, h3, h4, h5, h6, h7, h8, h9, h10, h11, h12, h13⟩ := F
  have ne : ∀ x, n.get? x = none → x ≠ C := fun x q z => hC (z ▸ q)
  refine ⟨a, oe, vs, d, es, k, tb, t, rfl, h2, (S.2 a (ne a h2)).trans h3, h4, h5, h6, h7, h8, h9, (S.2 d (ne d h9)).trans h10, h11, h12, ?_⟩
  rcases h13 with q | ⟨T, oT, ts, q1, q2, q3, q4, q5⟩
  · exact .inl q
  · exact .inr ⟨T, oT, ts, q1, q2, q3, (S.2 T (ne T q2)).trans q4, q5⟩

theorem comp_err {sc : Scope} {C : Addr} {n : Heap} {use : Option (Value → Sem Unit)} {Q : Value → Shared → Prop} {acc : Value} {e : Value} (r : R g fc st s) (hC : s.heap.get? C = none) (hCn : n.get? C ≠ none) (hn : Live s.heap n)
    (x : EO true g (fc.comp sc C) n (fun σ h => StepQ fc.fr st.σ σ s.heap h) (fun l st' => X l { st with σ := st'.σ }) e s') : compPost g.M fc.A (EPost g fc st s X) use Q acc C (.error e) s' := by
  obtain ⟨l, st', F, r', S, Ln, k⟩ := x
  obtain ⟨mC, hmC, _⟩ := r'.loc
  have key : ∀ h', Heap.SameBut C s'.heap h' → ∀ cenv : Env, cenv.locals = C → wpAny g.M fc.A (PySem.passOn "comprehension.variables-let-go" e cenv : Sem Value) (fun _ _ => False) (EPost g fc st s X) { s' with heap := h' } := fun h' sb cenv _ => by
    have F' := F.sameBut hCn sb
    have ro := r.back2 S r'
    obtain ⟨oC, _, _, c1, c2, _⟩ := hmC
    have kk : ∀ b x, b ≠ C → s'.heap.get? b = some x → h'.get? b = some x := fun b x hb q => (sb.2 b hb).trans q
    obtain ⟨ro', _⟩ := R.other2 (tk := s'.toks) (o := oC) r ro hC c1 (fun vs n z => by rw [c2] at z; cases z) r'.nl.2 kk
    have S' := S.other kk hC
    have F2 : FL true l s.heap st'.σ h' e := F'.le hn
    unfold PySem.passOn
    refine wpAny_bind (FL.hasTb (s := { s' with heap := h' }) (g := g) (fc := fc) F2 fun v hv => ?_)
    rw [if_neg (by rw [hv]; decide)]
    refine wpAny_bind (setFlight_R (fr := fc.fr) F2 fun h'' F3 L => wpAny_throw ⟨l, { st with σ := st'.σ }, F3.weaken, (ro'.late L r.h0in).1, (S'.late (fun b o q => ⟨o, q⟩) L).step, k⟩)
  cases use <;> exact ⟨mC, hmC, key⟩

theorem comp_fin {sc : Scope} {C : Addr} {K : AS → Prop} {Q : Value → Shared → Prop} {acc : Value} {p : PV} {use : Option (Value → Sem Unit)} (r : R g fc st s) (hC : s.heap.get? C = none)
    (S : StepQ fc.fr st.σ st'.σ s.heap s'.heap) (r' : R g (fc.comp sc C) st' s')
    (hq : R g fc { st with σ := st'.σ } s' → (use = none → ∀ h', R g fc { st with σ := st'.σ } { s' with heap := h' } → Step fc st.σ st'.σ s.heap h' → Safe st'.σ s'.heap st'.σ h' → Q acc { s' with heap := h' }) ∧
      (∀ u, use = some u → wpAny g.M fc.A (u acc) (fun _ s'' => ∃ st'', R g fc st'' s'' ∧ Step fc st'.σ st''.σ s'.heap s''.heap ∧ (∀ h', R g fc st'' { s'' with heap := h' } → Step fc st.σ st''.σ s.heap h' → Q .none { s'' with heap := h' })) (EPost g fc st s X) s')) :
    compPost g.M fc.A (EPost g fc st s X) use Q acc C (.ok .next) s' := by
  obtain ⟨mC, hmC, _⟩ := r'.loc
  have ro := r.back2 S r'
  obtain ⟨h1, h2⟩ := hq ro
  have hmC0 := hmC
  obtain ⟨oC, es, ep, c1, c2, c3⟩ := hmC
  cases use with
  | none =>
    refine ⟨mC, hmC0, fun h' sb => ?_⟩
    have kk : ∀ b x, b ≠ C → s'.heap.get? b = some x → h'.get? b = some x := fun b x hb q => (sb.2 b hb).trans q
    obtain ⟨ro', sf⟩ := R.other2 (tk := s'.toks) (o := oC) r ro hC c1 (fun vs n z => by rw [c2] at z; cases z) r'.nl.2 kk
    exact h1 rfl h' ro' (S.other kk hC).step sf
  | some u =>
    refine wpAny_mono (h2 u rfl) (fun _ s'' z => ?_) fun _ _ z => z
    obtain ⟨st'', r'', S'', hq⟩ := z
    have nC : ¬ Foot fc st'.σ C ∧ C ∉ fc.fr := by
      refine ⟨fun f => ?_, fun f => ?_⟩
      · rcases f with f | f | ⟨_, x, f⟩
        · exact f r'.nl.2
        · obtain ⟨_, ⟨_, _, _, q, _⟩, _⟩ := r.loc
          rw [← f, hC] at q; cases q
        · obtain ⟨_, _, _, _, q, _⟩ := r.cel x C f
          rw [hC] at q; cases q
      · obtain ⟨_, _, _, _, _, q, _⟩ := r.fr C f
        rw [hC] at q; cases q
    have c1' := S''.keep C oC c1 nC.1 nC.2
    refine ⟨mC, ⟨oC, es, ep, c1', c2, c3⟩, fun h' sb => ?_⟩
    have kk : ∀ b x, b ≠ C → s''.heap.get? b = some x → h'.get? b = some x := fun b x hb q => (sb.2 b hb).trans q
    have sg : st''.σ C = none := S''.grow C oC c1 r'.nl.2
    obtain ⟨ro', _⟩ := R.other2 (tk := s''.toks) (o := oC) r r'' hC c1' (fun vs n z => by rw [c2] at z; cases z) sg kk
    exact hq h' ro' ((S.step.trans S'').other kk hC)
end
end Mine

namespace Mine

section
variable {g : Gx} {fc : Fc} {st : AS} {s : Shared} {X : Int → AS → Prop}

theorem no_at (b : Heap) : b.get? b.objs.size = none := by
  cases q : b.get? b.objs.size with
  | none => rfl
  | some o => exact absurd (Heap.lt_size q) (Nat.lt_irrefl _)

theorem StepQ.of_keep {fr : List Addr} {σ σ' σ'' : Store} {h h₁ h' : Heap} (S : StepQ fr σ σ' h h₁) (k : ∀ b o, h₁.get? b = some o → h'.get? b = some o) (hg : ∀ b o, h₁.get? b = some o → σ' b = none → σ'' b = none) : StepQ fr σ σ'' h h' :=
  ⟨fun b o e => let ⟨o', e'⟩ := S.live b o e; ⟨o', k b o' e'⟩, fun b o e n m => k b o (S.keep b o e n m), fun b o e n m => let ⟨sl, z⟩ := S.slots b o e n m; ⟨sl, k b _ z⟩, fun b o e q => let ⟨o', e'⟩ := S.live b o e; hg b o' e' (S.grow b o e q)⟩

/-- from the iterator on: the block's own objects, the loop -/
theorem comp_base {sc : Scope} {C I : Addr} {st₁ : AS} {s₄ : Shared} {oI : Obj} {fs : Array Value} (r : R g fc st s) (hI : s.heap.get? I = none) (hC : s.heap.get? C = none)
    (r₄ : R g (fc.comp sc C) st₁ s₄) (lv : Live s.heap s₄.heap) (iI : s₄.heap.get? I = some oI) (dI : oI.data = .fields fs) :
    Base g (fc.comp sc C) (hideAll s₄.heap [I]) I (fun σ h => StepQ fc.fr st.σ σ s.heap h) ∧ Live s.heap (hideAll s₄.heap [I]) ∧ (hideAll s₄.heap [I]).get? C ≠ none ∧ Live (hideAll s₄.heap [I]) s₄.heap := by
  have L0 : Live s.heap (hideAll s₄.heap [I]) := fun b o e => by
    obtain ⟨o', e'⟩ := lv b o e
    exact ⟨o', hideAll_get _ e' (by simp; intro z; rw [z, hI] at e; cases e)⟩
  obtain ⟨mC, ⟨oC, es, ep, c1, c2, c3⟩, _⟩ := r₄.loc
  have c1 : s₄.heap.get? C = some oC := c1
  have nCI : C ≠ I := fun z => by rw [z, iI] at c1; cases c1; rw [dI] at c2; cases c2
  refine ⟨⟨fun a b => a.inner b hC, fun a b => a.other b hI, fun a b => a.late L0 b, fun b o e => ?_, fun b m => ?_, ?_, hideAll_none _ (by simp)⟩, L0, ?_, fun b o e => ⟨o, of_hideAll _ e⟩⟩
  · obtain ⟨o', e'⟩ := L0 b o (r.base b o e); rw [e']; simp
  · obtain ⟨_, _, o, es, ep, h1, _⟩ := r.fr b m
    obtain ⟨o', e'⟩ := L0 b o h1; rw [e']; simp
  · cases q : g.h0.get? I with
    | none => rfl
    | some o => rw [r.base _ _ q] at hI; cases hI
  · rw [hideAll_get [I] c1 (by simpa using nCI)]; simp

theorem compPost_mono {M : Model} {A : Around} {E E' : Value → Shared → Prop} {use : Option (Value → Sem Unit)} {Q : Value → Shared → Prop} {acc : Value} {C : Addr} {r : Result} {s' : Shared} (h : compPost M A E use Q acc C r s') (he : ∀ e s, E e s → E' e s) : compPost M A E' use Q acc C r s' := by
  cases r with
  | ok f => cases use with
    | none => exact h
    | some u => exact wpAny_mono h (fun _ _ z => z) he
  | error x =>
    have key : ∀ {E E' : Value → Shared → Prop}, (∀ e s, E e s → E' e s) → (∃ m, s'.heap.Ns C m ∧ ∀ h', Heap.SameBut C s'.heap h' → ∀ cenv : Env, cenv.locals = C → wpAny M A (PySem.passOn "comprehension.variables-let-go" x cenv : Sem Value) (fun _ _ => False) E { s' with heap := h' }) →
        ∃ m, s'.heap.Ns C m ∧ ∀ h', Heap.SameBut C s'.heap h' → ∀ cenv : Env, cenv.locals = C → wpAny M A (PySem.passOn "comprehension.variables-let-go" x cenv : Sem Value) (fun _ _ => False) E' { s' with heap := h' } :=
      fun he ⟨m, a, b⟩ => ⟨m, a, fun h' sb cenv hc => wpAny_mono (b h' sb cenv hc) (fun _ _ z => z) he⟩
    cases use <;> exact key he h

theorem lcomp_core {use : Option (Value → Sem Unit)} {elt t1 i1 : Expr} {c1 : Option Expr} {rest : List Comprehension} {sc : Scope} {pos p0 : Pos} {m : Str → Option PV} {J : Addr → List PV → AS → Prop} {T : Addr → Fc → WpT} {Q : Value → Shared → Prop}
    (r : R g fc st s) (ok : okScope sc fc.env = true) (hm : m = st.m)
    (hi : IterW g fc i1 st (fun ps st₁ => st₁.m = m ∧ ∀ D, st₁.σ D = none → J D ps ⟨capt fc sc m, upd st₁.σ D (.lst [])⟩) X)
    (hun : ∀ D C, CUn g (fc.comp sc C) (.ListComp elt (⟨t1, i1, ifsOf c1, 0⟩ :: rest) sc pos) 0 (.ref D) t1 c1 (T D (fc.comp sc C))) (hmo : ∀ D C, (T D (fc.comp sc C)).Mono)
    (turn : ∀ D C, TurnW g (fc.comp sc C) t1 c1 (T D (fc.comp sc C)) (fun l st' => X l ⟨m, st'.σ⟩) (J D))
    (hfin : ∀ st₁ sb, R g fc st₁ sb → Step fc st.σ st₁.σ s.heap sb.heap → st₁.m = m → ∀ C D st' s', sb.heap.get? C = none → StepQ fc.fr st₁.σ st'.σ sb.heap s'.heap → R g (fc.comp sc C) st' s' → J D [] st' → compPost g.M fc.A (EPost g fc st₁ sb X) use Q (.ref D) C (.ok .next) s')
    (hs : ∀ x, foldedSetIterable i1 fc.env x = pure x) : wpAny g.M fc.A (comprehension (.ListComp elt (⟨t1, i1, ifsOf c1, 0⟩ :: rest) sc pos) sc fc.env p0 (newList []) false (eval i1 fc.env) use) Q (EPost g fc st s X) s := by
  subst hm
  refine wpAny_comprehension_free (cl := clAll fc.env sc.names []) rfl hs (closure_all fun n h => r.captured ok h) (okScope_kind ok) (fun x hx hl => (okScope_all ok (x := x.1) (k := x.2) hx).2.2 hl) (wpAny_mono (hi s r) (fun x s₁ h₁ => wpAny_mono h₁ (fun it s₂ h₂ => ?_) fun _ _ z => z) fun _ _ z => z)
  obtain ⟨I, ps, st₁, rfl, hI, r₂, S₂, it, hm1, j⟩ := h₂
  refine wpAny_newList ?_ (by rw [sizeLine_eq]; simp)
  obtain ⟨r₃, S₃⟩ := r₂.new (o := { cls := .type "list", data := .seq ([] : List Value).toArray }) (mo := .lst []) (fun σ' hs => ⟨#[], ⟨0, Heap.get?_push_size _ rfl⟩, .nil⟩)
  refine comp_env r₃ ok fun C h₄ tk cenv hC3 hc1 hc2 r₄ keep => ?_
  rw [hc2, hc1]
  have kp : ∀ b o, s₂.heap.get? b = some o → h₄.get? b = some o := fun b o e => keep b o (Heap.get?_push_of_some _ e)
  obtain ⟨oI, nm, fs, i1', i2', i3', _⟩ := it.obj
  have it₄ : ItAt (upd st₁.σ s₂.heap.objs.size (.lst [])) h₄ I ps := it.safe (fun a o vs n e d q => ⟨kp a o e, (upd_ne (Nat.ne_of_lt (Heap.lt_size e))).trans q⟩) fun o e => kp I o e
  have h0I : g.h0.get? I = none := by
    cases q : g.h0.get? I with
    | none => rfl
    | some o => rw [r.base _ _ q] at hI; cases hI
  have hidek : ∀ b x, b ≠ I → s₂.heap.get? b = some x → (hideAll s₂.heap [I]).get? b = some x := fun b x n e => hideAll_get _ e (by simpa using n)
  obtain ⟨rb, _⟩ := r₂.other (tk := s₂.toks) i1' i3' h0I hidek
  have Sb : Step fc st.σ st₁.σ s.heap (hideAll s₂.heap [I]) := S₂.other hidek hI
  have hIb : (hideAll s₂.heap [I]).get? I = none := hideAll_none _ (by simp)
  have hCb : (hideAll s₂.heap [I]).get? C = none := by
    cases q : (hideAll s₂.heap [I]).get? C with
    | none => rfl
    | some o => have := Heap.get?_push_of_some (h := s₂.heap) { cls := .type "list", data := .seq ([] : List Value).toArray } (of_hideAll _ q); rw [hC3] at this; cases this
  have S4 : StepQ fc.fr st₁.σ (upd st₁.σ s₂.heap.objs.size (.lst [])) (hideAll s₂.heap [I]) h₄ := by
    refine ⟨fun b o e => ⟨o, kp b o (of_hideAll _ e)⟩, fun b o e _ _ => kp b o (of_hideAll _ e), fun b o e _ _ => ⟨o.slots, kp b o (of_hideAll _ e)⟩, fun b o e q => (upd_ne (Nat.ne_of_lt (Heap.lt_size (of_hideAll _ e)))).trans q⟩
  obtain ⟨B, L0, hCn, Ln⟩ := comp_base rb hIb hCb r₄ S4.live (kp I oI i1') i3'
  have er : ∀ e s', EO true g (fc.comp sc C) (hideAll h₄ [I]) (fun σ h => StepQ fc.fr st₁.σ σ (hideAll s₂.heap [I]) h) (fun l st' => X l ⟨st.m, st'.σ⟩) e s' → compPost g.M fc.A (EPost g fc st s X) use Q (.ref s₂.heap.objs.size) C (.error e) s' := fun e s' x =>
    compPost_mono (comp_err (s := { s₂ with heap := hideAll s₂.heap [I] }) (st := st₁) rb hCb hCn L0 (by rw [← hm1] at x; exact x)) fun e s z => EPost.from Sb z
  have loop : codeAny g.M (fc.comp sc C).A (.compLoop (.ListComp elt (⟨t1, i1, ifsOf c1, 0⟩ :: rest) sc pos) 0 (.ref I) (.ref s₂.heap.objs.size) (fc.comp sc C).env) (compPost g.M fc.A (EPost g fc st s X) use Q (.ref s₂.heap.objs.size) C) { s₂ with heap := h₄, toks := tk } := by
    refine lcomp_loop B (hmo _ _) (hun _ _) (turn _ _) (fun s' ⟨st', r', S', _, j'⟩ => ?_) (fun e s' x => er e s' x) (ps := ps) ⟨_, r₄, S4, Ln, it₄, ?_⟩
    · exact compPost_mono (hfin st₁ _ rb Sb hm1 C _ st' s' hCb S' r' j') fun e s z => EPost.from Sb z
    · have := j s₂.heap.objs.size r₂.fresh
      rw [← hm1] at this; exact this
  exact codeAny_compStart_list loop (it_self it₄ loop)
theorem dcomp_core {use : Option (Value → Sem Unit)} {kx vx t1 i1 : Expr} {c1 : Option Expr} {rest : List Comprehension} {sc : Scope} {pos p0 : Pos} {m : Str → Option PV} {J : Addr → List PV → AS → Prop} {T : Addr → Fc → WpT} {Q : Value → Shared → Prop}
    (r : R g fc st s) (ok : okScope sc fc.env = true) (hm : m = st.m)
    (hi : IterW g fc i1 st (fun ps st₁ => st₁.m = m ∧ ∀ D, st₁.σ D = none → J D ps ⟨capt fc sc m, upd st₁.σ D (.dct [])⟩) X)
    (hun : ∀ D C, CUn g (fc.comp sc C) (.DictComp kx vx (⟨t1, i1, ifsOf c1, 0⟩ :: rest) sc pos) 0 (.ref D) t1 c1 (T D (fc.comp sc C))) (hmo : ∀ D C, (T D (fc.comp sc C)).Mono)
    (turn : ∀ D C, TurnW g (fc.comp sc C) t1 c1 (T D (fc.comp sc C)) (fun l st' => X l ⟨m, st'.σ⟩) (J D))
    (hfin : ∀ st₁ sb, R g fc st₁ sb → Step fc st.σ st₁.σ s.heap sb.heap → st₁.m = m → ∀ C D st' s', sb.heap.get? C = none → StepQ fc.fr st₁.σ st'.σ sb.heap s'.heap → R g (fc.comp sc C) st' s' → J D [] st' → compPost g.M fc.A (EPost g fc st₁ sb X) use Q (.ref D) C (.ok .next) s')
    (hs : ∀ x, foldedSetIterable i1 fc.env x = pure x) : wpAny g.M fc.A (comprehension (.DictComp kx vx (⟨t1, i1, ifsOf c1, 0⟩ :: rest) sc pos) sc fc.env p0 newDict false (eval i1 fc.env) use) Q (EPost g fc st s X) s := by
  subst hm
  refine wpAny_comprehension_free (cl := clAll fc.env sc.names []) rfl hs (closure_all fun n h => r.captured ok h) (okScope_kind ok) (fun x hx hl => (okScope_all ok (x := x.1) (k := x.2) hx).2.2 hl) (wpAny_mono (hi s r) (fun x s₁ h₁ => wpAny_mono h₁ (fun it s₂ h₂ => ?_) fun _ _ z => z) fun _ _ z => z)
  obtain ⟨I, ps, st₁, rfl, hI, r₂, S₂, it, hm1, j⟩ := h₂
  refine wpAny_newObj_type ?_ (by size_fits)
  obtain ⟨r₃, S₃⟩ := r₂.new (o := { cls := .type "dict", data := .dict #[] }) (mo := .dct []) (fun σ' hs => ⟨[], Heap.DictOf.new _, rfl, .nil⟩)
  refine comp_env r₃ ok fun C h₄ tk cenv hC3 hc1 hc2 r₄ keep => ?_
  rw [hc2, hc1]
  have kp : ∀ b o, s₂.heap.get? b = some o → h₄.get? b = some o := fun b o e => keep b o (Heap.get?_push_of_some _ e)
  obtain ⟨oI, nm, fs, i1', i2', i3', _⟩ := it.obj
  have it₄ : ItAt (upd st₁.σ s₂.heap.objs.size (.dct [])) h₄ I ps := it.safe (fun a o vs n e d q => ⟨kp a o e, (upd_ne (Nat.ne_of_lt (Heap.lt_size e))).trans q⟩) fun o e => kp I o e
  have h0I : g.h0.get? I = none := by
    cases q : g.h0.get? I with
    | none => rfl
    | some o => rw [r.base _ _ q] at hI; cases hI
  have hidek : ∀ b x, b ≠ I → s₂.heap.get? b = some x → (hideAll s₂.heap [I]).get? b = some x := fun b x n e => hideAll_get _ e (by simpa using n)
  obtain ⟨rb, _⟩ := r₂.other (tk := s₂.toks) i1' i3' h0I hidek
  have Sb : Step fc st.σ st₁.σ s.heap (hideAll s₂.heap [I]) := S₂.other hidek hI
  have hIb : (hideAll s₂.heap [I]).get? I = none := hideAll_none _ (by simp)
  have hCb : (hideAll s₂.heap [I]).get? C = none := by
    cases q : (hideAll s₂.heap [I]).get? C with
    | none => rfl
    | some o => have := Heap.get?_push_of_some (h := s₂.heap) { cls := .type "dict", data := .dict #[] } (of_hideAll _ q); rw [hC3] at this; cases this
  have S4 : StepQ fc.fr st₁.σ (upd st₁.σ s₂.heap.objs.size (.dct [])) (hideAll s₂.heap [I]) h₄ := by
    refine ⟨fun b o e => ⟨o, kp b o (of_hideAll _ e)⟩, fun b o e _ _ => kp b o (of_hideAll _ e), fun b o e _ _ => ⟨o.slots, kp b o (of_hideAll _ e)⟩, fun b o e q => (upd_ne (Nat.ne_of_lt (Heap.lt_size (of_hideAll _ e)))).trans q⟩
  obtain ⟨B, L0, hCn, Ln⟩ := comp_base rb hIb hCb r₄ S4.live (kp I oI i1') i3'
  have er : ∀ e s', EO true g (fc.comp sc C) (hideAll h₄ [I]) (fun σ h => StepQ fc.fr st₁.σ σ (hideAll s₂.heap [I]) h) (fun l st' => X l ⟨st.m, st'.σ⟩) e s' → compPost g.M fc.A (EPost g fc st s X) use Q (.ref s₂.heap.objs.size) C (.error e) s' := fun e s' x =>
    compPost_mono (comp_err (s := { s₂ with heap := hideAll s₂.heap [I] }) (st := st₁) rb hCb hCn L0 (by rw [← hm1] at x; exact x)) fun e s z => EPost.from Sb z
  have loop : codeAny g.M (fc.comp sc C).A (.compLoop (.DictComp kx vx (⟨t1, i1, ifsOf c1, 0⟩ :: rest) sc pos) 0 (.ref I) (.ref s₂.heap.objs.size) (fc.comp sc C).env) (compPost g.M fc.A (EPost g fc st s X) use Q (.ref s₂.heap.objs.size) C) { s₂ with heap := h₄, toks := tk } := by
    refine dcomp_loop B (hmo _ _) (hun _ _) (turn _ _) (fun s' ⟨st', r', S', _, j'⟩ => ?_) (fun e s' x => er e s' x) (ps := ps) ⟨_, r₄, S4, Ln, it₄, ?_⟩
    · exact compPost_mono (hfin st₁ _ rb Sb hm1 C _ st' s' hCb S' r' j') fun e s z => EPost.from Sb z
    · have := j s₂.heap.objs.size r₂.fresh
      rw [← hm1] at this; exact this
  exact codeAny_compStart_dict loop (it_self it₄ loop)
end
end Mine

namespace Mine

noncomputable def TgW (g : Gx) (fc : Fc) (target : Expr) (p : PV) (m m₁ : Str → Option PV) : Prop :=
  (∀ σ X, WAs g fc target p ⟨m, σ⟩ (fun st₁ => st₁ = ⟨m₁, σ⟩) X) ∧ ∀ x q, m x = some q → m₁ x = some q
theorem setm_keep {m : Str → Option PV} {x : Str} {p : PV} (h0 : m x = none) : ∀ y q, m y = some q → setm m x p y = some q := fun y q e => by
  unfold setm; split
  · rename_i z; rw [z, h0] at e; cases e
  · exact e
theorem setm_ne {m : Str → Option PV} {x y : Str} {p : PV} (h : y ≠ x) : setm m x p y = m y := if_neg h
theorem setm_eq {m : Str → Option PV} {x : Str} {p : PV} : setm m x p x = some p := if_pos rfl
theorem upd_upd {σ : Store} {a : Addr} {x y : MO} : upd (upd σ a x) a y = upd σ a y := by funext b; unfold upd; split <;> rfl
theorem del_upd {σ : Store} {a : Addr} {x : MO} (h : σ a = none) : del (upd σ a x) a = σ := by
  funext b; unfold del upd
  by_cases q : b = a
  · subst q; simp [h]
  · simp [q]
theorem upd_comm {σ : Store} {a b : Addr} {x y : MO} (h : a ≠ b) : upd (upd σ a x) b y = upd (upd σ b y) a x := by
  funext c; unfold upd
  by_cases q : c = a
  · subst q; simp [h]
  · simp [q]

section
variable {g : Gx} {fc : Fc} {st : AS} {s : Shared} {X : Int → AS → Prop}

theorem tg_name {x : Str} {pos : Pos} {p : PV} {m : Str → Option PV} (hk : fc.env.kindOf x = some .local) (h0 : m x = none) : TgW g fc (.Name x pos) p m (setm m x p) :=
  ⟨fun σ X => as_name (by rfl) (.inl hk), setm_keep h0⟩
theorem tg_tup2 {x y : Str} {p1 p2 pos : Pos} {k : Nat} {p q : PV} {m : Str → Option PV} (hk : fc.env.kindOf x = some .local) (hk2 : fc.env.kindOf y = some .local) (h0 : m x = none) (h1 : m y = none) (hne : y ≠ x)
    (he : assignEach [.Name x p1, .Name y p2] fc.env = [(false, assign (.Name x p1) fc.env), (false, assign (.Name y p2) fc.env)] := by rfl) : TgW g fc (.Tuple [.Name x p1, .Name y p2] k pos) (.tup [p, q]) m (setm (setm m x p) y q) :=
  ⟨fun σ X => as_tup2 (by rfl) (.inl hk) (.inl hk2) he, fun z w e => setm_keep (by rw [setm_ne hne]; exact h1) z w (setm_keep h0 z w e)⟩
theorem capt_local {sc : Scope} {C : Addr} {m : Str → Option PV} {x : Str} (hk : (fc.comp sc C).env.kindOf x = some .local) : capt fc sc m x = none := by
  unfold capt
  rw [if_neg]
  intro z
  have : (relabel sc fc.env).names.lookup x = some .local := hk
  rw [this] at z; cases z
theorem capt_cell {sc : Scope} {C : Addr} {m : Str → Option PV} {x : Str} (hk : (fc.comp sc C).env.kindOf x = some .cell) : capt fc sc m x = m x := by
  unfold capt
  exact if_pos hk

theorem WAs.forget {t : Expr} {p : PV} {m : Str → Option PV} {K : AS → Prop} (hm : ∀ x q, m x = some q → st.m x = some q) (h : WAs g fc t p ⟨m, st.σ⟩ K X) : WAs g fc t p st K X := by
  intro s v r q
  refine h s v ?_ q
  refine ⟨r.ok, r.base, r.gens, r.os, ?_, r.cel, r.nl, r.fr, r.sto⟩
  obtain ⟨mV, hn, hb⟩ := r.loc
  exact ⟨mV, hn, fun y p e => hb y p (hm y p e)⟩
theorem t_true {env : Env} {K : Bool → AS → Prop} (h : K true st) : WB g fc (tstOf none env) st K X := fun s r => wpAny_pure (Post.intro r rfl h)

theorem wt_append {elt : Expr} {D : Addr} {acc : List PV} {K : AS → Prop} (h : WE g fc (eval elt fc.env) st (fun q st₃ => st₃.σ D = some (.lst acc) ∧ acc.length ≤ 9999 ∧ K (st₃.up D (.lst (acc ++ [q])))) X) :
    WT g fc (ofTree g fc (do let _ ← call (.builtin "list.append") [.ref D, ← eval elt fc.env])) st K X := by
  intro s r
  refine wpAny_bind ((h s r).use (fun q st₃ v s₃ w r₃ S k => ?_) fun _ _ z => z)
  obtain ⟨hD, hl, k⟩ := k
  obtain ⟨vs, hp, hv⟩ := (r₃.sto D _ hD).2
  have e1 := hv.length
  have e2 : vs.toList.length = vs.size := by simp
  refine wpAny_bind (wpAny_list_append_plain hp (fun h' hp' sb => wpAny_pure ?_) (by rw [sizeLine_eq]; omega))
  have z := r₃.set (h' := h') (mo' := .lst (acc ++ [q])) (tk := s₃.toks) hD sb (fun σ' ss => ⟨_, hp', by rw [Array.toList_push]; exact (hv.safe ss).append (.one (w.safe ss))⟩)
  exact ⟨(), _, trivial, z.1, S.trans z.2.1, k⟩
theorem wt_put {kx vx : Expr} {D : Addr} {es : List (Str × PV)} {K : AS → Prop} (h : WE g fc (eval kx fc.env) st (fun pk st₁ => WE g fc (eval vx fc.env) st₁ (fun q st₃ => ∃ k, pk = .str k ∧ st₃.σ D = some (.dct es) ∧ es.length ≤ 10000 ∧ K (st₃.up D (.dct (put es k q)))) X) X) :
    WT g fc (ofTree g fc (do
            let kv ← eval kx fc.env
            let vv ← holding [kv] (eval vx fc.env)
            standAt { kx.pos with endLine := vx.pos.endLine, endCol := vx.pos.endCol }
            holding [kv, vv] (dictSet D kv vv))) st K X := by
  intro s r
  refine wpAny_bind ((h s r).use (fun pk st₁ kv s₁ wk r₁ S₁ k => ?_) fun _ _ z => z)
  refine wpAny_bind (wpAny_holding ((k s₁ r₁).use (fun q st₃ v s₃ w r₃ S₃ k => ?_) fun _ _ z => EPost.from S₁ z))
  obtain ⟨kk, rfl, hD, hl, k⟩ := k
  cases wk
  obtain ⟨kvs, hd, hk, hvs⟩ := (r₃.sto D _ hD).2
  have hlen : kvs.length = es.length := by have := congrArg List.length hk; simpa using this
  refine wpAny_bind (wpAny_standAt (wpAny_holding (wpAny_dictSet_pairs (knd := strKind g.prog g.w) (strKind_is _ _ _ _) hd (fun h' hd' hs => ?_) (by rw [sizeLine_eq]; omega))))
  have zz := r₃.set (h' := h') (mo' := .dct (put es kk q)) (tk := s₃.toks + 1) hD hs (fun σ' ss => by
    obtain ⟨a1, a2⟩ := put_rel (k := kk) (w.safe ss) hk (VRs.safe ss hvs)
    exact ⟨_, hd', a1, a2⟩)
  exact ⟨(), _, trivial, zz.1, S₁.trans (S₃.trans zz.2.1), k⟩

/-- the new list or dict as a value -/
noncomputable def AsVal (D : Addr) (mo : MO) (σ : Store) (p : PV) (σ' : Store) : Prop := (p = .ref D ∧ σ' = upd σ D mo) ∨ ∃ acc, mo = .lst acc ∧ p = .fl acc ∧ σ' = σ
theorem fin_val {D : Addr} {mo : MO} {σ σ' : Store} {p : PV} (r : R g fc st s) (e : st.σ = upd σ D mo) (h0 : σ D = none) (h : AsVal D mo σ p σ') : R g fc ⟨st.m, σ'⟩ s ∧ Step fc st.σ σ' s.heap s.heap ∧ VR σ' s.heap p (.ref D) := by
  rcases h with ⟨rfl, rfl⟩ | ⟨acc, rfl, rfl, rfl⟩
  · rw [← e]; exact ⟨r, Step.refl, .ref D⟩
  · obtain ⟨a, b, c⟩ := r.freeze (a := D) (xs := acc) (by rw [e]; exact upd_self)
    have : del st.σ D = σ' := by rw [e]; exact del_upd h0
    rw [this] at a b c
    exact ⟨a, b, c⟩

noncomputable def CJ (m₀ : Str → Option PV) (mk : List PV → AS → Store → Prop) (ps : List PV) (st : AS) : Prop := (∀ x q, m₀ x = some q → st.m x = some q) ∧ ∃ σ, mk ps st σ

/-- end of a comprehension as a value -/
theorem e_fin {sc : Scope} {K : PV → AS → Prop} {m : Str → Option PV} {st₁ st' : AS} {sb s' : Shared} {D C : Addr} {mo : MO} {σ σ' : Store} {p : PV} (S₁ : Step fc st.σ st₁.σ s.heap sb.heap) (rb : R g fc st₁ sb) (hm : st₁.m = m) (hC : sb.heap.get? C = none) (S : StepQ fc.fr st₁.σ st'.σ sb.heap s'.heap) (r' : R g (fc.comp sc C) st' s')
    (e : st'.σ = upd σ D mo) (h0 : σ D = none) (hv : AsVal D mo σ p σ') (hk : K p ⟨m, σ'⟩) : compPost g.M fc.A (EPost g fc st₁ sb X) none (Post g fc VR st s K) (.ref D) C (.ok .next) s' := by
  refine comp_fin (K := fun _ => True) (p := .none) rb hC S r' fun ro => ⟨fun _ h' r2 S2 sf => ?_, fun u z => by cases z⟩
  obtain ⟨a, b, c⟩ := fin_val r2 e h0 hv
  refine ⟨p, ⟨m, σ'⟩, c, ?_, S₁.trans (S2.trans b), hk⟩
  rw [← hm]; exact a
theorem s_fin {sc : Scope} {K : AF → AS → Prop} {y : Str} {py : Pos} {m : Str → Option PV} {st₁ st' : AS} {sb s' : Shared} {D C : Addr} {mo : MO} {σ σ' : Store} {p : PV} (hy : fc.env.kindOf y = some .local) (S₁ : Step fc st.σ st₁.σ s.heap sb.heap) (rb : R g fc st₁ sb) (hm : st₁.m = m) (hC : sb.heap.get? C = none) (S : StepQ fc.fr st₁.σ st'.σ sb.heap s'.heap) (r' : R g (fc.comp sc C) st' s')
    (e : st'.σ = upd σ D mo) (h0 : σ D = none) (hv : AsVal D mo σ p σ') (hk : K .next ⟨setm m y p, σ'⟩) : compPost g.M fc.A (EPost g fc st₁ sb X) (some (assign (.Name y py) fc.env)) (fun _ s' => Post g fc FRl st s K .next s') (.ref D) C (.ok .next) s' := by
  refine comp_fin (K := fun _ => True) (p := .none) rb hC S r' fun ro => ⟨fun z => (by cases z), fun u z => ?_⟩
  cases z
  obtain ⟨a, b, c⟩ := fin_val ro e h0 hv
  have a : R g fc ⟨m, σ'⟩ s' := by rw [← hm]; exact a
  refine wpAny_assign_Name ((store (K := fun _ st₂ => st₂ = (⟨m, σ'⟩ : AS).sv y p) (X := X) a c (.inl hy) rfl).use (fun _ st₂ _ s₂ _ r₂ S₂ k₂ => ?_) fun _ _ z => EPost.from (S.step.trans b) z)
  subst k₂
  refine ⟨_, r₂, b.trans S₂, fun h' r3 S3 => ⟨.next, _, .next, r3, S₁.trans S3, hk⟩⟩
end
end Mine

namespace Mine

section
variable {g : Gx} {fc : Fc} {st : AS} {s : Shared} {X : Int → AS → Prop}

/-- the state inside a list comprehension -/
inductive LJ (m₀ : Str → Option PV) (J : List PV → List PV → Store → Prop) (D : Addr) (ps : List PV) (st : AS) : Prop
  | mk (hk : ∀ x q, m₀ x = some q → st.m x = some q) (acc : List PV) (σ : Store) (e : st.σ = upd σ D (.lst acc)) (h0 : σ D = none) (j : J ps acc σ)
inductive DJ (m₀ : Str → Option PV) (J : List PV → List (Str × PV) → Store → Prop) (D : Addr) (ps : List PV) (st : AS) : Prop
  | mk (hk : ∀ x q, m₀ x = some q → st.m x = some q) (acc : List (Str × PV)) (σ : Store) (e : st.σ = upd σ D (.dct acc)) (h0 : σ D = none) (j : J ps acc σ)
inductive LT (g : Gx) (fc : Fc) (t : Expr) (p : PV) (m : Str → Option PV) (B : (Str → Option PV) → Prop) : Prop
  | mk (m₁ : Str → Option PV) (h : TgW g fc t p m m₁) (k : B m₁)
inductive LQ (D : Addr) (mo : MO) (m₁ : Str → Option PV) (n : Nat) (J : Store → Prop) (st : AS) : Prop
  | mk (hl : n ≤ 9999) (σ' : Store) (e : st = ⟨m₁, upd σ' D mo⟩) (h0 : σ' D = none) (j : J σ')
inductive LN (D : Addr) (mo : MO) (m₁ : Str → Option PV) (J : Store → Prop) (st : AS) : Prop
  | mk (σ' : Store) (e : st = ⟨m₁, upd σ' D mo⟩) (h0 : σ' D = none) (j : J σ')
inductive LV (D : Addr) (mo : MO) (m₁ : Str → Option PV) (J : List PV → Store → Prop) (v : PV) (st : AS) : Prop
  | mk (qs : List PV) (σ' : Store) (h : v = .fl qs) (e : st = ⟨m₁, upd σ' D mo⟩) (h0 : σ' D = none) (j : J qs σ')
inductive DQ (D : Addr) (mo : MO) (m₁ : Str → Option PV) (n : Nat) (J : Str → Store → Prop) (pk : PV) (st : AS) : Prop
  | mk (hl : n ≤ 9999) (k : Str) (σ' : Store) (h : pk = .str k) (e : st = ⟨m₁, upd σ' D mo⟩) (h0 : σ' D = none) (j : J k σ')
inductive FinV (D : Addr) (mo : MO) (σ : Store) (K : PV → Store → Prop) : Prop
  | mk (p : PV) (σ' : Store) (h : AsVal D mo σ p σ') (k : K p σ')

/-- one turn, one clause -/
noncomputable def LTurn (g : Gx) (fc : Fc) (sc : Scope) (m : Str → Option PV) (t1 : Expr) (c1 : Option Expr) (elt : Expr) (X : Int → AS → Prop) (J : List PV → List PV → Store → Prop) : Prop :=
  ∀ D C p ps acc σ, σ D = none → J (p :: ps) acc σ → LT g (fc.comp sc C) t1 p (capt fc sc m) fun m₁ =>
    WB g (fc.comp sc C) (tstOf c1 (fc.comp sc C).env) ⟨m₁, upd σ D (.lst acc)⟩ (fun ok st₂ => if ok = true then
      WE g (fc.comp sc C) (eval elt (fc.comp sc C).env) st₂ (fun q => LQ D (.lst acc) m₁ acc.length (J ps (acc ++ [q]))) (fun l st' => X l ⟨m, st'.σ⟩)
      else LN D (.lst acc) m₁ (J ps acc) st₂) (fun l st' => X l ⟨m, st'.σ⟩)
theorem LTurn.turn {sc : Scope} {m : Str → Option PV} {t1 elt : Expr} {c1 : Option Expr} {J : List PV → List PV → Store → Prop} (h : LTurn g fc sc m t1 c1 elt X J) (D C : Addr) :
    TurnW g (fc.comp sc C) t1 c1 (ofTree g (fc.comp sc C) (do let _ ← call (.builtin "list.append") [.ref D, ← eval elt (fc.comp sc C).env])) (fun l st' => X l ⟨m, st'.σ⟩) (LJ (capt fc sc m) J D) := by
  rintro p ps st ⟨hk, acc, σ, e, h0, j⟩
  obtain ⟨m₁, ⟨t, tk⟩, w⟩ := h D C p ps acc σ h0 j
  refine WAs.forget hk ?_
  have z := t st.σ (fun l st' => X l ⟨m, st'.σ⟩)
  intro s v r q
  refine (z s v r q).mono (fun _ st₁ k => ?_) fun _ _ x => x
  subst k
  rw [← e] at w
  refine w.mono (fun ok st₂ k => ?_) fun _ _ x => x
  cases ok with
  | false =>
    rw [if_neg (by simp)] at k ⊢
    obtain ⟨σ', rfl, h0', j'⟩ := k
    exact ⟨tk, acc, σ', rfl, h0', j'⟩
  | true =>
    rw [if_pos rfl] at k ⊢
    refine wt_append (acc := acc) (k.mono (fun q st₃ k => ?_) fun _ _ x => x)
    obtain ⟨hl, σ', rfl, h0', j'⟩ := k
    exact ⟨upd_self, hl, tk, _, σ', upd_upd, h0', j'⟩

noncomputable def LStart (g : Gx) (fc : Fc) (i1 : Expr) (m : Str → Option PV) (st : AS) (X : Int → AS → Prop) (J : List PV → List PV → Store → Prop) : Prop := IterW g fc i1 st (fun ps st₁ => st₁.m = m ∧ J ps [] st₁.σ) X
theorem LStart.core {i1 : Expr} {sc : Scope} {m : Str → Option PV} {J : List PV → List PV → Store → Prop} (h : LStart g fc i1 m st X J) :
    IterW g fc i1 st (fun ps st₁ => st₁.m = m ∧ ∀ D, st₁.σ D = none → LJ (capt fc sc m) J D ps ⟨capt fc sc m, upd st₁.σ D (.lst [])⟩) X := by
  intro s r
  refine wpAny_mono (h s r) (fun x s₁ h₁ => wpAny_mono h₁ (fun it s₂ h₂ => ?_) fun _ _ z => z) fun _ _ z => z
  obtain ⟨I, ps, st₁, rfl, hI, r₁, S, it, hm, j⟩ := h₂
  exact ⟨I, ps, st₁, rfl, hI, r₁, S, it, hm, fun D hD => ⟨fun _ _ e => e, [], st₁.σ, rfl, hD, j⟩⟩

theorem e_lcomp1 {elt t1 i1 : Expr} {c1 : Option Expr} {sc : Scope} {pos : Pos} {m : Str → Option PV} {J : List PV → List PV → Store → Prop} {K : PV → AS → Prop} (hm : m = st.m)
    (h : LStart g fc i1 m st X J) (turn : LTurn g fc sc m t1 c1 elt X J)
    (fin : ∀ D acc σ, σ D = none → J [] acc σ → FinV D (.lst acc) σ fun p σ' => K p ⟨m, σ'⟩)
    (ok : okScope sc fc.env = true := by rfl) (hs : ∀ x, foldedSetIterable i1 fc.env x = pure x := by intro _; rfl) : WE g fc (eval (.ListComp elt [⟨t1, i1, ifsOf c1, 0⟩] sc pos) fc.env) st K X := by
  intro s r
  rw [eval_ListComp]
  refine lcomp_core (T := fun D fc => ofTree g fc (do let _ ← call (.builtin "list.append") [.ref D, ← eval elt fc.env])) (use := none) r ok hm h.core (fun D C => un_list1) (fun D C => ofTree_mono) turn.turn ?_ hs
  rintro st₁ sb rb S₁ hm1 C D st' s' hC S r' ⟨_, acc, σ, e, h0, j⟩
  obtain ⟨p, σ', hv, hk⟩ := fin D acc σ h0 j
  exact e_fin S₁ rb hm1 hC S r' e h0 hv hk
theorem s_lcomp1 {elt t1 i1 : Expr} {c1 : Option Expr} {sc : Scope} {pos py spos : Pos} {y : Str} {m : Str → Option PV} {J : List PV → List PV → Store → Prop} {K : AF → AS → Prop} (hm : m = st.m)
    (h : LStart g fc i1 m st X J) (turn : LTurn g fc sc m t1 c1 elt X J)
    (fin : ∀ D acc σ, σ D = none → J [] acc σ → FinV D (.lst acc) σ fun p σ' => K .next ⟨setm m y p, σ'⟩) (hy : fc.env.kindOf y = some .local)
    (hsw : swapsWith (.ListComp elt [⟨t1, i1, ifsOf c1, 0⟩] sc pos) (some (.Name y py)) spos.line fc.env = pure true := by rfl)
    (ok : okScope sc fc.env = true := by rfl) (hs : ∀ x, foldedSetIterable i1 fc.env x = pure x := by intro _; rfl) : WS g fc (exec (.Assign [.Name y py] (.ListComp elt [⟨t1, i1, ifsOf c1, 0⟩] sc pos) spos) fc.env) st K X := by
  intro s r
  rw [exec_Assign_Name_used _ _ _ _ hsw]
  refine wpAny_bind (wpAny_standAt (wpAny_bind ?_))
  show wpAny _ fc.A (do let _ ← comprehension (.ListComp elt [⟨t1, i1, ifsOf c1, 0⟩] sc pos) sc fc.env _ (newList []) false (eval i1 fc.env) (some (assign (.Name y py) fc.env))) _ _ s
  refine wpAny_bind (wpAny_mono (lcomp_core (T := fun D fc => ofTree g fc (do let _ ← call (.builtin "list.append") [.ref D, ← eval elt fc.env])) (Q := fun _ s' => Post g fc FRl st s K .next s') r ok hm h.core (fun D C => un_list1) (fun D C => ofTree_mono) turn.turn ?_ hs) (fun _ s' hq => wpAny_pure (wpAny_pure hq)) fun _ _ e => e)
  rintro st₁ sb rb S₁ hm1 C D st' s' hC S r' ⟨_, acc, σ, e, h0, j⟩
  obtain ⟨p, σ', hv, hk⟩ := fin D acc σ h0 j
  exact s_fin hy S₁ rb hm1 hC S r' e h0 hv hk

/-- two clauses -/
noncomputable def LTurn2 (g : Gx) (fc : Fc) (sc : Scope) (m : Str → Option PV) (t1 i2 t2 : Expr) (c2 : Option Expr) (elt : Expr) (X : Int → AS → Prop) (J : List PV → List PV → Store → Prop) (J2 : (Str → Option PV) → List PV → List PV → List PV → Store → Prop) : Prop :=
  (∀ D C p ps acc σ, σ D = none → J (p :: ps) acc σ → LT g (fc.comp sc C) t1 p (capt fc sc m) fun m₁ =>
    WE g (fc.comp sc C) (eval i2 (fc.comp sc C).env) ⟨m₁, upd σ D (.lst acc)⟩ (LV D (.lst acc) m₁ fun qs => J2 m₁ ps qs acc) (fun l st' => X l ⟨m, st'.σ⟩)) ∧
  (∀ D C m₁ ps q qs acc σ, σ D = none → J2 m₁ ps (q :: qs) acc σ → LT g (fc.comp sc C) t2 q m₁ fun m₂ =>
    WB g (fc.comp sc C) (tstOf c2 (fc.comp sc C).env) ⟨m₂, upd σ D (.lst acc)⟩ (fun ok st₂ => if ok = true then
      WE g (fc.comp sc C) (eval elt (fc.comp sc C).env) st₂ (fun x => LQ D (.lst acc) m₂ acc.length (J2 m₁ ps qs (acc ++ [x]))) (fun l st' => X l ⟨m, st'.σ⟩)
      else LN D (.lst acc) m₂ (J2 m₁ ps qs acc) st₂) (fun l st' => X l ⟨m, st'.σ⟩)) ∧
  ∀ m₁ ps acc σ, J2 m₁ ps [] acc σ → J ps acc σ

theorem start_l1 {elt t1 t2 i1 i2 : Expr} {c1 c2 : Option Expr} {sc : Scope} {pos : Pos} {it acc : Value} {env : Env} {A : Around} {R : Result → Shared → Prop}
    (h0 : codeAny g.M A (.compLoop (.ListComp elt [⟨t1, i1, ifsOf c1, 0⟩, ⟨t2, i2, ifsOf c2, 0⟩] sc pos) 1 it acc env) R s)
    (h : wpAny g.M A (pyIter it) (fun it' s' => codeAny g.M A (.compLoop (.ListComp elt [⟨t1, i1, ifsOf c1, 0⟩, ⟨t2, i2, ifsOf c2, 0⟩] sc pos) 1 it' acc env) R s') (notedBy g.M A env fun x s' => R (.error x) s') s) :
    codeAny g.M A (.compStart (.ListComp elt [⟨t1, i1, ifsOf c1, 0⟩, ⟨t2, i2, ifsOf c2, 0⟩] sc pos) 1 it acc env) R s := by
  refine codeAny_of_tree ?_
  show wpAny _ _ ((compStart (.ListComp elt [⟨t1, i1, ifsOf c1, 0⟩, ⟨t2, i2, ifsOf c2, 0⟩] sc pos) 1 it acc env).onRaise (fun x => do noteFrame x env; standAt theWindowsPlace)) _ _ s
  refine wpAny_notedAt ?_
  unfold compStart
  show wpAny _ _ (ask >>= _) _ _ s
  refine wpAny_bind (wpAny_askSetting (wpAny_ite ?_))
  split
  · first
      | exact wpAny_bind (wpAny_pure (wpAny_pure (And.intro rfl h0)))
      | exact wpAny_pure (And.intro rfl h0)
  · first
      | exact wpAny_bind (wpAny_rule (wpAny_bind (wpAny_standAt (wpAny_bind (wpAny_mono h (fun it' s' h' => wpAny_pure (And.intro rfl h')) fun _ _ x => x)))))
      | (refine wpAny_bind (wpAny_rule ?_); show wpAny _ _ (standAt i2.pos >>= _) _ _ s; exact wpAny_bind (wpAny_standAt (wpAny_bind (wpAny_mono h (fun it' s' h' => wpAny_pure (And.intro rfl h')) fun _ _ x => x))))

theorem LTurn2.turn {sc : Scope} {m : Str → Option PV} {t1 i1 i2 t2 elt : Expr} {c2 : Option Expr} {pos : Pos} {J : List PV → List PV → Store → Prop} {J2 : (Str → Option PV) → List PV → List PV → List PV → Store → Prop} (h : LTurn2 g fc sc m t1 i2 t2 c2 elt X J J2) (D C : Addr) :
    TurnW g (fc.comp sc C) t1 none (innerT g (fc.comp sc C) (.ListComp elt [⟨t1, i1, ifsOf none, 0⟩, ⟨t2, i2, ifsOf c2, 0⟩] sc pos) i2 (.ref D)) (fun l st' => X l ⟨m, st'.σ⟩) (LJ (capt fc sc m) J D) := by
  obtain ⟨ha, hb, hc⟩ := h
  rintro p ps st ⟨hk, acc, σ, e, h0, j⟩
  obtain ⟨m₁, ⟨t, tk⟩, w⟩ := ha D C p ps acc σ h0 j
  refine WAs.forget hk ?_
  have z := t st.σ (fun l st' => X l ⟨m, st'.σ⟩)
  intro s v r q
  refine (z s v r q).mono (fun _ st₁ k => ?_) fun _ _ x => x
  subst k
  rw [← e] at w
  refine t_true ?_
  rw [if_pos rfl]
  intro s₁ r₁
  refine (w s₁ r₁).use (fun v st₂ x s₂ wv r₂ S₂ k => ?_) fun _ _ z => z
  obtain ⟨qs, σ', rfl, rfl, h0', j2⟩ := k
  refine mk_it_list r₂ wv fun I h' hI r₃ S₃ it => ?_
  have fin : ∀ s', (∃ st', R g (fc.comp sc C) st' s' ∧ Step (fc.comp sc C) (upd σ' D (.lst acc)) st'.σ s₂.heap s'.heap ∧ Live s₂.heap s'.heap ∧ LJ m₁ (J2 m₁ ps) D [] st') → Post g (fc.comp sc C) URl ⟨m₁, st.σ⟩ s₁ (fun _ st₃ => LJ (capt fc sc m) J D ps st₃) () s' := by
    rintro s' ⟨st', r', S', _, hk', acc', σ'', e', h0'', j'⟩
    exact ⟨(), st', trivial, r', S₂.trans S', fun x q e => hk' x q (tk x q e), acc', σ'', e', h0'', hc _ _ _ _ j'⟩
  have er : ∀ e s', EO true g (fc.comp sc C) s₂.heap (fun σ h => Step (fc.comp sc C) (upd σ' D (.lst acc)) σ s₂.heap h) (fun l st' => X l ⟨m, st'.σ⟩) e s' → cameBackBy g.M (fc.comp sc C).A (fc.comp sc C).env (EPost g (fc.comp sc C) ⟨m₁, st.σ⟩ s₁ (fun l st' => X l ⟨m, st'.σ⟩)) e s' := fun e s' x => by
    refine EO.came (Base.self (st := ⟨m₁, upd σ' D (.lst acc)⟩) r₂ hI) x fun s'' y => ?_
    obtain ⟨l, st', F, r', S', _, kx⟩ := y
    exact ⟨l, st', (F.weaken).le S₂.live, r', S₂.trans S', kx⟩
  have turn2 : TurnW g (fc.comp sc C) t2 c2 (ofTree g (fc.comp sc C) (do let _ ← call (.builtin "list.append") [.ref D, ← eval elt (fc.comp sc C).env])) (fun l st' => X l ⟨m, st'.σ⟩) (LJ m₁ (J2 m₁ ps) D) := by
    rintro p qs st ⟨hk, acc, σ, e, h0, j⟩
    obtain ⟨m₂, ⟨t, tk⟩, w⟩ := hb D C m₁ ps p qs acc σ h0 j
    refine WAs.forget hk ?_
    have z := t st.σ (fun l st' => X l ⟨m, st'.σ⟩)
    intro s v r q
    refine (z s v r q).mono (fun _ st₁ k => ?_) fun _ _ x => x
    subst k
    rw [← e] at w
    refine w.mono (fun ok st₂ k => ?_) fun _ _ x => x
    cases ok with
    | false =>
      rw [if_neg (by simp)] at k ⊢
      obtain ⟨σ', rfl, h0', j'⟩ := k
      exact ⟨tk, acc, σ', rfl, h0', j'⟩
    | true =>
      rw [if_pos rfl] at k ⊢
      refine wt_append (acc := acc) (k.mono (fun q st₃ k => ?_) fun _ _ x => x)
      obtain ⟨hl, σ', rfl, h0', j'⟩ := k
      exact ⟨upd_self, hl, tk, _, σ', upd_upd, h0', j'⟩
  have loop : codeAny g.M (fc.comp sc C).A (.compLoop (.ListComp elt [⟨t1, i1, ifsOf none, 0⟩, ⟨t2, i2, ifsOf c2, 0⟩] sc pos) 1 (.ref I) (.ref D) (fc.comp sc C).env) (fun r s' => match r with | .ok _ => Post g (fc.comp sc C) URl ⟨m₁, st.σ⟩ s₁ (fun _ st₃ => LJ (capt fc sc m) J D ps st₃) () s' | .error e => cameBackBy g.M (fc.comp sc C).A (fc.comp sc C).env (EPost g (fc.comp sc C) ⟨m₁, st.σ⟩ s₁ (fun l st' => X l ⟨m, st'.σ⟩)) e s') { s₂ with heap := h' } :=
    lcomp_loop (Base.self (st := ⟨m₁, upd σ' D (.lst acc)⟩) r₂ hI) ofTree_mono un_list2b turn2 fin er (ps := qs) ⟨_, r₃, S₃, fun b o e => S₃.live b o e, it, fun _ _ e => e, acc, σ', rfl, h0', j2⟩
  exact start_l1 loop (it_self it loop)

theorem e_lcomp2 {elt t1 i1 t2 i2 : Expr} {c2 : Option Expr} {sc : Scope} {pos : Pos} {m : Str → Option PV} {J : List PV → List PV → Store → Prop} {K : PV → AS → Prop} (J2 : (Str → Option PV) → List PV → List PV → List PV → Store → Prop) (hm : m = st.m)
    (h : LStart g fc i1 m st X J) (turn : LTurn2 g fc sc m t1 i2 t2 c2 elt X J J2)
    (fin : ∀ D acc σ, σ D = none → J [] acc σ → FinV D (.lst acc) σ fun p σ' => K p ⟨m, σ'⟩)
    (hs2 : ∀ C x, foldedSetIterable i2 (fc.comp sc C).env x = pure x := by intro _ _; rfl)
    (ok : okScope sc fc.env = true := by rfl) (hs : ∀ x, foldedSetIterable i1 fc.env x = pure x := by intro _; rfl) : WE g fc (eval (.ListComp elt [⟨t1, i1, ifsOf none, 0⟩, ⟨t2, i2, ifsOf c2, 0⟩] sc pos) fc.env) st K X := by
  intro s r
  rw [eval_ListComp]
  refine lcomp_core (T := fun D fc => innerT g fc (.ListComp elt [⟨t1, i1, ifsOf none, 0⟩, ⟨t2, i2, ifsOf c2, 0⟩] sc pos) i2 (.ref D)) (use := none) r ok hm h.core (fun D C => un_list2a (hs2 C)) (fun D C => innerT_mono) turn.turn ?_ hs
  rintro st₁ sb rb S₁ hm1 C D st' s' hC S r' ⟨_, acc, σ, e, h0, j⟩
  obtain ⟨p, σ', hv, hk⟩ := fin D acc σ h0 j
  exact e_fin S₁ rb hm1 hC S r' e h0 hv hk
theorem s_lcomp2 {elt t1 i1 t2 i2 : Expr} {c2 : Option Expr} {sc : Scope} {pos py spos : Pos} {y : Str} {m : Str → Option PV} {J : List PV → List PV → Store → Prop} {K : AF → AS → Prop} (J2 : (Str → Option PV) → List PV → List PV → List PV → Store → Prop) (hm : m = st.m)
    (h : LStart g fc i1 m st X J) (turn : LTurn2 g fc sc m t1 i2 t2 c2 elt X J J2)
    (fin : ∀ D acc σ, σ D = none → J [] acc σ → FinV D (.lst acc) σ fun p σ' => K .next ⟨setm m y p, σ'⟩) (hy : fc.env.kindOf y = some .local)
    (hs2 : ∀ C x, foldedSetIterable i2 (fc.comp sc C).env x = pure x := by intro _ _; rfl)
    (hsw : swapsWith (.ListComp elt [⟨t1, i1, ifsOf none, 0⟩, ⟨t2, i2, ifsOf c2, 0⟩] sc pos) (some (.Name y py)) spos.line fc.env = pure true := by rfl)
    (ok : okScope sc fc.env = true := by rfl) (hs : ∀ x, foldedSetIterable i1 fc.env x = pure x := by intro _; rfl) : WS g fc (exec (.Assign [.Name y py] (.ListComp elt [⟨t1, i1, ifsOf none, 0⟩, ⟨t2, i2, ifsOf c2, 0⟩] sc pos) spos) fc.env) st K X := by
  intro s r
  rw [exec_Assign_Name_used _ _ _ _ hsw]
  refine wpAny_bind (wpAny_standAt (wpAny_bind ?_))
  show wpAny _ fc.A (do let _ ← comprehension (.ListComp elt [⟨t1, i1, ifsOf none, 0⟩, ⟨t2, i2, ifsOf c2, 0⟩] sc pos) sc fc.env _ (newList []) false (eval i1 fc.env) (some (assign (.Name y py) fc.env))) _ _ s
  refine wpAny_bind (wpAny_mono (lcomp_core (T := fun D fc => innerT g fc (.ListComp elt [⟨t1, i1, ifsOf none, 0⟩, ⟨t2, i2, ifsOf c2, 0⟩] sc pos) i2 (.ref D)) (Q := fun _ s' => Post g fc FRl st s K .next s') r ok hm h.core (fun D C => un_list2a (hs2 C)) (fun D C => innerT_mono) turn.turn ?_ hs) (fun _ s' hq => wpAny_pure (wpAny_pure hq)) fun _ _ e => e)
  rintro st₁ sb rb S₁ hm1 C D st' s' hC S r' ⟨_, acc, σ, e, h0, j⟩
  obtain ⟨p, σ', hv, hk⟩ := fin D acc σ h0 j
  exact s_fin hy S₁ rb hm1 hC S r' e h0 hv hk

-- dict comprehensions
noncomputable def DTurn (g : Gx) (fc : Fc) (sc : Scope) (m : Str → Option PV) (t1 kx vx : Expr) (X : Int → AS → Prop) (J : List PV → List (Str × PV) → Store → Prop) : Prop :=
  ∀ D C p ps acc σ, σ D = none → J (p :: ps) acc σ → LT g (fc.comp sc C) t1 p (capt fc sc m) fun m₁ =>
    WE g (fc.comp sc C) (eval kx (fc.comp sc C).env) ⟨m₁, upd σ D (.dct acc)⟩ (fun pk st₂ => WE g (fc.comp sc C) (eval vx (fc.comp sc C).env) st₂ (fun q => DQ D (.dct acc) m₁ acc.length (fun k => J ps (put acc k q)) pk) (fun l st' => X l ⟨m, st'.σ⟩)) (fun l st' => X l ⟨m, st'.σ⟩)
theorem DTurn.turn {sc : Scope} {m : Str → Option PV} {t1 kx vx : Expr} {J : List PV → List (Str × PV) → Store → Prop} (h : DTurn g fc sc m t1 kx vx X J) (D C : Addr) :
    TurnW g (fc.comp sc C) t1 none (ofTree g (fc.comp sc C) (do
            let kv ← eval kx (fc.comp sc C).env
            let vv ← holding [kv] (eval vx (fc.comp sc C).env)
            standAt { kx.pos with endLine := vx.pos.endLine, endCol := vx.pos.endCol }
            holding [kv, vv] (dictSet D kv vv))) (fun l st' => X l ⟨m, st'.σ⟩) (DJ (capt fc sc m) J D) := by
  rintro p ps st ⟨hk, acc, σ, e, h0, j⟩
  obtain ⟨m₁, ⟨t, tk⟩, w⟩ := h D C p ps acc σ h0 j
  refine WAs.forget hk ?_
  have z := t st.σ (fun l st' => X l ⟨m, st'.σ⟩)
  intro s v r q
  refine (z s v r q).mono (fun _ st₁ k => ?_) fun _ _ x => x
  subst k
  rw [← e] at w
  refine t_true ?_
  rw [if_pos rfl]
  refine wt_put (es := acc) (w.mono (fun pk st₂ k => k.mono (fun q st₃ k => ?_) fun _ _ x => x) fun _ _ x => x)
  obtain ⟨hl, kk, σ', rfl, rfl, h0', j'⟩ := k
  exact ⟨kk, rfl, upd_self, by omega, tk, _, σ', upd_upd, h0', j'⟩
noncomputable def DStart (g : Gx) (fc : Fc) (i1 : Expr) (m : Str → Option PV) (st : AS) (X : Int → AS → Prop) (J : List PV → List (Str × PV) → Store → Prop) : Prop := IterW g fc i1 st (fun ps st₁ => st₁.m = m ∧ J ps [] st₁.σ) X
theorem DStart.core {i1 : Expr} {sc : Scope} {m : Str → Option PV} {J : List PV → List (Str × PV) → Store → Prop} (h : DStart g fc i1 m st X J) :
    IterW g fc i1 st (fun ps st₁ => st₁.m = m ∧ ∀ D, st₁.σ D = none → DJ (capt fc sc m) J D ps ⟨capt fc sc m, upd st₁.σ D (.dct [])⟩) X := by
  intro s r
  refine wpAny_mono (h s r) (fun x s₁ h₁ => wpAny_mono h₁ (fun it s₂ h₂ => ?_) fun _ _ z => z) fun _ _ z => z
  obtain ⟨I, ps, st₁, rfl, hI, r₁, S, it, hm, j⟩ := h₂
  exact ⟨I, ps, st₁, rfl, hI, r₁, S, it, hm, fun D hD => ⟨fun _ _ e => e, [], st₁.σ, rfl, hD, j⟩⟩
theorem e_dcomp1 {kx vx t1 i1 : Expr} {sc : Scope} {pos : Pos} {m : Str → Option PV} {J : List PV → List (Str × PV) → Store → Prop} {K : PV → AS → Prop} (hm : m = st.m)
    (h : DStart g fc i1 m st X J) (turn : DTurn g fc sc m t1 kx vx X J)
    (fin : ∀ D acc σ, σ D = none → J [] acc σ → K (.ref D) ⟨m, upd σ D (.dct acc)⟩)
    (ok : okScope sc fc.env = true := by rfl) (hs : ∀ x, foldedSetIterable i1 fc.env x = pure x := by intro _; rfl) : WE g fc (eval (.DictComp kx vx [⟨t1, i1, ifsOf none, 0⟩] sc pos) fc.env) st K X := by
  intro s r
  show wpAny _ fc.A (comprehension (.DictComp kx vx [⟨t1, i1, ifsOf none, 0⟩] sc pos) sc fc.env _ newDict false (eval i1 fc.env) none) _ _ s
  refine dcomp_core (T := fun D fc => ofTree g fc (do
            let kv ← eval kx fc.env
            let vv ← holding [kv] (eval vx fc.env)
            standAt { kx.pos with endLine := vx.pos.endLine, endCol := vx.pos.endCol }
            holding [kv, vv] (dictSet D kv vv))) (use := none) r ok hm h.core (fun D C => un_dict1) (fun D C => ofTree_mono) turn.turn ?_ hs
  rintro st₁ sb rb S₁ hm1 C D st' s' hC S r' ⟨_, acc, σ, e, h0, j⟩
  exact e_fin S₁ rb hm1 hC S r' e h0 (.inl ⟨rfl, rfl⟩) (fin D acc σ h0 j)
theorem s_dcomp1 {kx vx t1 i1 : Expr} {sc : Scope} {pos py spos : Pos} {y : Str} {m : Str → Option PV} {J : List PV → List (Str × PV) → Store → Prop} {K : AF → AS → Prop} (hm : m = st.m)
    (h : DStart g fc i1 m st X J) (turn : DTurn g fc sc m t1 kx vx X J)
    (fin : ∀ D acc σ, σ D = none → J [] acc σ → K .next ⟨setm m y (.ref D), upd σ D (.dct acc)⟩) (hy : fc.env.kindOf y = some .local)
    (hsw : swapsWith (.DictComp kx vx [⟨t1, i1, ifsOf none, 0⟩] sc pos) (some (.Name y py)) spos.line fc.env = pure true := by rfl)
    (ok : okScope sc fc.env = true := by rfl) (hs : ∀ x, foldedSetIterable i1 fc.env x = pure x := by intro _; rfl) : WS g fc (exec (.Assign [.Name y py] (.DictComp kx vx [⟨t1, i1, ifsOf none, 0⟩] sc pos) spos) fc.env) st K X := by
  intro s r
  rw [exec_Assign_Name_used _ _ _ _ hsw]
  refine wpAny_bind (wpAny_standAt (wpAny_bind ?_))
  show wpAny _ fc.A (do let _ ← comprehension (.DictComp kx vx [⟨t1, i1, ifsOf none, 0⟩] sc pos) sc fc.env _ newDict false (eval i1 fc.env) (some (assign (.Name y py) fc.env))) _ _ s
  refine wpAny_bind (wpAny_mono (dcomp_core (T := fun D fc => ofTree g fc (do
            let kv ← eval kx fc.env
            let vv ← holding [kv] (eval vx fc.env)
            standAt { kx.pos with endLine := vx.pos.endLine, endCol := vx.pos.endCol }
            holding [kv, vv] (dictSet D kv vv))) (Q := fun _ s' => Post g fc FRl st s K .next s') r ok hm h.core (fun D C => un_dict1) (fun D C => ofTree_mono) turn.turn ?_ hs) (fun _ s' hq => wpAny_pure (wpAny_pure hq)) fun _ _ e => e)
  rintro st₁ sb rb S₁ hm1 C D st' s' hC S r' ⟨_, acc, σ, e, h0, j⟩
  exact s_fin hy S₁ rb hm1 hC S r' e h0 (.inl ⟨rfl, rfl⟩) (fin D acc σ h0 j)
end
end Mine

namespace Mine

theorem VRs.erase {σ : Store} {h : Heap} : ∀ {ps : List PV} {vs : List Value} (n : Nat), VRs σ h ps vs → VRs σ h (ps.eraseIdx n) (vs.eraseIdx n)
  | _, _, _, .nil => .nil
  | _, _, 0, .cons _ r => r
  | _, _, n + 1, .cons a r => .cons a (VRs.erase n r)

theorem mapSeq_at {its : Array Value} {n : Nat} {f : Array Value → Array Value} : ∃ n', Obj.mapSeq f { cls := .type "list", data := .seq its n } = { cls := .type "list", data := .seq (f its) n' } := by
  simp [Obj.mapSeq]

section
variable {g : Gx} {fc : Fc} {st : AS} {s : Shared} {X : Int → AS → Prop}

theorem PlainList.upd {h : Heap} {a : Addr} {its : Array Value} {f : Array Value → Array Value} (x : h.PlainList a its) : (h.update a (Obj.mapSeq f)).PlainList a (f its) ∧ Heap.SameBut a h (h.update a (Obj.mapSeq f)) := by
  obtain ⟨n, e⟩ := x
  obtain ⟨n', hn⟩ := mapSeq_at (its := its) (n := n) (f := f)
  refine ⟨⟨n', ?_⟩, Heap.SameBut.update ..⟩
  rw [Heap.get?_update_self _ e (by rw [hn]; rfl), hn]

/-- a list that the store tells of is changed in place -/
theorem R.setL {a : Addr} {xs ys : List PV} {vs : Array Value} {f : Array Value → Array Value} {tk : Nat} (r : R g fc st s) (ha : st.σ a = some (.lst xs)) (hp : s.heap.PlainList a vs) (hv : ∀ σ' h', Safe st.σ s.heap σ' h' → VRs σ' h' ys (f vs).toList) :
    R g fc (st.up a (.lst ys)) { s with heap := s.heap.update a (Obj.mapSeq f), toks := tk } ∧ Step fc st.σ (upd st.σ a (.lst ys)) s.heap (s.heap.update a (Obj.mapSeq f)) ∧ Safe st.σ s.heap (upd st.σ a (.lst ys)) (s.heap.update a (Obj.mapSeq f)) := by
  obtain ⟨h1, h2⟩ := PlainList.upd (f := f) hp
  exact r.set ha h2 (fun σ' ss => ⟨_, h1, hv _ _ ss⟩)

inductive KOl (B : Addr → Prop) (po : PV) (st : AS) : Prop
  | mk (a : Addr) (ys : List PV) (h : po = .ref a) (hs : st.σ a = some (.lst ys)) (k : B a)
inductive KOd (B : Addr → Prop) (po : PV) (st : AS) : Prop
  | mk (a : Addr) (ys : List (Str × PV)) (h : po = .ref a) (hs : st.σ a = some (.dct ys)) (k : B a)
inductive KPop (K : PV → AS → Prop) (a : Addr) (pi : PV) (st : AS) : Prop
  | mk (i : Int) (xs : List PV) (k : Nat) (p : PV) (h : pi = .int i) (hs : st.σ a = some (.lst xs)) (hl : xs.length ≤ 10000) (h1 : -(2 ^ 63) ≤ i) (h2 : i < 2 ^ 63) (hi : seqIndex? i xs.length = some k) (hx : xs[k]? = some p) (kk : K p (st.up a (.lst (xs.eraseIdx k))))
inductive KApp (K : PV → AS → Prop) (a : Addr) (pi : PV) (st : AS) : Prop
  | mk (xs : List PV) (hs : st.σ a = some (.lst xs)) (hl : xs.length ≤ 10000) (kk : K .none (st.up a (.lst (xs ++ [pi]))))
inductive KGet (K : PV → AS → Prop) (a : Addr) (pk pd : PV) (st : AS) : Prop
  | mk (es : List (Str × PV)) (x : Str) (h : pk = .str x) (hs : st.σ a = some (.dct es)) (kk : K ((at? es x).getD pd) st)
inductive KTd (K : PV → AS → Prop) (p : PV) (st : AS) : Prop
  | mk (xs : List PV) (h : p = .tup xs) (h1 : 1 ≤ xs.length) (hl : xs.length ≤ 10000) (k : K (.tup (xs.drop 1)) st)
noncomputable abbrev popK (g : Gx) (fc : Fc) (e : Expr) (X : Int → AS → Prop) (K : PV → AS → Prop) : PV → AS → Prop := fun po st => KOl (fun a => WE g fc (eval e fc.env) st (KPop K a) X) po st
noncomputable abbrev appK (g : Gx) (fc : Fc) (e : Expr) (X : Int → AS → Prop) (K : PV → AS → Prop) : PV → AS → Prop := fun po st => KOl (fun a => WE g fc (eval e fc.env) st (KApp K a) X) po st
theorem e_pop {o e : Expr} {apos pos : Pos} {K : PV → AS → Prop}
    (h : WE g fc (eval o fc.env) st (popK g fc e X K) X)
    (hbase : attributeBase o "pop" fc.env (eval o fc.env) = eval o fc.env := by rfl) (hline : (apos.endLine == pos.line) = true := by rfl) (htrees : backTo pos (starEach [e] fc.env) = [(false, eval e fc.env)] := by rfl) : WE g fc (eval (.Call (.Attribute o "pop" apos) [e] [] pos) fc.env) st K X := by
  intro s r
  refine wpAny_Call_method1_late hbase hline htrees ((h s r).use (fun po st₁ v s₁ q r₁ S k => ?_) fun _ _ z => z)
  obtain ⟨a, ys, rfl, ha, k⟩ := k
  obtain ⟨vs, ⟨n, hp⟩, hv⟩ := (r₁.sto a _ ha).2
  (first | obtain rfl := VR.inv_ref q | obtain ⟨_, rfl⟩ := VR.inv_int q | obtain ⟨_, rfl⟩ := VR.inv_str q | obtain rfl := VR.inv_bool q | obtain rfl := VR.inv_none q)
  refine ⟨"list", "list.pop", F.plainAttrs_list, F.slot_list_pop, F.type_list_pop, ⟨_, hp, rfl⟩, fun b e => by cases e; exact ⟨_, hp, rfl⟩, P.pop_at_list ((k s₁ r₁).use (fun pi st₂ iv s₂ qi r₂ S₂ k => ?_) fun _ _ z => EPost.from S z)⟩
  obtain ⟨i, xs, kk, p, rfl, hx, hl, h1, h2, hi, hk, k⟩ := k
  obtain ⟨us, ⟨m, hu⟩, hw⟩ := (r₂.sto a _ hx).2
  have e1 := hw.length
  have e2 : us.toList.length = us.size := by simp
  obtain ⟨y, hy, qy⟩ := hw.get hk
  (first | obtain rfl := VR.inv_ref qi | obtain ⟨_, rfl⟩ := VR.inv_int qi | obtain ⟨_, rfl⟩ := VR.inv_str qi | obtain rfl := VR.inv_bool qi | obtain rfl := VR.inv_none qi)
  refine ⟨us, m, i, _, kk, y, by rw [sizeLine_eq]; omega, rfl, hu, ?_, by rw [← e2, e1]; exact hi, by simpa using hy, ?_⟩
  · show (decide (-(2 ^ 63 : Int) ≤ i) && decide (i < 2 ^ 63)) = true
    rw [Bool.and_eq_true]; exact ⟨decide_eq_true h1, decide_eq_true h2⟩
  · obtain ⟨r3, S3, sf⟩ := r₂.setL (f := fun xs => xs.eraseIdxIfInBounds kk) (ys := xs.eraseIdx kk) (tk := s₂.toks) hx ⟨m, hu⟩ (fun σ' h' ss => by
      have lt : kk < us.size := by
        rw [← e2, e1]
        exact (List.getElem?_eq_some_iff.mp hk).1
      rw [Array.eraseIdxIfInBounds, dif_pos lt, Array.toList_eraseIdx]
      exact (hw.safe ss).erase kk)
    exact Post.from (S.trans (S₂.trans S3)) (Post.intro (p := p) r3 (qy.safe sf) k)
theorem e_append {o e : Expr} {apos pos : Pos} {K : PV → AS → Prop}
    (h : WE g fc (eval o fc.env) st (appK g fc e X K) X)
    (hbase : attributeBase o "append" fc.env (eval o fc.env) = eval o fc.env := by rfl) (hline : (apos.endLine == pos.line) = true := by rfl) (htrees : backTo pos (starEach [e] fc.env) = [(false, eval e fc.env)] := by rfl) : WE g fc (eval (.Call (.Attribute o "append" apos) [e] [] pos) fc.env) st K X := by
  intro s r
  refine wpAny_Call_method1_late hbase hline htrees ((h s r).use (fun po st₁ v s₁ q r₁ S k => ?_) fun _ _ z => z)
  obtain ⟨a, ys, rfl, ha, k⟩ := k
  obtain ⟨vs, ⟨n, hp⟩, hv⟩ := (r₁.sto a _ ha).2
  (first | obtain rfl := VR.inv_ref q | obtain ⟨_, rfl⟩ := VR.inv_int q | obtain ⟨_, rfl⟩ := VR.inv_str q | obtain rfl := VR.inv_bool q | obtain rfl := VR.inv_none q)
  refine ⟨"list", "list.append", F.plainAttrs_list, F.slot_list_append, type_list_append, ⟨_, hp, rfl⟩, fun b e => by cases e; exact ⟨_, hp, rfl⟩, P.append_list ((k s₁ r₁).use (fun pi st₂ iv s₂ qi r₂ S₂ k => ?_) fun _ _ z => EPost.from S z)⟩
  obtain ⟨xs, hx, hl, k⟩ := k
  obtain ⟨us, ⟨m, hu⟩, hw⟩ := (r₂.sto a _ hx).2
  have e1 := hw.length
  have e2 : us.toList.length = us.size := by simp
  refine ⟨us, m, by rw [sizeLine_eq]; omega, hu, ?_⟩
  obtain ⟨r3, S3, sf⟩ := r₂.setL (f := fun xs => xs.push iv) (ys := xs ++ [pi]) (tk := s₂.toks) hx ⟨m, hu⟩ (fun σ' h' ss => by rw [Array.toList_push]; exact (hw.safe ss).append (.one (qi.safe ss)))
  exact Post.from (S.trans (S₂.trans S3)) (Post.intro (p := .none) r3 .none k)
theorem e_get2 {o k1 k2 : Expr} {apos pos : Pos} {K : PV → AS → Prop}
    (h : WE g fc (eval o fc.env) st (fun po st₁ => KOd (fun a => WE g fc (eval k1 fc.env) st₁ (fun pk st₂ => WE g fc (eval k2 fc.env) st₂ (KGet K a pk) X) X) po st₁) X)
    (lim : g.h0.NoLimit)
    (hbase : attributeBase o "get" fc.env (eval o fc.env) = eval o fc.env := by rfl) (hline : (apos.endLine == pos.line) = true := by rfl) (htrees : backTo pos (starEach [k1, k2] fc.env) = [(false, eval k1 fc.env), (false, eval k2 fc.env)] := by rfl) : WE g fc (eval (.Call (.Attribute o "get" apos) [k1, k2] [] pos) fc.env) st K X := by
  intro s r
  refine wpAny_Call_method_late hbase (by rw [htrees]; rfl) hline htrees ((h s r).use (fun po st₁ v s₁ q r₁ S k => ?_) fun _ _ z => z)
  obtain ⟨a, ys, rfl, ha, k⟩ := k
  obtain ⟨kvs, hd, hke, hv⟩ := (r₁.sto a _ ha).2
  have hds := DictNe r₁ lim ha
  (first | obtain rfl := VR.inv_ref q | obtain ⟨_, rfl⟩ := VR.inv_int q | obtain ⟨_, rfl⟩ := VR.inv_str q | obtain rfl := VR.inv_bool q | obtain rfl := VR.inv_none q)
  refine ⟨"dict", "dict.get", F.plainAttrs_dict, F.slot_dict_get, F.type_dict_get, hd.typeIs, hd.mapOf.noDict, wpAny_dict_get2 (knd := strKind g.prog g.w) hds ((k s₁ r₁).use (fun pk st₂ kv s₂ qk r₂ S₂ k => (k s₂ r₂).use (fun pd st₃ dv s₃ qd r₃ S₃ k => ?_) fun _ _ z => EPost.from (S.trans S₂) z) fun _ _ z => EPost.from S z)⟩
  obtain ⟨es, x, rfl, hx, kq⟩ := k
  obtain ⟨us, hu, hke', hw⟩ := (r₃.sto a _ hx).2
  have qk' := qk.safe (r₂.safe S₃)
  (first | obtain rfl := VR.inv_ref qk' | obtain ⟨_, rfl⟩ := VR.inv_int qk' | obtain ⟨_, rfl⟩ := VR.inv_str qk' | obtain rfl := VR.inv_bool qk' | obtain rfl := VR.inv_none qk')
  refine ⟨x, _, strKind_is _ _ _ _, hu.mapOf, ?_⟩
  have z := valueAt_rel hke' hw x
  refine Post.from (S.trans (S₂.trans S₃)) (Post.toks r₃ ?_ kq)
  cases e : at? es x with
  | none => rw [e] at z; rw [z]; exact qd
  | some p => rw [e] at z; obtain ⟨v, zv, qv⟩ := z; rw [zv]; exact qv

-- slices
theorem e_slice_tup1 {value : Expr} {p2 p3 pos : Pos} {k : Nat} {K : PV → AS → Prop}
    (h : WE g fc (eval value fc.env) st (KTd K) X) (ht : ∀ o r, letTemporaryGo value o r = pure () := by intro _ _; rfl) :
    WE g fc (eval (.Subscript value (.Slice (some (.Constant (.int 1) k p2)) none none p3) pos) fc.env) st K X := by
  intro s r
  refine wpAny_Subscript_Slice (T := "tuple") slot_tuple_getitem.lookup ((h s r).use (fun p st₁ v s₁ q r₁ S kk => ?_) fun _ _ z => z) ht
  obtain ⟨xs, rfl, hl1, hl2, kk⟩ := kk
  refine wpAny_Slice ?_
  rw [evalPart_some]
  refine wpAny_Constant_int ?_
  rw [evalPart_none]
  refine wpAny_pure (wpAny_pure ?_)
  obtain ⟨a, vs, n, rfl, h1, h4, h5⟩ := VR.inv_tup q
  ·
    have e1 := h5.length
    have e2 : vs.toList.length = vs.size := by simp
    have r2 := R.toks (k := s₁.toks + 1) (r₁.push { cls := .type "slice", data := .fields #[.int (1 : Nat) s₁.toks, .none, .none] })
    have S2 : Step fc st₁.σ st₁.σ s₁.heap (s₁.heap.push { cls := .type "slice", data := .fields #[.int (1 : Nat) s₁.toks, .none, .none] }) := Step.push
    have h1' := Heap.get?_push_of_some { cls := .type "slice", data := .fields #[.int (1 : Nat) s₁.toks, .none, .none] } h1
    refine ⟨⟨_, h1', rfl⟩, ?_⟩
    refine getItem_tuple_from (a := 1) (items := vs) ⟨_, h1', rfl, n, rfl⟩ (Heap.IsSliceOf.new ..) (by omega) (by omega) ?_ (by rw [sizeLine_eq]; omega)
    have r3 := r2.push { cls := .type "tuple", data := .seq (vs.toList.drop 1).toArray }
    have S3 := Step.push (fc := fc) (σ := st₁.σ) (h := s₁.heap.push { cls := .type "slice", data := .fields #[.int (1 : Nat) s₁.toks, .none, .none] }) (o := { cls := .type "tuple", data := .seq (vs.toList.drop 1).toArray })
    have sf2 := r₁.safe (st' := st₁) (s' := { s₁ with heap := _ }) S2
    have sf3 := r2.safe (st' := st₁) (s' := { s₁ with heap := _ }) S3
    refine ⟨.tup (xs.drop 1), st₁, ?_, r3, S.trans (S2.trans S3), kk⟩
    exact .tup (vs := (vs.toList.drop 1).toArray) (Heap.get?_push_size _ rfl) r2.fresh (((h5.safe sf2).safe sf3).drop 1)

/-- what a slice of a text is -/
noncomputable def slStr (x : Str) (l u : Option Int) : Str :=
  if ((Builtin.Str.strSliceIndices l u 1 x.length).length == x.length) = true then x else ⟨((Builtin.Str.strSliceIndices l u 1 x.length).filterMap (x.cps[·]?)).toArray⟩
inductive KSs (K : PV → AS → Prop) (l u : Option Int) (p : PV) (st : AS) : Prop
  | mk (x : Str) (h : p = .str x) (hl : (slStr x l u).length ≤ 10000) (k : K (.str (slStr x l u)) st)
theorem e_slice_str {value : Expr} {lo hi : Option Expr} {l u : Option Int} {p3 pos : Pos} {K : PV → AS → Prop} 
    (h : WE g fc (eval value fc.env) st (KSs K l u) X)
    (hlo : ∀ s Q E, (∀ s' t, s' = { s with toks := s'.toks } → Q (partValue (l.map (·, t))) s') → wpAny g.M fc.A (evalPart lo fc.env) Q E s)
    (hhi : ∀ s Q E, (∀ s' t, s' = { s with toks := s'.toks } → Q (partValue (u.map (·, t))) s') → wpAny g.M fc.A (evalPart hi fc.env) Q E s)
    (ht : ∀ o r, letTemporaryGo value o r = pure () := by intro _ _; rfl) :
    WE g fc (eval (.Subscript value (.Slice lo hi none p3) pos) fc.env) st K X := by
  intro s r
  refine wpAny_Subscript_str_slice ((h s r).use (fun p st₁ v s₁ q r₁ S kk => ?_) fun _ _ z => z) ht
  obtain ⟨x, rfl, hl, kk⟩ := kk
  refine hlo _ _ _ fun s₂ t e2 => hhi _ _ _ fun s₃ t' e3 => ?_
  obtain ⟨tx, rfl⟩ := VR.inv_str q
  ·
    refine ⟨x, tx, l.map (·, t), u.map (·, t'), rfl, rfl, rfl, ?_⟩
    have r2 : R g fc st₁ s₂ := by rw [e2]; exact r₁.toks
    have r3 : R g fc st₁ s₃ := by rw [e3]; exact r2.toks
    have S3 : Step fc st₁.σ st₁.σ s₁.heap s₃.heap := by rw [e3]; show Step fc _ _ _ s₂.heap; rw [e2]; exact Step.refl
    have r4 := r3.push { cls := .type "slice", data := .fields #[partValue (l.map (·, t)), partValue (u.map (·, t')), .none] }
    have S4 := S.trans (S3.trans (Step.push (o := { cls := .type "slice", data := .fields #[partValue (l.map (·, t)), partValue (u.map (·, t')), .none] })))
    have hmap : ∀ (o : Option Int) (tt : Tok), (o.map (·, tt)).map (·.1) = o := fun o tt => by cases o <;> rfl
    unfold sliceMade slicePicked
    simp only [hmap, Option.map_none, Option.getD_none]
    unfold slStr at kk hl
    by_cases c : ((Builtin.Str.strSliceIndices l u 1 x.length).length == x.length) = true
    · rw [if_pos c] at kk hl
      rw [if_pos (by rw [Bool.and_eq_true]; exact ⟨by decide, c⟩)]
      exact Post.from S4 (Post.intro r4 (.str _ _) kk)
    · rw [if_neg c] at kk hl
      rw [if_neg (by rw [Bool.and_eq_true]; exact fun z => c z.2)]
      exact ⟨by rw [sizeLine_eq]; omega, Post.from S4 (Post.toks r4 (.str _ _) kk)⟩
end
end Mine

namespace Mine

section
variable {g : Gx} {fc : Fc} {st : AS} {s : Shared} {X : Int → AS → Prop}

-- more statements
theorem s_expr {e : Expr} {pos : Pos} {K : AF → AS → Prop} (h : WE g fc (eval e fc.env) st (fun _ st₁ => K .next st₁) X) (hi : interactive fc.env = false := by rfl) (hs : swapsWith e none pos.line fc.env = pure false := by rfl) : WS g fc (exec (.Expr e pos) fc.env) st K X :=
  fun s r => wpAny_Expr_any ((h s r).use (fun p st₁ v s₁ q r₁ S k => Post.from S (Post.intro r₁ .next k)) fun _ _ z => z) hi hs
inductive KT2 (B : PV → PV → AS → Prop) (p : PV) (st : AS) : Prop
  | mk (u v : PV) (h : p = .tup [u, v]) (k : B u v st)
inductive KLo (K : PV → AS → Prop) (p : PV) (st : AS) : Prop
  | mk (xs : List PV) (h : p = .tup xs ∨ p = .fl xs) (hl : xs.length ≤ 10000) (k : ∀ a, st.σ a = none → K (.ref a) (st.up a (.lst xs)))
inductive KRf (K : PV → AS → Prop) (p : PV) (st : AS) : Prop
  | mk (n : Nat) (h : p = .int n) (hn : n ≤ 10000) (k : K (.fl (intsTo n)) st)
theorem s_tup2 {x y : Str} {p1 p2 tp pos : Pos} {k : Nat} {value : Expr} {K : AF → AS → Prop} (h : WE g fc (eval value fc.env) st (KT2 fun u v st₁ => K .next ((st₁.sv x u).sv y v)) X)
    (hk : fc.env.kindOf x = some .local ∨ (fc.env.kindOf x = some .cell ∧ fc.wc = true)) (hk2 : fc.env.kindOf y = some .local ∨ (fc.env.kindOf y = some .cell ∧ fc.wc = true))
    (hs : swapsWithSole [.Tuple [.Name x p1, .Name y p2] k tp] value pos.line fc.env = pure false := by rfl)
    (hw : swappedStores [.Tuple [.Name x p1, .Name y p2] k tp] value fc.env = pure none := by rfl)
    (he : assignEach [.Name x p1, .Name y p2] fc.env = [(false, assign (.Name x p1) fc.env), (false, assign (.Name y p2) fc.env)] := by rfl) : WS g fc (exec (.Assign [.Tuple [.Name x p1, .Name y p2] k tp] value pos) fc.env) st K X := by
  intro s r
  refine Assign_Tuple ((h s r).use (fun p st₁ v s₁ q r₁ S k => ?_) fun _ _ z => z) hs hw
  obtain ⟨u, w, rfl, k⟩ := k
  exact (as_tup2 (K := fun st₂ => K .next st₂) k hk hk2 he s₁ v r₁ q).use (fun _ st₂ _ s₂ _ r₂ S₂ k₂ => Post.from (S.trans S₂) (Post.intro r₂ .next k₂)) fun _ _ z => EPost.from S z
theorem s_tup2_swap {x y : Str} {p1 p2 tp pos : Pos} {k : Nat} {value : Expr} {K : AF → AS → Prop} (h : WE g fc (eval value fc.env) st (KT2 fun u v st₁ => K .next ((st₁.sv y v).sv x u)) X)
    (hk : fc.env.kindOf x = some .local ∨ (fc.env.kindOf x = some .cell ∧ fc.wc = true)) (hk2 : fc.env.kindOf y = some .local ∨ (fc.env.kindOf y = some .cell ∧ fc.wc = true))
    (hs : swapsWithSole [.Tuple [.Name x p1, .Name y p2] k tp] value pos.line fc.env = pure false := by rfl)
    (hw : swappedStores [.Tuple [.Name x p1, .Name y p2] k tp] value fc.env = pure (some [x, y]) := by rfl) : WS g fc (exec (.Assign [.Tuple [.Name x p1, .Name y p2] k tp] value pos) fc.env) st K X := by
  intro s r
  refine Assign_Tuple_swapped (names := [x, y]) ((h s r).use (fun p st₁ v s₁ q r₁ S k => ?_) fun _ _ z => z) hs hw
  obtain ⟨u, w, rfl, k⟩ := k
  obtain ⟨a, vs, n, rfl, h1, h4, h5⟩ := VR.inv_tup q
  ·
    have hlen := h5.length
    have hsz : vs.toList.length = vs.size := by simp
    have e2 : [x, y].length = vs.size := by simp at hlen; simp [hlen]
    rw [e2]
    refine wpAny_unpackItems_tuple (items := vs) r₁.ok.hd ⟨_, h1, rfl, n, rfl⟩ fun h' e => ?_
    have kk : ∀ b x, s₁.heap.get? b = some x → h'.get? b = some x := fun b x z => e b x (Nat.ne_of_lt (Heap.lt_size z)) z
    obtain ⟨r', S', sf⟩ := r₁.keeps (tk := s₁.toks) kk
    generalize vs.toList = l at h5
    obtain ⟨v1, l1, rfl, w1, y5⟩ := VRs.inv_cons h5
    obtain ⟨v2, l2, rfl, w2, y6⟩ := VRs.inv_cons y5
    obtain rfl := VRs.inv_nil y6
    ·   
        refine wpAny_bind (wpAny_holding (bindName_ ?_))
        refine (store (K := fun _ st₂ => st₂ = st₁.sv y w) (X := X) r' (w2.safe sf) hk2 rfl).use (fun _ st₂ _ s₂ _ r₂ S₂ k₂ => ?_) fun _ _ z => EPost.from (S.trans S') z
        subst k₂
        refine wpAny_bind (wpAny_holding (bindName_ ?_))
        refine (store (K := fun _ st₃ => K .next st₃) (X := X) r₂ ((w1.safe sf).safe (r'.safe S₂)) hk k).use (fun _ st₃ _ s₃ _ r₃ S₃ k₃ => ?_) fun _ _ z => EPost.from (S.trans (S'.trans S₂)) z
        exact wpAny_pure ⟨.next, st₃, .next, r₃, S.trans (S'.trans (S₂.trans S₃)), k₃⟩

-- list(...)
theorem e_list_of {e : Expr} {p1 pos : Pos} {K : PV → AS → Prop} (G : g.Ok) (hx : fc.env.kindOf "list" = some .globalImplicit)
    (h : WE g fc (eval e fc.env) st (KLo K) X) (he : starEach [e] fc.env = [(false, eval e fc.env)] := by rfl) : WE g fc (eval (.Call (.Name "list" p1) [e] [] pos) fc.env) st K X := by
  intro s r
  refine Call_ (name_boot G r (n_list _) PyProof.Rows.Boot.«list» (by decide) hx ?_)
  refine PyProof.Rows.callWith_type1 ?_ he
  have hb : backTo pos (starEach [e] fc.env) = [(false, eval e fc.env)] := by rw [he]; rfl
  rw [hb]
  refine Calls.spliced_cons ((h s r).use (fun q st₁ v s₁ w r₁ S k => ?_) fun _ _ z => z)
  refine Calls.spliced_nil ?_
  obtain ⟨xs, hx, hl, k⟩ := k
  have key : ∃ a T vs n, v = .ref a ∧ (T = "list" ∨ T = "tuple") ∧ s₁.heap.get? a = some { cls := .type T, data := .seq vs n } ∧ VRs st₁.σ s₁.heap xs vs.toList := by
    rcases hx with rfl | rfl
    · cases w with | tup h1 h4 h5 => exact ⟨_, _, _, _, rfl, .inr rfl, h1, h5⟩
    · cases w with | fl h1 h4 h5 => exact ⟨_, _, _, _, rfl, .inl rfl, h1, h5⟩
  obtain ⟨a, T, vs, n, rfl, hT, ho, hv⟩ := key
  have e1 := hv.length
  have e2 : vs.toList.length = vs.size := by simp
  refine call_list_seq a hT ho rfl rfl (fun h' c' kk hn => ?_) (by rw [sizeLine_eq]; omega)
  have z := r₁.newK (tk := s₁.toks) (mo := .lst xs) kk (Nat.le_refl _) (fun σ' ss => ⟨vs, ⟨c', hn⟩, hv.safe ss⟩)
  exact ⟨.ref _, _, .ref _, z.1, S.trans z.2.1, k _ z.2.2⟩
theorem e_list_range {e : Expr} {p1 p2 p3 pos : Pos} {K : PV → AS → Prop} (G : g.Ok) (hx : fc.env.kindOf "list" = some .globalImplicit) (hx2 : fc.env.kindOf "range" = some .globalImplicit)
    (h : WE g fc (eval e fc.env) st (KRf K) X) (he : starEach [e] fc.env = [(false, eval e fc.env)] := by rfl)
    (he2 : starEach [.Call (.Name "range" p2) [e] [] p3] fc.env = [(false, eval (.Call (.Name "range" p2) [e] [] p3) fc.env)] := by rfl) : WE g fc (eval (.Call (.Name "list" p1) [.Call (.Name "range" p2) [e] [] p3] [] pos) fc.env) st K X := by
  intro s r
  refine Call_ (name_boot G r (n_list _) PyProof.Rows.Boot.«list» (by decide) hx ?_)
  refine PyProof.Rows.callWith_type1 ?_ he2
  have hb2 : backTo pos (starEach [.Call (.Name "range" p2) [e] [] p3] fc.env) = [(false, eval (.Call (.Name "range" p2) [e] [] p3) fc.env)] := by rw [he2]; rfl
  rw [hb2]
  refine Calls.spliced_cons ?_
  refine Call_ (name_boot G r (n_range _) PyProof.Rows.Boot.«range» (by decide) hx2 ?_)
  refine PyProof.Rows.callWith_type1 ?_ he
  have hb : backTo p3 (starEach [e] fc.env) = [(false, eval e fc.env)] := by rw [he]; rfl
  rw [hb]
  refine Calls.spliced_cons ((h s r).use (fun q st₁ v s₁ w r₁ S k => ?_) fun _ _ z => z)
  refine Calls.spliced_nil ?_
  obtain ⟨n, rfl, hn, k⟩ := k
  obtain ⟨t, rfl⟩ := VR.inv_int w
  ·
    refine call_range_1 (Calls.spliced_nil ?_)
    have r2 := R.toks (k := s₁.toks + 1 + 1) (r₁.push { cls := .type "range", data := .fields #[.int 0 s₁.toks, .int n t, .int 1 (s₁.toks + 1)] })
    have S2 : Step fc st₁.σ st₁.σ s₁.heap (s₁.heap.push { cls := .type "range", data := .fields #[.int 0 s₁.toks, .int n t, .int 1 (s₁.toks + 1)] }) := Step.push
    have hz : Builtin.Range.rangeSize 0 (n : Int) 1 = (n : Nat) := by rw [rangeSize_one]; split <;> omega
    refine call_list_range (a := 0) (b := n) (c := 1) (t := s₁.toks) (u := t) (v := s₁.toks + 1) (n := n) r₁.ok.hd (Heap.get?_push_size _ rfl) (small_one (by omega) (by omega) (by omega) (by omega)) hz (by omega) ?_
    intro h' tk acc' c' kk hn' hi
    have z := r2.newK (tk := tk) (mo := .lst (intsTo n)) kk (Nat.le_refl _) (fun σ' ss => ⟨acc', ⟨c', hn'⟩, intsTo_rel hi⟩)
    obtain ⟨f1, f2, f3⟩ := z.1.freeze (xs := intsTo n) (a := (s₁.heap.push { cls := .type "range", data := .fields #[.int 0 s₁.toks, .int n t, .int 1 (s₁.toks + 1)] }).objs.size) upd_self
    have ed : del (upd st₁.σ (s₁.heap.push { cls := .type "range", data := .fields #[.int 0 s₁.toks, .int n t, .int 1 (s₁.toks + 1)] }).objs.size (.lst (intsTo n))) (s₁.heap.push { cls := .type "range", data := .fields #[.int 0 s₁.toks, .int n t, .int 1 (s₁.toks + 1)] }).objs.size = st₁.σ := del_upd z.2.2
    have S3 := z.2.1.trans f2
    change R g fc { st₁ with σ := del (upd _ _ _) _ } _ at f1
    rw [ed] at f1 f3 S3
    exact ⟨.fl _, st₁, f3, f1, S.trans (S2.trans S3), k⟩

-- «told += [...]»
theorem iadd_ll {a : Addr} {xs ys : List PV} {K : PV → AS → Prop} (ha : st.σ a = some (.lst xs)) (hl : xs.length + ys.length ≤ 10000) (h : K (.ref a) (st.up a (.lst (xs ++ ys)))) : On2 g fc (inplaceOp .Add) (.ref a) (.fl ys) st K X := by
  intro s v1 v2 r q1 vb
  obtain rfl := VR.inv_ref q1
  obtain ⟨vs, ⟨n, hp⟩, hv⟩ := (r.sto a _ ha).2
  obtain ⟨b, us, m, rfl, k1, k4, k5⟩ := VR.inv_fl vb
  ·
    have e1 := hv.length
    have e2 := k5.length
    have z1 : vs.toList.length = vs.size := by simp
    have z2 : us.toList.length = us.size := by simp
    unfold inplaceOp
    refine wpAny_holding ?_
    have hfi : fillsInplaceSlot (.type "list") "add" (Operator.Add == .Add) = pure false := by
      unfold fillsInplaceSlot
      show (typeLookup (.type "list") (dunderI "add") >>= fun fi => pure (fi.isSome && !isSeqSlot fi)) = pure false
      rw [F.slot_list_iadd.lookup]
      show (pure ((some (Value.builtin "list.__iadd__")).isSome && !isSeqSlotId "list.__iadd__") : Sem Bool) = pure false
      rw [show isSeqSlotId "list.__iadd__" = true from by decide +kernel]; rfl
    have hT : s.TypeIs (.ref a) "list" := ⟨_, hp, rfl⟩
    refine wpAny_bind (wpAny_typeOf hT (wpAny_bind (wpAny_of_eq hfi ?_)))
    show wpAny _ _ (if false = true then _ else _) _ _ s
    rw [if_neg Bool.false_ne_true]
    refine wpAny_bind (wpAny_binaryOp1_none (nm := "add") hT ⟨_, k1, rfl⟩ PySem.noFill_list_add ?_)
    refine wpAny_bind (wpAny_of_eq (PySem.seqSlot_of F.slot_list_iadd.lookup (by decide +kernel)) ?_)
    refine wpAny_bind (wpAny_rule ?_)
    refine call_meets F.slot_list_iadd hT PySem.F.entry_list_iadd (F.args_list_iadd_2 _ _) (AutoSeq1.list___iadd___list_list_0 a vs n b us m ?_ (by rw [sizeLine_eq]; omega) (by rw [sizeLine_eq]; omega)) ⟨hp, k1, ?_⟩
    · intro z
      rw [Bool.and_eq_true] at z
      have := z.2
      unfold Builtin.List.listTooLong at this
      rw [sizeLine_eq] at this
      have := of_decide_eq_true this
      omega
    · obtain ⟨r3, S3, sf⟩ := r.setL (f := fun x => x ++ us) (ys := xs ++ ys) (tk := s.toks) ha ⟨n, hp⟩ (fun σ' h' ss => by rw [Array.toList_append]; exact (hv.safe ss).append (k5.safe ss))
      exact Post.from S3 (Post.intro (p := .ref a) r3 (.ref a) h)
theorem s_aug_name {x : Str} {e : Expr} {op : Operator} {p pos : Pos} {px : PV} {K : AF → AS → Prop} (hx : st.m x = some px)
    (h : WE g fc (eval e fc.env) st (fun pe st₁ => st₁.m x = some px ∧ On2 g fc (inplaceOp op) px pe st₁ (fun q st₂ => K .next (st₂.sv x q)) X) X) (hk : fc.env.kindOf x = some .local) (hd : (x == ("__debug__" : Str)) = false := by decide) : WS g fc (exec (.AugAssign (.Name x p) op e pos) fc.env) st K X := by
  intro s r
  obtain ⟨mV, hn, hb⟩ := r.loc
  rcases hb x _ hx with ⟨_, v, hv, q⟩ | ⟨kc, _⟩
  · refine wpAny_AugAssign_Name (wpAny_loadName_local r.ok.kind hk hn hv ?_)
    refine (h s r).use (fun pe st₁ w s₁ qe r₁ S k => ?_) fun _ _ z => z
    obtain ⟨_, k⟩ := k
    refine (k s₁ v w r₁ (q.safe (r.safe S)) qe).use (fun q st₂ u s₂ qu r₂ S₂ k₂ => ?_) fun _ _ z => EPost.from S z
    exact (store r₂ qu (.inl hk) (K := fun _ st₃ => K .next st₃) k₂).use (fun _ st₃ _ s₃ _ r₃ S₃ k₃ => Post.from (S.trans (S₂.trans S₃)) (Post.intro r₃ .next k₃)) fun _ _ z => EPost.from (S.trans S₂) z
  · rw [hk] at kc; cases kc

-- comparing
theorem VRs.mem {σ : Store} {h : Heap} {ps : List PV} {vs : List Value} (x : VRs σ h ps vs) : ∀ v ∈ vs, ∃ p ∈ ps, VR σ h p v :=
  VRs.ind (P := fun ps vs => ∀ v ∈ vs, ∃ p ∈ ps, VR σ h p v) (fun _ m => absurd m List.not_mem_nil) (fun y ys v vs a _ ih u m => by
    rcases List.mem_cons.mp m with e | m
    · exact ⟨y, .head _, e ▸ a⟩
    · obtain ⟨p, hp, q⟩ := ih u m
      exact ⟨p, .tail _ hp, q⟩) x
theorem cmp_notin_fl {xs : List PV} {x : Str} {ks : List Str} {K : PV → AS → Prop} (hk : xs = ks.map .str) (h : K (.bool (!ks.contains x)) st) : On2 g fc (compareOp .NotIn) (.str x) (.fl xs) st K X := by
  subst hk
  intro s v1 v2 r q1 vb
  obtain ⟨tx, rfl⟩ := VR.inv_str q1
  obtain ⟨b, us, m, rfl, k1, k4, k5⟩ := VR.inv_fl vb
  ·
    refine SeqAt.notIn_listAt (items := us) (fun y => match y with | .str z _ => z == x | _ => false) ⟨_, k1, rfl, m, rfl⟩ (fun y hy => ?_) ?_
    · obtain ⟨p, hp, q⟩ := k5.mem y (by simpa using hy)
      obtain ⟨z, _, rfl⟩ := List.mem_map.mp hp
      obtain ⟨_, rfl⟩ := VR.inv_str q
      exact SeqAt.EqAt.str_str _ _ _ _
    · have key : ∀ (l : List Value) (ks : List Str), VRs st.σ s.heap (ks.map .str) l → (l.any fun y => match y with | .str z _ => z == x | _ => false) = ks.contains x := by
        intro l
        induction l with
        | nil => intro ks r; cases ks with
          | nil => rfl
          | cons k ks => obtain ⟨_, _, e, _, _⟩ := VRs.inv_cons r; cases e
        | cons v l ih => intro ks r; cases ks with
          | nil => have e := VRs.inv_nil r; cases e
          | cons k ks =>
            obtain ⟨_, _, e, a, b⟩ := VRs.inv_cons r
            obtain ⟨rfl, rfl⟩ := List.cons.inj e
            obtain ⟨_, rfl⟩ := VR.inv_str a
            ·
              rw [List.any_cons, ih ks b, List.contains_cons]
              by_cases q : k = x
              · subst q; simp
              · rw [beq_eq_false_iff_ne.mpr (Ne.symm q)]; show ((k == x) || _) = _; rw [beq_eq_false_iff_ne.mpr q]
      have e : (us.any fun y => match y with | .str z _ => z == x | _ => false) = ks.contains x := by
        rw [← Array.any_toList]; exact key _ ks k5
      rw [e]
      exact Post.intro r (.bool _) h

/-- a value as plain data -/
noncomputable def Vw (st : AS) (p q : PV) : Prop := p = q ∨ ∃ a xs, p = .ref a ∧ st.σ a = some (.lst xs) ∧ q = .fl xs
theorem Vw.reads {p q : PV} {v : Value} (x : Vw st p q) (r : R g fc st s) (w : VR st.σ s.heap p v) (hc : q.clean = true) : ∃ as, Reads s.heap v q.D as := by
  rcases x with rfl | ⟨a, xs, rfl, ha, rfl⟩
  · exact w.reads hc
  · cases w
    exact (r.freeze ha).2.2.reads hc
theorem cmp_eq_v {p q p' q' : PV} {K : PV → AS → Prop} (vp : Vw st p p') (vq : Vw st q q') (hp : p'.ok = true) (hq : q'.ok = true) (h : K (.bool (p'.eq q')) st) : On2 g fc (compareOp .Eq) p q st K X := by
  intro s a b r va vb
  obtain ⟨as, ra⟩ := vp.reads r va (PV.ok_clean hp)
  obtain ⟨bs, rb⟩ := vq.reads r vb (PV.ok_clean hq)
  exact eq_dataH ra rb (PV.ok_shaped hp) (PV.ok_shaped hq) (by have := r.ok.uni; show fc.A.units + 64 < 9900; omega) (Post.intro r (.bool _) h)
theorem cmp_ne_v {p q p' q' : PV} {K : PV → AS → Prop} (vp : Vw st p p') (vq : Vw st q q') (hp : p'.ok = true) (hq : q'.ok = true) (h : K (.bool (!p'.eq q')) st) : On2 g fc (compareOp .NotEq) p q st K X := by
  intro s a b r va vb
  obtain ⟨as, ra⟩ := vp.reads r va (PV.ok_clean hp)
  obtain ⟨bs, rb⟩ := vq.reads r vb (PV.ok_clean hq)
  exact ne_dataH ra rb (PV.ok_shaped hp) (PV.ok_shaped hq) (by have := r.ok.uni; show fc.A.units + 64 < 9900; omega) (Post.intro r (.bool _) h)

/-- dicts: the same keys with like values -/
noncomputable def likeD (ea eb : List (Str × PV)) : Prop := ea.length = eb.length ∧ ∀ k p, (k, p) ∈ ea → ∃ q, at? eb k = some q ∧ p.ok = true ∧ q.ok = true ∧ p.eq q = true
theorem like_hits {ea eb : List (Str × PV)} {kb : List (Str × Value)} (r : R g fc st s) (hb : kb.map (·.1) = eb.map (·.1)) (vb : VRs st.σ s.heap (eb.map (·.2)) (kb.map (·.2))) (hl : ∀ k p, (k, p) ∈ ea → ∃ q, at? eb k = some q ∧ p.ok = true ∧ q.ok = true ∧ p.eq q = true) :
    ∀ {ea' : List (Str × PV)} {ka : List (Str × Value)}, (∀ x ∈ ea', x ∈ ea) → ka.map (·.1) = ea'.map (·.1) → VRs st.σ s.heap (ea'.map (·.2)) (ka.map (·.2)) → KeqHits fc.A.in1 s kb ka true
  | [], [], _, _, _ => .nil
  | [], _ :: _, _, e, _ => by simp at e
  | _ :: _, [], _, e, _ => by simp at e
  | (x, p) :: ea', (y, v) :: ka, hsub, e, w => by
    simp only [List.map_cons, List.cons.injEq] at e
    obtain ⟨rfl, e⟩ := e
    simp only [List.map_cons] at w
    cases w with
    | cons w1 w2 =>
      obtain ⟨q, hq, op, oq, eq⟩ := hl _ _ (hsub _ (.head _))
      have z := valueAt_rel hb vb y
      rw [hq] at z
      obtain ⟨u, hu, qu⟩ := z
      obtain ⟨as, ra⟩ := w1.reads (PV.ok_clean op)
      obtain ⟨bs, rb⟩ := qu.reads (PV.ok_clean oq)
      have ih := like_hits r hb vb hl (fun x m => hsub x (.tail _ m)) e w2
      have at1 := keq_at (A := fc.A) (s := s) ra rb (PV.ok_shaped op) (PV.ok_shaped oq) (by have := r.ok.uni; show fc.A.units + 1 + 64 < 9900; omega)
      have : PyData.eqv p.D q.D = true := eq
      rw [this] at at1
      exact KeqHits.hit (e := true) (b := true) hu at1 ih
theorem cmp_eq_dd {a b : Addr} {ea eb : List (Str × PV)} {K : PV → AS → Prop} (lim : g.h0.NoLimit) (ha : st.σ a = some (.dct ea)) (hb : st.σ b = some (.dct eb)) (hl : likeD ea eb) (h : K (.bool true) st) : On2 g fc (compareOp .Eq) (.ref a) (.ref b) st K X := by
  intro s v1 v2 r q1 q2
  (first | obtain rfl := VR.inv_ref q1 | obtain ⟨_, rfl⟩ := VR.inv_int q1 | obtain ⟨_, rfl⟩ := VR.inv_str q1 | obtain rfl := VR.inv_bool q1 | obtain rfl := VR.inv_none q1)
  (first | obtain rfl := VR.inv_ref q2 | obtain ⟨_, rfl⟩ := VR.inv_int q2 | obtain ⟨_, rfl⟩ := VR.inv_str q2 | obtain rfl := VR.inv_bool q2 | obtain rfl := VR.inv_none q2)
  obtain ⟨ka, da, ka1, va⟩ := (r.sto a _ ha).2
  obtain ⟨kb, db, kb1, vb⟩ := (r.sto b _ hb).2
  have l1 : ka.length = ea.length := by have := congrArg List.length ka1; simpa using this
  have l2 : kb.length = eb.length := by have := congrArg List.length kb1; simpa using this
  refine keq_eq (knd := strKind g.prog g.w) (r := true) (DictNe r lim ha) (DictNe r lim hb) da db (by have := r.ok.uni; show fc.A.units < 9900; omega) (fun _ => like_hits r kb1 vb hl.2 (fun _ m => m) ka1 va) ?_
  have : (ka.length == kb.length && true) = true := by rw [l1, l2, hl.1]; simp
  rw [this]; exact Post.intro r (.bool _) h
theorem cmp_ne_dd {a b : Addr} {ea eb : List (Str × PV)} {K : PV → AS → Prop} (lim : g.h0.NoLimit) (ha : st.σ a = some (.dct ea)) (hb : st.σ b = some (.dct eb)) (hl : likeD ea eb) (h : K (.bool false) st) : On2 g fc (compareOp .NotEq) (.ref a) (.ref b) st K X := by
  intro s v1 v2 r q1 q2
  (first | obtain rfl := VR.inv_ref q1 | obtain ⟨_, rfl⟩ := VR.inv_int q1 | obtain ⟨_, rfl⟩ := VR.inv_str q1 | obtain rfl := VR.inv_bool q1 | obtain rfl := VR.inv_none q1)
  (first | obtain rfl := VR.inv_ref q2 | obtain ⟨_, rfl⟩ := VR.inv_int q2 | obtain ⟨_, rfl⟩ := VR.inv_str q2 | obtain rfl := VR.inv_bool q2 | obtain rfl := VR.inv_none q2)
  obtain ⟨ka, da, ka1, va⟩ := (r.sto a _ ha).2
  obtain ⟨kb, db, kb1, vb⟩ := (r.sto b _ hb).2
  have l1 : ka.length = ea.length := by have := congrArg List.length ka1; simpa using this
  have l2 : kb.length = eb.length := by have := congrArg List.length kb1; simpa using this
  refine keq_ne (knd := strKind g.prog g.w) (r := true) (DictNe r lim ha) (DictNe r lim hb) da db (by have := r.ok.uni; show fc.A.units < 9900; omega) (fun _ => like_hits r kb1 vb hl.2 (fun _ m => m) ka1 va) ?_
  have : (ka.length == kb.length && true) = true := by rw [l1, l2, hl.1]; simp
  rw [this]; exact Post.intro r (.bool _) h
end
end Mine

namespace Mine

noncomputable abbrev Flt : List Value := [.ref 31, .type "Exception", .type "BaseException", .type "object"]
/-- the class CheckFault as it stands -/
inductive IsFault (h : Heap) : Prop
  | mk (nm q : Str) (bs : List Value) (hd : Bool) (sn : List Str) (sub : List Value) (ab : Bool) (col : Option Bool) (dd : Option Addr) (k0 k1 k2 k3 k5 : Option Value) (hC : h.get? 51 = some (excClassObj nm q 51 50 bs Flt hd sn sub ab col dd k0 k1 k2 k3 k5 "Exception.__new__"))
theorem isFault_of {P : Params} {h : Heap} (X : (KF P).In h) : IsFault h := ⟨_, _, _, _, _, _, _, _, _, _, _, _, _, _, X 51 _ rfl⟩

section
variable {prog : Program} {w : World} {A : Around} {E : Value → Shared → Prop} {h : Heap} {g : Array GenState} {d : Drawn} {t : Nat} {os : OsState}

theorem fault_check {rest : List Value} {Q : Unit → Shared → Prop} (hC : IsFault h) (hq : Q () ⟨h, g, d, t, os⟩) : wpAny (model prog w) A (checkBuiltinCall "Exception.__new__" ⟨.ref 51 :: rest, []⟩) Q E ⟨h, g, d, t, os⟩ := by
  obtain ⟨nm, q, bs, hd, sn, sub, ab, col, dd, k0, k1, k2, k3, k5, hC⟩ := hC
  have fb := PySem.F.excBase_Exception
  have has : (Value.ref 51 :: Flt).contains (.type "Exception") = true := by decide +kernel
  have ns := fb.noStar
  simp only [checkBuiltinCall, fb.newKind, fb.newSplit, fb.newRow]
  repeat (first | refine wpAny_loadPart_at hC ?_ | (refine wpAny_isSubtype_exc hC ?_; rw [has]) | refine wpAny_staticBase_exc hC ?_ | refine wpAny_madeBy_exc hC ?_ | simp only [bne_self_eq_false, Bool.false_eq_true, if_false] | wp_step)
  exact hq

theorem fault_new {R : Result → Shared → Prop} {rest : List Value} (hC : IsFault h) (hr : rest.length ≤ 1000)
    (hq : R (.ok (.ret (.ref (h.objs.size + 1)))) ⟨(h.push { cls := .type "tuple", data := .seq rest.toArray }).push { cls := .ref 51, data := .fields #[.ref h.objs.size, .none, .none, .none, .bool false, .none] }, g, d, t, os⟩) :
    codeAny (model prog w) A (.builtin "Exception.__new__" ⟨.ref 51 :: rest, []⟩) R ⟨h, g, d, t, os⟩ := by
  obtain ⟨nm, q, bs, hd, sn, sub, ab, col, dd, k0, k1, k2, k3, k5, hC⟩ := hC
  have fb := PySem.F.excBase_Exception
  have ends := fb.ends
  have hrest : rest.length ≤ sizeLine := by rw [sizeLine_eq]; omega
  have c1 : (Value.ref 51 :: Flt).contains (.type "Exception") = true := by decide +kernel
  have c2 : (Value.ref 51 :: Flt).contains (.type "AttributeError") = false := by decide +kernel
  have c3 : (Value.ref 51 :: Flt).contains (.type "NameError") = false := by decide +kernel
  refine PySem.codeAny_builtinAt fb.entry ?_
  unfold Builtin.«BaseException.__new__»
  refine PySem.wpAt_bind ?_
  show PySem.wpAt _ _ _ (stack >>= _) _ _ _
  refine PySem.wpAt_bind (PySem.wpAt_stack fun p below => PySem.wpAt_of_wpAny ?_)
  wp_walk
  refine PySem.wpAt_of_wpAny ?_
  rw [fb.owner]
  repeat (first | with_reducible refine wpAny_madeHere_exc fb.canon hC ?_ | with_reducible refine wpAny_loadPart_at hC ?_ | (with_reducible refine wpAny_isSubtype_exc hC ?_; first | rw [c1] | rw [c2] | rw [c3]) | wp_step)
  show R _ _
  rw [Heap.size_push]
  exact hq

theorem fault_make {P : Params} {rest : List Value} {Q : Fin → Shared → Prop} (X : (KF P).In h) (hr : rest.length ≤ 1000)
    (hq : ∀ h' e, Heap.MadeExcOf h h' e (.ref 51) rest → wpAny (model prog w) A (call (.ref 48) (.ref e :: rest)) (fun r s' => r = .none ∧ Q (.done (.ret (.ref e))) s') E ⟨h', g, d, t, os⟩) :
    wpAny (model prog w) A (Builtin.«type.__call__» ⟨.ref 51 :: rest, []⟩) Q E ⟨h, g, d, t, os⟩ := by
  have hF := isFault_of X
  have hF0 := hF
  obtain ⟨nm, q, bs, hd, sn, sub, ab, col, dd, k0, k1, k2, k3, k5, hC⟩ := hF
  repeat (first | with_reducible refine wpAny_loadPart_at hC ?_ | with_reducible refine wpAny_madeBy_exc hC ?_ | wp_step)
  refine codeAny_call_builtin_code (Code.quiet_builtin _ PySem.F.excBase_Exception.quiet) (fault_check hF0 ?_)
  refine fault_new hF0 hr ?_
  show wpAny _ _ _ _ _ _
  have grow : ∀ b o, h.get? b = some o → ((h.push { cls := .type "tuple", data := .seq rest.toArray }).push { cls := .ref 51, data := .fields #[.ref h.objs.size, .none, .none, .none, .bool false, .none] }).get? b = some o :=
    fun b o e => Heap.get?_push_of_some _ (Heap.get?_push_of_some _ e)
  have X1 := X.keeps grow
  have hC1 := grow _ _ hC
  have here : ((h.push { cls := .type "tuple", data := .seq rest.toArray }).push { cls := .ref 51, data := .fields #[.ref h.objs.size, .none, .none, .none, .bool false, .none] }).get? (h.objs.size + 1) = some { cls := .ref 51, data := .fields #[.ref h.objs.size, .none, .none, .none, .bool false, .none] } := by heap_get
  have self : (Value.ref 51 :: Flt).contains (.ref 51) = true := by simp
  unfold isInstance
  repeat (first | with_reducible refine wpAny_loadPart_at here ?_ | (with_reducible refine wpAny_isSubtype_exc hC1 ?_; rw [self]) | wp_step)
  refine (looks_findIn X1 (show findIn (KF P) (.ref 51) "__init__" = some (some (.ref 48)) by kernel_rfl)).at ?_
  refine wpAny_holding (wpAny_bind ((bind_fn X1 _ (show typeIn (KF P) (.ref 48) = some (.type "function") by kernel_rfl)).at ?_))
  refine wpAny_bind (wpAny_mono (hq _ (h.objs.size + 1) ⟨grow, Heap.get?_none_of_le (Nat.le_succ _), h.objs.size, here, Heap.get?_none_of_le (Nat.le_refl _), Heap.get?_push_of_some _ (Heap.get?_push_at rfl rfl)⟩) (fun r s' hr => ?_) fun _ _ x => x)
  obtain ⟨rfl, hQ⟩ := hr
  wp_walk
  exact hQ
theorem fault_call {P : Params} {rest : List Value} {Q : Value → Shared → Prop} (X : (KF P).In h) (hr : rest.length ≤ 1000)
    (hq : ∀ h' e, Heap.MadeExcOf h h' e (.ref 51) rest → wpAny (model prog w) (A.under (.builtin "type.__call__" ⟨.ref 51 :: rest, []⟩)) (call (.ref 48) (.ref e :: rest)) (fun r s' => r = .none ∧ Q (.ref e) s') E ⟨h', g, d, t, os⟩) :
    wpAny (model prog w) A (call (.ref 51) rest) Q E ⟨h, g, d, t, os⟩ := by
  obtain ⟨nm, q, bs, hd, sn, sub, ab, col, dd, k0, k1, k2, k3, k5, hC⟩ := isFault_of X
  have f1 := tc_lookup
  have f2 := tc_bind (.ref 51)
  have hT : (⟨h, g, d, t, os⟩ : Shared).TypeIs (.ref 51) "type" := ⟨_, hC, rfl⟩
  refine wpAny_call (codeAny_of_tree ?_)
  show wpAny _ _ (callAny (.ref 51) _) _ _ _
  repeat (any_goals (first | assumption | with_reducible refine wpAny_loadPart_at hC ?_ | wp_step))
  refine ⟨rfl, ?_⟩
  exact codeAny_call_builtin_at (Code.quiet_builtin _ (by decide +kernel)) entry_typeCall (wpAny_check_type_call_sub hC (fault_make X hr hq))
end
end Mine

namespace Mine

theorem refuse51 (self : Value) : refuseLoop self "__setattr__" (.ref 51 :: Flt) = pure () := by
  rw [refuseLoop_ref, refuseLoop_ref]
  kernel_rfl

section
variable {prog : Program} {w : World} {A : Around} {E : Value → Shared → Prop} {R : Result → Shared → Prop} {s : Shared} {P : Params} {x : Addr} {ox : Obj} {od : Option Obj} {name : Str} {tk : Tok} {v : Value}

theorem set51_open (X : (KF P).In s.heap) (I : InstAt s.heap x ox 51 od) (hn : findIn (KF P) (.ref 51) name = some none)
    (h : wpAny (model prog w) A.in1 (Builtin.ObjectAttr.storeInOwnDict (.ref x) (.ref 51) (.str name tk) name v false)
      (fun fin s' => match fin with | .done f => R (.ok f) s' | .again c' => c'.quiet = true ∧ codeAny (model prog w) A c' R s') (fun e s' => R (.error e) s') s) :
    codeAny (model prog w) A (.call (.builtin "object.__setattr__") ⟨[.ref x, .str name tk, v], []⟩) R s := by
  have SF := PySem.F.store_object
  have hc : ∃ cd, clsIn (KF P) 51 = some cd ∧ cd.mro = .ref 51 :: Flt := ⟨_, rfl, rfl⟩
  obtain ⟨cd, hc, hm⟩ := hc
  have sub : Looks (model prog w) s.heap (isInstance (.ref x) (.type "object")) true := I.type.andThen (looks_mroIn X (by unfold mroIn; rw [hc, Option.bind_some, hm]; rfl))
  refine codeAny_call_builtin SF.slot.plain SF.entry (@check_slot (model prog w) _ _ s "object.__setattr__" "object" "__setattr__" (.ref x) [.str name tk, v] [] _ SF.kind SF.split sub (SF.args (.ref x) (.str name tk) v) ?_)
  have hml : Looks (model prog w) s.heap (mroOf (.ref 51)) cd.mro := (looks_clsIn X hc).andThen .now
  rw [osa_eq, refuse_eq]
  refine wpAny_bind (wpAny_bind (I.type.here (wpAny_bind (hml.here ?_))))
  rw [hm, refuse51]
  refine wpAny_pure (wpAny_bind (I.type.here (wpAny_bind ((looks_findIn X hn).here (wpAny_bind (wpAny_pure ?_))))))
  exact h

theorem store_d {d : Addr} {es : List DictEntry} {n : Nat} {Q : Fin → Shared → Prop} (D : s.heap.get? d = some (dictOf es n)) (hr : es.any (·.refKey) = false) (hz : es.length ≤ 1000)
    (h : ∀ h' hsh, Heap.SameBut d s.heap h' → h'.get? d = some (dictOf (putL name hsh (.str name s.toks) v es) (putN name es n)) → Q (.done (.ret .none)) { s with heap := h', toks := s.toks + 1 }) :
    wpAny (model prog w) A (Builtin.ObjectAttr.storeInDict d (.str name tk) name v) Q E s := by
  have hp := putName_dict name (PyData.keyHash w.params name) (.str name s.toks) v es n
  have D' : (s.heap.update d (Obj.putName name (PyData.keyHash w.params name) (.str name s.toks) v)).get? d = some (dictOf (putL name (PyData.keyHash w.params name) (.str name s.toks) v es) (putN name es n)) := by
    rw [Heap.get?_update_self _ D (by rw [hp]; rfl), hp]
  have len : ∀ (es : List DictEntry) (a : Int) (b c : Value), (putL name a b c es).length ≤ es.length + 1 := by
    intro es a b c
    induction es with
    | nil => simp [putL]
    | cons e es ih => unfold putL; split <;> simp_all
  refine wpAny_bind (wpAny_pure (wpAny_bind ?_))
  unfold nsSet
  refine wpAny_bind (wpAny_bind (wpAny_askSetting (wpAny_pure (wpAny_bind (wpAny_mkText (wpAny_bind (wpAny_loadPart D ?_)))))))
  have c : (!es.toArray.any (·.key.isStr name) && es.toArray.any (·.refKey)) = false := by
    have : es.toArray.any (·.refKey) = es.any (·.refKey) := by rw [← Array.any_toList]
    rw [this, hr, Bool.and_false]
  dsimp only
  rw [aRefKeyMayBeTheName_at, c]
  refine wpAny_updatePart D ?_
  refine wpAny_bind (wpAny_lookBehind D' (pastItsLine_dict (by have := len es (PyData.keyHash w.params name) (.str name s.toks) v; rw [List.size_toArray, sizeLine_eq]; omega)) ?_)
  exact wpAny_pure (h _ _ (Heap.SameBut.update ..) D')

theorem set51_mk {vs : Array Value} (X : (KF P).In s.heap) (he : s.heap.get? x = some { cls := .ref 51, data := .fields vs }) (hn : findIn (KF P) (.ref 51) name = some none)
    (h : ∀ h' tk hsh t, (∀ b o, b ≠ x → s.heap.get? b = some o → h'.get? b = some o) → h'.get? x = some { cls := .ref 51, dict := some s.heap.objs.size, data := .fields vs } → h'.get? s.heap.objs.size = some (dictOf [⟨hsh, .str name t, v⟩] 1) → R (.ok (.ret .none)) { s with heap := h', toks := tk }) :
    codeAny (model prog w) A (.call (.builtin "object.__setattr__") ⟨[.ref x, .str name tk, v], []⟩) R s := by
  have I : InstAt s.heap x { cls := .ref 51, data := .fields vs } 51 none := ⟨he, rfl, rfl, trivial⟩
  refine set51_open X I hn ?_
  have hc : ∃ cd, clsIn (KF P) 51 = some cd ∧ cd.hasDict = true := ⟨_, rfl, rfl⟩
  obtain ⟨cd, hc, hd⟩ := hc
  refine wpAny_bind (wpAny_pure (wpAny_bind (wpAny_bind (wpAny_loadPart he (wpAny_bind ((looks_clsIn X hc).here ?_))))))
  rw [hd]
  have he1 := Heap.get?_push_of_some { cls := .type "dict", data := .dict #[] } he
  refine wpAny_bind (wpAny_alloc (wpAny_bind (wpAny_update he1 (wpAny_pure ?_))))
  have ne : x ≠ s.heap.objs.size := Nat.ne_of_lt (Heap.lt_size he)
  have D : ((s.heap.push { cls := .type "dict", data := .dict #[] }).update x fun o => { o with dict := some s.heap.objs.size }).get? s.heap.objs.size = some (dictOf [] 0) :=
    (Heap.get?_update_other _ _ ne).trans (Heap.get?_push_size _ rfl)
  refine store_d (s := { s with heap := (s.heap.push { cls := .type "dict", data := .dict #[] }).update x fun o => { o with dict := some s.heap.objs.size } }) D rfl (by simp) fun h' hsh sb hd' => ?_
  refine h h' _ hsh s.toks (fun b o hb e => ?_) ?_ hd'
  · refine (sb.2 b (Nat.ne_of_lt (Heap.lt_size e))).trans ((Heap.get?_update_other _ _ (Ne.symm hb)).trans (Heap.get?_push_of_some _ e))
  · exact (sb.2 x ne).trans (Heap.get?_update_self _ he1 rfl)
/-- a further attribute -/
theorem set51_more {vs : Array Value} {d : Addr} {es : List DictEntry} {n : Nat} (X : (KF P).In s.heap) (he : s.heap.get? x = some { cls := .ref 51, dict := some d, data := .fields vs }) (D : s.heap.get? d = some (dictOf es n)) (hr : es.any (·.refKey) = false) (hz : es.length ≤ 1000) (hn : findIn (KF P) (.ref 51) name = some none)
    (h : ∀ h' tk hsh t, Heap.SameBut d s.heap h' → h'.get? d = some (dictOf (putL name hsh (.str name t) v es) (putN name es n)) → R (.ok (.ret .none)) { s with heap := h', toks := tk }) :
    codeAny (model prog w) A (.call (.builtin "object.__setattr__") ⟨[.ref x, .str name tk, v], []⟩) R s := by
  have I : InstAt s.heap x { cls := .ref 51, dict := some d, data := .fields vs } 51 (some (dictOf es n)) := ⟨he, rfl, rfl, D⟩
  refine set51_open X I hn ?_
  have hc : ∃ cd, clsIn (KF P) 51 = some cd ∧ cd.hasDict = true := ⟨_, rfl, rfl⟩
  obtain ⟨cd, hc, hd⟩ := hc
  refine wpAny_bind (wpAny_pure (wpAny_bind (wpAny_bind (wpAny_loadPart he (wpAny_bind ((looks_clsIn X hc).here ?_))))))
  rw [hd]
  refine wpAny_pure (a := some d) ?_
  exact store_d D hr hz fun h' hsh sb hd' => h h' _ hsh s.toks sb hd'
theorem set51_attr1 {vs : Array Value} {Q : Unit → Shared → Prop} (X : (KF P).In s.heap) (he : s.heap.get? x = some { cls := .ref 51, data := .fields vs }) (hn : findIn (KF P) (.ref 51) name = some none)
    (h : ∀ h' tk hsh t, (∀ b o, b ≠ x → s.heap.get? b = some o → h'.get? b = some o) → h'.get? x = some { cls := .ref 51, dict := some s.heap.objs.size, data := .fields vs } → h'.get? s.heap.objs.size = some (dictOf [⟨hsh, .str name t, v⟩] 1) → Q () { s with heap := h', toks := tk }) :
    wpAny (model prog w) A (setAttr (.ref x) name v) Q E s := by
  refine set_plain X (od := none) ⟨he, rfl, rfl, trivial⟩ (show findIn (KF P) (.ref 51) "__setattr__" = some (some (.builtin "object.__setattr__")) by rfl) ?_
  exact set51_mk (s := { s with toks := s.toks + 1 }) X he hn fun h' tk hsh t a b c => h h' tk hsh t a b c
theorem set51_attr2 {vs : Array Value} {d : Addr} {es : List DictEntry} {n : Nat} {Q : Unit → Shared → Prop} (X : (KF P).In s.heap) (he : s.heap.get? x = some { cls := .ref 51, dict := some d, data := .fields vs }) (D : s.heap.get? d = some (dictOf es n)) (hr : es.any (·.refKey) = false) (hz : es.length ≤ 1000) (hn : findIn (KF P) (.ref 51) name = some none)
    (h : ∀ h' tk hsh t, Heap.SameBut d s.heap h' → h'.get? d = some (dictOf (putL name hsh (.str name t) v es) (putN name es n)) → Q () { s with heap := h', toks := tk }) :
    wpAny (model prog w) A (setAttr (.ref x) name v) Q E s := by
  refine set_plain X (od := some (dictOf es n)) ⟨he, rfl, rfl, D⟩ (show findIn (KF P) (.ref 51) "__setattr__" = some (some (.builtin "object.__setattr__")) by rfl) ?_
  exact set51_more (s := { s with toks := s.toks + 1 }) X he D hr hz hn fun h' tk hsh t a b => h h' tk hsh t a b
end
end Mine

namespace Mine

section
variable {prog : Program} {w : World} {A : Around} {E : Value → Shared → Prop} {R : Result → Shared → Prop} {P : Params} {x : Addr} {v : Value} {h : Heap} {g : Array GenState} {d : Drawn} {t : Nat} {os : OsState}

theorem check_ei {M : Model} {fs : Array Value} {Q : Unit → Shared → Prop} (hF : IsFault h) (he : h.get? x = some { cls := .ref 51, data := .fields fs }) (sub : Looks M h (isInstance (.ref x) (.type "Exception")) true) (hq : Q () ⟨h, g, d, t, os⟩) : wpAny M A (checkBuiltinCall "Exception.__init__" ⟨[.ref x, v], []⟩) Q E ⟨h, g, d, t, os⟩ := by
  have fb := PySem.F.excBase_Exception
  obtain ⟨nm, q, bs, hd, sn, sub', ab, col, dd, k0, k1, k2, k3, k5, hC⟩ := hF
  have ns := fb.noStar
  simp only [checkBuiltinCall, fb.initKind, fb.initSplit, fb.initRow]
  refine wpAny_bind (sub.at ?_)
  repeat (first | with_reducible refine wpAny_loadPart_at he ?_ | with_reducible refine wpAny_loadPart_at hC ?_ | wp_step)
  exact hq
theorem base_init {t0 : Addr} (X : (KF P).In h) (he : h.get? x = some { cls := .ref 51, data := .fields #[.ref t0, .none, .none, .none, .bool false, .none] })
    (hR : ∀ h' t1, (∀ b o, b ≠ x → h.get? b = some o → h'.get? b = some o) → h'.get? x = some { cls := .ref 51, data := .fields #[.ref t1, .none, .none, .none, .bool false, .none] } → R (.ok (.ret .none)) ⟨h', g, d, t, os⟩) :
    codeAny (model prog w) A (.call (.builtin "Exception.__init__") ⟨[.ref x, v], []⟩) R ⟨h, g, d, t, os⟩ := by
  have fb := PySem.F.excBase_Exception
  have I : InstAt h x { cls := .ref 51, data := .fields #[.ref t0, .none, .none, .none, .bool false, .none] } 51 none := ⟨he, rfl, rfl, trivial⟩
  have sub : Looks (model prog w) h (isInstance (.ref x) (.type "Exception")) true := I.type.andThen (looks_mroIn X (by kernel_rfl))
  refine codeAny_call_builtin fb.init.plain fb.initEntry (check_ei (isFault_of X) he sub ?_)
  wp_walk
  refine hR _ h.objs.size (fun b o hb e => ?_) ?_
  · rw [Heap.get?_update_other _ _ (Ne.symm hb)]
    exact Heap.get?_push_of_some _ e
  · rw [Heap.get?_update_self _ (Heap.get?_push_of_some _ he) rfl]
    rfl
end
end Mine

namespace Mine

section
variable {g : Gx} {A : Around} {E : Value → Shared → Prop} {s s₁ : Shared} {x : Addr} {v : Value}

theorem raw_boot (G : g.Ok) (hk : ∀ b o, g.h0.get? b = some o → s.heap.get? b = some o) {env : Env} {y : Str} {pos : Pos} {u : Value} {Q : Value → Shared → Prop} (hn : nsIn (KF g.w.params) mainGlobals y = some none) (hv : bootBuiltins y = some u) (hnn : y ≠ "__name__")
    (hkd : env.scope.kind = .function) (hgl : env.globals = mainGlobals) (hbi : env.builtins = builtinsNs) (hx : env.kindOf y = some .globalImplicit) (h : Q u s) (hd : (y == ("__debug__" : Str)) = false := by decide) : wpAny g.M A (eval (.Name y pos) env) Q E s := by
  obtain ⟨mg, hg⟩ := G.gl
  obtain ⟨mb, hb, hbb⟩ := G.bi
  refine Calls.Name_function_global hkd hx (Calls.loadGlobal_builtin (mg := mg) (mb := mb) ?_ (mg_none_of G.K hg hn) ?_ ((hbb y hnn).trans hv) h) hd
  · rw [hgl]; exact hg.keeps hk
  · rw [hbi]; exact hb.keeps hk
theorem raw_glob (G : g.Ok) (hk : ∀ b o, g.h0.get? b = some o → s.heap.get? b = some o) {env : Env} {y : Str} {pos : Pos} {u : Value} {Q : Value → Shared → Prop} (hn : nsIn (KF g.w.params) mainGlobals y = some (some u))
    (hkd : env.scope.kind = .function) (hgl : env.globals = mainGlobals) (hx : env.kindOf y = some .globalImplicit) (h : Q u s) (hd : (y == ("__debug__" : Str)) = false := by decide) : wpAny g.M A (eval (.Name y pos) env) Q E s := by
  obtain ⟨mg, hg⟩ := G.gl
  refine Calls.Name_function_global hkd hx (Calls.loadGlobal_global (mg := mg) ?_ (mg_of G.K hg hn) h) hd
  rw [hgl]; exact hg.keeps hk

noncomputable abbrev excO (dct : Option Addr) (t : Addr) : Obj := { cls := .ref 51, dict := dct, data := .fields #[.ref t, .none, .none, .none, .bool false, .none] }

theorem ada_init {t0 : Addr} {Q : Value → Shared → Prop} (G : g.Ok) (hk : ∀ b o, g.h0.get? b = some o → s.heap.get? b = some o) (hx0 : g.h0.get? x = none) (room : A.depth + 10 ≤ 1000) (he : s.heap.get? x = some (excO none t0))
    (hQ : ∀ h' tk d t1 hsh t2, (∀ b o, b ≠ x → s.heap.get? b = some o → h'.get? b = some o) → s.heap.get? d = none → h'.get? x = some (excO (some d) t1) → h'.get? d = some (dictOf [⟨hsh, .str "text" t2, v⟩] 1) → Q .none { s with heap := h', toks := tk }) :
    wpAny g.M A (call (.ref 28) [.ref x, v]) Q E s := by
  have X := G.K.keeps hk
  have room' : A.depth < recursionLimit := by have : recursionLimit = 1000 := rfl; omega
  refine wpAny_call (codeAny_call_cells (binds := [("self", .ref x), ("text", v)]) room' (X 28 _ rfl) rfl (G.lim.keeps hk) (codeRec_of X (by kernel_rfl)) rfl rfl rfl (fun y hy => ?_) (fun s₁ I => ?_) (by rfl) (by rfl) (by rfl))
  · rcases List.mem_cons.mp hy with rfl | hy
    · exact .inl rfl
    · rcases List.mem_cons.mp hy with rfl | hy
      · exact .inl rfl
      · cases hy
  · obtain ⟨h₁, tk, rfl⟩ := I.toInCall.same
    have keep := I.toInCall.keep
    have k1 : ∀ b o, g.h0.get? b = some o → h₁.get? b = some o := fun b o e => keep b o (hk b o e)
    have X1 := G.K.keeps k1
    have he1 := keep _ _ he
    have hLx : s.heap.objs.size ≠ x := Nat.ne_of_gt (Heap.lt_size he)
    have F1 : Fr s.heap s.heap.objs.size h₁ _ := ⟨I.toInCall.ns, keep, Nat.le_refl _⟩
    have nm : ∀ {h' : Heap} {tk' : Nat} {n : Str} {u : Value} {pos : Pos} {Q' : Value → Shared → Prop} {E' : Value → Shared → Prop} {m : Str → Option Value}, h'.Ns s.heap.objs.size m → m n = some u → (callEnvC (match (KF g.w.params).lookup 28 with | some o => (match o.data with | .func fd => fd | _ => default) | none => default) s.heap.objs.size 28).kindOf n = some .local → (n == ("__debug__" : Str)) = false → Q' u { s with heap := h', toks := tk' } → wpAny g.M (A.deeper (callEnvC (match (KF g.w.params).lookup 28 with | some o => (match o.data with | .func fd => fd | _ => default) | none => default) s.heap.objs.size 28)) (eval (.Name n pos) (callEnvC (match (KF g.w.params).lookup 28 with | some o => (match o.data with | .func fd => fd | _ => default) | none => default) s.heap.objs.size 28)) Q' E' { s with heap := h', toks := tk' } :=
      fun hn hm hl hd q => wpAny_Name (wpAny_loadName_local rfl hl hn hm q) hd
    refine wpAny_execs_cons (wpAny_Expr_any (methodCall_KW (pl := _) (raw_boot G k1 (n_exc _) PyProof.Rows.Boot.«Exception» (by decide) rfl rfl rfl rfl ?_)))
    refine method_type F1 X (by kernel_rfl) (by kernel_rfl) (show findCls (KF g.w.params) (.type "Exception") (.type "type") "__init__" = some (.val (.builtin "Exception.__init__")) by kernel_rfl) (by kernel_rfl) ?_
    refine Calls.callWith_builtin (by rfl) ?_
    refine Calls.evalArgs_plain (Calls.spliced_cons (nm I.toInCall.ns rfl rfl (by decide) (Calls.spliced_cons (nm I.toInCall.ns rfl rfl (by decide) (Calls.spliced_nil ?_)))))
    refine wpAny_call (base_init (X1.keeps fun _ _ e => e) he1 fun h₂ t1 k2 he2 => ?_)
    have keep2 : ∀ b o, b ≠ x → s.heap.get? b = some o → h₂.get? b = some o := fun b o hb e => k2 b o hb (keep b o e)
    have ns2 := I.toInCall.ns.at' (h' := h₂) (fun o e => k2 _ o hLx e)
    have X2 : (KF g.w.params).In h₂ := G.K.keeps fun b o e => keep2 b o (fun z => by rw [z, hx0] at e; cases e) (hk b o e)
    refine wpAny_execs_cons (plainObj_wpAny_Assign_Attribute (nm ns2 rfl rfl (by decide) (nm ns2 rfl rfl (by decide) ?_)))
    refine set51_attr1 X2 he2 (by kernel_rfl) fun h₃ tk3 hsh t2 k3 he3 hd3 => ?_
    have lx := Heap.lt_size he2
    refine wpAny_execs_nil (hQ h₃ tk3 h₂.objs.size t1 hsh t2 (fun b o hb e => k3 b o hb (keep2 b o hb e)) ?_ he3 hd3)
    cases q : s.heap.get? h₂.objs.size with
    | none => rfl
    | some o =>
      by_cases z : h₂.objs.size = x
      · exact absurd (z ▸ lx) (Nat.lt_irrefl _)
      · exact absurd (Heap.lt_size (keep2 _ o z q)) (Nat.lt_irrefl _)

theorem fault_init {t0 : Addr} {lv : Value} {Q : Value → Shared → Prop} (G : g.Ok) (hk : ∀ b o, g.h0.get? b = some o → s.heap.get? b = some o) (hx0 : g.h0.get? x = none) (room : A.depth + 20 ≤ 1000) (he : s.heap.get? x = some (excO none t0))
    (hQ : ∀ h' tk d t1 es k, (∀ b o, b ≠ x → s.heap.get? b = some o → h'.get? b = some o) → s.heap.get? d = none → h'.get? x = some (excO (some d) t1) → h'.get? d = some (dictOf es k) → getL "line" es = some (some lv) → Q .none { s with heap := h', toks := tk }) :
    wpAny g.M A (call (.ref 48) [.ref x, lv, v]) Q E s := by
  have X := G.K.keeps hk
  have room' : A.depth < recursionLimit := by have : recursionLimit = 1000 := rfl; omega
  refine wpAny_call (codeAny_call_cells (binds := [("self", .ref x), ("line", lv), ("text", v)]) room' (X 48 _ rfl) rfl (G.lim.keeps hk) (codeRec_of X (by kernel_rfl)) rfl rfl rfl (fun y hy => ?_) (fun s₁ I => ?_) (by rfl) (by rfl) (by rfl))
  · rcases List.mem_cons.mp hy with rfl | hy
    · exact .inl rfl
    · rcases List.mem_cons.mp hy with rfl | hy
      · exact .inl rfl
      · rcases List.mem_cons.mp hy with rfl | hy
        · exact .inl rfl
        · cases hy
  · obtain ⟨h₁, tk, rfl⟩ := I.toInCall.same
    have keep := I.toInCall.keep
    have k1 : ∀ b o, g.h0.get? b = some o → h₁.get? b = some o := fun b o e => keep b o (hk b o e)
    have X1 := G.K.keeps k1
    have he1 := keep _ _ he
    have hLx : s.heap.objs.size ≠ x := Nat.ne_of_gt (Heap.lt_size he)
    have nm : ∀ {h' : Heap} {tk' : Nat} {n : Str} {u : Value} {pos : Pos} {Q' : Value → Shared → Prop} {E' : Value → Shared → Prop} {m : Str → Option Value}, h'.Ns s.heap.objs.size m → m n = some u → (callEnvC (match (KF g.w.params).lookup 48 with | some o => (match o.data with | .func fd => fd | _ => default) | none => default) s.heap.objs.size 48).kindOf n = some .local → (n == ("__debug__" : Str)) = false → Q' u { s with heap := h', toks := tk' } → wpAny g.M (A.deeper (callEnvC (match (KF g.w.params).lookup 48 with | some o => (match o.data with | .func fd => fd | _ => default) | none => default) s.heap.objs.size 48)) (eval (.Name n pos) (callEnvC (match (KF g.w.params).lookup 48 with | some o => (match o.data with | .func fd => fd | _ => default) | none => default) s.heap.objs.size 48)) Q' E' { s with heap := h', toks := tk' } :=
      fun hn hm hl hd q => wpAny_Name (wpAny_loadName_local rfl hl hn hm q) hd
    refine wpAny_execs_cons (wpAny_Expr_any (methodCall_KW (pl := _) (raw_glob G k1 (n_ada _) rfl rfl rfl ?_)))
    refine method_cls X1 (show specialIn (KF g.w.params) (.ref 31) "__getattribute__" = some (some (.builtin "type.__getattribute__")) by kernel_rfl) ?_
    refine cls_value (mc := .type "type") X1 (by kernel_rfl) (show findCls (KF g.w.params) (.ref 31) (.type "type") "__init__" = some (.val (.ref 28)) by kernel_rfl) (by rfl) ?_
    refine callWith_K (K := KF g.w.params) X1 (show keepIn (KF g.w.params) (.ref 28) = true by kernel_rfl) ?_
    refine Calls.spliced_cons (nm I.toInCall.ns rfl rfl (by decide) (Calls.spliced_cons (nm I.toInCall.ns rfl rfl (by decide) (Calls.spliced_nil ⟨X1, ?_⟩))))
    refine ada_init G k1 hx0 (by show A.depth + 1 + 10 ≤ 1000; omega) he1 fun h₂ tk2 d t1 hsh t2 k2 hd0 he2 hd2 => ?_
    have keep2 : ∀ b o, b ≠ x → s.heap.get? b = some o → h₂.get? b = some o := fun b o hb e => k2 b o hb (keep b o e)
    have ns2 := I.toInCall.ns.at' (h' := h₂) (fun o e => k2 _ o hLx e)
    have X2 : (KF g.w.params).In h₂ := G.K.keeps fun b o e => keep2 b o (fun z => by rw [z, hx0] at e; cases e) (hk b o e)
    refine wpAny_execs_cons (plainObj_wpAny_Assign_Attribute (nm ns2 rfl rfl (by decide) (nm ns2 rfl rfl (by decide) ?_)))
    refine set51_attr2 X2 he2 hd2 rfl (by simp) (by kernel_rfl) fun h₃ tk3 hsh3 t3 sb hd3 => ?_
    have hds : s.heap.get? d = none := newOf (fun b o e => ⟨o, keep b o e⟩) hd0
    have hxd : x ≠ d := fun z => by rw [z, hds] at he; cases he
    refine wpAny_execs_nil (hQ h₃ tk3 d t1 _ _ (fun b o hb e => (sb.2 b (fun z => by rw [z, hds] at e; cases e)).trans (keep2 b o hb e)) hds ((sb.2 x hxd).trans he2) hd3 ?_)
    rfl
end
end Mine

namespace Mine

theorem raise_made {M : Model} {A : Around} {E : Value → Shared → Prop} {env : Env} {s : Shared} {x : Sem Value} {Q : Flow → Shared → Prop} (hh : A.handled = none)
    (h : wpAny M A x (fun v s₁ => ∃ e d t, v = .ref e ∧ IsFault s₁.heap ∧ s₁.heap.get? e = some (excO d t) ∧ E (.ref e) s₁) E s) : wpAny M A (raiseStmt env (some x) none) Q E s := by
  have base : (Value.ref 51 :: Flt).contains (.type "BaseException") = true := by decide +kernel
  unfold raiseStmt
  refine wpAny_bind (wpAny_mono h (fun v s₁ h₁ => ?_) fun _ _ x => x)
  obtain ⟨e, d, t, rfl, hF, he, hE⟩ := h₁
  obtain ⟨nm, q, bs, hd, sn, sub, ab, col, dd, k0, k1, k2, k3, k5, hC⟩ := hF
  obtain ⟨hp, g, dr, tk, os⟩ := s₁
  repeat (first | with_reducible refine wpAny_loadPart_at he ?_ | with_reducible refine wpAny_loadPart_at hC ?_ | (with_reducible refine wpAny_isSubtype_exc hC ?_; rw [base]) | wp_step)
  exact wpAny_raiseNew_none hh hE

theorem tc_weight (a : Args) : (Code.builtin "type.__call__" a).weight ≤ 2 := by
  have hg : (Code.builtin "type.__call__" a).isGuard = false := by show guardIds.contains "type.__call__" = false; decide +kernel
  have hf : (Code.builtin "type.__call__" a).frames = 0 := rfl
  have hc : (Code.builtin "type.__call__" a).isCaller = false := rfl
  unfold Code.weight
  rw [hg, hf, hc]
  split <;> simp
section
variable {g : Gx} {fc : Fc} {st : AS} {X : Int → AS → Prop}
theorem n_fault' (P : Params) : keepIn (KF P) (.ref 51) = true := by kernel_rfl
/-- the call CheckFault(line, text) -/
theorem call_fault {s : Shared} {l : Int} {t : Tok} {v : Value} {K : Prop} (G : g.Ok) (hn : 1 ≤ fc.n) (r : R g fc st s) (k : X l st) {Q : Value → Shared → Prop} {E : Value → Shared → Prop}
    (h : ∀ e h' tk d t1, IsFault h' → h'.get? e = some (excO (some d) t1) → EPost g fc st s X (.ref e) { s with heap := h', toks := tk } → Q (.ref e) { s with heap := h', toks := tk }) : wpAny g.M fc.A (call (.ref 51) [.int l t, v]) Q E s := by
  have X0 := G.K.keeps r.base
  obtain ⟨hp, gn, dr, tk, os⟩ := s
  refine fault_call X0 (by simp) fun h' e m => ?_
  obtain ⟨t0, he, _, _⟩ := m.there
  have base : ∀ b o, g.h0.get? b = some o → h'.get? b = some o := fun b o z => m.keeps b o (r.base b o z)
  have hx0 : g.h0.get? e = none := by
    cases q : g.h0.get? e with
    | none => rfl
    | some o => have := r.base _ _ q; rw [m.new] at this; cases this
  refine fault_init (s := ⟨h', gn, dr, tk, os⟩) G base hx0 (by have := r.ok.dep; show fc.A.depth + _ + 20 ≤ 1000; have := tc_weight ⟨.ref 51 :: [.int l t, v], []⟩; omega) he fun h₂ tk2 d t1 es k' k2 hd he2 hd2 hg => ⟨rfl, ?_⟩
  have keep : ∀ b o, hp.get? b = some o → h₂.get? b = some o := fun b o z => k2 b o (fun y => by rw [y, m.new] at z; cases z) (m.keeps b o z)
  obtain ⟨r2, S2, _⟩ := r.keeps (tk := tk2) (h' := h₂) keep
  refine h e h₂ tk2 d t1 (isFault_of (G.K.keeps r2.base)) he2 ⟨l, st, ⟨e, _, _, d, es, k', .none, t, rfl, m.new, he2, rfl, rfl, rfl, by simp, rfl, newOf (fun b o z => ⟨o, m.keeps b o z⟩) hd, hd2, hg, ?_, .inl ⟨rfl, rfl⟩⟩, r2, S2, k⟩
  cases q : st.σ d with
  | none => rfl
  | some mo =>
    have z := (r.sto d mo q).2
    have hn' : hp.get? d = none := newOf (fun b o z => ⟨o, m.keeps b o z⟩) hd
    cases mo with
    | lst xs => obtain ⟨vs, ⟨c, z⟩, _⟩ := z; change hp.get? d = _ at z; rw [hn'] at z; cases z
    | dct xs => obtain ⟨vs, ⟨o, _, _, z, _⟩, _⟩ := z; change hp.get? d = _ at z; rw [hn'] at z; cases z

inductive KX2 (X : Int → AS → Prop) (ps : List PV) (st : AS) : Prop
  | mk (l : Int) (x : PV) (h : ps = [.int l, x]) (k : X l st)
theorem s_raise {a : Expr} {args : List Expr} {np cpos pos : Pos} {K : AF → AS → Prop} (G : g.Ok) (hn : 1 ≤ fc.n) (hx : fc.env.kindOf "CheckFault" = some .globalImplicit)
    (h : WL g fc (spliced (backTo cpos (starEach (a :: args) fc.env))) st (KX2 X) X)
    (he : starEach (a :: args) fc.env = (false, eval a fc.env) :: starEach args fc.env := by rfl) (hplain : (backTo cpos (starEach args fc.env)).any (·.1) = false := by rfl) : WS g fc (exec (.Raise (some (.Call (.Name "CheckFault" np) (a :: args) [] cpos)) none pos) fc.env) st K X := by
  intro s r
  rw [arm_exec_Raise]
  simp only [evalOpt, Option.map]
  refine wpAny_bind (wpAny_standAt (raise_made r.ok.hd (wpAny_bind ?_)))
  refine Call_ (name_glob G r (n_fault _) hx ?_)
  refine callWith_K (K := KF g.w.params) (h₀ := g.h0) G.K (n_fault' _) ?_ he hplain
  refine (h s r).use (fun pvs st₁ vs s₁ q r₁ S k => ⟨G.K.keeps r₁.base, ?_⟩) fun _ _ z => z
  obtain ⟨l, x, rfl, k⟩ := k
  obtain ⟨v1, l1, rfl, w1, y5⟩ := VRs.inv_cons q
  obtain ⟨v2, l2, rfl, w2, y6⟩ := VRs.inv_cons y5
  obtain rfl := VRs.inv_nil y6
  obtain ⟨_, rfl⟩ := VR.inv_int w1
  ·   
      refine call_fault (K := True) G hn r₁ k fun e h' tk d t1 hF he2 hE => ?_
      exact wpAny_bind (wpAny_standAt (wpAny_pure ⟨e, _, _, rfl, hF, he2, EPost.from S hE⟩))
end
end Mine

namespace Mine

section
variable {prog : Program} {w : World} {A : Around} {E : Value → Shared → Prop} {s : Shared} {P : Params} {x : Addr} {ox od : Obj} {v : Value} {name : Str}
/-- an attribute of the fault is read from its own dict -/
theorem get51 {expr : Bool} {Q : Value → Shared → Prop} (X : (KF P).In s.heap) (I : InstAt s.heap x ox 51 (some od)) (hf : findObj (KF P) 51 (some od) name = some (.value v)) (hh : handedIn v = true) (h : Q v { s with toks := s.toks + 1 }) : wpAny (model prog w) A (getAttr (.ref x) name expr) Q E s := by
  obtain ⟨hp, g, d, t, os⟩ := s
  have L0 := I.type (M := model prog w)
  have L1 : Looks (model prog w) hp (typeLookup (.ref 51) "__getattribute__") (some (.builtin "BaseException.__getattribute__")) := looks_findIn X (by kernel_rfl)
  have L2 : Looks (model prog w) hp (typeLookup (.ref 51) "__getattr__") none := looks_findIn X (by kernel_rfl)
  have L3 := looks_find (M := model prog w) X I hf
  have sub : Looks (model prog w) hp (isInstance (.ref x) (.type "BaseException")) true := L0.andThen (looks_mroIn X (by kernel_rfl))
  have hbind := PySem.F.store_object
  unfold getAttr getAttrBy
  refine wpAny_bind (wpAny_mkText (wpAny_holding (wpAny_bind (L0.at (wpAny_bind (L1.at ?_))))))
  have hne : (onTheHeap (Value.ref 51) && Value.builtin "BaseException.__getattribute__" == Value.builtin "object.__getattribute__") = false := by
    rw [show (Value.builtin "BaseException.__getattribute__" == Value.builtin "object.__getattribute__") = false from by decide +kernel, Bool.and_false]
  dsimp only
  rw [hne, if_neg Bool.false_ne_true]
  unfold getAttrByItsOwn
  refine wpAny_bind (m := hookBefore (.ref 51)) ?_
  show wpAny _ _ (typeLookup (.ref 51) "__getattr__") _ _ _
  refine L2.at ?_
  refine wpAny_bind (wpAny_attempt (wpAny_holding ?_))
  unfold callGetattribute
  have hx : (expr && onTheHeap (Value.builtin "BaseException.__getattribute__")) = false := by cases expr <;> rfl
  rw [hx, if_neg Bool.false_ne_true]
  have ga := PySem.F.attr_Exception.ga
  unfold boundAndCalled
  rw [ga.bind]
  refine wpAny_bind (wpAny_pure (wpAny_call ?_))
  refine codeAny_call_builtin ga.plain PySem.F.entry_bexc_ga (@check_slot (model prog w) _ _ ⟨hp, g, d, t + 1, os⟩ "BaseException.__getattribute__" "BaseException" "__getattribute__" (.ref x) [.str name t] [] _ (by decide +kernel) (by decide +kernel) sub (PySem.F.args_bexc_ga _ _) ?_)
  refine wpAny_bind (wpAny_pure (wpAny_bind (wpAny_pure (wpAny_bind (L0.at (wpAny_bind (L3.at ?_)))))))
  refine wpAny_pure ?_
  show wpAny _ _ (handedOut v) _ _ _
  rw [handedOut_of hh]; exact wpAny_pure h
end

section
variable {g : Gx} {fc : Fc} {st : AS} {s : Shared} {X : Int → AS → Prop}

theorem store_raw {A : Around} {x : Str} {p : PV} {v : Value} {Q : Unit → Shared → Prop} {E : Value → Shared → Prop} (r : R g fc st s) (q : VR st.σ s.heap p v) (kl : fc.env.kindOf x = some .local)
    (h : ∀ h', R g fc (st.sv x p) { s with heap := h', toks := s.toks + 1 } → Step fc st.σ st.σ s.heap h' → Heap.SameBut fc.env.locals s.heap h' → Q () { s with heap := h', toks := s.toks + 1 }) : wpAny g.M A (storeName fc.env x v) Q E s := by
  obtain ⟨mV, hn, hb⟩ := r.loc
  have hn0 := hn
  obtain ⟨oL, esL, epL, hL1, hL2, hL3⟩ := hn0
  refine wpAny_storeName_local kl hn (fun h' hn' S => ?_) (by rw [r.ok.kind]; rfl)
  have z := r.poke (tk := s.toks + 1) (x := x) (p := p) hL1 (fun vs n z => by rw [hL2] at z; cases z) r.nl.2 r.nl.1 (.inr (.inl rfl)) S (fun _ _ _ => by obtain ⟨o', es', ep', e1, e2, _⟩ := hn'; exact ⟨o', es', ep', e1, e2⟩) (fun v z => by rw [hL2] at z; cases z) (by obtain ⟨o', es', ep', e1, e2, _⟩ := hn'; exact ⟨o', e1⟩) (fun hs => ⟨_, hn', fun y w e => ?_⟩)
  · exact h h' z.1 z.2 S
  · change setm _ _ _ _ = _ at e
    unfold setm at e
    by_cases hy : y = x
    · rw [if_pos hy] at e; cases e
      exact .inl ⟨hy ▸ kl, v, if_pos hy, q.safe hs⟩
    · rw [if_neg hy] at e
      rcases hb y w e with ⟨a, u, b, c⟩ | ⟨a, ca, ob, u, b, c, d, e⟩
      · exact .inl ⟨a, u, (if_neg hy).trans b, c.safe hs⟩
      · exact .inr ⟨a, ca, ob, u, b, (S.2 ca fun z => by subst z; rw [hL1] at c; cases c; rw [hL2] at d; cases d).trans c, d, e.safe hs⟩

/-- the names are let go -/
theorem R.wipe {h' : Heap} {mV' : Str → Option Value} {tk : Nat} (r : R g fc st s) (S : Heap.SameBut fc.env.locals s.heap h') (hn : h'.Ns fc.env.locals mV') : R g fc ⟨fun _ => none, st.σ⟩ { s with heap := h', toks := tk } ∧ Step fc st.σ st.σ s.heap h' := by
  obtain ⟨mV, ⟨oL, esL, epL, hL1, hL2, hL3⟩, hb⟩ := r.loc
  exact r.pokeM hL1 (fun vs n z => by rw [hL2] at z; cases z) r.nl.2 r.nl.1 (.inr (.inl rfl)) S (fun _ _ _ => by obtain ⟨o', es', ep', e1, e2, _⟩ := hn; exact ⟨o', es', ep', e1, e2⟩) (fun v z => by rw [hL2] at z; cases z) (by obtain ⟨o', es', ep', e1, e2, _⟩ := hn; exact ⟨o', e1⟩) (fun _ => ⟨mV', hn, fun y q e => by cases e⟩)

theorem unbind_raw {A : Around} {x : Str} {pos : Pos} {Q : Unit → Shared → Prop} {E : Value → Shared → Prop} {p : PV} (r : R g fc st s) (hx : st.m x = some p) (kl : fc.env.kindOf x = some .local)
    (h : ∀ h', R g fc ⟨fun _ => none, st.σ⟩ { s with heap := h' } → Step fc st.σ st.σ s.heap h' → Q () { s with heap := h' }) : wpAny g.M A (unbindBehindTheSuite fc.env x pos) Q E s := by
  obtain ⟨mV, hn, hb⟩ := r.loc
  have hv : ∃ v, mV x = some v := by
    rcases hb x p hx with ⟨_, v, hv, _⟩ | ⟨kc, _⟩
    · exact ⟨v, hv⟩
    · rw [kl] at kc; cases kc
  obtain ⟨v, hv⟩ := hv
  unfold unbindBehindTheSuite
  refine wpAny_onRaise ?_
  unfold unbindName deleteName
  refine wpAny_bind (wpAny_point (wpAny_bind ?_))
  simp only [kl, r.ok.kind]
  refine wpAny_bind (m := nsDel fc.env.locals x) (wpAny_nsDel hn fun h' m' hn' hs' => ?_)
  rw [hv]
  have z := r.wipe (tk := s.toks) hs' hn'
  exact wpAny_pure (wpAny_point (h h' z.1 z.2))
end
end Mine

namespace Mine

theorem find51 {P : Params} {es : List DictEntry} {k : Nat} {v : Value} (hg : getL "line" es = some (some v)) : findObj (KF P) 51 (some (dictOf es k)) "line" = some (.value v) := by
  have hc : ∃ cd, clsIn (KF P) 51 = some cd ∧ cd.hasDict = true := ⟨_, rfl, rfl⟩
  obtain ⟨cd, hc, hd⟩ := hc
  have h2 : findIn (KF P) (.ref 51) "line" = some none := by kernel_rfl
  unfold findObj
  rw [hc, Option.bind_some, h2]
  simp only [Option.bind_some]
  unfold W.ownOf
  rw [hd, if_pos rfl]
  dsimp only
  rw [lookIn_dict, hg]
  rfl

section
variable {g : Gx} {fc : Fc} {st : AS} {s : Shared} {X : Int → AS → Prop}
theorem name_raw {A : Around} {x : Str} {pos : Pos} {p : PV} {Q : Value → Shared → Prop} {E : Value → Shared → Prop} (r : R g fc st s) (hx : st.m x = some p) (h : ∀ v, VR st.σ s.heap p v → Q v s) (hd : (x == ("__debug__" : Str)) = false := by decide) : wpAny g.M A (eval (.Name x pos) fc.env) Q E s := by
  obtain ⟨mV, hn, hb⟩ := r.loc
  rcases hb x p hx with ⟨hk, v, hv, q⟩ | ⟨hk, ca, o, v, hc, ho, hdt, q⟩
  · exact wpAny_Name (wpAny_loadName_local r.ok.kind hk hn hv (h v q)) hd
  · exact wpAny_Name (wpAny_loadName_cell r.ok.kind hk hc ⟨o, ho, hdt⟩ (h v q)) hd

theorem s_try {body : List Stmt} {alt : Expr} {k5 : Nat} {np p1 p2 p3 p4 p5 p6 p7 hpos pos : Pos} {K : AF → AS → Prop} (G : g.Ok) (hkf : fc.env.kindOf "fault" = some .local) (hkc : fc.env.kindOf "CheckFault" = some .globalImplicit)
    (h : WS g fc (execs body fc.env) st (fun f st₁ => K f st₁) (fun l st₁ => st₁.m "line" = some (.int l) ∧ K (.ret .none) ⟨fun _ => none, st₁.σ⟩)) :
    WS g fc (exec (.Try body [.ExceptHandler (some (.Name "CheckFault" np)) (some "fault") [.Return (some (.IfExp (.Compare (.Attribute (.Name "fault" p1) "line" p2) [.Eq] [.Name "line" p3] p4) (.Constant .none k5 p5) alt p6)) p7] hpos] [] [] pos) fc.env) st K X := by
  intro s r
  refine wpAny_Try_except ((h s r).use (fun p st₁ f s₁ q r₁ S k => ?_) fun e s₁ x => ?_)
  · cases q with
    | next => exact wpAny_execs_nil (Post.from S (Post.intro r₁ .next k))
    | brk => exact Post.from S (Post.intro r₁ .brk k)
    | cont => exact Post.from S (Post.intro r₁ .cont k)
    | ret v => exact Post.from S (Post.intro r₁ (.ret v) k)
  · refine EPost.note (b := false) r x fun s₂ x => EPost.flight r x fun s₃ x => ?_
    obtain ⟨l, st₁, F, r₁, S, hl, kk⟩ := x
    obtain ⟨a, rfl⟩ := F.ref
    obtain ⟨hp, gn, dr, tk, os⟩ := s₃
    have Xk := G.K.keeps r₁.base
    refine wpAny_handleBy_cons (codeAny_handlers_test (raw_glob G r₁.base (n_fault _) r₁.ok.kind r₁.ok.glob hkc ?_)) (by intro q; cases q)
    obtain ⟨nm, q, bs, hd, sn, sub, ab, col, dd, k0, k1, k2, k3, k5, hC⟩ := isFault_of Xk
    have F0 := F
    obtain ⟨a', oe, vs, d, es, k, tb, t, e1, h2, h3, h4, h5, h6, h7, h8, h9, h10, h11, h12, h13⟩ := F0
    cases e1
    refine wpAny_excMatches_sub_self hC h3 h4 (by decide +kernel) ?_
    refine codeAny_handlers_suite_as ?_
    refine setFlight_R (fc := ⟨fc.A.mark (some (.ref a)), fc.env, fc.envs, fc.n, fc.wc⟩) (fr := fc.fr) F fun h' F' L => ?_
    obtain ⟨r₂, _⟩ := r₁.late L r.h0in
    have S₂ := S.late L
    refine store_raw r₂ (p := .ref a) (.ref a) hkf fun h₃ r₃ S₃ sb => ?_
    have F₃ := F'.sameBut (by
      obtain ⟨_, ⟨_, _, _, z, _⟩, _⟩ := r.loc
      rw [z]; simp) sb
    obtain ⟨a', oe, vs, d, es, k, tb, t, e1, h2, h3, h4, h5, h6, h7, h8, h9, h10, h11, h12, h13⟩ := F₃
    cases e1
    have I : InstAt h₃ a oe 51 (some (dictOf es k)) := ⟨h3, h4, by unfold notCls; rw [h6], by rw [h5]; exact h10⟩
    refine wpAny_execs_cons (wpAny_Return_some (wpAny_IfExp (wpAny_isTrue_Compare1 (Attribute_name (name_raw r₃ (p := .ref a) (setm_eq (m := st₁.m) (x := "fault") (p := .ref a)) (fun v hv => ?_))))))
    obtain rfl := VR.inv_ref hv
    refine get51 (G.K.keeps r₃.base) I (find51 h11) rfl ?_
    have r₄ := R.toks (k := tk + 1 + 1) r₃
    refine name_raw (x := "line") r₄ (p := .int l) ((setm_ne (m := st₁.m) (x := "fault") (y := "line") (p := .ref a) (by decide)).trans hl) (fun v hv => ?_)
    obtain ⟨_, rfl⟩ := VR.inv_int hv
    refine PySem.P.eq_int ?_
    rw [show (l == l) = true from by simp]
    refine wpAny_truthy_bool ?_
    rw [if_pos rfl]
    refine wpAny_pure (a := Value.none) ?_
    refine wpAny_bind (bindName_ (store_raw r₄ (p := .none) .none hkf fun h₅ r₅ S₅ sb₅ => ?_))
    refine unbind_raw (x := "fault") (p := .none) r₅ (setm_eq (m := setm st₁.m "fault" (.ref a)) (x := "fault") (p := .none)) hkf fun h₆ r₆ S₆ => ?_
    exact ⟨.ret .none, _, .ret .none, r₆, S₂.trans (S₃.trans (S₅.trans S₆)), kk⟩
end
end Mine

namespace Mine

noncomputable def wellL (cs : List Int) (k : Nat) : List (Str × PV) := [("cells", .fl (cs.map .int)), ("at", .int k)]
noncomputable abbrev wellO (cs : List Int) (k : Nat) : MO := .dct (wellL cs k)
theorem put_at (cs : List Int) (k : Nat) : put (wellL cs k) "at" (.int ((k : Int) + 1)) = wellL cs (k + 1) := by
  unfold wellL put
  rw [if_pos (by rfl)]
  rfl
theorem fmod_nat {a b : Int} (hb : 0 < b) : ∃ r : Nat, a.fmod b = r ∧ (r : Int) < b := by
  rw [Int.fmod_eq_emod_of_nonneg _ (Int.le_of_lt hb)]
  have h1 := Int.emod_nonneg a (Int.ne_of_gt hb)
  have h2 := Int.emod_lt_of_pos a hb
  exact ⟨(a % b).toNat, by omega, by omega⟩

section
variable {g : Gx} {fc : Fc} {σ : Store} {K : PV → Store → Prop} {X : Int → Store → Prop}
theorem c_tell {wl : Addr} {cs : List Int} {k : Nat} {sides : Int} (G : g.Ok) (hn : 1 ≤ fc.n) (hw : σ wl = some (wellO cs k)) (hk : k ≤ 100000) (hcs : cs.length ≤ 10000) (hs : 0 < sides)
    (h : ∀ r : Nat, (r : Int) < sides → K (.int r) (upd σ wl (wellO cs (k + 1)))) : WC g fc 87 [.ref wl, .int sides] σ K X := by
  refine WC.enter ["well", "sides"] G ?h hn rfl rfl rfl rfl (by kernel_rfl) rfl rfl rfl (by decide) ?hb ?hk rfl rfl rfl
  case hb => exact len2 fun _ _ => rfl
  case hk => decide
  case h =>
    intro L hnn
    refine s_cons (s_add1 (e_name (p := .ref wl) rfl (e_str ⟨wl, "at", wellL cs k, k, rfl, rfl, hw, by simp [wellL], rfl, ?_⟩)))
    rw [put_at]
    have look : ∀ {K' : PV → AS → Prop} {X' : Int → AS → Prop} {p1 p2 p3 : Pos} {kk : Nat} {y : Str} {p : PV}, at? (wellL cs (k + 1)) y = some p → K' p ⟨fun x => ((["well", "sides"] : List Str).zip [PV.ref wl, PV.int sides]).lookup x, upd σ wl (wellO cs (k + 1))⟩ →
        WE g (fc.into (callEnvC (match (KF g.w.params).lookup 87 with | some o => (match o.data with | .func fd => fd | _ => default) | none => default) L 87)) (eval (.Subscript (.Name "well" p1) (.Constant (.str y) kk p2) p3) (fc.into (callEnvC (match (KF g.w.params).lookup 87 with | some o => (match o.data with | .func fd => fd | _ => default) | none => default) L 87)).env) ⟨fun x => ((["well", "sides"] : List Str).zip [PV.ref wl, PV.int sides]).lookup x, upd σ wl (wellO cs (k + 1))⟩ K' X' :=
      fun hp hk => e_sub (e_name (p := .ref wl) rfl (e_str (sub_dict upd_self hp hk)))
    refine s_cons (s_if (t_cmp (look (p := .int ((k + 1 : Nat))) rfl (e_len G rfl (look (p := .fl (cs.map .int)) rfl ⟨cs.length, by omega, by simp, cmp_gt ⟨_, rfl, ?_⟩⟩)))))
    by_cases c : (cs.length : Int) < ((k + 1 : Nat) : Int)
    · rw [if_pos (by simpa using c)]
      refine s_cons (s_ret (e_binop (e_binop (look (p := .int ((k + 1 : Nat))) rfl (e_int (mul_ii (by omega) (e_name (p := .int sides) rfl (mod_ii (by omega) ?_))))))))
      obtain ⟨r, e, hr⟩ := fmod_nat (a := ((k + 1 : Nat) : Int) * 3) hs
      rw [e]
      exact h r hr
    · rw [if_neg (by simpa using c)]
      refine s_nil (s_cons (s_ret (e_binop (e_sub (look (p := .fl (cs.map .int)) rfl (e_binop (look (p := .int ((k + 1 : Nat))) rfl (e_int (sub_ii (sub_fl (p := .int (cs[k]'(by omega))) (by omega) (by omega) ?_ (e_name (p := .int sides) rfl (mod_ii (by omega) ?_))))))))))))
      · have : (((k + 1 : Nat) : Int) - 1).toNat = k := by omega
        rw [this]
        simp
      · obtain ⟨r, e, hr⟩ := fmod_nat (a := cs[k]'(by omega)) hs
        rw [e]
        exact h r hr
end
end Mine

namespace Mine

/-- what a store told stays told -/
noncomputable def Ext (σ σ' : Store) : Prop := ∀ b mo, σ b = some mo → σ' b = some mo
theorem Ext.refl {σ : Store} : Ext σ σ := fun _ _ e => e
theorem Ext.trans {a b c : Store} (x : Ext a b) (y : Ext b c) : Ext a c := fun q m e => y q m (x q m e)
theorem Ext.upd {σ : Store} {a : Addr} {mo : MO} (h : σ a = none) : Ext σ (upd σ a mo) := fun b m e => (upd_ne (fun z => by rw [z, h] at e; cases e)).trans e
theorem upd_del {σ : Store} {a : Addr} {mo : MO} (h : σ a = some mo) : upd (del σ a) a mo = σ := by
  funext b; unfold Mine.upd del
  by_cases q : b = a
  · subst q; simp [h]
  · simp [q]
theorem del_self {σ : Store} {a : Addr} : del σ a a = none := by unfold del; simp
theorem Ext.del {σ σ' : Store} {a : Addr} {mo : MO} (h : σ a = none) (x : Ext (Mine.upd σ a mo) σ') : Ext σ (del σ' a) := fun b m e => by
  have ne : b ≠ a := fun z => by rw [z, h] at e; cases e
  unfold Mine.del
  rw [if_neg ne]
  exact x b m ((upd_ne ne).trans e)

inductive Fm where
  | obj (ns : List Str) (d : Option Int)
  | typ (n : Str)
  | sub (n : Str) (d : Option Bool)
  | pack (n : Str)
noncomputable def dInt : Option Int → PV
  | none => .none
  | some i => .tup [.str "int", .int i]
noncomputable def dSub : Option Bool → PV
  | none => .none
  | some true => .str "box"
  | some false => .tup [.str "name", .str "other"]
noncomputable def Fm.pv : Fm → PV
  | .obj ns d => .tup [.str "fobject", .int 1, .fl (ns.map .str), .str "in", .tup [.str "name", .str "integer"], dInt d]
  | .typ n => .tup [.str "ftype", .int 1, .str n, .none, .tup [.str "discrete"]]
  | .sub n d => .tup [.str "fsub", .int 1, .tup [.str "function", .str n, .fl [], .tup [.str "name", .str "integer"]], dSub d]
  | .pack n => .tup [.str "fpack", .int 1, .str n, .tup [.str "name", .str "maps"], .str "box"]
noncomputable def Fm.names : Fm → List Str
  | .obj ns _ => ns
  | .typ n => [n]
  | .sub n _ => [n]
  | .pack n => [n]
noncomputable def Fm.dflt : Fm → PV
  | .obj _ d => dInt d
  | .typ _ => .none
  | .sub _ d => dSub d
  | .pack _ => .none
inductive Ch where
  | name (s : Str)
  | strg (s : Str)
  | others
noncomputable def Ch.pv : Ch → PV
  | .name s => .tup [.str "name", .str s]
  | .strg s => .tup [.str "string", .str s]
  | .others => .tup [.str "others"]
noncomputable def quo (s : Str) : Str := ("\"" : Str) ++ s ++ ("\"" : Str)
/-- choice_name -/
noncomputable def Ch.nm : Ch → Option Str
  | .name s => some s
  | .strg s => some (quo s)
  | .others => none
/-- _law_plain -/
noncomputable def Ch.plain : Ch → Str
  | .name s => s
  | .strg s => quo s
  | .others => ""
noncomputable def Ch.short : Ch → Prop
  | .name s => s.length ≤ 1000
  | .strg s => s.length ≤ 1000
  | .others => True

section
variable {g : Gx} {fc : Fc} {st : AS} {σ : Store} {X : Int → AS → Prop}
theorem cmp_eq_ss {x y : Str} {K : PV → AS → Prop} (h : K (.bool (x == y)) st) : On2 g fc (compareOp .Eq) (.str x) (.str y) st K X := by
  intro s v1 v2 r q1 q2; (first | obtain rfl := VR.inv_ref q1 | obtain ⟨_, rfl⟩ := VR.inv_int q1 | obtain ⟨_, rfl⟩ := VR.inv_str q1 | obtain rfl := VR.inv_bool q1 | obtain rfl := VR.inv_none q1); (first | obtain rfl := VR.inv_ref q2 | obtain ⟨_, rfl⟩ := VR.inv_int q2 | obtain ⟨_, rfl⟩ := VR.inv_str q2 | obtain rfl := VR.inv_bool q2 | obtain rfl := VR.inv_none q2); exact PyProof.Rows.eq_str (Post.intro r (.bool _) h)
theorem seq_at {i : Int} {n : Nat} (h0 : 0 ≤ i) (h : i.toNat < n) : seqIndex? i n = some i.toNat := by
  unfold seqIndex?
  have e1 : ¬ (i < 0) := by omega
  have e2 : i < (n : Int) := by omega
  simp [e1, e2, h0]
/-- an item of a tuple in a name -/
theorem e_item {x : Str} {xs : List PV} {i : Int} {k : Nat} {p1 p2 p3 : Pos} {p : PV} {K : PV → AS → Prop} (hx : st.m x = some (.tup xs)) (hp : xs[i.toNat]? = some p) (h : K p st) (h0 : 0 ≤ i := by decide) (h1 : i < 100 := by decide) (hd : (x == ("__debug__" : Str)) = false := by decide) : WE g fc (eval (.Subscript (.Name x p1) (.Constant (.int i) k p2) p3) fc.env) st K X :=
  e_sub (e_name hx (e_int (sub_tup (j := i.toNat) (by omega) (by omega) (seq_at h0 (List.getElem?_eq_some_iff.mp hp).1) hp h)) hd)

/-- formal_names -/
theorem c_fnames {fc : Fc} {f : Fm} {K : PV → Store → Prop} {X : Int → Store → Prop} (G : g.Ok) (hn : 1 ≤ fc.n) (h : K (.fl (f.names.map .str)) σ) : WC g fc 60 [f.pv] σ K X := by
  refine WC.enter ["formal"] G ?h hn rfl rfl rfl rfl (by kernel_rfl) rfl rfl rfl (by decide) ?hb ?hk rfl rfl rfl
  case hb => exact len1 fun _ => rfl
  case hk => decide
  case h =>
    intro L hnn
    cases f with
    | obj ns d =>
      refine s_cons (s_if (t_cmp (e_item (p := .str "fobject") rfl rfl (e_str (cmp_eq_ss ⟨_, rfl, ?_⟩)))))
      refine s_cons (s_ret (e_item (p := .fl (ns.map .str)) rfl rfl h))
    | typ n =>
      refine s_cons (s_if (t_cmp (e_item (p := .str "ftype") rfl rfl (e_str (cmp_eq_ss ⟨_, rfl, ?_⟩)))))
      refine s_nil (s_cons (s_if (t_cmp (e_item (p := .str "ftype") rfl rfl (e_str (cmp_eq_ss ⟨_, rfl, ?_⟩))))))
      exact s_nil (s_cons (s_ret (e_list_fl (l_cons (e_item (p := .str n) rfl rfl (l_nil ⟨by simp, h⟩))))))
    | pack n =>
      refine s_cons (s_if (t_cmp (e_item (p := .str "fpack") rfl rfl (e_str (cmp_eq_ss ⟨_, rfl, ?_⟩)))))
      refine s_nil (s_cons (s_if (t_cmp (e_item (p := .str "fpack") rfl rfl (e_str (cmp_eq_ss ⟨_, rfl, ?_⟩))))))
      exact s_nil (s_cons (s_ret (e_list_fl (l_cons (e_item (p := .str n) rfl rfl (l_nil ⟨by simp, h⟩))))))
    | sub n d =>
      refine s_cons (s_if (t_cmp (e_item (p := .str "fsub") rfl rfl (e_str (cmp_eq_ss ⟨_, rfl, ?_⟩)))))
      refine s_nil (s_cons (s_if (t_cmp (e_item (p := .str "fsub") rfl rfl (e_str (cmp_eq_ss ⟨_, rfl, ?_⟩))))))
      exact s_cons (s_ret (e_list_fl (l_cons (e_sub (e_item (p := .tup [.str "function", .str n, .fl [], .tup [.str "name", .str "integer"]]) rfl rfl (e_int (sub_tup (j := 1) (by decide) (by decide) rfl rfl (l_nil ⟨by simp, h⟩))))))))
end
end Mine

namespace Mine

section
variable {g : Gx} {fc : Fc} {σ : Store} {K : PV → Store → Prop} {X : Int → Store → Prop}
/-- default_of -/
theorem c_dflt {f : Fm} (G : g.Ok) (hn : 1 ≤ fc.n) (h : K f.dflt σ) : WC g fc 67 [f.pv] σ K X := by
  refine WC.enter ["formal"] G ?h hn rfl rfl rfl rfl (by kernel_rfl) rfl rfl rfl (by decide) ?hb ?hk rfl rfl rfl
  case hb => exact len1 fun _ => rfl
  case hk => decide
  case h =>
    intro L hnn
    cases f with
    | obj ns d =>
      refine s_cons (s_if (t_cmp (e_item (p := .str "fobject") rfl rfl (e_str (cmp_eq_ss ⟨_, rfl, ?_⟩)))))
      refine s_cons (s_ret (e_item (p := dInt d) rfl rfl h))
    | typ n =>
      refine s_cons (s_if (t_cmp (e_item (p := .str "ftype") rfl rfl (e_str (cmp_eq_ss ⟨_, rfl, ?_⟩)))))
      refine s_nil (s_cons (s_if (t_cmp (e_item (p := .str "ftype") rfl rfl (e_str (cmp_eq_ss ⟨_, rfl, ?_⟩))))))
      exact s_nil (s_cons (s_ret (e_none h)))
    | pack n =>
      refine s_cons (s_if (t_cmp (e_item (p := .str "fpack") rfl rfl (e_str (cmp_eq_ss ⟨_, rfl, ?_⟩)))))
      refine s_nil (s_cons (s_if (t_cmp (e_item (p := .str "fpack") rfl rfl (e_str (cmp_eq_ss ⟨_, rfl, ?_⟩))))))
      exact s_nil (s_cons (s_ret (e_none h)))
    | sub n d =>
      refine s_cons (s_if (t_cmp (e_item (p := .str "fsub") rfl rfl (e_str (cmp_eq_ss ⟨_, rfl, ?_⟩)))))
      refine s_nil (s_cons (s_if (t_cmp (e_item (p := .str "fsub") rfl rfl (e_str (cmp_eq_ss ⟨_, rfl, ?_⟩))))))
      exact s_cons (s_ret (e_item (p := dSub d) rfl rfl h))

/-- choice_name -/
theorem c_cname {c : Ch} {l : Int} (G : g.Ok) (hn : 2 ≤ fc.n) (hs : c.short) (h : ∀ s, c.nm = some s → K (.str s) σ) (hx : c.nm = none → X l σ) : WC g fc 74 [c.pv, .int l] σ K X := by
  refine WC.enter ["choice", "line"] G ?h (by omega) rfl rfl rfl rfl (by kernel_rfl) rfl rfl rfl (by decide) ?hb ?hk rfl rfl rfl
  case hb => exact len2 fun _ _ => rfl
  case hk => decide
  case h =>
    intro L hnn
    cases c with
    | name s =>
      refine s_cons (s_if (t_cmp (e_item (p := .str "name") rfl rfl (e_str (cmp_eq_ss ⟨_, rfl, ?_⟩)))))
      exact s_cons (s_ret (e_item (p := .str s) rfl rfl (h s rfl)))
    | strg s =>
      have hl : s.length ≤ 1000 := hs
      have hq : ("\"" : Str).length = 1 := rfl
      refine s_cons (s_if (t_cmp (e_item (p := .str "string") rfl rfl (e_str (cmp_eq_ss ⟨_, rfl, ?_⟩)))))
      refine s_nil (s_cons (s_if (t_cmp (e_item (p := .str "string") rfl rfl (e_str (cmp_eq_ss ⟨_, rfl, ?_⟩))))))
      refine s_cons (s_ret (e_binop (e_binop (e_str (e_item (p := .str s) rfl rfl (add_ss (by omega) (e_str (add_ss ?_ (h _ rfl)))))))))
      have : (("\"" : Str) ++ s).length ≤ 1 + s.length := by
        show (Str.cps _ ++ _).size ≤ _
        rw [Array.size_append]; exact Nat.le_of_eq rfl
      omega
    | others =>
      refine s_cons (s_if (t_cmp (e_item (p := .str "others") rfl rfl (e_str (cmp_eq_ss ⟨_, rfl, ?_⟩)))))
      refine s_nil (s_cons (s_if (t_cmp (e_item (p := .str "others") rfl rfl (e_str (cmp_eq_ss ⟨_, rfl, ?_⟩))))))
      refine s_nil (s_cons (s_raise G (by show 1 ≤ fc.n - 1; exact nSub hn) rfl (l_cons (e_name (p := .int l) rfl (l_cons (e_str (l_nil ⟨l, _, rfl, hx rfl⟩)))))))

theorem plain_core {xs ys : List PV} {hd z r : Str} {j : Nat} (G : g.Ok) (hn : 1 ≤ fc.n) (h0 : xs[0]? = some (.str hd)) (hl : xs.length ≤ 10000) (hj : seqIndex? (-1) xs.length = some j) (hz : xs[j]? = some (.str z)) (lz : z.length ≤ 1000)
    (hy : (at? [(("name" : Str), PV.tup (xs.drop 1)), (("string" : Str), PV.tup [.str (quo z)])] hd).getD (.tup [.str ""]) = .tup ys) (hr : ys[0]? = some (.str r)) (h : ∀ σ', Ext σ σ' → K (.str r) σ') : WC g fc 113 [.tup xs] σ K X := by
  refine WC.enter ["choice"] G ?h (by omega) rfl rfl rfl rfl (by kernel_rfl) rfl rfl rfl (by decide) ?hb ?hk rfl rfl rfl
  case hb => exact len1 fun _ => rfl
  case hk => decide
  case h =>
    intro L hnn
    have q1 : ("\"" : Str).length = 1 := rfl
    have ex : ∀ {σ : Store} {a : Addr} {x y : MO}, σ a = none → Ext σ (upd (upd σ a x) a y) := fun h => by rw [upd_upd]; exact Ext.upd h
    have l1 : 1 ≤ xs.length := by
      have := (List.getElem?_eq_some_iff.mp h0).1; omega
    refine s_cons ?_
    refine s_ret ?_
    refine e_sub ?_
    refine e_get2 ?_ G.lim
    refine e_dict2 (by decide) fun a ha => ?_
    refine e_slice_tup1 (e_name (p := .tup xs) rfl ⟨xs, rfl, l1, hl, ?_⟩)
    refine e_tuple (l_cons ?_)
    refine e_binop (e_binop (e_str ?_))
    refine e_sub (e_name (p := .tup xs) rfl (e_neg1 (sub_tup (j := j) (p := .str z) (by decide) (by decide) hj hz ?_)))
    refine add_ss (by omega) (e_str (add_ss ?_ (l_nil ⟨by simp, ?_⟩)))
    · have : (("\"" : Str) ++ z).length ≤ 1 + z.length := by
        show (Str.cps _ ++ _).size ≤ _
        rw [Array.size_append]; exact Nat.le_of_eq rfl
      omega
    refine ⟨upd_self, a, _, rfl, upd_self, ?_⟩
    refine e_item (p := .str hd) rfl h0 ?_
    refine e_tuple (l_cons (e_str (l_nil ⟨by simp, ?_⟩)))
    refine ⟨_, hd, rfl, upd_self, ?_⟩
    have hy' : (at? [(("name" : Str), PV.tup (xs.drop 1)), (("string" : Str), PV.tup [.str (("\"" : Str) ++ z ++ ("\"" : Str))])] hd).getD (.tup [.str ""]) = .tup ys := hy
    rw [hy']
    exact e_int (sub_tup (j := 0) (p := .str r) (by decide) (by decide) (seq_at (i := 0) (by decide) ((List.getElem?_eq_some_iff.mp hr).1)) hr (h _ (ex ha)))
/-- _law_plain -/
theorem c_plain {c : Ch} (G : g.Ok) (hn : 1 ≤ fc.n) (hs : c.short) (h : ∀ σ', Ext σ σ' → K (.str c.plain) σ') : WC g fc 113 [c.pv] σ K X := by
  cases c with
  | name s => exact plain_core (hd := "name") (j := 1) (z := s) (ys := [.str s]) G hn rfl (by simp) rfl rfl hs rfl rfl h
  | strg s => exact plain_core (hd := "string") (j := 1) (z := s) (ys := [.str (quo s)]) G hn rfl (by simp) rfl rfl hs rfl rfl h
  | others => exact plain_core (hd := "others") (j := 0) (z := "others") (ys := [.str ""]) G hn rfl (by simp) rfl rfl (by decide) rfl rfl h
end
end Mine

namespace Mine

/-- what the table holds where no actual stands -/
noncomputable def dv : PV → PV
  | .none => .none
  | .str s => if s = "box" then .tup [.str "box"] else .tup [.str "default", .str s]
  | p => .tup [.str "default", p]
noncomputable def rowP (d : PV) (n : Str) : PV := .tup [.str n, dv d]
noncomputable def Fm.rows (f : Fm) : List PV := f.names.map (rowP f.dflt)

inductive J4 (ns : List Str) (d : Option Int) (σ : Store) (ps acc : List PV) (σ' : Store) : Prop
  | mk (hs : σ' = σ) (a b : List Str) (h1 : ns = a ++ b) (h2 : ps = b.map .str) (h3 : acc = a.map (rowP (dInt d)))
section
variable {g : Gx} {fc : Fc} {σ : Store} {K : PV → Store → Prop} {X : Int → Store → Prop}
theorem box_ne {p : PV} (h : p = .none ∨ p = .tup [.str "name", .str "other"]) : p.ok = true ∧ p.eq (.str "box") = false := by
  rcases h with rfl | rfl
  · exact ⟨by decide +kernel, by decide +kernel⟩
  · exact ⟨by decide +kernel, by decide +kernel⟩

theorem c_rows {f : Fm} (G : g.Ok) (hn : 1 ≤ fc.n) (hl : f.names.length ≤ 100) (h : K (.fl f.rows) σ) : WC g fc 99 [f.pv] σ K X := by
  refine WC.enter ["formal"] G ?h (by omega) rfl rfl rfl rfl (by kernel_rfl) rfl rfl rfl (by decide) ?hb ?hk rfl rfl rfl
  case hb => exact len1 fun _ => rfl
  case hk => decide
  case h =>
    intro L hnn
    cases f with
    | obj ns d =>
      have hl : ns.length ≤ 100 := hl
      refine s_cons (s_if (t_cmp (e_item (p := .str "fobject") rfl rfl (e_str (cmp_eq_ss ⟨_, rfl, ?_⟩)))))
      refine s_cons ?_
      refine s_ret ?_
      refine e_lcomp1 (c1 := none) (J := J4 ns d σ) rfl ?_ ?_ ?_
      · exact iter_fl (e_item (p := .fl (ns.map .str)) rfl rfl ⟨_, rfl, rfl, rfl, [], ns, rfl, rfl, rfl⟩)
      · rintro D C p ps acc σ' h0 ⟨es, a, b, e, e2, eq⟩
        cases b with
        | nil => (first | exact absurd e2 (List.cons_ne_nil _ _) | exact absurd e2.symm (List.cons_ne_nil _ _) | cases e2)
        | cons n b =>
          injection e2 with e2 e3
          subst e2
          refine ⟨_, tg_name rfl (capt_local (C := C) rfl), t_true ?_⟩
          rw [if_pos rfl]
          have la : a.length ≤ 100 := by rw [e] at hl; simp at hl; omega
          refine e_tuple (l_cons (e_name (p := .str n) rfl (l_cons ?_)))
          cases d with
          | none =>
            refine e_and (e_item (p := .none) rfl rfl ⟨false, rfl, trivial, ?_⟩)
            rw [if_neg (by simp)]
            exact l_nil ⟨by simp, by rw [eq]; simp; omega, σ', rfl, h0, es, a ++ [n], b, by simp [e], e3, by rw [eq]; simp [rowP, dv, dInt]⟩
          | some i =>
            refine e_and (e_item (p := .tup [.str "int", .int i]) rfl rfl ⟨true, rfl, by simp [PV.short], ?_⟩)
            rw [if_pos rfl]
            exact e_tuple (l_cons (e_str (l_cons (e_item (p := .tup [.str "int", .int i]) rfl rfl (l_nil ⟨by simp, l_nil ⟨by simp, by rw [eq]; simp; omega, σ', rfl, h0, es, a ++ [n], b, by simp [e], e3, by rw [eq]; simp [rowP, dv, dInt]⟩⟩)))))
      · rintro D acc σ' h0 ⟨rfl, a, b, e, e2, rfl⟩
        cases b with
        | cons n b => (first | exact absurd e2 (List.cons_ne_nil _ _) | exact absurd e2.symm (List.cons_ne_nil _ _) | cases e2)
        | nil =>
          rw [List.append_nil] at e
          subst e
          exact ⟨_, _, .inr ⟨_, rfl, rfl, rfl⟩, h⟩
    | typ n =>
      refine s_cons (s_if (t_cmp (e_item (p := .str "ftype") rfl rfl (e_str (cmp_eq_ss ⟨_, rfl, ?_⟩)))))
      refine s_nil (s_cons (s_if (t_cmp (e_item (p := .str "ftype") rfl rfl (e_str (cmp_eq_ss ⟨_, rfl, ?_⟩))))))
      refine s_nil (s_cons ?_)
      exact s_ret (e_list_fl (l_cons (e_tuple (l_cons (e_item (p := .str n) rfl rfl (l_cons (e_none (l_nil ⟨by simp, l_nil ⟨by simp, h⟩⟩))))))))
    | pack n =>
      refine s_cons (s_if (t_cmp (e_item (p := .str "fpack") rfl rfl (e_str (cmp_eq_ss ⟨_, rfl, ?_⟩)))))
      refine s_nil (s_cons (s_if (t_cmp (e_item (p := .str "fpack") rfl rfl (e_str (cmp_eq_ss ⟨_, rfl, ?_⟩))))))
      refine s_nil (s_cons ?_)
      exact s_ret (e_list_fl (l_cons (e_tuple (l_cons (e_item (p := .str n) rfl rfl (l_cons (e_none (l_nil ⟨by simp, l_nil ⟨by simp, h⟩⟩))))))))
    | sub n d =>
      refine s_cons (s_if (t_cmp (e_item (p := .str "fsub") rfl rfl (e_str (cmp_eq_ss ⟨_, rfl, ?_⟩)))))
      refine s_nil (s_cons (s_if (t_cmp (e_item (p := .str "fsub") rfl rfl (e_str (cmp_eq_ss ⟨_, rfl, ?_⟩))))))
      refine s_cons ?_
      refine s_set ?_ (.inl rfl)
      refine e_item (p := dSub d) rfl rfl ?_
      refine s_cons ?_
      refine s_ret ?_
      refine e_list_fl (l_cons ?_)
      refine e_tuple (l_cons ?_)
      refine e_sub (e_item (p := .tup [.str "function", .str n, .fl [], .tup [.str "name", .str "integer"]]) rfl rfl (e_int (sub_tup (j := 1) (p := .str n) (by decide) (by decide) rfl rfl ?_)))
      refine l_cons ?_
      refine e_ifexp ?_
      cases d with
      | none =>
        have b := box_ne (p := .none) (.inl rfl)
        refine t_cmp (e_name (p := .none) rfl (e_str (cmp_eq b.1 (by decide +kernel) ⟨_, rfl, ?_⟩)))
        rw [b.2, if_neg (by simp)]
        refine e_and (e_name (p := .none) rfl ⟨false, rfl, trivial, ?_⟩)
        rw [if_neg (by simp)]
        exact l_nil ⟨by simp, l_nil ⟨by simp, h⟩⟩
      | some c => cases c with
        | true =>
          refine t_cmp (e_name (p := .str "box") rfl (e_str (cmp_eq_ss ⟨_, rfl, ?_⟩)))
          rw [if_pos (by decide)]
          exact e_tuple (l_cons (e_str (l_nil ⟨by simp, l_nil ⟨by simp, l_nil ⟨by simp, h⟩⟩⟩)))
        | false =>
          have b := box_ne (p := .tup [.str "name", .str "other"]) (.inr rfl)
          refine t_cmp (e_name (p := .tup [.str "name", .str "other"]) rfl (e_str (cmp_eq b.1 (by decide +kernel) ⟨_, rfl, ?_⟩)))
          rw [b.2, if_neg (by simp)]
          refine e_and (e_name (p := .tup [.str "name", .str "other"]) rfl ⟨true, rfl, by simp [PV.short], ?_⟩)
          rw [if_pos rfl]
          exact e_tuple (l_cons (e_str (l_cons (e_name (p := .tup [.str "name", .str "other"]) rfl (l_nil ⟨by simp, l_nil ⟨by simp, l_nil ⟨by simp, h⟩⟩⟩)))))
end
end Mine

namespace Mine

/-- the names that the law knows -/
noncomputable def known : List Str := ["x", "y", "z", "item", "\"+\"", "\"and\"", "list", "key", "nobody"]
structure NmOk (n : Str) : Prop where
  len : n.length ≤ 100
  one : (slStr n none (some 1)).length ≤ 100
  mid : (slStr n (some 1) (some (-1))).length ≤ 100
  ok : PyData.strOk n = true
theorem known_ok : ∀ n ∈ known, NmOk n := by
  intro n h
  unfold known at h
  simp only [List.mem_cons, List.not_mem_nil, or_false] at h
  rcases h with rfl | rfl | rfl | rfl | rfl | rfl | rfl | rfl | rfl <;> exact ⟨by decide +kernel, by decide +kernel, by decide +kernel, by decide +kernel⟩
theorem ok_strs {ns : List Str} (h : ∀ n ∈ ns, n ∈ known) : (PV.fl (ns.map .str)).ok = true := by
  have h1 : PV.cleans (ns.map .str) = true := by
    induction ns with
    | nil => rfl
    | cons n ns ih =>
      rw [List.map_cons, PV.cleans, ih fun m hm => h m (.tail _ hm), Bool.and_true]
      rw [PV.clean]
      exact (known_ok n (h n (.head _))).ok
  have h2 : ∀ l : List Str, PyData.depthAll (PV.Ds (l.map .str)) = 0 := by
    intro l
    induction l with
    | nil => simp [PV.Ds, PyData.depthAll]
    | cons n l ih => rw [List.map_cons, PV.Ds, PyData.depthAll, ih]; simp [PV.D, PyData.depth]
  unfold PV.ok
  rw [PV.clean, h1, PV.D, PyData.depth, h2]
  rfl
theorem eq_nil (ps : List PV) : (PV.fl ps).eq (.fl []) = ps.isEmpty := by
  cases ps with
  | nil => simp [PV.eq, PV.D, PV.Ds, PyData.eqv, PyData.eqvAll]
  | cons p ps => simp [PV.eq, PV.D, PV.Ds, PyData.eqv, PyData.eqvAll]
theorem ok_nil : (PV.fl []).ok = true := by decide +kernel
theorem ok_int (i : Int) : (PV.int i).ok = true := by simp [PV.ok, PV.clean, PV.D, PyData.depth]
noncomputable def fdOf (P : Params) (a : Addr) : FuncData := match (KF P).lookup a with | some o => (match o.data with | .func fd => fd | _ => default) | none => default
noncomputable def bodyOf (P : Params) (a : Addr) : List Stmt := match (fdOf P a).body with | .stmts b => b | _ => []
/-- what a name becomes in an association -/
noncomputable def chOf (n : Str) : Ch := if slStr n none (some 1) = "\"" then .strg (slStr n (some 1) (some (-1))) else .name n
theorem chOf_short {n : Str} (h : n ∈ known) : (chOf n).short := by
  have k := known_ok n h
  unfold chOf
  split
  · show _ ≤ 1000; have := k.mid; omega
  · show _ ≤ 1000; have := k.len; omega

section
variable {g : Gx} {fc : Fc} {σ : Store} {K : PV → Store → Prop} {X : Int → Store → Prop}
theorem part_none {fc : Fc} : ∀ s Q E, (∀ s' t, s' = { s with toks := s'.toks } → Q (partValue ((none : Option Int).map (·, t))) s') → wpAny g.M fc.A (evalPart none fc.env) Q E s := fun s Q E h => by
  rw [evalPart_none]; exact wpAny_pure (h s 0 rfl)
theorem part_int {fc : Fc} {i : Int} {k : Nat} {p : Pos} : ∀ s Q E, (∀ s' t, s' = { s with toks := s'.toks } → Q (partValue ((some i : Option Int).map (·, t))) s') → wpAny g.M fc.A (evalPart (some (.Constant (.int i) k p)) fc.env) Q E s := fun s Q E h => by
  rw [evalPart_some]; exact wpAny_Constant_int (h _ _ rfl)
theorem part_neg1 {fc : Fc} {k : Nat} {p p2 : Pos} : ∀ s Q E, (∀ s' t, s' = { s with toks := s'.toks } → Q (partValue ((some (-1) : Option Int).map (·, t))) s') → wpAny g.M fc.A (evalPart (some (.UnaryOp .USub (.Constant (.int 1) k p) p2)) fc.env) Q E s := fun s Q E h => by
  rw [evalPart_some]
  show wpAny _ _ (do let v ← eval (.Constant (.int 1) k p) fc.env; standAt p2; holding [v] (unaryOp .USub v)) _ _ s
  exact wpAny_bind (wpAny_Constant_int (wpAny_bind (wpAny_standAt (wpAny_holding (PyProof.Rows.neg_int (h _ _ rfl))))))

/-- _law_choice -/
theorem c_choice {wl : Addr} {cs : List Int} {k : Nat} {ns : List Str} (G : g.Ok) (hn : 2 ≤ fc.n) (hw : σ wl = some (wellO cs k)) (hk : k ≤ 90000) (hcs : cs.length ≤ 10000) (hns : ∀ n ∈ ns, n ∈ known) (hl : ns.length ≤ 1000)
    (h : ∀ c k', Ch.short c → k' ≤ k + 2 → K c.pv (upd σ wl (wellO cs k'))) : WC g fc 106 [.ref wl, .fl (ns.map .str)] σ K X := by
  refine WC.enter ["well", "names"] G ?h (by omega) rfl rfl rfl rfl (by kernel_rfl) rfl rfl rfl (by decide) ?hb ?hk rfl rfl rfl
  case hb => exact len2 fun _ _ => rfl
  case hk => decide
  case h =>
    intro L hnn
    refine s_cons ?_
    refine s_set ?_ (.inl rfl)
    refine e_call G (n_tell _) (k_tell _) rfl (l_cons (e_name (p := .ref wl) rfl (l_cons (e_int (l_nil ?_)))))
    refine c_tell G (by show 1 ≤ fc.n - 1; exact nSub hn) hw (by omega) hcs (by decide) fun r hr => ?_
    refine s_cons ?_
    refine s_if ?_
    refine t_cmp (e_name (p := .int r) rfl (e_int (cmp_eq (ok_int _) (ok_int _) ⟨_, rfl, ?_⟩)))
    rw [eq_ii]
    by_cases c1 : ((r : Int) == 11) = true
    · rw [if_pos c1]
      exact s_cons (s_ret (e_tuple (l_cons (e_str (l_nil ⟨by simp, h .others (k + 1) trivial (by omega)⟩)))))
    · rw [if_neg c1]
      refine s_nil ?_
      refine s_cons ?_
      refine s_set ?_ (.inl rfl)
      have last : ∀ (n : Str) (k' : Nat) (m : Str → Option PV), n ∈ known → k' ≤ k + 2 → m "name" = some (.str n) → WS g (fc.into (callEnvC (fdOf g.w.params 106) L 106)) (execs ((bodyOf g.w.params 106).drop 3) (fc.into (callEnvC (fdOf g.w.params 106) L 106)).env) ⟨m, upd σ wl (wellO cs k')⟩ (fun fl st' => K (match fl with | .ret p => p | _ => .none) st'.σ) (fun l st' => X l st'.σ) := fun n k' m hn hk' hm => by
        have ok := known_ok n hn
        refine s_cons ?_
        refine s_ret ?_
        refine e_ifexp ?_
        refine t_cmp ?_
        refine e_slice_str (l := none) (u := some 1) (e_name hm ⟨n, rfl, by have := ok.one; omega, ?_⟩) part_none part_int
        refine e_str (cmp_eq_ss ⟨_, rfl, ?_⟩)
        by_cases c : slStr n none (some 1) = "\""
        · rw [c, if_pos (by decide)]
          refine e_tuple (l_cons (e_str (l_cons ?_)))
          refine e_slice_str (l := some 1) (u := some (-1)) (e_name hm ⟨n, rfl, by have := ok.mid; omega, ?_⟩) part_int part_neg1
          refine l_nil ⟨by simp, ?_⟩
          have := h (chOf n) k' (chOf_short hn) hk'
          unfold chOf at this
          rw [if_pos c] at this
          exact this
        · rw [if_neg (by simpa using c)]
          refine e_tuple (l_cons (e_str (l_cons (e_name hm (l_nil ⟨by simp, ?_⟩)))))
          have := h (chOf n) k' (chOf_short hn) hk'
          unfold chOf at this
          rw [if_neg c] at this
          exact this
      refine e_ifexp ?_
      refine t_or ?_
      refine t_cmp (e_name (p := .int r) rfl (e_int (cmp_eq (ok_int _) (ok_int _) ⟨_, rfl, ?_⟩)))
      rw [eq_ii]
      by_cases c2 : ((r : Int) == 10) = true
      · rw [if_pos c2]
        exact e_str (last "nobody" (k + 1) _ (by decide +kernel) (by omega) rfl)
      · rw [if_neg c2]
        refine t_cmp (e_name (p := .fl (ns.map .str)) rfl (e_list_fl (l_nil ⟨by simp, cmp_eq (ok_strs hns) ok_nil ⟨_, rfl, ?_⟩⟩)))
        rw [eq_nil]
        by_cases e0 : ns = []
        · rw [if_pos (by simp [e0])]
          exact e_str (last "nobody" (k + 1) _ (by decide +kernel) (by omega) rfl)
        · rw [if_neg (by simpa using e0)]
          have pos : 0 < ns.length := List.length_pos_iff.mpr e0
          refine e_sub (e_name (p := .fl (ns.map .str)) rfl ?_)
          refine e_call G (n_tell _) (k_tell _) rfl (l_cons (e_name (p := .ref wl) rfl (l_cons (e_len G rfl (e_name (p := .fl (ns.map .str)) rfl ⟨ns.length, by omega, by simp, l_nil ?_⟩)))))
          refine c_tell (k := k + 1) G (by show 1 ≤ fc.n - 1; exact nSub hn) upd_self (by omega) hcs (by omega) fun q hq => ?_
          rw [upd_upd]
          have hq' : q < ns.length := by omega
          refine sub_fl (p := .str (ns[q]'hq')) (by omega) (by omega) (by simp [hq']) ?_
          exact last (ns[q]'hq') (k + 1 + 1) _ (hns _ (List.getElem_mem hq')) (by omega) rfl
end
end Mine

namespace Mine

section
variable {g : Gx} {fc : Fc} {σ : Store} {K : PV → Store → Prop} {X : Int → Store → Prop}
/-- _law_formal -/
theorem c_formal {wl : Addr} {cs : List Int} {k : Nat} {n : Str} {ms : List Str} (G : g.Ok) (hn : 2 ≤ fc.n) (hw : σ wl = some (wellO cs k)) (hk : k ≤ 90000) (hcs : cs.length ≤ 10000) (hl : ms.length ≤ 10)
    (h : ∀ f k', (f.names = [n] ∨ f.names = n :: ms) → k' ≤ k + 3 → K (Fm.pv f) (upd σ wl (wellO cs k'))) : WC g fc 94 [.ref wl, .str n, .fl (ms.map .str)] σ K X := by
  refine WC.enter ["well", "name", "more"] G ?h (by omega) rfl rfl rfl rfl (by kernel_rfl) rfl rfl rfl (by decide) ?hb ?hk rfl rfl rfl
  case hb => exact len3 fun _ _ _ => rfl
  case hk => decide
  case h =>
    intro L hnn
    refine s_cons ?_
    refine s_set ?_ (.inl rfl)
    refine e_call G (n_tell _) (k_tell _) rfl (l_cons (e_name (p := .ref wl) rfl (l_cons (e_int (l_nil ?_)))))
    refine c_tell G (by show 1 ≤ fc.n - 1; exact nSub hn) hw (by omega) hcs (by decide) fun r hr => ?_
    refine s_cons ?_
    refine s_if ?_
    refine t_cmp (e_name (p := .int r) rfl (e_int (cmp_eq (ok_int _) (ok_int _) ⟨_, rfl, ?_⟩)))
    rw [eq_ii]
    by_cases c1 : ((r : Int) == 0) = true
    · rw [if_pos c1]
      refine s_cons ?_
      refine s_set ?_ (.inl rfl)
      refine e_ifexp ?_
      refine t_cmp ?_
      refine e_call G (n_tell _) (k_tell _) rfl (l_cons (e_name (p := .ref wl) rfl (l_cons (e_int (l_nil ?_)))))
      refine c_tell (k := k + 1) G (by show 1 ≤ fc.n - 1; exact nSub hn) upd_self (by omega) hcs (by decide) fun q hq => ?_
      rw [upd_upd]
      refine e_int (cmp_eq (ok_int _) (ok_int _) ⟨_, rfl, ?_⟩)
      rw [eq_ii]
      by_cases c2 : ((q : Int) == 1) = true
      · rw [if_pos c2]
        refine e_tuple (l_cons (e_str (l_cons ?_)))
        refine e_call G (n_tell _) (k_tell _) rfl (l_cons (e_name (p := .ref wl) rfl (l_cons (e_int (l_nil ?_)))))
        refine c_tell (k := k + 1 + 1) G (by show 1 ≤ fc.n - 1; exact nSub hn) upd_self (by omega) hcs (by decide) fun v hv => ?_
        rw [upd_upd]
        refine l_nil ⟨by simp, ?_⟩
        refine s_cons ?_
        refine s_ret ?_
        refine e_tuple (l_cons (e_str (l_cons (e_int (l_cons ?_)))))
        refine e_binop (e_list_fl (l_cons (e_name (p := .str n) rfl (l_nil ⟨by simp, e_name (p := .fl (ms.map .str)) rfl (add_ff (by simp; omega) ?_)⟩))))
        refine l_cons (e_str (l_cons ?_))
        refine e_tuple (l_cons (e_str (l_cons (e_str (l_nil ⟨by simp, l_cons (e_name (p := dInt (some v)) rfl (l_nil ⟨by simp, ?_⟩))⟩)))))
        exact h (.obj (n :: ms) (some v)) (k + 1 + 1 + 1) (.inr rfl) (by omega)
      · rw [if_neg c2]
        refine e_none ?_
        refine s_cons ?_
        refine s_ret ?_
        refine e_tuple (l_cons (e_str (l_cons (e_int (l_cons ?_)))))
        refine e_binop (e_list_fl (l_cons (e_name (p := .str n) rfl (l_nil ⟨by simp, e_name (p := .fl (ms.map .str)) rfl (add_ff (by simp; omega) ?_)⟩))))
        refine l_cons (e_str (l_cons ?_))
        refine e_tuple (l_cons (e_str (l_cons (e_str (l_nil ⟨by simp, l_cons (e_name (p := dInt (none)) rfl (l_nil ⟨by simp, ?_⟩))⟩)))))
        exact h (.obj (n :: ms) (none)) (k + 1 + 1) (.inr rfl) (by omega)
    · rw [if_neg c1]
      refine s_nil ?_
      refine s_cons ?_
      refine s_if ?_
      refine t_cmp (e_name (p := .int r) rfl (e_int (cmp_eq (ok_int _) (ok_int _) ⟨_, rfl, ?_⟩)))
      rw [eq_ii]
      by_cases c2 : ((r : Int) == 1) = true
      · rw [if_pos c2]
        refine s_cons ?_
        refine s_ret ?_
        refine e_tuple (l_cons (e_str (l_cons (e_int (l_cons (e_name (p := .str n) rfl (l_cons (e_none (l_cons ?_)))))))))
        refine e_tuple (l_cons (e_str (l_nil ⟨by simp, l_nil ⟨by simp, ?_⟩⟩)))
        exact h (.typ n) (k + 1) (.inl rfl) (by omega)
      · rw [if_neg c2]
        refine s_nil ?_
        refine s_cons ?_
        refine s_if ?_
        refine t_cmp (e_name (p := .int r) rfl (e_int (cmp_eq (ok_int _) (ok_int _) ⟨_, rfl, ?_⟩)))
        rw [eq_ii]
        by_cases c3 : ((r : Int) == 2) = true
        · rw [if_pos c3]
          refine s_cons ?_
          refine s_set ?_ (.inl rfl)
          refine e_sub ?_
          refine e_tuple (l_cons (e_none (l_cons (e_str (l_cons ?_)))))
          refine e_tuple (l_cons (e_str (l_cons (e_str (l_nil ⟨by simp, l_nil ⟨by simp, ?_⟩⟩)))))
          refine e_call G (n_tell _) (k_tell _) rfl (l_cons (e_name (p := .ref wl) rfl (l_cons (e_int (l_nil ?_)))))
          refine c_tell (k := k + 1) G (by show 1 ≤ fc.n - 1; exact nSub hn) upd_self (by omega) hcs (by decide) fun q hq => ?_
          rw [upd_upd]
          have ex : ∃ d : Option Bool, ([PV.none, .str "box", .tup [.str "name", .str "other"]] : List PV)[q]? = some (dSub d) := by
            have : q = 0 ∨ q = 1 ∨ q = 2 := by omega
            rcases this with rfl | rfl | rfl
            · exact ⟨none, rfl⟩
            · exact ⟨some true, rfl⟩
            · exact ⟨some false, rfl⟩
          obtain ⟨d, hd⟩ := ex
          refine sub_tup (j := q) (p := dSub d) (by omega) (by omega) (by
            have := seq_at (i := (q : Int)) (n := 3) (by omega) (by omega)
            simpa using this) hd ?_
          refine s_cons ?_
          refine s_ret ?_
          refine e_tuple (l_cons (e_str (l_cons (e_int (l_cons ?_)))))
          refine e_tuple (l_cons (e_str (l_cons (e_name (p := .str n) rfl (l_cons (e_list_fl (l_nil ⟨by simp, l_cons ?_⟩)))))))
          refine e_tuple (l_cons (e_str (l_cons (e_str (l_nil ⟨by simp, l_nil ⟨by simp, l_cons (e_name (p := dSub d) rfl (l_nil ⟨by simp, ?_⟩))⟩⟩)))))
          exact h (.sub n d) (k + 1 + 1) (.inl rfl) (by omega)
        · rw [if_neg c3]
          refine s_nil ?_
          refine s_cons ?_
          refine s_ret ?_
          refine e_tuple (l_cons (e_str (l_cons (e_int (l_cons (e_name (p := .str n) rfl (l_cons ?_)))))))
          refine e_tuple (l_cons (e_str (l_cons (e_str (l_nil ⟨by simp, l_cons (e_str (l_nil ⟨by simp, ?_⟩))⟩)))))
          exact h (.pack n) (k + 1) (.inl rfl) (by omega)
end
end Mine

namespace Mine

noncomputable abbrev Names := Str → Option PV
noncomputable def Le (M m : Names) : Prop := ∀ x p, M x = some p → m x = some p
theorem Le.refl {m : Names} : Le m m := fun _ _ e => e
theorem Le.setm {M m : Names} {x : Str} {p : PV} (h : Le M m) (h0 : M x = none) : Le M (setm m x p) := fun y q e => by
  unfold Mine.setm; split
  · rename_i z; rw [z, h0] at e; cases e
  · exact h y q e
theorem Le.trans {a b c : Names} (x : Le a b) (y : Le b c) : Le a c := fun n p e => y n p (x n p e)
theorem Le.sub {m : Names} {x : Str} {p : PV} (h0 : m x = none) : Le m (Mine.setm m x p) := Le.refl.setm h0

section
variable {g : Gx} {fc : Fc} {st : AS} {X : Int → AS → Prop}
/-- a loop over names that stay and a store -/
theorem s_forM {target iter : Expr} {body : List Stmt} {pos : Pos} {M : Names} {J : List PV → Store → Prop} {K : AF → AS → Prop}
    (h : IterW g fc iter st (fun ps st₁ => Le M st₁.m ∧ J ps st₁.σ) X)
    (turn : ∀ p ps σ, J (p :: ps) σ → WAs g fc target p ⟨M, σ⟩ (fun st₁ => WS g fc (execs body fc.env) st₁ (loopK (fun st₂ => Le M st₂.m ∧ J ps st₂.σ) K) X) X)
    (fin : ∀ m σ, Le M m → J [] σ → K .next ⟨m, σ⟩)
    (hs : ∀ x, foldedSetIterable iter fc.env x = pure x := by intro _; rfl) : WS g fc (exec (.For target iter body [] pos) fc.env) st K X :=
  s_for (J := fun ps st => Le M st.m ∧ J ps st.σ) h (fun p ps st j => WAs.forget j.1 (turn p ps st.σ j.2)) (fun st j => fin st.m st.σ j.1 j.2) hs
end

noncomputable def pairsOf (fs : List Fm) : List (Str × PV) := fs.flatMap fun f => f.names.map fun n => (n, f.dflt)
noncomputable def addAll : List (Str × PV) → List (Str × PV) → Option (List (Str × PV))
  | es, [] => some es
  | es, (n, d) :: r => if (at? es n).isSome = true then none else addAll (put es n d) r
noncomputable def addP (ds : List (Str × PV)) (node : PV) : List (Str × PV) → List Str → Option (List (Str × PV))
  | found, [] => some found
  | found, n :: r => if (at? ds n).isSome = true then (if (at? found n).isSome = true then none else addP ds node (put found n (.tup [.str "actual", node])) r) else none
noncomputable def namesOf : List Ch → Option (List Str)
  | [] => some []
  | c :: r => match c.nm with
    | none => none
    | some s => (namesOf r).map (s :: ·)
noncomputable abbrev As := List (Option (List Ch) × PV)
noncomputable def step2 (order : List Str) (ds : List (Str × PV)) : Nat → As → List (Str × PV) → Bool → Option (List (Str × PV))
  | _, [], found, _ => some found
  | spot, (none, node) :: r, found, named => if named = true then none else match order[spot]? with
    | none => none
    | some n => match addP ds node found [n] with
      | none => none
      | some f' => step2 order ds (spot + 1) r f' named
  | spot, (some cs, node) :: r, found, _ => match namesOf cs with
    | none => none
    | some ns => match addP ds node found ns with
      | none => none
      | some f' => step2 order ds (spot + 1) r f' true
noncomputable def fill (ds : List (Str × PV)) : List (Str × PV) → List Str → Option (List (Str × PV))
  | found, [] => some found
  | found, n :: r => if (at? found n).isSome = true then fill ds found r else match at? ds n with
    | none => none
    | some .none => none
    | some d => fill ds (put found n (dv d)) r
noncomputable def matchS (fs : List Fm) (as : As) : Option (List (Str × PV)) :=
  match addAll [] (pairsOf fs) with
  | none => none
  | some ds => match step2 ((pairsOf fs).map (·.1)) ds 0 as [] false with
    | none => none
    | some found => fill ds found ((pairsOf fs).map (·.1))

theorem addAll_append : ∀ (a b es : List (Str × PV)), addAll es (a ++ b) = (addAll es a).bind fun es' => addAll es' b
  | [], b, es => rfl
  | (n, d) :: a, b, es => by
    rw [List.cons_append, addAll, addAll]
    split
    · rfl
    · exact addAll_append a b _
/-- defaults of formals -/
noncomputable def isDef (d : PV) : Prop := d = .none ∨ d = .str "box" ∨ d = .tup [.str "name", .str "other"] ∨ ∃ i, d = .tup [.str "int", .int i]
theorem Fm.isDef (f : Fm) : isDef f.dflt := by
  cases f with
  | obj ns d => cases d with
    | none => exact .inl rfl
    | some i => exact .inr (.inr (.inr ⟨i, rfl⟩))
  | typ n => exact .inl rfl
  | pack n => exact .inl rfl
  | sub n d => cases d with
    | none => exact .inl rfl
    | some b => cases b with
      | true => exact .inr (.inl rfl)
      | false => exact .inr (.inr (.inl rfl))
theorem isDef.ok {d : PV} (h : Mine.isDef d) : d.ok = true := by
  rcases h with rfl | rfl | rfl | ⟨i, rfl⟩
  · decide +kernel
  · decide +kernel
  · decide +kernel
  · have : PyData.strOk "int" = true := by decide +kernel
    simp [PV.ok, PV.clean, PV.cleans, PV.D, PV.Ds, PyData.depth, PyData.depthAll, this]
theorem isDef.box {d : PV} (h : Mine.isDef d) : d.eq (.str "box") = true ↔ d = .str "box" := by
  rcases h with rfl | rfl | rfl | ⟨i, rfl⟩
  · exact ⟨fun z => absurd z (by decide +kernel), fun z => by cases z⟩
  · exact ⟨fun _ => rfl, fun _ => by decide +kernel⟩
  · exact ⟨fun z => absurd z (by decide +kernel), fun z => by cases z⟩
  · refine ⟨fun z => ?_, fun z => by cases z⟩
    simp [PV.eq, PV.D, PyData.eqv] at z
end Mine

namespace Mine

theorem put_len (es : List (Str × PV)) (k : Str) (p : PV) : (put es k p).length ≤ es.length + 1 := by
  unfold put; split <;> simp
noncomputable abbrev fcM (g : Gx) (fc : Fc) (L : Addr) : Fc := fc.into (callEnvC (fdOf g.w.params 79) L 79)

inductive J8 (ds found : List (Str × PV)) (ns : List Str) (fa da : Addr) (σ0 : Store) (ps : List PV) (σ : Store) : Prop
  | mk (fnd : List (Str × PV)) (rest : List Str) (h1 : ps = rest.map .str) (h2 : σ fa = some (.dct fnd)) (h3 : σ da = some (.dct ds)) (h4 : Ext σ0 σ) (h5 : fill ds fnd rest = fill ds found ns) (h6 : ∀ n ∈ rest, ∃ d, at? ds n = some d ∧ isDef d) (h7 : fnd.length + rest.length ≤ 5000)
section
variable {g : Gx} {fc : Fc} {K : AF → AS → Prop} {X : Int → AS → Prop}
theorem m_ph3 {L : Addr} {m : Names} {σ0 σ : Store} {fa da : Addr} {ds found : List (Str × PV)} {ns : List Str} {l : Int} (G : g.Ok) (hn : 2 ≤ fc.n)
    (hm : Le (fun x => List.lookup x ([("order", .fl (ns.map .str)), ("defaults", .ref da), ("found", .ref fa), ("line", .int l)] : List (Str × PV))) m)
    (hf : σ fa = some (.dct found)) (hd : σ da = some (.dct ds)) (hne : fa ≠ da) (h0 : σ0 fa = none) (he : Ext σ0 σ) (hk : ∀ n ∈ ns, ∃ d, at? ds n = some d ∧ isDef d) (hl : found.length + ns.length ≤ 5000) (hl2 : ds.length ≤ 5000)
    (h : ∀ es m' σ', fill ds found ns = some es → Ext σ0 σ' → σ' fa = some (.dct es) → K (.ret (.ref fa)) ⟨m', σ'⟩) (hx : ∀ m' σ', fill ds found ns = none → Ext σ0 σ' → X l ⟨m', σ'⟩) :
    WS g (fcM g fc L) (execs ((bodyOf g.w.params 79).drop 6) (fcM g fc L).env) ⟨m, σ⟩ K X := by
  refine Wp.forget hm ?_
  refine s_cons ?_
  refine s_forM (M := fun x => List.lookup x ([("order", .fl (ns.map .str)), ("defaults", .ref da), ("found", .ref fa), ("line", .int l)] : List (Str × PV)))
    (J := J8 ds found ns fa da σ0) ?_ ?_ ?_
  · exact iter_fl (e_name (p := .fl (ns.map .str)) rfl ⟨_, rfl, Le.refl, found, ns, rfl, hf, hd, he, rfl, hk, hl⟩)
  · rintro p ps σ ⟨fnd, rest, e, hf, hd, he, hs, hk, hl⟩
    cases rest with
    | nil => (first | exact absurd e (List.cons_ne_nil _ _) | exact absurd e.symm (List.cons_ne_nil _ _) | cases e)
    | cons n rest =>
      injection e with e1 e2
      subst e1
      obtain ⟨d, hda, hdef⟩ := hk n (.head _)
      refine as_name ?_ (.inl rfl)
      refine s_cons ?_
      refine s_if ?_
      refine t_cmp (e_name (p := .str n) rfl (e_name (p := .ref fa) rfl (cmp_notin G.lim hf ⟨_, rfl, ?_⟩)))
      rw [fill] at hs
      have le : ∀ {M : Names} {p : PV}, M "name" = none → Le M (setm M "name" p) := fun h => Le.sub h
      cases hq : (at? fnd n).isSome with
      | true =>
        rw [hq, if_pos rfl] at hs
        rw [if_neg (by simp)]
        exact s_nil (s_nil ⟨le rfl, fnd, rest, e2, hf, hd, he, hs, fun x hx => hk x (.tail _ hx), by simp at hl ⊢; omega⟩)
      | false =>
        rw [hq, if_neg (by simp), hda] at hs
        rw [if_pos (by simp)]
        refine s_cons ?_
        refine s_if ?_
        refine t_cmp ?_
        refine e_sub (e_name (p := .ref da) rfl (e_name (p := .str n) rfl (sub_dict hd hda ?_)))
        refine e_none (cmp_is_none ⟨_, rfl, ?_⟩)
        cases hnd : d.isNone with
        | true =>
          have : d = .none := by cases d <;> first | rfl | cases hnd
          subst this
          rw [if_pos rfl]
          refine s_cons ?_
          refine s_raise G (by show 1 ≤ fc.n - 1; exact nSub hn) rfl (l_cons (e_name (p := .int l) rfl (l_cons (e_str (l_nil ⟨l, _, rfl, hx _ _ hs.symm he⟩)))))
        | false =>
          rw [if_neg (by simp)]
          refine s_nil ?_
          refine s_cons ?_
          have hs' : fill ds (put fnd n (dv d)) rest = fill ds found ns := by
            cases d <;> first | exact hs | cases hnd
          have go : ∀ m, Le (fun x => List.lookup x ([("order", .fl (ns.map .str)), ("defaults", .ref da), ("found", .ref fa), ("line", .int l)] : List (Str × PV))) m →
              Le (fun x => List.lookup x ([("order", .fl (ns.map .str)), ("defaults", .ref da), ("found", .ref fa), ("line", .int l)] : List (Str × PV))) m ∧
              J8 ds found ns fa da σ0 ps (upd σ fa (.dct (put fnd n (dv d)))) := fun m hm =>
            ⟨hm, put fnd n (dv d), rest, e2, upd_self, (upd_ne (Ne.symm hne)).trans hd, fun b mo e => (upd_ne (fun z => by rw [z, h0] at e; cases e)).trans (he b mo e), hs', fun x hx => hk x (.tail _ hx), by have := put_len fnd n (dv d); simp at hl ⊢; omega⟩
          refine s_put ?_
          refine e_ifexp ?_
          refine t_cmp ?_
          refine e_sub (e_name (p := .ref da) rfl (e_name (p := .str n) rfl (sub_dict hd hda ?_)))
          refine e_str (cmp_eq hdef.ok (by decide +kernel) ⟨_, rfl, ?_⟩)
          cases hb : d.eq (.str "box") with
          | true =>
            have := hdef.box.mp hb
            subst this
            rw [if_pos rfl]
            refine e_tuple (l_cons (e_str (l_nil ⟨by simp, ?_⟩)))
            refine e_name (p := .ref fa) rfl (e_name (p := .str n) rfl ⟨fa, n, fnd, rfl, rfl, hf, by omega, ?_⟩)
            exact s_nil (s_nil (go _ (le rfl)))
          | false =>
            rw [if_neg (by simp)]
            have hdv : dv d = .tup [.str "default", d] := by
              rcases hdef with rfl | rfl | rfl | ⟨i, rfl⟩
              · cases hnd
              · exact absurd hb (by rw [(isDef.box (.inr (.inl rfl))).mpr rfl]; simp)
              · rfl
              · rfl
            refine e_tuple (l_cons (e_str (l_cons ?_)))
            refine e_sub (e_name (p := .ref da) rfl (e_name (p := .str n) rfl (sub_dict hd hda (l_nil ⟨by simp, ?_⟩))))
            refine e_name (p := .ref fa) rfl (e_name (p := .str n) rfl ⟨fa, n, fnd, rfl, rfl, hf, by omega, ?_⟩)
            rw [← hdv]
            exact s_nil (s_nil (go _ (le rfl)))
  · rintro m' σ' hm' ⟨fnd, rest, e, hf, hd, he, hs, hk, hl⟩
    cases rest with
    | cons n rest => (first | exact absurd e (List.cons_ne_nil _ _) | exact absurd e.symm (List.cons_ne_nil _ _) | cases e)
    | nil =>
      refine Wp.forget hm' ?_
      refine s_cons (s_ret (e_name (p := .ref fa) rfl ?_))
      exact h fnd _ _ hs.symm he hf
end
end Mine

namespace Mine

noncomputable def forBody : List Stmt → List Stmt
  | .For _ _ b _ _ :: _ => b
  | _ => []
noncomputable def asPV (a : Option (List Ch) × PV) : PV := .tup [(match a.1 with | none => .none | some cs => .fl (cs.map Ch.pv)), a.2]
theorem Ext.none {σ σ' : Store} {a : Addr} (h : Ext σ σ') (e : σ' a = none) : σ a = none := by
  cases q : σ a with
  | none => rfl
  | some mo => rw [h a mo q] at e; cases e
theorem namesOf_snoc : ∀ {a : List Ch} {na : List Str} {c : Ch} {s : Str}, namesOf a = some na → c.nm = some s → namesOf (a ++ [c]) = some (na ++ [s])
  | [], na, c, s, h, hc => by cases h; simp [namesOf, hc]
  | x :: a, na, c, s, h, hc => by
    rw [List.cons_append]
    unfold namesOf at h ⊢
    cases hx : x.nm with
    | none => rw [hx] at h; cases h
    | some y =>
      rw [hx] at h
      simp only at h ⊢
      cases ha : namesOf a with
      | none => rw [ha] at h; cases h
      | some l => rw [ha] at h; cases h; rw [namesOf_snoc ha hc]; rfl
theorem namesOf_none : ∀ {a : List Ch} {c : Ch} {b : List Ch}, c.nm = none → namesOf (a ++ c :: b) = none
  | [], c, b, h => by simp [namesOf, h]
  | x :: a, c, b, h => by
    rw [List.cons_append]
    unfold namesOf
    rw [namesOf_none h]
    cases x.nm <;> rfl

inductive J9 (ds found : List (Str × PV)) (node : PV) (nms : List Str) (fa da : Addr) (m : Names) (σ0 : Store) (ps : List PV) (st : AS) : Prop
  | mk (hm : ∀ x : Str, x ≠ "name" → st.m x = m x) (fnd : List (Str × PV)) (rest : List Str) (h1 : ps = rest.map .str) (h2 : st.σ fa = some (.dct fnd)) (h3 : st.σ da = some (.dct ds)) (h4 : Ext σ0 st.σ) (h5 : addP ds node fnd rest = addP ds node found nms) (h6 : fnd.length + rest.length ≤ found.length + nms.length)
section
variable {g : Gx} {fc : Fc} {K : AF → AS → Prop} {X : Int → AS → Prop}
theorem m_names {L : Addr} {m : Names} {σ0 σ : Store} {fa da : Addr} {ds found : List (Str × PV)} {nms : List Str} {node : PV} {l : Int} (G : g.Ok) (hn : 2 ≤ fc.n)
    (hm : Le (fun x => List.lookup x ([("names", .fl (nms.map .str)), ("defaults", .ref da), ("found", .ref fa), ("line", .int l), ("node", node)] : List (Str × PV))) m)
    (hf : σ fa = some (.dct found)) (hd : σ da = some (.dct ds)) (hne : fa ≠ da) (h0 : σ0 fa = none) (he : Ext σ0 σ) (hl : found.length + nms.length ≤ 5000) (hl2 : ds.length ≤ 5000)
    (h : ∀ es m' σ', addP ds node found nms = some es → es.length ≤ found.length + nms.length → Ext σ0 σ' → σ' fa = some (.dct es) → σ' da = some (.dct ds) → (∀ x : Str, x ≠ "name" → m' x = m x) → K .next ⟨m', σ'⟩) (hx : ∀ m' σ', addP ds node found nms = none → Ext σ0 σ' → X l ⟨m', σ'⟩) :
    WS g (fcM g fc L) (execs ((forBody ((bodyOf g.w.params 79).drop 5)).drop 2) (fcM g fc L).env) ⟨m, σ⟩ K X := by
  refine s_cons ?_
  refine s_for (J := J9 ds found node nms fa da m σ0) ?_ ?_ ?_
  · exact iter_fl (e_name (p := .fl (nms.map .str)) (hm _ _ rfl) ⟨_, rfl, fun _ _ => rfl, found, nms, rfl, hf, hd, he, rfl, Nat.le_refl _⟩)
  · rintro p ps ⟨m1, σ⟩ ⟨hmm, fnd, rest, e, hf, hd, he, hs, hlr⟩
    simp only at hmm hf hd he
    cases rest with
    | nil => (first | exact absurd e (List.cons_ne_nil _ _) | exact absurd e.symm (List.cons_ne_nil _ _) | cases e)
    | cons n rest =>
      injection e with e1 e2
      subst e1
      have look : ∀ (y : Str) (q : PV), y ≠ "name" → List.lookup y ([("names", .fl (nms.map .str)), ("defaults", .ref da), ("found", .ref fa), ("line", .int l), ("node", node)] : List (Str × PV)) = some q → setm m1 "name" (.str n) y = some q := fun y q hy e => by
        rw [setm_ne hy, hmm y hy]; exact hm y q e
      refine as_name ?_ (.inl rfl)
      refine s_cons ?_
      refine s_if ?_
      refine t_cmp (e_name (p := .str n) rfl (e_name (p := .ref da) (look "defaults" _ (by decide) rfl) (cmp_notin G.lim hd ⟨_, rfl, ?_⟩)))
      rw [addP] at hs
      cases hq : (at? ds n).isSome with
      | false =>
        rw [hq, if_neg (by simp)] at hs
        rw [if_pos (by simp)]
        refine s_cons ?_
        refine s_raise G (by show 1 ≤ fc.n - 1; exact nSub hn) rfl (l_cons (e_name (p := .int l) (look "line" _ (by decide) rfl) (l_cons (e_str (l_nil ⟨l, _, rfl, hx _ _ hs.symm he⟩)))))
      | true =>
        rw [hq, if_pos rfl] at hs
        rw [if_neg (by simp)]
        refine s_nil ?_
        refine s_cons ?_
        refine s_if ?_
        refine t_cmp (e_name (p := .str n) rfl (e_name (p := .ref fa) (look "found" _ (by decide) rfl) (cmp_in G.lim hf ⟨_, rfl, ?_⟩)))
        cases hq2 : (at? fnd n).isSome with
        | true =>
          rw [hq2, if_pos rfl] at hs
          rw [if_pos rfl]
          refine s_cons ?_
          refine s_raise G (by show 1 ≤ fc.n - 1; exact nSub hn) rfl (l_cons (e_name (p := .int l) (look "line" _ (by decide) rfl) (l_cons (e_str (l_nil ⟨l, _, rfl, hx _ _ hs.symm he⟩)))))
        | false =>
          rw [hq2, if_neg (by simp)] at hs
          rw [if_neg (by simp)]
          refine s_nil ?_
          refine s_cons ?_
          refine s_put ?_
          refine e_tuple (l_cons (e_str (l_cons (e_name (p := node) (look "node" _ (by decide) rfl) (l_nil ⟨by simp, ?_⟩)))))
          refine e_name (p := .ref fa) (look "found" _ (by decide) rfl) (e_name (p := .str n) rfl ⟨fa, n, fnd, rfl, rfl, hf, by simp at hlr; omega, ?_⟩)
          refine s_nil ⟨fun x hx => (setm_ne hx).trans (hmm x hx), put fnd n (.tup [.str "actual", node]), rest, e2, upd_self, (upd_ne (Ne.symm hne)).trans hd, fun b mo e => (upd_ne (fun z => by rw [z, h0] at e; cases e)).trans (he b mo e), hs, by have := put_len fnd n (.tup [.str "actual", node]); simp at hlr ⊢; omega⟩
  · rintro ⟨m1, σ⟩ ⟨hmm, fnd, rest, e, hf, hd, he, hs, hlr⟩
    cases rest with
    | cons n rest => (first | exact absurd e (List.cons_ne_nil _ _) | exact absurd e.symm (List.cons_ne_nil _ _) | cases e)
    | nil => exact s_nil (h fnd m1 σ hs.symm (by simpa using hlr) he hf hd hmm)
end
end Mine

namespace Mine

noncomputable def namesP : As → Nat
  | [] => 0
  | (none, _) :: r => 1 + namesP r
  | (some cs, _) :: r => cs.length + namesP r
noncomputable def shortA (a : Option (List Ch) × PV) : Prop := match a.1 with | none => True | some cs => ∀ c ∈ cs, Ch.short c
theorem namesOf_len : ∀ {cs : List Ch} {ns : List Str}, namesOf cs = some ns → ns.length = cs.length
  | [], ns, h => by cases h; rfl
  | c :: r, ns, h => by
    unfold namesOf at h
    cases hc : c.nm with
    | none => rw [hc] at h; cases h
    | some s =>
      rw [hc] at h
      simp only at h
      cases hr : namesOf r with
      | none => rw [hr] at h; cases h
      | some l => rw [hr] at h; cases h; simp [namesOf_len hr]
theorem le_list {l : List (Str × PV)} {m : Names} (h : ∀ e ∈ l, m e.1 = some e.2) : Le (fun x => l.lookup x) m := fun x p e => h (x, p) (mem_of_lookup e)
noncomputable abbrev M2 (as : As) (order : List Str) (fa da : Addr) (l : Int) : Names := fun x => List.lookup x ([("assocs", .fl (as.map asPV)), ("order", .fl (order.map .str)), ("defaults", .ref da), ("found", .ref fa), ("line", .int l)] : List (Str × PV))

inductive J2a (as : As) (order : List Str) (fa da : Addr) (l : Int) (ds : List (Str × PV)) (σ0 : Store) (ps : List PV) (st : AS) : Prop
  | mk (hm : Le (M2 as order fa da l) st.m) (spot : Nat) (r done : As) (fnd : List (Str × PV)) (b : Bool) (ea : as = done ++ r) (el : done.length = spot) (ep : ps = ((List.range' spot r.length).map fun i => PV.int (i : Nat))) (hin : st.m "is_named" = some (.bool b))
    (hf : st.σ fa = some (.dct fnd)) (hd : st.σ da = some (.dct ds)) (he : Ext σ0 st.σ) (hs : step2 order ds spot r fnd b = step2 order ds 0 as [] false) (hlr : fnd.length + namesP r ≤ namesP as)
inductive J2b (cs : List Ch) (σ : Store) (ps acc : List PV) (σ' : Store) : Prop
  | mk (hs : σ' = σ) (a b : List Ch) (na : List Str) (h1 : cs = a ++ b) (h2 : ps = b.map Ch.pv) (h3 : namesOf a = some na) (h4 : acc = na.map .str)

section
variable {g : Gx} {fc : Fc} {K : AF → AS → Prop} {X : Int → AS → Prop}
theorem m_ph2 {L : Addr} {m : Names} {σ0 σ : Store} {fa da : Addr} {ds : List (Str × PV)} {as : As} {order : List Str} {l : Int} (G : g.Ok) (hn : 3 ≤ fc.n)
    (hm : Le (M2 as order fa da l) m) (hin : m "is_named" = some (.bool false))
    (hf : σ fa = some (.dct [])) (hd : σ da = some (.dct ds)) (hne : fa ≠ da) (h0 : σ0 fa = none) (he : Ext σ0 σ) (hl : namesP as + order.length ≤ 5000) (hl2 : ds.length ≤ 5000) (hla : as.length ≤ 5000) (hsh : ∀ a ∈ as, shortA a) (hcl : ∀ a ∈ as, match a.1 with | none => True | some cs => cs.length ≤ 5000)
    (hk : ∀ n ∈ order, ∃ d, at? ds n = some d ∧ isDef d)
    (h : ∀ es found m' σ', step2 order ds 0 as [] false = some found → fill ds found order = some es → Ext σ0 σ' → σ' fa = some (.dct es) → K (.ret (.ref fa)) ⟨m', σ'⟩)
    (hx : ∀ m' σ', (match step2 order ds 0 as [] false with | none => none | some found => fill ds found order) = none → Ext σ0 σ' → X l ⟨m', σ'⟩) :
    WS g (fcM g fc L) (execs ((bodyOf g.w.params 79).drop 5) (fcM g fc L).env) ⟨m, σ⟩ K X := by
  refine s_cons ?_
  refine s_for (J := J2a as order fa da l ds σ0) ?_ ?_ ?_
  · refine iter_range G rfl (e_len G rfl (e_name (p := .fl (as.map asPV)) (hm _ _ rfl) ⟨as.length, by omega, by simp, as.length, rfl, by omega, hm, 0, as, [], [], false, rfl, rfl, ?_, hin, hf, hd, he, rfl, by simp⟩))
    unfold intsTo; rw [List.range_eq_range']
  · rintro p ps ⟨m1, σ⟩ ⟨hm, spot, r, done, fnd, b, ea, el, ep, hin, hf, hd, he, hs, hlr⟩
    simp only at hin hf hd he hm
    cases r with
    | nil => (first | exact absurd ep (List.cons_ne_nil _ _) | exact absurd ep.symm (List.cons_ne_nil _ _) | cases ep)
    | cons a r =>
      rw [List.length_cons, List.range'_succ, List.map_cons] at ep
      injection ep with ep1 ep2
      subst ep1
      have hle : Le (setm (M2 as order fa da l) "is_named" (.bool b)) m1 := fun y q e => by
        unfold setm at e
        split at e
        · rename_i z; cases e; rw [z]; exact hin
        · exact hm y q e
      refine WAs.forget hle ?_
      refine as_name ?_ (.inl rfl)
      have hmem : a ∈ as := by rw [ea]; simp
      have hget : (as.map asPV)[(spot : Int).toNat]? = some (asPV a) := by
        rw [Int.toNat_natCast, ea, List.getElem?_map, List.getElem?_append_right (by omega), el]; simp
      have hspot : spot < as.length := by rw [ea]; simp; omega
      obtain ⟨ch, node⟩ := a
      refine s_cons ?_
      refine s_tup2 ?_ (.inl rfl) (.inl rfl)
      refine e_sub (e_name (p := .fl (as.map asPV)) rfl (e_name (p := .int spot) rfl (sub_fl (p := asPV (ch, node)) (by omega) (by omega) hget ⟨_, _, rfl, ?_⟩)))
      refine s_cons ?_
      refine s_if ?_
      -- what follows the names
      have tail : ∀ (nms : List Str) (b' : Bool) (m' : Names), Le (M2 as order fa da l) m' → m' "names" = some (.fl (nms.map .str)) → m' "node" = some node → m' "is_named" = some (.bool b') →
          fnd.length + nms.length + namesP r ≤ namesP as →
          (match addP ds node fnd nms with | none => none | some f' => step2 order ds (spot + 1) r f' b') = step2 order ds 0 as [] false →
          WS g (fcM g fc L) (execs ((forBody ((bodyOf g.w.params 79).drop 5)).drop 2) (fcM g fc L).env) ⟨m', σ⟩
            (loopK (J2a as order fa da l ds σ0 ps) (seqK g (fcM g fc L) ((bodyOf g.w.params 79).drop 6) X K)) X := fun nms b' m' h1 h2 h3 h4 h5 h6 => by
        refine m_names (found := fnd) (ds := ds) (nms := nms) (node := node) (l := l) G (by omega) ?_ hf hd hne h0 he (by omega) hl2 (fun es m2 σ2 e1 e2 e3 e4 e5 e6 => ?_) fun m2 σ2 e1 e2 => ?_
        · refine le_list (List.forall_mem_cons.mpr ⟨h2, List.forall_mem_cons.mpr ⟨h1 "defaults" _ rfl, List.forall_mem_cons.mpr ⟨h1 "found" _ rfl, List.forall_mem_cons.mpr ⟨h1 "line" _ rfl, List.forall_mem_cons.mpr ⟨h3, fun _ h => by cases h⟩⟩⟩⟩⟩)
        · rw [e1] at h6
          exact ⟨fun y q e => by
            have : y ≠ "name" := fun z => by subst z; cases e
            exact (e6 y this).trans (h1 y q e), spot + 1, r, done ++ [(ch, node)], es, b', by rw [ea]; simp, by simp [el], ep2, (e6 "is_named" (by decide)).trans h4, e4, e5, e3, h6, by omega⟩
        · rw [e1] at h6
          exact hx m2 σ2 (by rw [← h6]) e2
      cases ch with
      | none =>
        refine t_cmp (e_name (p := .none) rfl (e_none (cmp_is_none ⟨_, rfl, ?_⟩)))
        rw [if_pos (show PV.none.isNone = true from rfl)]
        rw [step2] at hs
        refine s_cons ?_
        refine s_if ?_
        refine t_val (e_name (p := .bool b) rfl ⟨b, rfl, trivial, ?_⟩)
        cases b with
        | true =>
          rw [if_pos rfl] at hs ⊢
          refine s_cons ?_
          exact s_raise G (by show 1 ≤ fc.n - 1; exact nSub hn) rfl (l_cons (e_name (p := .int l) rfl (l_cons (e_str (l_nil ⟨l, _, rfl, hx _ _ (by rw [← hs]) he⟩)))))
        | false =>
          rw [if_neg (by simp)] at hs ⊢
          refine s_nil ?_
          refine s_cons ?_
          refine s_if ?_
          refine t_cmp (e_name (p := .int spot) rfl (e_len G rfl (e_name (p := .fl (order.map .str)) rfl ⟨order.length, by omega, by simp, cmp_ge ⟨_, rfl, ?_⟩⟩)))
          by_cases c : order.length ≤ spot
          · rw [List.getElem?_eq_none c] at hs
            rw [if_pos (by simpa using c)]
            refine s_cons ?_
            exact s_raise G (by show 1 ≤ fc.n - 1; exact nSub hn) rfl (l_cons (e_name (p := .int l) rfl (l_cons (e_str (l_nil ⟨l, _, rfl, hx _ _ (by rw [← hs]) he⟩)))))
          · have lt : spot < order.length := by omega
            rw [List.getElem?_eq_getElem lt] at hs
            rw [if_neg (by simpa using c)]
            refine s_nil ?_
            refine s_cons ?_
            refine s_set ?_ (.inl rfl)
            refine e_list_fl (l_cons ?_)
            refine e_sub (e_name (p := .fl (order.map .str)) rfl (e_name (p := .int spot) rfl (sub_fl (p := .str order[spot]) (by omega) (by omega) (by simp [lt]) (l_nil ⟨by simp, ?_⟩))))
            refine s_nil ?_
            refine tail [order[spot]] false _ (le_list (List.forall_mem_cons.mpr ⟨rfl, List.forall_mem_cons.mpr ⟨rfl, List.forall_mem_cons.mpr ⟨rfl, List.forall_mem_cons.mpr ⟨rfl, List.forall_mem_cons.mpr ⟨rfl, fun _ h => by cases h⟩⟩⟩⟩⟩)) rfl rfl rfl (by simp [namesP] at hlr ⊢; omega) ?_
            exact hs
      | some cs =>
        refine t_cmp (e_name (p := .fl (cs.map Ch.pv)) rfl (e_none (cmp_is_none ⟨_, rfl, ?_⟩)))
        rw [if_neg (by simp [PV.isNone])]
        rw [step2] at hs
        refine s_cons ?_
        refine s_set (e_bool ?_) (.inl rfl)
        refine s_cons ?_
        have shc : ∀ c ∈ cs, Ch.short c := hsh _ hmem
        have lcs : cs.length ≤ 5000 := hcl _ hmem
        refine s_lcomp1 (c1 := none) (J := J2b cs σ) rfl ?_ ?_ ?_ rfl
        · exact iter_fl (e_name (p := .fl (cs.map Ch.pv)) rfl ⟨_, rfl, rfl, rfl, [], cs, [], rfl, rfl, rfl, rfl⟩)
        · rintro D C p qs acc σ' hD ⟨es, a, bb, na, e, e2, e3, eq⟩
          cases bb with
          | nil => (first | exact absurd e2 (List.cons_ne_nil _ _) | exact absurd e2.symm (List.cons_ne_nil _ _) | cases e2)
          | cons c bb =>
            injection e2 with e2 e4
            subst e2
            have lna := namesOf_len e3
            have la : a.length ≤ 5000 := by rw [e] at lcs; simp at lcs; omega
            refine ⟨_, tg_name rfl (capt_local (C := C) rfl), t_true ?_⟩
            rw [if_pos rfl]
            refine e_call G (n_cname _) (k_cname _) rfl (l_cons (e_name (p := c.pv) rfl (l_cons (e_name (p := .int l) rfl (l_nil ?_)))))
            refine c_cname G (by show 2 ≤ fc.n - 1; exact nSub hn) (shc c (by rw [e]; simp)) (fun s hcs => ?_) fun hcn => ?_
            · exact ⟨by rw [eq]; simp; omega, σ', rfl, hD, es, a ++ [c], bb, na ++ [s], by simp [e], e4, namesOf_snoc e3 hcs, by rw [eq]; simp⟩
            · refine hx _ _ ?_ ((es ▸ he : Ext σ0 σ').trans (Ext.upd hD))
              rw [← hs, e, namesOf_none hcn]
        · rintro D acc σ' hD ⟨rfl, a, bb, na, e, e2, e3, rfl⟩
          cases bb with
          | cons c bb => (first | exact absurd e2 (List.cons_ne_nil _ _) | exact absurd e2.symm (List.cons_ne_nil _ _) | cases e2)
          | nil =>
            rw [List.append_nil] at e
            subst e
            rw [e3] at hs
            refine ⟨_, _, .inr ⟨_, rfl, rfl, rfl⟩, ?_⟩
            refine s_nil ?_
            have := namesOf_len e3
            refine tail na true _ (le_list (List.forall_mem_cons.mpr ⟨rfl, List.forall_mem_cons.mpr ⟨rfl, List.forall_mem_cons.mpr ⟨rfl, List.forall_mem_cons.mpr ⟨rfl, List.forall_mem_cons.mpr ⟨rfl, fun _ h => by cases h⟩⟩⟩⟩⟩)) rfl rfl rfl (by simp [namesP] at hlr ⊢; omega) ?_
            exact hs
  · rintro ⟨m1, σ⟩ ⟨hm, spot, r, done, fnd, b, ea, el, ep, hin, hf, hd, he, hs, hlr⟩
    simp only at hin hf hd he hm
    cases r with
    | cons a r => rw [List.length_cons, List.range'_succ, List.map_cons] at ep; cases ep
    | nil =>
      rw [step2] at hs
      refine m_ph3 (ns := order) (ds := ds) (found := fnd) (l := l) G (by omega) (le_list (List.forall_mem_cons.mpr ⟨hm "order" _ rfl, List.forall_mem_cons.mpr ⟨hm "defaults" _ rfl, List.forall_mem_cons.mpr ⟨hm "found" _ rfl, List.forall_mem_cons.mpr ⟨hm "line" _ rfl, fun _ h => by cases h⟩⟩⟩⟩)) hf hd hne h0 he hk (by omega) hl2 (fun es m' σ' e1 e2 e3 => h es fnd m' σ' hs.symm e1 e2 e3) fun m' σ' e1 e2 => hx m' σ' (by rw [← hs]; exact e1) e2
end
end Mine

namespace Mine

theorem at_put : ∀ (es : List (Str × PV)) (n k : Str) (d : PV), at? (put es n d) k = if k = n then some d else at? es k := by
  intro es n k d
  have map_at : ∀ es : List (Str × PV), at? (es.map fun e => if e.1 = n then (e.1, d) else e) k = if k = n then (if es.any (fun e => e.1 = n) then some d else none) else at? es k := by
    intro es
    induction es with
    | nil => unfold at?; simp
    | cons e es ih =>
      unfold at? at ih ⊢
      rw [List.map_cons, List.find?_cons, List.find?_cons, List.any_cons]
      by_cases h1 : e.1 = n
      · rw [if_pos h1]
        by_cases h2 : k = n
        · subst h2; simp [h1]
        · have : ¬ (e.1 = k) := fun z => h2 (z.symm.trans h1)
          simp only [this, decide_false, if_neg h2] at ih ⊢
          exact ih
      · rw [if_neg h1]
        by_cases h2 : k = n
        · subst h2
          simp only [h1, decide_false, Bool.false_or, if_true] at ih ⊢
          exact ih
        · simp only [if_neg h2] at ih ⊢
          by_cases h3 : e.1 = k
          · simp [h3]
          · simp only [h3, decide_false]; exact ih
  unfold put
  by_cases c : es.any (fun e => e.1 = n) = true
  · rw [if_pos c, map_at, c]; simp
  · rw [if_neg c]
    have nf : at? es n = none := by
      unfold at?
      rw [List.find?_eq_none.mpr (by
        intro x hx z
        exact c (List.any_eq_true.mpr ⟨x, hx, z⟩))]
      rfl
    unfold at? at nf ⊢
    rw [List.find?_append]
    by_cases h2 : k = n
    · subst h2
      rw [if_pos rfl]
      have : es.find? (fun e => decide (e.1 = k)) = none := by
        cases q : es.find? (fun e => decide (e.1 = k)) with
        | none => rfl
        | some v => rw [q] at nf; cases nf
      rw [this]; simp
    · rw [if_neg h2]
      cases q : es.find? (fun e => decide (e.1 = k)) with
      | some v => simp
      | none => simp [Ne.symm h2]
theorem addAll_len : ∀ {ps es es' : List (Str × PV)}, addAll es ps = some es' → es'.length ≤ es.length + ps.length
  | [], es, es', h => by cases h; simp
  | (n, d) :: r, es, es', h => by
    rw [addAll] at h
    split at h
    · cases h
    · have := addAll_len h
      have := put_len es n d
      simp; omega
theorem addAll_at : ∀ {ps es es' : List (Str × PV)}, addAll es ps = some es' → (∀ n d, at? es n = some d → at? es' n = some d) ∧ ∀ n d, (n, d) ∈ ps → at? es' n = some d
  | [], es, es', h => by cases h; exact ⟨fun _ _ e => e, fun _ _ e => by cases e⟩
  | (n, d) :: r, es, es', h => by
    rw [addAll] at h
    split at h
    · cases h
    · rename_i hn
      obtain ⟨a, b⟩ := addAll_at h
      refine ⟨fun k e hk => a k e ?_, fun k e hk => ?_⟩
      · rw [at_put, if_neg]
        · exact hk
        · intro z; subst z; rw [hk] at hn; simp at hn
      · rcases List.mem_cons.mp hk with z | z
        · cases z; exact a _ _ (by rw [at_put, if_pos rfl])
        · exact b k e z
noncomputable abbrev M1 (fs : List Fm) (as : As) (oa da : Addr) (l : Int) : Names := fun x => List.lookup x ([("formals", .fl (fs.map Fm.pv)), ("assocs", .fl (as.map asPV)), ("order", .ref oa), ("defaults", .ref da), ("line", .int l)] : List (Str × PV))

inductive J11a (fs : List Fm) (oa da : Addr) (σ0 : Store) (ps : List PV) (σ : Store) : Prop
  | mk (rest done : List Fm) (es : List (Str × PV)) (h1 : fs = done ++ rest) (h2 : ps = rest.map Fm.pv) (h3 : addAll [] (pairsOf done) = some es) (h4 : σ oa = some (.lst ((pairsOf done).map fun e => .str e.1))) (h5 : σ da = some (.dct es)) (h6 : Ext σ0 σ)
inductive J11b (f : Fm) (done : List Fm) (oa da : Addr) (σ0 : Store) (qs : List PV) (σ : Store) : Prop
  | mk (rest2 done2 : List Str) (es : List (Str × PV)) (h1 : f.names = done2 ++ rest2) (h2 : qs = rest2.map .str) (h3 : addAll [] (pairsOf done ++ done2.map fun n => (n, f.dflt)) = some es) (h4 : σ oa = some (.lst ((pairsOf done ++ done2.map fun n => (n, f.dflt)).map fun e => .str e.1))) (h5 : σ da = some (.dct es)) (h6 : Ext σ0 σ)
section
variable {g : Gx} {fc : Fc}
theorem c_match {fs : List Fm} {as : As} {l : Int} {σ0 : Store} {K : PV → Store → Prop} {X : Int → Store → Prop} (G : g.Ok) (hn : 3 ≤ fc.n) (hl : (pairsOf fs).length ≤ 1000) (hfs : ∀ f ∈ fs, f.names.length ≤ 100) (hla : as.length ≤ 1000) (hlp : namesP as ≤ 1000) (hsh : ∀ a ∈ as, shortA a) (hcl : ∀ a ∈ as, match a.1 with | none => True | some cs => cs.length ≤ 5000)
    (h : ∀ es a σ', matchS fs as = some es → Ext σ0 σ' → σ' a = some (.dct es) → K (.ref a) σ') (hx : ∀ σ', matchS fs as = none → Ext σ0 σ' → X l σ') : WC g fc 79 [.fl (fs.map Fm.pv), .fl (as.map asPV), .int l] σ0 K X := by
  refine WC.enter ["formals", "assocs", "line"] G ?h (by omega) rfl rfl rfl rfl (by kernel_rfl) rfl rfl rfl (by decide) ?hb ?hk rfl rfl rfl
  case hb => exact len3 fun _ _ _ => rfl
  case hk => decide
  case h =>
    intro L hnn
    refine s_cons ?_
    refine s_set (e_list (l_nil ⟨by simp, fun oa hoa => ?_⟩)) (.inl rfl)
    refine s_cons ?_
    refine s_set (e_dict0 fun da hda => ?_) (.inl rfl)
    have hoa : σ0 oa = none := hoa
    have hda1 : upd σ0 oa (.lst []) da = none := hda
    have hne : da ≠ oa := fun z => by rw [z, upd_self] at hda1; cases hda1
    have hda0 : σ0 da = none := (upd_ne hne).symm.trans hda1
    refine s_cons ?_
    refine s_forM (M := M1 fs as oa da l) (J := J11a fs oa da σ0) ?_ ?_ ?_
    · refine iter_fl (e_name (p := .fl (fs.map Fm.pv)) rfl ⟨_, rfl, le_list (List.forall_mem_cons.mpr ⟨rfl, List.forall_mem_cons.mpr ⟨rfl, List.forall_mem_cons.mpr ⟨rfl, List.forall_mem_cons.mpr ⟨rfl, List.forall_mem_cons.mpr ⟨rfl, fun _ h => by cases h⟩⟩⟩⟩⟩), fs, [], [], rfl, rfl, rfl, (upd_ne (Ne.symm hne)).trans upd_self, upd_self, ?_⟩)
      exact (Ext.upd hoa).trans (Ext.upd hda1)
    · rintro p ps σ ⟨rest, done, es, e, e2, hs, ho, hd, he⟩
      cases rest with
      | nil => (first | exact absurd e2 (List.cons_ne_nil _ _) | exact absurd e2.symm (List.cons_ne_nil _ _) | cases e2)
      | cons f rest =>
        injection e2 with e2 e3
        subst e2
        have lf : f.names.length ≤ 100 := hfs f (by rw [e]; simp)
        have lp : (pairsOf done).length + f.names.length ≤ 1000 := by
          have : (pairsOf fs).length = (pairsOf done).length + (f.names.length + (pairsOf rest).length) := by rw [e]; simp [pairsOf]
          omega
        refine as_name ?_ (.inl rfl)
        refine s_cons ?_
        refine s_forM (M := setm (M1 fs as oa da l) "formal" f.pv) (J := J11b f done oa da σ0) ?_ ?_ ?_
        · refine iter_fl ?_
          refine e_call G (n_fnames _) (k_fnames _) rfl (l_cons (e_name (p := f.pv) rfl (l_nil ?_)))
          exact c_fnames G (by show 1 ≤ fc.n - 1; exact nSub hn) ⟨_, rfl, Le.refl, f.names, [], es, rfl, rfl, by simpa using hs, by simpa using ho, hd, he⟩
        · rintro q qs σ ⟨rest2, done2, es, e4, e5, hs, ho, hd, he⟩
          cases rest2 with
          | nil => (first | exact absurd e5 (List.cons_ne_nil _ _) | exact absurd e5.symm (List.cons_ne_nil _ _) | cases e5)
          | cons n rest2 =>
            injection e5 with e5 e6
            subst e5
            have ld : done2.length + 1 ≤ 100 := by rw [e4] at lf; simp at lf; omega
            have les := addAll_len hs
            have les2 : es.length ≤ 1100 := by simp at les; omega
            have next : addAll [] (pairsOf done ++ (done2 ++ [n]).map fun n => (n, f.dflt)) = if (at? es n).isSome = true then none else some (put es n f.dflt) := by
              rw [List.map_append, ← List.append_assoc, addAll_append, hs]
              rfl
            refine as_name ?_ (.inl rfl)
            refine s_cons ?_
            refine s_if ?_
            refine t_cmp (e_name (p := .str n) rfl (e_name (p := .ref da) rfl (cmp_in G.lim hd ⟨_, rfl, ?_⟩)))
            cases hq : (at? es n).isSome with
            | true =>
              rw [if_pos rfl]
              refine s_cons ?_
              refine s_raise G (by show 1 ≤ fc.n - 1; exact nSub hn) rfl (l_cons (e_name (p := .int l) rfl (l_cons (e_str (l_nil ⟨l, _, rfl, hx _ ?_ he⟩)))))
              have : addAll [] (pairsOf fs) = none := by
                have e7 : pairsOf fs = (pairsOf done ++ (done2 ++ [n]).map fun n => (n, f.dflt)) ++ ((rest2.map fun n => (n, f.dflt)) ++ pairsOf rest) := by
                  rw [e]; unfold pairsOf; rw [List.flatMap_append, List.flatMap_cons, e4]; simp
                rw [e7, addAll_append, next, hq]; rfl
              unfold matchS
              rw [this]
            | false =>
              rw [if_neg (by simp)]
              rw [hq, if_neg (by simp)] at next
              refine s_nil ?_
              refine s_cons ?_
              refine s_expr ?_
              refine e_append (e_name (p := .ref oa) rfl ⟨oa, _, rfl, ho, e_name (p := .str n) rfl ⟨_, ho, by simp; omega, ?_⟩⟩)
              refine s_cons ?_
              refine s_put ?_
              refine e_call G (n_dflt _) (k_dflt _) rfl (l_cons (e_name (p := f.pv) rfl (l_nil ?_)))
              refine c_dflt G (by show 1 ≤ fc.n - 1; exact nSub hn) ?_
              refine e_name (p := .ref da) rfl (e_name (p := .str n) rfl ⟨da, n, es, rfl, rfl, (upd_ne hne).trans hd, by omega, ?_⟩)
              refine s_nil ⟨Le.sub rfl, rest2, done2 ++ [n], put es n f.dflt, by rw [e4]; simp, e6, next, ?_, upd_self, ?_⟩
              · exact ((upd_ne (Ne.symm hne)).trans upd_self).trans (by simp)
              · exact fun b mo hb => by
                  have n1 : b ≠ oa := fun z => by rw [z, hoa] at hb; cases hb
                  have n2 : b ≠ da := fun z => by rw [z, hda0] at hb; cases hb
                  exact (upd_ne n2).trans ((upd_ne n1).trans (he b mo hb))
        · rintro m' σ hm' ⟨rest2, done2, es, e4, e5, hs, ho, hd, he⟩
          cases rest2 with
          | cons n rest2 => (first | exact absurd e5 (List.cons_ne_nil _ _) | exact absurd e5.symm (List.cons_ne_nil _ _) | cases e5)
          | nil =>
            rw [List.append_nil] at e4
            have pe : pairsOf (done ++ [f]) = pairsOf done ++ done2.map fun n => (n, f.dflt) := by unfold pairsOf; rw [List.flatMap_append, e4.symm]; simp
            exact s_nil ⟨(Le.sub (m := M1 fs as oa da l) rfl).trans hm', rest, done ++ [f], es, by rw [e]; simp, e3, by rw [pe]; exact hs, by rw [pe]; exact ho, hd, he⟩
    · rintro m' σ hm' ⟨rest, done, es, e, e2, hs, ho, hd, he⟩
      cases rest with
      | cons f rest => (first | exact absurd e2 (List.cons_ne_nil _ _) | exact absurd e2.symm (List.cons_ne_nil _ _) | cases e2)
      | nil =>
        rw [List.append_nil] at e
        subst e
        have les := addAll_len hs
        obtain ⟨_, hall⟩ := addAll_at hs
        refine Wp.freeze (x := "order") (hm' "order" _ rfl) ho ?_
        have names : ((pairsOf fs).map fun e => PV.str e.1) = ((pairsOf fs).map fun e => e.1).map .str := by rw [List.map_map]; rfl
        rw [names]
        have le5 : Le (fun x => List.lookup x ([("assocs", .fl (as.map asPV)), ("order", .fl (((pairsOf fs).map fun e => e.1).map .str)), ("defaults", .ref da), ("line", .int l)] : List (Str × PV))) (setm m' "order" (.fl (((pairsOf fs).map fun e => e.1).map .str))) := by
          refine le_list (List.forall_mem_cons.mpr ⟨?_, List.forall_mem_cons.mpr ⟨setm_eq, List.forall_mem_cons.mpr ⟨?_, List.forall_mem_cons.mpr ⟨?_, fun _ h => by cases h⟩⟩⟩⟩)
          · exact (setm_ne (y := "assocs") (by decide)).trans (hm' "assocs" _ rfl)
          · exact (setm_ne (y := "defaults") (by decide)).trans (hm' "defaults" _ rfl)
          · exact (setm_ne (y := "line") (by decide)).trans (hm' "line" _ rfl)
        refine Wp.forget le5 ?_
        have hd2 : del σ oa da = some (.dct es) := by unfold del; rw [if_neg hne]; exact hd
        have he2 : Ext σ0 (del σ oa) := fun b mo hb => by
          unfold del; rw [if_neg (fun z => by rw [z, hoa] at hb; cases hb)]; exact he b mo hb
        refine s_cons ?_
        refine s_set (e_dict0 fun fa hfa => ?_) (.inl rfl)
        have hfa1 : del σ oa fa = none := hfa
        refine s_cons ?_
        refine s_set (e_bool ?_) (.inl rfl)
        have hfad : fa ≠ da := fun z => by rw [z, hd2] at hfa1; cases hfa1
        refine m_ph2 (as := as) (order := (pairsOf fs).map (·.1)) (ds := es) (fa := fa) (da := da) (l := l) (σ0 := σ0) G hn (le_list (List.forall_mem_cons.mpr ⟨rfl, List.forall_mem_cons.mpr ⟨rfl, List.forall_mem_cons.mpr ⟨rfl, List.forall_mem_cons.mpr ⟨rfl, List.forall_mem_cons.mpr ⟨rfl, fun _ h => by cases h⟩⟩⟩⟩⟩)) rfl upd_self ((upd_ne (Ne.symm hfad)).trans hd2) hfad (he2.none hfa1) (he2.trans (Ext.upd hfa1)) (by simp; omega) (by simp at les; omega) (by omega) hsh hcl (fun n hn' => ?_) (fun es' found m2 σ' e1 e2 e3 e4 => ?_) fun m2 σ' e1 e2 => ?_
        · obtain ⟨⟨n', d⟩, hmem, rfl⟩ := List.mem_map.mp hn'
          refine ⟨d, hall _ _ hmem, ?_⟩
          unfold pairsOf at hmem
          obtain ⟨f, _, hf2⟩ := List.mem_flatMap.mp hmem
          obtain ⟨x, _, hx2⟩ := List.mem_map.mp hf2
          cases hx2
          exact f.isDef
        · refine h es' fa σ' ?_ e3 e4
          unfold matchS; rw [hs]; simp only; rw [e1]; exact e2
        · refine hx σ' ?_ e2
          unfold matchS; rw [hs]; exact e1
end
end Mine

namespace Mine

section
variable {g : Gx} {fc : Fc}
/-- _law_heard -/
theorem c_heard {fs : List Fm} {as : As} {l : Int} {σ0 : Store} {K : PV → Store → Prop} {X : Int → Store → Prop} (G : g.Ok) (hn : 4 ≤ fc.n) (hl : (pairsOf fs).length ≤ 1000) (hfs : ∀ f ∈ fs, f.names.length ≤ 100) (hla : as.length ≤ 1000) (hlp : namesP as ≤ 1000) (hsh : ∀ a ∈ as, shortA a) (hcl : ∀ a ∈ as, match a.1 with | none => True | some cs => cs.length ≤ 5000)
    (h : ∀ es a σ', matchS fs as = some es → Ext σ0 σ' → σ' a = some (.dct es) → K (.ref a) σ') (hx : ∀ σ', matchS fs as = none → Ext σ0 σ' → K .none σ') : WC g fc 125 [.fl (fs.map Fm.pv), .fl (as.map asPV), .int l] σ0 K X := by
  refine WC.enter ["formals", "assocs", "line"] G ?h (by omega) rfl rfl rfl rfl (by kernel_rfl) rfl rfl rfl (by decide) ?hb ?hk rfl rfl rfl
  case hb => exact len3 fun _ _ _ => rfl
  case hk => decide
  case h =>
    intro L hnn
    refine s_cons ?_
    refine s_try G rfl rfl ?_
    refine s_cons ?_
    refine s_ret ?_
    refine e_call G (n_match _) (k_match _) rfl (l_cons (e_name (p := .fl (fs.map Fm.pv)) rfl (l_cons (e_name (p := .fl (as.map asPV)) rfl (l_cons (e_name (p := .int l) rfl (l_nil ?_)))))))
    exact c_match G (by show 3 ≤ fc.n - 1; exact nSub hn) hl hfs hla hlp hsh hcl h fun σ' e1 e2 => ⟨rfl, hx σ' e1 e2⟩
end
end Mine

namespace Mine

noncomputable abbrev Rw := List (Str × PV)
noncomputable def rowsPV (rs : Rw) : List PV := rs.map fun e => .tup [.str e.1, e.2]
noncomputable def csOf : Option (List Ch) → List Ch
  | none => []
  | some cs => cs
noncomputable def spotsFrom : Nat → As → List Nat
  | _, [] => []
  | i, (none, _) :: r => i :: spotsFrom (i + 1) r
  | i, (some _, _) :: r => spotsFrom (i + 1) r
noncomputable def dedup : List Str → List (Str × PV) → List (Str × PV)
  | [], es => es
  | n :: r, es => dedup r (put es n (.int 1))
noncomputable def namedTold (n : Str) (as : As) : List PV := as.flatMap fun a => ((csOf a.1).filter fun c => c.plain == n).map fun _ => a.2
noncomputable def spotTold (n : Str) (names : List Str) (as : As) (spots : List Nat) : List PV := (spots.filter fun i => names[i]? == some n).map fun i => ((as[i]?).map (·.2)).getD .none
noncomputable def strN (names : List Str) (as : As) : Nat := (as.map fun a => (csOf a.1).countP fun c => !names.contains c.plain).sum
noncomputable def strange (names : List Str) (as : As) : Bool := strN names as != 0
noncomputable def toldOf (n : Str) (names : List Str) (as : As) : List PV := namedTold n as ++ spotTold n names as (spotsFrom 0 as)
noncomputable def tableS (names : List Str) (as : As) : Rw → List (Str × PV) → Option (List (Str × PV))
  | [], t => some t
  | (n, d) :: r, t => match toldOf n names as with
    | [] => if d.isNone = true then none else tableS names as r (put t n d)
    | [x] => tableS names as r (put t n (.tup [.str "actual", x]))
    | _ => none
noncomputable def badS (names : List Str) (as : As) : Bool := (names.length != (dedup names []).length) || (decide ((spotsFrom 0 as).length > names.length) || (spotsFrom 0 as != List.range (spotsFrom 0 as).length))
noncomputable def dueS (rs : Rw) (as : As) : Option (List (Str × PV)) :=
  if badS (rs.map (·.1)) as = true then none else match tableS (rs.map (·.1)) as rs [] with
    | none => none
    | some t => if strange (rs.map (·.1)) as = true then none else some t

theorem spotsFrom_snoc : ∀ (a : As) (i : Nat) (x : Option (List Ch) × PV), spotsFrom i (a ++ [x]) = spotsFrom i a ++ (match x.1 with | none => [i + a.length] | some _ => [])
  | [], i, (none, _) => by simp [spotsFrom]
  | [], i, (some _, _) => by simp [spotsFrom]
  | (none, n) :: a, i, x => by
    rw [List.cons_append, spotsFrom, spotsFrom, spotsFrom_snoc a]
    cases x.1 <;> simp; omega
  | (some c, n) :: a, i, x => by
    rw [List.cons_append, spotsFrom, spotsFrom, spotsFrom_snoc a]
    cases x.1 <;> simp; omega
theorem spots_len : ∀ (a : As) (i : Nat), (spotsFrom i a).length ≤ a.length
  | [], i => by simp [spotsFrom]
  | (none, n) :: a, i => by rw [spotsFrom]; have := spots_len a (i + 1); simp; omega
  | (some c, n) :: a, i => by rw [spotsFrom]; have := spots_len a (i + 1); simp; omega
theorem spots_lt : ∀ (a : As) (i j : Nat), j ∈ spotsFrom i a → i ≤ j ∧ j < i + a.length
  | [], i, j, h => by cases h
  | (none, n) :: a, i, j, h => by
    rw [spotsFrom] at h
    rcases List.mem_cons.mp h with rfl | h
    · simp
    · have := spots_lt a (i + 1) j h; simp; omega
  | (some c, n) :: a, i, j, h => by
    rw [spotsFrom] at h
    have := spots_lt a (i + 1) j h; simp; omega
theorem dedup_len : ∀ (ns : List Str) (es : List (Str × PV)), (dedup ns es).length ≤ es.length + ns.length
  | [], es => by simp [dedup]
  | n :: r, es => by rw [dedup]; have := dedup_len r (put es n (.int 1)); have := put_len es n (.int 1); simp; omega
theorem dedup_snoc : ∀ (a : List Str) (n : Str) (es : List (Str × PV)), dedup (a ++ [n]) es = put (dedup a es) n (.int 1)
  | [], n, es => rfl
  | x :: a, n, es => by rw [List.cons_append, dedup, dedup, dedup_snoc a]

-- lists of whole numbers
noncomputable def natsPV (l : List Nat) : List PV := l.map fun i => .int (i : Nat)
theorem nats_ok (l : List Nat) : (PV.fl (natsPV l)).ok = true := by
  have h1 : PV.cleans (natsPV l) = true := by
    induction l with
    | nil => rfl
    | cons n l ih => unfold natsPV at ih ⊢; rw [List.map_cons, PV.cleans, ih]; rfl
  have h2 : PyData.depthAll (PV.Ds (natsPV l)) = 0 := by
    induction l with
    | nil => simp [natsPV, PV.Ds, PyData.depthAll]
    | cons n l ih => unfold natsPV at ih ⊢; rw [List.map_cons, PV.Ds, PyData.depthAll, ih (by unfold natsPV at h1; rw [List.map_cons, PV.cleans] at h1; simpa [PV.clean] using h1)]; simp [PV.D, PyData.depth]
  unfold PV.ok
  rw [PV.clean, h1, PV.D, PyData.depth, h2]
  rfl
theorem nats_eq (a b : List Nat) : (PV.fl (natsPV a)).eq (.fl (natsPV b)) = (a == b) := by
  have key : ∀ a b : List Nat, PyData.eqvAll (PV.Ds (natsPV a)) (PV.Ds (natsPV b)) = (a == b) := by
    intro a
    induction a with
    | nil => intro b; cases b with
      | nil => simp [natsPV, PV.Ds, PyData.eqvAll]
      | cons y b => simp [natsPV, PV.Ds, PyData.eqvAll]
    | cons x a ih => intro b; cases b with
      | nil => simp [natsPV, PV.Ds, PyData.eqvAll]
      | cons y b =>
        have := ih b
        unfold natsPV at this ⊢
        rw [List.map_cons, List.map_cons, PV.Ds, PV.Ds, PyData.eqvAll, this]
        simp only [PV.D, PyData.eqv, List.cons_beq_cons]
        congr 1
        by_cases h : x = y
        · subst h; simp
        · have h' : ¬ ((x : Int) = (y : Int)) := fun z => h (by omega)
          rw [beq_eq_false_iff_ne.mpr h, beq_eq_false_iff_ne.mpr h']
  unfold PV.eq
  rw [PV.D, PV.D, PyData.eqv, key]
end Mine

namespace Mine

noncomputable def isNode (p : PV) : Prop := ∃ i, p = .tup [.str "int", .int i]
theorem nodes_ok {ps : List PV} (h : ∀ p ∈ ps, isNode p) : (PV.fl ps).ok = true := by
  have si : PyData.strOk "int" = true := by decide +kernel
  have h1 : PV.cleans ps = true := by
    induction ps with
    | nil => rfl
    | cons p ps ih =>
      obtain ⟨i, rfl⟩ := h p (.head _)
      rw [PV.cleans, ih fun q hq => h q (.tail _ hq)]
      simp [PV.clean, PV.cleans, si]
  have h2 : PyData.depthAll (PV.Ds ps) ≤ 1 := by
    clear h1
    induction ps with
    | nil => simp [PV.Ds, PyData.depthAll]
    | cons p ps ih =>
      obtain ⟨i, rfl⟩ := h p (.head _)
      have := ih fun q hq => h q (.tail _ hq)
      rw [PV.Ds, PyData.depthAll]
      simp [PV.D, PV.Ds, PyData.depth, PyData.depthAll]
      omega
  unfold PV.ok
  rw [PV.clean, h1, PV.D, PyData.depth]
  simp; omega
theorem named_node {n : Str} {as : As} (h : ∀ a ∈ as, isNode a.2) : ∀ p ∈ namedTold n as, isNode p := by
  intro p hp
  unfold namedTold at hp
  obtain ⟨a, ha, hb⟩ := List.mem_flatMap.mp hp
  obtain ⟨c, _, rfl⟩ := List.mem_map.mp hb
  exact h a ha
theorem spot_node {n : Str} {names : List Str} {as : As} {sp : List Nat} (h : ∀ a ∈ as, isNode a.2) (hs : ∀ i ∈ sp, i < as.length) : ∀ p ∈ spotTold n names as sp, isNode p := by
  intro p hp
  unfold spotTold at hp
  obtain ⟨i, hi, rfl⟩ := List.mem_map.mp hp
  have lt := hs i (List.mem_filter.mp hi).1
  rw [List.getElem?_eq_getElem lt]
  exact h _ (List.getElem_mem lt)
theorem namedTold_snoc (n : Str) (as : As) (a : Option (List Ch) × PV) : namedTold n (as ++ [a]) = namedTold n as ++ ((csOf a.1).filter fun c => c.plain == n).map fun _ => a.2 := by
  unfold namedTold; rw [List.flatMap_append]; simp
noncomputable def chN (as : As) : Nat := (as.map fun a => (csOf a.1).length).sum
theorem named_len (n : Str) (as : As) : (namedTold n as).length ≤ chN as := by
  induction as with
  | nil => simp [namedTold, chN]
  | cons a as ih =>
    have : namedTold n (a :: as) = ((csOf a.1).filter fun c => c.plain == n).map (fun _ => a.2) ++ namedTold n as := rfl
    rw [this]
    unfold chN at ih ⊢
    have := List.length_filter_le (fun c : Ch => c.plain == n) (csOf a.1)
    simp; omega
theorem chN_append (a b : As) : chN (a ++ b) = chN a + chN b := by unfold chN; simp
noncomputable def shortC (as : As) : Prop := ∀ a ∈ as, ∀ c ∈ csOf a.1, Ch.short c

noncomputable abbrev fcD (g : Gx) (fc : Fc) (L : Addr) : Fc := fc.into (callEnvC (fdOf g.w.params 118) L 118)
theorem ext_back {σ0 σ σ'' : Store} {D : Addr} {mo : MO} (he : Ext σ0 σ) (hD : σ D = none) (x : Ext (Mine.upd σ D mo) σ'') : ∃ σ', σ'' = Mine.upd σ' D mo ∧ σ' D = none ∧ Ext σ0 σ' ∧ Ext σ σ' :=
  ⟨Mine.del σ'' D, (upd_del (x D mo upd_self)).symm, del_self, he.trans (Ext.del hD x), Ext.del hD x⟩

inductive J14a (as : As) (n : Str) (σ : Store) (ps acc : List PV) (σ' : Store) : Prop
  | mk (hx : Ext σ σ') (done r : As) (h1 : as = done ++ r) (h2 : ps = r.map asPV) (h3 : acc = namedTold n done)
inductive J14b (as : As) (n : Str) (σ : Store) (m₁ : Str → Option PV) (ps qs acc : List PV) (σ' : Store) : Prop
  | mk (hx : Ext σ σ') (done : As) (ch : Option (List Ch)) (node : PV) (r : As) (c1 c2 : List Ch) (h1 : as = done ++ (ch, node) :: r) (h2 : ps = r.map asPV) (h3 : csOf ch = c1 ++ c2) (h4 : qs = c2.map Ch.pv) (h5 : acc = namedTold n done ++ (c1.filter fun c => c.plain == n).map (fun _ => node)) (h6 : m₁ "node" = some node) (h7 : m₁ "name" = some (.str n)) (h8 : m₁ "choice" = none)
section
variable {g : Gx} {fc : Fc} {K : AF → AS → Prop} {X : Int → AS → Prop}
theorem t_tst {fc : Fc} {c : Expr} {st : AS} {K : Bool → AS → Prop} (h : WB g fc (isTrue c fc.env (eval c fc.env)) st K X) : WB g fc (tstOf (some c) fc.env) st K X := h
theorem d_told {L : Addr} {m : Names} {σ0 σ : Store} {as : As} {n : Str} (G : g.Ok) (hn : 3 ≤ fc.n) (hma : m "assocs" = some (.fl (as.map asPV))) (hmn : m "name" = some (.str n)) (he : Ext σ0 σ) (hs : shortC as) (hl : chN as ≤ 5000) (hla : as.length ≤ 5000)
    (h : ∀ a σ', Ext σ σ' → σ' a = none → WS g (fcD g fc L) (execs ((forBody ((bodyOf g.w.params 118).drop 4)).drop 1) (fcD g fc L).env) ⟨setm m "told" (.ref a), upd σ' a (.lst (namedTold n as))⟩ K X) :
    WS g (fcD g fc L) (execs (forBody ((bodyOf g.w.params 118).drop 4)) (fcD g fc L).env) ⟨m, σ⟩ K X := by
  refine s_cons ?_
  refine s_lcomp2 (c2 := some _) (J := J14a as n σ)
    (J14b as n σ) rfl ?_ ⟨?_, ?_, ?_⟩ ?_ rfl
  · exact iter_fl (e_name (p := .fl (as.map asPV)) hma ⟨_, rfl, rfl, Ext.refl, [], as, rfl, rfl, rfl⟩)
  · rintro D C p ps acc σ' hD ⟨ex, done, r, e, e2, eq⟩
    cases r with
    | nil => (first | exact absurd e2 (List.cons_ne_nil _ _) | exact absurd e2.symm (List.cons_ne_nil _ _) | cases e2)
    | cons a r =>
      obtain ⟨ch, node⟩ := a
      injection e2 with e2 e3
      subst e2
      refine ⟨_, tg_tup2 rfl rfl (capt_local (C := C) rfl) (capt_local (C := C) rfl) (by decide), ?_⟩
      cases ch with
      | none =>
        refine e_or (e_name (p := .none) rfl ⟨false, rfl, trivial, ?_⟩)
        rw [if_neg (by simp)]
        exact e_list_fl (l_nil ⟨by simp, [], σ', rfl, rfl, hD, ex, done, none, node, r, [], [], e, e3, rfl, rfl, by rw [eq]; simp, rfl, (setm_ne (y := "name") (by decide)).trans ((setm_ne (y := "name") (by decide)).trans ((capt_cell (C := C) rfl).trans hmn)), rfl⟩)
      | some cs =>
        have lcs : cs.length ≤ 5000 := by
          have := chN_append done ((some cs, node) :: r)
          rw [← e] at this
          have : chN ((some cs, node) :: r) = cs.length + chN r := by simp [chN, csOf]
          omega
        cases hcs : cs with
        | nil =>
          refine e_or (e_name (p := .fl []) rfl ⟨false, rfl, by simp [PV.short], ?_⟩)
          rw [if_neg (by simp)]
          exact e_list_fl (l_nil ⟨by simp, [], σ', rfl, rfl, hD, ex, done, some cs, node, r, [], [], e, e3, by rw [hcs]; rfl, rfl, by rw [eq]; simp, rfl, (setm_ne (y := "name") (by decide)).trans ((setm_ne (y := "name") (by decide)).trans ((capt_cell (C := C) rfl).trans hmn)), rfl⟩)
        | cons c cr =>
          refine e_or (e_name (p := .fl ((c :: cr).map Ch.pv)) rfl ⟨true, rfl, by rw [hcs] at lcs; simp [PV.short]; simp at lcs; omega, ?_⟩)
          rw [if_pos rfl]
          exact ⟨_, σ', rfl, rfl, hD, ex, done, some cs, node, r, [], cs, e, e3, rfl, by rw [hcs], by rw [eq]; simp, rfl, (setm_ne (y := "name") (by decide)).trans ((setm_ne (y := "name") (by decide)).trans ((capt_cell (C := C) rfl).trans hmn)), rfl⟩
  · rintro D C m₁ ps q qs acc σ' hD ⟨ex, done, ch, node, r, c1, c2, e, e2, e3, e4, eq, h1, h2, h3⟩
    cases c2 with
    | nil => (first | exact absurd e4 (List.cons_ne_nil _ _) | exact absurd e4.symm (List.cons_ne_nil _ _) | cases e4)
    | cons c c2 =>
      injection e4 with e4 e5
      subst e4
      refine ⟨_, tg_name rfl h3, ?_⟩
      have sc : Ch.short c := hs (ch, node) (by rw [e]; simp) c (by rw [e3]; simp)
      have bound : (namedTold n done ++ (c1.filter fun c => c.plain == n).map fun _ => node).length ≤ 9999 := by
        have h1 := named_len n done
        have h2 := chN_append done ((ch, node) :: r)
        rw [← e] at h2
        have h3 : chN ((ch, node) :: r) = (csOf ch).length + chN r := by simp [chN]
        rw [e3] at h3
        have h4 := List.length_filter_le (fun c : Ch => c.plain == n) c1
        simp at h3 ⊢; omega
      refine t_tst (t_cmp ?_)
      refine e_call G (n_plain _) (k_plain _) rfl (l_cons (e_name (p := c.pv) rfl (l_nil ?_)))
      refine c_plain G (by show 1 ≤ fc.n - 1; exact nSub hn) sc fun σ'' x => ?_
      obtain ⟨σ3, rfl, hD3, ex3, _⟩ := ext_back ex hD x
      refine e_name (p := .str n) ((setm_ne (m := m₁) (x := "choice") (y := "name") (p := c.pv) (by decide)).trans h2) (cmp_eq_ss ⟨_, rfl, ?_⟩)
      by_cases c0 : (c.plain == n) = true
      · rw [if_pos c0]
        refine e_name (p := node) ((setm_ne (m := m₁) (x := "choice") (y := "node") (p := c.pv) (by decide)).trans h1) ⟨by rw [eq]; exact bound, σ3, rfl, hD3, ex3, done, ch, node, r, c1 ++ [c], c2, e, e2, by rw [e3]; simp, e5, ?_, h1, h2, h3⟩
        rw [eq, List.filter_append, List.filter_cons_of_pos (by exact c0)]
        simp
      · rw [if_neg c0]
        refine ⟨σ3, rfl, hD3, ex3, done, ch, node, r, c1 ++ [c], c2, e, e2, by rw [e3]; simp, e5, ?_, h1, h2, h3⟩
        rw [eq, List.filter_append, List.filter_cons_of_neg (by exact c0)]
        simp
  · rintro m₁ ps acc σ' ⟨ex, done, ch, node, r, c1, c2, e, e2, e3, e4, eq, h1, h2, h3⟩
    cases c2 with
    | cons c c2 => (first | exact absurd e4 (List.cons_ne_nil _ _) | exact absurd e4.symm (List.cons_ne_nil _ _) | cases e4)
    | nil =>
      rw [List.append_nil] at e3
      exact ⟨ex, done ++ [(ch, node)], r, by rw [e]; simp, e2, by rw [eq, namedTold_snoc, e3]⟩
  · rintro D acc σ' hD ⟨ex, done, r, e, e2, rfl⟩
    cases r with
    | cons a r => (first | exact absurd e2 (List.cons_ne_nil _ _) | exact absurd e2.symm (List.cons_ne_nil _ _) | cases e2)
    | nil =>
      rw [List.append_nil] at e
      subst e
      exact ⟨_, _, .inl ⟨rfl, rfl⟩, h D σ' ex hD⟩
end
end Mine

namespace Mine

theorem spotTold_snoc (n : Str) (names : List Str) (as : As) (a : List Nat) (i : Nat) : spotTold n names as (a ++ [i]) = spotTold n names as a ++ (if names[i]? == some n then [((as[i]?).map (·.2)).getD .none] else []) := by
  unfold spotTold
  rw [List.filter_append, List.map_append]
  congr 1
  by_cases c : (names[i]? == some n) = true
  · rw [if_pos c, List.filter_cons_of_pos (by exact c)]; simp
  · rw [if_neg c, List.filter_cons_of_neg (by exact c)]; simp
theorem spotTold_len (n : Str) (names : List Str) (as : As) (a : List Nat) : (spotTold n names as a).length ≤ a.length := by
  unfold spotTold; rw [List.length_map]; exact List.length_filter_le _ _

noncomputable abbrev MD (as : As) (sp : List Nat) (names : List Str) (ta : Addr) : List (Str × PV) := [("assocs", .fl (as.map asPV)), ("spots", .fl (natsPV sp)), ("names", .fl (names.map .str)), ("table", .ref ta)]
/-- what a turn of the loop over the rows ends in -/
noncomputable def turnS (told : List PV) (n : Str) (d : PV) (t : List (Str × PV)) : Option (List (Str × PV)) :=
  match told with
  | [] => if d.isNone = true then none else some (put t n d)
  | [x] => some (put t n (.tup [.str "actual", x]))
  | _ => none

theorem capt_look {fc : Fc} {sc : Scope} {C : Addr} {m : Names} {x y : Str} {p q : PV} (hk : (fc.comp sc C).env.kindOf y = some .cell) (hne : y ≠ x) (h : m y = some q) : setm (capt fc sc m) x p y = some q :=
  (setm_ne hne).trans ((capt_cell hk).trans h)
inductive J15 (as : As) (n : Str) (names : List Str) (sp : List Nat) (a : Addr) (σ : Store) (ps acc : List PV) (σ2 : Store) : Prop
  | mk (hx : σ2 = upd σ a (.lst (namedTold n as))) (done rest : List Nat) (h1 : sp = done ++ rest) (h2 : ps = natsPV rest) (h3 : acc = spotTold n names as done)
section
variable {g : Gx} {fc : Fc} {K : AF → AS → Prop} {X : Int → AS → Prop}
theorem d_turn {L : Addr} {m : Names} {σ0 σ : Store} {as : As} {sp : List Nat} {names : List Str} {ta : Addr} {t : List (Str × PV)} {n : Str} {d : PV} (G : g.Ok) (hn : 3 ≤ fc.n)
    (hm : Le (fun x => List.lookup x (MD as sp names ta)) m) (hmn : m "name" = some (.str n)) (hmd : m "default" = some d)
    (ht : σ ta = some (.dct t)) (hts : t.length ≤ 5000) (h0 : σ0 ta = none) (he : Ext σ0 σ) (hs : shortC as) (hl : chN as ≤ 4000) (hla : as.length ≤ 5000) (hsp : ∀ i ∈ sp, i < names.length ∧ i < as.length) (hlsp : sp.length ≤ 4000) (hno : ∀ a ∈ as, isNode a.2)
    (h : ∀ m' σ', Ext σ0 σ' → (∀ x : Str, x ≠ "told" → m' x = m x) → match turnS (namedTold n as ++ spotTold n names as sp) n d t with
      | none => K (.ret .none) ⟨m', σ'⟩
      | some t' => σ' ta = some (.dct t') → K .next ⟨m', σ'⟩) :
    WS g (fcD g fc L) (execs (forBody ((bodyOf g.w.params 118).drop 4)) (fcD g fc L).env) ⟨m, σ⟩ K X := by
  refine d_told (n := n) (σ0 := σ0) G hn (hm "assocs" _ rfl) hmn he hs (by omega) hla fun a σ' ex ha => ?_
  have hta : a ≠ ta := fun z => by rw [z, ex ta _ ht] at ha; cases ha
  have he' : Ext σ0 σ' := he.trans ex
  refine s_cons ?_
  refine s_aug_name (px := .ref a) rfl ?_ rfl
  refine e_lcomp1 (c1 := some _) (J := J15 as n names sp a σ') rfl ?_ ?_ ?_
  · exact iter_fl (e_name (p := .fl (natsPV sp)) ((setm_ne (m := m) (x := "told") (y := "spots") (p := .ref a) (by decide)).trans (hm "spots" _ rfl)) ⟨_, rfl, rfl, rfl, [], sp, rfl, rfl, rfl⟩)
  · rintro D C p ps acc σ2 hD ⟨rfl, done, rest, e, e2, rfl⟩
    cases rest with
    | nil => (first | exact absurd e2 (List.cons_ne_nil _ _) | exact absurd e2.symm (List.cons_ne_nil _ _) | cases e2)
    | cons i rest =>
      injection e2 with e2 e3
      subst e2
      obtain ⟨li, la⟩ := hsp i (by rw [e]; simp)
      have ld : done.length ≤ 4000 := by rw [e] at hlsp; simp at hlsp; omega
      have lst := spotTold_len n names as done
      refine ⟨_, tg_name rfl (capt_local (C := C) rfl), ?_⟩
      refine t_tst (t_cmp ?_)
      refine e_sub (e_name (p := .fl (names.map .str)) ?_ (e_name (p := .int i) rfl (sub_fl (p := .str names[i]) (by omega) (by omega) (by simp [li]) ?_)))
      · dsimp only
        refine capt_look (fc := fcD g fc L) (C := C) (m := setm m "told" (.ref a)) (x := "at") (p := .int i) (y := "names") ?_ (by decide) ((setm_ne (m := m) (x := "told") (y := "names") (p := .ref a) (by decide)).trans (hm "names" _ rfl))
        rfl
      refine e_name (p := .str n) ?_ (cmp_eq_ss ⟨_, rfl, ?_⟩)
      · dsimp only
        refine capt_look (fc := fcD g fc L) (C := C) (m := setm m "told" (.ref a)) (x := "at") (p := .int i) (y := "name") ?_ (by decide) ((setm_ne (m := m) (x := "told") (y := "name") (p := .ref a) (by decide)).trans (hmn))
        rfl
      have sn := spotTold_snoc n names as done i
      have gi : (names[i]? == some n) = (names[i] == n) := by rw [List.getElem?_eq_getElem li]; rfl
      rw [gi] at sn
      by_cases c : (names[i] == n) = true
      · rw [if_pos c]
        rw [if_pos c, List.getElem?_eq_getElem la] at sn
        refine e_sub (e_sub (e_name (p := .fl (as.map asPV)) ?_ (e_name (p := .int i) rfl (sub_fl (p := asPV as[i]) (by omega) (by omega) (by simp [la]) ?_))))
        · dsimp only
          refine capt_look (fc := fcD g fc L) (C := C) (m := setm m "told" (.ref a)) (x := "at") (p := .int i) (y := "assocs") ?_ (by decide) ((setm_ne (m := m) (x := "told") (y := "assocs") (p := .ref a) (by decide)).trans (hm "assocs" _ rfl))
          rfl
        refine e_int (sub_tup (j := 1) (p := as[i].2) (by decide) (by decide) rfl rfl ⟨by omega, _, rfl, hD, rfl, done ++ [i], rest, by rw [e]; simp, e3, ?_⟩)
        rw [sn]; rfl
      · rw [if_neg c]
        rw [if_neg c] at sn
        exact ⟨_, rfl, hD, rfl, done ++ [i], rest, by rw [e]; simp, e3, by rw [sn]; simp⟩
  · rintro D acc σ2 hD ⟨rfl, done, rest, e, e2, rfl⟩
    cases rest with
    | cons i rest => (first | exact absurd e2 (List.cons_ne_nil _ _) | exact absurd e2.symm (List.cons_ne_nil _ _) | cases e2)
    | nil =>
      rw [List.append_nil] at e
      subst e
      refine ⟨_, _, .inr ⟨_, rfl, rfl, rfl⟩, rfl, ?_⟩
      have l1 := named_len n as
      have l2 := spotTold_len n names as sp
      refine iadd_ll upd_self (by omega) ?_
      have ok : (PV.fl (namedTold n as ++ spotTold n names as sp)).ok = true := nodes_ok fun p hp => by
        rcases List.mem_append.mp hp with h | h
        · exact named_node hno p h
        · exact spot_node hno (fun i hi => (hsp i hi).2) p h
      generalize hT : namedTold n as ++ spotTold n names as sp = T at ok h
      have lT : T.length ≤ 9000 := by rw [← hT]; simp; omega
      refine Wp.freeze (x := "told") (a := a) (xs := T) (setm_eq (m := setm m "told" (.ref a)) (x := "told") (p := .ref a)) upd_self ?_
      have es : del (upd (upd σ' a (.lst (namedTold n as))) a (.lst T)) a = σ' := by rw [upd_upd, del_upd ha]
      have hW : WS g (fcD g fc L) (execs ((forBody ((bodyOf g.w.params 118).drop 4)).drop 2) (fcD g fc L).env) ⟨setm (setm (setm m "told" (.ref a)) "told" (.ref a)) "told" (.fl T), del (upd (upd σ' a (.lst (namedTold n as))) a (.lst T)) a⟩ K X := by
        rw [es]
        have look : ∀ (x : Str) (q : PV), x ≠ "told" → m x = some q → (setm (setm (setm m "told" (.ref a)) "told" (.ref a)) "told" (.fl T)) x = some q := fun x q hx hq => by
          rw [setm_ne hx, setm_ne hx, setm_ne hx]; exact hq
        have agree : ∀ x : Str, x ≠ "told" → (setm (setm (setm m "told" (.ref a)) "told" (.ref a)) "told" (.fl T)) x = m x := fun x hx => by
          rw [setm_ne hx, setm_ne hx, setm_ne hx]
        have htl : (setm (setm (setm m "told" (.ref a)) "told" (.ref a)) "told" (.fl T)) "told" = some (.fl T) := setm_eq
        have hta' : σ' ta = some (.dct t) := ex ta _ ht
        generalize (setm (setm (setm m "told" (.ref a)) "told" (.ref a)) "told" (.fl T)) = M at look agree htl
        have dflt := look "default" _ (by decide) hmd
        have tbl := look "table" _ (by decide) (hm "table" _ rfl)
        have nme := look "name" _ (by decide) hmn
        refine s_cons ?_
        refine s_if ?_
        refine t_or ?_
        refine t_cmp (e_len G rfl (e_name (p := .fl T) htl ⟨T.length, by omega, rfl, e_int (cmp_gt ⟨_, rfl, ?_⟩)⟩))
        have hret := fun (e : turnS T n d t = none) => (by have := h M σ' he' agree; rw [e] at this; exact this : K (.ret .none) ⟨M, σ'⟩)
        by_cases c1 : 1 < T.length
        · rw [if_pos (by simp; omega)]
          have : turnS T n d t = none := by
            match T, c1 with
            | x :: y :: r, _ => rfl
          rw [if_pos rfl]
          exact s_cons (s_ret (e_none (hret this)))
        · rw [if_neg (by simp; omega)]
          refine t_and ?_
          refine t_cmp (e_name (p := .fl T) htl (e_list_fl (l_nil ⟨by simp, cmp_eq ok ok_nil ⟨_, rfl, ?_⟩⟩)))
          rw [eq_nil]
          have fin : ∀ v : PV, turnS T n d t = some (put t n v) → ∀ (K' : AF → AS → Prop), K' = K → K .next ⟨M, upd σ' ta (.dct (put t n v))⟩ := fun v hv _ _ => by
            have := h M (upd σ' ta (.dct (put t n v))) (fun b mo hb => (upd_ne (fun z => by rw [z, h0] at hb; cases hb)).trans (he' b mo hb)) agree
            rw [hv] at this
            exact this upd_self
          have store : ∀ v : PV, turnS T n d t = some (put t n v) → (T = [] → v = d) → (∀ x r, T = x :: r → v = .tup [.str "actual", x]) →
              WS g (fcD g fc L) (execs ((forBody ((bodyOf g.w.params 118).drop 4)).drop 3) (fcD g fc L).env) ⟨M, σ'⟩ K X := fun v hv h1 h2 => by
            refine s_cons ?_
            refine s_put ?_
            refine e_ifexp ?_
            refine t_cmp (e_name (p := .fl T) htl (e_list_fl (l_nil ⟨by simp, cmp_ne ok ok_nil ⟨_, rfl, ?_⟩⟩)))
            rw [eq_nil]
            cases T with
            | nil =>
              rw [if_neg (by simp)]
              have := h1 rfl
              subst this
              exact e_name (p := v) dflt (e_name (p := .ref ta) tbl (e_name (p := .str n) nme ⟨ta, n, t, rfl, rfl, hta', by omega, s_nil (fin v hv K rfl)⟩))
            | cons x r =>
              rw [if_pos (by simp)]
              have := h2 x r rfl
              subst this
              refine e_tuple (l_cons (e_str (l_cons ?_)))
              refine e_sub (e_name (p := .fl (x :: r)) htl (e_int (sub_fl (p := x) (by decide) (by decide) rfl (l_nil ⟨by simp, ?_⟩))))
              exact e_name (p := .ref ta) tbl (e_name (p := .str n) nme ⟨ta, n, t, rfl, rfl, hta', by omega, s_nil (fin _ hv K rfl)⟩)
          cases T with
          | nil =>
            rw [if_pos (show List.isEmpty [] = true from rfl)]
            refine t_cmp (e_name (p := d) dflt (e_none (cmp_is_none ⟨_, rfl, ?_⟩)))
            cases hdn : d.isNone with
            | true =>
              rw [if_pos rfl]
              exact s_cons (s_ret (e_none (hret (by unfold turnS; rw [hdn]; rfl))))
            | false =>
              rw [if_neg (by simp)]
              exact s_nil (store d (by unfold turnS; rw [hdn]; rfl) (fun _ => rfl) fun x r z => by cases z)
          | cons x r =>
            rw [if_neg (by simp)]
            rw [if_neg (by simp)]
            have : r = [] := by cases r with
              | nil => rfl
              | cons y r => simp at c1
            subst this
            exact s_nil (store (.tup [.str "actual", x]) rfl (fun z => by cases z) fun y r z => by cases z; rfl)
      exact hW
end
end Mine

namespace Mine

theorem strN_append (names : List Str) (a b : As) : strN names (a ++ b) = strN names a + strN names b := by unfold strN; simp
theorem strN_le (names : List Str) (as : As) : strN names as ≤ chN as := by
  induction as with
  | nil => simp [strN, chN]
  | cons a as ih =>
    unfold strN chN at ih ⊢
    have := List.countP_le_length (p := fun c : Ch => !names.contains c.plain) (l := csOf a.1)
    simp only [List.map_cons, List.sum_cons]; omega
theorem natsPV_snoc (k : Nat) : natsPV (List.replicate (k + 1) 1) = natsPV (List.replicate k 1) ++ [.int 1] := by
  unfold natsPV; rw [List.replicate_succ', List.map_append]; rfl

inductive J16a (as : As) (names : List Str) (σ : Store) (ps acc : List PV) (σ' : Store) : Prop
  | mk (hx : Ext σ σ') (done r : As) (h1 : as = done ++ r) (h2 : ps = r.map asPV) (h3 : acc = natsPV (List.replicate (strN names done) 1))
inductive J16b (as : As) (names : List Str) (σ : Store) (m₁ : Str → Option PV) (ps qs acc : List PV) (σ' : Store) : Prop
  | mk (hx : Ext σ σ') (done : As) (ch : Option (List Ch)) (node : PV) (r : As) (c1 c2 : List Ch) (h1 : as = done ++ (ch, node) :: r) (h2 : ps = r.map asPV) (h3 : csOf ch = c1 ++ c2) (h4 : qs = c2.map Ch.pv) (h5 : acc = natsPV (List.replicate (strN names done + c1.countP fun c => !names.contains c.plain) 1)) (h6 : m₁ "names" = some (.fl (names.map .str))) (h7 : m₁ "choice" = none)
section
variable {g : Gx} {fc : Fc} {K : AF → AS → Prop} {X : Int → AS → Prop}
theorem d_strange {L : Addr} {m : Names} {σ : Store} {as : As} {names : List Str} {ta : Addr} (G : g.Ok) (hn : 3 ≤ fc.n) (hma : m "assocs" = some (.fl (as.map asPV))) (hmn : m "names" = some (.fl (names.map .str))) (hmt : m "table" = some (.ref ta)) (hs : shortC as) (hl : chN as ≤ 4000)
    (h : ∀ m' σ', Ext σ σ' → K (.ret (if strange names as = true then .none else .ref ta)) ⟨m', σ'⟩) :
    WS g (fcD g fc L) (execs ((bodyOf g.w.params 118).drop 5) (fcD g fc L).env) ⟨m, σ⟩ K X := by
  refine s_cons ?_
  refine s_lcomp2 (c2 := some _) (J := J16a as names σ)
    (J16b as names σ) rfl ?_ ⟨?_, ?_, ?_⟩ ?_ rfl
  · exact iter_fl (e_name (p := .fl (as.map asPV)) hma ⟨_, rfl, rfl, Ext.refl, [], as, rfl, rfl, rfl⟩)
  · rintro D C p ps acc σ' hD ⟨ex, done, r, e, e2, eq⟩
    cases r with
    | nil => (first | exact absurd e2 (List.cons_ne_nil _ _) | exact absurd e2.symm (List.cons_ne_nil _ _) | cases e2)
    | cons a r =>
      obtain ⟨ch, node⟩ := a
      injection e2 with e2 e3
      subst e2
      refine ⟨_, tg_tup2 rfl rfl (capt_local (C := C) rfl) (capt_local (C := C) rfl) (by decide), ?_⟩
      cases ch with
      | none =>
        refine e_or (e_name (p := .none) rfl ⟨false, rfl, trivial, ?_⟩)
        rw [if_neg (by simp)]
        exact e_list_fl (l_nil ⟨by simp, [], σ', rfl, rfl, hD, ex, done, none, node, r, [], [], e, e3, rfl, rfl, by rw [eq]; simp, (setm_ne (y := "names") (by decide)).trans ((setm_ne (y := "names") (by decide)).trans ((capt_cell (C := C) rfl).trans hmn)), rfl⟩)
      | some cs =>
        have lcs : cs.length ≤ 4000 := by
          have := chN_append done ((some cs, node) :: r)
          rw [← e] at this
          have : chN ((some cs, node) :: r) = cs.length + chN r := by simp [chN, csOf]
          omega
        cases hcs : cs with
        | nil =>
          refine e_or (e_name (p := .fl []) rfl ⟨false, rfl, by simp [PV.short], ?_⟩)
          rw [if_neg (by simp)]
          exact e_list_fl (l_nil ⟨by simp, [], σ', rfl, rfl, hD, ex, done, some cs, node, r, [], [], e, e3, by rw [hcs]; rfl, rfl, by rw [eq]; simp, (setm_ne (y := "names") (by decide)).trans ((setm_ne (y := "names") (by decide)).trans ((capt_cell (C := C) rfl).trans hmn)), rfl⟩)
        | cons c cr =>
          refine e_or (e_name (p := .fl ((c :: cr).map Ch.pv)) rfl ⟨true, rfl, by rw [hcs] at lcs; simp [PV.short]; simp at lcs; omega, ?_⟩)
          rw [if_pos rfl]
          exact ⟨_, σ', rfl, rfl, hD, ex, done, some cs, node, r, [], cs, e, e3, rfl, by rw [hcs], by rw [eq]; simp, (setm_ne (y := "names") (by decide)).trans ((setm_ne (y := "names") (by decide)).trans ((capt_cell (C := C) rfl).trans hmn)), rfl⟩
  · rintro D C m₁ ps q qs acc σ' hD ⟨ex, done, ch, node, r, c1, c2, e, e2, e3, e4, eq, h1, h3⟩
    cases c2 with
    | nil => (first | exact absurd e4 (List.cons_ne_nil _ _) | exact absurd e4.symm (List.cons_ne_nil _ _) | cases e4)
    | cons c c2 =>
      injection e4 with e4 e5
      subst e4
      refine ⟨_, tg_name rfl h3, ?_⟩
      have sc : Ch.short c := hs (ch, node) (by rw [e]; simp) c (by rw [e3]; simp)
      have bound : (natsPV (List.replicate (strN names done + c1.countP fun c => !names.contains c.plain) 1)).length ≤ 9999 := by
        have h1 := strN_le names done
        have h2 := chN_append done ((ch, node) :: r)
        rw [← e] at h2
        have h3 : chN ((ch, node) :: r) = (csOf ch).length + chN r := by simp [chN]
        rw [e3] at h3
        have h4 := List.countP_le_length (p := fun c : Ch => !names.contains c.plain) (l := c1)
        unfold natsPV
        rw [List.length_map, List.length_replicate]
        simp only [List.length_append, List.length_cons] at h3
        omega
      refine t_tst (t_cmp ?_)
      refine e_call G (n_plain _) (k_plain _) rfl (l_cons (e_name (p := c.pv) rfl (l_nil ?_)))
      refine c_plain G (by show 1 ≤ fc.n - 1; exact nSub hn) sc fun σ'' x => ?_
      obtain ⟨σ3, rfl, hD3, ex3, _⟩ := ext_back ex hD x
      refine e_name (p := .fl (names.map .str)) ((setm_ne (m := m₁) (x := "choice") (y := "names") (p := c.pv) (by decide)).trans h1) (cmp_notin_fl rfl ⟨_, rfl, ?_⟩)
      by_cases c0 : (!names.contains c.plain) = true
      · rw [if_pos c0]
        refine e_int ⟨by rw [eq]; exact bound, σ3, rfl, hD3, ex3, done, ch, node, r, c1 ++ [c], c2, e, e2, by rw [e3]; simp, e5, ?_, h1, h3⟩
        rw [eq, List.countP_append, List.countP_cons, if_pos c0, List.countP_nil]
        exact (natsPV_snoc _).symm
      · rw [if_neg c0]
        refine ⟨σ3, rfl, hD3, ex3, done, ch, node, r, c1 ++ [c], c2, e, e2, by rw [e3]; simp, e5, ?_, h1, h3⟩
        rw [eq, List.countP_append, List.countP_cons, if_neg c0, List.countP_nil]
        simp
  · rintro m₁ ps acc σ' ⟨ex, done, ch, node, r, c1, c2, e, e2, e3, e4, eq, h1, h3⟩
    cases c2 with
    | cons c c2 => (first | exact absurd e4 (List.cons_ne_nil _ _) | exact absurd e4.symm (List.cons_ne_nil _ _) | cases e4)
    | nil =>
      rw [List.append_nil] at e3
      refine ⟨ex, done ++ [(ch, node)], r, by rw [e]; simp, e2, ?_⟩
      rw [eq, strN_append]
      have : strN names [(ch, node)] = c1.countP fun c => !names.contains c.plain := by unfold strN; simp [e3]
      rw [this]
  · rintro D acc σ' hD ⟨ex, done, r, e, e2, rfl⟩
    cases r with
    | cons a r => (first | exact absurd e2 (List.cons_ne_nil _ _) | exact absurd e2.symm (List.cons_ne_nil _ _) | cases e2)
    | nil =>
      rw [List.append_nil] at e
      subst e
      refine ⟨_, _, .inr ⟨_, rfl, rfl, rfl⟩, ?_⟩
      refine s_cons ?_
      refine s_ret ?_
      refine e_ifexp ?_
      refine t_cmp (e_name (p := .fl (natsPV (List.replicate (strN names as) 1))) rfl (e_list_fl (l_nil ⟨by simp, cmp_ne (nats_ok _) ok_nil ⟨_, rfl, ?_⟩⟩)))
      rw [eq_nil]
      have hs2 : strange names as = (strN names as != 0) := rfl
      cases q : strN names as with
      | zero =>
        rw [if_neg (by simp [natsPV])]
        refine e_name (p := .ref ta) ?_ ?_
        · exact (setm_ne (m := m) (x := "strangers") (y := "table") (p := .fl (natsPV (List.replicate 0 1))) (by decide)).trans hmt
        · have := h (setm m "strangers" (.fl (natsPV (List.replicate 0 1)))) σ' ex
          rw [hs2, q, if_neg (by simp)] at this
          exact this
      | succ k =>
        rw [if_pos (by simp [natsPV, List.replicate_succ])]
        refine e_none ?_
        have := h (setm m "strangers" (.fl (natsPV (List.replicate (k + 1) 1)))) σ' ex
        rw [hs2, q, if_pos (by simp)] at this
        exact this
end
end Mine

namespace Mine

theorem tableS_cons (names : List Str) (as : As) (n : Str) (d : PV) (r : Rw) (t : List (Str × PV)) :
    tableS names as ((n, d) :: r) t = match turnS (namedTold n as ++ spotTold n names as (spotsFrom 0 as)) n d t with | none => none | some t' => tableS names as r t' := by
  rw [tableS]
  unfold toldOf
  cases namedTold n as ++ spotTold n names as (spotsFrom 0 as) with
  | nil =>
    unfold turnS
    cases hd : d.isNone with
    | true => simp [hd]
    | false => simp [hd]
  | cons x l => cases l with
    | nil => rfl
    | cons y l => rfl
theorem turnS_len {told : List PV} {n : Str} {d : PV} {t t' : List (Str × PV)} (h : turnS told n d t = some t') : t'.length ≤ t.length + 1 := by
  unfold turnS at h
  split at h
  · split at h
    · cases h
    · cases h; exact put_len _ _ _
  · cases h; exact put_len _ _ _
  · cases h
theorem asPV_none (a : Option (List Ch) × PV) : ∃ p, asPV a = .tup [p, a.2] ∧ p.isNone = a.1.isNone := by
  obtain ⟨c, n⟩ := a
  cases c with
  | none => exact ⟨_, rfl, rfl⟩
  | some c => exact ⟨_, rfl, rfl⟩

inductive J17 (as : As) (sp : List Nat) (rs : Rw) (ta : Addr) (σ0 : Store) (ps : List PV) (st : AS) : Prop
  | mk (hm : Le (fun x => List.lookup x (MD as sp (rs.map (·.1)) ta)) st.m) (r : Rw) (t : List (Str × PV)) (h1 : ps = rowsPV r) (h2 : st.σ ta = some (.dct t)) (h3 : Ext σ0 st.σ) (h4 : tableS (rs.map (·.1)) as r t = tableS (rs.map (·.1)) as rs []) (h5 : t.length + r.length ≤ rs.length)
section
variable {g : Gx} {fc : Fc}
/-- the loop of _law_due over the rows, and what comes behind it -/
theorem d_loop {K : AF → AS → Prop} {X : Int → AS → Prop} {L : Addr} {m : Names} {σ0 σ : Store} {rs : Rw} {as : As} {sp : List Nat} {ta : Addr} (G : g.Ok) (hn : 3 ≤ fc.n)
    (hm : Le (fun x => List.lookup x (MD as sp (rs.map (·.1)) ta)) m) (hr : m "rows" = some (.fl (rowsPV rs))) (hsp' : sp = spotsFrom 0 as)
    (ht : σ ta = some (.dct [])) (h0 : σ0 ta = none) (he : Ext σ0 σ) (hlr : rs.length ≤ 1000) (hs : shortC as) (hl : chN as ≤ 4000) (hla : as.length ≤ 4000) (hsp : ∀ i ∈ sp, i < (rs.map (·.1)).length ∧ i < as.length) (hno : ∀ a ∈ as, isNode a.2)
    (h : ∀ m' σ', Ext σ0 σ' → match tableS (rs.map (·.1)) as rs [] with
      | none => K (.ret .none) ⟨m', σ'⟩
      | some t => σ' ta = some (.dct t) → K (.ret (if strange (rs.map (·.1)) as = true then .none else .ref ta)) ⟨m', σ'⟩) :
    WS g (fcD g fc L) (execs ((bodyOf g.w.params 118).drop 4) (fcD g fc L).env) ⟨m, σ⟩ K X := by
  have hlsp : sp.length ≤ 4000 := by rw [hsp']; have := spots_len as 0; omega
  refine s_cons ?_
  refine s_for (J := J17 as sp rs ta σ0) ?_ ?_ ?_
  · exact iter_fl (e_name (p := .fl (rowsPV rs)) hr ⟨_, rfl, hm, rs, [], rfl, ht, he, rfl, by simp⟩)
  · rintro p ps ⟨m1, σ1⟩ ⟨hm1, r, t, e, ht1, he1, hs1, hl1⟩
    simp only at hm1 ht1 he1
    cases r with
    | nil => (first | exact absurd e (List.cons_ne_nil _ _) | exact absurd e.symm (List.cons_ne_nil _ _) | cases e)
    | cons a r =>
      obtain ⟨n, d⟩ := a
      injection e with e1 e2
      subst e1
      refine as_tup2 ?_ (.inr ⟨rfl, rfl⟩) (.inl rfl)
      refine d_turn (σ0 := σ0) (as := as) (sp := sp) (names := rs.map (·.1)) (ta := ta) (t := t) (n := n) (d := d) G hn ?_ ?_ setm_eq ht1 (by simp at hl1; omega) h0 he1 hs hl (by omega) hsp hlsp hno fun m' σ' ex hag => ?_
      · intro x q hx
        have hx0 := hx
        change List.lookup x (MD as sp (rs.map (·.1)) ta) = some q at hx
        have n1 : x ≠ "default" := fun z => by subst z; cases hx
        have n2 : x ≠ "name" := fun z => by subst z; cases hx
        exact (setm_ne n1).trans ((setm_ne n2).trans (hm1 x q hx0))
      · exact (setm_ne (m := setm m1 "name" (.str n)) (x := "default") (y := "name") (p := d) (by decide)).trans setm_eq
      · rw [tableS_cons, ← hsp'] at hs1
        generalize hT : turnS (namedTold n as ++ spotTold n (rs.map (·.1)) as sp) n d t = o at hs1
        cases o with
        | none =>
          have := h m' σ' ex
          rw [← hs1] at this
          exact this
        | some t' =>
          intro ht'
          have lt := turnS_len hT
          refine ⟨fun x q hx => ?_, r, t', e2, ht', ex, hs1, by simp at hl1; omega⟩
          have hx0 := hx
          change List.lookup x (MD as sp (rs.map (·.1)) ta) = some q at hx
          have n1 : x ≠ "default" := fun z => by subst z; cases hx
          have n2 : x ≠ "name" := fun z => by subst z; cases hx
          have n3 : x ≠ "told" := fun z => by subst z; cases hx
          exact (hag x n3).trans ((setm_ne n1).trans ((setm_ne n2).trans (hm1 x q hx0)))
  · rintro ⟨m1, σ1⟩ ⟨hm1, r, t, e, ht1, he1, hs1, hl1⟩
    simp only at hm1 ht1 he1
    cases r with
    | cons a r => (first | exact absurd e (List.cons_ne_nil _ _) | exact absurd e.symm (List.cons_ne_nil _ _) | cases e)
    | nil =>
      rw [tableS] at hs1
      refine d_strange (as := as) (names := rs.map (·.1)) (ta := ta) G hn (hm1 "assocs" _ rfl) (hm1 "names" _ rfl) (hm1 "table" _ rfl) hs hl fun m' σ' ex => ?_
      have := h m' σ' (he1.trans ex)
      rw [← hs1] at this
      exact this (ex ta _ ht1)
end
end Mine

namespace Mine

theorem badS_false {rs : Rw} {as : As} (h : badS (rs.map (·.1)) as = false) : ∀ i ∈ spotsFrom 0 as, i < (rs.map (·.1)).length ∧ i < as.length := by
  unfold badS at h
  simp only [Bool.or_eq_false_iff, decide_eq_false_iff_not, bne_eq_false_iff_eq] at h
  obtain ⟨_, h1, h2⟩ := h
  intro i hi
  have := (spots_lt as 0 i hi).2
  rw [h2] at hi
  have := List.mem_range.mp hi
  omega
inductive J18a (rs : Rw) (σ0 : Store) (ps acc : List PV) (σ : Store) : Prop
  | mk (hs : σ = σ0) (done r : Rw) (h1 : rs = done ++ r) (h2 : ps = rowsPV r) (h3 : acc = (done.map (·.1)).map .str)
inductive J18b (as : As) (σ0 : Store) (ps acc : List PV) (σ : Store) : Prop
  | mk (hs : σ = σ0) (done r : As) (h1 : as = done ++ r) (h2 : ps = ((List.range' done.length r.length).map fun i => PV.int (i : Nat))) (h3 : acc = natsPV (spotsFrom 0 done))
inductive J18c (N : List Str) (σ0 : Store) (ps : List PV) (acc : List (Str × PV)) (σ : Store) : Prop
  | mk (hs : σ = σ0) (done r : List Str) (h1 : N = done ++ r) (h2 : ps = r.map .str) (h3 : acc = dedup done [])
section
variable {g : Gx} {fc : Fc}
/-- _law_due -/
theorem c_due {K : PV → Store → Prop} {X : Int → Store → Prop} {σ0 : Store} {rs : Rw} {as : As} (G : g.Ok) (hn : 4 ≤ fc.n)
    (hlr : rs.length ≤ 1000) (hs : shortC as) (hl : chN as ≤ 4000) (hla : as.length ≤ 4000) (hno : ∀ a ∈ as, isNode a.2)
    (h : ∀ t a σ', dueS rs as = some t → Ext σ0 σ' → σ' a = some (.dct t) → K (.ref a) σ') (hx : ∀ σ', dueS rs as = none → Ext σ0 σ' → K .none σ') : WC g fc 118 [.fl (rowsPV rs), .fl (as.map asPV)] σ0 K X := by
  refine WC.enter ["rows", "assocs"] G ?h (by omega) rfl rfl rfl rfl (by kernel_rfl) rfl rfl rfl (by decide) ?hb ?hk rfl rfl rfl
  case hb => exact len2 fun _ _ => rfl
  case hk => decide
  case h =>
    intro L hnn
    refine s_cons ?_
    refine s_set ?_ (.inr ⟨rfl, rfl⟩)
    refine e_lcomp1 (c1 := none) (J := J18a rs σ0) rfl ?_ ?_ ?_
    · exact iter_fl (e_name (p := .fl (rowsPV rs)) rfl ⟨_, rfl, rfl, rfl, [], rs, rfl, rfl, rfl⟩)
    · rintro D C p ps acc σ hD ⟨es, done, r, e, e2, eq⟩
      cases r with
      | nil => (first | exact absurd e2 (List.cons_ne_nil _ _) | exact absurd e2.symm (List.cons_ne_nil _ _) | cases e2)
      | cons a r =>
        obtain ⟨n, d⟩ := a
        injection e2 with e2 e3
        subst e2
        have ld : done.length ≤ 1000 := by rw [e] at hlr; simp at hlr; omega
        refine ⟨_, tg_tup2 rfl rfl (capt_local (C := C) rfl) (capt_local (C := C) rfl) (by decide), t_true ?_⟩
        rw [if_pos rfl]
        exact e_name (p := .str n) rfl ⟨by rw [eq]; simp; omega, _, rfl, hD, es, done ++ [(n, d)], r, by rw [e]; simp, e3, by rw [eq]; simp⟩
    · rintro D acc σ hD ⟨es, done, r, e, e2, rfl⟩
      subst σ
      cases r with
      | cons a r => (first | exact absurd e2 (List.cons_ne_nil _ _) | exact absurd e2.symm (List.cons_ne_nil _ _) | cases e2)
      | nil =>
        rw [List.append_nil] at e
        subst e
        refine ⟨_, _, .inr ⟨_, rfl, rfl, rfl⟩, ?_⟩
        generalize hN : rs.map (·.1) = N at *
        have lN : N.length ≤ 1000 := by rw [← hN]; simpa using hlr
        refine s_cons ?_
        refine s_lcomp1 (c1 := some _) (J := J18b as σ0) rfl ?_ ?_ ?_ rfl
        · refine iter_range G rfl (e_len G rfl (e_name (p := .fl (as.map asPV)) rfl ⟨as.length, by omega, by simp, as.length, rfl, by omega, rfl, rfl, [], as, rfl, ?_, rfl⟩))
          unfold intsTo; rw [List.range_eq_range']; rfl
        · rintro D C p ps acc σ hD ⟨es, done, r, e, e2, eq⟩
          cases r with
          | nil => (first | exact absurd e2 (List.cons_ne_nil _ _) | exact absurd e2.symm (List.cons_ne_nil _ _) | cases e2)
          | cons a r =>
            rw [List.length_cons, List.range'_succ, List.map_cons] at e2
            injection e2 with e2 e3
            subst e2
            have ld : done.length + 1 ≤ as.length := by rw [e]; simp
            obtain ⟨pc, ea, en⟩ := asPV_none a
            refine ⟨_, tg_name rfl (capt_local (C := C) rfl), ?_⟩
            refine t_tst (t_cmp ?_)
            refine e_sub (e_sub (e_name (p := .fl (as.map asPV)) ?_ (e_name (p := .int done.length) rfl (sub_fl (p := asPV a) (by omega) (by omega) (by rw [e]; simp) ?_))))
            · rfl
            rw [ea]
            refine e_int (sub_tup (j := 0) (p := pc) (by decide) (by decide) rfl rfl (e_none (cmp_is_none ⟨_, rfl, ?_⟩)))
            rw [en]
            have sn := spotsFrom_snoc done 0 a
            have sl := spots_len done 0
            cases ha : a.1 with
            | none =>
              rw [ha] at sn
              rw [if_pos (show (none : Option (List Ch)).isNone = true from rfl)]
              refine e_name (p := .int done.length) rfl ⟨by rw [eq]; unfold natsPV; simp; omega, _, rfl, hD, es, done ++ [a], r, by rw [e]; simp, ?_, ?_⟩
              · rw [e3]; simp
              · rw [eq, sn]; unfold natsPV; simp
            | some cs =>
              rw [ha] at sn
              rw [if_neg (by simp)]
              refine ⟨_, rfl, hD, es, done ++ [a], r, by rw [e]; simp, ?_, ?_⟩
              · rw [e3]; simp
              · rw [eq, sn]; simp
        · rintro D acc σ hD ⟨es, done, r, e, e2, rfl⟩
          subst σ
          cases r with
          | cons a r => (first | exact absurd e2 (List.cons_ne_nil _ _) | exact absurd e2.symm (List.cons_ne_nil _ _) | cases e2)
          | nil =>
            rw [List.append_nil] at e
            subst e
            refine ⟨_, _, .inr ⟨_, rfl, rfl, rfl⟩, ?_⟩
            generalize hS : spotsFrom 0 as = S at *
            have lS : S.length ≤ 4000 := by rw [← hS]; have := spots_len as 0; omega
            refine s_cons ?_
            have bad : badS N as = ((N.length != (dedup N []).length) || (decide (S.length > N.length) || (S != List.range S.length))) := by unfold badS; rw [hS]
            have hret : badS N as = true → ∀ σ', Ext σ0 σ' → K .none σ' := fun b σ' x => hx σ' (by unfold dueS; rw [hN, if_pos b]) x
            refine s_if (t_or3 (t_cmp ?_))
            refine e_len G rfl (e_name (p := .fl (N.map .str)) rfl ⟨N.length, by omega, by simp, ?_⟩)
            refine e_len G rfl ?_
            refine e_dcomp1 (J := J18c N σ0) rfl ?_ ?_ ?_
            · exact iter_fl (e_name (p := .fl (N.map .str)) rfl ⟨_, rfl, rfl, rfl, [], N, rfl, rfl, rfl⟩)
            · rintro D C p ps acc σ hD ⟨es, done, r, e, e2, eq⟩
              cases r with
              | nil => (first | exact absurd e2 (List.cons_ne_nil _ _) | exact absurd e2.symm (List.cons_ne_nil _ _) | cases e2)
              | cons n r =>
                injection e2 with e2 e3
                subst e2
                have dl := dedup_len done []
                refine ⟨_, tg_name rfl (capt_local (C := C) rfl), ?_⟩
                exact e_name (p := .str n) rfl (e_int ⟨by rw [eq]; simp at dl; rw [e] at lN; simp at lN; omega, n, _, rfl, rfl, hD, es, done ++ [n], r, by rw [e]; simp, e3, by rw [eq, dedup_snoc]⟩)
            · rintro D acc σ hD ⟨es, done, r, e, e2, rfl⟩
              subst σ
              cases r with
              | cons a r => (first | exact absurd e2 (List.cons_ne_nil _ _) | exact absurd e2.symm (List.cons_ne_nil _ _) | cases e2)
              | nil =>
                rw [List.append_nil] at e
                subst done
                have dl := dedup_len N []
                simp at dl
                have ex : Ext σ0 (upd σ0 D (.dct (dedup N []))) := Ext.upd hD
                refine ⟨(dedup N []).length, by omega, ?_, cmp_ne (ok_int _) (ok_int _) ⟨_, rfl, ?_⟩⟩
                · dsimp only
                  rw [upd_self]
                rw [eq_ii]
                by_cases c1 : N.length = (dedup N []).length
                rotate_left
                · rw [if_pos (by simp; omega), if_pos rfl]
                  exact s_cons (s_ret (e_none (hret (by rw [bad]; simp [c1]) _ ex)))
                rw [if_neg (by simp; omega)]
                refine t_or (t_cmp ?_)
                refine e_len G rfl (e_name (p := .fl (natsPV S)) rfl ⟨S.length, by omega, by unfold natsPV; simp, ?_⟩)
                refine e_len G rfl (e_name (p := .fl (N.map .str)) rfl ⟨N.length, by omega, by simp, cmp_gt ⟨_, rfl, ?_⟩⟩)
                by_cases c2 : N.length < S.length
                · rw [if_pos (by simp; omega), if_pos rfl]
                  exact s_cons (s_ret (e_none (hret (by rw [bad]; simp [c2]) _ ex)))
                rw [if_neg (by simp; omega)]
                refine t_cmp ?_
                refine e_name (p := .fl (natsPV S)) rfl ?_
                refine e_list_range G rfl rfl (e_len G rfl (e_name (p := .fl (natsPV S)) rfl ⟨S.length, by omega, by unfold natsPV; simp, S.length, rfl, by omega, ?_⟩))
                refine cmp_ne (nats_ok _) (nats_ok (List.range S.length)) ⟨_, rfl, ?_⟩
                have ne : (PV.fl (natsPV S)).eq (.fl (intsTo S.length)) = (S == List.range S.length) := nats_eq _ _
                rw [ne]
                by_cases c3 : S = List.range S.length
                rotate_left
                · rw [if_pos (by simpa using c3)]
                  exact s_cons (s_ret (e_none (hret (by rw [bad]; simp [c3]) _ ex)))
                rw [if_neg (by simpa using c3)]
                have hb : badS N as = false := by rw [bad]; rw [← c3]; simp; omega
                refine s_nil ?_
                refine s_cons ?_
                refine s_set (e_dict0 fun ta hta => ?_) (.inl rfl)
                have hta : upd σ0 D (.dct (dedup N [])) ta = none := hta
                subst N
                subst S
                refine d_loop (rs := rs) (as := as) (sp := spotsFrom 0 as) (ta := ta) (σ0 := σ0) G (by omega) ?_ rfl rfl upd_self (ex.none hta) (ex.trans (Ext.upd hta)) hlr hs hl hla (badS_false hb) hno fun m' σ' ex' => ?_
                · exact le_list (List.forall_mem_cons.mpr ⟨rfl, List.forall_mem_cons.mpr ⟨rfl, List.forall_mem_cons.mpr ⟨rfl, List.forall_mem_cons.mpr ⟨rfl, fun _ h => by cases h⟩⟩⟩⟩)
                · have hd : dueS rs as = match tableS (rs.map (·.1)) as rs [] with
                    | none => none
                    | some t => if strange (rs.map (·.1)) as = true then none else some t := by
                    unfold dueS; rw [hb, if_neg (by simp)]
                    all_goals (cases tableS (rs.map (·.1)) as rs [] <;> rfl)
                  generalize tableS (rs.map (·.1)) as rs [] = o at hd
                  cases o with
                  | none => exact hx σ' hd ex'
                  | some t =>
                    intro ht
                    by_cases c4 : strange (rs.map (·.1)) as = true
                    · simp only [if_pos c4] at hd ⊢
                      exact hx σ' hd ex'
                    · simp only [if_neg c4] at hd ⊢
                      exact h t ta σ' hd ex' ht
end
end Mine

namespace Mine

noncomputable abbrev lawEnv (P : Params) (L fa : Addr) (cd : Value) : Env := envOfC "law" (fdOf P 130).scope L fa cd
noncomputable abbrev fcW (g : Gx) (L fa : Addr) (cd : Value) : Fc := ⟨callerA.deeper (lawEnv g.w.params L fa cd), lawEnv g.w.params L fa cd, [lawEnv g.w.params L fa cd], 500, true⟩
noncomputable def lawNames : List Str := ["x", "y", "z", "item", "\"+\"", "\"and\"", "list", "key"]
theorem lawNames_known : ∀ n ∈ lawNames, n ∈ known := by decide +kernel

noncomputable def goodF (fs : List Fm) : Prop := ∀ f ∈ fs, (∀ n ∈ f.names, n ∈ known) ∧ f.names.length ≤ 2 ∧ 1 ≤ f.names.length
theorem goodF_snoc {fs : List Fm} {f : Fm} (h : goodF fs) (h1 : (∀ n ∈ f.names, n ∈ known) ∧ f.names.length ≤ 2 ∧ 1 ≤ f.names.length) : goodF (fs ++ [f]) := fun x hx => by
  rcases List.mem_append.mp hx with h2 | h2
  · exact h x h2
  · simp at h2; subst h2; exact h1
theorem strs_ok : PyData.strOk "fobject" = true ∧ PyData.strOk "in" = true ∧ PyData.strOk "name" = true ∧ PyData.strOk "integer" = true ∧ PyData.strOk "int" = true ∧ PyData.strOk "ftype" = true ∧ PyData.strOk "discrete" = true ∧ PyData.strOk "fsub" = true ∧ PyData.strOk "function" = true ∧ PyData.strOk "fpack" = true ∧ PyData.strOk "maps" = true ∧ PyData.strOk "box" = true ∧ PyData.strOk "other" = true := by decide +kernel
theorem strs_parts {ns : List Str} (h : ∀ n ∈ ns, n ∈ known) : PV.cleans (ns.map .str) = true ∧ PyData.depthAll (PV.Ds (ns.map .str)) = 0 := by
  induction ns with
  | nil => simp [PV.cleans, PV.Ds, PyData.depthAll]
  | cons n ns ih =>
    obtain ⟨a, b⟩ := ih fun x hx => h x (.tail _ hx)
    have := (known_ok n (h n (.head _))).ok
    simp [PV.cleans, PV.clean, PV.Ds, PV.D, PyData.depthAll, PyData.depth, a, b, this]
theorem Fm.parts {f : Fm} (h : ∀ n ∈ f.names, n ∈ known) : f.pv.clean = true ∧ f.pv.D.depth ≤ 20 := by
  obtain ⟨s1, s2, s3, s4, s5, s6, s7, s8, s9, s10, s11, s12, s13⟩ := strs_ok
  cases f with
  | obj ns d =>
    obtain ⟨a, b⟩ := strs_parts (show ∀ n ∈ ns, n ∈ known from h)
    cases d <;> simp [Fm.pv, dInt, PV.clean, PV.cleans, PV.D, PV.Ds, PyData.depth, PyData.depthAll, a, b, s1, s2, s3, s4, s5]
  | typ n =>
    have := (known_ok n (h n (.head _))).ok
    simp [Fm.pv, PV.clean, PV.cleans, PV.D, PV.Ds, PyData.depth, PyData.depthAll, this, s6, s7]
  | sub n d =>
    have := (known_ok n (h n (.head _))).ok
    cases d with
    | none => simp [Fm.pv, dSub, PV.clean, PV.cleans, PV.D, PV.Ds, PyData.depth, PyData.depthAll, this, s3, s4, s8, s9]
    | some b => cases b <;> simp [Fm.pv, dSub, PV.clean, PV.cleans, PV.D, PV.Ds, PyData.depth, PyData.depthAll, this, s3, s4, s8, s9, s12, s13]
  | pack n =>
    have := (known_ok n (h n (.head _))).ok
    simp [Fm.pv, PV.clean, PV.cleans, PV.D, PV.Ds, PyData.depth, PyData.depthAll, this, s3, s10, s11, s12]
theorem fms_ok {fs : List Fm} (h : goodF fs) : (PV.fl (fs.map Fm.pv)).ok = true := by
  have : PV.cleans (fs.map Fm.pv) = true ∧ PyData.depthAll (PV.Ds (fs.map Fm.pv)) ≤ 20 := by
    induction fs with
    | nil => simp [PV.cleans, PV.Ds, PyData.depthAll]
    | cons f fs ih =>
      obtain ⟨a, b⟩ := ih fun x hx => h x (.tail _ hx)
      obtain ⟨c, d⟩ := Fm.parts (h f (.head _)).1
      simp only [List.map_cons, PV.cleans, PV.Ds, PyData.depthAll, a, c]
      exact ⟨rfl, Nat.max_le.mpr ⟨d, b⟩⟩
  unfold PV.ok
  rw [PV.clean, PV.D, PyData.depth, this.1]
  simp
  omega

noncomputable def need : Nat → Nat
  | 0 => 0
  | 1 => 1
  | n + 2 => 2 * n + 2

section
variable {g : Gx} {fc : Fc} {st : AS} {X : Int → AS → Prop}
theorem e_lawnames {pos : Pos} {K : PV → AS → Prop} (G : g.Ok) (hx : fc.env.kindOf "_law_names" = some .globalImplicit) (h : K (.tup (lawNames.map .str)) st) : WE g fc (eval (.Name "_law_names" pos) fc.env) st K X := by
  intro s r
  refine name_glob G r (n_names _) hx (Post.intro r ?_ h)
  have e : (KF g.w.params).lookup 80 = some _ := rfl
  have hb : s.heap.get? 80 = some _ := (G.K.keeps r.base) 80 _ e
  have hs : st.σ 80 = none := by
    cases q : st.σ 80 with
    | none => rfl
    | some mo =>
      have := (r.sto _ _ q).1.1
      rw [G.K 80 _ e] at this
      cases this
  exact .tup hb hs (.cons (.str _ _) (.cons (.str _ _) (.cons (.str _ _) (.cons (.str _ _) (.cons (.str _ _) (.cons (.str _ _) (.cons (.str _ _) (.cons (.str _ _) .nil))))))))
end
end Mine

namespace Mine

noncomputable abbrev MW (wl fa la : Addr) : Names := fun x => List.lookup x ([("well", .ref wl), ("formals", .ref fa), ("left", .ref la)] : List (Str × PV))
theorem need_step {n l : Nat} (h : need (n + 1) ≤ l) (hn : n + 1 ≤ 5) : 1 ≤ l ∧ need n ≤ l - 1 ∧ (2 < l - 1 → need n ≤ l - 2) := by
  match n, hn with
  | 0, _ => change 1 ≤ l at h; show 1 ≤ l ∧ 0 ≤ l - 1 ∧ (2 < l - 1 → 0 ≤ l - 2); omega
  | 1, _ => change 2 ≤ l at h; show 1 ≤ l ∧ 1 ≤ l - 1 ∧ (2 < l - 1 → 1 ≤ l - 2); omega
  | 2, _ => change 4 ≤ l at h; show 1 ≤ l ∧ 2 ≤ l - 1 ∧ (2 < l - 1 → 2 ≤ l - 2); omega
  | 3, _ => change 6 ≤ l at h; show 1 ≤ l ∧ 4 ≤ l - 1 ∧ (2 < l - 1 → 4 ≤ l - 2); omega
  | 4, _ => change 8 ≤ l at h; show 1 ≤ l ∧ 6 ≤ l - 1 ∧ (2 < l - 1 → 6 ≤ l - 2); omega
theorem erase_map (xs : List Str) (k : Nat) : (xs.map PV.str).eraseIdx k = (xs.eraseIdx k).map .str := by
  induction xs generalizing k with
  | nil => simp
  | cons x xs ih => cases k with
    | zero => simp
    | succ k => simp [ih]

section
variable {g : Gx} {K : AF → AS → Prop} {X : Int → AS → Prop}
/-- a turn of law's loop over the formals -/
theorem w_turn {L f0 : Addr} {cd : Value} {m : Names} {σ : Store} {wl fa la : Addr} {cs : List Int} {k : Nat} {fs : List Fm} {ls : List Str} {j : Nat} (G : g.Ok)
    (hm : Le (MW wl fa la) m) (hw : σ wl = some (wellO cs k)) (hf : σ fa = some (.lst (fs.map Fm.pv))) (hl : σ la = some (.lst (ls.map .str)))
    (n1 : wl ≠ fa) (n2 : wl ≠ la) (n3 : fa ≠ la) (hcs : cs.length ≤ 10000) (hk : k ≤ 1000) (hg : goodF fs) (hls : ∀ n ∈ ls, n ∈ known) (hll : ls.length ≤ 100) (hfl : fs.length ≤ 100) (hj : need (j + 1) ≤ ls.length) (hj5 : j + 1 ≤ 5)
    (h : ∀ (m' : Names) (σ' : Store) (k' : Nat) (fs' : List Fm) (ls' : List Str), Le (MW wl fa la) m' → σ' wl = some (wellO cs k') → σ' fa = some (.lst (fs'.map Fm.pv)) → σ' la = some (.lst (ls'.map .str)) → k' ≤ k + 10 → goodF fs' → (∀ n ∈ ls', n ∈ known) → ls'.length ≤ 100 → fs'.length = fs.length + 1 → need j ≤ ls'.length → K .next ⟨m', σ'⟩) :
    WS g (fcW g L f0 cd) (execs (forBody ((bodyOf g.w.params 130).drop 2)) (fcW g L f0 cd).env) ⟨m, σ⟩ K X := by
  obtain ⟨l1, l2, l3⟩ := need_step hj hj5
  refine s_cons ?_
  refine s_set ?_ (.inl rfl)
  refine e_pop (e_name (p := .ref la) (hm _ _ rfl) ⟨la, _, rfl, hl, ?_⟩)
  refine e_call G (n_tell _) (k_tell _) rfl (l_cons (e_name (p := .ref wl) (hm _ _ rfl) (l_cons ?_)))
  refine e_len G rfl (e_name (p := .ref la) (hm _ _ rfl) ⟨ls.length, leU hll, by dsimp only; rw [hl]; simp, l_nil ?_⟩)
  refine c_tell G (by show 1 ≤ 500; decide) hw (leU hk) hcs (by omega) fun r hr => ?_
  have hr' : r < ls.length := Int.ofNat_lt.mp hr
  have i1 := i63 hr' (leU hll)
  refine ⟨r, ls.map .str, r, .str ls[r], rfl, (upd_ne (Ne.symm n2)).trans hl, by rw [List.length_map]; exact leU hll, i1.1, i1.2, seq_at (Int.natCast_nonneg r) (by simpa using hr'), by simp [hr'], ?_⟩
  have hnk : ls[r] ∈ known := hls _ (List.getElem_mem hr')
  generalize hN : ls[r] = N at *
  have hls2 : ∀ n ∈ ls.eraseIdx r, n ∈ known := fun n hn => hls n (List.mem_of_mem_eraseIdx hn)
  have hll2 : (ls.eraseIdx r).length = ls.length - 1 := List.length_eraseIdx_of_lt hr'
  have hla2 : ((ls.map PV.str).eraseIdx r) = (ls.eraseIdx r).map .str := erase_map _ _
  rw [hla2]
  generalize hL2 : ls.eraseIdx r = ls2 at *
  let m1 := setm m "name" (.str N)
  have hm1 : Le (MW wl fa la) m1 := hm.setm rfl
  have hnm : m1 "name" = some (.str N) := setm_eq
  -- the rest, from a state in which more is known
  have rest : ∀ (σ2 : Store) (k2 : Nat) (ms ls3 : List Str), σ2 wl = some (wellO cs k2) → σ2 fa = some (.lst (fs.map Fm.pv)) → σ2 la = some (.lst (ls3.map .str)) → k2 ≤ k + 4 → (∀ n ∈ ms, n ∈ known) → ms.length ≤ 1 → (∀ n ∈ ls3, n ∈ known) → ls3.length ≤ 100 → need j ≤ ls3.length →
      WS g (fcW g L f0 cd) (execs ((forBody ((bodyOf g.w.params 130).drop 2)).drop 2) (fcW g L f0 cd).env) ⟨setm m1 "more" (.fl (ms.map .str)), σ2⟩ K X := by
    intro σ2 k2 ms ls3 hw2 hf2 hl2 hk2 hms hml h3 h4 h5
    have hm2 : Le (MW wl fa la) (setm m1 "more" (.fl (ms.map .str))) := hm1.setm rfl
    refine s_cons ?_
    refine s_expr ?_
    refine e_append (e_name (p := .ref fa) (hm2 "formals" _ rfl) ⟨fa, _, rfl, hf2, ?_⟩)
    refine e_call G (n_formal _) (k_formal _) rfl (l_cons (e_name (p := .ref wl) (hm2 "well" _ rfl) (l_cons (e_name (p := .str N) ((setm_ne (m := m1) (x := "more") (y := "name") (p := .fl (ms.map .str)) (by decide)).trans hnm) (l_cons (e_name (p := .fl (ms.map .str)) (setm_eq (m := m1) (x := "more") (p := .fl (ms.map .str))) (l_nil ?_)))))))
    refine c_formal G (by show 2 ≤ 500; decide) hw2 (by omega) hcs (by omega) fun f k3 hfn hk3 => ?_
    refine ⟨_, (upd_ne (Ne.symm n1)).trans hf2, by simp; omega, ?_⟩
    refine s_nil (h _ _ k3 (fs ++ [f]) ls3 hm2 ?_ ?_ ?_ (by omega) (goodF_snoc hg ?_) h3 h4 (by simp) h5)
    · exact (upd_ne n1).trans upd_self
    · rw [List.map_append]; exact upd_self
    · exact (upd_ne (Ne.symm n3)).trans ((upd_ne (Ne.symm n2)).trans hl2)
    · rcases hfn with e | e
      · rw [e]; simp [hnk]
      · rw [e]
        refine ⟨fun n hn => ?_, by simp; omega, by simp⟩
        rcases List.mem_cons.mp hn with z | z
        · subst z; exact hnk
        · exact hms n z
  refine s_cons ?_
  refine s_set ?_ (.inl rfl)
  refine e_ifexp ?_
  refine t_and ?_
  refine t_cmp ?_
  refine e_call G (n_tell _) (k_tell _) rfl (l_cons (e_name (p := .ref wl) (hm1 "well" _ rfl) (l_cons (e_int (l_nil ?_)))))
  refine c_tell (cs := cs) (k := k + 1) G (by show 1 ≤ 500; decide) ((upd_ne n2).trans upd_self) (by omega) hcs (by decide) fun q hq => ?_
  refine e_int (cmp_eq (ok_int _) (ok_int _) ⟨_, rfl, ?_⟩)
  rw [eq_ii]
  have w2 : upd (upd (upd σ wl (wellO cs (k + 1))) la (.lst (ls2.map .str))) wl (wellO cs (k + 1 + 1)) wl = some (wellO cs (k + 2)) := upd_self
  have f2 : upd (upd (upd σ wl (wellO cs (k + 1))) la (.lst (ls2.map .str))) wl (wellO cs (k + 1 + 1)) fa = some (.lst (fs.map Fm.pv)) := (upd_ne (Ne.symm n1)).trans ((upd_ne n3).trans ((upd_ne (Ne.symm n1)).trans hf))
  have a2 : upd (upd (upd σ wl (wellO cs (k + 1))) la (.lst (ls2.map .str))) wl (wellO cs (k + 1 + 1)) la = some (.lst (ls2.map .str)) := (upd_ne (Ne.symm n2)).trans upd_self
  by_cases c1 : ((q : Int) == 1) = true
  · rw [if_pos c1]
    refine t_cmp ?_
    refine e_len G rfl (e_name (p := .ref la) (hm1 "left" _ rfl) ⟨ls2.length, by omega, by dsimp only; rw [a2]; simp, e_int (cmp_gt ⟨_, rfl, ?_⟩)⟩)
    by_cases c2 : 2 < ls2.length
    · rw [if_pos (by simp; omega)]
      cases hls3 : ls2 with
      | nil => rw [hls3] at c2; simp at c2
      | cons y ls3 =>
        rw [hls3] at a2 w2 f2
        refine e_list_fl (l_cons ?_)
        refine e_pop (e_name (p := .ref la) (hm1 "left" _ rfl) ⟨la, _, rfl, a2, ?_⟩)
        refine e_int ⟨0, _, 0, .str y, rfl, a2, by rw [hls3] at hll2; simp at hll2 ⊢; omega, by decide, by decide, seq_at (by omega) (by simp), rfl, ?_⟩
        refine l_nil ⟨by simp, ?_⟩
        rw [hls3] at hls2 hll2 c2
        refine rest _ (k + 2) [y] ls3 ((upd_ne n2).trans w2) ((upd_ne n3).trans f2) upd_self (by omega) (by simpa using hls2 y (.head _)) (by simp) (fun n hn => hls2 n (.tail _ hn)) (by simp at hll2; omega) ?_
        simp at hll2 c2
        have := l3 (by omega)
        omega
    · rw [if_neg (by simp; omega)]
      refine e_list_fl (l_nil ⟨by simp, ?_⟩)
      exact rest _ (k + 2) [] ls2 w2 f2 a2 (by omega) (by simp) (by simp) hls2 (by omega) (by omega)
  · rw [if_neg c1]
    refine e_list_fl (l_nil ⟨by simp, ?_⟩)
    exact rest _ (k + 2) [] ls2 w2 f2 a2 (by omega) (by simp) (by simp) hls2 (by omega) (by omega)
end
end Mine

namespace Mine

noncomputable abbrev MX (wl : Addr) (fs : List Fm) : Names := fun x => List.lookup x ([("well", .ref wl), ("formals", .fl (fs.map Fm.pv))] : List (Str × PV))
theorem need_le {r : Nat} (h : r ≤ 5) : need r ≤ 8 := by
  match r, h with
  | 0, _ => decide
  | 1, _ => decide
  | 2, _ => decide
  | 3, _ => decide
  | 4, _ => decide
  | 5, _ => decide

inductive J21 (wl fa la : Addr) (cs : List Int) (ps : List PV) (σ : Store) : Prop
  | mk (k : Nat) (fs : List Fm) (ls : List Str) (h1 : σ wl = some (wellO cs k)) (h2 : σ fa = some (.lst (fs.map Fm.pv))) (h3 : σ la = some (.lst (ls.map .str))) (h4 : k ≤ 10 + 10 * fs.length) (h5 : goodF fs) (h6 : ∀ n ∈ ls, n ∈ known) (h7 : ls.length ≤ 100) (h8 : fs.length + ps.length ≤ 5) (h9 : need ps.length ≤ ls.length)
section
variable {g : Gx} {K : AF → AS → Prop} {X : Int → AS → Prop}
set_option maxHeartbeats 4000000 in
/-- law, up to its formals -/
theorem w_formals {L f0 : Addr} {cd : Value} {m : Names} {σ0 : Store} {xs : List Int} (G : g.Ok) (hsc : m "script" = some (.al (xs.map .int))) (hxl : xs.length ≤ 1000)
    (h : ∀ (m' : Names) (σ' : Store) (wl : Addr) (k : Nat) (fs : List Fm), Le (MX wl fs) m' → σ' wl = some (wellO (xs.take 60) k) → k ≤ 100 → goodF fs → fs.length ≤ 6 →
      WS g (fcW g L f0 cd) (execs ((bodyOf g.w.params 130).drop 4) (fcW g L f0 cd).env) ⟨m', σ'⟩ K X) :
    WS g (fcW g L f0 cd) (execs (bodyOf g.w.params 130) (fcW g L f0 cd).env) ⟨m, σ0⟩ K X := by
  have hcs : (xs.take 60).length ≤ 10000 := by rw [List.length_take]; omega
  refine s_cons ?_
  refine s_set ?_ (.inr ⟨rfl, rfl⟩)
  refine e_dict2 (by decide) fun wl hwl => ?_
  refine e_slice_al (n := 60) (xs := xs.map .int) (by simp; omega) hsc ?_
  refine e_int ⟨upd_self, ?_⟩
  have hwl0 : σ0 wl = none := hwl
  rw [← List.map_take]
  generalize hC : xs.take 60 = cs at *
  show WS g (fcW g L f0 cd) (execs ((bodyOf g.w.params 130).drop 1) (fcW g L f0 cd).env) ⟨setm m "well" (.ref wl), upd (upd σ0 wl (.dct [])) wl (wellO cs 0)⟩ K X
  rw [upd_upd]
  have hw1 : upd σ0 wl (wellO cs 0) wl = some (wellO cs 0) := upd_self
  generalize upd σ0 wl (wellO cs 0) = σ1 at *
  refine s_cons ?_
  refine s_tup2_swap ?_ (.inl rfl) (.inl rfl)
  refine e_tuple (l_cons (e_list (l_nil ⟨by simp, fun fa hfa => l_cons (e_list_of G rfl (e_lawnames G rfl ⟨_, .inl rfl, by decide, fun la hla => l_nil ⟨by simp, _, _, rfl, ?_⟩⟩))⟩)))
  have hfa0 : σ1 fa = none := hfa
  have hla0 : upd σ1 fa (.lst []) la = none := hla
  have n1 : wl ≠ fa := fun z => by rw [← z, hw1] at hfa0; cases hfa0
  have n3 : fa ≠ la := fun z => by rw [← z, upd_self] at hla0; cases hla0
  have n2 : wl ≠ la := fun z => by rw [← z, upd_ne n1, hw1] at hla0; cases hla0
  have rest : ∀ (m2 : Names) (σ2 : Store) (k : Nat) (fs : List Fm), Le (MW wl fa la) m2 → σ2 wl = some (wellO cs k) → σ2 fa = some (.lst (fs.map Fm.pv)) → k ≤ 100 → goodF fs → fs.length ≤ 6 →
      WS g (fcW g L f0 cd) (execs ((bodyOf g.w.params 130).drop 4) (fcW g L f0 cd).env) ⟨m2, σ2⟩ K X := fun m2 σ2 k fs hm2 hw2 hf2 hk hg hfl => by
    refine Wp.freeze (x := "formals") (hm2 "formals" _ rfl) hf2 ?_
    refine h _ _ wl k fs ?_ ?_ hk hg hfl
    · exact le_list (List.forall_mem_cons.mpr ⟨(setm_ne (y := "well") (by decide)).trans (hm2 "well" _ rfl), List.forall_mem_cons.mpr ⟨setm_eq, fun _ h => by cases h⟩⟩)
    · unfold del; rw [if_neg n1]; exact hw2
  refine s_cons ?_
  refine s_forM (M := MW wl fa la) (J := J21 wl fa la cs) ?_ ?_ ?_
  · refine iter_range G rfl ?_
    refine e_call G (n_tell _) (k_tell _) rfl (l_cons (e_name (p := .ref wl) rfl (l_cons (e_int (l_nil ?_)))))
    refine c_tell (cs := cs) (k := 0) G (by show 1 ≤ 500; decide) ((upd_ne n2).trans ((upd_ne n1).trans hw1)) (by omega) hcs (by decide) fun r hr => ?_
    refine ⟨r, rfl, by omega, ?_, 1, [], lawNames, upd_self, ?_, ?_, by simp, (fun _ h => by cases h), lawNames_known, by decide, ?_, ?_⟩
    · exact le_list (List.forall_mem_cons.mpr ⟨rfl, List.forall_mem_cons.mpr ⟨rfl, List.forall_mem_cons.mpr ⟨rfl, fun _ h => by cases h⟩⟩⟩)
    · exact (upd_ne (Ne.symm n1)).trans ((upd_ne n3).trans upd_self)
    · exact (upd_ne (Ne.symm n2)).trans upd_self
    · unfold intsTo; simp; omega
    · have : (intsTo r).length = r := by unfold intsTo; simp
      rw [this]; exact need_le (by omega)
  · rintro p ps σ ⟨k, fs, ls, hw, hf, hl, hk, hg, hls, hll, hfl, hnd⟩
    refine as_name ?_ (.inl rfl)
    rw [List.length_cons] at hfl hnd
    refine w_turn (wl := wl) (fa := fa) (la := la) (cs := cs) (k := k) (fs := fs) (ls := ls) (j := ps.length) G (Le.refl.setm rfl) hw hf hl n1 n2 n3 hcs (by omega) hg hls hll (by omega) hnd (by omega) fun m' σ' k' fs' ls' a1 a2 a3 a4 a5 a6 a7 a8 a9 a10 => ?_
    exact ⟨a1, k', fs', ls', a2, a3, a4, by omega, a6, a7, a8, by omega, a10⟩
  · rintro m2 σ hm2 ⟨k, fs, ls, hw, hf, hl, hk, hg, hls, hll, hfl, hnd⟩
    have hfl : fs.length ≤ 5 := by omega
    refine s_cons ?_
    refine s_if ?_
    refine t_and ?_
    refine t_cmp ?_
    refine e_call G (n_tell _) (k_tell _) rfl (l_cons (e_name (p := .ref wl) (hm2 "well" _ rfl) (l_cons (e_int (l_nil ?_)))))
    refine c_tell (cs := cs) (k := k) G (by show 1 ≤ 500; decide) hw (by omega) hcs (by decide) fun r hr => ?_
    refine e_int (cmp_eq (ok_int _) (ok_int _) ⟨_, rfl, ?_⟩)
    rw [eq_ii]
    have hw3 : upd σ wl (wellO cs (k + 1)) wl = some (wellO cs (k + 1)) := upd_self
    have hf3 : upd σ wl (wellO cs (k + 1)) fa = some (.lst (fs.map Fm.pv)) := (upd_ne (Ne.symm n1)).trans hf
    by_cases c1 : ((r : Int) == 7) = true
    · rw [if_pos c1]
      refine t_cmp ?_
      refine e_name (p := .ref fa) (hm2 "formals" _ rfl) (e_list_fl (l_nil ⟨by simp, cmp_ne_v (.inr ⟨fa, _, rfl, hf3, rfl⟩) (.inl rfl) (fms_ok hg) ok_nil ⟨_, rfl, ?_⟩⟩))
      rw [eq_nil]
      cases hfs : fs with
      | nil =>
        rw [if_neg (by simp)]
        exact s_nil (rest m2 _ (k + 1) fs hm2 hw3 hf3 (by omega) hg (by omega))
      | cons f fr =>
        rw [if_pos (by simp)]
        refine s_cons ?_
        refine s_expr ?_
        refine e_append (e_name (p := .ref fa) (hm2 "formals" _ rfl) ⟨fa, _, rfl, hf3, ?_⟩)
        refine e_sub (e_name (p := .ref fa) (hm2 "formals" _ rfl) (e_int (sub_lst (p := f.pv) hf3 (by decide) (by decide) (by rw [hfs]; rfl) ⟨_, hf3, by simp; omega, ?_⟩)))
        have hgf : goodF (fs ++ [f]) := goodF_snoc hg (hg f (by rw [hfs]; exact .head _))
        refine s_nil (rest m2 _ (k + 1) (fs ++ [f]) hm2 ((upd_ne n1).trans hw3) ?_ (by omega) hgf (by simp; omega))
        rw [List.map_append]; exact upd_self
    · rw [if_neg c1, if_neg (by simp)]
      exact s_nil (rest m2 _ (k + 1) fs hm2 hw3 hf3 (by omega) hg (by omega))
end
end Mine

namespace Mine

noncomputable def rsOf (fs : List Fm) : Rw := fs.flatMap fun f => f.names.map fun n => (n, dv f.dflt)
noncomputable abbrev nmOf (fs : List Fm) : List Str := (rsOf fs).map (·.1)
theorem rsOf_snoc (fs : List Fm) (f : Fm) : rowsPV (rsOf (fs ++ [f])) = rowsPV (rsOf fs) ++ f.names.map (rowP f.dflt) := by
  unfold rsOf rowsPV
  rw [List.flatMap_append, List.map_append]
  simp [rowP]
theorem rsOf_len {fs : List Fm} (h : goodF fs) : (rsOf fs).length ≤ 2 * fs.length := by
  induction fs with
  | nil => simp [rsOf]
  | cons f fs ih =>
    have := ih fun x hx => h x (.tail _ hx)
    have h2 := (h f (.head _)).2.1
    have e : rsOf (f :: fs) = (f.names.map fun n => (n, dv f.dflt)) ++ rsOf fs := rfl
    rw [e]; simp; omega
theorem rsOf_pre {a b : List Fm} : (rsOf a).length ≤ (rsOf (a ++ b)).length := by
  unfold rsOf; rw [List.flatMap_append]; simp
theorem nmOf_known {fs : List Fm} (h : goodF fs) : ∀ n ∈ nmOf fs, n ∈ known := by
  intro n hn
  obtain ⟨⟨n', d⟩, hm, rfl⟩ := List.mem_map.mp hn
  obtain ⟨f, hf, hm2⟩ := List.mem_flatMap.mp hm
  obtain ⟨n2, hn2, e⟩ := List.mem_map.mp hm2
  cases e
  exact (h f hf).1 _ hn2
noncomputable abbrev MY (wl : Addr) (fs : List Fm) : Names := fun x => List.lookup x ([("well", .ref wl), ("formals", .fl (fs.map Fm.pv)), ("rows", .fl (rowsPV (rsOf fs))), ("names", .fl ((nmOf fs).map .str))] : List (Str × PV))

inductive J22a (fs : List Fm) (σ : Store) (ps acc : List PV) (σ' : Store) : Prop
  | mk (hs : σ' = σ) (done r : List Fm) (h1 : fs = done ++ r) (h2 : ps = r.map Fm.pv) (h3 : acc = rowsPV (rsOf done))
inductive J22b (fs : List Fm) (σ : Store) (m₁ : Str → Option PV) (ps qs acc : List PV) (σ' : Store) : Prop
  | mk (hs : σ' = σ) (done : List Fm) (f : Fm) (r : List Fm) (c1 c2 : List Str) (h1 : fs = done ++ f :: r) (h2 : ps = r.map Fm.pv) (h3 : f.names = c1 ++ c2) (h4 : qs = c2.map (rowP f.dflt)) (h5 : acc = rowsPV (rsOf done) ++ c1.map (rowP f.dflt)) (h6 : m₁ "row" = none)
section
variable {g : Gx} {K : AF → AS → Prop} {X : Int → AS → Prop}
/-- law, its rows and names -/
theorem w_rows {L f0 : Addr} {cd : Value} {m : Names} {σ : Store} {wl : Addr} {fs : List Fm} (G : g.Ok) (hm : Le (MX wl fs) m) (hg : goodF fs) (hfl : fs.length ≤ 6)
    (h : ∀ m', Le (MY wl fs) m' → WS g (fcW g L f0 cd) (execs ((bodyOf g.w.params 130).drop 6) (fcW g L f0 cd).env) ⟨m', σ⟩ K X) :
    WS g (fcW g L f0 cd) (execs ((bodyOf g.w.params 130).drop 4) (fcW g L f0 cd).env) ⟨m, σ⟩ K X := by
  have lrs := rsOf_len hg
  refine s_cons ?_
  refine s_lcomp2 (c2 := none) (J := J22a fs σ)
    (J22b fs σ) rfl ?_ ⟨?_, ?_, ?_⟩ ?_ rfl
  · exact iter_fl (e_name (p := .fl (fs.map Fm.pv)) (hm "formals" _ rfl) ⟨_, rfl, rfl, rfl, [], fs, rfl, rfl, rfl⟩)
  · rintro D C p ps acc σ' hD ⟨es, done, r, e, e2, ea⟩
    cases r with
    | nil => (first | exact absurd e2 (List.cons_ne_nil _ _) | exact absurd e2.symm (List.cons_ne_nil _ _) | cases e2)
    | cons f r =>
      injection e2 with e2 e3
      subst e2
      refine ⟨_, tg_name rfl (capt_local (C := C) rfl), ?_⟩
      refine e_call G (n_rows _) (k_rows _) rfl (l_cons (e_name (p := f.pv) rfl (l_nil ?_)))
      have hf := hg f (by rw [e]; simp)
      refine c_rows G (by show 1 ≤ 500; decide) (by omega) ⟨_, _, rfl, rfl, hD, es, done, f, r, [], f.names, e, e3, rfl, rfl, by rw [ea]; simp, rfl⟩
  · rintro D C m₁ ps q qs acc σ' hD ⟨es, done, f, r, c1, c2, e, e2, e3, e4, ea, h3⟩
    cases c2 with
    | nil => (first | exact absurd e4 (List.cons_ne_nil _ _) | exact absurd e4.symm (List.cons_ne_nil _ _) | cases e4)
    | cons n c2 =>
      injection e4 with e4 e5
      subst e4
      refine ⟨_, tg_name rfl h3, t_true ?_⟩
      rw [if_pos rfl]
      have bound : (rowsPV (rsOf done) ++ c1.map (rowP f.dflt)).length ≤ 9999 := by
        have h1 := rsOf_pre (a := done ++ [f]) (b := r)
        have h2 : rowsPV (rsOf (done ++ [f])) = _ := rsOf_snoc done f
        have h4 := congrArg List.length h2
        rw [e3] at h4
        have e' : fs = (done ++ [f]) ++ r := by rw [e]; simp
        rw [← e'] at h1
        unfold rowsPV at h4 ⊢
        simp at h4 ⊢
        omega
      exact e_name (p := rowP f.dflt n) rfl ⟨by rw [ea]; exact bound, _, rfl, hD, es, done, f, r, c1 ++ [n], c2, e, e2, by rw [e3]; simp, e5, by rw [ea]; simp, h3⟩
  · rintro m₁ ps acc σ' ⟨es, done, f, r, c1, c2, e, e2, e3, e4, ea, h3⟩
    cases c2 with
    | cons n c2 => (first | exact absurd e4 (List.cons_ne_nil _ _) | exact absurd e4.symm (List.cons_ne_nil _ _) | cases e4)
    | nil =>
      rw [List.append_nil] at e3
      exact ⟨es, done ++ [f], r, by rw [e]; simp, e2, by rw [ea, rsOf_snoc, e3]⟩
  · rintro D acc σ' hD ⟨es, done, r, e, e2, rfl⟩
    subst σ'
    cases r with
    | cons f r => (first | exact absurd e2 (List.cons_ne_nil _ _) | exact absurd e2.symm (List.cons_ne_nil _ _) | cases e2)
    | nil =>
      rw [List.append_nil] at e
      subst done
      refine ⟨_, _, .inr ⟨_, rfl, rfl, rfl⟩, ?_⟩
      refine s_cons ?_
      refine s_set ?_ (.inr ⟨rfl, rfl⟩)
      generalize hR : rsOf fs = rs
      refine e_lcomp1 (c1 := none) (J := J18a rs σ) rfl ?_ ?_ ?_
      · exact iter_fl (e_name (p := .fl (rowsPV rs)) rfl ⟨_, rfl, rfl, rfl, [], rs, rfl, rfl, rfl⟩)
      · rintro D C p ps acc σ' hD ⟨es, done, r, e, e2, ea⟩
        cases r with
        | nil => (first | exact absurd e2 (List.cons_ne_nil _ _) | exact absurd e2.symm (List.cons_ne_nil _ _) | cases e2)
        | cons a r =>
          obtain ⟨n, d⟩ := a
          injection e2 with e2 e3
          subst e2
          have ld : done.length ≤ 1000 := by rw [hR, e] at lrs; simp at lrs; omega
          refine ⟨_, tg_tup2 rfl rfl (capt_local (C := C) rfl) (capt_local (C := C) rfl) (by decide), t_true ?_⟩
          rw [if_pos rfl]
          exact e_name (p := .str n) rfl ⟨by rw [ea]; simp; omega, _, rfl, hD, es, done ++ [(n, d)], r, by rw [e]; simp, e3, by rw [ea]; simp⟩
      · rintro D acc σ' hD ⟨es, done, r, e, e2, rfl⟩
        subst σ'
        cases r with
        | cons a r => (first | exact absurd e2 (List.cons_ne_nil _ _) | exact absurd e2.symm (List.cons_ne_nil _ _) | cases e2)
        | nil =>
          rw [List.append_nil] at e
          subst done
          refine ⟨_, _, .inr ⟨_, rfl, rfl, rfl⟩, ?_⟩
          subst rs
          refine h _ ?_
          exact le_list (List.forall_mem_cons.mpr ⟨hm "well" _ rfl, List.forall_mem_cons.mpr ⟨hm "formals" _ rfl, List.forall_mem_cons.mpr ⟨rfl, List.forall_mem_cons.mpr ⟨rfl, fun _ h => by cases h⟩⟩⟩⟩)
end
end Mine

namespace Mine

noncomputable abbrev MZ (wl : Addr) (fs : List Fm) (aa : Addr) : Names := fun x => List.lookup x ([("well", .ref wl), ("formals", .fl (fs.map Fm.pv)), ("rows", .fl (rowsPV (rsOf fs))), ("names", .fl ((nmOf fs).map .str)), ("assocs", .ref aa)] : List (Str × PV))
noncomputable def goodA (as : As) : Prop := ∀ a ∈ as, isNode a.2 ∧ (csOf a.1).length ≤ 2 ∧ ∀ c ∈ csOf a.1, Ch.short c
theorem goodA_snoc {as : As} {a : Option (List Ch) × PV} (h : goodA as) (h1 : isNode a.2 ∧ (csOf a.1).length ≤ 2 ∧ ∀ c ∈ csOf a.1, Ch.short c) : goodA (as ++ [a]) := fun x hx => by
  rcases List.mem_append.mp hx with h2 | h2
  · exact h x h2
  · simp at h2; subst h2; exact h1
theorem many_at {r : Nat} (h : r < 6) : ∃ q : Nat, q ≤ 2 ∧ ([.int 0, .int 0, .int 1, .int 1, .int 1, .int 2] : List PV)[r]? = some (.int q) := by
  match r, h with
  | 0, _ => exact ⟨0, by decide, rfl⟩
  | 1, _ => exact ⟨0, by decide, rfl⟩
  | 2, _ => exact ⟨1, by decide, rfl⟩
  | 3, _ => exact ⟨1, by decide, rfl⟩
  | 4, _ => exact ⟨1, by decide, rfl⟩
  | 5, _ => exact ⟨2, by decide, rfl⟩

inductive J23 (wl aa : Addr) (cs : List Int) (as : As) (k q : Nat) (ps acc : List PV) (σ' : Store) : Prop
  | mk (k' : Nat) (chs : List Ch) (h1 : σ' wl = some (wellO cs k')) (h2 : σ' aa = some (.lst (as.map asPV))) (h3 : acc = chs.map Ch.pv) (h4 : ∀ c ∈ chs, Ch.short c) (h5 : k' + 2 * ps.length ≤ k + 1 + 2 * q) (h6 : chs.length + ps.length = q)
section
variable {g : Gx} {K : AF → AS → Prop} {X : Int → AS → Prop}
theorem w_aturn {L f0 : Addr} {cd : Value} {m : Names} {σ : Store} {wl aa : Addr} {fs : List Fm} {as : As} {cs : List Int} {k : Nat} {t : Int} (G : g.Ok)
    (hm : Le (MZ wl fs aa) m) (ht : m "turn" = some (.int t)) (hw : σ wl = some (wellO cs k)) (ha : σ aa = some (.lst (as.map asPV))) (n1 : wl ≠ aa) (hcs : cs.length ≤ 10000) (hk : k ≤ 1000) (hg : goodF fs) (hfl : fs.length ≤ 6) (hga : goodA as) (hal : as.length ≤ 100)
    (h : ∀ (m' : Names) (σ' : Store) (k' : Nat) (as' : As), Le (MZ wl fs aa) m' → σ' wl = some (wellO cs k') → σ' aa = some (.lst (as'.map asPV)) → k' ≤ k + 10 → goodA as' → as'.length = as.length + 1 → K .next ⟨m', σ'⟩) :
    WS g (fcW g L f0 cd) (execs (forBody ((bodyOf g.w.params 130).drop 7)) (fcW g L f0 cd).env) ⟨m, σ⟩ K X := by
  refine s_cons ?_
  refine s_set ?_ (.inl rfl)
  refine e_tuple (l_cons (e_str (l_cons ?_)))
  refine e_binop (e_int (e_name (p := .int t) ht (add_ii ?_)))
  refine l_nil ⟨by simp, ?_⟩
  have hm1 : Le (MZ wl fs aa) (setm m "node" (.tup [.str "int", .int (100 + t)])) := hm.setm rfl
  have hn1 : setm m "node" (.tup [.str "int", .int (100 + t)]) "node" = some (.tup [.str "int", .int (100 + t)]) := setm_eq
  show WS g (fcW g L f0 cd) (execs ((forBody ((bodyOf g.w.params 130).drop 7)).drop 1) (fcW g L f0 cd).env) ⟨setm m "node" (.tup [.str "int", .int (100 + t)]), σ⟩ K X
  generalize setm m "node" (.tup [.str "int", .int (100 + t)]) = m1 at *
  generalize hnd : PV.tup [.str "int", .int (100 + t)] = nd at *
  refine s_cons ?_
  refine s_set ?_ (.inl rfl)
  refine e_sub ?_
  refine e_tuple (l_cons (e_int (l_cons (e_int (l_cons (e_int (l_cons (e_int (l_cons (e_int (l_cons (e_int (l_nil ⟨by simp, ?_⟩)))))))))))))
  refine e_call G (n_tell _) (k_tell _) rfl (l_cons (e_name (p := .ref wl) (hm1 "well" _ rfl) (l_cons (e_int (l_nil ?_)))))
  refine c_tell (cs := cs) (k := k) G (by show 1 ≤ 500; decide) hw (by omega) hcs (by decide) fun r hr => ?_
  obtain ⟨q, hq, hq2⟩ := many_at (r := r) (by omega)
  refine sub_tup (j := r) (p := .int q) (by omega) (by omega) (seq_at (by omega) (by simp; omega)) hq2 ?_
  have hw2 : upd σ wl (wellO cs (k + 1)) wl = some (wellO cs (k + 1)) := upd_self
  have ha2 : upd σ wl (wellO cs (k + 1)) aa = some (.lst (as.map asPV)) := (upd_ne (Ne.symm n1)).trans ha
  generalize upd σ wl (wellO cs (k + 1)) = σ2 at *
  have hm2 : Le (MZ wl fs aa) (setm m1 "many" (.int q)) := hm1.setm rfl
  have hn2 : setm m1 "many" (.int q) "node" = some nd := (setm_ne (by decide)).trans hn1
  have hy2 : setm m1 "many" (.int q) "many" = some (.int q) := setm_eq
  show WS g (fcW g L f0 cd) (execs ((forBody ((bodyOf g.w.params 130).drop 7)).drop 2) (fcW g L f0 cd).env) ⟨setm m1 "many" (.int q), σ2⟩ K X
  generalize setm m1 "many" (.int q) = m2 at *
  have lnm : (nmOf fs).length ≤ 1000 := by have := rsOf_len hg; simp; omega
  refine s_cons ?_
  refine s_lcomp1 (c1 := none) (J := J23 wl aa cs as k q) rfl ?_ ?_ ?_ rfl
  · exact iter_range G rfl (e_name (p := .int q) hy2 ⟨q, rfl, by omega, rfl, k + 1, [], hw2, ha2, rfl, (fun _ h => by cases h), by unfold intsTo; simp, by unfold intsTo; simp⟩)
  · rintro D C p ps acc σ' hD ⟨k', chs, j1, j2, rfl, j4, j5, j6⟩
    have d1 : wl ≠ D := fun z => by rw [← z, j1] at hD; cases hD
    refine ⟨_, tg_name rfl (capt_local (C := C) rfl), t_true ?_⟩
    rw [if_pos rfl]
    simp only [List.length_cons] at j5 j6
    refine e_call G (n_choice _) (k_choice _) rfl (l_cons (e_name (p := .ref wl) ?_ (l_cons (e_name (p := .fl ((nmOf fs).map .str)) ?_ (l_nil ?_)))))
    · dsimp only
      refine capt_look (fc := fcW g L f0 cd) (C := C) (m := m2) (x := "lap") (p := p) (y := "well") ?_ (by decide) (hm2 "well" _ rfl)
      rfl
    · dsimp only
      refine capt_look (fc := fcW g L f0 cd) (C := C) (m := m2) (x := "lap") (p := p) (y := "names") ?_ (by decide) (hm2 "names" _ rfl)
      rfl
    refine c_choice (cs := cs) (k := k') G (by show 2 ≤ 500; decide) ((upd_ne d1).trans j1) (by omega) hcs (nmOf_known hg) lnm fun c k2 hc hk2 => ?_
    refine ⟨by simp; omega, upd σ' wl (wellO cs k2), ?_, (upd_ne (Ne.symm d1)).trans hD, k2, chs ++ [c], upd_self, (upd_ne (Ne.symm n1)).trans j2, by simp, ?_, by omega, by simp; omega⟩
    · show (⟨_, _⟩ : AS) = ⟨_, _⟩
      rw [upd_comm (Ne.symm d1)]
    · intro x hx
      rcases List.mem_append.mp hx with h2 | h2
      · exact j4 x h2
      · simp at h2; subst h2; exact hc
  · rintro D acc σ' hD ⟨k', chs, j1, j2, rfl, j4, j5, j6⟩
    simp only [List.length_nil, Nat.mul_zero, Nat.add_zero] at j5 j6
    refine ⟨_, _, .inr ⟨_, rfl, rfl, rfl⟩, ?_⟩
    have hm3 : Le (MZ wl fs aa) (setm m2 "choices" (.fl (chs.map Ch.pv))) := hm2.setm rfl
    have hn3 : setm m2 "choices" (.fl (chs.map Ch.pv)) "node" = some nd := (setm_ne (by decide)).trans hn2
    have hy3 : setm m2 "choices" (.fl (chs.map Ch.pv)) "many" = some (.int q) := (setm_ne (by decide)).trans hy2
    have hc3 : setm m2 "choices" (.fl (chs.map Ch.pv)) "choices" = some (.fl (chs.map Ch.pv)) := setm_eq
    show WS g (fcW g L f0 cd) (execs ((forBody ((bodyOf g.w.params 130).drop 7)).drop 3) (fcW g L f0 cd).env) ⟨setm m2 "choices" (.fl (chs.map Ch.pv)), σ'⟩ K X
    generalize setm m2 "choices" (.fl (chs.map Ch.pv)) = m3 at *
    refine s_cons ?_
    refine s_expr ?_
    refine e_append (e_name (p := .ref aa) (hm3 "assocs" _ rfl) ⟨aa, _, rfl, j2, ?_⟩)
    refine e_tuple (l_cons ?_)
    refine e_ifexp ?_
    refine t_cmp (e_name (p := .int q) hy3 (e_int (cmp_gt ⟨_, rfl, ?_⟩)))
    by_cases c1 : 0 < q
    · rw [if_pos (by simp; omega)]
      refine e_name (p := .fl (chs.map Ch.pv)) hc3 (l_cons (e_name (p := nd) hn3 (l_nil ⟨by simp, _, j2, by simp; omega, ?_⟩)))
      refine s_nil (h m3 _ k' (as ++ [(some chs, nd)]) hm3 ((upd_ne n1).trans j1) ?_ (by omega) (goodA_snoc hga ⟨⟨_, hnd.symm⟩, by show chs.length ≤ 2; omega, j4⟩) (by simp))
      rw [List.map_append]; exact upd_self
    · rw [if_neg (by simp; omega)]
      refine e_none (l_cons (e_name (p := nd) hn3 (l_nil ⟨by simp, _, j2, by simp; omega, ?_⟩)))
      refine s_nil (h m3 _ k' (as ++ [(none, nd)]) hm3 ((upd_ne n1).trans j1) ?_ (by omega) (goodA_snoc hga ⟨⟨_, hnd.symm⟩, by simp [csOf], fun c hc => by cases hc⟩) (by simp))
      rw [List.map_append]; exact upd_self
end
end Mine

namespace Mine

noncomputable abbrev MV (fs : List Fm) (as : As) (l : Int) : Names := fun x => List.lookup x ([("formals", .fl (fs.map Fm.pv)), ("rows", .fl (rowsPV (rsOf fs))), ("names", .fl ((nmOf fs).map .str)), ("assocs", .fl (as.map asPV)), ("line", .int l)] : List (Str × PV))

inductive J24 (wl aa : Addr) (cs : List Int) (ps : List PV) (σ : Store) : Prop
  | mk (k : Nat) (as : As) (h1 : σ wl = some (wellO cs k)) (h2 : σ aa = some (.lst (as.map asPV))) (h3 : k ≤ 101 + 10 * as.length) (h4 : goodA as) (h5 : as.length + ps.length ≤ 7) (h6 : ∀ p ∈ ps, ∃ i, p = .int i)
section
variable {g : Gx} {K : AF → AS → Prop} {X : Int → AS → Prop}
theorem w_assocs {L f0 : Addr} {cd : Value} {m : Names} {σ : Store} {wl : Addr} {fs : List Fm} {cs : List Int} {k : Nat} (G : g.Ok)
    (hm : Le (MY wl fs) m) (hw : σ wl = some (wellO cs k)) (hcs : cs.length ≤ 10000) (hk : k ≤ 100) (hg : goodF fs) (hfl : fs.length ≤ 6)
    (h : ∀ (m' : Names) (σ' : Store) (as : As) (l : Int), Le (MV fs as l) m' → goodA as → as.length ≤ 7 →
      WS g (fcW g L f0 cd) (execs ((bodyOf g.w.params 130).drop 9) (fcW g L f0 cd).env) ⟨m', σ'⟩ K X) :
    WS g (fcW g L f0 cd) (execs ((bodyOf g.w.params 130).drop 6) (fcW g L f0 cd).env) ⟨m, σ⟩ K X := by
  refine s_cons ?_
  refine s_set (e_list (l_nil ⟨by simp, fun aa haa => ?_⟩)) (.inl rfl)
  have haa : σ aa = none := haa
  have n1 : wl ≠ aa := fun z => by rw [← z, hw] at haa; cases haa
  have hm1 : Le (MZ wl fs aa) (setm m "assocs" (.ref aa)) := by
    refine le_list (List.forall_mem_cons.mpr ⟨?_, List.forall_mem_cons.mpr ⟨?_, List.forall_mem_cons.mpr ⟨?_, List.forall_mem_cons.mpr ⟨?_, List.forall_mem_cons.mpr ⟨setm_eq, fun _ h => by cases h⟩⟩⟩⟩⟩)
    · exact (setm_ne (y := "well") (by decide)).trans (hm "well" _ rfl)
    · exact (setm_ne (y := "formals") (by decide)).trans (hm "formals" _ rfl)
    · exact (setm_ne (y := "rows") (by decide)).trans (hm "rows" _ rfl)
    · exact (setm_ne (y := "names") (by decide)).trans (hm "names" _ rfl)
  show WS g (fcW g L f0 cd) (execs ((bodyOf g.w.params 130).drop 7) (fcW g L f0 cd).env) ⟨setm m "assocs" (.ref aa), upd σ aa (.lst [])⟩ K X
  generalize setm m "assocs" (.ref aa) = m1 at *
  refine s_cons ?_
  refine s_forM (M := MZ wl fs aa) (J := J24 wl aa cs) ?_ ?_ ?_
  · refine iter_range G rfl ?_
    refine e_call G (n_tell _) (k_tell _) rfl (l_cons (e_name (p := .ref wl) (hm1 "well" _ rfl) (l_cons (e_int (l_nil ?_)))))
    refine c_tell (cs := cs) (k := k) G (by show 1 ≤ 500; decide) ((upd_ne n1).trans hw) (by omega) hcs (by decide) fun r hr => ?_
    refine ⟨r, rfl, by omega, hm1, k + 1, [], upd_self, (upd_ne (Ne.symm n1)).trans upd_self, by simp; omega, (fun _ h => by cases h), by unfold intsTo; simp; omega, fun p hp => ?_⟩
    unfold intsTo at hp
    obtain ⟨i, _, rfl⟩ := List.mem_map.mp hp
    exact ⟨_, rfl⟩
  · rintro p ps σ ⟨k, as, hw, ha, hk, hga, hal, hps⟩
    obtain ⟨t, rfl⟩ := hps p (.head _)
    refine as_name ?_ (.inl rfl)
    rw [List.length_cons] at hal
    refine w_aturn (wl := wl) (aa := aa) (fs := fs) (as := as) (cs := cs) (k := k) (t := t) G (Le.refl.setm rfl) setm_eq hw ha n1 hcs (by omega) hg hfl hga (by omega) fun m' σ' k' as' a1 a2 a3 a4 a5 a6 => ?_
    exact ⟨a1, k', as', a2, a3, by omega, a5, by omega, fun p hp => hps p (.tail _ hp)⟩
  · rintro m2 σ hm2 ⟨k, as, hw, ha, hk, hga, hal, _⟩
    simp only [List.length_nil, Nat.add_zero] at hal
    refine Wp.freeze (x := "assocs") (hm2 "assocs" _ rfl) ha ?_
    refine s_cons ?_
    refine s_set ?_ (.inl rfl)
    refine e_binop (e_int ?_)
    refine e_call G (n_tell _) (k_tell _) rfl (l_cons (e_name (p := .ref wl) ((setm_ne (m := m2) (x := "assocs") (y := "well") (p := .fl (as.map asPV)) (by decide)).trans (hm2 "well" _ rfl)) (l_cons (e_int (l_nil ?_)))))
    refine c_tell (cs := cs) (k := k) G (by show 1 ≤ 500; decide) ((show del σ aa wl = σ wl by unfold del; rw [if_neg n1]).trans hw) (by omega) hcs (by decide) fun r hr => ?_
    refine add_ii ?_
    have key : ∀ (A B : PV) (x : Str) (p : PV), x ≠ "line" → x ≠ "assocs" → m2 x = some p → setm (setm m2 "assocs" A) "line" B x = some p := fun A B x p h1 h2 h3 => by
      rw [setm_ne h1, setm_ne h2]; exact h3
    have key2 : ∀ (A B : PV), setm (setm m2 "assocs" A) "line" B "assocs" = some A := fun A B => by
      rw [setm_ne (by decide)]; exact setm_eq
    refine h _ _ as (1 + r) ?_ hga hal
    refine le_list (List.forall_mem_cons.mpr ⟨?_, List.forall_mem_cons.mpr ⟨?_, List.forall_mem_cons.mpr ⟨?_, List.forall_mem_cons.mpr ⟨?_, List.forall_mem_cons.mpr ⟨setm_eq, fun _ h => by cases h⟩⟩⟩⟩⟩)
    · exact key _ _ "formals" _ (by decide) (by decide) (hm2 "formals" _ rfl)
    · exact key _ _ "rows" _ (by decide) (by decide) (hm2 "rows" _ rfl)
    · exact key _ _ "names" _ (by decide) (by decide) (hm2 "names" _ rfl)
    · exact key2 _ _
end
end Mine

namespace Mine

noncomputable def nodeI (i : Nat) : PV := .tup [.str "int", .int i]
noncomputable def plainAs (n : Nat) : As := (List.range n).map fun i => (none, nodeI i)
theorem plainAs_snoc (n : Nat) : plainAs (n + 1) = plainAs n ++ [(none, nodeI n)] := by unfold plainAs; rw [List.range_succ, List.map_append]; rfl
noncomputable def dueP : Nat → List Str → List (Str × PV) → List (Str × PV)
  | _, [], es => es
  | i, n :: r, es => dueP (i + 1) r (put es n (.tup [.str "actual", nodeI i]))
theorem dueP_snoc : ∀ (a : List Str) (i : Nat) (n : Str) (es : List (Str × PV)), dueP i (a ++ [n]) es = put (dueP i a es) n (.tup [.str "actual", nodeI (i + a.length)])
  | [], i, n, es => rfl
  | x :: a, i, n, es => by
    rw [List.cons_append, dueP, dueP, dueP_snoc a]
    have : i + 1 + a.length = i + (x :: a).length := by simp; omega
    rw [this]
theorem dueP_len : ∀ (a : List Str) (i : Nat) (es : List (Str × PV)), (dueP i a es).length ≤ es.length + a.length
  | [], i, es => by simp [dueP]
  | n :: a, i, es => by rw [dueP]; have := dueP_len a (i + 1) (put es n (.tup [.str "actual", nodeI i])); have := put_len es n (.tup [.str "actual", nodeI i]); simp; omega
noncomputable def sameO : Option (List (Str × PV)) → Option (List (Str × PV)) → Prop
  | none, none => True
  | some a, some b => likeD a b
  | _, _ => False
theorem pairs_len (fs : List Fm) : (pairsOf fs).length = (rsOf fs).length := by unfold pairsOf rsOf; simp [List.length_flatMap]
theorem goodA_len {as : As} (h : goodA as) : namesP as ≤ 2 * as.length ∧ chN as ≤ 2 * as.length := by
  induction as with
  | nil => simp [namesP, chN]
  | cons a as ih =>
    obtain ⟨a1, a2⟩ := ih fun x hx => h x (.tail _ hx)
    have hd := (h a (.head _)).2.1
    obtain ⟨c, n⟩ := a
    have e : chN ((c, n) :: as) = (csOf c).length + chN as := by simp [chN]
    rw [e]
    cases c with
    | none => rw [namesP]; simp [csOf]; omega
    | some cs => rw [namesP]; simp [csOf] at hd ⊢; omega

inductive J25a (N : List Str) (σ : Store) (ps acc : List PV) (σ' : Store) : Prop
  | mk (hs : σ' = σ) (done r : List Str) (h1 : N = done ++ r) (h2 : ps = ((List.range' done.length r.length).map fun i => PV.int (i : Nat))) (h3 : acc = (plainAs done.length).map asPV)
inductive J25b (N : List Str) (σ : Store) (ps : List PV) (acc : List (Str × PV)) (σ' : Store) : Prop
  | mk (hs : σ' = σ) (done r : List Str) (h1 : N = done ++ r) (h2 : ps = ((List.range' done.length r.length).map fun i => PV.int (i : Nat))) (h3 : acc = dueP 0 done [])
section
variable {g : Gx} {K : AF → AS → Prop} {X : Int → AS → Prop}
/-- the end of law -/
theorem w_end {L f0 : Addr} {cd : Value} {m : Names} {σ : Store} {fs : List Fm} {as : As} {l : Int} (G : g.Ok)
    (hm : Le (MV fs as l) m) (hg : goodF fs) (hfl : fs.length ≤ 6) (hga : goodA as) (hal : as.length ≤ 7)
    (hA : sameO (matchS fs as) (dueS (rsOf fs) as))
    (hB : sameO (matchS fs (plainAs (nmOf fs).length)) (if (dueP 0 (nmOf fs) []).length = (nmOf fs).length then some (dueP 0 (nmOf fs) []) else none))
    (h : ∀ m' σ', K (.ret (.bool true)) ⟨m', σ'⟩) :
    WS g (fcW g L f0 cd) (execs ((bodyOf g.w.params 130).drop 9) (fcW g L f0 cd).env) ⟨m, σ⟩ K X := by
  have lrs := rsOf_len hg
  have lpr := pairs_len fs
  obtain ⟨la1, la2⟩ := goodA_len hga
  have hfs : ∀ f ∈ fs, f.names.length ≤ 100 := fun f hf => by have := (hg f hf).2.1; omega
  have lnm : (nmOf fs).length = (rsOf fs).length := by simp
  have rest : ∀ σ, WS g (fcW g L f0 cd) (execs ((bodyOf g.w.params 130).drop 10) (fcW g L f0 cd).env) ⟨m, σ⟩ K X := by
    intro σ
    generalize hN : nmOf fs = N at *
    have hnm : m "names" = some (.fl (N.map .str)) := hN ▸ hm "names" _ rfl
    refine s_cons ?_
    refine s_lcomp1 (c1 := none) (J := J25a N σ) rfl ?_ ?_ ?_ rfl
    · refine iter_range G rfl (e_len G rfl (e_name (p := .fl (N.map .str)) hnm ⟨N.length, by omega, by simp, N.length, rfl, by omega, rfl, rfl, [], N, rfl, ?_, rfl⟩))
      unfold intsTo; rw [List.range_eq_range']; rfl
    · rintro D C p ps acc σ' hD ⟨es, done, r, e, e2, eq⟩
      cases r with
      | nil => (first | exact absurd e2 (List.cons_ne_nil _ _) | exact absurd e2.symm (List.cons_ne_nil _ _) | cases e2)
      | cons a r =>
        rw [List.length_cons, List.range'_succ, List.map_cons] at e2
        injection e2 with e2 e3
        subst e2
        have ld : done.length + 1 ≤ N.length := by rw [e]; simp
        refine ⟨_, tg_name rfl (capt_local (C := C) rfl), t_true ?_⟩
        rw [if_pos rfl]
        refine e_tuple (l_cons (e_none (l_cons ?_)))
        refine e_tuple (l_cons (e_str (l_cons (e_name (p := .int done.length) rfl (l_nil ⟨by simp, l_nil ⟨by simp, ?_⟩⟩)))))
        refine ⟨by rw [eq]; unfold plainAs; simp; omega, _, rfl, hD, es, done ++ [a], r, by rw [e]; simp, ?_, ?_⟩
        · rw [e3]; simp
        · rw [eq, List.length_append, List.length_singleton, plainAs_snoc, List.map_append]; rfl
    · rintro D acc σ' hD ⟨es, done, r, e, e2, rfl⟩
      subst σ'
      cases r with
      | cons a r => (first | exact absurd e2 (List.cons_ne_nil _ _) | exact absurd e2.symm (List.cons_ne_nil _ _) | cases e2)
      | nil =>
        rw [List.append_nil] at e
        subst done
        refine ⟨_, _, .inr ⟨_, rfl, rfl, rfl⟩, ?_⟩
        have hp1 : setm m "plain" (.fl ((plainAs N.length).map asPV)) "plain" = some (.fl ((plainAs N.length).map asPV)) := setm_eq
        have hn1 : setm m "plain" (.fl ((plainAs N.length).map asPV)) "names" = some (.fl (N.map .str)) := (setm_ne (by decide)).trans hnm
        have hf1 : setm m "plain" (.fl ((plainAs N.length).map asPV)) "formals" = some (.fl (fs.map Fm.pv)) := (setm_ne (by decide)).trans (hm "formals" _ rfl)
        have hl1 : setm m "plain" (.fl ((plainAs N.length).map asPV)) "line" = some (.int l) := (setm_ne (by decide)).trans (hm "line" _ rfl)
        show WS g (fcW g L f0 cd) (execs ((bodyOf g.w.params 130).drop 11) (fcW g L f0 cd).env) ⟨setm m "plain" (.fl ((plainAs N.length).map asPV)), σ⟩ K X
        generalize setm m "plain" (.fl ((plainAs N.length).map asPV)) = m1 at *
        refine s_cons ?_
        refine s_dcomp1 (J := J25b N σ) rfl ?_ ?_ ?_ rfl
        · refine iter_range G rfl (e_len G rfl (e_name (p := .fl (N.map .str)) hn1 ⟨N.length, by omega, by simp, N.length, rfl, by omega, rfl, rfl, [], N, rfl, ?_, rfl⟩))
          unfold intsTo; rw [List.range_eq_range']; rfl
        · rintro D C p ps acc σ' hD ⟨es, done, r, e, e2, eq⟩
          cases r with
          | nil => (first | exact absurd e2 (List.cons_ne_nil _ _) | exact absurd e2.symm (List.cons_ne_nil _ _) | cases e2)
          | cons a r =>
            rw [List.length_cons, List.range'_succ, List.map_cons] at e2
            injection e2 with e2 e3
            subst e2
            have ld : done.length + 1 ≤ N.length := by rw [e]; simp
            have dl := dueP_len done 0 []
            refine ⟨_, tg_name rfl (capt_local (C := C) rfl), ?_⟩
            refine e_sub (e_name (p := .fl (N.map .str)) ?_ (e_name (p := .int done.length) rfl (sub_fl (p := .str a) (by omega) (by omega) (by rw [e]; simp) ?_)))
            · dsimp only
              refine capt_look (fc := fcW g L f0 cd) (C := C) (m := m1) (x := "at") (p := .int done.length) (y := "names") ?_ (by decide) hn1
              rfl
            refine e_tuple (l_cons (e_str (l_cons ?_)))
            refine e_tuple (l_cons (e_str (l_cons (e_name (p := .int done.length) rfl (l_nil ⟨by simp, l_nil ⟨by simp, ?_⟩⟩)))))
            refine ⟨by rw [eq]; simp at dl; omega, a, _, rfl, rfl, hD, es, done ++ [a], r, by rw [e]; simp, ?_, ?_⟩
            · rw [e3]; simp
            · rw [eq, dueP_snoc, Nat.zero_add]; rfl
        · rintro D acc σ' hD ⟨es, done, r, e, e2, rfl⟩
          subst σ'
          cases r with
          | cons a r => (first | exact absurd e2 (List.cons_ne_nil _ _) | exact absurd e2.symm (List.cons_ne_nil _ _) | cases e2)
          | nil =>
            rw [List.append_nil] at e
            subst done
            have dl := dueP_len N 0 []
            simp at dl
            have hd2 : setm m1 "due" (.ref D) "due" = some (.ref D) := setm_eq
            have hp2 : setm m1 "due" (.ref D) "plain" = some (.fl ((plainAs N.length).map asPV)) := (setm_ne (by decide)).trans hp1
            have hn2 : setm m1 "due" (.ref D) "names" = some (.fl (N.map .str)) := (setm_ne (by decide)).trans hn1
            have hf2 : setm m1 "due" (.ref D) "formals" = some (.fl (fs.map Fm.pv)) := (setm_ne (by decide)).trans hf1
            have hl2 : setm m1 "due" (.ref D) "line" = some (.int l) := (setm_ne (by decide)).trans hl1
            have hs2 : upd σ D (.dct (dueP 0 N [])) D = some (.dct (dueP 0 N [])) := upd_self
            show WS g (fcW g L f0 cd) (execs ((bodyOf g.w.params 130).drop 12) (fcW g L f0 cd).env) ⟨setm m1 "due" (.ref D), upd σ D (.dct (dueP 0 N []))⟩ K X
            generalize setm m1 "due" (.ref D) = m2 at *
            generalize upd σ D (.dct (dueP 0 N [])) = σ2 at *
            have gp : ∀ a ∈ plainAs N.length, a.1 = none := fun a ha => by
              unfold plainAs at ha
              obtain ⟨i, _, rfl⟩ := List.mem_map.mp ha
              rfl
            have lp : (plainAs N.length).length = N.length := by unfold plainAs; simp
            have np : namesP (plainAs N.length) = N.length := by
              have key : ∀ as : As, (∀ a ∈ as, a.1 = none) → namesP as = as.length := by
                intro as
                induction as with
                | nil => intro _; rfl
                | cons a as ih =>
                  intro h
                  obtain ⟨c, n⟩ := a
                  have : c = none := h _ (.head _)
                  subst this
                  rw [namesP, ih fun x hx => h x (.tail _ hx)]; simp; omega
              rw [key _ gp, lp]
            refine s_cons ?_
            refine s_ret ?_
            refine e_cmp ?_
            refine e_call G (n_heard _) (k_heard _) rfl (l_cons (e_name (p := .fl (fs.map Fm.pv)) hf2 (l_cons (e_name (p := .fl ((plainAs N.length).map asPV)) hp2 (l_cons (e_name (p := .int l) hl2 (l_nil ?_)))))))
            refine c_heard G (by show 4 ≤ 500; decide) (by omega) hfs (by omega) (by omega) (fun a ha => by unfold shortA; rw [gp a ha]; trivial) (fun a ha => by rw [gp a ha]; trivial) (fun es a σ' e1 x1 e2 => ?_) fun σ' e1 x1 => ?_
            · rw [e1] at hB
              have hD' := x1 D _ hs2
              refine e_ifexp ?_
              refine t_cmp ?_
              refine e_len G rfl (e_name (p := .ref D) hd2 ⟨(dueP 0 N []).length, by omega, by dsimp only; rw [hD'], ?_⟩)
              refine e_len G rfl (e_name (p := .fl (N.map .str)) hn2 ⟨N.length, by omega, by simp, cmp_eq (ok_int _) (ok_int _) ⟨_, rfl, ?_⟩⟩)
              rw [eq_ii]
              by_cases c1 : (dueP 0 N []).length = N.length
              · rw [if_pos c1] at hB
                rw [if_pos (by simp; omega)]
                exact e_name (p := .ref D) hd2 (cmp_eq_dd G.lim e2 hD' hB (h _ _))
              · rw [if_neg c1] at hB
                cases hB
            · rw [e1] at hB
              have hD' := x1 D _ hs2
              refine e_ifexp ?_
              refine t_cmp ?_
              refine e_len G rfl (e_name (p := .ref D) hd2 ⟨(dueP 0 N []).length, by omega, by dsimp only; rw [hD'], ?_⟩)
              refine e_len G rfl (e_name (p := .fl (N.map .str)) hn2 ⟨N.length, by omega, by simp, cmp_eq (ok_int _) (ok_int _) ⟨_, rfl, ?_⟩⟩)
              rw [eq_ii]
              by_cases c1 : (dueP 0 N []).length = N.length
              · rw [if_pos c1] at hB
                cases hB
              · rw [if_neg (by simp; omega)]
                refine e_none (cmp_eq (p := .none) (q := .none) (by decide) (by decide) ?_)
                have : PV.none.eq .none = true := by decide +kernel
                rw [this]
                exact h _ _
  have sh : ∀ a ∈ as, shortA a := fun a ha => by
    have := (hga a ha).2.2
    unfold shortA
    obtain ⟨c, n⟩ := a
    cases c with
    | none => trivial
    | some cs => exact this
  have cl : ∀ a ∈ as, match a.1 with | none => True | some cs => cs.length ≤ 5000 := fun a ha => by
    have := (hga a ha).2.1
    obtain ⟨c, n⟩ := a
    cases c with
    | none => trivial
    | some cs => simp [csOf] at this ⊢; omega
  have sc : shortC as := fun a ha => (hga a ha).2.2
  have no : ∀ a ∈ as, isNode a.2 := fun a ha => (hga a ha).1
  refine s_cons ?_
  refine s_if ?_
  refine t_cmp ?_
  refine e_call G (n_heard _) (k_heard _) rfl (l_cons (e_name (p := .fl (fs.map Fm.pv)) (hm "formals" _ rfl) (l_cons (e_name (p := .fl (as.map asPV)) (hm "assocs" _ rfl) (l_cons (e_name (p := .int l) (hm "line" _ rfl) (l_nil ?_)))))))
  refine c_heard G (by show 4 ≤ 500; decide) (by omega) hfs (by omega) (by omega) sh cl (fun es a σ' e1 x1 e2 => ?_) fun σ' e1 x1 => ?_
  · refine e_call G (n_due _) (k_due _) rfl (l_cons (e_name (p := .fl (rowsPV (rsOf fs))) (hm "rows" _ rfl) (l_cons (e_name (p := .fl (as.map asPV)) (hm "assocs" _ rfl) (l_nil ?_)))))
    refine c_due G (by show 4 ≤ 500; decide) (by omega) sc (by omega) (by omega) no (fun t b σ2 d1 x2 d2 => ?_) fun σ2 d1 x2 => ?_
    · rw [e1, d1] at hA
      refine cmp_ne_dd G.lim (x2 a _ e2) d2 hA ⟨false, rfl, ?_⟩
      rw [if_neg (by simp)]
      exact s_nil (rest _)
    · rw [e1, d1] at hA
      cases hA
  · refine e_call G (n_due _) (k_due _) rfl (l_cons (e_name (p := .fl (rowsPV (rsOf fs))) (hm "rows" _ rfl) (l_cons (e_name (p := .fl (as.map asPV)) (hm "assocs" _ rfl) (l_nil ?_)))))
    refine c_due G (by show 4 ≤ 500; decide) (by omega) sc (by omega) (by omega) no (fun t b σ2 d1 x2 d2 => ?_) fun σ2 d1 x2 => ?_
    · rw [e1, d1] at hA
      cases hA
    · refine cmp_ne (p := .none) (q := .none) (by decide) (by decide) ⟨false, ?_, ?_⟩
      · have : PV.none.eq .none = true := by decide +kernel
        rw [this]; rfl
      rw [if_neg (by simp)]
      exact s_nil (rest _)
end
end Mine

namespace Mine

noncomputable abbrev keys (es : List (Str × PV)) : List Str := es.map (·.1)
theorem at_isSome (es : List (Str × PV)) (n : Str) : (at? es n).isSome = true ↔ n ∈ keys es := by
  unfold at? keys
  induction es with
  | nil => simp
  | cons e es ih =>
    rw [List.find?_cons]
    by_cases h : e.1 = n
    · simp [h]
    · simp only [h, decide_false]
      rw [ih]; simp [Ne.symm h]
theorem put_new {es : List (Str × PV)} {n : Str} {d : PV} (h : n ∉ keys es) : put es n d = es ++ [(n, d)] := by
  unfold put
  rw [if_neg]
  intro z
  obtain ⟨e, he, h2⟩ := List.any_eq_true.mp z
  exact h (by simp at h2; exact h2 ▸ List.mem_map_of_mem he)
theorem put_old {es : List (Str × PV)} {n : Str} {d : PV} (h : n ∈ keys es) : keys (put es n d) = keys es := by
  unfold put
  rw [if_pos]
  · unfold keys; rw [List.map_map]
    refine List.map_congr_left fun e he => ?_
    simp only [Function.comp]
    split
    · rfl
    · rfl
  · obtain ⟨e, he, h2⟩ := List.mem_map.mp h
    exact List.any_eq_true.mpr ⟨e, he, by simpa using h2⟩
theorem put_keys_len {es : List (Str × PV)} {n : Str} {d : PV} (h : n ∈ keys es) : (put es n d).length = es.length := by
  have := congrArg List.length (put_old (d := d) h)
  simpa [keys] using this
noncomputable def fresh : List Str → List Str → Prop
  | _, [] => True
  | ks, n :: r => n ∉ ks ∧ fresh (ks ++ [n]) r
theorem fresh_iff : ∀ (r ks : List Str), fresh ks r ↔ r.Nodup ∧ ∀ n ∈ r, n ∉ ks
  | [], ks => by simp [fresh]
  | n :: r, ks => by
    rw [fresh, fresh_iff r, List.nodup_cons]
    constructor
    · rintro ⟨a, b, c⟩
      refine ⟨⟨fun h => c n h (by simp), b⟩, fun x hx => ?_⟩
      rcases List.mem_cons.mp hx with z | z
      · exact z ▸ a
      · exact fun h => c x z (by simp [h])
    · rintro ⟨⟨a, b⟩, c⟩
      refine ⟨c n (.head _), b, fun x hx h => ?_⟩
      rcases List.mem_append.mp h with z | z
      · exact c x (.tail _ hx) z
      · simp at z; exact a (z ▸ hx)
theorem addAll_fresh : ∀ {ps es : List (Str × PV)}, fresh (keys es) (keys ps) → addAll es ps = some (es ++ ps)
  | [], es, _ => by simp [addAll]
  | (n, d) :: r, es, h => by
    obtain ⟨h1, h2⟩ := h
    rw [addAll, if_neg (fun z => h1 ((at_isSome _ _).mp z)), put_new h1, addAll_fresh (by simpa [keys] using h2)]
    simp
theorem addAll_none : ∀ {ps es : List (Str × PV)}, ¬ fresh (keys es) (keys ps) → addAll es ps = none
  | [], es, h => absurd trivial h
  | (n, d) :: r, es, h => by
    rw [addAll]
    by_cases c : n ∈ keys es
    · rw [if_pos ((at_isSome _ _).mpr c)]
    · rw [if_neg (fun z => c ((at_isSome _ _).mp z)), put_new c]
      refine addAll_none fun z => h ⟨c, ?_⟩
      simpa [keys] using z
theorem dedup_fresh : ∀ {ns : List Str} {es : List (Str × PV)}, fresh (keys es) ns → (dedup ns es).length = es.length + ns.length
  | [], es, _ => by simp [dedup]
  | n :: r, es, h => by
    obtain ⟨h1, h2⟩ := h
    rw [dedup, put_new h1, dedup_fresh (by simpa [keys] using h2)]; simp; omega
theorem dedup_not : ∀ {ns : List Str} {es : List (Str × PV)}, ¬ fresh (keys es) ns → (dedup ns es).length < es.length + ns.length
  | [], es, h => absurd trivial h
  | n :: r, es, h => by
    rw [dedup]
    by_cases c : n ∈ keys es
    · have := dedup_len r (put es n (.int 1))
      have := put_keys_len (d := .int 1) c
      simp; omega
    · rw [put_new c]
      have := dedup_not (ns := r) (es := es ++ [(n, .int 1)]) fun z => h ⟨c, by simpa [keys] using z⟩
      simp at this ⊢; omega
theorem dueP_not : ∀ {ns : List Str} {i : Nat} {es : List (Str × PV)}, ¬ fresh (keys es) ns → (dueP i ns es).length < es.length + ns.length
  | [], i, es, h => absurd trivial h
  | n :: r, i, es, h => by
    rw [dueP]
    by_cases c : n ∈ keys es
    · have := dueP_len r (i + 1) (put es n (.tup [.str "actual", nodeI i]))
      have := put_keys_len (d := .tup [.str "actual", nodeI i]) c
      simp; omega
    · rw [put_new c]
      have := dueP_not (ns := r) (i := i + 1) (es := es ++ [(n, .tup [.str "actual", nodeI i])]) fun z => h ⟨c, by simpa [keys] using z⟩
      simp at this ⊢; omega

-- what is told, in a row
noncomputable def actV (p : PV) : PV := .tup [.str "actual", p]
noncomputable abbrev Tl := List (Str × PV)
noncomputable def addT (ds : List (Str × PV)) : List (Str × PV) → Tl → Option (List (Str × PV))
  | found, [] => some found
  | found, (n, node) :: r => if (at? ds n).isSome = true then (if (at? found n).isSome = true then none else addT ds (put found n (actV node)) r) else none
theorem addP_T (ds : List (Str × PV)) (node : PV) : ∀ (ns : List Str) (found : List (Str × PV)), addP ds node found ns = addT ds found (ns.map fun n => (n, node))
  | [], found => rfl
  | n :: r, found => by
    rw [addP, List.map_cons, addT, addP_T ds node r]; rfl
theorem addT_append (ds : List (Str × PV)) : ∀ (a b : Tl) (found : List (Str × PV)), addT ds found (a ++ b) = (addT ds found a).bind fun f => addT ds f b
  | [], b, found => rfl
  | (n, node) :: a, b, found => by
    rw [List.cons_append, addT, addT]
    split
    · split
      · rfl
      · exact addT_append ds a b _
    · rfl
noncomputable def tells (order : List Str) : Nat → Bool → As → Option Tl
  | _, _, [] => some []
  | i, named, (none, node) :: r => if named = true then none else match order[i]? with
    | none => none
    | some n => (tells order (i + 1) named r).map ((n, node) :: ·)
  | i, _, (some cs, node) :: r => match namesOf cs with
    | none => none
    | some ns => (tells order (i + 1) true r).map ((ns.map fun n => (n, node)) ++ ·)
theorem step2_T (order : List Str) (ds : List (Str × PV)) : ∀ (as : As) (i : Nat) (named : Bool) (found : List (Str × PV)), step2 order ds i as found named = (tells order i named as).bind (addT ds found)
  | [], i, named, found => rfl
  | (none, node) :: r, i, named, found => by
    rw [step2, tells]
    by_cases c : named = true
    · rw [if_pos c, if_pos c]; rfl
    · rw [if_neg c, if_neg c]
      cases order[i]? with
      | none => rfl
      | some n =>
        simp only
        rw [addP_T]
        cases h : addT ds found ([n].map fun n => (n, node)) with
        | none =>
          simp only
          cases tells order (i + 1) named r with
          | none => rfl
          | some T =>
            show none = addT ds found ([(n, node)] ++ T)
            rw [addT_append]
            rw [show addT ds found [(n, node)] = none from h]; rfl
        | some f' =>
          simp only
          rw [step2_T order ds r]
          cases tells order (i + 1) named r with
          | none => rfl
          | some T =>
            show addT ds f' T = addT ds found ([(n, node)] ++ T)
            rw [addT_append]
            rw [show addT ds found [(n, node)] = some f' from h]; rfl
  | (some cs, node) :: r, i, named, found => by
    rw [step2, tells]
    cases namesOf cs with
    | none => rfl
    | some ns =>
      simp only
      rw [addP_T]
      cases h : addT ds found (ns.map fun n => (n, node)) with
      | none =>
        simp only
        cases tells order (i + 1) true r with
        | none => rfl
        | some T =>
          show none = addT ds found ((ns.map fun n => (n, node)) ++ T)
          rw [addT_append, h]; rfl
      | some f' =>
        simp only
        rw [step2_T order ds r]
        cases tells order (i + 1) true r with
        | none => rfl
        | some T =>
          show addT ds f' T = addT ds found ((ns.map fun n => (n, node)) ++ T)
          rw [addT_append, h]; rfl
noncomputable def actT (T : Tl) : List (Str × PV) := T.map fun e => (e.1, actV e.2)
theorem addT_fresh {ds : List (Str × PV)} : ∀ {T : Tl} {found : List (Str × PV)}, (∀ e ∈ T, e.1 ∈ keys ds) → fresh (keys found) (T.map (·.1)) → addT ds found T = some (found ++ actT T)
  | [], found, _, _ => by simp [addT, actT]
  | (n, node) :: r, found, h, hf => by
    obtain ⟨h1, h2⟩ := hf
    rw [addT, if_pos ((at_isSome _ _).mpr (h _ (.head _))), if_neg (fun z => h1 ((at_isSome _ _).mp z)), put_new h1, addT_fresh (fun e he => h e (.tail _ he)) (by simpa [keys] using h2)]
    simp [actT]
theorem addT_none {ds : List (Str × PV)} : ∀ {T : Tl} {found : List (Str × PV)}, ¬ ((∀ e ∈ T, e.1 ∈ keys ds) ∧ fresh (keys found) (T.map (·.1))) → addT ds found T = none
  | [], found, h => absurd ⟨fun _ h => (by cases h), trivial⟩ h
  | (n, node) :: r, found, h => by
    rw [addT]
    by_cases c : n ∈ keys ds
    · rw [if_pos ((at_isSome _ _).mpr c)]
      by_cases c2 : n ∈ keys found
      · rw [if_pos ((at_isSome _ _).mpr c2)]
      · rw [if_neg (fun z => c2 ((at_isSome _ _).mp z)), put_new c2]
        refine addT_none fun ⟨z1, z2⟩ => h ⟨fun e he => ?_, c2, by simpa [keys] using z2⟩
        rcases List.mem_cons.mp he with z | z
        · subst z; exact c
        · exact z1 e z
    · rw [if_neg (fun z => c ((at_isSome _ _).mp z))]
end Mine

namespace Mine

noncomputable def tn (n : Str) (T : Tl) : List PV := (T.filter fun e => e.1 == n).map (·.2)
theorem tn_append (n : Str) (a b : Tl) : tn n (a ++ b) = tn n a ++ tn n b := by unfold tn; rw [List.filter_append, List.map_append]
theorem tn_cons (n : Str) (k : Str) (p : PV) (T : Tl) : tn n ((k, p) :: T) = (if k = n then [p] else []) ++ tn n T := by
  unfold tn
  by_cases h : k = n
  · rw [if_pos h, List.filter_cons_of_pos (by simpa using h)]; rfl
  · rw [if_neg h, List.filter_cons_of_neg (by simpa using h)]; rfl
theorem tn_out {n : Str} {T : Tl} (h : n ∉ T.map (·.1)) : tn n T = [] := by
  induction T with
  | nil => rfl
  | cons e T ih =>
    obtain ⟨k, p⟩ := e
    simp only [List.map_cons, List.mem_cons, not_or] at h
    rw [tn_cons, if_neg (Ne.symm h.1), ih h.2]; rfl
theorem tn_in {n : Str} {p : PV} {T : Tl} (hd : (T.map (·.1)).Nodup) (h : (n, p) ∈ T) : tn n T = [p] := by
  induction T with
  | nil => cases h
  | cons e T ih =>
    obtain ⟨k, q⟩ := e
    rw [List.map_cons, List.nodup_cons] at hd
    rw [tn_cons]
    rcases List.mem_cons.mp h with z | z
    · cases z
      rw [if_pos rfl, tn_out hd.1]; rfl
    · have : k ≠ n := fun e => hd.1 (by subst e; exact List.mem_map_of_mem (f := (·.1)) z)
      rw [if_neg this, ih hd.2 z]; rfl
theorem tn_two {T : Tl} (hd : ¬ (T.map (·.1)).Nodup) : ∃ k ∈ T.map (·.1), 2 ≤ (tn k T).length := by
  induction T with
  | nil => exact absurd (by simp) hd
  | cons e T ih =>
    obtain ⟨k, q⟩ := e
    rw [List.map_cons, List.nodup_cons] at hd
    by_cases c : k ∈ T.map (·.1)
    · refine ⟨k, by simp, ?_⟩
      rw [tn_cons, if_pos rfl]
      obtain ⟨⟨k', p⟩, hm, e⟩ := List.mem_map.mp c
      have : p ∈ tn k T := by unfold tn; exact List.mem_map.mpr ⟨(k', p), List.mem_filter.mpr ⟨hm, by simpa using e⟩, rfl⟩
      have := List.length_pos_of_mem this
      simp; omega
    · obtain ⟨x, hx, h2⟩ := ih fun z => hd ⟨c, z⟩
      refine ⟨x, by simp at hx ⊢; exact .inr hx, ?_⟩
      rw [tn_cons]; simp; omega

noncomputable def NP (as : As) : Tl := as.flatMap fun a => (csOf a.1).map fun c => (c.plain, a.2)
theorem tn_NP (n : Str) (as : As) : tn n (NP as) = namedTold n as := by
  unfold NP namedTold
  induction as with
  | nil => rfl
  | cons a as ih =>
    rw [List.flatMap_cons, List.flatMap_cons, tn_append, ih]
    congr 1
    unfold tn
    rw [List.filter_map, List.map_map]
    rfl
theorem namesOf_all : ∀ {cs : List Ch}, (∀ c ∈ cs, c.nm ≠ none) → namesOf cs = some (cs.map Ch.plain)
  | [], _ => rfl
  | c :: r, h => by
    rw [namesOf]
    have h1 := h c (.head _)
    cases c with
    | name s => simp [Ch.nm, namesOf_all fun x hx => h x (.tail _ hx), Ch.plain]
    | strg s => simp [Ch.nm, namesOf_all fun x hx => h x (.tail _ hx), Ch.plain]
    | others => exact absurd rfl h1
theorem namesOf_bad {cs : List Ch} {c : Ch} (hc : c ∈ cs) (h : c.nm = none) : namesOf cs = none := by
  obtain ⟨a, b, rfl⟩ := List.append_of_mem hc
  exact namesOf_none h
theorem tells_named {order : List Str} : ∀ {r : As} {i : Nat} {b : Bool}, (∀ a ∈ r, a.1 ≠ none) → (∀ a ∈ r, ∀ c ∈ csOf a.1, c.nm ≠ none) → tells order i b r = some (NP r)
  | [], i, b, _, _ => rfl
  | (none, node) :: r, i, b, h, _ => absurd rfl (h _ (.head _))
  | (some cs, node) :: r, i, b, h, h2 => by
    rw [tells, namesOf_all (cs := cs) (h2 (some cs, node) (.head _))]
    simp only
    rw [tells_named (fun a ha => h a (.tail _ ha)) fun a ha => h2 a (.tail _ ha)]
    simp [NP, csOf]
theorem tells_bad {order : List Str} : ∀ {r : As} {i : Nat} {b : Bool} {a : Option (List Ch) × PV} {c : Ch}, a ∈ r → c ∈ csOf a.1 → c.nm = none → tells order i b r = none
  | (none, node) :: r, i, b, a, c, ha, hc, hn => by
    rcases List.mem_cons.mp ha with z | z
    · subst z; cases hc
    · rw [tells]
      split
      · rfl
      · cases order[i]? with
        | none => rfl
        | some n => simp only; rw [tells_bad z hc hn]; rfl
  | (some cs, node) :: r, i, b, a, c, ha, hc, hn => by
    rw [tells]
    rcases List.mem_cons.mp ha with z | z
    · subst z; rw [namesOf_bad (cs := cs) hc hn]
    · cases namesOf cs with
      | none => rfl
      | some ns => simp only; rw [tells_bad z hc hn]; rfl
theorem tells_late {order : List Str} : ∀ {r : As} {i : Nat} {a : Option (List Ch) × PV}, a ∈ r → a.1 = none → tells order i true r = none
  | (none, node) :: r, i, a, ha, hn => by rw [tells, if_pos rfl]
  | (some cs, node) :: r, i, a, ha, hn => by
    rw [tells]
    cases namesOf cs with
    | none => rfl
    | some ns =>
      simp only
      rcases List.mem_cons.mp ha with z | z
      · subst z; cases hn
      · rw [tells_late z hn]; rfl
noncomputable def zF (order : List Str) : Nat → List PV → Tl
  | _, [] => []
  | i, u :: us => ((order[i]?).getD ("" : Str), u) :: zF order (i + 1) us
noncomputable abbrev spots' (us : List PV) : As := us.map fun u => (none, u)
theorem tells_spots {order : List Str} : ∀ (us : List PV) (i : Nat) (r : As), i + us.length ≤ order.length → tells order i false (spots' us ++ r) = (tells order (i + us.length) false r).map (zF order i us ++ ·)
  | [], i, r, h => by simp [zF]
  | u :: us, i, r, h => by
    simp only [List.length_cons] at h
    rw [show spots' (u :: us) ++ r = (none, u) :: (spots' us ++ r) from rfl, tells, if_neg (by simp)]
    have hi : i < order.length := by omega
    rw [List.getElem?_eq_getElem hi]
    simp only
    rw [tells_spots us (i + 1) r (by omega)]
    have e : i + 1 + us.length = i + (u :: us).length := by simp; omega
    rw [e]
    cases tells order (i + (u :: us).length) false r with
    | none => rfl
    | some T => simp [zF, List.getElem?_eq_getElem hi]
theorem tells_over {order : List Str} : ∀ (us : List PV) (i : Nat) (r : As), order.length < i + us.length → i ≤ order.length → tells order i false (spots' us ++ r) = none
  | [], i, r, h, h2 => by simp at h; omega
  | u :: us, i, r, h, h2 => by
    simp only [List.length_cons] at h
    rw [show spots' (u :: us) ++ r = (none, u) :: (spots' us ++ r) from rfl, tells, if_neg (by simp)]
    by_cases hi : i < order.length
    · rw [List.getElem?_eq_getElem hi]
      simp only
      rw [tells_over us (i + 1) r (by omega) (by omega)]; rfl
    · rw [List.getElem?_eq_none (by omega)]
theorem decomp : ∀ as : As, ∃ us r, as = spots' us ++ r ∧ (r = [] ∨ ∃ cs node r', r = (some cs, node) :: r')
  | [] => ⟨[], [], rfl, .inl rfl⟩
  | (some cs, node) :: r => ⟨[], _, rfl, .inr ⟨cs, node, r, rfl⟩⟩
  | (none, node) :: r => by
    obtain ⟨us, r', e, h⟩ := decomp r
    exact ⟨node :: us, r', by rw [e]; rfl, h⟩
theorem spots_of : ∀ (us : List PV) (i : Nat) (r : As), spotsFrom i (spots' us ++ r) = List.range' i us.length ++ spotsFrom (i + us.length) r
  | [], i, r => by simp
  | u :: us, i, r => by
    rw [show spots' (u :: us) ++ r = (none, u) :: (spots' us ++ r) from rfl, spotsFrom, spots_of us (i + 1) r, List.length_cons, List.range'_succ]
    have e : i + 1 + us.length = i + (us.length + 1) := by omega
    rw [e]; rfl
theorem spots_nil : ∀ {r : As} {i : Nat}, spotsFrom i r = [] ↔ ∀ a ∈ r, a.1 ≠ none
  | [], i => by simp [spotsFrom]
  | (none, n) :: r, i => by simp [spotsFrom]
  | (some cs, n) :: r, i => by rw [spotsFrom, spots_nil]; simp
theorem spots_range {us : List PV} {r : As} (hr : r = [] ∨ ∃ cs node r', r = (some cs, node) :: r') :
    (spotsFrom 0 (spots' us ++ r) = List.range (spotsFrom 0 (spots' us ++ r)).length) ↔ ∀ a ∈ r, a.1 ≠ none := by
  rw [← spots_nil (i := us.length), spots_of, Nat.zero_add]
  constructor
  · intro h
    cases q : spotsFrom us.length r with
    | nil => rfl
    | cons j l =>
      exfalso
      rcases hr with rfl | ⟨cs, node, r', rfl⟩
      · cases q
      · have hj := (spots_lt r' (us.length + 1) j (by rw [spotsFrom] at q; rw [q]; exact .head _)).1
        rw [q] at h
        have := congrArg (fun l => l[us.length]?) h
        rw [List.getElem?_append_right (by simp)] at this
        simp at this
        omega
  · intro h
    rw [h]; simp [List.range_eq_range']
theorem tn_zF {n : Str} {order : List Str} {as : As} : ∀ (us : List PV) (i : Nat), i + us.length ≤ order.length → (∀ j, j < us.length → (as[i + j]?).map (·.2) = us[j]?) → tn n (zF order i us) = spotTold n order as (List.range' i us.length)
  | [], i, h, h2 => rfl
  | u :: us, i, h, h2 => by
    simp only [List.length_cons] at h
    have hi : i < order.length := by omega
    rw [zF, tn_cons, List.length_cons, List.range'_succ, tn_zF us (i + 1) (by omega) fun j hj => by
      have := h2 (j + 1) (by simp; omega)
      rw [show i + 1 + j = i + (j + 1) by omega, this]; rfl]
    have h0 := h2 0 (by simp)
    rw [Nat.add_zero, List.getElem?_cons_zero] at h0
    unfold spotTold
    rw [List.getElem?_eq_getElem hi]
    by_cases c : order[i] = n
    · rw [List.filter_cons_of_pos (by simp [hi, c])]
      simp [c, h0]
    · rw [List.filter_cons_of_neg (by simp [hi, c])]
      simp [c]
end Mine

namespace Mine

noncomputable def turnV (told : List PV) (d : PV) : Option PV :=
  match told with
  | [] => if d.isNone = true then none else some d
  | [x] => some (actV x)
  | _ => none
theorem turnS_V (told : List PV) (n : Str) (d : PV) (t : List (Str × PV)) : turnS told n d t = (turnV told d).map (put t n) := by
  match told with
  | [] => unfold turnS turnV; simp only; split <;> rfl
  | [x] => rfl
  | x :: y :: l => rfl
theorem tableS_all {N : List Str} {as : As} : ∀ {r : Rw} {t : List (Str × PV)}, fresh (keys t) (keys r) → (∀ e ∈ r, ∃ v, turnV (toldOf e.1 N as) e.2 = some v) → tableS N as r t = some (t ++ r.map fun e => (e.1, (turnV (toldOf e.1 N as) e.2).getD .none))
  | [], t, _, _ => by simp [tableS]
  | (n, d) :: r, t, hf, h => by
    obtain ⟨h1, h2⟩ := hf
    obtain ⟨v, hv⟩ := h (n, d) (.head _)
    rw [tableS_cons]
    have e : turnS (namedTold n as ++ spotTold n N as (spotsFrom 0 as)) n d t = some (put t n v) := by
      rw [turnS_V]
      have : turnV (namedTold n as ++ spotTold n N as (spotsFrom 0 as)) d = some v := hv
      rw [this]; rfl
    rw [e]
    simp only
    rw [put_new h1, tableS_all (by simpa [keys] using h2) fun e he => h e (.tail _ he)]
    have : turnV (toldOf n N as) d = some v := hv
    simp [this]
theorem tableS_none {N : List Str} {as : As} : ∀ {r : Rw} {t : List (Str × PV)} {e : Str × PV}, e ∈ r → turnV (toldOf e.1 N as) e.2 = none → tableS N as r t = none
  | (n, d) :: r, t, e, he, h => by
    rw [tableS_cons, turnS_V]
    rcases List.mem_cons.mp he with z | z
    · subst z
      have : turnV (namedTold n as ++ spotTold n N as (spotsFrom 0 as)) d = none := h
      rw [this]; rfl
    · cases turnV (namedTold n as ++ spotTold n N as (spotsFrom 0 as)) d with
      | none => rfl
      | some v => exact tableS_none z h
theorem fill_all {P : List (Str × PV)} : ∀ {order : List Str} {found : List (Str × PV)}, order.Nodup → (∀ n ∈ order, n ∈ keys found ∨ ∃ d, at? P n = some d ∧ d.isNone = false) →
    fill P found order = some (found ++ (order.filter fun n => decide (n ∉ keys found)).map fun n => (n, dv ((at? P n).getD .none)))
  | [], found, _, _ => by simp [fill]
  | n :: r, found, hn, h => by
    obtain ⟨n1, n2⟩ := List.nodup_cons.mp hn
    rw [fill]
    by_cases c : n ∈ keys found
    · rw [if_pos ((at_isSome _ _).mpr c), fill_all n2 fun x hx => h x (.tail _ hx), List.filter_cons_of_neg (by simpa using c)]
    · rw [if_neg (fun z => c ((at_isSome _ _).mp z))]
      rcases h n (.head _) with z | ⟨d, h1, h2⟩
      · exact absurd z c
      rw [h1]
      have key : fill P (put found n (dv d)) r = some (found ++ ((n :: r).filter fun n => decide (n ∉ keys found)).map fun n => (n, dv ((at? P n).getD .none))) := by
        rw [put_new c, fill_all n2 fun x hx => by
          rcases h x (.tail _ hx) with z | z
          · exact .inl (by simp [keys] at z ⊢; exact .inl z)
          · exact .inr z]
        rw [List.filter_cons_of_pos (by simpa using c), List.map_cons, h1]
        have e : (r.filter fun x => decide (x ∉ keys (found ++ [(n, dv d)]))) = r.filter fun x => decide (x ∉ keys found) := by
          refine List.filter_congr fun x hx => ?_
          have : x ≠ n := fun z => n1 (z ▸ hx)
          simp [keys, this]
        rw [e]; simp
      cases d <;> first | (cases h2; done) | exact key
theorem fill_none {P : List (Str × PV)} {n : Str} (h : ∀ d, at? P n = some d → d.isNone = true) : ∀ {order : List Str} {found : List (Str × PV)}, n ∈ order → n ∉ keys found → fill P found order = none
  | m :: r, found, hm, hf => by
    rw [fill]
    by_cases c : m ∈ keys found
    · rw [if_pos ((at_isSome _ _).mpr c)]
      rcases List.mem_cons.mp hm with z | z
      · subst z; exact absurd c hf
      · exact fill_none h z hf
    · rw [if_neg (fun z => c ((at_isSome _ _).mp z))]
      by_cases c2 : n = m
      · subst c2
        cases q : at? P n with
        | none => rfl
        | some d => have := h d q; cases d <;> first | rfl | cases this
      · have hr : n ∈ r := by
          rcases List.mem_cons.mp hm with z | z
          · exact absurd z c2
          · exact z
        cases q : at? P m with
        | none => rfl
        | some d =>
          have key : fill P (put found m (dv d)) r = none := by
            rw [put_new c]
            refine fill_none h hr ?_
            simp [keys] at hf ⊢
            exact ⟨hf, c2⟩
          cases d <;> first | rfl | exact key
theorem at_mem {es : List (Str × PV)} {n : Str} {d : PV} (hd : (keys es).Nodup) (h : (n, d) ∈ es) : at? es n = some d := by
  unfold at?
  induction es with
  | nil => cases h
  | cons e es ih =>
    obtain ⟨h1, h2⟩ := List.nodup_cons.mp hd
    rw [List.find?_cons]
    rcases List.mem_cons.mp h with z | z
    · subst z; simp
    · have : e.1 ≠ n := fun z2 => h1 (by show e.1 ∈ _; rw [z2]; exact List.mem_map_of_mem (f := (·.1)) z)
      simp only [this, decide_false]
      exact ih h2 z
theorem at_in {es : List (Str × PV)} {n : Str} {d : PV} (h : at? es n = some d) : (n, d) ∈ es := by
  unfold at? at h
  cases q : es.find? (fun e => decide (e.1 = n)) with
  | none => rw [q] at h; cases h
  | some e =>
    rw [q] at h
    have h1 := List.mem_of_find?_eq_some q
    have h2 := List.find?_some q
    simp at h h2
    obtain ⟨a, b⟩ := e
    simp at h h2
    subst h h2
    exact h1
theorem len_le {a b : List Str} (h : a.Nodup) (hs : ∀ x ∈ a, x ∈ b) : a.length ≤ b.length := by
  induction a generalizing b with
  | nil => simp
  | cons x a ih =>
    obtain ⟨h1, h2⟩ := List.nodup_cons.mp h
    have hx := hs x (.head _)
    have := ih h2 (b := b.erase x) fun y hy => (List.mem_erase_of_ne (fun z : y = x => h1 (z ▸ hy))).mpr (hs y (.tail _ hy))
    have e := List.length_erase_of_mem hx
    have := List.length_pos_of_mem hx
    simp; omega
theorem act_ok {q : PV} (h : isNode q) : (actV q).ok = true ∧ (actV q).eq (actV q) = true := by
  obtain ⟨i, rfl⟩ := h
  have s1 : PyData.strOk "actual" = true := by decide +kernel
  have s2 : PyData.strOk "int" = true := by decide +kernel
  simp [actV, PV.ok, PV.clean, PV.cleans, PV.D, PV.Ds, PyData.depth, PyData.depthAll, PV.eq, PyData.eqv, PyData.eqvAll, s1, s2]
theorem dv_ok {d : PV} (h : isDef d) : (dv d).ok = true ∧ (dv d).eq (dv d) = true := by
  have s1 : PyData.strOk "default" = true := by decide +kernel
  have s2 : PyData.strOk "int" = true := by decide +kernel
  have s3 : PyData.strOk "box" = true := by decide +kernel
  have s4 : PyData.strOk "name" = true := by decide +kernel
  have s5 : PyData.strOk "other" = true := by decide +kernel
  rcases h with rfl | rfl | rfl | ⟨i, rfl⟩
  · simp [dv, PV.ok, PV.clean, PV.D, PyData.depth, PV.eq, PyData.eqv]
  · simp [dv, PV.ok, PV.clean, PV.cleans, PV.D, PV.Ds, PyData.depth, PyData.depthAll, PV.eq, PyData.eqv, PyData.eqvAll, s3]
  · simp [dv, PV.ok, PV.clean, PV.cleans, PV.D, PV.Ds, PyData.depth, PyData.depthAll, PV.eq, PyData.eqv, PyData.eqvAll, s1, s4, s5]
  · simp [dv, PV.ok, PV.clean, PV.cleans, PV.D, PV.Ds, PyData.depth, PyData.depthAll, PV.eq, PyData.eqv, PyData.eqvAll, s1, s2]
theorem dv_none {d : PV} (h : isDef d) : (dv d).isNone = d.isNone := by
  rcases h with rfl | rfl | rfl | ⟨i, rfl⟩
  · rfl
  · simp [dv, PV.isNone]
  · rfl
  · rfl
theorem keys_pairs (fs : List Fm) : keys (pairsOf fs) = nmOf fs := by
  unfold nmOf rsOf pairsOf keys
  rw [List.map_flatMap, List.map_flatMap]
  congr 1
  funext f
  rw [List.map_map, List.map_map]; rfl
theorem rs_pairs (fs : List Fm) : rsOf fs = (pairsOf fs).map fun e => (e.1, dv e.2) := by
  unfold rsOf pairsOf
  rw [List.map_flatMap]
  congr 1
  funext f
  rw [List.map_map]; rfl
theorem pairs_def {fs : List Fm} {e : Str × PV} (h : e ∈ pairsOf fs) : isDef e.2 := by
  unfold pairsOf at h
  obtain ⟨f, _, hf⟩ := List.mem_flatMap.mp h
  obtain ⟨n, _, rfl⟩ := List.mem_map.mp hf
  exact f.isDef
theorem keys_act (T : Tl) : keys (actT T) = T.map (·.1) := by unfold keys actT; rw [List.map_map]; rfl

theorem match_fresh {fs : List Fm} {as : As} (hN : fresh [] (nmOf fs)) : matchS fs as = ((tells (nmOf fs) 0 false as).bind (addT (pairsOf fs) [])).bind fun found => fill (pairsOf fs) found (nmOf fs) := by
  unfold matchS
  rw [addAll_fresh (es := []) (by rw [keys_pairs]; exact hN)]
  simp only [List.nil_append]
  have : (pairsOf fs).map (·.1) = nmOf fs := keys_pairs fs
  rw [this, step2_T]
  cases (tells (nmOf fs) 0 false as).bind (addT (pairsOf fs) []) <;> rfl
theorem match_stale {fs : List Fm} {as : As} (hN : ¬ fresh [] (nmOf fs)) : matchS fs as = none := by
  unfold matchS
  rw [addAll_none (es := []) (by rw [keys_pairs]; exact hN)]
end Mine

namespace Mine

theorem empty_unknown : ("" : Str) ∉ known := by decide +kernel
theorem strN_zero {N : List Str} : ∀ {as : As}, strN N as = 0 ↔ ∀ a ∈ as, ∀ c ∈ csOf a.1, c.plain ∈ N
  | [] => by simp [strN]
  | a :: as => by
    have e : strN N (a :: as) = ((csOf a.1).countP fun c => !N.contains c.plain) + strN N as := by simp [strN]
    rw [e, Nat.add_eq_zero_iff, strN_zero (as := as), List.countP_eq_zero]
    constructor
    · rintro ⟨h1, h2⟩ x hx c hc
      rcases List.mem_cons.mp hx with z | z
      · subst z; have := h1 c hc; simpa using this
      · exact h2 x z c hc
    · intro h
      exact ⟨fun c hc => by have := h a (.head _) c hc; simpa using this, fun x hx => h x (.tail _ hx)⟩
theorem zF_names {order : List Str} : ∀ (us : List PV) (i : Nat), i + us.length ≤ order.length → (zF order i us).map (·.1) = (order.drop i).take us.length
  | [], i, h => by simp [zF]
  | u :: us, i, h => by
    simp only [List.length_cons] at h
    have hi : i < order.length := by omega
    rw [zF, List.map_cons, zF_names us (i + 1) (by omega), List.drop_eq_getElem_cons hi, List.length_cons, List.take_succ_cons, List.getElem?_eq_getElem hi]
    rfl
theorem told_split {N : List Str} {us : List PV} {r : As} (n : Str) (h1 : us.length ≤ N.length) (h2 : ∀ a ∈ r, a.1 ≠ none) : toldOf n N (spots' us ++ r) = tn n (NP r) ++ tn n (zF N 0 us) := by
  unfold toldOf
  rw [spots_of, Nat.zero_add, spots_nil.mpr h2, List.append_nil, tn_NP]
  congr 1
  · unfold namedTold
    rw [List.flatMap_append]
    have : (spots' us).flatMap (fun a => ((csOf a.1).filter fun c => c.plain == n).map fun _ => a.2) = [] := by
      induction us with
      | nil => rfl
      | cons u us ih => rw [show spots' (u :: us) = (none, u) :: spots' us from rfl, List.flatMap_cons, ih (by simp at h1; omega)]; rfl
    rw [this, List.nil_append]
  · symm
    refine tn_zF us 0 (by omega) fun j hj => ?_
    rw [Nat.zero_add, List.getElem?_append_left (by simpa using hj)]
    simp [hj]
theorem tells_some {order : List Str} {i : Nat} {b : Bool} {cs : List Ch} {node : PV} {r : As} : tells order i b ((some cs, node) :: r) = tells order i true ((some cs, node) :: r) := by rw [tells, tells]

theorem same_due {fs : List Fm} {as : As} (hg : goodF fs) (hno : ∀ a ∈ as, isNode a.2) : sameO (matchS fs as) (dueS (rsOf fs) as) := by
  by_cases hN : fresh [] (nmOf fs)
  rotate_left
  · rw [match_stale hN]
    have : badS (nmOf fs) as = true := by
      unfold badS
      have := dedup_not (es := []) hN
      simp at this ⊢
      left; omega
    unfold dueS
    rw [if_pos this]
    trivial
  have nd : (nmOf fs).Nodup := ((fresh_iff _ _).mp hN).1
  have hd : (dedup (nmOf fs) []).length = (nmOf fs).length := by simpa using dedup_fresh (es := []) hN
  have kp := keys_pairs fs
  have rp := rs_pairs fs
  have nk := nmOf_known hg
  rw [match_fresh hN]
  obtain ⟨us, r, e, hr⟩ := decomp as
  have hdue : dueS (rsOf fs) as = if badS (nmOf fs) as = true then none else match tableS (nmOf fs) as (rsOf fs) [] with
    | none => none
    | some t => if strange (nmOf fs) as = true then none else some t := by
    unfold dueS
    split
    · rfl
    · cases tableS (nmOf fs) as (rsOf fs) [] <;> rfl
  rw [hdue]
  generalize hNm : nmOf fs = N at *
  have hsp : (spotsFrom 0 as = List.range (spotsFrom 0 as).length) ↔ ∀ a ∈ r, a.1 ≠ none := by rw [e]; exact spots_range hr
  have hsl : (∀ a ∈ r, a.1 ≠ none) → (spotsFrom 0 as).length = us.length := fun h => by rw [e, spots_of, Nat.zero_add, spots_nil.mpr h]; simp
  by_cases hB : us.length ≤ N.length ∧ ∀ a ∈ r, a.1 ≠ none
  rotate_left
  · have hb : badS N as = true := by
      cases q : badS N as with
      | true => rfl
      | false =>
        unfold badS at q
        simp only [Bool.or_eq_false_iff, decide_eq_false_iff_not, bne_eq_false_iff_eq] at q
        obtain ⟨_, q1, q2⟩ := q
        have h3 := hsp.mp q2
        exact absurd ⟨by have := hsl h3; omega, h3⟩ hB
    rw [if_pos hb]
    have ht : tells N 0 false as = none := by
      rw [e]
      by_cases c : us.length ≤ N.length
      · rw [tells_spots us 0 r (by omega)]
        have : ¬ ∀ a ∈ r, a.1 ≠ none := fun z => hB ⟨c, z⟩
        rcases hr with rfl | ⟨cs, node, r', rfl⟩
        · exact absurd (fun a ha => by cases ha) this
        · rw [tells_some]
          simp only [Classical.not_forall] at this
          obtain ⟨a, ha, hn⟩ := this
          rw [tells_late ha (Classical.not_not.mp hn)]; rfl
      · exact tells_over us 0 r (by omega) (by omega)
    rw [ht]
    trivial
  obtain ⟨hB1, hB2⟩ := hB
  have hb : badS N as = false := by
    unfold badS
    simp only [Bool.or_eq_false_iff, decide_eq_false_iff_not, bne_eq_false_iff_eq]
    exact ⟨hd.symm, by have := hsl hB2; omega, hsp.mpr hB2⟩
  rw [hb, if_neg (by simp)]
  have tl : tells N 0 false as = (tells N us.length false r).map (zF N 0 us ++ ·) := by
    rw [e, tells_spots us 0 r (by omega), Nat.zero_add]
  have inr : ∀ a ∈ as, ∀ c, c ∈ csOf a.1 → a ∈ r := fun a ha c hc => by
    rw [e] at ha
    rcases List.mem_append.mp ha with z | z
    · obtain ⟨u, _, rfl⟩ := List.mem_map.mp z
      cases hc
    · exact z
  by_cases hO : ∀ a ∈ as, ∀ c ∈ csOf a.1, c.plain ∈ N
  rotate_left
  · have hs : strange N as = true := by
      unfold strange
      simp only [bne_iff_ne]
      exact fun z => hO (strN_zero.mp z)
    have e1 : (match tableS N as (rsOf fs) [] with
      | none => none
      | some t => if strange N as = true then none else some t) = (none : Option (List (Str × PV))) := by
      cases tableS N as (rsOf fs) [] with
      | none => rfl
      | some t => simp only; rw [if_pos hs]
    rw [e1]
    have e2 : ((tells N 0 false as).bind (addT (pairsOf fs) [])).bind (fun found => fill (pairsOf fs) found N) = none := by
      simp only [Classical.not_forall] at hO
      obtain ⟨a, ha, c, hc, hn⟩ := hO
      have har := inr a ha c hc
      by_cases hnm : ∀ a ∈ r, ∀ c ∈ csOf a.1, c.nm ≠ none
      · rw [tl, tells_named hB2 hnm]
        show ((addT (pairsOf fs) [] (zF N 0 us ++ NP r))).bind _ = none
        rw [addT_none]
        · rfl
        · rintro ⟨z, _⟩
          have := z (c.plain, a.2) (List.mem_append.mpr (.inr (List.mem_flatMap.mpr ⟨a, har, List.mem_map.mpr ⟨c, hc, rfl⟩⟩)))
          rw [kp] at this
          exact hn this
      · simp only [Classical.not_forall] at hnm
        obtain ⟨a, ha, c, hc, hn⟩ := hnm
        rw [tl, tells_bad ha hc (Classical.not_not.mp hn)]; rfl
    rw [e2]
    trivial
  have hs : strange N as = false := by
    unfold strange
    simp only [bne_eq_false_iff_eq]
    exact strN_zero.mpr hO
  have hnm : ∀ a ∈ r, ∀ c ∈ csOf a.1, c.nm ≠ none := fun a ha c hc hn => by
    have := nk _ (hO a (by rw [e]; exact List.mem_append.mpr (.inr ha)) c hc)
    cases c with
    | name s => cases hn
    | strg s => cases hn
    | others => exact empty_unknown this
  rw [tl, tells_named hB2 hnm]
  show sameO ((addT (pairsOf fs) [] (zF N 0 us ++ NP r)).bind _) _
  have ts := fun n => told_split (N := N) (us := us) (r := r) n hB1 hB2
  rw [← e] at ts
  have hT : ∀ n, tn n (zF N 0 us ++ NP r) = tn n (zF N 0 us) ++ tn n (NP r) := fun n => tn_append _ _ _
  have hTN : ∀ x ∈ zF N 0 us ++ NP r, x.1 ∈ N := fun x hx => by
    rcases List.mem_append.mp hx with z | z
    · have := List.mem_map_of_mem (f := (·.1)) z
      rw [zF_names us 0 (by omega)] at this
      exact List.mem_of_mem_take (by simpa using this)
    · obtain ⟨a, ha, hc⟩ := List.mem_flatMap.mp z
      obtain ⟨c, hc2, rfl⟩ := List.mem_map.mp hc
      exact hO a (by rw [e]; exact List.mem_append.mpr (.inr ha)) c hc2
  have hTv : ∀ x ∈ zF N 0 us ++ NP r, isNode x.2 := fun x hx => by
    rcases List.mem_append.mp hx with z | z
    · have key : ∀ (us : List PV) (i : Nat), (∀ u ∈ us, isNode u) → ∀ x ∈ zF N i us, isNode x.2 := by
        intro us
        induction us with
        | nil => intro i _ x hx; cases hx
        | cons u us ih =>
          intro i h x hx
          rw [zF] at hx
          rcases List.mem_cons.mp hx with z | z
          · subst z; exact h u (.head _)
          · exact ih (i + 1) (fun y hy => h y (.tail _ hy)) x z
      exact key us 0 (fun u hu => hno (none, u) (by rw [e]; exact List.mem_append.mpr (.inl (List.mem_map.mpr ⟨u, hu, rfl⟩)))) x z
    · obtain ⟨a, ha, hc⟩ := List.mem_flatMap.mp z
      obtain ⟨c, hc2, rfl⟩ := List.mem_map.mp hc
      exact hno a (by rw [e]; exact List.mem_append.mpr (.inr ha))
  generalize hTT : zF N 0 us ++ NP r = T at *
  have hA0 : ∀ n, n ∉ T.map (·.1) → toldOf n N as = [] := fun n hn => by
    have h1 := tn_out hn
    rw [hT n, List.append_eq_nil_iff] at h1
    rw [ts n, h1.1, h1.2]; rfl
  have hA2 : ∀ n, (toldOf n N as).length = (tn n T).length := fun n => by rw [ts n, hT n]; simp; omega
  have mem_rs : ∀ n, n ∈ N → ∃ d, (n, d) ∈ pairsOf fs := fun n hn => by
    rw [← kp] at hn
    obtain ⟨⟨n', d⟩, h1, rfl⟩ := List.mem_map.mp hn
    exact ⟨d, h1⟩
  have rs_mem : ∀ x ∈ pairsOf fs, (x.1, dv x.2) ∈ rsOf fs := fun x hx => by rw [rp]; exact List.mem_map.mpr ⟨x, hx, rfl⟩
  by_cases hF : (T.map (·.1)).Nodup
  rotate_left
  · rw [addT_none (by
      rintro ⟨_, z⟩
      exact hF ((fresh_iff _ _).mp z).1)]
    obtain ⟨k, hk, h2⟩ := tn_two hF
    obtain ⟨x, hx, rfl⟩ := List.mem_map.mp hk
    obtain ⟨d, hd2⟩ := mem_rs _ (hTN x hx)
    rw [tableS_none (rs_mem _ hd2)]
    · trivial
    · have := hA2 x.1
      simp only
      match q : toldOf x.1 N as, (by omega : 2 ≤ (toldOf x.1 N as).length) with
      | a :: b :: l, _ => rfl
      | [a], z => simp at z
      | [], z => simp at z
  have hA1 : ∀ n x, (n, x) ∈ T → toldOf n N as = [x] := fun n x hx => by
    have h1 := tn_in hF hx
    rw [hT n] at h1
    rw [ts n]
    rcases List.append_eq_singleton_iff.mp h1 with ⟨a, b⟩ | ⟨a, b⟩
    · rw [a, b]; rfl
    · rw [a, b]; rfl
  rw [addT_fresh (fun x hx => by rw [kp]; exact hTN x hx) ((fresh_iff _ _).mpr ⟨hF, fun n _ h => by cases h⟩), List.nil_append]
  show sameO (fill (pairsOf fs) (actT T) N) _
  by_cases hD : ∀ x ∈ pairsOf fs, x.1 ∈ T.map (·.1) ∨ x.2.isNone = false
  rotate_left
  · simp only [Classical.not_forall, not_or] at hD
    obtain ⟨x, hx, h1, h2⟩ := hD
    have h2 : x.2.isNone = true := by simpa using h2
    have hxN : x.1 ∈ N := by rw [← kp]; exact List.mem_map_of_mem (f := (·.1)) hx
    rw [fill_none (n := x.1) (fun d hd => by
      rw [at_mem (by rw [kp]; exact nd) (show (x.1, x.2) ∈ _ from hx)] at hd
      cases hd; exact h2) hxN (by rw [keys_act]; exact h1)]
    rw [tableS_none (rs_mem x hx)]
    · trivial
    · simp only
      rw [hA0 x.1 h1]
      unfold turnV
      simp only
      rw [if_pos ((dv_none (pairs_def hx)).trans h2)]
  have hat : ∀ x ∈ pairsOf fs, at? (pairsOf fs) x.1 = some x.2 := fun x hx => at_mem (by rw [kp]; exact nd) hx
  have krs : keys (rsOf fs) = N := hNm
  rw [fill_all nd (fun n hn => by
    obtain ⟨d, hdm⟩ := mem_rs n hn
    rw [keys_act]
    rcases hD _ hdm with z | z
    · exact .inl z
    · exact .inr ⟨d, hat _ hdm, z⟩)]
  have hv : ∀ x ∈ pairsOf fs, (∀ y, (x.1, y) ∈ T → turnV (toldOf x.1 N as) (dv x.2) = some (actV y)) ∧ (x.1 ∉ T.map (·.1) → turnV (toldOf x.1 N as) (dv x.2) = some (dv x.2)) := fun x hx => by
    refine ⟨fun y hy => by rw [hA1 _ _ hy]; rfl, fun hn => ?_⟩
    rw [hA0 _ hn]
    unfold turnV
    simp only
    rw [if_neg]
    rw [dv_none (pairs_def hx)]
    rcases hD x hx with z | z
    · exact absurd z hn
    · rw [z]; simp
  rw [tableS_all (by rw [krs]; exact hN) (fun x hx => by
    rw [rp] at hx
    obtain ⟨y, hy, rfl⟩ := List.mem_map.mp hx
    by_cases c : y.1 ∈ T.map (·.1)
    · obtain ⟨⟨n, p⟩, h1, h2⟩ := List.mem_map.mp c
      simp only at h2
      subst h2
      exact ⟨_, (hv y hy).1 p h1⟩
    · exact ⟨_, (hv y hy).2 c⟩), List.nil_append]
  simp only
  rw [hs, if_neg (by simp)]
  show likeD _ _
  have kt : keys ((rsOf fs).map fun x => (x.1, (turnV (toldOf x.1 N as) x.2).getD .none)) = N := by
    rw [← krs]; unfold keys; rw [List.map_map]; rfl
  have att : ∀ x ∈ pairsOf fs, at? ((rsOf fs).map fun x => (x.1, (turnV (toldOf x.1 N as) x.2).getD .none)) x.1 = some ((turnV (toldOf x.1 N as) (dv x.2)).getD .none) := fun x hx =>
    at_mem (by rw [kt]; exact nd) (List.mem_map.mpr ⟨_, rs_mem x hx, rfl⟩)
  have fm : ∀ n, n ∈ N.filter (fun n => decide (n ∉ keys (actT T))) ↔ n ∈ N ∧ n ∉ T.map (·.1) := fun n => by
    rw [List.mem_filter, keys_act]; simp
  constructor
  · have k1 : keys (actT T ++ (N.filter fun n => decide (n ∉ keys (actT T))).map fun n => (n, dv ((at? (pairsOf fs) n).getD .none))) = T.map (·.1) ++ N.filter fun n => decide (n ∉ keys (actT T)) := by
      unfold keys
      rw [List.map_append, List.map_map]
      have : (actT T).map (·.1) = T.map (·.1) := keys_act T
      rw [this]
      congr 1
      exact List.map_id' _
    have l1 := congrArg List.length k1
    have l2 := congrArg List.length kt
    unfold keys at l1 l2
    rw [List.length_map] at l1 l2
    rw [l1, l2]
    refine Nat.le_antisymm (len_le ?_ ?_) (len_le nd ?_)
    · rw [List.nodup_append]
      exact ⟨hF, nd.filter _, fun a ha b hb z => ((fm b).mp hb).2 (z ▸ ha)⟩
    · intro x hx
      rcases List.mem_append.mp hx with z | z
      · obtain ⟨y, hy, rfl⟩ := List.mem_map.mp z
        exact hTN y hy
      · exact ((fm x).mp z).1
    · intro x hx
      by_cases c : x ∈ T.map (·.1)
      · exact List.mem_append.mpr (.inl c)
      · exact List.mem_append.mpr (.inr ((fm x).mpr ⟨hx, c⟩))
  · intro k p hk
    rcases List.mem_append.mp hk with z | z
    · obtain ⟨⟨n, y⟩, hy, e3⟩ := List.mem_map.mp z
      simp only [Prod.mk.injEq] at e3
      obtain ⟨rfl, rfl⟩ := e3
      obtain ⟨d, hdm⟩ := mem_rs _ (hTN _ hy)
      obtain ⟨o1, o2⟩ := act_ok (hTv _ hy)
      refine ⟨actV y, ?_, o1, o1, o2⟩
      rw [att _ hdm, (hv _ hdm).1 y hy]; rfl
    · obtain ⟨n, hn, e3⟩ := List.mem_map.mp z
      simp only [Prod.mk.injEq] at e3
      obtain ⟨rfl, rfl⟩ := e3
      obtain ⟨h1, h2⟩ := (fm n).mp hn
      obtain ⟨d, hdm⟩ := mem_rs _ h1
      obtain ⟨o1, o2⟩ := dv_ok (pairs_def hdm)
      rw [hat _ hdm]
      refine ⟨dv d, ?_, o1, o1, o2⟩
      rw [att _ hdm, (hv _ hdm).2 h2]; rfl
end Mine

namespace Mine

theorem dueP_zF {N : List Str} : ∀ (k i : Nat) (es : List (Str × PV)), i + k = N.length → fresh (keys es) (N.drop i) → dueP i (N.drop i) es = es ++ actT (zF N i ((List.range' i k).map nodeI))
  | 0, i, es, h, _ => by rw [List.drop_eq_nil_of_le (by omega)]; simp [dueP, zF, actT]
  | k + 1, i, es, h, hf => by
    have hi : i < N.length := by omega
    rw [List.drop_eq_getElem_cons hi] at hf ⊢
    obtain ⟨h1, h2⟩ := hf
    have e : put es N[i] (.tup [.str "actual", nodeI i]) = es ++ [(N[i], actV (nodeI i))] := put_new h1
    rw [dueP, e, dueP_zF k (i + 1) _ (by omega) (by simpa [keys] using h2), List.range'_succ, List.map_cons, zF, List.getElem?_eq_getElem hi]
    simp [actT]
theorem zF_vals {N : List Str} : ∀ (us : List PV) (i : Nat), (∀ u ∈ us, isNode u) → ∀ x ∈ zF N i us, isNode x.2
  | [], i, _, x, hx => by cases hx
  | u :: us, i, h, x, hx => by
    rw [zF] at hx
    rcases List.mem_cons.mp hx with z | z
    · subst z; exact h u (.head _)
    · exact zF_vals us (i + 1) (fun y hy => h y (.tail _ hy)) x z
theorem same_plain {fs : List Fm} : sameO (matchS fs (plainAs (nmOf fs).length)) (if (dueP 0 (nmOf fs) []).length = (nmOf fs).length then some (dueP 0 (nmOf fs) []) else none) := by
  by_cases hN : fresh [] (nmOf fs)
  rotate_left
  · rw [match_stale hN, if_neg]
    · trivial
    · have := dueP_not (i := 0) (es := []) hN
      simp at this ⊢; omega
  have nd : (nmOf fs).Nodup := ((fresh_iff _ _).mp hN).1
  have kp := keys_pairs fs
  rw [match_fresh hN]
  generalize nmOf fs = N at *
  have hd : dueP 0 N [] = actT (zF N 0 ((List.range' 0 N.length).map nodeI)) := by
    have := dueP_zF (N := N) N.length 0 [] (by omega) (by simpa using hN)
    simpa using this
  have hp : plainAs N.length = spots' ((List.range' 0 N.length).map nodeI) ++ [] := by
    unfold plainAs
    rw [List.append_nil, List.range_eq_range']
    show _ = (List.map nodeI (List.range' 0 N.length)).map fun u => ((none : Option (List Ch)), u)
    rw [List.map_map]; rfl
  have hu : ((List.range' 0 N.length).map nodeI).length = N.length := by simp
  have hn : ∀ u ∈ (List.range' 0 N.length).map nodeI, isNode u := fun u hu => by
    obtain ⟨i, _, rfl⟩ := List.mem_map.mp hu
    exact ⟨_, rfl⟩
  rw [hp, hd]
  generalize (List.range' 0 N.length).map nodeI = us at *
  rw [tells_spots us 0 [] (by omega)]
  have hk : (zF N 0 us).map (·.1) = N := by rw [zF_names us 0 (by omega), hu]; simp
  have hv := zF_vals (N := N) us 0 hn
  show sameO ((addT (pairsOf fs) [] (zF N 0 us ++ [])).bind _) _
  rw [List.append_nil]
  generalize zF N 0 us = T at *
  have hl : (actT T).length = N.length := by
    have := congrArg List.length hk
    unfold actT
    simpa using this
  rw [addT_fresh (fun x hx => by rw [kp, ← hk]; exact List.mem_map_of_mem (f := (·.1)) hx) (by rw [hk]; exact hN), List.nil_append, if_pos hl]
  show sameO (fill (pairsOf fs) (actT T) N) _
  rw [fill_all nd (fun n hn => .inl (by rw [keys_act, hk]; exact hn))]
  have : N.filter (fun n => decide (n ∉ keys (actT T))) = [] := by
    rw [keys_act, hk]
    exact List.filter_eq_nil_iff.mpr fun x hx => by simp [hx]
  rw [this, List.map_nil, List.append_nil]
  refine ⟨rfl, fun k p hk2 => ?_⟩
  have at1 := at_mem (es := actT T) (by rw [keys_act, hk]; exact nd) hk2
  obtain ⟨⟨n, y⟩, hy, e3⟩ := List.mem_map.mp hk2
  simp only [Prod.mk.injEq] at e3
  obtain ⟨rfl, rfl⟩ := e3
  obtain ⟨o1, o2⟩ := act_ok (hv _ hy)
  exact ⟨_, at1, o1, o1, o2⟩

section
variable {g : Gx} {K : AF → AS → Prop} {X : Int → AS → Prop}
set_option maxHeartbeats 4000000 in
/-- the whole of law -/
theorem w_law {L f0 : Addr} {cd : Value} {m : Names} {σ0 : Store} {xs : List Int} (G : g.Ok) (hsc : m "script" = some (.al (xs.map .int))) (hxl : xs.length ≤ 1000)
    (h : ∀ m' σ', K (.ret (.bool true)) ⟨m', σ'⟩) :
    WS g (fcW g L f0 cd) (execs (bodyOf g.w.params 130) (fcW g L f0 cd).env) ⟨m, σ0⟩ K X := by
  with_reducible refine w_formals G hsc hxl ?_
  intro m1 σ1 wl k fs hm1 hw hk hg hfl
  with_reducible refine w_rows G hm1 hg hfl ?_
  intro m2 hm2
  have hcs : (xs.take 60).length ≤ 10000 := by rw [List.length_take]; omega
  with_reducible refine w_assocs G hm2 hw hcs hk hg hfl ?_
  intro m3 σ3 as l hm3 hga hal
  have hA := same_due (as := as) hg fun a ha => (hga a ha).1
  with_reducible exact w_end G hm3 hg hfl hga hal hA same_plain h
end
end Mine

namespace Mine

theorem ints_rel {σ : Store} {h : Heap} : ∀ {vs : List Value} {xs : List Int}, IntsAre vs xs → VRs σ h (xs.map .int) vs
  | _, _, .nil => .nil
  | _, _, .cons n t r => .cons (.int n t) (ints_rel r)
theorem size_none (h : Heap) : h.get? h.objs.size = none := by
  cases q : h.get? h.objs.size with
  | none => rfl
  | some o => exact absurd (Heap.lt_size q) (Nat.lt_irrefl _)

/-- a goal that the elaborator does not look into -/
@[irreducible] def Held (p : Prop) : Prop := p
theorem Held.of {p : Prop} (h : p) : Held p := by unfold Held; exact h
theorem Held.out {p : Prop} (h : Held p) : p := by unfold Held at h; exact h
theorem Wp.held {α β : Type} {g : Gx} {fc : Fc} {rel : Store → Heap → β → α → Prop} {t : Sem α} {st : AS} {s : Shared} {K : β → AS → Prop} {X : Int → AS → Prop} {Q : α → Shared → Prop} {E : Value → Shared → Prop} (h : Wp g fc rel t st K X) (r : R g fc st s)
    (k : ∀ p st₁ v s₁, rel st₁.σ s₁.heap p v → R g fc st₁ s₁ → Step fc st.σ st₁.σ s.heap s₁.heap → K p st₁ → Q v s₁) (e : ∀ v s₁, EPost g fc st s X v s₁ → E v s₁) : Held (wpAny g.M fc.A t Q E s) := Held.of ((h s r).use k e)

set_option maxHeartbeats 4000000 in
theorem w_join {prog view : Program} {loose : List Str} {mean : ExcName → Option Value} {w : World} {s₁ : Shared} {mg mb mL : Str → Option Value} {fa wl : Addr} {cd : Value} {h₁ : Heap} {tk₁ : Nat} {o1 o0 : Obj} {vs : List Value} {xs : List Int}
    {Q : Flow → Shared → Prop} {E : Value → Shared → Prop} (T : Top view loose mean mg mb s₁.heap) (KX : (hd.heap_39 w.params).In s₁.heap) (hg : s₁.gens = #[])
    (F : Fr s₁.heap s₁.heap.objs.size h₁ mL) (hsc : mL "script" = some (.ref wl)) (N0 : News s₁.heap s₁.heap.objs.size h₁ [(s₁.heap.objs.size + 1 + 1, o1), (s₁.heap.objs.size + 1, o0)])
    (c1 : ∃ v, o1.data = .cell v) (c0 : ∃ v, o0.data = .cell v) (hL : s₁.heap.IsList wl vs.toArray) (hI : IntsAre vs xs) (hxl : xs.length ≤ 1000)
    (hQ : ∀ (s' : Shared) (m : Str → Option Value), Fr s₁.heap s₁.heap.objs.size s'.heap m → s'.gens = #[] → s'.os = s₁.os → Q (.ret (.bool true)) s') :
    Held (wpAny (model prog w) (callerA.deeper (lawEnv w.params s₁.heap.objs.size fa cd)) (execs (bodyOf w.params 130) (lawEnv w.params s₁.heap.objs.size fa cd)) Q E { s₁ with heap := h₁, toks := tk₁ }) := by
  have hsys : ∃ o, s₁.heap.get? cStatics = some o := by
    obtain ⟨mc, ⟨o, es, ep, h1, _⟩, _⟩ := T.nolimit
    exact ⟨o, h1⟩
  let g : Gx := ⟨prog, w, s₁.heap, s₁.os, hsys⟩
  have G : g.Ok := ⟨KX, T.nolimit, ⟨mg, T.g⟩, ⟨mb, T.b, T.builtins⟩⟩
  have hcells : (lawEnv w.params s₁.heap.objs.size fa cd).cells = ([("names", s₁.heap.objs.size + 1 + 1), ("well", s₁.heap.objs.size + 1)] : List (Str × Addr)) := rfl
  have hkind : (lawEnv w.params s₁.heap.objs.size fa cd).kindOf "script" = some .local := rfl
  have a1 := N0 _ (.head _)
  have a0 := N0 _ (.tail _ (.head _))
  simp only at a1 a0
  have hcell : ∀ x ca, (lawEnv w.params s₁.heap.objs.size fa cd).cells.lookup x = some ca → (x = "names" ∧ ca = s₁.heap.objs.size + 1 + 1) ∨ (x = "well" ∧ ca = s₁.heap.objs.size + 1) := fun x ca e => by
    rw [hcells] at e
    have := mem_of_lookup e
    simp at this
    exact this
  obtain ⟨ol, b1, b2, nl, b3⟩ := hL
  have r : R g (fcW g s₁.heap.objs.size fa cd) ⟨fun x => if x = "script" then some (.al (xs.map .int)) else none, fun _ => none⟩ { s₁ with heap := h₁, toks := tk₁ } := by
    refine ⟨⟨rfl, rfl, (show 1 + claimMargin + 1 + 500 ≤ 900 by decide), (show 4 + 3 + 8 * 500 ≤ 9000 by decide), rfl, rfl, rfl, ⟨_, _, rfl, rfl⟩, fun e he => ?_, fun x hx => ?_, fun x y a hx hy => ?_⟩, F.keep, hg, rfl, ⟨mL, F.ns, fun x p e => ?_⟩, fun x ca e => ?_, ⟨size_none _, rfl⟩, fun L hl => ?_, fun a mo e => by cases e⟩
    · simp at he; subst he
      exact ⟨(show ScopeKind.function ≠ ScopeKind.module by decide), rfl⟩
    · exact Option.isSome_iff_exists.mp (cellsFrom_some _ _ _ (.inl hx))
    · rcases hcell _ _ hx with ⟨p, q⟩ | ⟨p, q⟩ <;> rcases hcell _ _ hy with ⟨p', q'⟩ | ⟨p', q'⟩
      · rw [p, p']
      · exact absurd (q.symm.trans q') (Nat.succ_ne_self _)
      · exact absurd (q'.symm.trans q) (Nat.succ_ne_self _)
      · rw [p, p']
    · simp only at e
      split at e
      · rename_i z
        subst z
        cases e
        refine .inl ⟨hkind, .ref wl, hsc, ?_⟩
        exact .al (F.keep _ _ b1) b2 b3 rfl (by simpa using ints_rel hI)
      · cases e
    · rcases hcell _ _ e with ⟨_, q⟩ | ⟨_, q⟩
      · subst q; exact ⟨a1.2.2, rfl, o1, c1.choose, a1.1, c1.choose_spec⟩
      · subst q; exact ⟨a0.2.2, rfl, o0, c0.choose, a0.1, c0.choose_spec⟩
    · have : L = s₁.heap.objs.size := by
        have h2 : (fcW g s₁.heap.objs.size fa cd).fr = [s₁.heap.objs.size] := rfl
        rw [h2] at hl; simpa using hl
      subst this
      obtain ⟨o, es, ep, d1, d2, _⟩ := F.ns
      exact ⟨size_none _, rfl, o, es, ep, d1, d2⟩
  have W : WS g (fcW g s₁.heap.objs.size fa cd) (execs (bodyOf g.w.params 130) (fcW g s₁.heap.objs.size fa cd).env) ⟨fun x => if x = "script" then some (.al (xs.map .int)) else none, fun _ => none⟩ (fun f _ => f = .ret (.bool true)) (fun _ _ => False) := by
    with_reducible refine w_law (xs := xs) G ?_ hxl ?_
    · exact rfl
    · exact fun _ _ => rfl
  refine Wp.held W r ?_ ?_
  · intro p st' v s' fr r' S k
    subst k
    cases fr with
    | ret q =>
      cases q
      obtain ⟨mV, ns, _⟩ := r'.loc
      exact hQ s' mV ⟨ns, r'.base, Nat.le_refl _⟩ r'.gens r'.os
  · intro v s' z
    obtain ⟨_, _, _, _, _, z⟩ := z
    exact z.elim
end Mine

theorem PySem.Challenge.cw_pb0001_01_holds : PySem.Challenge.rw_pb0001_01.Holds :=
  Mine.hd (by
  k_go0
  rename_i w s₀ s₁ mg mb G Y fa o pm doc ho hg KX X V GL T B TE TW wa wb M wc wd hcd xs hs hlay hL1 hr1 hl2 we wf wl vs wg hL ra w1 r0 hI hr hc63 hct K0 hD h₁ tk₁ F o1 o0 hl hrr N0 X0
  refine Mine.Held.out (Mine.w_join (mL := _) (wl := wl) (fa := fa) (cd := .ref wc) (vs := vs) (xs := xs) T KX hg F rfl N0 ⟨_, hl⟩ ⟨_, hrr⟩ hL hI (by omega) fun s' m F' hg' hos' => ?_)
  refine goodW_bool F' hg' (fun _ => rfl) ?_ hos'
  first | wrow_post | kc_post)
