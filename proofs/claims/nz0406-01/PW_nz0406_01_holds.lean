import PyProof.Rows.All
import Wide.All
import OpenK.AllK
import Wide.FinOn
import PySem.Challenge.RW_nz0406_01
open PySem PySem.W PyProof.Rows
set_option Elab.async false
set_option linter.unusedVariables false
namespace Mine
set_option maxRecDepth 100000 in
set_option maxHeartbeats 8000000 in
open_top hd for PySem.Challenge.rw_nz0406_01
end Mine

namespace Mine
noncomputable section
set_option genInjectivity false
set_option genSizeOfSpec false
open PySem.Calls
set_option maxRecDepth 100000
/-! ## P1 -/
/-! ## Pure values and what denotes them -/
inductive PV where
  | none
  | bool (b : Bool)
  | int (i : Int)
  | str (x : Str)
  | tup (l : List PV)
  | ref (a : Addr)
  | ty (T : String)

inductive Den (h : Heap) : Value → PV → Prop where
  | none : Den h .none .none
  | bool (b : Bool) : Den h (.bool b) (.bool b)
  | int (i : Int) (t : Tok) : Den h (.int i t) (.int i)
  | str (x : Str) (t : Tok) : Den h (.str x t) (.str x)
  | tup {a : Addr} {vs : Array Value} {ps : List PV} : IsTup h a vs → vs.size = ps.length →
      (∀ (i : Nat) (v : Value) (p : PV), vs[i]? = some v → ps[i]? = some p → Den h v p) → Den h (.ref a) (.tup ps)
  | ref (a : Addr) : Den h (.ref a) (.ref a)
  | ty (T : String) : Den h (.type T) (.ty T)

inductive DenL (h : Heap) : List Value → List PV → Prop where
  | nil : DenL h [] []
  | cons {v : Value} {p : PV} {vs : List Value} {ps : List PV} : Den h v p → DenL h vs ps → DenL h (v :: vs) (p :: ps)

theorem DenL.length {h : Heap} {vs : List Value} {ps : List PV} (d : DenL h vs ps) : vs.length = ps.length := by
  induction d with
  | nil => rfl
  | cons _ _ ih => simp [ih]
theorem DenL.get {h : Heap} {vs : List Value} {ps : List PV} (d : DenL h vs ps) : ∀ (i : Nat) (v : Value) (p : PV), vs[i]? = some v → ps[i]? = some p → Den h v p := by
  induction d with
  | nil => intro i v p e; simp at e
  | cons d1 _ ih =>
    intro i v p e1 e2
    cases i with
    | zero => simp at e1 e2; subst e1 e2; exact d1
    | succ i => simp at e1 e2; exact ih i v p e1 e2
theorem DenL.at {h : Heap} {vs : List Value} {ps : List PV} (d : DenL h vs ps) {i : Nat} {p : PV} (e : ps[i]? = some p) : ∃ v, vs[i]? = some v ∧ Den h v p := by
  induction d generalizing i with
  | nil => simp at e
  | cons d1 _ ih =>
    cases i with
    | zero => simp at e; subst e; exact ⟨_, rfl, d1⟩
    | succ i => simp at e; simpa using ih e
theorem DenL.of_get {h : Heap} : ∀ {vs : List Value} {ps : List PV}, vs.length = ps.length → (∀ (i : Nat) (v : Value) (p : PV), vs[i]? = some v → ps[i]? = some p → Den h v p) → DenL h vs ps
  | [], [], _, _ => .nil
  | v :: vs, p :: ps, hl, hg => .cons (hg 0 v p rfl rfl) (DenL.of_get (by simpa using hl) fun i v' p' e1 e2 => hg (i + 1) v' p' (by simpa using e1) (by simpa using e2))
theorem DenL.append {h : Heap} {vs vs' : List Value} {ps ps' : List PV} (d : DenL h vs ps) (d' : DenL h vs' ps') : DenL h (vs ++ vs') (ps ++ ps') := by
  induction d with
  | nil => exact d'
  | cons d1 _ ih => exact .cons d1 ih
theorem Den.ofTup {h : Heap} {a : Addr} {vs : Array Value} {ps : List PV} (t : IsTup h a vs) (d : DenL h vs.toList ps) : Den h (.ref a) (.tup ps) :=
  .tup t (by simpa using d.length) fun i v p e1 e2 => d.get i v p (by simpa using e1) e2
theorem Den.toTup {h : Heap} {v : Value} {ps : List PV} (d : Den h v (.tup ps)) : ∃ a vs, v = .ref a ∧ IsTup h a vs ∧ DenL h vs.toList ps := by
  cases d with
  | tup t hl hg => exact ⟨_, _, rfl, t, .of_get (by simpa using hl) fun i v p e1 e2 => hg i v p (by simpa using e1) e2⟩

def TExt (h h' : Heap) : Prop := ∀ b o, h.get? b = some o → o.cls = .type "tuple" → (∃ vs n, o.data = .seq vs n) → h'.get? b = some o
theorem TExt.refl (h : Heap) : TExt h h := fun _ _ e _ _ => e
theorem TExt.trans {h₁ h₂ h₃ : Heap} (x : TExt h₁ h₂) (y : TExt h₂ h₃) : TExt h₁ h₃ := fun b o e c d => y b o (x b o e c d) c d
theorem TExt.tup {h h' : Heap} (x : TExt h h') {a : Addr} {vs : Array Value} (t : IsTup h a vs) : IsTup h' a vs := let ⟨o, ho, hc, n, hd⟩ := t; ⟨o, x a o ho hc ⟨_, n, hd⟩, hc, n, hd⟩
theorem Den.mono {h h' : Heap} (x : TExt h h') {v : Value} {p : PV} (d : Den h v p) : Den h' v p := by
  induction d with
  | none => exact .none
  | bool b => exact .bool b
  | int i t => exact .int i t
  | str s t => exact .str s t
  | tup t hl _ ih => exact .tup (x.tup t) hl ih
  | ref a => exact .ref a
  | ty T => exact .ty T
theorem DenL.mono {h h' : Heap} (x : TExt h h') {vs : List Value} {ps : List PV} (d : DenL h vs ps) : DenL h' vs ps := by
  induction d with
  | nil => exact .nil
  | cons d1 _ ih => exact .cons (d1.mono x) ih

/-! ## Frames and their states -/
abbrev Rho := List (Str × PV)
abbrev Sig := Addr → Option (List PV)
def upd (σ : Sig) (a : Addr) (l : List PV) : Sig := fun b => if b = a then some l else σ b
def LIs (h : Heap) (a : Addr) (vs : Array Value) : Prop := ∃ n, h.get? a = some (listOf vs n)

theorem upd_same {σ : Sig} {a : Addr} {l : List PV} : upd σ a l a = some l := if_pos rfl
theorem upd_ne {σ : Sig} {a b : Addr} {l : List PV} (h : b ≠ a) : upd σ a l b = σ b := if_neg h
theorem upd_upd {σ : Sig} {a : Addr} {l l' : List PV} : upd (upd σ a l) a l' = upd σ a l' := by
  funext b; unfold upd; split <;> rfl
theorem upd_comm {σ : Sig} {a b : Addr} {l l' : List PV} (h : a ≠ b) : upd (upd σ a l) b l' = upd (upd σ b l') a l := by
  funext c; unfold upd
  by_cases h1 : c = a
  · subst h1; simp [h]
  · by_cases h2 : c = b
    · subst h2; simp [h1]
    · simp [h1, h2]
theorem upd_none {σ : Sig} {a b : Addr} {l : List PV} (h : upd σ a l b = none) : b ≠ a ∧ σ b = none := by
  unfold upd at h
  by_cases e : b = a
  · rw [if_pos e] at h; cases h
  · rw [if_neg e] at h; exact ⟨e, h⟩

theorem LIs.isList {h : Heap} {a : Addr} {vs : Array Value} (x : LIs h a vs) : h.IsList a vs := let ⟨n, e⟩ := x; ⟨_, e, rfl, n, rfl⟩

structure Fm where
  prog : Program
  w : World
  K : Frag
  A : Around
  env : Env
  base : Addr → Option Obj
abbrev Fm.L (f : Fm) : Addr := f.env.locals

def TopIn (K : Frag) (base : Addr → Option Obj) : Prop := ∃ (hT : Heap) (p : Program) (loose : List Str) (mean : ExcName → Option Value) (mg mb : Str → Option Value),
  Top p loose mean mg mb hT ∧ K.In hT ∧ ∀ b o, hT.get? b = some o → base b = some o

structure Fm.Ok (f : Fm) : Prop where
  handled : f.A.handled = none
  kind : f.env.scope.kind = .function
  glob : f.env.globals = mainGlobals
  bi : f.env.builtins = builtinsNs
  new : f.base f.L = none
  top : TopIn f.K f.base

structure Fm.Room (f : Fm) (k : Nat) : Prop where
  ok : f.Ok
  depth : f.A.depth + k < recursionLimit
  units : f.A.units + 8 * k + 100 < cLine

structure St (f : Fm) (ρ : Rho) (σ : Sig) (h : Heap) : Prop where
  keep : ∀ b o, f.base b = some o → h.get? b = some o
  loc : ∃ m, h.Ns f.L m ∧ ∀ x p, ρ.lookup x = some p → ∃ v, m x = some v ∧ Den h v p
  lst : ∀ a l, σ a = some l → ∃ vs, LIs h a vs ∧ DenL h vs.toList l ∧ f.base a = none ∧ a ≠ f.L

def Same (s s' : Shared) : Prop := s' = { s with heap := s'.heap, toks := s'.toks }
theorem Same.refl (s : Shared) : Same s s := rfl
theorem Same.trans {s₁ s₂ s₃ : Shared} (x : Same s₁ s₂) (y : Same s₂ s₃) : Same s₁ s₃ := by
  unfold Same at *; rw [y, x]
theorem Same.mk {s : Shared} {h : Heap} {t : Nat} : Same s { s with heap := h, toks := t } := rfl

structure Nx (f : Fm) (ρ : Rho) (σ : Sig) (s s' : Shared) : Prop where
  st : St f ρ σ s'.heap
  ext : TExt s.heap s'.heap
  same : Same s s'
theorem Nx.trans {f : Fm} {ρ₁ ρ₂ : Rho} {σ₁ σ₂ : Sig} {s₁ s₂ s₃ : Shared} (x : Nx f ρ₁ σ₁ s₁ s₂) (y : Nx f ρ₂ σ₂ s₂ s₃) : Nx f ρ₂ σ₂ s₁ s₃ := ⟨y.st, x.ext.trans y.ext, x.same.trans y.same⟩

section
variable {f : Fm} {ρ : Rho} {σ : Sig} {h h' : Heap}
theorem Nx.refl {s : Shared} (S : St f ρ σ s.heap) : Nx f ρ σ s s := ⟨S, .refl _, .refl _⟩
theorem Nx.toks {s : Shared} {t : Nat} (S : St f ρ σ s.heap) : Nx f ρ σ s { s with toks := t } := ⟨S, .refl _, rfl⟩

theorem TExt.of_all (hk : ∀ b o, h.get? b = some o → h'.get? b = some o) : TExt h h' := fun b o e _ _ => hk b o e
theorem TExt.push (o : Obj) : TExt h (h.push o) := .of_all fun _ _ e => Heap.get?_push_of_some _ e
theorem TExt.but {a : Addr} (hx : Heap.ExtBut a h h') (hn : ∀ vs, ¬ IsTup h a vs) : TExt h h' := fun b o e c d => hx b o (fun q => by
  subst q
  obtain ⟨vs, n, hd⟩ := d
  exact hn vs ⟨o, e, c, n, hd⟩) e

theorem St.all (S : St f ρ σ h) (hk : ∀ b o, h.get? b = some o → h'.get? b = some o) : St f ρ σ h' := by
  refine ⟨fun b o e => hk b o (S.keep b o e), ?_, fun a l e => ?_⟩
  · obtain ⟨m, hn, hm⟩ := S.loc
    exact ⟨m, hn.keeps hk, fun x p e => let ⟨v, h1, h2⟩ := hm x p e; ⟨v, h1, h2.mono (.of_all hk)⟩⟩
  · obtain ⟨vs, ⟨n, h1⟩, h2, h3, h4⟩ := S.lst a l e
    exact ⟨vs, ⟨n, hk _ _ h1⟩, h2.mono (.of_all hk), h3, h4⟩
theorem St.fresh {a : Addr} (S : St f ρ σ h) (hx : Heap.ExtBut a h h') (ha : h.get? a = none) : St f ρ σ h' :=
  S.all fun b o e => hx b o (fun q => by rw [q, ha] at e; cases e) e
theorem St.push (S : St f ρ σ h) (o : Obj) : St f ρ σ (h.push o) := S.all fun _ _ e => Heap.get?_push_of_some _ e
theorem get_size_none (h : Heap) : h.get? h.objs.size = none := by
  cases e : h.get? h.objs.size with
  | none => rfl
  | some o => exact absurd (Heap.lt_size e) (Nat.lt_irrefl _)

theorem St.notTup {a : Addr} {l : List PV} (S : St f ρ σ h) (e : σ a = some l) : ∀ vs, ¬ IsTup h a vs := by
  obtain ⟨ws, ⟨n, h1⟩, _⟩ := S.lst a l e
  rintro vs ⟨o, ho, hc, _⟩
  rw [h1] at ho; cases ho
  injection hc with q; exact absurd q (by decide)
theorem ns_notTup {L : Addr} {m : Str → Option Value} (hn : h.Ns L m) : ∀ (vs : Array Value), ¬ IsTup h L vs := by
  obtain ⟨o, es, ep, ho, hd, _⟩ := hn
  rintro vs ⟨o', ho', _, n, hd'⟩
  rw [ho] at ho'; cases ho'
  rw [hd] at hd'; cases hd'

theorem St.set {a : Addr} {l l' : List PV} {vs' : Array Value} (S : St f ρ σ h) (e : σ a = some l) (hx : Heap.ExtBut a h h') (hl : LIs h' a vs') (hd : DenL h' vs'.toList l') : St f ρ (upd σ a l') h' := by
  have tx := TExt.but hx (S.notTup e)
  obtain ⟨vs, ⟨n, h1⟩, h2, h3, h4⟩ := S.lst a l e
  refine ⟨fun b o eb => hx b o (fun q => by rw [q, h3] at eb; cases eb) (S.keep b o eb), ?_, fun b l2 eb => ?_⟩
  · obtain ⟨m, hn, hm⟩ := S.loc
    exact ⟨m, hn.extBut hx (Ne.symm h4), fun x p ex => let ⟨v, q1, q2⟩ := hm x p ex; ⟨v, q1, q2.mono tx⟩⟩
  · by_cases q : b = a
    · subst q
      rw [upd_same] at eb; cases eb
      exact ⟨vs', hl, hd, h3, h4⟩
    · rw [upd_ne q] at eb
      obtain ⟨ws, ⟨k, g1⟩, g2, g3, g4⟩ := S.lst b l2 eb
      exact ⟨ws, ⟨k, hx b _ q g1⟩, g2.mono tx, g3, g4⟩
theorem St.new {l : List PV} {vs : Array Value} (S : St f ρ σ h) (hd : DenL h vs.toList l) : St f ρ (upd σ h.objs.size l) (h.push (listOf vs 0)) ∧ σ h.objs.size = none := by
  have hs : σ h.objs.size = none := by
    cases e : σ h.objs.size with
    | none => rfl
    | some l' => obtain ⟨_, ⟨n, h1⟩, _⟩ := S.lst _ _ e; rw [get_size_none] at h1; cases h1
  refine ⟨⟨(S.push _).keep, (S.push _).loc, fun b l2 eb => ?_⟩, hs⟩
  by_cases q : b = h.objs.size
  · subst q
    rw [upd_same] at eb; cases eb
    refine ⟨vs, ⟨0, Heap.get?_push_size _ rfl⟩, hd.mono (.push _), ?_, fun e => ?_⟩
    · cases eb : f.base h.objs.size with
      | none => rfl
      | some o => have := S.keep _ _ eb; rw [get_size_none] at this; cases this
    · obtain ⟨m, hn, _⟩ := S.loc
      exact absurd (e ▸ hn.lt) (Nat.lt_irrefl _)
  · rw [upd_ne q] at eb; exact (S.push _).lst b l2 eb
theorem St.sub {ρ' : Rho} {σ' : Sig} (S : St f ρ σ h) (hr : ∀ x p, ρ'.lookup x = some p → ρ.lookup x = some p) (hs : ∀ a l, σ' a = some l → σ a = some l) : St f ρ' σ' h :=
  ⟨S.keep, let ⟨m, hn, hm⟩ := S.loc; ⟨m, hn, fun x p e => hm x p (hr x p e)⟩, fun a l e => S.lst a l (hs a l e)⟩
theorem St.setLoc {x : Str} {v : Value} {p : PV} (S : St f ρ σ h) (hnew : f.base f.L = none) (d : Den h v p) : ∃ m, h.Ns f.L m ∧
    ∀ h', h'.Ns f.L (fun y => if y = x then some v else m y) → Heap.SameBut f.L h h' → St f ((x, p) :: ρ) σ h' ∧ TExt h h' := by
  obtain ⟨m, hn0, hm0⟩ := S.loc
  refine ⟨m, hn0, fun h' hn hs => ?_⟩
  have hx := hs.extBut
  have tx : TExt h h' := .but hx (ns_notTup hn0)
  refine ⟨⟨fun b o eb => hx b o (fun q => by rw [q, hnew] at eb; cases eb) (S.keep b o eb), ⟨_, hn, fun y q e => ?_⟩, fun b l eb => ?_⟩, tx⟩
  · rw [List.lookup_cons] at e
    by_cases hy : y = x
    · subst hy
      simp at e; subst e
      exact ⟨v, by simp, d.mono tx⟩
    · have : (y == x) = false := beq_eq_false_iff_ne.mpr hy
      rw [this] at e
      obtain ⟨v', q1, q2⟩ := hm0 y q e
      exact ⟨v', by simp [hy, q1], q2.mono tx⟩
  · obtain ⟨ws, ⟨k, g1⟩, g2, g3, g4⟩ := S.lst b l eb
    exact ⟨ws, ⟨k, hx b _ g4 g1⟩, g2.mono tx, g3, g4⟩
end

/-! ## P2 -/
section
variable (f : Fm) (k : Nat)
/-- a tree that gives a value -/
def ValP (t : Sem Value) (ρ : Rho) (σ : Sig) (Φ : PV → Sig → Prop) : Prop :=
  ∀ s, f.Room k → St f ρ σ s.heap → ∀ (Q : Value → Shared → Prop) (E : Value → Shared → Prop),
    (∀ v s' q σ', Φ q σ' → Den s'.heap v q → Nx f ρ σ' s s' → Q v s') → wpAny (model f.prog f.w) f.A t Q E s
abbrev EvalP (e : Expr) (ρ : Rho) (σ : Sig) (Φ : PV → Sig → Prop) : Prop := ValP f k (eval e f.env) ρ σ Φ
def Op2 (t : Value → Value → Sem Value) (a b : PV) (ρ : Rho) (σ : Sig) (Φ : PV → Sig → Prop) : Prop :=
  ∀ s v u, f.Room k → St f ρ σ s.heap → Den s.heap v a → Den s.heap u b → ∀ (Q : Value → Shared → Prop) (E : Value → Shared → Prop),
    (∀ v s' q σ', Φ q σ' → Den s'.heap v q → Nx f ρ σ' s s' → Q v s') → wpAny (model f.prog f.w) f.A (t v u) Q E s
def OpL (t : List Value → Sem Value) (as : List PV) (ρ : Rho) (σ : Sig) (Φ : PV → Sig → Prop) : Prop :=
  ∀ s vs, f.Room k → St f ρ σ s.heap → DenL s.heap vs as → ∀ (Q : Value → Shared → Prop) (E : Value → Shared → Prop),
    (∀ v s' q σ', Φ q σ' → Den s'.heap v q → Nx f ρ σ' s s' → Q v s') → wpAny (model f.prog f.w) f.A (t vs) Q E s
abbrev CallP (fv : Value) (as : List PV) (ρ : Rho) (σ : Sig) (Φ : PV → Sig → Prop) : Prop := OpL f k (fun vs => call fv vs) as ρ σ Φ
def ArgsP (pos : Pos) (es : List Expr) (ρ : Rho) (σ : Sig) (Φ : List PV → Sig → Prop) : Prop :=
  ∀ s, f.Room k → St f ρ σ s.heap → ∀ (Q : List Value → Shared → Prop) (E : Value → Shared → Prop),
    (∀ vs s' qs σ', Φ qs σ' → DenL s'.heap vs qs → Nx f ρ σ' s s' → Q vs s') → wpAny (model f.prog f.w) f.A (spliced (backTo pos (starEach es f.env))) Q E s
def BoolP (t : Sem Bool) (ρ : Rho) (σ : Sig) (Φ : Bool → Sig → Prop) : Prop :=
  ∀ s, f.Room k → St f ρ σ s.heap → ∀ (Q : Bool → Shared → Prop) (E : Value → Shared → Prop),
    (∀ b s' σ', Φ b σ' → Nx f ρ σ' s s' → Q b s') → wpAny (model f.prog f.w) f.A t Q E s
abbrev TestP (e : Expr) (ρ : Rho) (σ : Sig) (Φ : Bool → Sig → Prop) : Prop := BoolP f k (isTrue e f.env (eval e f.env)) ρ σ Φ
def TruP (a : PV) (ρ : Rho) (σ : Sig) (Φ : Bool → Sig → Prop) : Prop :=
  ∀ s v, f.Room k → St f ρ σ s.heap → Den s.heap v a → ∀ (Q : Bool → Shared → Prop) (E : Value → Shared → Prop),
    (∀ b s' σ', Φ b σ' → Nx f ρ σ' s s' → Q b s') → wpAny (model f.prog f.w) f.A (truthy v) Q E s
inductive FP where
  | next | brk | cont | ret (p : PV)
def FRel (h : Heap) : Flow → FP → Prop
  | .next, .next => True
  | .brk, .brk => True
  | .cont, .cont => True
  | .ret v, .ret p => Den h v p
  | _, _ => False
def FlowP (t : Sem Flow) (ρ : Rho) (σ : Sig) (Φ : FP → Rho → Sig → Prop) : Prop :=
  ∀ s, f.Room k → St f ρ σ s.heap → ∀ (Q : Flow → Shared → Prop) (E : Value → Shared → Prop),
    (∀ v s' q ρ' σ', Φ q ρ' σ' → FRel s'.heap v q → Nx f ρ' σ' s s' → Q v s') → wpAny (model f.prog f.w) f.A t Q E s
abbrev ExecP (st : Stmt) (ρ : Rho) (σ : Sig) (Φ : FP → Rho → Sig → Prop) : Prop := FlowP f k (exec st f.env) ρ σ Φ
abbrev ExecsP (sts : List Stmt) (ρ : Rho) (σ : Sig) (Φ : FP → Rho → Sig → Prop) : Prop := FlowP f k (execs sts f.env) ρ σ Φ
end

section
variable {f : Fm} {k : Nat} {ρ : Rho} {σ : Sig}

theorem ValP.mono {t : Sem Value} {Φ Ψ : PV → Sig → Prop} (h : ValP f k t ρ σ Φ) (hi : ∀ p σ', Φ p σ' → Ψ p σ') : ValP f k t ρ σ Ψ :=
  fun s rm S Q E hQ => h s rm S Q E fun v s' q σ' a b c => hQ v s' q σ' (hi q σ' a) b c
theorem FlowP.mono {t : Sem Flow} {Φ Ψ : FP → Rho → Sig → Prop} (h : FlowP f k t ρ σ Φ) (hi : ∀ p ρ' σ', Φ p ρ' σ' → Ψ p ρ' σ') : FlowP f k t ρ σ Ψ :=
  fun s rm S Q E hQ => h s rm S Q E fun v s' q ρ' σ' a b c => hQ v s' q ρ' σ' (hi q ρ' σ' a) b c
theorem FlowP.subs {t : Sem Flow} {Φ : FP → Rho → Sig → Prop} {ρ' : Rho} {σ' : Sig} (h : FlowP f k t ρ' σ' Φ) (hr : ∀ x p, ρ'.lookup x = some p → ρ.lookup x = some p) (hs : ∀ a l, σ' a = some l → σ a = some l) : FlowP f k t ρ σ Φ :=
  fun s rm S Q E hQ => h s rm (S.sub hr hs) Q E hQ
theorem OpL.mono {t : List Value → Sem Value} {as : List PV} {Φ Ψ : PV → Sig → Prop} (h : OpL f k t as ρ σ Φ) (hi : ∀ p σ', Φ p σ' → Ψ p σ') : OpL f k t as ρ σ Ψ :=
  fun s vs rm S d Q E hQ => h s vs rm S d Q E fun v s' q σ' a b c => hQ v s' q σ' (hi q σ' a) b c
theorem Fm.Room.le {j : Nat} (r : f.Room k) (h : j ≤ k) : f.Room j := ⟨r.ok, by have := r.depth; omega, by have := r.units; omega⟩

/-! ### constants, names -/
theorem eval_int {i : Int} {x1 pos} {Φ : PV → Sig → Prop} (h : Φ (.int i) σ) : EvalP f k (.Constant (.int i) x1 pos) ρ σ Φ :=
  fun _ _ S _ _ hQ => wpAny_Constant_int (hQ _ _ _ _ h (.int _ _) (.toks S))
theorem eval_str {x : Str} {x1 pos} {Φ : PV → Sig → Prop} (h : Φ (.str x) σ) : EvalP f k (.Constant (.str x) x1 pos) ρ σ Φ :=
  fun _ _ S _ _ hQ => wpAny_Constant_str (hQ _ _ _ _ h (.str _ _) (.toks S))
theorem eval_none {x1 pos} {Φ : PV → Sig → Prop} (h : Φ .none σ) : EvalP f k (.Constant .none x1 pos) ρ σ Φ :=
  fun _ _ S _ _ hQ => wpAny_Constant_none (hQ _ _ _ _ h .none (.refl S))
theorem eval_bool {b : Bool} {x1 pos} {Φ : PV → Sig → Prop} (h : Φ (.bool b) σ) : EvalP f k (.Constant (.bool b) x1 pos) ρ σ Φ :=
  fun _ _ S _ _ hQ => wpAny_Constant_bool (hQ _ _ _ _ h (.bool _) (.refl S))
theorem eval_local {x : Str} {p : PV} {pos : Pos} {Φ : PV → Sig → Prop} (hl : f.env.kindOf x = some .local) (e : ρ.lookup x = some p) (h : Φ p σ) (hd : (x == ("__debug__" : Str)) = false := by decide) :
    EvalP f k (.Name x pos) ρ σ Φ := fun s rm S Q E hQ => by
  obtain ⟨m, hn, hm⟩ := S.loc
  obtain ⟨v, h1, h2⟩ := hm x p e
  exact wpAny_Name (wpAny_loadName_local rm.ok.kind hl hn h1 (hQ _ _ _ _ h h2 (.refl S))) hd

/-- a name that stands for the value v, at the module's top or among the built-ins -/
def NameV (f : Fm) (x : Str) (v : Value) : Prop := ∀ (pos : Pos) (ρ : Rho) (σ : Sig) (s : Shared), f.Ok → St f ρ σ s.heap → ∀ (Q : Value → Shared → Prop) (E : Value → Shared → Prop), Q v s → wpAny (model f.prog f.w) f.A (eval (.Name x pos) f.env) Q E s
theorem TopIn.ns {K : Frag} {base : Addr → Option Obj} (T : TopIn K base) {h : Heap} (hk : ∀ b o, base b = some o → h.get? b = some o) :
    ∃ mg mb, h.Ns mainGlobals mg ∧ h.Ns builtinsNs mb ∧ (∀ x v, nsIn K mainGlobals x = some (some v) → mg x = some v) ∧ (∀ x, nsIn K mainGlobals x = some none → mg x = none) ∧ ∀ x : Str, x ≠ "__name__" → mb x = bootBuiltins x := by
  obtain ⟨hT, p, loose, mean, mg, mb, T, X, up⟩ := T
  have hk' : ∀ b o, hT.get? b = some o → h.get? b = some o := fun b o e => hk b o (up b o e)
  exact ⟨mg, mb, T.g.keeps hk', T.b.keeps hk', fun x v e => mg_of X T.g e, fun x e => mg_none_of X T.g e, T.builtins⟩
theorem TopIn.inK {K : Frag} {base : Addr → Option Obj} (T : TopIn K base) {h : Heap} (hk : ∀ b o, base b = some o → h.get? b = some o) : K.In h := by
  obtain ⟨hT, p, loose, mean, mg, mb, T, X, up⟩ := T
  exact X.keeps fun b o e => hk b o (up b o e)
theorem TopIn.noLimit {K : Frag} {base : Addr → Option Obj} (T : TopIn K base) {h : Heap} (hk : ∀ b o, base b = some o → h.get? b = some o) : h.NoLimit := by
  obtain ⟨hT, p, loose, mean, mg, mb, T, X, up⟩ := T
  exact T.nolimit.keeps fun b o e => hk b o (up b o e)
theorem nameV_global {x : Str} {v : Value} (hx : f.env.kindOf x = some .globalImplicit) (e : nsIn f.K mainGlobals x = some (some v)) (hd : (x == ("__debug__" : Str)) = false := by decide) : NameV f x v := by
  intro pos ρ σ s ok S Q E h
  obtain ⟨mg, mb, g, b, h1, h2, h3⟩ := ok.top.ns S.keep
  refine Name_function_global ok.kind hx (loadGlobal_global (mg := mg) ?_ (h1 x v e) h) hd
  rw [ok.glob]; exact g
theorem nameV_builtin {x : Str} {v : Value} (hx : f.env.kindOf x = some .globalImplicit) (e : nsIn f.K mainGlobals x = some none) (hv : bootBuiltins x = some v) (hn : x ≠ "__name__") (hd : (x == ("__debug__" : Str)) = false := by decide) : NameV f x v := by
  intro pos ρ σ s ok S Q E h
  obtain ⟨mg, mb, g, b, h1, h2, h3⟩ := ok.top.ns S.keep
  refine Name_function_global ok.kind hx (loadGlobal_builtin (mg := mg) (mb := mb) ?_ (h2 x e) ?_ ((h3 x hn).trans hv) h) hd
  · rw [ok.glob]; exact g
  · rw [ok.bi]; exact b
theorem eval_nameV {x : Str} {v : Value} {p : PV} {pos : Pos} {Φ : PV → Sig → Prop} (hv : NameV f x v) (hd : ∀ h, Den h v p) (h : Φ p σ) : EvalP f k (.Name x pos) ρ σ Φ :=
  fun s rm S Q E hQ => hv pos ρ σ s rm.ok S Q E (hQ _ _ _ _ h (hd _) (.refl S))

/-! ### operators -/
theorem eval_BinOp {l r : Expr} {op : Operator} {pos : Pos} {Φ : PV → Sig → Prop} (h : EvalP f k l ρ σ fun a σ₁ => EvalP f k r ρ σ₁ fun b σ₂ => Op2 f k (binaryOp op) a b ρ σ₂ Φ) : EvalP f k (.BinOp l op r pos) ρ σ Φ :=
  fun s rm S Q E hQ => wpAny_BinOp (h s rm S _ _ fun a s₁ pa σ₁ h₁ da N₁ => h₁ s₁ rm N₁.st _ _ fun b s₂ pb σ₂ h₂ db N₂ =>
    h₂ s₂ a b rm N₂.st (da.mono N₂.ext) db _ _ fun v s₃ q σ₃ hq dq N₃ => hQ v s₃ q σ₃ hq dq (N₁.trans (N₂.trans N₃)))
theorem eval_Compare1 {l r : Expr} {op : CmpOp} {pos : Pos} {Φ : PV → Sig → Prop} (h : EvalP f k l ρ σ fun a σ₁ => EvalP f k r ρ σ₁ fun b σ₂ => Op2 f k (compareOp op) a b ρ σ₂ Φ)
    (hm : behindInMarks op r = false := by with_unfolding_all rfl) : EvalP f k (.Compare l [op] [r] pos) ρ σ Φ :=
  fun s rm S Q E hQ => wpAny_Compare1 (h s rm S _ _ fun a s₁ pa σ₁ h₁ da N₁ => h₁ s₁ rm N₁.st _ _ fun b s₂ pb σ₂ h₂ db N₂ =>
    h₂ s₂ a b rm N₂.st (da.mono N₂.ext) db _ _ fun v s₃ q σ₃ hq dq N₃ => hQ v s₃ q σ₃ hq dq (N₁.trans (N₂.trans N₃))) hm
theorem test_Compare1 {l r : Expr} {op : CmpOp} {pos : Pos} {Φ : Bool → Sig → Prop} (h : EvalP f k l ρ σ fun a σ₁ => EvalP f k r ρ σ₁ fun b σ₂ => Op2 f k (compareOp op) a b ρ σ₂ fun c σ₃ => ∃ t, c = .bool t ∧ Φ t σ₃)
    (hm : behindInMarks op r = false := by with_unfolding_all rfl) : TestP f k (.Compare l [op] [r] pos) ρ σ Φ :=
  fun s rm S Q E hQ => wpAny_isTrue_Compare1 (h s rm S _ _ fun a s₁ pa σ₁ h₁ da N₁ => h₁ s₁ rm N₁.st _ _ fun b s₂ pb σ₂ h₂ db N₂ =>
    h₂ s₂ a b rm N₂.st (da.mono N₂.ext) db _ _ fun v s₃ q σ₃ hq dq N₃ => by
      obtain ⟨t, rfl, ht⟩ := hq
      cases dq
      exact wpAny_truthy_bool (hQ t s₃ σ₃ ht (N₁.trans (N₂.trans N₃)))) hm
theorem test_not {e : Expr} {pos : Pos} {Φ : Bool → Sig → Prop} (h : TestP f k e ρ σ fun b σ₁ => Φ (!b) σ₁) : TestP f k (.UnaryOp .Not e pos) ρ σ Φ :=
  fun s rm S Q E hQ => wpAny_isTrue_Not (h s rm S _ _ fun b s₁ σ₁ h₁ N₁ => hQ _ s₁ σ₁ h₁ N₁)
theorem test_and {es : List Expr} {pos : Pos} {Φ : Bool → Sig → Prop} (h : BoolP f k (allTrue .And es f.env) ρ σ Φ) : TestP f k (.BoolOp .And es pos) ρ σ Φ :=
  fun s rm S Q E hQ => wpAny_isTrue_BoolOp (h s rm S Q E hQ)
theorem test_or {es : List Expr} {pos : Pos} {Φ : Bool → Sig → Prop} (h : BoolP f k (allTrue .Or es f.env) ρ σ Φ) : TestP f k (.BoolOp .Or es pos) ρ σ Φ :=
  fun s rm S Q E hQ => wpAny_isTrue_BoolOp (h s rm S Q E hQ)
theorem all_and_nil {Φ : Bool → Sig → Prop} (h : Φ true σ) : BoolP f k (allTrue .And [] f.env) ρ σ Φ := fun _ _ S _ _ hQ => wpAny_allTrue_And_nil (hQ _ _ _ h (.refl S))
theorem all_or_nil {Φ : Bool → Sig → Prop} (h : Φ false σ) : BoolP f k (allTrue .Or [] f.env) ρ σ Φ := fun _ _ S _ _ hQ => wpAny_allTrue_Or_nil (hQ _ _ _ h (.refl S))
theorem all_and_cons {e : Expr} {es : List Expr} {Φ : Bool → Sig → Prop} (h : TestP f k e ρ σ fun b σ₁ => (b = true → BoolP f k (allTrue .And es f.env) ρ σ₁ Φ) ∧ (b = false → Φ false σ₁)) : BoolP f k (allTrue .And (e :: es) f.env) ρ σ Φ :=
  fun s rm S Q E hQ => wpAny_allTrue_And_cons (h s rm S _ _ fun b s₁ σ₁ h₁ N₁ => by
    cases b with
    | true => exact h₁.1 rfl s₁ rm N₁.st _ _ fun b s₂ σ₂ h₂ N₂ => hQ b s₂ σ₂ h₂ (N₁.trans N₂)
    | false => exact hQ _ s₁ σ₁ (h₁.2 rfl) N₁)
theorem all_or_cons {e : Expr} {es : List Expr} {Φ : Bool → Sig → Prop} (h : TestP f k e ρ σ fun b σ₁ => (b = false → BoolP f k (allTrue .Or es f.env) ρ σ₁ Φ) ∧ (b = true → Φ true σ₁)) : BoolP f k (allTrue .Or (e :: es) f.env) ρ σ Φ :=
  fun s rm S Q E hQ => wpAny_allTrue_Or_cons (h s rm S _ _ fun b s₁ σ₁ h₁ N₁ => by
    cases b with
    | false => exact h₁.1 rfl s₁ rm N₁.st _ _ fun b s₂ σ₂ h₂ N₂ => hQ b s₂ σ₂ h₂ (N₁.trans N₂)
    | true => exact hQ _ s₁ σ₁ (h₁.2 rfl) N₁)
theorem test_value {e : Expr} {Φ : Bool → Sig → Prop} (h : EvalP f k e ρ σ fun p σ₁ => TruP f k p ρ σ₁ Φ) (he : isTrue e f.env (eval e f.env) = (do let v ← eval e f.env; standAt e.pos; holding [v] (truthy v))) : TestP f k e ρ σ Φ :=
  fun s rm S Q E hQ => wpAny_isTrue_value (h s rm S _ _ fun v s₁ p σ₁ h₁ d N₁ => h₁ s₁ v rm N₁.st d _ _ fun b s₂ σ₂ h₂ N₂ => hQ b s₂ σ₂ h₂ (N₁.trans N₂)) he
theorem tru_bool {b : Bool} {Φ : Bool → Sig → Prop} (h : Φ b σ) : TruP f k (.bool b) ρ σ Φ := fun s v rm S d Q E hQ => by
  cases d
  exact wpAny_truthy_bool (hQ _ _ _ h (.refl S))
theorem eval_IfExp {t a b : Expr} {pos : Pos} {Φ : PV → Sig → Prop} (h : TestP f k t ρ σ fun c σ₁ => (c = true → EvalP f k a ρ σ₁ Φ) ∧ (c = false → EvalP f k b ρ σ₁ Φ)) : EvalP f k (.IfExp t a b pos) ρ σ Φ :=
  fun s rm S Q E hQ => wpAny_IfExp (h s rm S _ _ fun c s₁ σ₁ h₁ N₁ => by
    cases c with
    | true => exact h₁.1 rfl s₁ rm N₁.st _ _ fun v s₂ q σ₂ h₂ d N₂ => hQ v s₂ q σ₂ h₂ d (N₁.trans N₂)
    | false => exact h₁.2 rfl s₁ rm N₁.st _ _ fun v s₂ q σ₂ h₂ d N₂ => hQ v s₂ q σ₂ h₂ d (N₁.trans N₂))
theorem eval_And2 {a b : Expr} {pos : Pos} {Φ : PV → Sig → Prop} (h : EvalP f k a ρ σ fun p σ₁ => TruP f k p ρ σ₁ fun c σ₂ => (c = true → EvalP f k b ρ σ₂ Φ) ∧ (c = false → Φ p σ₂)) : EvalP f k (.BoolOp .And [a, b] pos) ρ σ Φ :=
  fun s rm S Q E hQ => wpAny_And2 (h s rm S _ _ fun v s₁ p σ₁ h₁ d N₁ => h₁ s₁ v rm N₁.st d _ _ fun c s₂ σ₂ h₂ N₂ => by
    cases c with
    | true => exact h₂.1 rfl s₂ rm N₂.st _ _ fun v s₃ q σ₃ h₃ d N₃ => hQ v s₃ q σ₃ h₃ d (N₁.trans (N₂.trans N₃))
    | false => exact hQ v s₂ p σ₂ (h₂.2 rfl) (d.mono N₂.ext) (N₁.trans N₂))
theorem eval_neg {e : Expr} {i : Int} {pos : Pos} {Φ : PV → Sig → Prop} (h : EvalP f k e ρ σ fun p σ₁ => p = .int i ∧ Φ (.int (-i)) σ₁) : EvalP f k (.UnaryOp .USub e pos) ρ σ Φ :=
  fun s rm S Q E hQ => wpAny_UnaryOp (h s rm S _ _ fun v s₁ p σ₁ h₁ d N₁ => by
    obtain ⟨rfl, h₂⟩ := h₁
    cases d
    exact neg_int (hQ _ _ _ _ h₂ (.int _ _) (N₁.trans (.toks N₁.st))))

/-! ### displays -/
theorem args_nil {pos : Pos} {Φ : List PV → Sig → Prop} (h : Φ [] σ) : ArgsP f k pos [] ρ σ Φ := fun _ _ S _ _ hQ => wpAny_items_nil (hQ _ _ _ _ h .nil (.refl S))
theorem args_cons {pos : Pos} {e : Expr} {es : List Expr} {Φ : List PV → Sig → Prop} (h : EvalP f k e ρ σ fun p σ₁ => ArgsP f k pos es ρ σ₁ fun ps σ₂ => Φ (p :: ps) σ₂)
    (he : ∀ env, starEach (e :: es) env = (false, eval e env) :: starEach es env := by intro _; rfl) : ArgsP f k pos (e :: es) ρ σ Φ :=
  fun s rm S Q E hQ => wpAny_items_cons (h s rm S _ _ fun v s₁ p σ₁ h₁ d N₁ => h₁ s₁ rm N₁.st _ _ fun vs s₂ ps σ₂ h₂ ds N₂ => hQ (v :: vs) s₂ (p :: ps) σ₂ h₂ (.cons (d.mono N₂.ext) ds) (N₁.trans N₂)) (he _)
theorem eval_Tuple {es : List Expr} {x1 : Nat} {pos : Pos} {Φ : PV → Sig → Prop} (h : ArgsP f k pos es ρ σ fun ps σ₁ => ps.length ≤ 16777216 ∧ Φ (.tup ps) σ₁) : EvalP f k (.Tuple es x1 pos) ρ σ Φ :=
  fun s rm S Q E hQ => wpAny_Tuple (h s rm S _ _ fun vs s₁ ps σ₁ h₁ ds N₁ => by
    refine ⟨by rw [ds.length, sizeLine_eq]; exact h₁.1, hQ _ _ _ _ h₁.2 ?_ (N₁.trans ⟨N₁.st.push _, .push _, rfl⟩)⟩
    exact Den.ofTup (vs := vs.toArray) ⟨_, Heap.get?_push_size _ rfl, rfl, 0, rfl⟩ (ds.mono (.push _)))
theorem eval_List {es : List Expr} {pos : Pos} {Φ : PV → Sig → Prop} (h : ArgsP f k pos es ρ σ fun ps σ₁ => ps.length ≤ 16777216 ∧ ∀ a, σ₁ a = none → Φ (.ref a) (upd σ₁ a ps)) : EvalP f k (.List es pos) ρ σ Φ :=
  fun s rm S Q E hQ => wpAny_List (h s rm S _ _ fun vs s₁ ps σ₁ h₁ ds N₁ => by
    obtain ⟨S', hn⟩ := N₁.st.new (vs := vs.toArray) (l := ps) ds
    exact ⟨by rw [ds.length, sizeLine_eq]; exact h₁.1, hQ _ _ _ _ (h₁.2 _ hn) (.ref _) (N₁.trans ⟨S', .push _, rfl⟩)⟩)

/-! ### statements -/
theorem execs_nil' {Φ : FP → Rho → Sig → Prop} (h : Φ .next ρ σ) : ExecsP f k [] ρ σ Φ := fun _ _ S _ _ hQ => wpAny_execs_nil (hQ _ _ _ _ _ h trivial (.refl S))
theorem execs_cons' {st : Stmt} {sts : List Stmt} {Φ : FP → Rho → Sig → Prop} (h : ExecP f k st ρ σ fun q ρ₁ σ₁ => match q with | .next => ExecsP f k sts ρ₁ σ₁ Φ | q => Φ q ρ₁ σ₁) : ExecsP f k (st :: sts) ρ σ Φ :=
  fun s rm S Q E hQ => wpAny_execs_cons (h s rm S _ _ fun v s₁ q ρ₁ σ₁ h₁ d N₁ => by
    cases v <;> cases q <;> first | exact d.elim | skip
    · exact h₁ s₁ rm N₁.st _ _ fun v s₂ q ρ₂ σ₂ h₂ d N₂ => hQ v s₂ q ρ₂ σ₂ h₂ d (N₁.trans N₂)
    · exact hQ _ s₁ _ _ _ h₁ d N₁
    · exact hQ _ s₁ _ _ _ h₁ d N₁
    · exact hQ _ s₁ _ _ _ h₁ d N₁)
theorem exec_ret {e : Expr} {pos : Pos} {Φ : FP → Rho → Sig → Prop} (h : EvalP f k e ρ σ fun p σ₁ => Φ (.ret p) ρ σ₁) : ExecP f k (.Return (some e) pos) ρ σ Φ :=
  fun s rm S Q E hQ => wpAny_Return_some (h s rm S _ _ fun v s₁ p σ₁ h₁ d N₁ => hQ _ _ _ _ _ h₁ d N₁)
theorem exec_cont {pos : Pos} {Φ : FP → Rho → Sig → Prop} (h : Φ .cont ρ σ) : ExecP f k (.Continue pos) ρ σ Φ :=
  fun s rm S Q E hQ => wpAny_Continue (hQ _ _ _ _ _ h trivial (.refl S))
theorem exec_expr {e : Expr} {pos : Pos} {Φ : FP → Rho → Sig → Prop} (h : EvalP f k e ρ σ fun _ σ₁ => Φ .next ρ σ₁)
    (hi : interactive f.env = false) (hs : swapsWith e none pos.line f.env = pure false) : ExecP f k (.Expr e pos) ρ σ Φ :=
  fun s rm S Q E hQ => wpAny_Expr_any (h s rm S _ _ fun v s₁ p σ₁ h₁ d N₁ => hQ _ _ _ _ _ h₁ trivial N₁) hi hs
theorem storeP {x : Str} {v : Value} {p : PV} {s : Shared} {Q : Unit → Shared → Prop} {E : Value → Shared → Prop} (ok : f.Ok) (hl : f.env.kindOf x = some .local) (S : St f ρ σ s.heap) (d : Den s.heap v p)
    (h : ∀ s', Nx f ((x, p) :: ρ) σ s s' → Q () s') : wpAny (model f.prog f.w) f.A (storeName f.env x v) Q E s := by
  obtain ⟨m, hn, hm⟩ := S.setLoc (x := x) ok.new d
  refine wpAny_storeName_local hl hn (fun h' hn' hs => h _ ?_) (by rw [ok.kind]; rfl)
  obtain ⟨S', tx⟩ := hm h' hn' hs
  exact ⟨S', tx, rfl⟩
theorem exec_assign {x : Str} {px pos : Pos} {e : Expr} {Φ : FP → Rho → Sig → Prop} (hl : f.env.kindOf x = some .local) (h : EvalP f k e ρ σ fun p σ₁ => Φ .next ((x, p) :: ρ) σ₁)
    (hs : swapsWith e (some (.Name x px)) pos.line f.env = pure false := by rfl) : ExecP f k (.Assign [.Name x px] e pos) ρ σ Φ :=
  fun s rm S Q E hQ => wpAny_Assign_Name (h s rm S _ _ fun v s₁ p σ₁ h₁ d N₁ => storeP rm.ok hl N₁.st d fun s' N => hQ _ _ _ _ _ h₁ trivial (N₁.trans N)) hs
end

/-! ## P3 -/
/-! ### a def of the text is called -/
def FP.val : FP → PV
  | .ret p => p
  | _ => .none
theorem lookup_snoc {α β : Type} [BEq α] [LawfulBEq α] [DecidableEq α] (l : List (α × β)) (x y : α) (b : β) : (l ++ [(x, b)]).lookup y = (l.lookup y).or (if y = x then some b else none) := by
  induction l with
  | nil =>
    by_cases h : y = x
    · subst h; simp [List.lookup]
    · have : (y == x) = false := beq_eq_false_iff_ne.mpr h
      simp [List.lookup, this, h]
  | cons p r ih =>
    obtain ⟨z, c⟩ := p
    simp only [List.cons_append, List.lookup_cons]
    cases hz : y == z with
    | true => simp
    | false => simp [ih]
theorem den_lk {h : Heap} : ∀ (xs : List Str) (vs : List Value) (ps : List PV), DenL h vs ps → ∀ x, (((xs.zip ps).reverse).lookup x = none ∧ ((xs.zip vs).reverse).lookup x = none) ∨ ∃ v p, ((xs.zip ps).reverse).lookup x = some p ∧ ((xs.zip vs).reverse).lookup x = some v ∧ Den h v p
  | [], _, _, _, x => .inl ⟨by simp, by simp⟩
  | _ :: _, _, _, .nil, x => .inl ⟨by simp, by simp⟩
  | z :: xs, v :: vs, q :: ps, .cons d ds, x => by
    simp only [List.zip_cons_cons, List.reverse_cons, lookup_snoc]
    rcases den_lk xs vs ps ds x with ⟨h1, h2⟩ | ⟨v', p', h1, h2, h3⟩
    · rw [h1, h2]
      by_cases hx : x = z
      · exact .inr ⟨v, q, by simp [hx], by simp [hx], d⟩
      · exact .inl ⟨by simp [hx], by simp [hx]⟩
    · exact .inr ⟨v', p', by rw [h1]; rfl, by rw [h2]; rfl, h3⟩
theorem den_binds {h : Heap} {xs : List Str} {vs : List Value} {ps : List PV} (d : DenL h vs ps) : ∀ x p, ((xs.zip ps).reverse).lookup x = some p → ∃ v, ((xs.zip vs).reverse).lookup x = some v ∧ Den h v p := fun x p e => by
  rcases den_lk xs vs ps d x with ⟨h1, h2⟩ | ⟨v', p', h1, h2, h3⟩
  · rw [h1] at e; cases e
  · rw [h1] at e; cases e; exact ⟨v', h2, h3⟩
theorem DenL.one {h : Heap} {vs : List Value} {p : PV} (d : DenL h vs [p]) : ∃ v, vs = [v] ∧ Den h v p := by
  cases d with | cons d1 d2 => cases d2; exact ⟨_, rfl, d1⟩
theorem DenL.two {h : Heap} {vs : List Value} {p q : PV} (d : DenL h vs [p, q]) : ∃ v u, vs = [v, u] ∧ Den h v p ∧ Den h u q := by
  cases d with | cons d1 d2 => obtain ⟨u, rfl, d3⟩ := d2.one; exact ⟨_, _, rfl, d1, d3⟩
theorem Den.toRef {h : Heap} {v : Value} {a : Addr} (d : Den h v (.ref a)) : v = .ref a := by cases d; rfl
theorem Den.toInt {h : Heap} {v : Value} {i : Int} (d : Den h v (.int i)) : ∃ t, v = .int i t := by cases d; exact ⟨_, rfl⟩

abbrev Fm.into (f : Fm) (σ : Sig) (h : Heap) (e : Env) : Fm := { f with A := f.A.deeper e, env := e, base := fun b => match σ b with | none => h.get? b | some _ => none }

section
variable {f : Fm} {k : Nat} {ρ : Rho} {σ : Sig}

theorem callP_def {fa : Addr} {name qual : Str} {params : Arguments} {body : List Stmt} {scope : Scope} {dV kV doc pm cdv ct oc : Value} {an od : Option Addr} {osl : Array (Option Value)} {ps : List PV} {Φ : PV → Sig → Prop} (xs : List Str)
    (ho : f.K.lookup fa = some ⟨oc, od, .func (fnOf name qual params body scope dV kV doc pm an cdv ct), osl⟩) (hcd : codeIn f.K cdv qual = true)
    (hbind : ∀ vs : List Value, vs.length = ps.length → bindArgs (fnOf name qual params body scope dV kV doc pm an cdv ct) ⟨vs, []⟩ = pure (xs.zip vs))
    (hloc : ∀ x ∈ xs, scope.names.lookup x = some .local) (hcell : ∀ x ∈ scope.names, x.2 ≠ .cell) (hco : scope.isCoroutine = false) (hgen : scope.isGenerator = false) (hk : scope.kind = .function)
    (hbody : ∀ (A' : Around) (L' : Addr) (base' : Addr → Option Obj), (∀ b o, f.base b = some o → base' b = some o) →
      ExecsP ⟨f.prog, f.w, f.K, A', envOf qual scope L' fa cdv, base'⟩ k body ((xs.zip ps).reverse) σ fun q ρ' σ' => Φ q.val σ') :
    CallP f (k + 1) (.ref fa) ps ρ σ Φ := fun s vs rm S dL Q E hQ => by
  refine wpAny_call ?_
  have hall : ∀ b o, f.base b = some o → s.heap.get? b = some o := S.keep
  have X : f.K.In s.heap := rm.ok.top.inK hall
  have hf : ∀ b o, f.base b = some o → (match σ b with | none => s.heap.get? b | some _ => none) = some o := fun b o e => by
    cases hs : σ b with
    | none => exact hall b o e
    | some l => obtain ⟨_, _, _, h3, _⟩ := S.lst b l hs; rw [h3] at e; cases e
  refine codeAny_call_def (fd := fnOf name qual params body scope dV kV doc pm an cdv ct) (body := body) (binds := xs.zip vs) (by have := rm.depth; omega) (X _ _ ho) rfl (rm.ok.top.noLimit hall) (codeRec_of X hcd) rfl
    (.of_eq (hbind vs dL.length)) hcell (fun x hx => hloc x.1 (List.of_mem_zip hx).1) (fun h₁ hns hk₁ => ?_) hco hgen hk
  have hok : Fm.Ok (f.into σ s.heap (envOf qual scope s.heap.objs.size fa cdv)) := by
    refine ⟨rm.ok.handled, hk, rfl, rfl, ?_, ?_⟩
    · show (match σ s.heap.objs.size with | none => s.heap.get? s.heap.objs.size | some _ => none) = none
      cases σ s.heap.objs.size with
      | none => exact get_size_none _
      | some _ => rfl
    · obtain ⟨hT, p, loose, mean, mg, mb, T, XT, up⟩ := rm.ok.top
      exact ⟨hT, p, loose, mean, mg, mb, T, XT, fun b o e => hf b o (up b o e)⟩
  have hS : St (f.into σ s.heap (envOf qual scope s.heap.objs.size fa cdv)) ((xs.zip ps).reverse) σ h₁ := by
    refine ⟨fun b o e => ?_, ⟨_, hns, den_binds (dL.mono (.of_all hk₁))⟩, fun a l e => ?_⟩
    · have e' : (match σ b with | none => s.heap.get? b | some _ => none) = some o := e
      cases hs : σ b with
      | none => rw [hs] at e'; exact hk₁ b o e'
      | some l => rw [hs] at e'; cases e'
    · obtain ⟨vs', ⟨n, h1⟩, h2, h3, h4⟩ := S.lst a l e
      refine ⟨vs', ⟨n, hk₁ _ _ h1⟩, h2.mono (.of_all hk₁), ?_, Nat.ne_of_lt (Heap.lt_size h1)⟩
      show (match σ a with | none => s.heap.get? a | some _ => none) = none
      rw [e]
  refine hbody _ _ _ hf _ ⟨hok, ?_, ?_⟩ hS _ _ (fun v s' q ρ' σ' hΦ hr N => ?_)
  · show f.A.depth + 1 + k < recursionLimit
    have := rm.depth; omega
  · show f.A.units + 3 + 8 * k + 100 < cLine
    have := rm.units; omega
  · have S' := N.st
    have tx : TExt s.heap s'.heap := (TExt.of_all hk₁).trans N.ext
    have key : ∀ v0, Den s'.heap v0 q.val → Q v0 s' := fun v0 dv => hQ v0 s' q.val σ' hΦ dv ?_
    · cases v <;> cases q <;> first | exact hr.elim | exact key _ hr | exact key _ .none
    refine ⟨⟨fun b o e => S'.keep b o (hf b o e), ?_, fun a l e => ?_⟩, tx, Same.trans (s₂ := { s with heap := h₁, toks := s.toks + (xs.zip vs).length }) rfl N.same⟩
    · obtain ⟨m, ⟨oL, es, ep, g1, g2⟩, hm⟩ := S.loc
      have hL : σ f.L = none := by
        cases hs : σ f.L with
        | none => rfl
        | some l => obtain ⟨_, _, _, _, h4⟩ := S.lst _ _ hs; exact absurd rfl h4
      refine ⟨m, ⟨oL, es, ep, S'.keep f.L oL ?_, g2⟩, fun x p e => let ⟨v, q1, q2⟩ := hm x p e; ⟨v, q1, q2.mono tx⟩⟩
      show (match σ f.L with | none => s.heap.get? f.L | some _ => none) = some oL
      rw [hL]; exact g1
    · obtain ⟨vs', h1, h2, h3, h4⟩ := S'.lst a l e
      have h3' : (match σ a with | none => s.heap.get? a | some _ => none) = none := h3
      refine ⟨vs', h1, h2, ?_, fun q => ?_⟩
      · cases hb : f.base a with
        | none => rfl
        | some o => rw [hf a o hb] at h3'; cases h3'
      · subst q
        obtain ⟨m, ⟨oL, es, ep, g1, g2⟩, hm⟩ := S.loc
        have hL : σ f.L = none := by
          cases hs : σ f.L with
          | none => rfl
          | some l => obtain ⟨_, _, _, _, h4⟩ := S.lst _ _ hs; exact absurd rfl h4
        rw [hL] at h3'
        rw [g1] at h3'; cases h3'

/-! ### ints and strs -/
theorem add_ii {a b : Int} {Φ : PV → Sig → Prop} (h : Φ (.int (a + b)) σ) : Op2 f k (binaryOp .Add) (.int a) (.int b) ρ σ Φ := fun s v u rm S d e Q E hQ => by
  cases d; cases e; exact add_int (hQ _ _ _ _ h (.int _ _) (.toks S))
theorem sub_ii {a b : Int} {Φ : PV → Sig → Prop} (h : Φ (.int (a - b)) σ) : Op2 f k (binaryOp .Sub) (.int a) (.int b) ρ σ Φ := fun s v u rm S d e Q E hQ => by
  cases d; cases e; exact sub_int (hQ _ _ _ _ h (.int _ _) (.toks S))
theorem mul_ii {a b : Int} {Φ : PV → Sig → Prop} (hm : IntMulOk a b) (h : Φ (.int (a * b)) σ) : Op2 f k (binaryOp .Mult) (.int a) (.int b) ρ σ Φ := fun s v u rm S d e Q E hQ => by
  cases d; cases e; exact mul_int (hQ _ _ _ _ h (.int _ _) (.toks S)) hm
theorem mod_ii {a b : Int} {Φ : PV → Sig → Prop} (hb : b ≠ 0) (h : Φ (.int (a.fmod b)) σ) : Op2 f k (binaryOp .Mod) (.int a) (.int b) ρ σ Φ := fun s v u rm S d e Q E hQ => by
  cases d; cases e; exact mod_int' hb (hQ _ _ _ _ h (.int _ _) (.toks S))
theorem div_ii {a b : Int} {Φ : PV → Sig → Prop} (hb : b ≠ 0) (hp : Builtin.divisionGoesByPylong a b = false) (h : Φ (.int (a.fdiv b)) σ) : Op2 f k (binaryOp .FloorDiv) (.int a) (.int b) ρ σ Φ := fun s v u rm S d e Q E hQ => by
  cases d; cases e; exact floordiv_int hb (hQ _ _ _ _ h (.int _ _) (.toks S)) (.inl hp)
theorem add_ss {a b : Str} {Φ : PV → Sig → Prop} (hz : a.length + b.length ≤ 16777216) (h : Φ (.str (a ++ b)) σ) : Op2 f k (binaryOp .Add) (.str a) (.str b) ρ σ Φ := fun s v u rm S d e Q E hQ => by
  cases d; cases e; exact add_str (fun t' tk => hQ _ _ _ _ h (.str _ _) (.toks S)) (by rw [sizeLine_eq]; exact hz)
theorem eq_ss {a b : Str} {Φ : PV → Sig → Prop} (h : Φ (.bool (a == b)) σ) : Op2 f k (compareOp .Eq) (.str a) (.str b) ρ σ Φ := fun s v u rm S d e Q E hQ => by
  cases d; cases e; exact eq_str (hQ _ _ _ _ h (.bool _) (.refl S))
theorem ne_ss {a b : Str} {Φ : PV → Sig → Prop} (h : Φ (.bool (a != b)) σ) : Op2 f k (compareOp .NotEq) (.str a) (.str b) ρ σ Φ := fun s v u rm S d e Q E hQ => by
  cases d; cases e; exact ne_str (hQ _ _ _ _ h (.bool _) (.refl S))
theorem eq_ii {a b : Int} {Φ : PV → Sig → Prop} (h : Φ (.bool (a == b)) σ) : Op2 f k (compareOp .Eq) (.int a) (.int b) ρ σ Φ := fun s v u rm S d e Q E hQ => by
  cases d; cases e; exact eq_int (hQ _ _ _ _ h (.bool _) (.refl S))
theorem ne_ii {a b : Int} {Φ : PV → Sig → Prop} (h : Φ (.bool (a != b)) σ) : Op2 f k (compareOp .NotEq) (.int a) (.int b) ρ σ Φ := fun s v u rm S d e Q E hQ => by
  cases d; cases e; exact ne_int (hQ _ _ _ _ h (.bool _) (.refl S))
theorem gt_ii {a b : Int} {Φ : PV → Sig → Prop} (h : Φ (.bool (decide (b < a))) σ) : Op2 f k (compareOp .Gt) (.int a) (.int b) ρ σ Φ := fun s v u rm S d e Q E hQ => by
  cases d; cases e; exact gt_int (hQ _ _ _ _ h (.bool _) (.refl S))
theorem lt_ii {a b : Int} {Φ : PV → Sig → Prop} (h : Φ (.bool (decide (a < b))) σ) : Op2 f k (compareOp .Lt) (.int a) (.int b) ρ σ Φ := fun s v u rm S d e Q E hQ => by
  cases d; cases e; exact lt_int (hQ _ _ _ _ h (.bool _) (.refl S))
theorem le_ii {a b : Int} {Φ : PV → Sig → Prop} (h : Φ (.bool (decide (a ≤ b))) σ) : Op2 f k (compareOp .LtE) (.int a) (.int b) ρ σ Φ := fun s v u rm S d e Q E hQ => by
  cases d; cases e; exact le_int (hQ _ _ _ _ h (.bool _) (.refl S))
theorem denL_strs {h : Heap} : ∀ {ys : List Str} {vs : List Value}, DenL h vs (ys.map PV.str) → StrsAre vs ys
  | [], _, d => by cases d; exact .nil
  | y :: ys, _, d => by
    cases d with
    | cons d1 d2 => cases d1; exact .cons _ _ (denL_strs d2)
theorem in_strs {a : Str} {ys : List Str} {Φ : PV → Sig → Prop} (h : Φ (.bool (ys.any fun y => y == a)) σ) : Op2 f k (compareOp .In) (.str a) (.tup (ys.map PV.str)) ρ σ Φ := fun s v u rm S d e Q E hQ => by
  cases d
  obtain ⟨t, vs, rfl, ht, hd⟩ := e.toTup
  exact in_tuple_strs ht (denL_strs hd) (hQ _ _ _ _ h (.bool _) (.refl S))
/-! ### lists -/
theorem add_ll {a b : Addr} {l l' : List PV} {Φ : PV → Sig → Prop} (ha : σ a = some l) (hb : σ b = some l') (hz : l.length + l'.length ≤ 16777216) (h : ∀ c, σ c = none → Φ (.ref c) (upd σ c (l ++ l'))) :
    Op2 f k (binaryOp .Add) (.ref a) (.ref b) ρ σ Φ := fun s v u rm S d e Q E hQ => by
  cases d; cases e
  obtain ⟨vs, ⟨n, ho⟩, hd, _⟩ := S.lst a l ha
  obtain ⟨ws, ⟨n2, ho2⟩, hd2, _⟩ := S.lst b l' hb
  have hz' : vs.size + ws.size ≤ sizeLine := by
    have e1 := hd.length; have e2 := hd2.length
    simp at e1 e2
    rw [sizeLine_eq]; omega
  refine concat_meets ⟨_, ho, rfl⟩ ⟨_, ho2, rfl⟩ noFill_list_add seq_list_add PySem.F.slot_list_add PySem.F.entry_list_add (PySem.F.args_list_add_2 _ _) (list_addW a b vs ws n n2 none none #[] #[] hz') ⟨ho, ho2, ?_⟩
  have hdd : DenL s.heap (vs ++ ws).toList (l ++ l') := by rw [Array.toList_append]; exact hd.append hd2
  obtain ⟨S', hn⟩ := S.new hdd
  exact hQ _ _ _ _ (h _ hn) (.ref _) ⟨S', .push _, rfl⟩
theorem len_l {a : Addr} {l : List PV} {Φ : PV → Sig → Prop} (ha : σ a = some l) (h : Φ (.int l.length) σ) (hz : l.length ≤ 16777216) : CallP f k (.builtin "len") [.ref a] ρ σ Φ := fun s v rm S d Q E hQ => by
  obtain ⟨v1, rfl, d1⟩ := d.one
  cases d1
  obtain ⟨vs, ⟨n, ho⟩, hd, _⟩ := S.lst a l ha
  have e := hd.length
  simp at e
  refine len_list ⟨_, ho, rfl, _, rfl⟩ (by rw [e]; omega) ?_
  rw [e]
  exact hQ _ _ _ _ h (.int _ _) (.toks S)
theorem len_t {l : List PV} {Φ : PV → Sig → Prop} (h : Φ (.int l.length) σ) (hz : l.length ≤ 16777216) : CallP f k (.builtin "len") [.tup l] ρ σ Φ := fun s v rm S d Q E hQ => by
  obtain ⟨v1, rfl, d1⟩ := d.one
  obtain ⟨t, vs, rfl, ht, hd⟩ := d1.toTup
  have e := hd.length
  simp at e
  refine len_tuple ht (by rw [e]; omega) ?_
  rw [e]
  exact hQ _ _ _ _ h (.int _ _) (.toks S)

theorem lis_update {h : Heap} {a : Addr} {vs ws : Array Value} {n : Nat} (ho : h.get? a = some (listOf vs n)) (g : Array Value → Array Value) (e : g vs = ws) : LIs (h.update a (Obj.mapSeq g)) a ws := by
  have q := PySem.IsL.update ho g
  rw [e] at q
  exact ⟨_, q⟩
theorem append_l {a : Addr} {l : List PV} {p : PV} {Φ : PV → Sig → Prop} (ha : σ a = some l) (hz : l.length ≤ 16777216) (h : Φ .none (upd σ a (l ++ [p]))) : CallP f k (.builtin "list.append") [.ref a, p] ρ σ Φ := fun s v rm S d Q E hQ => by
  obtain ⟨v1, v2, rfl, d1, d3⟩ := d.two
  cases d1
  obtain ⟨vs, ⟨n, ho⟩, hd, _⟩ := S.lst a l ha
  refine append_at (n := n) ho (fun h' hs ho' => ?_) (by have e := hd.length; simp at e; rw [sizeLine_eq]; omega)
  have tx : TExt s.heap h' := .but hs.extBut (S.notTup ha)
  exact hQ _ _ _ _ h .none ⟨S.set ha hs.extBut ⟨_, ho'⟩ (by rw [Array.toList_push]; exact (hd.mono tx).append (.cons (d3.mono tx) .nil)), tx, rfl⟩
theorem pop_l {a : Addr} {l : List PV} {p : PV} {Φ : PV → Sig → Prop} (ha : σ a = some (l ++ [p])) (hz : l.length < 16777216) (h : Φ p (upd σ a l)) : CallP f k (.builtin "list.pop") [.ref a] ρ σ Φ := fun s v rm S d Q E hQ => by
  obtain ⟨v1, rfl, d1⟩ := d.one
  cases d1
  obtain ⟨vs, ⟨n, ho⟩, hd, _⟩ := S.lst a _ ha
  have e := hd.length
  simp at e
  obtain ⟨y, hy, dy⟩ := hd.at (i := l.length) (p := p) (by simp)
  have hy' : vs[vs.size - 1]? = some y := by rw [e, Nat.add_sub_cancel]; simpa using hy
  refine call_meets PySem.F.slot_list_pop ⟨_, ho, rfl⟩ PySem.F.entry_list_pop (PySem.F.args_list_pop_1 _) (PySem.MeetsSeq.list_pop_last a vs n y hy' (by rw [sizeLine_eq]; omega)) ⟨ho, ?_⟩
  have hs := Heap.SameBut.update s.heap a (Obj.mapSeq fun xs => xs.eraseIdxIfInBounds (vs.size - 1))
  have tx : TExt s.heap _ := .but hs.extBut (S.notTup ha)
  have hlt : vs.size - 1 < vs.size := by omega
  have q : (vs.eraseIdxIfInBounds (vs.size - 1)).toList = vs.toList.take l.length := by
    unfold Array.eraseIdxIfInBounds
    rw [dif_pos hlt, Array.toList_eraseIdx, List.eraseIdx_eq_take_drop_succ]
    have : vs.size - 1 + 1 = vs.toList.length := by simp; omega
    rw [this, List.drop_length, List.append_nil, e, Nat.add_sub_cancel]
  refine hQ _ _ _ _ h (dy.mono tx) ⟨S.set ha hs.extBut (lis_update ho _ rfl) ?_, tx, rfl⟩
  rw [q]
  refine (DenL.of_get ?_ fun i v p' e1 e2 => ?_).mono tx
  · simp; omega
  · have hi : i < l.length := (List.getElem?_eq_some_iff.mp e2).1
    rw [List.getElem?_take_of_lt hi] at e1
    exact hd.get i v p' e1 (by rw [List.getElem?_append_left hi]; exact e2)
theorem pop0_l {a : Addr} {l : List PV} {p : PV} {Φ : PV → Sig → Prop} (ha : σ a = some (p :: l)) (hz : l.length < 16777216) (h : Φ p (upd σ a l)) : CallP f k (.builtin "list.pop") [.ref a, .int 0] ρ σ Φ := fun s v rm S d Q E hQ => by
  obtain ⟨v1, v2, rfl, d1, d3⟩ := d.two
  cases d1; cases d3
  obtain ⟨vs, ⟨n, ho⟩, hd, _⟩ := S.lst a _ ha
  obtain ⟨vs⟩ := vs
  obtain ⟨y, ys, rfl, dy, dl⟩ : ∃ y ys, vs = y :: ys ∧ Den s.heap y p ∧ DenL s.heap ys l := by cases hd with | cons dy dl => exact ⟨_, _, rfl, dy, dl⟩
  have e := dl.length
  refine call_meets PySem.F.slot_list_pop ⟨_, ho, rfl⟩ PySem.F.entry_list_pop (PySem.F.args_list_pop_2 _ _) (PySem.MeetsSeq.list_pop_at a _ n 0 _ 0 y (by decide) ?_ rfl (by rw [sizeLine_eq]; simp; omega)) ⟨ho, ?_⟩
  · exact seqIndex_of (by decide) (by simp)
  have hs := Heap.SameBut.update s.heap a (Obj.mapSeq fun xs => xs.eraseIdxIfInBounds 0)
  have tx : TExt s.heap _ := .but hs.extBut (S.notTup ha)
  have q : ((y :: ys).toArray.eraseIdxIfInBounds 0).toList = ys := by
    unfold Array.eraseIdxIfInBounds
    rw [dif_pos (by simp), Array.toList_eraseIdx]; rfl
  refine hQ _ _ _ _ h (dy.mono tx) ⟨S.set ha hs.extBut (lis_update ho _ rfl) ?_, tx, rfl⟩
  rw [q]; exact dl.mono tx
theorem extend_l {a b : Addr} {l l' : List PV} {Φ : PV → Sig → Prop} (ha : σ a = some l) (hb : σ b = some l') (hz : l.length + l'.length ≤ 16777216) (h : Φ .none (upd σ a (l ++ l'))) : CallP f k (.builtin "list.extend") [.ref a, .ref b] ρ σ Φ := fun s v rm S d Q E hQ => by
  obtain ⟨v1, v2, rfl, d1, d3⟩ := d.two
  cases d1; cases d3
  obtain ⟨vs, ⟨n, ho⟩, hd, _⟩ := S.lst a l ha
  obtain ⟨ws, ⟨n2, ho2⟩, hd2, _⟩ := S.lst b l' hb
  have e1 := hd.length; have e2 := hd2.length
  simp at e1 e2
  refine call_meets PySem.F.slot_list_extend ⟨_, ho, rfl⟩ PySem.F.entry_list_extend (PySem.F.args_list_extend_2 _ _) (PySem.AutoSeq1.list_extend_list_list_0 a vs n b ws n2 ?_ (by rw [sizeLine_eq]; omega) (by rw [sizeLine_eq]; omega)) ⟨ho, ho2, ?_⟩
  · intro hc
    rw [Bool.and_eq_true] at hc
    have := hc.2
    unfold Builtin.List.listTooLong at this
    have := of_decide_eq_true this
    rw [sizeLine_eq] at this; omega
  have hs := Heap.SameBut.update s.heap a (Obj.mapSeq fun xs => xs ++ ws)
  have tx : TExt s.heap _ := .but hs.extBut (S.notTup ha)
  refine hQ _ _ _ _ h .none ⟨S.set ha hs.extBut (lis_update ho _ rfl) ?_, tx, rfl⟩
  rw [Array.toList_append]
  exact (hd.append hd2).mono tx
end

/-! ## P4 -/
section
variable {f : Fm} {k : Nat} {ρ : Rho} {σ : Sig}

/-! ### items -/
theorem eval_Subscript' {value slice : Expr} {pos : Pos} {Φ : PV → Sig → Prop} (h : EvalP f k value ρ σ fun a σ₁ => EvalP f k slice ρ σ₁ fun b σ₂ => Op2 f k (subscriptTail value slice) a b ρ σ₂ Φ) : EvalP f k (.Subscript value slice pos) ρ σ Φ :=
  fun s rm S Q E hQ => Subscript_ (h s rm S _ _ fun a s₁ pa σ₁ h₁ da N₁ => h₁ s₁ rm N₁.st _ _ fun b s₂ pb σ₂ h₂ db N₂ =>
    h₂ s₂ a b rm N₂.st (da.mono N₂.ext) db _ _ fun v s₃ q σ₃ hq dq N₃ => hQ v s₃ q σ₃ hq dq (N₁.trans (N₂.trans N₃)))
theorem sub_tup {value slice : Expr} {l : List PV} {i : Int} {p : PV} {Φ : PV → Sig → Prop} (h0 : 0 ≤ i) (hi : i < 16777216) (e : l[i.toNat]? = some p) (h : Φ p σ)
    (hs : ∀ o i, subscripted slice false o i = operate [o, i] (getItem o i) := by intro _ _; rfl) : Op2 f k (subscriptTail value slice) (.tup l) (.int i) ρ σ Φ := fun s v u rm S d d2 Q E hQ => by
  obtain ⟨t, vs, rfl, ht, hd⟩ := d.toTup
  obtain ⟨tk, rfl⟩ := d2.toInt
  obtain ⟨y, hy, dy⟩ := hd.at e
  have hlt : i.toNat < l.length := (List.getElem?_eq_some_iff.mp e).1
  have hl := hd.length
  simp at hl
  exact tail_any ht.typeIs slot_tuple_getitem.lookup (getItem_tuple ht (j := i.toNat) (by omega) (by omega) (seqIndex_of h0 (by omega)) (by simpa using hy) (hQ _ _ _ _ h dy (.refl S))) (hs _ _)
theorem sub_list {value slice : Expr} {a : Addr} {l : List PV} {i : Int} {p : PV} {Φ : PV → Sig → Prop} (ha : σ a = some l) (h0 : 0 ≤ i) (hi : i < 16777216) (e : l[i.toNat]? = some p) (h : Φ p σ)
    (hs : ∀ o i, subscripted slice false o i = operate [o, i] (getItem o i) := by intro _ _; rfl) : Op2 f k (subscriptTail value slice) (.ref a) (.int i) ρ σ Φ := fun s v u rm S d d2 Q E hQ => by
  have := d.toRef; subst this
  obtain ⟨tk, rfl⟩ := d2.toInt
  obtain ⟨vs, ho, hd, _⟩ := S.lst a l ha
  obtain ⟨y, hy, dy⟩ := hd.at e
  exact tail_any ho.isList.typeIs slot_list_getitem.lookup (wpAny_getItem_list ho.isList h0 (by omega) (by simpa using hy) (hQ _ _ _ _ h dy (.refl S))) (hs _ _)
theorem sub_last {value slice : Expr} {a : Addr} {l : List PV} {p : PV} {Φ : PV → Sig → Prop} (ha : σ a = some (l ++ [p])) (hz : l.length < 16777216) (h : Φ p σ)
    (hs : ∀ o i, subscripted slice false o i = operate [o, i] (getItem o i) := by intro _ _; rfl) : Op2 f k (subscriptTail value slice) (.ref a) (.int (-1)) ρ σ Φ := fun s v u rm S d d2 Q E hQ => by
  have := d.toRef; subst this
  obtain ⟨tk, rfl⟩ := d2.toInt
  obtain ⟨vs, ho, hd, _⟩ := S.lst a _ ha
  have hl := hd.length
  simp at hl
  obtain ⟨y, hy, dy⟩ := hd.at (i := l.length) (p := p) (by simp)
  refine tail_any ho.isList.typeIs slot_list_getitem.lookup (wpAny_getItem_list_neg ho.isList (by omega) (by omega) (by omega) ?_ (hQ _ _ _ _ h dy (.refl S))) (hs _ _)
  have : (-1 + (vs.size : Int)).toNat = l.length := by omega
  rw [this]; simpa using hy

/-! ### calls: a name's, a list's method, an own method -/
theorem eval_CallName {x : Str} {px pos : Pos} {e : Expr} {es : List Expr} {fv : Value} {Φ : PV → Sig → Prop} (hv : NameV f x fv) (hk : keepIn f.K fv = true)
    (h : ArgsP f k pos (e :: es) ρ σ fun ps σ₁ => CallP f k fv ps ρ σ₁ Φ)
    (hc : ∀ env, eval (.Call (.Name x px) (e :: es) [] pos) env = (do callWith pos (← eval (.Name x px) env) [] (backTo pos (starEach (e :: es) env)) (backToKw pos (keywordEach [] env))) := by intro _; rfl)
    (he : ∀ env, starEach (e :: es) env = (false, eval e env) :: starEach es env := by intro _; rfl) (hp : ∀ env, (backTo pos (starEach es env)).any (·.1) = false := by intro _; rfl) :
    EvalP f k (.Call (.Name x px) (e :: es) [] pos) ρ σ Φ := fun s rm S Q E hQ =>
  Call_ (hv px ρ σ s rm.ok S _ _ (callWith_K (rm.ok.top.inK S.keep) hk (h s rm S _ _ fun vs s₁ ps σ₁ h₁ ds N₁ =>
    ⟨rm.ok.top.inK N₁.st.keep, h₁ s₁ vs rm N₁.st ds _ _ fun v s₂ q σ₂ hq dq N₂ => hQ v s₂ q σ₂ hq dq (N₁.trans N₂)⟩) (he _) (hp _))) (hc _)
theorem eval_CallBuiltin {x : Str} {px pos : Pos} {e : Expr} {es : List Expr} {id : String} {Φ : PV → Sig → Prop} (hv : NameV f x (.builtin id))
    (h : ArgsP f k pos (e :: es) ρ σ fun ps σ₁ => CallP f k (.builtin id) ps ρ σ₁ Φ)
    (hc : ∀ env, eval (.Call (.Name x px) (e :: es) [] pos) env = (do callWith pos (← eval (.Name x px) env) [] (backTo pos (starEach (e :: es) env)) (backToKw pos (keywordEach [] env))) := by intro _; rfl)
    (he : ∀ env, starEach (e :: es) env = (false, eval e env) :: starEach es env := by intro _; rfl) (hp : ∀ env, (backTo pos (starEach es env)).any (·.1) = false := by intro _; rfl) :
    EvalP f k (.Call (.Name x px) (e :: es) [] pos) ρ σ Φ := fun s rm S Q E hQ =>
  Call_ (hv px ρ σ s rm.ok S _ _ (PyProof.Rows.callWith_builtin1 (h s rm S _ _ fun vs s₁ ps σ₁ h₁ ds N₁ =>
    h₁ s₁ vs rm N₁.st ds _ _ fun v s₂ q σ₂ hq dq N₂ => hQ v s₂ q σ₂ hq dq (N₁.trans N₂)) (he _) (hp _))) (hc _)
theorem eval_CallType {x : Str} {px pos : Pos} {e : Expr} {es : List Expr} {T : String} {Φ : PV → Sig → Prop} (hv : NameV f x (.type T))
    (h : ArgsP f k pos (e :: es) ρ σ fun ps σ₁ => CallP f k (.type T) ps ρ σ₁ Φ)
    (hc : ∀ env, eval (.Call (.Name x px) (e :: es) [] pos) env = (do callWith pos (← eval (.Name x px) env) [] (backTo pos (starEach (e :: es) env)) (backToKw pos (keywordEach [] env))) := by intro _; rfl)
    (he : ∀ env, starEach (e :: es) env = (false, eval e env) :: starEach es env := by intro _; rfl) (hp : ∀ env, (backTo pos (starEach es env)).any (·.1) = false := by intro _; rfl) :
    EvalP f k (.Call (.Name x px) (e :: es) [] pos) ρ σ Φ := fun s rm S Q E hQ =>
  Call_ (hv px ρ σ s rm.ok S _ _ (PyProof.Rows.callWith_type1 (h s rm S _ _ fun vs s₁ ps σ₁ h₁ ds N₁ =>
    h₁ s₁ vs rm N₁.st ds _ _ fun v s₂ q σ₂ hq dq N₂ => hQ v s₂ q σ₂ hq dq (N₁.trans N₂)) (he _) (hp _))) (hc _)

abbrev MethForm (env : Env) (o : Expr) (name : Str) (apos pos : Pos) (args : List Expr) : Prop := ∃ pl, eval (.Call (.Attribute o name apos) args [] pos) env = (do
      let ov ← eval o env
      standAt apos.atName
      let (g, first) ← holding [ov] (getMethod ov name pl)
      callWith pos g first (backTo pos (starEach args env)) [])
theorem getMethod_lis {name : Str} {id : String} {pl : Sem Bool} {a : Addr} {vs : Array Value} {prog : Program} {w : World} {A : Around} {s : Shared} {Q : Value × List Value → Shared → Prop} {E : Value → Shared → Prop} (slot : Slot "list" name id)
    (hty : typeOf (.builtin id) = pure (.type "method_descriptor")) (hl : LIs s.heap a vs) (h : Q (.builtin id, [.ref a]) s) : wpAny (model prog w) A (getMethod (.ref a) name pl) Q E s :=
  getMethod_list_of slot hty hl.isList (let ⟨n, e⟩ := hl; ⟨_, e, rfl⟩) h
theorem eval_ListMeth {o : Expr} {name : Str} {id : String} {apos pos : Pos} {e : Expr} {es : List Expr} {Φ : PV → Sig → Prop} (slot : Slot "list" name id) (hty : typeOf (.builtin id) = pure (.type "method_descriptor"))
    (h : EvalP f k o ρ σ fun p σ₁ => ∃ a l, p = .ref a ∧ σ₁ a = some l ∧ ArgsP f k pos (e :: es) ρ σ₁ fun ps σ₂ => CallP f k (.builtin id) (.ref a :: ps) ρ σ₂ Φ)
    (hm : MethForm f.env o name apos pos (e :: es))
    (he : ∀ env, starEach (e :: es) env = (false, eval e env) :: starEach es env := by intro _; rfl) (hp : ∀ env, (backTo pos (starEach es env)).any (·.1) = false := by intro _; rfl) :
    EvalP f k (.Call (.Attribute o name apos) (e :: es) [] pos) ρ σ Φ := fun s rm S Q E hQ => by
  obtain ⟨pl, hm⟩ := hm
  refine MethodCall_ (pl := pl) (h s rm S _ _ fun v s₁ p σ₁ h₁ d N₁ => ?_) hm
  obtain ⟨a, l, rfl, ha, h₂⟩ := h₁
  have := d.toRef; subst this
  obtain ⟨vs, ho, _⟩ := N₁.st.lst a l ha
  refine getMethod_lis slot hty ho (callWith_method1 (h₂ s₁ rm N₁.st _ _ fun vs s₂ ps σ₂ h₃ ds N₂ => ?_) (he _) (hp _))
  exact h₃ s₂ _ rm N₂.st (.cons (.ref a) ds) _ _ fun v s₃ q σ₃ hq dq N₃ => hQ v s₃ q σ₃ hq dq (N₁.trans (N₂.trans N₃))
theorem eval_ListMeth0 {o : Expr} {name : Str} {id : String} {apos pos : Pos} {Φ : PV → Sig → Prop} (slot : Slot "list" name id) (hty : typeOf (.builtin id) = pure (.type "method_descriptor"))
    (h : EvalP f k o ρ σ fun p σ₁ => ∃ a l, p = .ref a ∧ σ₁ a = some l ∧ CallP f k (.builtin id) [.ref a] ρ σ₁ Φ)
    (hm : MethForm f.env o name apos pos []) :
    EvalP f k (.Call (.Attribute o name apos) [] [] pos) ρ σ Φ := fun s rm S Q E hQ => by
  obtain ⟨pl, hm⟩ := hm
  refine MethodCall_ (pl := pl) (h s rm S _ _ fun v s₁ p σ₁ h₁ d N₁ => ?_) hm
  obtain ⟨a, l, rfl, ha, h₂⟩ := h₁
  have := d.toRef; subst this
  obtain ⟨vs, ho, _⟩ := N₁.st.lst a l ha
  refine getMethod_lis slot hty ho (callWith_method0 ?_)
  exact h₂ s₁ _ rm N₁.st (.cons (.ref a) .nil) _ _ fun v s₂ q σ₂ hq dq N₂ => hQ v s₂ q σ₂ hq dq (N₁.trans N₂)

/-- the object x of class C holds one attribute, nm, with value v, and stays so -/
structure SelfAt (base : Addr → Option Obj) (x d C : Addr) (nm : Str) (v : Value) : Prop where
  inst : base x = some (instObj C d)
  dict : ∃ hs tk n, base d = some (dictOf [⟨hs, .str nm tk, v⟩] n)
theorem SelfAt.up {base base' : Addr → Option Obj} {x d C : Addr} {nm : Str} {v : Value} (I : SelfAt base x d C nm v) (h : ∀ b o, base b = some o → base' b = some o) : SelfAt base' x d C nm v :=
  ⟨h _ _ I.inst, let ⟨hs, tk, n, e⟩ := I.dict; ⟨hs, tk, n, h _ _ e⟩⟩
theorem SelfAt.instAt {x d C : Addr} {nm : Str} {v : Value} (I : SelfAt f.base x d C nm v) {h : Heap} (S : St f ρ σ h) : ∃ hs tk n, InstAt h x (instObj C d) C (some (dictOf [⟨hs, .str nm tk, v⟩] n)) :=
  let ⟨hs, tk, n, e⟩ := I.dict
  ⟨hs, tk, n, S.keep _ _ I.inst, rfl, rfl, S.keep _ _ e⟩
theorem eval_SelfMeth {o : Expr} {x d C fa : Addr} {nm name : Str} {v : Value} {apos pos : Pos} {e : Expr} {es : List Expr} {Φ : PV → Sig → Prop} (I : SelfAt f.base x d C nm v)
    (h : EvalP f k o ρ σ fun p σ₁ => p = .ref x ∧ ArgsP f k pos (e :: es) ρ σ₁ fun ps σ₂ => CallP f k (.ref fa) (.ref x :: ps) ρ σ₂ Φ)
    (hg : plainGet f.K C name = true) (hf : findIn f.K (.ref C) name = some (some (.ref fa))) (ht : isFn f.K (.ref fa) = true) (hn : ∀ hs tk, getL name [⟨hs, .str nm tk, v⟩] = some none) (hk : keepIn f.K (.ref fa) = true)
    (hm : MethForm f.env o name apos pos (e :: es))
    (he : ∀ env, starEach (e :: es) env = (false, eval e env) :: starEach es env := by intro _; rfl) (hp : ∀ env, (backTo pos (starEach es env)).any (·.1) = false := by intro _; rfl) :
    EvalP f k (.Call (.Attribute o name apos) (e :: es) [] pos) ρ σ Φ := fun s rm S Q E hQ => by
  obtain ⟨pl, hm⟩ := hm
  refine MethodCall_ (pl := pl) (h s rm S _ _ fun v s₁ p σ₁ h₁ d N₁ => ?_) hm
  obtain ⟨rfl, h₂⟩ := h₁
  have := d.toRef; subst this
  obtain ⟨hs, tk, n, IA⟩ := I.instAt N₁.st
  have X := rm.ok.top.inK N₁.st.keep
  refine method_fn X IA (plainGet_of hg).1 (plainGet_of hg).2 hf (beq_iff_eq.mp ht) (by show (lookIn name (dictOf _ n)).map _ = _; rw [lookIn_dict, hn]; rfl) ?_
  refine callWith_K X hk (h₂ s₁ rm N₁.st _ _ fun vs s₂ ps σ₂ h₃ ds N₂ => ⟨rm.ok.top.inK N₂.st.keep, ?_⟩) (he _) (hp _)
  exact h₃ s₂ _ rm N₂.st (.cons (.ref x) ds) _ _ fun v s₃ q σ₃ hq dq N₃ => hQ v s₃ q σ₃ hq dq (N₁.trans (N₂.trans N₃))
theorem eval_SelfAttr {o : Expr} {x d C a : Addr} {nm : Str} {pos : Pos} {Φ : PV → Sig → Prop} {attr : Option Value} (I : SelfAt f.base x d C nm (.ref a))
    (h : EvalP f k o ρ σ fun p σ₁ => p = .ref x ∧ Φ (.ref a) σ₁)
    (hg : plainGet f.K C nm = true) (hh : hasDictIn f.K C = true) (ha : findIn f.K (.ref C) nm = some attr) (hn : noGet f.K attr = true) (hl : ∀ hs tk, getL nm [⟨hs, .str nm tk, .ref a⟩] = some (some (.ref a))) (hv : handedIn (.ref a) = true)
    (he : eval (.Attribute o nm pos) f.env = (do
      let o' ← eval o f.env
      standAt pos.atName
      let r ← holding [o'] (getAttr o' nm true)
      letTemporaryGo o o' r
      pure r)) : EvalP f k (.Attribute o nm pos) ρ σ Φ := fun s rm S Q E hQ => by
  refine Attribute_any_ (h s rm S _ _ fun v s₁ p σ₁ h₁ d N₁ => ?_) he
  obtain ⟨rfl, h₂⟩ := h₁
  have := d.toRef; subst this
  obtain ⟨hs, tk, n, IA⟩ := I.instAt N₁.st
  exact get_value (rm.ok.top.inK N₁.st.keep) IA (plainGet_of hg).1 (findObj_own hh ha hn (hl _ _)) hv (hQ _ _ _ _ h₂ (.ref a) (N₁.trans (.toks N₁.st)))

/-! ### stores -/
theorem set_list {a : Addr} {l : List PV} {i : Int} {p : PV} {s : Shared} {v iv : Value} {Q : Unit → Shared → Prop} {E : Value → Shared → Prop} (S : St f ρ σ s.heap) (ha : σ a = some l) (h0 : 0 ≤ i) (hi : i < l.length) (hz : l.length ≤ 16777216)
    (d : Den s.heap v p) (di : Den s.heap iv (.int i)) (h : ∀ s', Nx f ρ (upd σ a (l.set i.toNat p)) s s' → Q () s') : wpAny (model f.prog f.w) f.A (setItem (.ref a) iv v) Q E s := by
  obtain ⟨tk, rfl⟩ := di.toInt
  obtain ⟨vs, ⟨n, ho⟩, hd, h3, h4⟩ := S.lst a l ha
  have hl := hd.length
  simp at hl
  refine ki_setAt ho h0 (by omega) (by omega) (h _ ?_)
  have hs := Heap.SameBut.update s.heap a (Obj.mapSeq (·.setIfInBounds i.toNat v))
  have tx : TExt s.heap _ := .but hs.extBut (S.notTup ha)
  refine ⟨S.set ha hs.extBut (lis_update ho _ rfl) ?_, tx, rfl⟩
  rw [Array.toList_setIfInBounds]
  refine (DenL.of_get ?_ fun j v' p' e1 e2 => ?_).mono tx
  · simp [hl]
  · by_cases hj : i.toNat = j
    · subst hj
      have hlt : i.toNat < vs.toList.length := by simp; omega
      have hlt2 : i.toNat < l.length := by omega
      rw [List.getElem?_set_self hlt] at e1
      rw [List.getElem?_set_self hlt2] at e2
      cases e1; cases e2; exact d
    · rw [List.getElem?_set_ne hj] at e1 e2
      exact hd.get j v' p' e1 e2
theorem exec_setsub {o i e : Expr} {px pos : Pos} {Φ : FP → Rho → Sig → Prop}
    (h : EvalP f k e ρ σ fun p σ₁ => EvalP f k o ρ σ₁ fun po σ₂ => EvalP f k i ρ σ₂ fun pi σ₃ => ∃ a l j, po = .ref a ∧ pi = .int j ∧ σ₃ a = some l ∧ 0 ≤ j ∧ j < l.length ∧ l.length ≤ 16777216 ∧ Φ .next ρ (upd σ₃ a (l.set j.toNat p)))
    (hs : swapsWith e (some (.Subscript o i px)) pos.line f.env = pure false) : ExecP f k (.Assign [.Subscript o i px] e pos) ρ σ Φ :=
  fun s rm S Q E hQ => wpAny_Assign_Subscript (h s rm S _ _ fun v s₁ p σ₁ h₁ d₁ N₁ => h₁ s₁ rm N₁.st _ _ fun ov s₂ po σ₂ h₂ d₂ N₂ => h₂ s₂ rm N₂.st _ _ fun iv s₃ pi σ₃ h₃ d₃ N₃ => by
    obtain ⟨a, l, j, rfl, rfl, ha, h0, hi, hz, h₄⟩ := h₃
    have := d₂.toRef; subst this
    exact set_list N₃.st ha h0 hi hz ((d₁.mono N₂.ext).mono N₃.ext) d₃ fun s' N₄ => hQ _ _ _ _ _ h₄ trivial (N₁.trans (N₂.trans (N₃.trans N₄)))) hs
/-- x, y = e: the two stores go from right to left -/
theorem exec_swap2 {x y : Str} {px py tp pos : Pos} {x1 : Nat} {e : Expr} {Φ : FP → Rho → Sig → Prop} (hx : f.env.kindOf x = some .local) (hy : f.env.kindOf y = some .local)
    (h : EvalP f k e ρ σ fun p σ₁ => ∃ a b, p = .tup [a, b] ∧ Φ .next ((x, a) :: (y, b) :: ρ) σ₁)
    (hs : swapsWithSole [.Tuple [.Name x px, .Name y py] x1 tp] e pos.line f.env = pure false)
    (hw : swappedStores [.Tuple [.Name x px, .Name y py] x1 tp] e f.env = pure (some [x, y])) : ExecP f k (.Assign [.Tuple [.Name x px, .Name y py] x1 tp] e pos) ρ σ Φ :=
  fun s rm S Q E hQ => Assign_Tuple_swapped (names := [x, y]) (h s rm S _ _ fun v s₁ p σ₁ h₁ d N₁ => by
    obtain ⟨a, b, rfl, h₂⟩ := h₁
    obtain ⟨t, vs, rfl, ht, hd⟩ := d.toTup
    obtain ⟨va, vb, e2, da, db⟩ := hd.two
    obtain ⟨vs⟩ := vs
    simp only at e2; subst e2
    refine wpAny_unpackItems_tuple (items := #[va, vb]) rm.ok.handled ht fun h' hx' => ?_
    have S' : St f ρ σ₁ h' := N₁.st.fresh hx' (get_size_none _)
    have tx : TExt s₁.heap h' := .of_all fun b o eb => hx' b o (fun q => by rw [q, get_size_none] at eb; cases eb) eb
    refine wpAny_assignInOrder_more (wpAny_bindName (storeP (s := { s₁ with heap := h' }) rm.ok hy S' (db.mono tx) fun s₂ N₂ => ?_))
    refine wpAny_assignInOrder_more (wpAny_bindName (storeP rm.ok hx N₂.st ((da.mono tx).mono N₂.ext) fun s₃ N₃ => ?_))
    exact wpAny_pure (hQ _ _ _ _ _ h₂ trivial (N₁.trans ((Nx.mk (f := f) S' tx (Same.mk (t := s₁.toks))).trans (N₂.trans N₃))))) hs hw

/-! ### loops -/
theorem St.but {a : Addr} {h h' : Heap} (S : St f ρ σ h) (hx : Heap.ExtBut a h h') (hb : f.base a = none) (hL : a ≠ f.L) (hs : σ a = none) (ht : ∀ vs, ¬ IsTup h a vs) : St f ρ σ h' ∧ TExt h h' := by
  have tx := TExt.but hx ht
  refine ⟨⟨fun b o e => hx b o (fun q => by rw [q, hb] at e; cases e) (S.keep b o e), ?_, fun b l e => ?_⟩, tx⟩
  · obtain ⟨m, hn, hm⟩ := S.loc
    exact ⟨m, hn.extBut hx (Ne.symm hL), fun x p e => let ⟨v, q1, q2⟩ := hm x p e; ⟨v, q1, q2.mono tx⟩⟩
  · obtain ⟨vs, ⟨n, h1⟩, h2, h3, h4⟩ := S.lst b l e
    exact ⟨vs, ⟨n, hx b _ (fun q => by rw [q, hs] at e; cases e) h1⟩, h2.mono tx, h3, h4⟩
abbrev Fm.with (f : Fm) (base : Addr → Option Obj) : Fm := { f with base := base }
theorem iter_notTup {h : Heap} {it l : Addr} {i : Nat} (x : h.IsListIter it l i) : ∀ vs, ¬ IsTup h it vs := by
  rintro vs ⟨o', ho', hc', _⟩
  obtain ⟨o, ho, hc, _⟩ := x
  rw [ho] at ho'; cases ho'
  rw [hc] at hc'; injection hc' with q; exact absurd q (by decide)
theorem iter_notList {h : Heap} {it l : Addr} {i : Nat} (x : h.IsListIter it l i) : ∀ vs, ¬ LIs h it vs := by
  rintro vs ⟨n, ho'⟩
  obtain ⟨o, ho, hc, _⟩ := x
  rw [ho] at ho'; cases ho'
  injection hc with q; exact absurd q (by decide)
theorem St.pin {it : Addr} {o : Obj} {h : Heap} (S : St f ρ σ h) (ho : h.get? it = some o) (hs : σ it = none) : St (f.with fun b => if b = it then some o else f.base b) ρ σ h := by
  refine ⟨fun b ob e => ?_, S.loc, fun a l e => ?_⟩
  · have e' : (if b = it then some o else f.base b) = some ob := e
    by_cases q : b = it
    · rw [if_pos q] at e'; cases e'; rw [q]; exact ho
    · rw [if_neg q] at e'; exact S.keep b ob e'
  · obtain ⟨vs, h1, h2, h3, h4⟩ := S.lst a l e
    refine ⟨vs, h1, h2, ?_, h4⟩
    show (if a = it then some o else f.base a) = none
    rw [if_neg (fun q => by rw [q, hs] at e; cases e)]; exact h3
theorem St.unpin {base : Addr → Option Obj} {h : Heap} (S : St (f.with base) ρ σ h) (hb : ∀ b o, f.base b = some o → base b = some o) : St f ρ σ h :=
  ⟨fun b o e => S.keep b o (hb b o e), S.loc, fun a l e => by
    obtain ⟨vs, h1, h2, h3, h4⟩ := S.lst a l e
    refine ⟨vs, h1, h2, ?_, h4⟩
    cases q : f.base a with
    | none => rfl
    | some o => have h3' : base a = none := h3; rw [hb a o q] at h3'; cases h3'⟩
theorem Fm.Ok.with {base : Addr → Option Obj} (ok : f.Ok) (hb : ∀ b o, f.base b = some o → base b = some o) (hn : base f.L = none) : (f.with base).Ok :=
  ⟨ok.handled, ok.kind, ok.glob, ok.bi, hn, let ⟨hT, p, loose, mean, mg, mb, T, X, up⟩ := ok.top; ⟨hT, p, loose, mean, mg, mb, T, X, fun b o e => hb b o (up b o e)⟩⟩

theorem frel_cases {h : Heap} {fl : Flow} {q : FP} (r : FRel h fl q) : (fl = .next ∧ q = .next) ∨ (fl = .cont ∧ q = .cont) ∨ (fl = .brk ∧ q = .brk) ∨ ∃ v p, fl = .ret v ∧ q = .ret p := by
  cases fl <;> cases q <;> first | exact r.elim | skip
  · exact .inl ⟨rfl, rfl⟩
  · exact .inr (.inr (.inl ⟨rfl, rfl⟩))
  · exact .inr (.inl ⟨rfl, rfl⟩)
  · exact .inr (.inr (.inr ⟨_, _, rfl, rfl⟩))
/-- base, and o at place a -/
def pinOne (base : Addr → Option Obj) (a : Addr) (o : Obj) : Addr → Option Obj := fun b => if b = a then some o else base b
/-- where a loop over a list stands -/
def ForAt (f : Fm) (l : List PV) (a it : Addr) (s₁ : Shared) (J : Nat → Rho → Sig → Prop) (n : Nat) (s₂ : Shared) : Prop :=
  ∃ i ρ' σ', i ≤ l.length ∧ n = l.length - i ∧ J i ρ' σ' ∧ St f ρ' σ' s₂.heap ∧ s₂.heap.IsListIter it a i ∧ TExt s₁.heap s₂.heap ∧ Same s₁ s₂
theorem exec_For_list {x : Str} {px pos : Pos} {iter : Expr} {body : List Stmt} {Φ : FP → Rho → Sig → Prop} (hx : f.env.kindOf x = some .local)
    (h : EvalP f k iter ρ σ fun p σ₁ => ∃ a l, p = .ref a ∧ σ₁ a = some l ∧ ∃ J : Nat → Rho → Sig → Prop, J 0 ρ σ₁ ∧ (∀ i ρ' σ', J i ρ' σ' → σ' a = some l) ∧
      (∀ base', (∀ b o, f.base b = some o → base' b = some o) → ∀ i p ρ' σ', l[i]? = some p → J i ρ' σ' → ExecsP (f.with base') k body ((x, p) :: ρ') σ' fun q ρ₂ σ₂ => match q with | .next | .cont => J (i + 1) ρ₂ σ₂ | .brk => Φ .next ρ₂ σ₂ | .ret r => Φ (.ret r) ρ₂ σ₂) ∧
      ∀ ρ' σ', J l.length ρ' σ' → Φ .next ρ' σ')
    (hf : ∀ env y, foldedSetIterable iter env y = pure y) : ExecP f k (.For (.Name x px) iter body [] pos) ρ σ Φ := fun s rm S Q E hQ => by
  refine wpAny_For (h s rm S _ _ fun v s₁ p σ₁ h₁ d N₁ => ?_) (hf _)
  obtain ⟨a, l, rfl, ha, J, hJ0, hJa, turn, done⟩ := h₁
  have := d.toRef; subst this
  obtain ⟨vs, ho, hd, _, _⟩ := N₁.st.lst a l ha
  refine wpAny_pyIter_list ho.isList ?_
  have hsz := hd.length
  simp at hsz
  let it := s₁.heap.objs.size
  let oit : Obj := { cls := .type "list_iterator", data := .fields #[.ref a, .int 0 0] }
  have hbit : f.base it = none := by
    cases e : f.base it with
    | none => rfl
    | some o => have := N₁.st.keep _ _ e; rw [get_size_none] at this; cases this
  have hLit : it ≠ f.L := fun e => by
    obtain ⟨m, hn, _⟩ := N₁.st.loc
    exact absurd (e ▸ hn.lt) (Nat.lt_irrefl _)
  refine codeAny_forLoop (ForAt f l a it s₁ J) ?_ (l.length) ⟨0, ρ, σ₁, Nat.zero_le _, rfl, hJ0, N₁.st.push _, ⟨oit, Heap.get?_push_size _ rfl, rfl, rfl⟩, .push _, rfl⟩
  rintro n s₂ ⟨i, ρ', σ', hi, rfl, hJ, S₂, hit, tx, sm⟩
  have ha2 := hJa _ _ _ hJ
  obtain ⟨vs₂, ho₂, hd₂, _, _⟩ := S₂.lst a l ha2
  have hsz₂ := hd₂.length
  simp at hsz₂
  have hsit : σ' it = none := by
    cases e : σ' it with
    | none => rfl
    | some l' => obtain ⟨ws, hw, _⟩ := S₂.lst _ _ e; exact absurd hw (iter_notList hit ws)
  by_cases hlt : i < l.length
  · obtain ⟨y, hy, dy⟩ := hd₂.at (i := i) (p := l[i]) (by simp [hlt])
    refine wpAny_pyNext_list_item hit ho₂.isList (x := y) (by simpa using hy) fun h' hit' hs' => ?_
    obtain ⟨S₃, tx₃⟩ := S₂.but hs'.extBut hbit hLit hsit (iter_notTup hit)
    obtain ⟨o', hob, hoc, hod⟩ := id hit'
    have up : ∀ b o, f.base b = some o → pinOne f.base it o' b = some o := fun b o e => by
      unfold pinOne; rw [if_neg (fun q => by rw [q, hbit] at e; cases e)]; exact e
    have S₄ : St (f.with (pinOne f.base it o')) ρ' σ' h' := S₃.pin hob hsit
    have ok' : (f.with (pinOne f.base it o')).Ok := rm.ok.with up (by show (if f.L = it then some o' else f.base f.L) = none; rw [if_neg (Ne.symm hLit)]; exact rm.ok.new)
    refine wpAny_assign_Name (storeP (f := f.with (pinOne f.base it o')) (s := { s₂ with heap := h' }) ok' hx S₄ (dy.mono tx₃) fun s₄ N₄ => ?_)
    refine turn _ up i l[i] ρ' σ' (by simp [hlt]) hJ s₄ ⟨ok', rm.depth, rm.units⟩ N₄.st _ _ fun fl s₅ q ρ₂ σ₂ hq hr N₅ => ?_
    have S₅ : St f ρ₂ σ₂ s₅.heap := N₅.st.unpin up
    have hit₅ : s₅.heap.IsListIter it a (i + 1) := ⟨o', N₅.st.keep it o' (if_pos rfl), hoc, hod⟩
    have tx₅ : TExt s₁.heap s₅.heap := tx.trans (tx₃.trans (N₄.ext.trans N₅.ext))
    have sm₅ : Same s₁ s₅ := sm.trans (Same.trans (s₂ := { s₂ with heap := h' }) rfl (N₄.same.trans N₅.same))
    have NN : Nx f ρ₂ σ₂ s s₅ := N₁.trans ⟨S₅, tx₅, sm₅⟩
    have hlt' : l.length - (i + 1) < l.length - i := Nat.sub_succ_lt_self _ _ hlt
    rcases frel_cases hr with ⟨rfl, rfl⟩ | ⟨rfl, rfl⟩ | ⟨rfl, rfl⟩ | ⟨_, _, rfl, rfl⟩
    · exact ⟨_, hlt', i + 1, ρ₂, σ₂, hlt, rfl, hq, S₅, hit₅, tx₅, sm₅⟩
    · exact ⟨_, hlt', i + 1, ρ₂, σ₂, hlt, rfl, hq, S₅, hit₅, tx₅, sm₅⟩
    · exact hQ _ _ _ _ _ hq trivial NN
    · exact hQ _ _ _ _ _ hq hr NN
  · have hil : i = l.length := Nat.le_antisymm hi (Nat.le_of_not_lt hlt)
    subst hil
    refine wpAny_pyNext_list_end rm.ok.handled hit ho₂.isList (by simp; omega) fun h' hx' => ?_
    obtain ⟨S₃, tx₃⟩ := S₂.but hx' hbit hLit hsit (iter_notTup hit)
    exact wpAny_execs_nil (hQ _ _ _ _ _ (done _ _ hJ) trivial (N₁.trans ⟨S₃, tx.trans tx₃, sm.trans rfl⟩))

theorem exec_While' {t : Expr} {body : List Stmt} {pos : Pos} {Φ : FP → Rho → Sig → Prop} (J : Nat → Rho → Sig → Prop) (n : Nat) (h0 : J n ρ σ)
    (turn : ∀ n ρ' σ', J n ρ' σ' → TestP f k t ρ' σ' fun c σ₁ => (c = true → ExecsP f k body ρ' σ₁ fun q ρ₂ σ₂ => match q with | .next | .cont => ∃ m, m < n ∧ J m ρ₂ σ₂ | .brk => Φ .next ρ₂ σ₂ | .ret r => Φ (.ret r) ρ₂ σ₂) ∧ (c = false → Φ .next ρ' σ₁)) :
    ExecP f k (.While t body [] pos) ρ σ Φ := fun s rm S Q E hQ => by
  refine wpAny_While (codeAny_whileLoop (fun n s₂ => ∃ ρ' σ', J n ρ' σ' ∧ Nx f ρ' σ' s s₂) ?_ n ⟨ρ, σ, h0, .refl S⟩)
  rintro n s₂ ⟨ρ', σ', hJ, N⟩
  refine turn n ρ' σ' hJ s₂ rm N.st _ _ fun c s₃ σ₁ h₁ N₁ => ?_
  cases c with
  | false => exact wpAny_execs_nil (hQ _ _ _ _ _ (h₁.2 rfl) trivial (N.trans N₁))
  | true =>
    refine h₁.1 rfl s₃ rm N₁.st _ _ fun fl s₄ q ρ₂ σ₂ hq hr N₂ => ?_
    have NN := N.trans (N₁.trans N₂)
    rcases frel_cases hr with ⟨rfl, rfl⟩ | ⟨rfl, rfl⟩ | ⟨rfl, rfl⟩ | ⟨_, _, rfl, rfl⟩
    · obtain ⟨m, hm, hJ'⟩ := hq; exact ⟨m, hm, ρ₂, σ₂, hJ', NN⟩
    · obtain ⟨m, hm, hJ'⟩ := hq; exact ⟨m, hm, ρ₂, σ₂, hJ', NN⟩
    · exact hQ _ _ _ _ _ hq trivial NN
    · exact hQ _ _ _ _ _ hq hr NN
end

/-! ## P5 -/
theorem Nx.sub {f : Fm} {ρ : Rho} {σ σ' : Sig} {s s' : Shared} (x : Nx f ρ σ s s') (hs : ∀ a l, σ' a = some l → σ a = some l) : Nx f ρ σ' s s' := ⟨x.st.sub (fun _ _ e => e) hs, x.ext, x.same⟩
theorem OpL.weaken {f : Fm} {k : Nat} {ρ : Rho} {σ : Sig} {t : List Value → Sem Value} {as : List PV} {Φ Ψ : PV → Sig → Prop} (h : OpL f k t as ρ σ Φ) (hi : ∀ p σ', Φ p σ' → ∃ σ'', Ψ p σ'' ∧ ∀ a l, σ'' a = some l → σ' a = some l) : OpL f k t as ρ σ Ψ :=
  fun s vs rm S d Q E hQ => h s vs rm S d Q E fun v s' q σ' a b c => by
    obtain ⟨σ'', h1, h2⟩ := hi q σ' a
    exact hQ v s' q σ'' h1 b (c.sub h2)
theorem OpL.fuel {f : Fm} {k j : Nat} {ρ : Rho} {σ : Sig} {t : List Value → Sem Value} {as : List PV} {Φ : PV → Sig → Prop} (h : OpL f k t as ρ σ Φ) (hj : k ≤ j) : OpL f j t as ρ σ Φ :=
  fun s vs rm S d Q E hQ => h s vs (rm.le hj) S d Q E hQ
theorem upd_sub {σ : Sig} {b : Addr} {m : List PV} (h : σ b = none) : ∀ a l, σ a = some l → upd σ b m a = some l := fun a l e => by
  rw [upd_ne (fun q => by rw [q, h] at e; cases e)]; exact e

/-- what follows a statement -/
def andThen (env : Env) (sts : List Stmt) (f : Flow) : Sem Flow := match f with | .next => execs sts env | f => pure f
theorem execs_cons_eq (env : Env) (st : Stmt) (sts : List Stmt) : execs (st :: sts) env = exec st env >>= andThen env sts := rfl
theorem execs_append_eq (env : Env) (sts : List Stmt) : ∀ a : List Stmt, execs (a ++ sts) env = execs a env >>= andThen env sts
  | [] => by
    show execs sts env = (pure .next : Sem Flow) >>= andThen env sts
    rw [pure_bind]; rfl
  | st :: a => by
    rw [List.cons_append, execs_cons_eq, execs_cons_eq, bind_assoc]
    congr 1
    funext fl
    cases fl with
    | next => exact execs_append_eq env sts a
    | brk => exact (pure_bind _ _).symm
    | cont => exact (pure_bind _ _).symm
    | ret v => exact (pure_bind _ _).symm

section
variable {f : Fm} {k : Nat} {ρ : Rho} {σ : Sig}
/-! ### statements in a row -/
theorem seq_assign {x : Str} {px pos : Pos} {e : Expr} {sts : List Stmt} {Φ : FP → Rho → Sig → Prop} (hl : f.env.kindOf x = some .local) (h : EvalP f k e ρ σ fun p σ₁ => ExecsP f k sts ((x, p) :: ρ) σ₁ Φ)
    (hs : swapsWith e (some (.Name x px)) pos.line f.env = pure false) : ExecsP f k (.Assign [.Name x px] e pos :: sts) ρ σ Φ := execs_cons' (exec_assign hl h hs)
theorem seq_expr {e : Expr} {pos : Pos} {sts : List Stmt} {Φ : FP → Rho → Sig → Prop} (h : EvalP f k e ρ σ fun _ σ₁ => ExecsP f k sts ρ σ₁ Φ)
    (hi : interactive f.env = false) (hs : swapsWith e none pos.line f.env = pure false) : ExecsP f k (.Expr e pos :: sts) ρ σ Φ := execs_cons' (exec_expr h hi hs)
theorem seq_ret {e : Expr} {pos : Pos} {sts : List Stmt} {Φ : FP → Rho → Sig → Prop} (h : EvalP f k e ρ σ fun p σ₁ => Φ (.ret p) ρ σ₁) : ExecsP f k (.Return (some e) pos :: sts) ρ σ Φ := execs_cons' (exec_ret h)
theorem seq_cont {pos : Pos} {sts : List Stmt} {Φ : FP → Rho → Sig → Prop} (h : Φ .cont ρ σ) : ExecsP f k (.Continue pos :: sts) ρ σ Φ := execs_cons' (exec_cont h)
theorem seq_setsub {o i e : Expr} {px pos : Pos} {sts : List Stmt} {Φ : FP → Rho → Sig → Prop}
    (h : EvalP f k e ρ σ fun p σ₁ => EvalP f k o ρ σ₁ fun po σ₂ => EvalP f k i ρ σ₂ fun pi σ₃ => ∃ a l j, po = .ref a ∧ pi = .int j ∧ σ₃ a = some l ∧ 0 ≤ j ∧ j < l.length ∧ l.length ≤ 16777216 ∧ ExecsP f k sts ρ (upd σ₃ a (l.set j.toNat p)) Φ)
    (hs : swapsWith e (some (.Subscript o i px)) pos.line f.env = pure false) : ExecsP f k (.Assign [.Subscript o i px] e pos :: sts) ρ σ Φ := execs_cons' (exec_setsub h hs)
theorem seq_swap2 {x y : Str} {px py tp pos : Pos} {x1 : Nat} {e : Expr} {sts : List Stmt} {Φ : FP → Rho → Sig → Prop} (hx : f.env.kindOf x = some .local) (hy : f.env.kindOf y = some .local)
    (h : EvalP f k e ρ σ fun p σ₁ => ∃ a b, p = .tup [a, b] ∧ ExecsP f k sts ((x, a) :: (y, b) :: ρ) σ₁ Φ)
    (hs : swapsWithSole [.Tuple [.Name x px, .Name y py] x1 tp] e pos.line f.env = pure false)
    (hw : swappedStores [.Tuple [.Name x px, .Name y py] x1 tp] e f.env = pure (some [x, y])) : ExecsP f k (.Assign [.Tuple [.Name x px, .Name y py] x1 tp] e pos :: sts) ρ σ Φ := execs_cons' (exec_swap2 hx hy h hs hw)
theorem seq_If {t : Expr} {a b sts : List Stmt} {pos : Pos} {Φ : FP → Rho → Sig → Prop} (h : TestP f k t ρ σ fun c σ₁ => (c = true → ExecsP f k (a ++ sts) ρ σ₁ Φ) ∧ (c = false → ExecsP f k (b ++ sts) ρ σ₁ Φ)) : ExecsP f k (.If t a b pos :: sts) ρ σ Φ :=
  fun s rm S Q E hQ => by
    have e : execs (.If t a b pos :: sts) f.env = (do standAt pos; let c ← isTrue t f.env (eval t f.env); if c then execs (a ++ sts) f.env else execs (b ++ sts) f.env) := by
      rw [execs_cons_eq, exec_If, bind_assoc]
      congr 1
      funext _
      rw [bind_assoc]
      congr 1
      funext c
      cases c with
      | true => exact (execs_append_eq f.env sts a).symm
      | false => exact (execs_append_eq f.env sts b).symm
    rw [e]
    refine wpAny_bind (wpAny_standAt (wpAny_bind (h s rm S _ _ fun c s₁ σ₁ h₁ N₁ => ?_)))
    cases c with
    | true => exact h₁.1 rfl s₁ rm N₁.st _ _ fun v s₂ q ρ₂ σ₂ h₂ d N₂ => hQ v s₂ q ρ₂ σ₂ h₂ d (N₁.trans N₂)
    | false => exact h₁.2 rfl s₁ rm N₁.st _ _ fun v s₂ q ρ₂ σ₂ h₂ d N₂ => hQ v s₂ q ρ₂ σ₂ h₂ d (N₁.trans N₂)
theorem seq_For {x : Str} {px pos : Pos} {iter : Expr} {body sts : List Stmt} {Φ : FP → Rho → Sig → Prop} (hx : f.env.kindOf x = some .local)
    (h : EvalP f k iter ρ σ fun p σ₁ => ∃ a l, p = .ref a ∧ σ₁ a = some l ∧ ∃ J : Nat → Rho → Sig → Prop, J 0 ρ σ₁ ∧ (∀ i ρ' σ', J i ρ' σ' → σ' a = some l) ∧
      (∀ base', (∀ b o, f.base b = some o → base' b = some o) → ∀ i p ρ' σ', l[i]? = some p → J i ρ' σ' → ExecsP (f.with base') k body ((x, p) :: ρ') σ' fun q ρ₂ σ₂ => (q = .next ∨ q = .cont) ∧ J (i + 1) ρ₂ σ₂) ∧
      ∀ ρ' σ', J l.length ρ' σ' → ExecsP f k sts ρ' σ' Φ)
    (hf : ∀ env y, foldedSetIterable iter env y = pure y) : ExecsP f k (.For (.Name x px) iter body [] pos :: sts) ρ σ Φ :=
  execs_cons' (exec_For_list hx (h.mono fun p σ₁ ⟨a, l, e1, e2, J, h0, h1, h2, h3⟩ => ⟨a, l, e1, e2, J, h0, h1, fun base' up i p ρ' σ' ei hJ => (h2 base' up i p ρ' σ' ei hJ).mono fun q ρ₂ σ₂ ⟨hq, hJ'⟩ => by
    rcases hq with rfl | rfl <;> exact hJ', h3⟩) hf)
theorem seq_While {t : Expr} {body sts : List Stmt} {pos : Pos} {Φ : FP → Rho → Sig → Prop} (J : Nat → Rho → Sig → Prop) (n : Nat) (h0 : J n ρ σ)
    (turn : ∀ n ρ' σ', J n ρ' σ' → TestP f k t ρ' σ' fun c σ₁ => (c = true → ExecsP f k body ρ' σ₁ fun q ρ₂ σ₂ => (q = .next ∨ q = .cont) ∧ ∃ m, m < n ∧ J m ρ₂ σ₂) ∧ (c = false → ExecsP f k sts ρ' σ₁ Φ)) :
    ExecsP f k (.While t body [] pos :: sts) ρ σ Φ :=
  execs_cons' (exec_While' J n h0 fun n ρ' σ' hJ => fun s rm S Q E hQ => turn n ρ' σ' hJ s rm S Q E fun c s' σ₁ ⟨h1, h2⟩ N => hQ c s' σ₁ ⟨fun hc => (h1 hc).mono fun q ρ₂ σ₂ ⟨hq, hJ'⟩ => by
    rcases hq with rfl | rfl <;> exact hJ', h2⟩ N)
end

/-! ## P6 -/
section
variable {f : Fm} {k : Nat} {ρ : Rho} {σ : Sig}
theorem isi_str {x : Str} {Φ : PV → Sig → Prop} (h : Φ (.bool true) σ) : CallP f k (.builtin "isinstance") [.str x, .ty "str"] ρ σ Φ := fun s v rm S d Q E hQ => by
  obtain ⟨v1, v2, rfl, d1, d2⟩ := d.two
  cases d1; cases d2
  exact IsiPair.str_str (hQ _ _ _ _ h (.bool _) (.refl S))
theorem int_bool {b : Bool} {Φ : PV → Sig → Prop} (h : Φ (.int (if b then 1 else 0)) σ) : CallP f k (.type "int") [.bool b] ρ σ Φ := fun s v rm S d Q E hQ => by
  obtain ⟨v1, rfl, d1⟩ := d.one
  cases d1
  exact call_int_bool (hQ _ _ _ _ h (.int _ _) (.toks S))
theorem eval_ty {x : Str} {T : String} {pos : Pos} {Φ : PV → Sig → Prop} (hv : NameV f x (.type T)) (h : Φ (.ty T) σ) : EvalP f k (.Name x pos) ρ σ Φ := eval_nameV hv (fun _ => .ty T) h
end

/-! ## P7 -/
theorem pick_upto (vs : Array Value) (n : Nat) : slicePick vs none (some (n : Int)) none = (vs.toList.take n).toArray := by
  by_cases h : n ≤ vs.size
  · exact slicePick_upto vs n h
  · rw [slicePick_plain]
    have : clipAt vs.size (n : Int) = vs.size := by unfold clipAt; split <;> omega
    simp only [Option.elim, this, Nat.sub_zero, List.drop_zero]
    rw [List.take_of_length_le (by simp), List.take_of_length_le (by simp; omega)]
theorem DenL.take {h : Heap} {vs : List Value} {ps : List PV} (d : DenL h vs ps) (n : Nat) : DenL h (vs.take n) (ps.take n) := by
  induction d generalizing n with
  | nil => simp; exact .nil
  | cons d1 _ ih => cases n with
    | zero => simp; exact .nil
    | succ n => simp; exact .cons d1 (ih n)
theorem DenL.drop {h : Heap} {vs : List Value} {ps : List PV} (d : DenL h vs ps) (n : Nat) : DenL h (vs.drop n) (ps.drop n) := by
  induction d generalizing n with
  | nil => simp; exact .nil
  | cons d1 d2 ih => cases n with
    | zero => exact .cons d1 d2
    | succ n => simp; exact ih n
section
variable {f : Fm} {k : Nat} {ρ : Rho} {σ : Sig}
theorem eval_SubUpto {value hi : Expr} {sp pos : Pos} {Φ : PV → Sig → Prop}
    (h : EvalP f k value ρ σ fun p σ₁ => ∃ a l, p = .ref a ∧ EvalP f k hi ρ σ₁ fun q σ₂ => ∃ n : Nat, q = .int n ∧ σ₂ a = some l ∧ l.length ≤ 16777216 ∧ ∀ c, σ₂ c = none → Φ (.ref c) (upd σ₂ c (l.take n)))
    (hs : ∀ o i, subscripted (.Slice none (some hi) none sp) false o i = operate [i, o] (getItem o i) := by intro _ _; rfl)
    (ht : ∀ o r, letTemporaryGo value o r = pure () := by intro _ _; rfl) :
    EvalP f k (.Subscript value (.Slice none (some hi) none sp) pos) ρ σ Φ := fun s rm S Q E hQ => by
  refine Subscript_ (h s rm S _ _ fun v s₁ p σ₁ h₁ d N₁ => ?_)
  obtain ⟨a, l, rfl, h₂⟩ := h₁
  have := d.toRef; subst this
  refine wpAny_Slice (wpAny_evalPart_none (wpAny_evalPart_some (h₂ s₁ rm N₁.st _ _ fun u s₂ q σ₂ h₃ d₂ N₂ => wpAny_evalPart_none ?_)))
  obtain ⟨n, rfl, ha, hz, h₄⟩ := h₃
  obtain ⟨t, rfl⟩ := d₂.toInt
  obtain ⟨vs, ho, hd, _⟩ := N₂.st.lst a l ha
  have hl := hd.length
  simp at hl
  refine slice_listK ho.isList .none (.int _ _) ?_ (hs _ _) (ht _) (by rw [sizeLine_eq]; omega)
  rw [pick_upto]
  have Sp := N₂.st.push { cls := .type "slice", data := .fields #[.none, .int n t, .none] }
  obtain ⟨S', hn⟩ := Sp.new (vs := (vs.toList.take n).toArray) (l := l.take n) ((hd.mono (.push _)).take n)
  rw [Heap.size_push] at S' hn
  exact hQ _ _ _ _ (h₄ _ hn) (.ref _) (N₁.trans (N₂.trans ⟨S', (TExt.push _).trans (.push _), rfl⟩))
end

/-! ## P8 -/
/-! ### instances: made, their attributes set -/
def others (h : Heap) (L d : Addr) : List (Addr × Obj) := (List.range h.objs.size).filterMap fun a => if a = L ∨ a = d then none else (h.get? a).map fun o => (a, o)
theorem mem_others {h : Heap} {L d a : Addr} {o : Obj} : (a, o) ∈ others h L d ↔ a ≠ L ∧ a ≠ d ∧ h.get? a = some o := by
  unfold others
  rw [List.mem_filterMap]
  constructor
  · rintro ⟨b, _, e⟩
    by_cases hb : b = L ∨ b = d
    · rw [if_pos hb] at e; cases e
    · rw [if_neg hb] at e
      obtain ⟨o', h1, h2⟩ := Option.map_eq_some_iff.mp e
      cases h2
      exact ⟨fun q => hb (.inl q), fun q => hb (.inr q), h1⟩
  · rintro ⟨h1, h2, h3⟩
    refine ⟨a, List.mem_range.mpr (Heap.lt_size h3), ?_⟩
    rw [if_neg (by rintro (q | q); exact h1 q; exact h2 q), h3]; rfl
theorem empty_get (a : Addr) : ({} : Heap).get? a = none := by
  show (match (#[] : Array Obj)[a]? with | some ⟨_, _, .freed, _⟩ => none | o => o) = none
  rw [Array.getElem?_empty]
theorem fr_empty {h : Heap} {L : Addr} {m : Str → Option Value} (hn : h.Ns L m) : Fr {} L h m := ⟨hn, fun b o e => (by rw [empty_get] at e; cases e), Nat.zero_le _⟩
theorem news_all {h : Heap} {L d : Addr} {od : Obj} (hd : h.get? d = some od) (hL : d ≠ L) : News {} L h ((d, od) :: others h L d) := fun p hp => by
  rcases List.mem_cons.mp hp with rfl | hp
  · exact ⟨hd, hL, empty_get _⟩
  · obtain ⟨a, o⟩ := p
    obtain ⟨h1, h2, h3⟩ := mem_others.mp hp
    exact ⟨h3, h1, empty_get _⟩
theorem setattr_low {prog : Program} {w : World} {A : Around} {E : Value → Shared → Prop} {s : Shared} {K : Frag} {x C dx L : Addr} {m : Str → Option Value} {name : Str} {v : Value} {es : List DictEntry} {n : Nat} {Q : Unit → Shared → Prop}
    (X : K.In s.heap) (hn : s.heap.Ns L m) (hx : s.heap.get? x = some (instObj C dx)) (hd : s.heap.get? dx = some (dictOf es n)) (hL : dx ≠ L)
    (hs : findIn K (.ref C) "__setattr__" = some (some (.builtin "object.__setattr__"))) (hp : plainOver K C = true) (ht : takerIn K C name = some none) (hh : hasDictIn K C = true) (hl : (getL name es).isSome = true) (hz : es.length ≤ 999)
    (h : ∀ h' hs tk, h'.Ns L m → (∀ b o, b ≠ L → b ≠ dx → s.heap.get? b = some o → h'.get? b = some o) → h'.get? dx = some (dictOf (putL name hs (.str name tk) v es) (putN name es n)) → Q () { s with heap := h', toks := s.toks + 2 }) :
    wpAny (model prog w) A (setAttr (.ref x) name v) Q E s := by
  have I : InstAt s.heap x (instObj C dx) C (some (dictOf es n)) := ⟨hx, rfl, rfl, hd⟩
  refine set_plain X I hs (osa_dict (s := { s with toks := s.toks + 1 }) (pre := []) (fr_empty hn) (news_all hd hL) X I rfl hp ht hh hl (fun _ h => by cases h) (fun p hp => (mem_others.mp (show (p.1, p.2) ∈ _ from hp)).2.1) (putName_dict _ _ _ _ _ _) rfl ?_ fun h' F' N' => ?_)
  · have : ∀ es : List DictEntry, (putL name (PyData.keyHash w.params name) (.str name (s.toks + 1)) v es).length ≤ es.length + 1 := by
      intro es
      induction es with
      | nil => simp [putL]
      | cons e r ih => unfold putL; split <;> simp <;> omega
    have := this es
    exact Nat.le_trans this (by omega)
  · exact h h' _ _ F'.ns (fun b o h1 h2 e => (N' (b, o) (.tail _ (mem_others.mpr ⟨h1, h2, e⟩))).1) (N' (dx, _) (.head _)).1

def InitP (f : Fm) (k : Nat) (sts : List Stmt) (ρ : Rho) (σ : Sig) (x C dx : Addr) (es : List DictEntry) (n : Nat) (Φ : Sig → List DictEntry → Nat → Prop) : Prop :=
  ∀ s, f.Room k → St f ρ σ s.heap → f.base dx = none → dx ≠ f.L → s.heap.get? x = some (instObj C dx) → s.heap.get? dx = some (dictOf es n) → ∀ (Q : Flow → Shared → Prop) (E : Value → Shared → Prop),
    (∀ s' σ' es' n', Φ σ' es' n' → Nx f ρ σ' s s' → s'.heap.get? x = some (instObj C dx) → s'.heap.get? dx = some (dictOf es' n') → Q .next s') → wpAny (model f.prog f.w) f.A (execs sts f.env) Q E s
section
variable {f : Fm} {k : Nat} {ρ : Rho} {σ : Sig}
theorem init_nil {x C dx : Addr} {es : List DictEntry} {n : Nat} {Φ : Sig → List DictEntry → Nat → Prop} (h : Φ σ es n) : InitP f k [] ρ σ x C dx es n Φ :=
  fun s rm S _ _ hx hd Q E hQ => wpAny_execs_nil (hQ _ _ _ _ h (.refl S) hx hd)
theorem dict_notTup {h : Heap} {d : Addr} {es : List DictEntry} {n : Nat} (hd : h.get? d = some (dictOf es n)) : ∀ vs, ¬ IsTup h d vs := by
  rintro vs ⟨o, ho, hc, _⟩
  rw [hd] at ho; cases ho
  injection hc with q; exact absurd q (by decide)
theorem dict_notList {h : Heap} {d : Addr} {es : List DictEntry} {n : Nat} (hd : h.get? d = some (dictOf es n)) : ∀ vs, ¬ LIs h d vs := by
  rintro vs ⟨_, ho⟩
  rw [hd] at ho
  have q := congrArg Obj.cls (Option.some.inj ho)
  injection q with q; exact absurd q (by decide)
theorem inst_notList {h : Heap} {x C d : Addr} (hx : h.get? x = some (instObj C d)) : ∀ vs, ¬ LIs h x vs := by
  rintro vs ⟨_, ho⟩
  rw [hx] at ho; cases ho
theorem St.noList {a : Addr} {h : Heap} (S : St f ρ σ h) (hn : ∀ vs, ¬ LIs h a vs) : σ a = none := by
  cases e : σ a with
  | none => rfl
  | some l => obtain ⟨vs, h1, _⟩ := S.lst a l e; exact absurd h1 (hn vs)
theorem init_attr {x C dx : Addr} {o e : Expr} {nm : Str} {ap pos : Pos} {sts : List Stmt} {es : List DictEntry} {n : Nat} {Φ : Sig → List DictEntry → Nat → Prop}
    (he : ∀ base', (∀ b o, f.base b = some o → base' b = some o) → EvalP (f.with base') k e ρ σ fun p σ₁ => EvalP (f.with base') k o ρ σ₁ fun q σ₂ => q = .ref x ∧ ∀ v hs tk h, Den h v p → InitP f k sts ρ σ₂ x C dx (putL nm hs (.str nm tk) v es) (putN nm es n) Φ)
    (hs : findIn f.K (.ref C) "__setattr__" = some (some (.builtin "object.__setattr__"))) (hp : plainOver f.K C = true) (ht : takerIn f.K C nm = some none) (hh : hasDictIn f.K C = true) (hl : (getL nm es).isSome = true) (hz : es.length ≤ 999)
    (hsw : swapsWith e (some (.Attribute o nm ap)) pos.line f.env = pure false) : InitP f k (.Assign [.Attribute o nm ap] e pos :: sts) ρ σ x C dx es n Φ :=
  fun s rm S hb hL hx hd Q E hQ => by
    have sx := S.noList (inst_notList hx)
    have sd := S.noList (dict_notList hd)
    obtain ⟨m0, hn0, _⟩ := id S.loc
    have xL : x ≠ f.L := fun q => by
      obtain ⟨oL, es', ep, hL', hLd, _⟩ := hn0
      rw [← q, hx] at hL'; cases hL'; cases hLd
    have xd : x ≠ dx := fun q => by rw [q, hd] at hx; cases hx
    -- both are kept while the value is reckoned
    have S1 := S.pin hx sx
    have S2 := S1.pin hd sd
    have up : ∀ b ob, f.base b = some ob → (if b = dx then some (dictOf es n) else if b = x then some (instObj C dx) else f.base b) = some ob := fun b ob eb => by
      have h1 : b ≠ dx := fun q => by rw [q, hb] at eb; cases eb
      rw [if_neg h1]
      by_cases h2 : b = x
      · have := S.keep b ob eb
        rw [h2, hx] at this; rw [if_pos h2]; exact this
      · rw [if_neg h2]; exact eb
    have ok' : (f.with fun b => if b = dx then some (dictOf es n) else if b = x then some (instObj C dx) else f.base b).Ok := rm.ok.with up (by
      show (if f.L = dx then some (dictOf es n) else if f.L = x then some (instObj C dx) else f.base f.L) = none
      rw [if_neg (Ne.symm hL), if_neg (Ne.symm xL)]; exact rm.ok.new)
    have rm' : (f.with fun b => if b = dx then some (dictOf es n) else if b = x then some (instObj C dx) else f.base b).Room k := ⟨ok', rm.depth, rm.units⟩
    refine wpAny_execs_cons (plainObj_wpAny_Assign_Attribute (he _ up s rm' S2 _ _ fun v s₁ p σ₁ h₁ d₁ N₁ => h₁ s₁ rm' N₁.st _ _ fun ov s₂ q σ₂ h₂ d₂ N₂ => ?_) hsw)
    obtain ⟨rfl, h₃⟩ := h₂
    have := d₂.toRef; subst this
    have hx₂ : s₂.heap.get? x = some (instObj C dx) := N₂.st.keep x _ (by show (if x = dx then _ else if x = x then _ else _) = _; rw [if_neg xd, if_pos rfl])
    have hd₂ : s₂.heap.get? dx = some (dictOf es n) := N₂.st.keep dx _ (by show (if dx = dx then _ else _) = _; rw [if_pos rfl])
    have S₂ : St f ρ σ₂ s₂.heap := N₂.st.unpin up
    obtain ⟨m, hn, hm⟩ := S₂.loc
    refine setattr_low (rm.ok.top.inK S₂.keep) hn hx₂ hd₂ hL hs hp ht hh hl hz fun h' hsh tk hn' hk hd' => ?_
    have tx : TExt s₂.heap h' := fun b ob eb c dd => hk b ob (fun q => by
      subst q
      obtain ⟨vs, n', hdd⟩ := dd
      exact ns_notTup hn vs ⟨ob, eb, c, n', hdd⟩) (fun q => by
      subst q
      obtain ⟨vs, n', hdd⟩ := dd
      exact dict_notTup hd₂ vs ⟨ob, eb, c, n', hdd⟩) eb
    have S₃ : St f ρ σ₂ h' := by
      refine ⟨fun b ob eb => hk b ob (fun q => by rw [q, rm.ok.new] at eb; cases eb) (fun q => by rw [q, hb] at eb; cases eb) (S₂.keep b ob eb), ⟨m, hn', fun y p' e' => let ⟨v', g1, g2⟩ := hm y p' e'; ⟨v', g1, g2.mono tx⟩⟩, fun a l ea => ?_⟩
      obtain ⟨vs, ⟨n', h1⟩, h2, h3, h4⟩ := S₂.lst a l ea
      exact ⟨vs, ⟨n', hk a _ h4 (fun q => dict_notList hd₂ vs ⟨n', q ▸ h1⟩) h1⟩, h2.mono tx, h3, h4⟩
    have NN : Nx f ρ σ₂ s { s₂ with heap := h', toks := s₂.toks + 2 } := ⟨S₃, N₁.ext.trans (N₂.ext.trans tx), (N₁.same.trans N₂.same).trans rfl⟩
    exact h₃ v hsh tk s₁.heap d₁ _ rm S₃ hb hL (hk x _ xL xd hx₂) hd' _ _ fun s' σ' es' n' hΦ N' hx' hd'' => hQ s' σ' es' n' hΦ (NN.trans N') hx' hd''
theorem new_low {C fI : Addr} {name qual : Str} {params : Arguments} {body : List Stmt} {scope : Scope} {dV kV doc pm cdv ct oc : Value} {an od : Option Addr} {osl : Array (Option Value)} {ps : List PV} {vs : List Value} {Φ : Addr → Sig → List DictEntry → Nat → Prop} {s : Shared} {Q : Value → Shared → Prop} {E : Value → Shared → Prop} (xs : List Str)
    (rm : f.Room (k + 2)) (S : St f ρ σ s.heap) (dL : DenL s.heap vs ps)
    (hm : makesIn f.K C = true) (hi : findIn f.K (.ref C) "__init__" = some (some (.ref fI))) (hf : typeIn f.K (.ref fI) = some (.type "function"))
    (ho : f.K.lookup fI = some ⟨oc, od, .func (fnOf name qual params body scope dV kV doc pm an cdv ct), osl⟩) (hcd : codeIn f.K cdv qual = true)
    (hbind : ∀ us : List Value, us.length = ps.length + 1 → bindArgs (fnOf name qual params body scope dV kV doc pm an cdv ct) ⟨us, []⟩ = pure (xs.zip us))
    (hloc : ∀ x ∈ xs, scope.names.lookup x = some .local) (hcell : ∀ x ∈ scope.names, x.2 ≠ .cell) (hco : scope.isCoroutine = false) (hgen : scope.isGenerator = false) (hk : scope.kind = .function)
    (hbody : ∀ (A' : Around) (L' : Addr) (base' : Addr → Option Obj) (x dx : Addr), (∀ b o, f.base b = some o → base' b = some o) →
      InitP ⟨f.prog, f.w, f.K, A', envOf qual scope L' fI cdv, base'⟩ k body ((xs.zip (.ref x :: ps)).reverse) σ x C dx [] 0 (Φ x))
    (hQ : ∀ s' σ' x dx es n, Φ x σ' es n → Nx f ρ σ' s s' → s'.heap.get? x = some (instObj C dx) → s'.heap.get? dx = some (dictOf es n) → f.base x = none → f.base dx = none → x ≠ f.L → dx ≠ f.L → Q (.ref x) s') :
    wpAny (model f.prog f.w) f.A (call (.ref C) vs) Q E s := by
  refine wpAny_call ?_
  have hall : ∀ b o, f.base b = some o → s.heap.get? b = some o := S.keep
  have X : f.K.In s.heap := rm.ok.top.inK hall
  obtain ⟨hh, gg, dd, tt, os⟩ := s
  have hk2 : ∀ b o, hh.get? b = some o → ((hh.push emptyDict).push (instObj C hh.objs.size)).get? b = some o := fun b o e => Heap.get?_push_of_some _ (Heap.get?_push_of_some _ e)
  have hx2 : ((hh.push emptyDict).push (instObj C hh.objs.size)).get? (hh.objs.size + 1) = some (instObj C hh.objs.size) := by
    have := Heap.get?_push_size (hh.push emptyDict) (o := instObj C hh.objs.size) rfl
    rwa [Heap.size_push] at this
  have hd2 : ((hh.push emptyDict).push (instObj C hh.objs.size)).get? hh.objs.size = some (dictOf [] 0) := Heap.get?_push_of_some _ (Heap.get?_push_size hh (o := emptyDict) rfl)
  refine make_core (makes_of X hm) (looks_findIn X hi) (fun self => bind_fn X self hf) (.inl rfl) ?_
  generalize hh2 : (hh.push emptyDict).push (instObj C hh.objs.size) = h2 at hk2 hx2 hd2
  have S2 : St f ρ σ h2 := S.all hk2
  have hall2 : ∀ b o, f.base b = some o → h2.get? b = some o := S2.keep
  have X2 : f.K.In h2 := rm.ok.top.inK hall2
  have hfdx : f.base hh.objs.size = none := by
    cases e : f.base hh.objs.size with
    | none => rfl
    | some o => have := hall _ _ e; rw [get_size_none] at this; cases this
  have hfx : f.base (hh.objs.size + 1) = none := by
    cases e : f.base (hh.objs.size + 1) with
    | none => rfl
    | some o => have := Heap.lt_size (hall _ _ e); exact absurd this (by show ¬ hh.objs.size + 1 < hh.objs.size; omega)
  obtain ⟨m0, hn0, _⟩ := id S.loc
  have hL0 : f.L < hh.objs.size := hn0.lt
  have hf : ∀ b o, f.base b = some o → (if b = hh.objs.size then none else match σ b with | none => h2.get? b | some _ => none) = some o := fun b o e => by
    rw [if_neg (fun q => by rw [q, hfdx] at e; cases e)]
    cases hs : σ b with
    | none => exact hall2 b o e
    | some l => obtain ⟨_, _, _, h3, _⟩ := S.lst b l hs; rw [h3] at e; cases e
  have dL' : DenL hh (.ref (hh.objs.size + 1) :: vs) (.ref (hh.objs.size + 1) :: ps) := .cons (.ref _) dL
  refine codeAny_call_def (s := ⟨h2, gg, dd, tt, os⟩) (fd := fnOf name qual params body scope dV kV doc pm an cdv ct) (body := body) (binds := xs.zip (.ref (hh.objs.size + 1) :: vs)) (by show f.A.depth + 1 < recursionLimit; have := rm.depth; omega) (X2 _ _ ho) rfl (rm.ok.top.noLimit hall2) (codeRec_of X2 hcd) rfl
    (.of_eq (hbind _ (by simp [dL.length]))) hcell (fun x hx => hloc x.1 (List.of_mem_zip hx).1) (fun h₁ hns hk₁ => ?_) hco hgen hk
  have hok : Fm.Ok ⟨f.prog, f.w, f.K, (f.A.under (.builtin "type.__call__" ⟨.ref C :: vs, []⟩)).deeper (envOf qual scope h2.objs.size fI cdv), envOf qual scope h2.objs.size fI cdv, fun b => if b = hh.objs.size then none else match σ b with | none => h2.get? b | some _ => none⟩ := by
    refine ⟨rm.ok.handled, hk, rfl, rfl, ?_, ?_⟩
    · show (if h2.objs.size = hh.objs.size then none else match σ h2.objs.size with | none => h2.get? h2.objs.size | some _ => none) = none
      split
      · rfl
      · cases σ h2.objs.size with
        | none => exact get_size_none _
        | some _ => rfl
    · obtain ⟨hT, p, loose, mean, mg, mb, T, XT, up⟩ := rm.ok.top
      exact ⟨hT, p, loose, mean, mg, mb, T, XT, fun b o e => hf b o (up b o e)⟩
  have tx0 : TExt hh h₁ := (TExt.of_all hk2).trans (.of_all hk₁)
  have hS : St ⟨f.prog, f.w, f.K, (f.A.under (.builtin "type.__call__" ⟨.ref C :: vs, []⟩)).deeper (envOf qual scope h2.objs.size fI cdv), envOf qual scope h2.objs.size fI cdv, fun b => if b = hh.objs.size then none else match σ b with | none => h2.get? b | some _ => none⟩ ((xs.zip (.ref (hh.objs.size + 1) :: ps)).reverse) σ h₁ := by
    refine ⟨fun b o e => ?_, ⟨_, hns, den_binds (dL'.mono tx0)⟩, fun a l e => ?_⟩
    · have e' : (if b = hh.objs.size then none else match σ b with | none => h2.get? b | some _ => none) = some o := e
      split at e'
      · cases e'
      · cases hs : σ b with
        | none => rw [hs] at e'; exact hk₁ b o e'
        | some l => rw [hs] at e'; cases e'
    · obtain ⟨vs', ⟨n, h1⟩, h2', h3, h4⟩ := S2.lst a l e
      refine ⟨vs', ⟨n, hk₁ _ _ h1⟩, h2'.mono (.of_all hk₁), ?_, Nat.ne_of_lt (Heap.lt_size h1)⟩
      show (if a = hh.objs.size then none else match σ a with | none => h2.get? a | some _ => none) = none
      rw [e]; split <;> rfl
  refine hbody _ _ _ (hh.objs.size + 1) hh.objs.size hf _ ⟨hok, ?_, ?_⟩ hS (if_pos rfl) (Nat.ne_of_lt (Heap.lt_size hd2)) (hk₁ _ _ hx2) (hk₁ _ _ hd2) _ _ (fun s' σ' es n hΦ N hx' hd' => ?_)
  · show f.A.depth + 1 + 1 + k < recursionLimit
    have := rm.depth; omega
  · show f.A.units + 1 + 3 + 8 * k + 100 < cLine
    have := rm.units; omega
  · have S' := N.st
    have tx : TExt hh s'.heap := tx0.trans N.ext
    refine ⟨rfl, hQ s' σ' _ _ es n hΦ ⟨⟨fun b o e => S'.keep b o (hf b o e), ?_, fun a l e => ?_⟩, tx, Same.trans (s₂ := ⟨h₁, gg, dd, tt + (xs.zip (Value.ref (hh.objs.size + 1) :: vs)).length, os⟩) rfl N.same⟩ hx' hd' hfx hfdx (Nat.ne_of_gt (Nat.lt_succ_of_lt hL0)) (Nat.ne_of_gt hL0)⟩
    · obtain ⟨m, ⟨oL, es, ep, g1, g2⟩, hm⟩ := S2.loc
      have hL : σ f.L = none := by
        cases hs : σ f.L with
        | none => rfl
        | some l => obtain ⟨_, _, _, _, h4⟩ := S.lst _ _ hs; exact absurd rfl h4
      refine ⟨m, ⟨oL, es, ep, S'.keep f.L oL ?_, g2⟩, fun x p e => let ⟨v, q1, q2⟩ := hm x p e; ⟨v, q1, q2.mono ((TExt.of_all hk₁).trans N.ext)⟩⟩
      show (if f.L = hh.objs.size then none else match σ f.L with | none => h2.get? f.L | some _ => none) = some oL
      rw [if_neg (Nat.ne_of_lt hL0), hL]; exact g1
    · obtain ⟨vs', h1, h2', h3, h4⟩ := S'.lst a l e
      have h3' : (if a = hh.objs.size then none else match σ a with | none => h2.get? a | some _ => none) = none := h3
      refine ⟨vs', h1, h2', ?_, fun q => ?_⟩
      · cases hb : f.base a with
        | none => rfl
        | some o => rw [hf a o hb] at h3'; cases h3'
      · subst q
        obtain ⟨m, ⟨oL, es, ep, g1, g2⟩, hm⟩ := S2.loc
        have hL : σ f.L = none := by
          cases hs : σ f.L with
          | none => rfl
          | some l => obtain ⟨_, _, _, _, h4⟩ := S.lst _ _ hs; exact absurd rfl h4
        rw [if_neg (Nat.ne_of_lt hL0), hL] at h3'
        rw [g1] at h3'; cases h3'
end

/-! ## P9 -/
/-- how deep the tuples go -/
def flat : Nat → PV → Prop
  | 0, .tup _ => False
  | n + 1, .tup l => ∀ p ∈ l, flat n p
  | _, _ => True
theorem den_eq : ∀ (n : Nat) {A : Around} {s : Shared} {v u : Value} {p : PV}, A.units + n + 1 < cLine → flat n p → Den s.heap v p → Den s.heap u p → SeqAt.EqAt A s v u true := by
  intro n
  induction n with
  | zero =>
    intro A s v u p hu hf d e
    cases d with
    | tup _ _ _ => exact hf.elim
    | none => cases e; exact .same _
    | bool b => cases e; exact .same _
    | int i t => cases e; rename_i t'; have := SeqAt.EqAt.int_int (A := A) (s := s) i t i t'; rwa [beq_self_eq_true] at this
    | str x t => cases e; rename_i t'; have := SeqAt.EqAt.str_str (A := A) (s := s) x t x t'; rwa [beq_self_eq_true] at this
    | ref a => cases e; exact .same _
    | ty T => cases e; exact .same _
  | succ n ih =>
    intro A s v u p hu hf d e
    cases d with
    | tup t1 hl1 hg1 =>
      rename_i a vs ps
      obtain ⟨b, ws, rfl, t2, dl2⟩ := e.toTup
      by_cases hab : a = b
      · rw [hab]; exact .same _
      · refine .of_refs hab ?_
        have hl2 := dl2.length
        simp at hl2
        have hb : ((List.range (min vs.size ws.size)).all (fun _ => true) && vs.size == ws.size) = true := by simp [hl1, hl2]
        have := SeqAt.RcAt.tuples (A := A) (e := fun _ => true) t1 t2 (by omega) fun j h1 h2 => ?_
        · rwa [hb] at this
        · refine ih (A := A.in1) (p := ps[j]) (by show A.units + 1 + n + 1 < cLine; omega) (hf _ (List.getElem_mem _)) (hg1 j _ _ (by simp [h1]) (by simp)) (dl2.get j _ _ (by simp [h2]) (by simp))
    | none => cases e; exact .same _
    | bool b => cases e; exact .same _
    | int i t => cases e; rename_i t'; have := SeqAt.EqAt.int_int (A := A) (s := s) i t i t'; rwa [beq_self_eq_true] at this
    | str x t => cases e; rename_i t'; have := SeqAt.EqAt.str_str (A := A) (s := s) x t x t'; rwa [beq_self_eq_true] at this
    | ref a => cases e; exact .same _
    | ty T => cases e; exact .same _
section
variable {f : Fm} {k : Nat} {ρ : Rho} {σ : Sig}
theorem eq_tup_same {l : List PV} {Φ : PV → Sig → Prop} (hf : ∀ p ∈ l, flat 5 p) (h : Φ (.bool true) σ) : Op2 f k (compareOp .Eq) (.tup l) (.tup l) ρ σ Φ := fun s v u rm S d e Q E hQ => by
  obtain ⟨a, vs, rfl, t1, d1⟩ := d.toTup
  obtain ⟨b, ws, rfl, t2, d2⟩ := e.toTup
  have hu := rm.units
  have hl1 := d1.length
  have hl2 := d2.length
  simp at hl1 hl2
  refine SeqAt.eq_tupleAt (e := fun _ => true) t1 t2 (by omega) (fun j h1 h2 => ?_) (hQ _ _ _ _ h ?_ (.refl S))
  · exact den_eq 5 (p := l[j]) (by show f.A.units + 1 + 5 + 1 < cLine; omega) (hf _ (List.getElem_mem _)) (d1.get j _ _ (by simp [h1]) (by simp)) (d2.get j _ _ (by simp [h2]) (by simp))
  · have : ((List.range (min vs.size ws.size)).all (fun _ => true) && vs.size == ws.size) = true := by simp [hl1, hl2]
    rw [this]; exact .bool _
theorem eq_tup_head {x y : Str} {l : List PV} {Φ : PV → Sig → Prop} (hxy : (x == y) = false) (h : Φ (.bool false) σ) : Op2 f k (compareOp .Eq) (.tup (.str x :: l)) (.tup [.str y]) ρ σ Φ := fun s v u rm S d e Q E hQ => by
  obtain ⟨a, vs, rfl, t1, d1⟩ := d.toTup
  obtain ⟨b, ws, rfl, t2, d2⟩ := e.toTup
  have hu := rm.units
  have hl1 := d1.length
  have hl2 := d2.length
  simp at hl1 hl2
  refine SeqAt.eq_tupleAt (e := fun _ => false) t1 t2 (by omega) (fun j h1 h2 => ?_) (hQ _ _ _ _ h ?_ (.refl S))
  · have hj : j = 0 := by omega
    subst hj
    have e1 := d1.get 0 vs[0] (.str x) (by simp [h1]) rfl
    have e2 := d2.get 0 ws[0] (.str y) (by simp [h2]) rfl
    generalize vs[0] = v0 at e1
    generalize ws[0] = w0 at e2
    cases e1; cases e2
    rename_i t t'
    have := SeqAt.EqAt.str_str (A := f.A.in1) (s := s) x t y t'
    rwa [hxy] at this
  · have : ((List.range (min vs.size ws.size)).all (fun _ => false) && vs.size == ws.size) = false := by
      have hm : min vs.size ws.size = 1 := by omega
      rw [hm]; rfl
    rw [this]; exact .bool _
theorem ne_tup_same {l : List PV} {Φ : PV → Sig → Prop} (hf : ∀ p ∈ l, flat 5 p) (h : Φ (.bool false) σ) : Op2 f k (compareOp .NotEq) (.tup l) (.tup l) ρ σ Φ := fun s v u rm S d e Q E hQ => by
  obtain ⟨a, vs, rfl, t1, d1⟩ := d.toTup
  obtain ⟨b, ws, rfl, t2, d2⟩ := e.toTup
  have hu := rm.units
  have hl1 := d1.length
  have hl2 := d2.length
  simp at hl1 hl2
  refine SeqAt.RcNeAt.tuples (e := fun _ => true) t1 t2 (by omega) (fun j h1 h2 => ?_) _ _ E Q (hQ _ _ _ _ h ?_ (.refl S))
  · exact den_eq 5 (p := l[j]) (by show f.A.units + 1 + 5 + 1 < cLine; omega) (hf _ (List.getElem_mem _)) (d1.get j _ _ (by simp [h1]) (by simp)) (d2.get j _ _ (by simp [h2]) (by simp))
  · have : (!((List.range (min vs.size ws.size)).all (fun _ => true) && vs.size == ws.size)) = false := by simp [hl1, hl2]
    rw [this]; exact .bool _
theorem ne_ll_same {a b : Addr} {l : List PV} {Φ : PV → Sig → Prop} (ha : σ a = some l) (hb : σ b = some l) (hf : ∀ p ∈ l, flat 5 p) (h : Φ (.bool false) σ) : Op2 f k (compareOp .NotEq) (.ref a) (.ref b) ρ σ Φ := fun s v u rm S d e Q E hQ => by
  cases d; cases e
  obtain ⟨vs, t1, d1, _⟩ := S.lst a l ha
  obtain ⟨ws, t2, d2, _⟩ := S.lst b l hb
  have hu := rm.units
  have hl1 := d1.length
  have hl2 := d2.length
  simp at hl1 hl2
  refine SeqAt.RcNeAt.lists (e := fun _ => true) t1.isList t2.isList (by omega) (by omega) (fun j h1 h2 => ?_) _ _ E Q (hQ _ _ _ _ h ?_ (.refl S))
  · exact den_eq 5 (p := l[j]) (by show f.A.units + 1 + 5 + 1 < cLine; omega) (hf _ (List.getElem_mem _)) (d1.get j _ _ (by simp [h1]) (by simp)) (d2.get j _ _ (by simp [h2]) (by simp))
  · have : (!((List.range vs.size).all (fun _ => true))) = false := by simp
    rw [this]; exact .bool _
end

/-! ## P10 -/
/-! ### a def with one plain and one cell parameter -/
theorem TopIn.mono {K : Frag} {b b' : Addr → Option Obj} (T : TopIn K b) (h : ∀ x o, b x = some o → b' x = some o) : TopIn K b' :=
  let ⟨hT, p, loose, mean, mg, mb, T, X, up⟩ := T; ⟨hT, p, loose, mean, mg, mb, T, X, fun x o e => h x o (up x o e)⟩
theorem Keeps.refl (s : Shared) : Keeps s s := ⟨s.heap, s.toks, rfl, fun _ _ e => e⟩
theorem Keeps.trans {a b c : Shared} (x : Keeps a b) (y : Keeps b c) : Keeps a c := by
  obtain ⟨h, t, rfl, k⟩ := x
  obtain ⟨h2, t2, rfl, k2⟩ := y
  exact ⟨h2, t2, rfl, fun b o e => k2 b o (k b o e)⟩

theorem call_cell2 {prog : Program} {w : World} {K : Frag} {A : Around} {s : Shared} {fa : Addr} {name qual : Str} {params : Arguments} {body : List Stmt} {scope : Scope} {dV kV doc pm cdv ct oc : Value} {an od : Option Addr} {osl : Array (Option Value)}
    {x y : Str} {v u : Value} {p : PV} {k : Nat} {Φ : PV → Prop} {Q : Value → Shared → Prop} {E : Value → Shared → Prop}
    (ho : K.lookup fa = some ⟨oc, od, .func (fnOf name qual params body scope dV kV doc pm an cdv ct), osl⟩) (hcd : codeIn K cdv qual = true)
    (hbind : bindArgs (fnOf name qual params body scope dV kV doc pm an cdv ct) ⟨[v, u], []⟩ = pure [(x, v), (y, u)])
    (hxy : x ≠ y) (hx : scope.names.lookup x = some .local) (hy : scope.names.lookup y = some .cell) (hcl : ∀ n, cellsFrom n scope.names [] = [(y, n)])
    (hco : scope.isCoroutine = false) (hgen : scope.isGenerator = false) (hk : scope.kind = .function)
    (hA : A.handled = none) (hdepth : A.depth + 1 + k < recursionLimit) (hunits : A.units + 3 + 8 * k + 100 < cLine) (T : TopIn K s.heap.get?) (dv : Den s.heap v p)
    (hbody : ∀ (L' : Addr) (base' : Addr → Option Obj) (A' : Around), A'.handled = none → A'.depth = A.depth + 1 → A'.units = A.units + 3 → (∀ b o, s.heap.get? b = some o → base' b = some o) → (∃ o, base' (L' + 1) = some o ∧ o.data = .cell (some u)) →
      ExecsP ⟨prog, w, K, A', callEnvC (fnOf name qual params body scope dV kV doc pm an cdv ct) L' fa, base'⟩ k body [(x, p)] (fun _ => none) fun q ρ' σ' => Φ q.val)
    (hQ : ∀ v' s' q, Φ q → Den s'.heap v' q → Keeps s s' → Q v' s') : wpAny (model prog w) A (call (.ref fa) [v, u]) Q E s := by
  refine wpAny_call ?_
  have X : K.In s.heap := T.inK fun _ _ e => e
  have hlim : s.heap.NoLimit := T.noLimit fun _ _ e => e
  refine codeAny_call_cells (fd := fnOf name qual params body scope dV kV doc pm an cdv ct) (body := body) (binds := [(x, v), (y, u)]) (by omega) (X _ _ ho) rfl hlim (codeRec_of X hcd) rfl hbind rfl ?_ (fun s₁ ic => ?_) hco hgen hk
  · intro z hz
    simp only [List.mem_cons, List.not_mem_nil, or_false] at hz
    rcases hz with rfl | rfl
    · exact .inl hx
    · exact .inr ⟨hy, by rw [show (fnOf name qual params body scope dV kV doc pm an cdv ct).scope.names = scope.names from rfl, hcl]; simp⟩
  obtain ⟨h₁, tk, rfl, hk₁⟩ := ic.done
  have hns := ic.toInCall.ns
  have kx : (callEnvC (fnOf name qual params body scope dV kV doc pm an cdv ct) s.heap.objs.size fa).kindOf x = some .local := hx
  have ky : (callEnvC (fnOf name qual params body scope dV kV doc pm an cdv ct) s.heap.objs.size fa).kindOf y = some .cell := hy
  have hcells : (callEnvC (fnOf name qual params body scope dV kV doc pm an cdv ct) s.heap.objs.size fa).cells = [(y, s.heap.objs.size + 1)] := hcl _
  have hcell := ic.cell y (s.heap.objs.size + 1) (by rw [hcells]; simp)
  have hL : (callEnvC (fnOf name qual params body scope dV kV doc pm an cdv ct) s.heap.objs.size fa).locals = s.heap.objs.size := rfl
  rw [hL] at hns
  have hbC : bindC (callEnvC (fnOf name qual params body scope dV kV doc pm an cdv ct) s.heap.objs.size fa).kindOf [(x, v), (y, u)] (fun _ => none) y = some u := by
    simp [bindC, kx, ky]
  have hbL : bindL (callEnvC (fnOf name qual params body scope dV kV doc pm an cdv ct) s.heap.objs.size fa).kindOf [(x, v), (y, u)] (fun _ => none) x = some v := by
    simp [bindL, kx, ky]
  rw [hbC] at hcell
  obtain ⟨oc', hoc, hod⟩ := hcell
  have hbase : ∀ b o, s.heap.get? b = some o → (if b = s.heap.objs.size then none else h₁.get? b) = some o := fun b o e => by
    rw [if_neg (fun q => by rw [q, get_size_none] at e; cases e)]; exact hk₁ b o e
  have hok : Fm.Ok ⟨prog, w, K, A.deeper (callEnvC (fnOf name qual params body scope dV kV doc pm an cdv ct) s.heap.objs.size fa), callEnvC (fnOf name qual params body scope dV kV doc pm an cdv ct) s.heap.objs.size fa, fun b => if b = s.heap.objs.size then none else h₁.get? b⟩ :=
    ⟨hA, hk, rfl, rfl, if_pos rfl, T.mono hbase⟩
  refine hbody s.heap.objs.size (fun b => if b = s.heap.objs.size then none else h₁.get? b) (A.deeper (callEnvC (fnOf name qual params body scope dV kV doc pm an cdv ct) s.heap.objs.size fa)) hA rfl rfl hbase
    ⟨oc', by show (if s.heap.objs.size + 1 = s.heap.objs.size then none else h₁.get? (s.heap.objs.size + 1)) = _; rw [if_neg (Nat.succ_ne_self _)]; exact hoc, hod⟩ { s with heap := h₁, toks := tk } ⟨hok, hdepth, hunits⟩ ⟨fun b o e => ?_, ⟨_, hns, fun z q e => ?_⟩, fun a l e => by cases e⟩ _ _ fun fl s' q ρ' σ' hΦ hr N => ?_
  · have e' : (if b = s.heap.objs.size then none else h₁.get? b) = some o := e
    by_cases hb : b = s.heap.objs.size
    · rw [if_pos hb] at e'; cases e'
    · rw [if_neg hb] at e'; exact e'
  · rw [List.lookup_cons] at e
    by_cases hz : z = x
    · subst hz
      simp at e; subst e
      exact ⟨v, hbL, dv.mono (.of_all hk₁)⟩
    · rw [beq_eq_false_iff_ne.mpr hz] at e; simp at e
  · have kk : Keeps s s' := by
      refine ⟨s'.heap, s'.toks, ?_, fun b o e => N.st.keep b o (hbase b o e)⟩
      have := N.same
      unfold Same at this
      exact this
    cases fl <;> cases q <;> first | exact hr.elim | exact hQ _ _ _ hΦ hr kk | exact hQ _ _ _ hΦ .none kk
section
variable {f : Fm} {k : Nat} {ρ : Rho} {σ : Sig}
theorem eval_cell {x : Str} {c : Addr} {v : Value} {p : PV} {pos : Pos} {Φ : PV → Sig → Prop} (hl : f.env.kindOf x = some .cell) (hc : f.env.cells.lookup x = some c) (hv : ∃ o, f.base c = some o ∧ o.data = .cell (some v)) (d : ∀ h, Den h v p) (h : Φ p σ)
    (hd : (x == ("__debug__" : Str)) = false := by decide) : EvalP f k (.Name x pos) ρ σ Φ := fun s rm S Q E hQ => by
  obtain ⟨o, h1, h2⟩ := hv
  exact wpAny_Name (wpAny_loadName_cell rm.ok.kind hl hc ⟨o, S.keep c o h1, h2⟩ (hQ _ _ _ _ h (d _) (.refl S))) hd
theorem St.newAt {h h' : Heap} {D : Addr} {ys : Array Value} {l : List PV} (S : St f ρ σ h) (hk : ∀ b o, h.get? b = some o → h'.get? b = some o) (hD : h.get? D = none) (hl : LIs h' D ys) (hd : DenL h' ys.toList l) : St f ρ (upd σ D l) h' ∧ σ D = none := by
  have hs : σ D = none := by
    cases e : σ D with
    | none => rfl
    | some l' => obtain ⟨_, ⟨n, h1⟩, _⟩ := S.lst _ _ e; rw [hD] at h1; cases h1
  have S' := S.all hk
  refine ⟨⟨S'.keep, S'.loc, fun b l2 eb => ?_⟩, hs⟩
  by_cases q : b = D
  · subst q
    rw [upd_same] at eb; cases eb
    refine ⟨ys, hl, hd, ?_, fun e => ?_⟩
    · cases eb : f.base b with
      | none => rfl
      | some o => have := S.keep _ _ eb; rw [hD] at this; cases this
    · obtain ⟨m, ⟨o, es, ep, ho, _⟩, _⟩ := S.loc
      rw [← e, hD] at ho; cases ho
  · rw [upd_ne q] at eb; exact S'.lst b l2 eb
theorem denL_ints {h : Heap} : ∀ {ns : List Int} {vs : List Value}, DenL h vs (ns.map PV.int) → ∃ xs : List (Int × Tok), vs = xs.map (fun p => Value.int p.1 p.2) ∧ xs.map (·.1) = ns
  | [], _, d => by cases d; exact ⟨[], rfl, rfl⟩
  | n :: ns, _, d => by
    cases d with
    | cons d1 d2 =>
      obtain ⟨t, rfl⟩ := d1.toInt
      obtain ⟨xs, rfl, h2⟩ := denL_ints d2
      exact ⟨(n, t) :: xs, rfl, by simp [h2]⟩
theorem sum_l {a : Addr} {ns : List Int} {Φ : PV → Sig → Prop} (ha : σ a = some (ns.map PV.int)) (h : Φ (.int ns.sum) σ) : CallP f k (.builtin "sum") [.ref a] ρ σ Φ := fun s vs rm S d Q E hQ => by
  obtain ⟨v1, rfl, d1⟩ := d.one
  have := d1.toRef; subst this
  obtain ⟨ws, ho, hd, _⟩ := S.lst a _ ha
  obtain ⟨xs, h1, h2⟩ := denL_ints hd
  have hw : ws = PySem.intItems xs.toArray := by
    apply Array.toList_inj.mp
    rw [h1]; simp [PySem.intItems]
  subst hw
  refine sum_intListG rm.ok.handled ho.isList fun h' tk t' hk => ?_
  refine hQ _ _ (.int ns.sum) _ h ?_ ⟨S.all hk, .of_all hk, rfl⟩
  have e : preSum (numAt xs.toArray) xs.toArray.size = ns.sum := by
    rw [preSum_eq, List.take_of_length_le (by simp)]
    show (xs.map (·.1)).sum = _
    rw [h2]
  rw [e]; exact .int _ _
end

/-! ## P11 -/
section
variable {f : Fm} {k : Nat} {ρ : Rho} {σ : Sig}
theorem eval_SubFrom {value lo : Expr} {sp pos : Pos} {Φ : PV → Sig → Prop}
    (h : EvalP f k value ρ σ fun p σ₁ => ∃ q l, p = .tup (q :: l) ∧ l.length < 16777216 ∧ EvalP f k lo ρ σ₁ fun i σ₂ => i = .int 1 ∧ Φ (.tup l) σ₂)
    (hs : ∀ o i, subscripted (.Slice (some lo) none none sp) false o i = operate [i, o] (getItem o i) := by intro _ _; rfl)
    (ht : ∀ o r, letTemporaryGo value o r = pure () := by intro _ _; rfl) :
    EvalP f k (.Subscript value (.Slice (some lo) none none sp) pos) ρ σ Φ := fun s rm S Q E hQ => by
  refine Subscript_ (h s rm S _ _ fun v s₁ p σ₁ h₁ d N₁ => ?_)
  obtain ⟨q, l, rfl, hz, h₂⟩ := h₁
  obtain ⟨t, vs, rfl, tup, dl⟩ := d.toTup
  refine wpAny_Slice (wpAny_evalPart_some (h₂ s₁ rm N₁.st _ _ fun u s₂ q' σ₂ h₃ d₂ N₂ => wpAny_evalPart_none (wpAny_evalPart_none ?_)))
  obtain ⟨rfl, h₄⟩ := h₃
  obtain ⟨tk, rfl⟩ := d₂.toInt
  have tup2 := N₂.ext.tup tup
  have hl := dl.length
  simp at hl
  have tup3 : IsTup (s₂.heap.push { cls := .type "slice", data := .fields #[.int ((1 : Nat) : Int) tk, .none, .none] }) t vs := tup2.keeps fun _ _ e => Heap.get?_push_of_some _ e
  refine subscriptTail_ops (s := { s₂ with heap := s₂.heap.push { cls := .type "slice", data := .fields #[.int ((1 : Nat) : Int) tk, .none, .none] } }) tup3.typeIs slot_tuple_getitem.lookup
    (getItem_tuple_from tup3 (Heap.IsSliceOf.new ..) (Nat.le_refl 1) (by omega) ?_ (by rw [sizeLine_eq]; omega)) (hs _ _) (ht _)
  refine hQ _ _ (.tup l) _ h₄ ?_ (N₁.trans (N₂.trans ⟨(N₂.st.push _).push _, (TExt.push _).trans (.push _), rfl⟩))
  refine Den.ofTup (vs := (vs.toList.drop 1).toArray) ⟨_, Heap.get?_push_size _ rfl, rfl, 0, rfl⟩ ?_
  exact (((dl.mono N₂.ext).mono (.push _)).mono (.push _)).drop 1
theorem list_tup {l : List PV} {Φ : PV → Sig → Prop} (hz : l.length ≤ 16777216) (h : ∀ a, σ a = none → Φ (.ref a) (upd σ a l)) : CallP f k (.type "list") [.tup l] ρ σ Φ := fun s vs rm S d Q E hQ => by
  obtain ⟨v1, rfl, d1⟩ := d.one
  obtain ⟨t, vs, rfl, ⟨o, ho, hc, n, hd⟩, dl⟩ := d1.toTup
  have hl := dl.length
  simp at hl
  refine call_list_seq t (.inr rfl) ho hc hd (fun h' c' hk hD => ?_) (by rw [sizeLine_eq]; omega)
  obtain ⟨S', hn⟩ := S.newAt hk (get_size_none _) ⟨c', hD⟩ (dl.mono (.of_all hk))
  exact hQ _ _ _ _ (h _ hn) (.ref _) ⟨S', .of_all hk, rfl⟩

/-! ### names, low -/
theorem name_low_k {prog : Program} {w : World} {A : Around} {K : Frag} {base : Addr → Option Obj} {cenv : Env} {s : Shared} {x : Str} {v : Value} {pos : Pos} {Q : Value → Shared → Prop} {E : Value → Shared → Prop}
    (T : TopIn K base) (keep : ∀ b o, base b = some o → s.heap.get? b = some o) (hk : cenv.scope.kind = .function) (hg : cenv.globals = mainGlobals) (hx : cenv.kindOf x = some .globalImplicit) (e : nsIn K mainGlobals x = some (some v)) (h : Q v s)
    (hd : (x == ("__debug__" : Str)) = false := by decide) : wpAny (model prog w) A (eval (.Name x pos) cenv) Q E s := by
  obtain ⟨mg, mb, g, b, h1, h2, h3⟩ := T.ns keep
  refine Name_function_global hk hx (loadGlobal_global (mg := mg) ?_ (h1 x v e) h) hd
  rw [hg]; exact g
theorem name_low_b {prog : Program} {w : World} {A : Around} {K : Frag} {base : Addr → Option Obj} {cenv : Env} {s : Shared} {x : Str} {v : Value} {pos : Pos} {Q : Value → Shared → Prop} {E : Value → Shared → Prop}
    (T : TopIn K base) (keep : ∀ b o, base b = some o → s.heap.get? b = some o) (hk : cenv.scope.kind = .function) (hg : cenv.globals = mainGlobals) (hbi : cenv.builtins = builtinsNs) (hx : cenv.kindOf x = some .globalImplicit) (e : nsIn K mainGlobals x = some none) (hv : bootBuiltins x = some v) (hn : x ≠ "__name__") (h : Q v s)
    (hd : (x == ("__debug__" : Str)) = false := by decide) : wpAny (model prog w) A (eval (.Name x pos) cenv) Q E s := by
  obtain ⟨mg, mb, g, b, h1, h2, h3⟩ := T.ns keep
  refine Name_function_global hk hx (loadGlobal_builtin (mg := mg) (mb := mb) ?_ (h2 x e) ?_ ((h3 x hn).trans hv) h) hd
  · rw [hg]; exact g
  · rw [hbi]; exact b

/-! ### comprehensions over a list -/
def firstStr (h : Heap) : Value → Option Str
  | .ref a => match h.get? a with
    | some ⟨_, _, Data.seq vs _, _⟩ => match (vs[0]? : Option Value) with
      | some (Value.str y _) => some y
      | _ => none
    | _ => none
  | _ => none
def headK (gs : Str → Bool) : PV → Bool
  | .tup (.str y :: _) => gs y
  | _ => false
theorem firstStr_of {h : Heap} {v : Value} {y : Str} {m : List PV} (d : Den h v (.tup (.str y :: m))) : firstStr h v = some y := by
  obtain ⟨a, vs, rfl, ⟨o, ho, hc, n, hd⟩, dl⟩ := d.toTup
  obtain ⟨v0, h0, d0⟩ := dl.at (i := 0) (p := .str y) rfl
  obtain ⟨tk, rfl⟩ : ∃ tk, v0 = .str y tk := by cases d0; exact ⟨_, rfl⟩
  obtain ⟨cls, dd, data, sl⟩ := o
  simp only at hd; subst hd
  have h0' : vs[0]? = some (Value.str y tk) := by simpa using h0
  simp only [firstStr, ho, h0']
theorem filter_den {h : Heap} (gs : Str → Bool) {vs : List Value} {ps : List PV} (d : DenL h vs ps) : (∀ p ∈ ps, ∃ y m, p = .tup (.str y :: m)) → DenL h (vs.filter fun v => match firstStr h v with | some y => gs y | none => false) (ps.filter (headK gs)) := by
  induction d with
  | nil => exact fun _ => .nil
  | cons d ds ih =>
    intro hp
    obtain ⟨y, m, rfl⟩ := hp _ (List.mem_cons_self ..)
    have ih := ih fun q hq => hp q (List.mem_cons_of_mem _ hq)
    rw [List.filter_cons, List.filter_cons, firstStr_of d]
    show DenL h (if gs y = true then _ else _) (if gs y = true then _ else _)
    cases gs y with
    | true => exact .cons d ih
    | false => exact ih
theorem paired_eq {l m : List Value} (h : Paired (fun v y => y = v) l m) : m = l := by
  induction h with
  | nil => rfl
  | cons e _ ih => rw [e, ih]
theorem isTrue_ifs {M : Model} {A : Around} {E : Value → Shared → Prop} {s : Shared} {env : Env} {tst : Expr} {Q : Bool → Shared → Prop} (h : wpAny M A (isTrue tst env (eval tst env)) Q E s) :
    wpAny M A (forIn [tst] true fun c r => if r = true then do let ok ← isTrue c env (eval c env); pure (ForInStep.yield ok) else pure (ForInStep.yield r)) Q E s := by
  rw [List.forIn_cons]
  rw [if_pos rfl]
  refine wpAny_bind (wpAny_bind (wpAny_mono h (fun b s' hb => wpAny_pure ?_) fun _ _ e => e))
  show wpAny _ _ (forIn [] b _) _ _ _
  rw [List.forIn_nil]
  exact wpAny_pure hb
theorem old_of {h h₃ : Heap} {ob : Obj} (hk : ∀ b o, b ∉ [h.objs.size] → (h.push ob).get? b = some o → h₃.get? b = some o) : ∀ b o, h.get? b = some o → h₃.get? b = some o := fun b o e =>
  hk b o (fun q => by rw [List.mem_singleton.mp q, get_size_none] at e; cases e) (Heap.get?_push_of_some _ e)
theorem none_of {h : Heap} {ob : Obj} {D : Addr} (hD : (h.push ob).get? D = none) : h.get? D = none := by
  cases e : h.get? D with
  | none => rfl
  | some o => rw [Heap.get?_push_of_some _ e] at hD; cases hD
theorem LIs.lt {h : Heap} {a : Addr} {vs : Array Value} (x : LIs h a vs) : a < h.objs.size := let ⟨_, e⟩ := x; Heap.lt_size e
/-- a list of what passes the test on its head -/
theorem eval_CompFilter {tst : Expr} {x it : Str} {px px2 px3 : Pos} {scope : Scope} {pos : Pos} {a : Addr} {l : List PV} {Φ : PV → Sig → Prop} (gs : Str → Bool)
    (hfree : ∀ y ∈ scope.names, y.2 ≠ .free) (hcell : ∀ y ∈ scope.names, y.2 ≠ .cell) (hkind : scope.kind = .function)
    (hnames : ∀ y ∈ scope.names, y.2 = .local → scope.names.lookup y.1 = some .local) (hx : scope.names.lookup x = some .local)
    (htest : ∀ (C : Addr) (s : Shared) (m : Str → Option Value) (v : Value) (y : Str) (l : List PV) (E' : Value → Shared → Prop) (Q : Bool → Shared → Prop), s.heap.Ns C m → m x = some v → Den s.heap v (.tup (.str y :: l)) → l.length < 16777215 →
      (∀ s', Keeps s s' → Q (gs y) s') → wpAny (model f.prog f.w) f.A (isTrue tst (compEnv scope C f.env) (eval tst (compEnv scope C f.env))) Q E' s)
    (hl : f.env.kindOf it = some .local) (e : ρ.lookup it = some (.ref a)) (ha : σ a = some l) (hz : l.length ≤ 16777216) (ho : ∀ p ∈ l, ∃ y m, p = .tup (.str y :: m) ∧ m.length < 16777215)
    (h : ∀ c, σ c = none → Φ (.ref c) (upd σ c (l.filter (headK gs))))
    (hd : (x == ("__debug__" : Str)) = false := by decide) (hd2 : (it == ("__debug__" : Str)) = false := by decide) :
    EvalP f k (.ListComp (.Name x px2) [⟨.Name x px, .Name it px3, [tst], 0⟩] scope pos) ρ σ Φ := fun s rm S Q E hQ => by
  obtain ⟨m, hn, hm⟩ := S.loc
  obtain ⟨v, h1, h2⟩ := hm it _ e
  have := h2.toRef; subst this
  obtain ⟨vs, hls, hden, _, _⟩ := S.lst a l ha
  have hsz := hden.length
  simp at hsz
  have mem : ∀ v, v ∈ vs → ∃ y m, Den s.heap v (.tup (.str y :: m)) ∧ m.length < 16777215 := fun v hv => by
    obtain ⟨i, hi, rfl⟩ := Array.mem_iff_getElem.mp hv
    have hp : l[i]? = some l[i] := List.getElem?_eq_getElem (by omega)
    obtain ⟨y, m, hpe, hml⟩ := ho l[i] (List.getElem_mem _)
    exact ⟨y, m, hpe ▸ hden.get i _ _ (by simp [hi]) hp, hml⟩
  refine wpAny_ListComp_walk (fun v => match firstStr s.heap v with | some y => gs y | none => false) (fun v y => y = v) hfree hcell hkind hnames hx (wpAny_Name (wpAny_loadName_local rm.ok.kind hl hn h1 (wpAny_pyIter_list hls.isList ?_)) hd2) (fun _ => rfl)
  refine ⟨s.heap.objs.size, [s.heap.objs.size, a], [s.heap.objs.size], vs.size, _, _, rfl, Walks.list rm.ok.handled s.heap.objs.size a (Nat.ne_of_lt (LIs.lt hls)) vs, by rw [sizeLine_eq]; omega, ⟨⟨_, Heap.get?_push_size _ rfl, rfl, rfl⟩, hls.isList.push _⟩, ?_, ⟨?_, ?_⟩, ?_⟩
  · intro b hb
    show b < (s.heap.push _).objs.size
    rw [Heap.size_push]
    simp only [List.mem_cons, List.not_mem_nil, or_false] at hb
    rcases hb with hb | hb
    · rw [hb]; exact Nat.lt_succ_self _
    · rw [hb]; exact Nat.lt_succ_of_lt (LIs.lt hls)
  · intro C i v s₂ m₂ E' hv hn₂ hm₂ hk₂ _
    obtain ⟨y, ml, dv, hml⟩ := mem v (Array.mem_of_getElem? hv)
    refine isTrue_ifs (htest C s₂ m₂ v y ml E' _ hn₂ hm₂ (dv.mono (.of_all (old_of hk₂))) hml fun s' kk => ⟨?_, kk⟩)
    rw [firstStr_of dv]
  · intro C i v s₂ m₂ E' hv _ hn₂ hm₂ hk₂ _
    exact wpAny_Name (wpAny_loadName_local hkind hx hn₂ hm₂ ⟨rfl, Keeps.refl _⟩) hd
  · intro D h' tk ys vs' hD _ hpl hlen hP hF hk'
    have hy := paired_eq hF
    have hvs : vs' = vs.toList := by
      refine List.ext_getElem? fun j => ?_
      by_cases hj : j < vs'.length
      · have := hP j _ (List.getElem?_eq_getElem hj)
        rw [List.getElem?_eq_getElem hj, Array.getElem?_toList, this]
      · rw [List.getElem?_eq_none (by omega), List.getElem?_eq_none (by simp; omega)]
    subst hvs
    have kk := old_of hk'
    have hden' : DenL h' ys.toList (l.filter (headK gs)) := by
      rw [hy]
      exact (filter_den gs hden fun p hp => let ⟨y, m, e, _⟩ := ho p hp; ⟨y, m, e⟩).mono (.of_all kk)
    obtain ⟨S', hn'⟩ := S.newAt kk (none_of hD) hpl hden'
    exact hQ _ _ _ _ (h _ hn') (.ref _) ⟨S', .of_all kk, rfl⟩
/-- [int(one) for one in ints] -/
theorem eval_CompInt {x : Str} {iter : Expr} {px px2 pi pc : Pos} {scope : Scope} {pos : Pos} {Φ : PV → Sig → Prop}
    (hfree : ∀ y ∈ scope.names, y.2 ≠ .free) (hcell : ∀ y ∈ scope.names, y.2 ≠ .cell) (hkind : scope.kind = .function)
    (hnames : ∀ y ∈ scope.names, y.2 = .local → scope.names.lookup y.1 = some .local) (hx : scope.names.lookup x = some .local)
    (hi : scope.names.lookup (Str.ofString "int") = some .globalImplicit) (ei : nsIn f.K mainGlobals (Str.ofString "int") = some none)
    (h : EvalP f k iter ρ σ fun p σ₁ => ∃ (a : Addr) (ns : List Int), p = .ref a ∧ σ₁ a = some (ns.map PV.int) ∧ ns.length ≤ 16777216 ∧ ∀ c, σ₁ c = none → Φ (.ref c) (upd σ₁ c (ns.map PV.int)))
    (hs : ∀ env x, foldedSetIterable iter env x = pure x := by intro _ _; rfl) (hd : (x == ("__debug__" : Str)) = false := by decide) :
    EvalP f k (.ListComp (.Call (.Name (Str.ofString "int") pi) [.Name x px2] [] pc) [⟨.Name x px, iter, [], 0⟩] scope pos) ρ σ Φ := fun s rm S Q E hQ => by
  refine wpAny_ListComp_walk (fun _ => true) (fun v y => ∃ n t, v = .int n t ∧ y = .int n t) hfree hcell hkind hnames hx (h s rm S _ _ fun v s₁ p σ₁ h₁ d N₁ => ?_) (hs _)
  obtain ⟨a, ns, rfl, ha, hz, hΦ⟩ := h₁
  have := d.toRef; subst this
  obtain ⟨vs, hls, hden, _, _⟩ := N₁.st.lst a _ ha
  have hsz := hden.length
  simp at hsz
  obtain ⟨xs, hxs, hns⟩ := denL_ints hden
  refine wpAny_pyIter_list hls.isList ?_
  refine ⟨s₁.heap.objs.size, [s₁.heap.objs.size, a], [s₁.heap.objs.size], vs.size, _, _, rfl, Walks.list rm.ok.handled s₁.heap.objs.size a (Nat.ne_of_lt (LIs.lt hls)) vs, by rw [sizeLine_eq]; omega, ⟨⟨_, Heap.get?_push_size _ rfl, rfl, rfl⟩, hls.isList.push _⟩, ?_, ⟨?_, ?_⟩, ?_⟩
  · intro b hb
    show b < (s₁.heap.push _).objs.size
    rw [Heap.size_push]
    simp only [List.mem_cons, List.not_mem_nil, or_false] at hb
    rcases hb with hb | hb
    · rw [hb]; exact Nat.lt_succ_self _
    · rw [hb]; exact Nat.lt_succ_of_lt (LIs.lt hls)
  · intro C i v s₂ m₂ E' hv hn₂ hm₂ hk₂ _
    exact wpAny_pure ⟨rfl, Keeps.refl _⟩
  · intro C i v s₂ m₂ E' hv _ hn₂ hm₂ hk₂ _
    have kk := old_of hk₂
    obtain ⟨n, t, rfl⟩ : ∃ n t, v = .int n t := by
      have hv' : vs.toList[i]? = some v := by simpa using hv
      rw [hxs, List.getElem?_map] at hv'
      obtain ⟨p, _, rfl⟩ := Option.map_eq_some_iff.mp hv'
      exact ⟨_, _, rfl⟩
    have X : ∀ b o, f.base b = some o → s₂.heap.get? b = some o := fun b o e => kk b o (N₁.st.keep b o e)
    refine Call_ (name_low_b (v := .type "int") rm.ok.top X hkind rm.ok.glob rm.ok.bi hi ei (by boot_by_name) (by decide) (PyProof.Rows.callWith_type1 (wpAny_items_cons (wpAny_Name (wpAny_loadName_local hkind hx hn₂ hm₂ ?_) hd) rfl) rfl rfl)) rfl
    exact wpAny_items_nil (call_int_int ⟨⟨n, t, rfl, rfl⟩, Keeps.refl _⟩)
  · intro D h' tk ys vs' hD _ hpl hlen hP hF hk'
    have hvs : vs' = vs.toList := by
      refine List.ext_getElem? fun j => ?_
      by_cases hj : j < vs'.length
      · have := hP j _ (List.getElem?_eq_getElem hj)
        rw [List.getElem?_eq_getElem hj, Array.getElem?_toList, this]
      · rw [List.getElem?_eq_none (by omega), List.getElem?_eq_none (by simp; omega)]
    subst hvs
    have kk := old_of hk'
    have hy : ys.toList = vs.toList := by
      rw [List.filter_eq_self.mpr (fun _ _ => rfl)] at hF
      have : ∀ {l m : List Value}, Paired (fun v y => ∃ n t, v = Value.int n t ∧ y = .int n t) l m → m = l := by
        intro l m hp
        induction hp with
        | nil => rfl
        | cons e _ ih => obtain ⟨n, t, rfl, rfl⟩ := e; rw [ih]
      exact this hF
    have hden' : DenL h' ys.toList (ns.map PV.int) := by rw [hy]; exact hden.mono (.of_all kk)
    obtain ⟨S', hn'⟩ := N₁.st.newAt kk (none_of hD) hpl hden'
    exact hQ _ _ _ _ (hΦ _ hn') (.ref _) (N₁.trans ⟨S', .of_all kk, rfl⟩)
end

/-! ## P12 -/
section
variable {f : Fm} {k : Nat} {ρ : Rho} {σ : Sig}
/-- a list of ints that the base holds -/
def BaseInts (base : Addr → Option Obj) (a : Addr) (ns : List Int) : Prop := ∃ o vs n, base a = some o ∧ o.cls = .type "list" ∧ o.data = .seq vs n ∧ ∀ h, DenL h vs.toList (ns.map PV.int)
theorem eval_SubUptoB {value hi : Expr} {sp pos : Pos} {a : Addr} {ns : List Int} {Φ : PV → Sig → Prop} (hb : BaseInts f.base a ns) (hz : ns.length ≤ 16777216)
    (h : EvalP f k value ρ σ fun p σ₁ => p = .ref a ∧ EvalP f k hi ρ σ₁ fun q σ₂ => ∃ n : Nat, q = .int n ∧ ∀ c, σ₂ c = none → Φ (.ref c) (upd σ₂ c ((ns.take n).map PV.int)))
    (hs : ∀ o i, subscripted (.Slice none (some hi) none sp) false o i = operate [i, o] (getItem o i) := by intro _ _; rfl)
    (ht : ∀ o r, letTemporaryGo value o r = pure () := by intro _ _; rfl) :
    EvalP f k (.Subscript value (.Slice none (some hi) none sp) pos) ρ σ Φ := fun s rm S Q E hQ => by
  refine Subscript_ (h s rm S _ _ fun v s₁ p σ₁ h₁ d N₁ => ?_)
  obtain ⟨rfl, h₂⟩ := h₁
  have := d.toRef; subst this
  refine wpAny_Slice (wpAny_evalPart_none (wpAny_evalPart_some (h₂ s₁ rm N₁.st _ _ fun u s₂ q σ₂ h₃ d₂ N₂ => wpAny_evalPart_none ?_)))
  obtain ⟨n, rfl, h₄⟩ := h₃
  obtain ⟨t, rfl⟩ := d₂.toInt
  obtain ⟨o, vs, m, ho, hc, hd, hden⟩ := hb
  have hl := (hden s₂.heap).length
  simp at hl
  have isl : s₂.heap.IsList a vs := ⟨o, N₂.st.keep a o ho, hc, m, hd⟩
  refine slice_listK isl .none (.int _ _) ?_ (hs _ _) (ht _) (by rw [sizeLine_eq]; omega)
  rw [pick_upto]
  have Sp := N₂.st.push { cls := .type "slice", data := .fields #[.none, .int n t, .none] }
  obtain ⟨S', hn⟩ := Sp.new (vs := (vs.toList.take n).toArray) (l := (ns.take n).map PV.int) (by rw [List.map_take]; exact (hden _).take n)
  rw [Heap.size_push] at S' hn
  exact hQ _ _ _ _ (h₄ _ hn) (.ref _) (N₁.trans (N₂.trans ⟨S', (TExt.push _).trans (.push _), rfl⟩))
theorem test_chain2 {l r₁ r₂ : Expr} {op₁ op₂ : CmpOp} {pos : Pos} {Φ : Bool → Sig → Prop}
    (h : EvalP f k l ρ σ fun a σ₁ => EvalP f k r₁ ρ σ₁ fun b σ₂ => Op2 f k (compareOp op₁) a b ρ σ₂ fun c σ₃ => ∃ t, c = .bool t ∧
      (t = true → EvalP f k r₂ ρ σ₃ fun d σ₄ => Op2 f k (compareOp op₂) b d ρ σ₄ fun e σ₅ => ∃ u, e = .bool u ∧ Φ u σ₅) ∧ (t = false → Φ false σ₃))
    (hm : lastMarks [op₁, op₂] [r₁, r₂] = false := by with_unfolding_all rfl) : TestP f k (.Compare l [op₁, op₂] [r₁, r₂] pos) ρ σ Φ :=
  fun s rm S Q E hQ => isTrue_chain (h s rm S _ _ fun a s₁ pa σ₁ h₁ da N₁ => test_link (h₁ s₁ rm N₁.st _ _ fun b s₂ pb σ₂ h₂ db N₂ =>
    h₂ s₂ a b rm N₂.st (da.mono N₂.ext) db _ _ fun c s₃ pc σ₃ h₃ dc N₃ => by
      obtain ⟨t, rfl, ht, hf⟩ := h₃
      cases dc
      refine wpAny_truthy_bool ?_
      cases t with
      | false => exact hQ _ s₃ σ₃ (hf rfl) (N₁.trans (N₂.trans N₃))
      | true =>
        rw [if_pos rfl]
        exact test_last (ht rfl s₃ rm N₃.st _ _ fun d s₄ pd σ₄ h₄ dd N₄ => h₄ s₄ b d rm N₄.st ((db.mono N₃.ext).mono N₄.ext) dd _ _ fun e s₅ pe σ₅ h₅ de N₅ => by
          obtain ⟨u, rfl, hu⟩ := h₅
          cases de
          exact wpAny_truthy_bool (hQ u s₅ σ₅ hu (N₁.trans (N₂.trans (N₃.trans (N₄.trans N₅)))))))) hm
/-- y = a list of what passes the test on its head; the name is set inside the comprehension -/
theorem seq_CompFilter {tst : Expr} {x it y : Str} {px px2 px3 py : Pos} {scope : Scope} {pos spos : Pos} {a : Addr} {l : List PV} {sts : List Stmt} {Φ : FP → Rho → Sig → Prop} (gs : Str → Bool)
    (hsw : swapsWith (.ListComp (.Name x px2) [⟨.Name x px, .Name it px3, [tst], 0⟩] scope pos) (some (.Name y py)) spos.line f.env = pure true)
    (hfree : ∀ y ∈ scope.names, y.2 ≠ .free) (hcell : ∀ y ∈ scope.names, y.2 ≠ .cell) (hkind : scope.kind = .function)
    (hnames : ∀ y ∈ scope.names, y.2 = .local → scope.names.lookup y.1 = some .local) (hx : scope.names.lookup x = some .local)
    (htest : ∀ (C : Addr) (s : Shared) (m : Str → Option Value) (v : Value) (y : Str) (l : List PV) (E' : Value → Shared → Prop) (Q : Bool → Shared → Prop), s.heap.Ns C m → m x = some v → Den s.heap v (.tup (.str y :: l)) → l.length < 16777215 →
      (∀ s', Keeps s s' → Q (gs y) s') → wpAny (model f.prog f.w) f.A (isTrue tst (compEnvC scope [] C f.env) (eval tst (compEnvC scope [] C f.env))) Q E' s)
    (hy : f.env.kindOf y = some .local) (hl : f.env.kindOf it = some .local) (e : ρ.lookup it = some (.ref a)) (ha : σ a = some l) (hz : l.length ≤ 16777216) (ho : ∀ p ∈ l, ∃ y m, p = .tup (.str y :: m) ∧ m.length < 16777215)
    (h : ∀ c, σ c = none → ExecsP f k sts ((y, .ref c) :: ρ) (upd σ c (l.filter (headK gs))) Φ)
    (hd : (x == ("__debug__" : Str)) = false := by decide) (hd2 : (it == ("__debug__" : Str)) = false := by decide) :
    ExecsP f k (.Assign [.Name y py] (.ListComp (.Name x px2) [⟨.Name x px, .Name it px3, [tst], 0⟩] scope pos) spos :: sts) ρ σ Φ := execs_cons' fun s rm S Q E hQ => by
  obtain ⟨m, hn, hm⟩ := S.loc
  obtain ⟨v, h1, h2⟩ := hm it _ e
  have := h2.toRef; subst this
  obtain ⟨vs, hls, hden, _, _⟩ := S.lst a l ha
  have hsz := hden.length
  simp at hsz
  have mem : ∀ v, v ∈ vs → ∃ y m, Den s.heap v (.tup (.str y :: m)) ∧ m.length < 16777215 := fun v hv => by
    obtain ⟨i, hi, rfl⟩ := Array.mem_iff_getElem.mp hv
    have hp : l[i]? = some l[i] := List.getElem?_eq_getElem (by omega)
    obtain ⟨y, m, hpe, hml⟩ := ho l[i] (List.getElem_mem _)
    exact ⟨y, m, hpe ▸ hden.get i _ _ (by simp [hi]) hp, hml⟩
  have hL0 : f.L < s.heap.objs.size := hn.lt
  refine wpAny_Assign_ListComp_free (cl := []) (fun v => match firstStr s.heap v with | some y => gs y | none => false) (fun v y => y = v) hsw (closureFor_none hfree) hcell hkind hnames hx hy (by rw [rm.ok.kind]; rfl) (wpAny_Name (wpAny_loadName_local rm.ok.kind hl hn h1 (wpAny_pyIter_list hls.isList ?_)) hd2) (fun _ => rfl)
  refine ⟨s.heap.objs.size, [s.heap.objs.size, a], [s.heap.objs.size], vs.size, _, _, m, rfl, Walks.list rm.ok.handled s.heap.objs.size a (Nat.ne_of_lt (LIs.lt hls)) vs, by rw [sizeLine_eq]; omega, ⟨⟨_, Heap.get?_push_size _ rfl, rfl, rfl⟩, hls.isList.push _⟩, ?_, ?_, hn.keeps (fun _ _ e => Heap.get?_push_of_some _ e), ⟨?_, ?_⟩, ?_⟩
  · intro b hb
    show b < (s.heap.push _).objs.size
    rw [Heap.size_push]
    simp only [List.mem_cons, List.not_mem_nil, or_false] at hb
    rcases hb with hb | hb
    · rw [hb]; exact Nat.lt_succ_self _
    · rw [hb]; exact Nat.lt_succ_of_lt (LIs.lt hls)
  · intro hb
    exact absurd (List.mem_singleton.mp hb) (Nat.ne_of_lt hL0)
  · intro C i v s₂ m₂ E' hC hv hn₂ hm₂ hk₂ _
    obtain ⟨y, ml, dv, hml⟩ := mem v (Array.mem_of_getElem? hv)
    refine isTrue_ifs (htest C s₂ m₂ v y ml E' _ hn₂ hm₂ (dv.mono (.of_all (old_of hk₂))) hml fun s' kk => ⟨?_, kk⟩)
    rw [firstStr_of dv]
  · intro C i v s₂ m₂ E' hC hv _ hn₂ hm₂ hk₂ _
    exact wpAny_Name (wpAny_loadName_local hkind (lookup_relabel_local hx) hn₂ hm₂ ⟨rfl, Keeps.refl _⟩) hd
  · intro D h' tk ys vs' hD _ hpl hlen hP hF hns' hk'
    have hyq := paired_eq hF
    have hvs : vs' = vs.toList := by
      refine List.ext_getElem? fun j => ?_
      by_cases hj : j < vs'.length
      · have := hP j _ (List.getElem?_eq_getElem hj)
        rw [List.getElem?_eq_getElem hj, Array.getElem?_toList, this]
      · rw [List.getElem?_eq_none (by omega), List.getElem?_eq_none (by simp; omega)]
    subst hvs
    have hx' : Heap.ExtBut f.L s.heap h' := fun b o hb eb => hk' b o hb (fun q => by rw [List.mem_singleton.mp q, get_size_none] at eb; cases eb) (Heap.get?_push_of_some _ eb)
    have tx : TExt s.heap h' := TExt.but hx' (ns_notTup hn)
    have hD' := none_of hD
    have hs : σ D = none := by
      cases e : σ D with
      | none => rfl
      | some l' => obtain ⟨_, ⟨n, h1⟩, _⟩ := S.lst _ _ e; rw [hD'] at h1; cases h1
    have hden' : DenL h' ys.toList (l.filter (headK gs)) := by
      rw [hyq]
      exact (filter_den gs hden fun p hp => let ⟨y, m, e, _⟩ := ho p hp; ⟨y, m, e⟩).mono tx
    refine hQ _ _ .next ((y, .ref D) :: ρ) (upd σ D (l.filter (headK gs))) (h D hs) trivial ⟨⟨fun b o eb => hx' b o (fun q => ?_) (S.keep b o eb), ⟨_, hns', fun z q ez => ?_⟩, fun b l2 eb => ?_⟩, tx, rfl⟩
    · rw [q, show f.base f.L = none from rm.ok.new] at eb; cases eb
    · rw [List.lookup_cons] at ez
      by_cases hz' : z = y
      · subst hz'
        simp at ez; subst ez
        exact ⟨.ref D, by simp, .ref _⟩
      · rw [beq_eq_false_iff_ne.mpr hz'] at ez
        obtain ⟨v', q1, q2⟩ := hm z q ez
        exact ⟨v', by simp [hz', q1], q2.mono tx⟩
    · by_cases q : b = D
      · subst q
        rw [upd_same] at eb; cases eb
        refine ⟨ys, hpl, hden', ?_, fun e => ?_⟩
        · cases eb : f.base b with
          | none => rfl
          | some o => have := S.keep _ _ eb; rw [hD'] at this; cases this
        · obtain ⟨o, es, ep, ho', _⟩ := hn
          rw [← e, hD'] at ho'; cases ho'
      · rw [upd_ne q] at eb
        obtain ⟨ws, ⟨n, g1⟩, g2, g3, g4⟩ := S.lst b l2 eb
        exact ⟨ws, ⟨n, hx' b _ g4 g1⟩, g2.mono tx, g3, g4⟩
end
section
variable {prog : Program} {w : World} {A : Around}
/-- order[0] is compared -/
theorem head_test {cenv : Env} {x : Str} {op : CmpOp} {r : Expr} {n : Nat} {p1 p2 p3 p4 : Pos} {s : Shared} {m : Str → Option Value} {v : Value} {y : Str} {l : List PV} {E' : Value → Shared → Prop} {Q : Bool → Shared → Prop} (gs : Str → Bool)
    (hk : cenv.scope.kind = .function) (hx : cenv.kindOf x = some .local) (hn : s.heap.Ns cenv.locals m) (hm : m x = some v) (d : Den s.heap v (.tup (.str y :: l))) (hz : l.length < 16777215)
    (hr : ∀ (s : Shared) (t : Tok) (Q : Value → Shared → Prop), (∀ s', Keeps s s' → Q (.bool (gs y)) s') → wpAny (model prog w) A (eval r cenv) (fun rv s₁ => wpAny (model prog w) A (compareOp op (.str y t) rv) Q E' s₁) E' s)
    (hQ : ∀ s', Keeps s s' → Q (gs y) s') (hd : (x == ("__debug__" : Str)) = false := by decide)
    (hmk : behindInMarks op r = false := by with_unfolding_all rfl) :
    wpAny (model prog w) A (isTrue (.Compare (.Subscript (.Name x p1) (.Constant (.int 0) n p2) p3) [op] [r] p4) cenv (eval (.Compare (.Subscript (.Name x p1) (.Constant (.int 0) n p2) p3) [op] [r] p4) cenv)) Q E' s := by
  obtain ⟨t, vs, rfl, tup, dl⟩ := d.toTup
  have hl := dl.length
  simp at hl
  obtain ⟨y0, h0, d0⟩ := dl.at (i := 0) (p := .str y) rfl
  obtain ⟨tk, rfl⟩ : ∃ tk, y0 = .str y tk := by cases d0; exact ⟨_, rfl⟩
  refine wpAny_isTrue_Compare1 (Subscript_ (wpAny_Name (wpAny_loadName_local hk hx hn hm (wpAny_Constant_int ?_)) hd)) hmk
  refine tail_any tup.typeIs slot_tuple_getitem.lookup (getItem_tuple tup (j := 0) (by omega) (by omega) (seqIndex_of (by decide) (by omega)) (by simpa using h0) ?_) rfl
  refine hr _ tk _ fun s' kk => wpAny_truthy_bool (hQ s' ?_)
  exact Keeps.trans ⟨s.heap, _, rfl, fun _ _ e => e⟩ kk
theorem head_eq {cenv : Env} {z : Str} {n : Nat} {p : Pos} {y : Str} {E' : Value → Shared → Prop} : ∀ (s : Shared) (t : Tok) (Q : Value → Shared → Prop), (∀ s', Keeps s s' → Q (.bool (y == z)) s') → wpAny (model prog w) A (eval (.Constant (.str z) n p) cenv) (fun rv s₁ => wpAny (model prog w) A (compareOp .Eq (.str y t) rv) Q E' s₁) E' s :=
  fun s t Q h => wpAny_Constant_str (eq_str (h _ ⟨s.heap, _, rfl, fun _ _ e => e⟩))
theorem head_notin {cenv : Env} {z1 z2 : Str} {n n2 n3 : Nat} {p p2 p3 : Pos} {y : Str} {E' : Value → Shared → Prop} : ∀ (s : Shared) (t : Tok) (Q : Value → Shared → Prop), (∀ s', Keeps s s' → Q (.bool (!([z1, z2].any fun x => x == y))) s') → wpAny (model prog w) A (eval (.Tuple [.Constant (.str z1) n p, .Constant (.str z2) n2 p2] n3 p3) cenv) (fun rv s₁ => wpAny (model prog w) A (compareOp .NotIn (.str y t) rv) Q E' s₁) E' s := by
  intro s t Q h
  refine wpAny_Tuple (wpAny_items_cons (wpAny_Constant_str (wpAny_items_cons (wpAny_Constant_str (wpAny_items_nil ?_)) rfl)) rfl)
  refine ⟨by rw [sizeLine_eq]; exact Nat.le_of_ble_eq_true rfl, ?_⟩
  refine notin_tuple_strs ⟨_, Heap.get?_push_size _ rfl, rfl, 0, rfl⟩ (.cons _ _ (.cons _ _ .nil)) (h _ ⟨_, _, rfl, fun _ _ e => Heap.get?_push_of_some _ e⟩)
end

/-! ## T1 -/
abbrev S (x : String) : Str := Str.ofString x

/-- what a leaf of the drawn pattern may be -/
inductive Leaf : Str → List PV → Prop where
  | chars (x : Str) : Leaf (Str.ofString "chars") [.str x]
  | len (n : Int) : Leaf (Str.ofString "len") [.int n]
  | pos (n : Int) : Leaf (Str.ofString "pos") [.int n]
  | rtab (n : Int) : Leaf (Str.ofString "rtab") [.int n]
  | rem : Leaf (Str.ofString "rem") []
  | arb : Leaf (Str.ofString "arb") []
  | bal : Leaf (Str.ofString "bal") []
  | fence : Leaf (Str.ofString "fence") []
  | fail : Leaf (Str.ofString "fail") []
  | abort : Leaf (Str.ofString "abort") []
  | succeed : Leaf (Str.ofString "succeed") []
  | cursor (r : Addr) : Leaf (Str.ofString "cursor") [.ref r]
  | delay (x y : Str) : Leaf (Str.ofString "delay") [.tup [.str x, .str y]]
  | span (x y z : Str) : Leaf (Str.ofString "span") [.tup [.str x, .tup [.str y, .str z]]]

inductive T where
  | leaf (kd : Str) (args : List PV)
  | arbno (t : T)
  | later (t : T) (r : Addr)
  | now (t : T) (r : Addr)
  | cat (t u : T)
  | alt (t u : T)
def T.pv : T → PV
  | .leaf kd args => .tup (.str kd :: args)
  | .arbno t => .tup [.str (Str.ofString "arbno"), t.pv]
  | .later t r => .tup [.str (Str.ofString "later"), t.pv, .ref r]
  | .now t r => .tup [.str (Str.ofString "now"), t.pv, .ref r]
  | .cat t u => .tup [.str (Str.ofString "cat"), t.pv, u.pv]
  | .alt t u => .tup [.str (Str.ofString "alt"), t.pv, u.pv]
def T.Ok : T → Prop
  | .leaf kd args => Leaf kd args
  | .arbno t => t.Ok
  | .later t _ => t.Ok
  | .now t _ => t.Ok
  | .cat t u => t.Ok ∧ u.Ok
  | .alt t u => t.Ok ∧ u.Ok
def T.size : T → Nat
  | .leaf _ _ => 1
  | .arbno t => t.size + 1
  | .later t _ => t.size + 1
  | .now t _ => t.size + 1
  | .cat t u => t.size + u.size + 1
  | .alt t u => t.size + u.size + 1
def kstr : Bool → Str
  | true => Str.ofString "cat"
  | false => Str.ofString "alt"
def row : Bool → T → List T
  | true, .cat a b => row true a ++ row true b
  | false, .alt a b => row false a ++ row false b
  | _, t => [t]
theorem T.size_pos (t : T) : 0 < t.size := by cases t <;> simp [T.size]
def T.kd : T → Str
  | .leaf kd _ => kd
  | .arbno _ => Str.ofString "arbno"
  | .later _ _ => Str.ofString "later"
  | .now _ _ => Str.ofString "now"
  | .cat _ _ => Str.ofString "cat"
  | .alt _ _ => Str.ofString "alt"
def T.args : T → List PV
  | .leaf _ args => args
  | .arbno t => [t.pv]
  | .later t r => [t.pv, .ref r]
  | .now t r => [t.pv, .ref r]
  | .cat t u => [t.pv, u.pv]
  | .alt t u => [t.pv, u.pv]
theorem T.pv_eq (t : T) : t.pv = .tup (.str t.kd :: t.args) := by cases t <;> rfl
/-- what a part is, seen from the kind c -/
theorem leaf_two {kd : Str} {args : List PV} (h : Leaf kd args) : (kd == Str.ofString "cat") = false ∧ (kd == Str.ofString "alt") = false := by
  cases h <;> exact ⟨by decide, by decide⟩
theorem T.split (c : Bool) (t : T) (ok : t.Ok) : ((t.kd == kstr c) = true ∧ ∃ a b, a.Ok ∧ b.Ok ∧ t.args = [a.pv, b.pv] ∧ row c t = row c a ++ row c b ∧ t.size = a.size + b.size + 1) ∨ ((t.kd == kstr c) = false ∧ row c t = [t]) := by
  cases t with
  | leaf kd args =>
    have h := leaf_two (ok : Leaf kd args)
    cases c with
    | true => exact .inr ⟨h.1, rfl⟩
    | false => exact .inr ⟨h.2, rfl⟩
  | arbno t => exact .inr ⟨by cases c <;> (dsimp only [T.kd, kstr]; decide), by cases c <;> rfl⟩
  | later t r => exact .inr ⟨by cases c <;> (dsimp only [T.kd, kstr]; decide), by cases c <;> rfl⟩
  | now t r => exact .inr ⟨by cases c <;> (dsimp only [T.kd, kstr]; decide), by cases c <;> rfl⟩
  | cat a b => cases c with
    | true => exact .inl ⟨by dsimp only [T.kd, kstr]; decide, a, b, ok.1, ok.2, rfl, rfl, rfl⟩
    | false => exact .inr ⟨by dsimp only [T.kd, kstr]; decide, rfl⟩
  | alt a b => cases c with
    | false => exact .inl ⟨by dsimp only [T.kd, kstr]; decide, a, b, ok.1, ok.2, rfl, rfl, rfl⟩
    | true => exact .inr ⟨by dsimp only [T.kd, kstr]; decide, rfl⟩
def sizes (l : List T) : Nat := (l.map T.size).sum
theorem sizes_append (l m : List T) : sizes (l ++ m) = sizes l + sizes m := by simp [sizes]
theorem sizes_row (c : Bool) : ∀ t : T, sizes (row c t) ≤ t.size
  | .leaf _ _ => by cases c <;> exact Nat.le_refl _
  | .arbno _ => by cases c <;> exact Nat.le_refl _
  | .later _ _ => by cases c <;> exact Nat.le_refl _
  | .now _ _ => by cases c <;> exact Nat.le_refl _
  | .cat a b => by
    cases c with
    | true => show sizes (row true a ++ row true b) ≤ _; rw [sizes_append]; exact Nat.le_succ_of_le (Nat.add_le_add (sizes_row true a) (sizes_row true b))
    | false => exact Nat.le_refl _
  | .alt a b => by
    cases c with
    | false => show sizes (row false a ++ row false b) ≤ _; rw [sizes_append]; exact Nat.le_succ_of_le (Nat.add_le_add (sizes_row false a) (sizes_row false b))
    | true => exact Nat.le_refl _
theorem length_le_sizes (l : List T) : l.length ≤ sizes l := by
  induction l with
  | nil => simp [sizes]
  | cons t l ih => simp only [sizes, List.map_cons, List.sum_cons, List.length_cons] at *; have := t.size_pos; omega
theorem row_ok (c : Bool) : ∀ t : T, t.Ok → ∀ u ∈ row c t, u.Ok
  | .leaf _ _, ok => by cases c <;> exact fun u hu => List.mem_singleton.mp hu ▸ ok
  | .arbno _, ok => by cases c <;> exact fun u hu => List.mem_singleton.mp hu ▸ ok
  | .later _ _, ok => by cases c <;> exact fun u hu => List.mem_singleton.mp hu ▸ ok
  | .now _ _, ok => by cases c <;> exact fun u hu => List.mem_singleton.mp hu ▸ ok
  | .cat a b, ok => by
    cases c with
    | true => exact fun u hu => (List.mem_append.mp (show u ∈ row true a ++ row true b from hu)).elim (row_ok true a ok.1 u) (row_ok true b ok.2 u)
    | false => exact fun u hu => List.mem_singleton.mp hu ▸ ok
  | .alt a b, ok => by
    cases c with
    | false => exact fun u hu => (List.mem_append.mp (show u ∈ row false a ++ row false b from hu)).elim (row_ok false a ok.1 u) (row_ok false b ok.2 u)
    | true => exact fun u hu => List.mem_singleton.mp hu ▸ ok

/-! ## T2 -/
/-! ### texts joined -/
def argText : List PV → Nat
  | [.str x] => x.length
  | _ => 0
def T.text : T → Nat
  | .leaf _ args => argText args
  | .arbno t => t.text
  | .later t _ => t.text
  | .now t _ => t.text
  | .cat t u => t.text + u.text
  | .alt t u => t.text + u.text
def texts (l : List T) : Nat := (l.map T.text).sum
theorem texts_append (l m : List T) : texts (l ++ m) = texts l + texts m := by simp [texts]
theorem texts_one (t : T) : texts [t] = t.text := by simp [texts]
theorem texts_row (c : Bool) : ∀ t : T, texts (row c t) ≤ t.text
  | .leaf _ _ => by cases c <;> exact Nat.le_refl _
  | .arbno _ => by cases c <;> exact Nat.le_refl _
  | .later _ _ => by cases c <;> exact Nat.le_refl _
  | .now _ _ => by cases c <;> exact Nat.le_refl _
  | .cat a b => by
    cases c with
    | true => show texts (row true a ++ row true b) ≤ _; rw [texts_append]; exact Nat.add_le_add (texts_row true a) (texts_row true b)
    | false => exact Nat.le_refl _
  | .alt a b => by
    cases c with
    | false => show texts (row false a ++ row false b) ≤ _; rw [texts_append]; exact Nat.add_le_add (texts_row false a) (texts_row false b)
    | true => exact Nat.le_refl _
/-- the text of a part that is a plain text -/
def T.chars? : T → Option Str
  | .leaf kd [.str x] => if kd == Str.ofString "chars" then some x else none
  | _ => none
def chars (x : Str) : T := .leaf (Str.ofString "chars") [.str x]
theorem T.chars_split (t : T) (ok : t.Ok) : (∃ x, t = chars x ∧ t.chars? = some x ∧ t.text = x.length) ∨ ((t.kd == Str.ofString "chars") = false ∧ t.chars? = none) := by
  cases t with
  | leaf kd args =>
    have ok' : Leaf kd args := ok
    cases ok' with
    | chars x => exact .inl ⟨x, rfl, by simp [T.chars?], rfl⟩
    | _ => exact .inr ⟨by dsimp only [T.kd]; decide, rfl⟩
  | arbno t => exact .inr ⟨by dsimp only [T.kd]; decide, rfl⟩
  | later t r => exact .inr ⟨by dsimp only [T.kd]; decide, rfl⟩
  | now t r => exact .inr ⟨by dsimp only [T.kd]; decide, rfl⟩
  | cat a b => exact .inr ⟨by dsimp only [T.kd]; decide, rfl⟩
  | alt a b => exact .inr ⟨by dsimp only [T.kd]; decide, rfl⟩
def joinStep (F : List T) (t : T) : List T :=
  match t.chars? with
  | none => F ++ [t]
  | some x => if x == Str.ofString "" then F else
    match F.getLast? with
    | some u => (match u.chars? with | some y => F.dropLast ++ [chars (y ++ x)] | none => F ++ [t])
    | none => F ++ [t]
def joinT (l : List T) : List T := l.foldl joinStep []
theorem joinT_snoc (l : List T) (t : T) : joinT (l ++ [t]) = joinStep (joinT l) t := by simp [joinT]
theorem snoc_ind {α : Type} {p : List α → Prop} (h0 : p []) (h1 : ∀ l a, p l → p (l ++ [a])) (l : List α) : p l := by
  have key : ∀ m : List α, p m.reverse := by
    intro m
    induction m with
    | nil => exact h0
    | cons a m ih => rw [List.reverse_cons]; exact h1 _ _ ih
  have := key l.reverse
  rwa [List.reverse_reverse] at this
theorem chars_text (x : Str) : (chars x).text = x.length := rfl
theorem chars_ok (x : Str) : (chars x).Ok := Leaf.chars x
theorem joinStep_ok {F : List T} {t : T} (hF : ∀ u ∈ F, u.Ok) (ht : t.Ok) : ∀ u ∈ joinStep F t, u.Ok := by
  have app : ∀ u ∈ F ++ [t], u.Ok := fun u hu => by
    rcases List.mem_append.mp hu with h | h
    · exact hF u h
    · rw [List.mem_singleton.mp h]; exact ht
  unfold joinStep
  cases t.chars? with
  | none => exact app
  | some x =>
    dsimp only
    split
    · exact hF
    · cases F.getLast? with
      | none => exact app
      | some u =>
        dsimp only
        cases u.chars? with
        | none => exact app
        | some y =>
          intro v hv
          rcases List.mem_append.mp hv with h | h
          · exact hF v ((List.dropLast_sublist F).subset h)
          · rw [List.mem_singleton.mp h]; exact chars_ok _
theorem chars?_eq {u : T} {y : Str} (h : u.chars? = some y) : u = chars y := by
  unfold T.chars? at h
  split at h
  · rename_i kd x
    split at h
    · rename_i hk
      cases h
      rw [beq_iff_eq] at hk
      rw [hk]; rfl
    · cases h
  · cases h
theorem joinStep_bounds (F : List T) (t : T) : texts (joinStep F t) ≤ texts F + t.text ∧ (joinStep F t).length ≤ F.length + 1 := by
  have app : texts (F ++ [t]) ≤ texts F + t.text ∧ (F ++ [t]).length ≤ F.length + 1 := by simp [texts]
  unfold joinStep
  cases ht : t.chars? with
  | none => exact app
  | some x =>
    dsimp only
    split
    · exact ⟨by omega, by omega⟩
    · rcases List.eq_nil_or_concat F with rfl | ⟨G, u, rfl⟩
      · exact app
      · rw [List.concat_eq_append] at *
        rw [List.getLast?_append, List.getLast?_singleton]
        dsimp only [Option.or]
        cases hu : u.chars? with
        | none => exact app
        | some y =>
          have e1 := chars?_eq hu
          have e2 := chars?_eq ht
          subst e1 e2
          dsimp only
          rw [List.dropLast_concat]
          simp only [texts_append, texts_one, chars_text, PySem.Str.length_append, List.length_append, List.length_singleton]
          omega
theorem joinT_ok {l : List T} (h : ∀ u ∈ l, u.Ok) : ∀ u ∈ joinT l, u.Ok := by
  refine snoc_ind (p := fun l => (∀ u ∈ l, u.Ok) → ∀ u ∈ joinT l, u.Ok) (fun _ u hu => by cases hu) (fun l t ih h => ?_) l h
  rw [joinT_snoc]
  exact joinStep_ok (ih fun u hu => h u (by simp [hu])) (h t (by simp))
theorem joinT_bounds (l : List T) : texts (joinT l) ≤ texts l ∧ (joinT l).length ≤ l.length := by
  refine snoc_ind (p := fun l => texts (joinT l) ≤ texts l ∧ (joinT l).length ≤ l.length) (by simp [joinT, texts]) (fun l t ih => ?_) l
  rw [joinT_snoc]
  have := joinStep_bounds (joinT l) t
  rw [texts_append, List.length_append, texts_one, List.length_singleton]
  omega
theorem text_le_of_mem {l : List T} {t : T} (h : t ∈ l) : t.text ≤ texts l := by
  induction l with
  | nil => cases h
  | cons a l ih =>
    simp only [texts, List.map_cons, List.sum_cons] at *
    rcases List.mem_cons.mp h with rfl | h
    · omega
    · have := ih h; omega

/-! ## T3 -/
/-! ### orders -/
abbrev oOne (kd : Str) (p : PV) : PV := .tup [.str (Str.ofString "one"), .str kd, p]
abbrev oSplit (g : Nat) : PV := .tup [.str (Str.ofString "split"), .int g]
abbrev oJump (g : Nat) : PV := .tup [.str (Str.ofString "jump"), .int g]
abbrev oMark : PV := .tup [.str (Str.ofString "mark")]
abbrev oGain : PV := .tup [.str (Str.ofString "gain")]
abbrev oDone : PV := .tup [.str (Str.ofString "done")]
abbrev oName (r : Addr) : PV := .tup [.str (Str.ofString "name"), .ref r]
abbrev oSet (r : Addr) : PV := .tup [.str (Str.ofString "set"), .ref r]
abbrev SINGLEs : List Str := [Str.ofString "chars", Str.ofString "len", Str.ofString "pos", Str.ofString "rpos", Str.ofString "tab", Str.ofString "rtab", Str.ofString "any", Str.ofString "notany", Str.ofString "span", Str.ofString "break", Str.ofString "rem"]
abbrev ALONEs : List Str := [Str.ofString "fence", Str.ofString "fail", Str.ofString "abort", Str.ofString "succeed"]
def leafOrder (kd : Str) (args : List PV) : PV :=
  if SINGLEs.any (fun y => y == kd) then oOne kd (args.head?.getD .none)
  else if (kd == Str.ofString "arb") || (kd == Str.ofString "bal") then .tup [.str (Str.ofString "ways"), .str kd]
  else if ALONEs.any (fun y => y == kd) then .tup [.str kd]
  else if kd == Str.ofString "cursor" then .tup [.str (Str.ofString "place"), args.head?.getD .none]
  else .tup [.str (Str.ofString "ask"), args.head?.getD .none]
def flush (tx : Str) : List PV := if tx != Str.ofString "" then [oOne (Str.ofString "chars") (.str tx)] else []
abbrev Acc := List PV × Str
def thenOrds (o : List PV) (s : Acc) : Acc := ((s.1 ++ flush s.2) ++ o, Str.ofString "")
def both : T → List PV × (Acc → Acc)
  | .leaf kd args => ([leafOrder kd args], fun s => match (T.leaf kd args).chars? with | some x => (s.1, s.2 ++ x) | none => thenOrds [leafOrder kd args] s)
  | .arbno t => let o := oMark :: (both t).1 ++ [oGain]; (o, thenOrds o)
  | .later t r => let o := oMark :: (both t).1 ++ [oName r]; (o, thenOrds o)
  | .now t r => let o := oMark :: (both t).1 ++ [oSet r]; (o, thenOrds o)
  | .alt a b => let o := (both a).1 ++ (both b).1; (o, thenOrds o)
  | .cat a b => let s := (both b).2 ((both a).2 ([], Str.ofString "")); (s.1 ++ flush s.2, fun s => (both b).2 ((both a).2 s))
def ords (t : T) : List PV := (both t).1
def accStep (s : Acc) (t : T) : Acc := match t.chars? with | some x => (s.1, s.2 ++ x) | none => thenOrds (ords t) s
def isCat : T → Bool
  | .cat _ _ => true
  | _ => false
theorem both_step {t : T} (h : isCat t = false) (s : Acc) : (both t).2 s = accStep s t := by
  cases t with
  | leaf kd args => rfl
  | cat a b => cases h
  | _ => rfl
theorem both_row : ∀ (t : T) (s : Acc), (both t).2 s = (row true t).foldl accStep s
  | .leaf kd args, s => both_step (t := .leaf kd args) rfl s
  | .arbno t, s => both_step (t := .arbno t) rfl s
  | .later t r, s => both_step (t := .later t r) rfl s
  | .now t r, s => both_step (t := .now t r) rfl s
  | .alt a b, s => both_step (t := .alt a b) rfl s
  | .cat a b, s => by
    show (both b).2 ((both a).2 s) = _
    rw [both_row b, both_row a]
    simp [row, List.foldl_append]
theorem ords_cat (a b : T) : ords (.cat a b) = (let s := (row true (.cat a b)).foldl accStep ([], Str.ofString ""); s.1 ++ flush s.2) := by
  rw [← both_row]; rfl
theorem ords_row : ∀ t : T, (row false t).flatMap ords = ords t
  | .leaf kd args => by simp [row]
  | .arbno t => by simp [row]
  | .later t r => by simp [row]
  | .now t r => by simp [row]
  | .cat a b => by simp [row]
  | .alt a b => by
    simp only [row, List.flatMap_append]
    rw [ords_row a, ords_row b]; rfl
theorem ords_chars (x : Str) : ords (chars x) = [oOne (Str.ofString "chars") (.str x)] := by
  show [leafOrder (Str.ofString "chars") [.str x]] = _
  unfold leafOrder
  rw [if_pos (by decide)]; rfl
theorem emptyS : Str.ofString "" = Str.empty := by decide
theorem empty_app (x : Str) : Str.ofString "" ++ x = x := by rw [emptyS]; exact PySem.Str.empty_append x
theorem app_empty (x : Str) : x ++ Str.ofString "" = x := by rw [emptyS]; exact PySem.Str.append_empty x
theorem append_ne_empty {y x : Str} (h : x ≠ Str.ofString "") : y ++ x ≠ Str.ofString "" := by
  intro e
  apply h
  have : (y ++ x).length = 0 := by rw [e]; decide
  rw [PySem.Str.length_append] at this
  have hx : x.cps.size = 0 := by have : x.length = 0 := by omega
                                 exact this
  apply PySem.Str.ext'
  rw [Array.size_eq_zero_iff.mp hx]; decide
theorem flush_empty : flush (Str.ofString "") = [] := by unfold flush; rw [if_neg (by decide)]
theorem flush_ne {x : Str} (h : x ≠ Str.ofString "") : flush x = [oOne (Str.ofString "chars") (.str x)] := by unfold flush; rw [if_pos (by rw [bne_iff_ne]; exact h)]
def JoinInv (L : List T) (s : Acc) : Prop :=
  (s.2 = Str.ofString "" ∧ s.1 = (joinT L).flatMap ords ∧ (joinT L).getLast?.bind T.chars? = none) ∨ (s.2 ≠ Str.ofString "" ∧ ∃ G, joinT L = G ++ [chars s.2] ∧ s.1 = G.flatMap ords)
theorem chars_chars (x : Str) : (chars x).chars? = some x := by simp [chars, T.chars?]
theorem join_inv (L : List T) : JoinInv L (L.foldl accStep ([], Str.ofString "")) := by
  refine snoc_ind (p := fun L => JoinInv L (L.foldl accStep ([], Str.ofString ""))) (.inl ⟨rfl, rfl, rfl⟩) (fun L t ih => ?_) L
  rw [List.foldl_append]
  show JoinInv (L ++ [t]) (accStep (L.foldl accStep ([], Str.ofString "")) t)
  generalize L.foldl accStep ([], Str.ofString "") = s at ih
  unfold JoinInv
  rw [joinT_snoc]
  unfold accStep
  cases ht : t.chars? with
  | none =>
    have hj : joinStep (joinT L) t = joinT L ++ [t] := by unfold joinStep; rw [ht]
    rw [hj]
    refine .inl ⟨rfl, ?_, ?_⟩
    · rcases ih with ⟨h1, h2, _⟩ | ⟨h1, G, h2, h3⟩
      · show (s.1 ++ flush s.2) ++ ords t = _
        rw [h1, flush_empty, h2]; simp
      · show (s.1 ++ flush s.2) ++ ords t = _
        rw [flush_ne h1, h2, h3]; simp [ords_chars]
    · rw [List.getLast?_append, List.getLast?_singleton]; exact ht
  | some x =>
    have et := chars?_eq ht
    subst et
    dsimp only
    by_cases hx : x = Str.ofString ""
    · have hj : joinStep (joinT L) (chars x) = joinT L := by unfold joinStep; rw [ht]; dsimp only; rw [if_pos (by rw [hx]; decide)]
      rw [hj, hx, app_empty]
      exact ih
    · refine .inr ⟨append_ne_empty hx, ?_⟩
      have hj : joinStep (joinT L) (chars x) = match (joinT L).getLast? with
          | some u => (match u.chars? with | some y => (joinT L).dropLast ++ [chars (y ++ x)] | none => joinT L ++ [chars x])
          | none => joinT L ++ [chars x] := by unfold joinStep; rw [ht]; dsimp only; rw [if_neg (by rw [beq_iff_eq]; exact hx)] <;> rfl
      rw [hj]
      rcases ih with ⟨h1, h2, h3⟩ | ⟨h1, G, h2, h3⟩
      · rw [h1, empty_app]
        refine ⟨joinT L, ?_, h2⟩
        cases hl : (joinT L).getLast? with
        | none => rfl
        | some u =>
          rw [hl] at h3
          have h3' : u.chars? = none := h3
          dsimp only; rw [h3']
      · refine ⟨G, ?_, h3⟩
        rw [h2, List.getLast?_append, List.getLast?_singleton]
        dsimp only [Option.or]
        rw [chars_chars, List.dropLast_concat]
theorem ords_join (a b : T) : ords (.cat a b) = (joinT (row true (.cat a b))).flatMap ords := by
  rw [ords_cat]
  dsimp only
  rcases join_inv (row true (.cat a b)) with ⟨h1, h2, _⟩ | ⟨h1, G, h2, h3⟩
  · rw [h1, flush_empty, h2]; simp
  · rw [flush_ne h1, h3, h2]; simp [ords_chars]

/-! ## T4 -/
/-! ### what a piece of orders must be -/
def isK (x : Str) : PV → Bool
  | .tup (.str y :: _) => y == x
  | _ => false
abbrev isSplit := isK (Str.ofString "split")
abbrev isJump := isK (Str.ofString "jump")
def plain (p : PV) : Bool := !(isSplit p || isJump p)
def calt : T → Nat
  | .leaf _ _ => 0
  | .arbno t => calt t
  | .later t _ => calt t
  | .now t _ => calt t
  | .cat a b => calt a + calt b
  | .alt a b => calt a + calt b + 1
def carb : T → Nat
  | .leaf _ _ => 0
  | .arbno t => carb t + 1
  | .later t _ => carb t
  | .now t _ => carb t
  | .cat a b => carb a + carb b
  | .alt a b => carb a + carb b
/-- an order is a tuple with a str at its head -/
def isOrd (p : PV) : Prop := ∃ x l, p = .tup (.str x :: l)
/-- os, laid from place n on: the orders without splits and jumps are o; ns splits, nj jumps; goals within; jumps go on, or back to a split -/
structure Piece (o : List PV) (ns nj : Nat) (n : Nat) (os : List PV) : Prop where
  plain : os.filter plain = o
  splits : os.countP isSplit = ns
  jumps : os.countP isJump = nj
  ord : ∀ p ∈ os, isOrd p
  split : ∀ p ∈ os, isSplit p = true → ∃ g : Nat, p = oSplit g ∧ n ≤ g ∧ g ≤ n + os.length
  jump : ∀ i p, os[i]? = some p → isJump p = true → ∃ g : Nat, p = oJump g ∧ n ≤ g ∧ g ≤ n + os.length ∧ (n + i < g ∨ ∃ q, os[g - n]? = some q ∧ isSplit q = true)
theorem isSplit_split (g : Nat) : isSplit (oSplit g) = true := by show (_ == _) = true; decide
theorem isJump_split (g : Nat) : isJump (oSplit g) = false := by show (_ == _) = false; decide
theorem isJump_jump (g : Nat) : isJump (oJump g) = true := by show (_ == _) = true; decide
theorem isSplit_jump (g : Nat) : isSplit (oJump g) = false := by show (_ == _) = false; decide
theorem plain_split (g : Nat) : Mine.plain (oSplit g) = false := by unfold Mine.plain; rw [isSplit_split]; rfl
theorem plain_jump (g : Nat) : Mine.plain (oJump g) = false := by unfold Mine.plain; rw [isJump_jump, isSplit_jump]; rfl
/-- os, laid from n on, holds a split at place g -/
def SplitAt (n : Nat) (os : List PV) (g : Nat) : Prop := n ≤ g ∧ ∃ q, os[g - n]? = some q ∧ isSplit q = true
theorem SplitAt.left {n g : Nat} {os os' : List PV} (h : SplitAt n os g) : SplitAt n (os ++ os') g := by
  obtain ⟨h1, q, h2, h3⟩ := h
  exact ⟨h1, q, by rw [List.getElem?_append_left (List.getElem?_eq_some_iff.mp h2).1]; exact h2, h3⟩
theorem SplitAt.right {n m g : Nat} {os os' : List PV} (hm : m = n + os.length) (h : SplitAt m os' g) : SplitAt n (os ++ os') g := by
  subst hm
  obtain ⟨h1, q, h2, h3⟩ := h
  refine ⟨Nat.le_trans (Nat.le_add_right _ _) h1, q, ?_, h3⟩
  rw [List.getElem?_append_right (Nat.le_sub_of_add_le (Nat.add_comm n _ ▸ h1)), Nat.sub_sub]
  exact h2
/-- an order that may stand at place k: its goal lies from lo to hi, and a jump goes on, or to a place of B -/
def Fine (lo hi : Nat) (B : Nat → Prop) (k : Nat) (p : PV) : Prop :=
  isOrd p ∧ (isSplit p = true → ∃ g : Nat, p = oSplit g ∧ lo ≤ g ∧ g ≤ hi) ∧ (isJump p = true → ∃ g : Nat, p = oJump g ∧ lo ≤ g ∧ g ≤ hi ∧ (k < g ∨ B g))
/-- R holds of each order and its place -/
def AllAt (R : Nat → PV → Prop) : Nat → List PV → Prop
  | _, [] => True
  | n, p :: l => R n p ∧ AllAt R (n + 1) l
theorem AllAt.append {R : Nat → PV → Prop} {l' : List PV} : ∀ {l : List PV} {n m : Nat}, m = n + l.length → AllAt R n l → AllAt R m l' → AllAt R n (l ++ l')
  | [], _, _, hm, _, h => by subst hm; exact h
  | p :: l, n, _, hm, h, h' => ⟨h.1, AllAt.append (hm.trans (Nat.add_right_comm n l.length 1)) h.2 h'⟩
theorem AllAt.mono {R R' : Nat → PV → Prop} (hR : ∀ k p, R k p → R' k p) : ∀ {l : List PV} {n : Nat}, AllAt R n l → AllAt R' n l
  | [], _, _ => trivial
  | _ :: _, _, h => ⟨hR _ _ h.1, h.2.mono hR⟩
theorem AllAt.get {R : Nat → PV → Prop} : ∀ {l : List PV} {n : Nat}, AllAt R n l → ∀ i p, l[i]? = some p → R (n + i) p
  | [], _, _, i, p, e => by simp at e
  | q :: l, n, h, 0, p, e => by simp at e; exact e ▸ h.1
  | q :: l, n, h, i + 1, p, e => by
    rw [List.getElem?_cons_succ] at e
    have := h.2.get i p e
    rwa [Nat.add_right_comm] at this
theorem AllAt.of {R : Nat → PV → Prop} : ∀ {l : List PV} {n : Nat}, (∀ i p, l[i]? = some p → R (n + i) p) → AllAt R n l
  | [], _, _ => trivial
  | q :: l, n, h => ⟨h 0 q rfl, AllAt.of fun i p e => (Nat.add_right_comm n i 1 ▸ h (i + 1) p e :)⟩
def Part (o : List PV) (ns nj lo hi : Nat) (B : Nat → Prop) (n : Nat) (os : List PV) : Prop := os.filter plain = o ∧ os.countP isSplit = ns ∧ os.countP isJump = nj ∧ AllAt (Fine lo hi B) n os
theorem Part.app {o o' : List PV} {a b a' b' lo hi n m : Nat} {B : Nat → Prop} {os os' : List PV} (hm : m = n + os.length) (x : Part o a b lo hi B n os) (y : Part o' a' b' lo hi B m os') : Part (o ++ o') (a + a') (b + b') lo hi B n (os ++ os') :=
  ⟨by rw [List.filter_append, x.1, y.1], by rw [List.countP_append, x.2.1, y.2.1], by rw [List.countP_append, x.2.2.1, y.2.2.1], x.2.2.2.append hm y.2.2.2⟩
theorem Part.mono {o : List PV} {a b lo hi lo' hi' n : Nat} {B B' : Nat → Prop} {os : List PV} (x : Part o a b lo hi B n os) (h1 : lo' ≤ lo) (h2 : hi ≤ hi') (hB : ∀ g, B g → B' g) : Part o a b lo' hi' B' n os :=
  ⟨x.1, x.2.1, x.2.2.1, x.2.2.2.mono fun _ _ h => ⟨h.1, fun hs => let ⟨g, e, l1, l2⟩ := h.2.1 hs; ⟨g, e, Nat.le_trans h1 l1, Nat.le_trans l2 h2⟩,
    fun hj => let ⟨g, e, l1, l2, l3⟩ := h.2.2 hj; ⟨g, e, Nat.le_trans h1 l1, Nat.le_trans l2 h2, l3.imp id (hB g)⟩⟩⟩
theorem Part.as {o o' : List PV} {a b a' b' lo hi n : Nat} {B : Nat → Prop} {os : List PV} (x : Part o a b lo hi B n os) (ho : o = o') (ha : a = a') (hb : b = b') : Part o' a' b' lo hi B n os := by rw [← ho, ← ha, ← hb]; exact x
theorem Piece.part {o : List PV} {a b n : Nat} {os : List PV} (x : Piece o a b n os) : Part o a b n (n + os.length) (SplitAt n os) n os :=
  ⟨x.plain, x.splits, x.jumps, .of fun i p e => ⟨x.ord p (List.mem_of_getElem? e), x.split p (List.mem_of_getElem? e), fun hj => let ⟨g, e', l1, l2, l3⟩ := x.jump i p e hj; ⟨g, e', l1, l2, l3.imp id fun h => ⟨l1, h⟩⟩⟩⟩
theorem Part.piece {o : List PV} {a b n : Nat} {os : List PV} (x : Part o a b n (n + os.length) (SplitAt n os) n os) : Piece o a b n os := by
  refine ⟨x.1, x.2.1, x.2.2.1, fun p hp => ?_, fun p hp => ?_, fun i p e hj => ?_⟩
  · obtain ⟨i, e⟩ := List.getElem?_of_mem hp
    exact (x.2.2.2.get i p e).1
  · obtain ⟨i, e⟩ := List.getElem?_of_mem hp
    exact (x.2.2.2.get i p e).2.1
  · obtain ⟨g, e', l1, l2, l3⟩ := (x.2.2.2.get i p e).2.2 hj
    exact ⟨g, e', l1, l2, l3.imp id And.right⟩
theorem part_plain {p : PV} {lo hi n : Nat} {B : Nat → Prop} (hs : isSplit p = false) (hj : isJump p = false) (ho : isOrd p) : Part [p] 0 0 lo hi B n [p] :=
  ⟨by simp [Mine.plain, hs, hj], by simp [hs], by simp [hj], ⟨ho, fun h => (by rw [hs] at h; cases h), fun h => (by rw [hj] at h; cases h)⟩, trivial⟩
theorem part_split {g lo hi n : Nat} {B : Nat → Prop} (h1 : lo ≤ g) (h2 : g ≤ hi) : Part [] 1 0 lo hi B n [oSplit g] :=
  ⟨by simp [plain_split], by simp [isSplit_split], by simp [isJump_split], ⟨⟨_, _, rfl⟩, fun _ => ⟨g, rfl, h1, h2⟩, fun h => (by rw [isJump_split] at h; cases h)⟩, trivial⟩
theorem part_jump {g lo hi n : Nat} {B : Nat → Prop} (h1 : lo ≤ g) (h2 : g ≤ hi) (h3 : n < g ∨ B g) : Part [] 0 1 lo hi B n [oJump g] :=
  ⟨by simp [plain_jump], by simp [isSplit_jump], by simp [isJump_jump], ⟨⟨_, _, rfl⟩, fun h => (by rw [isSplit_jump] at h; cases h), fun _ => ⟨g, rfl, h1, h2, h3⟩⟩, trivial⟩
theorem Piece.nil (n : Nat) : Piece [] 0 0 n [] := ⟨rfl, rfl, rfl, fun _ h => (by cases h), fun _ h => (by cases h), fun i p e => (by simp at e)⟩
theorem Piece.append {o o' : List PV} {a b a' b' n : Nat} {os os' : List PV} (x : Piece o a b n os) (y : Piece o' a' b' (n + os.length) os') : Piece (o ++ o') (a + a') (b + b') n (os ++ os') := by
  have e : n + (os ++ os').length = n + os.length + os'.length := by rw [List.length_append, Nat.add_assoc]
  exact ((x.part.mono (Nat.le_refl _) (e ▸ Nat.le_add_right _ _) fun _ h => h.left).app rfl (y.part.mono (Nat.le_add_right _ _) (Nat.le_of_eq e.symm) fun _ h => h.right rfl)).piece
theorem Piece.one {p : PV} {n : Nat} (hs : isSplit p = false) (hj : isJump p = false) (ho : isOrd p) : Piece [p] 0 0 n [p] := (part_plain hs hj ho).piece

/-- split · c · jump · d, from n on: the split's goal is behind the jump, the jump's goal is the end -/
theorem Piece.choice {o o' : List PV} {a b a' b' n : Nat} {c d : List PV} (x : Piece o a b (n + 1) c) (y : Piece o' a' b' (n + c.length + 2) d) :
    Piece (o ++ o') (a + a' + 1) (b + b' + 1) n (oSplit (n + c.length + 2) :: c ++ oJump (n + c.length + 2 + d.length) :: d) := by
  have hl : n + (oSplit (n + c.length + 2) :: c ++ oJump (n + c.length + 2 + d.length) :: d).length = n + c.length + 2 + d.length := by simp; omega
  have h1 : n + c.length + 2 ≤ n + c.length + 2 + d.length := Nat.le_add_right _ _
  have h2 : n + 1 + c.length ≤ n + c.length + 2 := by omega
  refine Part.piece ?_
  rw [hl]
  have p2 := x.part.mono (lo' := n) (Nat.le_succ n) (Nat.le_trans h2 h1) (B' := SplitAt n ([oSplit (n + c.length + 2)] ++ (c ++ oJump (n + c.length + 2 + d.length) :: d))) fun _ h => .right (os := [_]) rfl h.left
  have p4 := y.part.mono (lo' := n) (Nat.le_trans (Nat.le_add_right n _) (Nat.le_add_right _ 2)) (Nat.le_refl _) (B' := SplitAt n ([oSplit (n + c.length + 2)] ++ (c ++ oJump (n + c.length + 2 + d.length) :: d))) fun _ h => .right (os := [_]) (m := n + 1) rfl (.right (m := n + 1 + c.length) rfl (.right (os := [_]) (by rw [List.length_singleton]; omega) h))
  exact ((part_split (Nat.le_trans (Nat.le_add_right n _) (Nat.le_add_right _ 2)) h1).app (m := n + 1) rfl (p2.app (m := n + 1 + c.length) rfl ((part_jump (Nat.le_trans (Nat.le_trans (Nat.le_add_right n _) (Nat.le_add_right _ 2)) h1) (Nat.le_refl _) (.inl (by omega))).app (by rw [List.length_singleton]; omega) p4))).as rfl (by omega) (by omega)
/-- the repeat, from n on -/
theorem Piece.repeat {o : List PV} {a b n : Nat} {c : List PV} (x : Piece o a b (n + 3) c) :
    Piece (oMark :: o ++ [oGain]) (a + 1) (b + 2) n (oSplit (n + 2) :: oJump (n + c.length + 5) :: oMark :: c ++ [oGain, oJump n]) := by
  have hl : n + (oSplit (n + 2) :: oJump (n + c.length + 5) :: oMark :: c ++ [oGain, oJump n]).length = n + c.length + 5 := by simp; omega
  refine Part.piece ?_
  rw [hl]
  have hn : n ≤ n + c.length + 5 := Nat.le_trans (Nat.le_add_right n _) (Nat.le_add_right _ 5)
  have p4 := x.part.mono (lo' := n) (Nat.le_add_right n 3) (hi' := n + c.length + 5) (by omega) (B' := SplitAt n (oSplit (n + 2) :: oJump (n + c.length + 5) :: oMark :: c ++ [oGain, oJump n])) fun _ h => .right (os := [_, _, _]) rfl h.left
  have p5 := (part_plain (lo := n) (hi := n + c.length + 5) (B := SplitAt n (oSplit (n + 2) :: oJump (n + c.length + 5) :: oMark :: c ++ [oGain, oJump n])) (n := n + 3 + c.length) (p := oGain) (by show (_ == _) = false; decide) (by show (_ == _) = false; decide) ⟨_, _, rfl⟩).app (m := n + 3 + c.length + 1) rfl
    (part_jump (Nat.le_refl n) hn (.inr ⟨Nat.le_refl n, oSplit (n + 2), by rw [Nat.sub_self]; rfl, isSplit_split _⟩))
  exact ((part_split (Nat.le_add_right n 2) (by omega)).app (m := n + 1) rfl ((part_jump hn (Nat.le_refl _) (.inl (by omega))).app (m := n + 2) rfl ((part_plain (p := oMark) (by show (_ == _) = false; decide) (by show (_ == _) = false; decide) ⟨_, _, rfl⟩).app (m := n + 3) rfl (p4.app rfl p5)))).as rfl (by omega) (by omega)
theorem Piece.wrap {o : List PV} {a b n : Nat} {c : List PV} {q : PV} (x : Piece o a b (n + 1) c) (hs : isSplit q = false) (hj : isJump q = false) (ho : isOrd q) : Piece (oMark :: o ++ [q]) a b n (oMark :: c ++ [q]) := by
  have m1 : isSplit oMark = false := by show (_ == _) = false; decide
  have m2 : isJump oMark = false := by show (_ == _) = false; decide
  have h1 := (Piece.one (n := n) m1 m2 ⟨_, _, rfl⟩).append (x.append (Piece.one (n := n + 1 + c.length) hs hj ho))
  simpa using h1
abbrev Chunk (t : T) (n : Nat) (os : List PV) : Prop := Piece (ords t) (calt t + carb t) (calt t + 2 * carb t) n os

/-! ## T5 -/
/-! ### the pieces of a choice -/
def alts (e : PV) : Nat → List (List PV) → List PV
  | _, [] => []
  | n, c :: cs => oSplit (n + c.length + 2) :: c ++ e :: alts e (n + c.length + 2) cs
def endsAt : Nat → List (List PV) → List Nat
  | _, [] => []
  | n, c :: cs => (n + 1 + c.length) :: endsAt (n + c.length + 2) cs
def ChunksAt : Nat → List T → List (List PV) → Prop
  | _, [], [] => True
  | n, t :: ts, c :: cs => Chunk t (n + 1) c ∧ ChunksAt (n + c.length + 2) ts cs
  | _, _, _ => False
theorem alts_len (e e' : PV) : ∀ (cs : List (List PV)) (n m : Nat), (alts e n cs).length = (alts e' m cs).length
  | [], _, _ => rfl
  | c :: cs, n, m => by simp [alts, alts_len e e' cs (n + c.length + 2) (m + c.length + 2)]
theorem alts_snoc (e : PV) (c : List PV) : ∀ (cs : List (List PV)) (n : Nat), alts e n (cs ++ [c]) = alts e n cs ++ (oSplit (n + (alts e n cs).length + c.length + 2) :: c ++ [e])
  | [], n => by simp [alts]
  | d :: cs, n => by
    have ih := alts_snoc e c cs (n + d.length + 2)
    have e1 : n + (alts e n (d :: cs)).length + c.length + 2 = n + d.length + 2 + (alts e (n + d.length + 2) cs).length + c.length + 2 := by simp [alts]; omega
    rw [e1]
    simp only [List.cons_append, alts] at ih ⊢
    rw [ih]; simp
theorem endsAt_snoc (e : PV) (c : List PV) : ∀ (cs : List (List PV)) (n : Nat), endsAt n (cs ++ [c]) = endsAt n cs ++ [n + (alts e n cs).length + 1 + c.length]
  | [], n => by simp [alts, endsAt]
  | d :: cs, n => by
    simp only [List.cons_append, alts, endsAt, endsAt_snoc e c cs, List.length_cons, List.length_append]
    congr 3
    omega
theorem endsAt_len : ∀ (cs : List (List PV)) (n : Nat), (endsAt n cs).length = cs.length
  | [], _ => rfl
  | c :: cs, n => by simp [endsAt, endsAt_len cs]
theorem chunksAt_snoc (e : PV) {t : T} {c : List PV} : ∀ (ts : List T) (cs : List (List PV)) (n : Nat), ChunksAt n ts cs → Chunk t (n + (alts e n cs).length + 1) c → ChunksAt n (ts ++ [t]) (cs ++ [c])
  | [], [], n, _, h => by
    have h' : Chunk t (n + 1) c := by simpa [alts] using h
    exact ⟨h', trivial⟩
  | u :: ts, d :: cs, n, ⟨h1, h2⟩, h => by
    refine ⟨h1, chunksAt_snoc e ts cs _ h2 ?_⟩
    have : n + (alts e n (d :: cs)).length + 1 = n + d.length + 2 + (alts e (n + d.length + 2) cs).length + 1 := by simp [alts]; omega
    rw [← this]; exact h
  | [], _ :: _, _, h, _ => h.elim
  | _ :: _, [], _, h, _ => h.elim
theorem endsAt_lt (e : PV) : ∀ (cs : List (List PV)) (n : Nat), ∀ a ∈ endsAt n cs, n ≤ a ∧ a < n + (alts e n cs).length
  | [], _, a, h => by cases h
  | c :: cs, n, a, h => by
    simp only [endsAt, List.mem_cons] at h
    simp only [alts, List.cons_append, List.length_cons, List.length_append]
    rcases h with rfl | h
    · omega
    · have := endsAt_lt e cs _ a h; omega
theorem set_at (os : List PV) (a b : PV) (r : List PV) : (os ++ a :: r).set os.length b = os ++ b :: r := by
  rw [List.set_append_right _ _ (Nat.le_refl _), Nat.sub_self]; rfl
theorem fill_ends (E : PV) (d : List PV) : ∀ (cs : List (List PV)) (os : List PV), (endsAt os.length cs).foldl (fun X i => X.set i E) (os ++ alts .none os.length cs ++ d) = os ++ alts E os.length cs ++ d
  | [], os => rfl
  | c :: cs, os => by
    have h1 : os ++ alts .none os.length (c :: cs) ++ d = (os ++ oSplit (os.length + c.length + 2) :: c) ++ PV.none :: (alts .none (os.length + c.length + 2) cs ++ d) := by simp [alts]
    have hl : (os ++ oSplit (os.length + c.length + 2) :: c).length = os.length + 1 + c.length := by simp; omega
    rw [h1]
    simp only [endsAt, List.foldl_cons]
    rw [← hl, set_at]
    have h2 : (os ++ oSplit (os.length + c.length + 2) :: c) ++ E :: (alts .none (os.length + c.length + 2) cs ++ d) = ((os ++ oSplit (os.length + c.length + 2) :: c) ++ [E]) ++ alts .none (os.length + c.length + 2) cs ++ d := by simp
    have hl2 : ((os ++ oSplit (os.length + c.length + 2) :: c) ++ [E]).length = os.length + c.length + 2 := by simp; omega
    have ih := fill_ends E d cs ((os ++ oSplit (os.length + c.length + 2) :: c) ++ [E])
    rw [hl2] at ih
    have e3 : os.length + 1 + c.length + 1 = os.length + c.length + 2 := by omega
    rw [h2]
    refine Eq.trans ?_ (ih.trans ?_)
    · rfl
    · simp [alts]
def cA (l : List T) : Nat := (l.map fun t => calt t + carb t).sum
def cB (l : List T) : Nat := (l.map fun t => calt t + 2 * carb t).sum
theorem cA_append (l m : List T) : cA (l ++ m) = cA l + cA m := by simp [cA]
theorem cB_append (l m : List T) : cB (l ++ m) = cB l + cB m := by simp [cB]
theorem cA_one (t : T) : cA [t] = calt t + carb t := by simp [cA]
theorem cB_one (t : T) : cB [t] = calt t + 2 * carb t := by simp [cB]
theorem choice_piece {t : T} {d : List PV} : ∀ (ts : List T) (cs : List (List PV)) (n : Nat), ChunksAt n ts cs → ∀ E, E = n + (alts PV.none n cs).length + d.length → Chunk t (n + (alts .none n cs).length) d →
    Piece ((ts ++ [t]).flatMap ords) (cA (ts ++ [t]) + ts.length) (cB (ts ++ [t]) + ts.length) n (alts (oJump E) n cs ++ d)
  | [], [], n, _, E, hE, h => by
    have h' : Chunk t n d := by simpa [alts] using h
    simpa [alts, cA, cB] using h'
  | u :: ts, c :: cs, n, ⟨h1, h2⟩, E, hE, h => by
    have hlen : (alts PV.none n (c :: cs)).length = c.length + 2 + (alts PV.none (n + c.length + 2) cs).length := by simp [alts]; omega
    rw [hlen] at hE h
    have ih := choice_piece (t := t) (d := d) ts cs (n + c.length + 2) h2 E (by omega) (by rw [show n + c.length + 2 + (alts PV.none (n + c.length + 2) cs).length = n + (c.length + 2 + (alts PV.none (n + c.length + 2) cs).length) by omega]; exact h)
    have hE' : E = n + c.length + 2 + (alts (oJump E) (n + c.length + 2) cs ++ d).length := by
      rw [List.length_append, alts_len (oJump E) .none cs (n + c.length + 2) (n + c.length + 2)]; omega
    have := h1.choice ih
    rw [← hE'] at this
    have e1 : calt u + carb u + (cA (ts ++ [t]) + ts.length) + 1 = cA ((u :: ts) ++ [t]) + (u :: ts).length := by rw [← Nat.add_assoc]; rfl
    have e2 : calt u + 2 * carb u + (cB (ts ++ [t]) + ts.length) + 1 = cB ((u :: ts) ++ [t]) + (u :: ts).length := by rw [← Nat.add_assoc]; rfl
    rw [e1, e2] at this
    simpa [alts] using this
  | [], _ :: _, _, h, _, _, _ => h.elim
  | _ :: _, [], _, h, _, _, _ => h.elim
theorem sum_arith {x l p x' l' p' : Nat} (h : x + (l - 1) = p) (h' : x' + (l' - 1) = p') (hl : 0 < l) (hl' : 0 < l') : x + x' + (l + l' - 1) = p + p' + 1 := by
  obtain ⟨m, rfl⟩ := Nat.exists_eq_add_one_of_ne_zero (Nat.ne_of_gt hl)
  obtain ⟨m', rfl⟩ := Nat.exists_eq_add_one_of_ne_zero (Nat.ne_of_gt hl')
  rw [← h, ← h']
  exact congrArg (x + x' + ·) (Nat.add_right_comm m 1 m') |>.trans (congrArg (· + 1) (Nat.add_add_add_comm x x' m m'))
theorem calt_arith {a b c d : Nat} : a + c + (b + d) + 1 = a + b + 1 + (c + d) := by omega
theorem carb_arith {a b c d : Nat} : a + 2 * c + (b + 2 * d) + 1 = a + b + 1 + 2 * (c + d) := by omega
theorem counts_row : ∀ t : T, cA (row false t) + ((row false t).length - 1) = calt t + carb t ∧ cB (row false t) + ((row false t).length - 1) = calt t + 2 * carb t ∧ 0 < (row false t).length
  | .leaf _ _ => ⟨cA_one _, cB_one _, Nat.zero_lt_one⟩
  | .arbno _ => ⟨cA_one _, cB_one _, Nat.zero_lt_one⟩
  | .later _ _ => ⟨cA_one _, cB_one _, Nat.zero_lt_one⟩
  | .now _ _ => ⟨cA_one _, cB_one _, Nat.zero_lt_one⟩
  | .cat _ _ => ⟨cA_one _, cB_one _, Nat.zero_lt_one⟩
  | .alt a b => by
    have ha := counts_row a
    have hb := counts_row b
    show cA (row false a ++ row false b) + ((row false a ++ row false b).length - 1) = _ ∧ cB (row false a ++ row false b) + ((row false a ++ row false b).length - 1) = _ ∧ 0 < (row false a ++ row false b).length
    rw [cA_append, cB_append, List.length_append]
    exact ⟨(sum_arith ha.1 hb.1 ha.2.2 hb.2.2).trans calt_arith, (sum_arith ha.2.1 hb.2.1 ha.2.2 hb.2.2).trans carb_arith, Nat.lt_of_lt_of_le ha.2.2 (Nat.le_add_right _ _)⟩
theorem counts_rowT : ∀ t : T, cA (row true t) = calt t + carb t ∧ cB (row true t) = calt t + 2 * carb t
  | .leaf _ _ => ⟨cA_one _, cB_one _⟩
  | .arbno _ => ⟨cA_one _, cB_one _⟩
  | .later _ _ => ⟨cA_one _, cB_one _⟩
  | .now _ _ => ⟨cA_one _, cB_one _⟩
  | .alt _ _ => ⟨cA_one _, cB_one _⟩
  | .cat a b => by
    have ha := counts_rowT a
    have hb := counts_rowT b
    show cA (row true a ++ row true b) = (calt a + calt b) + (carb a + carb b) ∧ cB (row true a ++ row true b) = (calt a + calt b) + 2 * (carb a + carb b)
    rw [cA_append, cB_append, ha.1, ha.2, hb.1, hb.2, Nat.mul_add]
    exact ⟨Nat.add_add_add_comm _ _ _ _, Nat.add_add_add_comm _ _ _ _⟩
theorem counts_step (F : List T) (t : T) : cA (joinStep F t) = cA F + cA [t] ∧ cB (joinStep F t) = cB F + cB [t] := by
  have app : cA (F ++ [t]) = cA F + cA [t] ∧ cB (F ++ [t]) = cB F + cB [t] := ⟨cA_append _ _, cB_append _ _⟩
  unfold joinStep
  cases ht : t.chars? with
  | none => exact app
  | some x =>
    have e2 := chars?_eq ht
    subst e2
    have z : cA [chars x] = 0 ∧ cB [chars x] = 0 := ⟨rfl, rfl⟩
    dsimp only
    split
    · rw [z.1, z.2]; exact ⟨rfl, rfl⟩
    · rcases List.eq_nil_or_concat F with rfl | ⟨G, u, rfl⟩
      · exact app
      · rw [List.concat_eq_append] at *
        rw [List.getLast?_append, List.getLast?_singleton]
        dsimp only [Option.or]
        cases hu : u.chars? with
        | none => exact app
        | some y =>
          have e1 := chars?_eq hu
          subst e1
          have z1 : cA [chars y] = 0 ∧ cB [chars y] = 0 := ⟨rfl, rfl⟩
          have z2 : cA [chars (y ++ x)] = 0 ∧ cB [chars (y ++ x)] = 0 := ⟨rfl, rfl⟩
          dsimp only
          rw [List.dropLast_concat]
          simp only [cA_append, cB_append, z.1, z.2, z1.1, z1.2, z2.1, z2.2, Nat.add_zero, and_self]
theorem counts_join (l : List T) : cA (joinT l) = cA l ∧ cB (joinT l) = cB l := by
  refine snoc_ind (p := fun l => cA (joinT l) = cA l ∧ cB (joinT l) = cB l) ⟨rfl, rfl⟩ (fun l t ih => ?_) l
  rw [joinT_snoc]
  have := counts_step (joinT l) t
  rw [cA_append, cB_append, this.1, this.2, ih.1, ih.2]
  exact ⟨rfl, rfl⟩
theorem size_le_of_mem {l : List T} {t : T} (h : t ∈ l) : t.size ≤ sizes l := by
  induction l with
  | nil => cases h
  | cons a l ih =>
    simp only [sizes, List.map_cons, List.sum_cons] at *
    rcases List.mem_cons.mp h with rfl | h
    · omega
    · have := ih h; omega
theorem sizes_one (t : T) : sizes [t] = t.size := by simp [sizes]
theorem sizes_step (F : List T) (t : T) : sizes (joinStep F t) ≤ sizes F + t.size := by
  have app : sizes (F ++ [t]) ≤ sizes F + t.size := by rw [sizes_append, sizes_one]; omega
  unfold joinStep
  cases ht : t.chars? with
  | none => exact app
  | some x =>
    dsimp only
    split
    · omega
    · rcases List.eq_nil_or_concat F with rfl | ⟨G, u, rfl⟩
      · exact app
      · rw [List.concat_eq_append] at *
        rw [List.getLast?_append, List.getLast?_singleton]
        dsimp only [Option.or]
        cases hu : u.chars? with
        | none => exact app
        | some y =>
          dsimp only
          rw [List.dropLast_concat]
          have : (chars (y ++ x)).size = 1 := rfl
          have := t.size_pos
          have := u.size_pos
          simp only [sizes_append, sizes_one]
          omega
theorem sizes_join (l : List T) : sizes (joinT l) ≤ sizes l := by
  refine snoc_ind (p := fun l => sizes (joinT l) ≤ sizes l) (Nat.le_refl _) (fun l t ih => ?_) l
  rw [joinT_snoc]
  have := sizes_step (joinT l) t
  rw [sizes_append, sizes_one]
  omega

/-! ## T6 -/
inductive All2 {α β : Type} (R : α → β → Prop) : List α → List β → Prop
  | nil : All2 R [] []
  | cons {a : α} {b : β} {l : List α} {m : List β} : R a b → All2 R l m → All2 R (a :: l) (b :: m)
theorem All2.snoc {α β : Type} {R : α → β → Prop} {l : List α} {m : List β} {a : α} {b : β} (h : All2 R l m) (r : R a b) : All2 R (l ++ [a]) (m ++ [b]) := by
  induction h with
  | nil => exact .cons r .nil
  | cons r' _ ih => exact .cons r' ih
theorem All2.length {α β : Type} {R : α → β → Prop} {l : List α} {m : List β} (h : All2 R l m) : l.length = m.length := by
  induction h with
  | nil => rfl
  | cons _ _ ih => simp [ih]
theorem All2.get {α β : Type} {R : α → β → Prop} {l : List α} {m : List β} (h : All2 R l m) {i : Nat} {b : β} (e : m[i]? = some b) : ∃ a, l[i]? = some a ∧ R a b := by
  induction h generalizing i with
  | nil => simp at e
  | cons r _ ih => cases i with
    | zero => simp at e; subst e; exact ⟨_, rfl, r⟩
    | succ i => simp at e; simpa using ih e
theorem All2.get' {α β : Type} {R : α → β → Prop} {l : List α} {m : List β} (h : All2 R l m) {i : Nat} {a : α} (e : l[i]? = some a) : ∃ b, m[i]? = some b ∧ R a b := by
  induction h generalizing i with
  | nil => simp at e
  | cons r _ ih => cases i with
    | zero => simp at e; subst e; exact ⟨_, rfl, r⟩
    | succ i => simp at e; simpa using ih e

/-- what straightened may rely on -/
structure GoodX (X : List PV) : Prop where
  ord : ∀ (i : Nat) (p : PV), X[i]? = some p → isOrd p
  split : ∀ (i : Nat) (p : PV), X[i]? = some p → isSplit p = true → ∃ g : Nat, p = oSplit g ∧ g < X.length
  jump : ∀ (i : Nat) (p : PV), X[i]? = some p → isJump p = true → ∃ g : Nat, p = oJump g ∧ g < X.length ∧ (i < g ∨ ∃ q, X[g]? = some q ∧ isSplit q = true)
theorem done_split : isSplit oDone = false := by show (_ == _) = false; decide
theorem done_jump : isJump oDone = false := by show (_ == _) = false; decide
theorem Piece.good {o : List PV} {a b : Nat} {c : List PV} (h : Piece o a b 0 c) : GoodX (c ++ [oDone]) := by
  have hl : (c ++ [oDone]).length = c.length + 1 := by simp
  have pos : ∀ (i : Nat) (p : PV), (c ++ [oDone])[i]? = some p → c[i]? = some p ∨ p = oDone := fun i p e => by
    by_cases hi : i < c.length
    · rw [List.getElem?_append_left hi] at e; exact .inl e
    · rw [List.getElem?_append_right (by omega)] at e
      cases hq : i - c.length with
      | zero => rw [hq] at e; simp at e; exact .inr e.symm
      | succ n => rw [hq] at e; simp at e
  refine ⟨fun i p e => ?_, fun i p e hs => ?_, fun i p e hj => ?_⟩
  · rcases pos i p e with e | rfl
    · exact h.ord p (List.mem_of_getElem? e)
    · exact ⟨_, _, rfl⟩
  · rcases pos i p e with e | rfl
    · obtain ⟨g, e1, e2, e3⟩ := h.split p (List.mem_of_getElem? e) hs
      exact ⟨g, e1, by omega⟩
    · rw [done_split] at hs; cases hs
  · rcases pos i p e with e | rfl
    · obtain ⟨g, e1, e2, e3, e4⟩ := h.jump i p e hj
      refine ⟨g, e1, by omega, ?_⟩
      rcases e4 with e4 | ⟨q, e4, e5⟩
      · exact .inl (by omega)
      · rw [Nat.sub_zero] at e4
        exact .inr ⟨q, by rw [List.getElem?_append_left (List.getElem?_eq_some_iff.mp e4).1]; exact e4, e5⟩
    · rw [done_jump] at hj; cases hj
/-- an order, and what straightened makes of it -/
def SP (X : List PV) (p q : PV) : Prop := (plain p = true ∧ q = p) ∨ ∃ g : Nat, ((isSplit p = true ∧ q = oSplit g) ∨ (isJump p = true ∧ q = oJump g)) ∧ ∃ r, X[g]? = some r ∧ isJump r = false
def mu (X : List PV) (g : Nat) : Nat := match X[g]? with
  | some r => if isJump r then X.length - g + 1 else 0
  | none => 0
theorem mu_jump {X : List PV} (hX : GoodX X) {g : Nat} {r : PV} (hr : X[g]? = some r) (hj : isJump r = true) : ∃ g' : Nat, r = oJump g' ∧ g' < X.length ∧ mu X g' < mu X g := by
  obtain ⟨g', e, h1, h2⟩ := hX.jump g r hr hj
  refine ⟨g', e, h1, ?_⟩
  have hg : mu X g = X.length - g + 1 := by unfold mu; rw [hr]; dsimp only; rw [if_pos hj]
  have hlt := (List.getElem?_eq_some_iff.mp hr).1
  rw [hg]
  unfold mu
  cases hx : X[g']? with
  | none => exact Nat.succ_pos _
  | some q =>
    dsimp only
    split
    · rename_i hq
      rcases h2 with h2 | ⟨q', h2, h3⟩
      · omega
      · rw [hx] at h2; cases h2
        exfalso
        obtain ⟨x, l, rfl⟩ := hX.ord g' q hx
        have h4 : (x == Str.ofString "split") = true := h3
        have h5 : (x == Str.ofString "jump") = true := hq
        rw [beq_iff_eq] at h4 h5
        rw [h4] at h5
        exact absurd h5 (by decide)
    · exact Nat.succ_pos _

/-! ## T7 -/
def W2 (s : Acc) : Nat := s.1.length + (flush s.2).length
theorem flush_len (x : Str) : (flush x).length ≤ 1 := by unfold flush; split <;> simp
theorem W2_then (o : List PV) (s : Acc) : W2 (thenOrds o s) = W2 s + o.length := by
  unfold W2 thenOrds
  simp [flush_empty]; omega
theorem then_len {o : List PV} {s : Acc} {n : Nat} (h : o.length ≤ n) : W2 (thenOrds o s) ≤ W2 s + n := by rw [W2_then]; exact Nat.add_le_add_left h _
theorem both_wrap {l : List PV} {n : Nat} (q : PV) (h : l.length ≤ 2 * n) : (oMark :: l ++ [q]).length ≤ 2 * (n + 1) := by
  rw [List.length_append]
  exact Nat.add_le_add_right h 2
theorem both_two {l m : List PV} {a b : Nat} (ha : l.length ≤ 2 * a) (hb : m.length ≤ 2 * b) : (l ++ m).length ≤ 2 * (a + b + 1) := by
  rw [List.length_append, Nat.mul_add, Nat.mul_add]
  exact Nat.le_trans (Nat.add_le_add ha hb) (Nat.le_add_right _ _)
theorem both_len : ∀ t : T, (both t).1.length ≤ 2 * t.size ∧ ∀ s, W2 ((both t).2 s) ≤ W2 s + 2 * t.size
  | .leaf kd args => by
    refine ⟨by simp [both, T.size], fun s => ?_⟩
    have e : (both (.leaf kd args)).2 s = match (T.leaf kd args).chars? with | some x => (s.1, s.2 ++ x) | none => thenOrds [leafOrder kd args] s := rfl
    rw [e]
    cases (T.leaf kd args).chars? with
    | some x =>
      have := flush_len (s.2 ++ x)
      simp only [W2, T.size] at *
      omega
    | none => simp only [W2_then, T.size, List.length_singleton]; omega
  | .arbno t => have h := both_wrap oGain (both_len t).1; ⟨h, fun _ => then_len h⟩
  | .later t r => have h := both_wrap (oName r) (both_len t).1; ⟨h, fun _ => then_len h⟩
  | .now t r => have h := both_wrap (oSet r) (both_len t).1; ⟨h, fun _ => then_len h⟩
  | .alt a b => have h := both_two (both_len a).1 (both_len b).1; ⟨h, fun _ => then_len h⟩
  | .cat a b => by
    have ia := both_len a
    have ib := both_len b
    refine ⟨?_, fun s => ?_⟩
    · have h1 := ia.2 ([], Str.ofString "")
      have h2 := ib.2 ((both a).2 ([], Str.ofString ""))
      have h0 : W2 ([], Str.ofString "") = 0 := by simp [W2, flush_empty]
      simp only [both, List.length_append, T.size]
      simp only [W2] at *
      omega
    · have h1 := ia.2 s
      have h2 := ib.2 ((both a).2 s)
      simp only [both, T.size]
      omega
theorem ords_len (t : T) : (ords t).length ≤ 2 * t.size := (both_len t).1
theorem acc_bound (t : T) (s : Acc) : W2 (accStep s t) ≤ W2 s + 2 * t.size ∧ (accStep s t).2.length ≤ s.2.length + t.text := by
  unfold accStep
  have hp := t.size_pos
  cases e : t.chars? with
  | some x =>
    have := chars?_eq e
    subst this
    refine ⟨?_, ?_⟩
    · have := flush_len (s.2 ++ x)
      simp only [W2] at *
      omega
    · rw [chars_text]; show (s.2 ++ x).length ≤ _; rw [PySem.Str.length_append]; omega
  | none =>
    refine ⟨by rw [W2_then]; have := ords_len t; omega, ?_⟩
    show (Str.ofString "").length ≤ _
    rw [show (Str.ofString "").length = 0 from rfl]; omega
theorem foldl_bound : ∀ (l : List T) (s : Acc), W2 (l.foldl accStep s) ≤ W2 s + 2 * sizes l ∧ (l.foldl accStep s).2.length ≤ s.2.length + texts l
  | [], s => by simp
  | t :: l, s => by
    have h1 := acc_bound t s
    have h2 := foldl_bound l (accStep s t)
    have e1 : sizes (t :: l) = t.size + sizes l := by simp [sizes]
    have e2 : texts (t :: l) = t.text + texts l := by simp [texts]
    rw [List.foldl_cons, e1, e2]
    omega
theorem sizes_take (l : List T) (n : Nat) : sizes (l.take n) ≤ sizes l := by
  have : sizes l = sizes (l.take n) + sizes (l.drop n) := by rw [← sizes_append, List.take_append_drop]
  omega
theorem texts_take (l : List T) (n : Nat) : texts (l.take n) ≤ texts l := by
  have : texts l = texts (l.take n) + texts (l.drop n) := by rw [← texts_append, List.take_append_drop]
  omega
/-- the state before turn i -/
def stAt (l : List T) (i : Nat) : Acc := (l.take i).foldl accStep ([], Str.ofString "")
theorem stAt_succ {l : List T} {i : Nat} {u : T} (e : l[i]? = some u) : stAt l (i + 1) = accStep (stAt l i) u := by
  unfold stAt
  rw [List.take_add_one, e]
  simp
theorem stAt_bound (l : List T) (i : Nat) : (stAt l i).1.length ≤ 2 * sizes l ∧ (stAt l i).2.length ≤ texts l := by
  have h := foldl_bound (l.take i) ([], Str.ofString "")
  have h1 := sizes_take l i
  have h2 := texts_take l i
  have h0 : W2 ([], Str.ofString "") = 0 := by simp [W2, flush_empty]
  have h3 : (([], Str.ofString "") : Acc).2.length = 0 := rfl
  rw [h0] at h
  unfold stAt
  simp only [W2] at *
  omega
theorem stAt_end (a b : T) : (stAt (row true (.cat a b)) (row true (.cat a b)).length).1 ++ flush (stAt (row true (.cat a b)) (row true (.cat a b)).length).2 = ords (.cat a b) := by
  rw [ords_cat]; unfold stAt; rw [List.take_length]

/-! ## F0 -/
theorem fill : PySem.Challenge.rw_nz0406_01 = PySem.Challenge.rw_nz0406_01 ∧ hd.heap_39 = hd.heap_39 := by
  k_fill
  exact ⟨rfl, rfl⟩
noncomputable abbrev FF (prog : Program) (w : World) (P : Params) (A : Around) (env : Env) (base : Addr → Option Obj) : Fm := ⟨prog, w, hd.heap_39 P, A, env, base⟩

section
variable {prog : Program} {w : World} {P : Params} {A : Around} {env : Env} {base : Addr → Option Obj}
theorem nv_k {x : Str} {v : Value} (e : nsIn (hd.heap_39 P) mainGlobals x = some (some v)) (hd : (x == ("__debug__" : Str)) = false := by decide) (hx : env.kindOf x = some .globalImplicit) : NameV (FF prog w P A env base) x v := nameV_global hx e hd
theorem nv_b {x : Str} {v : Value} (e : nsIn (hd.heap_39 P) mainGlobals x = some none) (hv : bootBuiltins x = some v) (hn : x ≠ "__name__" := by decide) (hd : (x == ("__debug__" : Str)) = false := by decide) (hx : env.kindOf x = some .globalImplicit) : NameV (FF prog w P A env base) x v := nameV_builtin hx e hv hn hd

theorem nv_len (hx : env.kindOf (Str.ofString "len") = some .globalImplicit) : NameV (FF prog w P A env base) (Str.ofString "len") (.builtin "len") := nv_b (by k_is) (by boot_by_name) (hx := hx)
theorem nv_isinstance (hx : env.kindOf (Str.ofString "isinstance") = some .globalImplicit) : NameV (FF prog w P A env base) (Str.ofString "isinstance") (.builtin "isinstance") := nv_b (by k_is) (by boot_by_name) (hx := hx)
theorem nv_sum (hx : env.kindOf (Str.ofString "sum") = some .globalImplicit) : NameV (FF prog w P A env base) (Str.ofString "sum") (.builtin "sum") := nv_b (by k_is) (by boot_by_name) (hx := hx)
theorem nv_int (hx : env.kindOf (Str.ofString "int") = some .globalImplicit) : NameV (FF prog w P A env base) (Str.ofString "int") (.type "int") := nv_b (by k_is) (by boot_by_name) (hx := hx)
theorem nv_list (hx : env.kindOf (Str.ofString "list") = some .globalImplicit) : NameV (FF prog w P A env base) (Str.ofString "list") (.type "list") := nv_b (by k_is) (by boot_by_name) (hx := hx)
theorem nv_str (hx : env.kindOf (Str.ofString "str") = some .globalImplicit) : NameV (FF prog w P A env base) (Str.ofString "str") (.type "str") := nv_b (by k_is) (by boot_by_name) (hx := hx)
theorem nv_row_of (hx : env.kindOf (Str.ofString "row_of") = some .globalImplicit) : NameV (FF prog w P A env base) (Str.ofString "row_of") (.ref 23) := nv_k (by k_is) (hx := hx)
theorem nv_is_plain_text (hx : env.kindOf (Str.ofString "is_plain_text") = some .globalImplicit) : NameV (FF prog w P A env base) (Str.ofString "is_plain_text") (.ref 30) := nv_k (by k_is) (hx := hx)
theorem nv_with_texts_joined (hx : env.kindOf (Str.ofString "with_texts_joined") = some .globalImplicit) : NameV (FF prog w P A env base) (Str.ofString "with_texts_joined") (.ref 37) := nv_k (by k_is) (hx := hx)
theorem nv_PatternCode (hx : env.kindOf (Str.ofString "PatternCode") = some .globalImplicit) : NameV (FF prog w P A env base) (Str.ofString "PatternCode") (.ref 82) := nv_k (by k_is) (hx := hx)
theorem nv_straightened (hx : env.kindOf (Str.ofString "straightened") = some .globalImplicit) : NameV (FF prog w P A env base) (Str.ofString "straightened") (.ref 93) := nv_k (by k_is) (hx := hx)
theorem nv_compile_pattern (hx : env.kindOf (Str.ofString "compile_pattern") = some .globalImplicit) : NameV (FF prog w P A env base) (Str.ofString "compile_pattern") (.ref 100) := nv_k (by k_is) (hx := hx)
theorem nv_NameRef (hx : env.kindOf (Str.ofString "NameRef") = some .globalImplicit) : NameV (FF prog w P A env base) (Str.ofString "NameRef") (.ref 117) := nv_k (by k_is) (hx := hx)
theorem nv_law_take (hx : env.kindOf (Str.ofString "_law_take") = some .globalImplicit) : NameV (FF prog w P A env base) (Str.ofString "_law_take") (.ref 128) := nv_k (by k_is) (hx := hx)
theorem nv_law_node (hx : env.kindOf (Str.ofString "_law_node") = some .globalImplicit) : NameV (FF prog w P A env base) (Str.ofString "_law_node") (.ref 135) := nv_k (by k_is) (hx := hx)
theorem nv_law_row (hx : env.kindOf (Str.ofString "_law_row") = some .globalImplicit) : NameV (FF prog w P A env base) (Str.ofString "_law_row") (.ref 142) := nv_k (by k_is) (hx := hx)
theorem nv_law_orders (hx : env.kindOf (Str.ofString "_law_orders") = some .globalImplicit) : NameV (FF prog w P A env base) (Str.ofString "_law_orders") (.ref 149) := nv_k (by k_is) (hx := hx)
theorem nv_law_count (hx : env.kindOf (Str.ofString "_law_count") = some .globalImplicit) : NameV (FF prog w P A env base) (Str.ofString "_law_count") (.ref 154) := nv_k (by k_is) (hx := hx)
/-- a name of the top that holds a str -/
theorem nv_str_k {x y : Str} {t : Tok} {k : Nat} {ρ : Rho} {σ : Sig} {pos : Pos} {Φ : PV → Sig → Prop} (hx : env.kindOf x = some .globalImplicit) (e : nsIn (hd.heap_39 P) mainGlobals x = some (some (.str y t))) (h : Φ (.str y) σ) (hd : (x == ("__debug__" : Str)) = false := by decide) :
    EvalP (FF prog w P A env base) k (.Name x pos) ρ σ Φ := eval_nameV (nv_k e hd hx) (fun _ => .str _ _) h
end
theorem upd_self {σ : Sig} {a : Addr} {l : List PV} (h : σ a = some l) : upd σ a l = σ := by
  funext b; unfold upd
  by_cases e : b = a
  · rw [if_pos e, e, h]
  · rw [if_neg e]
section
variable {prog : Program} {w : World} {P : Params} {A : Around} {env : Env} {base : Addr → Option Obj} {k : Nat} {ρ : Rho} {σ : Sig}
/-- a def's call: its body is walked for any Ψ that follows from what is asked -/
theorem callF {fa : Addr} {name qual : Str} {params : Arguments} {body : List Stmt} {scope : Scope} {dV kV doc pm cdv ct oc : Value} {an od : Option Addr} {osl : Array (Option Value)} {ps : List PV} {Φ : PV → Sig → Prop} (xs : List Str)
    (ho : (hd.heap_39 P).lookup fa = some ⟨oc, od, .func (fnOf name qual params body scope dV kV doc pm an cdv ct), osl⟩) (hcd : codeIn (hd.heap_39 P) cdv qual = true)
    (hbind : ∀ vs : List Value, vs.length = ps.length → bindArgs (fnOf name qual params body scope dV kV doc pm an cdv ct) ⟨vs, []⟩ = pure (xs.zip vs))
    (hloc : ∀ x ∈ xs, scope.names.lookup x = some .local) (hcell : ∀ x ∈ scope.names, x.2 ≠ .cell) (hco : scope.isCoroutine = false) (hgen : scope.isGenerator = false) (hk : scope.kind = .function)
    (hbody : ∀ (A' : Around) (L' : Addr) (base' : Addr → Option Obj), (∀ b o, base b = some o → base' b = some o) →
      ∀ Ψ : FP → Rho → Sig → Prop, (∀ q ρ' σ', Φ q.val σ' → Ψ q ρ' σ') → ExecsP (FF prog w P A' (envOf qual scope L' fa cdv) base') k body ((xs.zip ps).reverse) σ Ψ) :
    CallP (FF prog w P A env base) (k + 1) (.ref fa) ps ρ σ Φ :=
  callP_def xs ho hcd hbind hloc hcell hco hgen hk fun A' L' base' up => hbody A' L' base' up _ fun _ _ _ h => h
end
section
variable {f : Fm} {k : Nat} {ρ : Rho} {σ : Sig}
/-- a test that answers c and changes nothing -/
def IsT (f : Fm) (k : Nat) (t : Expr) (ρ : Rho) (σ : Sig) (c : Bool) : Prop := TestP f k t ρ σ fun b σ' => b = c ∧ σ' = σ
theorem IsT.use {t : Expr} {c : Bool} {Φ : Bool → Sig → Prop} (h : IsT f k t ρ σ c) (hp : Φ c σ) : TestP f k t ρ σ Φ := fun s rm S Q E hQ => h s rm S Q E fun b s' σ' ⟨hb, hs⟩ => hQ b s' σ' (by rw [hb, hs]; exact hp)
theorem if_ff {t : Expr} {a b sts : List Stmt} {pos : Pos} {Φ : FP → Rho → Sig → Prop} (ht : IsT f k t ρ σ false) (h : ExecsP f k (b ++ sts) ρ σ Φ) : ExecsP f k (.If t a b pos :: sts) ρ σ Φ :=
  seq_If (ht.use ⟨fun h => (nomatch h), fun _ => h⟩)
theorem if_tt {t : Expr} {a b sts : List Stmt} {pos : Pos} {Φ : FP → Rho → Sig → Prop} (ht : IsT f k t ρ σ true) (h : ExecsP f k (a ++ sts) ρ σ Φ) : ExecsP f k (.If t a b pos :: sts) ρ σ Φ :=
  seq_If (ht.use ⟨fun _ => h, fun h => (nomatch h)⟩)
theorem isT_eq {x lit s : Str} {px cp cpos : Pos} {c1 : Nat} {c : Bool} (hl : f.env.kindOf x = some .local) (e : ρ.lookup x = some (.str s)) (h : (s == lit) = c) (hd : (x == ("__debug__" : Str)) = false := by decide) :
    IsT f k (.Compare (.Name x px) [.Eq] [.Constant (.str lit) c1 cpos] cp) ρ σ c :=
  test_Compare1 (eval_local hl e (eval_str (eq_ss ⟨_, rfl, h, rfl⟩)) hd)
theorem isT_or2 {e1 e2 : Expr} {pos : Pos} {c : Bool} (h1 : IsT f k e1 ρ σ false) (h2 : IsT f k e2 ρ σ c) : IsT f k (.BoolOp .Or [e1, e2] pos) ρ σ c :=
  test_or (all_or_cons (h1.use ⟨fun _ => all_or_cons (h2.use ⟨fun h => all_or_nil ⟨h.symm, rfl⟩, fun h => ⟨h.symm, rfl⟩⟩), fun h => nomatch h⟩))
theorem isT_or1 {e1 : Expr} {es : List Expr} {pos : Pos} (h1 : IsT f k e1 ρ σ true) : IsT f k (.BoolOp .Or (e1 :: es) pos) ρ σ true :=
  test_or (all_or_cons (h1.use ⟨fun h => (nomatch h), fun _ => ⟨rfl, rfl⟩⟩))
/-- an expression that gives p and changes nothing -/
def IsE (f : Fm) (k : Nat) (e : Expr) (ρ : Rho) (σ : Sig) (p : PV) : Prop := EvalP f k e ρ σ fun q σ' => q = p ∧ σ' = σ
theorem IsE.use {e : Expr} {p : PV} {Φ : PV → Sig → Prop} (h : IsE f k e ρ σ p) (hp : Φ p σ) : EvalP f k e ρ σ Φ := ValP.mono h fun q σ' ⟨a, b⟩ => (by rw [a, b]; exact hp)
theorem isE_local {x : Str} {p : PV} {pos : Pos} (hl : f.env.kindOf x = some .local) (e : ρ.lookup x = some p) (hd : (x == ("__debug__" : Str)) = false := by decide) : IsE f k (.Name x pos) ρ σ p := eval_local hl e ⟨rfl, rfl⟩ hd
theorem isE_str {x : Str} {x1 pos} : IsE f k (.Constant (.str x) x1 pos) ρ σ (.str x) := eval_str ⟨rfl, rfl⟩
theorem isE_none {x1 pos} : IsE f k (.Constant .none x1 pos) ρ σ .none := eval_none ⟨rfl, rfl⟩
/-- part i of a tuple that a local name holds -/
theorem isE_item {x : Str} {l : List PV} {i : Int} {p : PV} {c1 : Nat} {px cpos pos : Pos} (hl : f.env.kindOf x = some .local) (e : ρ.lookup x = some (.tup l)) (h0 : 0 ≤ i) (hi : i < 16777216) (hp : l[i.toNat]? = some p) (hd : (x == ("__debug__" : Str)) = false := by decide) :
    IsE f k (.Subscript (.Name x px) (.Constant (.int i) c1 cpos) pos) ρ σ p := eval_Subscript' (eval_local hl e (eval_int (sub_tup h0 hi hp ⟨rfl, rfl⟩)) hd)
/-- `x = e`, e being so -/
theorem let_is {x : Str} {px pos : Pos} {e : Expr} {p : PV} {sts : List Stmt} {Φ : FP → Rho → Sig → Prop} (hl : f.env.kindOf x = some .local) (h : IsE f k e ρ σ p) (hr : ExecsP f k sts ((x, p) :: ρ) σ Φ)
    (hs : swapsWith e (some (.Name x px)) pos.line f.env = pure false) : ExecsP f k (.Assign [.Name x px] e pos :: sts) ρ σ Φ := seq_assign hl (h.use hr) hs
def AreE (f : Fm) (k : Nat) (pos : Pos) (es : List Expr) (ρ : Rho) (σ : Sig) (ps : List PV) : Prop := ArgsP f k pos es ρ σ fun qs σ' => qs = ps ∧ σ' = σ
theorem areE_nil {pos : Pos} : AreE f k pos [] ρ σ [] := args_nil ⟨rfl, rfl⟩
theorem areE_cons {pos : Pos} {e : Expr} {es : List Expr} {p : PV} {ps : List PV} (h : IsE f k e ρ σ p) (ht : AreE f k pos es ρ σ ps) (he : ∀ env, starEach (e :: es) env = (false, eval e env) :: starEach es env := by intro _; rfl) : AreE f k pos (e :: es) ρ σ (p :: ps) :=
  args_cons (h.use fun s rm S Q E hQ => ht s rm S Q E fun vs s' qs σ' ⟨a, b⟩ => hQ vs s' qs σ' ⟨(by rw [a]), b⟩) he
theorem isE_tup {es : List Expr} {x1 : Nat} {pos : Pos} {ps : List PV} (h : AreE f k pos es ρ σ ps) (hz : ps.length ≤ 16777216) : IsE f k (.Tuple es x1 pos) ρ σ (.tup ps) :=
  eval_Tuple fun s rm S Q E hQ => h s rm S Q E fun vs s' qs σ' ⟨a, b⟩ => hQ vs s' qs σ' ⟨(by rw [a]; exact hz), (by rw [a]), b⟩
theorem isE_if {t a b : Expr} {pos : Pos} {c : Bool} {p : PV} (ht : IsT f k t ρ σ c) (h1 : c = true → IsE f k a ρ σ p) (h2 : c = false → IsE f k b ρ σ p) : IsE f k (.IfExp t a b pos) ρ σ p :=
  eval_IfExp (ht.use ⟨h1, h2⟩)
theorem if_of {t : Expr} {a b sts : List Stmt} {pos : Pos} {c : Bool} {Φ : FP → Rho → Sig → Prop} (ht : IsT f k t ρ σ c) (h1 : c = true → ExecsP f k (a ++ sts) ρ σ Φ) (h2 : c = false → ExecsP f k (b ++ sts) ρ σ Φ) : ExecsP f k (.If t a b pos :: sts) ρ σ Φ :=
  seq_If (ht.use ⟨h1, h2⟩)
theorem isT_in {l r : Expr} {s : Str} {cp : Pos} (ys : List Str) {c : Bool} (hl : IsE f k l ρ σ (.str s)) (hr : IsE f k r ρ σ (.tup (ys.map PV.str))) (h : (ys.any fun y => y == s) = c) (hm : behindInMarks .In r = false := by with_unfolding_all rfl) : IsT f k (.Compare l [.In] [r] cp) ρ σ c :=
  test_Compare1 (hl.use (hr.use (in_strs ⟨_, rfl, h, rfl⟩))) hm
theorem isT_eqE {l r : Expr} {s u : Str} {cp : Pos} {c : Bool} (hl : IsE f k l ρ σ (.str s)) (hr : IsE f k r ρ σ (.str u)) (h : (s == u) = c) (hm : behindInMarks .Eq r = false := by with_unfolding_all rfl) : IsT f k (.Compare l [.Eq] [r] cp) ρ σ c :=
  test_Compare1 (hl.use (hr.use (eq_ss ⟨_, rfl, h, rfl⟩))) hm
theorem isT_neE {l r : Expr} {s u : Str} {cp : Pos} {c : Bool} (hl : IsE f k l ρ σ (.str s)) (hr : IsE f k r ρ σ (.str u)) (h : (s != u) = c) (hm : behindInMarks .NotEq r = false := by with_unfolding_all rfl) : IsT f k (.Compare l [.NotEq] [r] cp) ρ σ c :=
  test_Compare1 (hl.use (hr.use (ne_ss ⟨_, rfl, h, rfl⟩))) hm
/-- part i of a tuple that an expression gives -/
theorem isE_sub {e : Expr} {l : List PV} {i : Int} {p : PV} {c1 : Nat} {cpos pos : Pos} (he : IsE f k e ρ σ (.tup l)) (h0 : 0 ≤ i) (hi : i < 16777216) (hp : l[i.toNat]? = some p) : IsE f k (.Subscript e (.Constant (.int i) c1 cpos) pos) ρ σ p :=
  eval_Subscript' (he.use (eval_int (sub_tup h0 hi hp ⟨rfl, rfl⟩)))
theorem isE_add_ss {l r : Expr} {a b : Str} {pos : Pos} (hl : IsE f k l ρ σ (.str a)) (hr : IsE f k r ρ σ (.str b)) (hz : a.length + b.length ≤ 16777216) : IsE f k (.BinOp l .Add r pos) ρ σ (.str (a ++ b)) :=
  eval_BinOp (hl.use (hr.use (add_ss hz ⟨rfl, rfl⟩)))
theorem ret_is {e : Expr} {p : PV} {pos : Pos} {sts : List Stmt} {Φ : FP → Rho → Sig → Prop} (he : IsE f k e ρ σ p) (h : Φ (.ret p) ρ σ) : ExecsP f k (.Return (some e) pos :: sts) ρ σ Φ := seq_ret (he.use h)
theorem FlowP.gen {t : Sem Flow} {Φ : FP → Rho → Sig → Prop} (h : ∀ Ψ : FP → Rho → Sig → Prop, (∀ q ρ' σ', Φ q ρ' σ' → Ψ q ρ' σ') → FlowP f k t ρ σ Ψ) : FlowP f k t ρ σ Φ := h Φ fun _ _ _ x => x
/-- `x.append(e)`, e being so -/
theorem do_append {x : Str} {a : Addr} {L : List PV} {px ap cp pos : Pos} {e : Expr} {p : PV} {sts : List Stmt} {Φ : FP → Rho → Sig → Prop} (hx : f.env.kindOf x = some .local) (ex : ρ.lookup x = some (.ref a)) (hz : L.length ≤ 16777216)
    (he : IsE f k e ρ (upd σ a L) p) (h : ExecsP f k sts ρ (upd σ a (L ++ [p])) Φ)
    (hm : MethForm f.env (.Name x px) (Str.ofString "append") ap cp [e]) (hi : interactive f.env = false) (hw : swapsWith (.Call (.Attribute (.Name x px) (Str.ofString "append") ap) [e] [] cp) none pos.line f.env = pure false)
    (hs : ∀ env, starEach [e] env = (false, eval e env) :: starEach [] env := by intro _; rfl) (hd : (x == ("__debug__" : Str)) = false := by decide) :
    ExecsP f k (.Expr (.Call (.Attribute (.Name x px) (Str.ofString "append") ap) [e] [] cp) pos :: sts) ρ (upd σ a L) Φ :=
  seq_expr (eval_ListMeth PySem.F.slot_list_append PySem.F.type_list_append (eval_local hx ex ⟨_, _, rfl, upd_same, args_cons (he.use (args_nil (append_l upd_same hz (by rw [upd_upd]; exact h)))) hs⟩ hd) hm hs) hi hw
theorem isT_and_ff {e1 : Expr} {es : List Expr} {pos : Pos} (h1 : IsT f k e1 ρ σ false) : IsT f k (.BoolOp .And (e1 :: es) pos) ρ σ false :=
  test_and (all_and_cons (h1.use ⟨fun h => (nomatch h), fun _ => ⟨rfl, rfl⟩⟩))
theorem isT_and2 {e1 e2 : Expr} {pos : Pos} {c : Bool} (h1 : IsT f k e1 ρ σ true) (h2 : IsT f k e2 ρ σ c) : IsT f k (.BoolOp .And [e1, e2] pos) ρ σ c :=
  test_and (all_and_cons (h1.use ⟨fun _ => all_and_cons (h2.use ⟨fun h => all_and_nil ⟨h.symm, rfl⟩, fun h => ⟨h.symm, rfl⟩⟩), fun h => (nomatch h)⟩))
end
section
variable {prog : Program} {w : World} {P : Params} {A : Around} {env : Env} {base : Addr → Option Obj} {k : Nat} {ρ : Rho} {σ : Sig}
theorem isT_lenL {x : Str} {a : Addr} {l : List PV} {i : Int} {np px cpos c2 cp : Pos} {c1 : Nat} {c : Bool} (hl : env.kindOf x = some .local) (e : ρ.lookup x = some (.ref a)) (ha : σ a = some l) (hz : l.length ≤ 16777216) (hg : env.kindOf (Str.ofString "len") = some .globalImplicit) (h : decide (i < ((l.length : Nat) : Int)) = c) (hd : (x == ("__debug__" : Str)) = false := by decide) :
    IsT (FF prog w P A env base) k (.Compare (.Call (.Name (Str.ofString "len") np) [.Name x px] [] cpos) [.Gt] [.Constant (.int i) c1 c2] cp) ρ σ c :=
  test_Compare1 (eval_CallBuiltin (nv_len hg) (args_cons (eval_local hl e (args_nil (len_l ha (eval_int (gt_ii ⟨_, rfl, h, rfl⟩)) hz)) hd)))
/-- `x[len(x) - 1]` -/
theorem isE_lastL {x : Str} {a : Addr} {l : List PV} {p : PV} {np p1 p2 c2 cpos bp pos : Pos} {c1 : Nat} (hl : env.kindOf x = some .local) (e : ρ.lookup x = some (.ref a)) (ha : σ a = some (l ++ [p])) (hz : l.length < 16777216) (hg : env.kindOf (Str.ofString "len") = some .globalImplicit) (hd : (x == ("__debug__" : Str)) = false := by decide) :
    IsE (FF prog w P A env base) k (.Subscript (.Name x p1) (.BinOp (.Call (.Name (Str.ofString "len") np) [.Name x p2] [] cpos) .Sub (.Constant (.int 1) c1 c2) bp) pos) ρ σ p := by
  refine eval_Subscript' (eval_local hl e (eval_BinOp (eval_CallBuiltin (nv_len hg) (args_cons (eval_local hl e (args_nil (len_l ha (eval_int (sub_ii ?_)) (by rw [List.length_append]; exact hz))) hd)))) hd)
  have e1 : (((l ++ [p]).length : Nat) : Int) - 1 = (l.length : Int) := by simp
  rw [e1]
  exact sub_list ha (Int.natCast_nonneg _) (Int.ofNat_lt.mpr hz) (by rw [Int.toNat_natCast]; simp) ⟨rfl, rfl⟩
end
theorem len_succ {α : Type} {l : List α} {n : Nat} (h : l.length = n + 1) : ∃ a r, l = a :: r ∧ r.length = n := by
  cases l with
  | nil => cases h
  | cons a r => exact ⟨a, r, rfl, Nat.succ.inj h⟩
theorem fnBinds1 {fd : FuncData} {x : Str} (h : ∀ v, bindArgs fd ⟨[v], []⟩ = pure [(x, v)]) {n : Nat} (hn : n = 1) : ∀ vs : List Value, vs.length = n → bindArgs fd ⟨vs, []⟩ = pure ([x].zip vs) := by
  intro vs hl
  obtain ⟨v, r0, h0, e0⟩ := len_succ (hl.trans hn)
  have e := List.length_eq_zero_iff.mp e0
  subst e h0
  exact h v
theorem fnBinds2 {fd : FuncData} {x y : Str} (h : ∀ v u, bindArgs fd ⟨[v, u], []⟩ = pure [(x, v), (y, u)]) {n : Nat} (hn : n = 2) : ∀ vs : List Value, vs.length = n → bindArgs fd ⟨vs, []⟩ = pure ([x, y].zip vs) := by
  intro vs hl
  obtain ⟨v, r0, h0, e0⟩ := len_succ (hl.trans hn)
  obtain ⟨u, r1, h1, e1⟩ := len_succ e0
  have e := List.length_eq_zero_iff.mp e1
  subst e h1 h0
  exact h v u
theorem fnBinds3 {fd : FuncData} {x y z : Str} (h : ∀ v u t, bindArgs fd ⟨[v, u, t], []⟩ = pure [(x, v), (y, u), (z, t)]) {n : Nat} (hn : n = 3) : ∀ vs : List Value, vs.length = n → bindArgs fd ⟨vs, []⟩ = pure ([x, y, z].zip vs) := by
  intro vs hl
  obtain ⟨v, r0, h0, e0⟩ := len_succ (hl.trans hn)
  obtain ⟨u, r1, h1, e1⟩ := len_succ e0
  obtain ⟨t, r2, h2, e2⟩ := len_succ e1
  have e := List.length_eq_zero_iff.mp e2
  subst e h2 h1 h0
  exact h v u t
theorem fnBinds4 {fd : FuncData} {x y z t' : Str} (h : ∀ v u t s, bindArgs fd ⟨[v, u, t, s], []⟩ = pure [(x, v), (y, u), (z, t), (t', s)]) {n : Nat} (hn : n = 4) : ∀ vs : List Value, vs.length = n → bindArgs fd ⟨vs, []⟩ = pure ([x, y, z, t'].zip vs) := by
  intro vs hl
  obtain ⟨v, r0, h0, e0⟩ := len_succ (hl.trans hn)
  obtain ⟨u, r1, h1, e1⟩ := len_succ e0
  obtain ⟨t, r2, h2, e2⟩ := len_succ e1
  obtain ⟨s, r3, h3, e3⟩ := len_succ e2
  have e := List.length_eq_zero_iff.mp e3
  subst e h3 h2 h1 h0
  exact h v u t s

/-! ## F1 -/
section
variable {prog : Program} {w : World} {P : Params} {A : Around} {env : Env} {base : Addr → Option Obj} {k : Nat} {ρ : Rho} {σ : Sig}
/-- the loop of row_of -/
def RowJ (c : Bool) (t : T) (a1 a2 : Addr) (σ : Sig) (n : Nat) (ρ' : Rho) (σ' : Sig) : Prop :=
  ∃ F W : List T, ρ'.lookup (Str.ofString "found") = some (.ref a1) ∧ ρ'.lookup (Str.ofString "waiting") = some (.ref a2) ∧ ρ'.lookup (Str.ofString "kind") = some (.str (kstr c)) ∧
    σ' = upd (upd σ a1 (F.map T.pv)) a2 (W.map T.pv) ∧ n = sizes W ∧ (∀ u ∈ W, u.Ok) ∧ F ++ W.reverse.flatMap (row c) = row c t ∧ sizes F + sizes W ≤ t.size
theorem upd3_sub {σ : Sig} {a2 a3 : Addr} {L M N : List PV} (h : upd σ a2 L a3 = none) : ∀ c l, upd σ a2 M c = some l → upd (upd (upd σ a2 L) a3 N) a2 M c = some l := fun c l e => by
  have h3 := upd_none h
  unfold upd at e ⊢
  by_cases e2 : c = a2
  · rw [if_pos e2] at e ⊢; exact e
  · rw [if_neg e2] at e ⊢
    by_cases e3 : c = a3
    · rw [e3, h3.2] at e; cases e
    · rw [if_neg e3, if_neg e2]; exact e
theorem sizes_two (a b : T) : sizes [b, a] = a.size + b.size := by show b.size + (a.size + 0) = _; rw [Nat.add_zero, Nat.add_comm]
theorem sizes_sing (u : T) : sizes [u] = u.size := by simp [sizes]
theorem row_of_spec (c : Bool) (t : T) (ok : t.Ok) (hz : t.size ≤ 1000) : CallP (FF prog w P A env base) (k + 1) (.ref 23) [t.pv, .str (kstr c)] ρ σ fun r σ' => ∃ a, σ a = none ∧ r = .ref a ∧ σ' = upd σ a ((row c t).map T.pv) := by
  refine OpL.weaken (callF [Str.ofString "node", Str.ofString "kind"] (by show List.lookup _ (hd.heap_39 P) = _; k_is) (by show codeIn (hd.heap_39 P) _ _ = true; k_is) (fnBinds2 (fun _ _ => rfl) rfl) (by decide) (by decide) rfl rfl rfl
    (Φ := fun r σ' => ∃ a1 a2, σ a1 = none ∧ (∀ l, upd σ a1 l a2 = none) ∧ r = .ref a1 ∧ σ' = upd (upd σ a1 ((row c t).map T.pv)) a2 []) ?_)
    (fun p σ' ⟨a1, a2, h1, h2, e1, e2⟩ => ⟨upd σ a1 ((row c t).map T.pv), ⟨a1, h1, e1, rfl⟩, e2 ▸ upd_sub (h2 _)⟩)
  intro A' L' base' up Ψ hΨ
  refine seq_swap2 rfl rfl ?_ rfl rfl
  refine eval_Tuple (args_cons (eval_List (args_nil ⟨by decide, fun a1 h1 => ?_⟩)))
  refine args_cons (eval_List (args_cons (eval_local rfl rfl (args_nil ⟨Nat.le_of_ble_eq_true rfl, fun a2 h2 => ?_⟩))))
  refine args_nil ⟨Nat.le_of_ble_eq_true rfl, _, _, rfl, ?_⟩
  have h12 := (upd_none h2).1
  have h2' : ∀ l, upd σ a1 l a2 = none := fun l => by rw [upd_ne h12]; exact (upd_none h2).2
  replace hΨ : ∀ ρ', Ψ (.ret (.ref a1)) ρ' (upd (upd σ a1 ((row c t).map T.pv)) a2 []) := fun ρ' => hΨ _ _ _ ⟨a1, a2, h1, h2', rfl, rfl⟩
  clear h1 h2 h2'
  refine seq_While (RowJ c t a1 a2 σ) t.size ⟨[], [t], rfl, rfl, rfl, rfl, (sizes_sing t).symm, fun u hu => List.mem_singleton.mp hu ▸ ok, by simp, Nat.le_of_eq (by rw [sizes_sing]; exact Nat.zero_add _)⟩ ?_
  rintro n ρ' σ' ⟨F, W, l1, l2, l3, rfl, rfl, okW, hF, hs⟩
  have hFz := length_le_sizes F
  have hWz := length_le_sizes W
  refine (isT_lenL rfl l2 upd_same (by rw [List.length_map]; exact Nat.le_trans hWz (Nat.le_trans (Nat.le_add_left _ _) (Nat.le_trans hs (Nat.le_trans hz (by decide))))) rfl rfl).use ⟨fun hc => ?_, fun hc => ?_⟩
  · rcases List.eq_nil_or_concat W with rfl | ⟨W, u, rfl⟩
    · cases hc
    refine FlowP.gen fun Ω hΩ => ?_
    rw [List.concat_eq_append] at *
    have oku : u.Ok := okW u (List.mem_append_right _ (List.mem_singleton.mpr rfl))
    have okW' : ∀ v ∈ W, v.Ok := fun v hv => okW v (List.mem_append_left _ hv)
    have hsW : sizes (W ++ [u]) = sizes W + u.size := by rw [sizes_append, sizes_sing]
    rw [hsW] at hs hΩ
    rw [List.reverse_append, List.reverse_singleton, List.singleton_append, List.flatMap_cons] at hF
    replace hΩ : ∀ ρ₂ F' W', ρ₂.lookup (Str.ofString "found") = some (.ref a1) → ρ₂.lookup (Str.ofString "waiting") = some (.ref a2) → ρ₂.lookup (Str.ofString "kind") = some (.str (kstr c)) → sizes W' < sizes W + u.size → (∀ u ∈ W', u.Ok) → F' ++ W'.reverse.flatMap (row c) = row c t → sizes F' + sizes W' ≤ t.size →
      Ω .next ρ₂ (upd (upd σ a1 (F'.map T.pv)) a2 (W'.map T.pv)) := fun ρ₂ F' W' l1 l2 l3 h1 h2 h3 h4 => hΩ _ _ _ ⟨.inl rfl, _, h1, F', W', l1, l2, l3, rfl, rfl, h2, h3, h4⟩
    have hup := u.size_pos
    have hWz' := length_le_sizes W
    have hpv : ∀ ρ₂ : Rho, ((Str.ofString "part", u.pv) :: ρ₂).lookup (Str.ofString "part") = some (.tup (.str u.kd :: u.args)) := fun _ => congrArg some u.pv_eq
    have hsz' := Nat.le_trans hs hz
    have hWm : (W.map T.pv).length ≤ 16777214 := by rw [List.length_map]; exact Nat.le_trans hWz' (Nat.le_trans (Nat.le_add_right _ u.size) (Nat.le_trans (Nat.le_add_left _ (sizes F)) (Nat.le_trans hsz' (by decide))))
    have hFm : (F.map T.pv).length ≤ 16777216 := by rw [List.length_map]; exact Nat.le_trans hFz (Nat.le_trans (Nat.le_add_right _ _) (Nat.le_trans hsz' (by decide)))
    clear hc okW hFz hWz hWz' hsz'
    refine seq_assign rfl (eval_ListMeth0 PySem.F.slot_list_pop PySem.F.type_list_pop (eval_local rfl l2 ⟨_, _, rfl, upd_same, pop_l (l := W.map T.pv) (p := u.pv) (by rw [upd_same, List.map_append]; rfl) (Nat.lt_of_le_of_lt hWm (by decide)) ?_⟩) ⟨_, rfl⟩) rfl
    rw [upd_upd]
    refine if_of (isT_eqE (isE_item rfl (hpv _) (by decide) (by decide) rfl) (isE_local rfl l3) rfl) (fun hk => ?_) (fun hk => ?_)
    · rcases u.split c oku with ⟨_, a, b, oka, okb, eargs, erow, esz⟩ | ⟨hk', _⟩
      · rw [eargs] at hpv
        refine seq_expr (eval_ListMeth PySem.F.slot_list_extend PySem.F.type_list_extend (eval_local rfl l2 ⟨_, _, rfl, upd_same, args_cons (eval_List (args_cons (IsE.use (isE_item rfl (hpv _) (by decide) (by decide) rfl) (args_cons (IsE.use (isE_item rfl (hpv _) (by decide) (by decide) rfl) (args_nil ⟨Nat.le_of_ble_eq_true rfl, fun a3 h3 => ?_⟩))))))⟩) ⟨_, rfl⟩) rfl rfl
        refine args_nil (extend_l (by rw [upd_ne (Ne.symm (upd_none h3).1), upd_same]) upd_same (Nat.add_le_add_right hWm 2) ?_)
        refine FlowP.subs (σ' := upd (upd σ a1 (F.map T.pv)) a2 (W.map T.pv ++ [b.pv, a.pv])) ?_ (fun _ _ e => e) (upd3_sub h3)
        have hmap : (W ++ [b, a]).map T.pv = W.map T.pv ++ [b.pv, a.pv] := List.map_append ..
        have hsz : sizes (W ++ [b, a]) = sizes W + (a.size + b.size) := by rw [sizes_append, sizes_two]
        have := hΩ ((Str.ofString "part", u.pv) :: ρ') F (W ++ [b, a]) l1 l2 l3 (by rw [hsz]; exact Nat.add_lt_add_left (by rw [esz]; exact Nat.lt_succ_self _) _) (fun v hv => by
            rcases List.mem_append.mp hv with hv | hv
            · exact okW' v hv
            rcases List.mem_cons.mp hv with rfl | hv
            · exact okb
            · exact List.mem_singleton.mp hv ▸ oka) (by rw [← hF]; simp [erow]) (by rw [hsz]; exact Nat.le_trans (Nat.add_le_add_left (Nat.add_le_add_left (by rw [esz]; exact Nat.le_succ _) _) _) hs)
        rw [hmap] at this
        exact execs_nil' this
      · rw [hk'] at hk; cases hk
    · rcases u.split c oku with ⟨hk', _⟩ | ⟨_, hrow⟩
      · rw [hk'] at hk; cases hk
      · rw [upd_comm (Ne.symm h12)]
        refine do_append rfl l1 hFm (isE_local rfl rfl) ?_ ⟨_, rfl⟩ rfl rfl
        rw [upd_comm h12]
        have := hΩ ((Str.ofString "part", u.pv) :: ρ') (F ++ [u]) W l1 l2 l3 (Nat.lt_add_of_pos_right hup) okW' (by rw [← hF, hrow, List.append_assoc]) (by rw [sizes_append, sizes_sing, Nat.add_assoc, Nat.add_comm u.size]; exact hs)
        rw [List.map_append] at this
        exact execs_nil' this
  · have hW : W = [] := by
      cases W with
      | nil => rfl
      | cons a b => exact absurd (of_decide_eq_false hc) (fun h => h (Int.natCast_pos.mpr (Nat.succ_pos _)))
    subst hW
    rw [show row c t = F by rw [← hF]; exact List.append_nil F] at hΨ
    exact ret_is (isE_local rfl l1) (hΨ _)
end

/-! ## F2 -/
section
variable {prog : Program} {w : World} {P : Params} {A : Around} {env : Env} {base : Addr → Option Obj} {k : Nat} {ρ : Rho} {σ : Sig}
theorem is_plain_text_spec (t : T) (ok : t.Ok) : CallP (FF prog w P A env base) (k + 1) (.ref 30) [t.pv] ρ σ fun r σ' => r = .bool t.chars?.isSome ∧ σ' = σ := by
  refine callF [Str.ofString "node"] (by show List.lookup _ (hd.heap_39 P) = _; k_is) (by show codeIn (hd.heap_39 P) _ _ = true; k_is) (fnBinds1 (fun _ => rfl) rfl) (by decide) (by decide) rfl rfl rfl ?_
  intro A' L' base' up Ψ hΨ
  refine seq_ret (eval_And2 (eval_Compare1 (eval_Subscript' (eval_local rfl rfl (eval_int ?_)))))
  rw [t.pv_eq]
  refine sub_tup (by decide) (by decide) rfl (eval_str (eq_ss (tru_bool ⟨fun hc => ?_, fun hc => ?_⟩)))
  · rcases t.chars_split ok with ⟨x, rfl, e, _⟩ | ⟨hk, _⟩
    · refine eval_CallBuiltin (nv_isinstance rfl) (args_cons (eval_Subscript' (eval_local rfl rfl (eval_int (sub_tup (by decide) (by decide) rfl ?_)))))
      exact args_cons (eval_ty (nv_str rfl) (args_nil (isi_str (hΨ _ _ _ ⟨by rw [e]; rfl, rfl⟩))))
    · rw [hk] at hc; cases hc
  · rcases t.chars_split ok with ⟨x, rfl, e, _⟩ | ⟨hk, e⟩
    · exact absurd hc (by dsimp only [chars, T.kd]; decide)
    · exact hΨ _ _ _ ⟨by rw [hc, e]; rfl, rfl⟩
theorem isT_plain {t : T} (ok : t.Ok) {e : Expr} {np pos : Pos} {c : Bool} (hq : t.chars?.isSome = c) (he : IsE (FF prog w P A env base) (k + 1) e ρ σ t.pv) (hx : env.kindOf (Str.ofString "is_plain_text") = some .globalImplicit)
    (hc : ∀ env, eval (.Call (.Name (Str.ofString "is_plain_text") np) [e] [] pos) env = (do callWith pos (← eval (.Name (Str.ofString "is_plain_text") np) env) [] (backTo pos (starEach [e] env)) (backToKw pos (keywordEach [] env))) := by intro _; rfl)
    (hs : ∀ env, starEach [e] env = (false, eval e env) :: starEach [] env := by intro _; rfl)
    (ht : isTrue (.Call (.Name (Str.ofString "is_plain_text") np) [e] [] pos) env (eval (.Call (.Name (Str.ofString "is_plain_text") np) [e] [] pos) env) = (do let v ← eval (.Call (.Name (Str.ofString "is_plain_text") np) [e] [] pos) env; standAt (Expr.pos (.Call (.Name (Str.ofString "is_plain_text") np) [e] [] pos)); holding [v] (truthy v)) := by rfl) :
    IsT (FF prog w P A env base) (k + 1) (.Call (.Name (Str.ofString "is_plain_text") np) [e] [] pos) ρ σ c :=
  test_value (eval_CallName (nv_is_plain_text hx) (by show keepIn (hd.heap_39 P) _ = true; k_is) (args_cons (he.use (args_nil ((is_plain_text_spec t ok).mono fun r σ' ⟨h1, h2⟩ => by rw [h1, h2]; exact tru_bool ⟨hq, rfl⟩))) hs) hc hs) ht
theorem joinStep_none {F : List T} {t : T} (h : t.chars? = none) : joinStep F t = F ++ [t] := by unfold joinStep; rw [h]
theorem joinStep_empty {F : List T} {t : T} {x : Str} (h : t.chars? = some x) (hx : (x == Str.ofString "") = true) : joinStep F t = F := by unfold joinStep; rw [h]; dsimp only; rw [if_pos hx]
theorem joinStep_first {t : T} {x : Str} (h : t.chars? = some x) (hx : (x == Str.ofString "") = false) : joinStep [] t = [t] := by unfold joinStep; rw [h]; dsimp only; rw [if_neg (by rw [hx]; decide)]; rfl
theorem joinStep_two {G : List T} {u t : T} {x y : Str} (h : t.chars? = some x) (hx : (x == Str.ofString "") = false) (hu : u.chars? = some y) : joinStep (G ++ [u]) t = G ++ [chars (y ++ x)] := by
  unfold joinStep; rw [h]; dsimp only; rw [if_neg (by rw [hx]; decide), List.getLast?_append, List.getLast?_singleton]
  dsimp only [Option.or]
  rw [hu, List.dropLast_concat]
theorem joinStep_behind {G : List T} {u t : T} {x : Str} (h : t.chars? = some x) (hx : (x == Str.ofString "") = false) (hu : u.chars? = none) : joinStep (G ++ [u]) t = (G ++ [u]) ++ [t] := by
  unfold joinStep; rw [h]; dsimp only; rw [if_neg (by rw [hx]; decide), List.getLast?_append, List.getLast?_singleton]
  dsimp only [Option.or]
  rw [hu]
theorem map_snoc (F : List T) (t : T) : (F ++ [t]).map T.pv = F.map T.pv ++ [t.pv] := List.map_append ..
theorem with_texts_joined_spec {a : Addr} {l : List T} (ha : σ a = some (l.map T.pv)) (ok : ∀ u ∈ l, u.Ok) (hz : l.length ≤ 1000) (hx : texts l ≤ 1000) :
    CallP (FF prog w P A env base) (k + 2) (.ref 37) [.ref a] ρ σ fun r σ' => ∃ b, σ b = none ∧ r = .ref b ∧ σ' = upd σ b ((joinT l).map T.pv) := by
  refine callF [Str.ofString "parts"] (by show List.lookup _ (hd.heap_39 P) = _; k_is) (by show codeIn (hd.heap_39 P) _ _ = true; k_is) (fnBinds1 (fun _ => rfl) rfl) (by decide) (by decide) rfl rfl rfl ?_
  intro A' L' base' up Ψ hΨ
  refine seq_assign rfl (eval_List (args_nil ⟨by decide, fun b hb => ?_⟩)) rfl
  have hab : a ≠ b := fun e => by rw [e, hb] at ha; cases ha
  refine seq_For rfl (eval_local rfl rfl ⟨a, _, rfl, by rw [upd_ne hab]; exact ha, fun i ρ' σ' => ρ'.lookup (Str.ofString "found") = some (.ref b) ∧ σ' = upd σ b ((joinT (l.take i)).map T.pv), ⟨rfl, rfl⟩, ?_, ?_, ?_⟩) (fun _ _ => rfl)
  · rintro i ρ' σ' ⟨_, rfl⟩
    rw [upd_ne hab]; exact ha
  · rintro base2 up2 i p ρ' σ' hp ⟨l1, rfl⟩
    rw [List.getElem?_map] at hp
    obtain ⟨t, ht, rfl⟩ := Option.map_eq_some_iff.mp hp
    refine FlowP.gen fun Ω hΩ => ?_
    have okt := ok t (List.mem_of_getElem? ht)
    have htake : l.take (i + 1) = l.take i ++ [t] := by rw [List.take_add_one, ht]; rfl
    have hJ : joinT (l.take (i + 1)) = joinStep (joinT (l.take i)) t := by rw [htake, joinT_snoc]
    have hb1 : texts (joinT (l.take i)) ≤ texts (l.take i) := by have := joinT_bounds (l.take i); omega
    have hb2 : texts (l.take i) + t.text ≤ texts l := by
      have e : texts (l.take (i + 1)) ≤ texts l := by
        have := texts_append (l.take (i + 1)) (l.drop (i + 1))
        rw [List.take_append_drop] at this; omega
      rw [htake, texts_append, texts_one] at e; exact e
    have okF : ∀ u ∈ joinT (l.take i), u.Ok := joinT_ok fun u hu => ok u (List.mem_of_mem_take hu)
    have hlen : (joinT (l.take i)).length ≤ 1000 := by have := joinT_bounds (l.take i); have := List.length_take_le' i l; omega
    have hfx : texts (joinT (l.take i)) + t.text ≤ 1000 := by omega
    clear hb1 hb2 htake ht
    dsimp only at hΩ
    rw [hJ] at hΩ
    generalize joinT (l.take i) = F at hΩ okF hlen hfx
    clear hJ
    replace hΩ : ∀ q ρ₂ (G : List T), (q = .next ∨ q = .cont) → ρ₂.lookup (Str.ofString "found") = some (.ref b) → joinStep F t = G → Ω q ρ₂ (upd σ b (G.map T.pv)) := fun q ρ₂ G h1 h2 h3 => hΩ _ _ _ ⟨h1, h2, by rw [h3]⟩
    have l2 : ∀ v, List.lookup (Str.ofString "found") ((Str.ofString "part", v) :: ρ') = some (PV.ref b) := fun _ => l1
    have l3 : ∀ u v, List.lookup (Str.ofString "found") ((Str.ofString "part", u) :: (Str.ofString "part", v) :: ρ') = some (PV.ref b) := fun _ _ => l1
    have hmz : (F.map T.pv).length ≤ 1000 := by rw [List.length_map]; exact hlen
    have hmz' : (F.map T.pv).length ≤ 16777216 := Nat.le_trans hmz (by decide)
    refine if_of (isT_plain okt rfl (isE_local rfl rfl) rfl) (fun hc => ?_) (fun hc => ?_)
    · rcases t.chars_split okt with ⟨x, rfl, e, ex⟩ | ⟨_, e⟩
      · refine if_of (isT_eqE (isE_item rfl rfl (by decide) (by decide) rfl) isE_str rfl) (fun hx => ?_) (fun hx => ?_)
        · exact seq_cont (hΩ _ _ _ (.inr rfl) (l2 _) (joinStep_empty e hx))
        · rcases List.eq_nil_or_concat F with rfl | ⟨G, u, rfl⟩
          · refine if_ff (isT_and_ff (isT_lenL rfl l1 upd_same (Nat.zero_le _) rfl rfl)) ?_
            exact do_append rfl l1 (Nat.zero_le _) (isE_local rfl rfl) (execs_nil' (hΩ _ _ _ (.inl rfl) (l2 _) (joinStep_first e hx))) ⟨_, rfl⟩ rfl rfl
          · rw [List.concat_eq_append] at *
            have oku : u.Ok := okF u (List.mem_append_right _ (List.mem_singleton.mpr rfl))
            rw [map_snoc] at hmz hmz' ⊢
            have hgz : (G.map T.pv).length < 16777216 := Nat.lt_of_succ_le (by rw [List.length_append] at hmz'; exact hmz')
            have hpos : decide ((0 : Int) < (((G.map T.pv ++ [u.pv]).length : Nat) : Int)) = true := by rw [List.length_append]; exact decide_eq_true (Int.natCast_pos.mpr (Nat.succ_pos _))
            cases hu : u.chars? with
            | some y =>
              have eu := chars?_eq hu
              subst eu
              rw [texts_append, texts_one] at hfx
              refine if_tt (isT_and2 (isT_lenL rfl l1 upd_same hmz' rfl hpos) (isT_plain oku (by rw [hu]; rfl) (isE_lastL rfl l1 upd_same hgz rfl) rfl)) ?_
              refine seq_assign rfl (eval_Tuple (args_cons (eval_str (args_cons (eval_BinOp ?_))))) rfl
              refine eval_Subscript' (eval_ListMeth0 PySem.F.slot_list_pop PySem.F.type_list_pop (eval_local rfl l1 ⟨_, _, rfl, upd_same, pop_l upd_same hgz (eval_int ?_)⟩) ⟨_, rfl⟩)
              have ey : (chars y).text = y.length := rfl
              have ex : (chars x).text = x.length := rfl
              refine sub_tup (by decide) (by decide) rfl ((isE_item rfl rfl (by decide) (by decide) rfl).use (add_ss (by omega) (args_nil ⟨Nat.le_of_ble_eq_true rfl, ?_⟩)))
              rw [upd_upd]
              refine do_append rfl l1 (Nat.le_of_lt hgz) (isE_local rfl rfl) (execs_nil' ?_) ⟨_, rfl⟩ rfl rfl
              have := fun u v => hΩ .next _ _ (.inl rfl) (l3 u v) (joinStep_two e hx hu)
              simp only [map_snoc] at this
              exact this _ _
            | none =>
              refine if_ff (isT_and2 (isT_lenL rfl l1 upd_same hmz' rfl hpos) (isT_plain oku (by rw [hu]; rfl) (isE_lastL rfl l1 upd_same hgz rfl) rfl)) ?_
              refine do_append rfl l1 hmz' (isE_local rfl rfl) (execs_nil' ?_) ⟨_, rfl⟩ rfl rfl
              have := fun v => hΩ .next _ _ (.inl rfl) (l2 v) (joinStep_behind e hx hu)
              simp only [map_snoc] at this
              exact this _
      · rw [e] at hc; cases hc
    · rcases t.chars_split okt with ⟨x, rfl, e, ex⟩ | ⟨_, e⟩
      · rw [e] at hc; cases hc
      · refine do_append rfl l1 hmz' (isE_local rfl rfl) (execs_nil' ?_) ⟨_, rfl⟩ rfl rfl
        have := fun v => hΩ .next _ _ (.inl rfl) (l2 v) (joinStep_none e)
        simp only [map_snoc] at this
        exact this _
  · rintro ρ' σ' ⟨l1, rfl⟩
    rw [List.length_map, List.take_length]
    exact ret_is (isE_local rfl l1) (hΨ _ _ _ ⟨b, hb, rfl, rfl⟩)
end

/-! ## F3 -/
theorem bb_ff {b : Bool} {X Y : Prop} (h : b = false) (hY : Y) : ∃ t, PV.bool b = .bool t ∧ ((t = true → X) ∧ (t = false → Y)) := ⟨_, rfl, ⟨fun e => (by rw [h] at e; cases e), fun _ => hY⟩⟩
theorem bb_tt {b : Bool} {X Y : Prop} (h : b = true) (hX : X) : ∃ t, PV.bool b = .bool t ∧ ((t = true → X) ∧ (t = false → Y)) := ⟨_, rfl, ⟨fun _ => hX, fun e => (by rw [h] at e; cases e)⟩⟩

section
variable {prog : Program} {w : World} {P : Params} {A : Around} {env : Env} {base : Addr → Option Obj} {k : Nat} {ρ : Rho} {σ : Sig}
theorem eval_orders {x d l : Addr} {pos sp : Pos} {Φ : PV → Sig → Prop} (I : SelfAt base x d 82 (Str.ofString "orders") (.ref l)) (hl : env.kindOf (Str.ofString "self") = some .local) (hs : ρ.lookup (Str.ofString "self") = some (.ref x)) (h : Φ (.ref l) σ) :
    EvalP (FF prog w P A env base) k (.Attribute (.Name (Str.ofString "self") sp) (Str.ofString "orders") pos) ρ σ Φ :=
  eval_SelfAttr I (eval_local hl hs ⟨rfl, h⟩) (by show plainGet (hd.heap_39 P) _ _ = true; k_is) (by show hasDictIn (hd.heap_39 P) _ = true; k_is) (by show findIn (hd.heap_39 P) _ _ = some _; k_is) (by show noGet (hd.heap_39 P) _ = true; k_is) (fun _ _ => rfl) rfl rfl
theorem emit_spec {x d l : Addr} {os : List PV} {p : PV} (I : SelfAt base x d 82 (Str.ofString "orders") (.ref l)) (hl : σ l = some os) (hz : os.length ≤ 1000000) :
    CallP (FF prog w P A env base) (k + 1) (.ref 58) [.ref x, p] ρ σ fun r σ' => r = .int os.length ∧ σ' = upd σ l (os ++ [p]) := by
  refine callF [Str.ofString "self", Str.ofString "order"] (by show List.lookup _ (hd.heap_39 P) = _; k_is) (by show codeIn (hd.heap_39 P) _ _ = true; k_is) (fnBinds2 (fun _ _ => rfl) rfl) (by decide) (by decide) rfl rfl rfl ?_
  intro A' L' base' up Ψ hΨ
  have I' : SelfAt base' x d 82 (Str.ofString "orders") (.ref l) := I.up up
  refine seq_expr (eval_ListMeth PySem.F.slot_list_append PySem.F.type_list_append (eval_orders I' rfl rfl ⟨_, _, rfl, hl, args_cons (eval_local rfl rfl (args_nil (append_l hl (by omega) ?_)))⟩) ⟨_, rfl⟩) rfl rfl
  refine seq_ret (eval_BinOp (eval_CallBuiltin (nv_len rfl) (args_cons (eval_orders I' rfl rfl (args_nil (len_l upd_same (eval_int (sub_ii (hΨ _ _ _ ⟨?_, rfl⟩))) (by simp; omega)))))))
  show PV.int _ = PV.int _
  congr 1
  simp
end

/-! ## F4 -/
section
variable {prog : Program} {w : World} {P : Params} {A : Around} {env : Env} {base : Addr → Option Obj} {k : Nat} {ρ : Rho} {σ : Sig}
theorem self_call {x d l fa : Addr} {o : Expr} {name : Str} {ap pos : Pos} {e : Expr} {Φ : PV → Sig → Prop} (I : SelfAt base x d 82 (Str.ofString "orders") (.ref l))
    (hg : plainGet (hd.heap_39 P) 82 name = true) (hf : findIn (hd.heap_39 P) (.ref 82) name = some (some (.ref fa))) (ht : isFn (hd.heap_39 P) (.ref fa) = true) (hk : keepIn (hd.heap_39 P) (.ref fa) = true) (hn : ∀ hs tk, getL name [⟨hs, .str (Str.ofString "orders") tk, .ref l⟩] = some none)
    (h : EvalP (FF prog w P A env base) k o ρ σ fun p σ₁ => p = .ref x ∧ EvalP (FF prog w P A env base) k e ρ σ₁ fun q σ₂ => CallP (FF prog w P A env base) k (.ref fa) [.ref x, q] ρ σ₂ Φ)
    (hm : MethForm env o name ap pos [e]) (he : ∀ env, starEach [e] env = (false, eval e env) :: starEach [] env) : EvalP (FF prog w P A env base) k (.Call (.Attribute o name ap) [e] [] pos) ρ σ Φ :=
  eval_SelfMeth I (h.mono fun p σ₁ ⟨h1, h2⟩ => ⟨h1, args_cons (h2.mono fun q σ₂ h3 => args_nil h3) he⟩) hg hf ht hn hk hm he
theorem self_emit {x d l : Addr} {o : Expr} {ap pos : Pos} {e : Expr} {Φ : PV → Sig → Prop} (I : SelfAt base x d 82 (Str.ofString "orders") (.ref l))
    (h : EvalP (FF prog w P A env base) (k + 1) o ρ σ fun p σ₁ => p = .ref x ∧ EvalP (FF prog w P A env base) (k + 1) e ρ σ₁ fun q σ₂ => ∃ os, σ₂ l = some os ∧ os.length ≤ 1000000 ∧ Φ (.int os.length) (upd σ₂ l (os ++ [q])))
    (hm : MethForm env o (Str.ofString "emit") ap pos [e]) (he : ∀ env, starEach [e] env = (false, eval e env) :: starEach [] env) : EvalP (FF prog w P A env base) (k + 1) (.Call (.Attribute o (Str.ofString "emit") ap) [e] [] pos) ρ σ Φ :=
  self_call (fa := 58) I (by k_is) (by k_is) (by k_is) (by k_is) (fun _ _ => rfl) (h.mono fun p σ₁ ⟨h1, h2⟩ => ⟨h1, h2.mono fun q σ₂ ⟨os, e1, e2, e3⟩ => (emit_spec I e1 e2).mono fun r σ' ⟨r1, r2⟩ => by rw [r1, r2]; exact e3⟩) hm he
/-- `self.emit(e)`, e being so -/
theorem do_emit {x d l : Addr} {os : List PV} {o : Expr} {ap cp pos : Pos} {e : Expr} {q : PV} {sts : List Stmt} {Φ : FP → Rho → Sig → Prop} (I : SelfAt base x d 82 (Str.ofString "orders") (.ref l))
    (ho : IsE (FF prog w P A env base) (k + 1) o ρ σ (.ref x)) (he : IsE (FF prog w P A env base) (k + 1) e ρ σ q) (hl : σ l = some os) (hz : os.length ≤ 1000000)
    (h : ExecsP (FF prog w P A env base) (k + 1) sts ρ (upd σ l (os ++ [q])) Φ)
    (hm : MethForm env o (Str.ofString "emit") ap cp [e]) (hs : ∀ env, starEach [e] env = (false, eval e env) :: starEach [] env) (hi : interactive env = false) (hw : swapsWith (.Call (.Attribute o (Str.ofString "emit") ap) [e] [] cp) none pos.line env = pure false) :
    ExecsP (FF prog w P A env base) (k + 1) (.Expr (.Call (.Attribute o (Str.ofString "emit") ap) [e] [] cp) pos :: sts) ρ σ Φ :=
  seq_expr (self_emit I (ho.use ⟨rfl, he.use ⟨os, hl, hz, h⟩⟩) hm hs) hi hw
/-- the same, where the orders were written before -/
theorem do_emit' {x d l : Addr} {os : List PV} {o : Expr} {ap cp pos : Pos} {e : Expr} {q : PV} {sts : List Stmt} {Φ : FP → Rho → Sig → Prop} (I : SelfAt base x d 82 (Str.ofString "orders") (.ref l))
    (ho : IsE (FF prog w P A env base) (k + 1) o ρ (upd σ l os) (.ref x)) (he : IsE (FF prog w P A env base) (k + 1) e ρ (upd σ l os) q) (hz : os.length ≤ 1000000)
    (h : ExecsP (FF prog w P A env base) (k + 1) sts ρ (upd σ l (os ++ [q])) Φ)
    (hm : MethForm env o (Str.ofString "emit") ap cp [e]) (hs : ∀ env, starEach [e] env = (false, eval e env) :: starEach [] env) (hi : interactive env = false) (hw : swapsWith (.Call (.Attribute o (Str.ofString "emit") ap) [e] [] cp) none pos.line env = pure false) :
    ExecsP (FF prog w P A env base) (k + 1) (.Expr (.Call (.Attribute o (Str.ofString "emit") ap) [e] [] cp) pos :: sts) ρ (upd σ l os) Φ :=
  do_emit I ho he upd_same hz (by rw [upd_upd]; exact h) hm hs hi hw
theorem isE_strk {x y : Str} {t : Tok} {pos : Pos} (hx : env.kindOf x = some .globalImplicit) (e : nsIn (hd.heap_39 P) mainGlobals x = some (some (.str y t))) (hd : (x == ("__debug__" : Str)) = false := by decide) :
    IsE (FF prog w P A env base) k (.Name x pos) ρ σ (.str y) := nv_str_k hx e ⟨rfl, rfl⟩ hd
/-- `y = self.emit(e)`, e being so -/
theorem let_emit {x d l : Addr} {os : List PV} {y : Str} {o : Expr} {yp ap cp pos : Pos} {e : Expr} {q : PV} {sts : List Stmt} {Φ : FP → Rho → Sig → Prop} (I : SelfAt base x d 82 (Str.ofString "orders") (.ref l)) (hy : env.kindOf y = some .local)
    (ho : IsE (FF prog w P A env base) (k + 1) o ρ (upd σ l os) (.ref x)) (he : IsE (FF prog w P A env base) (k + 1) e ρ (upd σ l os) q) (hz : os.length ≤ 1000000)
    (h : ExecsP (FF prog w P A env base) (k + 1) sts ((y, .int os.length) :: ρ) (upd σ l (os ++ [q])) Φ)
    (hm : MethForm env o (Str.ofString "emit") ap cp [e]) (hs : ∀ env, starEach [e] env = (false, eval e env) :: starEach [] env) (hw : swapsWith (.Call (.Attribute o (Str.ofString "emit") ap) [e] [] cp) (some (.Name y yp)) pos.line env = pure false) :
    ExecsP (FF prog w P A env base) (k + 1) (.Assign [.Name y yp] (.Call (.Attribute o (Str.ofString "emit") ap) [e] [] cp) pos :: sts) ρ (upd σ l os) Φ :=
  seq_assign hy (self_emit I (ho.use ⟨rfl, he.use ⟨os, upd_same, hz, by rw [upd_upd]; exact h⟩⟩) hm hs) hw
/-- `self.orders[i] = (NAME, len(self.orders))` -/
theorem set_goal {x d l : Addr} {os : List PV} {i : Expr} {j : Nat} {nm y : Str} {t : Tok} {sp ap px np lp s2 a2 cp tp pos : Pos} {x1 : Nat} {sts : List Stmt} {Φ : FP → Rho → Sig → Prop} (I : SelfAt base x d 82 (Str.ofString "orders") (.ref l))
    (hl : env.kindOf (Str.ofString "self") = some .local) (es : ρ.lookup (Str.ofString "self") = some (.ref x)) (hg : env.kindOf (Str.ofString "len") = some .globalImplicit) (hn : env.kindOf nm = some .globalImplicit) (e : nsIn (hd.heap_39 P) mainGlobals nm = some (some (.str y t)))
    (hi : IsE (FF prog w P A env base) k i ρ (upd σ l os) (.int (j : Nat))) (hj : j < os.length) (hz : os.length ≤ 16777216)
    (h : ExecsP (FF prog w P A env base) k sts ρ (upd σ l (os.set j (.tup [.str y, .int os.length]))) Φ)
    (hs : swapsWith (.Tuple [.Name nm np, .Call (.Name (Str.ofString "len") lp) [.Attribute (.Name (Str.ofString "self") s2) (Str.ofString "orders") a2] [] cp] x1 tp) (some (.Subscript (.Attribute (.Name (Str.ofString "self") sp) (Str.ofString "orders") ap) i px)) pos.line env = pure false)
    (hd : (nm == ("__debug__" : Str)) = false := by decide) :
    ExecsP (FF prog w P A env base) k (.Assign [.Subscript (.Attribute (.Name (Str.ofString "self") sp) (Str.ofString "orders") ap) i px] (.Tuple [.Name nm np, .Call (.Name (Str.ofString "len") lp) [.Attribute (.Name (Str.ofString "self") s2) (Str.ofString "orders") a2] [] cp] x1 tp) pos :: sts) ρ (upd σ l os) Φ := by
  refine seq_setsub (eval_Tuple (args_cons (nv_str_k hn e (args_cons (eval_CallBuiltin (nv_len hg) (args_cons (eval_orders I hl es (args_nil (len_l upd_same ?_ hz)))))) hd))) hs
  refine args_nil ⟨Nat.le_of_ble_eq_true rfl, eval_orders I hl es (hi.use ⟨l, _, _, rfl, rfl, upd_same, Int.natCast_nonneg _, Int.ofNat_lt.mpr hj, hz, ?_⟩)⟩
  rw [upd_upd, Int.toNat_natCast]
  exact h
theorem self_put {x d l : Addr} {o : Expr} {ap pos : Pos} {e : Expr} {Φ : PV → Sig → Prop} (I : SelfAt base x d 82 (Str.ofString "orders") (.ref l))
    (h : EvalP (FF prog w P A env base) k o ρ σ fun p σ₁ => p = .ref x ∧ EvalP (FF prog w P A env base) k e ρ σ₁ fun q σ₂ => CallP (FF prog w P A env base) k (.ref 65) [.ref x, q] ρ σ₂ Φ)
    (hm : MethForm env o (Str.ofString "put") ap pos [e]) (he : ∀ env, starEach [e] env = (false, eval e env) :: starEach [] env) : EvalP (FF prog w P A env base) k (.Call (.Attribute o (Str.ofString "put") ap) [e] [] pos) ρ σ Φ :=
  self_call (fa := 65) I (by k_is) (by k_is) (by k_is) (by k_is) (fun _ _ => rfl) h hm he
theorem self_put_choice {x d l : Addr} {o : Expr} {ap pos : Pos} {e : Expr} {Φ : PV → Sig → Prop} (I : SelfAt base x d 82 (Str.ofString "orders") (.ref l))
    (h : EvalP (FF prog w P A env base) k o ρ σ fun p σ₁ => p = .ref x ∧ EvalP (FF prog w P A env base) k e ρ σ₁ fun q σ₂ => CallP (FF prog w P A env base) k (.ref 72) [.ref x, q] ρ σ₂ Φ)
    (hm : MethForm env o (Str.ofString "put_choice") ap pos [e]) (he : ∀ env, starEach [e] env = (false, eval e env) :: starEach [] env) : EvalP (FF prog w P A env base) k (.Call (.Attribute o (Str.ofString "put_choice") ap) [e] [] pos) ρ σ Φ :=
  self_call (fa := 72) I (by k_is) (by k_is) (by k_is) (by k_is) (fun _ _ => rfl) h hm he
theorem self_put_repeat {x d l : Addr} {o : Expr} {ap pos : Pos} {e : Expr} {Φ : PV → Sig → Prop} (I : SelfAt base x d 82 (Str.ofString "orders") (.ref l))
    (h : EvalP (FF prog w P A env base) k o ρ σ fun p σ₁ => p = .ref x ∧ EvalP (FF prog w P A env base) k e ρ σ₁ fun q σ₂ => CallP (FF prog w P A env base) k (.ref 79) [.ref x, q] ρ σ₂ Φ)
    (hm : MethForm env o (Str.ofString "put_repeat") ap pos [e]) (he : ∀ env, starEach [e] env = (false, eval e env) :: starEach [] env) : EvalP (FF prog w P A env base) k (.Call (.Attribute o (Str.ofString "put_repeat") ap) [e] [] pos) ρ σ Φ :=
  self_call (fa := 79) I (by k_is) (by k_is) (by k_is) (by k_is) (fun _ _ => rfl) h hm he
end

/-- what put does, for trees of size at most n -/
def PutAt (prog : Program) (w : World) (P : Params) (n : Nat) : Prop := ∀ (t : T), t.size ≤ n → t.Ok → t.size ≤ 1000 → t.text ≤ 1000 → ∀ (A : Around) (env : Env) (base : Addr → Option Obj) (ρ : Rho) (σ : Sig) (x d l : Addr) (os : List PV),
  SelfAt base x d 82 (Str.ofString "orders") (.ref l) → σ l = some os → os.length + 5 * t.size ≤ 100000 →
  CallP (FF prog w P A env base) (3 * t.size + 3) (.ref 65) [.ref x, t.pv] ρ σ fun r σ' => ∃ new, Chunk t os.length new ∧ new.length ≤ 5 * t.size ∧ σ' = upd σ l (os ++ new)

section
variable {prog : Program} {w : World} {P : Params} {A : Around} {env : Env} {base : Addr → Option Obj} {k : Nat} {ρ : Rho} {σ : Sig}
theorem put_repeat_spec {n : Nat} (ih : PutAt prog w P n) {t : T} (hn : t.size ≤ n) (ok : t.Ok) (hz : t.size ≤ 1000) (hx : t.text ≤ 1000) {x d l : Addr} {os : List PV} (I : SelfAt base x d 82 (Str.ofString "orders") (.ref l)) (hl : σ l = some os)
    (hlen : os.length + 5 * t.size + 5 ≤ 100000) : CallP (FF prog w P A env base) (3 * t.size + 4) (.ref 79) [.ref x, t.pv] ρ σ fun r σ' => ∃ new, Chunk (.arbno t) os.length new ∧ new.length ≤ 5 * t.size + 5 ∧ σ' = upd σ l (os ++ new) := by
  refine callF [Str.ofString "self", Str.ofString "node"] (by show List.lookup _ (hd.heap_39 P) = _; k_is) (by show codeIn (hd.heap_39 P) _ _ = true; k_is) (fnBinds2 (fun _ _ => rfl) rfl) (by decide) (by decide) rfl rfl rfl ?_
  intro A' L' base' up Ψ hΨ
  have I' : SelfAt base' x d 82 (Str.ofString "orders") (.ref l) := I.up up
  have e1 : (os ++ [PV.none] ++ [PV.none]).set os.length (.tup [.str (Str.ofString "split"), .int ((os ++ [PV.none] ++ [PV.none]).length : Nat)]) = os ++ [oSplit (os.length + 2), PV.none] := by
    rw [List.append_assoc]
    refine (set_at _ _ _ _).trans ?_
    rw [List.length_append]
    rfl
  rw [← upd_self hl]
  refine let_emit I' rfl (isE_local rfl rfl) isE_none (by omega) ?_ ⟨_, rfl⟩ (fun _ => rfl) rfl
  refine let_emit I' rfl (isE_local rfl rfl) isE_none (by simp; omega) ?_ ⟨_, rfl⟩ (fun _ => rfl) rfl
  refine set_goal I' rfl rfl rfl rfl (by k_is) (isE_local rfl rfl) (j := os.length) (by simp) (by simp; omega) ?_ rfl
  rw [e1]
  clear e1
  refine do_emit' I' (isE_local rfl rfl) (isE_tup (areE_cons (isE_strk rfl (by k_is)) areE_nil) (Nat.le_of_ble_eq_true rfl)) (by simp; omega) ?_ ⟨_, rfl⟩ (fun _ => rfl) rfl rfl
  have hlen3 : (os ++ [oSplit (os.length + 2), PV.none] ++ [oMark]).length = os.length + 3 := by simp
  refine seq_expr (self_put I' ((isE_local rfl rfl).use ⟨rfl, (isE_local rfl rfl).use ((ih t hn ok hz hx _ _ _ _ _ _ _ _ _ I' upd_same (by rw [hlen3]; omega)).mono ?_)⟩) ⟨_, rfl⟩ (fun _ => rfl)) rfl rfl
  rintro r σ' ⟨c, hc, hcl, rfl⟩
  rw [hlen3] at hc
  have e4 : os ++ [oSplit (os.length + 2), PV.none] ++ [oMark] ++ c = (os ++ [oSplit (os.length + 2)]) ++ PV.none :: (oMark :: c) := by simp
  rw [upd_upd, show os ++ [oSplit (os.length + 2), PV.none] ++ [PV.tup [PV.str (Str.ofString "mark")]] ++ c = _ from e4]
  clear hlen3 e4
  refine do_emit' I' (isE_local rfl rfl) (isE_tup (areE_cons (isE_strk rfl (by k_is)) areE_nil) (Nat.le_of_ble_eq_true rfl)) (by simp; omega) ?_ ⟨_, rfl⟩ (fun _ => rfl) rfl rfl
  refine do_emit' I' (isE_local rfl rfl) (isE_tup (areE_cons (isE_strk rfl (by k_is)) (areE_cons (isE_local rfl rfl) areE_nil)) (Nat.le_of_ble_eq_true rfl)) (by simp; omega) ?_ ⟨_, rfl⟩ (fun _ => rfl) rfl rfl
  refine set_goal I' rfl rfl rfl rfl (by k_is) (isE_local rfl rfl) (j := (os ++ [PV.none]).length) (by simp) (by simp; omega) ?_ rfl
  refine execs_nil' (hΨ _ _ _ ⟨_, hc.repeat, by simp; omega, congrArg (upd σ l) ?_⟩)
  have e2 : (os ++ [oSplit (os.length + 2)]) ++ PV.none :: (oMark :: c) ++ [oGain] ++ [oJump os.length] = (os ++ [oSplit (os.length + 2)]) ++ PV.none :: (oMark :: c ++ [oGain, oJump os.length]) := by simp
  have n7 : ((os ++ [oSplit (os.length + 2)]) ++ PV.none :: (oMark :: c ++ [oGain, oJump os.length])).length = os.length + c.length + 5 := by simp; omega
  have e3 : (os ++ [PV.none]).length = (os ++ [oSplit (os.length + 2)]).length := by rw [List.length_append, List.length_append]; rfl
  show ((os ++ [oSplit (os.length + 2)]) ++ PV.none :: (oMark :: c) ++ [oGain] ++ [oJump os.length]).set (os ++ [PV.none]).length (oJump ((os ++ [oSplit (os.length + 2)]) ++ PV.none :: (oMark :: c) ++ [oGain] ++ [oJump os.length]).length) = _
  rw [e2, n7, e3, set_at, List.append_assoc]
  rfl
end

/-! ## F5 -/
theorem foldl_set_len2 : ∀ (l : List Nat) (X : List PV), (l.foldl (fun X i => X.set i (oJump X.length)) X).length = X.length
  | [], _ => rfl
  | a :: l, X => by rw [List.foldl_cons, foldl_set_len2 l]; simp
theorem fold_const : ∀ (l : List Nat) (X : List PV), l.foldl (fun X i => X.set i (oJump X.length)) X = l.foldl (fun Y i => Y.set i (oJump X.length)) X
  | [], _ => rfl
  | a :: l, X => by
    rw [List.foldl_cons, fold_const l, List.foldl_cons, List.length_set]

/-- the second step: a part that is told by its list's items -/
theorem part_facts {ts : List T} {i : Nat} {p : PV} (hp : (ts.map T.pv)[i]? = some p) : ∃ t, t ∈ ts ∧ p = t.pv ∧ ts.take (i + 1) = ts.take i ++ [t] ∧ sizes (ts.take i) + t.size ≤ sizes ts ∧ i < ts.length := by
  rw [List.getElem?_map] at hp
  obtain ⟨t, ht, rfl⟩ := Option.map_eq_some_iff.mp hp
  have htk : ts.take (i + 1) = ts.take i ++ [t] := by rw [List.take_add_one, ht]; rfl
  have hsz := sizes_take ts (i + 1)
  rw [htk, sizes_append, sizes_one] at hsz
  exact ⟨t, List.mem_of_getElem? ht, rfl, htk, hsz, (List.getElem?_eq_some_iff.mp ht).1⟩
/-- the loop over the parts but the last -/
def AltJ (ts : List T) (os : List PV) (x a e l : Addr) (σb : Sig) (i : Nat) (ρ' : Rho) (σ' : Sig) : Prop :=
  ∃ cs : List (List PV), cs.length = i ∧ ChunksAt os.length (ts.take i) cs ∧ (alts .none os.length cs).length ≤ 5 * sizes (ts.take i) + 2 * i ∧ ρ'.lookup (Str.ofString "self") = some (.ref x) ∧ ρ'.lookup (Str.ofString "parts") = some (.ref a) ∧ ρ'.lookup (Str.ofString "ends") = some (.ref e) ∧
    σ' = upd (upd σb e ((endsAt os.length cs).map fun (m : Nat) => PV.int m)) l (os ++ alts .none os.length cs)
/-- the loop over the ends -/
def EndJ (x e l : Addr) (σb : Sig) (E : List Nat) (X : List PV) (i : Nat) (ρ' : Rho) (σ' : Sig) : Prop :=
  ρ'.lookup (Str.ofString "self") = some (.ref x) ∧ σ' = upd (upd σb e (E.map fun (m : Nat) => PV.int m)) l ((E.take i).foldl (fun X i => X.set i (oJump X.length)) X)
/-- what put_choice leaves behind -/
def ChoiceEnd (ts : List T) (u : T) (os : List PV) (l : Addr) (σ σ' : Sig) : Prop := ∃ e b E B new, σ e = none ∧ σ b = none ∧ e ≠ b ∧ Piece ((ts ++ [u]).flatMap ords) (cA (ts ++ [u]) + ts.length) (cB (ts ++ [u]) + ts.length) os.length new ∧ new.length ≤ 5 * sizes (ts ++ [u]) + 2 * ts.length ∧ σ' = upd (upd (upd (upd σ e []) b B) e E) l (os ++ new)
theorem ChoiceEnd.less {ts : List T} {u : T} {os : List PV} {l : Addr} {σ σ' : Sig} (x : ChoiceEnd ts u os l σ σ') : ∃ σ'', (∃ new, Piece ((ts ++ [u]).flatMap ords) (cA (ts ++ [u]) + ts.length) (cB (ts ++ [u]) + ts.length) os.length new ∧ new.length ≤ 5 * sizes (ts ++ [u]) + 2 * ts.length ∧ σ'' = upd σ l (os ++ new)) ∧ ∀ a l, σ'' a = some l → σ' a = some l := by
  obtain ⟨e, b, E, B, new, h1, h2, h3, h4, h5, h6⟩ := x
  refine ⟨upd σ l (os ++ new), ⟨new, h4, h5, rfl⟩, fun c m hc => ?_⟩
  rw [h6]
  unfold upd at hc ⊢
  by_cases c1 : c = l
  · rw [if_pos c1] at hc ⊢; exact hc
  · rw [if_neg c1] at hc ⊢
    have c2 : c ≠ e := fun q => by rw [q, h1] at hc; cases hc
    have c3 : c ≠ b := fun q => by rw [q, h2] at hc; cases hc
    rw [if_neg c2, if_neg c3, if_neg c2]; exact hc
theorem set_split (X c : List PV) : (X ++ [PV.none] ++ c ++ [PV.none]).set X.length (.tup [.str (Str.ofString "split"), .int ((X ++ [PV.none] ++ c ++ [PV.none]).length : Nat)]) = X ++ (oSplit (X.length + c.length + 2) :: c ++ [PV.none]) := by
  have e : X ++ [PV.none] ++ c ++ [PV.none] = X ++ PV.none :: (c ++ [PV.none]) := by simp
  have n : (X ++ PV.none :: (c ++ [PV.none])).length = X.length + c.length + 2 := by simp; omega
  rw [e, set_at, n]
  rfl
theorem room_c1 {o s m : Nat} (h : o + 5 * s + 2 * m ≤ 100000) (h1 : m + 1 ≤ s) : m + 1 ≤ 100000 := by omega
theorem room_c2 {o st uz m A sk i tz : Nat} (h : o + 5 * (st + uz) + 2 * m ≤ 100000) (ha : A ≤ 5 * sk + 2 * i) (hs : sk + tz ≤ st) (hi : i < m) : o + A + 5 * tz + 2 ≤ 100000 := by omega
theorem room_c3 {X a : Nat} (h : X + a + 2 ≤ 100000) : X ≤ 1000000 := by omega
theorem room_c4 {X a c : Nat} (h : X + a + 2 ≤ 100000) (hc : c ≤ a) : X + 1 + c + 1 ≤ 100000 := by omega
theorem room_c5 {A sk i c tz : Nat} (ha : A ≤ 5 * sk + 2 * i) (hc : c ≤ 5 * tz) : A + (c + 1 + 1) ≤ 5 * (sk + tz) + 2 * (i + 1) := by omega
theorem room_c6 {o st uz m A d : Nat} (h : o + 5 * (st + uz) + 2 * m ≤ 100000) (ha : A ≤ 5 * st + 2 * m) (hd : d ≤ 5 * uz) : o + A + d ≤ 100000 := by omega
theorem room_c8 {st uz m A d : Nat} (ha : A ≤ 5 * st + 2 * m) (hd : d ≤ 5 * uz) : A + d ≤ 5 * (st + uz) + 2 * m := by omega
section
variable {prog : Program} {w : World} {P : Params} {A : Around} {env : Env} {base : Addr → Option Obj} {k : Nat} {ρ : Rho} {σ : Sig}
set_option maxHeartbeats 1000000 in
theorem put_choice_spec {n : Nat} (ih : PutAt prog w P n) {ts : List T} {u : T} (ok : ∀ v ∈ ts ++ [u], v.Ok ∧ v.size ≤ n ∧ v.size ≤ 1000 ∧ v.text ≤ 1000) {x d l a : Addr} {os : List PV} (I : SelfAt base x d 82 (Str.ofString "orders") (.ref l)) (hl : σ l = some os)
    (ha : σ a = some ((ts ++ [u]).map T.pv)) (hal : a ≠ l) (hlen : os.length + 5 * sizes (ts ++ [u]) + 2 * ts.length ≤ 100000) :
    CallP (FF prog w P A env base) (3 * n + 4) (.ref 72) [.ref x, .ref a] ρ σ fun r σ' => ∃ new, Piece ((ts ++ [u]).flatMap ords) (cA (ts ++ [u]) + ts.length) (cB (ts ++ [u]) + ts.length) os.length new ∧ new.length ≤ 5 * sizes (ts ++ [u]) + 2 * ts.length ∧ σ' = upd σ l (os ++ new) := by
  refine OpL.weaken (callF [Str.ofString "self", Str.ofString "parts"] (by show List.lookup _ (hd.heap_39 P) = _; k_is) (by show codeIn (hd.heap_39 P) _ _ = true; k_is) (fnBinds2 (fun _ _ => rfl) rfl) (by decide) (by decide) rfl rfl rfl
    (Φ := fun r σ' => ChoiceEnd ts u os l σ σ') ?_) (fun p σ' x => x.less)
  intro A' L' base' up Ψ hΨ
  have I' : SelfAt base' x d 82 (Str.ofString "orders") (.ref l) := I.up up
  refine seq_assign rfl (eval_List (args_nil ⟨by decide, fun e he => ?_⟩)) rfl
  have hae : a ≠ e := fun q => by rw [q, he] at ha; cases ha
  have hle : l ≠ e := fun q => by rw [q, he] at hl; cases hl
  have hts : sizes (ts ++ [u]) = sizes ts + u.size := by rw [sizes_append, sizes_one]
  have hall : ts.length + 1 ≤ 100000 := room_c1 hlen (by have := length_le_sizes (ts ++ [u]); rwa [List.length_append] at this)
  rw [hts] at hlen
  have hlm : ((ts ++ [u]).map T.pv).length = ts.length + 1 := by rw [List.length_map, List.length_append]; rfl
  have g1 : upd σ e [] a = some ((ts ++ [u]).map T.pv) := by rw [upd_ne hae]; exact ha
  refine seq_For rfl (eval_SubUpto (eval_local rfl rfl ⟨a, _, rfl, eval_BinOp (eval_CallBuiltin (nv_len rfl) (args_cons (eval_local rfl rfl (args_nil (len_l g1 (eval_int (sub_ii ⟨ts.length, by rw [hlm, Int.natCast_add]; exact congrArg PV.int (Int.add_sub_cancel _ _), g1, by rw [hlm]; exact Nat.le_trans hall (by decide), fun b hb => ?_⟩)) (by rw [hlm]; exact Nat.le_trans hall (by decide)))))))⟩)) (fun _ _ => rfl)
  have hb' := upd_none hb
  have hlb : l ≠ b := fun q => by rw [← q, hl] at hb'; cases hb'.2
  have hab : a ≠ b := fun q => by rw [← q, ha] at hb'; cases hb'.2
  have htake : ((ts ++ [u]).map T.pv).take ts.length = ts.map T.pv := by rw [← List.map_take, List.take_left]
  rw [htake]
  generalize hσb : upd (upd σ e []) b (ts.map T.pv) = σb
  have sb_e : σb e = some [] := by rw [← hσb, upd_ne (Ne.symm hb'.1), upd_same]
  have sb_l : σb l = some os := by rw [← hσb, upd_ne hlb, upd_ne hle]; exact hl
  have sb_b : σb b = some (ts.map T.pv) := by rw [← hσb, upd_same]
  have sb_a : σb a = some ((ts ++ [u]).map T.pv) := by rw [← hσb, upd_ne hab, upd_ne hae]; exact ha
  replace hΨ : ∀ q ρ' E new, Piece ((ts ++ [u]).flatMap ords) (cA (ts ++ [u]) + ts.length) (cB (ts ++ [u]) + ts.length) os.length new → new.length ≤ 5 * sizes (ts ++ [u]) + 2 * ts.length → Ψ q ρ' (upd (upd σb e E) l (os ++ new)) := fun q ρ' E new h1 h2 =>
    hΨ q ρ' _ ⟨e, b, E, ts.map T.pv, new, he, hb'.2, Ne.symm hb'.1, h1, h2, by rw [hσb]⟩
  have hbe : b ≠ e := hb'.1
  clear hσb hl ha he hb hb' htake g1
  refine ⟨b, _, rfl, sb_b, AltJ ts os x a e l σb, ⟨[], rfl, trivial, Nat.zero_le _, rfl, rfl, rfl, ?_⟩, ?_, ?_, ?_⟩
  · simp only [alts, endsAt, List.map_nil, List.append_nil]
    rw [upd_self sb_e, upd_self sb_l]
  · rintro i ρ' σ' ⟨cs, _, _, _, _, _, _, rfl⟩
    rw [upd_ne (Ne.symm hlb), upd_ne hbe]; exact sb_b
  · rintro base2 up2 i p ρ' σ' hp ⟨cs, rfl, hcs, hcl, l1, l2, l3, rfl⟩
    refine FlowP.gen fun Ω hΩ => ?_
    have I2 : SelfAt base2 x d 82 (Str.ofString "orders") (.ref l) := I'.up up2
    obtain ⟨t, hmem, rfl, htk, hsz, hci⟩ := part_facts hp
    obtain ⟨okt, ht1, ht2, ht3⟩ := ok t (List.mem_append_left _ hmem)
    have hendl := endsAt_len cs os.length
    have hXl : (os ++ alts PV.none os.length cs).length = os.length + (alts PV.none os.length cs).length := List.length_append
    have hsn := alts_snoc PV.none
    have hes := endsAt_snoc PV.none
    generalize hX : os ++ alts PV.none os.length cs = X at hXl
    generalize hE : (endsAt os.length cs).map (fun (m : Nat) => PV.int m) = E
    have hEl : E.length ≤ 100000 := by rw [← hE, List.length_map, hendl]; exact Nat.le_trans (Nat.le_of_lt hci) (Nat.le_of_succ_le hall)
    have hX1 : X.length + 5 * t.size + 2 ≤ 100000 := by rw [hXl]; exact room_c2 hlen hcl hsz hci
    refine let_emit I2 rfl (isE_local rfl l1) isE_none (room_c3 hX1) ?_ ⟨_, rfl⟩ (fun _ => rfl) rfl
    have n1 : (X ++ [PV.none]).length = X.length + 1 := by rw [List.length_append]; rfl
    refine seq_expr (self_put I2 (eval_local rfl l1 ⟨rfl, eval_local rfl rfl (OpL.fuel ((ih t ht1 okt ht2 ht3 _ _ _ _ _ _ _ _ _ I2 upd_same (by rw [n1]; exact Nat.le_of_succ_le (room_c4 hX1 (Nat.le_refl _)))).mono ?_) (Nat.add_le_add_right (Nat.mul_le_mul_left 3 ht1) 3))⟩) ⟨_, rfl⟩ (fun _ => rfl)) rfl rfl
    rintro r σ' ⟨c, hc, hcl2, rfl⟩
    rw [upd_upd]
    rw [n1] at hc
    have n2 : (X ++ [PV.none] ++ c).length = X.length + 1 + c.length := by rw [List.length_append, n1]
    refine seq_expr (eval_ListMeth PySem.F.slot_list_append PySem.F.type_list_append (eval_local rfl l3 ⟨e, _, rfl, by rw [upd_ne (Ne.symm hle), upd_same], args_cons (self_emit I2 (eval_local rfl l1 ⟨rfl, eval_none ⟨_, upd_same, by rw [n2]; exact Nat.le_trans (Nat.le_of_succ_le (room_c4 hX1 hcl2)) (by decide), ?_⟩⟩) ⟨_, rfl⟩ (fun _ => rfl))⟩) ⟨_, rfl⟩) rfl rfl
    rw [upd_upd]
    refine args_nil (append_l (l := E) (by rw [upd_ne (Ne.symm hle), upd_same]) (Nat.le_trans hEl (by decide)) ?_)
    rw [upd_comm hle, upd_upd]
    have n3 : (X ++ [PV.none] ++ c ++ [PV.none]).length = X.length + 1 + c.length + 1 := by rw [List.length_append, n2]; rfl
    refine set_goal I2 rfl l1 rfl rfl (by k_is) (isE_local rfl rfl) (j := X.length) (by rw [n3]; exact Nat.lt_of_lt_of_le (Nat.lt_succ_self _) (Nat.le_trans (Nat.le_add_right _ _) (Nat.le_succ _))) (by rw [n3]; exact Nat.le_trans (room_c4 hX1 hcl2) (by decide)) ?_ rfl
    rw [set_split]
    refine execs_nil' (hΩ _ _ _ ⟨.inl rfl, cs ++ [c], List.length_append, ?_, ?_, l1, l2, l3, ?_⟩)
    · rw [htk]; exact chunksAt_snoc .none _ _ _ hcs (by rw [← hXl]; exact hc)
    · rw [hsn, htk, sizes_append, sizes_one, List.length_append, List.length_append, List.length_cons]; exact room_c5 hcl hcl2
    · rw [hes, hsn, ← hXl, ← List.append_assoc os, hX, List.map_append, hE, n2]
      refine congrArg (fun z => upd (upd σb e (E ++ [PV.int z])) l _) ?_
      rw [Nat.add_right_comm]
  · rintro ρ' σ' ⟨cs, hcsl, hcs, hcl, l1, l2, l3, rfl⟩
    rw [List.length_map] at hcsl hcs
    rw [List.length_map, List.take_length] at hcl
    rw [List.take_length] at hcs
    obtain ⟨oku, hu1, hu2, hu3⟩ := ok u (List.mem_append_right _ (List.mem_singleton.mpr rfl))
    have ga : upd (upd σb e ((endsAt os.length cs).map fun (m : Nat) => PV.int m)) l (os ++ alts .none os.length cs) a = some (ts.map T.pv ++ [u.pv]) := by rw [upd_ne hal, upd_ne hae, sb_a, List.map_append]; rfl
    have hXa : (os ++ alts PV.none os.length cs).length = os.length + (alts PV.none os.length cs).length := List.length_append
    refine seq_expr (self_put I' (eval_local rfl l1 ⟨rfl, IsE.use (isE_lastL rfl l2 ga (by rw [List.length_map]; exact Nat.lt_of_lt_of_le (Nat.lt_succ_self _) (Nat.le_trans hall (by decide))) rfl) (OpL.fuel ((ih u hu1 oku hu2 hu3 _ _ _ _ _ _ _ _ _ I' upd_same (by rw [hXa]; exact room_c6 hlen hcl (Nat.le_refl _))).mono ?_) (Nat.add_le_add_right (Nat.mul_le_mul_left 3 hu1) 3))⟩) ⟨_, rfl⟩ (fun _ => rfl)) rfl rfl
    rintro r σ' ⟨dd, hdd, hdl, rfl⟩
    rw [upd_upd]
    have hXl : (os ++ alts PV.none os.length cs ++ dd).length = os.length + (alts PV.none os.length cs).length + dd.length := by rw [List.length_append, hXa]
    have hEl : ∀ m ∈ endsAt os.length cs, m < (os ++ alts PV.none os.length cs ++ dd).length := fun m hm => by
      have := (endsAt_lt PV.none cs os.length m hm).2
      rw [hXl]; exact Nat.lt_of_lt_of_le this (Nat.le_add_right _ _)
    have hf := fill_ends (oJump (os ++ alts PV.none os.length cs ++ dd).length) dd cs os
    rw [hXa] at hdd
    generalize os ++ alts PV.none os.length cs ++ dd = X at hEl hXl hf
    have hX1 : X.length ≤ 16777216 := by rw [hXl]; exact Nat.le_trans (room_c6 hlen hcl hdl) (by decide)
    clear ga
    refine seq_For rfl (eval_local rfl l3 ⟨e, _, rfl, by rw [upd_ne (Ne.symm hle), upd_same], EndJ x e l σb (endsAt os.length cs) X, ⟨l1, rfl⟩, ?_, ?_, ?_⟩) (fun _ _ => rfl)
    · rintro i ρ' σ' ⟨_, rfl⟩
      rw [upd_ne (Ne.symm hle), upd_same]
    · rintro base2 up2 i p ρ' σ' hp ⟨k1, rfl⟩
      refine FlowP.gen fun Ω hΩ => ?_
      have I2 : SelfAt base2 x d 82 (Str.ofString "orders") (.ref l) := I'.up up2
      rw [List.getElem?_map] at hp
      obtain ⟨m, hm, rfl⟩ := Option.map_eq_some_iff.mp hp
      have hlt := hEl m (List.mem_of_getElem? hm)
      have hfl : (((endsAt os.length cs).take i).foldl (fun X i => X.set i (oJump X.length)) X).length = X.length := foldl_set_len2 _ _
      refine set_goal I2 rfl k1 rfl rfl (by k_is) (isE_local rfl rfl) (j := m) (by rw [hfl]; exact hlt) (by rw [hfl]; exact hX1) (execs_nil' (hΩ _ _ _ ⟨.inl rfl, k1, ?_⟩)) rfl
      rw [List.take_add_one, hm, List.foldl_append]
      rfl
    · rintro ρ' σ' ⟨k1, rfl⟩
      rw [List.length_map, List.take_length, fold_const, hf, List.append_assoc]
      refine execs_nil' (hΨ _ _ _ _ (choice_piece (d := dd) ts cs os.length hcs X.length hXl hdd) ?_)
      rw [List.length_append, alts_len _ PV.none cs os.length os.length, hts]; exact room_c8 hcl hdl
end

/-! ## F6 -/
theorem alone_kd {kd : Str} (h : (ALONEs.any fun y => y == kd) = true) : kd = Str.ofString "fence" ∨ kd = Str.ofString "fail" ∨ kd = Str.ofString "abort" ∨ kd = Str.ofString "succeed" := by
  obtain ⟨y, hy, e⟩ := List.any_eq_true.mp h
  rw [beq_iff_eq] at e
  subst e
  rcases List.mem_cons.mp hy with h | hy
  · exact .inl h
  rcases List.mem_cons.mp hy with h | hy
  · exact .inr (.inl h)
  rcases List.mem_cons.mp hy with h | hy
  · exact .inr (.inr (.inl h))
  · exact .inr (.inr (.inr (List.mem_singleton.mp hy)))
theorem leaf_chunk {kd : Str} {args : List PV} (h : Leaf kd args) (n : Nat) : Chunk (.leaf kd args) n [leafOrder kd args] := by
  have key : isSplit (leafOrder kd args) = false ∧ isJump (leafOrder kd args) = false ∧ isOrd (leafOrder kd args) := by
    unfold leafOrder
    split
    · exact ⟨by show (_ == _) = false; decide, by show (_ == _) = false; decide, _, _, rfl⟩
    split
    · exact ⟨by show (_ == _) = false; decide, by show (_ == _) = false; decide, _, _, rfl⟩
    split
    · rename_i ha
      exact ⟨by show (_ == _) = false; rcases alone_kd ha with rfl | rfl | rfl | rfl <;> decide, by show (_ == _) = false; rcases alone_kd ha with rfl | rfl | rfl | rfl <;> decide, _, _, rfl⟩
    split
    · exact ⟨by show (_ == _) = false; decide, by show (_ == _) = false; decide, _, _, rfl⟩
    · exact ⟨by show (_ == _) = false; decide, by show (_ == _) = false; decide, _, _, rfl⟩
  exact Piece.one key.1 key.2.1 key.2.2
theorem leafOrder_single {kd : Str} {args : List PV} (h : (SINGLEs.any fun y => y == kd) = true) : leafOrder kd args = oOne kd (args.head?.getD .none) := if_pos h
theorem leafOrder_ways {kd : Str} {args : List PV} (h1 : (SINGLEs.any fun y => y == kd) = false) (h : ((kd == Str.ofString "arb") || (kd == Str.ofString "bal")) = true) : leafOrder kd args = .tup [.str (Str.ofString "ways"), .str kd] := by
  unfold leafOrder; rw [h1, h]; rfl
theorem leafOrder_alone {kd : Str} {args : List PV} (h1 : (SINGLEs.any fun y => y == kd) = false) (h2 : ((kd == Str.ofString "arb") || (kd == Str.ofString "bal")) = false) (h : (ALONEs.any fun y => y == kd) = true) : leafOrder kd args = .tup [.str kd] := by
  unfold leafOrder; rw [h1, h2, h]; rfl
theorem leafOrder_place {kd : Str} {args : List PV} (h : kd = Str.ofString "cursor") : leafOrder kd args = .tup [.str (Str.ofString "place"), args.head?.getD .none] := by
  subst h; unfold leafOrder; rw [if_neg (by decide), if_neg (by decide), if_neg (by decide), if_pos (by decide)]
theorem leafOrder_ask {kd : Str} {args : List PV} (h : kd = Str.ofString "delay") : leafOrder kd args = .tup [.str (Str.ofString "ask"), args.head?.getD .none] := by
  subst h; unfold leafOrder; rw [if_neg (by decide), if_neg (by decide), if_neg (by decide), if_neg (by decide)]
/-- what put leaves behind -/
def PutRes (o : List PV) (ns nj m : Nat) (os : List PV) (l : Addr) (σ σ' : Sig) : Prop := ∃ σ₀ new, (∀ c m, σ c = some m → σ₀ c = some m) ∧ Piece o ns nj os.length new ∧ new.length ≤ m ∧ σ' = upd σ₀ l (os ++ new)
theorem PutRes.less {o : List PV} {ns nj m : Nat} {os : List PV} {l : Addr} {σ σ' : Sig} (x : PutRes o ns nj m os l σ σ') : ∃ σ'', (∃ new, Piece o ns nj os.length new ∧ new.length ≤ m ∧ σ'' = upd σ l (os ++ new)) ∧ ∀ a l, σ'' a = some l → σ' a = some l := by
  obtain ⟨σ₀, new, h0, h1, h2, h3⟩ := x
  refine ⟨upd σ l (os ++ new), ⟨new, h1, h2, rfl⟩, fun c m hc => ?_⟩
  rw [h3]
  unfold upd at hc ⊢
  by_cases c1 : c = l
  · rw [if_pos c1] at hc ⊢; exact hc
  · rw [if_neg c1] at hc ⊢; exact h0 c m hc
theorem PutRes.plain {o : List PV} {ns nj m : Nat} {os new : List PV} {l : Addr} {σ : Sig} (h1 : Piece o ns nj os.length new) (h2 : new.length ≤ m) : PutRes o ns nj m os l σ (upd σ l (os ++ new)) := ⟨σ, new, fun _ _ h => h, h1, h2, rfl⟩
abbrev PutEnd (t : T) (os : List PV) (l : Addr) (σ σ' : Sig) : Prop := PutRes (ords t) (calt t + carb t) (calt t + 2 * carb t) (5 * t.size) os l σ σ'
theorem leaf_end {kd : Str} {args : List PV} {p : PV} {σ : Sig} {l : Addr} {os : List PV} (h : Leaf kd args) (e : leafOrder kd args = p) : PutEnd (.leaf kd args) os l σ (upd σ l (os ++ [p])) :=
  .plain (e ▸ leaf_chunk h _) (by show 1 ≤ 5 * 1; decide)
theorem len_snoc {l : List PV} {p : PV} : (l ++ [p]).length = l.length + 1 := List.length_append
theorem room_mark {a b : Nat} (h : a + (5 * b + 5) ≤ 100000) : a + 1 + 5 * b ≤ 100000 := by omega
theorem room_mark2 {a b c : Nat} (h : a + (5 * b + 5) ≤ 100000) (hc : c ≤ 5 * b) : a + 1 + c ≤ 1000000 := by omega
theorem room_end {b c : Nat} (hc : c ≤ 5 * b) : c + 1 + 1 ≤ 5 * b + 5 := by omega
theorem room_os {a b : Nat} (h : a + b ≤ 100000) : a ≤ 1000000 := by omega

theorem alt_arith {s l z s' l' z' : Nat} (h : s + (l - 1) ≤ z) (h' : s' + (l' - 1) ≤ z') (hl : 0 < l) (hl' : 0 < l') : s + s' + (l + l' - 1) ≤ z + z' + 1 := by
  obtain ⟨m, rfl⟩ := Nat.exists_eq_add_one_of_ne_zero (Nat.ne_of_gt hl)
  obtain ⟨m', rfl⟩ := Nat.exists_eq_add_one_of_ne_zero (Nat.ne_of_gt hl')
  exact Nat.le_trans (Nat.le_of_eq ((congrArg (s + s' + ·) (Nat.add_right_comm m 1 m')).trans (congrArg (· + 1) (Nat.add_add_add_comm s s' m m')))) (Nat.add_le_add_right (Nat.add_le_add h h') 1)
theorem alt_size : ∀ t : T, sizes (row false t) + ((row false t).length - 1) ≤ t.size ∧ 0 < (row false t).length
  | .leaf _ _ => ⟨Nat.le_refl _, Nat.zero_lt_one⟩
  | .arbno _ => ⟨Nat.le_refl _, Nat.zero_lt_one⟩
  | .later _ _ => ⟨Nat.le_refl _, Nat.zero_lt_one⟩
  | .now _ _ => ⟨Nat.le_refl _, Nat.zero_lt_one⟩
  | .cat _ _ => ⟨Nat.le_refl _, Nat.zero_lt_one⟩
  | .alt a b => by
    have ha := alt_size a
    have hb := alt_size b
    show sizes (row false a ++ row false b) + ((row false a ++ row false b).length - 1) ≤ a.size + b.size + 1 ∧ 0 < (row false a ++ row false b).length
    rw [sizes_append, List.length_append]
    exact ⟨alt_arith ha.1 hb.1 ha.2 hb.2, Nat.lt_of_lt_of_le ha.2 (Nat.le_add_right _ _)⟩
theorem alt_bound (a b : T) : sizes (row false (.alt a b)) * 5 + 2 * ((row false (.alt a b)).length - 1) ≤ 5 * (a.size + b.size + 1) := by
  have := (alt_size (.alt a b)).1
  have e : (T.alt a b).size = a.size + b.size + 1 := rfl
  omega

section
variable {prog : Program} {w : World} {P : Params} {A : Around} {env : Env} {base : Addr → Option Obj} {k : Nat} {ρ : Rho} {σ : Sig}
theorem lk_aux {K : Frag} {a : Addr} {vs : Array Value} {n : Nat} {ps : List PV} (h : K.lookup a = some ⟨.type "tuple", none, .seq vs n, #[]⟩) (hd : ∀ h, DenL h vs.toList ps) : ∃ vs n, K.lookup a = some { cls := .type "tuple", data := .seq vs n } ∧ ∀ h, DenL h vs.toList ps := ⟨vs, n, h, hd⟩
theorem lk_SINGLE : ∃ vs n, (hd.heap_39 P).lookup 15 = some { cls := .type "tuple", data := .seq vs n } ∧ ∀ h, DenL h vs.toList (SINGLEs.map PV.str) :=
  lk_aux (by k_is) (by intro h; repeat' (first | exact DenL.nil | refine DenL.cons (Den.str _ _) ?_))
theorem lk_ALONE : ∃ vs n, (hd.heap_39 P).lookup 16 = some { cls := .type "tuple", data := .seq vs n } ∧ ∀ h, DenL h vs.toList (ALONEs.map PV.str) :=
  lk_aux (by k_is) (by intro h; repeat' (first | exact DenL.nil | refine DenL.cons (Den.str _ _) ?_))
theorem eval_SINGLE {pos : Pos} {Φ : PV → Sig → Prop} (hx : env.kindOf (Str.ofString "SINGLE") = some .globalImplicit) (h : Φ (.tup (SINGLEs.map PV.str)) σ) : EvalP (FF prog w P A env base) k (.Name (Str.ofString "SINGLE") pos) ρ σ Φ := fun s rm S Q E hQ => by
  obtain ⟨vs, n, h1, h2⟩ := lk_SINGLE (P := P)
  exact (nv_k (v := .ref 15) (by k_is) (hx := hx) : NameV (FF prog w P A env base) _ _) pos ρ σ s rm.ok S Q E (hQ (.ref 15) _ _ _ h (Den.ofTup ⟨_, rm.ok.top.inK S.keep 15 _ h1, rfl, n, rfl⟩ (h2 _)) (.refl S))
theorem eval_ALONE {pos : Pos} {Φ : PV → Sig → Prop} (hx : env.kindOf (Str.ofString "ALONE") = some .globalImplicit) (h : Φ (.tup (ALONEs.map PV.str)) σ) : EvalP (FF prog w P A env base) k (.Name (Str.ofString "ALONE") pos) ρ σ Φ := fun s rm S Q E hQ => by
  obtain ⟨vs, n, h1, h2⟩ := lk_ALONE (P := P)
  exact (nv_k (v := .ref 16) (by k_is) (hx := hx) : NameV (FF prog w P A env base) _ _) pos ρ σ s rm.ok S Q E (hQ (.ref 16) _ _ _ h (Den.ofTup ⟨_, rm.ok.top.inK S.keep 16 _ h1, rfl, n, rfl⟩ (h2 _)) (.refl S))
theorem isT_SINGLE {x s : Str} {px sp cp : Pos} {c : Bool} (hl : env.kindOf x = some .local) (e : ρ.lookup x = some (.str s)) (hg : env.kindOf (Str.ofString "SINGLE") = some .globalImplicit) (h : (SINGLEs.any fun y => y == s) = c) (hd : (x == ("__debug__" : Str)) = false := by decide) :
    IsT (FF prog w P A env base) k (.Compare (.Name x px) [.In] [.Name (Str.ofString "SINGLE") sp] cp) ρ σ c := test_Compare1 (eval_local hl e (eval_SINGLE hg (in_strs ⟨_, rfl, h, rfl⟩)) hd)
theorem isT_ALONE {x s : Str} {px sp cp : Pos} {c : Bool} (hl : env.kindOf x = some .local) (e : ρ.lookup x = some (.str s)) (hg : env.kindOf (Str.ofString "ALONE") = some .globalImplicit) (h : (ALONEs.any fun y => y == s) = c) (hd : (x == ("__debug__" : Str)) = false := by decide) :
    IsT (FF prog w P A env base) k (.Compare (.Name x px) [.In] [.Name (Str.ofString "ALONE") sp] cp) ρ σ c := test_Compare1 (eval_local hl e (eval_ALONE hg (in_strs ⟨_, rfl, h, rfl⟩)) hd)
theorem isT_len_gt {x : Str} {l : List PV} {i : Int} {np px cpos c2 cp : Pos} {c1 : Nat} {c : Bool} (hl : env.kindOf x = some .local) (e : ρ.lookup x = some (.tup l)) (hz : l.length ≤ 16777216) (hg : env.kindOf (Str.ofString "len") = some .globalImplicit) (h : decide (i < ((l.length : Nat) : Int)) = c) (hd : (x == ("__debug__" : Str)) = false := by decide) :
    IsT (FF prog w P A env base) k (.Compare (.Call (.Name (Str.ofString "len") np) [.Name x px] [] cpos) [.Gt] [.Constant (.int i) c1 c2] cp) ρ σ c :=
  test_Compare1 (eval_CallBuiltin (nv_len hg) (args_cons (eval_local hl e (args_nil (len_t (eval_int (gt_ii ⟨_, rfl, h, rfl⟩)) hz)) hd)))
theorem put_leaf {kd : Str} {args : List PV} (ok : Leaf kd args) {x d l : Addr} {os : List PV} (I : SelfAt base x d 82 (Str.ofString "orders") (.ref l)) (hl : σ l = some os) (hos' : os.length ≤ 1000000) :
    CallP (FF prog w P A env base) (k + 2) (.ref 65) [.ref x, (T.leaf kd args).pv] ρ σ fun r σ' => ∃ new, Chunk (.leaf kd args) os.length new ∧ new.length ≤ 5 * (T.leaf kd args).size ∧ σ' = upd σ l (os ++ new) := by
  refine OpL.weaken (callF [Str.ofString "self", Str.ofString "node"] (by show List.lookup _ (hd.heap_39 P) = _; k_is) (by show codeIn (hd.heap_39 P) _ _ = true; k_is) (fnBinds2 (fun _ _ => rfl) rfl) (by decide) (by decide) rfl rfl rfl
    (Φ := fun _ σ' => PutEnd (.leaf kd args) os l σ σ') ?_) (fun p σ' h => h.less)
  intro A' L' base' up Ψ hΨ
  have I' : SelfAt base' x d 82 (Str.ofString "orders") (.ref l) := I.up up
  cases ok
  · dsimp only [T.pv]
    refine let_is rfl (isE_item rfl rfl (by decide) (by decide) rfl) ?_ rfl
    refine if_ff (isT_eq rfl rfl (by decide)) ?_
    refine if_ff (isT_eq rfl rfl (by decide)) ?_
    refine if_tt (isT_SINGLE rfl rfl rfl (by decide)) ?_
    refine do_emit I' (isE_local rfl rfl) (isE_tup (areE_cons (isE_strk rfl (by k_is)) (areE_cons (isE_local rfl rfl) (areE_cons (isE_if (c := true) (isT_len_gt rfl rfl (Nat.le_of_ble_eq_true rfl) rfl rfl) (fun _ => isE_item rfl rfl (by decide) (by decide) rfl) (fun h => nomatch h)) areE_nil))) (Nat.le_of_ble_eq_true rfl)) hl hos' ?_ ⟨_, rfl⟩ (fun _ => rfl) rfl rfl
    exact execs_nil' (hΨ _ _ _ (leaf_end (Leaf.chars _) (leafOrder_single (by decide))))
  · dsimp only [T.pv]
    refine let_is rfl (isE_item rfl rfl (by decide) (by decide) rfl) ?_ rfl
    refine if_ff (isT_eq rfl rfl (by decide)) ?_
    refine if_ff (isT_eq rfl rfl (by decide)) ?_
    refine if_tt (isT_SINGLE rfl rfl rfl (by decide)) ?_
    refine do_emit I' (isE_local rfl rfl) (isE_tup (areE_cons (isE_strk rfl (by k_is)) (areE_cons (isE_local rfl rfl) (areE_cons (isE_if (c := true) (isT_len_gt rfl rfl (Nat.le_of_ble_eq_true rfl) rfl rfl) (fun _ => isE_item rfl rfl (by decide) (by decide) rfl) (fun h => nomatch h)) areE_nil))) (Nat.le_of_ble_eq_true rfl)) hl hos' ?_ ⟨_, rfl⟩ (fun _ => rfl) rfl rfl
    exact execs_nil' (hΨ _ _ _ (leaf_end (Leaf.len _) (leafOrder_single (by decide))))
  · dsimp only [T.pv]
    refine let_is rfl (isE_item rfl rfl (by decide) (by decide) rfl) ?_ rfl
    refine if_ff (isT_eq rfl rfl (by decide)) ?_
    refine if_ff (isT_eq rfl rfl (by decide)) ?_
    refine if_tt (isT_SINGLE rfl rfl rfl (by decide)) ?_
    refine do_emit I' (isE_local rfl rfl) (isE_tup (areE_cons (isE_strk rfl (by k_is)) (areE_cons (isE_local rfl rfl) (areE_cons (isE_if (c := true) (isT_len_gt rfl rfl (Nat.le_of_ble_eq_true rfl) rfl rfl) (fun _ => isE_item rfl rfl (by decide) (by decide) rfl) (fun h => nomatch h)) areE_nil))) (Nat.le_of_ble_eq_true rfl)) hl hos' ?_ ⟨_, rfl⟩ (fun _ => rfl) rfl rfl
    exact execs_nil' (hΨ _ _ _ (leaf_end (Leaf.pos _) (leafOrder_single (by decide))))
  · dsimp only [T.pv]
    refine let_is rfl (isE_item rfl rfl (by decide) (by decide) rfl) ?_ rfl
    refine if_ff (isT_eq rfl rfl (by decide)) ?_
    refine if_ff (isT_eq rfl rfl (by decide)) ?_
    refine if_tt (isT_SINGLE rfl rfl rfl (by decide)) ?_
    refine do_emit I' (isE_local rfl rfl) (isE_tup (areE_cons (isE_strk rfl (by k_is)) (areE_cons (isE_local rfl rfl) (areE_cons (isE_if (c := true) (isT_len_gt rfl rfl (Nat.le_of_ble_eq_true rfl) rfl rfl) (fun _ => isE_item rfl rfl (by decide) (by decide) rfl) (fun h => nomatch h)) areE_nil))) (Nat.le_of_ble_eq_true rfl)) hl hos' ?_ ⟨_, rfl⟩ (fun _ => rfl) rfl rfl
    exact execs_nil' (hΨ _ _ _ (leaf_end (Leaf.rtab _) (leafOrder_single (by decide))))
  · dsimp only [T.pv]
    refine let_is rfl (isE_item rfl rfl (by decide) (by decide) rfl) ?_ rfl
    refine if_ff (isT_eq rfl rfl (by decide)) ?_
    refine if_ff (isT_eq rfl rfl (by decide)) ?_
    refine if_tt (isT_SINGLE rfl rfl rfl (by decide)) ?_
    refine do_emit I' (isE_local rfl rfl) (isE_tup (areE_cons (isE_strk rfl (by k_is)) (areE_cons (isE_local rfl rfl) (areE_cons (isE_if (c := false) (isT_len_gt rfl rfl (Nat.le_of_ble_eq_true rfl) rfl rfl) (fun h => nomatch h) (fun _ => isE_none)) areE_nil))) (Nat.le_of_ble_eq_true rfl)) hl hos' ?_ ⟨_, rfl⟩ (fun _ => rfl) rfl rfl
    exact execs_nil' (hΨ _ _ _ (leaf_end (Leaf.rem) (leafOrder_single (by decide))))
  · dsimp only [T.pv]
    refine let_is rfl (isE_item rfl rfl (by decide) (by decide) rfl) ?_ rfl
    refine if_ff (isT_eq rfl rfl (by decide)) ?_
    refine if_ff (isT_eq rfl rfl (by decide)) ?_
    refine if_ff (isT_SINGLE rfl rfl rfl (by decide)) ?_
    refine if_tt (isT_or1 (isT_eq rfl rfl (by decide))) ?_
    refine do_emit I' (isE_local rfl rfl) (isE_tup (areE_cons (isE_strk rfl (by k_is)) (areE_cons (isE_local rfl rfl) areE_nil)) (Nat.le_of_ble_eq_true rfl)) hl hos' ?_ ⟨_, rfl⟩ (fun _ => rfl) rfl rfl
    exact execs_nil' (hΨ _ _ _ (leaf_end (Leaf.arb) (leafOrder_ways (by decide) (by decide))))
  · dsimp only [T.pv]
    refine let_is rfl (isE_item rfl rfl (by decide) (by decide) rfl) ?_ rfl
    refine if_ff (isT_eq rfl rfl (by decide)) ?_
    refine if_ff (isT_eq rfl rfl (by decide)) ?_
    refine if_ff (isT_SINGLE rfl rfl rfl (by decide)) ?_
    refine if_tt (isT_or2 (isT_eq rfl rfl (by decide)) (isT_eq rfl rfl (by decide))) ?_
    refine do_emit I' (isE_local rfl rfl) (isE_tup (areE_cons (isE_strk rfl (by k_is)) (areE_cons (isE_local rfl rfl) areE_nil)) (Nat.le_of_ble_eq_true rfl)) hl hos' ?_ ⟨_, rfl⟩ (fun _ => rfl) rfl rfl
    exact execs_nil' (hΨ _ _ _ (leaf_end (Leaf.bal) (leafOrder_ways (by decide) (by decide))))
  · dsimp only [T.pv]
    refine let_is rfl (isE_item rfl rfl (by decide) (by decide) rfl) ?_ rfl
    refine if_ff (isT_eq rfl rfl (by decide)) ?_
    refine if_ff (isT_eq rfl rfl (by decide)) ?_
    refine if_ff (isT_SINGLE rfl rfl rfl (by decide)) ?_
    refine if_ff (isT_or2 (isT_eq rfl rfl (by decide)) (isT_eq rfl rfl (by decide))) ?_
    refine if_ff (isT_eq rfl rfl (by decide)) ?_
    refine if_tt (isT_ALONE rfl rfl rfl (by decide)) ?_
    refine do_emit I' (isE_local rfl rfl) (isE_tup (areE_cons (isE_local rfl rfl) areE_nil) (Nat.le_of_ble_eq_true rfl)) hl hos' ?_ ⟨_, rfl⟩ (fun _ => rfl) rfl rfl
    exact execs_nil' (hΨ _ _ _ (leaf_end (Leaf.fence) (leafOrder_alone (by decide) (by decide) (by decide))))
  · dsimp only [T.pv]
    refine let_is rfl (isE_item rfl rfl (by decide) (by decide) rfl) ?_ rfl
    refine if_ff (isT_eq rfl rfl (by decide)) ?_
    refine if_ff (isT_eq rfl rfl (by decide)) ?_
    refine if_ff (isT_SINGLE rfl rfl rfl (by decide)) ?_
    refine if_ff (isT_or2 (isT_eq rfl rfl (by decide)) (isT_eq rfl rfl (by decide))) ?_
    refine if_ff (isT_eq rfl rfl (by decide)) ?_
    refine if_tt (isT_ALONE rfl rfl rfl (by decide)) ?_
    refine do_emit I' (isE_local rfl rfl) (isE_tup (areE_cons (isE_local rfl rfl) areE_nil) (Nat.le_of_ble_eq_true rfl)) hl hos' ?_ ⟨_, rfl⟩ (fun _ => rfl) rfl rfl
    exact execs_nil' (hΨ _ _ _ (leaf_end (Leaf.fail) (leafOrder_alone (by decide) (by decide) (by decide))))
  · dsimp only [T.pv]
    refine let_is rfl (isE_item rfl rfl (by decide) (by decide) rfl) ?_ rfl
    refine if_ff (isT_eq rfl rfl (by decide)) ?_
    refine if_ff (isT_eq rfl rfl (by decide)) ?_
    refine if_ff (isT_SINGLE rfl rfl rfl (by decide)) ?_
    refine if_ff (isT_or2 (isT_eq rfl rfl (by decide)) (isT_eq rfl rfl (by decide))) ?_
    refine if_ff (isT_eq rfl rfl (by decide)) ?_
    refine if_tt (isT_ALONE rfl rfl rfl (by decide)) ?_
    refine do_emit I' (isE_local rfl rfl) (isE_tup (areE_cons (isE_local rfl rfl) areE_nil) (Nat.le_of_ble_eq_true rfl)) hl hos' ?_ ⟨_, rfl⟩ (fun _ => rfl) rfl rfl
    exact execs_nil' (hΨ _ _ _ (leaf_end (Leaf.abort) (leafOrder_alone (by decide) (by decide) (by decide))))
  · dsimp only [T.pv]
    refine let_is rfl (isE_item rfl rfl (by decide) (by decide) rfl) ?_ rfl
    refine if_ff (isT_eq rfl rfl (by decide)) ?_
    refine if_ff (isT_eq rfl rfl (by decide)) ?_
    refine if_ff (isT_SINGLE rfl rfl rfl (by decide)) ?_
    refine if_ff (isT_or2 (isT_eq rfl rfl (by decide)) (isT_eq rfl rfl (by decide))) ?_
    refine if_ff (isT_eq rfl rfl (by decide)) ?_
    refine if_tt (isT_ALONE rfl rfl rfl (by decide)) ?_
    refine do_emit I' (isE_local rfl rfl) (isE_tup (areE_cons (isE_local rfl rfl) areE_nil) (Nat.le_of_ble_eq_true rfl)) hl hos' ?_ ⟨_, rfl⟩ (fun _ => rfl) rfl rfl
    exact execs_nil' (hΨ _ _ _ (leaf_end (Leaf.succeed) (leafOrder_alone (by decide) (by decide) (by decide))))
  · dsimp only [T.pv]
    refine let_is rfl (isE_item rfl rfl (by decide) (by decide) rfl) ?_ rfl
    refine if_ff (isT_eq rfl rfl (by decide)) ?_
    refine if_ff (isT_eq rfl rfl (by decide)) ?_
    refine if_ff (isT_SINGLE rfl rfl rfl (by decide)) ?_
    refine if_ff (isT_or2 (isT_eq rfl rfl (by decide)) (isT_eq rfl rfl (by decide))) ?_
    refine if_ff (isT_eq rfl rfl (by decide)) ?_
    refine if_ff (isT_ALONE rfl rfl rfl (by decide)) ?_
    refine if_tt (isT_eq rfl rfl (by decide)) ?_
    refine do_emit I' (isE_local rfl rfl) (isE_tup (areE_cons (isE_strk rfl (by k_is)) (areE_cons (isE_item rfl rfl (by decide) (by decide) rfl) areE_nil)) (Nat.le_of_ble_eq_true rfl)) hl hos' ?_ ⟨_, rfl⟩ (fun _ => rfl) rfl rfl
    exact execs_nil' (hΨ _ _ _ (leaf_end (Leaf.cursor _) (leafOrder_place rfl)))
  · dsimp only [T.pv]
    refine let_is rfl (isE_item rfl rfl (by decide) (by decide) rfl) ?_ rfl
    refine if_ff (isT_eq rfl rfl (by decide)) ?_
    refine if_ff (isT_eq rfl rfl (by decide)) ?_
    refine if_ff (isT_SINGLE rfl rfl rfl (by decide)) ?_
    refine if_ff (isT_or2 (isT_eq rfl rfl (by decide)) (isT_eq rfl rfl (by decide))) ?_
    refine if_ff (isT_eq rfl rfl (by decide)) ?_
    refine if_ff (isT_ALONE rfl rfl rfl (by decide)) ?_
    refine if_ff (isT_eq rfl rfl (by decide)) ?_
    refine if_tt (isT_eq rfl rfl (by decide)) ?_
    refine do_emit I' (isE_local rfl rfl) (isE_tup (areE_cons (isE_strk rfl (by k_is)) (areE_cons (isE_item rfl rfl (by decide) (by decide) rfl) areE_nil)) (Nat.le_of_ble_eq_true rfl)) hl hos' ?_ ⟨_, rfl⟩ (fun _ => rfl) rfl rfl
    exact execs_nil' (hΨ _ _ _ (leaf_end (Leaf.delay _ _) (leafOrder_ask rfl)))
  · dsimp only [T.pv]
    refine let_is rfl (isE_item rfl rfl (by decide) (by decide) rfl) ?_ rfl
    refine if_ff (isT_eq rfl rfl (by decide)) ?_
    refine if_ff (isT_eq rfl rfl (by decide)) ?_
    refine if_tt (isT_SINGLE rfl rfl rfl (by decide)) ?_
    refine do_emit I' (isE_local rfl rfl) (isE_tup (areE_cons (isE_strk rfl (by k_is)) (areE_cons (isE_local rfl rfl) (areE_cons (isE_if (c := true) (isT_len_gt rfl rfl (Nat.le_of_ble_eq_true rfl) rfl rfl) (fun _ => isE_item rfl rfl (by decide) (by decide) rfl) (fun h => nomatch h)) areE_nil))) (Nat.le_of_ble_eq_true rfl)) hl hos' ?_ ⟨_, rfl⟩ (fun _ => rfl) rfl rfl
    exact execs_nil' (hΨ _ _ _ (leaf_end (Leaf.span _ _ _) (leafOrder_single (by decide))))
theorem put_arbno {n : Nat} (ih : PutAt prog w P n) {u : T} (hn : u.size ≤ n) (ok : u.Ok) (hz : u.size ≤ 1000) (hx : u.text ≤ 1000) {x d l : Addr} {os : List PV} (I : SelfAt base x d 82 (Str.ofString "orders") (.ref l)) (hl : σ l = some os) (hlen : os.length + (5 * u.size + 5) ≤ 100000) :
    CallP (FF prog w P A env base) (3 * u.size + 6) (.ref 65) [.ref x, (T.arbno u).pv] ρ σ fun r σ' => ∃ new, Chunk (.arbno u) os.length new ∧ new.length ≤ 5 * u.size + 5 ∧ σ' = upd σ l (os ++ new) := by
  refine OpL.weaken (callF [Str.ofString "self", Str.ofString "node"] (by show List.lookup _ (hd.heap_39 P) = _; k_is) (by show codeIn (hd.heap_39 P) _ _ = true; k_is) (fnBinds2 (fun _ _ => rfl) rfl) (by decide) (by decide) rfl rfl rfl
    (Φ := fun _ σ' => PutRes (ords (.arbno u)) (calt (.arbno u) + carb (.arbno u)) (calt (.arbno u) + 2 * carb (.arbno u)) (5 * u.size + 5) os l σ σ') ?_) (fun p σ' h => h.less)
  intro A' L' base' up Ψ hΨ
  have I' : SelfAt base' x d 82 (Str.ofString "orders") (.ref l) := I.up up
  dsimp only [T.pv]
  refine let_is rfl (isE_item rfl rfl (by decide) (by decide) rfl) ?_ rfl
  refine if_ff (isT_eq rfl rfl (by decide)) ?_
  refine if_ff (isT_eq rfl rfl (by decide)) ?_
  refine if_ff (isT_SINGLE rfl rfl rfl (by decide)) ?_
  refine if_ff (isT_or2 (isT_eq rfl rfl (by decide)) (isT_eq rfl rfl (by decide))) ?_
  refine if_tt (isT_eq rfl rfl (by decide)) ?_
  refine seq_expr (self_put_repeat I' (eval_local rfl rfl ⟨rfl, IsE.use (isE_item rfl rfl (by decide) (by decide) rfl) (OpL.fuel ((put_repeat_spec ih hn ok hz hx I' hl hlen).mono ?_) (Nat.le_succ _))⟩) ⟨_, rfl⟩ (fun _ => rfl)) rfl rfl
  rintro r σ' ⟨new, h1, h2, rfl⟩
  exact execs_nil' (hΨ _ _ _ (.plain h1 h2))
/-- a part that is named (c) or assigned at once -/
theorem put_mark {n : Nat} (ih : PutAt prog w P n) {u : T} {kd : Str} {r : PV} (c : Bool) (h1 : (kd == Str.ofString "cat") = false) (h2 : (kd == Str.ofString "alt") = false) (h3 : (SINGLEs.any fun y => y == kd) = false) (h4 : (kd == Str.ofString "arb") = false) (h5 : (kd == Str.ofString "bal") = false)
    (h6 : (kd == Str.ofString "arbno") = false) (h7 : (ALONEs.any fun y => y == kd) = false) (h8 : (kd == Str.ofString "cursor") = false) (h9 : (kd == Str.ofString "delay") = false) (h0 : (kd == Str.ofString "later") = c)
    (hn : u.size ≤ n) (ok : u.Ok) (hz : u.size ≤ 1000) (hx : u.text ≤ 1000) {x d l : Addr} {os : List PV} (I : SelfAt base x d 82 (Str.ofString "orders") (.ref l)) (hl : σ l = some os) (hlen : os.length + (5 * u.size + 5) ≤ 100000) :
    CallP (FF prog w P A env base) (3 * u.size + 6) (.ref 65) [.ref x, .tup [.str kd, u.pv, r]] ρ σ fun _ σ' => ∃ new, Piece (oMark :: ords u ++ [.tup [.str (if c then Str.ofString "name" else Str.ofString "set"), r]]) (calt u + carb u) (calt u + 2 * carb u) os.length new ∧ new.length ≤ 5 * u.size + 5 ∧ σ' = upd σ l (os ++ new) := by
  refine OpL.weaken (callF [Str.ofString "self", Str.ofString "node"] (by show List.lookup _ (hd.heap_39 P) = _; k_is) (by show codeIn (hd.heap_39 P) _ _ = true; k_is) (fnBinds2 (fun _ _ => rfl) rfl) (by decide) (by decide) rfl rfl rfl
    (Φ := fun _ σ' => PutRes (oMark :: ords u ++ [.tup [.str (if c then Str.ofString "name" else Str.ofString "set"), r]]) (calt u + carb u) (calt u + 2 * carb u) (5 * u.size + 5) os l σ σ') ?_) (fun p σ' h => h.less)
  intro A' L' base' up Ψ hΨ
  have I' : SelfAt base' x d 82 (Str.ofString "orders") (.ref l) := I.up up
  refine let_is rfl (isE_item rfl rfl (by decide) (by decide) rfl) ?_ rfl
  refine if_ff (isT_eq rfl rfl h1) ?_
  refine if_ff (isT_eq rfl rfl h2) ?_
  refine if_ff (isT_SINGLE rfl rfl rfl h3) ?_
  refine if_ff (isT_or2 (isT_eq rfl rfl h4) (isT_eq rfl rfl h5)) ?_
  refine if_ff (isT_eq rfl rfl h6) ?_
  refine if_ff (isT_ALONE rfl rfl rfl h7) ?_
  refine if_ff (isT_eq rfl rfl h8) ?_
  refine if_ff (isT_eq rfl rfl h9) ?_
  refine do_emit I' (isE_local rfl rfl) (isE_tup (areE_cons (isE_strk rfl (by k_is)) areE_nil) (Nat.le_of_ble_eq_true rfl)) hl (room_os hlen) ?_ ⟨_, rfl⟩ (fun _ => rfl) rfl rfl
  refine seq_expr (self_put I' (eval_local rfl rfl ⟨rfl, IsE.use (isE_item rfl rfl (by decide) (by decide) rfl) (OpL.fuel ((ih u hn ok hz hx _ _ _ _ _ _ _ _ _ I' upd_same (by rw [len_snoc]; exact room_mark hlen)).mono ?_) (Nat.le_add_right _ 2))⟩) ⟨_, rfl⟩ (fun _ => rfl)) rfl rfl
  rintro r' σ' ⟨new, hc, hcl, rfl⟩
  rw [upd_upd]
  rw [len_snoc] at hc
  refine do_emit' I' (isE_local rfl rfl) (isE_tup (areE_cons (p := .str (if c then Str.ofString "name" else Str.ofString "set")) (isE_if (isT_eq rfl rfl h0) (fun h => ?_) (fun h => ?_)) (areE_cons (isE_item rfl rfl (by decide) (by decide) rfl) areE_nil)) (Nat.le_of_ble_eq_true rfl)) (by rw [List.length_append, len_snoc]; exact room_mark2 hlen hcl) ?_ ⟨_, rfl⟩ (fun _ => rfl) rfl rfl
  · rw [if_pos h]; exact isE_strk rfl (by k_is)
  · rw [h]; exact isE_strk rfl (by k_is)
  rw [List.append_assoc, List.append_assoc]
  exact execs_nil' (hΨ _ _ _ (.plain (hc.wrap (by cases c <;> (show (_ == _) = false; decide)) (by cases c <;> (show (_ == _) = false; decide)) ⟨_, _, rfl⟩) (by show (oMark :: (new ++ [_])).length ≤ _; rw [List.length_cons, len_snoc]; exact room_end hcl)))
theorem cat_facts {a b : T} (ok : (T.cat a b).Ok) (hz : (T.cat a b).size ≤ 1000) (hx : (T.cat a b).text ≤ 1000) : (∀ u ∈ joinT (row true (.cat a b)), u.Ok ∧ u.size ≤ a.size + b.size ∧ u.size ≤ 1000 ∧ u.text ≤ 1000) ∧ sizes (joinT (row true (.cat a b))) ≤ a.size + b.size ∧
    (row true (.cat a b)).length ≤ 1000 ∧ texts (row true (.cat a b)) ≤ 1000 := by
  have hs1 : a.size + b.size + 1 ≤ 1000 := hz
  have hrc : sizes (row true (.cat a b)) ≤ a.size + b.size := by
    show sizes (row true a ++ row true b) ≤ _
    rw [sizes_append]; exact Nat.add_le_add (sizes_row true a) (sizes_row true b)
  have hj := Nat.le_trans (sizes_join (row true (.cat a b))) hrc
  have ht := Nat.le_trans (texts_row true (.cat a b)) hx
  have h1000 : a.size + b.size ≤ 1000 := Nat.le_of_succ_le hs1
  refine ⟨fun u hu => ?_, hj, Nat.le_trans (length_le_sizes _) (Nat.le_trans hrc h1000), ht⟩
  have hus := Nat.le_trans (size_le_of_mem hu) hj
  exact ⟨joinT_ok (row_ok true (.cat a b) ok) u hu, hus, Nat.le_trans hus h1000, Nat.le_trans (text_le_of_mem hu) (Nat.le_trans (joinT_bounds _).1 ht)⟩
/-- the loop of put over the parts of a row -/
def CatJ (J : List T) (os : List PV) (x l : Addr) (σ₀ : Sig) (i : Nat) (ρ' : Rho) (σ' : Sig) : Prop :=
  ∃ new, Piece ((J.take i).flatMap ords) (cA (J.take i)) (cB (J.take i)) os.length new ∧ new.length ≤ 5 * sizes (J.take i) ∧ ρ'.lookup (Str.ofString "self") = some (.ref x) ∧ σ' = upd σ₀ l (os ++ new)
theorem room_cat {a s z u n : Nat} (h : a + (5 * z + 5) ≤ 100000) (hs : s + u ≤ z) (hn : n ≤ 5 * s) : a + n + 5 * u ≤ 100000 := by omega
theorem room_cat2 {s u n c : Nat} (hn : n ≤ 5 * s) (hc : c ≤ 5 * u) : n + c ≤ 5 * (s + u) := by rw [Nat.mul_add]; exact Nat.add_le_add hn hc
theorem put_cat {n : Nat} (ih : PutAt prog w P n) {a b : T} (hn : a.size + b.size ≤ n) (ok : (T.cat a b).Ok) (hz : (T.cat a b).size ≤ 1000) (hx : (T.cat a b).text ≤ 1000) {x d l : Addr} {os : List PV} (I : SelfAt base x d 82 (Str.ofString "orders") (.ref l)) (hl : σ l = some os) (hlen : os.length + (5 * (a.size + b.size) + 5) ≤ 100000) :
    CallP (FF prog w P A env base) (3 * (a.size + b.size) + 6) (.ref 65) [.ref x, (T.cat a b).pv] ρ σ fun r σ' => ∃ new, Chunk (.cat a b) os.length new ∧ new.length ≤ 5 * (a.size + b.size) + 5 ∧ σ' = upd σ l (os ++ new) := by
  refine OpL.weaken (callF [Str.ofString "self", Str.ofString "node"] (by show List.lookup _ (hd.heap_39 P) = _; k_is) (by show codeIn (hd.heap_39 P) _ _ = true; k_is) (fnBinds2 (fun _ _ => rfl) rfl) (by decide) (by decide) rfl rfl rfl
    (Φ := fun _ σ' => PutRes (ords (.cat a b)) (calt (.cat a b) + carb (.cat a b)) (calt (.cat a b) + 2 * carb (.cat a b)) (5 * (a.size + b.size) + 5) os l σ σ') ?_) (fun p σ' h => h.less)
  intro A' L' base' up Ψ hΨ
  have I' : SelfAt base' x d 82 (Str.ofString "orders") (.ref l) := I.up up
  obtain ⟨hJ1, hJ2, hJ3, hJ4⟩ := cat_facts ok hz hx
  refine let_is rfl (isE_item (l := [.str (Str.ofString "cat"), a.pv, b.pv]) rfl rfl (by decide) (by decide) rfl) ?_ rfl
  refine if_tt (isT_eq rfl rfl (by decide)) ?_
  refine seq_For rfl (eval_CallName (nv_with_texts_joined rfl) (by show keepIn (hd.heap_39 P) _ = true; k_is) (args_cons (eval_CallName (nv_row_of rfl) (by show keepIn (hd.heap_39 P) _ = true; k_is) (args_cons (eval_local rfl rfl (args_cons (eval_str (args_nil ?_)))))))) (fun _ _ => rfl)
  refine OpL.fuel ((row_of_spec (k := 0) true (.cat a b) ok hz).mono ?_) (Nat.le_add_left 1 _)
  rintro r σ' ⟨c, hc, rfl, rfl⟩
  refine args_nil (OpL.fuel ((with_texts_joined_spec (k := 0) upd_same (row_ok true (.cat a b) ok) hJ3 hJ4).mono ?_) (Nat.le_add_left 2 _))
  rintro r σ' ⟨c2, hc2, rfl, rfl⟩
  have hcl : l ≠ c := fun q => by rw [q, hc] at hl; cases hl
  have hc2' := upd_none hc2
  have hcl2 : l ≠ c2 := fun q => by rw [← q, hl] at hc2'; cases hc2'.2
  have s_l : upd (upd σ c ((row true (.cat a b)).map T.pv)) c2 ((joinT (row true (.cat a b))).map T.pv) l = some os := by rw [upd_ne hcl2, upd_ne hcl]; exact hl
  have s_up : ∀ c' m, σ c' = some m → upd (upd σ c ((row true (.cat a b)).map T.pv)) c2 ((joinT (row true (.cat a b))).map T.pv) c' = some m := fun c' m h => upd_sub hc2 _ _ (upd_sub hc _ _ h)
  have s_c2 : upd (upd σ c ((row true (.cat a b)).map T.pv)) c2 ((joinT (row true (.cat a b))).map T.pv) c2 = some ((joinT (row true (.cat a b))).map T.pv) := upd_same
  replace hΨ : ∀ q ρ' new, Piece ((joinT (row true (.cat a b))).flatMap ords) (cA (joinT (row true (.cat a b)))) (cB (joinT (row true (.cat a b)))) os.length new → new.length ≤ 5 * (a.size + b.size) → Ψ q ρ' (upd (upd (upd σ c ((row true (.cat a b)).map T.pv)) c2 ((joinT (row true (.cat a b))).map T.pv)) l (os ++ new)) := fun q ρ' new h1 h2 => by
    have hj := counts_join (row true (.cat a b))
    have hr := counts_rowT (.cat a b)
    rw [← ords_join, hj.1, hj.2, hr.1, hr.2] at h1
    exact hΨ q ρ' _ ⟨_, new, s_up, h1, Nat.le_trans h2 (Nat.le_add_right _ 5), rfl⟩
  generalize upd (upd σ c ((row true (.cat a b)).map T.pv)) c2 ((joinT (row true (.cat a b))).map T.pv) = σ₀ at *
  generalize joinT (row true (.cat a b)) = J at *
  clear hc hc2 hc2' hcl s_up hl hz hx hJ3 hJ4
  refine ⟨c2, _, rfl, s_c2, CatJ J os x l σ₀, ⟨[], Piece.nil _, Nat.zero_le _, rfl, ?_⟩, ?_, ?_, ?_⟩
  · rw [List.append_nil, upd_self s_l]
  · rintro i ρ' σ' ⟨new, _, _, _, rfl⟩
    rw [upd_ne (Ne.symm hcl2)]; exact s_c2
  · rintro base2 up2 i p ρ' σ' hp ⟨new, h1, h2, k1, rfl⟩
    have I2 : SelfAt base2 x d 82 (Str.ofString "orders") (.ref l) := I'.up up2
    obtain ⟨u, hmem, rfl, htk, hsz, _⟩ := part_facts hp
    obtain ⟨oku, hus, huz, hut⟩ := hJ1 u hmem
    refine FlowP.gen fun Ω hΩ => ?_
    refine seq_expr (self_put I2 (eval_local rfl k1 ⟨rfl, eval_local rfl rfl (OpL.fuel ((ih u (Nat.le_trans hus hn) oku huz hut _ _ _ _ _ _ _ _ _ I2 upd_same (by rw [List.length_append]; exact room_cat hlen (Nat.le_trans hsz hJ2) h2)).mono ?_) (Nat.le_trans (Nat.add_le_add_right (Nat.mul_le_mul_left 3 hus) 3) (Nat.le_add_right _ 2)))⟩) ⟨_, rfl⟩ (fun _ => rfl)) rfl rfl
    rintro r σ' ⟨c3, hc3, hcl3, rfl⟩
    rw [upd_upd, List.append_assoc]
    rw [List.length_append] at hc3
    have h3 := h1.append hc3
    refine execs_nil' (hΩ _ _ _ ⟨.inl rfl, new ++ c3, ?_, ?_, k1, rfl⟩)
    · rw [htk, List.flatMap_append, cA_append, cB_append, cA_one, cB_one, List.flatMap_singleton]
      exact h3
    · rw [htk, sizes_append, sizes_one, List.length_append]; exact room_cat2 h2 hcl3
  · rintro ρ' σ' ⟨new, h1, h2, k1, rfl⟩
    rw [List.length_map, List.take_length] at h1 h2
    exact execs_nil' (hΨ _ _ _ h1 (Nat.le_trans h2 (Nat.mul_le_mul_left 5 hJ2)))
theorem alt_facts {a b : T} (ok : (T.alt a b).Ok) (hz : (T.alt a b).size ≤ 1000) (hx : (T.alt a b).text ≤ 1000) : ∀ u ∈ row false (.alt a b), u.Ok ∧ u.size ≤ a.size + b.size ∧ u.size ≤ 1000 ∧ u.text ≤ 1000 := by
  have hs1 : a.size + b.size + 1 ≤ 1000 := hz
  have hrc : sizes (row false (.alt a b)) ≤ a.size + b.size := by
    show sizes (row false a ++ row false b) ≤ _
    rw [sizes_append]; exact Nat.add_le_add (sizes_row false a) (sizes_row false b)
  refine fun u hu => ?_
  have hus := Nat.le_trans (size_le_of_mem hu) hrc
  exact ⟨row_ok false (.alt a b) ok u hu, hus, Nat.le_trans hus (Nat.le_of_succ_le hs1), Nat.le_trans (text_le_of_mem hu) (Nat.le_trans (texts_row false (.alt a b)) hx)⟩
theorem room_alt {a s m z : Nat} (h : a + (5 * z + 5) ≤ 100000) (hs : s * 5 + 2 * m ≤ 5 * (z + 1)) : a + 5 * s + 2 * m ≤ 100000 := by omega
theorem room_alt2 {s m z : Nat} (hs : s * 5 + 2 * m ≤ 5 * (z + 1)) : 5 * s + 2 * m ≤ 5 * z + 5 := by rw [Nat.mul_comm 5 s]; exact hs
theorem put_alt {n : Nat} (ih : PutAt prog w P n) {a b : T} (hn : a.size + b.size ≤ n) (ok : (T.alt a b).Ok) (hz : (T.alt a b).size ≤ 1000) (hx : (T.alt a b).text ≤ 1000) {x d l : Addr} {os : List PV} (I : SelfAt base x d 82 (Str.ofString "orders") (.ref l)) (hl : σ l = some os) (hlen : os.length + (5 * (a.size + b.size) + 5) ≤ 100000) :
    CallP (FF prog w P A env base) (3 * (a.size + b.size) + 6) (.ref 65) [.ref x, (T.alt a b).pv] ρ σ fun r σ' => ∃ new, Chunk (.alt a b) os.length new ∧ new.length ≤ 5 * (a.size + b.size) + 5 ∧ σ' = upd σ l (os ++ new) := by
  refine OpL.weaken (callF [Str.ofString "self", Str.ofString "node"] (by show List.lookup _ (hd.heap_39 P) = _; k_is) (by show codeIn (hd.heap_39 P) _ _ = true; k_is) (fnBinds2 (fun _ _ => rfl) rfl) (by decide) (by decide) rfl rfl rfl
    (Φ := fun _ σ' => PutRes (ords (.alt a b)) (calt (.alt a b) + carb (.alt a b)) (calt (.alt a b) + 2 * carb (.alt a b)) (5 * (a.size + b.size) + 5) os l σ σ') ?_) (fun p σ' h => h.less)
  intro A' L' base' up Ψ hΨ
  have I' : SelfAt base' x d 82 (Str.ofString "orders") (.ref l) := I.up up
  have hf := alt_facts ok hz hx
  have hr4 := counts_row (.alt a b)
  have hr6 := ords_row (.alt a b)
  have hrl := alt_bound a b
  refine let_is rfl (isE_item (l := [.str (Str.ofString "alt"), a.pv, b.pv]) rfl rfl (by decide) (by decide) rfl) ?_ rfl
  refine if_ff (isT_eq rfl rfl (by decide)) ?_
  refine if_tt (isT_eq rfl rfl (by decide)) ?_
  refine seq_expr (self_put_choice I' (eval_local rfl rfl ⟨rfl, eval_CallName (nv_row_of rfl) (by show keepIn (hd.heap_39 P) _ = true; k_is) (args_cons (eval_local rfl rfl (args_cons (eval_str (args_nil ?_)))))⟩) ⟨_, rfl⟩ (fun _ => rfl)) rfl rfl
  refine OpL.fuel ((row_of_spec (k := 0) false (.alt a b) ok hz).mono ?_) (Nat.le_add_left 1 _)
  rintro r σ' ⟨c, hc, rfl, rfl⟩
  have hcl : c ≠ l := fun q => by rw [← q, hc] at hl; cases hl
  rcases List.eq_nil_or_concat (row false (.alt a b)) with h0 | ⟨ts, u, h0⟩
  · rw [h0] at hr4; exact absurd hr4.2.2 (Nat.lt_irrefl 0)
  rw [List.concat_eq_append] at h0
  rw [h0] at hf hr4 hr6 hrl ⊢
  rw [List.length_append, List.length_singleton, Nat.add_sub_cancel] at hr4 hrl
  refine OpL.fuel ((put_choice_spec (n := a.size + b.size) (fun v hv1 => ih v (Nat.le_trans hv1 hn)) hf I' (by rw [upd_ne (Ne.symm hcl)]; exact hl) upd_same hcl (room_alt hlen hrl)).mono ?_) (Nat.le_succ _)
  rintro r σ' ⟨new, h1, h2, rfl⟩
  rw [hr6, hr4.1, hr4.2.1] at h1
  exact execs_nil' (hΨ _ _ _ ⟨_, new, upd_sub hc, h1, Nat.le_trans h2 (room_alt2 hrl), rfl⟩)
theorem put_step {n : Nat} (ih : PutAt prog w P n) : PutAt prog w P (n + 1) := by
  intro t hn ok hz hx A env base ρ σ x d l os I hl hlen
  cases t with
  | leaf kd args => exact put_leaf ok I hl (room_os hlen)
  | arbno u => exact put_arbno ih (Nat.le_of_succ_le_succ hn) ok (Nat.le_of_succ_le hz) hx I hl hlen
  | later u r => exact put_mark ih true (by decide) (by decide) (by decide) (by decide) (by decide) (by decide) (by decide) (by decide) (by decide) (by decide) (Nat.le_of_succ_le_succ hn) ok (Nat.le_of_succ_le hz) hx I hl hlen
  | now u r => exact put_mark ih false (by decide) (by decide) (by decide) (by decide) (by decide) (by decide) (by decide) (by decide) (by decide) (by decide) (Nat.le_of_succ_le_succ hn) ok (Nat.le_of_succ_le hz) hx I hl hlen
  | cat a b => exact put_cat ih (Nat.le_of_succ_le_succ hn) ok hz hx I hl hlen
  | alt a b => exact put_alt ih (Nat.le_of_succ_le_succ hn) ok hz hx I hl hlen
theorem put_all : ∀ n, PutAt prog w P n
  | 0 => fun t hn => absurd t.size_pos (Nat.not_lt_of_le hn)
  | n + 1 => put_step (put_all n)
end

/-! ## F7 -/
theorem in_two {x : Str} (h : ([Str.ofString "jump", Str.ofString "split"].any fun y => y == x) = true) : x = Str.ofString "jump" ∨ x = Str.ofString "split" := by
  obtain ⟨y, hy, e⟩ := List.any_eq_true.mp h
  rw [beq_iff_eq] at e
  subst e
  rcases List.mem_cons.mp hy with h | hy
  · exact .inl h
  · exact .inr (List.mem_singleton.mp hy)
theorem notin_two {x : Str} {l : List PV} (h : ([Str.ofString "jump", Str.ofString "split"].any fun y => y == x) = false) : Mine.plain (.tup (.str x :: l)) = true := by
  simp only [List.any_cons, List.any_nil, Bool.or_false, Bool.or_eq_false_iff] at h
  have c1 : isJump (.tup (.str x :: l)) = false := beq_eq_false_iff_ne.mpr (Ne.symm (beq_eq_false_iff_ne.mp h.1))
  have c2 : isSplit (.tup (.str x :: l)) = false := beq_eq_false_iff_ne.mpr (Ne.symm (beq_eq_false_iff_ne.mp h.2))
  unfold Mine.plain; rw [c1, c2]; rfl
/-- an order that leads elsewhere: where it leads -/
theorem goal_of {X : List PV} (hX : GoodX X) {i : Nat} {x : Str} {l : List PV} (hp : X[i]? = some (.tup (.str x :: l))) (h : x = Str.ofString "jump" ∨ x = Str.ofString "split") : ∃ g : Nat, l = [.int g] ∧ g < X.length := by
  rcases h with rfl | rfl
  · obtain ⟨g, e1, e2, _⟩ := hX.jump i _ hp (by show (_ == _) = true; decide)
    injection e1 with e1; injection e1 with _ e1; exact ⟨g, e1, e2⟩
  · obtain ⟨g, e1, e2⟩ := hX.split i _ hp (by show (_ == _) = true; decide)
    injection e1 with e1; injection e1 with _ e1; exact ⟨g, e1, e2⟩
theorem sp_goal {X : List PV} {x : Str} {g g' : Nat} {r : PV} (h : x = Str.ofString "jump" ∨ x = Str.ofString "split") (hr : X[g']? = some r) (hj : isJump r = false) : SP X (.tup [.str x, .int g]) (.tup [.str x, .int g']) := by
  rcases h with rfl | rfl
  · exact .inr ⟨g', .inr ⟨isJump_jump g, rfl⟩, r, hr, hj⟩
  · exact .inr ⟨g', .inl ⟨isSplit_split g, rfl⟩, r, hr, hj⟩
/-- the loop over the orders -/
def StrJ (X : List PV) (a b : Addr) (σ : Sig) (i : Nat) (ρ' : Rho) (σ' : Sig) : Prop := ∃ F, All2 (SP X) (X.take i) F ∧ ρ'.lookup (Str.ofString "orders") = some (.ref a) ∧ ρ'.lookup (Str.ofString "found") = some (.ref b) ∧ σ' = upd σ b F
/-- the loop along the jumps -/
def GoalJ (X : List PV) (x : Str) (g : Nat) (a b : Addr) (σ' : Sig) (n : Nat) (ρ₂ : Rho) (σ₂ : Sig) : Prop :=
  ∃ g' : Nat, g' < X.length ∧ n = mu X g' ∧ ρ₂.lookup (Str.ofString "goal") = some (.int g') ∧ ρ₂.lookup (Str.ofString "orders") = some (.ref a) ∧ ρ₂.lookup (Str.ofString "found") = some (.ref b) ∧ ρ₂.lookup (Str.ofString "order") = some (.tup [.str x, .int g]) ∧ σ₂ = σ'
section
variable {f : Fm} {k : Nat} {ρ : Rho} {σ : Sig}
/-- `x[y]`, x a list, y a place -/
theorem isE_listAt {x y : Str} {a : Addr} {X : List PV} {g : Nat} {r : PV} {px py pos : Pos} (hx : f.env.kindOf x = some .local) (ex : ρ.lookup x = some (.ref a)) (hy : f.env.kindOf y = some .local) (ey : ρ.lookup y = some (.int (g : Nat))) (ha : σ a = some X) (hr : X[g]? = some r) (hg : g < 16777216)
    (hd : (x == ("__debug__" : Str)) = false := by decide) (hd2 : (y == ("__debug__" : Str)) = false := by decide) : IsE f k (.Subscript (.Name x px) (.Name y py) pos) ρ σ r :=
  eval_Subscript' (eval_local hx ex (eval_local hy ey (sub_list ha (Int.natCast_nonneg _) (Int.ofNat_lt.mpr hg) (by rw [Int.toNat_natCast]; exact hr) ⟨rfl, rfl⟩) hd2) hd)
end
section
variable {prog : Program} {w : World} {P : Params} {A : Around} {env : Env} {base : Addr → Option Obj} {k : Nat} {ρ : Rho} {σ : Sig}
theorem straightened_spec {a : Addr} {X : List PV} (hX : GoodX X) (ha : σ a = some X) (hz : X.length ≤ 1000000) :
    CallP (FF prog w P A env base) (k + 1) (.ref 93) [.ref a] ρ σ fun r σ' => ∃ b R, σ b = none ∧ r = .ref b ∧ All2 (SP X) X R ∧ σ' = upd σ b R := by
  refine callF [Str.ofString "orders"] (by show List.lookup _ (hd.heap_39 P) = _; k_is) (by show codeIn (hd.heap_39 P) _ _ = true; k_is) (fnBinds1 (fun _ => rfl) rfl) (by decide) (by decide) rfl rfl rfl ?_
  intro A' L' base' up Ψ hΨ
  refine seq_assign rfl (eval_List (args_nil ⟨by decide, fun b hb => ?_⟩)) rfl
  have hab : a ≠ b := fun e => by rw [e, hb] at ha; cases ha
  have hA : ∀ F, upd σ b F a = some X := fun F => by rw [upd_ne hab]; exact ha
  replace hΨ : ∀ ρ' F, All2 (SP X) X F → Ψ (.ret (.ref b)) ρ' (upd σ b F) := fun ρ' F h => hΨ _ _ _ ⟨b, F, hb, rfl, h, rfl⟩
  clear ha hb hab
  refine seq_For rfl (eval_local rfl rfl ⟨a, _, rfl, hA _, StrJ X a b σ, ⟨[], .nil, rfl, rfl, rfl⟩, ?_, ?_, ?_⟩) (fun _ _ => rfl)
  · rintro i ρ' σ' ⟨F, _, _, _, rfl⟩; exact hA _
  · rintro base2 up2 i p ρ' σ' hp ⟨F, hF, l1, l2, rfl⟩
    refine FlowP.gen fun Ω hΩ => ?_
    have hFz : F.length ≤ 16777216 := by rw [← hF.length]; exact Nat.le_trans (List.length_take_le' i X) (Nat.le_trans hz (by decide))
    have htk : X.take (i + 1) = X.take i ++ [p] := by rw [List.take_add_one, hp]; rfl
    replace hΩ : ∀ ρ₂ q, ρ₂.lookup (Str.ofString "orders") = some (.ref a) → ρ₂.lookup (Str.ofString "found") = some (.ref b) → SP X p q → Ω .next ρ₂ (upd σ b (F ++ [q])) := fun ρ₂ q h1 h2 h3 => hΩ _ _ _ ⟨.inl rfl, _, htk ▸ hF.snoc h3, h1, h2, rfl⟩
    obtain ⟨x, l, rfl⟩ := hX.ord i p hp
    clear htk hF
    refine if_of (isT_in [Str.ofString "jump", Str.ofString "split"] (isE_item rfl rfl (by decide) (by decide) rfl) (isE_tup (areE_cons (isE_strk rfl (by k_is)) (areE_cons (isE_strk rfl (by k_is)) areE_nil)) (Nat.le_of_ble_eq_true rfl)) rfl) (fun hc => ?_) (fun hc => ?_)
    · have hx := in_two hc
      obtain ⟨g, rfl, hg⟩ := goal_of hX hp hx
      clear hp hc
      refine let_is rfl (isE_item rfl rfl (by decide) (by decide) rfl) ?_ rfl
      refine seq_While (GoalJ X x g a b (upd σ b F)) (mu X g) ⟨g, hg, rfl, rfl, l1, l2, rfl, rfl⟩ ?_
      clear l1 l2 hg
      rintro n ρ₂ σ₂ ⟨g', hg', rfl, k1, k2, k3, k4, rfl⟩
      obtain ⟨r, hr⟩ : ∃ r, X[g']? = some r := ⟨X[g'], List.getElem?_eq_getElem hg'⟩
      have hmu := fun hj => mu_jump hX hr hj
      obtain ⟨y, m, rfl⟩ := hX.ord g' r hr
      have hgz : g' < 16777216 := Nat.lt_of_lt_of_le hg' (Nat.le_trans hz (by decide))
      refine IsT.use (isT_eqE (isE_sub (isE_listAt rfl k2 rfl k1 (hA _) hr hgz) (by decide) (by decide) rfl) (isE_strk rfl (by k_is)) rfl) ⟨fun hc => ?_, fun hc => ?_⟩
      · obtain ⟨g2, e1, hg2, hlt⟩ := hmu hc
        injection e1 with e1; injection e1 with _ e1; subst e1
        refine let_is rfl (isE_sub (isE_listAt rfl k2 rfl k1 (hA _) hr hgz) (by decide) (by decide) rfl) ?_ rfl
        exact execs_nil' ⟨.inl rfl, _, hlt, g2, hg2, rfl, rfl, k2, k3, k4, rfl⟩
      · refine let_is rfl (isE_tup (areE_cons (isE_item rfl k4 (by decide) (by decide) rfl) (areE_cons (isE_local rfl k1) areE_nil)) (Nat.le_of_ble_eq_true rfl)) ?_ rfl
        exact do_append rfl k3 hFz (isE_local rfl rfl) (execs_nil' (hΩ _ _ k2 k3 (sp_goal hx hr hc))) ⟨_, rfl⟩ rfl rfl
    · exact do_append rfl l2 hFz (isE_local rfl rfl) (execs_nil' (hΩ _ _ l1 l2 (.inl ⟨notin_two hc, rfl⟩))) ⟨_, rfl⟩ rfl rfl
  · rintro ρ' σ' ⟨F, hF, l1, l2, rfl⟩
    rw [List.take_length] at hF
    exact ret_is (isE_local rfl l2) (hΨ _ _ hF)
end

/-! ## F8 -/
section
variable {prog : Program} {w : World} {P : Params} {A : Around} {env : Env} {base : Addr → Option Obj} {k : Nat} {ρ : Rho} {σ : Sig}
theorem seq_newPC {c : Str} {pc px pos pos2 : Pos} {sts : List Stmt} {Φ : FP → Rho → Sig → Prop} (hl : env.kindOf c = some .local) (hx : env.kindOf (Str.ofString "PatternCode") = some .globalImplicit)
    (h : ∀ (x dx l : Addr) (base' : Addr → Option Obj), (∀ b o, base b = some o → base' b = some o) → SelfAt base' x dx 82 (Str.ofString "orders") (.ref l) → σ l = none → ExecsP (FF prog w P A env base') (k + 2) sts ((c, .ref x) :: ρ) (upd σ l []) Φ)
    (hs : swapsWith (.Call (.Name (Str.ofString "PatternCode") px) [] [] pos) (some (.Name c pc)) pos2.line env = pure false) :
    ExecsP (FF prog w P A env base) (k + 2) (.Assign [.Name c pc] (.Call (.Name (Str.ofString "PatternCode") px) [] [] pos) pos2 :: sts) ρ σ Φ := fun s rm S Q E hQ => by
  have hv : NameV (FF prog w P A env base) (Str.ofString "PatternCode") (.ref 82) := nv_PatternCode hx
  refine wpAny_execs_cons (wpAny_Assign_Name (Call_ (hv px ρ σ s rm.ok S _ _ (callWith_K0 (rm.ok.top.inK S.keep) (by show keepIn (hd.heap_39 P) _ = true; k_is) (new_low (f := FF prog w P A env base) (k := k) (ps := []) (vs := []) [Str.ofString "self"] rm S .nil (by show makesIn (hd.heap_39 P) _ = true; k_is) (by show findIn (hd.heap_39 P) _ _ = _; k_is) (by show typeIn (hd.heap_39 P) _ = _; k_is) (by show List.lookup _ (hd.heap_39 P) = _; k_is) (by show codeIn (hd.heap_39 P) _ _ = true; k_is) (fnBinds1 (fun _ => rfl) rfl) (by decide) (by decide) rfl rfl rfl
    (Φ := fun x σ' es n => ∃ l hs tk, σ l = none ∧ σ' = upd σ l [] ∧ es = [⟨hs, .str (Str.ofString "orders") tk, .ref l⟩]) ?_ ?_)))) hs)
  · intro A' L' base' x dx up
    refine init_attr (fun base2 up2 => eval_List (args_nil ⟨by decide, fun a ha => eval_local rfl rfl ⟨rfl, fun v hs tk h hv => ?_⟩⟩)) (by show findIn (hd.heap_39 P) _ _ = _; k_is) (by show plainOver (hd.heap_39 P) _ = true; k_is) (by show takerIn (hd.heap_39 P) _ _ = _; k_is) (by show hasDictIn (hd.heap_39 P) _ = true; k_is) rfl (by decide) rfl
    have := hv.toRef; subst this
    exact init_nil ⟨a, hs, tk, ha, rfl, rfl⟩
  · rintro s' σ' x dx es n ⟨l, hs', tk, hln, rfl, rfl⟩ N hx' hd' hbx hbd hxL hdL
    have sx := N.st.noList (inst_notList hx')
    have sd := N.st.noList (dict_notList hd')
    have xd : x ≠ dx := fun q => by
      rw [q, hd'] at hx'
      have q := congrArg Obj.cls (Option.some.inj hx')
      cases q
    have S2 := (N.st.pin hx' sx).pin hd' sd
    have up : ∀ b o, base b = some o → (if b = dx then some (dictOf [⟨hs', .str (Str.ofString "orders") tk, .ref l⟩] n) else if b = x then some (instObj 82 dx) else base b) = some o := fun b o eb => by
      rw [if_neg (fun q => by rw [q] at eb; rw [show base dx = none from hbd] at eb; cases eb), if_neg (fun q => by rw [q] at eb; rw [show base x = none from hbx] at eb; cases eb)]; exact eb
    have I : SelfAt (fun b => if b = dx then some (dictOf [⟨hs', .str (Str.ofString "orders") tk, .ref l⟩] n) else if b = x then some (instObj 82 dx) else base b) x dx 82 (Str.ofString "orders") (.ref l) :=
      ⟨by rw [if_neg xd, if_pos rfl], hs', tk, n, by rw [if_pos rfl]⟩
    have ok' : ((FF prog w P A env base).with fun b => if b = dx then some (dictOf [⟨hs', .str (Str.ofString "orders") tk, .ref l⟩] n) else if b = x then some (instObj 82 dx) else base b).Ok := rm.ok.with up (by
      show (if env.locals = dx then some (dictOf [⟨hs', .str (Str.ofString "orders") tk, .ref l⟩] n) else if env.locals = x then some (instObj 82 dx) else base env.locals) = none
      rw [if_neg (Ne.symm hdL), if_neg (Ne.symm hxL)]; exact rm.ok.new)
    refine storeP (f := FF prog w P A env fun b => if b = dx then some (dictOf [⟨hs', .str (Str.ofString "orders") tk, .ref l⟩] n) else if b = x then some (instObj 82 dx) else base b) ok' hl S2 (.ref x) fun s₂ N₂ => ?_
    refine h x dx l _ up I hln s₂ ⟨ok', rm.depth, rm.units⟩ N₂.st _ _ fun v s₃ q ρ₃ σ₃ hΦ d N₃ => ?_
    exact hQ v s₃ q ρ₃ σ₃ hΦ d (N.trans ⟨(N₂.trans N₃).st.unpin up, (N₂.trans N₃).ext, (N₂.trans N₃).same⟩)
theorem compile_pattern_spec (t : T) (ok : t.Ok) (hz : t.size ≤ 1000) (hx : t.text ≤ 1000) :
    CallP (FF prog w P A env base) (3 * t.size + 6) (.ref 100) [t.pv] ρ σ fun r σ' => ∃ b c R, σ b = none ∧ r = .ref b ∧ Chunk t 0 c ∧ c.length ≤ 5 * t.size ∧ All2 (SP (c ++ [oDone])) (c ++ [oDone]) R ∧ σ' = upd σ b R := by
  refine OpL.weaken (callF [Str.ofString "node"] (by show List.lookup _ (hd.heap_39 P) = _; k_is) (by show codeIn (hd.heap_39 P) _ _ = true; k_is) (fnBinds1 (fun _ => rfl) rfl) (by decide) (by decide) rfl rfl rfl
    (Φ := fun r σ' => ∃ l b c R, σ l = none ∧ (∀ m, upd σ l m b = none) ∧ r = .ref b ∧ Chunk t 0 c ∧ c.length ≤ 5 * t.size ∧ All2 (SP (c ++ [oDone])) (c ++ [oDone]) R ∧ σ' = upd (upd σ l (c ++ [oDone])) b R) ?_)
    (fun p σ' ⟨l, b, c, R, h1, h2, e1, h3, h4, h5, e2⟩ => ⟨upd σ b R, ⟨b, c, R, (upd_none (h2 [])).2, e1, h3, h4, h5, rfl⟩, fun c' m hc => by
      rw [e2]
      unfold upd at hc ⊢
      by_cases c1 : c' = b
      · rw [if_pos c1] at hc ⊢; exact hc
      · rw [if_neg c1] at hc ⊢
        rw [if_neg (fun q => by rw [q, h1] at hc; cases hc)]; exact hc⟩)
  intro A' L' base' up Ψ hΨ
  refine seq_newPC (k := 3 * t.size + 3) rfl rfl (fun x dx l base2 up2 I hl => ?_) rfl
  have hlen : 5 * t.size ≤ 5000 := Nat.mul_le_mul_left 5 hz
  refine seq_expr (self_put I (eval_local rfl rfl ⟨rfl, eval_local rfl rfl (OpL.fuel ((put_all _ t (Nat.le_refl _) ok hz hx _ _ _ _ _ _ _ _ _ I upd_same (Nat.le_trans (Nat.le_of_eq (Nat.zero_add _)) (Nat.le_trans hlen (by decide)))).mono ?_) (Nat.le_add_right _ 2))⟩) ⟨_, rfl⟩ (fun _ => rfl)) rfl rfl
  rintro r σ' ⟨c, hc, hcl, rfl⟩
  rw [upd_upd, List.nil_append]
  have hcz : c.length ≤ 5000 := Nat.le_trans hcl hlen
  refine do_emit' I (isE_local rfl rfl) (isE_tup (areE_cons (isE_strk rfl (by k_is)) areE_nil) (Nat.le_of_ble_eq_true rfl)) (Nat.le_trans hcz (by decide)) ?_ ⟨_, rfl⟩ (fun _ => rfl) rfl rfl
  have hc' : Chunk t 0 c := hc
  refine seq_ret (eval_CallName (nv_straightened rfl) (by show keepIn (hd.heap_39 P) _ = true; k_is) (args_cons (eval_SelfAttr I (eval_local rfl rfl ⟨rfl, args_nil ?_⟩) (by show plainGet (hd.heap_39 P) _ _ = true; k_is) (by show hasDictIn (hd.heap_39 P) _ = true; k_is) (by show findIn (hd.heap_39 P) _ _ = some _; k_is) (by show noGet (hd.heap_39 P) _ = true; k_is) (fun _ _ => rfl) rfl rfl)))
  refine OpL.fuel ((straightened_spec (k := 0) hc'.good upd_same (by rw [List.length_append]; exact Nat.le_trans (Nat.succ_le_succ hcz) (by decide))).mono ?_) (Nat.le_add_left 1 _)
  rintro r σ' ⟨b, R, hb, rfl, hR, rfl⟩
  have hb' := upd_none hb
  exact hΨ _ _ _ ⟨l, b, c, R, hl, fun m => by rw [upd_ne hb'.1]; exact hb'.2, rfl, hc', hcl, hR, rfl⟩
end

/-! ## F9 -/
/-- the law's box: the ints that are left, a number, a counter -/
def BoxIn (bx it : Addr) (σ : Sig) : Prop := ∃ (ns : List Int) (b c : Int), σ bx = some [.ref it, .int b, .int c] ∧ σ it = some (ns.map PV.int) ∧ 0 ≤ b ∧ b < 1000003 ∧ ns.length ≤ 1000
def BoxTo (bx it : Addr) (σ σ' : Sig) : Prop := BoxIn bx it σ' ∧ ∀ c m, c ≠ bx → c ≠ it → σ c = some m → σ' c = some m
theorem BoxTo.trans {bx it : Addr} {σ₁ σ₂ σ₃ : Sig} (x : BoxTo bx it σ₁ σ₂) (y : BoxTo bx it σ₂ σ₃) : BoxTo bx it σ₁ σ₃ := ⟨y.1, fun c m h1 h2 e => y.2 c m h1 h2 (x.2 c m h1 h2 e)⟩
theorem BoxIn.upd {bx it a : Addr} {σ : Sig} {l : List PV} (x : BoxIn bx it σ) (h1 : bx ≠ a) (h2 : it ≠ a) : BoxIn bx it (upd σ a l) := by
  obtain ⟨ns, b, c, e1, e2, r⟩ := x
  exact ⟨ns, b, c, by rw [upd_ne h1]; exact e1, by rw [upd_ne h2]; exact e2, r⟩
theorem BoxIn.fresh {bx it a : Addr} {σ : Sig} {l : List PV} (x : BoxIn bx it σ) (h : σ a = none) : BoxTo bx it σ (Mine.upd σ a l) := by
  obtain ⟨ns, b, c, e1, e2, r⟩ := id x
  exact ⟨x.upd (fun q => by rw [← q, e1] at h; cases h) (fun q => by rw [← q, e2] at h; cases h), fun c m _ _ e => upd_sub h c m e⟩

section
variable {prog : Program} {w : World} {P : Params} {A : Around} {env : Env} {base : Addr → Option Obj} {k : Nat} {ρ : Rho} {σ : Sig}
theorem take_spec {bx it : Addr} {n : Int} (hb : BoxIn bx it σ) (hne : it ≠ bx) (h1 : 1 ≤ n) : CallP (FF prog w P A env base) (k + 1) (.ref 128) [.ref bx, .int n] ρ σ fun r σ' => ∃ i : Int, r = .int i ∧ 0 ≤ i ∧ i < n ∧ BoxTo bx it σ σ' := by
  refine callF [Str.ofString "box", Str.ofString "limit"] (by show List.lookup _ (hd.heap_39 P) = _; k_is) (by show codeIn (hd.heap_39 P) _ _ = true; k_is) (fnBinds2 (fun _ _ => rfl) rfl) (by decide) (by decide) rfl rfl rfl ?_
  intro A' L' base' up Ψ hΨ
  have hn : 0 < n := h1
  have hn0 : n ≠ 0 := Int.ne_of_gt hn
  obtain ⟨ns, b, c, e1, e2, hb0, hb1, hns⟩ := hb
  refine seq_If (test_Compare1 (eval_CallBuiltin (nv_len rfl) (args_cons (eval_Subscript' (eval_local rfl rfl (eval_int (sub_list e1 (by decide) (by decide) rfl (args_nil (len_l e2 (eval_int (gt_ii ⟨_, rfl, fun hc => ?_, fun hc => ?_⟩)) (by simp; omega))))))))))
  · cases ns with
    | nil => simp at hc
    | cons i ns =>
      refine seq_ret (eval_BinOp (eval_ListMeth PySem.F.slot_list_pop PySem.F.type_list_pop (eval_Subscript' (eval_local rfl rfl (eval_int (sub_list e1 (by decide) (by decide) rfl ⟨it, _, rfl, e2, args_cons (eval_int (args_nil (pop0_l e2 (by simp at hns ⊢; omega) (eval_local rfl rfl (mod_ii hn0 (hΨ _ _ _ ⟨_, rfl, Int.fmod_nonneg_of_pos _ hn, Int.fmod_lt_of_pos _ hn, ?_⟩))))))⟩)))) ⟨_, rfl⟩))
      exact ⟨⟨ns, b, c, by rw [upd_ne (Ne.symm hne)]; exact e1, upd_same, hb0, hb1, by simp at hns ⊢; omega⟩, fun c m _ h2 e => by rw [upd_ne h2]; exact e⟩
  · have m0 := Int.fmod_nonneg_of_pos (b * 4093 + 12289) (b := 1000003) (by decide)
    have m1 := Int.fmod_lt_of_pos (b * 4093 + 12289) (b := 1000003) (by decide)
    refine seq_setsub (eval_BinOp (eval_BinOp (eval_BinOp (eval_Subscript' (eval_local rfl rfl (eval_int (sub_list e1 (by decide) (by decide) rfl (eval_int (mul_ii ?_ (eval_int (add_ii (eval_int (mod_ii (by decide) ?_))))))))))))) rfl
    · intro h
      rw [Bool.and_eq_true, Bool.and_eq_true] at h
      exact absurd h.1.2 (by decide)
    refine eval_local rfl rfl (eval_int ⟨bx, _, _, rfl, rfl, e1, by decide, by simp, by simp, ?_⟩)
    refine seq_ret (eval_BinOp (eval_BinOp (eval_Subscript' (eval_local rfl rfl (eval_int (sub_list upd_same (by decide) (by decide) rfl (eval_int (div_ii (by decide) ?_ (eval_local rfl rfl (mod_ii hn0 (hΨ _ _ _ ⟨_, rfl, Int.fmod_nonneg_of_pos _ hn, Int.fmod_lt_of_pos _ hn, ?_⟩)))))))))))
    · unfold Builtin.divisionGoesByPylong
      dsimp only
      rw [Bool.and_eq_false_iff]
      exact .inl (by decide)
    · exact ⟨⟨ns, _, c, upd_same, by rw [upd_ne hne]; exact e2, m0, m1, hns⟩, fun c m h1 _ e => by rw [upd_ne h1]; exact e⟩
end

/-! ## F10 -/
theorem mem3 {a b c p : PV} (h : p ∈ [a, b, c]) : p = a ∨ p = b ∨ p = c := by
  rcases List.mem_cons.mp h with h | h
  · exact .inl h
  rcases List.mem_cons.mp h with h | h
  · exact .inr (.inl h)
  · exact .inr (.inr (List.mem_singleton.mp h))
theorem pick_text {p : PV} (h : p ∈ [PV.str (Str.ofString "a"), PV.str (Str.ofString "bc"), PV.str (Str.ofString "")]) : ∃ x : Str, p = .str x ∧ x.length ≤ 2 := by
  rcases mem3 h with rfl | rfl | rfl <;> exact ⟨_, rfl, by decide⟩
theorem pick_num {p : PV} (h : p ∈ [PV.str (Str.ofString "len"), PV.str (Str.ofString "pos"), PV.str (Str.ofString "rtab")]) : ∃ x : Str, p = .str x ∧ ∀ n, Leaf x [.int n] := by
  rcases mem3 h with rfl | rfl | rfl
  · exact ⟨_, rfl, .len⟩
  · exact ⟨_, rfl, .pos⟩
  · exact ⟨_, rfl, .rtab⟩
theorem pick_bare {p : PV} (h : p ∈ [PV.str (Str.ofString "rem"), PV.str (Str.ofString "arb"), PV.str (Str.ofString "bal"), PV.str (Str.ofString "fence"), PV.str (Str.ofString "fail"), PV.str (Str.ofString "abort"), PV.str (Str.ofString "succeed")]) : ∃ x : Str, p = .str x ∧ Leaf x [] := by
  rcases List.mem_cons.mp h with rfl | h
  · exact ⟨_, rfl, .rem⟩
  rcases List.mem_cons.mp h with rfl | h
  · exact ⟨_, rfl, .arb⟩
  rcases List.mem_cons.mp h with rfl | h
  · exact ⟨_, rfl, .bal⟩
  rcases List.mem_cons.mp h with rfl | h
  · exact ⟨_, rfl, .fence⟩
  rcases mem3 h with rfl | rfl | rfl
  · exact ⟨_, rfl, .fail⟩
  · exact ⟨_, rfl, .abort⟩
  · exact ⟨_, rfl, .succeed⟩
theorem pick_ref {r : Addr} {p : PV} (h : p ∈ [PV.tup [.str (Str.ofString "cursor"), .ref r], PV.tup [.str (Str.ofString "delay"), .tup [.str (Str.ofString "name"), .str (Str.ofString "P")]], PV.tup [.str (Str.ofString "span"), .tup [.str (Str.ofString "delay"), .tup [.str (Str.ofString "name"), .str (Str.ofString "S")]]]]) : ∃ (x : Str) (l : List PV), p = .tup (.str x :: l) ∧ Leaf x l ∧ argText l = 0 := by
  rcases mem3 h with rfl | rfl | rfl
  · exact ⟨_, _, rfl, .cursor r, rfl⟩
  · exact ⟨_, _, rfl, .delay _ _, rfl⟩
  · exact ⟨_, _, rfl, .span _ _ _, rfl⟩
theorem pick_mark {i : Int} (h0 : 7 ≤ i) (h1 : i < 9) (t : T) (r : Addr) : ∃ (kd : Str) (u : T), [PV.str (Str.ofString "later"), PV.str (Str.ofString "now")][(i - 7).toNat]? = some (.str kd) ∧ u.pv = .tup [.str kd, t.pv, .ref r] ∧ (t.Ok → u.Ok) ∧ u.size = t.size + 1 ∧ u.text = t.text := by
  have : i = 7 ∨ i = 8 := by omega
  rcases this with rfl | rfl
  · exact ⟨_, .later t r, rfl, rfl, fun h => h, rfl, rfl⟩
  · exact ⟨_, .now t r, rfl, rfl, fun h => h, rfl, rfl⟩
theorem pick_pair {i : Int} (h0 : 9 ≤ i) (h1 : i < 13) : ∃ kd : Str, [PV.str (Str.ofString "cat"), PV.str (Str.ofString "cat"), PV.str (Str.ofString "alt"), PV.str (Str.ofString "cat")][(i - 9).toNat]? = some (.str kd) ∧
    ∀ t u : T, ∃ v : T, v.pv = .tup [.str kd, t.pv, u.pv] ∧ (t.Ok → u.Ok → v.Ok) ∧ v.size = t.size + u.size + 1 ∧ v.text = t.text + u.text := by
  have : i = 11 ∨ i = 9 ∨ i = 10 ∨ i = 12 := by omega
  rcases this with rfl | h
  · exact ⟨_, rfl, fun t u => ⟨.alt t u, rfl, And.intro, rfl, rfl⟩⟩
  · exact ⟨Str.ofString "cat", by rcases h with rfl | rfl | rfl <;> rfl, fun t u => ⟨.cat t u, rfl, And.intro, rfl, rfl⟩⟩
theorem two_pow_pos' (d : Nat) : 1 ≤ 2 ^ (d + 1) - 1 := by have := Nat.one_lt_two_pow (n := d + 1) (by omega); omega
theorem pow_sum {d a b : Nat} (ha : a ≤ 2 ^ (d + 1) - 1) (hb : b ≤ 2 ^ (d + 1) - 1) : a + b + 1 ≤ 2 ^ (d + 1 + 1) - 1 := by
  have := two_pow_pos' d
  rw [Nat.pow_succ 2 (d + 1)]
  omega
theorem text_sum {a b x y : Nat} (hx : x ≤ 2 * a) (hy : y ≤ 2 * b) : x + y ≤ 2 * (a + b + 1) := by omega
/-- what _law_node gives -/
def NodeRes (d : Nat) (bx it : Addr) (σ : Sig) (p : PV) (σ' : Sig) : Prop := ∃ t : T, p = t.pv ∧ t.Ok ∧ t.size ≤ 2 ^ (d + 1) - 1 ∧ t.text ≤ 2 * t.size ∧ BoxTo bx it σ σ'
theorem leaf_res {d : Nat} {bx it : Addr} {σ σ' : Sig} {kd : Str} {args : List PV} (h : Leaf kd args) (ht : argText args ≤ 2) (B : BoxTo bx it σ σ') : NodeRes d bx it σ (.tup (.str kd :: args)) σ' :=
  ⟨.leaf kd args, rfl, h, two_pow_pos' d, ht, B⟩
theorem below_res {d : Nat} {bx it : Addr} {σ σ' : Sig} {t u : T} {p : PV} (hp : p = u.pv) (ok : u.Ok) (hs : u.size = t.size + 1) (hx : u.text = t.text) (hz : t.size ≤ 2 ^ (d + 1) - 1) (ht : t.text ≤ 2 * t.size) (B : BoxTo bx it σ σ') : NodeRes (d + 1) bx it σ p σ' :=
  ⟨u, hp, ok, by rw [hs]; exact pow_sum (b := 0) hz (Nat.zero_le _), by rw [hs, hx]; exact Nat.le_trans ht (Nat.mul_le_mul_left 2 (Nat.le_succ _)), B⟩

section
variable {prog : Program} {w : World} {P : Params}
section
variable {f : Fm} {k : Nat} {ρ : Rho} {σ : Sig}
theorem isT_ltI {x : Str} {i n : Int} {px cp cpos : Pos} {c1 : Nat} {c : Bool} (hl : f.env.kindOf x = some .local) (e : ρ.lookup x = some (.int i)) (h : decide (i < n) = c) (hd : (x == ("__debug__" : Str)) = false := by decide) :
    IsT f k (.Compare (.Name x px) [.Lt] [.Constant (.int n) c1 cpos] cp) ρ σ c := test_Compare1 (eval_local hl e (eval_int (lt_ii ⟨_, rfl, h, rfl⟩)) hd)
theorem isT_eqI {x : Str} {i n : Int} {px cp cpos : Pos} {c1 : Nat} {c : Bool} (hl : f.env.kindOf x = some .local) (e : ρ.lookup x = some (.int i)) (h : (i == n) = c) (hd : (x == ("__debug__" : Str)) = false := by decide) :
    IsT f k (.Compare (.Name x px) [.Eq] [.Constant (.int n) c1 cpos] cp) ρ σ c := test_Compare1 (eval_local hl e (eval_int (eq_ii ⟨_, rfl, h, rfl⟩)) hd)
theorem isE_subI {x : Str} {i n : Int} {px pos cpos : Pos} {c1 : Nat} (hl : f.env.kindOf x = some .local) (e : ρ.lookup x = some (.int i)) (hd : (x == ("__debug__" : Str)) = false := by decide) :
    IsE f k (.BinOp (.Name x px) .Sub (.Constant (.int n) c1 cpos) pos) ρ σ (.int (i - n)) := eval_BinOp (eval_local hl e (eval_int (sub_ii ⟨rfl, rfl⟩)) hd)
/-- part i of a list that is written out -/
theorem eval_at {es : List Expr} {ps : List PV} {lp pos : Pos} {idx : Expr} {i : Int} {p : PV} {Φ : PV → Sig → Prop} (he : AreE f k lp es ρ σ ps) (hz : ps.length ≤ 16777216) (hi : ∀ σ', IsE f k idx ρ σ' (.int i)) (h0 : 0 ≤ i) (h1 : i < 16777216) (hp : ps[i.toNat]? = some p)
    (h : ∀ a, σ a = none → Φ p (upd σ a ps)) (hs : ∀ o i, subscripted idx false o i = operate [o, i] (getItem o i) := by intro _ _; rfl) : EvalP f k (.Subscript (.List es lp) idx pos) ρ σ Φ :=
  eval_Subscript' (eval_List fun s rm S Q E hQ => he s rm S Q E fun vs s' qs σ' ⟨a, b⟩ => hQ vs s' qs σ' (by
    subst a b
    exact ⟨hz, fun a ha => (hi _).use (sub_list upd_same h0 h1 hp (h a ha) hs)⟩))
end
section
variable {A : Around} {env : Env} {base : Addr → Option Obj} {k : Nat} {ρ : Rho} {σ : Sig}
theorem eval_take {bx it : Addr} {n : Int} {np px cp pos : Pos} {c1 : Nat} {Φ : PV → Sig → Prop} (B : BoxIn bx it σ) (hne : it ≠ bx) (hn : 1 ≤ n) (hx : env.kindOf (Str.ofString "_law_take") = some .globalImplicit) (hl : env.kindOf (Str.ofString "box") = some .local) (e : ρ.lookup (Str.ofString "box") = some (.ref bx))
    (h : ∀ i σ', 0 ≤ i → i < n → BoxTo bx it σ σ' → Φ (.int i) σ') : EvalP (FF prog w P A env base) (k + 1) (.Call (.Name (Str.ofString "_law_take") np) [.Name (Str.ofString "box") px, .Constant (.int n) c1 cp] [] pos) ρ σ Φ :=
  eval_CallName (nv_law_take hx) (by show keepIn (hd.heap_39 P) _ = true; k_is) (args_cons (eval_local hl e (args_cons (eval_int (args_nil ((take_spec B hne hn).mono fun r σ' ⟨i, h1, h2, h3, h4⟩ => by rw [h1]; exact h i σ' h2 h3 h4))))))
/-- a part, drawn, of a list that is written out -/
theorem eval_pick {bx it : Addr} {n : Int} {es : List Expr} {ps : List PV} {lp np px cp cpos pos : Pos} {c1 : Nat} {Φ : PV → Sig → Prop} (B : BoxIn bx it σ) (hne : it ≠ bx) (hx : env.kindOf (Str.ofString "_law_take") = some .globalImplicit) (hl : env.kindOf (Str.ofString "box") = some .local) (e : ρ.lookup (Str.ofString "box") = some (.ref bx))
    (he : AreE (FF prog w P A env base) (k + 1) lp es ρ σ ps) (hz : ps.length ≤ 16777216) (hn : (ps.length : Int) = n) (hn1 : 1 ≤ n) (h : ∀ p ∈ ps, ∀ σ', BoxTo bx it σ σ' → Φ p σ') :
    EvalP (FF prog w P A env base) (k + 1) (.Subscript (.List es lp) (.Call (.Name (Str.ofString "_law_take") np) [.Name (Str.ofString "box") px, .Constant (.int n) c1 cp] [] cpos) pos) ρ σ Φ :=
  eval_Subscript' (eval_List fun s rm S Q E hQ => he s rm S Q E fun vs s' qs σ' ⟨a, b⟩ => hQ vs s' qs σ' (by
    subst a b
    refine ⟨hz, fun a ha => eval_take (B.fresh ha).1 hne hn1 hx hl e fun j σ₃ hj0 hj1 B4 => ?_⟩
    obtain ⟨ns2, b2, c2, f1, f2, _⟩ := B
    have ha3 := B4.2 a _ (fun q => by rw [q, f1] at ha; cases ha) (fun q => by rw [q, f2] at ha; cases ha) upd_same
    have hj : j.toNat < qs.length := by omega
    exact sub_list ha3 hj0 (by omega) (List.getElem?_eq_getElem hj) (h _ (List.getElem_mem _) _ ((BoxIn.fresh ⟨ns2, b2, c2, f1, f2, ‹_›⟩ ha).trans B4))))
end
def NodeAt (prog : Program) (w : World) (P : Params) (d : Nat) : Prop := ∀ (A : Around) (env : Env) (base : Addr → Option Obj) (ρ : Rho) (σ : Sig) (bx it r : Addr), BoxIn bx it σ → it ≠ bx →
  CallP (FF prog w P A env base) (d + 2) (.ref 135) [.ref bx, .int d, .ref r] ρ σ fun p σ' => NodeRes d bx it σ p σ'
section
variable {A : Around} {env : Env} {base : Addr → Option Obj} {ρ : Rho} {σ : Sig}
theorem eval_node {d : Nat} {bx it r : Addr} {np p1 p2 p3 cp bp pos : Pos} {c1 : Nat} {Φ : PV → Sig → Prop} (ih : NodeAt prog w P d) (B : BoxIn bx it σ) (hne : it ≠ bx) (hx : env.kindOf (Str.ofString "_law_node") = some .globalImplicit)
    (l1 : env.kindOf (Str.ofString "box") = some .local) (e1 : ρ.lookup (Str.ofString "box") = some (.ref bx)) (l2 : env.kindOf (Str.ofString "deep") = some .local) (e2 : ρ.lookup (Str.ofString "deep") = some (.int ((d + 1 : Nat) : Int))) (l3 : env.kindOf (Str.ofString "ref") = some .local) (e3 : ρ.lookup (Str.ofString "ref") = some (.ref r))
    (h : ∀ (t : T) σ', t.Ok → t.size ≤ 2 ^ (d + 1) - 1 → t.text ≤ 2 * t.size → BoxTo bx it σ σ' → Φ t.pv σ') :
    EvalP (FF prog w P A env base) (d + 2) (.Call (.Name (Str.ofString "_law_node") np) [.Name (Str.ofString "box") p1, .BinOp (.Name (Str.ofString "deep") p2) .Sub (.Constant (.int 1) c1 cp) bp, .Name (Str.ofString "ref") p3] [] pos) ρ σ Φ := by
  refine eval_CallName (nv_law_node hx) (by show keepIn (hd.heap_39 P) _ = true; k_is) (args_cons (eval_local l1 e1 (args_cons ((isE_subI l2 e2).use ?_))))
  rw [show ((d + 1 : Nat) : Int) - 1 = (d : Int) by omega]
  exact args_cons (eval_local l3 e3 (args_nil ((ih _ _ _ _ _ bx it r B hne).mono fun p σ' ⟨t, h1, h2, h3, h4, h5⟩ => by rw [h1]; exact h t σ' h2 h3 h4 h5)))
end
set_option maxHeartbeats 2000000 in
theorem node_step (d : Nat) (ih : ∀ d', d = d' + 1 → NodeAt prog w P d') : NodeAt prog w P d := by
  intro A env base ρ σ bx it r hb hne
  refine callF [Str.ofString "box", Str.ofString "deep", Str.ofString "ref"] (by show List.lookup _ (hd.heap_39 P) = _; k_is) (by show codeIn (hd.heap_39 P) _ _ = true; k_is) (fnBinds3 (fun _ _ _ => rfl) rfl) (by decide) (by decide) rfl rfl rfl ?_
  intro A' L' base' up Ψ hΨ
  replace hΨ : ∀ p ρ' σ', NodeRes d bx it σ p σ' → Ψ (.ret p) ρ' σ' := fun p ρ' σ' => hΨ (.ret p) ρ' σ'
  obtain ⟨ns, b, c, e1, e2, hb0, hb1, hns⟩ := hb
  refine seq_setsub (eval_BinOp (eval_Subscript' (eval_local rfl rfl (eval_int (sub_list e1 (by decide) (by decide) rfl (eval_int (sub_ii ?_))))))) rfl
  refine eval_local rfl rfl (eval_int ⟨bx, _, _, rfl, rfl, e1, by decide, by simp, by simp, ?_⟩)
  have B1 : BoxTo bx it σ (upd σ bx [.ref it, .int b, .int (c - 1)]) := ⟨⟨ns, b, c - 1, upd_same, by rw [upd_ne hne]; exact e2, hb0, hb1, hns⟩, fun c m h1 _ e => by rw [upd_ne h1]; exact e⟩
  have s1 : upd σ bx [.ref it, .int b, .int (c - 1)] bx = some [.ref it, .int b, .int (c - 1)] := upd_same
  show ExecsP _ _ _ _ (upd σ bx [.ref it, .int b, .int (c - 1)]) _
  clear e1 e2 hb0 hb1 hns
  generalize upd σ bx [.ref it, .int b, .int (c - 1)] = σ₁ at B1 s1
  refine seq_assign rfl (eval_CallName (nv_law_take rfl) (by show keepIn (hd.heap_39 P) _ = true; k_is) (args_cons (eval_local rfl rfl (args_cons (ValP.mono (Φ := fun p σ₂ => ∃ L : Int, p = .int L ∧ ((L = 13 ∧ 0 < d) ∨ L = 6) ∧ σ₂ = σ₁) ?_ ?_))))) rfl
  · refine eval_IfExp (test_and (all_and_cons (test_Compare1 (eval_local rfl rfl (eval_int (gt_ii ⟨_, rfl, fun hc => ?_, fun hc => ⟨fun h => (by cases h), fun _ => eval_int ⟨6, rfl, .inr rfl, rfl⟩⟩⟩))))))
    refine all_and_cons (test_Compare1 (eval_Subscript' (eval_local rfl rfl (eval_int (sub_list s1 (by decide) (by decide) rfl (eval_int (gt_ii ⟨_, rfl, fun hc2 => all_and_nil ⟨fun _ => ?_, fun h => (by cases h)⟩, fun hc2 => ⟨fun h => (by cases h), fun _ => eval_int ⟨6, rfl, .inr rfl, rfl⟩⟩⟩)))))))
    exact eval_int ⟨13, rfl, .inl ⟨rfl, Int.natCast_pos.mp (of_decide_eq_true hc)⟩, rfl⟩
  clear s1
  rintro p σ₂ ⟨L, rfl, hL, rfl⟩
  refine args_nil (OpL.fuel ((take_spec (k := 0) B1.1 hne (by omega)).mono ?_) (Nat.le_add_left _ _))
  rintro rr σ₂ ⟨i, rfl, hi0, hi1, B2⟩
  have hi2 : i < 13 := by omega
  have hi3 : 6 ≤ i → 0 < d := fun h => by omega
  replace B2 := B1.trans B2
  clear hL hi1 B1
  refine if_of (isT_ltI rfl rfl rfl) (fun hc => ?_) (fun hc => ?_)
  · refine seq_ret ?_
    refine eval_Tuple ?_
    refine args_cons ?_
    refine isE_str.use ?_
    refine args_cons ?_
    refine (eval_pick (ps := [PV.str (Str.ofString "a"), PV.str (Str.ofString "bc"), PV.str (Str.ofString "")]) B2.1 hne rfl rfl rfl ?_ (Nat.le_of_ble_eq_true rfl) rfl (by decide) fun p hp σ₃ B3 => ?_)
    · repeat' first | exact areE_nil | exact isE_str | refine areE_cons ?_ ?_
    obtain ⟨x, rfl, hx⟩ := pick_text hp
    exact args_nil ⟨Nat.le_of_ble_eq_true rfl, hΨ _ _ _ (leaf_res (Leaf.chars x) hx (B2.trans B3))⟩
  refine if_of (isT_eqI rfl rfl rfl) (fun _ => ?_) (fun hc2 => ?_)
  · refine seq_ret ?_
    refine eval_Tuple ?_
    refine args_cons ?_
    refine (eval_pick (ps := [PV.str (Str.ofString "len"), PV.str (Str.ofString "pos"), PV.str (Str.ofString "rtab")]) B2.1 hne rfl rfl rfl ?_ (Nat.le_of_ble_eq_true rfl) rfl (by decide) fun p hp σ₃ B3 => ?_)
    · repeat' first | exact areE_nil | exact isE_str | refine areE_cons ?_ ?_
    obtain ⟨x, rfl, hx⟩ := pick_num hp
    refine args_cons (eval_take B3.1 hne (by decide) rfl rfl rfl fun j σ₄ _ _ B4 => ?_)
    exact args_nil ⟨Nat.le_of_ble_eq_true rfl, hΨ _ _ _ (leaf_res (hx j) (Nat.zero_le _) ((B2.trans B3).trans B4))⟩
  refine if_of (isT_eqI rfl rfl rfl) (fun _ => ?_) (fun hc3 => ?_)
  · refine seq_ret ?_
    refine eval_Tuple ?_
    refine args_cons ?_
    refine (eval_pick (ps := [PV.str (Str.ofString "rem"), PV.str (Str.ofString "arb"), PV.str (Str.ofString "bal"), PV.str (Str.ofString "fence"), PV.str (Str.ofString "fail"), PV.str (Str.ofString "abort"), PV.str (Str.ofString "succeed")]) B2.1 hne rfl rfl rfl ?_ (Nat.le_of_ble_eq_true rfl) rfl (by decide) fun p hp σ₃ B3 => ?_)
    · repeat' first | exact areE_nil | exact isE_str | refine areE_cons ?_ ?_
    obtain ⟨x, rfl, hx⟩ := pick_bare hp
    exact args_nil ⟨Nat.le_of_ble_eq_true rfl, hΨ _ _ _ (leaf_res hx (Nat.zero_le _) (B2.trans B3))⟩
  refine if_of (isT_eqI rfl rfl rfl) (fun _ => ?_) (fun hc4 => ?_)
  · refine seq_ret ?_
    refine (eval_pick (ps := [PV.tup [.str (Str.ofString "cursor"), .ref r], PV.tup [.str (Str.ofString "delay"), .tup [.str (Str.ofString "name"), .str (Str.ofString "P")]], PV.tup [.str (Str.ofString "span"), .tup [.str (Str.ofString "delay"), .tup [.str (Str.ofString "name"), .str (Str.ofString "S")]]]]) B2.1 hne rfl rfl rfl ?_ (Nat.le_of_ble_eq_true rfl) rfl (by decide) fun p hp σ₃ B3 => ?_)
    · repeat' first | exact areE_nil | exact isE_str | exact isE_local rfl rfl | refine areE_cons ?_ ?_ | refine isE_tup ?_ (Nat.le_of_ble_eq_true rfl)
    obtain ⟨x, l, rfl, hxl, hxt⟩ := pick_ref hp
    exact hΨ _ _ _ (leaf_res hxl (by rw [hxt]; decide) (B2.trans B3))
  -- a part below
  have hi6 : 6 ≤ i := by
    simp only [decide_eq_false_iff_not, beq_eq_false_iff_ne] at hc hc2 hc3 hc4
    omega
  clear hc hc2 hc3 hc4 hi0
  obtain ⟨d', rfl⟩ := Nat.exists_eq_add_one_of_ne_zero (Nat.ne_of_gt (hi3 hi6))
  have ih' := ih d' rfl
  clear ih hi3
  refine seq_assign rfl (eval_node ih' B2.1 hne rfl rfl rfl rfl rfl rfl rfl fun t σ₃ okt szt txt B3 => ?_) rfl
  replace B3 := B2.trans B3
  clear B2
  refine if_of (isT_eqI rfl rfl rfl) (fun _ => ?_) (fun hc5 => ?_)
  · exact ret_is (isE_tup (areE_cons isE_str (areE_cons (isE_local rfl rfl) areE_nil)) (Nat.le_of_ble_eq_true rfl)) (hΨ _ _ _ (below_res (u := .arbno t) rfl okt rfl rfl szt txt B3))
  have hi7 : 7 ≤ i := by
    rw [beq_eq_false_iff_ne] at hc5
    omega
  clear hc5 hi6
  refine if_of (isT_ltI rfl rfl rfl) (fun hc6 => ?_) (fun hc6 => ?_)
  · obtain ⟨kd, u, hkd, hu, oku, hus, hut⟩ := pick_mark hi7 (of_decide_eq_true hc6) t r
    refine seq_ret ?_
    refine eval_Tuple ?_
    refine args_cons ?_
    refine (eval_at (i := i - 7) (ps := [PV.str (Str.ofString "later"), PV.str (Str.ofString "now")]) ?_ (Nat.le_of_ble_eq_true rfl) (fun _ => isE_subI rfl rfl) (Int.sub_nonneg_of_le hi7) (by omega) hkd fun a ha => ?_)
    · repeat' first | exact areE_nil | exact isE_str | refine areE_cons ?_ ?_
    exact args_cons (eval_local rfl rfl (args_cons (eval_local rfl rfl (args_nil ⟨Nat.le_of_ble_eq_true rfl, hΨ _ _ _ (below_res hu.symm (oku okt) hus hut szt txt (B3.trans (B3.1.fresh ha)))⟩))))
  obtain ⟨kd, hkd, hv⟩ := pick_pair (Int.not_lt.mp (of_decide_eq_false hc6)) hi2
  refine seq_ret ?_
  refine eval_Tuple ?_
  refine args_cons ?_
  refine (eval_at (i := i - 9) (ps := [PV.str (Str.ofString "cat"), PV.str (Str.ofString "cat"), PV.str (Str.ofString "alt"), PV.str (Str.ofString "cat")]) ?_ (Nat.le_of_ble_eq_true rfl) (fun _ => isE_subI rfl rfl) (Int.sub_nonneg_of_le (Int.not_lt.mp (of_decide_eq_false hc6))) (by omega) hkd fun a ha => ?_)
  · repeat' first | exact areE_nil | exact isE_str | refine areE_cons ?_ ?_
  have B4 := B3.trans (B3.1.fresh (l := [PV.str (Str.ofString "cat"), PV.str (Str.ofString "cat"), PV.str (Str.ofString "alt"), PV.str (Str.ofString "cat")]) ha)
  refine args_cons (eval_local rfl rfl (args_cons (eval_node ih' B4.1 hne rfl rfl rfl rfl rfl rfl rfl fun u σ₄ oku szu txu B5 => ?_)))
  obtain ⟨v, hvp, okv, hvs, hvt⟩ := hv t u
  exact args_nil ⟨Nat.le_of_ble_eq_true rfl, hΨ _ _ _ ⟨v, hvp.symm, okv okt oku, hvs ▸ pow_sum szt szu, hvs ▸ hvt ▸ text_sum txt txu, B4.trans B5⟩⟩
theorem node_all : ∀ d, NodeAt prog w P d
  | 0 => node_step 0 fun d' h => absurd h (Nat.succ_ne_zero _).symm
  | d + 1 => node_step (d + 1) fun d' h => Nat.succ.inj h ▸ node_all d
end

/-! ## F11 -/
/-- every list that σ knows, σ' knows too, with the same items -/
def Keep (σ σ' : Sig) : Prop := ∀ c m, σ c = some m → σ' c = some m
theorem Keep.refl (σ : Sig) : Keep σ σ := fun _ _ e => e
theorem Keep.trans {a b c : Sig} (x : Keep a b) (y : Keep b c) : Keep a c := fun i m e => y i m (x i m e)
theorem Keep.upd {σ : Sig} {a : Addr} {l : List PV} (h : σ a = none) : Keep σ (upd σ a l) := upd_sub h
/-- r is a list that σ did not know, and its items are L -/
def Fresh (L : List PV) (σ : Sig) (r : PV) (σ' : Sig) : Prop := ∃ a, σ a = none ∧ r = .ref a ∧ σ' a = some L ∧ Keep σ σ'
theorem Fresh.upd {L : List PV} {σ : Sig} {r : PV} {σ' : Sig} (x : Fresh L σ r σ') : ∃ σ'', (∃ a, σ a = none ∧ r = .ref a ∧ σ'' = upd σ a L) ∧ ∀ a l, σ'' a = some l → σ' a = some l := by
  obtain ⟨a, h1, h2, h3, h4⟩ := x
  refine ⟨Mine.upd σ a L, ⟨a, h1, h2, rfl⟩, fun b l e => ?_⟩
  unfold Mine.upd at e
  by_cases q : b = a
  · rw [if_pos q] at e; cases e; rw [q]; exact h3
  · rw [if_neg q] at e; exact h4 b l e
theorem row_len (c : Bool) : ∀ t : T, (row c t).length ≤ t.size := fun t => Nat.le_trans (length_le_sizes _) (sizes_row c t)
section
variable {prog : Program} {w : World} {P : Params}
set_option maxHeartbeats 1000000 in
theorem lrow_spec (c : Bool) : ∀ (t : T), t.Ok → t.size ≤ 1000 → ∀ (A : Around) (env : Env) (base : Addr → Option Obj) (ρ : Rho) (σ : Sig),
    CallP (FF prog w P A env base) (t.size + 1) (.ref 142) [t.pv, .str (kstr c)] ρ σ fun r σ' => ∃ a, σ a = none ∧ r = .ref a ∧ σ' = upd σ a ((row c t).map T.pv) := by
  intro t ok hz
  induction hn : t.size using Nat.strongRecOn generalizing t with
  | _ n ih =>
  subst hn
  intro A env base ρ σ
  refine OpL.weaken (callP_def [Str.ofString "node", Str.ofString "kind"] (by show List.lookup _ (hd.heap_39 P) = _; k_is) (by show codeIn (hd.heap_39 P) _ _ = true; k_is) (fnBinds2 (fun _ _ => rfl) rfl) (by decide) (by decide) rfl rfl rfl
    (Φ := fun r σ' => Fresh ((row c t).map T.pv) σ r σ') ?_) (fun p σ' x => x.upd)
  intro A' L' base' up
  refine seq_If (test_Compare1 (eval_Subscript' (eval_local rfl rfl (eval_int ?_))))
  rw [t.pv_eq]
  refine sub_tup (by decide) (by decide) rfl (eval_local rfl rfl (ne_ss ⟨_, rfl, fun hk => ?_, fun hk => ?_⟩))
  · rcases t.split c ok with ⟨hk', _⟩ | ⟨_, hrow⟩
    · rw [bne, hk'] at hk; cases hk
    · rw [← t.pv_eq]
      refine seq_ret (eval_List (args_cons (eval_local rfl rfl (args_nil ⟨Nat.le_of_ble_eq_true rfl, fun a ha => ?_⟩))))
      exact ⟨a, ha, rfl, by rw [upd_same, hrow]; rfl, .upd ha⟩
  · rcases t.split c ok with ⟨_, a, b, oka, okb, eargs, erow, esz⟩ | ⟨hk', _⟩
    · rw [eargs]
      refine seq_ret ?_
      refine eval_BinOp ?_
      refine eval_CallName (nv_law_row rfl) (by show keepIn (hd.heap_39 P) _ = true; k_is) ?_
      refine args_cons (eval_Subscript' (eval_local rfl rfl (eval_int (sub_tup (by decide) (by decide) rfl ?_))))
      refine args_cons (eval_local rfl rfl ?_)
      refine args_nil (OpL.fuel ((ih a.size (by omega) a oka (by omega) rfl _ _ _ _ _).mono ?_) (by omega))
      rintro _ _ ⟨x, hx, rfl, rfl⟩
      refine eval_CallName (nv_law_row rfl) (by show keepIn (hd.heap_39 P) _ = true; k_is) ?_
      refine args_cons (eval_Subscript' (eval_local rfl rfl (eval_int (sub_tup (by decide) (by decide) rfl ?_))))
      refine args_cons (eval_local rfl rfl ?_)
      refine args_nil (OpL.fuel ((ih b.size (by omega) b okb (by omega) rfl _ _ _ _ _).mono ?_) (by omega))
      rintro _ _ ⟨y, hy, rfl, rfl⟩
      have hxy := upd_none hy
      have la := row_len c a
      have lb := row_len c b
      refine add_ll (l := (row c a).map T.pv) (l' := (row c b).map T.pv) (by rw [upd_ne (Ne.symm hxy.1), upd_same]) upd_same (by simp; omega) fun z hz => ?_
      refine ⟨z, ?_, rfl, by rw [upd_same, erow, List.map_append], ?_⟩
      · exact (upd_none (upd_none hz).2).2
      · exact (Keep.upd hx).trans ((Keep.upd hy).trans (Keep.upd hz))
    · rw [bne, hk'] at hk; cases hk
end

/-! ## F12 -/
/-- the kinds of a leaf: what the tests of put and of _law_orders say of it -/
def LeafKind (kd : Str) (args : List PV) : Prop :=
  ((SINGLEs.any fun y => y == kd) = true ∧ ([Str.ofString "arb", Str.ofString "bal"].any fun y => y == kd) = false ∧ ([Str.ofString "cursor", Str.ofString "delay"].any fun y => y == kd) = false ∧ (ALONEs.any fun y => y == kd) = false ∧ (args = [] ∨ ∃ q, args = [q])) ∨
  ((SINGLEs.any fun y => y == kd) = false ∧ ([Str.ofString "arb", Str.ofString "bal"].any fun y => y == kd) = true ∧ ((kd == Str.ofString "arb") || (kd == Str.ofString "bal")) = true) ∨
  (kd = Str.ofString "cursor" ∧ ∃ q, args = [q]) ∨ (kd = Str.ofString "delay" ∧ ∃ q, args = [q]) ∨
  ((SINGLEs.any fun y => y == kd) = false ∧ ([Str.ofString "arb", Str.ofString "bal"].any fun y => y == kd) = false ∧ ([Str.ofString "cursor", Str.ofString "delay"].any fun y => y == kd) = false ∧ (ALONEs.any fun y => y == kd) = true ∧ ((kd == Str.ofString "arb") || (kd == Str.ofString "bal")) = false)
theorem leaf_kind {kd : Str} {args : List PV} (h : Leaf kd args) : LeafKind kd args := by
  cases h
  all_goals first
    | exact .inl ⟨by decide, by decide, by decide, by decide, .inr ⟨_, rfl⟩⟩
    | exact .inl ⟨by decide, by decide, by decide, by decide, .inl rfl⟩
    | exact .inr (.inl ⟨by decide, by decide, by decide⟩)
    | exact .inr (.inr (.inl ⟨rfl, _, rfl⟩))
    | exact .inr (.inr (.inr (.inl ⟨rfl, _, rfl⟩)))
    | exact .inr (.inr (.inr (.inr ⟨by decide, by decide, by decide, by decide, by decide⟩)))
theorem leaf_kinds {kd : Str} {args : List PV} (h : Leaf kd args) : (kd == Str.ofString "cat") = false ∧ (kd == Str.ofString "alt") = false ∧ (kd == Str.ofString "arbno") = false ∧ ([Str.ofString "later", Str.ofString "now"].any fun y => y == kd) = false ∧ (kd == Str.ofString "end") = false := by
  cases h <;> exact ⟨by decide, by decide, by decide, by decide, by decide⟩
theorem kd_end (t : T) (ok : t.Ok) : (t.kd == Str.ofString "end") = false := by
  cases t with
  | leaf kd args => exact (leaf_kinds (ok : Leaf kd args)).2.2.2.2
  | _ => dsimp only [T.kd]; decide
theorem Fresh.of {L : List PV} {σ : Sig} {a : Addr} (h : σ a = none) : Fresh L σ (.ref a) (Mine.upd σ a L) := ⟨a, h, rfl, upd_same, .upd h⟩

section
variable {f : Fm} {k : Nat} {ρ : Rho} {σ : Sig}
/-- an expression that gives a new list with the items L -/
def IsF (f : Fm) (k : Nat) (e : Expr) (ρ : Rho) (σ : Sig) (L : List PV) : Prop := EvalP f k e ρ σ fun r σ' => Fresh L σ r σ'
theorem isF_nil {pos : Pos} : IsF f k (.List [] pos) ρ σ [] := eval_List (args_nil ⟨Nat.zero_le _, fun _ h => .of h⟩)
theorem isF_one {e : Expr} {p : PV} {pos : Pos} (he : IsE f k e ρ σ p) (hs : ∀ env, starEach [e] env = (false, eval e env) :: starEach [] env := by intro _; rfl) : IsF f k (.List [e] pos) ρ σ [p] :=
  eval_List (args_cons (he.use (args_nil ⟨Nat.le_of_ble_eq_true rfl, fun _ h => .of h⟩)) hs)
theorem isF_if {t a b : Expr} {pos : Pos} {c : Bool} {L : List PV} (ht : IsT f k t ρ σ c) (h1 : c = true → IsF f k a ρ σ L) (h2 : c = false → IsF f k b ρ σ L) : IsF f k (.IfExp t a b pos) ρ σ L := eval_IfExp (ht.use ⟨h1, h2⟩)
theorem ret_new {e : Expr} {L : List PV} {pos : Pos} {sts : List Stmt} {Φ : FP → Rho → Sig → Prop} (he : IsF f k e ρ σ L) (h : ∀ r σ', Fresh L σ r σ' → Φ (.ret r) ρ σ') : ExecsP f k (.Return (some e) pos :: sts) ρ σ Φ := seq_ret (ValP.mono he h)
theorem add_fresh {σ₀ σ₂ : Sig} {L M : List PV} {p q : PV} {Φ : PV → Sig → Prop} (x : Fresh L σ₀ p σ) (y : Fresh M σ q σ₂) (hz : L.length + M.length ≤ 16777216) (h : ∀ r σ₃, Fresh (L ++ M) σ₀ r σ₃ → Keep σ σ₃ → Φ r σ₃) : Op2 f k (binaryOp .Add) p q ρ σ₂ Φ := by
  obtain ⟨a, h1, rfl, h2, h3⟩ := x
  obtain ⟨b, g1, rfl, g2, g3⟩ := y
  refine add_ll (g3 a _ h2) g2 hz fun c hc => h _ _ ⟨c, ?_, rfl, upd_same, h3.trans (g3.trans (.upd hc))⟩ (g3.trans (.upd hc))
  cases e : σ₀ c with
  | none => rfl
  | some m => have := g3 c m (h3 c m e); rw [hc] at this; cases this
theorem isF_add {e1 e2 : Expr} {L M : List PV} {pos : Pos} (h1 : IsF f k e1 ρ σ L) (h2 : ∀ σ', IsF f k e2 ρ σ' M) (hz : L.length + M.length ≤ 16777216) : IsF f k (.BinOp e1 .Add e2 pos) ρ σ (L ++ M) :=
  eval_BinOp (ValP.mono h1 fun _ _ x => ValP.mono (h2 _) fun _ _ y => add_fresh x y hz fun _ _ z _ => z)
/-- to a list of before, a new one is added -/
theorem Fresh.keep {L : List PV} {σ σ' σ'' : Sig} {r : PV} (x : Fresh L σ r σ') (k : Keep σ' σ'') : Fresh L σ r σ'' := let ⟨a, h1, h2, h3, h4⟩ := x; ⟨a, h1, h2, k _ _ h3, h4.trans k⟩
/-- a loop over a new list -/
theorem for_new {L : List PV} {x : Str} {px pos : Pos} {iter : Expr} {body sts : List Stmt} {Φ : FP → Rho → Sig → Prop} (J : Nat → Rho → Sig → Prop) (hx : f.env.kindOf x = some .local) (hit : IsF f k iter ρ σ L)
    (h0 : ∀ σ₂, Keep σ σ₂ → J 0 ρ σ₂)
    (step : ∀ base', (∀ b o, f.base b = some o → base' b = some o) → ∀ i p ρ' σ', L[i]? = some p → J i ρ' σ' → ExecsP (f.with base') k body ((x, p) :: ρ') σ' fun q ρ₂ σ₃ => q = .next ∧ J (i + 1) ρ₂ σ₃ ∧ Keep σ' σ₃)
    (done : ∀ ρ' σ', J L.length ρ' σ' → ExecsP f k sts ρ' σ' Φ)
    (hf : ∀ env y, foldedSetIterable iter env y = pure y) : ExecsP f k (.For (.Name x px) iter body [] pos :: sts) ρ σ Φ :=
  seq_For hx (ValP.mono hit fun p σ₂ ⟨c, _, h2, h3, h4⟩ => ⟨c, L, h2, h3, fun i ρ' σ' => J i ρ' σ' ∧ Keep σ₂ σ', ⟨h0 σ₂ h4, .refl _⟩, fun _ _ _ h => h.2 _ _ h3,
    fun base' up i p ρ' σ' hp h => (step base' up i p ρ' σ' hp h.1).mono fun _ _ _ ⟨a, b, c⟩ => ⟨.inl a, b, h.2.trans c⟩, fun ρ' σ' h => done ρ' σ' h.1⟩) hf
end

section
variable {prog : Program} {w : World} {P : Params}
def OrdAt (prog : Program) (w : World) (P : Params) (n : Nat) : Prop := ∀ (t : T), t.size = n → t.Ok → t.size ≤ 1000 → t.text ≤ 1000 → ∀ (A : Around) (env : Env) (base : Addr → Option Obj) (ρ : Rho) (σ : Sig),
    CallP (FF prog w P A env base) (t.size + 2) (.ref 149) [t.pv] ρ σ fun r σ' => ∃ a, σ a = none ∧ r = .ref a ∧ σ' = upd σ a (ords t)
/-- what the calls within give -/
def SubOrd (prog : Program) (w : World) (P : Params) (k : Nat) (u : T) : Prop := ∀ (A : Around) (env : Env) (base : Addr → Option Obj) (ρ : Rho) (σ : Sig), CallP (FF prog w P A env base) k (.ref 149) [u.pv] ρ σ fun r σ' => Fresh (ords u) σ r σ'
section
variable {A : Around} {env : Env} {base : Addr → Option Obj} {k : Nat} {ρ : Rho} {σ : Sig}
theorem isF_orders {u : T} {e : Expr} {np pos : Pos} (h : SubOrd prog w P k u) (he : IsE (FF prog w P A env base) k e ρ σ u.pv) (hx : env.kindOf (Str.ofString "_law_orders") = some .globalImplicit)
    (hc : ∀ env, eval (.Call (.Name (Str.ofString "_law_orders") np) [e] [] pos) env = (do callWith pos (← eval (.Name (Str.ofString "_law_orders") np) env) [] (backTo pos (starEach [e] env)) (backToKw pos (keywordEach [] env))) := by intro _; rfl)
    (hs : ∀ env, starEach [e] env = (false, eval e env) :: starEach [] env := by intro _; rfl) :
    IsF (FF prog w P A env base) k (.Call (.Name (Str.ofString "_law_orders") np) [e] [] pos) ρ σ (ords u) :=
  eval_CallName (nv_law_orders hx) (by show keepIn (hd.heap_39 P) _ = true; k_is) (args_cons (he.use (args_nil (h _ _ _ _ _))) hs) hc hs
end
set_option maxHeartbeats 2000000 in
theorem ords_leaf {kd : Str} {args : List PV} (ok : Leaf kd args) (A : Around) (env : Env) (base : Addr → Option Obj) (k : Nat) (ρ : Rho) (σ : Sig) :
    CallP (FF prog w P A env base) (k + 1) (.ref 149) [(T.leaf kd args).pv] ρ σ fun r σ' => Fresh [leafOrder kd args] σ r σ' := by
  refine callF [Str.ofString "node"] (by show List.lookup _ (hd.heap_39 P) = _; k_is) (by show codeIn (hd.heap_39 P) _ _ = true; k_is) (fnBinds1 (fun _ => rfl) rfl) (by decide) (by decide) rfl rfl rfl ?_
  intro A' L' base' up Ψ hΨ
  replace hΨ : ∀ r ρ' σ', Fresh [leafOrder kd args] σ r σ' → Ψ (.ret r) ρ' σ' := fun r ρ' σ' => hΨ (.ret r) ρ' σ'
  obtain ⟨h1, h2, h3, h4, _⟩ := leaf_kinds ok
  have hk := leaf_kind ok
  clear ok
  dsimp only [T.pv]
  refine let_is rfl (isE_item rfl rfl (by decide) (by decide) rfl) ?_ rfl
  refine if_ff (isT_eq rfl rfl h1) ?_
  refine if_ff (isT_eq rfl rfl h2) ?_
  refine if_ff (isT_eq rfl rfl h3) ?_
  refine if_ff (isT_in [Str.ofString "later", Str.ofString "now"] (isE_local rfl rfl) (isE_tup (areE_cons isE_str (areE_cons isE_str areE_nil)) (Nat.le_of_ble_eq_true rfl)) h4) ?_
  rcases hk with ⟨k1, k2, k3, k4, ka⟩ | ⟨k1, k2, k3⟩ | ⟨rfl, q, rfl⟩ | ⟨rfl, q, rfl⟩ | ⟨k1, k2, k3, k4, k5⟩
  · refine if_ff (isT_in [Str.ofString "arb", Str.ofString "bal"] (isE_local rfl rfl) (isE_tup (areE_cons isE_str (areE_cons isE_str areE_nil)) (Nat.le_of_ble_eq_true rfl)) k2) ?_
    refine if_ff (isT_in [Str.ofString "cursor", Str.ofString "delay"] (isE_local rfl rfl) (isE_tup (areE_cons isE_str (areE_cons isE_str areE_nil)) (Nat.le_of_ble_eq_true rfl)) k3) ?_
    refine if_ff (isT_in ALONEs (isE_local rfl rfl) (isE_tup (areE_cons isE_str (areE_cons isE_str (areE_cons isE_str (areE_cons isE_str areE_nil)))) (Nat.le_of_ble_eq_true rfl)) k4) ?_
    rw [leafOrder_single k1] at hΨ
    rcases ka with rfl | ⟨q, rfl⟩
    · exact ret_new (isF_one (isE_tup (areE_cons isE_str (areE_cons (isE_local rfl rfl) (areE_cons (isE_if (c := false) (isT_len_gt rfl rfl (Nat.le_of_ble_eq_true rfl) rfl rfl) (fun h => nomatch h) (fun _ => isE_none)) areE_nil))) (Nat.le_of_ble_eq_true rfl))) fun r σ' => hΨ r _ σ'
    · exact ret_new (isF_one (isE_tup (areE_cons isE_str (areE_cons (isE_local rfl rfl) (areE_cons (isE_if (c := true) (isT_len_gt rfl rfl (Nat.le_of_ble_eq_true rfl) rfl rfl) (fun _ => isE_item rfl rfl (by decide) (by decide) rfl) (fun h => nomatch h)) areE_nil))) (Nat.le_of_ble_eq_true rfl))) fun r σ' => hΨ r _ σ'
  · refine if_tt (isT_in [Str.ofString "arb", Str.ofString "bal"] (isE_local rfl rfl) (isE_tup (areE_cons isE_str (areE_cons isE_str areE_nil)) (Nat.le_of_ble_eq_true rfl)) k2) ?_
    rw [leafOrder_ways k1 k3] at hΨ
    exact ret_new (isF_one (isE_tup (areE_cons isE_str (areE_cons (isE_local rfl rfl) areE_nil)) (Nat.le_of_ble_eq_true rfl))) fun r σ' => hΨ r _ σ'
  · refine if_ff (isT_in [Str.ofString "arb", Str.ofString "bal"] (isE_local rfl rfl) (isE_tup (areE_cons isE_str (areE_cons isE_str areE_nil)) (Nat.le_of_ble_eq_true rfl)) (by decide)) ?_
    refine if_tt (isT_in [Str.ofString "cursor", Str.ofString "delay"] (isE_local rfl rfl) (isE_tup (areE_cons isE_str (areE_cons isE_str areE_nil)) (Nat.le_of_ble_eq_true rfl)) (by decide)) ?_
    rw [leafOrder_place rfl] at hΨ
    exact ret_new (isF_one (isE_tup (areE_cons (isE_if (c := true) (isT_eq rfl rfl (by decide)) (fun _ => isE_str) (fun h => nomatch h)) (areE_cons (isE_item rfl rfl (by decide) (by decide) rfl) areE_nil)) (Nat.le_of_ble_eq_true rfl))) fun r σ' => hΨ r _ σ'
  · refine if_ff (isT_in [Str.ofString "arb", Str.ofString "bal"] (isE_local rfl rfl) (isE_tup (areE_cons isE_str (areE_cons isE_str areE_nil)) (Nat.le_of_ble_eq_true rfl)) (by decide)) ?_
    refine if_tt (isT_in [Str.ofString "cursor", Str.ofString "delay"] (isE_local rfl rfl) (isE_tup (areE_cons isE_str (areE_cons isE_str areE_nil)) (Nat.le_of_ble_eq_true rfl)) (by decide)) ?_
    rw [leafOrder_ask rfl] at hΨ
    exact ret_new (isF_one (isE_tup (areE_cons (isE_if (c := false) (isT_eq rfl rfl (by decide)) (fun h => nomatch h) (fun _ => isE_str)) (areE_cons (isE_item rfl rfl (by decide) (by decide) rfl) areE_nil)) (Nat.le_of_ble_eq_true rfl))) fun r σ' => hΨ r _ σ'
  · refine if_ff (isT_in [Str.ofString "arb", Str.ofString "bal"] (isE_local rfl rfl) (isE_tup (areE_cons isE_str (areE_cons isE_str areE_nil)) (Nat.le_of_ble_eq_true rfl)) k2) ?_
    refine if_ff (isT_in [Str.ofString "cursor", Str.ofString "delay"] (isE_local rfl rfl) (isE_tup (areE_cons isE_str (areE_cons isE_str areE_nil)) (Nat.le_of_ble_eq_true rfl)) k3) ?_
    refine if_tt (isT_in ALONEs (isE_local rfl rfl) (isE_tup (areE_cons isE_str (areE_cons isE_str (areE_cons isE_str (areE_cons isE_str areE_nil)))) (Nat.le_of_ble_eq_true rfl)) k4) ?_
    rw [leafOrder_alone k1 k5 k4] at hΨ
    exact ret_new (isF_one (isE_tup (areE_cons (isE_local rfl rfl) areE_nil) (Nat.le_of_ble_eq_true rfl))) fun r σ' => hΨ r _ σ'

theorem ords_arbno {k : Nat} {t : T} (h : SubOrd prog w P k t) (hz : (ords t).length ≤ 10000) (A : Around) (env : Env) (base : Addr → Option Obj) (ρ : Rho) (σ : Sig) :
    CallP (FF prog w P A env base) (k + 1) (.ref 149) [(T.arbno t).pv] ρ σ fun r σ' => Fresh (ords (.arbno t)) σ r σ' := by
  refine callF [Str.ofString "node"] (by show List.lookup _ (hd.heap_39 P) = _; k_is) (by show codeIn (hd.heap_39 P) _ _ = true; k_is) (fnBinds1 (fun _ => rfl) rfl) (by decide) (by decide) rfl rfl rfl ?_
  intro A' L' base' up Ψ hΨ
  dsimp only [T.pv]
  refine let_is rfl (isE_item rfl rfl (by decide) (by decide) rfl) ?_ rfl
  refine if_ff (isT_eq rfl rfl (by decide)) ?_
  refine if_ff (isT_eq rfl rfl (by decide)) ?_
  refine if_tt (isT_eq rfl rfl (by decide)) ?_
  exact ret_new (isF_add (isF_add (isF_one (isE_tup (areE_cons isE_str areE_nil) (Nat.le_of_ble_eq_true rfl))) (fun _ => isF_orders h (isE_item rfl rfl (by decide) (by decide) rfl) rfl) (by simp; omega)) (fun _ => isF_one (isE_tup (areE_cons isE_str areE_nil) (Nat.le_of_ble_eq_true rfl))) (by simp; omega)) fun r σ' => hΨ (.ret r) _ σ'
/-- a part that is named (c) or assigned at once -/
theorem ords_mark {k : Nat} {t : T} {kd : Str} {r : PV} (c : Bool) (h : SubOrd prog w P k t) (hz : (ords t).length ≤ 10000) (h1 : (kd == Str.ofString "cat") = false) (h2 : (kd == Str.ofString "alt") = false) (h3 : (kd == Str.ofString "arbno") = false)
    (h4 : ([Str.ofString "later", Str.ofString "now"].any fun y => y == kd) = true) (h5 : (kd == Str.ofString "later") = c) (A : Around) (env : Env) (base : Addr → Option Obj) (ρ : Rho) (σ : Sig) :
    CallP (FF prog w P A env base) (k + 1) (.ref 149) [.tup [.str kd, t.pv, r]] ρ σ fun r' σ' => Fresh (([oMark] ++ ords t) ++ [.tup [.str (if c then Str.ofString "name" else Str.ofString "set"), r]]) σ r' σ' := by
  refine callF [Str.ofString "node"] (by show List.lookup _ (hd.heap_39 P) = _; k_is) (by show codeIn (hd.heap_39 P) _ _ = true; k_is) (fnBinds1 (fun _ => rfl) rfl) (by decide) (by decide) rfl rfl rfl ?_
  intro A' L' base' up Ψ hΨ
  refine let_is rfl (isE_item rfl rfl (by decide) (by decide) rfl) ?_ rfl
  refine if_ff (isT_eq rfl rfl h1) ?_
  refine if_ff (isT_eq rfl rfl h2) ?_
  refine if_ff (isT_eq rfl rfl h3) ?_
  refine if_tt (isT_in [Str.ofString "later", Str.ofString "now"] (isE_local rfl rfl) (isE_tup (areE_cons isE_str (areE_cons isE_str areE_nil)) (Nat.le_of_ble_eq_true rfl)) h4) ?_
  refine ret_new (isF_add (isF_add (isF_one (isE_tup (areE_cons isE_str areE_nil) (Nat.le_of_ble_eq_true rfl))) (fun _ => isF_orders h (isE_item rfl rfl (by decide) (by decide) rfl) rfl) (by simp; omega)) (fun _ => isF_one (isE_tup (areE_cons (isE_if (isT_eq rfl rfl h5) (fun h => ?_) (fun h => ?_)) (areE_cons (isE_item rfl rfl (by decide) (by decide) rfl) areE_nil)) (Nat.le_of_ble_eq_true rfl))) (by simp; omega)) fun r σ' => hΨ (.ret r) _ σ'
  · rw [if_pos h]; exact isE_str
  · rw [h]; exact isE_str
theorem ords_choice {k : Nat} {a b : T} (ha : SubOrd prog w P k a) (hb : SubOrd prog w P k b) (hz : (ords a).length + (ords b).length ≤ 10000) (A : Around) (env : Env) (base : Addr → Option Obj) (ρ : Rho) (σ : Sig) :
    CallP (FF prog w P A env base) (k + 1) (.ref 149) [(T.alt a b).pv] ρ σ fun r σ' => Fresh (ords a ++ ords b) σ r σ' := by
  refine callF [Str.ofString "node"] (by show List.lookup _ (hd.heap_39 P) = _; k_is) (by show codeIn (hd.heap_39 P) _ _ = true; k_is) (fnBinds1 (fun _ => rfl) rfl) (by decide) (by decide) rfl rfl rfl ?_
  intro A' L' base' up Ψ hΨ
  dsimp only [T.pv]
  refine let_is rfl (isE_item rfl rfl (by decide) (by decide) rfl) ?_ rfl
  refine if_ff (isT_eq rfl rfl (by decide)) ?_
  refine if_tt (isT_eq rfl rfl (by decide)) ?_
  exact ret_new (isF_add (isF_orders ha (isE_item rfl rfl (by decide) (by decide) rfl) rfl) (fun _ => isF_orders hb (isE_item rfl rfl (by decide) (by decide) rfl) rfl) (Nat.le_trans hz (by decide))) fun r σ' => hΨ (.ret r) _ σ'

/-- the loop of _law_orders over the parts of a row -/
def OrdJ (t : T) (σ : Sig) (i : Nat) (ρ' : Rho) (σ' : Sig) : Prop :=
  ∃ r F tx, ρ'.lookup (Str.ofString "found") = some r ∧ ρ'.lookup (Str.ofString "text") = some (.str tx) ∧ Fresh F σ r σ' ∧ F.length ≤ 2 * t.size ∧ tx.length ≤ t.text ∧ (i ≤ (row true t).length → stAt (row true t) i = (F, tx)) ∧ (i = (row true t).length + 1 → F = ords t)
/-- what the loop meets at i: a text, another part, or the end -/
def OrdAlt (t : T) (i : Nat) (F : List PV) (tx : Str) (p : PV) : Prop :=
  (∃ x, p = .tup [.str (Str.ofString "chars"), .str x] ∧ i < (row true t).length ∧ stAt (row true t) (i + 1) = (F, tx ++ x) ∧ x.length ≤ 1000 ∧ (tx ++ x).length ≤ t.text) ∨
  (∃ kd args o, p = .tup (.str kd :: args) ∧ (kd == Str.ofString "chars") = false ∧ ((kd = Str.ofString "end" ∧ args = [] ∧ o = []) ∨ ((kd == Str.ofString "end") = false ∧ ∃ u : T, u.pv = .tup (.str kd :: args) ∧ u.Ok ∧ u.size < t.size ∧ u.text ≤ 1000 ∧ o = ords u)) ∧
    ((F ++ flush tx) ++ o).length ≤ 2 * t.size ∧ (i + 1 ≤ (row true t).length → stAt (row true t) (i + 1) = ((F ++ flush tx) ++ o, Str.ofString "")) ∧ (i + 1 = (row true t).length + 1 → (F ++ flush tx) ++ o = ords t))
theorem ord_alt {a b : T} (ok : (T.cat a b).Ok) (hx : (T.cat a b).text ≤ 1000) {i : Nat} {F : List PV} {tx : Str} {p : PV} (hp : ((row true (.cat a b)).map T.pv ++ [.tup [.str (Str.ofString "end")]])[i]? = some p)
    (s1 : i ≤ (row true (.cat a b)).length → stAt (row true (.cat a b)) i = (F, tx)) : OrdAlt (.cat a b) i F tx p := by
  have hsizes := sizes_row true (.cat a b)
  have htexts := texts_row true (.cat a b)
  have hi : i ≤ (row true (.cat a b)).length := by
    have := (List.getElem?_eq_some_iff.mp hp).1
    simp at this; omega
  replace s1 := s1 hi
  by_cases hin : i < (row true (.cat a b)).length
  · have hu : (row true (.cat a b))[i]? = some (row true (.cat a b))[i] := List.getElem?_eq_getElem hin
    have hmem : (row true (.cat a b))[i] ∈ row true (.cat a b) := List.getElem_mem _
    generalize (row true (.cat a b))[i] = u at hu hmem
    have hpu : p = u.pv := by
      rw [List.getElem?_append_left (by simpa using hin), List.getElem?_map, hu] at hp
      exact (Option.some.inj hp).symm
    have hst := stAt_succ hu
    have hb := stAt_bound (row true (.cat a b)) (i + 1)
    have ht := text_le_of_mem hmem
    have hok := row_ok true (.cat a b) ok u hmem
    have hus : u.size < (T.cat a b).size := by
      have hrl : row true (.cat a b) = row true a ++ row true b := rfl
      have hsz : (T.cat a b).size = a.size + b.size + 1 := rfl
      rw [hrl, List.mem_append] at hmem
      have h1 := sizes_row true a
      have h2 := sizes_row true b
      rcases hmem with hu | hu
      · have := size_le_of_mem hu; omega
      · have := size_le_of_mem hu; omega
    generalize T.cat a b = t at *
    rw [s1] at hst
    rcases u.chars_split hok with ⟨x, rfl, hch, htext⟩ | ⟨hk, hch⟩
    · have e : accStep (F, tx) (chars x) = (F, tx ++ x) := by unfold accStep; rw [hch]
      rw [e] at hst
      rw [hst] at hb
      have h9 : (tx ++ x).length ≤ texts (row true t) := hb.2
      exact .inl ⟨x, hpu, hin, hst, by omega, by omega⟩
    · have e : accStep (F, tx) u = ((F ++ flush tx) ++ ords u, Str.ofString "") := by unfold accStep; rw [hch]; rfl
      rw [e] at hst
      rw [hst] at hb
      have h9 : ((F ++ flush tx) ++ ords u).length ≤ 2 * sizes (row true t) := hb.1
      refine .inr ⟨u.kd, u.args, ords u, by rw [hpu, u.pv_eq], hk, .inr ⟨kd_end u hok, u, u.pv_eq, hok, hus, by omega, rfl⟩, by omega, fun _ => hst, fun h => absurd h (by omega)⟩
  · obtain rfl : i = (row true (.cat a b)).length := Nat.le_antisymm hi (Nat.le_of_not_lt hin)
    have hpe : p = .tup [.str (Str.ofString "end")] := by
      rw [List.getElem?_append_right (by simp)] at hp
      simpa using hp.symm
    have hend := stAt_end a b
    rw [s1] at hend
    refine .inr ⟨_, _, [], hpe, by decide, .inl ⟨rfl, rfl, rfl⟩, ?_, fun h => absurd h (Nat.not_succ_le_self _), fun _ => ?_⟩
    · rw [List.append_nil]; rw [show F ++ flush tx = ords (.cat a b) from hend]; exact ords_len (.cat a b)
    · rw [List.append_nil]; exact hend
set_option maxHeartbeats 2000000 in
theorem orders_cat {k : Nat} {a b : T} (ok : (T.cat a b).Ok) (hz : (T.cat a b).size ≤ 1000) (hx : (T.cat a b).text ≤ 1000) (hk : (T.cat a b).size + 1 ≤ k) (sub : ∀ u : T, u.size < (T.cat a b).size → u.Ok → u.text ≤ 1000 → SubOrd prog w P k u)
    (A : Around) (env : Env) (base : Addr → Option Obj) (ρ : Rho) (σ : Sig) : CallP (FF prog w P A env base) (k + 1) (.ref 149) [(T.cat a b).pv] ρ σ fun r σ' => Fresh (ords (.cat a b)) σ r σ' := by
  have hrow := lrow_spec (prog := prog) (w := w) (P := P) true (.cat a b) ok hz
  have hrlen := row_len true (.cat a b)
  have halt := fun i F tx p => @ord_alt a b ok hx i F tx p
  have hpv : (T.cat a b).pv = .tup [.str (Str.ofString "cat"), a.pv, b.pv] := rfl
  generalize T.cat a b = t at *
  refine callF [Str.ofString "node"] (by show List.lookup _ (hd.heap_39 P) = _; k_is) (by show codeIn (hd.heap_39 P) _ _ = true; k_is) (fnBinds1 (fun _ => rfl) rfl) (by decide) (by decide) rfl rfl rfl ?_
  intro A' L' base' up Ψ hΨ
  refine let_is rfl (isE_item (l := [.str (Str.ofString "cat"), a.pv, b.pv]) rfl (congrArg some hpv) (by decide) (by decide) rfl) ?_ rfl
  refine if_tt (isT_eq rfl rfl (by decide)) ?_
  refine seq_swap2 rfl rfl (eval_Tuple (args_cons (ValP.mono isF_nil fun r σ₁ F0 => args_cons (isE_str.use (args_nil ⟨Nat.le_of_ble_eq_true rfl, _, _, rfl, ?_⟩))))) rfl rfl
  refine for_new (OrdJ t σ) rfl (isF_add (L := (row true t).map T.pv) ?_ (fun _ => isF_one (isE_tup (areE_cons isE_str areE_nil) (Nat.le_of_ble_eq_true rfl))) (by simp; omega)) (fun σ₂ K => ?_) ?_ ?_ (fun _ _ => rfl)
  · refine eval_CallName (nv_law_row rfl) (by show keepIn (hd.heap_39 P) _ = true; k_is) (args_cons ((isE_local rfl rfl).use (args_cons (isE_str.use (args_nil ?_)))))
    exact OpL.fuel ((hrow _ _ _ _ _).mono fun r σ' ⟨x, h1, h2, h3⟩ => by rw [h2, h3]; exact .of h1) hk
  · exact ⟨r, [], Str.ofString "", rfl, rfl, F0.keep K, Nat.zero_le _, Nat.zero_le _, fun _ => rfl, fun h => by cases h⟩
  · rintro base2 up2 i p ρ' σ' hp ⟨r', F, tx, l1, l2, F1, hF, htx, s1, s2⟩
    have hfl := flush_len tx
    rcases halt i F tx p hp s1 with ⟨x, rfl, hin, hst, hxl, hxt⟩ | ⟨kd, args, o, rfl, hk, hcase, hlen, hst, hfin⟩
    · refine if_tt (isT_eqE (isE_item rfl rfl (by decide) (by decide) rfl) isE_str (by decide)) ?_
      refine let_is rfl (isE_add_ss (isE_local rfl l2) (isE_item rfl rfl (by decide) (by decide) rfl) (by omega)) ?_ rfl
      exact execs_nil' ⟨rfl, ⟨r', F, tx ++ x, l1, rfl, F1, hF, hxt, fun _ => hst, fun h => absurd h (by omega)⟩, .refl _⟩
    · have hlen' : F.length + (flush tx).length + o.length ≤ 2 * t.size := by rw [List.length_append, List.length_append] at hlen; exact hlen
      refine if_ff (isT_eqE (isE_item rfl rfl (by decide) (by decide) rfl) isE_str hk) ?_
      refine seq_assign rfl (eval_BinOp (IsE.use (isE_local rfl l1) (ValP.mono (Φ := fun q σ₂ => Fresh (flush tx) σ' q σ₂) ?_ fun q σ₂ F2 => add_fresh F1 F2 (by omega) fun r3 σ₃ F3 K3 => ?_))) rfl
      · refine isF_if (isT_neE (isE_local rfl l2) isE_str rfl) (fun hc => ?_) (fun hc => ?_)
        · rw [show flush tx = [oOne (Str.ofString "chars") (.str tx)] from if_pos hc]
          exact isF_one (isE_tup (areE_cons isE_str (areE_cons isE_str (areE_cons (isE_local rfl l2) areE_nil))) (Nat.le_of_ble_eq_true rfl))
        · rw [show flush tx = [] from if_neg (by rw [hc]; decide)]
          exact isF_nil
      · refine seq_swap2 rfl rfl (eval_Tuple (args_cons (eval_BinOp ((isE_local rfl rfl).use (ValP.mono (Φ := fun q σ₂ => Fresh o σ₃ q σ₂) ?_ fun q σ₄ F4 => add_fresh F3 F4 ?_ fun r5 σ₅ F5 K5 => ?_))))) rfl rfl
        · refine eval_IfExp (test_Compare1 ((isE_local rfl rfl).use ((isE_tup (areE_cons isE_str areE_nil) (Nat.le_of_ble_eq_true rfl)).use ?_)))
          rcases hcase with ⟨rfl, rfl, rfl⟩ | ⟨hke, u, hu, oku, husz, hutx, rfl⟩
          · refine eq_tup_same (fun p hp => ?_) (bb_tt rfl isF_nil)
            rw [List.mem_singleton.mp hp]; trivial
          · exact eq_tup_head hke (bb_ff rfl (isF_orders (sub u husz oku hutx) (hu ▸ isE_local rfl rfl) rfl))
        · rw [List.length_append]; omega
        · refine args_cons (isE_str.use (args_nil ⟨Nat.le_of_ble_eq_true rfl, _, _, rfl, ?_⟩))
          exact execs_nil' ⟨rfl, ⟨r5, _, Str.ofString "", rfl, rfl, F5, hlen, Nat.zero_le _, hst, hfin⟩, K3.trans K5⟩
  · rintro ρ' σ' ⟨r', F, tx, l1, l2, F1, _, _, _, s2⟩
    have hFe : F = ords t := s2 (by simp)
    exact ret_is (isE_local rfl l1) (hΨ _ _ _ (hFe ▸ F1))

theorem room_o1 {l n : Nat} (h : l ≤ 2 * n) (hn : n ≤ 1000) : l ≤ 10000 := by omega
theorem room_o2 {l m a b : Nat} (h : l ≤ 2 * a) (h' : m ≤ 2 * b) (hn : a + b + 1 ≤ 1000) : l + m ≤ 10000 := by omega
theorem ords_step {n : Nat} (ih : ∀ m, m < n → OrdAt prog w P m) : OrdAt prog w P n := by
  intro t hn ok hz hx A env base ρ σ
  refine OpL.weaken (Φ := fun r σ' => Fresh (ords t) σ r σ') ?_ (fun p σ' x => x.upd)
  have sub : ∀ u : T, u.size < t.size → u.Ok → u.text ≤ 1000 → SubOrd prog w P (t.size + 1) u := fun u hu oku hxu A env base ρ σ =>
    OpL.fuel ((ih u.size (hn ▸ hu) u rfl oku (Nat.le_trans (Nat.le_of_lt hu) hz) hxu A env base ρ σ).mono fun r σ' ⟨a, h1, h2, h3⟩ => by rw [h2, h3]; exact .of h1) (Nat.succ_le_succ hu)
  cases t with
  | leaf kd args => exact OpL.fuel (ords_leaf (ok : Leaf kd args) A env base 0 ρ σ) (Nat.le_add_left 1 _)
  | arbno t => exact ords_arbno (sub t (Nat.lt_succ_self _) ok hx) (room_o1 (ords_len t) (Nat.le_of_succ_le hz)) A env base ρ σ
  | later t r => exact ords_mark true (sub t (Nat.lt_succ_self _) ok hx) (room_o1 (ords_len t) (Nat.le_of_succ_le hz)) (by decide) (by decide) (by decide) (by decide) (by decide) A env base ρ σ
  | now t r => exact ords_mark false (sub t (Nat.lt_succ_self _) ok hx) (room_o1 (ords_len t) (Nat.le_of_succ_le hz)) (by decide) (by decide) (by decide) (by decide) (by decide) A env base ρ σ
  | alt a b =>
    exact ords_choice (sub a (Nat.lt_succ_of_le (Nat.le_add_right _ _)) ok.1 (Nat.le_trans (Nat.le_add_right _ _) hx)) (sub b (Nat.lt_succ_of_le (Nat.le_add_left _ _)) ok.2 (Nat.le_trans (Nat.le_add_left _ _) hx)) (room_o2 (ords_len a) (ords_len b) hz) A env base ρ σ
  | cat a b => exact orders_cat ok hz hx (Nat.le_refl _) sub A env base ρ σ
theorem ords_all (n : Nat) : OrdAt prog w P n := by
  induction n using Nat.strongRecOn with
  | _ n ih => exact ords_step fun m hm => ih m hm
end

/-! ## F13 -/
def cnt (c : Bool) (t : T) : Nat := if c then calt t else carb t
def ckind : Bool → Str
  | true => Str.ofString "alt"
  | false => Str.ofString "arbno"
def T.kids : T → List T
  | .leaf _ _ => []
  | .arbno t => [t]
  | .later t _ => [t]
  | .now t _ => [t]
  | .cat a b => [a, b]
  | .alt a b => [a, b]
theorem cnt_kids (c : Bool) (t : T) (ok : t.Ok) : (cnt c t : Int) = (if t.kd == ckind c then 1 else 0) + ((t.kids.map fun u => (cnt c u : Int))).sum := by
  cases t with
  | leaf kd args =>
    have ok' : Leaf kd args := ok
    have h : (kd == ckind c) = false := by
      obtain ⟨_, h2, h3, _⟩ := leaf_kinds ok'
      cases c
      · exact h3
      · exact h2
    show (cnt c (.leaf kd args) : Int) = (if (kd == ckind c) = true then 1 else 0) + _
    rw [h]; cases c <;> simp [cnt, calt, carb, T.kids]
  | arbno t =>
    cases c
    · show _ = (if (Str.ofString "arbno" == Str.ofString "arbno") = true then (1 : Int) else 0) + _
      rw [beq_self_eq_true]; simp [cnt, calt, carb, T.kids]; omega
    · show _ = (if (Str.ofString "arbno" == Str.ofString "alt") = true then (1 : Int) else 0) + _
      rw [show (Str.ofString "arbno" == Str.ofString "alt") = false by decide]; simp [cnt, calt, carb, T.kids]
  | later t r =>
    have h : (Str.ofString "later" == ckind c) = false := by cases c <;> (dsimp only [ckind]; decide)
    show _ = (if (Str.ofString "later" == ckind c) = true then (1 : Int) else 0) + _
    rw [h]; cases c <;> simp [cnt, calt, carb, T.kids]
  | now t r =>
    have h : (Str.ofString "now" == ckind c) = false := by cases c <;> (dsimp only [ckind]; decide)
    show _ = (if (Str.ofString "now" == ckind c) = true then (1 : Int) else 0) + _
    rw [h]; cases c <;> simp [cnt, calt, carb, T.kids]
  | cat a b =>
    have h : (Str.ofString "cat" == ckind c) = false := by cases c <;> (dsimp only [ckind]; decide)
    show _ = (if (Str.ofString "cat" == ckind c) = true then (1 : Int) else 0) + _
    rw [h]; cases c <;> simp [cnt, calt, carb, T.kids]
  | alt a b =>
    cases c
    · show _ = (if (Str.ofString "alt" == Str.ofString "arbno") = true then (1 : Int) else 0) + _
      rw [show (Str.ofString "alt" == Str.ofString "arbno") = false by decide]; simp [cnt, calt, carb, T.kids]
    · show _ = (if (Str.ofString "alt" == Str.ofString "alt") = true then (1 : Int) else 0) + _
      rw [beq_self_eq_true]; simp [cnt, calt, carb, T.kids]; omega
theorem kids_ok (t : T) (ok : t.Ok) : ∀ u ∈ t.kids, u.Ok ∧ u.size < t.size := by
  intro u hu
  cases t with
  | leaf => simp [T.kids] at hu
  | arbno t => simp [T.kids] at hu; subst hu; exact ⟨ok, by simp [T.size]⟩
  | later t r => simp [T.kids] at hu; subst hu; exact ⟨ok, by simp [T.size]⟩
  | now t r => simp [T.kids] at hu; subst hu; exact ⟨ok, by simp [T.size]⟩
  | cat a b =>
    simp [T.kids] at hu
    rcases hu with rfl | rfl
    · exact ⟨ok.1, by simp [T.size]; omega⟩
    · exact ⟨ok.2, by simp [T.size]; omega⟩
  | alt a b =>
    simp [T.kids] at hu
    rcases hu with rfl | rfl
    · exact ⟨ok.1, by simp [T.size]; omega⟩
    · exact ⟨ok.2, by simp [T.size]; omega⟩
theorem den_tup2 {h : Heap} {v : Value} {ps qs : List PV} (d : Den h v (.tup ps)) (e : Den h v (.tup qs)) : ∃ vs, DenL h vs ps ∧ DenL h vs qs := by
  obtain ⟨a, vs, rfl, ⟨o, ho, hc, n, hd⟩, dl⟩ := d.toTup
  obtain ⟨b, ws, hab, ⟨o', ho', hc', n', hd'⟩, el⟩ := e.toTup
  injection hab with hab
  subst hab
  rw [ho] at ho'; cases ho'
  rw [hd] at hd'; injection hd' with hd' _
  subst hd'
  exact ⟨_, dl, el⟩
theorem den_str_inj {h : Heap} {v : Value} {x y : Str} (d : Den h v (.str x)) (e : Den h v (.str y)) : x = y := by
  cases d; cases e; rfl
theorem any_ff2 {a b kd : Str} (h1 : (kd == a) = false) (h2 : (kd == b) = false) : ([a, b].any fun y => y == kd) = false := by
  simp only [beq_eq_false_iff_ne] at h1 h2
  simp only [List.any_cons, List.any_nil, Bool.or_false, Bool.or_eq_false_iff, beq_eq_false_iff_ne]
  exact ⟨Ne.symm h1, Ne.symm h2⟩
theorem any_ff3 {a b c kd : Str} (h1 : (kd == a) = false) (h : ([b, c].any fun y => y == kd) = false) : ([a, b, c].any fun y => y == kd) = false := by
  rw [List.any_cons, h, Bool.or_false, beq_eq_false_iff_ne]
  exact Ne.symm (beq_eq_false_iff_ne.mp h1)
/-- of what stands behind a node's kind: the parts -/
def pick {α : Type} (kd : Str) (l : List α) : List α :=
  if ([Str.ofString "cat", Str.ofString "alt"].any fun y => y == kd) = true then l else if ([Str.ofString "arbno", Str.ofString "later", Str.ofString "now"].any fun y => y == kd) = true then l.take 1 else []
theorem pick_all {α : Type} {kd : Str} {l : List α} (h : ([Str.ofString "cat", Str.ofString "alt"].any fun y => y == kd) = true) : pick kd l = l := if_pos h
theorem pick_first {α : Type} {kd : Str} {l : List α} (h : ([Str.ofString "cat", Str.ofString "alt"].any fun y => y == kd) = false) (h2 : ([Str.ofString "arbno", Str.ofString "later", Str.ofString "now"].any fun y => y == kd) = true) : pick kd l = l.take 1 := by
  unfold pick; rw [h, h2]; rfl
theorem pick_none {α : Type} {kd : Str} {l : List α} (h : ([Str.ofString "cat", Str.ofString "alt"].any fun y => y == kd) = false) (h2 : ([Str.ofString "arbno", Str.ofString "later", Str.ofString "now"].any fun y => y == kd) = false) : pick kd l = [] := by
  unfold pick; rw [h, h2]; rfl
theorem kids_of (t : T) (ok : t.Ok) : t.kids.map T.pv = pick t.kd t.args ∧ (([Str.ofString "arbno", Str.ofString "later", Str.ofString "now"].any fun y => y == t.kd) = true → ∃ q l, t.args = q :: l) := by
  cases t with
  | leaf kd args =>
    obtain ⟨h1, h2, h3, h4, _⟩ := leaf_kinds (ok : Leaf kd args)
    have h5 := any_ff3 h3 h4
    exact ⟨(pick_none (any_ff2 h1 h2) h5).symm, fun h => Bool.noConfusion (h5.symm.trans h)⟩
  | arbno t => exact ⟨(pick_first (kd := Str.ofString "arbno") (l := [t.pv]) (by decide) (by decide)).symm, fun _ => ⟨_, _, rfl⟩⟩
  | later t r => exact ⟨(pick_first (kd := Str.ofString "later") (l := [t.pv, .ref r]) (by decide) (by decide)).symm, fun _ => ⟨_, _, rfl⟩⟩
  | now t r => exact ⟨(pick_first (kd := Str.ofString "now") (l := [t.pv, .ref r]) (by decide) (by decide)).symm, fun _ => ⟨_, _, rfl⟩⟩
  | cat a b => exact ⟨(pick_all (kd := Str.ofString "cat") (by decide)).symm, fun h => absurd (show ([Str.ofString "arbno", Str.ofString "later", Str.ofString "now"].any fun y => y == Str.ofString "cat") = true from h) (by decide)⟩
  | alt a b => exact ⟨(pick_all (kd := Str.ofString "alt") (by decide)).symm, fun h => absurd (show ([Str.ofString "arbno", Str.ofString "later", Str.ofString "now"].any fun y => y == Str.ofString "alt") = true from h) (by decide)⟩
theorem DenL.pick {h : Heap} (kd : Str) {vs : List Value} {ps : List PV} (d : DenL h vs ps) : DenL h (Mine.pick kd vs) (Mine.pick kd ps) := by
  unfold Mine.pick
  split
  · exact d
  · split
    · cases d with
      | nil => exact .nil
      | cons x _ => exact .cons x .nil
    · exact .nil
theorem kids_pair {h : Heap} {c : Bool} {l : List T} : ∀ {l' : List T} {vs : List Value}, DenL h vs (l.map T.pv) → DenL h vs (l'.map T.pv) → (∀ u ∈ l, ∀ u' ∈ l', ∀ v, Den h v u.pv → Den h v u'.pv → cnt c u = cnt c u') →
    l.map (fun u => (cnt c u : Int)) = l'.map fun u => (cnt c u : Int) := by
  induction l with
  | nil =>
    intro l' vs d e _
    cases l' with
    | nil => rfl
    | cons u l' => cases d; cases e
  | cons t l ih =>
    intro l' vs d e hc
    cases l' with
    | nil => cases e; cases d
    | cons u l' =>
      cases d with | cons d ds =>
      cases e with | cons e es =>
      rw [List.map_cons, List.map_cons, hc t (List.mem_cons_self ..) u (List.mem_cons_self ..) _ d e, ih ds es fun x hx y hy => hc x (List.mem_cons_of_mem _ hx) y (List.mem_cons_of_mem _ hy)]
/-- two trees that one value stands for have the same counts -/
theorem den_det {h : Heap} (t : T) : ∀ (t' : T) {v : Value}, t.Ok → t'.Ok → Den h v t.pv → Den h v t'.pv → ∀ c, cnt c t = cnt c t' := by
  induction hn : t.size using Nat.strongRecOn generalizing t with
  | _ n ih =>
  intro t' v ok ok' d d' c
  rw [T.pv_eq] at d d'
  obtain ⟨vs, e, e'⟩ := den_tup2 d d'
  cases e with | cons e1 e2 =>
  cases e' with | cons e1' e2' =>
  have hkd : t.kd = t'.kd := den_str_inj e1 e1'
  have k2 := e2.pick t.kd
  have k2' := e2'.pick t'.kd
  rw [← (kids_of t ok).1] at k2
  rw [← (kids_of t' ok').1, ← hkd] at k2'
  have hs := kids_pair (c := c) k2 k2' fun u hu u' hu' v x y => ih u.size (hn ▸ (kids_ok t ok u hu).2) u rfl u' (kids_ok t ok u hu).1 (kids_ok t' ok' u' hu').1 x y c
  have c1 := cnt_kids c t ok
  rw [hs, hkd, ← cnt_kids c t' ok'] at c1
  exact Int.ofNat.inj c1
section
variable {prog : Program} {w : World} {P : Params}
def CountAt (prog : Program) (w : World) (P : Params) (n : Nat) : Prop := ∀ (c : Bool) (t : T), t.size = n → t.Ok → ∀ (A : Around) (s : Shared) (v u : Value) (Q : Value → Shared → Prop) (E : Value → Shared → Prop),
  A.handled = none → A.depth + t.size + 1 < recursionLimit → A.units + 8 * t.size + 108 < cLine → TopIn (hd.heap_39 P) s.heap.get? → Den s.heap v t.pv → Den s.heap u (.str (ckind c)) →
  (∀ s' tk, Keeps s s' → Q (.int (cnt c t) tk) s') → wpAny (model prog w) A (call (.ref 154) [v, u]) Q E s
theorem paired_cnt {h : Heap} {c : Bool} {ts : List T} : ∀ {vs ys : List Value}, (∀ u ∈ ts, u.Ok) → DenL h vs (ts.map T.pv) → Paired (fun v y => ∃ (u : T) (tk : Tok), u.Ok ∧ Den h v u.pv ∧ y = .int (cnt c u) tk) vs ys → ∀ h', DenL h' ys (ts.map fun u => PV.int (cnt c u)) := by
  induction ts with
  | nil =>
    intro vs ys _ d p h'
    cases d
    cases p
    exact .nil
  | cons t ts ih =>
    intro vs ys ok d p h'
    cases d with | cons d ds =>
    cases p with | cons x p =>
    obtain ⟨u, tk, oku, du, rfl⟩ := x
    rw [den_det u t oku (ok t (List.mem_cons_self ..)) du d c]
    exact .cons (.int _ _) (ih (fun u hu => ok u (List.mem_cons_of_mem _ hu)) ds p h')
theorem eval_CompCount {A : Around} {env : Env} {base : Addr → Option Obj} {n : Nat} {ρ : Rho} {σ : Sig} {scope : Scope} {pos p1 p2 p3 p4 p5 p6 : Pos} {cadr a : Addr} {tk : Tok} {ts : List T} {Φ : PV → Sig → Prop} (ih : ∀ m, m < n → CountAt prog w P m) (c : Bool) (hts : ∀ t ∈ ts, t.Ok ∧ t.size < n)
    (hclos : closureFor scope env = pure [(Str.ofString "kind", cadr)]) (hcell : ∀ y ∈ scope.names, y.2 ≠ .cell) (hkind : scope.kind = .function)
    (hnames : ∀ y ∈ scope.names, y.2 = .local → scope.names.lookup y.1 = some .local) (hx : scope.names.lookup (Str.ofString "part") = some .local)
    (hkc : ∀ cl C, (compEnvC scope cl C env).kindOf (Str.ofString "kind") = some .cell) (hg : ∀ cl C, (compEnvC scope cl C env).kindOf (Str.ofString "_law_count") = some .globalImplicit)
    (hl : env.kindOf (Str.ofString "within") = some .local) (e : ρ.lookup (Str.ofString "within") = some (.ref a)) (ha : σ a = some (ts.map T.pv)) (hz : ts.length ≤ 1000)
    (hv : ∃ o, base cadr = some o ∧ o.data = .cell (some (.str (ckind c) tk)))
    (h : ∀ b, σ b = none → Φ (.ref b) (upd σ b (ts.map fun u => PV.int (cnt c u)))) :
    EvalP (FF prog w P A env base) n (.ListComp (.Call (.Name (Str.ofString "_law_count") p1) [.Name (Str.ofString "part") p2, .Name (Str.ofString "kind") p3] [] p4) [⟨.Name (Str.ofString "part") p5, .Name (Str.ofString "within") p6, [], 0⟩] scope pos) ρ σ Φ := fun s rm S Q E hQ => by
  obtain ⟨m, hn, hm⟩ := S.loc
  obtain ⟨v, h1, h2⟩ := hm _ _ e
  have := h2.toRef; subst this
  obtain ⟨vs, hls, hden, _, _⟩ := S.lst a _ ha
  have hsz := hden.length
  simp at hsz
  have rm' : (FF prog w P A env base).Room n := rm
  refine wpAny_ListComp_free (cl := [(Str.ofString "kind", cadr)]) (fun _ => true) (fun v y => ∃ (u : T) (tk : Tok), u.Ok ∧ Den s.heap v u.pv ∧ y = .int (cnt c u) tk) hclos hcell hkind hnames hx (wpAny_Name (wpAny_loadName_local rm.ok.kind hl hn h1 (wpAny_pyIter_list hls.isList ?_)) (by decide)) (fun _ => rfl)
  refine ⟨s.heap.objs.size, [s.heap.objs.size, a], [s.heap.objs.size], vs.size, _, _, rfl, Walks.list rm.ok.handled s.heap.objs.size a (Nat.ne_of_lt (LIs.lt hls)) vs, by rw [sizeLine_eq]; omega, ⟨⟨_, Heap.get?_push_size _ rfl, rfl, rfl⟩, hls.isList.push _⟩, ?_, ⟨?_, ?_⟩, ?_⟩
  · intro b hb
    show b < (s.heap.push _).objs.size
    rw [Heap.size_push]
    simp only [List.mem_cons, List.not_mem_nil, or_false] at hb
    rcases hb with hb | hb
    · rw [hb]; exact Nat.lt_succ_self _
    · rw [hb]; exact Nat.lt_succ_of_lt (LIs.lt hls)
  · intro C i v s₂ m₂ E' hC hv hn₂ hm₂ hk₂ _
    exact wpAny_pure ⟨rfl, Keeps.refl _⟩
  · intro C i v s₂ m₂ E' hC hv' _ hn₂ hm₂ hk₂ _
    have kk := old_of hk₂
    have hi : i < ts.length := by
      have := (Array.getElem?_eq_some_iff.mp hv').1; omega
    have hp : (ts.map T.pv)[i]? = some ts[i].pv := by simp [hi]
    have hmem : ts[i] ∈ ts := List.getElem_mem _
    have dv := hden.get i v _ (by simpa using hv') hp
    generalize ts[i] = t at hmem dv hp
    obtain ⟨okt, hlt⟩ := hts t hmem
    have X : ∀ b o, base b = some o → s₂.heap.get? b = some o := fun b o e => kk b o (S.keep b o e)
    obtain ⟨oc, hoc, hod⟩ := hv
    have hkL : (compEnvC scope [(Str.ofString "kind", cadr)] C env).kindOf (Str.ofString "part") = some .local := lookup_relabel_local hx
    refine Call_ (name_low_k (K := hd.heap_39 P) (v := .ref 154) rm'.ok.top X hkind rm'.ok.glob (hg _ _) (by k_is) (callWith_K (K := hd.heap_39 P) (rm'.ok.top.inK X) (by k_is) (wpAny_items_cons (wpAny_Name (wpAny_loadName_local hkind hkL hn₂ hm₂ ?_) (by decide)) rfl) rfl rfl)) rfl
    refine wpAny_items_cons (wpAny_Name (wpAny_loadName_cell hkind (hkc _ _) (List.lookup_cons_self ..) ⟨oc, X _ _ hoc, hod⟩ ?_) (by decide)) rfl
    refine wpAny_items_nil ⟨rm'.ok.top.inK X, ?_⟩
    have hd1 := rm'.depth
    have hd2 := rm'.units
    refine ih t.size hlt c t rfl okt A s₂ v _ _ E' rm'.ok.handled ?_ ?_ (rm'.ok.top.mono X) (dv.mono (.of_all kk)) (.str _ _) fun s' tk' k' => ⟨⟨t, tk', okt, dv, rfl⟩, k'⟩
    · have : A.depth + n < recursionLimit := hd1
      omega
    · have : A.units + 8 * n + 100 < cLine := hd2
      omega
  · intro D h' tk2 ys vs' hD _ hpl hlen hP hF hk'
    have hvs : vs' = vs.toList := by
      refine List.ext_getElem? fun j => ?_
      by_cases hj : j < vs'.length
      · have := hP j _ (List.getElem?_eq_getElem hj)
        rw [List.getElem?_eq_getElem hj, Array.getElem?_toList, this]
      · rw [List.getElem?_eq_none (by omega), List.getElem?_eq_none (by simp; omega)]
    subst hvs
    have kk := old_of hk'
    rw [List.filter_eq_self.mpr (fun _ _ => rfl)] at hF
    have hden' := paired_cnt (fun u hu => (hts u hu).1) hden hF h'
    obtain ⟨S', hn'⟩ := S.newAt kk (none_of hD) hpl hden'
    exact hQ _ _ _ _ (h _ hn') (.ref _) ⟨S', .of_all kk, rfl⟩
theorem kids_len (t : T) : t.kids.length ≤ 2 := by cases t <;> simp [T.kids]
set_option maxHeartbeats 2000000 in
theorem count_step {n : Nat} (ih : ∀ m, m < n → CountAt prog w P m) : CountAt prog w P n := by
  intro c t hn ok A s v u Q E hA hd1 hd2 T0 dv du hQ
  obtain ⟨tk, rfl⟩ : ∃ tk, u = .str (ckind c) tk := by cases du; exact ⟨_, rfl⟩
  refine call_cell2 (K := hd.heap_39 P) (x := Str.ofString "node") (y := Str.ofString "kind") (p := t.pv) (k := n) (Φ := fun q => q = .int (cnt c t)) (by k_is) (by k_is) rfl (by decide) (by decide) (by decide) (fun _ => rfl) rfl rfl rfl hA (by omega) (by omega) T0 dv ?_ ?_
  · intro L' base' A' hA' hd' hu' up hcell
    refine FlowP.gen fun Ψ hΨ => ?_
    have hkids := kids_ok t ok
    have hlen := kids_len t
    obtain ⟨hk, hone⟩ := kids_of t ok
    have hpv : ([Str.ofString "node"].zip [t.pv]).lookup (Str.ofString "node") = some (.tup (.str t.kd :: t.args)) := congrArg some t.pv_eq
    refine seq_assign rfl (ValP.mono (Φ := fun p σ' => Fresh (t.kids.map T.pv) (fun _ => none) p σ') ?_ fun p σ₁ F1 => ?_) rfl
    · refine isF_if (isT_in [Str.ofString "cat", Str.ofString "alt"] (isE_item rfl hpv (by decide) (by decide) rfl) (isE_tup (areE_cons isE_str (areE_cons isE_str areE_nil)) (Nat.le_of_ble_eq_true rfl)) rfl) (fun h1 => ?_) (fun h1 => isF_if (isT_in [Str.ofString "arbno", Str.ofString "later", Str.ofString "now"] (isE_item rfl hpv (by decide) (by decide) rfl) (isE_tup (areE_cons isE_str (areE_cons isE_str (areE_cons isE_str areE_nil))) (Nat.le_of_ble_eq_true rfl)) rfl) (fun h2 => ?_) (fun h2 => ?_))
      · rw [pick_all h1] at hk
        have hal : t.args.length ≤ 2 := by rw [← hk, List.length_map]; exact hlen
        rw [hk]
        exact eval_CallType (nv_list rfl) (args_cons (eval_SubFrom (eval_local rfl hpv ⟨_, _, rfl, Nat.lt_of_le_of_lt hal (by decide), eval_int ⟨rfl, args_nil (list_tup (Nat.le_trans hal (by decide)) fun a ha => .of ha)⟩⟩)))
      · obtain ⟨q, l, hq⟩ := hone h2
        rw [pick_first h1 h2, hq] at hk
        rw [hq] at hpv
        rw [hk]
        exact isF_one (isE_item rfl hpv (by decide) (by decide) rfl)
      · rw [pick_none h1 h2] at hk
        rw [hk]
        exact isF_nil
    · obtain ⟨a, _, rfl, ha, _⟩ := F1
      have hpv2 : ((Str.ofString "within", PV.ref a) :: [Str.ofString "node"].zip [t.pv]).lookup (Str.ofString "node") = some (.tup (.str t.kd :: t.args)) := hpv
      refine seq_ret (eval_BinOp (eval_CallType (nv_int rfl) (args_cons (eval_Compare1 (IsE.use (isE_item rfl hpv2 (by decide) (by decide) rfl) ?_)))))
      refine eval_cell (c := L' + 1) (v := .str (ckind c) tk) (p := .str (ckind c)) rfl rfl hcell (fun _ => .str _ _) (eq_ss (args_nil (int_bool ?_)))
      refine eval_CallBuiltin (nv_sum rfl) (args_cons ?_)
      refine eval_CompCount (cadr := L' + 1) (tk := tk) (ts := t.kids) (fun m hm => ih m hm) c (fun u hu => ⟨(hkids u hu).1, hn ▸ (hkids u hu).2⟩) rfl (by decide) rfl (by decide) (by decide) (fun _ _ => rfl) (fun _ _ => rfl) rfl rfl ha (by omega) hcell fun b hb => ?_
      refine args_nil (sum_l (ns := t.kids.map fun u => (cnt c u : Int)) (by rw [upd_same, List.map_map]; rfl) (add_ii (hΨ _ _ _ ?_)))
      show PV.int _ = _
      rw [cnt_kids c t ok]
  · intro v' s' q hq dq kk
    subst hq
    obtain ⟨tk', rfl⟩ := dq.toInt
    exact hQ s' tk' kk
theorem count_all (n : Nat) : CountAt prog w P n := by
  induction n using Nat.strongRecOn with
  | _ n ih => exact count_step fun m hm => ih m hm
theorem count_spec (c : Bool) (t : T) (ok : t.Ok) {A : Around} {env : Env} {base : Addr → Option Obj} {ρ : Rho} {σ : Sig} {Φ : PV → Sig → Prop} (h : Φ (.int (cnt c t)) σ) :
    CallP (FF prog w P A env base) (t.size + 2) (.ref 154) [t.pv, .str (ckind c)] ρ σ Φ := fun s vs rm S d Q E hQ => by
  obtain ⟨v, u, rfl, dv, du⟩ := d.two
  have rm' : (FF prog w P A env base).Room (t.size + 2) := rm
  have h1 : A.depth + (t.size + 2) < recursionLimit := rm'.depth
  have h2 : A.units + 8 * (t.size + 2) + 100 < cLine := rm'.units
  refine count_all t.size c t rfl ok A s v u Q E rm'.ok.handled (by omega) (by omega) (rm'.ok.top.mono S.keep) dv du fun s' tk kk => ?_
  obtain ⟨h', t', rfl, k⟩ := kk
  exact hQ _ _ _ _ h (.int _ _) ⟨S.all k, .of_all k, rfl⟩
end

/-! ## T8 -/
/-- a small order -/
def Good1 (p : PV) : Prop := ∃ y m, p = .tup (.str y :: m) ∧ m.length ≤ 2 ∧ flat 5 p
theorem good_mk {y : Str} {m : List PV} (h : m.length ≤ 2) (hf : ∀ q ∈ m, flat 4 q) : Good1 (.tup (.str y :: m)) := ⟨y, m, rfl, h, fun q hq => by
  rcases List.mem_cons.mp hq with rfl | hq
  · trivial
  · exact hf q hq⟩
theorem good_flush {tx : Str} : ∀ p ∈ flush tx, Good1 p := by
  intro p hp
  unfold flush at hp
  split at hp
  · rw [List.mem_singleton.mp hp]; exact good_mk (by simp) (by intro q hq; simp at hq; rcases hq with rfl | rfl <;> trivial)
  · cases hp
theorem leaf_flat {kd : Str} {args : List PV} (h : Leaf kd args) : flat 4 (args.head?.getD .none) := by
  cases h <;> first
    | trivial
    | (intro q hq; simp at hq; rcases hq with rfl | rfl <;> trivial)
    | (intro q hq; simp at hq; rcases hq with rfl | rfl
       · trivial
       · intro q hq; simp at hq; rcases hq with rfl | rfl <;> trivial)
theorem good_leaf {kd : Str} {args : List PV} (h : Leaf kd args) : Good1 (leafOrder kd args) := by
  have hf := leaf_flat h
  unfold leafOrder
  split
  · exact good_mk (by simp) (by intro q hq; simp at hq; rcases hq with rfl | rfl; trivial; exact hf)
  split
  · exact good_mk (by simp) (by intro q hq; simp at hq; rw [hq]; trivial)
  split
  · exact good_mk (by simp) (by simp)
  split
  · exact good_mk (by simp) (by intro q hq; simp at hq; rw [hq]; exact hf)
  · exact good_mk (by simp) (by intro q hq; simp at hq; rw [hq]; exact hf)
theorem good_then {o : List PV} {s : Acc} (ho : ∀ p ∈ o, Good1 p) (hs : ∀ p ∈ s.1, Good1 p) : ∀ p ∈ (thenOrds o s).1, Good1 p := by
  intro p hp
  have hp' : p ∈ (s.1 ++ flush s.2) ++ o := hp
  rw [List.mem_append, List.mem_append] at hp'
  rcases hp' with (h | h) | h
  · exact hs p h
  · exact good_flush p h
  · exact ho p h
theorem good_wrap {o : List PV} {q : PV} (ho : ∀ p ∈ o, Good1 p) (hq : Good1 q) : ∀ p ∈ oMark :: o ++ [q], Good1 p := by
  intro p hp
  simp only [List.cons_append, List.mem_cons, List.mem_append, List.not_mem_nil, or_false] at hp
  rcases hp with rfl | h | rfl
  · exact good_mk (by simp) (by simp)
  · exact ho p h
  · exact hq
theorem good_both : ∀ t : T, t.Ok → (∀ p ∈ (both t).1, Good1 p) ∧ ∀ s : Acc, (∀ p ∈ s.1, Good1 p) → ∀ p ∈ ((both t).2 s).1, Good1 p
  | .leaf kd args, ok => by
    have h1 : ∀ p ∈ [leafOrder kd args], Good1 p := fun p hp => by rw [List.mem_singleton.mp hp]; exact good_leaf ok
    refine ⟨h1, fun s hs => ?_⟩
    have e : (both (.leaf kd args)).2 s = match (T.leaf kd args).chars? with | some x => (s.1, s.2 ++ x) | none => thenOrds [leafOrder kd args] s := rfl
    rw [e]
    cases (T.leaf kd args).chars? with
    | some x => exact hs
    | none => exact good_then h1 hs
  | .arbno t, ok => by
    have h1 := good_wrap (good_both t ok).1 (q := oGain) (good_mk (by simp) (by simp))
    exact ⟨h1, fun s hs => good_then h1 hs⟩
  | .later t r, ok => by
    have h1 := good_wrap (good_both t ok).1 (q := oName r) (good_mk (by simp) (by intro q hq; simp at hq; rw [hq]; trivial))
    exact ⟨h1, fun s hs => good_then h1 hs⟩
  | .now t r, ok => by
    have h1 := good_wrap (good_both t ok).1 (q := oSet r) (good_mk (by simp) (by intro q hq; simp at hq; rw [hq]; trivial))
    exact ⟨h1, fun s hs => good_then h1 hs⟩
  | .alt a b, ok => by
    have h1 : ∀ p ∈ (both a).1 ++ (both b).1, Good1 p := fun p hp => by
      rcases List.mem_append.mp hp with h | h
      · exact (good_both a ok.1).1 p h
      · exact (good_both b ok.2).1 p h
    exact ⟨h1, fun s hs => good_then h1 hs⟩
  | .cat a b, ok => by
    have ha := good_both a ok.1
    have hb := good_both b ok.2
    refine ⟨fun p hp => ?_, fun s hs => hb.2 _ (ha.2 s hs)⟩
    have hp' : p ∈ ((both b).2 ((both a).2 ([], Str.ofString ""))).1 ++ flush ((both b).2 ((both a).2 ([], Str.ofString ""))).2 := hp
    rcases List.mem_append.mp hp' with h | h
    · exact hb.2 _ (ha.2 _ (by intro p hp; cases hp)) p h
    · exact good_flush p h
theorem good_ords (t : T) (ok : t.Ok) : ∀ p ∈ ords t, Good1 p := (good_both t ok).1

theorem headK_ord {gs : Str → Bool} {y : Str} {l : List PV} : headK gs (.tup (.str y :: l)) = gs y := rfl
theorem SP.kind {X : List PV} {p r : PV} (hp : isOrd p) (h : SP X p r) (z : Str) : isK z r = isK z p := by
  rcases h with ⟨_, rfl⟩ | ⟨g, ⟨h1, rfl⟩ | ⟨h1, rfl⟩, _⟩
  · rfl
  · obtain ⟨y, l, rfl⟩ := hp
    have h1' : (y == Str.ofString "split") = true := h1
    rw [beq_iff_eq] at h1'; rw [h1']; rfl
  · obtain ⟨y, l, rfl⟩ := hp
    have h1' : (y == Str.ofString "jump") = true := h1
    rw [beq_iff_eq] at h1'; rw [h1']; rfl
theorem all2_count {X : List PV} (z : Str) {l m : List PV} (ho : ∀ p ∈ l, isOrd p) (h : All2 (SP X) l m) : m.countP (isK z) = l.countP (isK z) := by
  induction h with
  | nil => rfl
  | cons h _ ih => rw [List.countP_cons, List.countP_cons, h.kind (ho _ (List.mem_cons_self ..)), ih fun q hq => ho q (List.mem_cons_of_mem _ hq)]
theorem sp_plain {X : List PV} {p r : PV} (h : SP X p r) (hp : plain p = true) : r = p := by
  rcases h with ⟨_, rfl⟩ | ⟨g, ⟨h1, rfl⟩ | ⟨h1, rfl⟩, _⟩
  · rfl
  · unfold plain at hp; rw [h1] at hp; cases hp
  · unfold plain at hp; rw [h1, Bool.or_true] at hp; cases hp
theorem all2_plain {X : List PV} {l m : List PV} (ho : ∀ p ∈ l, isOrd p) (h : All2 (SP X) l m) : m.filter plain = l.filter plain := by
  induction h with
  | nil => rfl
  | cons h _ ih =>
    have k := h.kind (ho _ (List.mem_cons_self ..))
    rw [List.filter_cons, List.filter_cons, ih fun q hq => ho q (List.mem_cons_of_mem _ hq)]
    rename_i p r _ _ _
    have e : plain r = plain p := by unfold plain; rw [show isSplit r = isSplit p from k _, show isJump r = isJump p from k _]
    rw [e]
    cases hp : plain p with
    | false => rfl
    | true => rw [sp_plain h hp]
theorem filter_headK {gs : Str → Bool} {f : PV → Bool} (h : ∀ y l, f (.tup (.str y :: l)) = gs y) : ∀ {l : List PV}, (∀ p ∈ l, isOrd p) → l.filter (headK gs) = l.filter f
  | [], _ => rfl
  | p :: l, ho => by
    obtain ⟨y, m, rfl⟩ := ho p (by simp)
    rw [List.filter_cons, List.filter_cons, headK_ord, h, filter_headK h fun q hq => ho q (by simp [hq])]
structure LawFacts (t : T) (R : List PV) : Prop where
  plain : R.filter plain = ords t ++ [oDone]
  splits : (R.filter isSplit).length = calt t + carb t
  jumps : (R.filter isJump).length = calt t + 2 * carb t
  last : ∃ R', R = R' ++ [oDone]
  good : ∀ r ∈ R, Good1 r
  goal : ∀ r ∈ R, (isSplit r = true ∨ isJump r = true) → ∃ (y : Str) (g : Nat) (z : Str) (m : List PV), r = .tup [.str y, .int g] ∧ g < R.length ∧ R[g]? = some (.tup (.str z :: m)) ∧ (z == Str.ofString "jump") = false
theorem law_facts {t : T} (ok : t.Ok) {c R : List PV} (hc : Chunk t 0 c) (hR : All2 (SP (c ++ [oDone])) (c ++ [oDone]) R) : LawFacts t R := by
  have hc' : Piece (ords t) (calt t + carb t) (calt t + 2 * carb t) 0 c := hc
  have hord : ∀ p ∈ c ++ [oDone], isOrd p := fun p hp => by
    rcases List.mem_append.mp hp with h | h
    · exact hc'.ord p h
    · rw [List.mem_singleton.mp h]; exact ⟨_, _, rfl⟩
  have hX := hc'.good
  have hgoodX : ∀ p ∈ c ++ [oDone], Mine.plain p = true → Good1 p := fun p hp hpl => by
    rcases List.mem_append.mp hp with h | h
    · exact good_ords t ok p (hc'.plain ▸ List.mem_filter.mpr ⟨h, hpl⟩)
    · rw [List.mem_singleton.mp h]; exact good_mk (by simp) (by simp)
  have hlen := hR.length
  have hmem : ∀ r ∈ R, ∃ p ∈ c ++ [oDone], SP (c ++ [oDone]) p r := fun r hr => by
    obtain ⟨i, hi, rfl⟩ := List.mem_iff_getElem.mp hr
    obtain ⟨p, h1, h2⟩ := hR.get (List.getElem?_eq_getElem hi)
    exact ⟨p, List.mem_of_getElem? h1, h2⟩
  have cnt1 : ∀ z, R.countP (isK z) = (c ++ [oDone]).countP (isK z) := fun z => all2_count z hord hR
  refine ⟨?_, ?_, ?_, ?_, fun r hr => ?_, fun r hr hk => ?_⟩
  · rw [all2_plain hord hR, List.filter_append, hc'.plain]; rfl
  · rw [← List.countP_eq_length_filter, cnt1, List.countP_append, hc'.splits]; rfl
  · rw [← List.countP_eq_length_filter, cnt1, List.countP_append, hc'.jumps]; rfl
  · obtain ⟨r, h1, h2⟩ := hR.get' (i := c.length) (a := oDone) (by simp)
    have hr : r = oDone := by
      rcases h2 with ⟨_, h⟩ | ⟨g, ⟨h, _⟩ | ⟨h, _⟩, _⟩
      · exact h
      · rw [done_split] at h; cases h
      · rw [done_jump] at h; cases h
    subst hr
    have hl : R.length = c.length + 1 := by rw [← hlen]; simp
    refine ⟨R.take c.length, ?_⟩
    have : R = R.take (c.length + 1) := by rw [← hl, List.take_length]
    rw [List.take_add_one, h1] at this
    exact this
  · obtain ⟨p, hp, h⟩ := hmem r hr
    rcases h with ⟨h1, rfl⟩ | ⟨g, ⟨h1, rfl⟩ | ⟨h1, rfl⟩, _⟩
    · exact hgoodX _ hp h1
    · exact good_mk (by simp) (by intro q hq; simp at hq; rw [hq]; trivial)
    · exact good_mk (by simp) (by intro q hq; simp at hq; rw [hq]; trivial)
  · obtain ⟨p, hp, h⟩ := hmem r hr
    have fin : ∀ g : Nat, (∃ q, (c ++ [oDone])[g]? = some q ∧ isJump q = false) → g < R.length ∧ ∃ (z : Str) (m : List PV), R[g]? = some (.tup (.str z :: m)) ∧ (z == Str.ofString "jump") = false := by
      rintro g ⟨q, h1, h2⟩
      obtain ⟨b, h3, h4⟩ := hR.get' h1
      have hk := h4.kind (hord q (List.mem_of_getElem? h1)) (Str.ofString "jump")
      have hb : ∃ z m, b = .tup (.str z :: m) := by
        rcases h4 with ⟨_, rfl⟩ | ⟨g, ⟨_, rfl⟩ | ⟨_, rfl⟩, _⟩
        · exact hord _ (List.mem_of_getElem? h1)
        · exact ⟨_, _, rfl⟩
        · exact ⟨_, _, rfl⟩
      obtain ⟨z, m, rfl⟩ := hb
      exact ⟨(List.getElem?_eq_some_iff.mp h3).1, z, m, h3, hk.trans h2⟩
    rcases h with ⟨h1, rfl⟩ | ⟨g, ⟨h1, rfl⟩ | ⟨h1, rfl⟩, h3⟩
    · exfalso; unfold Mine.plain at h1; rcases hk with hk | hk <;> (rw [hk] at h1; simp at h1)
    · obtain ⟨h4, z, m, h5, h6⟩ := fin g h3
      exact ⟨_, g, z, m, rfl, h4, h5, h6⟩
    · obtain ⟨h4, z, m, h5, h6⟩ := fin g h3
      exact ⟨_, g, z, m, rfl, h4, h5, h6⟩

/-! ## F14a -/
section
variable {prog : Program} {w : World} {P : Params} {A : Around} {env : Env} {base : Addr → Option Obj} {k : Nat} {ρ : Rho} {σ : Sig}
theorem eval_newNR {px pos : Pos} {e : Expr} {es : List Expr} {p q r : PV} {Φ : PV → Sig → Prop} (hx : env.kindOf (Str.ofString "NameRef") = some .globalImplicit)
    (h : ArgsP (FF prog w P A env base) (k + 2) pos (e :: es) ρ σ fun ps σ₁ => ps = [p, q, r] ∧ ∀ x, Φ (.ref x) σ₁)
    (hc : ∀ env, eval (.Call (.Name (Str.ofString "NameRef") px) (e :: es) [] pos) env = (do callWith pos (← eval (.Name (Str.ofString "NameRef") px) env) [] (backTo pos (starEach (e :: es) env)) (backToKw pos (keywordEach [] env))) := by intro _; rfl)
    (he : ∀ env, starEach (e :: es) env = (false, eval e env) :: starEach es env := by intro _; rfl) (hp : ∀ env, (backTo pos (starEach es env)).any (·.1) = false := by intro _; rfl) :
    EvalP (FF prog w P A env base) (k + 2) (.Call (.Name (Str.ofString "NameRef") px) (e :: es) [] pos) ρ σ Φ := fun s rm S Q E hQ => by
  have hv : NameV (FF prog w P A env base) (Str.ofString "NameRef") (.ref 117) := nv_NameRef hx
  refine Call_ (hv px ρ σ s rm.ok S _ _ (callWith_K (rm.ok.top.inK S.keep) (by show keepIn (hd.heap_39 P) _ = true; k_is) (h s rm S _ _ fun vs s₁ ps σ₁ h₁ ds N₁ => ⟨rm.ok.top.inK N₁.st.keep, ?_⟩) (he _) (hp _))) (hc _)
  obtain ⟨rfl, hΦ⟩ := h₁
  refine new_low (f := FF prog w P A env base) (k := k) (ps := [p, q, r]) (vs := vs) [Str.ofString "self", Str.ofString "kind", Str.ofString "owner", Str.ofString "key"] rm N₁.st ds (by show makesIn (hd.heap_39 P) _ = true; k_is) (by show findIn (hd.heap_39 P) _ _ = _; k_is) (by show typeIn (hd.heap_39 P) _ = _; k_is) (by show List.lookup _ (hd.heap_39 P) = _; k_is) (by show codeIn (hd.heap_39 P) _ _ = true; k_is) (fnBinds4 (fun _ _ _ _ => rfl) rfl) (by decide) (by decide) rfl rfl rfl
    (Φ := fun x σ' es n => σ' = σ₁) ?_ ?_
  · intro A' L' base' x dx up
    refine init_attr (fun base2 up2 => eval_local rfl rfl (eval_local rfl rfl ⟨rfl, fun v hs tk h hv => ?_⟩)) (by show findIn (hd.heap_39 P) _ _ = _; k_is) (by show plainOver (hd.heap_39 P) _ = true; k_is) (by show takerIn (hd.heap_39 P) _ _ = _; k_is) (by show hasDictIn (hd.heap_39 P) _ = true; k_is) rfl (by decide) rfl
    refine init_attr (fun base2 up2 => eval_local rfl rfl (eval_local rfl rfl ⟨rfl, fun v hs tk h hv => ?_⟩)) (by show findIn (hd.heap_39 P) _ _ = _; k_is) (by show plainOver (hd.heap_39 P) _ = true; k_is) (by show takerIn (hd.heap_39 P) _ _ = _; k_is) (by show hasDictIn (hd.heap_39 P) _ = true; k_is) (by rfl) (Nat.le_of_ble_eq_true rfl) rfl
    refine init_attr (fun base2 up2 => eval_local rfl rfl (eval_local rfl rfl ⟨rfl, fun v hs tk h hv => ?_⟩)) (by show findIn (hd.heap_39 P) _ _ = _; k_is) (by show plainOver (hd.heap_39 P) _ = true; k_is) (by show takerIn (hd.heap_39 P) _ _ = _; k_is) (by show hasDictIn (hd.heap_39 P) _ = true; k_is) (by rfl) (Nat.le_of_ble_eq_true rfl) rfl
    exact init_nil rfl
  · rintro s' σ' x dx es' n rfl N hx' hd' hbx hbd hxL hdL
    exact hQ _ _ _ _ (hΦ x) (.ref x) (N₁.trans N)
end

/-! ## F14 -/
theorem plain_gs (y : Str) (l : List PV) : plain (.tup (.str y :: l)) = !([Str.ofString "split", Str.ofString "jump"].any fun x => x == y) := by
  unfold plain
  show (!((y == Str.ofString "split") || (y == Str.ofString "jump"))) = _
  simp only [List.any_cons, List.any_nil, Bool.or_false]
  congr 2 <;> exact BEq.comm
theorem isK_eq (z : Str) (y : Str) (l : List PV) : isK z (.tup (.str y :: l)) = (y == z) := rfl
theorem bf_ff {b : Bool} {X Y : Prop} (h : b = false) (hX : X) : ∃ t, PV.bool b = .bool t ∧ ((t = false → X) ∧ (t = true → Y)) := ⟨_, rfl, ⟨fun _ => hX, fun e => (by rw [h] at e; cases e)⟩⟩
section
variable {prog : Program} {w : World} {P : Params} {A : Around} {env : Env} {base : Addr → Option Obj} {ρ : Rho} {σ : Sig}
/-- law's body, found where its def lies, ends and gives True -/
def LawExec (prog : Program) (w : World) (P : Params) : Prop := ∃ (oc : Value) (od : Option Addr) (osl : Array (Option Value)) (name qual : Str) (params : Arguments) (body : List Stmt) (scope : Scope) (dV kV doc pm : Value) (an : Option Addr) (cdv ct : Value),
  (hd.heap_39 P).lookup 159 = some ⟨oc, od, .func (fnOf name qual params body scope dV kV doc pm an cdv ct), osl⟩ ∧
  ∀ (A' : Around) (nm : Str) (L' fa : Addr) (cd : Value) (base' : Addr → Option Obj) (sc : Addr) (ns : List Int), BaseInts base' sc ns → ns.length ≤ 63 →
    ExecsP ⟨prog, w, hd.heap_39 P, A', envOf nm scope L' fa cd, base'⟩ 120 body [(Str.ofString "script", .ref sc)] (fun _ => none) fun q _ _ => q.val = .bool true
theorem law_exec_mk {oc : Value} {od : Option Addr} {osl : Array (Option Value)} {name qual : Str} {params : Arguments} {body : List Stmt} {scope : Scope} {dV kV doc pm : Value} {an : Option Addr} {cdv ct : Value}
    (h1 : (hd.heap_39 P).lookup 159 = some ⟨oc, od, .func (fnOf name qual params body scope dV kV doc pm an cdv ct), osl⟩)
    (h2 : ∀ (A' : Around) (nm : Str) (L' fa : Addr) (cd : Value) (base' : Addr → Option Obj) (sc : Addr) (ns : List Int), BaseInts base' sc ns → ns.length ≤ 63 →
      ExecsP ⟨prog, w, hd.heap_39 P, A', envOf nm scope L' fa cd, base'⟩ 120 body [(Str.ofString "script", .ref sc)] (fun _ => none) fun q _ _ => q.val = .bool true) : LawExec prog w P :=
  ⟨oc, od, osl, name, qual, params, body, scope, dV, kV, doc, pm, an, cdv, ct, h1, h2⟩
/-- the loops of law -/
def BoxJ (bx it c1 : Addr) (ns : List Int) (_ : Nat) (ρ' : Rho) (σ' : Sig) : Prop := ρ'.lookup (Str.ofString "box") = some (.ref bx) ∧ BoxIn bx it σ' ∧ σ' c1 = some ((List.take 40 ns).map PV.int)
def OrdersJ (b l1 : Addr) (R : List PV) (_ : Nat) (ρ' : Rho) (σ' : Sig) : Prop := ρ'.lookup (Str.ofString "orders") = some (.ref b) ∧ σ' b = some R ∧ σ' l1 = some (R.filter isSplit ++ R.filter isJump)
set_option maxHeartbeats 4000000 in
theorem law_exec : LawExec prog w P := by
  refine law_exec_mk (by show List.lookup _ (hd.heap_39 P) = _; k_is) ?_
  intro A' nm L' fa cd base' sc ns hsc hns
  have hnil : (List.take 40 ns).length ≤ 40 := List.length_take_le 40 ns
  refine seq_assign rfl (eval_List ?_) rfl
  refine args_cons (eval_CompInt (by decide) (by decide) rfl (by decide) (by decide) (by decide) (by show nsIn (hd.heap_39 P) _ _ = _; k_is) ?_)
  refine eval_SubUptoB hsc (Nat.le_trans hns (by decide)) (eval_local rfl rfl ⟨rfl, eval_int ⟨40, rfl, fun c0 hc0 => ⟨c0, _, rfl, upd_same, Nat.le_trans hnil (by decide), fun it hit => ?_⟩⟩⟩)
  refine args_cons (eval_int (args_cons (eval_int (args_nil ⟨Nat.le_of_ble_eq_true rfl, fun bx hbx => ?_⟩))))
  have hne : it ≠ bx := fun q => by rw [q] at hbx; exact absurd upd_same (by rw [hbx]; exact fun h => by cases h)
  have B1 : BoxIn bx it (upd (upd (upd (fun _ => none) c0 ((List.take 40 ns).map PV.int)) it ((List.take 40 ns).map PV.int)) bx [.ref it, .int 7, .int 9]) :=
    ⟨List.take 40 ns, 7, 9, upd_same, by rw [upd_ne hne]; exact upd_same, by decide, by decide, Nat.le_trans hnil (by decide)⟩
  generalize upd (upd (upd (fun _ => none) c0 ((List.take 40 ns).map PV.int)) it ((List.take 40 ns).map PV.int)) bx [.ref it, .int 7, .int 9] = σ₁ at B1
  clear hc0 hit hbx
  refine seq_For rfl ?_ (fun _ _ => rfl)
  refine eval_SubUptoB hsc (Nat.le_trans hns (by decide)) (eval_local rfl rfl ⟨rfl, eval_int ⟨40, rfl, fun c1 hc1 => ?_⟩⟩)
  have hc1b : c1 ≠ bx := fun q => by obtain ⟨_, _, _, e, _⟩ := B1; rw [← q, hc1] at e; cases e
  have hc1i : c1 ≠ it := fun q => by obtain ⟨_, _, _, _, e, _⟩ := B1; rw [← q, hc1] at e; cases e
  refine ⟨c1, _, rfl, upd_same, BoxJ bx it c1 ns, ⟨rfl, (B1.fresh hc1).1, upd_same⟩, fun i ρ' σ' h => h.2.2, ?_, ?_⟩
  · rintro base2 up2 i p ρ' σ' hp ⟨l1, ⟨ms, b, c, e1, e2, hb0, hb1, hms⟩, e3⟩
    obtain ⟨j, rfl⟩ : ∃ j, p = .int j := by
      rw [List.getElem?_map] at hp
      obtain ⟨j, _, rfl⟩ := Option.map_eq_some_iff.mp hp
      exact ⟨j, rfl⟩
    have m0 := Int.fmod_nonneg_of_pos (b * 31 + j) (b := 1000003) (by decide)
    have m1 := Int.fmod_lt_of_pos (b * 31 + j) (b := 1000003) (by decide)
    refine seq_setsub ?_ rfl
    refine eval_BinOp (eval_BinOp (eval_BinOp (eval_Subscript' (eval_local rfl l1 (eval_int (sub_list e1 (by decide) (by decide) rfl (eval_int (mul_ii ?_ (eval_local rfl rfl (add_ii (eval_int (mod_ii (by decide) ?_))))))))))))
    · intro h
      rw [Bool.and_eq_true, Bool.and_eq_true] at h
      exact absurd h.1.2 (by decide)
    refine eval_local rfl l1 (eval_int ⟨bx, _, _, rfl, rfl, e1, by decide, by simp, by simp, ?_⟩)
    refine execs_nil' ⟨.inl rfl, l1, ⟨ms, _, c, upd_same, by rw [upd_ne hne]; exact e2, m0, m1, hms⟩, by rw [upd_ne hc1b]; exact e3⟩
  rintro ρ₂ σ₂ ⟨l1, B2, _⟩
  clear B1 hc1 hc1b hc1i
  refine seq_assign rfl ?_ rfl
  refine eval_CallName (nv_law_node rfl) (by show keepIn (hd.heap_39 P) _ = true; k_is) ?_
  refine args_cons (eval_local rfl l1 (args_cons (eval_int (args_cons ?_))))
  refine eval_newNR rfl (args_cons (eval_str (args_cons (eval_none (args_cons (eval_str (args_nil ⟨rfl, fun x => ?_⟩)))))))
  refine args_nil (OpL.fuel ((node_all (prog := prog) (w := w) (P := P) 4 _ _ _ _ _ bx it x B2 hne).mono ?_) (by decide))
  rintro _ σ₃ ⟨t, rfl, okt, hsz, htx, B3⟩
  have hsz' : t.size ≤ 31 := hsz
  clear B2 B3
  refine seq_assign rfl ?_ rfl
  refine eval_CallName (nv_compile_pattern rfl) (by show keepIn (hd.heap_39 P) _ = true; k_is) (args_cons (eval_local rfl rfl (args_nil ?_)))
  refine OpL.fuel ((compile_pattern_spec t okt (Nat.le_trans hsz' (by decide)) (Nat.le_trans htx (Nat.le_trans (Nat.mul_le_mul_left 2 hsz') (by decide)))).mono ?_) (Nat.le_trans (Nat.add_le_add_right (Nat.mul_le_mul_left 3 hsz') 6) (by decide))
  rintro _ _ ⟨b, c, R, hb, rfl, hc, hcl, hR, rfl⟩
  have LF := law_facts okt hc hR
  have hRl : R.length ≤ 156 := by rw [← hR.length, List.length_append]; exact Nat.succ_le_succ (Nat.le_trans hcl (Nat.mul_le_mul_left 5 hsz'))
  have hRz : R.length ≤ 16777216 := Nat.le_trans hRl (by decide)
  have e5 : upd σ₃ b R b = some R := upd_same
  generalize upd σ₃ b R = σ₅ at e5
  clear hb hR hc hcl
  have hgood : ∀ p ∈ R, ∃ y m, p = PV.tup (.str y :: m) ∧ m.length < 16777215 := fun p hp => let ⟨y, m, h1, h2, _⟩ := LF.good p hp; ⟨y, m, h1, Nat.lt_of_le_of_lt h2 (by decide)⟩
  have hord : ∀ p ∈ R, isOrd p := fun p hp => let ⟨y, m, h1, _⟩ := LF.good p hp; ⟨y, m, h1⟩
  have hol := ords_len t
  have hflat : ∀ p ∈ ords t ++ [oDone], flat 5 p := fun p hp => by
    rcases List.mem_append.mp hp with h | h
    · obtain ⟨_, _, _, _, h⟩ := good_ords t okt p h; exact h
    · rw [List.mem_singleton.mp h]; intro q hq; rw [List.mem_singleton.mp hq]; trivial
  refine seq_If (test_Compare1 ?_)
  refine eval_CompFilter (fun y => !([Str.ofString "split", Str.ofString "jump"].any fun x => x == y)) (by decide) (by decide) rfl (by decide) (by decide) (fun C s m v y l E' Q hn hm d hz hQ => head_test (fun y => !([Str.ofString "split", Str.ofString "jump"].any fun x => x == y)) rfl (by rfl) hn hm d hz head_notin hQ) rfl rfl e5 hRz hgood fun f1 hf1 => ?_
  rw [filter_headK plain_gs hord, LF.plain]
  refine eval_BinOp (eval_CallName (nv_law_orders rfl) (by show keepIn (hd.heap_39 P) _ = true; k_is) (args_cons (eval_local rfl rfl (args_nil ?_))))
  refine OpL.fuel ((ords_all t.size t rfl okt (Nat.le_trans hsz' (by decide)) (Nat.le_trans htx (Nat.le_trans (Nat.mul_le_mul_left 2 hsz') (by decide))) _ _ _ _ _).mono ?_) (Nat.le_trans (Nat.add_le_add_right hsz' 2) (by decide))
  rintro _ _ ⟨o1, ho1, rfl, rfl⟩
  refine eval_List (args_cons (eval_Tuple (args_cons (eval_str (args_nil ⟨Nat.le_of_ble_eq_true rfl, args_nil ⟨Nat.le_of_ble_eq_true rfl, fun o2 ho2 => ?_⟩⟩)))))
  refine add_ll (l := ords t) (l' := [oDone]) (upd_sub ho2 _ _ upd_same) upd_same (Nat.le_trans (Nat.succ_le_succ (Nat.le_trans hol (Nat.mul_le_mul_left 2 hsz'))) (by decide)) fun o3 ho3 => ?_
  have K1 : Keep (upd σ₅ f1 (ords t ++ [oDone])) (upd (upd (upd (upd σ₅ f1 (ords t ++ [oDone])) o1 (ords t)) o2 [oDone]) o3 (ords t ++ [oDone])) := (Keep.upd ho1).trans ((Keep.upd ho2).trans (Keep.upd ho3))
  have e6 := K1 _ _ (Keep.upd hf1 _ _ e5)
  refine ne_ll_same (l := ords t ++ [oDone]) (K1 _ _ upd_same) upd_same hflat (bb_ff rfl ?_)
  generalize (upd (upd (upd (upd σ₅ f1 (ords t ++ [oDone])) o1 (ords t)) o2 [oDone]) o3 (ords t ++ [oDone])) = σ₆ at e6
  clear K1 ho1 ho2 ho3 hf1 e5
  refine seq_swap2 rfl rfl ?_ rfl rfl
  refine eval_Tuple (args_cons (eval_CallName (nv_law_count rfl) (by show keepIn (hd.heap_39 P) _ = true; k_is) (args_cons (eval_local rfl rfl (args_cons (eval_str (args_nil ?_)))))))
  refine OpL.fuel (count_spec true t okt ?_) (Nat.le_trans (Nat.add_le_add_right hsz' 2) (by decide))
  refine args_cons (eval_CallName (nv_law_count rfl) (by show keepIn (hd.heap_39 P) _ = true; k_is) (args_cons (eval_local rfl rfl (args_cons (eval_str (args_nil ?_))))))
  refine OpL.fuel (count_spec false t okt ?_) (Nat.le_trans (Nat.add_le_add_right hsz' 2) (by decide))
  refine args_nil ⟨Nat.le_of_ble_eq_true rfl, _, _, rfl, ?_⟩
  refine seq_CompFilter (fun y => y == Str.ofString "split") rfl (by decide) (by decide) rfl (by decide) (by decide) (fun C s m v y l E' Q hn hm d hz hQ => head_test (fun y => y == Str.ofString "split") rfl (by rfl) hn hm d hz head_eq hQ) rfl rfl rfl e6 hRz hgood fun f1 hf1 => ?_
  rw [filter_headK (isK_eq (Str.ofString "split")) hord]
  have e7 := Keep.upd (l := R.filter isSplit) hf1 _ _ e6
  have s7 : upd σ₆ f1 (R.filter isSplit) f1 = some (R.filter isSplit) := upd_same
  show ExecsP _ _ _ _ (upd σ₆ f1 (R.filter isSplit)) _
  generalize upd σ₆ f1 (R.filter isSplit) = σ₇ at e7 s7
  clear hf1 e6
  refine seq_CompFilter (fun y => y == Str.ofString "jump") rfl (by decide) (by decide) rfl (by decide) (by decide) (fun C s m v y l E' Q hn hm d hz hQ => head_test (fun y => y == Str.ofString "jump") rfl (by rfl) hn hm d hz head_eq hQ) rfl rfl rfl e7 hRz hgood fun f2 hf2 => ?_
  rw [filter_headK (isK_eq (Str.ofString "jump")) hord]
  have e8 := Keep.upd (l := R.filter isJump) hf2 _ _ e7
  have s8 := Keep.upd (l := R.filter isJump) hf2 _ _ s7
  have j8 : upd σ₇ f2 (R.filter isJump) f2 = some (R.filter isJump) := upd_same
  show ExecsP _ _ _ _ (upd σ₇ f2 (R.filter isJump)) _
  generalize upd σ₇ f2 (R.filter isJump) = σ₈ at e8 s8 j8
  clear hf2 e7 s7
  have hsl := LF.splits
  have hjl := LF.jumps
  have h1 := List.length_filter_le isSplit R
  have h2 := List.length_filter_le isJump R
  refine seq_If (test_or (all_or_cons (test_Compare1 ?_)))
  refine eval_CallBuiltin (nv_len rfl) (args_cons (eval_local rfl rfl (args_nil (len_l s8 (eval_BinOp (eval_local rfl rfl (eval_local rfl rfl (add_ii (ne_ii (bf_ff ?_ ?_)))))) (Nat.le_trans h1 hRz)))))
  · rw [hsl, bne_eq_false_iff_eq]; exact Int.natCast_add _ _
  refine all_or_cons (test_Compare1 ?_)
  refine eval_CallBuiltin (nv_len rfl) (args_cons (eval_local rfl rfl (args_nil (len_l j8 (eval_BinOp (eval_local rfl rfl (eval_BinOp (eval_int (eval_local rfl rfl (mul_ii ?_ (add_ii (ne_ii (bf_ff ?_ ?_))))))))) (Nat.le_trans h2 hRz)))))
  · intro h
    rw [Bool.and_eq_true, Bool.and_eq_true] at h
    exact absurd h.1.1 (by decide)
  · rw [hjl, bne_eq_false_iff_eq, Int.natCast_add, Int.natCast_mul]; rfl
  refine all_or_cons (test_Compare1 ?_)
  obtain ⟨R', hR'⟩ := LF.last
  refine eval_Subscript' (eval_local rfl rfl (eval_neg (eval_int ⟨rfl, sub_last (l := R') (p := oDone) (by rw [e8, hR']) (Nat.lt_of_lt_of_le (by rw [hR', List.length_append]; exact Nat.lt_succ_self _) hRz) ?_⟩)))
  refine eval_Tuple (args_cons (eval_str (args_nil ⟨Nat.le_of_ble_eq_true rfl, ne_tup_same (fun q hq => ?_) (bf_ff rfl (all_or_nil ⟨fun h => (by cases h), fun _ => ?_⟩))⟩)))
  · rw [List.mem_singleton.mp hq]; trivial
  refine seq_For rfl ?_ (fun _ _ => rfl)
  refine eval_BinOp (eval_local rfl rfl (eval_local rfl rfl (add_ll s8 j8 (Nat.le_trans (Nat.add_le_add (Nat.le_trans h1 hRl) (Nat.le_trans h2 hRl)) (by decide)) fun l1 hl1 => ?_)))
  refine ⟨l1, _, rfl, upd_same, OrdersJ b l1 R, ⟨rfl, upd_sub hl1 _ _ e8, upd_same⟩, fun i ρ' σ' h => h.2.2, ?_, ?_⟩
  · rintro base2 up2 i p ρ' σ' hp ⟨k1, k2, k3⟩
    have hmem : p ∈ R ∧ (isSplit p = true ∨ isJump p = true) := by
      rcases List.mem_append.mp (List.mem_of_getElem? hp) with h | h
      · exact ⟨(List.mem_filter.mp h).1, .inl (List.mem_filter.mp h).2⟩
      · exact ⟨(List.mem_filter.mp h).1, .inr (List.mem_filter.mp h).2⟩
    obtain ⟨y, g, z, m, rfl, hg, hq, hzj⟩ := LF.goal p hmem.1 hmem.2
    refine seq_If (test_or (all_or_cons (test_not (test_chain2 (eval_int (eval_Subscript' (eval_local rfl rfl (eval_int (sub_tup (by decide) (by decide) rfl (le_ii ⟨_, rfl, fun _ => ?_, fun h => ?_⟩))))))))))
    · refine eval_CallBuiltin (nv_len rfl) (args_cons (eval_local rfl k1 (args_nil (len_l k2 (lt_ii ⟨_, rfl, fun h => ?_, fun h => ?_⟩) hRz))))
      · refine all_or_cons (test_Compare1 ?_)
        refine eval_Subscript' (eval_Subscript' (eval_local rfl k1 (eval_Subscript' (eval_local rfl rfl (eval_int (sub_tup (by decide) (by decide) rfl (sub_list k2 (Int.natCast_nonneg _) (Int.ofNat_lt.mpr (Nat.lt_of_lt_of_le hg hRz)) (by rw [Int.toNat_natCast]; exact hq) ?_)))))))
        refine eval_int (sub_tup (by decide) (by decide) rfl (eval_str (eq_ss (bf_ff hzj (all_or_nil ⟨fun h => (by cases h), fun _ => ?_⟩)))))
        exact execs_nil' ⟨.inl rfl, k1, k2, k3⟩
      · rw [Bool.not_eq_true'] at h
        exact absurd (Int.ofNat_lt.mpr hg) (of_decide_eq_false h)
    · exact absurd (Int.natCast_nonneg g) (of_decide_eq_false h)
  · rintro ρ' σ' _
    exact seq_ret (eval_bool rfl)
theorem ints_den : ∀ {vs : List Value} {ns : List Int}, IntsAre vs ns → ∀ h, DenL h vs (ns.map PV.int)
  | _, _, .nil, _ => .nil
  | _, _, .cons n t r, h => .cons (.int n t) (ints_den r h)
/-- the body and the scope of a def -/
def bodyOf (o : Obj) : Option (FuncBody × Scope) := match o.data with | .func fd => some (fd.body, fd.scope) | _ => none
theorem law_fin {L : LawExec prog w P} {oc : Value} {od : Option Addr} {osl : Array (Option Value)} {name qual nm : Str} {params : Arguments} {body : List Stmt} {scope : Scope} {dV kV doc pm : Value} {an : Option Addr} {cdv ct cd : Value}
    {fa sc : Addr} {vs : List Value} {ns : List Int} {h₀ : Heap} {s : Shared} {Q : Flow → Shared → Prop} {E : Value → Shared → Prop}
    {p : Program} {loose : List Str} {mean : ExcName → Option Value} {mg mb : Str → Option Value}
    (T : Top p loose mean mg mb h₀) (KX : (hd.heap_39 P).In h₀) (F : Fr h₀ h₀.objs.size s.heap fun x => List.lookup x [(Str.ofString "script", Value.ref sc)].reverse)
    (hL : h₀.IsList sc vs.toArray) (hI : IntsAre vs ns) (hns : ns.length ≤ 63) (hA : A.handled = none) (hd1 : A.depth + 120 < recursionLimit) (hd2 : A.units + 8 * 120 + 100 < cLine)
    (h2 : (hd.heap_39 P).lookup 159 = some ⟨oc, od, .func (fnOf name qual params body scope dV kV doc pm an cdv ct), osl⟩) (hk : scope.kind = .function)
    (hQ : ∀ s' m', Fr h₀ h₀.objs.size s'.heap m' → Same s s' → Q (.ret (.bool true)) s') :
    wpAny (model prog w) A (execs body (envOf nm scope h₀.objs.size fa cd)) Q E s := by
  obtain ⟨oc', od', osl', name', qual', params', body', scope', dV', kV', doc', pm', an', cdv', ct', h1, hx⟩ := L
  have e : some (FuncBody.stmts body', scope') = some (FuncBody.stmts body, scope) := congrArg bodyOf (Option.some.inj (h1.symm.trans h2))
  obtain ⟨e1, e2⟩ := Prod.mk.inj (Option.some.inj e)
  injection e1 with e1
  subst e1 e2
  clear h1 h2 e
  obtain ⟨o, ho, hc, n, hdt⟩ := hL
  have ok : Fm.Ok (FF prog w P A (envOf nm scope' h₀.objs.size fa cd) h₀.get?) := ⟨hA, hk, rfl, rfl, get_size_none _, h₀, p, loose, mean, mg, mb, T, KX, fun _ _ e => e⟩
  refine hx A nm h₀.objs.size fa cd h₀.get? sc ns ⟨o, vs.toArray, n, ho, hc, hdt, ints_den hI⟩ hns s ⟨ok, hd1, hd2⟩ ⟨F.keep, ⟨_, F.ns, fun x q e => ?_⟩, fun a l e => (by cases e)⟩ _ _ fun fl s' q ρ' σ' hq hr N => ?_
  · rw [List.lookup_cons] at e
    by_cases hxs : x = Str.ofString "script"
    · subst hxs
      simp at e; subst e
      exact ⟨.ref sc, by simp, .ref _⟩
    · rw [beq_eq_false_iff_ne.mpr hxs] at e; simp at e
  · obtain ⟨m', hn, _⟩ := N.st.loc
    have Fr' : Fr h₀ h₀.objs.size s'.heap m' := ⟨hn, N.st.keep, F.above⟩
    rcases frel_cases hr with ⟨rfl, rfl⟩ | ⟨rfl, rfl⟩ | ⟨rfl, rfl⟩ | ⟨v, p, rfl, rfl⟩
    · cases hq
    · cases hq
    · cases hq
    · have hp : p = .bool true := hq
      subst hp
      cases hr
      exact hQ s' m' Fr' N.same
end

theorem law_room (e : Env) : (callerA.deeper e).depth + 120 < recursionLimit ∧ (callerA.deeper e).units + 8 * 120 + 100 < cLine :=
  ⟨by show callerA.depth + 1 + 120 < _; decide, by show callerA.units + 3 + 8 * 120 + 100 < _; decide⟩
end
end Mine

set_option maxRecDepth 100000 in
set_option maxHeartbeats 8000000 in
theorem PySem.Challenge.cw_nz0406_01_holds : PySem.Challenge.rw_nz0406_01.Holds := by
  refine Mine.hd ?_
  k_go0
  all_goals try k_fold
  refine Mine.law_fin (L := Mine.law_exec) (by assumption) (by assumption) (by assumption) (by assumption) (by assumption) (by omega) rfl (Mine.law_room _).1 (Mine.law_room _).2 (by show List.lookup _ (Mine.hd.heap_39 _) = _; k_is) rfl ?_
  · intro s' m' F' sm
    have hs := sm
    unfold Mine.Same at hs
    refine goodW_bool F' (by rw [hs]; assumption) (raisesW_false ?_) ?_ (by rw [hs])
    · wrow_none_raised
    · first | wrow_post | kc_post
