import PyProof.Rows.All
import Wide.All
import OpenK.AllK
import Wide.FinOn
import PySem.Challenge.RW_qz0005_02
open PySem PySem.W PyProof.Rows
set_option Elab.async false
set_option linter.all false
set_option maxRecDepth 100000
namespace Mine

/-- abstract values -/
inductive V where
  | none
  | bool (b : Bool)
  | int (i : Int)
  | str (x : Str)
  | tup (vs : List V)
  | obj (C dx : Addr)
  | ref (a : Addr)
  | rng (lo hi st : Int)

/-- abstract mutable objects -/
inductive O where
  | list (vs : List V)
  | idict (kvs : List (Int × V))
  | sdict (kvs : List (Str × V))
  | ns (k : Nat) (f : Str → Option V)

abbrev Store := Addr → Option O
abbrev Fra := Str → Option V

mutual
def VRel (h : Heap) : V → Value → Prop
  | .none, w => w = .none
  | .bool b, w => w = .bool b
  | .int i, w => ∃ t, w = .int i t
  | .str x, w => ∃ t, w = .str x t
  | .tup vs, w => ∃ a n ws, w = .ref a ∧ h.get? a = some { cls := .type "tuple", data := .seq ws n } ∧ VRels h vs ws.toList
  | .obj C dx, w => ∃ a, w = .ref a ∧ h.get? a = some (instObj C dx)
  | .ref a, w => w = .ref a
  | .rng a b c, w => ∃ r t u v, w = .ref r ∧ IsRange h r a b c t u v
def VRels (h : Heap) : List V → List Value → Prop
  | [], ws => ws = []
  | v :: vs, ws => ∃ w ws', ws = w :: ws' ∧ VRel h v w ∧ VRels h vs ws'
end

/-- the objects that no step of the texts changes -/
def ImObj (o : Obj) : Prop := (o.cls = .type "tuple" ∧ ∃ xs n, o.data = .seq xs n) ∨ (o.cls = .type "range" ∧ ∃ vs, o.data = .fields vs) ∨ o.data = .plain
def KeepsIm (h h' : Heap) : Prop := ∀ b o, h.get? b = some o → ImObj o → h'.get? b = some o

mutual
theorem VRel.keep {h h' : Heap} (k : KeepsIm h h') : ∀ (v : V) (w : Value), VRel h v w → VRel h' v w
  | .none, _, x => x
  | .bool _, _, x => x
  | .int _, _, x => x
  | .str _, _, x => x
  | .tup vs, _, x => by
    obtain ⟨a, n, ws, e, ha, hr⟩ := x
    exact ⟨a, n, ws, e, k _ _ ha (.inl ⟨rfl, _, _, rfl⟩), VRels.keep k vs _ hr⟩
  | .obj C dx, _, x => by
    obtain ⟨a, e, ha⟩ := x
    exact ⟨a, e, k _ _ ha (.inr (.inr rfl))⟩
  | .ref _, _, x => x
  | .rng a b c, _, x => by
    obtain ⟨r, t, u, v, e, ha⟩ := x
    exact ⟨r, t, u, v, e, k _ _ ha (.inr (.inl ⟨rfl, _, rfl⟩))⟩
theorem VRels.keep {h h' : Heap} (k : KeepsIm h h') : ∀ (vs : List V) (ws : List Value), VRels h vs ws → VRels h' vs ws
  | [], _, x => x
  | v :: vs, _, x => by
    obtain ⟨w, ws', e, a, b⟩ := x
    exact ⟨w, ws', e, VRel.keep k v w a, VRels.keep k vs ws' b⟩
end

theorem VRels.nil {h : Heap} : VRels h [] [] := by simp [VRels]
theorem VRels.cons {h : Heap} {v : V} {w : Value} {vs : List V} {ws : List Value} (a : VRel h v w) (b : VRels h vs ws) : VRels h (v :: vs) (w :: ws) := ⟨w, ws, rfl, a, b⟩
theorem VRels.length {h : Heap} : ∀ {vs : List V} {ws : List Value}, VRels h vs ws → ws.length = vs.length
  | [], ws, x => by have e : ws = [] := x; subst e; rfl
  | v :: vs, ws, x => by
    obtain ⟨w, ws', rfl, _, b⟩ := x
    simp [VRels.length b]
theorem VRels.append {h : Heap} : ∀ {vs vs' : List V} {ws ws' : List Value}, VRels h vs ws → VRels h vs' ws' → VRels h (vs ++ vs') (ws ++ ws')
  | [], _, ws, _, x, y => by have e : ws = [] := x; subst e; exact y
  | v :: vs, _, ws, _, x, y => by
    obtain ⟨w, ws', rfl, a, b⟩ := x
    exact VRels.cons a (VRels.append b y)
theorem VRels.at {h : Heap} : ∀ {vs : List V} {ws : List Value} {i : Nat} {v : V}, VRels h vs ws → vs[i]? = some v → ∃ w, ws[i]? = some w ∧ VRel h v w
  | [], _, i, v, x, e => by simp at e
  | u :: vs, ws, 0, v, x, e => by
    obtain ⟨w, ws', rfl, a, b⟩ := x
    simp at e; subst e
    exact ⟨w, rfl, a⟩
  | u :: vs, ws, i + 1, v, x, e => by
    obtain ⟨w, ws', rfl, a, b⟩ := x
    simp only [List.getElem?_cons_succ] at e ⊢
    exact VRels.at b e
theorem VRels.none_at {h : Heap} {vs : List V} {ws : List Value} {i : Nat} (x : VRels h vs ws) (e : vs[i]? = none) : ws[i]? = none := by
  rw [List.getElem?_eq_none_iff] at e ⊢; rw [x.length]; exact e

def StrKeyed (es : List DictEntry) : Prop := ∀ e ∈ es, ∃ n t, e.key = .str n t
def getV (x : Str) (es : List DictEntry) : Option Value := (es.find? fun e => e.key.isStr x).map (·.val)

/-- an abstract object at an address -/
def ORel (prog : Program) (w : World) (h : Heap) (a : Addr) : O → Prop
  | .list vs => ∃ ws, h.PlainList a ws ∧ VRels h vs ws.toList
  | .idict kvs => ∃ cvs : List (Int × Value), h.DictOf (intKind prog w) a cvs ∧ cvs.map (·.1) = kvs.map (·.1) ∧ VRels h (kvs.map (·.2)) (cvs.map (·.2))
  | .sdict kvs => ∃ cvs : List (Str × Value), h.DictOf (strKind prog w) a cvs ∧ cvs.map (·.1) = kvs.map (·.1) ∧ VRels h (kvs.map (·.2)) (cvs.map (·.2))
  | .ns k f => ∃ es n, h.get? a = some (dictOf es n) ∧ es.length ≤ k ∧ StrKeyed es ∧ ∀ x, (∀ v, f x = some v → ∃ w, getV x es = some w ∧ VRel h v w) ∧ (f x = none → getV x es = none)

theorem notIm_list {o : Obj} {xs n} (c : o.cls = .type "list") (d : o.data = .seq xs n) : ¬ ImObj o := by
  rintro (⟨h, _⟩ | ⟨_, vs, h⟩ | h)
  · rw [c] at h; injection h with h; exact absurd h (by decide)
  · rw [d] at h; cases h
  · rw [d] at h; cases h
theorem notIm_dict {o : Obj} {xs n} (d : o.data = .dict xs n) : ¬ ImObj o := by
  rintro (⟨_, xs', n', h⟩ | ⟨_, vs, h⟩ | h) <;> (rw [d] at h; cases h)
theorem notIm_cell {o : Obj} {v} (d : o.data = .cell v) : ¬ ImObj o := by
  rintro (⟨_, xs', n', h⟩ | ⟨_, vs, h⟩ | h) <;> (rw [d] at h; cases h)
theorem notIm_iter {o : Obj} {vs : Array Value} (d : o.data = .fields vs) (c : o.cls ≠ .type "range") : ¬ ImObj o := by
  rintro (⟨_, xs', n', h⟩ | ⟨h, _⟩ | h)
  · rw [d] at h; cases h
  · exact c h
  · rw [d] at h; cases h
theorem ORel.cls {prog w h a o} (x : ORel prog w h a o) : ∃ co, h.get? a = some co ∧ ¬ ImObj co := by
  cases o with
  | list vs => obtain ⟨ws, ⟨n, e⟩, _⟩ := x; exact ⟨_, e, notIm_list rfl rfl⟩
  | idict kvs => obtain ⟨cvs, ⟨o, es, ep, e, hx, hd, _⟩, _⟩ := x; exact ⟨_, e, notIm_dict hd⟩
  | sdict kvs => obtain ⟨cvs, ⟨o, es, ep, e, hx, hd, _⟩, _⟩ := x; exact ⟨_, e, notIm_dict hd⟩
  | ns k f => obtain ⟨es, n, e, _⟩ := x; exact ⟨_, e, notIm_dict rfl⟩

theorem ORel.keep {prog w} {h h' : Heap} {a o} (k : KeepsIm h h') (ka : ∀ co, h.get? a = some co → h'.get? a = some co) (x : ORel prog w h a o) : ORel prog w h' a o := by
  cases o with
  | list vs => obtain ⟨ws, e, r⟩ := x; exact ⟨ws, e.at ka, VRels.keep k _ _ r⟩
  | idict kvs => obtain ⟨cvs, ⟨o, es, ep, e, q⟩, e2, r⟩ := x; exact ⟨cvs, ⟨o, es, ep, ka _ e, q⟩, e2, VRels.keep k _ _ r⟩
  | sdict kvs => obtain ⟨cvs, ⟨o, es, ep, e, q⟩, e2, r⟩ := x; exact ⟨cvs, ⟨o, es, ep, ka _ e, q⟩, e2, VRels.keep k _ _ r⟩
  | ns _ f =>
    obtain ⟨es, n, e', q1, q2, r⟩ := x
    exact ⟨es, n, ka _ e', q1, q2, fun x => ⟨fun v hv => let ⟨w, a, b⟩ := (r x).1 v hv; ⟨w, a, VRel.keep k _ _ b⟩, (r x).2⟩⟩

/-- the ground: the world, the program, the heap as the law was called, its written part -/
structure Cx where
  prog : Program
  w : World
  g : Heap
  K : Frag
  mg : Str → Option Value
  mb : Str → Option Value

structure Cx.Ok (C : Cx) : Prop where
  k : C.K.In C.g
  gl : C.g.Ns mainGlobals C.mg
  bl : C.g.Ns builtinsNs C.mb
  nolimit : C.g.NoLimit
  boot : ∀ x : Str, x ≠ "__name__" → C.mb x = bootBuiltins x

abbrev Cx.M (C : Cx) : Model := model C.prog C.w

structure Rep (C : Cx) (σ : Store) (h : Heap) : Prop where
  ok : C.Ok
  base : ∀ b o, C.g.get? b = some o → h.get? b = some o
  off : ∀ a o, σ a = some o → C.g.get? a = none ∧ (a == sysModules) = false
  objs : ∀ a o, σ a = some o → ORel C.prog C.w h a o

def Keeps (σ : Store) (h h' : Heap) : Prop := ∀ b o, h.get? b = some o → σ b = none → h'.get? b = some o
def Fresh (σ σ' : Store) (h : Heap) : Prop := ∀ a o, σ' a = some o → (∃ o', σ a = some o') ∨ h.get? a = none

def Live (h h' : Heap) : Prop := ∀ b o, h.get? b = some o → ∃ o', h'.get? b = some o'
structure Stp (σ σ' : Store) (h h' : Heap) : Prop where
  keep : Keeps σ h h'
  fresh : Fresh σ σ' h
  live : Live h h'

theorem Stp.refl (σ : Store) (h : Heap) : Stp σ σ h h := ⟨fun _ _ e _ => e, fun _ o e => .inl ⟨o, e⟩, fun _ o e => ⟨o, e⟩⟩
theorem Stp.trans {σ₁ σ₂ σ₃ : Store} {h₁ h₂ h₃ : Heap} (x : Stp σ₁ σ₂ h₁ h₂) (y : Stp σ₂ σ₃ h₂ h₃) : Stp σ₁ σ₃ h₁ h₃ where
  keep := fun b o e n => y.keep b o (x.keep b o e n) (by
    cases q : σ₂ b with
    | none => rfl
    | some o' => rcases x.fresh b o' q with ⟨o'', z⟩ | z
                 · rw [n] at z; cases z
                 · rw [e] at z; cases z)
  fresh := fun a o e => by
    rcases y.fresh a o e with ⟨o', z⟩ | z
    · exact x.fresh a o' z
    · cases q : h₁.get? a with
      | none => exact .inr rfl
      | some o' => obtain ⟨o2, z2⟩ := x.live a o' q; rw [z] at z2; cases z2
  live := fun b o e => let ⟨o', e'⟩ := x.live b o e; y.live b o' e'

theorem Rep.im {C : Cx} {σ : Store} {h h' : Heap} (R : Rep C σ h) (k : Keeps σ h h') : KeepsIm h h' := fun b o e im => k b o e (by
  cases q : σ b with
  | none => rfl
  | some o' =>
    obtain ⟨co, e', c⟩ := (R.objs b o' q).cls
    rw [e] at e'; cases e'
    exact absurd im c)

theorem Rep.val {C : Cx} {σ : Store} {h h' : Heap} (R : Rep C σ h) (k : Keeps σ h h') {v : V} {w : Value} (x : VRel h v w) : VRel h' v w := VRel.keep (R.im k) _ _ x
theorem Rep.vals {C : Cx} {σ : Store} {h h' : Heap} (R : Rep C σ h) (k : Keeps σ h h') {v : List V} {w : List Value} (x : VRels h v w) : VRels h' v w := VRels.keep (R.im k) _ _ x

/-- the frame -/
structure FrameRep (C : Cx) (env : Env) (ρ : Fra) (σ : Store) (h : Heap) : Prop where
  kind : env.scope.kind = .function
  glob : env.globals = mainGlobals
  blt : env.builtins = builtinsNs
  above : C.g.get? env.locals = none
  off : σ env.locals = none
  ns : ∃ m, h.Ns env.locals m ∧ ∀ x v, ρ x = some v → env.kindOf x = some .local → ∃ w, m x = some w ∧ VRel h v w
  cell : ∀ x v, ρ x = some v → env.kindOf x ≠ some .local → (env.kindOf x = some .cell ∨ env.kindOf x = some .free) ∧ (x == ("__classdict__" : Str)) = false ∧ ∃ c w, env.cells.lookup x = some c ∧ h.IsCell c (some w) ∧ VRel h v w
  cells : ∀ x c, env.cells.lookup x = some c → σ c = none ∧ C.g.get? c = none ∧ c ≠ env.locals ∧ ∃ v, h.IsCell c v
  apart : ∀ x y c, env.cells.lookup x = some c → env.cells.lookup y = some c → x = y

theorem FrameRep.keep {C : Cx} {env : Env} {ρ : Fra} {σ σ' : Store} {h h' : Heap} (F : FrameRep C env ρ σ h) (R : Rep C σ h) (s : Stp σ σ' h h') : FrameRep C env ρ σ' h' := by
  have nof : ∀ a o, h.get? a = some o → σ a = none → σ' a = none := fun a o e n => by
    cases q : σ' a with
    | none => rfl
    | some o' => rcases s.fresh a o' q with ⟨_, z⟩ | z
                 · rw [n] at z; cases z
                 · rw [e] at z; cases z
  obtain ⟨m, hn, hm⟩ := F.ns
  obtain ⟨oL, es, ep, hL, hr⟩ := id hn
  refine ⟨F.kind, F.glob, F.blt, F.above, nof _ _ hL F.off, ⟨m, ⟨oL, es, ep, s.keep _ _ hL F.off, hr⟩, fun x v e k => ?_⟩, fun x v e k => ?_, fun x c e => ?_, F.apart⟩
  · obtain ⟨w, a, b⟩ := hm x v e k
    exact ⟨w, a, R.val s.keep b⟩
  · obtain ⟨a, a', c, w, b1, ⟨oc, b2, b2'⟩, b3⟩ := F.cell x v e k
    exact ⟨a, a', c, w, b1, ⟨oc, s.keep _ _ b2 (F.cells x c b1).1, b2'⟩, R.val s.keep b3⟩
  · obtain ⟨a, b0, b, v, oc, c1, c2⟩ := F.cells x c e
    exact ⟨nof _ _ c1 a, b0, b, v, oc, s.keep _ _ c1 a, c2⟩

theorem Rep.kin {C : Cx} {σ : Store} {h : Heap} (R : Rep C σ h) : C.K.In h := R.ok.k.keeps R.base

/-- room for d nested calls -/
structure Room (d : Nat) (A : Around) : Prop where
  hh : A.handled = none
  depth : A.depth + d ≤ 900
  units : A.units + 8 * d ≤ 8000
theorem Room.le {d d' : Nat} {A : Around} (x : Room d A) (h : d' ≤ d) : Room d' A := ⟨x.hh, Nat.le_trans (Nat.add_le_add_left h _) x.depth, Nat.le_trans (Nat.add_le_add_left (Nat.mul_le_mul_left _ h) _) x.units⟩
theorem Room.in1 {d : Nat} {A : Around} (x : Room (d + 1) A) : Room d A.in1 := ⟨x.hh, by have := x.depth; show A.depth + d ≤ 900; omega, by have := x.units; show A.units + 1 + 8 * d ≤ 8000; omega⟩
theorem Room.deeper {d : Nat} {A : Around} (x : Room (d + 1) A) (env : Env) : Room d (A.deeper env) := ⟨x.hh, by have := x.depth; show A.depth + 1 + d ≤ 900; omega, by have := x.units; show A.units + 3 + 8 * d ≤ 8000; omega⟩

/-- what an expression's tree does, at every state that the abstract one stands for -/
def Ew {α β : Type} (C : Cx) (d : Nat) (env : Env) (ρ : Fra) (R : Heap → β → α → Prop) (t : Sem α) (Q : β → Store → Prop) (σ : Store) : Prop :=
  ∀ (A : Around) (E : Value → Shared → Prop) (s : Shared) (Qc : α → Shared → Prop), Room d A → Rep C σ s.heap → FrameRep C env ρ σ s.heap →
    (∀ b σ' x h' tk, Q b σ' → Rep C σ' h' → R h' b x → Stp σ σ' s.heap h' → Qc x { s with heap := h', toks := tk }) → wpAny C.M A t Qc E s

/-- an operation on values that stands apart from the frame -/
def Ow {α β : Type} (C : Cx) (d : Nat) (R : Heap → β → α → Prop) (vs : List V) (t : List Value → Sem α) (Q : β → Store → Prop) (σ : Store) : Prop :=
  ∀ (A : Around) (E : Value → Shared → Prop) (s : Shared) (Qc : α → Shared → Prop) (ws : List Value), Room d A → Rep C σ s.heap → VRels s.heap vs ws →
    (∀ b σ' x h' tk, Q b σ' → Rep C σ' h' → R h' b x → Stp σ σ' s.heap h' → Qc x { s with heap := h', toks := tk }) → wpAny C.M A (t ws) Qc E s

def BRel (_ : Heap) (b : Bool) (x : Bool) : Prop := x = b

def KeepsF (env : Env) (σ : Store) (h h' : Heap) : Prop := ∀ b o, h.get? b = some o → σ b = none → b ≠ env.locals → (env.func.isSome = true → ∀ x, env.cells.lookup x ≠ some b) → h'.get? b = some o
structure StpF (env : Env) (σ σ' : Store) (h h' : Heap) : Prop where
  keep : KeepsF env σ h h'
  fresh : Fresh σ σ' h
  live : Live h h'

theorem Stp.toF {env : Env} {σ σ' : Store} {h h' : Heap} (x : Stp σ σ' h h') : StpF env σ σ' h h' := ⟨fun b o e n _ _ => x.keep b o e n, x.fresh, x.live⟩

theorem Fresh.none {σ σ' : Store} {h : Heap} (x : Fresh σ σ' h) {b : Addr} {o : Obj} (e : h.get? b = some o) (n : σ b = none) : σ' b = none := by
  cases q : σ' b with
  | none => rfl
  | some o' =>
    rcases x b o' q with ⟨o'', z⟩ | z
    · rw [n] at z; cases z
    · rw [e] at z; cases z

theorem StpF.trans {env : Env} {σ₁ σ₂ σ₃ : Store} {h₁ h₂ h₃ : Heap} (x : StpF env σ₁ σ₂ h₁ h₂) (y : StpF env σ₂ σ₃ h₂ h₃) : StpF env σ₁ σ₃ h₁ h₃ where
  keep := fun b o e n n1 n2 => y.keep b o (x.keep b o e n n1 n2) (x.fresh.none e n) n1 n2
  fresh := fun a o e => by
    rcases y.fresh a o e with ⟨o', z⟩ | z
    · exact x.fresh a o' z
    · cases q : h₁.get? a with
      | none => exact .inr rfl
      | some o' => obtain ⟨o2, z2⟩ := x.live a o' q; rw [z] at z2; cases z2
  live := fun b o e => let ⟨o', e'⟩ := x.live b o e; y.live b o' e'

/-- what a statement's tree does -/
def Sw {α β : Type} (C : Cx) (d : Nat) (env : Env) (R : Heap → β → α → Prop) (t : Sem α) (Q : β → Fra → Store → Prop) (ρ : Fra) (σ : Store) : Prop :=
  ∀ (A : Around) (E : Value → Shared → Prop) (s : Shared) (Qc : α → Shared → Prop), Room d A → Rep C σ s.heap → FrameRep C env ρ σ s.heap →
    (∀ b ρ' σ' x h' tk, Q b ρ' σ' → Rep C σ' h' → FrameRep C env ρ' σ' h' → R h' b x → StpF env σ σ' s.heap h' → Qc x { s with heap := h', toks := tk }) → wpAny C.M A t Qc E s
end Mine

open PySem PySem.W PyProof.Rows
set_option Elab.async false
set_option linter.all false
set_option maxRecDepth 100000
namespace Mine
section
variable {C : Cx} {d : Nat} {env : Env} {ρ : Fra} {σ : Store}

def Ow1 {α β : Type} (C : Cx) (d : Nat) (R : Heap → β → α → Prop) (v : V) (t : Value → Sem α) (Q : β → Store → Prop) (σ : Store) : Prop :=
  ∀ (A : Around) (E : Value → Shared → Prop) (s : Shared) (Qc : α → Shared → Prop) (w : Value), Room d A → Rep C σ s.heap → VRel s.heap v w →
    (∀ b σ' x h' tk, Q b σ' → Rep C σ' h' → R h' b x → Stp σ σ' s.heap h' → Qc x { s with heap := h', toks := tk }) → wpAny C.M A (t w) Qc E s
def Ow2 {α β : Type} (C : Cx) (d : Nat) (R : Heap → β → α → Prop) (u v : V) (t : Value → Value → Sem α) (Q : β → Store → Prop) (σ : Store) : Prop :=
  ∀ (A : Around) (E : Value → Shared → Prop) (s : Shared) (Qc : α → Shared → Prop) (y w : Value), Room d A → Rep C σ s.heap → VRel s.heap u y → VRel s.heap v w →
    (∀ b σ' x h' tk, Q b σ' → Rep C σ' h' → R h' b x → Stp σ σ' s.heap h' → Qc x { s with heap := h', toks := tk }) → wpAny C.M A (t y w) Qc E s

theorem Ew.mono {α β : Type} {R : Heap → β → α → Prop} {t : Sem α} {Q Q' : β → Store → Prop} (h : Ew C d env ρ R t Q σ) (k : ∀ b σ', Q b σ' → Q' b σ') : Ew C d env ρ R t Q' σ :=
  fun A E s Qc rm Rp F hq => h A E s Qc rm Rp F fun b σ' x h' tk q => hq b σ' x h' tk (k b σ' q)
theorem Ow1.mono {α β : Type} {R : Heap → β → α → Prop} {v : V} {t : Value → Sem α} {Q Q' : β → Store → Prop} (h : Ow1 C d R v t Q σ) (k : ∀ b σ', Q b σ' → Q' b σ') : Ow1 C d R v t Q' σ :=
  fun A E s Qc w rm Rp x hq => h A E s Qc w rm Rp x fun b σ' x h' tk q => hq b σ' x h' tk (k b σ' q)
theorem Ow2.mono {α β : Type} {R : Heap → β → α → Prop} {u v : V} {t : Value → Value → Sem α} {Q Q' : β → Store → Prop} (h : Ow2 C d R u v t Q σ) (k : ∀ b σ', Q b σ' → Q' b σ') : Ow2 C d R u v t Q' σ :=
  fun A E s Qc y w rm Rp x z hq => h A E s Qc y w rm Rp x z fun b σ' x h' tk q => hq b σ' x h' tk (k b σ' q)

/-! constants, names -/
theorem Ew_int {i : Int} {k pos} {Q : V → Store → Prop} (h : Q (.int i) σ) : Ew C d env ρ VRel (eval (.Constant (.int i) k pos) env) Q σ :=
  fun A E s Qc rm Rp F hq => wpAny_Constant_int (hq _ _ _ s.heap _ h Rp ⟨_, rfl⟩ (Stp.refl ..))
theorem Ew_str {x : Str} {k pos} {Q : V → Store → Prop} (h : Q (.str x) σ) : Ew C d env ρ VRel (eval (.Constant (.str x) k pos) env) Q σ :=
  fun A E s Qc rm Rp F hq => wpAny_Constant_str (hq _ _ _ s.heap _ h Rp ⟨_, rfl⟩ (Stp.refl ..))
theorem Ew_bool {b : Bool} {k pos} {Q : V → Store → Prop} (h : Q (.bool b) σ) : Ew C d env ρ VRel (eval (.Constant (.bool b) k pos) env) Q σ :=
  fun A E s Qc rm Rp F hq => wpAny_Constant_bool (hq _ _ _ s.heap s.toks h Rp rfl (Stp.refl ..))
theorem Ew_none {k pos} {Q : V → Store → Prop} (h : Q .none σ) : Ew C d env ρ VRel (eval (.Constant .none k pos) env) Q σ :=
  fun A E s Qc rm Rp F hq => wpAny_Constant_none (hq _ _ _ s.heap s.toks h Rp rfl (Stp.refl ..))

theorem wp_name {A : Around} {E : Value → Shared → Prop} {s : Shared} {x : Str} {v : V} {Q : Value → Shared → Prop} (F : FrameRep C env ρ σ s.heap) (e : ρ x = some v)
    (h : ∀ w, VRel s.heap v w → Q w s) : wpAny C.M A (loadName env x) Q E s := by
  by_cases hl : env.kindOf x = some .local
  · obtain ⟨m, hn, hm⟩ := F.ns
    obtain ⟨w, a, b⟩ := hm x v e hl
    exact wpAny_loadName_local F.kind hl hn a (h w b)
  · obtain ⟨hk, hd, c, w, a, b, r⟩ := F.cell x v e hl
    rcases hk with hk | hk
    · exact wpAny_loadName_cell F.kind hk a b (h w r)
    · exact wpAny_loadName_free F.kind hk a b (h w r) hd

theorem Ew_name {x : Str} {pos} {v : V} {Q : V → Store → Prop} (e : ρ x = some v) (h : Q v σ) (hd : (x == ("__debug__" : Str)) = false := by decide) :
    Ew C d env ρ VRel (eval (.Name x pos) env) Q σ :=
  fun A E s Qc rm Rp F hq => wpAny_Name (wp_name F e fun w r => hq _ _ _ s.heap s.toks h Rp r (Stp.refl ..)) hd

theorem wp_glob {A : Around} {E : Value → Shared → Prop} {s : Shared} {x : Str} {pos} {w : Value} {Q : Value → Shared → Prop} (Rp : Rep C σ s.heap) (F : FrameRep C env ρ σ s.heap)
    (hx : env.kindOf x = some .globalImplicit) (e : C.mg x = some w) (h : Q w s) (hd : (x == ("__debug__" : Str)) = false := by decide) : wpAny C.M A (eval (.Name x pos) env) Q E s :=
  Calls.Name_function_global F.kind hx (Calls.loadGlobal_global (by rw [F.glob]; exact Rp.ok.gl.keeps Rp.base) e h) hd
theorem wp_blt {A : Around} {E : Value → Shared → Prop} {s : Shared} {x : Str} {pos} {w : Value} {Q : Value → Shared → Prop} (Rp : Rep C σ s.heap) (F : FrameRep C env ρ σ s.heap)
    (hx : env.kindOf x = some .globalImplicit) (e : C.mg x = none) (hb : bootBuiltins x = some w) (hn : x ≠ "__name__") (h : Q w s) (hd : (x == ("__debug__" : Str)) = false := by decide) : wpAny C.M A (eval (.Name x pos) env) Q E s :=
  Calls.Name_function_global F.kind hx (Calls.loadGlobal_builtin (by rw [F.glob]; exact Rp.ok.gl.keeps Rp.base) e (by rw [F.blt]; exact Rp.ok.bl.keeps Rp.base) ((Rp.ok.boot x hn).trans hb) h) hd

/-- a module constant -/
theorem Ew_glob {x : Str} {pos} {v : V} {w : Value} {Q : V → Store → Prop} (hx : env.kindOf x = some .globalImplicit) (e : C.mg x = some w) (r : VRel C.g v w) (h : Q v σ) (hd : (x == ("__debug__" : Str)) = false := by decide) :
    Ew C d env ρ VRel (eval (.Name x pos) env) Q σ :=
  fun A E s Qc rm Rp F hq => wp_glob Rp F hx e (hq _ _ _ s.heap s.toks h Rp (VRel.keep (fun b o q _ => Rp.base b o q) _ _ r) (Stp.refl ..)) hd

/-! nodes -/
theorem Ew_BinOp {l r : Expr} {op : Operator} {pos} {Q : V → Store → Prop}
    (h : Ew C d env ρ VRel (eval l env) (fun u σ₁ => Ew C d env ρ VRel (eval r env) (fun v σ₂ => Ow2 C d VRel u v (binaryOp op) Q σ₂) σ₁) σ) :
    Ew C d env ρ VRel (eval (.BinOp l op r pos) env) Q σ :=
  fun A E s Qc rm Rp F hq => wpAny_BinOp (h A E s _ rm Rp F fun u σ₁ x h₁ k₁ q₁ R₁ r₁ s₁ => q₁ A E _ _ rm R₁ (F.keep Rp s₁) fun v σ₂ y h₂ k₂ q₂ R₂ r₂ s₂ =>
    q₂ A E _ _ x y rm R₂ (R₁.val s₂.keep r₁) r₂ fun b σ' z h' tk qb R' rb s' => hq b σ' z h' tk qb R' rb ((s₁.trans s₂).trans s'))

theorem Ew_Compare {l r : Expr} {op : CmpOp} {pos} {Q : V → Store → Prop}
    (h : Ew C d env ρ VRel (eval l env) (fun u σ₁ => Ew C d env ρ VRel (eval r env) (fun v σ₂ => Ow2 C d VRel u v (compareOp op) Q σ₂) σ₁) σ)
    (hm : behindInMarks op r = false := by with_unfolding_all rfl) :
    Ew C d env ρ VRel (eval (.Compare l [op] [r] pos) env) Q σ :=
  fun A E s Qc rm Rp F hq => wpAny_Compare1 (h A E s _ rm Rp F fun u σ₁ x h₁ k₁ q₁ R₁ r₁ s₁ => q₁ A E _ _ rm R₁ (F.keep Rp s₁) fun v σ₂ y h₂ k₂ q₂ R₂ r₂ s₂ =>
    q₂ A E _ _ x y rm R₂ (R₁.val s₂.keep r₁) r₂ fun b σ' z h' tk qb R' rb s' => hq b σ' z h' tk qb R' rb ((s₁.trans s₂).trans s')) hm

/-- a comparison whose answer is a bool b -/
theorem Ew_isCompare {l r : Expr} {op : CmpOp} {pos whole} {Q : Bool → Store → Prop}
    (h : Ew C d env ρ VRel (eval l env) (fun u σ₁ => Ew C d env ρ VRel (eval r env) (fun v σ₂ => Ow2 C d VRel u v (compareOp op) (fun c σ₃ => ∃ b, c = .bool b ∧ Q b σ₃) σ₂) σ₁) σ)
    (hm : behindInMarks op r = false := by with_unfolding_all rfl) :
    Ew C d env ρ BRel (isTrue (.Compare l [op] [r] pos) env whole) Q σ :=
  fun A E s Qc rm Rp F hq => wpAny_isTrue_Compare1 (h A E s _ rm Rp F fun u σ₁ x h₁ k₁ q₁ R₁ r₁ s₁ => q₁ A E _ _ rm R₁ (F.keep Rp s₁) fun v σ₂ y h₂ k₂ q₂ R₂ r₂ s₂ =>
    q₂ A E _ _ x y rm R₂ (R₁.val s₂.keep r₁) r₂ fun b σ' z h' tk qb R' rb s' => by
      obtain ⟨c, rfl, qc⟩ := qb
      have e : z = .bool c := rb
      subst e
      exact wpAny_truthy_bool (hq c σ' c h' tk qc R' rfl ((s₁.trans s₂).trans s'))) hm

theorem Ew_isNot {x : Expr} {pos whole} {Q : Bool → Store → Prop} (h : Ew C d env ρ BRel (isTrue x env (eval x env)) (fun b σ₁ => Q (!b) σ₁) σ) :
    Ew C d env ρ BRel (isTrue (.UnaryOp .Not x pos) env whole) Q σ :=
  fun A E s Qc rm Rp F hq => wpAny_isTrue_Not (h A E s _ rm Rp F fun b σ₁ x h₁ k₁ q₁ R₁ r₁ s₁ => by
    have e : x = b := r₁
    subst e
    exact hq _ _ _ _ _ q₁ R₁ rfl s₁)

theorem Ew_isBool {e : Expr} {whole : Sem Value} {Q : Bool → Store → Prop} (h : Ew C d env ρ VRel whole (fun v σ₁ => ∃ b, v = .bool b ∧ Q b σ₁) σ)
    (he : isTrue e env whole = (do let v ← whole; standAt e.pos; holding [v] (truthy v)) := by rfl) : Ew C d env ρ BRel (isTrue e env whole) Q σ :=
  fun A E s Qc rm Rp F hq => wpAny_isTrue_value (h A E s _ rm Rp F fun v σ₁ x h₁ k₁ q₁ R₁ r₁ s₁ => by
    obtain ⟨c, rfl, qc⟩ := q₁
    have e : x = .bool c := r₁
    subst e
    exact wpAny_truthy_bool (hq _ _ _ _ _ qc R₁ rfl s₁)) he

theorem Ew_isAnd {values : List Expr} {pos whole} {Q : Bool → Store → Prop} (h : Ew C d env ρ BRel (allTrue .And values env) Q σ) :
    Ew C d env ρ BRel (isTrue (.BoolOp .And values pos) env whole) Q σ := fun A E s Qc rm Rp F hq => wpAny_isTrue_BoolOp (h A E s Qc rm Rp F hq)
theorem Ew_isOr {values : List Expr} {pos whole} {Q : Bool → Store → Prop} (h : Ew C d env ρ BRel (allTrue .Or values env) Q σ) :
    Ew C d env ρ BRel (isTrue (.BoolOp .Or values pos) env whole) Q σ := fun A E s Qc rm Rp F hq => wpAny_isTrue_BoolOp (h A E s Qc rm Rp F hq)
theorem Ew_and_nil {Q : Bool → Store → Prop} (h : Q true σ) : Ew C d env ρ BRel (allTrue .And [] env) Q σ := fun A E s Qc rm Rp F hq => wpAny_allTrue_And_nil (hq _ _ _ s.heap s.toks h Rp rfl (Stp.refl ..))
theorem Ew_or_nil {Q : Bool → Store → Prop} (h : Q false σ) : Ew C d env ρ BRel (allTrue .Or [] env) Q σ := fun A E s Qc rm Rp F hq => wpAny_allTrue_Or_nil (hq _ _ _ s.heap s.toks h Rp rfl (Stp.refl ..))
theorem Ew_and_cons {x : Expr} {rest : List Expr} {Q : Bool → Store → Prop}
    (h : Ew C d env ρ BRel (isTrue x env (eval x env)) (fun b σ₁ => (b = true → Ew C d env ρ BRel (allTrue .And rest env) Q σ₁) ∧ (b = false → Q false σ₁)) σ) :
    Ew C d env ρ BRel (allTrue .And (x :: rest) env) Q σ :=
  fun A E s Qc rm Rp F hq => wpAny_allTrue_And_cons (h A E s _ rm Rp F fun b σ₁ x h₁ k₁ q₁ R₁ r₁ s₁ => by
    have e : x = b := r₁
    subst e
    cases x with
    | true => exact q₁.1 rfl A E _ _ rm R₁ (F.keep Rp s₁) fun b σ' z h' tk qb R' rb s' => hq b σ' z h' tk qb R' rb (s₁.trans s')
    | false => exact hq _ _ _ _ _ (q₁.2 rfl) R₁ rfl s₁)
theorem Ew_or_cons {x : Expr} {rest : List Expr} {Q : Bool → Store → Prop}
    (h : Ew C d env ρ BRel (isTrue x env (eval x env)) (fun b σ₁ => (b = true → Q true σ₁) ∧ (b = false → Ew C d env ρ BRel (allTrue .Or rest env) Q σ₁)) σ) :
    Ew C d env ρ BRel (allTrue .Or (x :: rest) env) Q σ :=
  fun A E s Qc rm Rp F hq => wpAny_allTrue_Or_cons (h A E s _ rm Rp F fun b σ₁ x h₁ k₁ q₁ R₁ r₁ s₁ => by
    have e : x = b := r₁
    subst e
    cases x with
    | true => exact hq _ _ _ _ _ (q₁.1 rfl) R₁ rfl s₁
    | false => exact q₁.2 rfl A E _ _ rm R₁ (F.keep Rp s₁) fun b σ' z h' tk qb R' rb s' => hq b σ' z h' tk qb R' rb (s₁.trans s'))

/-- `x and y`, both bools -/
theorem Ew_And2 {x y : Expr} {pos} {Q : V → Store → Prop}
    (h : Ew C d env ρ VRel (eval x env) (fun v σ₁ => ∃ b, v = .bool b ∧ (b = true → Ew C d env ρ VRel (eval y env) Q σ₁) ∧ (b = false → Q (.bool false) σ₁)) σ) :
    Ew C d env ρ VRel (eval (.BoolOp .And [x, y] pos) env) Q σ :=
  fun A E s Qc rm Rp F hq => wpAny_And2 (h A E s _ rm Rp F fun v σ₁ x h₁ k₁ q₁ R₁ r₁ s₁ => by
    obtain ⟨b, rfl, qt, qf⟩ := q₁
    have e : x = .bool b := r₁
    subst e
    refine wpAny_truthy_bool ?_
    cases b with
    | true => exact qt rfl A E _ _ rm R₁ (F.keep Rp s₁) fun b σ' z h' tk qb R' rb s' => hq b σ' z h' tk qb R' rb (s₁.trans s')
    | false => exact hq _ _ _ _ _ (qf rfl) R₁ rfl s₁)

theorem Ew_IfExp {test body orelse : Expr} {pos} {Q : V → Store → Prop}
    (h : Ew C d env ρ BRel (isTrue test env (eval test env)) (fun b σ₁ => (b = true → Ew C d env ρ VRel (eval body env) Q σ₁) ∧ (b = false → Ew C d env ρ VRel (eval orelse env) Q σ₁)) σ) :
    Ew C d env ρ VRel (eval (.IfExp test body orelse pos) env) Q σ :=
  fun A E s Qc rm Rp F hq => wpAny_IfExp (h A E s _ rm Rp F fun b σ₁ x h₁ k₁ q₁ R₁ r₁ s₁ => by
    have e : x = b := r₁
    subst e
    cases x with
    | true => exact q₁.1 rfl A E _ _ rm R₁ (F.keep Rp s₁) fun b σ' z h' tk qb R' rb s' => hq b σ' z h' tk qb R' rb (s₁.trans s')
    | false => exact q₁.2 rfl A E _ _ rm R₁ (F.keep Rp s₁) fun b σ' z h' tk qb R' rb s' => hq b σ' z h' tk qb R' rb (s₁.trans s'))

theorem Ew_UnaryOp {op : UnaryOp} {x : Expr} {pos} {Q : V → Store → Prop} (h : Ew C d env ρ VRel (eval x env) (fun v σ₁ => Ow1 C d VRel v (unaryOp op) Q σ₁) σ) :
    Ew C d env ρ VRel (eval (.UnaryOp op x pos) env) Q σ :=
  fun A E s Qc rm Rp F hq => wpAny_UnaryOp (h A E s _ rm Rp F fun v σ₁ x h₁ k₁ q₁ R₁ r₁ s₁ => q₁ A E _ _ x rm R₁ r₁ fun b σ' z h' tk qb R' rb s' => hq b σ' z h' tk qb R' rb (s₁.trans s'))

/-! lists of values -/
theorem Ew_items_nil {pos} {Q : List V → Store → Prop} (h : Q [] σ) : Ew C d env ρ VRels (spliced (backTo pos (starEach [] env))) Q σ :=
  fun A E s Qc rm Rp F hq => wpAny_items_nil (hq _ _ _ s.heap s.toks h Rp VRels.nil (Stp.refl ..))
theorem Ew_items_cons {pos} {e : Expr} {rest : List Expr} {Q : List V → Store → Prop}
    (h : Ew C d env ρ VRel (eval e env) (fun v σ₁ => Ew C d env ρ VRels (spliced (backTo pos (starEach rest env))) (fun vs σ₂ => Q (v :: vs) σ₂) σ₁) σ)
    (he : starEach (e :: rest) env = (false, eval e env) :: starEach rest env := by rfl) : Ew C d env ρ VRels (spliced (backTo pos (starEach (e :: rest) env))) Q σ :=
  fun A E s Qc rm Rp F hq => wpAny_items_cons (h A E s _ rm Rp F fun v σ₁ x h₁ k₁ q₁ R₁ r₁ s₁ => q₁ A E _ _ rm R₁ (F.keep Rp s₁) fun b σ' z h' tk qb R' rb s' =>
    hq _ σ' _ h' tk qb R' (VRels.cons (R₁.val s'.keep r₁) rb) (s₁.trans s')) he

/-- a new immutable object -/
theorem Rep.push {h : Heap} (R : Rep C σ h) (o : Obj) : Rep C σ (h.push o) ∧ Stp σ σ h (h.push o) :=
  have k : Keeps σ h (h.push o) := fun b o' e _ => Heap.get?_push_of_some _ e
  ⟨⟨R.ok, fun b o' e => Heap.get?_push_of_some _ (R.base b o' e), R.off, fun a o' e => (R.objs a o' e).keep (R.im k) fun co q => Heap.get?_push_of_some _ q⟩, k, fun _ o e => .inl ⟨o, e⟩, fun b o' e => ⟨o', Heap.get?_push_of_some _ e⟩⟩

theorem Rep.size {h : Heap} (R : Rep C σ h) : C.g.get? h.objs.size = none ∧ (h.objs.size == sysModules) = false := by
  refine ⟨?_, ?_⟩
  · cases q : C.g.get? h.objs.size with
    | none => rfl
    | some o => exact absurd (Heap.lt_size (R.base _ _ q)) (Nat.lt_irrefl _)
  · exact beq_eq_false_iff_ne.mpr (Nat.ne_of_gt (modules_low (R.ok.nolimit.keeps R.base)))
theorem Rep.fresh {h : Heap} (R : Rep C σ h) : σ h.objs.size = none := by
  cases q : σ h.objs.size with
  | none => rfl
  | some o => obtain ⟨co, e, _⟩ := (R.objs _ _ q).cls; exact absurd (Heap.lt_size e) (Nat.lt_irrefl _)
end

def Store.set (σ : Store) (a : Addr) (o : O) : Store := fun b => if b = a then some o else σ b
@[simp] theorem Store.set_self (σ : Store) (a : Addr) (o : O) : σ.set a o a = some o := by simp [Store.set]
theorem Store.set_ne {σ : Store} {a b : Addr} {o : O} (h : b ≠ a) : σ.set a o b = σ b := by simp [Store.set, h]

section
variable {C : Cx} {d : Nat} {env : Env} {ρ : Fra} {σ : Store}
/-- a new object of the abstract store -/
theorem Rep.alloc {h h' : Heap} {a : Addr} {o : O} (R : Rep C σ h) (e1 : h.get? a = none) (e2 : C.g.get? a = none) (e3 : (a == sysModules) = false) (k : ∀ b o, h.get? b = some o → h'.get? b = some o) (r : ORel C.prog C.w h' a o) :
    Rep C (σ.set a o) h' ∧ Stp σ (σ.set a o) h h' ∧ σ a = none := by
  have n : σ a = none := by
    cases q : σ a with
    | none => rfl
    | some o => obtain ⟨co, e, _⟩ := (R.objs _ _ q).cls; rw [e1] at e; cases e
  refine ⟨⟨R.ok, fun b o' e => k _ _ (R.base b o' e), fun b o' e => ?_, fun b o' e => ?_⟩, ⟨fun b o' e _ => k _ _ e, fun b o' e => ?_, fun b o' e => ⟨o', k _ _ e⟩⟩, n⟩
  · by_cases q : b = a
    · subst q; exact ⟨e2, e3⟩
    · rw [Store.set_ne q] at e; exact R.off b o' e
  · by_cases q : b = a
    · subst q; simp at e; subst e; exact r
    · rw [Store.set_ne q] at e; exact (R.objs b o' e).keep (fun b o q _ => k b o q) fun co q => k _ _ q
  · by_cases q : b = a
    · subst q; exact .inr e1
    · rw [Store.set_ne q] at e; exact .inl ⟨o', e⟩

/-- an object of the abstract store changed -/
theorem Rep.change {h h' : Heap} {a : Addr} {o o' : O} (R : Rep C σ h) (e : σ a = some o) (k : ∀ b co, b ≠ a → h.get? b = some co → h'.get? b = some co) (r : ORel C.prog C.w h' a o') :
    Rep C (σ.set a o') h' ∧ Stp σ (σ.set a o') h h' := by
  have kk : Keeps σ h h' := fun b co q n => k b co (fun z => by rw [z, e] at n; cases n) q
  refine ⟨⟨R.ok, fun b co q => k b co (fun z => by have := (R.off a o e).1; rw [z, this] at q; cases q) (R.base b co q), fun b o₂ q => ?_, fun b o₂ q => ?_⟩, ⟨kk, fun b o₂ q => ?_, fun b co q => by
      by_cases z : b = a
      · subst z; obtain ⟨c2, e2, _⟩ := r.cls; exact ⟨c2, e2⟩
      · exact ⟨co, k b co z q⟩⟩⟩
  · by_cases z : b = a
    · subst z; exact R.off b o e
    · rw [Store.set_ne z] at q; exact R.off b o₂ q
  · by_cases z : b = a
    · subst z; simp at q; subst q; exact r
    · rw [Store.set_ne z] at q; exact (R.objs b o₂ q).keep (R.im kk) fun co q => k _ _ z q
  · by_cases z : b = a
    · subst z; exact .inl ⟨o, e⟩
    · rw [Store.set_ne z] at q; exact .inl ⟨o₂, q⟩

theorem Ew_Tuple {elts : List Expr} {k pos} {Q : V → Store → Prop}
    (h : Ew C d env ρ VRels (spliced (backTo pos (starEach elts env))) (fun vs σ₁ => vs.length ≤ 1000000 ∧ Q (.tup vs) σ₁) σ) : Ew C d env ρ VRel (eval (.Tuple elts k pos) env) Q σ :=
  fun A E s Qc rm Rp F hq => wpAny_Tuple (h A E s _ rm Rp F fun vs σ₁ xs h₁ k₁ q₁ R₁ r₁ s₁ => by
    refine ⟨by rw [r₁.length, sizeLine_eq]; exact Nat.le_trans q₁.1 (by decide), ?_⟩
    obtain ⟨R₂, s₂⟩ := R₁.push { cls := .type "tuple", data := .seq xs.toArray }
    exact hq _ _ _ _ k₁ q₁.2 R₂ ⟨_, _, _, rfl, Heap.get?_push_size _ rfl, by simpa using R₁.vals s₂.keep r₁⟩ (s₁.trans s₂))
theorem Ew_List {elts : List Expr} {pos} {Q : V → Store → Prop}
    (h : Ew C d env ρ VRels (spliced (backTo pos (starEach elts env))) (fun vs σ₁ => vs.length ≤ 1000000 ∧ ∀ a, σ₁ a = none → Q (.ref a) (σ₁.set a (.list vs))) σ) : Ew C d env ρ VRel (eval (.List elts pos) env) Q σ :=
  fun A E s Qc rm Rp F hq => wpAny_List (h A E s _ rm Rp F fun vs σ₁ xs h₁ k₁ q₁ R₁ r₁ s₁ => by
    refine ⟨by rw [r₁.length, sizeLine_eq]; exact Nat.le_trans q₁.1 (by decide), ?_⟩
    have kp : ∀ b o, h₁.get? b = some o → (h₁.push { cls := .type "list", data := .seq xs.toArray }).get? b = some o := fun b o e => Heap.get?_push_of_some _ e
    have e1 : h₁.get? h₁.objs.size = none := by
      cases q : h₁.get? h₁.objs.size with
      | none => rfl
      | some o => exact absurd (Heap.lt_size q) (Nat.lt_irrefl _)
    obtain ⟨R₂, s₂, n⟩ := R₁.alloc (o := .list vs) e1 R₁.size.1 R₁.size.2 kp ⟨_, ⟨_, Heap.get?_push_size _ rfl⟩, by simpa using VRels.keep (fun b o q _ => kp b o q) _ _ r₁⟩
    exact hq _ _ _ _ k₁ (q₁.2 _ n) R₂ rfl (s₁.trans s₂))
end
end Mine

open PySem PySem.W PyProof.Rows PySem.Calls PyProof.V PySem.Spec PySem.SeqAt
set_option Elab.async false
set_option linter.all false
set_option maxRecDepth 100000
namespace Mine
section
variable {C : Cx} {d : Nat} {env : Env} {ρ : Fra} {σ : Store}

theorem IntsOf {h : Heap} : ∀ {ns : List Int} {ws : List Value}, VRels h (ns.map V.int) ws → IntsAre ws ns
  | [], ws, x => by have e : ws = [] := x; subst e; exact .nil
  | n :: ns, ws, x => by
    obtain ⟨w, ws', rfl, ⟨t, rfl⟩, b⟩ := x
    exact .cons _ _ (IntsOf b)
theorem ofInts {h : Heap} : ∀ {ns : List Int} {ws : List Value}, IntsAre ws ns → VRels h (ns.map V.int) ws
  | _, _, .nil => VRels.nil
  | _, _, .cons n t r => VRels.cons ⟨t, rfl⟩ (ofInts r)

theorem O2_add {a b : Int} {Q : V → Store → Prop} (h : Q (.int (a + b)) σ) : Ow2 C d VRel (.int a) (.int b) (binaryOp .Add) Q σ := by
  rintro A E s Qc _ _ rm Rp ⟨t, rfl⟩ ⟨u, rfl⟩ hq
  exact P.add_int (hq _ _ _ s.heap _ h Rp ⟨_, rfl⟩ (Stp.refl ..))
theorem O2_mul {a b : Int} {Q : V → Store → Prop} (hm : Builtin.Int.intBits a ≤ 64) (h : Q (.int (a * b)) σ) : Ow2 C d VRel (.int a) (.int b) (binaryOp .Mult) Q σ := by
  rintro A E s Qc _ _ rm Rp ⟨t, rfl⟩ ⟨u, rfl⟩ hq
  exact P.mul_int (hq _ _ _ s.heap _ h Rp ⟨_, rfl⟩ (Stp.refl ..)) (IntMulOk.of_left hm)
theorem O2_fdiv {a b : Int} {Q : V → Store → Prop} (hb : b ≠ 0) (hp : Builtin.divisionGoesByPylong a b = false) (h : Q (.int (a.fdiv b)) σ) : Ow2 C d VRel (.int a) (.int b) (binaryOp .FloorDiv) Q σ := by
  rintro A E s Qc _ _ rm Rp ⟨t, rfl⟩ ⟨u, rfl⟩ hq
  exact floordiv_int hb (hq _ _ _ s.heap _ h Rp ⟨_, rfl⟩ (Stp.refl ..)) (.inl hp)
theorem O2_fmod {a b : Int} {Q : V → Store → Prop} (hb : b ≠ 0) (h : Q (.int (a.fmod b)) σ) : Ow2 C d VRel (.int a) (.int b) (binaryOp .Mod) Q σ := by
  rintro A E s Qc _ _ rm Rp ⟨t, rfl⟩ ⟨u, rfl⟩ hq
  exact mod_int' hb (hq _ _ _ s.heap _ h Rp ⟨_, rfl⟩ (Stp.refl ..))
theorem O2_pow {a n : Int} {Q : V → Store → Prop} (hn : 0 ≤ n) (hsz : (Builtin.Int.intBits a : Int) * n ≤ 2 ^ 27) (h : Q (.int (a ^ n.toNat)) σ) : Ow2 C d VRel (.int a) (.int n) (binaryOp .Pow) Q σ := by
  rintro A E s Qc _ _ rm Rp ⟨t, rfl⟩ ⟨u, rfl⟩ hq
  exact pow_int hn hsz (hq _ _ _ s.heap _ h Rp ⟨_, rfl⟩ (Stp.refl ..))
theorem O1_neg {a : Int} {Q : V → Store → Prop} (h : Q (.int (-a)) σ) : Ow1 C d VRel (.int a) (unaryOp .USub) Q σ := by
  rintro A E s Qc _ rm Rp ⟨t, rfl⟩ hq
  exact P.neg_int (hq _ _ _ s.heap _ h Rp ⟨_, rfl⟩ (Stp.refl ..))

theorem O2_eq {a b : Int} {Q : V → Store → Prop} (h : Q (.bool (a == b)) σ) : Ow2 C d VRel (.int a) (.int b) (compareOp .Eq) Q σ := by
  rintro A E s Qc _ _ rm Rp ⟨t, rfl⟩ ⟨u, rfl⟩ hq
  exact P.eq_int (hq _ _ _ s.heap s.toks h Rp rfl (Stp.refl ..))
theorem O2_ne {a b : Int} {Q : V → Store → Prop} (h : Q (.bool (a != b)) σ) : Ow2 C d VRel (.int a) (.int b) (compareOp .NotEq) Q σ := by
  rintro A E s Qc _ _ rm Rp ⟨t, rfl⟩ ⟨u, rfl⟩ hq
  exact P.ne_int (hq _ _ _ s.heap s.toks h Rp rfl (Stp.refl ..))
theorem O2_lt {a b : Int} {Q : V → Store → Prop} (h : Q (.bool (decide (a < b))) σ) : Ow2 C d VRel (.int a) (.int b) (compareOp .Lt) Q σ := by
  rintro A E s Qc _ _ rm Rp ⟨t, rfl⟩ ⟨u, rfl⟩ hq
  exact P.lt_int (hq _ _ _ s.heap s.toks h Rp rfl (Stp.refl ..))
theorem O2_le {a b : Int} {Q : V → Store → Prop} (h : Q (.bool (decide (a ≤ b))) σ) : Ow2 C d VRel (.int a) (.int b) (compareOp .LtE) Q σ := by
  rintro A E s Qc _ _ rm Rp ⟨t, rfl⟩ ⟨u, rfl⟩ hq
  exact P.le_int (hq _ _ _ s.heap s.toks h Rp rfl (Stp.refl ..))
theorem O2_gt {a b : Int} {Q : V → Store → Prop} (h : Q (.bool (decide (a > b))) σ) : Ow2 C d VRel (.int a) (.int b) (compareOp .Gt) Q σ := by
  rintro A E s Qc _ _ rm Rp ⟨t, rfl⟩ ⟨u, rfl⟩ hq
  exact P.gt_int (hq _ _ _ s.heap s.toks h Rp rfl (Stp.refl ..))
theorem O2_ge {a b : Int} {Q : V → Store → Prop} (h : Q (.bool (decide (a ≥ b))) σ) : Ow2 C d VRel (.int a) (.int b) (compareOp .GtE) Q σ := by
  rintro A E s Qc _ _ rm Rp ⟨t, rfl⟩ ⟨u, rfl⟩ hq
  exact P.ge_int (hq _ _ _ s.heap s.toks h Rp rfl (Stp.refl ..))
theorem O2_eqStr {x y : Str} {Q : V → Store → Prop} (h : Q (.bool (x == y)) σ) : Ow2 C d VRel (.str x) (.str y) (compareOp .Eq) Q σ := by
  rintro A E s Qc _ _ rm Rp ⟨t, rfl⟩ ⟨u, rfl⟩ hq
  exact PyProof.Rows.eq_str (hq _ _ _ s.heap s.toks h Rp rfl (Stp.refl ..))
theorem O2_neStr {x y : Str} {Q : V → Store → Prop} (h : Q (.bool (x != y)) σ) : Ow2 C d VRel (.str x) (.str y) (compareOp .NotEq) Q σ := by
  rintro A E s Qc _ _ rm Rp ⟨t, rfl⟩ ⟨u, rfl⟩ hq
  exact PyProof.Rows.ne_str (hq _ _ _ s.heap s.toks h Rp rfl (Stp.refl ..))
theorem O2_eqBool {x y : Bool} {Q : V → Store → Prop} (h : Q (.bool (x == y)) σ) : Ow2 C d VRel (.bool x) (.bool y) (compareOp .Eq) Q σ := by
  intro A E s Qc a b rm Rp e1 e2 hq
  have e1 : a = .bool x := e1
  have e2 : b = .bool y := e2
  subst e1 e2
  exact PyProof.Rows.eq_bool (hq _ _ _ s.heap s.toks h Rp rfl (Stp.refl ..))

/-! lists -/
theorem Rep.list {h : Heap} (R : Rep C σ h) {a : Addr} {vs : List V} (e : σ a = some (.list vs)) : ∃ ws, h.PlainList a ws ∧ VRels h vs ws.toList := R.objs a _ e

theorem units_ok {A : Around} (rm : Room d A) : A.units + 64 < cLine := by have := rm.units; have e : cLine = 9900 := rfl; omega

theorem O2_eqInts {a b : Addr} {ns ms : List Int} {Q : V → Store → Prop} (ha : σ a = some (.list (ns.map V.int))) (hb : σ b = some (.list (ms.map V.int))) (h : Q (.bool (decide (ns = ms))) σ) :
    Ow2 C d VRel (.ref a) (.ref b) (compareOp .Eq) Q σ := by
  intro A E s Qc u v rm Rp e1 e2 hq
  have e1 : u = .ref a := e1
  have e2 : v = .ref b := e2
  subst e1 e2
  obtain ⟨ws, l1, r1⟩ := Rp.list ha
  obtain ⟨ws', l2, r2⟩ := Rp.list hb
  exact eq_intsK (by simpa using l1.isList) (IntsOf r1) (by simpa using l2.isList) (IntsOf r2) (units_ok rm) (hq _ _ _ s.heap s.toks h Rp rfl (Stp.refl ..))
theorem O2_neInts {a b : Addr} {ns ms : List Int} {Q : V → Store → Prop} (ha : σ a = some (.list (ns.map V.int))) (hb : σ b = some (.list (ms.map V.int))) (h : Q (.bool (!decide (ns = ms))) σ) :
    Ow2 C d VRel (.ref a) (.ref b) (compareOp .NotEq) Q σ := by
  intro A E s Qc u v rm Rp e1 e2 hq
  have e1 : u = .ref a := e1
  have e2 : v = .ref b := e2
  subst e1 e2
  obtain ⟨ws, l1, r1⟩ := Rp.list ha
  obtain ⟨ws', l2, r2⟩ := Rp.list hb
  exact ne_intsK (by simpa using l1.isList) (IntsOf r1) (by simpa using l2.isList) (IntsOf r2) (units_ok rm) (hq _ _ _ s.heap s.toks h Rp rfl (Stp.refl ..))

/-- a list of one-int tuples -/
def tup1 (n : Int) : V := .tup [.int n]
def ptup1 (n : Int) : PyData := .tuple [.int n]
theorem reads_tup1 {h : Heap} : ∀ {ns : List Int} {ws : List Value}, VRels h (ns.map tup1) ws → ReadsAll h ws (ns.map ptup1) []
  | [], ws, x => by have e : ws = [] := x; subst e; exact .nil
  | n :: ns, ws, x => by
    obtain ⟨w, ws', rfl, ⟨a, k, us, rfl, ha, hu⟩, b⟩ := x
    obtain ⟨w1, us', e1, ⟨t, rfl⟩, e2⟩ := hu
    have e2 : us' = [] := e2
    subst e2
    have r1 : ReadsAll h us.toList [.int n] [] := by rw [e1]; exact ReadsAll.cons (Reads.int n t) .nil
    exact ReadsAll.cons (bs := []) (Reads.tuple ha rfl rfl r1) (reads_tup1 b)
theorem canLay_tup1 : ∀ ns : List Int, PyData.canLayAll0 (ns.map ptup1) = true
  | [] => by simp [PyData.canLayAll0]
  | n :: r => by simp [PyData.canLayAll0, PyData.canLay0, ptup1, canLay_tup1 r]
theorem depth_tup1 : ∀ ns : List Int, PyData.depthAll (ns.map ptup1) ≤ 4
  | [] => by simp [PyData.depthAll]
  | n :: r => by
    have := depth_tup1 r
    simp only [List.map_cons, PyData.depthAll, PyData.depth, ptup1] at *
    omega
theorem shaped_tup1 (ns : List Int) : shaped (.list (ns.map ptup1)) = true := by
  have h1 := depth_tup1 ns
  have h2 : PyData.depth (.list (ns.map ptup1)) ≤ 64 := by simp only [PyData.depth]; omega
  show (PyData.canLay0 (.list (ns.map ptup1)) && decide (PyData.depth (.list (ns.map ptup1)) ≤ 64)) = true
  rw [Bool.and_eq_true]
  exact ⟨by simp only [PyData.canLay0]; exact canLay_tup1 ns, decide_eq_true h2⟩
theorem noMix_tup1 : ∀ ns ms : List Int, noMixAll (ns.map ptup1) (ms.map ptup1) = true
  | [], [] => by simp [noMixAll]
  | [], _ :: _ => by simp [noMixAll]
  | _ :: _, [] => by simp [noMixAll]
  | _ :: r, _ :: q => by simp [noMixAll, noMix, ptup1, noMix_tup1 r q]
theorem same_tup1 : ∀ ns ms : List Int, PySem.Spec.sameAll (ns.map ptup1) (ms.map ptup1) = decide (ns = ms)
  | [], [] => by simp [PySem.Spec.sameAll]
  | [], _ :: _ => by simp [PySem.Spec.sameAll]
  | _ :: _, [] => by simp [PySem.Spec.sameAll]
  | n :: r, k :: q => by
    have e : PySem.Spec.same (ptup1 n) (ptup1 k) = decide (n = k) := by by_cases h : n = k <;> simp [ptup1, PySem.Spec.same, PySem.Spec.sameAll, h]
    simp only [List.map_cons, PySem.Spec.sameAll, e, same_tup1 r q]
    by_cases h : n = k <;> simp [h]

theorem O2_eqTup1 {a b : Addr} {ns ms : List Int} {Q : V → Store → Prop} (ha : σ a = some (.list (ns.map tup1))) (hb : σ b = some (.list (ms.map tup1))) (h : Q (.bool (decide (ns = ms))) σ) :
    Ow2 C d VRel (.ref a) (.ref b) (compareOp .Eq) Q σ := by
  intro A E s Qc u v rm Rp e1 e2 hq
  have e1 : u = .ref a := e1
  have e2 : v = .ref b := e2
  subst e1 e2
  obtain ⟨ws, ⟨n1, l1⟩, r1⟩ := Rp.list ha
  obtain ⟨ws', ⟨n2, l2⟩, r2⟩ := Rp.list hb
  exact eq_dataH_same (Reads.list l1 rfl rfl (reads_tup1 r1)) (Reads.list l2 rfl rfl (reads_tup1 r2)) (shaped_tup1 ns) (shaped_tup1 ms) (units_ok rm)
    (by simp only [noMix]; exact noMix_tup1 ns ms) (by simp only [PySem.Spec.same]; rw [same_tup1]; exact hq _ _ _ s.heap s.toks h Rp rfl (Stp.refl ..))

/-- list + list -/
theorem O2_addList {a b : Addr} {us vs : List V} {Q : V → Store → Prop} (ha : σ a = some (.list us)) (hb : σ b = some (.list vs)) (hsz : us.length + vs.length ≤ 1000000)
    (h : ∀ c, σ c = none → Q (.ref c) (σ.set c (.list (us ++ vs)))) : Ow2 C d VRel (.ref a) (.ref b) (binaryOp .Add) Q σ := by
  intro A E s Qc u v rm Rp e1 e2 hq
  have e1 : u = .ref a := e1
  have e2 : v = .ref b := e2
  subst e1 e2
  obtain ⟨ws, ⟨n1, l1⟩, r1⟩ := Rp.list ha
  obtain ⟨ws', ⟨n2, l2⟩, r2⟩ := Rp.list hb
  have z1 := r1.length
  have z2 := r2.length
  refine P.add_list l1 l2 ?_ (by rw [sizeLine_eq]; simp only [Array.length_toList] at z1 z2; omega)
  have kp : ∀ b o, s.heap.get? b = some o → (s.heap.push { cls := .type "list", data := .seq (ws ++ ws') }).get? b = some o := fun b o e => Heap.get?_push_of_some _ e
  have e1 : s.heap.get? s.heap.objs.size = none := by
    cases q : s.heap.get? s.heap.objs.size with
    | none => rfl
    | some o => exact absurd (Heap.lt_size q) (Nat.lt_irrefl _)
  obtain ⟨R₂, s₂, n⟩ := Rp.alloc (o := .list (us ++ vs)) e1 Rp.size.1 Rp.size.2 kp ⟨_, ⟨_, Heap.get?_push_size _ rfl⟩, by
    rw [Array.toList_append]; exact VRels.keep (fun b o q _ => kp b o q) _ _ (r1.append r2)⟩
  exact hq _ _ _ _ s.toks (h _ n) R₂ rfl s₂

/-! membership -/
theorem eqAt_int {A : Around} {s : Shared} {a b : Int} {t u : Tok} : SeqAt.EqAt A s (.int a t) (.int b u) (a == b) := fun _ _ _ _ h => wpAny_eqBool_int h
theorem eqAt_str {A : Around} {s : Shared} {a b : Str} {t u : Tok} : SeqAt.EqAt A s (.str a t) (.str b u) (decide (a = b)) := fun _ _ _ _ h => wpAny_eqBool_str h

def isI (k : Int) : Value → Bool
  | .int n _ => n == k
  | _ => false
theorem any_ints {k : Int} : ∀ {ns : List Int} {ws : List Value}, IntsAre ws ns → ws.any (isI k) = decide (k ∈ ns)
  | _, _, .nil => by simp
  | _, _, .cons n t r => by
    rw [List.any_cons, any_ints r]
    by_cases h : n = k
    · subst h; simp [isI]
    · have h' : ¬ k = n := fun e => h e.symm
      simp [isI, h, h']
theorem ints_mem : ∀ {ns : List Int} {ws : List Value}, IntsAre ws ns → ∀ y ∈ ws, ∃ n t, y = .int n t
  | _, _, .nil, y, h => by cases h
  | _, _, .cons n t r, y, h => by
    rcases List.mem_cons.mp h with rfl | h
    · exact ⟨n, t, rfl⟩
    · exact ints_mem r y h

theorem O2_inInts {a : Addr} {k : Int} {ns : List Int} {Q : V → Store → Prop} (ha : σ a = some (.list (ns.map V.int))) (h : Q (.bool (decide (k ∈ ns))) σ) :
    Ow2 C d VRel (.int k) (.ref a) (compareOp .In) Q σ := by
  rintro A E s Qc _ v rm Rp ⟨t, rfl⟩ e2 hq
  have e2 : v = .ref a := e2
  subst e2
  obtain ⟨ws, l1, r1⟩ := Rp.list ha
  have hi := IntsOf r1
  refine SeqAt.in_listAt (isI k) l1.isList (fun y hy => ?_) ?_
  · obtain ⟨n, u, rfl⟩ := ints_mem hi y (by simpa using hy)
    exact eqAt_int
  · rw [← Array.any_toList, any_ints hi]; exact hq _ _ _ s.heap s.toks h Rp rfl (Stp.refl ..)
theorem O2_notInInts {a : Addr} {k : Int} {ns : List Int} {Q : V → Store → Prop} (ha : σ a = some (.list (ns.map V.int))) (h : Q (.bool (!decide (k ∈ ns))) σ) :
    Ow2 C d VRel (.int k) (.ref a) (compareOp .NotIn) Q σ := by
  rintro A E s Qc _ v rm Rp ⟨t, rfl⟩ e2 hq
  have e2 : v = .ref a := e2
  subst e2
  obtain ⟨ws, l1, r1⟩ := Rp.list ha
  have hi := IntsOf r1
  refine SeqAt.notIn_listAt (isI k) l1.isList (fun y hy => ?_) ?_
  · obtain ⟨n, u, rfl⟩ := ints_mem hi y (by simpa using hy)
    exact eqAt_int
  · rw [← Array.any_toList, any_ints hi]; exact hq _ _ _ s.heap s.toks h Rp rfl (Stp.refl ..)

def isS (k : Str) : Value → Bool
  | .str n _ => decide (n = k)
  | _ => false
theorem any_strs {h : Heap} {k : Str} : ∀ {xs : List Str} {ws : List Value}, VRels h (xs.map V.str) ws → ws.any (isS k) = decide (k ∈ xs) ∧ ∀ y ∈ ws, ∃ n t, y = .str n t
  | [], ws, x => by have e : ws = [] := x; subst e; simp
  | n :: r, ws, x => by
    obtain ⟨w, ws', rfl, ⟨t, rfl⟩, b⟩ := x
    obtain ⟨e, m⟩ := any_strs (k := k) b
    refine ⟨?_, fun y hy => ?_⟩
    · rw [List.any_cons, e]
      by_cases h : n = k
      · subst h; simp [isS]
      · have h' : ¬ k = n := fun e => h e.symm
        simp [isS, h, h']
    · rcases List.mem_cons.mp hy with rfl | hy
      · exact ⟨n, t, rfl⟩
      · exact m y hy
theorem O2_notInStrs {k : Str} {xs : List Str} {Q : V → Store → Prop} (h : Q (.bool (!decide (k ∈ xs))) σ) :
    Ow2 C d VRel (.str k) (.tup (xs.map V.str)) (compareOp .NotIn) Q σ := by
  rintro A E s Qc _ v rm Rp ⟨t, rfl⟩ ⟨a, n, ws, rfl, ha, r⟩ hq
  obtain ⟨e, m⟩ := any_strs (k := k) r
  refine SeqAt.notIn_tupleAt (isS k) ⟨_, ha, rfl, n, rfl⟩ (fun y hy => ?_) ?_
  · obtain ⟨n, u, rfl⟩ := m y (by simpa using hy)
    exact eqAt_str
  · rw [← Array.any_toList, e]; exact hq _ _ _ s.heap s.toks h Rp rfl (Stp.refl ..)

/-! dicts keyed by ints -/
def hasK {K : Type} [DecidableEq K] (k : K) (kvs : List (K × V)) : Bool := decide (k ∈ kvs.map (·.1))
def getK {K : Type} [DecidableEq K] (k : K) (kvs : List (K × V)) : Option V := (kvs.find? fun kv => kv.1 = k).map (·.2)
def putK {K : Type} [DecidableEq K] (k : K) (v : V) (kvs : List (K × V)) : List (K × V) :=
  if k ∈ kvs.map (·.1) then kvs.map (fun kv => if kv.1 = k then (kv.1, v) else kv) else kvs ++ [(k, v)]

theorem valueAt_isSome {K : Type} [DecidableEq K] (k : K) : ∀ {cvs : List (K × Value)} {kvs : List (K × V)}, cvs.map (·.1) = kvs.map (·.1) → (valueAt cvs k).isSome = hasK k kvs
  | [], [], _ => rfl
  | [], _ :: _, e => by simp at e
  | _ :: _, [], e => by simp at e
  | c :: cs, v :: vs, e => by
    simp only [List.map_cons, List.cons.injEq] at e
    have ih := valueAt_isSome k e.2
    unfold valueAt hasK at *
    simp only [List.find?_cons, List.map_cons, List.mem_cons, Option.isSome_map] at *
    by_cases h : c.1 = k
    · simp [h, ← e.1]
    · have h' : ¬ k = v.1 := fun q => h (by rw [e.1, q])
      simp only [decide_eq_false h, h', false_or]
      exact ih
theorem valueAt_rel {K : Type} [DecidableEq K] {h : Heap} {k : K} : ∀ {cvs : List (K × Value)} {kvs : List (K × V)} {v : V}, cvs.map (·.1) = kvs.map (·.1) → VRels h (kvs.map (·.2)) (cvs.map (·.2)) → getK k kvs = some v → ∃ w, valueAt cvs k = some w ∧ VRel h v w
  | [], [], _, _, _, g => by simp [getK] at g
  | [], _ :: _, _, e, _, _ => by simp at e
  | _ :: _, [], _, e, _, _ => by simp at e
  | c :: cs, u :: us, v, e, r, g => by
    simp only [List.map_cons, List.cons.injEq] at e
    obtain ⟨w, ws', e2, a, b⟩ := r
    simp only [List.map_cons, List.cons.injEq] at e2
    unfold getK at g
    unfold valueAt
    simp only [List.find?_cons] at *
    by_cases h : u.1 = k
    · have h' : c.1 = k := e.1.trans h
      simp only [h, decide_true, Option.map_some, Option.some.injEq] at g
      subst g
      simp only [h', decide_true, Option.map_some]
      exact ⟨_, rfl, by rw [e2.1]; exact a⟩
    · have h' : ¬ c.1 = k := fun q => h (e.1.symm.trans q)
      simp only [h, h', decide_false] at *
      obtain ⟨w', x1, x2⟩ := valueAt_rel (k := k) e.2 (by rw [e2.2]; exact b) (by unfold getK; exact g)
      exact ⟨w', by unfold valueAt at x1; exact x1, x2⟩
theorem stored_keys {K : Type} [DecidableEq K] {h : Heap} {k : K} {v : V} {w : Value} {cvs : List (K × Value)} {kvs : List (K × V)} (e : cvs.map (·.1) = kvs.map (·.1)) (r : VRels h (kvs.map (·.2)) (cvs.map (·.2))) (rv : VRel h v w) :
    (stored cvs k w).map (·.1) = (putK k v kvs).map (·.1) ∧ VRels h ((putK k v kvs).map (·.2)) ((stored cvs k w).map (·.2)) := by
  have hc : (cvs.any fun kv => decide (kv.1 = k)) = true ↔ k ∈ kvs.map (·.1) := by
    rw [← e]; simp [List.any_eq_true]
  unfold stored putK
  by_cases hk : k ∈ kvs.map (·.1)
  · rw [if_pos (hc.mpr hk), if_pos hk]
    refine ⟨?_, ?_⟩
    · have h1 : ∀ l : List (K × Value), (l.map fun kv => if kv.1 = k then (kv.1, w) else kv).map (·.1) = l.map (·.1) := fun l => by
        rw [List.map_map]; apply List.map_congr_left; intro x _; simp only [Function.comp]; split <;> rfl
      have h2 : ∀ l : List (K × V), (l.map fun kv => if kv.1 = k then (kv.1, v) else kv).map (·.1) = l.map (·.1) := fun l => by
        rw [List.map_map]; apply List.map_congr_left; intro x _; simp only [Function.comp]; split <;> rfl
      rw [h1, h2, e]
    · clear hc hk
      induction cvs generalizing kvs with
      | nil => cases kvs with
        | nil => exact VRels.nil
        | cons _ _ => simp at e
      | cons c cs ih => cases kvs with
        | nil => simp at e
        | cons u us =>
          simp only [List.map_cons, List.cons.injEq] at e
          obtain ⟨w', ws', e2, a, b⟩ := r
          simp only [List.map_cons, List.cons.injEq] at e2
          simp only [List.map_cons]
          refine VRels.cons ?_ (ih e.2 (by rw [e2.2]; exact b))
          by_cases q : c.1 = k
          · rw [if_pos q, if_pos (e.1.symm.trans q)]; exact rv
          · rw [if_neg q, if_neg (fun z => q (e.1.trans z))]; rw [e2.1]; exact a
  · rw [if_neg (fun z => hk (hc.mp z)), if_neg hk]
    refine ⟨by simp [e], ?_⟩
    simp only [List.map_append, List.map_cons, List.map_nil]
    exact r.append (VRels.cons rv VRels.nil)
end
end Mine

open PySem PySem.W PyProof.Rows PySem.Calls PyProof.V PySem.Spec PySem.SeqAt
set_option Elab.async false
set_option linter.all false
set_option maxRecDepth 100000
namespace Mine
section
variable {C : Cx} {d : Nat} {env : Env} {ρ : Fra} {σ : Store}

theorem intIs (prog : Program) (w : World) (k : Int) (t : Tok) : (intKind prog w).is k (.int k t) = true := intKind_is prog w k t

theorem O2_inD {a : Addr} {k : Int} {kvs : List (Int × V)} {Q : V → Store → Prop} (ha : σ a = some (.idict kvs)) (h : Q (.bool (hasK k kvs)) σ) : Ow2 C d VRel (.int k) (.ref a) (compareOp .In) Q σ := by
  rintro A E s Qc _ v rm Rp ⟨t, rfl⟩ e2 hq
  have e2 : v = .ref a := e2
  subst e2
  obtain ⟨cvs, hd, hk, r⟩ := Rp.objs a _ ha
  exact wpAny_in_of (intIs _ _ k t) (Rp.off a _ ha).2 hd.mapOf (by rw [valueAt_isSome k hk]; exact hq _ _ _ s.heap _ h Rp rfl (Stp.refl ..))
theorem O2_notInD {a : Addr} {k : Int} {kvs : List (Int × V)} {Q : V → Store → Prop} (ha : σ a = some (.idict kvs)) (h : Q (.bool (!hasK k kvs)) σ) : Ow2 C d VRel (.int k) (.ref a) (compareOp .NotIn) Q σ := by
  rintro A E s Qc _ v rm Rp ⟨t, rfl⟩ e2 hq
  have e2 : v = .ref a := e2
  subst e2
  obtain ⟨cvs, hd, hk, r⟩ := Rp.objs a _ ha
  exact wpAny_notIn_of (intIs _ _ k t) (Rp.off a _ ha).2 hd.mapOf (by rw [valueAt_isSome k hk]; exact hq _ _ _ s.heap _ h Rp rfl (Stp.refl ..))

/-- the items of a container -/
theorem O2_getL {a : Addr} {k : Int} {vs : List V} {v : V} {Q : V → Store → Prop} (ha : σ a = some (.list vs)) (h0 : 0 ≤ k) (hv : vs[k.toNat]? = some v) (hz : vs.length ≤ 1000000) (h : Q v σ) : Ow2 C d VRel (.ref a) (.int k) getItem Q σ := by
  rintro A E s Qc u _ rm Rp e1 ⟨t, rfl⟩ hq
  have e1 : u = .ref a := e1
  subst e1
  obtain ⟨ws, l, r⟩ := Rp.list ha
  obtain ⟨w, e, rv⟩ := r.at hv
  have hlt : k.toNat < vs.length := (List.getElem?_eq_some_iff.mp hv).1
  exact wpAny_getItem_list l.isList h0 (by omega) (by rw [← Array.getElem?_toList]; exact e) (hq _ _ _ s.heap s.toks h Rp rv (Stp.refl ..))
theorem O2_getT {k : Int} {vs : List V} {v : V} {Q : V → Store → Prop} (h0 : 0 ≤ k) (hv : vs[k.toNat]? = some v) (hz : vs.length ≤ 1000000) (h : Q v σ) : Ow2 C d VRel (.tup vs) (.int k) getItem Q σ := by
  rintro A E s Qc _ _ rm Rp ⟨a, n, ws, rfl, ha, r⟩ ⟨t, rfl⟩ hq
  obtain ⟨w, e, rv⟩ := r.at hv
  have hlt : k.toNat < vs.length := (List.getElem?_eq_some_iff.mp hv).1
  have hsz : ws.size = vs.length := by have := r.length; simpa using this
  exact PyProof.Rows.getItem_tuple (j := k.toNat) ⟨_, ha, rfl, n, rfl⟩ (by omega) (by omega) (by
      unfold seqIndex?
      rw [hsz]
      split <;> first | omega | (split <;> first | rfl | omega) | simp_all <;> omega) (by rw [← Array.getElem?_toList]; exact e) (hq _ _ _ s.heap s.toks h Rp rv (Stp.refl ..))
theorem O2_getD {a : Addr} {k : Int} {kvs : List (Int × V)} {v : V} {Q : V → Store → Prop} (ha : σ a = some (.idict kvs)) (hv : getK k kvs = some v) (h : Q v σ) : Ow2 C d VRel (.ref a) (.int k) getItem Q σ := by
  rintro A E s Qc u _ rm Rp e1 ⟨t, rfl⟩ hq
  have e1 : u = .ref a := e1
  subst e1
  obtain ⟨cvs, hd, hk, r⟩ := Rp.objs a _ ha
  obtain ⟨w, e, rv⟩ := valueAt_rel hk r hv
  exact wpAny_getItem_of (intIs _ _ k t) hd.mapOf e (hq _ _ _ s.heap _ h Rp rv (Stp.refl ..))
theorem O2_getS {a : Addr} {k : Str} {kvs : List (Str × V)} {v : V} {Q : V → Store → Prop} (ha : σ a = some (.sdict kvs)) (hv : getK k kvs = some v) (h : Q v σ) : Ow2 C d VRel (.ref a) (.str k) getItem Q σ := by
  rintro A E s Qc u _ rm Rp e1 ⟨t, rfl⟩ hq
  have e1 : u = .ref a := e1
  subst e1
  obtain ⟨cvs, hd, hk, r⟩ := Rp.objs a _ ha
  obtain ⟨w, e, rv⟩ := valueAt_rel hk r hv
  exact wpAny_getItem_of (strKind_is _ _ k t) hd.mapOf e (hq _ _ _ s.heap _ h Rp rv (Stp.refl ..))

theorem ITEM_types {v : V} {w : Value} {s : Shared} (h : VRel s.heap v w) (hv : (∃ vs, v = .tup vs) ∨ ∃ a o, v = .ref a ∧ σ a = some o ∧ ∀ k f, o ≠ .ns k f) (R : Rep C σ s.heap) :
    ∃ T id, s.TypeIs w T ∧ typeLookup (.type T) "__getitem__" = pure (some (.builtin id)) := by
  rcases hv with ⟨vs, rfl⟩ | ⟨a, o, rfl, e, hns⟩
  · obtain ⟨a, n, ws, rfl, ha, _⟩ := h
    exact ⟨"tuple", _, ⟨_, ha, rfl⟩, slot_tuple_getitem.lookup⟩
  · have h : w = .ref a := h
    subst h
    have r := R.objs a o e
    cases o with
    | list vs => obtain ⟨ws, l, _⟩ := r; exact ⟨"list", _, l.isList.typeIs, slot_list_getitem.lookup⟩
    | idict kvs => obtain ⟨cvs, hd, _⟩ := r; exact ⟨"dict", _, hd.typeIs, slot_dict_getitem.lookup⟩
    | sdict kvs => obtain ⟨cvs, hd, _⟩ := r; exact ⟨"dict", _, hd.typeIs, slot_dict_getitem.lookup⟩
    | ns k f => exact absurd rfl (hns k f)

/-- `o[i]` -/
theorem Ew_Subscript {value slice : Expr} {pos} {Q : V → Store → Prop}
    (h : Ew C d env ρ VRel (eval value env) (fun u σ₁ => Ew C d env ρ VRel (eval slice env) (fun v σ₂ =>
      ((∃ vs, u = .tup vs) ∨ ∃ a o, u = .ref a ∧ σ₂ a = some o ∧ ∀ k f, o ≠ .ns k f) ∧ Ow2 C d VRel u v getItem Q σ₂) σ₁) σ)
    (hs : ∀ o i, ∃ ops, subscripted slice false o i = operate ops (getItem o i) := by intro o i; exact ⟨_, by with_unfolding_all rfl⟩) :
    Ew C d env ρ VRel (eval (.Subscript value slice pos) env) Q σ :=
  fun A E s Qc rm Rp F hq => Subscript_ (h A E s _ rm Rp F fun u σ₁ x h₁ k₁ q₁ R₁ r₁ s₁ => q₁ A E _ _ rm R₁ (F.keep Rp s₁) fun v σ₂ y h₂ k₂ q₂ R₂ r₂ s₂ => by
    obtain ⟨T, id, hT, hl⟩ := ITEM_types (s := { s with heap := h₂, toks := k₂ }) (R₁.val s₂.keep r₁) q₂.1 R₂
    obtain ⟨ops, e⟩ := hs x y
    exact tail_any hT hl (q₂.2 A E _ _ x y rm R₂ (R₁.val s₂.keep r₁) r₂ fun b σ' z h' tk qb R' rb s' => hq b σ' z h' tk qb R' rb ((s₁.trans s₂).trans s')) e)

def Ow3 {α β : Type} (C : Cx) (d : Nat) (R : Heap → β → α → Prop) (u v x : V) (t : Value → Value → Value → Sem α) (Q : β → Store → Prop) (σ : Store) : Prop :=
  ∀ (A : Around) (E : Value → Shared → Prop) (s : Shared) (Qc : α → Shared → Prop) (y w z : Value), Room d A → Rep C σ s.heap → VRel s.heap u y → VRel s.heap v w → VRel s.heap x z →
    (∀ b σ' r h' tk, Q b σ' → Rep C σ' h' → R h' b r → Stp σ σ' s.heap h' → Qc r { s with heap := h', toks := tk }) → wpAny C.M A (t y w z) Qc E s
def URel (_ : Heap) (_ : Unit) (_ : Unit) : Prop := True

theorem hasK_len {K : Type} [DecidableEq K] (k : K) (v : V) (kvs : List (K × V)) : (putK k v kvs).length ≤ kvs.length + 1 := by
  unfold putK; split <;> simp

theorem dict_set {K : Type} [DecidableEq K] {knd : KeyKind C.prog C.w K} {mk : List (K × V) → O} (hmk : ∀ (h : Heap) (a : Addr) (kvs : List (K × V)), ORel C.prog C.w h a (mk kvs) ↔ ∃ cvs : List (K × Value), h.DictOf knd a cvs ∧ cvs.map (·.1) = kvs.map (·.1) ∧ VRels h (kvs.map (·.2)) (cvs.map (·.2)))
    {a : Addr} {kvs : List (K × V)} {k : K} {key : Value} {v : V} {w : Value} {A : Around} {E : Value → Shared → Prop} {s : Shared} {Qc : Unit → Shared → Prop} (hkey : knd.is k key = true) (Rp : Rep C σ s.heap) (ha : σ a = some (mk kvs)) (rv : VRel s.heap v w) (hz : kvs.length ≤ 1000000)
    (hq : ∀ h' tk, Rep C (σ.set a (mk (putK k v kvs))) h' → Stp σ (σ.set a (mk (putK k v kvs))) s.heap h' → Qc () { s with heap := h', toks := tk }) : wpAny C.M A (setItem (.ref a) key w) Qc E s := by
  obtain ⟨cvs, hd, hk, r⟩ := (hmk _ _ _).mp (Rp.objs a _ ha)
  have hlen : cvs.length = kvs.length := by have := congrArg List.length hk; simpa using this
  refine wpAny_setItem_pairs hkey hd (fun h' hd' hs' => ?_) (by rw [hlen, sizeLine_eq]; omega)
  have kp : KeepsIm s.heap h' := fun b o e im => hs'.extBut b o (fun z => by
    subst z
    obtain ⟨o', _, _, e', x, hdd, _⟩ := hd
    rw [e] at e'; cases e'
    exact notIm_dict hdd im) e
  obtain ⟨e1, e2⟩ := stored_keys (h := h') (k := k) (v := v) (w := w) hk (VRels.keep kp _ _ r) (VRel.keep kp _ _ rv)
  obtain ⟨R', s'⟩ := Rp.change (o' := mk (putK k v kvs)) ha (fun b co z e => hs'.extBut b co z e) ((hmk _ _ _).mpr ⟨_, hd', e1, e2⟩)
  exact hq h' _ R' s'

theorem O3_setD {a : Addr} {k : Int} {kvs : List (Int × V)} {v : V} {Q : Unit → Store → Prop} (ha : σ a = some (.idict kvs)) (hz : kvs.length ≤ 1000000) (h : Q () (σ.set a (.idict (putK k v kvs)))) : Ow3 C d URel (.ref a) (.int k) v setItem Q σ := by
  rintro A E s Qc u _ z rm Rp e1 ⟨t, rfl⟩ rv hq
  have e1 : u = .ref a := e1
  subst e1
  exact dict_set (mk := .idict) (fun _ _ _ => Iff.rfl) (intIs _ _ k t) Rp ha rv hz fun h' tk R' s' => hq _ _ _ _ _ h R' trivial s'
theorem O3_setS {a : Addr} {k : Str} {kvs : List (Str × V)} {v : V} {Q : Unit → Store → Prop} (ha : σ a = some (.sdict kvs)) (hz : kvs.length ≤ 1000000) (h : Q () (σ.set a (.sdict (putK k v kvs)))) : Ow3 C d URel (.ref a) (.str k) v setItem Q σ := by
  rintro A E s Qc u _ z rm Rp e1 ⟨t, rfl⟩ rv hq
  have e1 : u = .ref a := e1
  subst e1
  exact dict_set (mk := .sdict) (fun _ _ _ => Iff.rfl) (strKind_is _ _ k t) Rp ha rv hz fun h' tk R' s' => hq _ _ _ _ _ h R' trivial s'

theorem mapSeq_set (its : Array Value) (n i : Nat) (v : Value) :
    Obj.mapSeq (·.setIfInBounds i v) { cls := .type "list", data := .seq its n } = { cls := .type "list", data := .seq (its.setIfInBounds i v) n } := by simp [Obj.mapSeq]
theorem VRels.set {h : Heap} : ∀ {vs : List V} {ws : List Value} {i : Nat} {v : V} {w : Value}, VRels h vs ws → VRel h v w → VRels h (vs.set i v) (ws.set i w)
  | [], ws, i, v, w, x, y => by have e : ws = [] := x; subst e; exact x
  | u :: vs, ws, 0, v, w, x, y => by
    obtain ⟨w', ws', rfl, a, b⟩ := x
    exact VRels.cons y b
  | u :: vs, ws, i + 1, v, w, x, y => by
    obtain ⟨w', ws', rfl, a, b⟩ := x
    exact VRels.cons a (VRels.set b y)
theorem setItem_plain {prog : Program} {w : World} {A : Around} {E : Value → Shared → Prop} {s : Shared} {l : Addr} {its : Array Value} {k : Int} {t : Tok} {v : Value} {Q : Unit → Shared → Prop} (hl : s.heap.PlainList l its) (h0 : 0 ≤ k) (hk : k.toNat < its.size) (hfit : k < 2 ^ 63)
    (hQ : ∀ h', h'.PlainList l (its.setIfInBounds k.toNat v) → Heap.SameBut l s.heap h' → Q () { s with heap := h' }) : wpAny (model prog w) A (setItem (.ref l) (.int k t) v) Q E s := by
  obtain ⟨n, ho⟩ := hl
  have hT : s.TypeIs (.ref l) "list" := ⟨_, ho, rfl⟩
  unfold setItem
  try with_reducible refine wpAny_holding ?_
  refine wpAny_bind (wpAny_sequenceKey hT (by decide) ?_)
  refine wpAny_bind (wpAny_callSpecial?_slot (name := Str.ofString "__setitem__") hT slot_list_setitem
    (wpAny_call_entry slot_list_setitem hT entry_list_setitem ?_ (args_list_setitem _ _ _)))
  show wpAny _ _ (Builtin.List.listSubscript? (.int k t) >>= _) _ _ s
  refine wpAny_bind (wpAny_listSubscript_int (fitsIndex_of h0 hfit) ?_)
  clear hfit
  obtain ⟨j, rfl⟩ := Int.eq_ofNat_of_zero_le h0
  have hj : j < its.size := hk
  show wpAny _ _ ((seqItemAt l j >>= fun r => pure (r.map (j, ·))) >>= _) _ _ s
  refine wpAny_bind (wpAny_bind (wpAny_seqItemAt ho rfl (wpAny_pure ?_)))
  rw [Array.getElem?_eq_getElem hj]
  show wpAny _ _ (setSeqItemAt l j v >>= _) _ _ s
  have fin : (s.heap.update l (Obj.mapSeq (·.setIfInBounds j v))).PlainList l (its.setIfInBounds j v) := ⟨n, by rw [Heap.get?_update_self _ ho (by rw [mapSeq_set]; rfl), mapSeq_set]⟩
  refine wpAny_bind (wpAny_setSeqItemAt ho rfl ?_)
  exact wpAny_pure ⟨.none, rfl, wpAny_pure (hQ _ fin (Heap.SameBut.update ..))⟩
theorem O3_setL {a : Addr} {k : Int} {vs : List V} {v : V} {Q : Unit → Store → Prop} (ha : σ a = some (.list vs)) (h0 : 0 ≤ k) (h1 : k.toNat < vs.length) (hz : vs.length ≤ 1000000) (h : Q () (σ.set a (.list (vs.set k.toNat v)))) : Ow3 C d URel (.ref a) (.int k) v setItem Q σ := by
  rintro A E s Qc u _ z rm Rp e1 ⟨t, rfl⟩ rv hq
  have e1 : u = .ref a := e1
  subst e1
  obtain ⟨ws, l, r⟩ := Rp.list ha
  obtain ⟨j, rfl⟩ := Int.eq_ofNat_of_zero_le h0
  have hsz : ws.size = vs.length := by have := r.length; simpa using this
  simp only [Int.toNat_natCast] at h1 h
  refine setItem_plain l h0 (by simpa [hsz] using h1) (by omega) fun h' l' s' => ?_
  have kp : KeepsIm s.heap h' := fun b o e im => s'.extBut b o (fun z => by
    subst z
    obtain ⟨n, e'⟩ := l
    rw [e] at e'; cases e'
    exact notIm_list rfl rfl im) e
  obtain ⟨R', st⟩ := Rp.change (o' := .list (vs.set j v)) ha (fun b co z e => s'.extBut b co z e) ⟨_, l', by rw [Array.toList_setIfInBounds]; exact (VRels.keep kp _ _ r).set (VRel.keep kp _ _ rv)⟩
  exact hq _ _ _ _ s.toks h R' trivial st
end
end Mine

open PySem PySem.W PyProof.Rows PySem.Calls PyProof.V PySem.Spec PySem.SeqAt
set_option Elab.async false
set_option linter.all false
set_option maxRecDepth 100000
namespace Mine
def Fra.set (ρ : Fra) (x : Str) (v : V) : Fra := fun y => if y = x then some v else ρ y
@[simp] theorem Fra.set_self (ρ : Fra) (x : Str) (v : V) : ρ.set x v x = some v := by simp [Fra.set]
theorem Fra.set_ne {ρ : Fra} {x y : Str} {v : V} (h : y ≠ x) : ρ.set x v y = ρ y := by simp [Fra.set, h]

inductive Fl where
  | next | brk | cont
  | ret (v : V)
def FRel (h : Heap) : Fl → Flow → Prop
  | .next, f => f = .next
  | .brk, f => f = .brk
  | .cont, f => f = .cont
  | .ret v, f => ∃ w, f = .ret w ∧ VRel h v w

section
variable {C : Cx} {d : Nat} {env : Env} {ρ : Fra} {σ : Store}

theorem Heap.Ns.obj {h : Heap} {a : Addr} {m} (n : h.Ns a m) : ∃ o es ep, h.get? a = some o ∧ o.data = .dict es ep := let ⟨o, es, ep, a, b, _⟩ := n; ⟨o, es, ep, a, b⟩

/-- a change at one address that is no object of the store's, nor of the ground, nor an immutable one -/
theorem Rep.aside {h h' : Heap} {a : Addr} {co : Obj} (R : Rep C σ h) (e : h.get? a = some co) (ni : ¬ ImObj co) (n : σ a = none) (g : C.g.get? a = none) (s : Heap.SameBut a h h') : KeepsIm h h' ∧ Rep C σ h' := by
  have k : KeepsIm h h' := fun b o q im => (s.2 b (fun z => by subst z; rw [e] at q; cases q; exact ni im)).trans q
  refine ⟨k, R.ok, fun b o q => (s.2 b (fun z => by subst z; rw [g] at q; cases q)).trans (R.base b o q), R.off, fun b o q => (R.objs b o q).keep k fun co q' => (s.2 b (fun z => by subst z; rw [n] at q; cases q)).trans q'⟩

theorem g_none {h : Heap} {a : Addr} (x : C.g.objs.size ≤ a) : C.g.get? a = none := by
  cases q : C.g.get? a with
  | none => rfl
  | some o => exact absurd (Heap.lt_size q) (Nat.not_lt.mpr x)

theorem wp_storeL {A : Around} {E : Value → Shared → Prop} {s : Shared} {x : Str} {v : V} {w : Value} {Q : Unit → Shared → Prop} (Rp : Rep C σ s.heap) (F : FrameRep C env ρ σ s.heap) (rv : VRel s.heap v w) (hk : env.kindOf x = some .local)
    (hq : ∀ h' tk, Rep C σ h' → FrameRep C env (ρ.set x v) σ h' → Heap.SameBut env.locals s.heap h' → KeepsIm s.heap h' → Q () { s with heap := h', toks := tk }) : wpAny C.M A (storeName env x w) Q E s := by
  obtain ⟨m, hn, hm⟩ := F.ns
  refine wpAny_storeName_local hk hn (fun h' hn' hs' => ?_) (by rw [F.kind]; rfl)
  obtain ⟨co, es, ep, e, ed⟩ := Heap.Ns.obj hn
  obtain ⟨k, R'⟩ := Rp.aside e (notIm_dict ed) F.off F.above hs'
  refine hq h' _ R' ⟨F.kind, F.glob, F.blt, F.above, F.off, ⟨_, hn', fun y u ey ky => ?_⟩, fun y u ey ky => ?_, fun y c ec => ?_, F.apart⟩ hs' k
  · by_cases z : y = x
    · subst z; simp at ey; subst ey; exact ⟨w, by simp, VRel.keep k _ _ rv⟩
    · rw [Fra.set_ne z] at ey
      obtain ⟨w', a, b⟩ := hm y u ey ky
      exact ⟨w', by simp [z, a], VRel.keep k _ _ b⟩
  · have z : y ≠ x := fun z => ky (by rw [z]; exact hk)
    rw [Fra.set_ne z] at ey
    obtain ⟨a, a', c, w', b1, b2, b3⟩ := F.cell y u ey ky
    exact ⟨a, a', c, w', b1, b2.sameBut hs' (F.cells y c b1).2.2.1, VRel.keep k _ _ b3⟩
  · obtain ⟨a, b0, b, v', b2⟩ := F.cells y c ec
    exact ⟨a, b0, b, v', b2.sameBut hs' b⟩

theorem StpF.of_sameBut {h h' : Heap} {a : Addr} (s : Heap.SameBut a h h') (ha : a = env.locals ∨ (env.func.isSome = true ∧ ∃ x, env.cells.lookup x = some a)) (e : ∃ o, h'.get? a = some o) : StpF env σ σ h h' := by
  refine ⟨fun b o q n n1 n2 => (s.2 b (fun z => ?_)).trans q, fun b o q => .inl ⟨o, q⟩, fun b o q => ?_⟩
  · subst z
    rcases ha with ha | ⟨hf, x, ha⟩
    · exact n1 ha
    · exact n2 hf x ha
  · by_cases z : b = a
    · subst z; exact e
    · exact ⟨o, (s.2 b z).trans q⟩

theorem wp_storeC {A : Around} {E : Value → Shared → Prop} {s : Shared} {x : Str} {c : Addr} {v : V} {w : Value} {Q : Unit → Shared → Prop} (Rp : Rep C σ s.heap) (F : FrameRep C env ρ σ s.heap) (rv : VRel s.heap v w) (hk : env.kindOf x = some .cell) (hc : env.cells.lookup x = some c) (hx : (x == ("__classdict__" : Str)) = false)
    (hq : ∀ h' tk, Rep C σ h' → FrameRep C env (ρ.set x v) σ h' → Heap.SameBut c s.heap h' → (∃ o, h'.get? c = some o) → Q () { s with heap := h', toks := tk }) : wpAny C.M A (storeName env x w) Q E s := by
  obtain ⟨a0, b0, n0, v0, hv0⟩ := F.cells x c hc
  obtain ⟨m, hn, hm⟩ := F.ns
  refine wpAny_storeName_cell F.kind hk hc hv0 fun h' hc' hs' => ?_
  obtain ⟨co, e, ed⟩ := id hv0
  obtain ⟨k, R'⟩ := Rp.aside e (notIm_cell ed) a0 b0 hs'
  have hc2 := hc'
  obtain ⟨oc, eoc, _⟩ := hc2
  refine hq h' s.toks R' ⟨F.kind, F.glob, F.blt, F.above, F.off, ⟨m, hn.sameBut hs' (Ne.symm n0), fun y u ey ky => ?_⟩, fun y u ey ky => ?_, fun y c' ec => ?_, F.apart⟩ hs' ⟨oc, eoc⟩
  · have z : y ≠ x := fun z => by rw [z, hk] at ky; cases ky
    rw [Fra.set_ne z] at ey
    obtain ⟨w', a, b⟩ := hm y u ey ky
    exact ⟨w', a, VRel.keep k _ _ b⟩
  · by_cases z : y = x
    · subst z; simp at ey; subst ey; exact ⟨.inl hk, hx, c, w, hc, hc', VRel.keep k _ _ rv⟩
    · rw [Fra.set_ne z] at ey
      obtain ⟨a, a', c', w', b1, b2, b3⟩ := F.cell y u ey ky
      exact ⟨a, a', c', w', b1, b2.sameBut hs' (fun q => z (F.apart y x c' b1 (by rw [q]; exact hc))), VRel.keep k _ _ b3⟩
  · obtain ⟨a, b1, b, v', b2⟩ := F.cells y c' ec
    by_cases z : c' = c
    · subst z; exact ⟨a, b1, b, _, hc'⟩
    · exact ⟨a, b1, b, v', b2.sameBut hs' z⟩

/-- what a name can take -/
def Takes (env : Env) (x : Str) : Prop := env.kindOf x = some .local ∨ (env.kindOf x = some .cell ∧ env.func.isSome = true ∧ (x == ("__classdict__" : Str)) = false ∧ ∃ c, env.cells.lookup x = some c)

theorem wp_store {A : Around} {E : Value → Shared → Prop} {s : Shared} {x : Str} {v : V} {w : Value} {Q : Unit → Shared → Prop} (Rp : Rep C σ s.heap) (F : FrameRep C env ρ σ s.heap) (rv : VRel s.heap v w) (hk : Takes env x)
    (hq : ∀ h' tk, Rep C σ h' → FrameRep C env (ρ.set x v) σ h' → StpF env σ σ s.heap h' → Q () { s with heap := h', toks := tk }) : wpAny C.M A (storeName env x w) Q E s := by
  rcases hk with hk | ⟨hk, hf, hx, c, hc⟩
  · refine wp_storeL Rp F rv hk fun h' tk R' F' hs' k' => hq h' tk R' F' (StpF.of_sameBut hs' (.inl rfl) ?_)
    obtain ⟨m, hn, _⟩ := F'.ns
    obtain ⟨o, _, _, e, _⟩ := Heap.Ns.obj hn
    exact ⟨o, e⟩
  · exact wp_storeC Rp F rv hk hc hx fun h' tk R' F' hs' e' => hq h' tk R' F' (StpF.of_sameBut hs' (.inr ⟨hf, x, hc⟩) e')

/-! targets -/
def Asg (C : Cx) (d : Nat) (env : Env) (t : Expr) (v : V) (Q : Fra → Store → Prop) (ρ : Fra) (σ : Store) : Prop :=
  ∀ (A : Around) (E : Value → Shared → Prop) (s : Shared) (Qc : Unit → Shared → Prop) (w : Value), Room d A → Rep C σ s.heap → FrameRep C env ρ σ s.heap → VRel s.heap v w →
    (∀ ρ' σ' h' tk, Q ρ' σ' → Rep C σ' h' → FrameRep C env ρ' σ' h' → StpF env σ σ' s.heap h' → Qc () { s with heap := h', toks := tk }) → wpAny C.M A (assign t env w) Qc E s
def AsgL (C : Cx) (d : Nat) (env : Env) (ts : List Expr) (vs : List V) (Q : Fra → Store → Prop) (ρ : Fra) (σ : Store) : Prop :=
  ∀ (A : Around) (E : Value → Shared → Prop) (s : Shared) (Qc : Unit → Shared → Prop) (ws : List Value), Room d A → Rep C σ s.heap → FrameRep C env ρ σ s.heap → VRels s.heap vs ws →
    (∀ ρ' σ' h' tk, Q ρ' σ' → Rep C σ' h' → FrameRep C env ρ' σ' h' → StpF env σ σ' s.heap h' → Qc () { s with heap := h', toks := tk }) → wpAny C.M A (assignInOrder ((assignEach ts env).map (·.2)) ws) Qc E s

theorem Asg_Name {x : Str} {pos} {v : V} {Q : Fra → Store → Prop} (hk : Takes env x) (h : Q (ρ.set x v) σ) : Asg C d env (.Name x pos) v Q ρ σ :=
  fun A E s Qc w rm Rp F rv hq => wpAny_assign_Name (wp_store Rp F rv hk fun h' tk R' F' st => hq _ _ _ _ h R' F' st)

theorem AsgL_nil {Q : Fra → Store → Prop} (h : Q ρ σ) : AsgL C d env [] [] Q ρ σ :=
  fun A E s Qc ws rm Rp F rv hq => by
    have e : ws = [] := rv
    subst e
    exact wpAny_pure (hq _ _ s.heap s.toks h Rp F (Stp.refl ..).toF)

theorem VRels.im {h h' : Heap} (k : KeepsIm h h') {vs : List V} {ws : List Value} (x : VRels h vs ws) : VRels h' vs ws := VRels.keep k _ _ x

theorem StpF.im {σ' : Store} {h h' : Heap} (s : StpF env σ σ' h h') (R : Rep C σ h) (F : FrameRep C env ρ σ h) : KeepsIm h h' := fun b o e im => by
  refine s.keep b o e ?_ ?_ ?_
  · cases q : σ b with
    | none => rfl
    | some o' => obtain ⟨co, e', c⟩ := (R.objs b o' q).cls; rw [e] at e'; cases e'; exact absurd im c
  · rintro rfl
    obtain ⟨m, hn, _⟩ := F.ns
    obtain ⟨o', _, _, e', ed⟩ := Heap.Ns.obj hn
    rw [e] at e'; cases e'
    exact notIm_dict ed im
  · intro _ x hx
    obtain ⟨_, _, _, v, o', e', ed⟩ := F.cells x b hx
    rw [e] at e'; cases e'
    exact notIm_cell ed im

theorem AsgL_cons {t : Expr} {ts : List Expr} {v : V} {vs : List V} {Q : Fra → Store → Prop} (h : Asg C d env t v (fun ρ₁ σ₁ => AsgL C d env ts vs Q ρ₁ σ₁) ρ σ)
    (he : assignEach (t :: ts) env = (false, assign t env) :: assignEach ts env := by rfl) : AsgL C d env (t :: ts) (v :: vs) Q ρ σ :=
  fun A E s Qc ws rm Rp F rv hq => by
    obtain ⟨w, ws', rfl, a, b⟩ := rv
    rw [he]
    show wpAny C.M A (do holding ws' (assign t env w); assignInOrder ((assignEach ts env).map (·.2)) ws') Qc E s
    exact wpAny_bind (wpAny_holding (h A E s _ w rm Rp F a fun ρ₁ σ₁ h₁ k₁ q₁ R₁ F₁ s₁ => q₁ A E _ _ ws' rm R₁ F₁ (b.im (s₁.im Rp F)) fun ρ' σ' h' tk q R' F' s' => hq _ _ _ _ q R' F' (s₁.trans s')))

theorem assignEach_length {env : Env} : ∀ {ts : List Expr}, (assignEach ts env).length = ts.length
  | [] => rfl
  | t :: ts => by cases t <;> simp [assignEach, assignEach_length (ts := ts)]

theorem Asg_Tuple {ts : List Expr} {x1 pos} {vs : List V} {Q : Fra → Store → Prop} (hl : vs.length = ts.length) (h : AsgL C d env ts vs Q ρ σ) (hstar : (assignEach ts env).findIdx? (·.1) = none := by rfl) : Asg C d env (.Tuple ts x1 pos) (.tup vs) Q ρ σ :=
  fun A E s Qc w rm Rp F rv hq => by
    obtain ⟨a, n, ws, rfl, ha, r⟩ := rv
    have hsz : ws.size = vs.length := by have := r.length; simpa using this
    refine wpAny_assign_Tuple rm.hh ⟨_, ha, rfl, n, rfl⟩ (by rw [assignEach_length, hsz, hl]) hstar fun h' hx => ?_
    have kp : ∀ b o, s.heap.get? b = some o → h'.get? b = some o := fun b o e => hx b o (Nat.ne_of_lt (Heap.lt_size e)) e
    have st : Stp σ σ s.heap h' := ⟨fun b o e _ => kp b o e, fun _ o e => .inl ⟨o, e⟩, fun b o e => ⟨o, kp b o e⟩⟩
    have R' : Rep C σ h' := ⟨Rp.ok, fun b o e => kp b o (Rp.base b o e), Rp.off, fun b o e => (Rp.objs b o e).keep (Rp.im st.keep) fun co q => kp b co q⟩
    exact h A E _ _ ws.toList rm R' (F.keep Rp st) (Rp.vals st.keep r) fun ρ' σ' h'' tk q R'' F'' s'' => hq _ _ _ _ q R'' F'' (st.toF.trans s'')

theorem Asg_Subscript {o i : Expr} {pos} {v : V} {Q : Fra → Store → Prop}
    (h : Ew C d env ρ VRel (eval o env) (fun u σ₁ => Ew C d env ρ VRel (eval i env) (fun k σ₂ => Ow3 C d URel u k v setItem (fun _ σ₃ => Q ρ σ₃) σ₂) σ₁) σ)
    (hs : ∀ (v ov iv : Value), (match i with | .Slice _ _ none _ => [iv, v, ov] | _ => [v, ov, iv]) = [v, ov, iv] := by intros; rfl) : Asg C d env (.Subscript o i pos) v Q ρ σ :=
  fun A E s Qc w rm Rp F rv hq => by
    rw [assign_Subscript]
    refine wpAny_bind (wpAny_holding (h A E s _ rm Rp F fun u σ₁ x h₁ k₁ q₁ R₁ r₁ s₁ => ?_))
    refine wpAny_bind (wpAny_holding (q₁ A E _ _ rm R₁ (F.keep Rp s₁) fun k σ₂ y h₂ k₂ q₂ R₂ r₂ s₂ => ?_))
    refine wpAny_bind (wpAny_standAt (wpAny_bind (wpAny_holding (q₂ A E _ _ x y w rm R₂ (R₁.val s₂.keep r₁) r₂ (R₁.val s₂.keep (Rp.val s₁.keep rv)) fun b σ₃ z h₃ k₃ q₃ R₃ _ s₃ => ?_))))
    have st := (s₁.trans s₂).trans s₃
    exact wpAny_release (hq _ _ _ _ q₃ R₃ (F.keep Rp st) st.toF)
end
end Mine

open PySem PySem.W PyProof.Rows PySem.Calls PyProof.V PySem.Spec PySem.SeqAt
set_option Elab.async false
set_option linter.all false
set_option maxRecDepth 100000
namespace Mine

inductive It where
  | list (a : Addr)
  | tup (vs : List V)
  | rng (lo st : Int) (n : Nat)
  | enum (a : Addr)

def It.ok (σ : Store) : It → Prop
  | .list a => ∃ vs, σ a = some (.list vs)
  | .enum a => ∃ vs, σ a = some (.list vs)
  | _ => True
def lof (σ : Store) (a : Addr) : List V := match σ a with
  | some (.list vs) => vs
  | _ => []
theorem lof_of {σ : Store} {a : Addr} {vs : List V} (h : σ a = some (.list vs)) : lof σ a = vs := by unfold lof; rw [h]
def It.at (σ : Store) (i : Nat) : It → Option V
  | .list a => (lof σ a)[i]?
  | .tup vs => vs[i]?
  | .rng lo st n => if i < n then some (.int (lo + i * st)) else none
  | .enum a => ((lof σ a)[i]?).map fun v => .tup [.int i, v]

def ItRel (h : Heap) (I : Addr) (fp : List Addr) (i : Nat) : It → Prop
  | .list a => fp = [I] ∧ h.IsListIter I a i
  | .tup vs => fp = [I] ∧ ∃ t n ws, h.get? t = some { cls := .type "tuple", data := .seq ws n } ∧ VRels h vs ws.toList ∧ h.IsTupleIter I t i
  | .rng lo st n => fp = [I] ∧ IsRangeIter h I (lo + i * st) (n - i) st
  | .enum a => ∃ it old, fp = [I, it] ∧ I ≠ it ∧ IsEnum h I it i old ∧ h.IsListIter it a i

theorem notIm_listiter {h : Heap} {I a : Addr} {i : Nat} (x : h.IsListIter I a i) : ∃ o, h.get? I = some o ∧ ¬ ImObj o := by
  obtain ⟨o, e, c, dd⟩ := x
  exact ⟨o, e, notIm_iter dd (by rw [c]; intro q; injection q with q; exact absurd q (by decide))⟩
theorem ItRel.live {h : Heap} {I : Addr} {fp : List Addr} {i : Nat} {it : It} (x : ItRel h I fp i it) : I ∈ fp ∧ ∀ b ∈ fp, ∃ o, h.get? b = some o ∧ ¬ ImObj o := by
  cases it with
  | list a => obtain ⟨rfl, q⟩ := x; exact ⟨.head _, fun b hb => by rw [List.mem_singleton.mp hb]; exact notIm_listiter q⟩
  | tup vs =>
    obtain ⟨rfl, t, n, ws, _, _, o, e, c, dd⟩ := x
    exact ⟨.head _, fun b hb => by rw [List.mem_singleton.mp hb]; exact ⟨o, e, notIm_iter dd (by rw [c]; intro q; injection q with q; exact absurd q (by decide))⟩⟩
  | rng lo st n =>
    obtain ⟨rfl, q⟩ := x
    exact ⟨.head _, fun b hb => by rw [List.mem_singleton.mp hb]; exact ⟨_, q, notIm_iter rfl (by intro q; injection q with q; exact absurd q (by decide))⟩⟩
  | enum a =>
    obtain ⟨it, old, rfl, ne, q, q2⟩ := x
    refine ⟨.head _, fun b hb => ?_⟩
    rcases List.mem_cons.mp hb with rfl | hb
    · exact ⟨_, q, notIm_iter rfl (by intro q; injection q with q; exact absurd q (by decide))⟩
    · rw [List.mem_singleton.mp hb]; exact notIm_listiter q2
theorem ItRel.keep {h h' : Heap} {I : Addr} {fp : List Addr} {i : Nat} {it : It} (x : ItRel h I fp i it) (k : ∀ b ∈ fp, ∀ o, h.get? b = some o → h'.get? b = some o) (im : KeepsIm h h') : ItRel h' I fp i it := by
  cases it with
  | list a => obtain ⟨rfl, o, e, r⟩ := x; exact ⟨rfl, o, k _ (.head _) _ e, r⟩
  | tup vs => obtain ⟨rfl, t, n, ws, e0, r0, o, e, r⟩ := x; exact ⟨rfl, t, n, ws, im _ _ e0 (.inl ⟨rfl, _, _, rfl⟩), VRels.keep im _ _ r0, o, k _ (.head _) _ e, r⟩
  | rng lo st n => obtain ⟨rfl, q⟩ := x; exact ⟨rfl, k _ (.head _) _ q⟩
  | enum a => obtain ⟨it, old, rfl, ne, q, o, e, r⟩ := x; exact ⟨it, old, rfl, ne, k _ (.head _) _ q, o, k _ (.tail _ (.head _)) _ e, r⟩

/-- which targets go with which iterators -/
def TgtOk (t : Expr) (it : It) : Prop := ((∃ x p, t = .Name x p) ∧ ∀ a, it ≠ .enum a) ∨ ((∃ es k p, t = .Tuple es k p) ∧ ∃ a, it = .list a ∨ it = .enum a)

section
variable {C : Cx} {d : Nat} {env : Env} {ρ : Fra} {σ : Store}

def KeepBut (fp : List Addr) (h h' : Heap) : Prop := ∀ b o, b ∉ fp → h.get? b = some o → h'.get? b = some o

theorem KeepBut.im {h h' : Heap} {fp : List Addr} (k : KeepBut fp h h') (l : ∀ b ∈ fp, ∃ o, h.get? b = some o ∧ ¬ ImObj o) : KeepsIm h h' := fun b o e im => k b o (fun q => by
  obtain ⟨o', e', n⟩ := l b q
  rw [e] at e'; cases e'; exact n im) e

theorem it_item {A : Around} {E : Value → Shared → Prop} {s : Shared} {I : Addr} {fp : List Addr} {i : Nat} {it : It} {t : Expr} {v : V} {Q : Value → Shared → Prop} (Rp : Rep C σ s.heap) (x : ItRel s.heap I fp i it) (ht : TgtOk t it)
    (off : ∀ b ∈ fp, σ b = none) (ok : it.ok σ) (e : it.at σ i = some v)
    (hq : ∀ w h' tk, VRel h' v w → ItRel h' I fp (i + 1) it → KeepBut fp s.heap h' → Q w { s with heap := h', toks := tk }) :
    wpAny C.M A (pyNext (.ref I)) (fun r s₁ => match r with | none => False | some w => wpAny C.M A (letOwnedTupleGo t (.ref I) w) (fun _ s₂ => Q w s₂) E s₁) E s := by
  have live := x.live
  cases it with
  | list a =>
    obtain ⟨rfl, hit⟩ := x
    obtain ⟨vs, ha⟩ := ok
    simp only [It.at, lof_of ha] at e
    obtain ⟨ws, l, r⟩ := Rp.list ha
    obtain ⟨w, ew, rv⟩ := r.at e
    refine wpAny_pyNext_list_item hit l.isList (x := w) (by rw [← Array.getElem?_toList]; exact ew) fun h' hit' hs' => ?_
    have kb : KeepBut [I] s.heap h' := fun b o hb e => hs'.extBut b o (fun z => hb (by rw [z]; exact .head _)) e
    have fin := hq w h' s.toks (VRel.keep (kb.im live.2) _ _ rv) ⟨rfl, hit'⟩ kb
    rcases ht with ⟨⟨y, p, rfl⟩, _⟩ | ⟨⟨es, k, p, rfl⟩, _⟩
    · exact wpAny_pure fin
    · cases w with
      | ref T => exact wpAny_letOwnedTupleGo_listiter (s := { s with heap := h' }) hit' fin
      | _ => exact wpAny_pure fin
  | tup vs =>
    obtain ⟨rfl, tt, n, ws, e0, r0, hit⟩ := x
    simp only [It.at] at e
    obtain ⟨w, ew, rv⟩ := r0.at e
    refine wpAny_pyNext_tuple_item hit ⟨_, e0, rfl, n, rfl⟩ (x := w) (by rw [← Array.getElem?_toList]; exact ew) fun h' hit' hs' => ?_
    have kb : KeepBut [I] s.heap h' := fun b o hb e => hs'.extBut b o (fun z => hb (by rw [z]; exact .head _)) e
    have im := kb.im live.2
    have fin := hq w h' s.toks (VRel.keep im _ _ rv) ⟨rfl, tt, n, ws, im _ _ e0 (.inl ⟨rfl, _, _, rfl⟩), VRels.keep im _ _ r0, hit'⟩ kb
    rcases ht with ⟨⟨y, p, rfl⟩, _⟩ | ⟨_, a, ha⟩
    · exact wpAny_pure fin
    · rcases ha with ha | ha <;> cases ha
  | rng lo st n =>
    obtain ⟨rfl, hit⟩ := x
    simp only [It.at] at e
    split at e
    · rename_i hlt
      cases e
      refine wpAny_pyNext_range_item hit (by omega) fun h' hit' hs' => ?_
      have kb : KeepBut [I] s.heap h' := fun b o hb e => hs'.extBut b o (fun z => hb (by rw [z]; exact .head _)) e
      have e1 : lo + ((i + 1 : Nat) : Int) * st = lo + (i : Int) * st + st := by push_cast; rw [Int.add_mul, Int.one_mul, Int.add_assoc]
      have e2 : (n : Int) - ((i + 1 : Nat) : Int) = (n : Int) - (i : Int) - 1 := by push_cast; omega
      have fin := hq _ h' (s.toks + 1) ⟨s.toks, rfl⟩ ⟨rfl, by rw [e1, e2]; exact hit'⟩ kb
      rcases ht with ⟨⟨y, p, rfl⟩, _⟩ | ⟨_, a, ha⟩
      · exact wpAny_pure fin
      · rcases ha with ha | ha <;> cases ha
    · cases e
  | enum a =>
    obtain ⟨it, old, rfl, ne, he, hit⟩ := x
    obtain ⟨vs, ha⟩ := ok
    simp only [It.at, lof_of ha, Option.map_eq_some_iff] at e
    obtain ⟨u, eu, rfl⟩ := e
    obtain ⟨ws, l, r⟩ := Rp.list ha
    obtain ⟨w, ew, rv⟩ := r.at eu
    rcases ht with ⟨_, hn⟩ | ⟨⟨es, k, p, rfl⟩, _⟩
    · exact absurd rfl (hn a)
    · refine wpAny_pyNext_enum_item he hit l.isList (x := w) (by rw [← Array.getElem?_toList]; exact ew) ne fun h' heo hit' htup hsz kp => ?_
      refine wpAny_letOwnedTupleGo_enum heo fun h₂ he₂ hs₂ => ?_
      obtain ⟨oi, hoi, _⟩ := id hit
      have n1 : I ≠ s.heap.objs.size := Nat.ne_of_lt (Heap.lt_size he)
      have kb : KeepBut [I, it] s.heap h₂ := fun b o hb e => hs₂.extBut b o (fun z => hb (by rw [z]; exact .head _)) (kp b o (fun z => hb (by rw [z]; exact .head _)) (fun z => hb (by rw [z]; exact .tail _ (.head _))) e)
      have im := kb.im live.2
      refine hq _ h₂ (s.toks + 1) ⟨_, _, #[.int i s.toks, w], rfl, hs₂.extBut _ _ (Ne.symm n1) htup, VRels.cons ⟨_, rfl⟩ (VRels.cons (VRel.keep im _ _ rv) VRels.nil)⟩ ⟨it, w, rfl, ne, ?_, ?_⟩ kb
      · have : ((i + 1 : Nat) : Int) = (i : Int) + 1 := by push_cast; rfl
        rw [this]; exact he₂
      · exact hit'.extBut hs₂.extBut (Ne.symm ne)

theorem it_done {A : Around} {E : Value → Shared → Prop} {s : Shared} {I : Addr} {fp : List Addr} {i : Nat} {it : It} {Q : Shared → Prop} (hh : A.handled = none) (Rp : Rep C σ s.heap) (x : ItRel s.heap I fp i it)
    (ok : it.ok σ) (e : it.at σ i = none) (hq : ∀ h' tk, KeepBut fp s.heap h' → Q { s with heap := h', toks := tk }) :
    wpAny C.M A (pyNext (.ref I)) (fun r s₁ => match r with | none => Q s₁ | some _ => False) E s := by
  cases it with
  | list a =>
    obtain ⟨rfl, hit⟩ := x
    obtain ⟨vs, ha⟩ := ok
    simp only [It.at, lof_of ha] at e
    obtain ⟨ws, l, r⟩ := Rp.list ha
    exact wpAny_pyNext_list_end hh hit l.isList (by rw [← Array.getElem?_toList]; exact r.none_at e) fun h' he => hq h' s.toks fun b o hb => he b o (fun z => hb (by rw [z]; exact .head _))
  | tup vs =>
    obtain ⟨rfl, tt, n, ws, e0, r0, hit⟩ := x
    simp only [It.at] at e
    exact wpAny_pyNext_tuple_end hh hit ⟨_, e0, rfl, n, rfl⟩ (by rw [← Array.getElem?_toList]; exact r0.none_at e) fun h' he => hq h' s.toks fun b o hb => he b o (fun z => hb (by rw [z]; exact .head _))
  | rng lo st n =>
    obtain ⟨rfl, hit⟩ := x
    simp only [It.at] at e
    split at e
    · cases e
    · exact wpAny_pyNext_range_end hh hit (by omega) fun h' he => hq h' s.toks fun b o hb => he b o (fun z => hb (by rw [z]; exact .head _))
  | enum a =>
    obtain ⟨it, old, rfl, ne, he, hit⟩ := x
    obtain ⟨vs, ha⟩ := ok
    simp only [It.at, lof_of ha, Option.map_eq_none_iff] at e
    obtain ⟨ws, l, r⟩ := Rp.list ha
    exact wpAny_pyNext_enum_end hh he hit l.isList (by rw [← Array.getElem?_toList]; exact r.none_at e) fun h' he => hq h' s.toks fun b o hb => he b o (fun z => hb (by rw [z]; exact .tail _ (.head _)))

/-- the making of an iterator -/
def Iw (C : Cx) (d : Nat) (env : Env) (ρ : Fra) (iter : Expr) (Q : It → Store → Prop) (σ : Store) : Prop :=
  ∀ (A : Around) (E : Value → Shared → Prop) (s : Shared) (Qc : Value → Shared → Prop), Room d A → Rep C σ s.heap → FrameRep C env ρ σ s.heap →
    (∀ it σ' I fp h' tk, Q it σ' → Rep C σ' h' → ItRel h' I fp 0 it → (∀ b ∈ fp, s.heap.get? b = none ∧ σ' b = none ∧ C.g.get? b = none) → Stp σ σ' s.heap h' → Qc (.ref I) { s with heap := h', toks := tk }) →
    wpAny C.M A (eval iter env) (fun x s₁ => wpAny C.M A (pyIter x) Qc E s₁) E s

/-- the iterator of a value -/
inductive ItOf (σ : Store) : V → It → Prop
  | list {a vs} : σ a = some (.list vs) → ItOf σ (.ref a) (.list a)
  | tup {vs} : ItOf σ (.tup vs) (.tup vs)
  | rng {lo hi st : Int} : Builtin.Range.small lo hi st = true → ItOf σ (.rng lo hi st) (.rng lo st (Builtin.Range.rangeSize lo hi st).toNat)

theorem rangeSize_nonneg (a b c : Int) : 0 ≤ Builtin.Range.rangeSize a b c := by
  unfold Builtin.Range.rangeSize
  by_cases h1 : c > 0
  · rw [if_pos h1]
    split
    · have : (0 : Int) ≤ (b - a - 1) / c := Int.ediv_nonneg (by omega) (by omega)
      omega
    · exact Int.le_refl _
  · rw [if_neg h1]
    split
    · have : (0 : Int) ≤ (a - b - 1) / (-c) := by
        by_cases h2 : c = 0
        · subst h2; simp
        · exact Int.ediv_nonneg (by omega) (by omega)
      omega
    · exact Int.le_refl _

theorem Iw_val {iter : Expr} {Q : It → Store → Prop} (h : Ew C d env ρ VRel (eval iter env) (fun v σ₁ => ∃ it, ItOf σ₁ v it ∧ Q it σ₁) σ) : Iw C d env ρ iter Q σ :=
  fun A E s Qc rm Rp F hq => h A E s _ rm Rp F fun v σ₁ x h₁ k₁ q₁ R₁ r₁ s₁ => by
    obtain ⟨it, hi, q⟩ := q₁
    have nw : ∀ b ∈ [h₁.objs.size], s.heap.get? b = none ∧ σ₁ b = none ∧ C.g.get? b = none := fun b hb => by
      rw [List.mem_singleton.mp hb]
      refine ⟨?_, R₁.fresh, R₁.size.1⟩
      cases z : s.heap.get? h₁.objs.size with
      | none => rfl
      | some o => obtain ⟨o', z'⟩ := s₁.live _ _ z; exact absurd (Heap.lt_size z') (Nat.lt_irrefl _)
    have fin : ∀ (o : Obj), ItRel (h₁.push o) h₁.objs.size [h₁.objs.size] 0 it → Qc (.ref h₁.objs.size) { s with heap := h₁.push o, toks := k₁ } := fun o hr => by
      obtain ⟨R₂, s₂⟩ := R₁.push o
      exact hq it σ₁ _ _ _ k₁ q R₂ hr nw (s₁.trans s₂)
    cases hi with
    | list ha =>
      have e : x = .ref _ := r₁
      subst e
      obtain ⟨ws, l, r⟩ := R₁.list ha
      exact wpAny_pyIter_list l.isList (fin _ ⟨rfl, _, Heap.get?_push_size _ rfl, rfl, rfl⟩)
    | tup =>
      obtain ⟨a, n, ws, rfl, ha, r⟩ := r₁
      refine wpAny_pyIter_tuple ⟨_, ha, rfl, n, rfl⟩ (fin _ ⟨rfl, a, n, ws, Heap.get?_push_of_some _ ha, ?_, _, Heap.get?_push_size _ rfl, rfl, rfl⟩)
      exact VRels.keep (fun b o e _ => Heap.get?_push_of_some _ e) _ _ r
    | @rng lo hi' st hs =>
      obtain ⟨r, t, u, v, rfl, hr⟩ := r₁
      refine wpAny_pyIter_range hr hs (fin _ ⟨rfl, ?_⟩)
      have e1 : lo + ((0 : Nat) : Int) * st = lo := by simp
      have e2 : ((Builtin.Range.rangeSize lo hi' st).toNat : Int) - ((0 : Nat) : Int) = Builtin.Range.rangeSize lo hi' st := by
        rw [Int.toNat_of_nonneg (rangeSize_nonneg ..)]; simp
      rw [e1, e2]
      exact Heap.get?_push_size _ rfl
end
end Mine

open PySem PySem.W PyProof.Rows PySem.Calls PyProof.V PySem.Spec PySem.SeqAt
set_option Elab.async false
set_option linter.all false
set_option maxRecDepth 100000
namespace Mine
section
variable {C : Cx} {d : Nat} {env : Env} {ρ : Fra} {σ : Store}

theorem Sw.mono {α β : Type} {R : Heap → β → α → Prop} {t : Sem α} {Q Q' : β → Fra → Store → Prop} (h : Sw C d env R t Q ρ σ) (k : ∀ b ρ' σ', Q b ρ' σ' → Q' b ρ' σ') : Sw C d env R t Q' ρ σ :=
  fun A E s Qc rm Rp F hq => h A E s Qc rm Rp F fun b ρ' σ' x h' tk q => hq b ρ' σ' x h' tk (k b ρ' σ' q)
theorem Asg.mono {t : Expr} {v : V} {Q Q' : Fra → Store → Prop} (h : Asg C d env t v Q ρ σ) (k : ∀ ρ' σ', Q ρ' σ' → Q' ρ' σ') : Asg C d env t v Q' ρ σ :=
  fun A E s Qc w rm Rp F rv hq => h A E s Qc w rm Rp F rv fun ρ' σ' h' tk q => hq ρ' σ' h' tk (k ρ' σ' q)

abbrev Sx (C : Cx) (d : Nat) (env : Env) (body : List Stmt) (Q : Fl → Fra → Store → Prop) (ρ : Fra) (σ : Store) : Prop := Sw C d env FRel (execs body env) Q ρ σ
abbrev S1 (C : Cx) (d : Nat) (env : Env) (st : Stmt) (Q : Fl → Fra → Store → Prop) (ρ : Fra) (σ : Store) : Prop := Sw C d env FRel (exec st env) Q ρ σ

theorem Sx_nil {Q : Fl → Fra → Store → Prop} (h : Q .next ρ σ) : Sx C d env [] Q ρ σ := fun A E s Qc rm Rp F hq => wpAny_execs_nil (hq _ _ _ _ s.heap s.toks h Rp F rfl (Stp.refl ..).toF)

def behind (C : Cx) (d : Nat) (env : Env) (rest : List Stmt) (Q : Fl → Fra → Store → Prop) : Fl → Fra → Store → Prop
  | .next, ρ, σ => Sx C d env rest Q ρ σ
  | f, ρ, σ => Q f ρ σ
theorem Sx_cons {st : Stmt} {rest : List Stmt} {Q : Fl → Fra → Store → Prop} (h : S1 C d env st (behind C d env rest Q) ρ σ) : Sx C d env (st :: rest) Q ρ σ :=
  fun A E s Qc rm Rp F hq => wpAny_execs_cons (h A E s _ rm Rp F fun f ρ₁ σ₁ x h₁ k₁ q₁ R₁ F₁ r₁ s₁ => by
    cases f with
    | next =>
      have e : x = .next := r₁
      subst e
      exact q₁ A E _ _ rm R₁ F₁ fun b ρ' σ' z h' tk q R' F' r' s' => hq b ρ' σ' z h' tk q R' F' r' (s₁.trans s')
    | brk => have e : x = .brk := r₁; subst e; exact hq _ _ _ _ _ _ q₁ R₁ F₁ rfl s₁
    | cont => have e : x = .cont := r₁; subst e; exact hq _ _ _ _ _ _ q₁ R₁ F₁ rfl s₁
    | ret v => obtain ⟨w, rfl, rv⟩ := r₁; exact hq _ _ _ _ _ _ q₁ R₁ F₁ ⟨w, rfl, rv⟩ s₁)

theorem S1_Return {e : Expr} {pos} {Q : Fl → Fra → Store → Prop} (h : Ew C d env ρ VRel (eval e env) (fun v σ₁ => Q (.ret v) ρ σ₁) σ) : S1 C d env (.Return (some e) pos) Q ρ σ :=
  fun A E s Qc rm Rp F hq => wpAny_Return_some (h A E s _ rm Rp F fun v σ₁ x h₁ k₁ q₁ R₁ r₁ s₁ => hq _ _ _ _ _ _ q₁ R₁ (F.keep Rp s₁) ⟨x, rfl, r₁⟩ s₁.toF)

theorem S1_Expr {e : Expr} {pos} {Q : Fl → Fra → Store → Prop} (h : Ew C d env ρ VRel (eval e env) (fun _ σ₁ => Q .next ρ σ₁) σ) (hi : interactive env = false := by rfl) (hs : swapsWith e none pos.line env = pure false := by rfl) : S1 C d env (.Expr e pos) Q ρ σ :=
  fun A E s Qc rm Rp F hq => wpAny_Expr_any (h A E s _ rm Rp F fun v σ₁ x h₁ k₁ q₁ R₁ r₁ s₁ => hq _ _ _ _ _ _ q₁ R₁ (F.keep Rp s₁) rfl s₁.toF) hi hs

theorem S1_If {test : Expr} {body orelse : List Stmt} {pos} {Q : Fl → Fra → Store → Prop}
    (h : Ew C d env ρ BRel (isTrue test env (eval test env)) (fun b σ₁ => (b = true → Sx C d env body Q ρ σ₁) ∧ (b = false → Sx C d env orelse Q ρ σ₁)) σ) : S1 C d env (.If test body orelse pos) Q ρ σ :=
  fun A E s Qc rm Rp F hq => wpAny_If (h A E s _ rm Rp F fun b σ₁ x h₁ k₁ q₁ R₁ r₁ s₁ => by
    have e : x = b := r₁
    subst e
    cases x with
    | true => exact q₁.1 rfl A E _ _ rm R₁ (F.keep Rp s₁) fun b ρ' σ' z h' tk q R' F' r' s' => hq b ρ' σ' z h' tk q R' F' r' (s₁.toF.trans s')
    | false => exact q₁.2 rfl A E _ _ rm R₁ (F.keep Rp s₁) fun b ρ' σ' z h' tk q R' F' r' s' => hq b ρ' σ' z h' tk q R' F' r' (s₁.toF.trans s'))

/-- one target, its value no comprehension that swaps -/
theorem S1_Assign {t value : Expr} {pos} {Q : Fl → Fra → Store → Prop} (h : Ew C d env ρ VRel (eval value env) (fun v σ₁ => Asg C d env t v (Q .next) ρ σ₁) σ)
    (hs : swapsWithSole [t] value pos.line env = pure false := by with_unfolding_all rfl) (hw : swappedStores [t] value env = pure none := by with_unfolding_all rfl) (he : (assignEach [t] env).map (·.2) = [assign t env] := by rfl) : S1 C d env (.Assign [t] value pos) Q ρ σ :=
  fun A E s Qc rm Rp F hq => wpAny_Assign_stores (h A E s _ rm Rp F fun v σ₁ x h₁ k₁ q₁ R₁ r₁ s₁ => by
    rw [he]
    exact q₁ A E _ _ x rm R₁ (F.keep Rp s₁) r₁ fun ρ' σ' h' tk q R' F' s' => hq _ _ _ _ _ _ q R' F' rfl (s₁.toF.trans s')) hs hw

/-! loops -/
def loopEnd (J : Fra → Store → Prop) (Q : Fl → Fra → Store → Prop) : Fl → Fra → Store → Prop
  | .next, ρ, σ => J ρ σ
  | .cont, ρ, σ => J ρ σ
  | .brk, ρ, σ => Q .next ρ σ
  | .ret v, ρ, σ => Q (.ret v) ρ σ

theorem FrameRep.locals_live {h : Heap} (F : FrameRep C env ρ σ h) : ∃ o, h.get? env.locals = some o ∧ ¬ ImObj o := by
  obtain ⟨m, hn, _⟩ := F.ns
  obtain ⟨o, _, _, e, ed⟩ := Heap.Ns.obj hn
  exact ⟨o, e, notIm_dict ed⟩

/-- a step that changes only what the iterator is made of -/
theorem Rep.but {h h' : Heap} {fp : List Addr} (R : Rep C σ h) (k : KeepBut fp h h') (l : ∀ b ∈ fp, ∃ o, h.get? b = some o ∧ ¬ ImObj o) (off : ∀ b ∈ fp, σ b = none ∧ C.g.get? b = none) : Rep C σ h' := by
  have im := k.im l
  refine ⟨R.ok, fun b o e => k b o (fun z => by rw [(off b z).2] at e; cases e) (R.base b o e), R.off, fun b o e => (R.objs b o e).keep im fun co q => k b co (fun z => by rw [(off b z).1] at e; cases e) q⟩
theorem FrameRep.but {h h' : Heap} {fp : List Addr} (F : FrameRep C env ρ σ h) (k : KeepBut fp h h') (im : KeepsIm h h') (n1 : env.locals ∉ fp) (n2 : ∀ x c, env.cells.lookup x = some c → c ∉ fp) : FrameRep C env ρ σ h' := by
  obtain ⟨m, hn, hm⟩ := F.ns
  obtain ⟨oL, es, ep, hL, hr⟩ := id hn
  refine ⟨F.kind, F.glob, F.blt, F.above, F.off, ⟨m, ⟨oL, es, ep, k _ _ n1 hL, hr⟩, fun x v e kk => ?_⟩, fun x v e kk => ?_, fun x c e => ?_, F.apart⟩
  · obtain ⟨w, a, b⟩ := hm x v e kk
    exact ⟨w, a, VRel.keep im _ _ b⟩
  · obtain ⟨a, a', c, w, b1, ⟨oc, b2, b2'⟩, b3⟩ := F.cell x v e kk
    exact ⟨a, a', c, w, b1, ⟨oc, k _ _ (n2 x c b1) b2, b2'⟩, VRel.keep im _ _ b3⟩
  · obtain ⟨a, b0, b, v, oc, c1, c2⟩ := F.cells x c e
    exact ⟨a, b0, b, v, oc, k _ _ (n2 x c e) c1, c2⟩

theorem S1_For {target iter : Expr} {body : List Stmt} {pos} {Q : Fl → Fra → Store → Prop} (J : It → Nat → Fra → Store → Prop)
    (h : Iw C d env ρ iter (fun it σ₁ => TgtOk target it ∧ J it 0 ρ σ₁ ∧ ∃ N, ∀ i ρ' σ', J it i ρ' σ' → i ≤ N ∧ it.ok σ' ∧
      (∀ v, it.at σ' i = some v → Asg C d env target v (fun ρ₂ σ₂ => Sx C d env body (loopEnd (J it (i + 1)) Q) ρ₂ σ₂) ρ' σ') ∧ (it.at σ' i = none → Q .next ρ' σ')) σ)
    (hs : ∀ x, foldedSetIterable iter env x = pure x := by intro _; rfl) : S1 C d env (.For target iter body [] pos) Q ρ σ :=
  fun A E s Qc rm Rp F hq => wpAny_For (h A E s _ rm Rp F fun it σ₁ I fp h₁ k₁ q₁ R₁ ir nw s₁ => by
    obtain ⟨ht, j0, N, step⟩ := q₁
    have F₁ := F.keep Rp s₁
    have gone : ∀ b ∈ fp, b ≠ env.locals ∧ ∀ x c, env.cells.lookup x = some c → c ≠ b := fun b hb => by
      refine ⟨fun z => ?_, fun x c e z => ?_⟩
      · obtain ⟨o, e, _⟩ := F.locals_live
        rw [← z, (nw b hb).1] at e
        cases e
      · obtain ⟨_, _, _, v, o, e2, _⟩ := F.cells x c e
        rw [z, (nw b hb).1] at e2
        cases e2
    refine codeAny_forLoop_any (fun n s' => ∃ i ρ' σ' h' tk, s' = { s with heap := h', toks := tk } ∧ n = N + 1 - i ∧ J it i ρ' σ' ∧ Rep C σ' h' ∧ FrameRep C env ρ' σ' h' ∧ ItRel h' I fp i it ∧ (∀ b ∈ fp, σ' b = none) ∧ StpF env σ σ' s.heap h') ?_ (N + 1)
      ⟨0, ρ, σ₁, h₁, k₁, rfl, rfl, j0, R₁, F₁, ir, fun b hb => (nw b hb).2.1, s₁.toF⟩
    rintro n s' ⟨i, ρ', σ', h', tk, rfl, rfl, j, R', F', ir', off', st'⟩
    obtain ⟨hiN, hok, hsome, hnone⟩ := step i ρ' σ' j
    have live := ir'.live.2
    have nL : env.locals ∉ fp := fun z => (gone _ z).1 rfl
    have nC : ∀ x c, env.cells.lookup x = some c → c ∉ fp := fun x c e z => (gone _ z).2 x c e rfl
    cases e : it.at σ' i with
    | some v =>
      refine wpAny_mono (it_item (s := { s with heap := h', toks := tk }) R' ir' ht off' hok e (fun w h₂ t₂ rv ir₂ kb => ?_) (Q := fun w s₂ => ∃ h₂ t₂, s₂ = { s with heap := h₂, toks := t₂ } ∧ VRel h₂ v w ∧ ItRel h₂ I fp (i + 1) it ∧ KeepBut fp h' h₂)) (fun r s₂ hr => ?_) fun _ _ e => e
      · exact ⟨h₂, t₂, rfl, rv, ir₂, kb⟩
      · cases r with
        | none => exact hr.elim
        | some w =>
          refine wpAny_mono hr (fun _ s₃ hw => ?_) fun _ _ e => e
          obtain ⟨h₂, t₂, rfl, rv, ir₂, kb⟩ := hw
          have im := kb.im live
          have R₂ := R'.but kb live fun b hb => ⟨off' b hb, (nw b hb).2.2⟩
          have F₂ := F'.but kb im nL nC
          have st₂ : StpF env σ σ' s.heap h₂ := ⟨fun b o e n n1 n2 => kb b o (fun z => by rw [(nw b z).1] at e; cases e) (st'.keep b o e n n1 n2), st'.fresh, fun b o e => by
            obtain ⟨o', e'⟩ := st'.live b o e
            exact ⟨o', kb b o' (fun z => by rw [(nw b z).1] at e; cases e) e'⟩⟩
          refine hsome v e A _ _ _ w rm R₂ F₂ rv fun ρ₃ σ₃ h₃ t₃ q₃ R₃ F₃ s₃ => ?_
          refine q₃ A _ _ _ rm R₃ F₃ fun f ρ₄ σ₄ x h₄ t₄ q₄ R₄ F₄ r₄ s₄ => ?_
          have s34 := s₃.trans s₄
          have st₄ := st₂.trans s34
          have keepI : ∀ b ∈ fp, ∀ o, h₂.get? b = some o → h₄.get? b = some o := fun b hb o e => s34.keep b o e (off' b hb) (gone b hb).1 fun _ x z => (gone b hb).2 x b z rfl
          have ir₄ : ItRel h₄ I fp (i + 1) it := ir₂.keep keepI (s34.im R₂ F₂)
          have off₄ : ∀ b ∈ fp, σ₄ b = none := fun b hb => by
            obtain ⟨o, e, _⟩ := ir₂.live.2 b hb
            exact s34.fresh.none e (off' b hb)
          have again : J it (i + 1) ρ₄ σ₄ → ∃ m, m < N + 1 - i ∧ ∃ i ρ' σ' h' tk, ({ s with heap := h₄, toks := t₄ } : Shared) = { s with heap := h', toks := tk } ∧ m = N + 1 - i ∧ J it i ρ' σ' ∧ Rep C σ' h' ∧ FrameRep C env ρ' σ' h' ∧ ItRel h' I fp i it ∧ (∀ b ∈ fp, σ' b = none) ∧ StpF env σ σ' s.heap h' := fun j' =>
            ⟨N + 1 - (i + 1), by omega, i + 1, ρ₄, σ₄, h₄, t₄, rfl, rfl, j', R₄, F₄, ir₄, off₄, st₄⟩
          cases f with
          | next => have e : x = .next := r₄; subst e; exact again q₄
          | cont => have e : x = .cont := r₄; subst e; exact again q₄
          | brk => have e : x = .brk := r₄; subst e; exact hq _ _ _ _ _ _ q₄ R₄ F₄ rfl st₄
          | ret v => obtain ⟨w, rfl, rv⟩ := r₄; exact hq _ _ _ _ _ _ q₄ R₄ F₄ ⟨w, rfl, rv⟩ st₄
    | none =>
      refine wpAny_mono (it_done (s := { s with heap := h', toks := tk }) rm.hh R' ir' hok e (fun h₂ t₂ kb => ?_) (Q := fun s₂ => ∃ h₂ t₂, s₂ = { s with heap := h₂, toks := t₂ } ∧ KeepBut fp h' h₂)) (fun r s₂ hr => ?_) fun _ _ e => e
      · exact ⟨h₂, t₂, rfl, kb⟩
      · cases r with
        | some w => exact hr.elim
        | none =>
          obtain ⟨h₂, t₂, rfl, kb⟩ := hr
          have R₂ := R'.but kb live fun b hb => ⟨off' b hb, (nw b hb).2.2⟩
          have F₂ := F'.but kb (kb.im live) nL nC
          have st₂ : StpF env σ σ' s.heap h₂ := ⟨fun b o e n n1 n2 => kb b o (fun z => by rw [(nw b z).1] at e; cases e) (st'.keep b o e n n1 n2), st'.fresh, fun b o e => by
            obtain ⟨o', e'⟩ := st'.live b o e
            exact ⟨o', kb b o' (fun z => by rw [(nw b z).1] at e; cases e) e'⟩⟩
          exact wpAny_execs_nil (hq _ _ _ _ _ _ (hnone e) R₂ F₂ rfl st₂)) hs

theorem S1_While {test : Expr} {body : List Stmt} {pos} {Q : Fl → Fra → Store → Prop} (J : Nat → Fra → Store → Prop) (n : Nat) (j0 : J n ρ σ)
    (step : ∀ n ρ' σ', J n ρ' σ' → Ew C d env ρ' BRel (isTrue test env (eval test env)) (fun b σ₁ => (b = true → Sx C d env body (loopEnd (fun ρ₂ σ₂ => ∃ m, m < n ∧ J m ρ₂ σ₂) Q) ρ' σ₁) ∧ (b = false → Q .next ρ' σ₁)) σ') :
    S1 C d env (.While test body [] pos) Q ρ σ :=
  fun A E s Qc rm Rp F hq => wpAny_While (by
    refine codeAny_whileLoop (fun n s' => ∃ ρ' σ' h' tk, s' = { s with heap := h', toks := tk } ∧ J n ρ' σ' ∧ Rep C σ' h' ∧ FrameRep C env ρ' σ' h' ∧ StpF env σ σ' s.heap h') ?_ n ⟨ρ, σ, s.heap, s.toks, rfl, j0, Rp, F, (Stp.refl ..).toF⟩
    rintro n s' ⟨ρ', σ', h', tk, rfl, j, R', F', st'⟩
    refine step n ρ' σ' j A _ _ _ rm R' F' fun b σ₁ x h₁ k₁ q₁ R₁ r₁ s₁ => ?_
    have e : x = b := r₁
    subst e
    have F₁ := F'.keep R' s₁
    have st₁ := st'.trans s₁.toF
    cases x with
    | false => exact wpAny_execs_nil (hq _ _ _ _ _ _ (q₁.2 rfl) R₁ F₁ rfl st₁)
    | true =>
      refine q₁.1 rfl A _ _ _ rm R₁ F₁ fun f ρ₄ σ₄ x h₄ t₄ q₄ R₄ F₄ r₄ s₄ => ?_
      have st₄ := st₁.trans s₄
      cases f with
      | next => have e : x = .next := r₄; subst e; obtain ⟨m, hm, j'⟩ := q₄; exact ⟨m, hm, ρ₄, σ₄, h₄, t₄, rfl, j', R₄, F₄, st₄⟩
      | cont => have e : x = .cont := r₄; subst e; obtain ⟨m, hm, j'⟩ := q₄; exact ⟨m, hm, ρ₄, σ₄, h₄, t₄, rfl, j', R₄, F₄, st₄⟩
      | brk => have e : x = .brk := r₄; subst e; exact hq _ _ _ _ _ _ q₄ R₄ F₄ rfl st₄
      | ret v => obtain ⟨w, rfl, rv⟩ := r₄; exact hq _ _ _ _ _ _ q₄ R₄ F₄ ⟨w, rfl, rv⟩ st₄)
end
end Mine

open PySem PySem.W PyProof.Rows PySem.Calls PyProof.V PySem.Spec PySem.SeqAt
set_option Elab.async false
set_option linter.all false
set_option maxRecDepth 100000
namespace Mine
section
variable {C : Cx} {d : Nat} {env : Env} {ρ : Fra} {σ : Store}

/-- who keeps a callee's arguments is plain -/
def KeepOk (C : Cx) (f : Value) : Prop := ∀ h, C.K.In h → ∃ k, (k = Keeper.frame ∨ k = Keeper.machine ∨ k = Keeper.boundFrame) ∧ Looks C.M h (keeperOf f) k
theorem KeepOk.builtin {id : String} : KeepOk C (.builtin id) := fun h _ => ⟨.machine, .inr (.inl rfl), Looks.of_pure rfl⟩
theorem KeepOk.type {n : String} : KeepOk C (.type n) := fun h _ => ⟨.machine, .inr (.inl rfl), Looks.of_pure rfl⟩
theorem KeepOk.own {a : Addr} (h : keepIn C.K (.ref a) = true) : KeepOk C (.ref a) := keeps_K h

theorem wp_evalArgs {M : Model} {A : Around} {E : Value → Shared → Prop} {s : Shared} {f : Value} {Q : Args → Shared → Prop} : ∀ (T : List (Bool × Sem Value)), T.any (·.1) = false →
    wpAny M A (spliced T) (fun vs s' => Q ⟨vs, []⟩ s') E s → wpAny M A (evalArgs f true T []) Q E s
  | [], _, h => by
    unfold evalArgs
    show wpAny M A (spliced [] >>= _) Q E s
    refine wpAny_bind (wpAny_mono h (fun vs s' h' => ?_) fun _ _ x => x)
    refine wpAny_bind (wpAny_pure ?_)
    refine wpAny_holding ?_
    exact wpAny_bind (wpAny_pure (wpAny_bind (wpAny_pure (wpAny_pure h'))))
  | (true, x) :: r, e, _ => by simp at e
  | (false, x) :: r, _, h => evalArgs_plain h

theorem wp_callWith {A : Around} {E : Value → Shared → Prop} {s : Shared} {f : Value} {first : List Value} {args : List Expr} {pos : Pos} {Q : Value → Shared → Prop} (hk : KeepOk C f) (hp : (backTo pos (starEach args env)).any (·.1) = false)
    (h : wpAny C.M A (spliced (backTo pos (starEach args env))) (fun vs s₁ => C.K.In s₁.heap ∧ wpAny C.M A (call f (first ++ vs)) Q E s₁) E s) :
    wpAny C.M A (callWith pos f first (backTo pos (starEach args env)) []) Q E s :=
  callWith_of (P := fun h => C.K.In h) (by rw [hp]; rfl) hk (wp_evalArgs _ hp h)

def EvF (C : Cx) (env : Env) (func : Expr) (f : Value) : Prop := ∀ (ρ : Fra) (σ : Store) (A : Around) (E : Value → Shared → Prop) (s : Shared) (Q : Value → Shared → Prop), Rep C σ s.heap → FrameRep C env ρ σ s.heap → Q f s → wpAny C.M A (eval func env) Q E s
theorem EvF.glob {x : Str} {pos} {w : Value} (e : C.mg x = some w) (hx : env.kindOf x = some .globalImplicit := by rfl) (hd : (x == ("__debug__" : Str)) = false := by decide) : EvF C env (.Name x pos) w := fun ρ σ A E s Q R F h => wp_glob R F hx e h hd
theorem EvF.blt {x : Str} {pos} {w : Value} (e : C.mg x = none) (hb : bootBuiltins x = some w) (hx : env.kindOf x = some .globalImplicit := by rfl) (hn : x ≠ "__name__" := by decide) (hd : (x == ("__debug__" : Str)) = false := by decide) : EvF C env (.Name x pos) w := fun ρ σ A E s Q R F h => wp_blt R F hx e hb hn h hd

abbrev Cw (C : Cx) (d : Nat) (f : Value) (vs : List V) (Q : V → Store → Prop) (σ : Store) : Prop := Ow C d VRel vs (fun ws => call f ws) Q σ

theorem Ow.mono {α β : Type} {R : Heap → β → α → Prop} {vs : List V} {t : List Value → Sem α} {Q Q' : β → Store → Prop} (h : Ow C d R vs t Q σ) (k : ∀ b σ', Q b σ' → Q' b σ') : Ow C d R vs t Q' σ :=
  fun A E s Qc w rm Rp x hq => h A E s Qc w rm Rp x fun b σ' x h' tk q => hq b σ' x h' tk (k b σ' q)

theorem Ew_Call {func : Expr} {args : List Expr} {pos : Pos} {f : Value} {Q : V → Store → Prop} (hf : EvF C env func f) (hk : KeepOk C f)
    (h : Ew C d env ρ VRels (spliced (backTo pos (starEach args env))) (fun vs σ₁ => Cw C d f vs Q σ₁) σ)
    (hp : (backTo pos (starEach args env)).any (·.1) = false := by rfl)
    (he : eval (.Call func args [] pos) env = (do callWith pos (← eval func env) [] (backTo pos (starEach args env)) (backToKw pos (keywordEach [] env))) := by rfl) : Ew C d env ρ VRel (eval (.Call func args [] pos) env) Q σ :=
  fun A E s Qc rm Rp F hq => Call_ (hf ρ σ A E s _ Rp F (wp_callWith hk hp (h A E s _ rm Rp F fun vs σ₁ ws h₁ k₁ q₁ R₁ r₁ s₁ =>
    ⟨R₁.kin, q₁ A E _ _ ws rm R₁ r₁ fun b σ' z h' tk q R' r' s' => hq b σ' z h' tk q R' r' (s₁.trans s')⟩))) he

/-- a method -/
def MethOk (C : Cx) (σ : Store) (u : V) (name : Str) (f : Value) : Prop := ∀ (A : Around) (E : Value → Shared → Prop) (s : Shared) (Q : Value × List Value → Shared → Prop) (ov : Value) (pl : Sem Bool), Rep C σ s.heap → VRel s.heap u ov → Q (f, [ov]) s → wpAny C.M A (getMethod ov name pl) Q E s

theorem Ew_CallM {o : Expr} {name : Str} {apos pos : Pos} {args : List Expr} {Q : V → Store → Prop}
    (h : Ew C d env ρ VRel (eval o env) (fun u σ₁ => ∃ f, MethOk C σ₁ u name f ∧ KeepOk C f ∧ Ew C d env ρ VRels (spliced (backTo pos (starEach args env))) (fun vs σ₂ => Cw C d f (u :: vs) Q σ₂) σ₁) σ)
    (hbase : attributeBase o name env (eval o env) = eval o env := by rfl)
    (hfew : methodCallForm (args.length + ([] : List Keyword).length) (backTo pos (starEach args env)) (backToKw pos (keywordEach [] env)) = true := by rfl)
    (hline : (apos.endLine == pos.line) = true := by rfl) (hp : (backTo pos (starEach args env)).any (·.1) = false := by rfl) : Ew C d env ρ VRel (eval (.Call (.Attribute o name apos) args [] pos) env) Q σ :=
  fun A E s Qc rm Rp F hq => by
    rw [arm_eval_Call, hbase]
    have hpos : methodCallPos true o env apos pos = pure pos := by unfold methodCallPos; simp [hline]
    refine wpAny_bind (h A E s _ rm Rp F fun u σ₁ ov h₁ k₁ q₁ R₁ r₁ s₁ => ?_)
    obtain ⟨f, hm, hk, q⟩ := q₁
    refine wpAny_bind (wpAny_standAt ?_)
    unfold methodCall
    rw [hfew]
    refine wpAny_bind (wpAny_holding (hm A E _ _ ov _ R₁ r₁ ?_))
    refine wpAny_bind (wpAny_of_eq hpos (wp_callWith hk hp (q A E _ _ rm R₁ (F.keep Rp s₁) fun vs σ₂ ws h₂ k₂ q₂ R₂ r₂ s₂ => ⟨R₂.kin, ?_⟩)))
    exact q₂ A E _ _ (ov :: ws) rm R₂ (VRels.cons (R₁.val s₂.keep r₁) r₂) fun b σ' z h' tk q R' r' s' => hq b σ' z h' tk q R' r' ((s₁.trans s₂).trans s')

/-! objects of the text's classes -/
structure Fld (C : Cx) (Cl : Addr) (name : Str) : Prop where
  get : plainGet C.K Cl name = true
  dict : hasDictIn C.K Cl = true
  attr : ∃ attr, findIn C.K (.ref Cl) name = some attr ∧ noGet C.K attr = true
structure Sto (C : Cx) (Cl : Addr) (name : Str) : Prop where
  sa : findIn C.K (.ref Cl) "__setattr__" = some (some (.builtin "object.__setattr__"))
  plain : plainOver C.K Cl = true
  taker : takerIn C.K Cl name = some none
  dict : hasDictIn C.K Cl = true
structure Mth (C : Cx) (Cl : Addr) (name : Str) (fa : Addr) : Prop where
  get : plainGet C.K Cl name = true
  find : findIn C.K (.ref Cl) name = some (some (.ref fa))
  fn : isFn C.K (.ref fa) = true

theorem isStr_eq (x : Str) (v : Value) : v.isStr x = Value.isStrOf x v := isStr_of x v

theorem getL_keyed {es : List DictEntry} (hk : StrKeyed es) (name : Str) : getL name es = some (getV name es) := by
  unfold getL getV
  have hk' : es.any (·.refKey) = false := by
    rw [List.any_eq_false]
    intro x hx
    obtain ⟨n, t, h⟩ := hk x hx
    simp [DictEntry.refKey, h]
  cases hq : es.find? (fun e => e.key.isStr name) with
  | some x => rfl
  | none => simp [hk']
theorem isStr_str (x y : Str) (t : Tok) : (Value.str x t).isStr y = decide (x = y) := by
  unfold Value.isStr
  by_cases h : x = y
  · subst h; simp
  · simp [h]
theorem putL_len {name : Str} {hsh : Int} {key v : Value} : ∀ {es : List DictEntry}, (putL name hsh key v es).length = if (getV name es).isSome then es.length else es.length + 1
  | [] => rfl
  | e :: r => by
    have ih := putL_len (name := name) (hsh := hsh) (key := key) (v := v) (es := r)
    unfold getV at *
    cases h : e.key.isStr name with
    | true => simp [putL, h]
    | false =>
      simp only [putL, h, Bool.false_eq_true, if_false, List.length_cons, ih, List.find?_cons]
      split <;> rfl
theorem putL_keyed {name : Str} {hsh : Int} {t : Tok} {v : Value} : ∀ {es : List DictEntry}, StrKeyed es → StrKeyed (putL name hsh (.str name t) v es)
  | [], _ => by intro e he; simp [putL] at he; subst he; exact ⟨_, _, rfl⟩
  | e :: r, hk => by
    have ih := putL_keyed (name := name) (hsh := hsh) (t := t) (v := v) (es := r) fun x hx => hk x (.tail _ hx)
    unfold putL
    split
    · intro x hx
      rcases List.mem_cons.mp hx with rfl | hx
      · exact hk e (.head _)
      · exact hk x (.tail _ hx)
    · intro x hx
      rcases List.mem_cons.mp hx with rfl | hx
      · exact hk _ (.head _)
      · exact ih x hx
theorem putL_get {name : Str} {hsh : Int} {t : Tok} {v : Value} (x : Str) : ∀ {es : List DictEntry}, StrKeyed es → getV x (putL name hsh (.str name t) v es) = if x = name then some v else getV x es
  | [], _ => by
    unfold putL getV
    by_cases h : x = name
    · subst h; simp [isStr_str]
    · have h' : ¬ name = x := fun e => h e.symm
      simp [isStr_str, h, h']
  | e :: r, hk => by
    have ih := putL_get (name := name) (hsh := hsh) (t := t) (v := v) x (es := r) fun x hx => hk x (.tail _ hx)
    obtain ⟨n, u, hn⟩ := hk e (.head _)
    unfold putL
    cases h : e.key.isStr name with
    | true =>
      rw [hn, isStr_str] at h
      have hnn : n = name := of_decide_eq_true h
      subst hnn
      unfold getV
      simp only [if_true, List.find?_cons, hn, isStr_str]
      by_cases hx : x = n
      · subst hx; simp
      · have h' : ¬ n = x := fun e => hx e.symm
        simp [hx, h']
    | false =>
      rw [hn, isStr_str] at h
      have hnn : ¬ n = name := of_decide_eq_false h
      simp only [Bool.false_eq_true, if_false]
      unfold getV at *
      simp only [List.find?_cons, hn, isStr_str]
      by_cases hx : n = x
      · subst hx; simp [hnn]
      · simp only [decide_eq_false hx]; exact ih

theorem inst_at {Cl dx : Addr} {k : Nat} {f : Str → Option V} {h : Heap} {w : Value} (R : Rep C σ h) (e : σ dx = some (.ns k f)) (r : VRel h (.obj Cl dx) w) : ∃ x es n, w = .ref x ∧ h.get? dx = some (dictOf es n) ∧ es.length ≤ k ∧ StrKeyed es ∧ InstAt h x (instObj Cl dx) Cl (some (dictOf es n)) ∧
    ∀ y, (∀ v, f y = some v → ∃ u, getV y es = some u ∧ VRel h v u) ∧ (f y = none → getV y es = none) := by
  obtain ⟨x, rfl, hx⟩ := r
  obtain ⟨es, n, ho, hl, hk, hm⟩ := R.objs dx _ e
  exact ⟨x, es, n, rfl, ho, hl, hk, ⟨hx, rfl, rfl, ho⟩, hm⟩

theorem handedIn_of {h : Heap} {v : V} {w : Value} (r : VRel h v w) : handedIn w = true := by
  cases v with
  | none => have e : w = .none := r; subst e; rfl
  | bool b => have e : w = .bool b := r; subst e; rfl
  | int i => obtain ⟨t, rfl⟩ := r; rfl
  | str i => obtain ⟨t, rfl⟩ := r; rfl
  | tup vs => obtain ⟨a, n, ws, rfl, _⟩ := r; rfl
  | obj Cl dx => obtain ⟨a, rfl, _⟩ := r; rfl
  | ref a => have e : w = .ref a := r; subst e; rfl
  | rng a b c => obtain ⟨a, t, u, v, rfl, _⟩ := r; rfl

theorem Ew_Attribute {value : Expr} {attr : Str} {pos} {Q : V → Store → Prop}
    (h : Ew C d env ρ VRel (eval value env) (fun u σ₁ => ∃ Cl dx k f v, u = .obj Cl dx ∧ σ₁ dx = some (.ns k f) ∧ f attr = some v ∧ Fld C Cl attr ∧ Q v σ₁) σ)
    (he : eval (.Attribute value attr pos) env = (do
      let o ← eval value env
      standAt pos.atName
      let r ← holding [o] (getAttr o attr true)
      letTemporaryGo value o r
      pure r) := by with_unfolding_all rfl) : Ew C d env ρ VRel (eval (.Attribute value attr pos) env) Q σ :=
  fun A E s Qc rm Rp F hq => Attribute_any_ (h A E s _ rm Rp F fun u σ₁ x h₁ k₁ q₁ R₁ r₁ s₁ => by
    obtain ⟨Cl, dx, k, f, v, rfl, e, ef, fl, q⟩ := q₁
    obtain ⟨x, es, n, rfl, ho, hl, hk, I, hm⟩ := inst_at R₁ e r₁
    obtain ⟨wv, e1, rv⟩ := (hm attr).1 v ef
    obtain ⟨at', a1, a2⟩ := fl.attr
    exact get_value (s := { s with heap := h₁, toks := k₁ }) R₁.kin I (plainGet_of fl.get).1 (findObj_own fl.dict a1 a2 (by rw [lookIn_dict, getL_keyed hk, e1])) (handedIn_of rv) (hq v σ₁ wv h₁ _ q R₁ rv s₁)) he

theorem MethOk.own {Cl dx fa : Addr} {k : Nat} {f : Str → Option V} {name : Str} (e : σ dx = some (.ns k f)) (ef : f name = none) (m : Mth C Cl name fa) : MethOk C σ (.obj Cl dx) name (.ref fa) :=
  fun A E s Q ov pl R r hq => by
    obtain ⟨x, es, n, rfl, ho, hl, hk, I, hm⟩ := inst_at R e r
    exact method_fn R.kin I (plainGet_of m.get).1 (plainGet_of m.get).2 m.find (beq_iff_eq.mp m.fn) (by show (lookIn name (dictOf es n)).map _ = _; rw [lookIn_dict, getL_keyed hk, (hm name).2 ef]; rfl) hq

theorem MethOk.list {a : Addr} {vs : List V} {name : Str} {id : String} (e : σ a = some (.list vs)) (slot : Slot "list" name id) (hty : typeOf (.builtin id) = pure (.type "method_descriptor")) : MethOk C σ (.ref a) name (.builtin id) :=
  fun A E s Q ov pl R r hq => by
    have e1 : ov = .ref a := r
    subst e1
    obtain ⟨ws, ⟨n, l⟩, _⟩ := R.list e
    exact getMethod_builtin ⟨_, l, rfl⟩ PySem.F.plainAttrs_list slot hty (fun b q => by cases q; exact ⟨_, l, rfl⟩) hq
theorem MethOk.dict {a : Addr} {kvs : List (Int × V)} {name : Str} {id : String} (e : σ a = some (.idict kvs)) (slot : Slot "dict" name id) (hty : typeOf (.builtin id) = pure (.type "method_descriptor")) : MethOk C σ (.ref a) name (.builtin id) :=
  fun A E s Q ov pl R r hq => by
    have e1 : ov = .ref a := r
    subst e1
    obtain ⟨cvs, ⟨o, es, ep, l, hx, _⟩, _⟩ := R.objs a _ e
    exact getMethod_builtin ⟨_, l, hx.1⟩ PySem.F.plainAttrs_dict slot hty (fun b q => by cases q; exact ⟨_, l, hx.2.1⟩) hq

/-- a store into an object -/
theorem wp_nsSet {A : Around} {E : Value → Shared → Prop} {s : Shared} {a : Addr} {es : List DictEntry} {n : Nat} {name : Str} {w : Value} {Q : Unit → Shared → Prop} (ho : s.heap.get? a = some (dictOf es n)) (hk : StrKeyed es) (hz : es.length ≤ 1000)
    (hq : ∀ h' tk hsh t n', h'.get? a = some (dictOf (putL name hsh (.str name t) w es) n') → Heap.SameBut a s.heap h' → Q () { s with heap := h', toks := tk }) : wpAny C.M A (nsSet a name w) Q E s := by
  have e' : (s.heap.update a (Obj.putName name (PyData.keyHash C.w.params name) (.str name s.toks) w)).get? a = some (dictOf (putL name (PyData.keyHash C.w.params name) (.str name s.toks) w es) (putN name es n)) := by
    rw [Heap.get?_update_self _ ho (by rw [putName_dict]; rfl), putName_dict]
  have hlen : (putL name (PyData.keyHash C.w.params name) (.str name s.toks) w es).length ≤ es.length + 1 := by rw [putL_len]; split <;> omega
  unfold nsSet
  refine wpAny_bind (wpAny_bind (wpAny_askSetting (wpAny_pure (wpAny_bind (wpAny_mkText (wpAny_bind (wpAny_loadPart ho ?_)))))))
  have c : (!es.toArray.any (·.key.isStr name) && es.toArray.any (·.refKey)) = false := by
    have hk' : es.any (·.refKey) = false := by
      rw [List.any_eq_false]
      intro x hx
      obtain ⟨n, t, h⟩ := hk x hx
      simp [DictEntry.refKey, h]
    simp [hk']
  dsimp only
  rw [aRefKeyMayBeTheName_at, c]
  exact wpAny_updatePart ho (hq _ _ _ _ _ e' (Heap.SameBut.update ..))
theorem wp_setAttr {A : Around} {E : Value → Shared → Prop} {s : Shared} {Cl dx : Addr} {k : Nat} {f : Str → Option V} {name : Str} {v : V} {ov w : Value} {Q : Unit → Shared → Prop} (R : Rep C σ s.heap) (e : σ dx = some (.ns k f)) (hz : k ≤ 1000) (r : VRel s.heap (.obj Cl dx) ov) (rv : VRel s.heap v w) (S : Sto C Cl name)
    (hq : ∀ h' tk, Rep C (σ.set dx (.ns (if (f name).isSome then k else k + 1) fun y => if y = name then some v else f y)) h' → Stp σ (σ.set dx (.ns (if (f name).isSome then k else k + 1) fun y => if y = name then some v else f y)) s.heap h' → Q () { s with heap := h', toks := tk }) : wpAny C.M A (setAttr ov name w) Q E s := by
  obtain ⟨x, es, n, rfl, ho, hl, hk, I, hm⟩ := inst_at R e r
  have X := R.kin
  refine set_plain X I S.sa (osa_open (s := { s with toks := s.toks + 1 }) X I S.plain S.taker fun b => ?_)
  obtain ⟨cd, hc, hd'⟩ := any_some S.dict
  obtain ⟨hx, hcl, hno, -⟩ := I
  refine wpAny_bind (wpAny_pure (wpAny_bind (wpAny_bind (wpAny_loadPart hx (wpAny_bind (Looks.here (s := { s with toks := s.toks + 1 }) (looks_clsIn X hc) ?_))))))
  rw [hd']
  refine wpAny_pure (a := some dx) (wpAny_bind (wpAny_pure (wpAny_bind ?_)))
  refine wp_nsSet ho hk (by omega) fun h' tk hsh t n' ho' hs' => ?_
  have kp : KeepsIm s.heap h' := fun b co q im => hs'.extBut b co (fun z => by
    subst z
    rw [q] at ho; cases ho
    exact notIm_dict rfl im) q
  have hlen : (putL name hsh (.str name t) w es).length ≤ if (f name).isSome then k else k + 1 := by
    rw [putL_len]
    cases hf : f name with
    | none => rw [(hm name).2 hf]; simp; omega
    | some u => obtain ⟨w', a, _⟩ := (hm name).1 u hf; rw [a]; simp; omega
  obtain ⟨R', st⟩ := R.change (o' := .ns (if (f name).isSome then k else k + 1) fun y => if y = name then some v else f y) e (fun b co z q => hs'.extBut b co z q) ⟨_, n', ho', hlen, putL_keyed hk, fun y => by
    rw [putL_get y hk]
    by_cases z : y = name
    · subst z; simp only [if_true]; exact ⟨fun v' hv' => by cases hv'; exact ⟨w, rfl, VRel.keep kp _ _ rv⟩, fun hv' => by cases hv'⟩
    · simp only [if_neg z]; exact ⟨fun v' hv' => let ⟨u, a, b⟩ := (hm y).1 v' hv'; ⟨u, a, VRel.keep kp _ _ b⟩, (hm y).2⟩⟩
  refine wpAny_bind (wpAny_lookBehind ho' (pastItsLine_dict (by rw [List.size_toArray, sizeLine_eq]; split at hlen <;> omega)) ?_)
  exact wpAny_pure (hq h' tk R' st)

theorem assign_Attribute_arm (o : Expr) (attr : Str) (pos : Pos) (env : Env) (v : Value) : assign (.Attribute o attr pos) env v = (do
    let ov ← holding [v] (eval o env)
    standAt pos.atName
    holding [v, ov] (setAttr ov attr v)
    release [v, ov] []) := rfl

theorem Asg_Attribute {o : Expr} {attr : Str} {pos} {v : V} {Q : Fra → Store → Prop}
    (h : Ew C d env ρ VRel (eval o env) (fun u σ₁ => ∃ Cl dx k f, u = .obj Cl dx ∧ σ₁ dx = some (.ns k f) ∧ k ≤ 1000 ∧ Sto C Cl attr ∧ Q ρ (σ₁.set dx (.ns (if (f attr).isSome then k else k + 1) fun y => if y = attr then some v else f y))) σ) : Asg C d env (.Attribute o attr pos) v Q ρ σ :=
  fun A E s Qc w rm Rp F rv hq => by
    rw [assign_Attribute_arm]
    refine wpAny_bind (wpAny_holding (h A E s _ rm Rp F fun u σ₁ x h₁ k₁ q₁ R₁ r₁ s₁ => ?_))
    obtain ⟨Cl, dx, k, f, rfl, e, hz, S, q⟩ := q₁
    refine wpAny_bind (wpAny_standAt (wpAny_bind (wpAny_holding (wp_setAttr (s := { s with heap := h₁, toks := k₁ }) R₁ e hz r₁ (Rp.val s₁.keep rv) S fun h₂ k₂ R₂ s₂ => ?_))))
    have st := s₁.trans s₂
    exact wpAny_release (hq _ _ _ _ q R₂ (F.keep Rp st) st.toF)
end
end Mine

open PySem PySem.W PyProof.Rows PySem.Calls PyProof.V PySem.Spec PySem.SeqAt
set_option Elab.async false
set_option linter.all false
set_option maxRecDepth 100000
namespace Mine

def bindV : List (Str × V) → Fra → Fra
  | [], m => m
  | (n, v) :: r, m => bindV r (m.set n v)

theorem bindV_rel {h : Heap} {kindOf : Str → Option NameKind} : ∀ {xs : List Str} {vs : List V} {ws : List Value} {ρ : Fra} {mL mC : Str → Option Value}, VRels h vs ws →
    (∀ x v, ρ x = some v → (kindOf x = some .local → ∃ w, mL x = some w ∧ VRel h v w) ∧ (kindOf x ≠ some .local → ∃ w, mC x = some w ∧ VRel h v w)) →
    ∀ x v, bindV (xs.zip vs) ρ x = some v → (kindOf x = some .local → ∃ w, bindL kindOf (xs.zip ws) mL x = some w ∧ VRel h v w) ∧ (kindOf x ≠ some .local → ∃ w, bindC kindOf (xs.zip ws) mC x = some w ∧ VRel h v w)
  | [], vs, ws, ρ, mL, mC, _, q => by simpa [bindV, bindL, bindC] using q
  | y :: xs, [], ws, ρ, mL, mC, r, q => by have e : ws = [] := r; subst e; simpa [bindV, bindL, bindC] using q
  | y :: xs, u :: vs, ws, ρ, mL, mC, r, q => by
    obtain ⟨w, ws', rfl, a, b⟩ := r
    simp only [List.zip_cons_cons, bindV, bindL, bindC]
    refine bindV_rel b fun x v e => ?_
    by_cases hl : kindOf y = some .local
    · simp only [if_pos hl]
      by_cases z : x = y
      · subst z; simp at e; subst e; exact ⟨fun _ => ⟨w, by simp, a⟩, fun n => absurd hl n⟩
      · rw [Fra.set_ne z] at e; simpa [z] using q x v e
    · simp only [if_neg hl]
      by_cases z : x = y
      · subst z; simp at e; subst e; exact ⟨fun n => absurd n hl, fun _ => ⟨w, by simp, a⟩⟩
      · rw [Fra.set_ne z] at e; simpa [z] using q x v e

theorem bindV_mem : ∀ {bs : List (Str × V)} {ρ : Fra} {x : Str} {v : V}, bindV bs ρ x = some v → (∃ u, (x, u) ∈ bs) ∨ ρ x = some v
  | [], _, _, _, h => .inr h
  | (n, u) :: r, ρ, x, v, h => by
    rcases bindV_mem (bs := r) h with ⟨u', h⟩ | h
    · exact .inl ⟨u', .tail _ h⟩
    · by_cases z : x = n
      · subst z; exact .inl ⟨u, .head _⟩
      · rw [Fra.set_ne z] at h; exact .inr h

def retOf : Fl → V
  | .ret v => v
  | _ => .none
theorem retOf_rel {h : Heap} {f : Fl} {x : Flow} (r : FRel h f x) : VRel h (retOf f) (match (generalizing := false) x with | .ret v => v | _ => .none) := by
  cases f with
  | next => have e : x = .next := r; subst e; rfl
  | brk => have e : x = .brk := r; subst e; rfl
  | cont => have e : x = .cont := r; subst e; rfl
  | ret v => obtain ⟨w, rfl, rv⟩ := r; exact rv

/-- a call's code -/
def Kw (C : Cx) (d : Nat) (f : Value) (vs : List V) (Q : V → Store → Prop) (σ : Store) : Prop :=
  ∀ (A : Around) (R : Result → Shared → Prop) (s : Shared) (ws : List Value), Room d A → Rep C σ s.heap → VRels s.heap vs ws →
    (∀ b σ' x h' tk, Q b σ' → Rep C σ' h' → VRel h' b x → Stp σ σ' s.heap h' → R (.ok (.ret x)) { s with heap := h', toks := tk }) → codeAny C.M A (.call f ⟨ws, []⟩) R s

section
variable {C : Cx} {d : Nat} {env : Env} {ρ : Fra} {σ : Store}

theorem Kw.cw {f : Value} {vs : List V} {Q : V → Store → Prop} (h : Kw C d f vs Q σ) : Cw C d f vs Q σ :=
  fun A E s Qc ws rm R r hq => wpAny_call (h A _ s ws rm R r hq)
theorem Kw.mono {f : Value} {vs : List V} {Q Q' : V → Store → Prop} (h : Kw C d f vs Q σ) (k : ∀ b σ', Q b σ' → Q' b σ') : Kw C d f vs Q' σ :=
  fun A R s ws rm Rp r hq => h A R s ws rm Rp r fun b σ' x h' tk q => hq b σ' x h' tk (k b σ' q)

theorem Kw_def {name qual : Str} {params : Arguments} {body : List Stmt} {scope : Scope} {dV kV doc pm cdv ct oc : Value} {an od : Option Addr} {osl : Array (Option Value)} {f : Addr} {vs : List V} {Q : V → Store → Prop} (xs : List Str)
    (ho : C.K.lookup f = some ⟨oc, od, .func (fnOf name qual params body scope dV kV doc pm an cdv ct), osl⟩) (hcd : codeIn C.K cdv qual = true)
    (hbind : ∀ ws : List Value, ws.length = vs.length → bindArgs (fnOf name qual params body scope dV kV doc pm an cdv ct) ⟨ws, []⟩ = pure (xs.zip ws))
    (hkind : (xs.all fun y => (scope.names.lookup y == some .local || scope.names.lookup y == some .cell) && !(y == ("__classdict__" : Str))) = true)
    (h : ∀ L, Sx C d (envOfC qual scope L f cdv) body (fun fl _ σ' => Q (retOf fl) σ') (bindV (xs.zip vs) fun _ => none) σ)
    (hco : scope.isCoroutine = false := by rfl) (hgen : scope.isGenerator = false := by rfl) (hk : scope.kind = .function := by rfl) : Kw C (d + 1) (.ref f) vs Q σ :=
  fun A R s ws rm Rp r hq => by
    have hk' : ∀ y ∈ xs, (scope.names.lookup y = some .local ∨ scope.names.lookup y = some .cell) ∧ (y == ("__classdict__" : Str)) = false := fun y hy => by
      have := List.all_eq_true.mp hkind y hy
      rw [Bool.and_eq_true, Bool.or_eq_true] at this
      exact ⟨this.1.imp (fun q => by simpa using q) fun q => by simpa using q, by simpa using this.2⟩
    have hm : ∀ {α : Type} {ys : List α} {x : Str × α}, x ∈ xs.zip ys → x.1 ∈ xs := fun {α ys x} hx => (List.of_mem_zip hx).1
    refine codeAny_call_cells (fd := fnOf name qual params body scope dV kV doc pm an cdv ct) (Nat.lt_of_le_of_lt (Nat.le_trans (Nat.le_add_right _ _) rm.depth) (by decide)) (Rp.kin _ _ ho) rfl (Rp.ok.nolimit.keeps Rp.base) (codeRec_of Rp.kin hcd) rfl (hbind ws r.length) rfl
      (fun x hx => ?_) (fun s₁ X => ?_) hco hgen hk
    · rcases (hk' _ (hm hx)).1 with q | q
      · exact .inl q
      · exact .inr ⟨q, cellsFrom_some _ _ _ (.inl q)⟩
    obtain ⟨h₁, tk, rfl, keep⟩ := X.done
    have im : KeepsIm s.heap h₁ := fun b o e _ => keep b o e
    have low : ∀ a o, σ a = some o → a < s.heap.objs.size := fun a o e => by
      obtain ⟨co, e', _⟩ := (Rp.objs a o e).cls
      exact Heap.lt_size e'
    have low' : ∀ a, s.heap.objs.size ≤ a → σ a = none ∧ C.g.get? a = none ∧ s.heap.get? a = none := fun a ha => by
      refine ⟨?_, ?_, ?_⟩
      · cases q : σ a with
        | none => rfl
        | some o => exact absurd (low a o q) (Nat.not_lt.mpr ha)
      · cases q : C.g.get? a with
        | none => rfl
        | some o => exact absurd (Heap.lt_size (Rp.base _ _ q)) (Nat.not_lt.mpr ha)
      · cases q : s.heap.get? a with
        | none => rfl
        | some o => exact absurd (Heap.lt_size q) (Nat.not_lt.mpr ha)
    have st : Stp σ σ s.heap h₁ := ⟨fun b o e _ => keep b o e, fun _ o e => .inl ⟨o, e⟩, fun b o e => ⟨o, keep b o e⟩⟩
    have R₁ : Rep C σ h₁ := ⟨Rp.ok, fun b o e => keep _ _ (Rp.base b o e), Rp.off, fun a o e => (Rp.objs a o e).keep im fun co q => keep _ _ q⟩
    have rel := bindV_rel (h := h₁) (kindOf := (envOfC qual scope s.heap.objs.size f cdv).kindOf) (xs := xs) (ρ := fun _ => none) (mL := fun _ => none) (mC := fun _ => none) (VRels.keep im _ _ r) (fun x v e => by cases e)
    have F₁ : FrameRep C (envOfC qual scope s.heap.objs.size f cdv) (bindV (xs.zip vs) fun _ => none) σ h₁ := by
      refine ⟨hk, rfl, rfl, (low' _ (Nat.le_refl _)).2.1, (low' _ (Nat.le_refl _)).1, ⟨_, X.toInCall.ns, fun x v e kx => (rel x v e).1 kx⟩, fun x v e kx => ?_, fun x c e => ?_, fun x y c e e' => name_of_addr X.apart (mem_of_lookup e) (mem_of_lookup e')⟩
      · have hx : x ∈ xs := by
          rcases bindV_mem e with ⟨u, q⟩ | q
          · exact hm q
          · cases q
        rcases (hk' x hx).1 with q | q
        · exact absurd q kx
        · obtain ⟨c, ec⟩ := Option.isSome_iff_exists.mp (cellsFrom_some (x := x) scope.names (s.heap.objs.size + 1) [] (.inl q))
          obtain ⟨w, a, b⟩ := (rel x v e).2 kx
          have hc := X.cell x c ec
          exact ⟨.inl q, (hk' x hx).2, c, w, ec, a ▸ hc, b⟩
      · have hlt : s.heap.objs.size < c := X.above x c (mem_of_lookup e)
        have := low' c (Nat.le_of_lt hlt)
        exact ⟨this.1, this.2.1, Nat.ne_of_gt hlt, _, X.cell x c e⟩
    refine h s.heap.objs.size _ _ _ _ (rm.deeper _) R₁ F₁ fun b ρ' σ' x h' tk' q R' F' r' s' => ?_
    have hlow : ∀ b o, s.heap.get? b = some o → b < s.heap.objs.size := fun b o e => Heap.lt_size e
    refine hq _ σ' _ h' tk' q R' (retOf_rel r') ⟨fun b o e n => s'.keep b o (keep b o e) n (Nat.ne_of_lt (hlow b o e)) fun _ x z => ?_, fun a o e => ?_, fun b o e => s'.live b o (keep b o e)⟩
    · exact Nat.lt_asymm (hlow b o e) (X.above x b (mem_of_lookup z))
    · rcases s'.fresh a o e with z | z
      · exact .inl z
      · refine .inr ?_
        cases q : s.heap.get? a with
        | none => rfl
        | some o' => rw [keep a o' q] at z; cases z
end
end Mine

open PySem PySem.W PyProof.Rows PySem.Calls PyProof.V PySem.Spec PySem.SeqAt
set_option Elab.async false
set_option linter.all false
set_option maxRecDepth 100000
namespace Mine
section
variable {C : Cx} {d : Nat} {env : Env} {ρ : Fra} {σ : Store}

theorem Room.under_make {d : Nat} {A : Around} {c : Addr} {rest : List Value} {kw} (x : Room (d + 2) A) : Room d (A.under (.builtin "type.__call__" ⟨.ref c :: rest, kw⟩)) := by
  refine ⟨x.hh, ?_, ?_⟩
  · have := x.depth
    have e : (Code.builtin "type.__call__" ⟨.ref c :: rest, kw⟩).weight ≤ 2 := by
      rw [show (Code.builtin "type.__call__" ⟨.ref c :: rest, kw⟩).weight = 1 from by with_unfolding_all rfl]; decide
    show A.depth + _ + d ≤ 900
    omega
  · have := x.units
    have e : (Code.builtin "type.__call__" ⟨.ref c :: rest, kw⟩).cUnits ≤ 8 := by
      rw [show (Code.builtin "type.__call__" ⟨.ref c :: rest, kw⟩).cUnits = 1 from by with_unfolding_all rfl]; decide
    show A.units + _ + 8 * d ≤ 8000
    omega

theorem Kw_make {Cl fI : Addr} {vs : List V} {Q : V → Store → Prop} (hm : makesIn C.K Cl = true) (hi : findIn C.K (.ref Cl) "__init__" = some (some (.ref fI))) (hf : isFn C.K (.ref fI) = true)
    (h : ∀ dx, σ dx = none → Kw C d (.ref fI) (.obj Cl dx :: vs) (fun v σ' => v = .none ∧ Q (.obj Cl dx) σ') (σ.set dx (.ns 0 fun _ => none))) : Kw C (d + 2) (.ref Cl) vs Q σ :=
  fun A R s ws rm Rp r hq => by
    obtain ⟨hh, g, dd, t, os⟩ := s
    have X := Rp.kin
    refine make_core (makes_of X hm) (looks_findIn X hi) (fun self => bind_fn X self (beq_iff_eq.mp hf)) (.inl rfl) ?_
    have e0 : hh.get? hh.objs.size = none := by
      cases q : hh.get? hh.objs.size with
      | none => rfl
      | some o => exact absurd (Heap.lt_size q) (Nat.lt_irrefl _)
    obtain ⟨R₁, s₁, n₁⟩ := Rp.alloc (o := .ns 0 fun _ => none) e0 Rp.size.1 Rp.size.2 (fun b o e => Heap.get?_push_of_some emptyDict e) ⟨[], 0, Heap.get?_push_size _ rfl, Nat.le_refl _, (fun _ h => by cases h), fun x => ⟨(fun v hv => by cases hv), fun _ => rfl⟩⟩
    obtain ⟨R₂, s₂⟩ := R₁.push (instObj Cl hh.objs.size)
    have st := s₁.trans s₂
    have ho : VRel ((hh.push emptyDict).push (instObj Cl hh.objs.size)) (.obj Cl hh.objs.size) (.ref (hh.objs.size + 1)) := ⟨_, rfl, by heap_get⟩
    refine h hh.objs.size n₁ _ _ ⟨_, g, dd, t, os⟩ _ rm.under_make R₂ (VRels.cons ho (Rp.vals st.keep r)) fun b σ' x h' tk q R' rb s' => ?_
    obtain ⟨rfl, q⟩ := q
    have e : x = .none := rb
    exact ⟨e, hq _ σ' _ h' tk q R' (R₂.val s'.keep ho) (st.trans s')⟩
end
end Mine

open PySem PySem.W PyProof.Rows PySem.Calls PyProof.V PySem.Spec PySem.SeqAt
set_option Elab.async false
set_option linter.all false
set_option maxRecDepth 100000
namespace Mine
section
variable {C : Cx} {d : Nat} {env : Env} {ρ : Fra} {σ : Store}

theorem one_of {h : Heap} {v : V} {ws : List Value} (r : VRels h [v] ws) : ∃ w, ws = [w] ∧ VRel h v w := by
  obtain ⟨w, ws', rfl, a, b⟩ := r
  have e : ws' = [] := b
  subst e
  exact ⟨w, rfl, a⟩
theorem two_of {h : Heap} {u v : V} {ws : List Value} (r : VRels h [u, v] ws) : ∃ x w, ws = [x, w] ∧ VRel h u x ∧ VRel h v w := by
  obtain ⟨x, ws', rfl, a, b⟩ := r
  obtain ⟨w, rfl, c⟩ := one_of b
  exact ⟨x, w, rfl, a, c⟩
theorem three_of {h : Heap} {u v z : V} {ws : List Value} (r : VRels h [u, v, z] ws) : ∃ x w y, ws = [x, w, y] ∧ VRel h u x ∧ VRel h v w ∧ VRel h z y := by
  obtain ⟨x, ws', rfl, a, b⟩ := r
  obtain ⟨w, y, rfl, c, e⟩ := two_of b
  exact ⟨x, w, y, rfl, a, c, e⟩

theorem ext_of {h h' : Heap} (R : Rep C σ h) (k : ∀ b o, h.get? b = some o → h'.get? b = some o) : Rep C σ h' ∧ Stp σ σ h h' :=
  ⟨⟨R.ok, fun b o e => k _ _ (R.base b o e), R.off, fun a o e => (R.objs a o e).keep (fun b o q _ => k b o q) fun co q => k _ _ q⟩, fun b o e _ => k _ _ e, fun _ o e => .inl ⟨o, e⟩, fun b o e => ⟨o, k _ _ e⟩⟩

theorem gone_of {h : Heap} {a : Addr} (le : h.objs.size ≤ a) : h.get? a = none := by
  cases q : h.get? a with
  | none => rfl
  | some o => exact absurd (Heap.lt_size q) (Nat.not_lt.mpr le)

/-- a new object at or above the heap's end -/
theorem Rep.alloc' {h h' : Heap} {a : Addr} {o : O} (R : Rep C σ h) (le : h.objs.size ≤ a) (k : ∀ b o, h.get? b = some o → h'.get? b = some o) (r : ORel C.prog C.w h' a o) :
    Rep C (σ.set a o) h' ∧ Stp σ (σ.set a o) h h' ∧ σ a = none := by
  refine R.alloc (gone_of le) ?_ ?_ k r
  · cases q : C.g.get? a with
    | none => rfl
    | some o => exact absurd (Heap.lt_size (R.base _ _ q)) (Nat.not_lt.mpr le)
  · refine beq_eq_false_iff_ne.mpr (Nat.ne_of_gt (Nat.lt_of_lt_of_le ?_ le))
    exact (modules_low (R.ok.nolimit.keeps R.base))

theorem Cw_lenL {a : Addr} {vs : List V} {Q : V → Store → Prop} (ha : σ a = some (.list vs)) (hz : vs.length ≤ 1000000) (h : Q (.int vs.length) σ) : Cw C d (.builtin "len") [.ref a] Q σ :=
  fun A E s Qc ws rm R r hq => by
    obtain ⟨w, rfl, r1⟩ := one_of r
    have e : w = .ref a := r1
    subst e
    obtain ⟨ws, l, rr⟩ := R.list ha
    have hl : ws.size = vs.length := by have := rr.length; simpa using this
    exact call_len_list l.isList (by rw [hl]; exact Int.lt_of_le_of_lt (Int.ofNat_le.mpr hz) (by decide)) (hq _ _ _ s.heap _ h R ⟨_, by rw [hl]⟩ (Stp.refl ..))
theorem Cw_lenT {vs : List V} {Q : V → Store → Prop} (hz : vs.length ≤ 1000000) (h : Q (.int vs.length) σ) : Cw C d (.builtin "len") [.tup vs] Q σ :=
  fun A E s Qc ws rm R r hq => by
    obtain ⟨w, rfl, r1⟩ := one_of r
    obtain ⟨a, n, ws, rfl, ha, rr⟩ := r1
    have hl : ws.size = vs.length := by have := rr.length; simpa using this
    exact len_tuple ⟨_, ha, rfl, n, rfl⟩ (by rw [hl]; exact Int.lt_of_le_of_lt (Int.ofNat_le.mpr hz) (by decide)) (hq _ _ _ s.heap _ h R ⟨_, by rw [hl]⟩ (Stp.refl ..))
theorem Cw_lenD {a : Addr} {kvs : List (Int × V)} {Q : V → Store → Prop} (ha : σ a = some (.idict kvs)) (hz : kvs.length ≤ 1000000) (h : Q (.int kvs.length) σ) : Cw C d (.builtin "len") [.ref a] Q σ :=
  fun A E s Qc ws rm R r hq => by
    obtain ⟨w, rfl, r1⟩ := one_of r
    have e : w = .ref a := r1
    subst e
    obtain ⟨cvs, dd, ek, rr⟩ := R.objs a _ ha
    have hl : cvs.length = kvs.length := by have := congrArg List.length ek; simpa using this
    exact call_len_dict (R.off a _ ha).2 dd (by rw [hl]; exact Int.lt_of_le_of_lt (Int.ofNat_le.mpr hz) (by decide)) (hq _ _ _ s.heap _ h R ⟨_, by rw [hl]⟩ (Stp.refl ..))

theorem Cw_range1 {n : Int} {Q : V → Store → Prop} (h : Q (.rng 0 n 1) σ) : Cw C d (.type "range") [.int n] Q σ :=
  fun A E s Qc ws rm R r hq => by
    obtain ⟨w, rfl, t, rfl⟩ := one_of r
    refine call_range_1 ?_
    obtain ⟨R₂, s₂⟩ := R.push { cls := .type "range", data := .fields #[.int 0 s.toks, .int n t, .int 1 (s.toks + 1)] }
    exact hq _ _ _ _ _ h R₂ ⟨_, _, _, _, rfl, IsRange.new ..⟩ s₂
theorem Cw_range2 {a b : Int} {Q : V → Store → Prop} (h : Q (.rng a b 1) σ) : Cw C d (.type "range") [.int a, .int b] Q σ :=
  fun A E s Qc ws rm R r hq => by
    obtain ⟨x, w, rfl, ⟨t, rfl⟩, ⟨u, rfl⟩⟩ := two_of r
    refine call_range_2 ?_
    obtain ⟨R₂, s₂⟩ := R.push { cls := .type "range", data := .fields #[.int a t, .int b u, .int 1 s.toks] }
    exact hq _ _ _ _ _ h R₂ ⟨_, _, _, _, rfl, IsRange.new ..⟩ s₂
theorem Cw_range3 {a b c : Int} {Q : V → Store → Prop} (hc : c ≠ 0) (hp : c.natAbs < 1073741824) (h : Q (.rng a b c) σ) : Cw C d (.type "range") [.int a, .int b, .int c] Q σ :=
  fun A E s Qc ws rm R r hq => by
    obtain ⟨x, w, y, rfl, ⟨t, rfl⟩, ⟨u, rfl⟩, ⟨v, rfl⟩⟩ := three_of r
    refine call_range_3 hc ?_ (.inl (PyProof.noPylong_small hp))
    obtain ⟨R₂, s₂⟩ := R.push { cls := .type "range", data := .fields #[.int a t, .int b u, .int c v] }
    exact hq _ _ _ _ _ h R₂ ⟨_, _, _, _, rfl, IsRange.new ..⟩ s₂

theorem Cw_intI {n : Int} {Q : V → Store → Prop} (h : Q (.int n) σ) : Cw C d (.type "int") [.int n] Q σ :=
  fun A E s Qc ws rm R r hq => by
    obtain ⟨w, rfl, t, rfl⟩ := one_of r
    exact call_int_int (hq _ _ _ s.heap s.toks h R ⟨t, rfl⟩ (Stp.refl ..))
theorem Cw_intB {b : Bool} {Q : V → Store → Prop} (h : Q (.int (if b then 1 else 0)) σ) : Cw C d (.type "int") [.bool b] Q σ :=
  fun A E s Qc ws rm R r hq => by
    obtain ⟨w, rfl, r1⟩ := one_of r
    have e : w = .bool b := r1
    subst e
    exact call_int_bool (hq _ _ _ s.heap _ h R ⟨_, rfl⟩ (Stp.refl ..))

theorem Cw_append {a : Addr} {vs : List V} {v : V} {Q : V → Store → Prop} (ha : σ a = some (.list vs)) (hz : vs.length ≤ 1000000) (h : Q .none (σ.set a (.list (vs ++ [v])))) : Cw C d (.builtin "list.append") [.ref a, v] Q σ :=
  fun A E s Qc ws rm R r hq => by
    obtain ⟨x, w, rfl, e, rv⟩ := two_of r
    have e : x = .ref a := e
    subst e
    obtain ⟨ws, l, rr⟩ := R.list ha
    have hl : ws.size = vs.length := by have := rr.length; simpa using this
    refine wpAny_list_append_plain l (fun h' l' sb => ?_) (by rw [hl, sizeLine_eq]; exact Nat.le_trans hz (by decide))
    have kp : KeepsIm s.heap h' := fun b co q im => sb.extBut b co (fun z => by
      subst z
      obtain ⟨n, l⟩ := l
      rw [q] at l; cases l
      exact notIm_list rfl rfl im) q
    obtain ⟨R', st⟩ := R.change (o' := .list (vs ++ [v])) ha (fun b co z q => sb.extBut b co z q) ⟨_, l', by
      rw [Array.toList_push]
      exact VRels.append (VRels.keep kp _ _ rr) (VRels.cons (VRel.keep kp _ _ rv) VRels.nil)⟩
    exact hq _ _ _ h' s.toks h R' rfl st

theorem Cw_pop {a : Addr} {vs : List V} {v : V} {Q : V → Store → Prop} (ha : σ a = some (.list (vs ++ [v]))) (hz : vs.length ≤ 1000000) (h : Q v (σ.set a (.list vs))) : Cw C d (.builtin "list.pop") [.ref a] Q σ :=
  fun A E s Qc ws rm R r hq => by
    obtain ⟨x, rfl, e⟩ := one_of r
    have e : x = .ref a := e
    subst e
    obtain ⟨ws, ⟨n, l⟩, rr⟩ := R.list ha
    have hl : ws.size = vs.length + 1 := by have := rr.length; simpa using this
    obtain ⟨y, hy, ry⟩ := VRels.at (i := vs.length) (v := v) rr (by simp)
    refine Copied.pop_at l (y := y) (by rw [hl]; simpa using hy) (fun h' sb l' => ?_) (by rw [hl, sizeLine_eq]; exact Nat.le_trans (Nat.succ_le_succ hz) (by decide))
    have kp : KeepsIm s.heap h' := fun b co q im => sb.extBut b co (fun z => by
      subst z
      rw [q] at l; cases l
      exact notIm_list rfl rfl im) q
    have tk : ∀ {vs : List V} {ws : List Value}, VRels s.heap (vs ++ [v]) ws → VRels s.heap vs ws.dropLast := by
      intro vs
      induction vs with
      | nil => intro ws r; obtain ⟨w, rfl, _⟩ := one_of r; exact VRels.nil
      | cons u vs ih =>
        intro ws r
        obtain ⟨w, ws', rfl, a, b⟩ := r
        have := ih b
        have ne : ws' ≠ [] := by
          intro z
          have := VRels.length b
          rw [z] at this
          simp at this
        rw [List.dropLast_cons_of_ne_nil ne]
        exact VRels.cons a this
    obtain ⟨R', st⟩ := R.change (o' := .list vs) ha (fun b co z q => sb.extBut b co z q) ⟨_, ⟨_, l'⟩, by
      rw [Array.toList_pop]
      exact VRels.keep kp _ _ (tk rr)⟩
    exact hq _ _ _ h' s.toks h R' (VRel.keep kp _ _ ry) st

theorem Cw_tupleL {a : Addr} {vs : List V} {Q : V → Store → Prop} (ha : σ a = some (.list vs)) (hz : vs.length ≤ 1000000) (h : Q (.tup vs) σ) : Cw C d (.type "tuple") [.ref a] Q σ :=
  fun A E s Qc ws rm R r hq => by
    obtain ⟨x, rfl, e⟩ := one_of r
    have e : x = .ref a := e
    subst e
    obtain ⟨ws, l, rr⟩ := R.list ha
    have hl : ws.size = vs.length := by have := rr.length; simpa using this
    refine call_tuple_list l.isList (fun h' hk => ?_) (by rw [hl, sizeLine_eq]; exact Nat.le_trans hz (by decide))
    have kk : ∀ b o, s.heap.get? b = some o → (h'.push { cls := .type "tuple", data := .seq ws }).get? b = some o := fun b o e => Heap.get?_push_of_some _ (hk b o e)
    obtain ⟨R', st⟩ := ext_of R kk
    exact hq _ _ _ _ s.toks h R' ⟨_, _, _, rfl, Heap.get?_push_size _ rfl, R.vals st.keep rr⟩ st
theorem Cw_tupleT {vs : List V} {Q : V → Store → Prop} (h : Q (.tup vs) σ) : Cw C d (.type "tuple") [.tup vs] Q σ :=
  fun A E s Qc ws rm R r hq => by
    obtain ⟨x, rfl, e⟩ := one_of r
    obtain ⟨a, n, ws, rfl, ha, rr⟩ := e
    exact call_tuple_same ⟨_, ha, rfl, n, rfl⟩ (hq _ _ _ s.heap s.toks h R ⟨a, n, ws, rfl, ha, rr⟩ (Stp.refl ..))

theorem Cw_listR {n : Nat} {Q : V → Store → Prop} (hz : n ≤ 1000000) (h : ∀ a, σ a = none → Q (.ref a) (σ.set a (.list ((List.range n).map fun i : Nat => V.int i)))) : Cw C d (.type "list") [.rng 0 n 1] Q σ :=
  fun A E s Qc ws rm R r hq => by
    obtain ⟨x, rfl, e⟩ := one_of r
    obtain ⟨r, t, u, v, rfl, hr⟩ := e
    have hb : (n : Int) ≤ 1000000 := Int.ofNat_le.mpr hz
    refine call_list_range (n := n) rm.hh hr (small_one (by decide) (by decide) (by omega) (by omega)) (by rw [rangeSize_one]; split <;> omega) (by omega) fun h' tk acc' c' hk ha hit => ?_
    have rl : VRels h' ((List.range n).map fun i : Nat => V.int i) acc'.toList := by
      have hl : acc'.toList.length = n := by rw [Array.length_toList]; exact hit.1
      have gen : ∀ (l : List Value) (k : Nat), (∀ j v, l[j]? = some v → ∃ t, v = Value.int ((k + j : Nat) : Int) t) → VRels h' ((List.range' k l.length).map fun i : Nat => V.int i) l := by
        intro l
        induction l with
        | nil => intro k _; exact VRels.nil
        | cons x l ih =>
          intro k hx
          obtain ⟨t, e⟩ := hx 0 x rfl
          rw [List.length_cons, List.range'_succ, List.map_cons]
          refine VRels.cons ⟨t, e⟩ (ih (k + 1) fun j v e => ?_)
          obtain ⟨t, e'⟩ := hx (j + 1) v e
          exact ⟨t, by rw [e']; congr 2; omega⟩
      have := gen acc'.toList 0 fun j v e => by
        obtain ⟨t, e'⟩ := hit.2 j v (by rw [← Array.getElem?_toList]; exact e)
        exact ⟨t, by rw [e']; congr 1; simp⟩
      rw [hl] at this
      rw [List.range_eq_range']
      exact this
    obtain ⟨R', st, n'⟩ := R.alloc' (o := .list ((List.range n).map fun i : Nat => V.int i)) (Nat.le_refl _) hk ⟨_, ⟨_, ha⟩, rl⟩
    exact hq _ _ _ _ _ (h _ n') R' rfl st
end
end Mine

open PySem PySem.W PyProof.Rows PySem.Calls PyProof.V PySem.Spec PySem.SeqAt
set_option Elab.async false
set_option linter.all false
set_option maxRecDepth 100000
namespace Mine

/-- ascending and the same members: the one sorted list -/
theorem sorted_unique {a b : List Int} (p : a.Perm b) (ha : a.Pairwise (· ≤ ·)) (hb : b.Pairwise (· ≤ ·)) : a = b := p.eq_of_pairwise (fun _ _ _ _ x y => Int.le_antisymm x y) ha hb

theorem is_int {prog : Program} {w : World} {k : Int} {v : Value} (h : (intKind prog w).is k v = true) : ∃ t, v = .int k t := by
  cases v <;> first | (simp [intKind, Value.isInt] at h; done) | (simp [intKind, Value.isInt] at h; subst h; exact ⟨_, rfl⟩)
theorem ints_unique : ∀ {l : List Value} {a b : List Int}, IntsAre l a → IntsAre l b → a = b
  | _, _, _, .nil, .nil => rfl
  | _, _, _, .cons _ _ r, .cons _ _ r' => by rw [ints_unique r r']
section
variable {C : Cx} {d : Nat} {env : Env} {ρ : Fra} {σ : Store}

theorem wp_sorted {T : String} {r dd : Addr} {n : Nat} {P : Nat → Value → Prop} {OK : Heap → Prop} {A : Around} {E : Value → Shared → Prop} {s : Shared} {Q : Value → Shared → Prop} (K : KdlSrc C.prog C.w T r dd n P OK) (hh : A.handled = none) (hok : OK s.heap) (hn : n < 64) (Rp : Rep C σ s.heap)
    (hints : ∀ acc : Array Value, ItemsOf P acc n → ∃ ns, IntsAre acc.toList ns)
    (h : ∀ (h' : Heap) (tk : Nat) (acc : Array Value) (ns : List Int) (out : Array Value) (ns' : List Int) (a : Addr), ItemsOf P acc n → IntsAre acc.toList ns → IntsAre out.toList ns' → ns'.Perm ns → ns'.Pairwise (· ≤ ·) → s.heap.get? a = none → C.g.get? a = none → (a == sysModules) = false →
      (∀ b o, s.heap.get? b = some o → h'.get? b = some o) → h'.PlainList a out → Q (.ref a) { s with heap := h', toks := tk }) :
    wpAny (model C.prog C.w) A (call (.builtin "sorted") [.ref r]) Q E s := by
  have hz : n ≤ sizeLine := by rw [sizeLine_eq]; omega
  refine call_function_entry kind_sorted plain_sorted entry_sorted (args_sorted1 _) ?_
  unfold Builtin.«sorted»
  refine wpAny_bind (m := checkCount "sorted" 1 1 _) (wpAny_pure ?_)
  refine wpAny_bind (kdu_collect (A := A.in1) K hh hok hz fun h' tk acc hk hacc => ?_)
  have hl : acc.toList.length = n := by rw [Array.length_toList]; exact hacc.1
  obtain ⟨ns, hi⟩ := hints acc hacc
  refine wpAny_bind (wpAny_newList ?_ (by rw [hl]; exact hz))
  have ho : (h'.push (seqObj "list" acc.toList.toArray 0)).get? h'.objs.size = some (seqObj "list" acc.toList.toArray 0) := Heap.get?_push_size _ rfl
  refine wpAny_bind (wpAny_holding (wpAny_call_entry slot_list_sort ⟨_, ho, rfl⟩ entry_list_sort (list_sort_tree (s := { s with heap := h'.push (seqObj "list" acc.toList.toArray 0), toks := tk }) ho hi (by rw [hl]; exact hn) fun out ns' a1 a2 a3 => ⟨_, rfl, ?_⟩) (args_list_sort _)))
  refine wpAny_pure ⟨_, rfl, ?_⟩
  have hlt : ∀ {b o}, s.heap.get? b = some o → b < h'.objs.size := fun e => Heap.lt_size (hk _ _ e)
  obtain ⟨e, he⟩ := sortedHeap_at (out := out) ho
  have hno : s.heap.get? h'.objs.size = none := by
    cases q : s.heap.get? h'.objs.size with
    | some o => exact absurd (hlt q) (Nat.lt_irrefl _)
    | none => rfl
  refine h _ _ acc ns out ns' h'.objs.size hacc hi a1 a2 a3 hno ?_ ?_ (fun b o q => ?_) ⟨_, he⟩
  · cases q : C.g.get? h'.objs.size with
    | some o => exact absurd (hlt (Rp.base _ _ q)) (Nat.lt_irrefl _)
    | none => rfl
  · exact beq_eq_false_iff_ne.mpr (Nat.ne_of_gt (modules_low ((Rp.ok.nolimit.keeps Rp.base).keeps hk)))
  · rw [sortedHeap_old (Nat.ne_of_lt (hlt q)) (by rw [size_push']; exact Nat.lt_succ_of_lt (hlt q))]
    exact Heap.get?_push_of_some _ (hk _ _ q)

theorem Cw_sortedD {a : Addr} {kvs : List (Int × V)} {ns' : List Int} {Q : V → Store → Prop} (ha : σ a = some (.idict kvs)) (hz : kvs.length < 64) (hp : ns'.Perm (kvs.map (·.1))) (hs : ns'.Pairwise (· ≤ ·))
    (h : ∀ b, σ b = none → Q (.ref b) (σ.set b (.list (ns'.map V.int)))) : Cw C d (.builtin "sorted") [.ref a] Q σ :=
  fun A E s Qc ws rm R r hq => by
    obtain ⟨x, rfl, e⟩ := one_of r
    have e : x = .ref a := e
    subst e
    obtain ⟨cvs, dd, ek, rr⟩ := R.objs a _ ha
    have hl : cvs.length = kvs.length := by have := congrArg List.length ek; simpa using this
    obtain ⟨ep, hat⟩ := dd.dictAt
    have gen : ∀ (l : List Value) (cs : List (Int × Value)), l.length = cs.length → (∀ (j : Nat) (v : Value), l[j]? = some v → ∃ k x, cs[j]? = some (k, x) ∧ (intKind C.prog C.w).is k v = true) → IntsAre l (cs.map (·.1)) := by
      intro l
      induction l with
      | nil => intro cs e _; cases cs with | nil => exact .nil | cons _ _ => cases e
      | cons v l ih =>
        intro cs e hx
        cases cs with
        | nil => cases e
        | cons c cs =>
          obtain ⟨k, x, e1, e2⟩ := hx 0 v rfl
          cases e1
          obtain ⟨t, rfl⟩ := is_int e2
          exact .cons _ _ (ih cs (Nat.succ.inj e) fun j v e => hx (j + 1) v e)
    have it : ∀ acc : Array Value, ItemsOf (fun i v => ∃ k x, cvs[i]? = some (k, x) ∧ (intKind C.prog C.w).is k v = true) acc cvs.length → IntsAre acc.toList (cvs.map (·.1)) := fun acc hit =>
      gen _ _ (by rw [Array.length_toList]; exact hit.1) fun j v e => hit.2 j v (by rw [← Array.getElem?_toList]; exact e)
    refine wp_sorted (kdl_dict (knd := intKind C.prog C.w) (kvs := cvs) (ep := ep) (R.off a _ ha).2) rm.hh hat (by rw [hl]; exact hz) R (fun acc hit => ⟨_, it acc hit⟩) fun h' tk acc ns out ns₂ b hit hi ho p2 s2 f1 f2 f3 hk hpl => ?_
    have e1 : ns = cvs.map (·.1) := ints_unique hi (it acc hit)
    have e2 : ns₂ = ns' := sorted_unique (p2.trans (by rw [e1, ek]; exact hp.symm)) s2 hs
    subst e2
    obtain ⟨R', st, n'⟩ := R.alloc (o := .list (ns₂.map V.int)) f1 f2 f3 hk ⟨_, hpl, ofInts ho⟩
    exact hq _ _ _ _ _ (h _ n') R' rfl st

theorem Cw_index {a : Addr} {ns : List Int} {k : Int} {Q : V → Store → Prop} (ha : σ a = some (.list (ns.map V.int))) (hz : ns.length ≤ 1000) (hk : k ∈ ns) (h : Q (.int (ns.idxOf k : Nat)) σ) : Cw C d (.builtin "list.index") [.ref a, .int k] Q σ :=
  fun A E s Qc ws rm R r hq => by
    obtain ⟨x, y, rfl, e, t, rfl⟩ := two_of r
    have e : x = .ref a := e
    subst e
    obtain ⟨ws, l, rr⟩ := R.list ha
    have hi := IntsOf rr
    obtain ⟨⟨cls, dd, data, sl⟩, ho, hc, n, hd⟩ := l.isList
    simp only at hc hd
    subst hc hd
    have hlen : ws.size = ns.length := by have := hi.length; simpa using this
    have hj : ns.idxOf k < ns.length := List.idxOf_lt_length_iff.mpr hk
    refine call_meets PySem.F.slot_list_index ⟨_, ho, rfl⟩ PySem.F.entry_list_index (PySem.F.args_list_index_2 _ _)
      (list_indexAt a ws n dd sl (.int k t) (isInt k) (ns.idxOf k) (by rw [hlen]; exact hj) (by omega) ?_ ?_) ⟨ho, fun y hy => (eq_isInt k t hi y (by simpa using hy)).at _ _, hq _ _ _ s.heap _ h R ⟨_, rfl⟩ (Stp.refl ..)⟩
    · have := isInt_at k hi (ns.idxOf k) (by rw [Array.length_toList, hlen]; exact hj) hj
      rw [Array.getElem_toList] at this
      rw [this]
      simpa using List.getElem_idxOf hj
    · intro j hjs hlt
      have := isInt_at k hi j (by rw [Array.length_toList]; exact hjs) (by omega)
      rw [Array.getElem_toList] at this
      rw [this]
      exact ne_of_lt_idxOf hlt _
end
end Mine

open PySem PySem.W PyProof.Rows PySem.Calls PyProof.V PySem.Spec PySem.SeqAt
set_option Elab.async false
set_option linter.all false
set_option maxRecDepth 100000
namespace Mine

/-- the tests of a clause -/
def testsT (ifs : List Expr) (env : Env) : Sem Bool := forIn ifs true fun c r => if r = true then do let ok ← isTrue c env (eval c env); pure (ForInStep.yield ok) else pure (ForInStep.yield r)

def TurnIs (e : Expr) (k : Nat) (target : Expr) (ifs : List Expr) (p : Pos) (em : Value → Env → Sem PySem.Fin → Sem PySem.Fin) : Prop := ∀ (it acc : Value) (env : Env), compTurn e k it acc env = (do
      standAt p
      match ← pyNext it with
      | none => pure (.done .next)
      | some v =>
        letOwnedTupleGo target it v
        assign target env v
        let mut ok := true
        for c in ifs do
          if ok then ok ← isTrue c env (eval c env)
        if ok then em acc env (again (.compLoop e k it acc env)) else again (.compLoop e k it acc env))

def emLast (elt : Expr) (acc : Value) (env : Env) (k : Sem PySem.Fin) : Sem PySem.Fin := do
  (do let _ ← call (.builtin "list.append") [acc, ← eval elt env])
  k
def emNext (e : Expr) (n : Nat) (iter : Expr) (acc : Value) (env : Env) (k : Sem PySem.Fin) : Sem PySem.Fin := do
  let x ← eval iter env
  standAt iter.pos
  let x ← foldedSetIterable iter env x
  let _ ← runOwn (.compStart e n (← holding [x] (pyIter x)) acc env) env
  k

theorem turn_one {elt target iter : Expr} {ifs : List Expr} {scope : Scope} {pos : Pos} : TurnIs (.ListComp elt [⟨target, iter, ifs, 0⟩] scope pos) 0 target ifs iter.pos (emLast elt) := fun it acc env => by rfl
theorem turn_two0 {elt target iter target' iter' : Expr} {ifs ifs' : List Expr} {scope : Scope} {pos : Pos} :
    TurnIs (.ListComp elt [⟨target, iter, ifs, 0⟩, ⟨target', iter', ifs', 0⟩] scope pos) 0 target ifs iter.pos (emNext (.ListComp elt [⟨target, iter, ifs, 0⟩, ⟨target', iter', ifs', 0⟩] scope pos) 1 iter') := fun it acc env => by rfl
theorem turn_two1 {elt target iter target' iter' : Expr} {ifs ifs' : List Expr} {scope : Scope} {pos : Pos} :
    TurnIs (.ListComp elt [⟨target, iter, ifs, 0⟩, ⟨target', iter', ifs', 0⟩] scope pos) 1 target' ifs' iter'.pos (emLast elt) := fun it acc env => by rfl

section
variable {C : Cx} {d : Nat} {env cenv : Env} {ρ : Fra} {σ : Store}

/-- what is done with each item that passes -/
def Em (C : Cx) (d : Nat) (cenv : Env) (em : Value → Env → Sem PySem.Fin → Sem PySem.Fin) (D : Addr) (Q : Fra → Store → Prop) (ρ : Fra) (σ : Store) : Prop :=
  ∀ (A : Around) (E : Value → Shared → Prop) (s : Shared) (Qf : PySem.Fin → Shared → Prop) (k : Sem PySem.Fin), Room d A → Rep C σ s.heap → FrameRep C cenv ρ σ s.heap →
    (∀ ρ' σ' h' tk, Q ρ' σ' → Rep C σ' h' → FrameRep C cenv ρ' σ' h' → StpF cenv σ σ' s.heap h' → wpAny C.M A k Qf E { s with heap := h', toks := tk }) → wpAny C.M A (em (.ref D) cenv k) Qf E s

def Gw (C : Cx) (d : Nat) (cenv : Env) (e : Expr) (k : Nat) (D : Addr) (it : It) (Q : Fra → Store → Prop) (ρ : Fra) (σ : Store) : Prop :=
  ∀ (A : Around) (R : Result → Shared → Prop) (s : Shared) (I : Addr) (fp : List Addr) (h0 : Heap) (σ0 : Store), Room d A → Rep C σ s.heap → FrameRep C cenv ρ σ s.heap → ItRel s.heap I fp 0 it →
    (∀ b ∈ fp, h0.get? b = none ∧ σ b = none ∧ C.g.get? b = none ∧ b ≠ cenv.locals ∧ ∀ x c, cenv.cells.lookup x = some c → c ≠ b) → StpF cenv σ0 σ h0 s.heap →
    (∀ ρ' σ' h' tk, Q ρ' σ' → Rep C σ' h' → FrameRep C cenv ρ' σ' h' → StpF cenv σ0 σ' h0 h' → R (.ok .next) { s with heap := h', toks := tk }) → codeAny C.M A (.compStart e k (.ref I) (.ref D) cenv) R s

theorem it_self {A : Around} {E : Value → Shared → Prop} {s : Shared} {I : Addr} {fp : List Addr} {i : Nat} {it : It} {Q : Value → Shared → Prop} (x : ItRel s.heap I fp i it) (h : Q (.ref I) s) : wpAny C.M A (pyIter (.ref I)) Q E s := by
  cases it with
  | list a => obtain ⟨rfl, hit⟩ := x; exact wpAny_pyIter_listiter hit h
  | tup vs => obtain ⟨rfl, tt, n, ws, e0, r0, hit⟩ := x; exact wpAny_pyIter_tupleiter hit h
  | rng lo st n => obtain ⟨rfl, hit⟩ := x; exact wpAny_pyIter_rangeiter hit h
  | enum a => obtain ⟨it, old, rfl, ne, he, hit⟩ := x; exact wpAny_pyIter_enum he h

theorem comp_start {A : Around} {R : Result → Shared → Prop} {s : Shared} {elt : Expr} {gens : List Comprehension} {scope : Scope} {pos : Pos} {k : Nat} {I D : Addr} {fp : List Addr} {i : Nat} {it : It} {g : Comprehension} (hg : gens[k]? = some g) (ha : g.is_async = 0)
    (x : ItRel s.heap I fp i it) (h : codeAny C.M A (.compLoop (.ListComp elt gens scope pos) k (.ref I) (.ref D) cenv) R s) : codeAny C.M A (.compStart (.ListComp elt gens scope pos) k (.ref I) (.ref D) cenv) R s := by
  refine codeAny_of_tree ?_
  show wpAny _ _ ((compStart (.ListComp elt gens scope pos) k (.ref I) (.ref D) cenv).onRaise (fun x => do noteFrame x cenv; standAt theWindowsPlace)) _ _ s
  refine wpAny_notedAt ?_
  unfold compStart
  have hc : (clausesOf (.ListComp elt gens scope pos))[k]? = some g := hg
  rw [hc]
  have ha' : (g.is_async != 0) = false := by rw [ha]; rfl
  show wpAny _ _ (if (g.is_async != 0) = true then _ else _) _ _ s
  rw [if_neg (by rw [ha']; decide)]
  show wpAny _ _ (ask >>= _) _ _ s
  refine wpAny_bind (wpAny_askSetting (wpAny_ite ?_))
  split
  · first
      | exact wpAny_bind (wpAny_pure (wpAny_pure (And.intro rfl h)))
      | exact wpAny_pure (And.intro rfl h)
  · refine wpAny_bind (wpAny_rule ?_)
    show wpAny _ _ (standAt g.iter.pos >>= _) _ _ s
    exact wpAny_bind (wpAny_standAt (wpAny_bind (it_self x (wpAny_pure (And.intro rfl h)))))

theorem Gw_loop {elt target : Expr} {gens : List Comprehension} {ifs : List Expr} {scope : Scope} {pos p : Pos} {k : Nat} {em : Value → Env → Sem PySem.Fin → Sem PySem.Fin} {D : Addr} {it : It} {Q : Fra → Store → Prop} {g : Comprehension} (hg : gens[k]? = some g) (ha : g.is_async = 0)
    (turn : TurnIs (.ListComp elt gens scope pos) k target ifs p em) (ht : TgtOk target it) (J : Nat → Fra → Store → Prop) (j0 : J 0 ρ σ) (N : Nat)
    (step : ∀ i ρ' σ', J i ρ' σ' → i ≤ N ∧ it.ok σ' ∧ (∀ v, it.at σ' i = some v → Asg C d cenv target v (fun ρ₂ σ₂ => Ew C d cenv ρ₂ BRel (testsT ifs cenv) (fun b σ₃ => (b = true → Em C d cenv em D (J (i + 1)) ρ₂ σ₃) ∧ (b = false → J (i + 1) ρ₂ σ₃)) σ₂) ρ' σ') ∧
      (it.at σ' i = none → Q ρ' σ')) : Gw C d cenv (.ListComp elt gens scope pos) k D it Q ρ σ :=
  fun A R s I fp h0 σ0 rm Rp F ir nw st hq => by
    refine comp_start hg ha ir ?_
    have hidx : k = 0 ∨ k ≠ 0 := by omega
    refine codeAny_loop rfl (fun n s' => ∃ i ρ' σ' h' tk, s' = { s with heap := h', toks := tk } ∧ n = N + 1 - i ∧ J i ρ' σ' ∧ Rep C σ' h' ∧ FrameRep C cenv ρ' σ' h' ∧ ItRel h' I fp i it ∧ (∀ b ∈ fp, σ' b = none) ∧ StpF cenv σ0 σ' h0 h') ?_ (N + 1)
      ⟨0, ρ, σ, s.heap, s.toks, rfl, rfl, j0, Rp, F, ir, fun b hb => (nw b hb).2.1, st⟩
    rintro n s' ⟨i, ρ', σ', h', tk, rfl, rfl, j, R', F', ir', off', st'⟩
    obtain ⟨hiN, hok, hsome, hnone⟩ := step i ρ' σ' j
    have live := ir'.live.2
    have nL : cenv.locals ∉ fp := fun z => (nw _ z).2.2.2.1 rfl
    have nC : ∀ x c, cenv.cells.lookup x = some c → c ∉ fp := fun x c e z => (nw _ z).2.2.2.2 x c e rfl
    show wpAny _ A ((compTurn (.ListComp elt gens scope pos) k (.ref I) (.ref D) cenv).onRaise (fun x => do noteFrame x cenv; theTreesLotGoes x)) _ _ _
    refine wpAny_noted ?_
    rw [turn]
    refine wpAny_bind (wpAny_standAt (wpAny_bind ?_))
    cases e : it.at σ' i with
    | some v =>
      refine wpAny_mono (it_item (s := { s with heap := h', toks := tk }) R' ir' ht off' hok e (fun w h₂ t₂ rv ir₂ kb => ?_) (Q := fun w s₂ => ∃ h₂ t₂, s₂ = { s with heap := h₂, toks := t₂ } ∧ VRel h₂ v w ∧ ItRel h₂ I fp (i + 1) it ∧ KeepBut fp h' h₂)) (fun r s₂ hr => ?_) fun _ _ e => e
      · exact ⟨h₂, t₂, rfl, rv, ir₂, kb⟩
      · cases r with
        | none => exact hr.elim
        | some w =>
          refine wpAny_bind (wpAny_mono hr (fun _ s₃ hw => ?_) fun _ _ e => e)
          obtain ⟨h₂, t₂, rfl, rv, ir₂, kb⟩ := hw
          have im := kb.im live
          have R₂ := R'.but kb live fun b hb => ⟨off' b hb, (nw b hb).2.2.1⟩
          have F₂ := F'.but kb im nL nC
          have st₂ : StpF cenv σ0 σ' h0 h₂ := ⟨fun b o e n n1 n2 => kb b o (fun z => by rw [(nw b z).1] at e; cases e) (st'.keep b o e n n1 n2), st'.fresh, fun b o e => by
            obtain ⟨o', e'⟩ := st'.live b o e
            exact ⟨o', kb b o' (fun z => by rw [(nw b z).1] at e; cases e) e'⟩⟩
          refine wpAny_bind (hsome v e A _ _ _ w rm R₂ F₂ rv fun ρ₃ σ₃ h₃ t₃ q₃ R₃ F₃ s₃ => ?_)
          refine wpAny_bind (q₃ A _ _ _ rm R₃ F₃ fun b σ₄ x h₄ t₄ q₄ R₄ r₄ s₄ => ?_)
          have ex : x = b := r₄
          subst ex
          have F₄ := F₃.keep R₃ s₄
          have fin : ∀ ρ₅ σ₅ h₅ t₅, J (i + 1) ρ₅ σ₅ → Rep C σ₅ h₅ → FrameRep C cenv ρ₅ σ₅ h₅ → StpF cenv σ' σ₅ h₂ h₅ → ∃ m, m < N + 1 - i ∧ ∃ i ρ' σ' h' tk, ({ s with heap := h₅, toks := t₅ } : Shared) = { s with heap := h', toks := tk } ∧ m = N + 1 - i ∧ J i ρ' σ' ∧ Rep C σ' h' ∧ FrameRep C cenv ρ' σ' h' ∧ ItRel h' I fp i it ∧ (∀ b ∈ fp, σ' b = none) ∧ StpF cenv σ0 σ' h0 h' := by
            intro ρ₅ σ₅ h₅ t₅ j' R₅ F₅ s5
            have keepI : ∀ b ∈ fp, ∀ o, h₂.get? b = some o → h₅.get? b = some o := fun b hb o e => s5.keep b o e (off' b hb) (nw b hb).2.2.2.1 fun _ x z => (nw b hb).2.2.2.2 x b z rfl
            refine ⟨N + 1 - (i + 1), by omega, i + 1, ρ₅, σ₅, h₅, t₅, rfl, rfl, j', R₅, F₅, ir₂.keep keepI (s5.im R₂ F₂), fun b hb => ?_, st₂.trans s5⟩
            obtain ⟨o, e, _⟩ := ir₂.live.2 b hb
            exact s5.fresh.none e (off' b hb)
          have s34 := s₃.trans s₄.toF
          cases x with
          | true =>
            exact q₄.1 rfl A _ _ _ _ rm R₄ F₄ fun ρ₅ σ₅ h₅ t₅ q₅ R₅ F₅ s₅ => wpAny_pure ⟨rfl, fin _ _ _ _ q₅ R₅ F₅ (s34.trans s₅)⟩
          | false => exact wpAny_pure ⟨rfl, fin _ _ _ _ (q₄.2 rfl) R₄ F₄ s34⟩
    | none =>
      refine wpAny_mono (it_done (s := { s with heap := h', toks := tk }) rm.hh R' ir' hok e (fun h₂ t₂ kb => ?_) (Q := fun s₂ => ∃ h₂ t₂, s₂ = { s with heap := h₂, toks := t₂ } ∧ KeepBut fp h' h₂)) (fun r s₂ hr => ?_) fun _ _ e => e
      · exact ⟨h₂, t₂, rfl, kb⟩
      · cases r with
        | some w => exact hr.elim
        | none =>
          obtain ⟨h₂, t₂, rfl, kb⟩ := hr
          have R₂ := R'.but kb live fun b hb => ⟨off' b hb, (nw b hb).2.2.1⟩
          have F₂ := F'.but kb (kb.im live) nL nC
          have st₂ : StpF cenv σ0 σ' h0 h₂ := ⟨fun b o e n n1 n2 => kb b o (fun z => by rw [(nw b z).1] at e; cases e) (st'.keep b o e n n1 n2), st'.fresh, fun b o e => by
            obtain ⟨o', e'⟩ := st'.live b o e
            exact ⟨o', kb b o' (fun z => by rw [(nw b z).1] at e; cases e) e'⟩⟩
          exact wpAny_pure (hq _ _ _ _ (hnone e) R₂ F₂ st₂)

theorem Em_last {elt : Expr} {D : Addr} {Q : Fra → Store → Prop} (h : Ew C d cenv ρ VRel (eval elt cenv) (fun v σ₁ => ∃ vs, σ₁ D = some (.list vs) ∧ vs.length ≤ 1000000 ∧ Q ρ (σ₁.set D (.list (vs ++ [v])))) σ) : Em C d cenv (emLast elt) D Q ρ σ :=
  fun A E s Qf k rm Rp F hq => by
    unfold emLast
    refine wpAny_bind (wpAny_bind (h A E s _ rm Rp F fun v σ₁ x h₁ k₁ q₁ R₁ r₁ s₁ => ?_))
    obtain ⟨vs, ha, hz, q⟩ := q₁
    refine wpAny_bind (Cw_append (d := d) ha hz (Q := fun _ σ' => Q ρ σ') q A E { s with heap := h₁, toks := k₁ } _ [.ref D, x] rm R₁ (VRels.cons rfl (VRels.cons r₁ VRels.nil)) fun b σ' z h' tk q' R' _ s' => ?_)
    have st := s₁.trans s'
    exact wpAny_pure (hq _ _ _ _ q' R' (F.keep Rp st) st.toF)

theorem Em_next {e iter : Expr} {n : Nat} {D : Addr} {Q : Fra → Store → Prop} (h : Iw C d cenv ρ iter (fun it σ₁ => Gw C d cenv e n D it Q ρ σ₁) σ) (hs : ∀ x, foldedSetIterable iter cenv x = pure x := by intro _; rfl) : Em C d cenv (emNext e n iter) D Q ρ σ :=
  fun A E s Qf k rm Rp F hq => by
    unfold emNext
    refine wpAny_bind (wpAny_mono (h A E s (fun xv s' => wpAny C.M A (runOwn (.compStart e n xv (.ref D) cenv) cenv) (fun _ s₂ => wpAny C.M A k Qf E s₂) E s') rm Rp F fun it σ₁ I fp h₁ k₁ q₁ R₁ ir nw s₁ => ?_) (fun x s₁ hx => ?_) fun _ _ e => e)
    · have F₁ := F.keep Rp s₁
      refine wpAny_runOwn ?_
      refine q₁ _ _ _ I fp s.heap σ ⟨rm.hh, rm.depth, rm.units⟩ R₁ F₁ ir (fun b hb => ⟨(nw b hb).1, (nw b hb).2.1, (nw b hb).2.2, fun z => ?_, fun x c e z => ?_⟩) s₁.toF fun ρ' σ' h' tk q R' F' s' => hq _ _ _ _ q R' F' s'
      · obtain ⟨o, e, _⟩ := F.locals_live
        rw [← z, (nw b hb).1] at e
        cases e
      · obtain ⟨_, _, _, v, o, e2, _⟩ := F.cells x c e
        rw [z, (nw b hb).1] at e2
        cases e2
    · exact wpAny_bind (wpAny_standAt (wpAny_bind (wpAny_of_eq (hs x) (wpAny_bind (wpAny_holding (wpAny_mono hx (fun iv s₂ h₂ => wpAny_bind h₂) fun _ _ e => e))))))

theorem Ts_nil {Q : Bool → Store → Prop} (h : Q true σ) : Ew C d cenv ρ BRel (testsT [] cenv) Q σ := fun A E s Qc rm Rp F hq => wpAny_tests_nil (hq _ _ _ s.heap s.toks h Rp rfl (Stp.refl ..))
theorem Ts_one {c : Expr} {Q : Bool → Store → Prop} (h : Ew C d cenv ρ BRel (isTrue c cenv (eval c cenv)) Q σ) : Ew C d cenv ρ BRel (testsT [c] cenv) Q σ := fun A E s Qc rm Rp F hq => wpAny_tests_one (h A E s Qc rm Rp F hq)

/-! the whole -/
def compFra (ρ : Fra) (env cenv : Env) : Fra := fun x => if (cenv.cells.lookup x).isSome && !(env.kindOf x == some .local) && (cenv.kindOf x == some .cell || cenv.kindOf x == some .free) && !(x == ("__classdict__" : Str)) then ρ x else none

theorem compFrame {scope : Scope} {cl : List (Str × Addr)} {h : Heap} {L : Addr} (F : FrameRep C env ρ σ h) (hk : scope.kind = .function) (hcl : ∀ x c, cl.lookup x = some c → env.cells.lookup x = some c) (e0 : σ L = none) (e1 : C.g.get? L = none) (e2 : ∀ x c, env.cells.lookup x = some c → c ≠ L)
    (hn : h.Ns L fun _ => none) : FrameRep C (compEnvC scope cl L env) (compFra ρ env (compEnvC scope cl L env)) σ h := by
  refine ⟨hk, F.glob, F.blt, e1, e0, ⟨_, hn, fun x v e kx => ?_⟩, fun x v e kx => ?_, fun x c e => ?_, fun x y c e e' => F.apart x y c (hcl _ _ e) (hcl _ _ e')⟩
  · unfold compFra at e
    rw [kx] at e
    have z1 : (some NameKind.local == some NameKind.cell) = false := by decide
    have z2 : (some NameKind.local == some NameKind.free) = false := by decide
    rw [z1, z2] at e
    simp at e
  · unfold compFra at e
    split at e
    · rename_i hc
      simp only [Bool.and_eq_true, Bool.or_eq_true, Bool.not_eq_true'] at hc
      obtain ⟨⟨⟨h1, h2⟩, h3⟩, h4⟩ := hc
      obtain ⟨c, ec⟩ := Option.isSome_iff_exists.mp h1
      obtain ⟨_, _, c', w, a, b, r⟩ := F.cell x v e (fun z => by rw [z] at h2; exact absurd h2 (by decide))
      have ec' := hcl x c ec
      rw [a] at ec'
      cases ec'
      exact ⟨h3.imp (fun z => by simpa using z) fun z => by simpa using z, h4, _, w, ec, b, r⟩
    · cases e
  · obtain ⟨a, b, _, v, r⟩ := F.cells x c (hcl _ _ e)
    exact ⟨a, b, e2 x c (hcl _ _ e), v, r⟩

theorem wp_comp {elt : Expr} {g : Comprehension} {gs : List Comprehension} {scope : Scope} {pos : Pos} {cl : List (Str × Addr)} {use : Option (Value → Sem Unit)} {A : Around} {E : Value → Shared → Prop} {s : Shared} {Qc : Value → Shared → Prop} {Q : Addr → Store → Prop}
    (rm : Room d A) (Rp : Rep C σ s.heap) (F : FrameRep C env ρ σ s.heap)
    (hclos : closureFor scope env = pure cl) (hcl : ∀ x c, cl.lookup x = some c → env.cells.lookup x = some c) (hcell : ∀ y ∈ scope.names, y.2 ≠ .cell) (hkind : scope.kind = .function)
    (hnames : ∀ y ∈ scope.names, y.2 = .local → scope.names.lookup y.1 = some .local) (hs : ∀ x, foldedSetIterable g.iter env x = pure x)
    (h : Iw C d env ρ g.iter (fun it σ₁ => ∀ D L, σ₁ D = none → Gw C d (compEnvC scope cl L env) (.ListComp elt (g :: gs) scope pos) 0 D it (fun _ σ' => Q D σ') (compFra ρ env (compEnvC scope cl L env)) (σ₁.set D (.list []))) σ)
    (hq : ∀ D L σ' h' tk, Q D σ' → Rep C σ' h' → Stp σ σ' s.heap h' → s.heap.get? L = none → C.g.get? L = none → σ' L = none → (∃ m, h'.Ns L m) → compPost C.M A E use Qc (.ref D) L (.ok .next) { s with heap := h', toks := tk }) (p : Pos) :
    wpAny C.M A (comprehension (.ListComp elt (g :: gs) scope pos) scope env p (newList []) false (eval g.iter env) use) Qc E s := by
  refine wpAny_comprehension_free rfl hs hclos hkind hnames (h A E s _ rm Rp F fun it σ₁ I fp h₁ k₁ q₁ R₁ ir nw s₁ => ?_)
  refine wpAny_newObj_type (wpAny_newFunctionEnv hcell (by intro y hy; simp at hy) (fun h₂ hns₂ hsb₂ => ?_) hkind)
  dsimp only at hns₂ hsb₂ ⊢
  generalize hH2 : h₁.push { cls := .type "list", dict := none, data := .seq ([] : List Value).toArray } = H2 at hns₂ hsb₂ ⊢
  have hL : H2.objs.size = h₁.objs.size + 1 := by rw [← hH2, Heap.size_push]
  have old : ∀ b o, h₁.get? b = some o → h₂.get? b = some o := fun b o e => by
    have lt := Heap.lt_size e
    exact hsb₂.extBut b o (by rw [hL]; exact Nat.ne_of_lt (Nat.lt_succ_of_lt lt)) (Heap.get?_push_of_some _ (hH2 ▸ Heap.get?_push_of_some _ e))
  have hacc : h₂.PlainList h₁.objs.size #[] := ⟨_, hsb₂.extBut _ _ (by rw [hL]; exact Nat.ne_of_lt (Nat.lt_succ_self _)) (Heap.get?_push_of_some _ (hH2 ▸ Heap.get?_push_size _ rfl))⟩
  obtain ⟨R₂, s₂, n₂⟩ := R₁.alloc' (o := .list []) (Nat.le_refl _) old ⟨_, hacc, VRels.nil⟩
  have goneL : h₁.get? H2.objs.size = none := gone_of (by rw [hL]; exact Nat.le_succ _)
  have sL : s.heap.get? H2.objs.size = none := by
    cases q : s.heap.get? H2.objs.size with
    | none => rfl
    | some o => obtain ⟨o', e'⟩ := s₁.live _ _ q; rw [goneL] at e'; cases e'
  have st := s₁.trans s₂
  have σL : (σ₁.set h₁.objs.size (.list [])) H2.objs.size = none := by
    rw [Store.set_ne (by rw [hL]; exact Nat.ne_of_gt (Nat.lt_succ_self _))]
    cases q : σ₁ H2.objs.size with
    | none => rfl
    | some o => obtain ⟨co, e, _⟩ := (R₁.objs _ _ q).cls; rw [goneL] at e; cases e
  have gL : C.g.get? H2.objs.size = none := by
    cases q : C.g.get? H2.objs.size with
    | none => rfl
    | some o => have := R₁.base _ _ q; rw [goneL] at this; cases this
  have F₁ := F.keep Rp s₁
  have ncell : ∀ x c, env.cells.lookup x = some c → c ≠ H2.objs.size := fun x c e z => by
    obtain ⟨_, _, _, v, o, e2, _⟩ := F.cells x c e
    rw [z, sL] at e2
    cases e2
  have hns : h₂.Ns H2.objs.size fun _ => none := by
    have := hns₂
    simpa using this
  have F₂ := compFrame (F.keep Rp st) hkind hcl σL gL ncell (scope := scope) hns
  have ir₂ : ItRel h₂ I fp 0 it := ir.keep (fun b _ o e => old b o e) (fun b o e _ => old b o e)
  have lt₁ : ∀ b ∈ fp, b < h₁.objs.size := fun b hb => by
    obtain ⟨o, e, _⟩ := ir.live.2 b hb
    exact Heap.lt_size e
  refine q₁ h₁.objs.size H2.objs.size n₂ A _ { s with heap := h₂, toks := _ } I fp s.heap σ rm R₂ F₂ ir₂ (fun b hb => ⟨(nw b hb).1, ?_, (nw b hb).2.2, ?_, fun x c e z => ?_⟩) st.toF fun ρ' σ' h' tk q R' F' s' => ?_
  · rw [Store.set_ne (Nat.ne_of_lt (lt₁ b hb))]; exact (nw b hb).2.1
  · show b ≠ H2.objs.size
    rw [hL]; exact Nat.ne_of_lt (Nat.lt_succ_of_lt (lt₁ b hb))
  · obtain ⟨_, _, _, v, o, e2, _⟩ := F.cells x c (hcl x c e)
    rw [z, (nw b hb).1] at e2
    cases e2
  · obtain ⟨m, hn', _⟩ := F'.ns
    exact hq _ _ σ' h' tk q R' ⟨fun b o e n => s'.keep b o e n (fun z => by subst z; rw [show (compEnvC scope cl H2.objs.size env).locals = H2.objs.size from rfl, sL] at e; cases e) (fun hf => nomatch hf), s'.fresh, s'.live⟩ sL gL F'.off ⟨m, hn'⟩

theorem Ew_ListComp {elt : Expr} {g : Comprehension} {gs : List Comprehension} {scope : Scope} {pos : Pos} {cl : List (Str × Addr)} {Q : V → Store → Prop}
    (hclos : closureFor scope env = pure cl) (hcl : ∀ x c, cl.lookup x = some c → env.cells.lookup x = some c) 
    (h : Iw C d env ρ g.iter (fun it σ₁ => ∀ D L, σ₁ D = none → Gw C d (compEnvC scope cl L env) (.ListComp elt (g :: gs) scope pos) 0 D it (fun _ σ' => Q (.ref D) σ') (compFra ρ env (compEnvC scope cl L env)) (σ₁.set D (.list []))) σ)
    (hcell : ∀ y ∈ scope.names, y.2 ≠ .cell := by decide) (hkind : scope.kind = .function := by rfl)
    (hnames : ∀ y ∈ scope.names, y.2 = .local → scope.names.lookup y.1 = some .local := by decide) (hs : ∀ x, foldedSetIterable g.iter env x = pure x := by intro _; rfl)
    (ha : g.is_async = 0 := by rfl) : Ew C d env ρ VRel (eval (.ListComp elt (g :: gs) scope pos) env) Q σ :=
  fun A E s Qc rm Rp F hq => by
    rw [eval_ListComp]
    obtain ⟨target, iter, ifs, asy⟩ := g
    have e0 : asy = 0 := ha
    subst e0
    refine wp_comp (use := none) rm Rp F hclos hcl hcell hkind hnames hs h (fun D L σ' h' tk q R' st e1 e2 e3 hn => ?_) _
    obtain ⟨m, hn⟩ := hn
    refine ⟨m, hn, fun h'' sb => ?_⟩
    obtain ⟨oL, es, ep, eL, ed⟩ := Heap.Ns.obj hn
    obtain ⟨k, R''⟩ := R'.aside eL (notIm_dict ed) e3 e2 sb
    have kp : Keeps σ s.heap h'' := fun b o e n => (sb.2 b (fun z => by subst z; rw [e1] at e; cases e)).trans (st.keep b o e n)
    have lv : Live s.heap h'' := fun b o e => by
      obtain ⟨o', e'⟩ := st.live b o e
      exact ⟨o', (sb.2 b (fun z => by subst z; rw [e1] at e; cases e)).trans e'⟩
    exact hq _ _ _ _ _ q R'' rfl ⟨kp, st.fresh, lv⟩
end
end Mine

open PySem PySem.W PyProof.Rows PySem.Calls PyProof.V PySem.Spec PySem.SeqAt
set_option Elab.async false
set_option linter.all false
set_option maxRecDepth 100000
namespace Mine
section
variable {C : Cx} {d : Nat} {env : Env} {ρ : Fra} {σ : Store}

/-- `name = [..]` on one line: the value is stored ere the comprehension's own names go -/
theorem S1_AssignUsed {x : Str} {px : Pos} {elt : Expr} {g : Comprehension} {gs : List Comprehension} {scope : Scope} {cpos pos : Pos} {cl : List (Str × Addr)} {Q : Fl → Fra → Store → Prop} (hx : env.kindOf x = some .local)
    (hclos : closureFor scope env = pure cl) (hcl : ∀ x c, cl.lookup x = some c → env.cells.lookup x = some c)
    (h : Iw C d env ρ g.iter (fun it σ₁ => ∀ D L, σ₁ D = none → Gw C d (compEnvC scope cl L env) (.ListComp elt (g :: gs) scope cpos) 0 D it (fun _ σ' => Q .next (ρ.set x (.ref D)) σ') (compFra ρ env (compEnvC scope cl L env)) (σ₁.set D (.list []))) σ)
    (hsw : swapsWith (.ListComp elt (g :: gs) scope cpos) (some (.Name x px)) pos.line env = pure true := by with_unfolding_all rfl)
    (hcell : ∀ y ∈ scope.names, y.2 ≠ .cell := by decide) (hkind : scope.kind = .function := by rfl)
    (hnames : ∀ y ∈ scope.names, y.2 = .local → scope.names.lookup y.1 = some .local := by decide) (hs : ∀ x, foldedSetIterable g.iter env x = pure x := by intro _; rfl)
    (ha : g.is_async = 0 := by rfl) : S1 C d env (.Assign [.Name x px] (.ListComp elt (g :: gs) scope cpos) pos) Q ρ σ :=
  fun A E s Qc rm Rp F hq => by
    rw [exec_Assign_Name_used _ _ _ _ hsw]
    obtain ⟨target, iter, ifs, asy⟩ := g
    have e0 : asy = 0 := ha
    subst e0
    refine wpAny_bind (wpAny_standAt (wpAny_bind ?_))
    show wpAny _ A (do let _ ← comprehension (.ListComp elt (⟨target, iter, ifs, 0⟩ :: gs) scope cpos) scope env _ (newList []) false (eval iter env) (some (assign (.Name x px) env))) _ _ s
    refine wpAny_bind (wpAny_mono (wp_comp (use := some (assign (.Name x px) env)) (Q := fun D σ' => Q .next (ρ.set x (.ref D)) σ') (Qc := fun _ s' => Qc .next s') rm Rp F hclos hcl hcell hkind hnames hs h (fun D L σ' h' tk q R' st e1 e2 e3 hn => ?_) _) (fun _ s' hq => wpAny_pure (wpAny_pure hq)) fun _ _ e => e)
    obtain ⟨m, hn⟩ := hn
    show wpAny _ A (assign (.Name x px) env (.ref D)) _ _ _
    refine wpAny_assign_Name ?_
    refine wp_storeL (s := { s with heap := h', toks := tk }) R' (F.keep Rp st) (v := .ref D) rfl hx fun h₂ tk₂ R₂ F₂ sb k₂ => ?_
    have nL : L ≠ env.locals := fun z => by
      obtain ⟨o, e, _⟩ := F.locals_live
      rw [← z, e1] at e
      cases e
    have hn₂ : h₂.Ns L m := hn.sameBut sb nL
    refine ⟨m, hn₂, fun h₃ sb₃ => ?_⟩
    obtain ⟨oL, es, ep, eL, ed⟩ := Heap.Ns.obj hn₂
    obtain ⟨k, R₃⟩ := R₂.aside eL (notIm_dict ed) e3 e2 sb₃
    have kb : KeepBut [L] h₂ h₃ := fun b o hb e => (sb₃.2 b (fun z => hb (by rw [z]; exact .head _))).trans e
    have F₃ := F₂.but kb k (fun z => nL (List.mem_singleton.mp z).symm) (fun y c e z => by
      obtain ⟨_, _, _, v, o, e2, _⟩ := F.cells y c e
      rw [List.mem_singleton.mp z, e1] at e2
      cases e2)
    obtain ⟨co, eco, _⟩ := F₃.locals_live
    have kp : KeepsF env σ s.heap h₃ := fun b o e n n1 _ => (sb₃.2 b (fun z => by subst z; rw [e1] at e; cases e)).trans ((sb.2 b n1).trans (st.keep b o e n))
    have lv : Live s.heap h₃ := fun b o e => by
      by_cases z : b = env.locals
      · subst z; exact ⟨co, eco⟩
      · obtain ⟨o', e'⟩ := st.live b o e
        exact ⟨o', (sb₃.2 b (fun z => by subst z; rw [e1] at e; cases e)).trans ((sb.2 b z).trans e')⟩
    exact hq _ _ _ _ _ _ q R₃ F₃ rfl ⟨kp, st.fresh, lv⟩

/-- `l o1 r1 o2 r2`, the answers bools -/
theorem Ew_isChain {l r1 r2 : Expr} {o1 o2 : CmpOp} {pos whole} {Q : Bool → Store → Prop}
    (h : Ew C d env ρ VRel (eval l env) (fun u σ₁ => Ew C d env ρ VRel (eval r1 env) (fun v σ₂ => Ow2 C d VRel u v (compareOp o1) (fun c σ₃ => ∃ b, c = .bool b ∧ (b = false → Q false σ₃) ∧
      (b = true → Ew C d env ρ VRel (eval r2 env) (fun z σ₄ => Ow2 C d VRel v z (compareOp o2) (fun c σ₅ => ∃ b, c = .bool b ∧ Q b σ₅) σ₄) σ₃)) σ₂) σ₁) σ)
    (hm : behindInMarks o2 r2 = false := by with_unfolding_all rfl) :
    Ew C d env ρ BRel (isTrue (.Compare l [o1, o2] [r1, r2] pos) env whole) Q σ :=
  fun A E s Qc rm Rp F hq => by
    have e0 : markedEach [o1, o2] [r1, r2] (evalEach [r1, r2] env) = [eval r1 env, eval r2 env] := by
      show [eval r1 env, markedBehindIn o2 r2 (eval r2 env)] = _
      rw [markedBehindIn_of_false hm]
    rw [arm_isTrue_Compare, e0]
    refine wpAny_bind (h A E s _ rm Rp F fun u σ₁ x h₁ k₁ q₁ R₁ r₁ s₁ => ?_)
    show wpAny _ _ (do
      let rv ← holding [x] (eval r1 env)
      standAt pos
      let c ← holding [x, rv] (compareOp o1 x rv)
      release [x, rv] [c]
      if ← holding [c, rv] (truthy c) then testChain pos rv [o2] [eval r2 env] else pure false) _ _ _
    refine wpAny_bind (wpAny_holding (q₁ A E _ _ rm R₁ (F.keep Rp s₁) fun v σ₂ y h₂ k₂ q₂ R₂ r₂ s₂ => wpAny_bind (wpAny_standAt (wpAny_bind (wpAny_holding (q₂ A E _ _ x y rm R₂ (R₁.val s₂.keep r₁) r₂ fun c σ₃ z h₃ k₃ q₃ R₃ r₃ s₃ => ?_))))))
    obtain ⟨b, rfl, qf, qt⟩ := q₃
    have e : z = .bool b := r₃
    subst e
    refine wpAny_bind (wpAny_release (wpAny_bind (wpAny_holding (wpAny_truthy_bool ?_))))
    have st := (s₁.trans s₂).trans s₃
    cases b with
    | false => exact wpAny_pure (hq _ _ _ _ _ (qf rfl) R₃ rfl st)
    | true =>
      show wpAny _ _ (do
        let rv ← holding [y] (eval r2 env)
        standAt pos
        let c ← operate [y, rv] (compareOp o2 y rv)
        holding [c] (truthy c)) _ _ _
      refine wpAny_bind (wpAny_holding (qt rfl A E _ _ rm R₃ (F.keep Rp st) fun v' σ₄ y' h₄ k₄ q₄ R₄ r₄ s₄ => wpAny_bind (wpAny_standAt (wpAny_bind (wpAny_operating (q₄ A E _ _ y y' rm R₄ (R₂.val (s₃.trans s₄).keep r₂) r₄ fun c σ₅ z h₅ k₅ q₅ R₅ r₅ s₅ => ?_))))))
      obtain ⟨b, rfl, q⟩ := q₅
      have e : z = .bool b := r₅
      subst e
      exact wpAny_holding (wpAny_truthy_bool (hq _ _ _ _ _ q R₅ rfl ((st.trans s₄).trans s₅)))

theorem Ew_Dict0 {pos} {Q : V → Store → Prop} (h : ∀ dd, σ dd = none → Q (.ref dd) (σ.set dd (.idict []))) : Ew C d env ρ VRel (eval (.Dict [] [] pos) env) Q σ :=
  fun A E s Qc rm Rp F hq => by
    refine wpAny_Dict_empty ?_
    obtain ⟨R', st, n⟩ := Rp.alloc' (o := .idict []) (Nat.le_refl _) (fun b o e => Heap.get?_push_of_some { cls := .type "dict", data := .dict #[] } e) ⟨[], Heap.DictOf.new _, rfl, VRels.nil⟩
    exact hq _ _ _ _ _ (h _ n) R' rfl st

def mergeK {K : Type} [DecidableEq K] (kvs acc : List (K × V)) : List (K × V) := kvs.foldl (fun acc kv => putK kv.1 kv.2 acc) acc
def PRel {K : Type} [DecidableEq K] {prog : Program} {w : World} (knd : KeyKind prog w K) (h : Heap) (kvs : List (K × V)) (vs : List (Value × Value)) : Prop := ∃ cvs : List (K × Value), Carries knd vs cvs ∧ cvs.map (·.1) = kvs.map (·.1) ∧ VRels h (kvs.map (·.2)) (cvs.map (·.2))

theorem merged_keys {K : Type} [DecidableEq K] {h : Heap} : ∀ {cvs cacc : List (K × Value)} {kvs acc : List (K × V)}, cvs.map (·.1) = kvs.map (·.1) → VRels h (kvs.map (·.2)) (cvs.map (·.2)) → cacc.map (·.1) = acc.map (·.1) → VRels h (acc.map (·.2)) (cacc.map (·.2)) →
    (merged cacc cvs).map (·.1) = (mergeK kvs acc).map (·.1) ∧ VRels h ((mergeK kvs acc).map (·.2)) ((merged cacc cvs).map (·.2))
  | [], cacc, [], acc, _, _, e, r => ⟨e, r⟩
  | [], _, _ :: _, _, e, _, _, _ => by cases e
  | _ :: _, _, [], _, e, _, _, _ => by cases e
  | (k, w) :: cvs, cacc, (k', v) :: kvs, acc, e, r, e', r' => by
    have e0 : k = k' := by simpa using congrArg List.head? e
    have e1 : cvs.map (·.1) = kvs.map (·.1) := by simpa using congrArg List.tail e
    subst e0
    obtain ⟨w', ws', e2, a, b⟩ := r
    simp only [List.map_cons, List.cons.injEq] at e2
    obtain ⟨rfl, rfl⟩ := e2
    have := stored_keys e' r' a (k := k)
    have fin := merged_keys (cvs := cvs) (kvs := kvs) e1 b this.1 this.2
    exact fin

theorem Ew_DictK {K : Type} [DecidableEq K] {knd : KeyKind C.prog C.w K} {mk : List (K × V) → O} (hmk : ∀ (h : Heap) (a : Addr) (kvs : List (K × V)), ORel C.prog C.w h a (mk kvs) ↔ ∃ cvs : List (K × Value), h.DictOf knd a cvs ∧ cvs.map (·.1) = kvs.map (·.1) ∧ VRels h (kvs.map (·.2)) (cvs.map (·.2)))
    {keys : List (Option Expr)} {values : List Expr} {pos : Pos} {Q : V → Store → Prop} (hall : keys.all (·.isSome) = true) (hl : keys.length = values.length) (h0 : keys ≠ []) (hlen : keys.length ≤ 15)
    (h : ∀ dd, σ dd = none → Ew C d env ρ (PRel knd) (evalPairs (pairTrees keys values env pos)) (fun kvs σ₁ => σ₁ dd = some (mk []) ∧ Q (.ref dd) (σ₁.set dd (mk (mergeK kvs [])))) (σ.set dd (mk []))) : Ew C d env ρ VRel (eval (.Dict keys values pos) env) Q σ :=
  fun A E s Qc rm Rp F hq => by
    refine wpAny_Dict_walk (knd := knd) hall hl h0 hlen ?_
    have hD : (s.heap.push { cls := .type "dict", data := .dict #[] }).DictOf knd s.heap.objs.size [] := Heap.DictOf.new _
    obtain ⟨R', st, n⟩ := Rp.alloc' (o := mk []) (Nat.le_refl _) (fun b o e => Heap.get?_push_of_some { cls := .type "dict", data := .dict #[] } e) ((hmk _ _ _).mpr ⟨[], hD, rfl, VRels.nil⟩)
    refine h _ n A E { s with heap := s.heap.push { cls := .type "dict", data := .dict #[] } } _ rm R' (F.keep Rp st) fun kvs σ₁ vs h₁ k₁ q₁ R₁ r₁ s₁ => ?_
    obtain ⟨ha, q⟩ := q₁
    obtain ⟨cvs, hc, e1, e2⟩ := r₁
    obtain ⟨cvs0, hd0, e3, _⟩ := (hmk _ _ _).mp (R₁.objs _ _ ha)
    have e4 : cvs0 = [] := List.map_eq_nil_iff.mp e3
    subst e4
    refine ⟨cvs, hc, hd0, fun h' hd' sb => ?_⟩
    obtain ⟨co, eco, hno⟩ := (R₁.objs _ _ ha).cls
    have kp : KeepsIm h₁ h' := fun b co' q im => sb.extBut b co' (fun z => by
      subst z
      rw [q] at eco; cases eco
      exact hno im) q
    have := merged_keys (h := h₁) (cacc := []) (acc := []) e1 e2 rfl VRels.nil
    obtain ⟨R₂, s₂⟩ := R₁.change (o' := mk (mergeK kvs [])) ha (fun b co z q => sb.extBut b co z q) ((hmk _ _ _).mpr ⟨_, hd', this.1, VRels.keep kp _ _ this.2⟩)
    exact hq _ _ _ _ _ q R₂ rfl ((st.trans s₁).trans s₂)

theorem Ew_pairs_nil {K : Type} [DecidableEq K] {knd : KeyKind C.prog C.w K} {pos : Pos} {Q : List (K × V) → Store → Prop} (h : Q [] σ) : Ew C d env ρ (PRel knd) (evalPairs (pairTrees [] [] env pos)) Q σ := fun A E s Qc rm Rp F hq => evalPairs_nil (hq _ _ _ s.heap s.toks h Rp ⟨[], trivial, rfl, VRels.nil⟩ (Stp.refl ..))
theorem Ew_pairs_cons {K : Type} [DecidableEq K] {knd : KeyKind C.prog C.w K} {ke ve : Expr} {ks : List (Option Expr)} {es : List Expr} {pos : Pos} {emb : K → V} (hemb : ∀ h k w, VRel h (emb k) w → knd.is k w = true) {Q : List (K × V) → Store → Prop}
    (h : Ew C d env ρ VRel (eval ke env) (fun kv σ₁ => ∃ k, kv = emb k ∧ Ew C d env ρ VRel (eval ve env) (fun v σ₂ => Ew C d env ρ (PRel knd) (evalPairs (pairTrees ks es env pos)) (fun kvs σ₃ => Q ((k, v) :: kvs) σ₃) σ₂) σ₁) σ) :
    Ew C d env ρ (PRel knd) (evalPairs (pairTrees (some ke :: ks) (ve :: es) env pos)) Q σ :=
  fun A E s Qc rm Rp F hq => by
    show wpAny _ _ (evalPairs ((eval ke env, do let x ← eval ve env; standAt pos; pure x) :: pairTrees ks es env pos)) _ _ _
    refine evalPairs_cons (h A E s _ rm Rp F fun kv σ₁ x h₁ k₁ q₁ R₁ r₁ s₁ => ?_)
    obtain ⟨k, rfl, q⟩ := q₁
    have F₁ := F.keep Rp s₁
    refine wpAny_bind (q A E _ _ rm R₁ F₁ fun v σ₂ y h₂ k₂ q₂ R₂ r₂ s₂ => wpAny_bind (wpAny_standAt (wpAny_pure ?_)))
    refine q₂ A E _ _ rm R₂ (F₁.keep R₁ s₂) fun kvs σ₃ vs h₃ k₃ q₃ R₃ r₃ s₃ => ?_
    obtain ⟨cvs, c1, c2, c3⟩ := r₃
    exact hq _ _ _ _ _ q₃ R₃ ⟨(k, y) :: cvs, ⟨hemb _ _ _ (R₁.val s₂.keep r₁ |> R₂.val s₃.keep), rfl, c1⟩, by simp [c2], VRels.cons (R₂.val s₃.keep r₂) c3⟩ ((s₁.trans s₂).trans s₃)
theorem emb_int {prog : Program} {w : World} : ∀ (h : Heap) (k : Int) (x : Value), VRel h (V.int k) x → (intKind prog w).is k x = true := fun h k x r => by obtain ⟨t, rfl⟩ := r; exact intKind_is ..
theorem emb_str {prog : Program} {w : World} : ∀ (h : Heap) (k : Str) (x : Value), VRel h (V.str k) x → (strKind prog w).is k x = true := fun h k x r => by obtain ⟨t, rfl⟩ := r; exact strKind_is ..

theorem slicePick_to (items : Array Value) (b : Nat) : (slicePick items none (some (b : Int)) none).toList = items.toList.take b := by
  by_cases h : b ≤ items.size
  · rw [slicePick_upto items b h]
  · have e1 : slicePick items none (some (b : Int)) none = slicePick items none (some (items.size : Int)) none := by
      unfold slicePick
      have : sliceBounds none (some (b : Int)) none items.size = sliceBounds none (some (items.size : Int)) none items.size := by
        simp only [sliceBounds, Option.getD_none]
        have h2 : ¬ ((b : Int) < 0) := by omega
        have h3 : ¬ ((items.size : Int) < 0) := by omega
        simp only [h2, h3, if_false, show (1 : Int) > 0 by decide, if_true]
        have : min (b : Int) (items.size : Int) = items.size := by omega
        rw [this]
        simp
      rw [this]
    rw [e1, slicePick_upto items items.size (Nat.le_refl _)]
    simp only [List.toList_toArray]
    rw [List.take_of_length_le (by simp), List.take_of_length_le (by simp; omega)]

theorem VRels.take {h : Heap} : ∀ {vs : List V} {ws : List Value} (k : Nat), VRels h vs ws → VRels h (vs.take k) (ws.take k)
  | _, _, 0, _ => VRels.nil
  | [], ws, k + 1, r => by have e : ws = [] := r; subst e; exact VRels.nil
  | v :: vs, ws, k + 1, r => by
    obtain ⟨w, ws', rfl, a, b⟩ := r
    exact VRels.cons a (VRels.take k b)

/-- `list[:upper]` -/
theorem Ew_SliceTo {value upper : Expr} {p pos : Pos} {Q : V → Store → Prop}
    (h : Ew C d env ρ VRel (eval value env) (fun u σ₁ => Ew C d env ρ VRel (eval upper env) (fun v σ₂ => ∃ a vs, ∃ b : Nat, u = .ref a ∧ v = .int b ∧ σ₂ a = some (.list vs) ∧ vs.length ≤ 1000000 ∧ ∀ D, σ₂ D = none → Q (.ref D) (σ₂.set D (.list (vs.take b)))) σ₁) σ)
    (ht : ∀ o r, letTemporaryGo value o r = pure () := by intro _ _; rfl) : Ew C d env ρ VRel (eval (.Subscript value (.Slice none (some upper) none p) pos) env) Q σ :=
  fun A E s Qc rm Rp F hq => by
    refine wpAny_Subscript_list_slice (h A E s _ rm Rp F fun u σ₁ x h₁ k₁ q₁ R₁ r₁ s₁ => ?_) ht
    rw [evalPart_none, evalPart_some]
    refine wpAny_pure (q₁ A E _ _ rm R₁ (F.keep Rp s₁) fun v σ₂ y h₂ k₂ q₂ R₂ r₂ s₂ => ?_)
    obtain ⟨a, vs, b, rfl, rfl, ha, hz, q⟩ := q₂
    have e : x = .ref a := r₁
    subst e
    obtain ⟨t, rfl⟩ := r₂
    obtain ⟨ws, l, rr⟩ := R₂.list ha
    have hl : ws.size = vs.length := by have := rr.length; simpa using this
    refine ⟨a, ws, none, some (b : Int), rfl, l.isList, by rw [hl, sizeLine_eq]; exact Nat.le_trans hz (by decide), .none, .int _ _, ?_⟩
    obtain ⟨R₃, s₃⟩ := R₂.push { cls := .type "slice", data := .fields #[.none, .int b t, .none] }
    have hsz : (h₂.push { cls := .type "slice", data := .fields #[.none, .int b t, .none] }).objs.size = h₂.objs.size + 1 := Heap.size_push ..
    have kk : ∀ b' o, (h₂.push { cls := .type "slice", data := .fields #[.none, .int b t, .none] }).get? b' = some o → ((h₂.push { cls := .type "slice", data := .fields #[.none, .int b t, .none] }).push { cls := .type "list", data := .seq (slicePick ws none (some (b : Int)) none) }).get? b' = some o := fun b' o e => Heap.get?_push_of_some _ e
    obtain ⟨R₄, s₄, n⟩ := R₃.alloc' (a := h₂.objs.size + 1) (o := .list (vs.take b)) (by rw [hsz]; exact Nat.le_refl _) kk ⟨_, ⟨_, by rw [← hsz]; exact Heap.get?_push_size _ rfl⟩, by
      rw [slicePick_to]
      exact VRels.keep (fun b' o e _ => kk b' o (Heap.get?_push_of_some _ e)) _ _ (VRels.take b rr)⟩
    exact hq _ _ _ _ k₂ (q _ n) R₄ rfl (((s₁.trans s₂).trans s₃).trans s₄)

theorem mul_plain {prog : Program} {w : World} {A : Around} {E : Value → Shared → Prop} {s : Shared} {l : Addr} {items : Array Value} {k : Nat} {x : Int} {u : Tok} {Q : Value → Shared → Prop}
    (hl : s.heap.get? l = some { cls := .type "list", dict := none, data := .seq items k, slots := #[] }) (hlo : -(2 ^ 63 : Int) ≤ x) (hhi : x < 2 ^ 63) (hsz : items.size * x.toNat ≤ 2 ^ 24)
    (h : Q (.ref s.heap.objs.size) { s with heap := s.heap.push { cls := .type "list", data := .seq (List.foldl (fun x1 x2 => x1 ++ x2) #[] (List.replicate (if items.isEmpty = true then 0 else x.toNat) items)) } }) :
    wpAny (model prog w) A (binaryOp .Mult (.ref l) (.int x u)) Q E s :=
  wpAny_binaryOp_repeat_ref (T := "list") (U := "int") (by decide) ⟨_, hl, rfl⟩ (fun s' => typeIs_int s' x u) noFill_list_mul F.fills_int_mul F.slot_int_rmul repeat_list F.slot_int_index.lookup
    (call_meets F.slot_int_rmul (typeIs_int s x u) F.entry_int_rmul (F.args_int_rmul_2 _ _) (int___rmul___int_list x u l items k)
      ⟨hl, rfl, ⟨_, hl, rfl⟩, call_meets F.slot_list_mul ⟨_, hl, rfl⟩ F.entry_list_mul (F.args_list_mul_2 _ _)
        (AutoListH.list___mul___list_int_3 l items k x u (by simp [Builtin.List.listFitsIndex]; omega) (by omega) (by simp [Builtin.List.listTooLong, sizeLine]; omega))
        ⟨hl, h⟩⟩)

/-- `[v] * n` -/
theorem O2_mulL {a : Addr} {v : V} {n : Nat} {Q : V → Store → Prop} (ha : σ a = some (.list [v])) (hz : n ≤ 1000000) (h : ∀ D, σ D = none → Q (.ref D) (σ.set D (.list (List.replicate n v)))) : Ow2 C d VRel (.ref a) (.int n) (binaryOp .Mult) Q σ := by
  rintro A E s Qc _ _ rm Rp e ⟨t, rfl⟩ hq
  have e : _ = Value.ref a := e
  subst e
  obtain ⟨ws, ⟨k, l⟩, rr⟩ := Rp.list ha
  obtain ⟨w, e1, rv⟩ := one_of rr
  have e2 : ws = #[w] := by rw [← Array.toList_inj]; exact e1
  subst e2
  have hb : (n : Int) ≤ 1000000 := Int.ofNat_le.mpr hz
  have hn : ((n : Int).toNat) = n := Int.toNat_natCast n
  have hlist : (List.foldl (fun x1 x2 => x1 ++ x2) #[] (List.replicate (if (#[w] : Array Value).isEmpty = true then 0 else (n : Int).toNat) #[w])).toList = List.replicate n w := by
    rw [if_neg (by simp), hn]
    have gen : ∀ (k : Nat) (acc : Array Value), (List.foldl (fun x1 x2 => x1 ++ x2) acc (List.replicate k #[w])).toList = acc.toList ++ List.replicate k w := by
      intro k
      induction k with
      | zero => intro acc; simp
      | succ k ih => intro acc; rw [List.replicate_succ, List.foldl_cons, ih]; simp [List.replicate_succ]
    rw [gen]; simp
  have hsz : (#[w] : Array Value).size * (n : Int).toNat ≤ 2 ^ 24 := by
    rw [hn, show (#[w] : Array Value).size = 1 from rfl, Nat.one_mul]
    exact Nat.le_trans hz (by decide)
  refine mul_plain l (Int.le_trans (by decide) (Int.natCast_nonneg n)) (Int.lt_of_le_of_lt hb (by decide)) hsz ?_
  have kk : ∀ b o, s.heap.get? b = some o → (s.heap.push { cls := .type "list", data := .seq (List.foldl (fun x1 x2 => x1 ++ x2) #[] (List.replicate (if (#[w] : Array Value).isEmpty = true then 0 else (n : Int).toNat) #[w])) }).get? b = some o := fun b o e => Heap.get?_push_of_some _ e
  obtain ⟨R', st, n'⟩ := Rp.alloc' (o := .list (List.replicate n v)) (Nat.le_refl _) kk ⟨_, ⟨_, Heap.get?_push_size _ rfl⟩, by
    rw [hlist]
    have gen : ∀ k : Nat, VRels s.heap (List.replicate k v) (List.replicate k w) := fun k => by
      induction k with
      | zero => exact VRels.nil
      | succ k ih => exact VRels.cons rv ih
    exact VRels.keep (fun b o e _ => kk b o e) _ _ (gen n)⟩
  exact hq _ _ _ _ _ (h _ n') R' rfl st

theorem Iw_enum {func e : Expr} {pos : Pos} {Q : It → Store → Prop} (hf : EvF C env func (.type "enumerate")) (h : Ew C d env ρ VRel (eval e env) (fun v σ₁ => ∃ a vs, v = .ref a ∧ σ₁ a = some (.list vs) ∧ Q (.enum a) σ₁) σ)
    (hst : starEach [e] env = [(false, eval e env)] := by rfl)
    (he : eval (.Call func [e] [] pos) env = (do callWith pos (← eval func env) [] (backTo pos (starEach [e] env)) (backToKw pos (keywordEach [] env))) := by rfl) : Iw C d env ρ (.Call func [e] [] pos) Q σ :=
  fun A E s Qc rm Rp F hq => by
    have hp : (backTo pos (starEach [e] env)).any (·.1) = false := by rw [hst]; rfl
    refine Call_ (hf ρ σ A E s _ Rp F (wp_callWith KeepOk.type hp ?_)) he
    have items : Ew C d env ρ VRels (spliced (backTo pos (starEach [e] env))) (fun us σ₁ => ∃ v, us = [v] ∧ ∃ a vs, v = .ref a ∧ σ₁ a = some (.list vs) ∧ Q (.enum a) σ₁) σ :=
      Ew_items_cons (Ew.mono h fun v σ₁ q => Ew_items_nil ⟨v, rfl, q⟩) (by rw [hst]; rfl)
    refine items A E s _ rm Rp F fun us σ₁ xs h₁ k₁ q₁ R₁ r₁ s₁ => ⟨R₁.kin, ?_⟩
    obtain ⟨v, rfl, a, vs, rfl, ha, q⟩ := q₁
    obtain ⟨x, rfl, e⟩ := one_of r₁
    have e : x = .ref a := e
    subst e
    obtain ⟨ws, ⟨n, l⟩, rr⟩ := R₁.list ha
    show wpAny _ _ (call (.type "enumerate") [.ref a]) _ _ _
    refine call_enumerate_1 (s := { s with heap := h₁, toks := k₁ }) l fun h₂ he₂ hit₂ hsz kk => wpAny_pyIter_enum (s := { s with heap := h₂, toks := k₁ }) he₂ ?_
    obtain ⟨R₂, s₂⟩ := ext_of R₁ kk
    have low : ∀ b, h₁.objs.size ≤ b → s.heap.get? b = none ∧ σ₁ b = none ∧ C.g.get? b = none := fun b hb => by
      have g1 := gone_of hb
      refine ⟨?_, ?_, ?_⟩
      · cases q : s.heap.get? b with
        | none => rfl
        | some o => obtain ⟨o', e'⟩ := s₁.live _ _ q; rw [g1] at e'; cases e'
      · cases q : σ₁ b with
        | none => rfl
        | some o => obtain ⟨co, e, _⟩ := (R₁.objs _ _ q).cls; rw [g1] at e; cases e
      · cases q : C.g.get? b with
        | none => rfl
        | some o => have := R₁.base _ _ q; rw [g1] at this; cases this
    exact hq (.enum a) σ₁ (h₁.objs.size + 1) [h₁.objs.size + 1, h₁.objs.size] h₂ k₁ q R₂ ⟨h₁.objs.size, .none, rfl, Nat.succ_ne_self _, he₂, hit₂⟩ (fun b hb => by
      rcases List.mem_cons.mp hb with rfl | hb
      · exact low _ (Nat.le_succ _)
      · rw [List.mem_singleton.mp hb]; exact low _ (Nat.le_refl _)) (s₁.trans s₂)
end
end Mine

open PySem PySem.W PyProof.Rows PySem.Calls PyProof.V PySem.Spec PySem.SeqAt
set_option Elab.async false
set_option linter.all false
set_option maxRecDepth 100000
namespace Mine
/-- all objects but X stay -/
def Same (X : List Addr) (σ σ' : Store) : Prop := ∀ a o, σ a = some o → a ∉ X → σ' a = some o
theorem Same.refl (X : List Addr) (σ : Store) : Same X σ σ := fun _ _ e _ => e
theorem Same.new {X : List Addr} {σ σ' : Store} {a : Addr} {o : O} (s : Same X σ σ') (n : σ' a = none) : Same X σ (σ'.set a o) := fun b p e nb => by
  rw [Store.set_ne (fun z => by subst z; rw [s b p e nb] at n; cases n)]; exact s b p e nb
theorem Same.put {X : List Addr} {σ σ' : Store} {a : Addr} {o : O} (s : Same X σ σ') (h : a ∈ X) : Same X σ (σ'.set a o) := fun b p e nb => by
  rw [Store.set_ne (fun z => by subst z; exact nb h)]; exact s b p e nb
theorem Same.trans {X : List Addr} {σ₁ σ₂ σ₃ : Store} (s : Same X σ₁ σ₂) (t : Same X σ₂ σ₃) : Same X σ₁ σ₃ := fun a o e n => t a o (s a o e n) n
theorem Same.mono {X Y : List Addr} {σ σ' : Store} (s : Same X σ σ') (h : ∀ a ∈ X, a ∈ Y) : Same Y σ σ' := fun a o e n => s a o e fun z => n (h a z)
theorem Same.at {X : List Addr} {σ σ' : Store} (s : Same X σ σ') {a : Addr} {o : O} (e : σ a = some o) (n : a ∉ X := by simp) : σ' a = some o := s a o e n
/-- changes at places that were not there before do not count -/
theorem Same.drop {X Y : List Addr} {σ σ' : Store} (s : Same X σ σ') (h : ∀ a ∈ X, a ∈ Y ∨ σ a = none) : Same Y σ σ' := fun a o e n => s a o e fun z => (h a z).elim n fun q => by rw [q] at e; cases e
theorem ne_of {σ : Store} {a b : Addr} {o : O} (h : σ a = some o) (g : σ b = none) : a ≠ b := fun z => by subst z; rw [h] at g; cases g

section
variable {C : Cx} {d d' : Nat} {env : Env} {ρ : Fra} {σ : Store}
theorem Kw.le {f : Value} {vs : List V} {Q : V → Store → Prop} (h : Kw C d f vs Q σ) (le : d ≤ d') : Kw C d' f vs Q σ := fun A R s ws rm => h A R s ws (rm.le le)
theorem Kw.cwle {f : Value} {vs : List V} {Q : V → Store → Prop} (h : Kw C d f vs Q σ) (le : d ≤ d') : Cw C d' f vs Q σ := (h.le le).cw

theorem EvF.globK {x : Str} {pos} {w : Value} (e : nsIn C.K mainGlobals x = some (some w)) (hx : env.kindOf x = some .globalImplicit := by rfl) (hd : (x == ("__debug__" : Str)) = false := by decide) : EvF C env (.Name x pos) w :=
  fun ρ σ A E s Q R F h => wp_glob R F hx (mg_of R.ok.k R.ok.gl e) h hd
theorem EvF.bltK {x : Str} {pos} {w : Value} (e : nsIn C.K mainGlobals x = some none) (hb : bootBuiltins x = some w) (hx : env.kindOf x = some .globalImplicit := by rfl) (hn : x ≠ "__name__" := by decide) (hd : (x == ("__debug__" : Str)) = false := by decide) : EvF C env (.Name x pos) w :=
  fun ρ σ A E s Q R F h => wp_blt R F hx (mg_none_of R.ok.k R.ok.gl e) hb hn h hd
/-- a module constant -/
theorem Ew_globK {x : Str} {pos} {v : V} {w : Value} {Q : V → Store → Prop} (e : nsIn C.K mainGlobals x = some (some w)) (r : ∀ h, C.K.In h → VRel h v w) (h : Q v σ) (hx : env.kindOf x = some .globalImplicit := by rfl) (hd : (x == ("__debug__" : Str)) = false := by decide) :
    Ew C d env ρ VRel (eval (.Name x pos) env) Q σ :=
  fun A E s Qc rm Rp F hq => wp_glob Rp F hx (mg_of Rp.ok.k Rp.ok.gl e) (hq _ _ _ s.heap s.toks h Rp (r _ Rp.kin) (Stp.refl ..)) hd

theorem Ew_AttrN {x : Str} {px pos : Pos} {attr : Str} {Cl dx : Addr} {k : Nat} {f : Str → Option V} {v : V} {Q : V → Store → Prop} (e : ρ x = some (.obj Cl dx)) (hs : σ dx = some (.ns k f)) (hf : f attr = some v) (fl : Fld C Cl attr) (h : Q v σ)
    (hd : (x == ("__debug__" : Str)) = false := by decide)
    (he : eval (.Attribute (.Name x px) attr pos) env = (do
      let o ← eval (.Name x px) env
      standAt pos.atName
      let r ← holding [o] (getAttr o attr true)
      letTemporaryGo (.Name x px) o r
      pure r) := by with_unfolding_all rfl) : Ew C d env ρ VRel (eval (.Attribute (.Name x px) attr pos) env) Q σ :=
  Ew_Attribute (Ew_name e ⟨Cl, dx, k, f, v, rfl, hs, hf, fl, h⟩ hd) he
theorem Asg_AttrN {x : Str} {px pos : Pos} {attr : Str} {Cl dx : Addr} {k : Nat} {f : Str → Option V} {v : V} {Q : Fra → Store → Prop} (e : ρ x = some (.obj Cl dx)) (hs : σ dx = some (.ns k f)) (hk : k ≤ 1000) (S : Sto C Cl attr)
    (h : Q ρ (σ.set dx (.ns (if (f attr).isSome then k else k + 1) fun y => if y = attr then some v else f y))) (hd : (x == ("__debug__" : Str)) = false := by decide) : Asg C d env (.Attribute (.Name x px) attr pos) v Q ρ σ :=
  Asg_Attribute (Ew_name e ⟨Cl, dx, k, f, rfl, hs, hk, S, h⟩ hd)

/-- calls of a plain value by a global's name -/
theorem Ew_CallG {x : Str} {px pos : Pos} {args : List Expr} {f : Value} {Q : V → Store → Prop} (hf : EvF C env (.Name x px) f) (hk : KeepOk C f)
    (h : Ew C d env ρ VRels (spliced (backTo pos (starEach args env))) (fun vs σ₁ => Cw C d f vs Q σ₁) σ)
    (hp : (backTo pos (starEach args env)).any (·.1) = false := by rfl)
    (he : eval (.Call (.Name x px) args [] pos) env = (do callWith pos (← eval (.Name x px) env) [] (backTo pos (starEach args env)) (backToKw pos (keywordEach [] env))) := by rfl) : Ew C d env ρ VRel (eval (.Call (.Name x px) args [] pos) env) Q σ := Ew_Call hf hk h hp he

/-- a call of a method of a named object -/
theorem Ew_CallN {x : Str} {px apos pos : Pos} {name : Str} {args : List Expr} {Cl dx fa : Addr} {k : Nat} {f : Str → Option V} {Q : V → Store → Prop} (e : ρ x = some (.obj Cl dx)) (hs : σ dx = some (.ns k f)) (hf : f name = none) (m : Mth C Cl name fa) (hk : KeepOk C (.ref fa))
    (h : Ew C d env ρ VRels (spliced (backTo pos (starEach args env))) (fun vs σ₂ => Cw C d (.ref fa) (.obj Cl dx :: vs) Q σ₂) σ)
    (hd : (x == ("__debug__" : Str)) = false := by decide)
    (hbase : attributeBase (.Name x px) name env (eval (.Name x px) env) = eval (.Name x px) env := by rfl)
    (hfew : methodCallForm (args.length + ([] : List Keyword).length) (backTo pos (starEach args env)) (backToKw pos (keywordEach [] env)) = true := by rfl)
    (hline : (apos.endLine == pos.line) = true := by rfl) (hp : (backTo pos (starEach args env)).any (·.1) = false := by rfl) : Ew C d env ρ VRel (eval (.Call (.Attribute (.Name x px) name apos) args [] pos) env) Q σ :=
  Ew_CallM (Ew_name e ⟨.ref fa, MethOk.own hs hf m, hk, h⟩ hd) hbase hfew hline hp

theorem Ew_item {pos} {e : Expr} {v : V} {Q : List V → Store → Prop} (h : Ew C d env ρ VRel (eval e env) (fun v σ₁ => Q [v] σ₁) σ) (he : starEach [e] env = [(false, eval e env)] := by rfl) : Ew C d env ρ VRels (spliced (backTo pos (starEach [e] env))) Q σ :=
  Ew_items_cons (Ew.mono h fun v σ₁ q => Ew_items_nil q) (by rw [he]; rfl)

theorem subL {a : Addr} {k : Nat} {vs : List V} {v : V} {Q : V → Store → Prop} (ha : σ a = some (.list vs)) (hv : vs[k]? = some v) (hz : vs.length ≤ 1000000) (h : Q v σ) :
    ((∃ us, V.ref a = V.tup us) ∨ ∃ b o, V.ref a = V.ref b ∧ σ b = some o ∧ ∀ k f, o ≠ O.ns k f) ∧ Ow2 C d VRel (.ref a) (.int k) getItem Q σ :=
  ⟨.inr ⟨a, _, rfl, ha, fun _ _ z => by cases z⟩, O2_getL ha (Int.natCast_nonneg k) (by rw [Int.toNat_natCast]; exact hv) hz h⟩
theorem subT {k : Nat} {vs : List V} {v : V} {Q : V → Store → Prop} (hv : vs[k]? = some v) (h : Q v σ) (hz : vs.length ≤ 1000000 := by first | decide | (simp; done) | (simp; omega)) :
    ((∃ us, V.tup vs = V.tup us) ∨ ∃ b o, V.tup vs = V.ref b ∧ σ b = some o ∧ ∀ k f, o ≠ O.ns k f) ∧ Ow2 C d VRel (.tup vs) (.int k) getItem Q σ :=
  ⟨.inl ⟨_, rfl⟩, O2_getT (Int.natCast_nonneg k) (by rw [Int.toNat_natCast]; exact hv) hz h⟩
theorem subD {a : Addr} {k : Int} {kvs : List (Int × V)} {v : V} {Q : V → Store → Prop} (ha : σ a = some (.idict kvs)) (hv : getK k kvs = some v) (h : Q v σ) :
    ((∃ us, V.ref a = V.tup us) ∨ ∃ b o, V.ref a = V.ref b ∧ σ b = some o ∧ ∀ k f, o ≠ O.ns k f) ∧ Ow2 C d VRel (.ref a) (.int k) getItem Q σ :=
  ⟨.inr ⟨a, _, rfl, ha, fun _ _ z => by cases z⟩, O2_getD ha hv h⟩
theorem subS {a : Addr} {k : Str} {kvs : List (Str × V)} {v : V} {Q : V → Store → Prop} (ha : σ a = some (.sdict kvs)) (hv : getK k kvs = some v) (h : Q v σ) :
    ((∃ us, V.ref a = V.tup us) ∨ ∃ b o, V.ref a = V.ref b ∧ σ b = some o ∧ ∀ k f, o ≠ O.ns k f) ∧ Ow2 C d VRel (.ref a) (.str k) getItem Q σ :=
  ⟨.inr ⟨a, _, rfl, ha, fun _ _ z => by cases z⟩, O2_getS ha hv h⟩
theorem itR1 {n : Nat} (hz : n ≤ 1000000) : ItOf σ (.rng 0 n 1) (.rng 0 1 n) := by
  have hb : (n : Int) ≤ 1000000 := Int.ofNat_le.mpr hz
  have e : (Builtin.Range.rangeSize 0 n 1).toNat = n := by rw [rangeSize_one]; split <;> omega
  have := ItOf.rng (σ := σ) (small_one (a := 0) (b := n) (by decide) (by decide) (by omega) (by omega))
  rw [e] at this; exact this
theorem itR2 {n : Nat} (hz : n ≤ 1000000) : ItOf σ (.rng n n 1) (.rng n 1 0) := by
  have hb : (n : Int) ≤ 1000000 := Int.ofNat_le.mpr hz
  have e : (Builtin.Range.rangeSize n n 1).toNat = 0 := by rw [rangeSize_one]; split <;> omega
  have := ItOf.rng (σ := σ) (small_one (a := n) (b := n) (by omega) (by omega) (by omega) (by omega))
  rw [e] at this; exact this
theorem itDown {n : Nat} (hz : n ≤ 1000000) : ItOf σ (.rng n (-1) (-1)) (.rng n (-1) (n + 1)) := by
  have hb : (n : Int) ≤ 1000000 := Int.ofNat_le.mpr hz
  have e0 : Builtin.Range.rangeSize n (-1) (-1) = n + 1 := by
    unfold Builtin.Range.rangeSize
    rw [if_neg (by decide), if_pos (by omega)]
    simp
  have e : (Builtin.Range.rangeSize n (-1) (-1)).toNat = n + 1 := by rw [e0]; omega
  have sm : Builtin.Range.small n (-1) (-1) = true := by
    unfold Builtin.Range.small
    rw [e0]
    simp only [Builtin.Range.rangeFitsLong, Bool.and_eq_true, Bool.or_eq_true, decide_eq_true_eq, beq_iff_eq]
    refine ⟨⟨⟨⟨⟨?_, ?_⟩, by decide⟩, by decide⟩, ?_, ?_⟩, .inr (by decide)⟩ <;> omega
  have := ItOf.rng (σ := σ) sm
  rw [e] at this; exact this

/-- len(..) of a list -/
theorem Ew_lenN {x fx : Str} {px fp pos : Pos} {a : Addr} {vs : List V} {Q : V → Store → Prop} (hf : EvF C env (.Name fx fp) (.builtin "len")) (e : ρ x = some (.ref a)) (ha : σ a = some (.list vs)) (hz : vs.length ≤ 1000000) (h : Q (.int vs.length) σ)
    (hd : (x == ("__debug__" : Str)) = false := by decide)
    (he0 : starEach [.Name x px] env = [(false, eval (.Name x px) env)] := by rfl)
    (hp : (backTo pos (starEach [.Name x px] env)).any (·.1) = false := by rfl)
    (he : eval (.Call (.Name fx fp) [.Name x px] [] pos) env = (do callWith pos (← eval (.Name fx fp) env) [] (backTo pos (starEach [.Name x px] env)) (backToKw pos (keywordEach [] env))) := by rfl) : Ew C d env ρ VRel (eval (.Call (.Name fx fp) [.Name x px] [] pos) env) Q σ :=
  Ew_Call hf KeepOk.builtin (Ew_item (v := .none) (Ew_name e (Cw_lenL ha hz h) hd) he0) hp he
end

/-- all names but X stay -/
def Like (X : List Str) (ρ ρ' : Fra) : Prop := ∀ x, x ∉ X → ρ' x = ρ x
theorem Like.refl (X : List Str) (ρ : Fra) : Like X ρ ρ := fun _ _ => rfl
theorem Like.set {X : List Str} {ρ ρ' : Fra} {x : Str} {v : V} (h : Like X ρ ρ') (hx : x ∈ X) : Like X ρ (ρ'.set x v) := fun y hy => by rw [Fra.set_ne (fun z => by subst z; exact hy hx)]; exact h y hy
theorem Like.at {X : List Str} {ρ ρ' : Fra} {x : Str} {v : V} (h : Like X ρ ρ') (e : ρ x = some v) (hx : x ∉ X := by decide) : ρ' x = some v := (h x hx).trans e
/-- ahead of a set of another name -/
theorem Fra.aside {ρ : Fra} {x y : Str} {u v : V} (e : ρ x = some v) (h : x ≠ y := by decide) : ρ.set y u x = some v := (Fra.set_ne h).trans e

section
variable {C : Cx} {d : Nat} {env cenv : Env} {ρ : Fra} {σ : Store}
/-- the loop that changes just the names X -/
theorem S1_ForL {target iter : Expr} {body : List Stmt} {pos} {Q : Fl → Fra → Store → Prop} (X : List Str) (J : It → Nat → Fra → Store → Prop)
    (h : Iw C d env ρ iter (fun it σ₁ => TgtOk target it ∧ J it 0 ρ σ₁ ∧ ∃ N, ∀ i ρ' σ', Like X ρ ρ' → J it i ρ' σ' → i ≤ N ∧ it.ok σ' ∧
      (∀ v, it.at σ' i = some v → Asg C d env target v (fun ρ₂ σ₂ => Sx C d env body (loopEnd (fun ρ₃ σ₃ => Like X ρ ρ₃ ∧ J it (i + 1) ρ₃ σ₃) Q) ρ₂ σ₂) ρ' σ') ∧ (it.at σ' i = none → Q .next ρ' σ')) σ)
    (hs : ∀ x, foldedSetIterable iter env x = pure x := by intro _; rfl) : S1 C d env (.For target iter body [] pos) Q ρ σ :=
  S1_For (fun it i ρ' σ' => Like X ρ ρ' ∧ J it i ρ' σ') (fun A E s Qc rm Rp F hq => h A E s Qc rm Rp F fun it σ' I fp h' tk q => hq it σ' I fp h' tk ⟨q.1, ⟨Like.refl _ _, q.2.1⟩, by
    obtain ⟨_, _, N, st⟩ := q
    exact ⟨N, fun i ρ' σ' j => st i ρ' σ' j.1 j.2⟩⟩) hs

theorem S1_WhileL {test : Expr} {body : List Stmt} {pos} {Q : Fl → Fra → Store → Prop} (X : List Str) (J : Nat → Fra → Store → Prop) (n : Nat) (j0 : J n ρ σ)
    (step : ∀ n ρ' σ', Like X ρ ρ' → J n ρ' σ' → Ew C d env ρ' BRel (isTrue test env (eval test env)) (fun b σ₁ => (b = true → Sx C d env body (loopEnd (fun ρ₂ σ₂ => ∃ m, m < n ∧ Like X ρ ρ₂ ∧ J m ρ₂ σ₂) Q) ρ' σ₁) ∧ (b = false → Q .next ρ' σ₁)) σ') :
    S1 C d env (.While test body [] pos) Q ρ σ :=
  S1_While (fun n ρ' σ' => Like X ρ ρ' ∧ J n ρ' σ') n ⟨Like.refl _ _, j0⟩ fun n ρ' σ' j => step n ρ' σ' j.1 j.2

theorem Gw_loopL {elt target : Expr} {gens : List Comprehension} {ifs : List Expr} {scope : Scope} {pos p : Pos} {k : Nat} {em : Value → Env → Sem PySem.Fin → Sem PySem.Fin} {D : Addr} {it : It} {Q : Fra → Store → Prop} {g : Comprehension} (X : List Str) (hg : gens[k]? = some g) (ha : g.is_async = 0)
    (turn : TurnIs (.ListComp elt gens scope pos) k target ifs p em) (ht : TgtOk target it) (J : Nat → Store → Prop) (j0 : J 0 σ) (N : Nat)
    (step : ∀ i ρ' σ', Like X ρ ρ' → J i σ' → i ≤ N ∧ it.ok σ' ∧ (∀ v, it.at σ' i = some v → Asg C d cenv target v (fun ρ₂ σ₂ => Ew C d cenv ρ₂ BRel (testsT ifs cenv) (fun b σ₃ => (b = true → Em C d cenv em D (fun ρ₄ σ₄ => Like X ρ ρ₄ ∧ J (i + 1) σ₄) ρ₂ σ₃) ∧ (b = false → Like X ρ ρ₂ ∧ J (i + 1) σ₃)) σ₂) ρ' σ') ∧
      (it.at σ' i = none → ∀ ρ', Like X ρ ρ' → Q ρ' σ')) : Gw C d cenv (.ListComp elt gens scope pos) k D it Q ρ σ :=
  Gw_loop hg ha turn ht (fun i ρ' σ' => Like X ρ ρ' ∧ J i σ') ⟨Like.refl _ _, j0⟩ N fun i ρ' σ' j =>
    have := step i ρ' σ' j.1 j.2
    ⟨this.1, this.2.1, this.2.2.1, fun e => this.2.2.2 e ρ' j.1⟩
end

/-! the proofs' objects -/
structure Stp' where
  rule : Str
  clause : List Int
  prem : List Nat
  note : V
def stepV (s : Stp') : V := .tup [.str s.rule, .tup (s.clause.map V.int), .tup (s.prem.map fun n : Nat => V.int n), s.note]
def pfns (s n : Addr) (e : Int) : Str → Option V := fun y => if y = "empty" then some (.int e) else if y = "named" then some (.ref n) else if y = "steps" then some (.ref s) else none
structure IsPf (σ : Store) (dx s n : Addr) (e : Int) (rows : List Stp') : Prop where
  dx : σ dx = some (.ns 3 (pfns s n e))
  st : σ s = some (.list (rows.map stepV))
  nm : σ n = some (.list [.int 0])
  ne : s ≠ n
theorem IsPf.keep {σ σ' : Store} {X : List Addr} {dx s n : Addr} {e : Int} {rows : List Stp'} (p : IsPf σ dx s n e rows) (k : Same X σ σ') (h1 : dx ∉ X) (h2 : s ∉ X) (h3 : n ∉ X) : IsPf σ' dx s n e rows := ⟨k.at p.dx h1, k.at p.st h2, k.at p.nm h3, p.ne⟩
end Mine

open PySem PySem.W PyProof.Rows PySem.Calls PyProof.V PySem.Spec PySem.SeqAt
set_option Elab.async false
set_option linter.all false
set_option maxRecDepth 100000
namespace Mine

section
variable {K : Type} [DecidableEq K]
theorem hasK_iff {k : K} {kvs : List (K × V)} : hasK k kvs = true ↔ k ∈ kvs.map (·.1) := by unfold hasK; exact decide_eq_true_iff
theorem putK_keys (k : K) (v : V) (kvs : List (K × V)) : (putK k v kvs).map (·.1) = if k ∈ kvs.map (·.1) then kvs.map (·.1) else kvs.map (·.1) ++ [k] := by
  unfold putK
  split
  · rw [List.map_map]; apply List.map_congr_left; intro x _; simp only [Function.comp]; split <;> rfl
  · simp
theorem mem_putK {k x : K} {v : V} {kvs : List (K × V)} : x ∈ (putK k v kvs).map (·.1) ↔ x = k ∨ x ∈ kvs.map (·.1) := by
  rw [putK_keys]
  split
  · rename_i h
    exact ⟨.inr, fun z => z.elim (fun e => e ▸ h) id⟩
  · rw [List.mem_append, List.mem_singleton]; exact Or.comm
theorem nodup_putK {k : K} {v : V} {kvs : List (K × V)} (h : (kvs.map (·.1)).Nodup) : ((putK k v kvs).map (·.1)).Nodup := by
  rw [putK_keys]
  split
  · exact h
  · rename_i q
    rw [List.nodup_append]
    exact ⟨h, by simp, fun a ha b hb e => by rw [List.mem_singleton] at hb; subst hb; subst e; exact q ha⟩
theorem getK_put_self {k : K} {v : V} {kvs : List (K × V)} : getK k (putK k v kvs) = some v := by
  unfold getK putK
  split
  · rename_i h
    induction kvs with
    | nil => simp at h
    | cons c cs ih =>
      simp only [List.map_cons, List.find?_cons]
      by_cases e : c.1 = k
      · simp [e]
      · simp only [if_neg e, decide_eq_false e]
        simp only [List.map_cons, List.mem_cons] at h
        exact ih (h.resolve_left fun z => e z.symm)
  · rename_i h
    rw [List.find?_append]
    have : kvs.find? (fun kv => decide (kv.1 = k)) = none := by
      rw [List.find?_eq_none]
      intro x hx e
      exact h (List.mem_map.mpr ⟨x, hx, of_decide_eq_true e⟩)
    rw [this]
    simp
theorem getK_put_ne {k x : K} {v : V} {kvs : List (K × V)} (ne : x ≠ k) : getK x (putK k v kvs) = getK x kvs := by
  unfold getK putK
  split
  · rename_i hin
    clear hin
    induction kvs with
    | nil => rfl
    | cons c cs ih =>
      simp only [List.map_cons, List.find?_cons]
      by_cases e : c.1 = k
      · have : ¬ c.1 = x := fun z => ne (z.symm.trans e)
        simp only [if_pos e, this, decide_false]
        exact ih
      · simp only [if_neg e]
        by_cases e2 : c.1 = x
        · simp [e2]
        · simp only [e2, decide_false]; exact ih
  · rw [List.find?_append]
    cases kvs.find? (fun kv => decide (kv.1 = x)) with
    | some c => simp
    | none => simp [Ne.symm ne]
end

/-! what a step rests on -/
inductive Needs (P : Nat → List Nat) (last : Nat) : Nat → Prop
  | refl : Needs P last last
  | step {j m : Nat} : Needs P last j → m ∈ P j → Needs P last m
def Ahead (P : Nat → List Nat) : Prop := ∀ n, ∀ m ∈ P n, m < n
theorem Needs.le {P : Nat → List Nat} {last m : Nat} (g : Ahead P) (h : Needs P last m) : m ≤ last := by
  induction h with
  | refl => exact Nat.le_refl _
  | step _ hm ih => exact Nat.le_trans (Nat.le_of_lt (g _ _ hm)) ih
/-- those found when the steps from k on are done -/
def Wk (P : Nat → List Nat) (last k m : Nat) : Prop := m = last ∨ ∃ j, k ≤ j ∧ Needs P last j ∧ m ∈ P j
theorem Wk_zero {P : Nat → List Nat} {last m : Nat} : Wk P last 0 m ↔ Needs P last m := by
  constructor
  · rintro (rfl | ⟨j, _, hj, hm⟩)
    · exact .refl
    · exact .step hj hm
  · intro h
    cases h with
    | refl => exact .inl rfl
    | step hj hm => exact .inr ⟨_, Nat.zero_le _, hj, hm⟩
theorem Wk_top {P : Nat → List Nat} {last m : Nat} (g : Ahead P) : Wk P last (last + 1) m ↔ m = last := by
  constructor
  · rintro (rfl | ⟨j, hk, hj, hm⟩)
    · rfl
    · exact absurd (hj.le g) (by omega)
  · exact .inl
theorem Wk_at {P : Nat → List Nat} {last n : Nat} (g : Ahead P) : Wk P last (n + 1) n ↔ Needs P last n := by
  constructor
  · rintro (rfl | ⟨j, _, hj, hm⟩)
    · exact .refl
    · exact .step hj hm
  · intro h
    cases h with
    | refl => exact .inl rfl
    | step hj hm => exact .inr ⟨_, g _ _ hm, hj, hm⟩
theorem Wk_step {P : Nat → List Nat} {last n m : Nat} : Wk P last n m ↔ Wk P last (n + 1) m ∨ (Needs P last n ∧ m ∈ P n) := by
  constructor
  · rintro (rfl | ⟨j, hk, hj, hm⟩)
    · exact .inl (.inl rfl)
    · by_cases e : j = n
      · subst e; exact .inr ⟨hj, hm⟩
      · exact .inl (.inr ⟨j, by omega, hj, hm⟩)
  · rintro ((rfl | ⟨j, hk, hj, hm⟩) | ⟨h1, h2⟩)
    · exact .inl rfl
    · exact .inr ⟨j, by omega, hj, hm⟩
    · exact .inr ⟨n, Nat.le_refl _, h1, h2⟩
theorem Wk_le {P : Nat → List Nat} {last k m : Nat} (g : Ahead P) (h : Wk P last k m) : m ≤ last := by
  rcases h with rfl | ⟨j, _, hj, hm⟩
  · exact Nat.le_refl _
  · exact Needs.le g (.step hj hm)

open Classical in
noncomputable def need (P : Nat → List Nat) (last : Nat) : List Nat := (List.range (last + 1)).filter fun m => decide (Needs P last m)
open Classical in
theorem mem_need {P : Nat → List Nat} {last m : Nat} (g : Ahead P) : m ∈ need P last ↔ Needs P last m := by
  unfold need
  rw [List.mem_filter, List.mem_range, decide_eq_true_iff]
  exact ⟨fun h => h.2, fun h => ⟨Nat.lt_succ_of_le (h.le g), h⟩⟩
theorem need_sorted (P : Nat → List Nat) (last : Nat) : (need P last).Pairwise (· < ·) := List.pairwise_lt_range.filter _
theorem need_nodup (P : Nat → List Nat) (last : Nat) : (need P last).Nodup := (need_sorted P last).imp fun h => Nat.ne_of_lt h
theorem need_length (P : Nat → List Nat) (last : Nat) : (need P last).length ≤ last + 1 := by
  unfold need
  exact Nat.le_trans (List.length_filter_le _ _) (by simp)
theorem last_mem {P : Nat → List Nat} {last : Nat} (g : Ahead P) : last ∈ need P last := (mem_need g).mpr .refl

/-- as zints -/
def zints (l : List Nat) : List Int := l.map fun n : Nat => (n : Int)
def vints (l : List Nat) : List V := l.map fun n : Nat => V.int n
theorem vints_eq (l : List Nat) : (zints l).map V.int = vints l := by unfold zints vints; rw [List.map_map]; rfl
theorem ints_sorted {l : List Nat} (h : l.Pairwise (· < ·)) : (zints l).Pairwise (· ≤ ·) := by
  unfold zints
  rw [List.pairwise_map]
  exact h.imp fun q => Int.ofNat_le.mpr (Nat.le_of_lt q)
theorem ints_nodup {l : List Nat} (h : l.Nodup) : (zints l).Nodup := by
  unfold zints
  rw [List.nodup_iff_pairwise_ne, List.pairwise_map]
  exact (List.nodup_iff_pairwise_ne.mp h).imp fun q z => q (Int.ofNat_inj.mp z)
theorem mem_ints {l : List Nat} {m : Int} : m ∈ zints l ↔ ∃ n : Nat, m = n ∧ n ∈ l := by
  unfold zints
  rw [List.mem_map]
  exact ⟨fun ⟨n, a, b⟩ => ⟨n, b.symm, a⟩, fun ⟨n, a, b⟩ => ⟨n, b, a.symm⟩⟩
theorem ints_inj {a b : List Nat} (h : zints a = zints b) : a = b := by
  unfold zints at h
  exact List.map_inj_right (fun x y e => Int.ofNat_inj.mp e) |>.mp h
theorem sorted_eq {a b : List Nat} (ha : a.Pairwise (· < ·)) (hb : b.Pairwise (· < ·)) (h : ∀ x, x ∈ a ↔ x ∈ b) : a = b := by
  have na : a.Nodup := ha.imp fun q => Nat.ne_of_lt q
  have nb : b.Nodup := hb.imp fun q => Nat.ne_of_lt q
  exact ((List.perm_ext_iff_of_nodup na nb).mpr h).eq_of_pairwise (fun x y _ _ p q => absurd p (Nat.lt_asymm q)) ha hb

def premsOf (rows : List Stp') (n : Nat) : List Nat := (rows[n]?.map Stp'.prem).getD []
theorem premsOf_some {rows : List Stp'} {n : Nat} {r : Stp'} (h : rows[n]? = some r) : premsOf rows n = r.prem := by unfold premsOf; rw [h]; rfl
def GoodRows (rows : List Stp') : Prop := ∀ (n : Nat) (r : Stp'), rows[n]? = some r → ∀ m ∈ r.prem, m < n
theorem GoodRows.ahead {rows : List Stp'} (g : GoodRows rows) : Ahead (premsOf rows) := fun n m hm => by
  unfold premsOf at hm
  cases e : rows[n]? with
  | none => rw [e] at hm; cases hm
  | some r => rw [e] at hm; exact g n r e m hm

def rowAt (rows : List Stp') (n : Nat) : Stp' := (rows[n]?).getD ⟨"", [], [], .none⟩
theorem rowAt_some {rows : List Stp'} {n : Nat} {r : Stp'} (h : rows[n]? = some r) : rowAt rows n = r := by unfold rowAt; rw [h]; rfl
def trimRows (rows : List Stp') (told : List Nat) : List Stp' := told.map fun num => { rowAt rows num with prem := (rowAt rows num).prem.map fun m => told.idxOf m }
def rulesL : List Str := ["input", "define", "ite_term", "three", "bits", "congruence", "farkas", "branch", "divide", "cut", "resolve"]
structure OkRow (r : Stp') : Prop where
  rule : r.rule ∈ rulesL
  len : r.clause.length ≤ 1
  nz : ∀ c ∈ r.clause, c ≠ 0
  prem : r.prem.length ≤ 1000

theorem idx_lt {told : List Nat} (hs : told.Pairwise (· < ·)) {i m t : Nat} (ht : told[i]? = some t) (hm : m ∈ told) (lt : m < t) : told.idxOf m < i := by
  have h1 : told.idxOf m < told.length := List.idxOf_lt_length_iff.mpr hm
  have h2 : told[told.idxOf m] = m := List.getElem_idxOf h1
  obtain ⟨hi, e⟩ := List.getElem?_eq_some_iff.mp ht
  refine Nat.lt_of_not_le fun le => ?_
  rcases Nat.lt_or_eq_of_le le with q | q
  · have := (List.pairwise_iff_getElem.mp hs) i (told.idxOf m) hi h1 q
    omega
  · have : told[i] = m := by rw [← h2]; congr 1
    omega
theorem idx_at {told : List Nat} {m : Nat} (hm : m ∈ told) : told[told.idxOf m]? = some m := by
  have h1 : told.idxOf m < told.length := List.idxOf_lt_length_iff.mpr hm
  rw [List.getElem?_eq_getElem h1, List.getElem_idxOf h1]

def ClOk (cells : List (Str × Addr)) : List (Str × Addr) → Prop
  | [] => True
  | p :: r => cells.lookup p.1 = some p.2 ∧ ClOk cells r
theorem ClOk.mem {cells : List (Str × Addr)} : ∀ {cl : List (Str × Addr)}, ClOk cells cl → ∀ p ∈ cl, cells.lookup p.1 = some p.2
  | _ :: _, h, _, .head _ => h.1
  | _ :: _, h, _, .tail _ m => ClOk.mem h.2 _ m
theorem ClOk.to {cells cl : List (Str × Addr)} (h : ClOk cells cl) : ∀ x c, cl.lookup x = some c → cells.lookup x = some c := fun x c e => h.mem _ (mem_of_lookup e)
theorem compFra_at {ρ : Fra} {env cenv : Env} {x : Str} {v : V} (e : ρ x = some v) (h : ((cenv.cells.lookup x).isSome && !(env.kindOf x == some .local) && (cenv.kindOf x == some .cell || cenv.kindOf x == some .free) && !(x == ("__classdict__" : Str))) = true := by rfl) : compFra ρ env cenv x = some v := by
  unfold compFra; rw [if_pos h]; exact e
section
variable {C : Cx} {d : Nat} {env : Env} {ρ : Fra} {σ : Store}
theorem O2_sub {a b : Int} {Q : V → Store → Prop} (h : Q (.int (a - b)) σ) : Ow2 C d VRel (.int a) (.int b) (binaryOp .Sub) Q σ := by
  rintro A E s Qc _ _ rm Rp ⟨t, rfl⟩ ⟨u, rfl⟩ hq
  exact P.sub_int (hq _ _ _ s.heap _ h Rp ⟨_, rfl⟩ (Stp.refl ..))
end

theorem idx_last {P : Nat → List Nat} {last : Nat} (ah : Ahead P) : (need P last).idxOf last = (need P last).length - 1 := by
  have hm := last_mem (last := last) ah
  have h1 : (need P last).idxOf last < (need P last).length := List.idxOf_lt_length_iff.mpr hm
  refine Nat.le_antisymm (by omega) (Nat.le_of_not_lt fun lt => ?_)
  have h2 : (need P last)[(need P last).idxOf last] = last := List.getElem_idxOf h1
  have := (List.pairwise_iff_getElem.mp (need_sorted P last)) ((need P last).idxOf last) ((need P last).length - 1) h1 (by omega) lt
  have hle := ((mem_need ah).mp (List.getElem_mem (l := need P last) (n := (need P last).length - 1) (by omega))).le ah
  omega
theorem relabel_full {P P' : Nat → List Nat} {last : Nat} (ah : Ahead P) (ah' : Ahead P') (h : ∀ j t : Nat, (need P last)[j]? = some t → P' j = (P t).map fun m => (need P last).idxOf m) :
    need P' ((need P last).length - 1) = List.range (need P last).length := by
  have hm := last_mem (last := last) ah
  have hpos : 0 < (need P last).length := List.length_pos_of_mem hm
  refine sorted_eq (need_sorted _ _) List.pairwise_lt_range fun x => ?_
  rw [mem_need ah', List.mem_range]
  constructor
  · intro q
    have := q.le ah'
    omega
  · intro hx
    have key : ∀ m, Needs P last m → Needs P' ((need P last).length - 1) ((need P last).idxOf m) := by
      intro m hm
      induction hm with
      | refl => rw [idx_last ah]; exact .refl
      | step hj hmj ih =>
        refine .step ih ?_
        rw [h _ _ (idx_at ((mem_need ah).mpr hj))]
        exact List.mem_map_of_mem hmj
    have := key _ ((mem_need ah).mp (List.getElem_mem (l := need P last) (n := x) hx))
    have e : (need P last).idxOf (need P last)[x] = x := by
      have h1 : (need P last)[x] ∈ need P last := List.getElem_mem hx
      have h2 := idx_at h1
      have h3 : (need P last)[x]? = some (need P last)[x] := List.getElem?_eq_getElem hx
      exact (List.getElem?_inj (List.idxOf_lt_length_iff.mpr h1) (need_nodup _ _)).mp (h2.trans h3.symm)
    rw [e] at this
    exact this
end Mine

open PySem PySem.W PyProof.Rows PySem.Calls PyProof.V PySem.Spec PySem.SeqAt
set_option Elab.async false
set_option linter.all false
set_option maxRecDepth 100000
namespace Mine
theorem ints_take : ∀ {ws : List Value} {ns : List Int} (b : Nat), IntsAre ws ns → IntsAre (ws.take b) (ns.take b)
  | _, _, 0, _ => .nil
  | _, _, _ + 1, .nil => .nil
  | _, _, b + 1, .cons n t r => .cons n t (ints_take b r)
section
variable {C : Cx} {d : Nat} {env : Env} {ρ : Fra} {σ : Store}
/-- `list[:upper]` of a list of the ground -/
theorem Ew_SliceG {value upper : Expr} {p pos : Pos} {l : Addr} {ws : List Value} {ns : List Int} {Q : V → Store → Prop} (hl : C.g.IsList l ws.toArray) (hi : IntsAre ws ns) (hz : ns.length ≤ 1000000)
    (h : Ew C d env ρ VRel (eval value env) (fun u σ₁ => u = .ref l ∧ Ew C d env ρ VRel (eval upper env) (fun v σ₂ => ∃ b : Nat, v = .int b ∧ ∀ D, σ₂ D = none → Q (.ref D) (σ₂.set D (.list ((ns.take b).map V.int)))) σ₁) σ)
    (ht : ∀ o r, letTemporaryGo value o r = pure () := by intro _ _; rfl) : Ew C d env ρ VRel (eval (.Subscript value (.Slice none (some upper) none p) pos) env) Q σ :=
  fun A E s Qc rm Rp F hq => by
    refine wpAny_Subscript_list_slice (h A E s _ rm Rp F fun u σ₁ x h₁ k₁ q₁ R₁ r₁ s₁ => ?_) ht
    obtain ⟨rfl, q₁⟩ := q₁
    rw [evalPart_none, evalPart_some]
    refine wpAny_pure (q₁ A E _ _ rm R₁ (F.keep Rp s₁) fun v σ₂ y h₂ k₂ q₂ R₂ r₂ s₂ => ?_)
    obtain ⟨b, rfl, q⟩ := q₂
    have e : x = .ref l := r₁
    subst e
    obtain ⟨t, rfl⟩ := r₂
    have hl₂ : h₂.IsList l ws.toArray := by
      obtain ⟨o, ho, r⟩ := hl
      exact ⟨o, R₂.base _ _ ho, r⟩
    have hsz : ws.toArray.size = ns.length := by rw [List.size_toArray]; exact hi.length
    refine ⟨l, ws.toArray, none, some (b : Int), rfl, hl₂, by rw [hsz, sizeLine_eq]; exact Nat.le_trans hz (by decide), .none, .int _ _, ?_⟩
    obtain ⟨R₃, s₃⟩ := R₂.push { cls := .type "slice", data := .fields #[.none, .int b t, .none] }
    have hsz : (h₂.push { cls := .type "slice", data := .fields #[.none, .int b t, .none] }).objs.size = h₂.objs.size + 1 := Heap.size_push ..
    have kk : ∀ b' o, (h₂.push { cls := .type "slice", data := .fields #[.none, .int b t, .none] }).get? b' = some o → ((h₂.push { cls := .type "slice", data := .fields #[.none, .int b t, .none] }).push { cls := .type "list", data := .seq (slicePick ws.toArray none (some (b : Int)) none) }).get? b' = some o := fun b' o e => Heap.get?_push_of_some _ e
    obtain ⟨R₄, s₄, n⟩ := R₃.alloc' (a := h₂.objs.size + 1) (o := .list ((ns.take b).map V.int)) (by rw [hsz]; exact Nat.le_refl _) kk ⟨_, ⟨_, by rw [← hsz]; exact Heap.get?_push_size _ rfl⟩, by
      rw [slicePick_to]
      exact ofInts (ints_take b hi)⟩
    exact hq _ _ _ _ k₂ (q _ n) R₄ rfl (((s₁.trans s₂).trans s₃).trans s₄)

end
theorem need_congr {P P' : Nat → List Nat} {last : Nat} (ah : Ahead P) (ah' : Ahead P') (h : ∀ m, m ≤ last → P m = P' m) : need P last = need P' last := by
  refine sorted_eq (need_sorted _ _) (need_sorted _ _) fun x => ?_
  rw [mem_need ah, mem_need ah']
  constructor
  · intro q
    induction q with
    | refl => exact .refl
    | step hj hm ih => exact .step ih (h _ (hj.le ah) ▸ hm)
  · intro q
    induction q with
    | refl => exact .refl
    | step hj hm ih => exact .step ih ((h _ (hj.le ah')).symm ▸ hm)
theorem needs_trans {P : Nat → List Nat} {a b c : Nat} (h1 : Needs P a b) (h2 : Needs P b c) : Needs P a c := by
  induction h2 with
  | refl => exact h1
  | step _ hm ih => exact .step ih hm
theorem needs_first {P : Nat → List Nat} {last x : Nat} : Needs P last x ↔ x = last ∨ ∃ p ∈ P last, Needs P p x := by
  constructor
  · intro h
    induction h with
    | refl => exact .inl rfl
    | step hj hm ih =>
      rcases ih with rfl | ⟨p, hp, hx⟩
      · exact .inr ⟨_, hm, .refl⟩
      · exact .inr ⟨p, hp, .step hx hm⟩
  · rintro (rfl | ⟨p, hp, hx⟩)
    · exact .refl
    · exact needs_trans (.step .refl hp) hx
open Classical in
theorem need_range {P : Nat → List Nat} {last N : Nat} (ah : Ahead P) (h : last < N) : (List.range N).filter (fun m => decide (Needs P last m)) = need P last :=
  sorted_eq (List.pairwise_lt_range.filter _) (need_sorted _ _) fun x => by
    rw [mem_need ah, List.mem_filter, List.mem_range, decide_eq_true_iff]
    exact ⟨fun q => q.2, fun q => ⟨Nat.lt_of_le_of_lt (q.le ah) h, q⟩⟩
end Mine

open PySem PySem.W PyProof.Rows PySem.Calls PyProof.V PySem.Spec PySem.SeqAt
set_option Elab.async false
set_option linter.all false
set_option maxRecDepth 100000
namespace Mine
/-! sets of the ints 0 to 4 -/
def tbl (led : Bool) (ks : List Nat) : SetTable := { mask := if ks.length = 5 then 31 else 7, place := ks.toArray, dummies := #[], finger := 0, led, moves := if ks.length = 5 then 1 else 0, plain := true }
def subsOf : List Nat → List (List Nat)
  | [] => [[]]
  | a :: l => subsOf l ++ (subsOf l).map (a :: ·)
def subs : List (List Nat) := subsOf [0, 1, 2, 3, 4]
def posOf (k : Nat) (ks : List Nat) : Nat := (ks.filter (· < k)).length
def insS (k : Nat) (ks : List Nat) : List Nat := ks.take (posOf k ks) ++ k :: ks.drop (posOf k ks)
def okAdd (led : Bool) (ks : List Nat) (k : Nat) : Bool :=
  decide (k ∈ ks) ||
  (decide ((tbl led ks).freeSlot (hashInt k) = some (k, false)) &&
   decide ((tbl led ks).put k = ({ tbl led ks with place := (insS k ks).toArray }, posOf k ks)) &&
   decide (insS k ks ∈ subs) && decide ((insS k ks).length = ks.length + 1))
theorem add_all : ([true, false].all fun led => subs.all fun ks => [0, 1, 2, 3, 4].all fun k => okAdd led ks k) = true := by decide +kernel
theorem full_all : ([true, false].all fun led => decide (({ tbl led [] with place := #[0, 1, 2, 3, 4] } : SetTable).relaid #[0, 1, 2, 3, 4] (SetTable.grown 5) = some (tbl led [0, 1, 2, 3, 4], #[0, 1, 2, 3, 4]))) = true := by decide +kernel
def slotAt (ks : List Nat) (i : Nat) : Nat := if i = 0 then 0 else (ks[i - 1]?).getD 0 + 1
theorem walk_all : (subs.all fun ks => (List.range (ks.length + 1)).all fun i => decide (SetTable.below ks.toArray (slotAt ks i) = i)) = true := by decide +kernel
theorem sorted_all : (subs.all fun ks => decide (ks.Pairwise (· < ·)) && decide (ks.length ≤ 5) && (decide (ks.length ≠ 5) || decide (ks = [0, 1, 2, 3, 4]))) = true := by decide +kernel
theorem nil_sub : [] ∈ subs := by decide +kernel
theorem sub_facts {ks : List Nat} (h : ks ∈ subs) : ks.Pairwise (· < ·) ∧ ks.length ≤ 5 ∧ (ks.length = 5 → ks = [0, 1, 2, 3, 4]) := by
  have := List.all_eq_true.mp sorted_all ks h
  simp only [Bool.and_eq_true, Bool.or_eq_true, decide_eq_true_eq] at this
  exact ⟨this.1.1, this.1.2, fun e => this.2.resolve_left fun z => z e⟩
theorem add_facts {led : Bool} {ks : List Nat} {k : Nat} (h : ks ∈ subs) (hk : k < 5) (n : k ∉ ks) : (tbl led ks).freeSlot (hashInt k) = some (k, false) ∧ (tbl led ks).put k = ({ tbl led ks with place := (insS k ks).toArray }, posOf k ks) ∧ insS k ks ∈ subs ∧ (insS k ks).length = ks.length + 1 := by
  have h1 := List.all_eq_true.mp add_all led (by cases led <;> simp)
  have h2 := List.all_eq_true.mp h1 ks h
  have h3 := List.all_eq_true.mp h2 k (by simp; omega)
  unfold okAdd at h3
  simp only [Bool.or_eq_true, Bool.and_eq_true, decide_eq_true_eq] at h3
  have := h3.resolve_left n
  exact ⟨this.1.1.1, this.1.1.2, this.1.2, this.2⟩
theorem full_fact (led : Bool) : ({ tbl led [] with place := #[0, 1, 2, 3, 4] } : SetTable).relaid #[0, 1, 2, 3, 4] (SetTable.grown 5) = some (tbl led [0, 1, 2, 3, 4], #[0, 1, 2, 3, 4]) := by
  have := List.all_eq_true.mp full_all led (by cases led <;> simp)
  exact of_decide_eq_true this
theorem walk_fact {ks : List Nat} (h : ks ∈ subs) {i : Nat} (hi : i ≤ ks.length) : SetTable.below ks.toArray (slotAt ks i) = i := by
  have := List.all_eq_true.mp (List.all_eq_true.mp walk_all ks h) i (List.mem_range.mpr (Nat.lt_succ_of_le hi))
  exact of_decide_eq_true this
theorem mem_ins {k : Nat} {ks : List Nat} {x : Nat} : x ∈ insS k ks ↔ x = k ∨ x ∈ ks := by
  unfold insS
  have e : ks = ks.take (posOf k ks) ++ ks.drop (posOf k ks) := (List.take_append_drop _ _).symm
  conv => rhs; rw [e]
  simp only [List.mem_append, List.mem_cons]
  constructor
  · rintro (h | h | h)
    · exact .inr (.inl h)
    · exact .inl h
    · exact .inr (.inr h)
  · rintro (h | h | h)
    · exact .inr (.inl h)
    · exact .inl h
    · exact .inr (.inr h)
theorem ins_list {α : Type} (xs : Array α) (p : Nat) (x : α) : (SetTable.insertAt xs p x).toList = xs.toList.take p ++ x :: xs.toList.drop p := by
  unfold SetTable.insertAt
  simp only [Array.toList_append, Array.toList_push, Array.toList_extract, List.extract_eq_drop_take, List.drop_zero, Nat.sub_zero]
  rw [List.take_of_length_le (l := List.drop p xs.toList) (by simp), List.append_assoc]
  rfl

theorem memZ {n : Nat} {l : List Nat} : (n : Int) ∈ zints l ↔ n ∈ l := by
  rw [mem_ints]
  exact ⟨fun ⟨m, e, h⟩ => by rw [Int.ofNat_inj.mp e]; exact h, fun h => ⟨n, rfl, h⟩⟩
def SetSt (h : Heap) (a : Addr) (led : Bool) (ks : List Nat) : Prop := ∃ es ep, h.get? a = some { cls := .type "set", dict := none, data := .set es ep (tbl led ks), slots := #[] } ∧ es.toList.map (·.1) = ks.map (fun k : Nat => hashInt k) ∧ IntsAre (es.toList.map (·.2)) (zints ks)
theorem ints_at {vs : List Value} {ns : List Int} (h : IntsAre vs ns) : ∀ v ∈ vs, ∃ n ∈ ns, ∃ t, v = .int n t := by
  induction h with
  | nil => intro v hv; cases hv
  | cons n t r ih =>
    intro v hv
    rcases List.mem_cons.mp hv with rfl | hv
    · exact ⟨n, .head _, t, rfl⟩
    · obtain ⟨m, hm, q⟩ := ih v hv
      exact ⟨m, .tail _ hm, q⟩
theorem ints_has {vs : List Value} {ns : List Int} (h : IntsAre vs ns) : ∀ n ∈ ns, ∃ t, .int n t ∈ vs := by
  induction h with
  | nil => intro v hv; cases hv
  | cons n t r ih =>
    intro v hv
    rcases List.mem_cons.mp hv with rfl | hv
    · exact ⟨t, .head _⟩
    · obtain ⟨u, q⟩ := ih v hv
      exact ⟨u, .tail _ q⟩
theorem elems_of {prog : Program} {w : World} : ∀ {es : List (Int × Value)} {ks : List Nat}, es.map (·.1) = ks.map (fun k : Nat => hashInt k) → IntsAre (es.map (·.2)) (zints ks) → ElemsOf (intKind prog w) es
  | [], _, _, _ => fun e he => by cases he
  | e :: es, [], h, _ => by cases h
  | e :: es, k :: ks, h, hi => by
    simp only [List.map_cons, List.cons.injEq] at h
    unfold zints at hi
    simp only [List.map_cons] at hi
    generalize he2 : e.2 = v at hi
    cases hi with
    | cons n t r =>
      intro x hx
      rcases List.mem_cons.mp hx with rfl | hx
      · rw [he2]; exact ⟨⟨k, intKind_is _ _ _ _, h.1⟩, rfl⟩
      · exact elems_of h.2 r x hx
theorem ints_mid {vs : List Value} {ns : List Int} {n : Int} {t : Tok} (p : Nat) (h : IntsAre vs ns) : IntsAre (vs.take p ++ .int n t :: vs.drop p) (ns.take p ++ n :: ns.drop p) := by
  have h1 := ints_take p h
  have h2 : IntsAre (vs.drop p) (ns.drop p) := by
    clear h1
    induction p generalizing vs ns with
    | zero => exact h
    | succ p ih =>
      cases h with
      | nil => exact .nil
      | cons n t r => exact ih r
  exact h1.append (.cons n t h2)
end Mine

open PySem PySem.W PyProof.Rows PySem.Calls PyProof.V PySem.Spec PySem.SeqAt
set_option Elab.async false
set_option linter.all false
set_option maxRecDepth 100000
namespace Mine
section
variable {prog : Program} {w : World} {A : Around} {E : Value → Shared → Prop} {s : Shared}
theorem es_size {es : Array (Int × Value)} {ks : List Nat} (h : es.toList.map (·.1) = ks.map (fun k : Nat => hashInt k)) : es.size = ks.length := by
  have := congrArg List.length h
  simpa using this
theorem tbl_fits {led : Bool} {ks : List Nat} (h : ks.length ≤ 5) : (tbl led ks).fits ks.length = true := by
  unfold SetTable.fits SetTable.fill tbl
  simp only [List.size_toArray, beq_self_eq_true, Bool.true_and, decide_eq_true_eq, Array.size_empty, List.length_nil, Nat.add_zero]
  split <;> omega

theorem set_add {a : Addr} {led : Bool} {ks : List Nat} {k : Nat} {t : Tok} {Q : Bool → Shared → Prop} (hin : ks ∈ subs) (hk : k < 5) (S : SetSt s.heap a led ks)
    (h : ∀ h' ks' b, Heap.SameBut a s.heap h' → ks' ∈ subs → (∀ x, x ∈ ks' ↔ x = k ∨ x ∈ ks) → SetSt h' a led ks' → Q b { s with heap := h' }) :
    wpAny (model prog w) A (setAddHashed a (.int k t) (hashInt k)) Q E s := by
  obtain ⟨es, ep, ho, h1, h2⟩ := id S
  obtain ⟨hsrt, hlen, hfull⟩ := sub_facts hin
  have hsz := es_size h1
  have hd : ({ cls := .type "set", dict := none, data := .set es ep (tbl led ks), slots := #[] } : Obj).data = .set es ep (tbl led ks) := rfl
  have hf : (tbl led ks).fits es.size = true := by rw [hsz]; exact tbl_fits hlen
  have hel : ElemsOf (intKind prog w) es.toList := elems_of h1 h2
  have hb : es.size < scanBound := by rw [hsz, show scanBound = 4096 from rfl]; omega
  have hkey : (intKind prog w).is (k : Int) (.int k t) = true := intKind_is ..
  unfold setAddHashed setAddHashedIn
  refine wpAny_holding (wpAny_bind (wpAny_setState_of ho hd hf ?_))
  dsimp only
  rw [byScan_of (x := .int k t) rfl hb hel]
  simp only [↓reduceIte]
  unfold setAddByScan
  refine wpAny_bind ?_
  refine wpAny_bind (wpAny_rule ?_)
  refine wpAny_bind (wpAny_setScan_of (k := (k : Int)) (knd := intKind prog w) hkey ho hd hf hel ?_)
  have same : (∃ e ∈ es.toList, (intKind prog w).is (k : Int) e.2 = true) ↔ k ∈ ks := by
    constructor
    · rintro ⟨e, he, hi⟩
      obtain ⟨n, hn, u, ev⟩ := ints_at h2 e.2 (List.mem_map_of_mem he)
      obtain ⟨t', ev'⟩ := is_int hi
      rw [ev] at ev'
      cases ev'
      exact memZ.mp hn
    · intro hks
      obtain ⟨u, hu⟩ := ints_has h2 k (memZ.mpr hks)
      obtain ⟨e, he, ev⟩ := List.mem_map.mp hu
      exact ⟨e, he, by rw [ev]; exact intKind_is ..⟩
  cases hr : List.findIdx? (fun e => (intKind prog w).is (k : Int) e.2) es.toList with
  | some j =>
    dsimp only
    obtain ⟨hj, hpj, _⟩ := List.findIdx?_eq_some_iff_getElem.mp hr
    have hks : k ∈ ks := same.mp ⟨es.toList[j], List.getElem_mem hj, hpj⟩
    exact wpAny_pure (wpAny_pure (h s.heap ks _ (Heap.SameBut.refl a s.heap) hin (fun x => ⟨.inr, fun z => z.elim (fun e => e ▸ hks) id⟩) S))
  | none =>
    dsimp only
    have hks : k ∉ ks := fun z => by
      obtain ⟨e, he, hp⟩ := same.mpr z
      have := List.findIdx?_eq_none_iff.mp hr e he
      rw [hp] at this; cases this
    obtain ⟨f1, f2, f3, f4⟩ := add_facts (led := led) hin hk hks
    obtain ⟨gsrt, glen, gfull⟩ := sub_facts f3
    have hgw : ∀ (b : Bool) {s₁ : Shared} {Q' : Unit → Shared → Prop}, Q' () s₁ → wpAny (model prog w) A (match b with | true => rule "set.scan.the-table-gave-way" | false => pure ()) Q' E s₁ :=
      fun b s₁ Q' hq => by cases b <;> first | exact wpAny_pure hq | exact wpAny_rule hq
    have es' : (SetTable.insertAt es (posOf k ks) (hashInt k, Value.int k t)).toList = es.toList.take (posOf k ks) ++ (hashInt k, Value.int k t) :: es.toList.drop (posOf k ks) := ins_list ..
    have e1 : (SetTable.insertAt es (posOf k ks) (hashInt k, Value.int k t)).toList.map (·.1) = (insS k ks).map (fun k : Nat => hashInt k) := by
      rw [es']
      unfold insS
      rw [List.map_append, List.map_cons, List.map_take, List.map_drop, h1, List.map_append, List.map_cons, List.map_take, List.map_drop]
    have e2 : IntsAre ((SetTable.insertAt es (posOf k ks) (hashInt k, Value.int k t)).toList.map (·.2)) (zints (insS k ks)) := by
      rw [es']
      have := ints_mid (n := (k : Int)) (t := t) (posOf k ks) h2
      unfold insS
      unfold zints at *
      rw [List.map_append, List.map_cons, List.map_take, List.map_drop, List.map_append, List.map_cons, List.map_take, List.map_drop]
      exact this
    have hsz' := es_size e1
    have ft : ({ tbl led ks with place := (insS k ks).toArray } : SetTable).fits (insS k ks).length = true := by
      unfold SetTable.fits SetTable.fill tbl
      simp only [List.size_toArray, beq_self_eq_true, Bool.true_and, decide_eq_true_eq, Array.size_empty, List.length_nil, Nat.add_zero]
      split <;> omega
    obtain ⟨T1, hT1⟩ : ∃ T1, T1 = ({ tbl led ks with place := (insS k ks).toArray } : SetTable) := ⟨_, rfl⟩
    rw [← hT1] at f2 ft
    have hL : layNew (tbl led ks) es (hashInt k) (.int k t) = (SetTable.insertAt es (posOf k ks) (hashInt k, Value.int k t), T1, false, false) := by
      unfold layNew
      rw [f1]
      dsimp only
      rw [f2]
      dsimp only
      rw [hsz']
      unfold SetTable.orStandIn
      rw [ft]
      rfl
    rw [hL]
    dsimp only
    generalize SetTable.insertAt es (posOf k ks) (hashInt k, Value.int k t) = es1 at e1 e2 hsz' ⊢
    refine wpAny_bind (wpAny_pure (a := ()) ?_)
    rw [if_pos (show T1.plain = true from by rw [hT1]; rfl)]
    rw [hashByValue_scannable 8 (show (Value.int k t).scannable = true from rfl)]
    refine wpAny_bind (wpAny_bind (wpAny_pure ?_))
    rw [show plainKind (Value.int k t) = true from rfl]
    refine wpAny_pure ?_
    simp only [if_true]
    have hz1 : es1.size ≤ sizeLine := by rw [hsz', sizeLine_eq]; omega
    have up : ∀ (t' : SetTable) (o : Obj) (e' : Array (Int × Value)) (ep' : Nat) (tt : SetTable) (h0 : Heap), h0.get? a = some o → o = { cls := .type "set", dict := none, data := .set e' ep' tt, slots := #[] } → (h0.update a (Obj.putSet es1 t')).get? a = some { cls := .type "set", dict := none, data := .set es1 (ep' + 1) t', slots := #[] } := by
      intro t' o e' ep' tt h0 hg he
      subst he
      have := Heap.get?_update_self (Obj.putSet es1 t') hg (by rw [putSet_of (ep := ep') es1 t' rfl]; rfl)
      rw [putSet_of (ep := ep') es1 t' rfl] at this
      exact this
    by_cases h5 : (insS k ks).length = 5
    · have h4 : ks.length = 4 := by omega
      have hfive := gfull h5
      rw [hfive] at hT1 e1 e2 f3
      have eT : T1 = ({ tbl led [] with place := #[0, 1, 2, 3, 4] } : SetTable) := by
        rw [hT1]
        unfold tbl
        simp [h4]
      have tf : T1.tooFull = true := by rw [eT]; cases led <;> decide
      have hs5 : es1.size = 5 := by rw [hsz', h5]
      have hmap : es1.map (·.1) = #[0, 1, 2, 3, 4] := by
        rw [← Array.toList_inj, Array.toList_map, e1]
        rfl
      have hfm : (#[0, 1, 2, 3, 4] : Array Nat).filterMap (es1[·]?) = es1 := by
        obtain ⟨l⟩ := es1
        match l, hs5 with
        | [a, b, c, d, e], _ => rfl
      have hR : relayAll T1 es1 (SetTable.grown es1.size) = (es1, tbl led [0, 1, 2, 3, 4], false) := by
        unfold relayAll
        rw [hmap, hs5, eT, full_fact]
        dsimp only
        rw [hfm, hs5, if_pos (by cases led <;> decide)]
      refine wpAny_bind (wpAny_storeSet_of ho hd ?_ hz1)
      rw [tf, hR]
      simp only [Bool.not_false, Bool.and_self, if_true]
      have ho1 := up T1 _ _ _ _ _ ho rfl
      refine wpAny_bind (wpAny_pure (a := ()) (wpAny_bind (wpAny_storeSet_of ho1 rfl ?_ hz1)))
      exact wpAny_pure (wpAny_pure (h _ [0, 1, 2, 3, 4] _ ((Heap.SameBut.update ..).trans (Heap.SameBut.update ..)) f3 (fun x => hfive ▸ mem_ins) ⟨es1, ep + 1 + 1, up _ _ _ _ _ _ ho1 rfl, e1, e2⟩))
    · have h5' : ks.length ≠ 5 := by omega
      have et : ({ tbl led ks with place := (insS k ks).toArray } : SetTable) = tbl led (insS k ks) := by
        unfold tbl
        rw [if_neg h5', if_neg h5', if_neg h5, if_neg h5]
      rw [← hT1] at et
      subst et
      have nf : (tbl led (insS k ks)).tooFull = false := by
        unfold SetTable.tooFull SetTable.fill tbl
        rw [if_neg h5]
        simp only [List.size_toArray, Array.size_empty, List.length_nil]
        exact decide_eq_false (by omega)
      refine wpAny_bind (wpAny_storeSet_of ho hd ?_ hz1)
      rw [nf]
      simp only [Bool.and_false, Bool.false_eq_true, if_false]
      exact wpAny_pure (wpAny_pure (h _ (insS k ks) _ (Heap.SameBut.update ..) f3 (fun x => mem_ins) ⟨es1, ep + 1, up _ _ _ _ _ _ ho rfl, e1, e2⟩))
end
end Mine

open PySem PySem.W PyProof.Rows PySem.Calls PyProof.V PySem.Spec PySem.SeqAt
set_option Elab.async false
set_option linter.all false
set_option maxRecDepth 100000
set_option maxHeartbeats 4000000
namespace Mine
theorem SetSt.keep {h h' : Heap} {a : Addr} {led : Bool} {ks : List Nat} (S : SetSt h a led ks) (k : ∀ o, h.get? a = some o → h'.get? a = some o) : SetSt h' a led ks := by
  obtain ⟨es, ep, e, r⟩ := S
  exact ⟨es, ep, k _ e, r⟩
section
variable {prog : Program} {w : World} {A : Around} {R : Result → Shared → Prop} {I : Addr} {fp wr : List Addr} {G : Array GenState → Array GenState → Prop} {n : Nat} {P : Nat → Value → Prop} {St : Nat → Shared → Prop}
theorem set_loop (W : WalksS prog w A.in1 I fp wr G n P St) (S : Addr) (hSf : S ∉ fp) (val : Nat → Nat) (hval : ∀ i v, P i v → val i < 5 ∧ ∃ t, v = .int (val i) t) (led : Bool) :
    ∀ (m i : Nat) (s : Shared) (ks : List Nat), n - i = m → i ≤ n → St i s → ks ∈ subs → SetSt s.heap S led ks →
      (∀ s' ks', Moved (S :: wr) G s s' → ks' ∈ subs → (∀ x, x ∈ ks' ↔ x ∈ ks ∨ ∃ j, i ≤ j ∧ j < n ∧ val j = x) → SetSt s'.heap S led ks' → R (.ok (.ret .none)) s') →
      codeAny (model prog w) A (.builtin "set.update.loop" ⟨[.ref S, .ref I], []⟩) R s := by
  have hSw : S ∉ wr := fun h => hSf (W.sub _ h)
  have hsub : ∀ b ∈ wr, b ∈ S :: wr := fun b hb => List.mem_cons_of_mem _ hb
  intro m
  induction m with
  | zero =>
    intro i s ks hm hi hst hin hS hR
    have hin' : i = n := by omega
    subst hin'
    refine codeAny_builtin PyProof.Rows.F.entry_set_update_loop ?_
    rw [Around.under_plainId PyProof.Rows.F.plain_set_update_loop _]
    refine wpAny_bind (m := pyNext (.ref I)) (W.done s _ _ hst fun s' mv => ?_)
    exact wpAny_pure (hR s' ks (mv.mono hsub) hin (fun x => ⟨.inl, fun z => z.elim id fun ⟨j, a, b, _⟩ => absurd b (by omega)⟩) (hS.keep fun o e => mv.heap S o hSw e))
  | succ m ih =>
    intro i s ks hm hi hst hin hS hR
    have hlt : i < n := by omega
    refine codeAny_builtin PyProof.Rows.F.entry_set_update_loop ?_
    rw [Around.under_plainId PyProof.Rows.F.plain_set_update_loop _]
    refine wpAny_bind (m := pyNext (.ref I)) (W.item i s _ _ hlt hst fun v s' hP hst' mv => ?_)
    obtain ⟨h5, t, rfl⟩ := hval i v hP
    have hS' : SetSt s'.heap S led ks := hS.keep fun o e => mv.heap S o hSw e
    show wpAny _ A.in1 (holding [Value.int (val i) t] (setAdd S (.int (val i) t)) >>= _) _ _ s'
    refine wpAny_bind (wpAny_holding ?_)
    unfold setAdd
    refine wpAny_holding (wpAny_bind ((intKind prog w).pyHash (k := (val i : Int)) (intKind_is _ _ _ _) ?_))
    refine set_add (s := { s' with toks := s'.toks + 1 }) hin h5 hS' fun h' ks' b sb hin' hmem hS2 => ?_
    refine wpAny_pure ⟨plainId_quiet PyProof.Rows.F.plain_set_update_loop _, ih (i + 1) _ ks' (by omega) hlt (W.frame _ s' _ _ hst' (Nat.le_succ _) fun b hb o e => ?_) hin' hS2 fun s'' ks'' mv'' hin'' hmem'' hS'' => ?_⟩
    · rw [sb.2 b (fun h : b = S => hSf (by rw [← h]; exact hb))]; exact e
    · refine hR s'' ks'' (Moved.trans W.gtrans ((mv.mono hsub).then_heap (Nat.le_succ _) fun b o hb e => ?_) mv'') hin'' (fun x => ?_) hS''
      · rw [sb.2 b (fun h : b = S => hb (by rw [h]; exact List.mem_cons_self))]; exact e
      · rw [hmem'', hmem]
        constructor
        · rintro ((rfl | z) | ⟨j, a, b, c⟩)
          · exact .inr ⟨i, Nat.le_refl _, hlt, rfl⟩
          · exact .inl z
          · exact .inr ⟨j, by omega, b, c⟩
        · rintro (z | ⟨j, a, b, c⟩)
          · exact .inl (.inr z)
          · rcases Nat.lt_or_eq_of_le a with q | rfl
            · exact .inr ⟨j, q, b, c⟩
            · exact .inl (.inl c.symm)
end
section
variable {prog : Program} {w : World} {A : Around} {E : Value → Shared → Prop} {s : Shared}
abbrev ledOf (w : World) : Bool := !(w.params.followText "set-order")
theorem set_new (a : Value) {Q₁ : Value → Shared → Prop} (h : Q₁ (.ref s.heap.objs.size) { s with heap := s.heap.push { cls := .type "set", dict := none, data := .set #[] 0 (.fresh 0 0 (ledOf w)) } }) :
    codeAny (model prog w) A (.call (.builtin "set.__new__") ⟨[.type "set", a], []⟩) (wants Q₁ E) s := by
  refine codeAny_of_tree ?_
  show wpAny _ A.in1 (do checkBuiltinCall "set.__new__" ⟨[.type "set", a], []⟩; again (.builtin "set.__new__" ⟨[.type "set", a], []⟩)) _ _ s
  refine wpAny_bind (wpAny_of_eq (PySem.F.newCall_set_1 a) (wpAny_pure ⟨plainId_quiet PySem.F.plain_set_new _, codeAny_builtin PySem.F.entry_set_new ?_⟩))
  rw [Around.under_plainId PySem.F.plain_set_new _]
  unfold Builtin.«set.__new__» Builtin.Frozenset.newClass
  have hsub := sub_set_self
  obtain ⟨hp, g, d, tk, os⟩ := s
  dsimp only
  wp_walk
  refine wpAny_askSetting (wpAny_pure ?_)
  dsimp only
  simp only [newObj]
  exact wpAny_bind (wpAny_alloc (wpAny_pure (wpAny_pure h)))
end
end Mine

open PySem PySem.W PyProof.Rows PySem.Calls PyProof.V PySem.Spec PySem.SeqAt
set_option Elab.async false
set_option linter.all false
set_option maxRecDepth 100000
set_option maxHeartbeats 4000000
namespace Mine
section
variable {prog : Program} {w : World} {A : Around} {E : Value → Shared → Prop} {s : Shared}
/-- set.__init__ with a list, upon a fresh set -/
theorem set_init {R : Result → Shared → Prop} {l S : Addr} {items : Array Value} {bs : List Nat} (hh : A.handled = none) (hl : s.heap.IsList l items) (hi : IntsAre items.toList (zints bs)) (h5 : ∀ x ∈ bs, x < 5)
    (hS : s.heap.get? S = some { cls := .type "set", dict := none, data := .set #[] 0 (.fresh 0 0 (ledOf w)) })
    (h : ∀ h' tk ks, ks ∈ subs → (∀ x, x ∈ ks ↔ x ∈ bs) → SetSt h' S (ledOf w) ks → (∀ b o, b ≠ S → s.heap.get? b = some o → h'.get? b = some o) → R (.ok (.ret .none)) { s with heap := h', toks := tk }) :
    wpAny (model prog w) A.in1 (Builtin.«set.__init__» ⟨[.ref S, .ref l], []⟩)
      (fun fin s' => match fin with | .done f => R (.ok f) s' | .again c' => c'.quiet = true ∧ codeAny (model prog w) A c' R s') (fun e s' => R (.error e) s') s := by
  obtain ⟨ol, hol, hcl, nl, hdl⟩ := id hl
  obtain ⟨ocls, odict, odata, oslots⟩ := ol
  simp only at hcl hdl
  subst hcl; subst hdl
  have hT : Shared.TypeIs s (.ref S) "set" := ⟨_, hS, rfl⟩
  have hsls := PySem.F.sub_list_set
  have hslf := PySem.F.sub_list_frozenset
  have hne : (Value.type "list" == Value.type "dict") = false := by decide
  have hlS : l ≠ S := fun z => by
    rw [z, hS] at hol
    have e2 := congrArg Obj.cls (Option.some.inj hol)
    exact absurd (Value.type.inj e2) (by decide)
  obtain ⟨hp, g, dd, tk, os⟩ := s
  unfold Builtin.«set.__init__» noKeywords Builtin.Frozenset.updateFrom
  generalize hPI : pyIter = PI
  wp_walk
  subst hPI
  have hsz : items.size = bs.length := by have := hi.length; simpa [zints] using this
  have hh3 : A.in1.in1.handled = none := hh
  have nI : ∀ b o, hp.get? b = some o → b ≠ hp.objs.size := fun b o e => Nat.ne_of_lt (Heap.lt_size e)
  have hneI : l ≠ hp.objs.size := nI _ _ hol
  have hneS : S ≠ hp.objs.size := nI _ _ hS
  refine wpAny_pyIter_list hl ?_
  refine wpAny_bind (wpAny_runValue ?_)
  have hSf : S ∉ [hp.objs.size, l] := by
    simp only [List.mem_cons, List.not_mem_nil, or_false, not_or]
    exact ⟨hneS, Ne.symm hlS⟩
  refine set_loop ((Walks.list hh3 hp.objs.size l hneI items).toS) S hSf (fun i => bs.getD i 0) (fun i v hv => ?_) (ledOf w) (items.size - 0) 0 _ [] (by omega) (Nat.zero_le _) ⟨⟨_, Heap.get?_push_size _ rfl, rfl, rfl⟩, hl.push _⟩ nil_sub ⟨#[], 0, Heap.get?_push_of_some _ hS, rfl, .nil⟩ fun s' ks mv hin hmem hSt => ?_
  · have hv' : items.toList[i]? = some v := by rw [Array.getElem?_toList]; exact hv
    have hlt : i < bs.length := by
      have := (Array.getElem?_eq_some_iff.mp hv).1
      omega
    obtain ⟨t, ev⟩ := PyProof.Rows.IntsAre.int_at hi i v hv'
    have e1 : bs.getD i 0 = bs[i] := by simp [hlt]
    have e2 : (zints bs).getD i 0 = (bs[i] : Int) := by unfold zints; simp [hlt]
    rw [e1]
    exact ⟨h5 _ (List.getElem_mem hlt), t, by rw [ev, e2]⟩
  · obtain ⟨h', g', d', tk', os'⟩ := s'
    have eg : g' = g := mv.gens
    have ed : d' = dd := mv.drawn
    have eo : os' = os := mv.os
    subst eg; subst ed; subst eo
    refine wpAny_pure (wpAny_pure (h h' tk' ks hin (fun x => ?_) hSt fun b o hb e => ?_))
    · rw [hmem, hsz]
      constructor
      · rintro (z | ⟨j, _, hj, rfl⟩)
        · cases z
        · rw [show bs.getD j 0 = bs[j] from by simp [hj]]; exact List.getElem_mem hj
      · intro z
        obtain ⟨j, hj, e⟩ := List.mem_iff_getElem.mp z
        exact .inr ⟨j, Nat.zero_le _, hj, by rw [← e]; simp [hj]⟩
    · exact mv.heap b o (by simp only [List.mem_cons, List.not_mem_nil, or_false, not_or]; exact ⟨hb, nI b o e⟩) (Heap.get?_push_of_some _ e)
end
end Mine

open PySem PySem.W PyProof.Rows PySem.Calls PyProof.V PySem.Spec PySem.SeqAt
set_option Elab.async false
set_option linter.all false
set_option maxRecDepth 100000
set_option maxHeartbeats 4000000
namespace Mine
section
variable {prog : Program} {w : World} {A : Around} {E : Value → Shared → Prop} {s : Shared}
theorem set_call {l : Addr} {items : Array Value} {bs : List Nat} {Q : Value → Shared → Prop} (hh : A.handled = none) (hl : s.heap.IsList l items) (hi : IntsAre items.toList (zints bs)) (h5 : ∀ x ∈ bs, x < 5)
    (h : ∀ h' tk ks, ks ∈ subs → (∀ x, x ∈ ks ↔ x ∈ bs) → SetSt h' s.heap.objs.size (ledOf w) ks → (∀ b o, s.heap.get? b = some o → h'.get? b = some o) → Q (.ref s.heap.objs.size) { s with heap := h', toks := tk }) :
    wpAny (model prog w) A (call (.type "set") [.ref l]) Q E s := by
  obtain ⟨c, tl, hmro⟩ := PySem.F.called_set.mro
  have hmade := PySem.F.called_set.made
  have hsub := PySem.F.called_set.sub
  have h1 := PySem.F.called_set.notType
  have h2 := PySem.F.called_set.canCreate
  have hct := PySem.F.typeCall_set_1 (.ref l)
  refine wpAny_call (codeAny_of_tree ?_)
  show wpAny _ _ (callAny (.type "set") _) _ _ _
  refine wpAny_pure ⟨Code.quiet_builtin _ (by decide +kernel), codeAny_builtin PySem.F.entry_type_call ?_⟩
  rw [Around.under_plain (weight_type_call_type "set" [.ref l] []) rfl]
  repeat (any_goals (first | assumption | wp_step))
  refine codeAny_mono (set_new (.ref l) (E := E) (Q₁ := fun obj s₁ => obj = .ref s.heap.objs.size ∧ s₁ = { s with heap := s.heap.push { cls := .type "set", dict := none, data := .set #[] 0 (.fresh 0 0 (ledOf w)) } }) ⟨rfl, rfl⟩) fun r s₁ hr => ?_
  match r, hr with
  | .error e, hr => exact hr
  | .ok (.ret obj), hr =>
    obtain ⟨rfl, rfl⟩ := hr
    have hS : (s.heap.push { cls := .type "set", dict := none, data := .set #[] 0 (.fresh 0 0 (ledOf w)) }).get? s.heap.objs.size = some { cls := .type "set", dict := none, data := .set #[] 0 (.fresh 0 0 (ledOf w)) } := Heap.get?_push_size _ rfl
    have hT : Shared.TypeIs { s with heap := s.heap.push { cls := .type "set", dict := none, data := .set #[] 0 (.fresh 0 0 (ledOf w)) } } (.ref s.heap.objs.size) "set" := ⟨_, hS, rfl⟩
    have hli := PySem.F.called_set.init.lookup
    have hbi := PySem.F.called_set.init.bind (.ref s.heap.objs.size)
    repeat (any_goals (first | assumption | wp_step))
    refine codeAny_mono (codeAny_call_builtin (R := wants (fun r s₂ => r = .none ∧ Q (.ref s.heap.objs.size) s₂) E) PySem.F.called_set.init.plain PySem.F.entry_set_init (check_set_init_1 hT ?_)) fun r₂ s₂ hr₂ => ?_
    · refine set_init (A := A.in1) (s := { s with heap := s.heap.push { cls := .type "set", dict := none, data := .set #[] 0 (.fresh 0 0 (ledOf w)) } }) hh (hl.push _) hi h5 hS fun h' tk ks a1 a2 a3 a4 => ?_
      exact ⟨rfl, h h' tk ks a1 a2 a3 fun b o e => a4 b o (Nat.ne_of_lt (Heap.lt_size e)) (Heap.get?_push_of_some _ e)⟩
    · match r₂, hr₂ with
      | .error e, hr₂ => exact hr₂
      | .ok (.ret v), hr₂ =>
        obtain ⟨rfl, hq⟩ := hr₂
        repeat (any_goals (first | assumption | wp_step))
end
end Mine

open PySem PySem.W PyProof.Rows PySem.Calls PyProof.V PySem.Spec PySem.SeqAt
set_option Elab.async false
set_option linter.all false
set_option maxRecDepth 100000
set_option maxHeartbeats 4000000
namespace Mine
theorem si_next : Slot "set_iterator" "__next__" "set_iterator.__next__" :=
  .of (owner := "set_iterator") (n := "__next__") (by rw [typeLookup_type, builtinLookup_eq_fast]; kernel_rfl) (by decide +kernel) (by decide +kernel) (by decide +kernel)
    (by first | exact .inl (by decide +kernel) | exact .inr (by decide +kernel)) (by rw [isSubtype_type]; kernel_rfl)
theorem si_iter : Slot "set_iterator" "__iter__" "set_iterator.__iter__" :=
  .of (owner := "set_iterator") (n := "__iter__") (by rw [typeLookup_type, builtinLookup_eq_fast]; kernel_rfl) (by decide +kernel) (by decide +kernel) (by decide +kernel)
    (by first | exact .inl (by decide +kernel) | exact .inr (by decide +kernel)) (by rw [isSubtype_type]; kernel_rfl)
theorem se_next : entryFor table "set_iterator.__next__" = some Builtin.«set_iterator.__next__» := entryFor_of_tree (by kernel_rfl)
theorem se_iter : entryFor table "set_iterator.__iter__" = some Builtin.«dict_keyiterator.__iter__» :=
  entryFor_alias (id' := "dict_keyiterator.__iter__") (by kernel_rfl) (by first | rfl | decide +kernel | (unfold String.splitOn; simp +decide [String.splitOnAux])) (by decide +kernel) (by kernel_rfl)
theorem sx_iter : entryFor table "set.__iter__" = some Builtin.«frozenset.__iter__» :=
  entryFor_alias (id' := "frozenset.__iter__") (by kernel_rfl) (by first | rfl | decide +kernel | (unfold String.splitOn; simp +decide [String.splitOnAux])) (by decide +kernel) (by kernel_rfl)
theorem sa_next (a : Value) : argsOk "set_iterator.__next__" ⟨[a], []⟩ := by unfold argsOk; kernel_rfl
theorem sa_iter (a : Value) : argsOk "set_iterator.__iter__" ⟨[a], []⟩ := by unfold argsOk; kernel_rfl

def IsSetIter (h : Heap) (I a : Addr) (slot i n ep : Nat) : Prop := h.get? I = some { cls := .type "set_iterator", dict := none, data := .fields #[rawInt slot, rawInt i, .ref a, rawInt n, rawInt ep], slots := #[] }
def SetAt (h : Heap) (a : Addr) (led : Bool) (ks : List Nat) (es : Array (Int × Value)) (ep : Nat) : Prop := h.get? a = some { cls := .type "set", dict := none, data := .set es ep (tbl led ks), slots := #[] } ∧ es.size = ks.length ∧ ks ∈ subs
section
variable {prog : Program} {w : World} {A : Around} {E : Value → Shared → Prop} {s : Shared} {a I : Addr} {ks : List Nat} {es : Array (Int × Value)} {ep : Nat}
theorem SetAt.fits {h : Heap} {led : Bool} (S : SetAt h a led ks es ep) : (tbl led ks).fits es.size = true := by rw [S.2.1]; exact tbl_fits (sub_facts S.2.2).2.1
theorem set_iter {Q : Value → Shared → Prop} (S : SetAt s.heap a (ledOf w) ks es ep)
    (h : Q (.ref s.heap.objs.size) { s with heap := s.heap.push { cls := .type "set_iterator", data := .fields #[rawInt 0, rawInt 0, .ref a, rawInt ks.length, rawInt ep] } }) : wpAny (model prog w) A (pyIter (.ref a)) Q E s := by
  obtain ⟨ho, hsz, hin⟩ := id S
  have hf := S.fits
  have hT : s.TypeIs (.ref a) "set" := ⟨_, ho, rfl⟩
  refine wpAny_pyIter_slot hT PySem.F.slot_set_iter (wpAny_call_entry PySem.F.slot_set_iter hT sx_iter ?_ (PySem.F.args_set_iter_1 _))
  unfold Builtin.«frozenset.__iter__»
  refine wpAny_bind (wpAny_pure (a := a) ?_)
  show wpAny _ _ (Builtin.Frozenset.sizeOf a >>= _) _ _ s
  unfold Builtin.Frozenset.sizeOf setEntries
  refine wpAny_bind ?_
  have dn : ∀ {Q' : Bool → Shared → Prop}, Q' false s → wpAny (model prog w) A.in1 (setDrawn a) Q' E s := fun hq => by
    unfold setDrawn
    refine wpAny_bind (wpAny_setState_of ho rfl hf ?_)
    unfold setsByText
    refine wpAny_bind (wpAny_bind (wpAny_askSetting (wpAny_pure ?_)))
    have e : (tbl (ledOf w) ks).plain = true := rfl
    show wpAny _ _ (pure (!w.params.followText "set-order" && (!true && decide (es.size > 1)))) _ _ s
    rw [Bool.not_true, Bool.false_and, Bool.and_false]
    exact wpAny_pure hq
  refine wpAny_bind (wpAny_bind (wpAny_setState_of ho rfl hf (wpAny_pure (wpAny_pure ?_))))
  refine wpAny_bind (dn ?_)
  simp only [Bool.false_eq_true, if_false]
  refine wpAny_bind (wpAny_pure (wpAny_bind (wpAny_setEpoch_of ho rfl hf ?_)))
  refine wpAny_bind ?_
  unfold newFields
  refine wpAny_newObj_type (wpAny_pure ⟨_, rfl, "set_iterator", _, ⟨_, Heap.get?_push_size _ rfl, rfl⟩, si_next.lookup, ?_⟩)
  rw [hsz]
  exact h

/-- the order in which the set is gone through -/
noncomputable def ordOf (w : World) (a ep : Nat) (es : Array (Int × Value)) : Array (Int × Value) := if w.params.followText "set-order" then pickOrder (w.params.setOrder a ep) es else es
end
end Mine

open PySem PySem.W PyProof.Rows PySem.Calls PyProof.V PySem.Spec PySem.SeqAt
set_option Elab.async false
set_option linter.all false
set_option maxRecDepth 100000
set_option maxHeartbeats 4000000
namespace Mine
section
variable {prog : Program} {w : World} {A : Around} {E : Value → Shared → Prop} {s : Shared} {a I : Addr} {ks : List Nat} {es : Array (Int × Value)} {ep : Nat}
def slotOf (w : World) (ks : List Nat) (i : Nat) : Nat := if w.params.followText "set-order" then 0 else slotAt ks i
theorem erase_perm {α : Type} {l : List α} {i : Nat} (h : i < l.length) : (l[i] :: l.eraseIdx i).Perm l := by
  rw [List.eraseIdx_eq_take_drop_succ]
  have e : l = l.take i ++ l[i] :: l.drop (i + 1) := by
    rw [← List.drop_eq_getElem_cons h, List.take_append_drop]
  exact (List.perm_middle.symm).trans (by rw [← e])
theorem pick_go {α : Type} (next : Nat → Nat) : ∀ (fuel k : Nat) (left : List α) (out : Array α), left.length = fuel → (pickOrder.go next fuel k left out).toList.Perm (out.toList ++ left)
  | 0, k, left, out, h => by
    have : left = [] := List.eq_nil_of_length_eq_zero h
    subst this
    unfold pickOrder.go
    simp
  | fuel + 1, k, left, out, h => by
    have lt : next k % left.length < left.length := Nat.mod_lt _ (by omega)
    unfold pickOrder.go
    rw [List.getElem?_eq_getElem lt]
    dsimp only
    refine (pick_go next fuel (k + 1) _ _ (by rw [List.length_eraseIdx_of_lt lt]; omega)).trans ?_
    rw [Array.toList_push, List.append_assoc]
    exact List.Perm.append_left _ (erase_perm lt)
theorem ord_perm (es : Array (Int × Value)) : (ordOf w a ep es).toList.Perm es.toList := by
  unfold ordOf
  split
  · unfold pickOrder
    simpa using pick_go (w.params.setOrder a ep) es.size 0 es.toList #[] (by simp)
  · exact List.Perm.refl _
theorem ord_size (es : Array (Int × Value)) : (ordOf w a ep es).size = es.size := by
  have := (ord_perm (w := w) (a := a) (ep := ep) es).length_eq
  simpa using this
theorem set_nextN {i : Nat} {Q : Option (Value × Nat) → Shared → Prop} (S : SetAt s.heap a (ledOf w) ks es ep) (hi : i ≤ ks.length)
    (h1 : ∀ e, (ordOf w a ep es)[i]? = some e → Q (some (e.2, slotOf w ks (i + 1))) s) (h2 : i = ks.length → Q none s) : wpAny (model prog w) A (setNext a (slotOf w ks i) i ep) Q E s := by
  obtain ⟨hs, hsz, hin⟩ := id S
  have hf := S.fits
  unfold setNext
  refine wpAny_bind (wpAny_setState_of hs rfl hf ?_)
  dsimp only
  unfold setsByText
  refine wpAny_bind (wpAny_bind (wpAny_askSetting (wpAny_pure ?_)))
  show wpAny _ _ (if w.params.followText "set-order" = true then _ else _) _ _ s
  cases hb : w.params.followText "set-order" with
  | true =>
    simp only [if_true, bne_self_eq_false, Bool.false_eq_true, if_false]
    unfold setWalk
    refine wpAny_bind (wpAny_bind (wpAny_setState_of hs rfl hf ?_))
    dsimp only
    unfold setsByText
    refine wpAny_bind (wpAny_bind (wpAny_askSetting (wpAny_pure ?_)))
    show wpAny _ _ (if w.params.followText "set-order" = true then _ else _) _ _ s
    rw [hb]
    simp only [if_true]
    refine wpAny_bind (wpAny_askSetting (wpAny_pure (wpAny_pure ?_)))
    have eo : pickOrder (w.params.setOrder a ep) es = ordOf w a ep es := by unfold ordOf; rw [hb]; rfl
    show Q (((pickOrder (w.params.setOrder a ep) es)[i]?).map _) s
    rw [eo]
    cases he : (ordOf w a ep es)[i]? with
    | some e =>
      have := h1 e he
      have e2 : slotOf w ks i = slotOf w ks (i + 1) := by unfold slotOf; rw [hb]; rfl
      rw [← e2] at this
      exact this
    | none =>
      refine h2 ?_
      have := ord_size (w := w) (a := a) (ep := ep) es
      rw [Array.getElem?_eq_none_iff] at he
      omega
  | false =>
    simp only [Bool.false_eq_true, if_false]
    have hled : ledOf w = true := by show (!w.params.followText "set-order") = true; rw [hb]; rfl
    rw [hled]
    refine wpAny_ite_split (fun hab => absurd (show false = true from hab) Bool.false_ne_true) (fun _ => ?_)
    refine wpAny_bind (wpAny_pure (a := ()) ?_)
    have es1 : slotOf w ks i = slotAt ks i := by unfold slotOf; rw [hb]; rfl
    have hbel : SetTable.below (tbl true ks).place (slotOf w ks i) = i := by rw [es1]; exact walk_fact hin hi
    rw [hbel]
    have eo : ordOf w a ep es = es := by unfold ordOf; rw [hb]; rfl
    rcases Nat.lt_or_eq_of_le hi with lt | rfl
    · have g1 : es[i]? = some es[i] := Array.getElem?_eq_getElem (by omega)
      have g2 : (tbl true ks).place[i]? = some ks[i] := by show ks.toArray[i]? = _; simp [lt]
      rw [g1, g2]
      have e2 : slotOf w ks (i + 1) = ks[i] + 1 := by unfold slotOf; rw [hb]; simp [slotAt, lt]
      have := h1 es[i] (by rw [eo]; exact g1)
      rw [e2] at this
      exact wpAny_pure this
    · have g1 : es[ks.length]? = none := Array.getElem?_eq_none (by omega)
      rw [g1]
      exact wpAny_pure (h2 rfl)

theorem set_item {i : Nat} {Q : Option Value → Shared → Prop} (S : SetAt s.heap a (ledOf w) ks es ep) (it : IsSetIter s.heap I a (slotOf w ks i) i ks.length ep) (hi : i < ks.length) 
    (h : ∀ e h', (ordOf w a ep es)[i]? = some e → IsSetIter h' I a (slotOf w ks (i + 1)) (i + 1) ks.length ep → Heap.SameBut I s.heap h' → Q (some e.2) { s with heap := h' }) : wpAny (model prog w) A (pyNext (.ref I)) Q E s := by
  obtain ⟨hs, hsz, hin⟩ := id S
  have hf := S.fits
  have hT : s.TypeIs (.ref I) "set_iterator" := ⟨_, it, rfl⟩
  unfold pyNext
  refine wpAny_bind (wpAny_attempt (wpAny_callSpecial?_slot (name := Str.ofString "__next__") hT si_next (wpAny_call_entry si_next hT se_next ?_ (sa_next _))))
  unfold Builtin.«set_iterator.__next__»
  refine wpAny_bind (wpAny_pure (a := (Value.ref I, [])) ?_)
  refine wpAny_bind (wpAny_fieldsOf it rfl ?_)
  show wpAny _ _ (setEntries a >>= _) _ _ s
  unfold setEntries
  refine wpAny_bind (wpAny_bind (wpAny_setState_of hs rfl hf (wpAny_pure ?_)))
  dsimp only
  rw [hsz]
  simp only [bne_self_eq_false, Bool.false_eq_true, if_false]
  show wpAny _ _ (setNext a ((slotOf w ks i : Nat) : Int).toNat ((i : Nat) : Int).toNat ((ep : Nat) : Int).toNat >>= _) _ _ s
  rw [Int.toNat_natCast, Int.toNat_natCast, Int.toNat_natCast]
  refine wpAny_bind (set_nextN S (Nat.le_of_lt hi) (fun e he => ?_) fun z => absurd z (Nat.ne_of_lt hi))
  dsimp only
  refine wpAny_bind (wpAny_setField_rec it (by simp) fun h₁ i1 sb1 => ?_)
  refine wpAny_bind (wpAny_setField_rec (s := { s with heap := h₁ }) i1 (by simp) fun h₂ i2 sb2 => ?_)
  refine wpAny_pure ⟨_, rfl, wpAny_pure (h e h₂ he ?_ (sb1.trans sb2))⟩
  have e1 : ((i : Int) + 1) = ((i + 1 : Nat) : Int) := by push_cast; rfl
  unfold IsSetIter
  rw [i2, e1]
  rfl

theorem set_done {Q : Option Value → Shared → Prop} (hh : A.handled = none) (S : SetAt s.heap a (ledOf w) ks es ep) (it : IsSetIter s.heap I a (slotOf w ks ks.length) ks.length ks.length ep)
    (h : ∀ h', Heap.ExtBut I s.heap h' → Q none { s with heap := h' }) : wpAny (model prog w) A (pyNext (.ref I)) Q E s := by
  obtain ⟨hs, hsz, hin⟩ := id S
  have hf := S.fits
  have hT : s.TypeIs (.ref I) "set_iterator" := ⟨_, it, rfl⟩
  unfold pyNext
  refine wpAny_bind (wpAny_attempt (wpAny_callSpecial?_slot (name := Str.ofString "__next__") hT si_next (wpAny_call_entry si_next hT se_next ?_ (sa_next _))))
  unfold Builtin.«set_iterator.__next__»
  refine wpAny_bind (wpAny_pure (a := (Value.ref I, [])) ?_)
  refine wpAny_bind (wpAny_fieldsOf it rfl ?_)
  show wpAny _ _ (setEntries a >>= _) _ _ s
  unfold setEntries
  refine wpAny_bind (wpAny_bind (wpAny_setState_of hs rfl hf (wpAny_pure ?_)))
  dsimp only
  rw [hsz]
  simp only [bne_self_eq_false, Bool.false_eq_true, if_false]
  show wpAny _ _ (setNext a ((slotOf w ks ks.length : Nat) : Int).toNat ((ks.length : Nat) : Int).toNat ((ep : Nat) : Int).toNat >>= _) _ _ s
  rw [Int.toNat_natCast, Int.toNat_natCast, Int.toNat_natCast]
  refine wpAny_bind (set_nextN S (Nat.le_refl _) (fun e he => ?_) fun _ => ?_)
  · have := (Array.getElem?_eq_some_iff.mp he).1
    rw [ord_size, hsz] at this
    omega
  dsimp only
  refine wpAny_bind (wpAny_setField_rec it (by simp) fun h₁ i1 sb1 => ?_)
  show wpAny _ _ (newExc (.type "StopIteration") [] >>= _) _ _ _
  refine wpAny_bind ?_
  simp only [newExc, newTuple]
  refine wpAny_bind (wpAny_newObj_type ?_ (by size_fits))
  refine wpAny_bind (m := firstArgMember _ _) (wpAny_of_eq (a := Value.none) (by first | rfl | (simp only [firstArgMember]; rfl)) ?_)
  refine wpAny_newObj_type ?_ (by size_fits)
  simp only [raiseNew]
  refine wpAny_bind (wpAny_handled ?_)
  rw [show A.in1.handled = none from hh]
  refine wpAny_bind (wpAny_pure (wpAny_throw ?_))
  refine wpAny_bind (wpAny_isInstance (T := "StopIteration") (b := true) ⟨_, Heap.get?_push_size _ rfl, rfl⟩ isSubtype_stop ?_)
  exact wpAny_pure (h _ ((sb1.extBut.push _).push _))
end
end Mine

open PySem PySem.W PyProof.Rows PySem.Calls PyProof.V PySem.Spec PySem.SeqAt
set_option Elab.async false
set_option linter.all false
set_option maxRecDepth 100000
set_option maxHeartbeats 4000000
namespace Mine
def intOf : Value → Int
  | .int n _ => n
  | _ => 0
theorem intsOf_iff {vs : List Value} {ns : List Int} : IntsAre vs ns ↔ ns = vs.map intOf ∧ ∀ v ∈ vs, ∃ n t, v = .int n t := by
  constructor
  · intro h
    induction h with
    | nil => exact ⟨rfl, fun _ h => nomatch h⟩
    | cons n t r ih => exact ⟨by rw [List.map_cons, ← ih.1]; rfl, fun v hv => by
        rcases List.mem_cons.mp hv with rfl | hv
        · exact ⟨_, _, rfl⟩
        · exact ih.2 v hv⟩
  · rintro ⟨rfl, h⟩
    induction vs with
    | nil => exact .nil
    | cons v vs ih =>
      obtain ⟨n, t, rfl⟩ := h v (.head _)
      exact .cons _ _ (ih fun v hv => h v (.tail _ hv))
theorem ints_perm {vs vs' : List Value} {ns : List Int} (p : vs'.Perm vs) (h : IntsAre vs ns) : ∃ ns', IntsAre vs' ns' ∧ ns'.Perm ns := by
  obtain ⟨rfl, h2⟩ := intsOf_iff.mp h
  exact ⟨vs'.map intOf, intsOf_iff.mpr ⟨rfl, fun v hv => h2 v (p.mem_iff.mp hv)⟩, p.map _⟩
section
variable {prog : Program} {w : World} {A : Around} {E : Value → Shared → Prop} {s : Shared} {a I : Addr} {ks : List Nat} {es : Array (Int × Value)} {ep : Nat}
theorem hint_set {Q : Bool → Shared → Prop} {r : Addr} (hT : s.TypeIs (.ref r) "set") (h : Q false s) : wpAny (model prog w) A (Builtin.List.listLengthHint (.ref r)) Q E s := by
  unfold Builtin.List.listLengthHint
  refine wpAny_bind (wpAny_specialOf hT PySem.F.slot_set_len.lookup ?_)
  generalize hid : ("set.__len__" : String) = id0
  wp_delta
  rw [show splitId id0 = some ("set", "__len__") from by subst hid; decide +kernel]
  subst hid
  refine wpAny_bind (wpAny_isInstance (T := "set") (b := true) hT (by rw [isSubtype_type]; kernel_rfl) ?_)
  refine wpAny_ite_split (fun hab => absurd hab (by decide)) (fun _ => ?_)
  refine wpAny_ite_split (fun _ => ?_) (fun hab => absurd (by decide +kernel) hab)
  refine wpAny_bind (wpAny_typeOf hT ?_)
  exact wpAny_pure h
theorem IsSetIter.keep {h h' : Heap} {slot i n : Nat} (x : IsSetIter h I a slot i n ep) (k : ∀ o, h.get? I = some o → h'.get? I = some o) : IsSetIter h' I a slot i n ep := k _ x
theorem SetAt.keep {h h' : Heap} {led : Bool} (x : SetAt h a led ks es ep) (k : ∀ o, h.get? a = some o → h'.get? a = some o) : SetAt h' a led ks es ep := ⟨k _ x.1, x.2⟩
theorem slot_zero : slotOf w ks 0 = 0 := by unfold slotOf slotAt; split <;> rfl
theorem walk_set (hh : A.handled = none) (ne : a ≠ I) : Walks prog w A I [I, a] [I] ks.length (fun i v => ∃ e, (ordOf w a ep es)[i]? = some e ∧ v = e.2) (fun i h => IsSetIter h I a (slotOf w ks i) i ks.length ep ∧ SetAt h a (ledOf w) ks es ep) where
  sub := fun b hb => by simp at hb; simp [hb]
  frame := fun _ _ _ st hk => ⟨st.1.keep fun o e => hk I (by simp) o e, st.2.keep fun o e => hk a (by simp) o e⟩
  item := fun i s Q E hi st hQ => set_item st.2 st.1 hi fun e h' he hit sb => hQ e.2 h' s.toks ⟨e, he, rfl⟩ ⟨hit, st.2.keep fun o q => sb.extBut a o ne q⟩ fun b o hb q => sb.extBut b o (fun z => hb (by simp [z])) q
  done := fun s Q E st hQ => set_done hh st.2 st.1 fun h' xb => hQ h' s.toks fun b o hb q => xb b o (fun z => hb (by simp [z])) q
  self := fun i s Q E st hQ => by
    have hT : s.TypeIs (.ref I) "set_iterator" := ⟨_, st.1, rfl⟩
    refine wpAny_pyIter_slot hT si_iter (wpAny_call_entry si_iter hT se_iter ?_ (sa_iter _))
    show wpAny _ _ (ret (.ref I)) _ _ s
    exact wpAny_pure ⟨_, rfl, "set_iterator", _, hT, si_next.lookup, hQ⟩
theorem src_set : KdlSrc prog w "set" a a ks.length (fun i v => ∃ e, (ordOf w a ep es)[i]? = some e ∧ v = e.2) (fun h => SetAt h a (ledOf w) ks es ep) where
  type := fun s S => ⟨_, S.1, rfl⟩
  there := fun h S => ⟨Heap.lt_size S.1, Heap.lt_size S.1⟩
  keep := fun h h' S hk => S.keep fun o e => hk a (.inl rfl) o e
  notList := by decide
  notTuple := by decide
  hint := fun A E s Q S hq => hint_set ⟨_, S.1, rfl⟩ hq
  iter := fun A s hh S => ⟨_, _, (fun E Q hq => set_iter S hq), walk_set hh (Nat.ne_of_lt (Heap.lt_size S.1)), by
    refine ⟨?_, S.keep fun o e => Heap.get?_push_of_some _ e⟩
    rw [slot_zero]
    exact Heap.get?_push_size _ rfl⟩
end
section
variable {C : Cx} {d : Nat} {env : Env} {ρ : Fra} {σ : Store}
/-- `sorted(set(e))`, e a list of small ints -/
theorem Ew_sortedSet {fx gx : Str} {fp gp p1 p2 : Pos} {e : Expr} {Q : V → Store → Prop} (hf : EvF C env (.Name fx fp) (.builtin "sorted")) (hg : EvF C env (.Name gx gp) (.type "set"))
    (h : Ew C d env ρ VRel (eval e env) (fun v σ₁ => ∃ a bs T, v = .ref a ∧ σ₁ a = some (.list (vints bs)) ∧ bs.length ≤ 1000 ∧ (∀ x ∈ bs, x < 5) ∧ T.Pairwise (· < ·) ∧ (∀ x, x ∈ T ↔ x ∈ bs) ∧ ∀ D, σ₁ D = none → Q (.ref D) (σ₁.set D (.list (vints T)))) σ)
    (h1 : eval (.Call (.Name fx fp) [.Call (.Name gx gp) [e] [] p2] [] p1) env = (do callWith p1 (← eval (.Name fx fp) env) [] (backTo p1 (starEach [.Call (.Name gx gp) [e] [] p2] env)) (backToKw p1 (keywordEach [] env))) := by rfl)
    (h2 : eval (.Call (.Name gx gp) [e] [] p2) env = (do callWith p2 (← eval (.Name gx gp) env) [] (backTo p2 (starEach [e] env)) (backToKw p2 (keywordEach [] env))) := by rfl)
    (h3 : starEach [.Call (.Name gx gp) [e] [] p2] env = [(false, eval (.Call (.Name gx gp) [e] [] p2) env)] := by rfl) (h4 : starEach [e] env = [(false, eval e env)] := by rfl) :
    Ew C d env ρ VRel (eval (.Call (.Name fx fp) [.Call (.Name gx gp) [e] [] p2] [] p1) env) Q σ :=
  fun A E s Qc rm Rp F hq => by
    have hp1 : (backTo p1 (starEach [.Call (.Name gx gp) [e] [] p2] env)).any (·.1) = false := by rw [h3]; rfl
    have hp2 : (backTo p2 (starEach [e] env)).any (·.1) = false := by rw [h4]; rfl
    refine Call_ (hf ρ σ A E s _ Rp F (wp_callWith KeepOk.builtin hp1 ?_)) h1
    refine wpAny_items_cons ?_ (by rw [h3]; rfl)
    refine Call_ (hg ρ σ A E s _ Rp F (wp_callWith KeepOk.type hp2 ?_)) h2
    refine wpAny_items_cons ?_ (by rw [h4]; rfl)
    refine h A E s _ rm Rp F fun v σ₁ x h₁ k₁ q₁ R₁ r₁ s₁ => wpAny_items_nil ⟨R₁.kin, ?_⟩
    obtain ⟨a, bs, T, rfl, ha, hbl, h5, hTs, hTm, q⟩ := q₁
    have ex : x = .ref a := r₁
    subst ex
    obtain ⟨ws, l, rr⟩ := R₁.list ha
    have hi : IntsAre ws.toList (zints bs) := IntsOf (by rw [vints_eq]; exact rr)
    show wpAny _ _ (call (.type "set") [.ref a]) _ _ _
    refine set_call rm.hh l.isList hi h5 fun h₂ k₂ ks hin hmem S keep => wpAny_items_nil ?_
    obtain ⟨es, ep, ho, e1, e2⟩ := S
    obtain ⟨R₂, s₂⟩ := ext_of R₁ keep
    obtain ⟨gs, gl, _⟩ := sub_facts hin
    have SA : SetAt h₂ h₁.objs.size (ledOf C.w) ks es ep := ⟨ho, es_size e1, hin⟩
    have hT : ks = T := sorted_eq gs hTs fun x => (hmem x).trans (hTm x).symm
    subst hT
    refine ⟨R₂.kin, ?_⟩
    show wpAny _ _ (call (.builtin "sorted") [.ref h₁.objs.size]) _ _ _
    have items : ∀ acc : Array Value, ItemsOf (fun i v => ∃ e, (ordOf C.w h₁.objs.size ep es)[i]? = some e ∧ v = e.2) acc ks.length → ∃ ns, IntsAre acc.toList ns ∧ ns.Perm (zints ks) := fun acc hit => by
      have eacc : acc.toList = (ordOf C.w h₁.objs.size ep es).toList.map (·.2) := by
        apply List.ext_getElem?
        intro j
        rw [List.getElem?_map, Array.getElem?_toList, Array.getElem?_toList]
        cases q : acc[j]? with
        | some v =>
          obtain ⟨e, h1, rfl⟩ := hit.2 j v q
          rw [h1]; rfl
        | none =>
          have h1 := hit.1
          rw [Array.getElem?_eq_none_iff] at q
          have h2 : (ordOf C.w h₁.objs.size ep es)[j]? = none := Array.getElem?_eq_none (by rw [ord_size, es_size e1]; omega)
          rw [h2]; rfl
      rw [eacc]
      exact ints_perm ((ord_perm es).map _) e2
    refine wp_sorted (K := src_set) rm.hh SA (by omega) R₂ (fun acc hit => let ⟨ns, a, _⟩ := items acc hit; ⟨ns, a⟩) fun h₃ k₃ acc ns out ns₂ b hit hia hio p2 s2 f1 f2 f3 hk hpl => ?_
    obtain ⟨ns', i1, i2⟩ := items acc hit
    have en : ns = ns' := ints_unique hia i1
    subst en
    have e3 : ns₂ = zints ks := sorted_unique (p2.trans i2) s2 (ints_sorted gs)
    subst e3
    obtain ⟨R₃, s₃, n₃⟩ := R₂.alloc (o := .list (vints ks)) f1 f2 f3 hk ⟨_, hpl, by rw [← vints_eq]; exact ofInts hio⟩
    exact hq _ _ _ _ _ (q _ n₃) R₃ rfl ((s₁.trans s₂).trans s₃)
end
end Mine

open PySem PySem.W PyProof.Rows
set_option Elab.async false
set_option linter.all false
set_option maxRecDepth 100000
set_option maxHeartbeats 4000000
namespace Mine
abbrev PW : Program := PySem.Challenge.pw_qz0005_02
noncomputable def stA (i : Nat) : Stmt := (PW.main.body[i]?).getD (.Pass ⟨0, 0, 0, 0⟩)
noncomputable def inC (s : Stmt) (i : Nat) : Stmt := match s with
  | .ClassDef _ _ _ b .. => (b[i]?).getD (.Pass ⟨0, 0, 0, 0⟩)
  | s => s
noncomputable def fnP (s : Stmt) : Arguments := match s with
  | .FunctionDef _ a .. => a
  | _ => ⟨[], [], none, [], [], none, []⟩
noncomputable def fnB (s : Stmt) : FuncBody := match s with
  | .FunctionDef _ _ b .. => .stmts b
  | _ => .stmts []
noncomputable def fnS (s : Stmt) : Scope := match s with
  | .FunctionDef _ _ _ _ _ _ s .. => s
  | _ => ⟨.function, [], false, false, []⟩
noncomputable def ho43 (P : Params) : Obj := Obj.mk (Value.type "tuple") none (Data.seq #[] 0) #[]
noncomputable def ho44 (P : Params) : Obj := Obj.mk Value.none none (Data.fields #[]) #[]
noncomputable def ho45 (P : Params) : Obj := Obj.mk (Value.type "code") none (Data.fields #[Value.str (Str.ofString "<module>") 182, Value.str (Str.ofString "<module>") 183, Value.str (Str.ofString "/claim/cut.py") 184, Value.int 1 0, Value.int 0 0, Value.int 0 0, Value.int 0 0, Value.int 0 0, Value.ref 11, Value.bool Bool.false, Value.int 181 0, Value.ref 12, Value.none, Value.none, Value.none, Value.none, Value.int 185 0, Value.int 1 0, Value.str (Str.ofString "/claim/cut.py") 186]) #[]
noncomputable def ho46 (P : Params) : Obj := Obj.mk (Value.type "frame") none Data.plain #[some (Value.ref 13), some (Value.ref 3), some (Value.ref 3), none, some (Value.str (Str.ofString "__main__") 164), none, some (Value.ref 0)]
noncomputable def ho49 (P : Params) : Obj := Obj.mk Value.none none (Data.dict #[DictEntry.mk (PyData.keyHash P (Str.ofString "type.__subclasses__.Exception.0")) (Value.str (Str.ofString "type.__subclasses__.Exception.0") 230) (Value.int 47 0), DictEntry.mk (PyData.keyHash P (Str.ofString "type.__subclasses__.Exception.n")) (Value.str (Str.ofString "type.__subclasses__.Exception.n") 231) (Value.int 1 0)] 2) #[]
noncomputable def ho50 (P : Params) : Obj := Obj.mk (Value.type "dict") none (Data.dict #[DictEntry.mk (PyData.keyHash P (Str.ofString "__name__")) (Value.str (Str.ofString "__name__") 165) (Value.str (Str.ofString "minismt.errors") 194), DictEntry.mk (PyData.keyHash P (Str.ofString "__doc__")) (Value.str (Str.ofString "__doc__") 166) Value.none, DictEntry.mk (PyData.keyHash P (Str.ofString "__package__")) (Value.str (Str.ofString "__package__") 167) Value.none, DictEntry.mk (PyData.keyHash P (Str.ofString "__loader__")) (Value.str (Str.ofString "__loader__") 168) (Value.builtin "__main__.__loader__#opaque"), DictEntry.mk (PyData.keyHash P (Str.ofString "__spec__")) (Value.str (Str.ofString "__spec__") 169) Value.none, DictEntry.mk (PyData.keyHash P (Str.ofString "__annotations__")) (Value.str (Str.ofString "__annotations__") 170) (Value.ref 6), DictEntry.mk (PyData.keyHash P (Str.ofString "__builtins__")) (Value.str (Str.ofString "__builtins__") 171) (Value.ref 4), DictEntry.mk (PyData.keyHash P (Str.ofString "__file__")) (Value.str (Str.ofString "__file__") 173) (Value.str (Str.ofString "/claim/cut.py") 172), DictEntry.mk (PyData.keyHash P (Str.ofString "__cached__")) (Value.str (Str.ofString "__cached__") 174) Value.none, DictEntry.mk (PyData.keyHash P (Str.ofString "_wall")) (Value.str (Str.ofString "_wall") 193) (Value.ref 21), DictEntry.mk (PyData.keyHash P (Str.ofString "SmtError")) (Value.str (Str.ofString "SmtError") 233) (Value.ref 47)] 11) #[]
noncomputable def ho51 (P : Params) : Obj := Obj.mk Value.none none (Data.fields #[Value.int 1 0, Value.int 0 0, Value.ref 20, Value.int 5 0, Value.int 0 0, Value.ref 28]) #[]
noncomputable def ho52 (P : Params) : Obj := Obj.mk (Value.type "tuple") none (Data.seq #[] 0) #[]
noncomputable def ho53 (P : Params) : Obj := Obj.mk Value.none none (Data.fields #[]) #[]
noncomputable def ho54 (P : Params) : Obj := Obj.mk (Value.type "tuple") none (Data.seq #[Value.str (Str.ofString "k") 190] 0) #[]
noncomputable def ho55 (P : Params) : Obj := Obj.mk (Value.type "tuple") none (Data.seq #[] 0) #[]
noncomputable def ho56 (P : Params) : Obj := Obj.mk Value.none none (Data.func (FuncData.mk (Str.ofString "_wall") (Str.ofString "_wall") (fnP (stA 0)) (fnB (stA 0)) (fnS (stA 0)) 0 [] Value.none Value.none Value.none Value.none none Value.none Value.none 0)) #[]
noncomputable def ho57 (P : Params) : Obj := Obj.mk (Value.type "code") none (Data.fields #[Value.str (Str.ofString "_wall") 187, Value.str (Str.ofString "_wall") 188, Value.str (Str.ofString "/claim/cut.py") 189, Value.int 1 0, Value.int 1 0, Value.int 0 0, Value.int 0 0, Value.int 3 0, Value.ref 15, Value.bool Bool.true, Value.int 181 0, Value.ref 16, Value.none, Value.ref 17, Value.ref 18, Value.ref 19, Value.int 191 0, Value.int 1 0, Value.str (Str.ofString "/claim/cut.py") 192]) #[]
noncomputable def ho58 (P : Params) : Obj := Obj.mk (Value.type "function") none (Data.func (FuncData.mk (Str.ofString "_wall") (Str.ofString "_wall") (fnP (stA 0)) (fnB (stA 0)) (fnS (stA 0)) 3 [] Value.none Value.none Value.none (Value.str (Str.ofString "__main__") 164) none (Value.ref 20) Value.none 0)) #[]
noncomputable def ho59 (P : Params) : Obj := Obj.mk (Value.type "tuple") none (Data.seq #[Value.type "Exception"] 0) #[]
noncomputable def ho60 (P : Params) : Obj := Obj.mk (Value.type "builtin_function_or_method") none (Data.fields #[Value.builtin "type.__prepare__", Value.type "type"]) #[]
noncomputable def ho61 (P : Params) : Obj := Obj.mk (Value.type "dict") none (Data.dict #[DictEntry.mk (PyData.keyHash P (Str.ofString "__module__")) (Value.str (Str.ofString "__module__") 203) (Value.str (Str.ofString "minismt.errors") 194), DictEntry.mk (PyData.keyHash P (Str.ofString "__qualname__")) (Value.str (Str.ofString "__qualname__") 205) (Value.str (Str.ofString "SmtError") 204), DictEntry.mk (PyData.keyHash P (Str.ofString "__firstlineno__")) (Value.str (Str.ofString "__firstlineno__") 207) (Value.int 5 206), DictEntry.mk (PyData.keyHash P (Str.ofString "__init__")) (Value.str (Str.ofString "__init__") 216) (Value.ref 37), DictEntry.mk (PyData.keyHash P (Str.ofString "told")) (Value.str (Str.ofString "told") 223) (Value.ref 44), DictEntry.mk (PyData.keyHash P (Str.ofString "__static_attributes__")) (Value.str (Str.ofString "__static_attributes__") 225) (Value.ref 45), DictEntry.mk (PyData.keyHash P (Str.ofString "__classcell__")) (Value.str (Str.ofString "__classcell__") 226) (Value.ref 25)] 7) #[]
noncomputable def ho62 (P : Params) : Obj := Obj.mk (Value.type "cell") none (Data.cell (some (Value.ref 47))) #[]
noncomputable def ho63 (P : Params) : Obj := Obj.mk (Value.type "tuple") none (Data.seq #[] 0) #[]
noncomputable def ho64 (P : Params) : Obj := Obj.mk Value.none none (Data.fields #[Value.int 7 0, Value.int 4 0, Value.ref 36, Value.int 11 0, Value.int 4 0, Value.ref 43]) #[]
noncomputable def ho65 (P : Params) : Obj := Obj.mk (Value.type "code") none (Data.fields #[Value.str (Str.ofString "SmtError") 198, Value.str (Str.ofString "SmtError") 199, Value.str (Str.ofString "/claim/cut.py") 200, Value.int 5 0, Value.int 0 0, Value.int 0 0, Value.int 0 0, Value.int 0 0, Value.ref 26, Value.bool Bool.false, Value.int 181 0, Value.ref 27, Value.none, Value.none, Value.none, Value.none, Value.int 201 0, Value.int 5 0, Value.str (Str.ofString "/claim/cut.py") 202]) #[]
noncomputable def ho66 (P : Params) : Obj := Obj.mk (Value.type "frame") none Data.plain #[some (Value.ref 28), some (Value.ref 3), some (Value.ref 24), none, some (Value.str (Str.ofString "minismt.errors") 194), none, some (Value.ref 0)]
noncomputable def ho67 (P : Params) : Obj := Obj.mk (Value.type "tuple") none (Data.seq #[Value.ref 25] 0) #[]
noncomputable def ho68 (P : Params) : Obj := Obj.mk (Value.type "tuple") none (Data.seq #[Value.str (Str.ofString "__class__") 211] 0) #[]
noncomputable def ho69 (P : Params) : Obj := Obj.mk Value.none none (Data.fields #[]) #[]
noncomputable def ho70 (P : Params) : Obj := Obj.mk (Value.type "tuple") none (Data.seq #[Value.str (Str.ofString "self") 212, Value.str (Str.ofString "what") 213] 0) #[]
noncomputable def ho71 (P : Params) : Obj := Obj.mk (Value.type "tuple") none (Data.seq #[] 0) #[]
noncomputable def ho72 (P : Params) : Obj := Obj.mk Value.none none (Data.func (FuncData.mk (Str.ofString "__init__") (Str.ofString "SmtError.__init__") (fnP (inC (stA 2) 0)) (fnB (inC (stA 2) 0)) (fnS (inC (stA 2) 0)) 0 [] Value.none Value.none Value.none Value.none none Value.none Value.none 0)) #[]
noncomputable def ho73 (P : Params) : Obj := Obj.mk (Value.type "code") none (Data.fields #[Value.str (Str.ofString "__init__") 208, Value.str (Str.ofString "SmtError.__init__") 209, Value.str (Str.ofString "/claim/cut.py") 210, Value.int 7 0, Value.int 2 0, Value.int 0 0, Value.int 0 0, Value.int 3 0, Value.ref 31, Value.bool Bool.true, Value.int 181 0, Value.ref 32, Value.none, Value.ref 33, Value.ref 34, Value.ref 35, Value.int 214 0, Value.int 7 0, Value.str (Str.ofString "/claim/cut.py") 215]) #[]
noncomputable def ho74 (P : Params) : Obj := Obj.mk (Value.type "function") none (Data.func (FuncData.mk (Str.ofString "__init__") (Str.ofString "SmtError.__init__") (fnP (inC (stA 2) 0)) (fnB (inC (stA 2) 0)) (fnS (inC (stA 2) 0)) 3 [(Str.ofString "__class__", 25)] Value.none Value.none Value.none (Value.str (Str.ofString "minismt.errors") 194) none (Value.ref 36) (Value.ref 30) 0)) #[]
noncomputable def ho75 (P : Params) : Obj := Obj.mk (Value.type "tuple") none (Data.seq #[] 0) #[]
noncomputable def ho76 (P : Params) : Obj := Obj.mk Value.none none (Data.fields #[]) #[]
noncomputable def ho77 (P : Params) : Obj := Obj.mk (Value.type "tuple") none (Data.seq #[Value.str (Str.ofString "self") 220] 0) #[]
noncomputable def ho78 (P : Params) : Obj := Obj.mk (Value.type "tuple") none (Data.seq #[] 0) #[]
noncomputable def ho79 (P : Params) : Obj := Obj.mk Value.none none (Data.func (FuncData.mk (Str.ofString "told") (Str.ofString "SmtError.told") (fnP (inC (stA 2) 1)) (fnB (inC (stA 2) 1)) (fnS (inC (stA 2) 1)) 0 [] Value.none Value.none Value.none Value.none none Value.none Value.none 0)) #[]
noncomputable def ho80 (P : Params) : Obj := Obj.mk (Value.type "code") none (Data.fields #[Value.str (Str.ofString "told") 217, Value.str (Str.ofString "SmtError.told") 218, Value.str (Str.ofString "/claim/cut.py") 219, Value.int 11 0, Value.int 1 0, Value.int 0 0, Value.int 0 0, Value.int 3 0, Value.ref 38, Value.bool Bool.true, Value.int 181 0, Value.ref 39, Value.none, Value.ref 40, Value.ref 41, Value.ref 42, Value.int 221 0, Value.int 11 0, Value.str (Str.ofString "/claim/cut.py") 222]) #[]
noncomputable def ho81 (P : Params) : Obj := Obj.mk (Value.type "function") none (Data.func (FuncData.mk (Str.ofString "told") (Str.ofString "SmtError.told") (fnP (inC (stA 2) 1)) (fnB (inC (stA 2) 1)) (fnS (inC (stA 2) 1)) 3 [] Value.none Value.none Value.none (Value.str (Str.ofString "minismt.errors") 194) none (Value.ref 43) Value.none 0)) #[]
noncomputable def ho82 (P : Params) : Obj := Obj.mk (Value.type "tuple") none (Data.seq #[Value.str (Str.ofString "what") 224] 0) #[]
noncomputable def ho83 (P : Params) : Obj := Obj.mk (Value.type "dict") none (Data.dict #[DictEntry.mk (PyData.keyHash P (Str.ofString "__module__")) (Value.str (Str.ofString "__module__") 203) (Value.str (Str.ofString "minismt.errors") 194), DictEntry.mk (PyData.keyHash P (Str.ofString "__firstlineno__")) (Value.str (Str.ofString "__firstlineno__") 207) (Value.int 5 206), DictEntry.mk (PyData.keyHash P (Str.ofString "__init__")) (Value.str (Str.ofString "__init__") 216) (Value.ref 37), DictEntry.mk (PyData.keyHash P (Str.ofString "told")) (Value.str (Str.ofString "told") 223) (Value.ref 44), DictEntry.mk (PyData.keyHash P (Str.ofString "__static_attributes__")) (Value.str (Str.ofString "__static_attributes__") 225) (Value.ref 45), DictEntry.mk (PyData.keyHash P (Str.ofString "__weakref__")) (Value.str (Str.ofString "__weakref__") 228) (Value.ref 48), DictEntry.mk (PyData.keyHash P (Str.ofString "__doc__")) (Value.str (Str.ofString "__doc__") 229) Value.none] 4) #[]
noncomputable def ho84 (P : Params) : Obj := Obj.mk (Value.type "type") none (Data.cls (ClassData.mk (Str.ofString "SmtError") [Value.type "Exception"] [Value.ref 47, Value.type "Exception", Value.type "BaseException", Value.type "object"] 46 (Str.ofString "SmtError") Bool.true [] [] Bool.false none Bool.false)) #[some (Value.ref 22), none, some (Value.str (Str.ofString "SmtError") 196), some (Value.str (Str.ofString "SmtError") 204), some (Value.builtin "Exception.__new__"), some (Value.bool Bool.true)]
noncomputable def ho85 (P : Params) : Obj := Obj.mk (Value.type "getset_descriptor") none (Data.fields #[Value.str (Str.ofString "__weakref__") 227, Value.ref 47, Value.builtin "ExceptionGroup.__weakref__", Value.none]) #[]
noncomputable def ho86 (P : Params) : Obj := Obj.mk (Value.type "super") none (Data.fields #[Value.ref 47, Value.ref 47, Value.ref 47]) #[]
noncomputable def ho87 (P : Params) : Obj := Obj.mk (Value.type "builtin_function_or_method") none (Data.fields #[Value.builtin "object.__init_subclass__", Value.ref 47]) #[]
noncomputable def ho88 (P : Params) : Obj := Obj.mk (Value.type "dict") none (Data.dict #[DictEntry.mk (PyData.keyHash P (Str.ofString "__name__")) (Value.str (Str.ofString "__name__") 165) (Value.str (Str.ofString "minismt.proof") 269), DictEntry.mk (PyData.keyHash P (Str.ofString "__doc__")) (Value.str (Str.ofString "__doc__") 166) Value.none, DictEntry.mk (PyData.keyHash P (Str.ofString "__package__")) (Value.str (Str.ofString "__package__") 167) Value.none, DictEntry.mk (PyData.keyHash P (Str.ofString "__loader__")) (Value.str (Str.ofString "__loader__") 168) (Value.builtin "__main__.__loader__#opaque"), DictEntry.mk (PyData.keyHash P (Str.ofString "__spec__")) (Value.str (Str.ofString "__spec__") 169) Value.none, DictEntry.mk (PyData.keyHash P (Str.ofString "__annotations__")) (Value.str (Str.ofString "__annotations__") 170) (Value.ref 6), DictEntry.mk (PyData.keyHash P (Str.ofString "__builtins__")) (Value.str (Str.ofString "__builtins__") 171) (Value.ref 4), DictEntry.mk (PyData.keyHash P (Str.ofString "__file__")) (Value.str (Str.ofString "__file__") 173) (Value.str (Str.ofString "/claim/cut.py") 172), DictEntry.mk (PyData.keyHash P (Str.ofString "__cached__")) (Value.str (Str.ofString "__cached__") 174) Value.none, DictEntry.mk (PyData.keyHash P (Str.ofString "_wall")) (Value.str (Str.ofString "_wall") 193) (Value.ref 21), DictEntry.mk (PyData.keyHash P (Str.ofString "SmtError")) (Value.str (Str.ofString "SmtError") 233) (Value.ref 47), DictEntry.mk (PyData.keyHash P (Str.ofString "ProofFault")) (Value.str (Str.ofString "ProofFault") 268) (Value.ref 76), DictEntry.mk (PyData.keyHash P (Str.ofString "RULES")) (Value.str (Str.ofString "RULES") 282) (Value.ref 79), DictEntry.mk (PyData.keyHash P (Str.ofString "is_tidy")) (Value.str (Str.ofString "is_tidy") 290) (Value.ref 86)] 14) #[]
noncomputable def ho89 (P : Params) : Obj := Obj.mk Value.none none (Data.fields #[Value.int 1 0, Value.int 0 0, Value.ref 20, Value.int 5 0, Value.int 0 0, Value.ref 28, Value.int 13 0, Value.int 0 0, Value.ref 57, Value.int 23 0, Value.int 0 0, Value.ref 85]) #[]
noncomputable def ho90 (P : Params) : Obj := Obj.mk (Value.type "type") none (Data.cls (ClassData.mk (Str.ofString "SmtError") [Value.type "Exception"] [Value.ref 47, Value.type "Exception", Value.type "BaseException", Value.type "object"] 46 (Str.ofString "SmtError") Bool.true [] [Value.ref 76] Bool.false none Bool.false)) #[some (Value.ref 22), none, some (Value.str (Str.ofString "SmtError") 196), some (Value.str (Str.ofString "SmtError") 204), some (Value.builtin "Exception.__new__"), some (Value.bool Bool.true)]
noncomputable def ho91 (P : Params) : Obj := Obj.mk (Value.type "tuple") none (Data.seq #[Value.ref 47] 0) #[]
noncomputable def ho92 (P : Params) : Obj := Obj.mk (Value.type "builtin_function_or_method") none (Data.fields #[Value.builtin "type.__prepare__", Value.type "type"]) #[]
noncomputable def ho93 (P : Params) : Obj := Obj.mk (Value.type "dict") none (Data.dict #[DictEntry.mk (PyData.keyHash P (Str.ofString "__module__")) (Value.str (Str.ofString "__module__") 241) (Value.str (Str.ofString "minismt.errors") 194), DictEntry.mk (PyData.keyHash P (Str.ofString "__qualname__")) (Value.str (Str.ofString "__qualname__") 243) (Value.str (Str.ofString "ProofFault") 242), DictEntry.mk (PyData.keyHash P (Str.ofString "__firstlineno__")) (Value.str (Str.ofString "__firstlineno__") 245) (Value.int 13 244), DictEntry.mk (PyData.keyHash P (Str.ofString "__init__")) (Value.str (Str.ofString "__init__") 255) (Value.ref 66), DictEntry.mk (PyData.keyHash P (Str.ofString "told")) (Value.str (Str.ofString "told") 262) (Value.ref 73), DictEntry.mk (PyData.keyHash P (Str.ofString "__static_attributes__")) (Value.str (Str.ofString "__static_attributes__") 264) (Value.ref 74), DictEntry.mk (PyData.keyHash P (Str.ofString "__classcell__")) (Value.str (Str.ofString "__classcell__") 265) (Value.ref 54)] 7) #[]
noncomputable def ho94 (P : Params) : Obj := Obj.mk (Value.type "cell") none (Data.cell (some (Value.ref 76))) #[]
noncomputable def ho95 (P : Params) : Obj := Obj.mk (Value.type "tuple") none (Data.seq #[] 0) #[]
noncomputable def ho96 (P : Params) : Obj := Obj.mk Value.none none (Data.fields #[Value.int 15 0, Value.int 4 0, Value.ref 65, Value.int 19 0, Value.int 4 0, Value.ref 72]) #[]
noncomputable def ho97 (P : Params) : Obj := Obj.mk (Value.type "code") none (Data.fields #[Value.str (Str.ofString "ProofFault") 236, Value.str (Str.ofString "ProofFault") 237, Value.str (Str.ofString "/claim/cut.py") 238, Value.int 13 0, Value.int 0 0, Value.int 0 0, Value.int 0 0, Value.int 0 0, Value.ref 55, Value.bool Bool.false, Value.int 181 0, Value.ref 56, Value.none, Value.none, Value.none, Value.none, Value.int 239 0, Value.int 13 0, Value.str (Str.ofString "/claim/cut.py") 240]) #[]
noncomputable def ho98 (P : Params) : Obj := Obj.mk (Value.type "frame") none Data.plain #[some (Value.ref 57), some (Value.ref 3), some (Value.ref 53), none, some (Value.str (Str.ofString "minismt.errors") 194), none, some (Value.ref 0)]
noncomputable def ho99 (P : Params) : Obj := Obj.mk (Value.type "tuple") none (Data.seq #[Value.ref 54] 0) #[]
noncomputable def ho100 (P : Params) : Obj := Obj.mk (Value.type "tuple") none (Data.seq #[Value.str (Str.ofString "__class__") 249] 0) #[]
noncomputable def ho101 (P : Params) : Obj := Obj.mk Value.none none (Data.fields #[]) #[]
noncomputable def ho102 (P : Params) : Obj := Obj.mk (Value.type "tuple") none (Data.seq #[Value.str (Str.ofString "self") 250, Value.str (Str.ofString "what") 251, Value.str (Str.ofString "step") 252] 0) #[]
noncomputable def ho103 (P : Params) : Obj := Obj.mk (Value.type "tuple") none (Data.seq #[] 0) #[]
noncomputable def ho104 (P : Params) : Obj := Obj.mk Value.none none (Data.func (FuncData.mk (Str.ofString "__init__") (Str.ofString "ProofFault.__init__") (fnP (inC (stA 3) 0)) (fnB (inC (stA 3) 0)) (fnS (inC (stA 3) 0)) 0 [] Value.none Value.none Value.none Value.none none Value.none Value.none 0)) #[]
noncomputable def ho105 (P : Params) : Obj := Obj.mk (Value.type "code") none (Data.fields #[Value.str (Str.ofString "__init__") 246, Value.str (Str.ofString "ProofFault.__init__") 247, Value.str (Str.ofString "/claim/cut.py") 248, Value.int 15 0, Value.int 3 0, Value.int 0 0, Value.int 0 0, Value.int 3 0, Value.ref 60, Value.bool Bool.true, Value.int 181 0, Value.ref 61, Value.none, Value.ref 62, Value.ref 63, Value.ref 64, Value.int 253 0, Value.int 15 0, Value.str (Str.ofString "/claim/cut.py") 254]) #[]
noncomputable def ho106 (P : Params) : Obj := Obj.mk (Value.type "function") none (Data.func (FuncData.mk (Str.ofString "__init__") (Str.ofString "ProofFault.__init__") (fnP (inC (stA 3) 0)) (fnB (inC (stA 3) 0)) (fnS (inC (stA 3) 0)) 3 [(Str.ofString "__class__", 54)] Value.none Value.none Value.none (Value.str (Str.ofString "minismt.errors") 194) none (Value.ref 65) (Value.ref 59) 0)) #[]
noncomputable def ho107 (P : Params) : Obj := Obj.mk (Value.type "tuple") none (Data.seq #[] 0) #[]
noncomputable def ho108 (P : Params) : Obj := Obj.mk Value.none none (Data.fields #[]) #[]
noncomputable def ho109 (P : Params) : Obj := Obj.mk (Value.type "tuple") none (Data.seq #[Value.str (Str.ofString "self") 259] 0) #[]
noncomputable def ho110 (P : Params) : Obj := Obj.mk (Value.type "tuple") none (Data.seq #[] 0) #[]
noncomputable def ho111 (P : Params) : Obj := Obj.mk Value.none none (Data.func (FuncData.mk (Str.ofString "told") (Str.ofString "ProofFault.told") (fnP (inC (stA 3) 1)) (fnB (inC (stA 3) 1)) (fnS (inC (stA 3) 1)) 0 [] Value.none Value.none Value.none Value.none none Value.none Value.none 0)) #[]
noncomputable def ho112 (P : Params) : Obj := Obj.mk (Value.type "code") none (Data.fields #[Value.str (Str.ofString "told") 256, Value.str (Str.ofString "ProofFault.told") 257, Value.str (Str.ofString "/claim/cut.py") 258, Value.int 19 0, Value.int 1 0, Value.int 0 0, Value.int 0 0, Value.int 3 0, Value.ref 67, Value.bool Bool.true, Value.int 181 0, Value.ref 68, Value.none, Value.ref 69, Value.ref 70, Value.ref 71, Value.int 260 0, Value.int 19 0, Value.str (Str.ofString "/claim/cut.py") 261]) #[]
noncomputable def ho113 (P : Params) : Obj := Obj.mk (Value.type "function") none (Data.func (FuncData.mk (Str.ofString "told") (Str.ofString "ProofFault.told") (fnP (inC (stA 3) 1)) (fnB (inC (stA 3) 1)) (fnS (inC (stA 3) 1)) 3 [] Value.none Value.none Value.none (Value.str (Str.ofString "minismt.errors") 194) none (Value.ref 72) Value.none 0)) #[]
noncomputable def ho114 (P : Params) : Obj := Obj.mk (Value.type "tuple") none (Data.seq #[Value.str (Str.ofString "step") 263] 0) #[]
noncomputable def ho115 (P : Params) : Obj := Obj.mk (Value.type "dict") none (Data.dict #[DictEntry.mk (PyData.keyHash P (Str.ofString "__module__")) (Value.str (Str.ofString "__module__") 241) (Value.str (Str.ofString "minismt.errors") 194), DictEntry.mk (PyData.keyHash P (Str.ofString "__firstlineno__")) (Value.str (Str.ofString "__firstlineno__") 245) (Value.int 13 244), DictEntry.mk (PyData.keyHash P (Str.ofString "__init__")) (Value.str (Str.ofString "__init__") 255) (Value.ref 66), DictEntry.mk (PyData.keyHash P (Str.ofString "told")) (Value.str (Str.ofString "told") 262) (Value.ref 73), DictEntry.mk (PyData.keyHash P (Str.ofString "__static_attributes__")) (Value.str (Str.ofString "__static_attributes__") 264) (Value.ref 74), DictEntry.mk (PyData.keyHash P (Str.ofString "__doc__")) (Value.str (Str.ofString "__doc__") 266) Value.none] 3) #[]
noncomputable def ho116 (P : Params) : Obj := Obj.mk (Value.type "type") none (Data.cls (ClassData.mk (Str.ofString "ProofFault") [Value.ref 47] [Value.ref 76, Value.ref 47, Value.type "Exception", Value.type "BaseException", Value.type "object"] 75 (Str.ofString "ProofFault") Bool.true [] [] Bool.false none Bool.false)) #[some (Value.ref 51), none, some (Value.str (Str.ofString "ProofFault") 234), some (Value.str (Str.ofString "ProofFault") 242), some (Value.builtin "Exception.__new__"), some (Value.bool Bool.true)]
noncomputable def ho117 (P : Params) : Obj := Obj.mk (Value.type "super") none (Data.fields #[Value.ref 76, Value.ref 76, Value.ref 76]) #[]
noncomputable def ho118 (P : Params) : Obj := Obj.mk (Value.type "builtin_function_or_method") none (Data.fields #[Value.builtin "object.__init_subclass__", Value.ref 76]) #[]
noncomputable def ho119 (P : Params) : Obj := Obj.mk (Value.type "tuple") none (Data.seq #[Value.str (Str.ofString "input") 271, Value.str (Str.ofString "define") 272, Value.str (Str.ofString "ite_term") 273, Value.str (Str.ofString "three") 274, Value.str (Str.ofString "bits") 275, Value.str (Str.ofString "congruence") 276, Value.str (Str.ofString "farkas") 277, Value.str (Str.ofString "branch") 278, Value.str (Str.ofString "divide") 279, Value.str (Str.ofString "cut") 280, Value.str (Str.ofString "resolve") 281] 0) #[]
noncomputable def ho120 (P : Params) : Obj := Obj.mk (Value.type "tuple") none (Data.seq #[] 0) #[]
noncomputable def ho121 (P : Params) : Obj := Obj.mk Value.none none (Data.fields #[]) #[]
noncomputable def ho122 (P : Params) : Obj := Obj.mk (Value.type "tuple") none (Data.seq #[Value.str (Str.ofString "clause") 286, Value.str (Str.ofString "place") 287] 0) #[]
noncomputable def ho123 (P : Params) : Obj := Obj.mk (Value.type "tuple") none (Data.seq #[] 0) #[]
noncomputable def ho124 (P : Params) : Obj := Obj.mk Value.none none (Data.func (FuncData.mk (Str.ofString "is_tidy") (Str.ofString "is_tidy") (fnP (stA 6)) (fnB (stA 6)) (fnS (stA 6)) 0 [] Value.none Value.none Value.none Value.none none Value.none Value.none 0)) #[]
noncomputable def ho125 (P : Params) : Obj := Obj.mk (Value.type "code") none (Data.fields #[Value.str (Str.ofString "is_tidy") 283, Value.str (Str.ofString "is_tidy") 284, Value.str (Str.ofString "/claim/cut.py") 285, Value.int 23 0, Value.int 1 0, Value.int 0 0, Value.int 0 0, Value.int 3 0, Value.ref 80, Value.bool Bool.true, Value.int 181 0, Value.ref 81, Value.none, Value.ref 82, Value.ref 83, Value.ref 84, Value.int 288 0, Value.int 23 0, Value.str (Str.ofString "/claim/cut.py") 289]) #[]
noncomputable def ho126 (P : Params) : Obj := Obj.mk (Value.type "function") none (Data.func (FuncData.mk (Str.ofString "is_tidy") (Str.ofString "is_tidy") (fnP (stA 6)) (fnB (stA 6)) (fnS (stA 6)) 3 [] Value.none Value.none Value.none (Value.str (Str.ofString "minismt.proof") 269) none (Value.ref 85) Value.none 0)) #[]
noncomputable def ho127 (P : Params) : Obj := Obj.mk (Value.type "dict") none (Data.dict #[DictEntry.mk (PyData.keyHash P (Str.ofString "__name__")) (Value.str (Str.ofString "__name__") 165) (Value.str (Str.ofString "minismt.proof") 269), DictEntry.mk (PyData.keyHash P (Str.ofString "__doc__")) (Value.str (Str.ofString "__doc__") 166) Value.none, DictEntry.mk (PyData.keyHash P (Str.ofString "__package__")) (Value.str (Str.ofString "__package__") 167) Value.none, DictEntry.mk (PyData.keyHash P (Str.ofString "__loader__")) (Value.str (Str.ofString "__loader__") 168) (Value.builtin "__main__.__loader__#opaque"), DictEntry.mk (PyData.keyHash P (Str.ofString "__spec__")) (Value.str (Str.ofString "__spec__") 169) Value.none, DictEntry.mk (PyData.keyHash P (Str.ofString "__annotations__")) (Value.str (Str.ofString "__annotations__") 170) (Value.ref 6), DictEntry.mk (PyData.keyHash P (Str.ofString "__builtins__")) (Value.str (Str.ofString "__builtins__") 171) (Value.ref 4), DictEntry.mk (PyData.keyHash P (Str.ofString "__file__")) (Value.str (Str.ofString "__file__") 173) (Value.str (Str.ofString "/claim/cut.py") 172), DictEntry.mk (PyData.keyHash P (Str.ofString "__cached__")) (Value.str (Str.ofString "__cached__") 174) Value.none, DictEntry.mk (PyData.keyHash P (Str.ofString "_wall")) (Value.str (Str.ofString "_wall") 193) (Value.ref 21), DictEntry.mk (PyData.keyHash P (Str.ofString "SmtError")) (Value.str (Str.ofString "SmtError") 233) (Value.ref 47), DictEntry.mk (PyData.keyHash P (Str.ofString "ProofFault")) (Value.str (Str.ofString "ProofFault") 268) (Value.ref 76), DictEntry.mk (PyData.keyHash P (Str.ofString "RULES")) (Value.str (Str.ofString "RULES") 282) (Value.ref 79), DictEntry.mk (PyData.keyHash P (Str.ofString "is_tidy")) (Value.str (Str.ofString "is_tidy") 290) (Value.ref 86), DictEntry.mk (PyData.keyHash P (Str.ofString "Steps")) (Value.str (Str.ofString "Steps") 389) (Value.ref 159)] 15) #[]
noncomputable def ho128 (P : Params) : Obj := Obj.mk Value.none none (Data.fields #[Value.int 1 0, Value.int 0 0, Value.ref 20, Value.int 5 0, Value.int 0 0, Value.ref 28, Value.int 13 0, Value.int 0 0, Value.ref 57, Value.int 23 0, Value.int 0 0, Value.ref 85, Value.int 30 0, Value.int 0 0, Value.ref 92]) #[]
noncomputable def ho129 (P : Params) : Obj := Obj.mk (Value.type "tuple") none (Data.seq #[] 0) #[]
noncomputable def ho130 (P : Params) : Obj := Obj.mk (Value.type "builtin_function_or_method") none (Data.fields #[Value.builtin "type.__prepare__", Value.type "type"]) #[]
noncomputable def ho131 (P : Params) : Obj := Obj.mk (Value.type "dict") none (Data.dict #[DictEntry.mk (PyData.keyHash P (Str.ofString "__module__")) (Value.str (Str.ofString "__module__") 298) (Value.str (Str.ofString "minismt.proof") 269), DictEntry.mk (PyData.keyHash P (Str.ofString "__qualname__")) (Value.str (Str.ofString "__qualname__") 300) (Value.str (Str.ofString "Steps") 299), DictEntry.mk (PyData.keyHash P (Str.ofString "__firstlineno__")) (Value.str (Str.ofString "__firstlineno__") 302) (Value.int 30 301), DictEntry.mk (PyData.keyHash P (Str.ofString "__init__")) (Value.str (Str.ofString "__init__") 309) (Value.ref 100), DictEntry.mk (PyData.keyHash P (Str.ofString "name")) (Value.str (Str.ofString "name") 318) (Value.ref 107), DictEntry.mk (PyData.keyHash P (Str.ofString "names")) (Value.str (Str.ofString "names") 326) (Value.ref 114), DictEntry.mk (PyData.keyHash P (Str.ofString "var_count")) (Value.str (Str.ofString "var_count") 333) (Value.ref 121), DictEntry.mk (PyData.keyHash P (Str.ofString "size")) (Value.str (Str.ofString "size") 340) (Value.ref 128), DictEntry.mk (PyData.keyHash P (Str.ofString "clause")) (Value.str (Str.ofString "clause") 348) (Value.ref 135), DictEntry.mk (PyData.keyHash P (Str.ofString "rule")) (Value.str (Str.ofString "rule") 356) (Value.ref 142), DictEntry.mk (PyData.keyHash P (Str.ofString "add")) (Value.str (Str.ofString "add") 369) (Value.ref 149), DictEntry.mk (PyData.keyHash P (Str.ofString "chain")) (Value.str (Str.ofString "chain") 378) (Value.ref 156), DictEntry.mk (PyData.keyHash P (Str.ofString "__static_attributes__")) (Value.str (Str.ofString "__static_attributes__") 382) (Value.ref 157)] 13) #[]
noncomputable def ho132 (P : Params) : Obj := Obj.mk (Value.type "tuple") none (Data.seq #[] 0) #[]
noncomputable def ho133 (P : Params) : Obj := Obj.mk Value.none none (Data.fields #[Value.int 32 0, Value.int 4 0, Value.ref 99, Value.int 37 0, Value.int 4 0, Value.ref 106, Value.int 42 0, Value.int 4 0, Value.ref 113, Value.int 47 0, Value.int 4 0, Value.ref 120, Value.int 50 0, Value.int 4 0, Value.ref 127, Value.int 53 0, Value.int 4 0, Value.ref 134, Value.int 56 0, Value.int 4 0, Value.ref 141, Value.int 59 0, Value.int 4 0, Value.ref 148, Value.int 73 0, Value.int 4 0, Value.ref 155]) #[]
noncomputable def ho134 (P : Params) : Obj := Obj.mk (Value.type "code") none (Data.fields #[Value.str (Str.ofString "Steps") 293, Value.str (Str.ofString "Steps") 294, Value.str (Str.ofString "/claim/cut.py") 295, Value.int 30 0, Value.int 0 0, Value.int 0 0, Value.int 0 0, Value.int 0 0, Value.ref 90, Value.bool Bool.false, Value.int 181 0, Value.ref 91, Value.none, Value.none, Value.none, Value.none, Value.int 296 0, Value.int 30 0, Value.str (Str.ofString "/claim/cut.py") 297]) #[]
noncomputable def ho135 (P : Params) : Obj := Obj.mk (Value.type "frame") none Data.plain #[some (Value.ref 92), some (Value.ref 3), some (Value.ref 89), none, some (Value.str (Str.ofString "minismt.proof") 269), none, some (Value.ref 0)]
noncomputable def ho136 (P : Params) : Obj := Obj.mk (Value.type "tuple") none (Data.seq #[] 0) #[]
noncomputable def ho137 (P : Params) : Obj := Obj.mk Value.none none (Data.fields #[]) #[]
noncomputable def ho138 (P : Params) : Obj := Obj.mk (Value.type "tuple") none (Data.seq #[Value.str (Str.ofString "self") 306] 0) #[]
noncomputable def ho139 (P : Params) : Obj := Obj.mk (Value.type "tuple") none (Data.seq #[] 0) #[]
noncomputable def ho140 (P : Params) : Obj := Obj.mk Value.none none (Data.func (FuncData.mk (Str.ofString "__init__") (Str.ofString "Steps.__init__") (fnP (inC (stA 7) 0)) (fnB (inC (stA 7) 0)) (fnS (inC (stA 7) 0)) 0 [] Value.none Value.none Value.none Value.none none Value.none Value.none 0)) #[]
noncomputable def ho141 (P : Params) : Obj := Obj.mk (Value.type "code") none (Data.fields #[Value.str (Str.ofString "__init__") 303, Value.str (Str.ofString "Steps.__init__") 304, Value.str (Str.ofString "/claim/cut.py") 305, Value.int 32 0, Value.int 1 0, Value.int 0 0, Value.int 0 0, Value.int 3 0, Value.ref 94, Value.bool Bool.true, Value.int 181 0, Value.ref 95, Value.none, Value.ref 96, Value.ref 97, Value.ref 98, Value.int 307 0, Value.int 32 0, Value.str (Str.ofString "/claim/cut.py") 308]) #[]
noncomputable def ho142 (P : Params) : Obj := Obj.mk (Value.type "function") none (Data.func (FuncData.mk (Str.ofString "__init__") (Str.ofString "Steps.__init__") (fnP (inC (stA 7) 0)) (fnB (inC (stA 7) 0)) (fnS (inC (stA 7) 0)) 3 [] Value.none Value.none Value.none (Value.str (Str.ofString "minismt.proof") 269) none (Value.ref 99) Value.none 0)) #[]
noncomputable def ho143 (P : Params) : Obj := Obj.mk (Value.type "tuple") none (Data.seq #[] 0) #[]
noncomputable def ho144 (P : Params) : Obj := Obj.mk Value.none none (Data.fields #[]) #[]
noncomputable def ho145 (P : Params) : Obj := Obj.mk (Value.type "tuple") none (Data.seq #[Value.str (Str.ofString "self") 313, Value.str (Str.ofString "var") 314, Value.str (Str.ofString "term") 315] 0) #[]
noncomputable def ho146 (P : Params) : Obj := Obj.mk (Value.type "tuple") none (Data.seq #[] 0) #[]
noncomputable def ho147 (P : Params) : Obj := Obj.mk Value.none none (Data.func (FuncData.mk (Str.ofString "name") (Str.ofString "Steps.name") (fnP (inC (stA 7) 1)) (fnB (inC (stA 7) 1)) (fnS (inC (stA 7) 1)) 0 [] Value.none Value.none Value.none Value.none none Value.none Value.none 0)) #[]
noncomputable def ho148 (P : Params) : Obj := Obj.mk (Value.type "code") none (Data.fields #[Value.str (Str.ofString "name") 310, Value.str (Str.ofString "Steps.name") 311, Value.str (Str.ofString "/claim/cut.py") 312, Value.int 37 0, Value.int 3 0, Value.int 0 0, Value.int 0 0, Value.int 3 0, Value.ref 101, Value.bool Bool.true, Value.int 181 0, Value.ref 102, Value.none, Value.ref 103, Value.ref 104, Value.ref 105, Value.int 316 0, Value.int 37 0, Value.str (Str.ofString "/claim/cut.py") 317]) #[]
noncomputable def ho149 (P : Params) : Obj := Obj.mk (Value.type "function") none (Data.func (FuncData.mk (Str.ofString "name") (Str.ofString "Steps.name") (fnP (inC (stA 7) 1)) (fnB (inC (stA 7) 1)) (fnS (inC (stA 7) 1)) 3 [] Value.none Value.none Value.none (Value.str (Str.ofString "minismt.proof") 269) none (Value.ref 106) Value.none 0)) #[]
noncomputable def ho150 (P : Params) : Obj := Obj.mk (Value.type "tuple") none (Data.seq #[] 0) #[]
noncomputable def ho151 (P : Params) : Obj := Obj.mk Value.none none (Data.fields #[]) #[]
noncomputable def ho152 (P : Params) : Obj := Obj.mk (Value.type "tuple") none (Data.seq #[Value.str (Str.ofString "self") 322, Value.str (Str.ofString "var") 323] 0) #[]
noncomputable def ho153 (P : Params) : Obj := Obj.mk (Value.type "tuple") none (Data.seq #[] 0) #[]
noncomputable def ho154 (P : Params) : Obj := Obj.mk Value.none none (Data.func (FuncData.mk (Str.ofString "names") (Str.ofString "Steps.names") (fnP (inC (stA 7) 2)) (fnB (inC (stA 7) 2)) (fnS (inC (stA 7) 2)) 0 [] Value.none Value.none Value.none Value.none none Value.none Value.none 0)) #[]
noncomputable def ho155 (P : Params) : Obj := Obj.mk (Value.type "code") none (Data.fields #[Value.str (Str.ofString "names") 319, Value.str (Str.ofString "Steps.names") 320, Value.str (Str.ofString "/claim/cut.py") 321, Value.int 42 0, Value.int 2 0, Value.int 0 0, Value.int 0 0, Value.int 3 0, Value.ref 108, Value.bool Bool.true, Value.int 181 0, Value.ref 109, Value.none, Value.ref 110, Value.ref 111, Value.ref 112, Value.int 324 0, Value.int 42 0, Value.str (Str.ofString "/claim/cut.py") 325]) #[]
noncomputable def ho156 (P : Params) : Obj := Obj.mk (Value.type "function") none (Data.func (FuncData.mk (Str.ofString "names") (Str.ofString "Steps.names") (fnP (inC (stA 7) 2)) (fnB (inC (stA 7) 2)) (fnS (inC (stA 7) 2)) 3 [] Value.none Value.none Value.none (Value.str (Str.ofString "minismt.proof") 269) none (Value.ref 113) Value.none 0)) #[]
noncomputable def ho157 (P : Params) : Obj := Obj.mk (Value.type "tuple") none (Data.seq #[] 0) #[]
noncomputable def ho158 (P : Params) : Obj := Obj.mk Value.none none (Data.fields #[]) #[]
noncomputable def ho159 (P : Params) : Obj := Obj.mk (Value.type "tuple") none (Data.seq #[Value.str (Str.ofString "self") 330] 0) #[]
noncomputable def ho160 (P : Params) : Obj := Obj.mk (Value.type "tuple") none (Data.seq #[] 0) #[]
noncomputable def ho161 (P : Params) : Obj := Obj.mk Value.none none (Data.func (FuncData.mk (Str.ofString "var_count") (Str.ofString "Steps.var_count") (fnP (inC (stA 7) 3)) (fnB (inC (stA 7) 3)) (fnS (inC (stA 7) 3)) 0 [] Value.none Value.none Value.none Value.none none Value.none Value.none 0)) #[]
noncomputable def ho162 (P : Params) : Obj := Obj.mk (Value.type "code") none (Data.fields #[Value.str (Str.ofString "var_count") 327, Value.str (Str.ofString "Steps.var_count") 328, Value.str (Str.ofString "/claim/cut.py") 329, Value.int 47 0, Value.int 1 0, Value.int 0 0, Value.int 0 0, Value.int 3 0, Value.ref 115, Value.bool Bool.true, Value.int 181 0, Value.ref 116, Value.none, Value.ref 117, Value.ref 118, Value.ref 119, Value.int 331 0, Value.int 47 0, Value.str (Str.ofString "/claim/cut.py") 332]) #[]
noncomputable def ho163 (P : Params) : Obj := Obj.mk (Value.type "function") none (Data.func (FuncData.mk (Str.ofString "var_count") (Str.ofString "Steps.var_count") (fnP (inC (stA 7) 3)) (fnB (inC (stA 7) 3)) (fnS (inC (stA 7) 3)) 3 [] Value.none Value.none Value.none (Value.str (Str.ofString "minismt.proof") 269) none (Value.ref 120) Value.none 0)) #[]
noncomputable def ho164 (P : Params) : Obj := Obj.mk (Value.type "tuple") none (Data.seq #[] 0) #[]
noncomputable def ho165 (P : Params) : Obj := Obj.mk Value.none none (Data.fields #[]) #[]
noncomputable def ho166 (P : Params) : Obj := Obj.mk (Value.type "tuple") none (Data.seq #[Value.str (Str.ofString "self") 337] 0) #[]
noncomputable def ho167 (P : Params) : Obj := Obj.mk (Value.type "tuple") none (Data.seq #[] 0) #[]
noncomputable def ho168 (P : Params) : Obj := Obj.mk Value.none none (Data.func (FuncData.mk (Str.ofString "size") (Str.ofString "Steps.size") (fnP (inC (stA 7) 4)) (fnB (inC (stA 7) 4)) (fnS (inC (stA 7) 4)) 0 [] Value.none Value.none Value.none Value.none none Value.none Value.none 0)) #[]
noncomputable def ho169 (P : Params) : Obj := Obj.mk (Value.type "code") none (Data.fields #[Value.str (Str.ofString "size") 334, Value.str (Str.ofString "Steps.size") 335, Value.str (Str.ofString "/claim/cut.py") 336, Value.int 50 0, Value.int 1 0, Value.int 0 0, Value.int 0 0, Value.int 3 0, Value.ref 122, Value.bool Bool.true, Value.int 181 0, Value.ref 123, Value.none, Value.ref 124, Value.ref 125, Value.ref 126, Value.int 338 0, Value.int 50 0, Value.str (Str.ofString "/claim/cut.py") 339]) #[]
noncomputable def ho170 (P : Params) : Obj := Obj.mk (Value.type "function") none (Data.func (FuncData.mk (Str.ofString "size") (Str.ofString "Steps.size") (fnP (inC (stA 7) 4)) (fnB (inC (stA 7) 4)) (fnS (inC (stA 7) 4)) 3 [] Value.none Value.none Value.none (Value.str (Str.ofString "minismt.proof") 269) none (Value.ref 127) Value.none 0)) #[]
noncomputable def ho171 (P : Params) : Obj := Obj.mk (Value.type "tuple") none (Data.seq #[] 0) #[]
noncomputable def ho172 (P : Params) : Obj := Obj.mk Value.none none (Data.fields #[]) #[]
noncomputable def ho173 (P : Params) : Obj := Obj.mk (Value.type "tuple") none (Data.seq #[Value.str (Str.ofString "self") 344, Value.str (Str.ofString "step") 345] 0) #[]
noncomputable def ho174 (P : Params) : Obj := Obj.mk (Value.type "tuple") none (Data.seq #[] 0) #[]
noncomputable def ho175 (P : Params) : Obj := Obj.mk Value.none none (Data.func (FuncData.mk (Str.ofString "clause") (Str.ofString "Steps.clause") (fnP (inC (stA 7) 5)) (fnB (inC (stA 7) 5)) (fnS (inC (stA 7) 5)) 0 [] Value.none Value.none Value.none Value.none none Value.none Value.none 0)) #[]
noncomputable def ho176 (P : Params) : Obj := Obj.mk (Value.type "code") none (Data.fields #[Value.str (Str.ofString "clause") 341, Value.str (Str.ofString "Steps.clause") 342, Value.str (Str.ofString "/claim/cut.py") 343, Value.int 53 0, Value.int 2 0, Value.int 0 0, Value.int 0 0, Value.int 3 0, Value.ref 129, Value.bool Bool.true, Value.int 181 0, Value.ref 130, Value.none, Value.ref 131, Value.ref 132, Value.ref 133, Value.int 346 0, Value.int 53 0, Value.str (Str.ofString "/claim/cut.py") 347]) #[]
noncomputable def ho177 (P : Params) : Obj := Obj.mk (Value.type "function") none (Data.func (FuncData.mk (Str.ofString "clause") (Str.ofString "Steps.clause") (fnP (inC (stA 7) 5)) (fnB (inC (stA 7) 5)) (fnS (inC (stA 7) 5)) 3 [] Value.none Value.none Value.none (Value.str (Str.ofString "minismt.proof") 269) none (Value.ref 134) Value.none 0)) #[]
noncomputable def ho178 (P : Params) : Obj := Obj.mk (Value.type "tuple") none (Data.seq #[] 0) #[]
noncomputable def ho179 (P : Params) : Obj := Obj.mk Value.none none (Data.fields #[]) #[]
noncomputable def ho180 (P : Params) : Obj := Obj.mk (Value.type "tuple") none (Data.seq #[Value.str (Str.ofString "self") 352, Value.str (Str.ofString "step") 353] 0) #[]
noncomputable def ho181 (P : Params) : Obj := Obj.mk (Value.type "tuple") none (Data.seq #[] 0) #[]
noncomputable def ho182 (P : Params) : Obj := Obj.mk Value.none none (Data.func (FuncData.mk (Str.ofString "rule") (Str.ofString "Steps.rule") (fnP (inC (stA 7) 6)) (fnB (inC (stA 7) 6)) (fnS (inC (stA 7) 6)) 0 [] Value.none Value.none Value.none Value.none none Value.none Value.none 0)) #[]
noncomputable def ho183 (P : Params) : Obj := Obj.mk (Value.type "code") none (Data.fields #[Value.str (Str.ofString "rule") 349, Value.str (Str.ofString "Steps.rule") 350, Value.str (Str.ofString "/claim/cut.py") 351, Value.int 56 0, Value.int 2 0, Value.int 0 0, Value.int 0 0, Value.int 3 0, Value.ref 136, Value.bool Bool.true, Value.int 181 0, Value.ref 137, Value.none, Value.ref 138, Value.ref 139, Value.ref 140, Value.int 354 0, Value.int 56 0, Value.str (Str.ofString "/claim/cut.py") 355]) #[]
noncomputable def ho184 (P : Params) : Obj := Obj.mk (Value.type "function") none (Data.func (FuncData.mk (Str.ofString "rule") (Str.ofString "Steps.rule") (fnP (inC (stA 7) 6)) (fnB (inC (stA 7) 6)) (fnS (inC (stA 7) 6)) 3 [] Value.none Value.none Value.none (Value.str (Str.ofString "minismt.proof") 269) none (Value.ref 141) Value.none 0)) #[]
noncomputable def ho185 (P : Params) : Obj := Obj.mk (Value.type "tuple") none (Data.seq #[] 0) #[]
noncomputable def ho186 (P : Params) : Obj := Obj.mk Value.none none (Data.fields #[]) #[]
noncomputable def ho187 (P : Params) : Obj := Obj.mk (Value.type "tuple") none (Data.seq #[Value.str (Str.ofString "self") 360, Value.str (Str.ofString "rule") 361, Value.str (Str.ofString "clause") 362, Value.str (Str.ofString "premises") 363, Value.str (Str.ofString "note") 364, Value.str (Str.ofString "number") 365, Value.str (Str.ofString "one") 366] 0) #[]
noncomputable def ho188 (P : Params) : Obj := Obj.mk (Value.type "tuple") none (Data.seq #[] 0) #[]
noncomputable def ho189 (P : Params) : Obj := Obj.mk Value.none none (Data.func (FuncData.mk (Str.ofString "add") (Str.ofString "Steps.add") (fnP (inC (stA 7) 7)) (fnB (inC (stA 7) 7)) (fnS (inC (stA 7) 7)) 0 [] Value.none Value.none Value.none Value.none none Value.none Value.none 0)) #[]
noncomputable def ho190 (P : Params) : Obj := Obj.mk (Value.type "code") none (Data.fields #[Value.str (Str.ofString "add") 357, Value.str (Str.ofString "Steps.add") 358, Value.str (Str.ofString "/claim/cut.py") 359, Value.int 59 0, Value.int 5 0, Value.int 0 0, Value.int 0 0, Value.int 3 0, Value.ref 143, Value.bool Bool.true, Value.int 181 0, Value.ref 144, Value.none, Value.ref 145, Value.ref 146, Value.ref 147, Value.int 367 0, Value.int 59 0, Value.str (Str.ofString "/claim/cut.py") 368]) #[]
noncomputable def ho191 (P : Params) : Obj := Obj.mk (Value.type "function") none (Data.func (FuncData.mk (Str.ofString "add") (Str.ofString "Steps.add") (fnP (inC (stA 7) 7)) (fnB (inC (stA 7) 7)) (fnS (inC (stA 7) 7)) 3 [] Value.none Value.none Value.none (Value.str (Str.ofString "minismt.proof") 269) none (Value.ref 148) Value.none 0)) #[]
noncomputable def ho192 (P : Params) : Obj := Obj.mk (Value.type "tuple") none (Data.seq #[] 0) #[]
noncomputable def ho193 (P : Params) : Obj := Obj.mk Value.none none (Data.fields #[]) #[]
noncomputable def ho194 (P : Params) : Obj := Obj.mk (Value.type "tuple") none (Data.seq #[Value.str (Str.ofString "self") 373, Value.str (Str.ofString "first") 374, Value.str (Str.ofString "pairs") 375] 0) #[]
noncomputable def ho195 (P : Params) : Obj := Obj.mk (Value.type "tuple") none (Data.seq #[] 0) #[]
noncomputable def ho196 (P : Params) : Obj := Obj.mk Value.none none (Data.func (FuncData.mk (Str.ofString "chain") (Str.ofString "Steps.chain") (fnP (inC (stA 7) 8)) (fnB (inC (stA 7) 8)) (fnS (inC (stA 7) 8)) 0 [] Value.none Value.none Value.none Value.none none Value.none Value.none 0)) #[]
noncomputable def ho197 (P : Params) : Obj := Obj.mk (Value.type "code") none (Data.fields #[Value.str (Str.ofString "chain") 370, Value.str (Str.ofString "Steps.chain") 371, Value.str (Str.ofString "/claim/cut.py") 372, Value.int 73 0, Value.int 3 0, Value.int 0 0, Value.int 0 0, Value.int 3 0, Value.ref 150, Value.bool Bool.true, Value.int 181 0, Value.ref 151, Value.none, Value.ref 152, Value.ref 153, Value.ref 154, Value.int 376 0, Value.int 73 0, Value.str (Str.ofString "/claim/cut.py") 377]) #[]
noncomputable def ho198 (P : Params) : Obj := Obj.mk (Value.type "function") none (Data.func (FuncData.mk (Str.ofString "chain") (Str.ofString "Steps.chain") (fnP (inC (stA 7) 8)) (fnB (inC (stA 7) 8)) (fnS (inC (stA 7) 8)) 3 [] Value.none Value.none Value.none (Value.str (Str.ofString "minismt.proof") 269) none (Value.ref 155) Value.none 0)) #[]
noncomputable def ho199 (P : Params) : Obj := Obj.mk (Value.type "tuple") none (Data.seq #[Value.str (Str.ofString "empty") 379, Value.str (Str.ofString "named") 380, Value.str (Str.ofString "steps") 381] 0) #[]
noncomputable def ho200 (P : Params) : Obj := Obj.mk (Value.type "dict") none (Data.dict #[DictEntry.mk (PyData.keyHash P (Str.ofString "__module__")) (Value.str (Str.ofString "__module__") 298) (Value.str (Str.ofString "minismt.proof") 269), DictEntry.mk (PyData.keyHash P (Str.ofString "__firstlineno__")) (Value.str (Str.ofString "__firstlineno__") 302) (Value.int 30 301), DictEntry.mk (PyData.keyHash P (Str.ofString "__init__")) (Value.str (Str.ofString "__init__") 309) (Value.ref 100), DictEntry.mk (PyData.keyHash P (Str.ofString "name")) (Value.str (Str.ofString "name") 318) (Value.ref 107), DictEntry.mk (PyData.keyHash P (Str.ofString "names")) (Value.str (Str.ofString "names") 326) (Value.ref 114), DictEntry.mk (PyData.keyHash P (Str.ofString "var_count")) (Value.str (Str.ofString "var_count") 333) (Value.ref 121), DictEntry.mk (PyData.keyHash P (Str.ofString "size")) (Value.str (Str.ofString "size") 340) (Value.ref 128), DictEntry.mk (PyData.keyHash P (Str.ofString "clause")) (Value.str (Str.ofString "clause") 348) (Value.ref 135), DictEntry.mk (PyData.keyHash P (Str.ofString "rule")) (Value.str (Str.ofString "rule") 356) (Value.ref 142), DictEntry.mk (PyData.keyHash P (Str.ofString "add")) (Value.str (Str.ofString "add") 369) (Value.ref 149), DictEntry.mk (PyData.keyHash P (Str.ofString "chain")) (Value.str (Str.ofString "chain") 378) (Value.ref 156), DictEntry.mk (PyData.keyHash P (Str.ofString "__static_attributes__")) (Value.str (Str.ofString "__static_attributes__") 382) (Value.ref 157), DictEntry.mk (PyData.keyHash P (Str.ofString "__dict__")) (Value.str (Str.ofString "__dict__") 384) (Value.ref 160), DictEntry.mk (PyData.keyHash P (Str.ofString "__weakref__")) (Value.str (Str.ofString "__weakref__") 386) (Value.ref 161), DictEntry.mk (PyData.keyHash P (Str.ofString "__doc__")) (Value.str (Str.ofString "__doc__") 387) Value.none] 4) #[]
noncomputable def ho201 (P : Params) : Obj := Obj.mk (Value.type "type") none (Data.cls (ClassData.mk (Str.ofString "Steps") [Value.type "object"] [Value.ref 159, Value.type "object"] 158 (Str.ofString "Steps") Bool.true [] [] Bool.false none Bool.false)) #[none, none, some (Value.str (Str.ofString "Steps") 291), some (Value.str (Str.ofString "Steps") 299), some (Value.builtin "object.__new__"), some (Value.bool Bool.true)]
noncomputable def ho202 (P : Params) : Obj := Obj.mk (Value.type "getset_descriptor") none (Data.fields #[Value.str (Str.ofString "__dict__") 383, Value.ref 159, Value.builtin "function.__dict__", Value.builtin "function.__dict__#set"]) #[]
noncomputable def ho203 (P : Params) : Obj := Obj.mk (Value.type "getset_descriptor") none (Data.fields #[Value.str (Str.ofString "__weakref__") 385, Value.ref 159, Value.builtin "ExceptionGroup.__weakref__", Value.none]) #[]
noncomputable def ho204 (P : Params) : Obj := Obj.mk (Value.type "super") none (Data.fields #[Value.ref 159, Value.ref 159, Value.ref 159]) #[]
noncomputable def ho205 (P : Params) : Obj := Obj.mk (Value.type "builtin_function_or_method") none (Data.fields #[Value.builtin "object.__init_subclass__", Value.ref 159]) #[]
noncomputable def ho206 (P : Params) : Obj := Obj.mk (Value.type "dict") none (Data.dict #[DictEntry.mk (PyData.keyHash P (Str.ofString "__name__")) (Value.str (Str.ofString "__name__") 165) (Value.str (Str.ofString "minismt.proof") 269), DictEntry.mk (PyData.keyHash P (Str.ofString "__doc__")) (Value.str (Str.ofString "__doc__") 166) Value.none, DictEntry.mk (PyData.keyHash P (Str.ofString "__package__")) (Value.str (Str.ofString "__package__") 167) Value.none, DictEntry.mk (PyData.keyHash P (Str.ofString "__loader__")) (Value.str (Str.ofString "__loader__") 168) (Value.builtin "__main__.__loader__#opaque"), DictEntry.mk (PyData.keyHash P (Str.ofString "__spec__")) (Value.str (Str.ofString "__spec__") 169) Value.none, DictEntry.mk (PyData.keyHash P (Str.ofString "__annotations__")) (Value.str (Str.ofString "__annotations__") 170) (Value.ref 6), DictEntry.mk (PyData.keyHash P (Str.ofString "__builtins__")) (Value.str (Str.ofString "__builtins__") 171) (Value.ref 4), DictEntry.mk (PyData.keyHash P (Str.ofString "__file__")) (Value.str (Str.ofString "__file__") 173) (Value.str (Str.ofString "/claim/cut.py") 172), DictEntry.mk (PyData.keyHash P (Str.ofString "__cached__")) (Value.str (Str.ofString "__cached__") 174) Value.none, DictEntry.mk (PyData.keyHash P (Str.ofString "_wall")) (Value.str (Str.ofString "_wall") 193) (Value.ref 21), DictEntry.mk (PyData.keyHash P (Str.ofString "SmtError")) (Value.str (Str.ofString "SmtError") 233) (Value.ref 47), DictEntry.mk (PyData.keyHash P (Str.ofString "ProofFault")) (Value.str (Str.ofString "ProofFault") 268) (Value.ref 76), DictEntry.mk (PyData.keyHash P (Str.ofString "RULES")) (Value.str (Str.ofString "RULES") 282) (Value.ref 79), DictEntry.mk (PyData.keyHash P (Str.ofString "is_tidy")) (Value.str (Str.ofString "is_tidy") 290) (Value.ref 86), DictEntry.mk (PyData.keyHash P (Str.ofString "Steps")) (Value.str (Str.ofString "Steps") 389) (Value.ref 159), DictEntry.mk (PyData.keyHash P (Str.ofString "Proof")) (Value.str (Str.ofString "Proof") 452) (Value.ref 213)] 16) #[]
noncomputable def ho207 (P : Params) : Obj := Obj.mk Value.none none (Data.fields #[Value.int 1 0, Value.int 0 0, Value.ref 20, Value.int 5 0, Value.int 0 0, Value.ref 28, Value.int 13 0, Value.int 0 0, Value.ref 57, Value.int 23 0, Value.int 0 0, Value.ref 85, Value.int 30 0, Value.int 0 0, Value.ref 92, Value.int 75 0, Value.int 0 0, Value.ref 169]) #[]
noncomputable def ho208 (P : Params) : Obj := Obj.mk (Value.type "type") none (Data.cls (ClassData.mk (Str.ofString "Steps") [Value.type "object"] [Value.ref 159, Value.type "object"] 158 (Str.ofString "Steps") Bool.true [] [Value.ref 213] Bool.false none Bool.false)) #[none, none, some (Value.str (Str.ofString "Steps") 291), some (Value.str (Str.ofString "Steps") 299), some (Value.builtin "object.__new__"), some (Value.bool Bool.true)]
noncomputable def ho209 (P : Params) : Obj := Obj.mk (Value.type "tuple") none (Data.seq #[Value.ref 159] 0) #[]
noncomputable def ho210 (P : Params) : Obj := Obj.mk (Value.type "builtin_function_or_method") none (Data.fields #[Value.builtin "type.__prepare__", Value.type "type"]) #[]
noncomputable def ho211 (P : Params) : Obj := Obj.mk (Value.type "dict") none (Data.dict #[DictEntry.mk (PyData.keyHash P (Str.ofString "__module__")) (Value.str (Str.ofString "__module__") 397) (Value.str (Str.ofString "minismt.proof") 269), DictEntry.mk (PyData.keyHash P (Str.ofString "__qualname__")) (Value.str (Str.ofString "__qualname__") 399) (Value.str (Str.ofString "Proof") 398), DictEntry.mk (PyData.keyHash P (Str.ofString "__firstlineno__")) (Value.str (Str.ofString "__firstlineno__") 401) (Value.int 75 400), DictEntry.mk (PyData.keyHash P (Str.ofString "needed")) (Value.str (Str.ofString "needed") 412) (Value.ref 177), DictEntry.mk (PyData.keyHash P (Str.ofString "trimmed")) (Value.str (Str.ofString "trimmed") 418) (Value.ref 182), DictEntry.mk (PyData.keyHash P (Str.ofString "trim")) (Value.str (Str.ofString "trim") 425) (Value.ref 189), DictEntry.mk (PyData.keyHash P (Str.ofString "used_inputs")) (Value.str (Str.ofString "used_inputs") 433) (Value.ref 196), DictEntry.mk (PyData.keyHash P (Str.ofString "counts")) (Value.str (Str.ofString "counts") 440) (Value.ref 203), DictEntry.mk (PyData.keyHash P (Str.ofString "depth")) (Value.str (Str.ofString "depth") 448) (Value.ref 210), DictEntry.mk (PyData.keyHash P (Str.ofString "__static_attributes__")) (Value.str (Str.ofString "__static_attributes__") 449) (Value.ref 211)] 10) #[]
noncomputable def ho212 (P : Params) : Obj := Obj.mk (Value.type "tuple") none (Data.seq #[] 0) #[]
noncomputable def ho213 (P : Params) : Obj := Obj.mk Value.none none (Data.fields #[Value.int 77 0, Value.int 4 0, Value.ref 176, Value.int 85 0, Value.int 4 0, Value.ref 181, Value.int 94 0, Value.int 4 0, Value.ref 188, Value.int 97 0, Value.int 4 0, Value.ref 195, Value.int 100 0, Value.int 4 0, Value.ref 202, Value.int 103 0, Value.int 4 0, Value.ref 209]) #[]
noncomputable def ho214 (P : Params) : Obj := Obj.mk (Value.type "code") none (Data.fields #[Value.str (Str.ofString "Proof") 392, Value.str (Str.ofString "Proof") 393, Value.str (Str.ofString "/claim/cut.py") 394, Value.int 75 0, Value.int 0 0, Value.int 0 0, Value.int 0 0, Value.int 0 0, Value.ref 167, Value.bool Bool.false, Value.int 181 0, Value.ref 168, Value.none, Value.none, Value.none, Value.none, Value.int 395 0, Value.int 75 0, Value.str (Str.ofString "/claim/cut.py") 396]) #[]
noncomputable def ho215 (P : Params) : Obj := Obj.mk (Value.type "frame") none Data.plain #[some (Value.ref 169), some (Value.ref 3), some (Value.ref 166), none, some (Value.str (Str.ofString "minismt.proof") 269), none, some (Value.ref 0)]
noncomputable def ho216 (P : Params) : Obj := Obj.mk (Value.type "tuple") none (Data.seq #[] 0) #[]
noncomputable def ho217 (P : Params) : Obj := Obj.mk Value.none none (Data.fields #[]) #[]
noncomputable def ho218 (P : Params) : Obj := Obj.mk (Value.type "tuple") none (Data.seq #[Value.str (Str.ofString "self") 405, Value.str (Str.ofString "last") 406, Value.str (Str.ofString "wanted") 407, Value.str (Str.ofString "number") 408, Value.str (Str.ofString "one") 409] 0) #[]
noncomputable def ho219 (P : Params) : Obj := Obj.mk (Value.type "tuple") none (Data.seq #[] 0) #[]
noncomputable def ho220 (P : Params) : Obj := Obj.mk Value.none none (Data.func (FuncData.mk (Str.ofString "needed") (Str.ofString "Proof.needed") (fnP (inC (stA 8) 0)) (fnB (inC (stA 8) 0)) (fnS (inC (stA 8) 0)) 0 [] Value.none Value.none Value.none Value.none none Value.none Value.none 0)) #[]
noncomputable def ho221 (P : Params) : Obj := Obj.mk (Value.type "code") none (Data.fields #[Value.str (Str.ofString "needed") 402, Value.str (Str.ofString "Proof.needed") 403, Value.str (Str.ofString "/claim/cut.py") 404, Value.int 77 0, Value.int 2 0, Value.int 0 0, Value.int 0 0, Value.int 3 0, Value.ref 171, Value.bool Bool.true, Value.int 181 0, Value.ref 172, Value.none, Value.ref 173, Value.ref 174, Value.ref 175, Value.int 410 0, Value.int 77 0, Value.str (Str.ofString "/claim/cut.py") 411]) #[]
noncomputable def ho222 (P : Params) : Obj := Obj.mk (Value.type "function") none (Data.func (FuncData.mk (Str.ofString "needed") (Str.ofString "Proof.needed") (fnP (inC (stA 8) 0)) (fnB (inC (stA 8) 0)) (fnS (inC (stA 8) 0)) 3 [] Value.none Value.none Value.none (Value.str (Str.ofString "minismt.proof") 269) none (Value.ref 176) Value.none 0)) #[]
noncomputable def ho223 (P : Params) : Obj := Obj.mk (Value.type "tuple") none (Data.seq #[] 0) #[]
noncomputable def ho224 (P : Params) : Obj := Obj.mk Value.none none (Data.fields #[]) #[]
noncomputable def ho225 (P : Params) : Obj := Obj.mk Value.none none (Data.func (FuncData.mk (Str.ofString "trimmed") (Str.ofString "Proof.trimmed") (fnP (inC (stA 8) 1)) (fnB (inC (stA 8) 1)) (fnS (inC (stA 8) 1)) 0 [] Value.none Value.none Value.none Value.none none Value.none Value.none 0)) #[]
noncomputable def ho226 (P : Params) : Obj := Obj.mk (Value.type "code") none (Data.fields #[Value.str (Str.ofString "trimmed") 413, Value.str (Str.ofString "Proof.trimmed") 414, Value.str (Str.ofString "/claim/cut.py") 415, Value.int 85 0, Value.int 2 0, Value.int 0 0, Value.int 0 0, Value.int 3 0, Value.ref 178, Value.bool Bool.true, Value.int 181 0, Value.ref 179, Value.none, Value.none, Value.none, Value.ref 180, Value.int 416 0, Value.int 85 0, Value.str (Str.ofString "/claim/cut.py") 417]) #[]
noncomputable def ho227 (P : Params) : Obj := Obj.mk (Value.type "function") none (Data.func (FuncData.mk (Str.ofString "trimmed") (Str.ofString "Proof.trimmed") (fnP (inC (stA 8) 1)) (fnB (inC (stA 8) 1)) (fnS (inC (stA 8) 1)) 3 [] Value.none Value.none Value.none (Value.str (Str.ofString "minismt.proof") 269) none (Value.ref 181) Value.none 0)) #[]
noncomputable def ho228 (P : Params) : Obj := Obj.mk (Value.type "tuple") none (Data.seq #[] 0) #[]
noncomputable def ho229 (P : Params) : Obj := Obj.mk Value.none none (Data.fields #[]) #[]
noncomputable def ho230 (P : Params) : Obj := Obj.mk (Value.type "tuple") none (Data.seq #[Value.str (Str.ofString "self") 422] 0) #[]
noncomputable def ho231 (P : Params) : Obj := Obj.mk (Value.type "tuple") none (Data.seq #[] 0) #[]
noncomputable def ho232 (P : Params) : Obj := Obj.mk Value.none none (Data.func (FuncData.mk (Str.ofString "trim") (Str.ofString "Proof.trim") (fnP (inC (stA 8) 2)) (fnB (inC (stA 8) 2)) (fnS (inC (stA 8) 2)) 0 [] Value.none Value.none Value.none Value.none none Value.none Value.none 0)) #[]
noncomputable def ho233 (P : Params) : Obj := Obj.mk (Value.type "code") none (Data.fields #[Value.str (Str.ofString "trim") 419, Value.str (Str.ofString "Proof.trim") 420, Value.str (Str.ofString "/claim/cut.py") 421, Value.int 94 0, Value.int 1 0, Value.int 0 0, Value.int 0 0, Value.int 3 0, Value.ref 183, Value.bool Bool.true, Value.int 181 0, Value.ref 184, Value.none, Value.ref 185, Value.ref 186, Value.ref 187, Value.int 423 0, Value.int 94 0, Value.str (Str.ofString "/claim/cut.py") 424]) #[]
noncomputable def ho234 (P : Params) : Obj := Obj.mk (Value.type "function") none (Data.func (FuncData.mk (Str.ofString "trim") (Str.ofString "Proof.trim") (fnP (inC (stA 8) 2)) (fnB (inC (stA 8) 2)) (fnS (inC (stA 8) 2)) 3 [] Value.none Value.none Value.none (Value.str (Str.ofString "minismt.proof") 269) none (Value.ref 188) Value.none 0)) #[]
noncomputable def ho235 (P : Params) : Obj := Obj.mk (Value.type "tuple") none (Data.seq #[] 0) #[]
noncomputable def ho236 (P : Params) : Obj := Obj.mk Value.none none (Data.fields #[]) #[]
noncomputable def ho237 (P : Params) : Obj := Obj.mk (Value.type "tuple") none (Data.seq #[Value.str (Str.ofString "self") 429, Value.str (Str.ofString "last") 430] 0) #[]
noncomputable def ho238 (P : Params) : Obj := Obj.mk (Value.type "tuple") none (Data.seq #[] 0) #[]
noncomputable def ho239 (P : Params) : Obj := Obj.mk Value.none none (Data.func (FuncData.mk (Str.ofString "used_inputs") (Str.ofString "Proof.used_inputs") (fnP (inC (stA 8) 3)) (fnB (inC (stA 8) 3)) (fnS (inC (stA 8) 3)) 0 [] Value.none Value.none Value.none Value.none none Value.none Value.none 0)) #[]
noncomputable def ho240 (P : Params) : Obj := Obj.mk (Value.type "code") none (Data.fields #[Value.str (Str.ofString "used_inputs") 426, Value.str (Str.ofString "Proof.used_inputs") 427, Value.str (Str.ofString "/claim/cut.py") 428, Value.int 97 0, Value.int 2 0, Value.int 0 0, Value.int 0 0, Value.int 3 0, Value.ref 190, Value.bool Bool.true, Value.int 181 0, Value.ref 191, Value.none, Value.ref 192, Value.ref 193, Value.ref 194, Value.int 431 0, Value.int 97 0, Value.str (Str.ofString "/claim/cut.py") 432]) #[]
noncomputable def ho241 (P : Params) : Obj := Obj.mk (Value.type "function") none (Data.func (FuncData.mk (Str.ofString "used_inputs") (Str.ofString "Proof.used_inputs") (fnP (inC (stA 8) 3)) (fnB (inC (stA 8) 3)) (fnS (inC (stA 8) 3)) 3 [] Value.none Value.none Value.none (Value.str (Str.ofString "minismt.proof") 269) none (Value.ref 195) Value.none 0)) #[]
noncomputable def ho242 (P : Params) : Obj := Obj.mk (Value.type "tuple") none (Data.seq #[] 0) #[]
noncomputable def ho243 (P : Params) : Obj := Obj.mk Value.none none (Data.fields #[]) #[]
noncomputable def ho244 (P : Params) : Obj := Obj.mk (Value.type "tuple") none (Data.seq #[Value.str (Str.ofString "self") 437] 0) #[]
noncomputable def ho245 (P : Params) : Obj := Obj.mk (Value.type "tuple") none (Data.seq #[] 0) #[]
noncomputable def ho246 (P : Params) : Obj := Obj.mk Value.none none (Data.func (FuncData.mk (Str.ofString "counts") (Str.ofString "Proof.counts") (fnP (inC (stA 8) 4)) (fnB (inC (stA 8) 4)) (fnS (inC (stA 8) 4)) 0 [] Value.none Value.none Value.none Value.none none Value.none Value.none 0)) #[]
noncomputable def ho247 (P : Params) : Obj := Obj.mk (Value.type "code") none (Data.fields #[Value.str (Str.ofString "counts") 434, Value.str (Str.ofString "Proof.counts") 435, Value.str (Str.ofString "/claim/cut.py") 436, Value.int 100 0, Value.int 1 0, Value.int 0 0, Value.int 0 0, Value.int 3 0, Value.ref 197, Value.bool Bool.true, Value.int 181 0, Value.ref 198, Value.none, Value.ref 199, Value.ref 200, Value.ref 201, Value.int 438 0, Value.int 100 0, Value.str (Str.ofString "/claim/cut.py") 439]) #[]
noncomputable def ho248 (P : Params) : Obj := Obj.mk (Value.type "function") none (Data.func (FuncData.mk (Str.ofString "counts") (Str.ofString "Proof.counts") (fnP (inC (stA 8) 4)) (fnB (inC (stA 8) 4)) (fnS (inC (stA 8) 4)) 3 [] Value.none Value.none Value.none (Value.str (Str.ofString "minismt.proof") 269) none (Value.ref 202) Value.none 0)) #[]
noncomputable def ho249 (P : Params) : Obj := Obj.mk (Value.type "tuple") none (Data.seq #[] 0) #[]
noncomputable def ho250 (P : Params) : Obj := Obj.mk Value.none none (Data.fields #[]) #[]
noncomputable def ho251 (P : Params) : Obj := Obj.mk (Value.type "tuple") none (Data.seq #[Value.str (Str.ofString "self") 444, Value.str (Str.ofString "last") 445] 0) #[]
noncomputable def ho252 (P : Params) : Obj := Obj.mk (Value.type "tuple") none (Data.seq #[] 0) #[]
noncomputable def ho253 (P : Params) : Obj := Obj.mk Value.none none (Data.func (FuncData.mk (Str.ofString "depth") (Str.ofString "Proof.depth") (fnP (inC (stA 8) 5)) (fnB (inC (stA 8) 5)) (fnS (inC (stA 8) 5)) 0 [] Value.none Value.none Value.none Value.none none Value.none Value.none 0)) #[]
noncomputable def ho254 (P : Params) : Obj := Obj.mk (Value.type "code") none (Data.fields #[Value.str (Str.ofString "depth") 441, Value.str (Str.ofString "Proof.depth") 442, Value.str (Str.ofString "/claim/cut.py") 443, Value.int 103 0, Value.int 2 0, Value.int 0 0, Value.int 0 0, Value.int 3 0, Value.ref 204, Value.bool Bool.true, Value.int 181 0, Value.ref 205, Value.none, Value.ref 206, Value.ref 207, Value.ref 208, Value.int 446 0, Value.int 103 0, Value.str (Str.ofString "/claim/cut.py") 447]) #[]
noncomputable def ho255 (P : Params) : Obj := Obj.mk (Value.type "function") none (Data.func (FuncData.mk (Str.ofString "depth") (Str.ofString "Proof.depth") (fnP (inC (stA 8) 5)) (fnB (inC (stA 8) 5)) (fnS (inC (stA 8) 5)) 3 [] Value.none Value.none Value.none (Value.str (Str.ofString "minismt.proof") 269) none (Value.ref 209) Value.none 0)) #[]
noncomputable def ho256 (P : Params) : Obj := Obj.mk (Value.type "tuple") none (Data.seq #[] 0) #[]
noncomputable def ho257 (P : Params) : Obj := Obj.mk (Value.type "dict") none (Data.dict #[DictEntry.mk (PyData.keyHash P (Str.ofString "__module__")) (Value.str (Str.ofString "__module__") 397) (Value.str (Str.ofString "minismt.proof") 269), DictEntry.mk (PyData.keyHash P (Str.ofString "__firstlineno__")) (Value.str (Str.ofString "__firstlineno__") 401) (Value.int 75 400), DictEntry.mk (PyData.keyHash P (Str.ofString "needed")) (Value.str (Str.ofString "needed") 412) (Value.ref 177), DictEntry.mk (PyData.keyHash P (Str.ofString "trimmed")) (Value.str (Str.ofString "trimmed") 418) (Value.ref 182), DictEntry.mk (PyData.keyHash P (Str.ofString "trim")) (Value.str (Str.ofString "trim") 425) (Value.ref 189), DictEntry.mk (PyData.keyHash P (Str.ofString "used_inputs")) (Value.str (Str.ofString "used_inputs") 433) (Value.ref 196), DictEntry.mk (PyData.keyHash P (Str.ofString "counts")) (Value.str (Str.ofString "counts") 440) (Value.ref 203), DictEntry.mk (PyData.keyHash P (Str.ofString "depth")) (Value.str (Str.ofString "depth") 448) (Value.ref 210), DictEntry.mk (PyData.keyHash P (Str.ofString "__static_attributes__")) (Value.str (Str.ofString "__static_attributes__") 449) (Value.ref 211), DictEntry.mk (PyData.keyHash P (Str.ofString "__doc__")) (Value.str (Str.ofString "__doc__") 450) Value.none] 2) #[]
noncomputable def ho258 (P : Params) : Obj := Obj.mk (Value.type "type") none (Data.cls (ClassData.mk (Str.ofString "Proof") [Value.ref 159] [Value.ref 213, Value.ref 159, Value.type "object"] 212 (Str.ofString "Proof") Bool.true [] [] Bool.false none Bool.false)) #[some (Value.ref 164), none, some (Value.str (Str.ofString "Proof") 390), some (Value.str (Str.ofString "Proof") 398), some (Value.builtin "object.__new__"), some (Value.bool Bool.true)]
noncomputable def ho259 (P : Params) : Obj := Obj.mk (Value.type "super") none (Data.fields #[Value.ref 213, Value.ref 213, Value.ref 213]) #[]
noncomputable def ho260 (P : Params) : Obj := Obj.mk (Value.type "builtin_function_or_method") none (Data.fields #[Value.builtin "object.__init_subclass__", Value.ref 213]) #[]
noncomputable def ho261 (P : Params) : Obj := Obj.mk (Value.type "dict") none (Data.dict #[DictEntry.mk (PyData.keyHash P (Str.ofString "__name__")) (Value.str (Str.ofString "__name__") 165) (Value.str (Str.ofString "law_qz0005_02") 453), DictEntry.mk (PyData.keyHash P (Str.ofString "__doc__")) (Value.str (Str.ofString "__doc__") 166) Value.none, DictEntry.mk (PyData.keyHash P (Str.ofString "__package__")) (Value.str (Str.ofString "__package__") 167) Value.none, DictEntry.mk (PyData.keyHash P (Str.ofString "__loader__")) (Value.str (Str.ofString "__loader__") 168) (Value.builtin "__main__.__loader__#opaque"), DictEntry.mk (PyData.keyHash P (Str.ofString "__spec__")) (Value.str (Str.ofString "__spec__") 169) Value.none, DictEntry.mk (PyData.keyHash P (Str.ofString "__annotations__")) (Value.str (Str.ofString "__annotations__") 170) (Value.ref 6), DictEntry.mk (PyData.keyHash P (Str.ofString "__builtins__")) (Value.str (Str.ofString "__builtins__") 171) (Value.ref 4), DictEntry.mk (PyData.keyHash P (Str.ofString "__file__")) (Value.str (Str.ofString "__file__") 173) (Value.str (Str.ofString "/claim/cut.py") 172), DictEntry.mk (PyData.keyHash P (Str.ofString "__cached__")) (Value.str (Str.ofString "__cached__") 174) Value.none, DictEntry.mk (PyData.keyHash P (Str.ofString "_wall")) (Value.str (Str.ofString "_wall") 193) (Value.ref 21), DictEntry.mk (PyData.keyHash P (Str.ofString "SmtError")) (Value.str (Str.ofString "SmtError") 233) (Value.ref 47), DictEntry.mk (PyData.keyHash P (Str.ofString "ProofFault")) (Value.str (Str.ofString "ProofFault") 268) (Value.ref 76), DictEntry.mk (PyData.keyHash P (Str.ofString "RULES")) (Value.str (Str.ofString "RULES") 282) (Value.ref 79), DictEntry.mk (PyData.keyHash P (Str.ofString "is_tidy")) (Value.str (Str.ofString "is_tidy") 290) (Value.ref 86), DictEntry.mk (PyData.keyHash P (Str.ofString "Steps")) (Value.str (Str.ofString "Steps") 389) (Value.ref 159), DictEntry.mk (PyData.keyHash P (Str.ofString "Proof")) (Value.str (Str.ofString "Proof") 452) (Value.ref 213), DictEntry.mk (PyData.keyHash P (Str.ofString "_law_rules")) (Value.str (Str.ofString "_law_rules") 458) (Value.ref 216), DictEntry.mk (PyData.keyHash P (Str.ofString "_law_nip")) (Value.str (Str.ofString "_law_nip") 467) (Value.ref 223), DictEntry.mk (PyData.keyHash P (Str.ofString "_law_in_common")) (Value.str (Str.ofString "_law_in_common") 473) (Value.ref 228), DictEntry.mk (PyData.keyHash P (Str.ofString "_law_roads")) (Value.str (Str.ofString "_law_roads") 484) (Value.ref 235), DictEntry.mk (PyData.keyHash P (Str.ofString "_law_put")) (Value.str (Str.ofString "_law_put") 495) (Value.ref 242), DictEntry.mk (PyData.keyHash P (Str.ofString "_law_alone_right")) (Value.str (Str.ofString "_law_alone_right") 501) (Value.ref 247), DictEntry.mk (PyData.keyHash P (Str.ofString "law")) (Value.str (Str.ofString "law") 507) (Value.ref 252)] 23) #[]
noncomputable def ho262 (P : Params) : Obj := Obj.mk Value.none none (Data.fields #[Value.int 1 0, Value.int 0 0, Value.ref 20, Value.int 5 0, Value.int 0 0, Value.ref 28, Value.int 13 0, Value.int 0 0, Value.ref 57, Value.int 23 0, Value.int 0 0, Value.ref 85, Value.int 30 0, Value.int 0 0, Value.ref 92, Value.int 75 0, Value.int 0 0, Value.ref 169, Value.int 107 0, Value.int 0 0, Value.ref 222, Value.int 113 0, Value.int 0 0, Value.ref 227, Value.int 120 0, Value.int 0 0, Value.ref 234, Value.int 127 0, Value.int 0 0, Value.ref 241, Value.int 132 0, Value.int 0 0, Value.ref 246, Value.int 139 0, Value.int 0 0, Value.ref 251]) #[]
noncomputable def ho263 (P : Params) : Obj := Obj.mk (Value.type "tuple") none (Data.seq #[Value.str (Str.ofString "input") 455, Value.str (Str.ofString "resolve") 456, Value.str (Str.ofString "congruence") 457] 0) #[]
noncomputable def ho264 (P : Params) : Obj := Obj.mk (Value.type "tuple") none (Data.seq #[] 0) #[]
noncomputable def ho265 (P : Params) : Obj := Obj.mk Value.none none (Data.fields #[]) #[]
noncomputable def ho266 (P : Params) : Obj := Obj.mk (Value.type "tuple") none (Data.seq #[Value.str (Str.ofString "keg") 462, Value.str (Str.ofString "many") 463, Value.str (Str.ofString "k") 464] 0) #[]
noncomputable def ho267 (P : Params) : Obj := Obj.mk (Value.type "tuple") none (Data.seq #[] 0) #[]
noncomputable def ho268 (P : Params) : Obj := Obj.mk Value.none none (Data.func (FuncData.mk (Str.ofString "_law_nip") (Str.ofString "_law_nip") (fnP (stA 11)) (fnB (stA 11)) (fnS (stA 11)) 0 [] Value.none Value.none Value.none Value.none none Value.none Value.none 0)) #[]
noncomputable def ho269 (P : Params) : Obj := Obj.mk (Value.type "code") none (Data.fields #[Value.str (Str.ofString "_law_nip") 459, Value.str (Str.ofString "_law_nip") 460, Value.str (Str.ofString "/claim/cut.py") 461, Value.int 107 0, Value.int 2 0, Value.int 0 0, Value.int 0 0, Value.int 3 0, Value.ref 217, Value.bool Bool.true, Value.int 181 0, Value.ref 218, Value.none, Value.ref 219, Value.ref 220, Value.ref 221, Value.int 465 0, Value.int 107 0, Value.str (Str.ofString "/claim/cut.py") 466]) #[]
noncomputable def ho270 (P : Params) : Obj := Obj.mk (Value.type "function") none (Data.func (FuncData.mk (Str.ofString "_law_nip") (Str.ofString "_law_nip") (fnP (stA 11)) (fnB (stA 11)) (fnS (stA 11)) 3 [] Value.none Value.none Value.none (Value.str (Str.ofString "law_qz0005_02") 453) none (Value.ref 222) Value.none 0)) #[]
noncomputable def ho271 (P : Params) : Obj := Obj.mk (Value.type "tuple") none (Data.seq #[] 0) #[]
noncomputable def ho272 (P : Params) : Obj := Obj.mk Value.none none (Data.fields #[]) #[]
noncomputable def ho273 (P : Params) : Obj := Obj.mk Value.none none (Data.func (FuncData.mk (Str.ofString "_law_in_common") (Str.ofString "_law_in_common") (fnP (stA 12)) (fnB (stA 12)) (fnS (stA 12)) 0 [] Value.none Value.none Value.none Value.none none Value.none Value.none 0)) #[]
noncomputable def ho274 (P : Params) : Obj := Obj.mk (Value.type "code") none (Data.fields #[Value.str (Str.ofString "_law_in_common") 468, Value.str (Str.ofString "_law_in_common") 469, Value.str (Str.ofString "/claim/cut.py") 470, Value.int 113 0, Value.int 2 0, Value.int 0 0, Value.int 0 0, Value.int 3 0, Value.ref 224, Value.bool Bool.true, Value.int 181 0, Value.ref 225, Value.none, Value.none, Value.none, Value.ref 226, Value.int 471 0, Value.int 113 0, Value.str (Str.ofString "/claim/cut.py") 472]) #[]
noncomputable def ho275 (P : Params) : Obj := Obj.mk (Value.type "function") none (Data.func (FuncData.mk (Str.ofString "_law_in_common") (Str.ofString "_law_in_common") (fnP (stA 12)) (fnB (stA 12)) (fnS (stA 12)) 3 [] Value.none Value.none Value.none (Value.str (Str.ofString "law_qz0005_02") 453) none (Value.ref 227) Value.none 0)) #[]
noncomputable def ho276 (P : Params) : Obj := Obj.mk (Value.type "tuple") none (Data.seq #[] 0) #[]
noncomputable def ho277 (P : Params) : Obj := Obj.mk Value.none none (Data.fields #[]) #[]
noncomputable def ho278 (P : Params) : Obj := Obj.mk (Value.type "tuple") none (Data.seq #[Value.str (Str.ofString "rows") 477, Value.str (Str.ofString "last") 478, Value.str (Str.ofString "roads") 479, Value.str (Str.ofString "n") 480, Value.str (Str.ofString "one") 481] 0) #[]
noncomputable def ho279 (P : Params) : Obj := Obj.mk (Value.type "tuple") none (Data.seq #[] 0) #[]
noncomputable def ho280 (P : Params) : Obj := Obj.mk Value.none none (Data.func (FuncData.mk (Str.ofString "_law_roads") (Str.ofString "_law_roads") (fnP (stA 13)) (fnB (stA 13)) (fnS (stA 13)) 0 [] Value.none Value.none Value.none Value.none none Value.none Value.none 0)) #[]
noncomputable def ho281 (P : Params) : Obj := Obj.mk (Value.type "code") none (Data.fields #[Value.str (Str.ofString "_law_roads") 474, Value.str (Str.ofString "_law_roads") 475, Value.str (Str.ofString "/claim/cut.py") 476, Value.int 120 0, Value.int 2 0, Value.int 0 0, Value.int 0 0, Value.int 3 0, Value.ref 229, Value.bool Bool.true, Value.int 181 0, Value.ref 230, Value.none, Value.ref 231, Value.ref 232, Value.ref 233, Value.int 482 0, Value.int 120 0, Value.str (Str.ofString "/claim/cut.py") 483]) #[]
noncomputable def ho282 (P : Params) : Obj := Obj.mk (Value.type "function") none (Data.func (FuncData.mk (Str.ofString "_law_roads") (Str.ofString "_law_roads") (fnP (stA 13)) (fnB (stA 13)) (fnS (stA 13)) 3 [] Value.none Value.none Value.none (Value.str (Str.ofString "law_qz0005_02") 453) none (Value.ref 234) Value.none 0)) #[]
noncomputable def ho283 (P : Params) : Obj := Obj.mk (Value.type "tuple") none (Data.seq #[] 0) #[]
noncomputable def ho284 (P : Params) : Obj := Obj.mk Value.none none (Data.fields #[]) #[]
noncomputable def ho285 (P : Params) : Obj := Obj.mk (Value.type "tuple") none (Data.seq #[Value.str (Str.ofString "steps") 488, Value.str (Str.ofString "proof") 489, Value.str (Str.ofString "n") 490, Value.str (Str.ofString "rule") 491, Value.str (Str.ofString "premises") 492] 0) #[]
noncomputable def ho286 (P : Params) : Obj := Obj.mk (Value.type "tuple") none (Data.seq #[] 0) #[]
noncomputable def ho287 (P : Params) : Obj := Obj.mk Value.none none (Data.func (FuncData.mk (Str.ofString "_law_put") (Str.ofString "_law_put") (fnP (stA 14)) (fnB (stA 14)) (fnS (stA 14)) 0 [] Value.none Value.none Value.none Value.none none Value.none Value.none 0)) #[]
noncomputable def ho288 (P : Params) : Obj := Obj.mk (Value.type "code") none (Data.fields #[Value.str (Str.ofString "_law_put") 485, Value.str (Str.ofString "_law_put") 486, Value.str (Str.ofString "/claim/cut.py") 487, Value.int 127 0, Value.int 1 0, Value.int 0 0, Value.int 0 0, Value.int 3 0, Value.ref 236, Value.bool Bool.true, Value.int 181 0, Value.ref 237, Value.none, Value.ref 238, Value.ref 239, Value.ref 240, Value.int 493 0, Value.int 127 0, Value.str (Str.ofString "/claim/cut.py") 494]) #[]
noncomputable def ho289 (P : Params) : Obj := Obj.mk (Value.type "function") none (Data.func (FuncData.mk (Str.ofString "_law_put") (Str.ofString "_law_put") (fnP (stA 14)) (fnB (stA 14)) (fnS (stA 14)) 3 [] Value.none Value.none Value.none (Value.str (Str.ofString "law_qz0005_02") 453) none (Value.ref 241) Value.none 0)) #[]
noncomputable def ho290 (P : Params) : Obj := Obj.mk (Value.type "tuple") none (Data.seq #[] 0) #[]
noncomputable def ho291 (P : Params) : Obj := Obj.mk Value.none none (Data.fields #[]) #[]
noncomputable def ho292 (P : Params) : Obj := Obj.mk Value.none none (Data.func (FuncData.mk (Str.ofString "_law_alone_right") (Str.ofString "_law_alone_right") (fnP (stA 15)) (fnB (stA 15)) (fnS (stA 15)) 0 [] Value.none Value.none Value.none Value.none none Value.none Value.none 0)) #[]
noncomputable def ho293 (P : Params) : Obj := Obj.mk (Value.type "code") none (Data.fields #[Value.str (Str.ofString "_law_alone_right") 496, Value.str (Str.ofString "_law_alone_right") 497, Value.str (Str.ofString "/claim/cut.py") 498, Value.int 132 0, Value.int 4 0, Value.int 0 0, Value.int 0 0, Value.int 3 0, Value.ref 243, Value.bool Bool.true, Value.int 181 0, Value.ref 244, Value.none, Value.none, Value.none, Value.ref 245, Value.int 499 0, Value.int 132 0, Value.str (Str.ofString "/claim/cut.py") 500]) #[]
noncomputable def ho294 (P : Params) : Obj := Obj.mk (Value.type "function") none (Data.func (FuncData.mk (Str.ofString "_law_alone_right") (Str.ofString "_law_alone_right") (fnP (stA 15)) (fnB (stA 15)) (fnS (stA 15)) 3 [] Value.none Value.none Value.none (Value.str (Str.ofString "law_qz0005_02") 453) none (Value.ref 246) Value.none 0)) #[]
noncomputable def ho295 (P : Params) : Obj := Obj.mk (Value.type "tuple") none (Data.seq #[] 0) #[]
noncomputable def ho296 (P : Params) : Obj := Obj.mk Value.none none (Data.fields #[]) #[]
noncomputable def ho297 (P : Params) : Obj := Obj.mk Value.none none (Data.func (FuncData.mk (Str.ofString "law") (Str.ofString "law") (fnP (stA 16)) (fnB (stA 16)) (fnS (stA 16)) 0 [] Value.none Value.none Value.none Value.none none Value.none Value.none 0)) #[]
noncomputable def ho298 (P : Params) : Obj := Obj.mk (Value.type "code") none (Data.fields #[Value.str (Str.ofString "law") 502, Value.str (Str.ofString "law") 503, Value.str (Str.ofString "/claim/cut.py") 504, Value.int 139 0, Value.int 1 0, Value.int 0 0, Value.int 0 0, Value.int 3 0, Value.ref 248, Value.bool Bool.true, Value.int 181 0, Value.ref 249, Value.none, Value.none, Value.none, Value.ref 250, Value.int 505 0, Value.int 139 0, Value.str (Str.ofString "/claim/cut.py") 506]) #[]
noncomputable def ho299 (P : Params) : Obj := Obj.mk (Value.type "function") none (Data.func (FuncData.mk (Str.ofString "law") (Str.ofString "law") (fnP (stA 16)) (fnB (stA 16)) (fnS (stA 16)) 3 [] Value.none Value.none Value.none (Value.str (Str.ofString "law_qz0005_02") 453) none (Value.ref 251) Value.none 0)) #[]
noncomputable def henv41 : Env := Env.mk (Module.scope (Program.main PW)) mainNs mainNs [] Str.empty none (Value.ref 13) (some 14) 0
noncomputable def hheap46 (P : Params) : Heap := Heap.mk (Array.mk [W.boot_o_0 P, W.boot_o_1 P, W.boot_o_2 P, W.boot_o_3 P, W.boot_o_4 P, W.boot_o_5 P, W.boot_o_6 P, W.boot_o_7 P, W.boot_o_8 P, W.boot_o_9 P, W.boot_o_10 P, ho43 P, ho44 P, ho45 P, ho46 P]) (Life.mk [] [] [] 0 [] [] Bool.false #[] [] 0 Bool.false Bool.false Bool.false 0 [2000, 10, 10] Bool.false 0 Bool.true [] [] 0 Bool.false)
noncomputable def htree47 (P : Params) : BT := W.BT.node (W.boot_o_0 P) (W.BT.node (W.boot_o_1 P) (W.BT.node (W.boot_o_3 P) (W.BT.node (W.boot_o_7 P) W.BT.nil W.BT.nil) (W.BT.node (ho43 P) W.BT.nil W.BT.nil)) (W.BT.node (W.boot_o_5 P) (W.BT.node (W.boot_o_9 P) W.BT.nil W.BT.nil) (W.BT.node (ho45 P) W.BT.nil W.BT.nil))) (W.BT.node (W.boot_o_2 P) (W.BT.node (W.boot_o_4 P) (W.BT.node (W.boot_o_8 P) W.BT.nil W.BT.nil) (W.BT.node (ho44 P) W.BT.nil W.BT.nil)) (W.BT.node (W.boot_o_6 P) (W.BT.node (W.boot_o_10 P) W.BT.nil W.BT.nil) (W.BT.node (ho46 P) W.BT.nil W.BT.nil)))
noncomputable def hsts49 : List Stmt := [stA 0, stA 1, stA 2]
noncomputable def htree87 (P : Params) : BT := W.BT.node (W.boot_o_0 P) (W.BT.node (W.boot_o_1 P) (W.BT.node (ho50 P) (W.BT.node (W.boot_o_7 P) (W.BT.node (ho52 P) (W.BT.node (ho68 P) W.BT.nil W.BT.nil) (W.BT.node (ho84 P) W.BT.nil W.BT.nil)) (W.BT.node (ho60 P) (W.BT.node (ho76 P) W.BT.nil W.BT.nil) W.BT.nil)) (W.BT.node (ho43 P) (W.BT.node (ho56 P) (W.BT.node (ho72 P) W.BT.nil W.BT.nil) W.BT.nil) (W.BT.node (ho64 P) (W.BT.node (ho80 P) W.BT.nil W.BT.nil) W.BT.nil))) (W.BT.node (W.boot_o_5 P) (W.BT.node (W.boot_o_9 P) (W.BT.node (ho54 P) (W.BT.node (ho70 P) W.BT.nil W.BT.nil) (W.BT.node (ho86 P) W.BT.nil W.BT.nil)) (W.BT.node (ho62 P) (W.BT.node (ho78 P) W.BT.nil W.BT.nil) W.BT.nil)) (W.BT.node (ho45 P) (W.BT.node (ho58 P) (W.BT.node (ho74 P) W.BT.nil W.BT.nil) W.BT.nil) (W.BT.node (ho66 P) (W.BT.node (ho82 P) W.BT.nil W.BT.nil) W.BT.nil)))) (W.BT.node (ho49 P) (W.BT.node (W.boot_o_4 P) (W.BT.node (W.boot_o_8 P) (W.BT.node (ho53 P) (W.BT.node (ho69 P) W.BT.nil W.BT.nil) (W.BT.node (ho85 P) W.BT.nil W.BT.nil)) (W.BT.node (ho61 P) (W.BT.node (ho77 P) W.BT.nil W.BT.nil) W.BT.nil)) (W.BT.node (ho51 P) (W.BT.node (ho57 P) (W.BT.node (ho73 P) W.BT.nil W.BT.nil) W.BT.nil) (W.BT.node (ho65 P) (W.BT.node (ho81 P) W.BT.nil W.BT.nil) W.BT.nil))) (W.BT.node (W.boot_o_6 P) (W.BT.node (W.boot_o_10 P) (W.BT.node (ho55 P) (W.BT.node (ho71 P) W.BT.nil W.BT.nil) (W.BT.node (ho87 P) W.BT.nil W.BT.nil)) (W.BT.node (ho63 P) (W.BT.node (ho79 P) W.BT.nil W.BT.nil) W.BT.nil)) (W.BT.node (ho46 P) (W.BT.node (ho59 P) (W.BT.node (ho75 P) W.BT.nil W.BT.nil) W.BT.nil) (W.BT.node (ho67 P) (W.BT.node (ho83 P) W.BT.nil W.BT.nil) W.BT.nil))))
noncomputable def hsts88 : List Stmt := [stA 3, stA 4, stA 5, stA 6]
noncomputable def htree126 (P : Params) : BT := W.BT.node (W.boot_o_0 P) (W.BT.node (W.boot_o_1 P) (W.BT.node (ho88 P) (W.BT.node (W.boot_o_7 P) (W.BT.node (ho52 P) (W.BT.node (ho68 P) (W.BT.node (ho103 P) W.BT.nil W.BT.nil) W.BT.nil) (W.BT.node (ho90 P) (W.BT.node (ho119 P) W.BT.nil W.BT.nil) W.BT.nil)) (W.BT.node (ho60 P) (W.BT.node (ho76 P) (W.BT.node (ho111 P) W.BT.nil W.BT.nil) W.BT.nil) (W.BT.node (ho95 P) W.BT.nil W.BT.nil))) (W.BT.node (ho43 P) (W.BT.node (ho56 P) (W.BT.node (ho72 P) (W.BT.node (ho107 P) W.BT.nil W.BT.nil) W.BT.nil) (W.BT.node (ho91 P) (W.BT.node (ho123 P) W.BT.nil W.BT.nil) W.BT.nil)) (W.BT.node (ho64 P) (W.BT.node (ho80 P) (W.BT.node (ho115 P) W.BT.nil W.BT.nil) W.BT.nil) (W.BT.node (ho99 P) W.BT.nil W.BT.nil)))) (W.BT.node (W.boot_o_5 P) (W.BT.node (W.boot_o_9 P) (W.BT.node (ho54 P) (W.BT.node (ho70 P) (W.BT.node (ho105 P) W.BT.nil W.BT.nil) W.BT.nil) (W.BT.node (ho86 P) (W.BT.node (ho121 P) W.BT.nil W.BT.nil) W.BT.nil)) (W.BT.node (ho62 P) (W.BT.node (ho78 P) (W.BT.node (ho113 P) W.BT.nil W.BT.nil) W.BT.nil) (W.BT.node (ho97 P) W.BT.nil W.BT.nil))) (W.BT.node (ho45 P) (W.BT.node (ho58 P) (W.BT.node (ho74 P) (W.BT.node (ho109 P) W.BT.nil W.BT.nil) W.BT.nil) (W.BT.node (ho93 P) (W.BT.node (ho125 P) W.BT.nil W.BT.nil) W.BT.nil)) (W.BT.node (ho66 P) (W.BT.node (ho82 P) (W.BT.node (ho117 P) W.BT.nil W.BT.nil) W.BT.nil) (W.BT.node (ho101 P) W.BT.nil W.BT.nil))))) (W.BT.node (ho49 P) (W.BT.node (W.boot_o_4 P) (W.BT.node (W.boot_o_8 P) (W.BT.node (ho53 P) (W.BT.node (ho69 P) (W.BT.node (ho104 P) W.BT.nil W.BT.nil) W.BT.nil) (W.BT.node (ho85 P) (W.BT.node (ho120 P) W.BT.nil W.BT.nil) W.BT.nil)) (W.BT.node (ho61 P) (W.BT.node (ho77 P) (W.BT.node (ho112 P) W.BT.nil W.BT.nil) W.BT.nil) (W.BT.node (ho96 P) W.BT.nil W.BT.nil))) (W.BT.node (ho89 P) (W.BT.node (ho57 P) (W.BT.node (ho73 P) (W.BT.node (ho108 P) W.BT.nil W.BT.nil) W.BT.nil) (W.BT.node (ho92 P) (W.BT.node (ho124 P) W.BT.nil W.BT.nil) W.BT.nil)) (W.BT.node (ho65 P) (W.BT.node (ho81 P) (W.BT.node (ho116 P) W.BT.nil W.BT.nil) W.BT.nil) (W.BT.node (ho100 P) W.BT.nil W.BT.nil)))) (W.BT.node (W.boot_o_6 P) (W.BT.node (W.boot_o_10 P) (W.BT.node (ho55 P) (W.BT.node (ho71 P) (W.BT.node (ho106 P) W.BT.nil W.BT.nil) W.BT.nil) (W.BT.node (ho87 P) (W.BT.node (ho122 P) W.BT.nil W.BT.nil) W.BT.nil)) (W.BT.node (ho63 P) (W.BT.node (ho79 P) (W.BT.node (ho114 P) W.BT.nil W.BT.nil) W.BT.nil) (W.BT.node (ho98 P) W.BT.nil W.BT.nil))) (W.BT.node (ho46 P) (W.BT.node (ho59 P) (W.BT.node (ho75 P) (W.BT.node (ho110 P) W.BT.nil W.BT.nil) W.BT.nil) (W.BT.node (ho94 P) (W.BT.node (ho126 P) W.BT.nil W.BT.nil) W.BT.nil)) (W.BT.node (ho67 P) (W.BT.node (ho83 P) (W.BT.node (ho118 P) W.BT.nil W.BT.nil) W.BT.nil) (W.BT.node (ho102 P) W.BT.nil W.BT.nil)))))
noncomputable def hsts127 : List Stmt := [stA 7]
noncomputable def htree205 (P : Params) : BT := W.BT.node (W.boot_o_0 P) (W.BT.node (W.boot_o_1 P) (W.BT.node (ho127 P) (W.BT.node (W.boot_o_7 P) (W.BT.node (ho52 P) (W.BT.node (ho68 P) (W.BT.node (ho103 P) (W.BT.node (ho169 P) W.BT.nil W.BT.nil) W.BT.nil) (W.BT.node (ho137 P) (W.BT.node (ho201 P) W.BT.nil W.BT.nil) W.BT.nil)) (W.BT.node (ho90 P) (W.BT.node (ho119 P) (W.BT.node (ho185 P) W.BT.nil W.BT.nil) W.BT.nil) (W.BT.node (ho153 P) W.BT.nil W.BT.nil))) (W.BT.node (ho60 P) (W.BT.node (ho76 P) (W.BT.node (ho111 P) (W.BT.node (ho177 P) W.BT.nil W.BT.nil) W.BT.nil) (W.BT.node (ho145 P) W.BT.nil W.BT.nil)) (W.BT.node (ho95 P) (W.BT.node (ho129 P) (W.BT.node (ho193 P) W.BT.nil W.BT.nil) W.BT.nil) (W.BT.node (ho161 P) W.BT.nil W.BT.nil)))) (W.BT.node (ho43 P) (W.BT.node (ho56 P) (W.BT.node (ho72 P) (W.BT.node (ho107 P) (W.BT.node (ho173 P) W.BT.nil W.BT.nil) W.BT.nil) (W.BT.node (ho141 P) (W.BT.node (ho205 P) W.BT.nil W.BT.nil) W.BT.nil)) (W.BT.node (ho91 P) (W.BT.node (ho123 P) (W.BT.node (ho189 P) W.BT.nil W.BT.nil) W.BT.nil) (W.BT.node (ho157 P) W.BT.nil W.BT.nil))) (W.BT.node (ho64 P) (W.BT.node (ho80 P) (W.BT.node (ho115 P) (W.BT.node (ho181 P) W.BT.nil W.BT.nil) W.BT.nil) (W.BT.node (ho149 P) W.BT.nil W.BT.nil)) (W.BT.node (ho99 P) (W.BT.node (ho133 P) (W.BT.node (ho197 P) W.BT.nil W.BT.nil) W.BT.nil) (W.BT.node (ho165 P) W.BT.nil W.BT.nil))))) (W.BT.node (W.boot_o_5 P) (W.BT.node (W.boot_o_9 P) (W.BT.node (ho54 P) (W.BT.node (ho70 P) (W.BT.node (ho105 P) (W.BT.node (ho171 P) W.BT.nil W.BT.nil) W.BT.nil) (W.BT.node (ho139 P) (W.BT.node (ho203 P) W.BT.nil W.BT.nil) W.BT.nil)) (W.BT.node (ho86 P) (W.BT.node (ho121 P) (W.BT.node (ho187 P) W.BT.nil W.BT.nil) W.BT.nil) (W.BT.node (ho155 P) W.BT.nil W.BT.nil))) (W.BT.node (ho62 P) (W.BT.node (ho78 P) (W.BT.node (ho113 P) (W.BT.node (ho179 P) W.BT.nil W.BT.nil) W.BT.nil) (W.BT.node (ho147 P) W.BT.nil W.BT.nil)) (W.BT.node (ho97 P) (W.BT.node (ho131 P) (W.BT.node (ho195 P) W.BT.nil W.BT.nil) W.BT.nil) (W.BT.node (ho163 P) W.BT.nil W.BT.nil)))) (W.BT.node (ho45 P) (W.BT.node (ho58 P) (W.BT.node (ho74 P) (W.BT.node (ho109 P) (W.BT.node (ho175 P) W.BT.nil W.BT.nil) W.BT.nil) (W.BT.node (ho143 P) W.BT.nil W.BT.nil)) (W.BT.node (ho93 P) (W.BT.node (ho125 P) (W.BT.node (ho191 P) W.BT.nil W.BT.nil) W.BT.nil) (W.BT.node (ho159 P) W.BT.nil W.BT.nil))) (W.BT.node (ho66 P) (W.BT.node (ho82 P) (W.BT.node (ho117 P) (W.BT.node (ho183 P) W.BT.nil W.BT.nil) W.BT.nil) (W.BT.node (ho151 P) W.BT.nil W.BT.nil)) (W.BT.node (ho101 P) (W.BT.node (ho135 P) (W.BT.node (ho199 P) W.BT.nil W.BT.nil) W.BT.nil) (W.BT.node (ho167 P) W.BT.nil W.BT.nil)))))) (W.BT.node (ho49 P) (W.BT.node (W.boot_o_4 P) (W.BT.node (W.boot_o_8 P) (W.BT.node (ho53 P) (W.BT.node (ho69 P) (W.BT.node (ho104 P) (W.BT.node (ho170 P) W.BT.nil W.BT.nil) W.BT.nil) (W.BT.node (ho138 P) (W.BT.node (ho202 P) W.BT.nil W.BT.nil) W.BT.nil)) (W.BT.node (ho85 P) (W.BT.node (ho120 P) (W.BT.node (ho186 P) W.BT.nil W.BT.nil) W.BT.nil) (W.BT.node (ho154 P) W.BT.nil W.BT.nil))) (W.BT.node (ho61 P) (W.BT.node (ho77 P) (W.BT.node (ho112 P) (W.BT.node (ho178 P) W.BT.nil W.BT.nil) W.BT.nil) (W.BT.node (ho146 P) W.BT.nil W.BT.nil)) (W.BT.node (ho96 P) (W.BT.node (ho130 P) (W.BT.node (ho194 P) W.BT.nil W.BT.nil) W.BT.nil) (W.BT.node (ho162 P) W.BT.nil W.BT.nil)))) (W.BT.node (ho128 P) (W.BT.node (ho57 P) (W.BT.node (ho73 P) (W.BT.node (ho108 P) (W.BT.node (ho174 P) W.BT.nil W.BT.nil) W.BT.nil) (W.BT.node (ho142 P) W.BT.nil W.BT.nil)) (W.BT.node (ho92 P) (W.BT.node (ho124 P) (W.BT.node (ho190 P) W.BT.nil W.BT.nil) W.BT.nil) (W.BT.node (ho158 P) W.BT.nil W.BT.nil))) (W.BT.node (ho65 P) (W.BT.node (ho81 P) (W.BT.node (ho116 P) (W.BT.node (ho182 P) W.BT.nil W.BT.nil) W.BT.nil) (W.BT.node (ho150 P) W.BT.nil W.BT.nil)) (W.BT.node (ho100 P) (W.BT.node (ho134 P) (W.BT.node (ho198 P) W.BT.nil W.BT.nil) W.BT.nil) (W.BT.node (ho166 P) W.BT.nil W.BT.nil))))) (W.BT.node (W.boot_o_6 P) (W.BT.node (W.boot_o_10 P) (W.BT.node (ho55 P) (W.BT.node (ho71 P) (W.BT.node (ho106 P) (W.BT.node (ho172 P) W.BT.nil W.BT.nil) W.BT.nil) (W.BT.node (ho140 P) (W.BT.node (ho204 P) W.BT.nil W.BT.nil) W.BT.nil)) (W.BT.node (ho87 P) (W.BT.node (ho122 P) (W.BT.node (ho188 P) W.BT.nil W.BT.nil) W.BT.nil) (W.BT.node (ho156 P) W.BT.nil W.BT.nil))) (W.BT.node (ho63 P) (W.BT.node (ho79 P) (W.BT.node (ho114 P) (W.BT.node (ho180 P) W.BT.nil W.BT.nil) W.BT.nil) (W.BT.node (ho148 P) W.BT.nil W.BT.nil)) (W.BT.node (ho98 P) (W.BT.node (ho132 P) (W.BT.node (ho196 P) W.BT.nil W.BT.nil) W.BT.nil) (W.BT.node (ho164 P) W.BT.nil W.BT.nil)))) (W.BT.node (ho46 P) (W.BT.node (ho59 P) (W.BT.node (ho75 P) (W.BT.node (ho110 P) (W.BT.node (ho176 P) W.BT.nil W.BT.nil) W.BT.nil) (W.BT.node (ho144 P) W.BT.nil W.BT.nil)) (W.BT.node (ho94 P) (W.BT.node (ho126 P) (W.BT.node (ho192 P) W.BT.nil W.BT.nil) W.BT.nil) (W.BT.node (ho160 P) W.BT.nil W.BT.nil))) (W.BT.node (ho67 P) (W.BT.node (ho83 P) (W.BT.node (ho118 P) (W.BT.node (ho184 P) W.BT.nil W.BT.nil) W.BT.nil) (W.BT.node (ho152 P) W.BT.nil W.BT.nil)) (W.BT.node (ho102 P) (W.BT.node (ho136 P) (W.BT.node (ho200 P) W.BT.nil W.BT.nil) W.BT.nil) (W.BT.node (ho168 P) W.BT.nil W.BT.nil))))))
noncomputable def hsts206 : List Stmt := [stA 8]
noncomputable def htree260 (P : Params) : BT := W.BT.node (W.boot_o_0 P) (W.BT.node (W.boot_o_1 P) (W.BT.node (ho206 P) (W.BT.node (W.boot_o_7 P) (W.BT.node (ho52 P) (W.BT.node (ho68 P) (W.BT.node (ho103 P) (W.BT.node (ho169 P) W.BT.nil W.BT.nil) (W.BT.node (ho236 P) W.BT.nil W.BT.nil)) (W.BT.node (ho137 P) (W.BT.node (ho208 P) W.BT.nil W.BT.nil) W.BT.nil)) (W.BT.node (ho90 P) (W.BT.node (ho119 P) (W.BT.node (ho185 P) W.BT.nil W.BT.nil) (W.BT.node (ho252 P) W.BT.nil W.BT.nil)) (W.BT.node (ho153 P) (W.BT.node (ho220 P) W.BT.nil W.BT.nil) W.BT.nil))) (W.BT.node (ho60 P) (W.BT.node (ho76 P) (W.BT.node (ho111 P) (W.BT.node (ho177 P) W.BT.nil W.BT.nil) (W.BT.node (ho244 P) W.BT.nil W.BT.nil)) (W.BT.node (ho145 P) (W.BT.node (ho212 P) W.BT.nil W.BT.nil) W.BT.nil)) (W.BT.node (ho95 P) (W.BT.node (ho129 P) (W.BT.node (ho193 P) W.BT.nil W.BT.nil) (W.BT.node (ho260 P) W.BT.nil W.BT.nil)) (W.BT.node (ho161 P) (W.BT.node (ho228 P) W.BT.nil W.BT.nil) W.BT.nil)))) (W.BT.node (ho43 P) (W.BT.node (ho56 P) (W.BT.node (ho72 P) (W.BT.node (ho107 P) (W.BT.node (ho173 P) W.BT.nil W.BT.nil) (W.BT.node (ho240 P) W.BT.nil W.BT.nil)) (W.BT.node (ho141 P) (W.BT.node (ho205 P) W.BT.nil W.BT.nil) W.BT.nil)) (W.BT.node (ho91 P) (W.BT.node (ho123 P) (W.BT.node (ho189 P) W.BT.nil W.BT.nil) (W.BT.node (ho256 P) W.BT.nil W.BT.nil)) (W.BT.node (ho157 P) (W.BT.node (ho224 P) W.BT.nil W.BT.nil) W.BT.nil))) (W.BT.node (ho64 P) (W.BT.node (ho80 P) (W.BT.node (ho115 P) (W.BT.node (ho181 P) W.BT.nil W.BT.nil) (W.BT.node (ho248 P) W.BT.nil W.BT.nil)) (W.BT.node (ho149 P) (W.BT.node (ho216 P) W.BT.nil W.BT.nil) W.BT.nil)) (W.BT.node (ho99 P) (W.BT.node (ho133 P) (W.BT.node (ho197 P) W.BT.nil W.BT.nil) W.BT.nil) (W.BT.node (ho165 P) (W.BT.node (ho232 P) W.BT.nil W.BT.nil) W.BT.nil))))) (W.BT.node (W.boot_o_5 P) (W.BT.node (W.boot_o_9 P) (W.BT.node (ho54 P) (W.BT.node (ho70 P) (W.BT.node (ho105 P) (W.BT.node (ho171 P) W.BT.nil W.BT.nil) (W.BT.node (ho238 P) W.BT.nil W.BT.nil)) (W.BT.node (ho139 P) (W.BT.node (ho203 P) W.BT.nil W.BT.nil) W.BT.nil)) (W.BT.node (ho86 P) (W.BT.node (ho121 P) (W.BT.node (ho187 P) W.BT.nil W.BT.nil) (W.BT.node (ho254 P) W.BT.nil W.BT.nil)) (W.BT.node (ho155 P) (W.BT.node (ho222 P) W.BT.nil W.BT.nil) W.BT.nil))) (W.BT.node (ho62 P) (W.BT.node (ho78 P) (W.BT.node (ho113 P) (W.BT.node (ho179 P) W.BT.nil W.BT.nil) (W.BT.node (ho246 P) W.BT.nil W.BT.nil)) (W.BT.node (ho147 P) (W.BT.node (ho214 P) W.BT.nil W.BT.nil) W.BT.nil)) (W.BT.node (ho97 P) (W.BT.node (ho131 P) (W.BT.node (ho195 P) W.BT.nil W.BT.nil) W.BT.nil) (W.BT.node (ho163 P) (W.BT.node (ho230 P) W.BT.nil W.BT.nil) W.BT.nil)))) (W.BT.node (ho45 P) (W.BT.node (ho58 P) (W.BT.node (ho74 P) (W.BT.node (ho109 P) (W.BT.node (ho175 P) W.BT.nil W.BT.nil) (W.BT.node (ho242 P) W.BT.nil W.BT.nil)) (W.BT.node (ho143 P) (W.BT.node (ho210 P) W.BT.nil W.BT.nil) W.BT.nil)) (W.BT.node (ho93 P) (W.BT.node (ho125 P) (W.BT.node (ho191 P) W.BT.nil W.BT.nil) (W.BT.node (ho258 P) W.BT.nil W.BT.nil)) (W.BT.node (ho159 P) (W.BT.node (ho226 P) W.BT.nil W.BT.nil) W.BT.nil))) (W.BT.node (ho66 P) (W.BT.node (ho82 P) (W.BT.node (ho117 P) (W.BT.node (ho183 P) W.BT.nil W.BT.nil) (W.BT.node (ho250 P) W.BT.nil W.BT.nil)) (W.BT.node (ho151 P) (W.BT.node (ho218 P) W.BT.nil W.BT.nil) W.BT.nil)) (W.BT.node (ho101 P) (W.BT.node (ho135 P) (W.BT.node (ho199 P) W.BT.nil W.BT.nil) W.BT.nil) (W.BT.node (ho167 P) (W.BT.node (ho234 P) W.BT.nil W.BT.nil) W.BT.nil)))))) (W.BT.node (ho49 P) (W.BT.node (W.boot_o_4 P) (W.BT.node (W.boot_o_8 P) (W.BT.node (ho53 P) (W.BT.node (ho69 P) (W.BT.node (ho104 P) (W.BT.node (ho170 P) W.BT.nil W.BT.nil) (W.BT.node (ho237 P) W.BT.nil W.BT.nil)) (W.BT.node (ho138 P) (W.BT.node (ho202 P) W.BT.nil W.BT.nil) W.BT.nil)) (W.BT.node (ho85 P) (W.BT.node (ho120 P) (W.BT.node (ho186 P) W.BT.nil W.BT.nil) (W.BT.node (ho253 P) W.BT.nil W.BT.nil)) (W.BT.node (ho154 P) (W.BT.node (ho221 P) W.BT.nil W.BT.nil) W.BT.nil))) (W.BT.node (ho61 P) (W.BT.node (ho77 P) (W.BT.node (ho112 P) (W.BT.node (ho178 P) W.BT.nil W.BT.nil) (W.BT.node (ho245 P) W.BT.nil W.BT.nil)) (W.BT.node (ho146 P) (W.BT.node (ho213 P) W.BT.nil W.BT.nil) W.BT.nil)) (W.BT.node (ho96 P) (W.BT.node (ho130 P) (W.BT.node (ho194 P) W.BT.nil W.BT.nil) W.BT.nil) (W.BT.node (ho162 P) (W.BT.node (ho229 P) W.BT.nil W.BT.nil) W.BT.nil)))) (W.BT.node (ho207 P) (W.BT.node (ho57 P) (W.BT.node (ho73 P) (W.BT.node (ho108 P) (W.BT.node (ho174 P) W.BT.nil W.BT.nil) (W.BT.node (ho241 P) W.BT.nil W.BT.nil)) (W.BT.node (ho142 P) (W.BT.node (ho209 P) W.BT.nil W.BT.nil) W.BT.nil)) (W.BT.node (ho92 P) (W.BT.node (ho124 P) (W.BT.node (ho190 P) W.BT.nil W.BT.nil) (W.BT.node (ho257 P) W.BT.nil W.BT.nil)) (W.BT.node (ho158 P) (W.BT.node (ho225 P) W.BT.nil W.BT.nil) W.BT.nil))) (W.BT.node (ho65 P) (W.BT.node (ho81 P) (W.BT.node (ho116 P) (W.BT.node (ho182 P) W.BT.nil W.BT.nil) (W.BT.node (ho249 P) W.BT.nil W.BT.nil)) (W.BT.node (ho150 P) (W.BT.node (ho217 P) W.BT.nil W.BT.nil) W.BT.nil)) (W.BT.node (ho100 P) (W.BT.node (ho134 P) (W.BT.node (ho198 P) W.BT.nil W.BT.nil) W.BT.nil) (W.BT.node (ho166 P) (W.BT.node (ho233 P) W.BT.nil W.BT.nil) W.BT.nil))))) (W.BT.node (W.boot_o_6 P) (W.BT.node (W.boot_o_10 P) (W.BT.node (ho55 P) (W.BT.node (ho71 P) (W.BT.node (ho106 P) (W.BT.node (ho172 P) W.BT.nil W.BT.nil) (W.BT.node (ho239 P) W.BT.nil W.BT.nil)) (W.BT.node (ho140 P) (W.BT.node (ho204 P) W.BT.nil W.BT.nil) W.BT.nil)) (W.BT.node (ho87 P) (W.BT.node (ho122 P) (W.BT.node (ho188 P) W.BT.nil W.BT.nil) (W.BT.node (ho255 P) W.BT.nil W.BT.nil)) (W.BT.node (ho156 P) (W.BT.node (ho223 P) W.BT.nil W.BT.nil) W.BT.nil))) (W.BT.node (ho63 P) (W.BT.node (ho79 P) (W.BT.node (ho114 P) (W.BT.node (ho180 P) W.BT.nil W.BT.nil) (W.BT.node (ho247 P) W.BT.nil W.BT.nil)) (W.BT.node (ho148 P) (W.BT.node (ho215 P) W.BT.nil W.BT.nil) W.BT.nil)) (W.BT.node (ho98 P) (W.BT.node (ho132 P) (W.BT.node (ho196 P) W.BT.nil W.BT.nil) W.BT.nil) (W.BT.node (ho164 P) (W.BT.node (ho231 P) W.BT.nil W.BT.nil) W.BT.nil)))) (W.BT.node (ho46 P) (W.BT.node (ho59 P) (W.BT.node (ho75 P) (W.BT.node (ho110 P) (W.BT.node (ho176 P) W.BT.nil W.BT.nil) (W.BT.node (ho243 P) W.BT.nil W.BT.nil)) (W.BT.node (ho144 P) (W.BT.node (ho211 P) W.BT.nil W.BT.nil) W.BT.nil)) (W.BT.node (ho94 P) (W.BT.node (ho126 P) (W.BT.node (ho192 P) W.BT.nil W.BT.nil) (W.BT.node (ho259 P) W.BT.nil W.BT.nil)) (W.BT.node (ho160 P) (W.BT.node (ho227 P) W.BT.nil W.BT.nil) W.BT.nil))) (W.BT.node (ho67 P) (W.BT.node (ho83 P) (W.BT.node (ho118 P) (W.BT.node (ho184 P) W.BT.nil W.BT.nil) (W.BT.node (ho251 P) W.BT.nil W.BT.nil)) (W.BT.node (ho152 P) (W.BT.node (ho219 P) W.BT.nil W.BT.nil) W.BT.nil)) (W.BT.node (ho102 P) (W.BT.node (ho136 P) (W.BT.node (ho200 P) W.BT.nil W.BT.nil) W.BT.nil) (W.BT.node (ho168 P) (W.BT.node (ho235 P) W.BT.nil W.BT.nil) W.BT.nil))))))
noncomputable def hsts261 : List Stmt := [stA 9, stA 10, stA 11, stA 12, stA 13, stA 14, stA 15, stA 16]
noncomputable def htree299 (P : Params) : BT := W.BT.node (W.boot_o_0 P) (W.BT.node (W.boot_o_1 P) (W.BT.node (ho261 P) (W.BT.node (W.boot_o_7 P) (W.BT.node (ho52 P) (W.BT.node (ho68 P) (W.BT.node (ho103 P) (W.BT.node (ho169 P) W.BT.nil W.BT.nil) (W.BT.node (ho236 P) W.BT.nil W.BT.nil)) (W.BT.node (ho137 P) (W.BT.node (ho208 P) W.BT.nil W.BT.nil) (W.BT.node (ho270 P) W.BT.nil W.BT.nil))) (W.BT.node (ho90 P) (W.BT.node (ho119 P) (W.BT.node (ho185 P) W.BT.nil W.BT.nil) (W.BT.node (ho252 P) W.BT.nil W.BT.nil)) (W.BT.node (ho153 P) (W.BT.node (ho220 P) W.BT.nil W.BT.nil) (W.BT.node (ho286 P) W.BT.nil W.BT.nil)))) (W.BT.node (ho60 P) (W.BT.node (ho76 P) (W.BT.node (ho111 P) (W.BT.node (ho177 P) W.BT.nil W.BT.nil) (W.BT.node (ho244 P) W.BT.nil W.BT.nil)) (W.BT.node (ho145 P) (W.BT.node (ho212 P) W.BT.nil W.BT.nil) (W.BT.node (ho278 P) W.BT.nil W.BT.nil))) (W.BT.node (ho95 P) (W.BT.node (ho129 P) (W.BT.node (ho193 P) W.BT.nil W.BT.nil) (W.BT.node (ho260 P) W.BT.nil W.BT.nil)) (W.BT.node (ho161 P) (W.BT.node (ho228 P) W.BT.nil W.BT.nil) (W.BT.node (ho294 P) W.BT.nil W.BT.nil))))) (W.BT.node (ho43 P) (W.BT.node (ho56 P) (W.BT.node (ho72 P) (W.BT.node (ho107 P) (W.BT.node (ho173 P) W.BT.nil W.BT.nil) (W.BT.node (ho240 P) W.BT.nil W.BT.nil)) (W.BT.node (ho141 P) (W.BT.node (ho205 P) W.BT.nil W.BT.nil) (W.BT.node (ho274 P) W.BT.nil W.BT.nil))) (W.BT.node (ho91 P) (W.BT.node (ho123 P) (W.BT.node (ho189 P) W.BT.nil W.BT.nil) (W.BT.node (ho256 P) W.BT.nil W.BT.nil)) (W.BT.node (ho157 P) (W.BT.node (ho224 P) W.BT.nil W.BT.nil) (W.BT.node (ho290 P) W.BT.nil W.BT.nil)))) (W.BT.node (ho64 P) (W.BT.node (ho80 P) (W.BT.node (ho115 P) (W.BT.node (ho181 P) W.BT.nil W.BT.nil) (W.BT.node (ho248 P) W.BT.nil W.BT.nil)) (W.BT.node (ho149 P) (W.BT.node (ho216 P) W.BT.nil W.BT.nil) (W.BT.node (ho282 P) W.BT.nil W.BT.nil))) (W.BT.node (ho99 P) (W.BT.node (ho133 P) (W.BT.node (ho197 P) W.BT.nil W.BT.nil) (W.BT.node (ho266 P) W.BT.nil W.BT.nil)) (W.BT.node (ho165 P) (W.BT.node (ho232 P) W.BT.nil W.BT.nil) (W.BT.node (ho298 P) W.BT.nil W.BT.nil)))))) (W.BT.node (W.boot_o_5 P) (W.BT.node (W.boot_o_9 P) (W.BT.node (ho54 P) (W.BT.node (ho70 P) (W.BT.node (ho105 P) (W.BT.node (ho171 P) W.BT.nil W.BT.nil) (W.BT.node (ho238 P) W.BT.nil W.BT.nil)) (W.BT.node (ho139 P) (W.BT.node (ho203 P) W.BT.nil W.BT.nil) (W.BT.node (ho272 P) W.BT.nil W.BT.nil))) (W.BT.node (ho86 P) (W.BT.node (ho121 P) (W.BT.node (ho187 P) W.BT.nil W.BT.nil) (W.BT.node (ho254 P) W.BT.nil W.BT.nil)) (W.BT.node (ho155 P) (W.BT.node (ho222 P) W.BT.nil W.BT.nil) (W.BT.node (ho288 P) W.BT.nil W.BT.nil)))) (W.BT.node (ho62 P) (W.BT.node (ho78 P) (W.BT.node (ho113 P) (W.BT.node (ho179 P) W.BT.nil W.BT.nil) (W.BT.node (ho246 P) W.BT.nil W.BT.nil)) (W.BT.node (ho147 P) (W.BT.node (ho214 P) W.BT.nil W.BT.nil) (W.BT.node (ho280 P) W.BT.nil W.BT.nil))) (W.BT.node (ho97 P) (W.BT.node (ho131 P) (W.BT.node (ho195 P) W.BT.nil W.BT.nil) (W.BT.node (ho264 P) W.BT.nil W.BT.nil)) (W.BT.node (ho163 P) (W.BT.node (ho230 P) W.BT.nil W.BT.nil) (W.BT.node (ho296 P) W.BT.nil W.BT.nil))))) (W.BT.node (ho45 P) (W.BT.node (ho58 P) (W.BT.node (ho74 P) (W.BT.node (ho109 P) (W.BT.node (ho175 P) W.BT.nil W.BT.nil) (W.BT.node (ho242 P) W.BT.nil W.BT.nil)) (W.BT.node (ho143 P) (W.BT.node (ho210 P) W.BT.nil W.BT.nil) (W.BT.node (ho276 P) W.BT.nil W.BT.nil))) (W.BT.node (ho93 P) (W.BT.node (ho125 P) (W.BT.node (ho191 P) W.BT.nil W.BT.nil) (W.BT.node (ho258 P) W.BT.nil W.BT.nil)) (W.BT.node (ho159 P) (W.BT.node (ho226 P) W.BT.nil W.BT.nil) (W.BT.node (ho292 P) W.BT.nil W.BT.nil)))) (W.BT.node (ho66 P) (W.BT.node (ho82 P) (W.BT.node (ho117 P) (W.BT.node (ho183 P) W.BT.nil W.BT.nil) (W.BT.node (ho250 P) W.BT.nil W.BT.nil)) (W.BT.node (ho151 P) (W.BT.node (ho218 P) W.BT.nil W.BT.nil) (W.BT.node (ho284 P) W.BT.nil W.BT.nil))) (W.BT.node (ho101 P) (W.BT.node (ho135 P) (W.BT.node (ho199 P) W.BT.nil W.BT.nil) (W.BT.node (ho268 P) W.BT.nil W.BT.nil)) (W.BT.node (ho167 P) (W.BT.node (ho234 P) W.BT.nil W.BT.nil) W.BT.nil)))))) (W.BT.node (ho49 P) (W.BT.node (W.boot_o_4 P) (W.BT.node (W.boot_o_8 P) (W.BT.node (ho53 P) (W.BT.node (ho69 P) (W.BT.node (ho104 P) (W.BT.node (ho170 P) W.BT.nil W.BT.nil) (W.BT.node (ho237 P) W.BT.nil W.BT.nil)) (W.BT.node (ho138 P) (W.BT.node (ho202 P) W.BT.nil W.BT.nil) (W.BT.node (ho271 P) W.BT.nil W.BT.nil))) (W.BT.node (ho85 P) (W.BT.node (ho120 P) (W.BT.node (ho186 P) W.BT.nil W.BT.nil) (W.BT.node (ho253 P) W.BT.nil W.BT.nil)) (W.BT.node (ho154 P) (W.BT.node (ho221 P) W.BT.nil W.BT.nil) (W.BT.node (ho287 P) W.BT.nil W.BT.nil)))) (W.BT.node (ho61 P) (W.BT.node (ho77 P) (W.BT.node (ho112 P) (W.BT.node (ho178 P) W.BT.nil W.BT.nil) (W.BT.node (ho245 P) W.BT.nil W.BT.nil)) (W.BT.node (ho146 P) (W.BT.node (ho213 P) W.BT.nil W.BT.nil) (W.BT.node (ho279 P) W.BT.nil W.BT.nil))) (W.BT.node (ho96 P) (W.BT.node (ho130 P) (W.BT.node (ho194 P) W.BT.nil W.BT.nil) (W.BT.node (ho263 P) W.BT.nil W.BT.nil)) (W.BT.node (ho162 P) (W.BT.node (ho229 P) W.BT.nil W.BT.nil) (W.BT.node (ho295 P) W.BT.nil W.BT.nil))))) (W.BT.node (ho262 P) (W.BT.node (ho57 P) (W.BT.node (ho73 P) (W.BT.node (ho108 P) (W.BT.node (ho174 P) W.BT.nil W.BT.nil) (W.BT.node (ho241 P) W.BT.nil W.BT.nil)) (W.BT.node (ho142 P) (W.BT.node (ho209 P) W.BT.nil W.BT.nil) (W.BT.node (ho275 P) W.BT.nil W.BT.nil))) (W.BT.node (ho92 P) (W.BT.node (ho124 P) (W.BT.node (ho190 P) W.BT.nil W.BT.nil) (W.BT.node (ho257 P) W.BT.nil W.BT.nil)) (W.BT.node (ho158 P) (W.BT.node (ho225 P) W.BT.nil W.BT.nil) (W.BT.node (ho291 P) W.BT.nil W.BT.nil)))) (W.BT.node (ho65 P) (W.BT.node (ho81 P) (W.BT.node (ho116 P) (W.BT.node (ho182 P) W.BT.nil W.BT.nil) (W.BT.node (ho249 P) W.BT.nil W.BT.nil)) (W.BT.node (ho150 P) (W.BT.node (ho217 P) W.BT.nil W.BT.nil) (W.BT.node (ho283 P) W.BT.nil W.BT.nil))) (W.BT.node (ho100 P) (W.BT.node (ho134 P) (W.BT.node (ho198 P) W.BT.nil W.BT.nil) (W.BT.node (ho267 P) W.BT.nil W.BT.nil)) (W.BT.node (ho166 P) (W.BT.node (ho233 P) W.BT.nil W.BT.nil) (W.BT.node (ho299 P) W.BT.nil W.BT.nil)))))) (W.BT.node (W.boot_o_6 P) (W.BT.node (W.boot_o_10 P) (W.BT.node (ho55 P) (W.BT.node (ho71 P) (W.BT.node (ho106 P) (W.BT.node (ho172 P) W.BT.nil W.BT.nil) (W.BT.node (ho239 P) W.BT.nil W.BT.nil)) (W.BT.node (ho140 P) (W.BT.node (ho204 P) W.BT.nil W.BT.nil) (W.BT.node (ho273 P) W.BT.nil W.BT.nil))) (W.BT.node (ho87 P) (W.BT.node (ho122 P) (W.BT.node (ho188 P) W.BT.nil W.BT.nil) (W.BT.node (ho255 P) W.BT.nil W.BT.nil)) (W.BT.node (ho156 P) (W.BT.node (ho223 P) W.BT.nil W.BT.nil) (W.BT.node (ho289 P) W.BT.nil W.BT.nil)))) (W.BT.node (ho63 P) (W.BT.node (ho79 P) (W.BT.node (ho114 P) (W.BT.node (ho180 P) W.BT.nil W.BT.nil) (W.BT.node (ho247 P) W.BT.nil W.BT.nil)) (W.BT.node (ho148 P) (W.BT.node (ho215 P) W.BT.nil W.BT.nil) (W.BT.node (ho281 P) W.BT.nil W.BT.nil))) (W.BT.node (ho98 P) (W.BT.node (ho132 P) (W.BT.node (ho196 P) W.BT.nil W.BT.nil) (W.BT.node (ho265 P) W.BT.nil W.BT.nil)) (W.BT.node (ho164 P) (W.BT.node (ho231 P) W.BT.nil W.BT.nil) (W.BT.node (ho297 P) W.BT.nil W.BT.nil))))) (W.BT.node (ho46 P) (W.BT.node (ho59 P) (W.BT.node (ho75 P) (W.BT.node (ho110 P) (W.BT.node (ho176 P) W.BT.nil W.BT.nil) (W.BT.node (ho243 P) W.BT.nil W.BT.nil)) (W.BT.node (ho144 P) (W.BT.node (ho211 P) W.BT.nil W.BT.nil) (W.BT.node (ho277 P) W.BT.nil W.BT.nil))) (W.BT.node (ho94 P) (W.BT.node (ho126 P) (W.BT.node (ho192 P) W.BT.nil W.BT.nil) (W.BT.node (ho259 P) W.BT.nil W.BT.nil)) (W.BT.node (ho160 P) (W.BT.node (ho227 P) W.BT.nil W.BT.nil) (W.BT.node (ho293 P) W.BT.nil W.BT.nil)))) (W.BT.node (ho67 P) (W.BT.node (ho83 P) (W.BT.node (ho118 P) (W.BT.node (ho184 P) W.BT.nil W.BT.nil) (W.BT.node (ho251 P) W.BT.nil W.BT.nil)) (W.BT.node (ho152 P) (W.BT.node (ho219 P) W.BT.nil W.BT.nil) (W.BT.node (ho285 P) W.BT.nil W.BT.nil))) (W.BT.node (ho102 P) (W.BT.node (ho136 P) (W.BT.node (ho200 P) W.BT.nil W.BT.nil) (W.BT.node (ho269 P) W.BT.nil W.BT.nil)) (W.BT.node (ho168 P) (W.BT.node (ho235 P) W.BT.nil W.BT.nil) W.BT.nil))))))
noncomputable def hheap300 (P : Params) : Heap := Heap.mk (Array.mk ((W.boot_o_0 P) :: (W.boot_o_1 P) :: (ho49 P) :: (ho261 P) :: (W.boot_o_4 P) :: (W.boot_o_5 P) :: (W.boot_o_6 P) :: (W.boot_o_7 P) :: (W.boot_o_8 P) :: (W.boot_o_9 P) :: (W.boot_o_10 P) :: (ho43 P) :: (ho262 P) :: (ho45 P) :: (ho46 P) :: (ho52 P) :: (ho53 P) :: (ho54 P) :: (ho55 P) :: (ho56 P) :: (ho57 P) :: (ho58 P) :: (ho59 P) :: (ho60 P) :: (ho61 P) :: (ho62 P) :: (ho63 P) :: (ho64 P) :: (ho65 P) :: (ho66 P) :: (ho67 P) :: (ho68 P) :: (ho69 P) :: (ho70 P) :: (ho71 P) :: (ho72 P) :: (ho73 P) :: (ho74 P) :: (ho75 P) :: (ho76 P) :: (ho77 P) :: (ho78 P) :: (ho79 P) :: (ho80 P) :: (ho81 P) :: (ho82 P) :: (ho83 P) :: (ho90 P) :: (ho85 P) :: (ho86 P) :: (ho87 P) :: (ho91 P) :: (ho92 P) :: (ho93 P) :: (ho94 P) :: (ho95 P) :: (ho96 P) :: (ho97 P) :: (ho98 P) :: (ho99 P) :: (ho100 P) :: (ho101 P) :: (ho102 P) :: (ho103 P) :: (ho104 P) :: (ho105 P) :: (ho106 P) :: (ho107 P) :: (ho108 P) :: (ho109 P) :: (ho110 P) :: (ho111 P) :: (ho112 P) :: (ho113 P) :: (ho114 P) :: (ho115 P) :: (ho116 P) :: (ho117 P) :: (ho118 P) :: (ho119 P) :: (ho120 P) :: (ho121 P) :: (ho122 P) :: (ho123 P) :: (ho124 P) :: (ho125 P) :: (ho126 P) :: (ho129 P) :: (ho130 P) :: (ho131 P) :: (ho132 P) :: (ho133 P) :: (ho134 P) :: (ho135 P) :: (ho136 P) :: (ho137 P) :: (ho138 P) :: (ho139 P) :: (ho140 P) :: (ho141 P) :: (ho142 P) :: (ho143 P) :: (ho144 P) :: (ho145 P) :: (ho146 P) :: (ho147 P) :: (ho148 P) :: (ho149 P) :: (ho150 P) :: (ho151 P) :: (ho152 P) :: (ho153 P) :: (ho154 P) :: (ho155 P) :: (ho156 P) :: (ho157 P) :: (ho158 P) :: (ho159 P) :: (ho160 P) :: (ho161 P) :: (ho162 P) :: (ho163 P) :: (ho164 P) :: (ho165 P) :: (ho166 P) :: (ho167 P) :: (ho168 P) :: (ho169 P) :: (ho170 P) :: (ho171 P) :: (ho172 P) :: (ho173 P) :: (ho174 P) :: (ho175 P) :: (ho176 P) :: (ho177 P) :: (ho178 P) :: (ho179 P) :: (ho180 P) :: (ho181 P) :: (ho182 P) :: (ho183 P) :: (ho184 P) :: (ho185 P) :: (ho186 P) :: (ho187 P) :: (ho188 P) :: (ho189 P) :: (ho190 P) :: (ho191 P) :: (ho192 P) :: (ho193 P) :: (ho194 P) :: (ho195 P) :: (ho196 P) :: (ho197 P) :: (ho198 P) :: (ho199 P) :: (ho200 P) :: (ho208 P) :: (ho202 P) :: (ho203 P) :: (ho204 P) :: (ho205 P) :: (ho209 P) :: (ho210 P) :: (ho211 P) :: (ho212 P) :: (ho213 P) :: (ho214 P) :: (ho215 P) :: (ho216 P) :: (ho217 P) :: (ho218 P) :: (ho219 P) :: (ho220 P) :: (ho221 P) :: (ho222 P) :: (ho223 P) :: (ho224 P) :: (ho225 P) :: (ho226 P) :: (ho227 P) :: (ho228 P) :: (ho229 P) :: (ho230 P) :: (ho231 P) :: (ho232 P) :: (ho233 P) :: (ho234 P) :: (ho235 P) :: (ho236 P) :: (ho237 P) :: (ho238 P) :: (ho239 P) :: (ho240 P) :: (ho241 P) :: (ho242 P) :: (ho243 P) :: (ho244 P) :: (ho245 P) :: (ho246 P) :: (ho247 P) :: (ho248 P) :: (ho249 P) :: (ho250 P) :: (ho251 P) :: (ho252 P) :: (ho253 P) :: (ho254 P) :: (ho255 P) :: (ho256 P) :: (ho257 P) :: (ho258 P) :: (ho259 P) :: (ho260 P) :: (ho263 P) :: (ho264 P) :: (ho265 P) :: (ho266 P) :: (ho267 P) :: (ho268 P) :: (ho269 P) :: (ho270 P) :: (ho271 P) :: (ho272 P) :: (ho273 P) :: (ho274 P) :: (ho275 P) :: (ho276 P) :: (ho277 P) :: (ho278 P) :: (ho279 P) :: (ho280 P) :: (ho281 P) :: (ho282 P) :: (ho283 P) :: (ho284 P) :: (ho285 P) :: (ho286 P) :: (ho287 P) :: (ho288 P) :: (ho289 P) :: (ho290 P) :: (ho291 P) :: (ho292 P) :: (ho293 P) :: (ho294 P) :: (ho295 P) :: (ho296 P) :: (ho297 P) :: (ho298 P) :: (ho299 P) :: [])) (Life.mk [] [] [] 0 [] [] Bool.false #[] [] 0 Bool.false Bool.false Bool.false 0 [2000, 10, 10] Bool.false 0 Bool.true [] [] 0 Bool.false)
noncomputable def HK (P : Params) : Frag := (2, ho49 P) :: (3, ho261 P) :: (15, ho52 P) :: (17, ho54 P) :: (18, ho55 P) :: (20, ho57 P) :: (21, ho58 P) :: (22, ho59 P) :: (25, ho62 P) :: (30, ho67 P) :: (31, ho68 P) :: (33, ho70 P) :: (34, ho71 P) :: (36, ho73 P) :: (37, ho74 P) :: (38, ho75 P) :: (40, ho77 P) :: (41, ho78 P) :: (43, ho80 P) :: (44, ho81 P) :: (45, ho82 P) :: (46, ho83 P) :: (47, ho90 P) :: (48, ho85 P) :: (51, ho91 P) :: (54, ho94 P) :: (59, ho99 P) :: (60, ho100 P) :: (62, ho102 P) :: (63, ho103 P) :: (65, ho105 P) :: (66, ho106 P) :: (67, ho107 P) :: (69, ho109 P) :: (70, ho110 P) :: (72, ho112 P) :: (73, ho113 P) :: (74, ho114 P) :: (75, ho115 P) :: (76, ho116 P) :: (79, ho119 P) :: (80, ho120 P) :: (82, ho122 P) :: (83, ho123 P) :: (85, ho125 P) :: (86, ho126 P) :: (94, ho136 P) :: (96, ho138 P) :: (97, ho139 P) :: (99, ho141 P) :: (100, ho142 P) :: (101, ho143 P) :: (103, ho145 P) :: (104, ho146 P) :: (106, ho148 P) :: (107, ho149 P) :: (108, ho150 P) :: (110, ho152 P) :: (111, ho153 P) :: (113, ho155 P) :: (114, ho156 P) :: (115, ho157 P) :: (117, ho159 P) :: (118, ho160 P) :: (120, ho162 P) :: (121, ho163 P) :: (122, ho164 P) :: (124, ho166 P) :: (125, ho167 P) :: (127, ho169 P) :: (128, ho170 P) :: (129, ho171 P) :: (131, ho173 P) :: (132, ho174 P) :: (134, ho176 P) :: (135, ho177 P) :: (136, ho178 P) :: (138, ho180 P) :: (139, ho181 P) :: (141, ho183 P) :: (142, ho184 P) :: (143, ho185 P) :: (145, ho187 P) :: (146, ho188 P) :: (148, ho190 P) :: (149, ho191 P) :: (150, ho192 P) :: (152, ho194 P) :: (153, ho195 P) :: (155, ho197 P) :: (156, ho198 P) :: (157, ho199 P) :: (158, ho200 P) :: (159, ho208 P) :: (160, ho202 P) :: (161, ho203 P) :: (164, ho209 P) :: (171, ho216 P) :: (173, ho218 P) :: (174, ho219 P) :: (176, ho221 P) :: (177, ho222 P) :: (178, ho223 P) :: (181, ho226 P) :: (182, ho227 P) :: (183, ho228 P) :: (185, ho230 P) :: (186, ho231 P) :: (188, ho233 P) :: (189, ho234 P) :: (190, ho235 P) :: (192, ho237 P) :: (193, ho238 P) :: (195, ho240 P) :: (196, ho241 P) :: (197, ho242 P) :: (199, ho244 P) :: (200, ho245 P) :: (202, ho247 P) :: (203, ho248 P) :: (204, ho249 P) :: (206, ho251 P) :: (207, ho252 P) :: (209, ho254 P) :: (210, ho255 P) :: (211, ho256 P) :: (212, ho257 P) :: (213, ho258 P) :: (216, ho263 P) :: (217, ho264 P) :: (219, ho266 P) :: (220, ho267 P) :: (222, ho269 P) :: (223, ho270 P) :: (224, ho271 P) :: (227, ho274 P) :: (228, ho275 P) :: (229, ho276 P) :: (231, ho278 P) :: (232, ho279 P) :: (234, ho281 P) :: (235, ho282 P) :: (236, ho283 P) :: (238, ho285 P) :: (239, ho286 P) :: (241, ho288 P) :: (242, ho289 P) :: (243, ho290 P) :: (246, ho293 P) :: (247, ho294 P) :: (248, ho295 P) :: (251, ho298 P) :: (252, ho299 P) :: []
abbrev asK : List Addr := 2 :: 3 :: 15 :: 17 :: 18 :: 20 :: 21 :: 22 :: 25 :: 30 :: 31 :: 33 :: 34 :: 36 :: 37 :: 38 :: 40 :: 41 :: 43 :: 44 :: 45 :: 46 :: 47 :: 48 :: 51 :: 54 :: 59 :: 60 :: 62 :: 63 :: 65 :: 66 :: 67 :: 69 :: 70 :: 72 :: 73 :: 74 :: 75 :: 76 :: 79 :: 80 :: 82 :: 83 :: 85 :: 86 :: 94 :: 96 :: 97 :: 99 :: 100 :: 101 :: 103 :: 104 :: 106 :: 107 :: 108 :: 110 :: 111 :: 113 :: 114 :: 115 :: 117 :: 118 :: 120 :: 121 :: 122 :: 124 :: 125 :: 127 :: 128 :: 129 :: 131 :: 132 :: 134 :: 135 :: 136 :: 138 :: 139 :: 141 :: 142 :: 143 :: 145 :: 146 :: 148 :: 149 :: 150 :: 152 :: 153 :: 155 :: 156 :: 157 :: 158 :: 159 :: 160 :: 161 :: 164 :: 171 :: 173 :: 174 :: 176 :: 177 :: 178 :: 181 :: 182 :: 183 :: 185 :: 186 :: 188 :: 189 :: 190 :: 192 :: 193 :: 195 :: 196 :: 197 :: 199 :: 200 :: 202 :: 203 :: 204 :: 206 :: 207 :: 209 :: 210 :: 211 :: 212 :: 213 :: 216 :: 217 :: 219 :: 220 :: 222 :: 223 :: 224 :: 227 :: 228 :: 229 :: 231 :: 232 :: 234 :: 235 :: 236 :: 238 :: 239 :: 241 :: 242 :: 243 :: 246 :: 247 :: 248 :: 251 :: 252 :: []
theorem asK_ok : ∀ P, asK = (HK P).map (·.1) := fun _ => by rfl
noncomputable def vw : Program := view PW [0, 2, 3, 5, 6, 7, 8, 10, 11, 12, 13, 14, 15, 16]
end Mine

open PySem PySem.W PyProof.Rows
set_option Elab.async false
set_option linter.all false
set_option maxRecDepth 100000
set_option maxHeartbeats 0
namespace Mine
noncomputable abbrev hk : Hook := kHook HK asK asK_ok
abbrev rrow : RowW := PySem.Challenge.rw_qz0005_02.row.toRowW
noncomputable def xt (s : Shared) : Bool := xlAt vw [] s && recOk (RowW.records rrow) s
theorem pc47 : ∀ w : World, (fun os => W.topGo treeTable PW w 11 (some (Value.ref 6)) 12 (Shared.mk (W.boot_heap (World.params w)) (Array.mk []) W.boot_drawn W.boot_toks os) (W.topStub PW)) = (fun os => some (Shared.mk (hheap46 (World.params w)) (Array.mk []) (Drawn.mk 0 0 0 0) 187 os, Thread.mk (denote treeTable (Code.body (W.behindTheImports PW) henv41)) (Code.body (W.behindTheImports PW) henv41) (Pos.mk 0 0 0 0) [W.topFrame (Pos.mk 0 0 0 0)])) := by
  intro w
  rw [PySem.W.Fast.te15667345088766844465, PySem.W.Fast.te14364793385576792824, PySem.W.Fast.te11892475500146522536]
  kernel_rfl
theorem pc49 : ∀ w : World, (fun os => W.segRun treeTable PW w 11 (some (Value.ref 6)) 1 1 (Shared.mk (hheap46 (World.params w)) (Array.mk []) (Drawn.mk 0 0 0 0) 187 os) (W.blockOf (W.behindTheImports PW) henv41 (Code.body (W.behindTheImports PW) henv41) (Pos.mk 0 0 0 0) [W.topFrame (Pos.mk 0 0 0 0)])) = (fun os => some (Flow.next, (W.SharedT.abs (W.SharedT.mk (htree47 (World.params w)) 15 (Life.mk [] [] [] 0 [] [] Bool.false #[] [] 0 Bool.false Bool.false Bool.false 0 [2000, 10, 10] Bool.false 0 Bool.true [] [] 0 Bool.false) (Array.mk []) (Drawn.mk 0 0 0 0) 187 os), (Code.body (W.behindTheImports PW) henv41, Pos.mk 0 0 0 0)))) := by
  intro w
  rw [PySem.W.Fast.te14374325043358763698, PySem.W.Fast.te14364793385576792824]
  kernel_rfl
theorem pc88 : ∀ w : World, (fun os => W.segRunT treeTable PW w 11 (some (Value.ref 6)) 1 314 (W.SharedT.mk (htree47 (World.params w)) 15 (Life.mk [] [] [] 0 [] [] Bool.false #[] [] 0 Bool.false Bool.false Bool.false 0 [2000, 10, 10] Bool.false 0 Bool.true [] [] 0 Bool.false) (Array.mk []) (Drawn.mk 0 0 0 0) 187 os) (W.piecesOf hsts49 henv41 (Code.body (W.behindTheImports PW) henv41) (Pos.mk 0 0 0 0) [W.topFrame (Pos.mk 0 0 0 0)])) = (fun os => some (Flow.next, (W.SharedT.mk (htree87 (World.params w)) 51 (Life.mk [] [] [] 0 [] [] Bool.false #[] [] 0 Bool.false Bool.false Bool.false 0 [2000, 10, 10] Bool.false 0 Bool.true [] [] 0 Bool.false) (Array.mk []) (Drawn.mk 0 0 0 0) 234 os, (Code.body (W.behindTheImports PW) henv41, Pos.mk 5 0 12 24)))) := by
  intro w
  rw [PySem.W.Fast.te10110043849684766642, PySem.W.Fast.te14364793385576792824]
  kernel_rfl
theorem pc127 : ∀ w : World, (fun os => W.segRunT treeTable PW w 11 (some (Value.ref 6)) 1 354 (W.SharedT.mk (htree87 (World.params w)) 51 (Life.mk [] [] [] 0 [] [] Bool.false #[] [] 0 Bool.false Bool.false Bool.false 0 [2000, 10, 10] Bool.false 0 Bool.true [] [] 0 Bool.false) (Array.mk []) (Drawn.mk 0 0 0 0) 234 os) (W.piecesOf hsts88 henv41 (Code.body (W.behindTheImports PW) henv41) (Pos.mk 5 0 12 24) [W.topFrame (Pos.mk 0 0 0 0)])) = (fun os => some (Flow.next, (W.SharedT.mk (htree126 (World.params w)) 87 (Life.mk [] [] [] 0 [] [] Bool.false #[] [] 0 Bool.false Bool.false Bool.false 0 [2000, 10, 10] Bool.false 0 Bool.true [] [] 0 Bool.false) (Array.mk []) (Drawn.mk 0 0 0 0) 291 os, (Code.body (W.behindTheImports PW) henv41, Pos.mk 23 0 29 15)))) := by
  intro w
  rw [PySem.W.Fast.te10110043849684766642, PySem.W.Fast.te14364793385576792824]
  kernel_rfl
theorem pc206 : ∀ w : World, (fun os => W.segRunT treeTable PW w 11 (some (Value.ref 6)) 1 485 (W.SharedT.mk (htree126 (World.params w)) 87 (Life.mk [] [] [] 0 [] [] Bool.false #[] [] 0 Bool.false Bool.false Bool.false 0 [2000, 10, 10] Bool.false 0 Bool.true [] [] 0 Bool.false) (Array.mk []) (Drawn.mk 0 0 0 0) 291 os) (W.piecesOf hsts127 henv41 (Code.body (W.behindTheImports PW) henv41) (Pos.mk 23 0 29 15) [W.topFrame (Pos.mk 0 0 0 0)])) = (fun os => some (Flow.next, (W.SharedT.mk (htree205 (World.params w)) 164 (Life.mk [] [] [] 0 [] [] Bool.false #[] [] 0 Bool.false Bool.false Bool.false 0 [2000, 10, 10] Bool.false 0 Bool.true [] [] 0 Bool.false) (Array.mk []) (Drawn.mk 0 0 0 0) 390 os, (Code.body (W.behindTheImports PW) henv41, Pos.mk 30 0 74 16)))) := by
  intro w
  rw [PySem.W.Fast.te10110043849684766642, PySem.W.Fast.te14364793385576792824]
  kernel_rfl
theorem pc261 : ∀ w : World, (fun os => W.segRunT treeTable PW w 11 (some (Value.ref 6)) 1 402 (W.SharedT.mk (htree205 (World.params w)) 164 (Life.mk [] [] [] 0 [] [] Bool.false #[] [] 0 Bool.false Bool.false Bool.false 0 [2000, 10, 10] Bool.false 0 Bool.true [] [] 0 Bool.false) (Array.mk []) (Drawn.mk 0 0 0 0) 390 os) (W.piecesOf hsts206 henv41 (Code.body (W.behindTheImports PW) henv41) (Pos.mk 30 0 74 16) [W.topFrame (Pos.mk 0 0 0 0)])) = (fun os => some (Flow.next, (W.SharedT.mk (htree260 (World.params w)) 216 (Life.mk [] [] [] 0 [] [] Bool.false #[] [] 0 Bool.false Bool.false Bool.false 0 [2000, 10, 10] Bool.false 0 Bool.true [] [] 0 Bool.false) (Array.mk []) (Drawn.mk 0 0 0 0) 453 os, (Code.body (W.behindTheImports PW) henv41, Pos.mk 75 0 104 16)))) := by
  intro w
  rw [PySem.W.Fast.te10110043849684766642, PySem.W.Fast.te14364793385576792824]
  kernel_rfl
theorem pc300 : ∀ w : World, (fun os => W.segRunT treeTable PW w 11 (some (Value.ref 6)) 1 198 (W.SharedT.mk (htree260 (World.params w)) 216 (Life.mk [] [] [] 0 [] [] Bool.false #[] [] 0 Bool.false Bool.false Bool.false 0 [2000, 10, 10] Bool.false 0 Bool.true [] [] 0 Bool.false) (Array.mk []) (Drawn.mk 0 0 0 0) 453 os) (W.piecesOf hsts261 henv41 (Code.body (W.behindTheImports PW) henv41) (Pos.mk 75 0 104 16) [W.topFrame (Pos.mk 0 0 0 0)])) = (fun os => some (Flow.next, (W.SharedT.mk (htree299 (World.params w)) 253 (Life.mk [] [] [] 0 [] [] Bool.false #[] [] 0 Bool.false Bool.false Bool.false 0 [2000, 10, 10] Bool.false 0 Bool.true [] [] 0 Bool.false) (Array.mk []) (Drawn.mk 0 0 0 0) 508 os, (Code.body (W.behindTheImports PW) henv41, Pos.mk 139 0 160 15)))) := by
  intro w
  rw [PySem.W.Fast.te10110043849684766642, PySem.W.Fast.te14364793385576792824]
  kernel_rfl
theorem pc302 : ∀ w : World, (fun os => W.topRun treeTable PW w 11 (some (Value.ref 6)) 2 (W.SharedT.abs (W.SharedT.mk (htree299 (World.params w)) 253 (Life.mk [] [] [] 0 [] [] Bool.false #[] [] 0 Bool.false Bool.false Bool.false 0 [2000, 10, 10] Bool.false 0 Bool.true [] [] 0 Bool.false) (Array.mk []) (Drawn.mk 0 0 0 0) 508 os)) (Thread.mk (W.doneF Flow.next) (Code.body (W.behindTheImports PW) henv41) (Pos.mk 139 0 160 15) [W.topFrame (Pos.mk 0 0 0 0)])) = (fun os => some (Shared.mk (hheap300 (World.params w)) (Array.mk []) (Drawn.mk 0 0 0 0) 508 os)) := by
  intro w
  rw [PySem.W.Fast.te14082659384304107361, PySem.W.Fast.te14364793385576792824]
  kernel_rfl
theorem body_eq : behindTheImports PW = hsts49 ++ (hsts88 ++ (hsts127 ++ (hsts206 ++ (hsts261 ++ ([]))))) := by kernel_rfl
theorem run : ∀ w : World, ∀ os : OsState, (W.topRun treeTable PW w 11 (some (Value.ref 6)) (12 + (1 + (314 + (354 + (485 + (402 + (198 + 2))))))) (Shared.mk (W.boot_heap (World.params w)) (Array.mk []) W.boot_drawn W.boot_toks os) (W.topStub PW)) = (some (Shared.mk (hheap300 (World.params w)) (Array.mk []) (Drawn.mk 0 0 0 0) 508 os)) := by
  intro w os
  have k := piece_nil (env := henv41) (congrFun (pc302 w) os)
  have k := piece_app (l := hsts261) (rest := []) (segRun_of (congrFun (pc300 w) os)) k
  have k := piece_app (l := hsts206) (rest := (hsts261 ++ [])) (segRun_of (congrFun (pc261 w) os)) k
  have k := piece_app (l := hsts127) (rest := (hsts206 ++ (hsts261 ++ []))) (segRun_of (congrFun (pc206 w) os)) k
  have k := piece_app (l := hsts88) (rest := (hsts127 ++ (hsts206 ++ (hsts261 ++ [])))) (segRun_of (congrFun (pc127 w) os)) k
  have k := piece_app (l := hsts49) (rest := (hsts88 ++ (hsts127 ++ (hsts206 ++ (hsts261 ++ []))))) (segRun_of (congrFun (pc88 w) os)) k
  have k := (congrArg (fun b => topRun treeTable PW w 11 (some (Value.ref 6)) _ _ (restOf b henv41 (Code.body (behindTheImports PW) henv41) (Pos.mk 0 0 0 0) [topFrame (Pos.mk 0 0 0 0)])) body_eq).trans k
  exact go_top (congrFun (pc47 w) os) (piece_block (congrFun (pc49 w) os) k)
theorem opens : ∀ w : World, (fencedOpening treeTable PW w 3622).map (fun s => (s.heap, s.gens, s.drawn, s.toks)) = some (boot_heap w.params, Array.mk [], boot_drawn, boot_toks) := boot_open (by kernel_rfl) (by rfl) (fun s => by rfl)
theorem size0 : ∀ w : World, ((boot_heap w.params).isNs mainGlobals && (Array.mk [] : Array GenState).size == 0, (boot_heap w.params).objs.size, (boot_heap w.params).nsMap mainGlobals "__annotations__") = (true, 11, some (Value.ref 6)) := fun w => by kernel_rfl
theorem look1 : ∀ (w : World) (os : OsState), (staticsOk (importedModules PW.main.body) (boot_heap w.params) (hheap300 w.params) && namesBound PW (hheap300 w.params) && gensDone (Shared.mk (hheap300 (World.params w)) (Array.mk []) (Drawn.mk 0 0 0 0) 508 os) && laidKept (boot_heap w.params) (hheap300 w.params)) = true := fun w os => by kernel_rfl
theorem look2 : ∀ (w : World) (os : OsState), openSeen vw [] (importedModules PW.main.body) xt true (Shared.mk (hheap300 (World.params w)) (Array.mk []) (Drawn.mk 0 0 0 0) 508 os) = openGood vw [] := fun w os => by
  rw [PySem.W.Fast.te4187177175401517315]
  kernel_rfl
theorem look3 : ∀ (w : World) (os : OsState), hk.obs (Shared.mk (hheap300 (World.params w)) (Array.mk []) (Drawn.mk 0 0 0 0) 508 os) = hk.val w := fun w os => by kernel_rfl
theorem left : LeftO PW vw [] xt hk.obs hk.val 3622 :=
  LeftO.of_pieces (H₁ := hheap300) (gs₁ := Array.mk []) (d₁ := Drawn.mk 0 0 0 0) (k₁ := 508) opens size0 run (by rfl) fun w => funext fun os => looks_pair (look1 w os) (looks_pair (look2 w os) (look3 w os))
theorem law_of (h : PySem.Challenge.rw_qz0005_02.row.wellSaid = true → PySem.Challenge.rw_qz0005_02.row.Holds) : PySem.Challenge.rw_qz0005_02.Holds := by
  o_law
  exact h (by assumption)
theorem hd {d : DefRec} {kwd : List (Str × Expr)} (hdef : defOf vw rrow.name = some (d, kwd)) (hp : rrow.prog.theDef rrow.name = some (d.params, d.body, d.scope))
    (hk' : kwWritten? d.params.kwonlyargs d.params.kw_defaults = some kwd)
    (call : WalkO vw [] (XL vw []) hk.says rrow d kwd fun f vs => PySem.call f vs) : PySem.Challenge.rw_qz0005_02.Holds :=
  law_of fun said => by
    refine holds_open (q := vw) (loose := []) (Xt := xt) (XP := XL vw []) (Yf := hk.obs) (Ya := hk.val) (YP := hk.says) (N := 3622) left hk.of hk.keeps (fun s e => xl_of s (Bool.and_eq_true_iff.mp e).1) XL.keeps hdef hp hk' (fun s e => recFacts_of (Bool.and_eq_true_iff.mp e).2) (by rfl) said (by decide +kernel) ⟨rfl, rfl, rfl, rfl, rfl, by decide +kernel⟩ ?hw call
    case hw => w_witness2
end Mine

open PySem PySem.W PyProof.Rows PySem.Calls PyProof.V PySem.Spec PySem.SeqAt
set_option Elab.async false
set_option linter.all false
set_option maxRecDepth 100000
set_option maxHeartbeats 4000000
namespace Mine
noncomputable abbrev K2 (prog : Program) (w : World) (g : Heap) (mg mb : Str → Option Value) : Cx := { prog, w, g, K := HK w.params, mg, mb }
section
variable {prog : Program} {w : World} {g : Heap} {mg mb : Str → Option Value} {d : Nat} {env : Env} {ρ : Fra} {σ : Store}
theorem fld_steps : Fld (K2 prog w g mg mb) 213 "steps" := ⟨by kernel_rfl, by kernel_rfl, none, by kernel_rfl, by kernel_rfl⟩
theorem fld_named : Fld (K2 prog w g mg mb) 213 "named" := ⟨by kernel_rfl, by kernel_rfl, none, by kernel_rfl, by kernel_rfl⟩
theorem fld_empty : Fld (K2 prog w g mg mb) 213 "empty" := ⟨by kernel_rfl, by kernel_rfl, none, by kernel_rfl, by kernel_rfl⟩
theorem sto_steps : Sto (K2 prog w g mg mb) 213 "steps" := ⟨by kernel_rfl, by kernel_rfl, by kernel_rfl, by kernel_rfl⟩
theorem sto_named : Sto (K2 prog w g mg mb) 213 "named" := ⟨by kernel_rfl, by kernel_rfl, by kernel_rfl, by kernel_rfl⟩
theorem sto_empty : Sto (K2 prog w g mg mb) 213 "empty" := ⟨by kernel_rfl, by kernel_rfl, by kernel_rfl, by kernel_rfl⟩
theorem mth_add : Mth (K2 prog w g mg mb) 213 "add" 149 := ⟨by kernel_rfl, by kernel_rfl, by kernel_rfl⟩
theorem mth_size : Mth (K2 prog w g mg mb) 213 "size" 128 := ⟨by kernel_rfl, by kernel_rfl, by kernel_rfl⟩
theorem mth_clause : Mth (K2 prog w g mg mb) 213 "clause" 135 := ⟨by kernel_rfl, by kernel_rfl, by kernel_rfl⟩
theorem mth_needed : Mth (K2 prog w g mg mb) 213 "needed" 177 := ⟨by kernel_rfl, by kernel_rfl, by kernel_rfl⟩
theorem mth_trimmed : Mth (K2 prog w g mg mb) 213 "trimmed" 182 := ⟨by kernel_rfl, by kernel_rfl, by kernel_rfl⟩
theorem mth_name : Mth (K2 prog w g mg mb) 213 "name" 107 := ⟨by kernel_rfl, by kernel_rfl, by kernel_rfl⟩

theorem keep_fn {a : Addr} (h : keepIn (HK w.params) (.ref a) = true := by kernel_rfl) : KeepOk (K2 prog w g mg mb) (.ref a) := KeepOk.own h

theorem init_spec {dx : Addr} {Q : V → Store → Prop} (e : σ dx = some (.ns 0 fun _ => none))
    (h : ∀ s n σ', σ s = none → σ n = none → Same [dx] σ σ' → IsPf σ' dx s n (-1) [] → Q .none σ') :
    Kw (K2 prog w g mg mb) 8 (.ref 100) [.obj 213 dx] Q σ := by
  refine Kw_def (d := 7) ["self"] (by with_unfolding_all rfl) (by kernel_rfl) (fun ws h => by match ws, h with | [a], _ => rfl) (by decide) (fun L => ?_)
  refine Sx_cons (S1_Assign (Ew_List (Ew_items_nil ⟨by decide, fun s hs => ?_⟩)))
  have d1 : dx ≠ s := ne_of e hs
  refine Asg_AttrN (k := 0) (f := fun _ => none) rfl (by rw [Store.set_ne d1]; exact e) (by decide) sto_steps ?_
  refine Sx_cons (S1_Assign (Ew_List (Ew_items_cons (Ew_int (Ew_items_nil ⟨by decide, fun n hn => ?_⟩)))))
  have hn' : n ≠ dx := fun z => by subst z; simp at hn
  have hn2 : n ≠ s := fun z => by subst z; rw [Store.set_ne (Ne.symm d1)] at hn; simp at hn
  have hn3 : σ n = none := by rw [Store.set_ne hn', Store.set_ne hn2] at hn; exact hn
  refine Asg_AttrN (k := 1) rfl (by rw [Store.set_ne (Ne.symm hn'), Store.set_self]; rfl) (by decide) sto_named ?_
  refine Sx_cons (S1_Assign (Ew_UnaryOp (Ew_int (O1_neg ?_))))
  refine Asg_AttrN (k := 2) rfl (by rw [Store.set_self]; rfl) (by decide) sto_empty ?_
  refine Sx_nil (h s n _ hs hn3 ?_ ⟨?_, ?_, ?_, Ne.symm hn2⟩)
  · exact ((((((Same.refl _ _).new hs).put (List.mem_singleton.mpr rfl)).new hn).put (List.mem_singleton.mpr rfl)).put (List.mem_singleton.mpr rfl))
  · rw [Store.set_self]; rfl
  · rw [Store.set_ne (Ne.symm d1), Store.set_ne (Ne.symm d1), Store.set_ne (Ne.symm hn2), Store.set_ne (Ne.symm d1), Store.set_self]; rfl
  · rw [Store.set_ne hn', Store.set_ne hn', Store.set_self]

theorem make_spec {Q : V → Store → Prop} (h : ∀ dx s n σ', σ dx = none → σ s = none → σ n = none → Same [] σ σ' → IsPf σ' dx s n (-1) [] → Q (.obj 213 dx) σ') :
    Kw (K2 prog w g mg mb) 10 (.ref 213) [] Q σ :=
  Kw_make (fI := 100) (by kernel_rfl) (by kernel_rfl) (by kernel_rfl) fun dx hdx => (init_spec (σ := σ.set dx (.ns 0 fun _ => none)) (Store.set_self ..) (Q := fun v σ' => v = .none ∧ Q (.obj 213 dx) σ') fun s n σ' hs hn sm p => by
    have e1 : ∀ x, (σ.set dx (.ns 0 fun _ => none)) x = none → σ x = none := fun x hx => by
      rw [Store.set_ne (fun z => by subst z; simp at hx)] at hx; exact hx
    refine ⟨rfl, h dx s n σ' hdx (e1 s hs) (e1 n hn) ?_ p⟩
    exact (((Same.refl [dx] σ).new hdx).trans sm).drop fun a ha => .inr (by rw [List.mem_singleton.mp ha]; exact hdx))

theorem size_spec {dx s n : Addr} {e : Int} {rows : List Stp'} {Q : V → Store → Prop} (p : IsPf σ dx s n e rows) (hz : rows.length ≤ 1000) (h : Q (.int rows.length) σ) : Kw (K2 prog w g mg mb) 8 (.ref 128) [.obj 213 dx] Q σ := by
  refine Kw_def (d := 7) ["self"] (by with_unfolding_all rfl) (by kernel_rfl) (fun ws h => by match ws, h with | [a], _ => rfl) (by decide) (fun L => ?_)
  refine Sx_cons (S1_Return (Ew_CallG (EvF.bltK (by kernel_rfl) rfl) KeepOk.builtin (Ew_item (v := .none) (Ew_AttrN rfl p.dx rfl fld_steps (Cw_lenL p.st (by simp; omega) ?_)))))
  simpa [behind, retOf] using h

theorem clause_spec {dx s n : Addr} {e : Int} {rows : List Stp'} {i : Nat} {r : Stp'} {Q : V → Store → Prop} (p : IsPf σ dx s n e rows) (hz : rows.length ≤ 1000) (hr : rows[i]? = some r) (h : Q (.tup (r.clause.map V.int)) σ) : Kw (K2 prog w g mg mb) 8 (.ref 135) [.obj 213 dx, .int i] Q σ := by
  refine Kw_def (d := 7) ["self", "step"] (by with_unfolding_all rfl) (by kernel_rfl) (fun ws h => by match ws, h with | [a, b], _ => rfl) (by decide) (fun L => ?_)
  refine Sx_cons (S1_Return (Ew_Subscript (Ew_Subscript (Ew_AttrN rfl p.dx rfl fld_steps (Ew_name rfl (subL p.st (v := stepV r) (by simp [hr]) (by simp; omega) (Ew_int (subT (k := 1) (vs := [.str r.rule, .tup (r.clause.map V.int), .tup (r.prem.map fun n : Nat => V.int n), r.note]) rfl ?_))))))))
  exact h

theorem tidy_spec {cl : List Int} {Q : V → Store → Prop} (h1 : cl.length ≤ 1) (h0 : ∀ c ∈ cl, c ≠ 0) (h : Q (.bool true) σ) : Kw (K2 prog w g mg mb) 8 (.ref 86) [.tup (cl.map V.int)] Q σ := by
  refine Kw_def (d := 7) ["clause"] (by with_unfolding_all rfl) (by kernel_rfl) (fun ws h => by match ws, h with | [a], _ => rfl) (by decide) (fun L => ?_)
  have hl : (cl.map V.int).length ≤ 1000000 := by simp; omega
  refine Sx_cons (S1_For (fun it i ρ' σ' => it = .rng 0 1 cl.length ∧ σ' = σ ∧ i ≤ cl.length ∧ ρ' "clause" = some (.tup (cl.map V.int))) (Iw_val (Ew_CallG (EvF.bltK (by kernel_rfl) rfl) KeepOk.type (Ew_item (v := .none) (Ew_CallG (EvF.bltK (by kernel_rfl) rfl) KeepOk.builtin (Ew_item (v := .none) (Ew_name rfl (Cw_lenT hl (Cw_range1 ?_)))))))))
  rw [List.length_map]
  refine ⟨_, itR1 (by omega), .inl ⟨⟨_, _, rfl⟩, fun _ z => by cases z⟩, ⟨rfl, rfl, Nat.zero_le _, rfl⟩, cl.length, ?_⟩
  rintro i ρ' σ' ⟨-, rfl, hi, hc⟩
  refine ⟨hi, trivial, fun v hv => ?_, fun _ => Sx_cons (S1_Return (Ew_bool h))⟩
  simp only [It.at] at hv
  split at hv
  · rename_i hlt
    cases hv
    have e0 : i = 0 := by omega
    subst e0
    obtain ⟨c, e⟩ : ∃ c, cl = [c] := by
      match cl, h1, hlt with
      | [c], _, _ => exact ⟨c, rfl⟩
      | [], _, h => exact absurd h (by decide)
      | _ :: _ :: _, h, _ => exact absurd h (by simp)
    subst e
    refine Asg_Name (.inl rfl) ?_
    refine Sx_cons (S1_If (Ew_isCompare (Ew_Subscript (Ew_name ((Fra.set_ne (by decide)).trans hc) (Ew_name (Fra.set_self ..) (subT (k := 0) rfl (Ew_int (O2_eq ⟨_, rfl, fun hb => ?_, fun _ => ?_⟩))))))))
    · exact absurd (beq_iff_eq.mp hb) (h0 c (.head _))
    refine Sx_nil (Sx_cons (S1_If (Ew_isAnd (Ew_and_cons (Ew_isCompare (Ew_name (Fra.set_self ..) (Ew_int (O2_gt ⟨_, rfl, fun hb => absurd hb (by decide), fun _ => ⟨(fun z => by cases z), fun _ => ?_⟩⟩))))))))
    exact Sx_nil (Sx_nil ⟨rfl, rfl, Nat.le_refl _, (Fra.set_ne (by decide)).trans hc⟩)
  · cases hv
end
end Mine

open PySem PySem.W PyProof.Rows PySem.Calls PyProof.V PySem.Spec PySem.SeqAt
set_option Elab.async false
set_option linter.all false
set_option maxRecDepth 100000
set_option maxHeartbeats 4000000
namespace Mine
section
variable {prog : Program} {w : World} {g : Heap} {mg mb : Str → Option Value} {d : Nat} {env : Env} {ρ : Fra} {σ : Store}

theorem pfns_put (s n : Addr) (e e' : Int) : (fun y : Str => if y = "empty" then some (V.int e') else pfns s n e y) = pfns s n e' := by
  funext y
  unfold pfns
  by_cases h : y = "empty"
  · rw [if_pos h, if_pos h]
  · rw [if_neg h, if_neg h, if_neg h]

theorem add_spec {dx s n : Addr} {e : Int} {rows : List Stp'} {r : Stp'} {Q : V → Store → Prop} (p : IsPf σ dx s n e rows) (hz : rows.length ≤ 1000) (hr : r.rule ∈ rulesL) (h1 : r.clause.length ≤ 1) (h0 : ∀ c ∈ r.clause, c ≠ 0) (hp : ∀ m ∈ r.prem, m < rows.length) (hpl : r.prem.length ≤ 1000)
    (h : ∀ σ' e', Same [s, dx] σ σ' → IsPf σ' dx s n e' (rows ++ [r]) → Q (.int rows.length) σ') : Kw (K2 prog w g mg mb) 10 (.ref 149) [.obj 213 dx, .str r.rule, .tup (r.clause.map V.int), .tup (r.prem.map fun n : Nat => V.int n), r.note] Q σ := by
  refine Kw_def (d := 9) ["self", "rule", "clause", "premises", "note"] (by with_unfolding_all rfl) (by kernel_rfl) (fun ws h => by match ws, h with | [a, b, c, d, e], _ => rfl) (by decide) (fun L => ?_)
  have hl : (rows.map stepV).length ≤ 1000000 := by simp; omega
  refine Sx_cons (S1_Assign (Ew_CallG (EvF.bltK (by kernel_rfl) rfl) KeepOk.builtin (Ew_item (v := .none) (Ew_AttrN rfl p.dx rfl fld_steps (Cw_lenL p.st hl (Asg_Name (.inl rfl) ?_))))))
  rw [List.length_map]
  refine Sx_cons (S1_If (Ew_isCompare (Ew_name rfl (Ew_globK (v := .tup (rulesL.map V.str)) (by with_unfolding_all rfl) (fun h X => ?_) (O2_notInStrs ⟨_, rfl, fun hb => ?_, fun _ => ?_⟩)))))
  · exact ⟨_, _, _, rfl, X _ _ (by with_unfolding_all rfl), by
      unfold rulesL
      simp only [List.map_cons, List.map_nil]
      repeat (first | exact VRels.nil | refine VRels.cons ⟨_, rfl⟩ ?_)⟩
  · simp [hr] at hb
  refine Sx_nil (Sx_cons (S1_If (Ew_isNot (Ew_isBool (Ew_CallG (EvF.globK (by with_unfolding_all rfl)) keep_fn (Ew_item (v := .none) (Ew_name rfl ((tidy_spec h1 h0 ⟨true, rfl, (fun z => by cases z), fun _ => ?_⟩).cwle (by decide)))))))))
  refine Sx_nil (Sx_cons ?_)
  refine S1_ForL ["one"] (fun it i ρ' σ' => it = .tup (r.prem.map fun n : Nat => V.int n) ∧ σ' = σ ∧ i ≤ r.prem.length) (Iw_val (Ew_name rfl ?_))
  refine ⟨_, .tup, .inl ⟨⟨_, _, rfl⟩, fun _ z => by cases z⟩, ⟨rfl, rfl, Nat.zero_le _⟩, r.prem.length, ?_⟩
  rintro i ρ' σ' hρ ⟨-, rfl, hi⟩
  refine ⟨hi, trivial, fun v hv => ?_, fun hv => ?_⟩
  · simp only [It.at, List.getElem?_map, Option.map_eq_some_iff] at hv
    obtain ⟨m, hm, rfl⟩ := hv
    have hlt : m < rows.length := hp m (List.mem_of_getElem? hm)
    have hi' : i < r.prem.length := (List.getElem?_eq_some_iff.mp hm).1
    refine Asg_Name (.inl rfl) (Sx_cons (S1_If (Ew_isNot (Ew_isChain (Ew_int (Ew_name (Fra.set_self ..) (O2_le ⟨_, rfl, fun hb => ?_, fun _ => Ew_name (Fra.aside (hρ.at rfl)) (O2_lt ⟨_, rfl, fun hb => ?_, fun _ => ?_⟩)⟩)))))))
    · exact absurd (of_decide_eq_false hb) (by omega)
    · have : ¬ ((m : Int) < (rows.length : Int)) := by simpa using hb
      omega
    · exact Sx_nil (Sx_nil ⟨hρ.set (.head _), rfl, rfl, hi'⟩)
  refine Sx_cons (S1_Expr (Ew_CallM (Ew_AttrN (hρ.at rfl) p.dx rfl fld_steps ⟨_, MethOk.list p.st PySem.F.slot_list_append PySem.F.type_list_append, KeepOk.builtin, Ew_item (v := .none) (Ew_Tuple (Ew_items_cons (Ew_name (hρ.at rfl) (Ew_items_cons ?_))))⟩)))
  refine Ew_CallG (EvF.bltK (by kernel_rfl) rfl) KeepOk.type (Ew_item (v := .none) (Ew_name (hρ.at rfl) (Cw_tupleT (Ew_items_cons ?_))))
  refine Ew_CallG (EvF.bltK (by kernel_rfl) rfl) KeepOk.type (Ew_item (v := .none) (Ew_name (hρ.at rfl) (Cw_tupleT (Ew_items_cons ?_))))
  refine Ew_name (hρ.at rfl) (Ew_items_nil ⟨by simp, Cw_append p.st hl ?_⟩)
  have e0 : rows.map stepV ++ [V.tup [.str r.rule, .tup (r.clause.map V.int), .tup (r.prem.map fun n : Nat => V.int n), r.note]] = (rows ++ [r]).map stepV := by rw [List.map_append]; rfl
  rw [e0]
  have n1 : dx ≠ s := fun z => by have := p.dx; rw [z, p.st] at this; cases this
  have p1 : IsPf (σ'.set s (.list ((rows ++ [r]).map stepV))) dx s n e (rows ++ [r]) := ⟨(Store.set_ne n1).trans p.dx, Store.set_self .., (Store.set_ne (Ne.symm p.ne)).trans p.nm, p.ne⟩
  have s1 : Same [s, dx] σ' (σ'.set s (.list ((rows ++ [r]).map stepV))) := (Same.refl _ _).put (.head _)
  refine Sx_cons (S1_If (Ew_isAnd (Ew_and_cons (Ew_isCompare (Ew_CallG (EvF.bltK (by kernel_rfl) rfl) KeepOk.builtin (Ew_item (v := .none) (Ew_name (hρ.at rfl) (Cw_lenT (by simp; omega) (Ew_int (O2_eq ⟨_, rfl, fun _ => ?_, fun _ => ⟨(fun z => by cases z), fun _ => Sx_nil (Sx_cons (S1_Return (Ew_name (hρ.at rfl) (h _ e s1 p1))))⟩⟩))))))))))
  refine Ew_and_cons (Ew_isCompare (Ew_AttrN (hρ.at rfl) p1.dx rfl fld_empty (Ew_int (O2_lt ⟨_, rfl, fun _ => ?_, fun _ => ⟨(fun z => by cases z), fun _ => Sx_nil (Sx_cons (S1_Return (Ew_name (hρ.at rfl) (h _ e s1 p1))))⟩⟩))))
  refine Ew_and_nil ⟨fun _ => ?_, fun z => by cases z⟩
  refine Sx_cons (S1_Assign (Ew_name (hρ.at rfl) (Asg_AttrN (hρ.at rfl) p1.dx (by decide) sto_empty (Sx_nil (Sx_cons (S1_Return (Ew_name (hρ.at rfl) ?_)))))))
  refine h _ rows.length (s1.put (.tail _ (.head _))) ⟨?_, ?_, ?_, p.ne⟩
  · rw [Store.set_self, ← pfns_put s n e rows.length]; rfl
  · exact (Store.set_ne (Ne.symm n1)).trans p1.st
  · exact (Store.set_ne (fun z => by have := p.dx; rw [← z, p.nm] at this; cases this)).trans p1.nm
end
end Mine

open PySem PySem.W PyProof.Rows PySem.Calls PyProof.V PySem.Spec PySem.SeqAt
set_option Elab.async false
set_option linter.all false
set_option maxRecDepth 100000
set_option maxHeartbeats 4000000
namespace Mine
theorem keys_len {K : Nat} {kvs : List (Int × V)} (nd : (kvs.map (·.1)).Nodup) (h : ∀ m : Int, m ∈ kvs.map (·.1) → ∃ q : Nat, m = q ∧ q < K) : kvs.length ≤ K := by
  have := List.Nodup.length_le_of_subset nd (l₂ := zints (List.range K)) fun m hm => by
    obtain ⟨q, e, hq⟩ := h m hm
    exact mem_ints.mpr ⟨q, e, List.mem_range.mpr hq⟩
  simpa [zints] using this
section
variable {prog : Program} {w : World} {g : Heap} {mg mb : Str → Option Value} {d : Nat} {env : Env} {ρ : Fra} {σ : Store}

theorem needed_spec {dx s n : Addr} {e : Int} {rows : List Stp'} {last : Nat} {Q : V → Store → Prop} (p : IsPf σ dx s n e rows) (gr : GoodRows rows) (hlast : last < rows.length) (hz : rows.length ≤ 60)
    (h : ∀ a σ', σ a = none → Same [] σ σ' → σ' a = some (.list (vints (need (premsOf rows) last))) → Q (.ref a) σ') : Kw (K2 prog w g mg mb) 8 (.ref 177) [.obj 213 dx, .int last] Q σ := by
  have ah := gr.ahead
  refine Kw_def (d := 7) ["self", "last"] (by with_unfolding_all rfl) (by kernel_rfl) (fun ws h => by match ws, h with | [a, b], _ => rfl) (by decide) (fun L => ?_)
  refine Sx_cons (S1_Assign (Ew_DictK (knd := intKind prog w) (mk := O.idict) (fun _ _ _ => Iff.rfl) rfl rfl (by simp) (by decide) fun dd hdd => ?_))
  refine Ew_pairs_cons emb_int (Ew_name rfl ⟨(last : Int), rfl, Ew_bool (Ew_pairs_nil ⟨Store.set_self .., Asg_Name (.inl rfl) ?_⟩)⟩)
  refine Sx_cons (S1_ForL ["number", "one"] (fun it i ρ' σ' => it = .rng last (-1) (last + 1) ∧ i ≤ last + 1 ∧ Same [] σ σ' ∧ ∃ kvs, σ' dd = some (.idict kvs) ∧ (kvs.map (·.1)).Nodup ∧ ∀ m : Int, m ∈ kvs.map (·.1) ↔ ∃ q : Nat, m = q ∧ Wk (premsOf rows) last (last + 1 - i) q) (Iw_val ?_))
  refine Ew_CallG (EvF.bltK (by kernel_rfl) rfl) KeepOk.type (Ew_items_cons (Ew_name rfl (Ew_items_cons (Ew_UnaryOp (Ew_int (O1_neg (Ew_items_cons (Ew_UnaryOp (Ew_int (O1_neg (Ew_items_nil (Cw_range3 (by decide) (by decide) ?_))))))))))))
  refine ⟨_, itDown (by omega), .inl ⟨⟨_, _, rfl⟩, fun _ z => by cases z⟩, ⟨rfl, Nat.zero_le _, ?_, [((last : Int), .bool true)], ?_, by simp, fun m => ?_⟩, last + 1, ?_⟩
  · exact fun a o e _ => by rw [Store.set_ne (ne_of e hdd), Store.set_ne (ne_of e hdd)]; exact e
  · rw [Store.set_self]; rfl
  · simp only [List.map_cons, List.map_nil, List.mem_singleton, Nat.sub_zero, Wk_top ah]
    exact ⟨fun e => ⟨last, e, rfl⟩, fun ⟨q, e, z⟩ => by rw [e, z]⟩
  rintro i ρ' σ' hρ ⟨-, hi, sm, kvs, hk, nd, hm⟩
  have bound : ∀ m : Int, m ∈ kvs.map (·.1) → ∃ q : Nat, m = q ∧ q < last + 1 := fun m hm' => by
    obtain ⟨q, e, hq⟩ := (hm m).mp hm'
    exact ⟨q, e, Nat.lt_succ_of_le (Wk_le ah hq)⟩
  refine ⟨hi, trivial, fun v hv => ?_, fun hv => ?_⟩
  · simp only [It.at] at hv
    split at hv
    · rename_i hlt
      cases hv
      obtain ⟨num, hn⟩ : ∃ num : Nat, num + i = last := ⟨last - i, by omega⟩
      have e1 : (last : Int) + (i : Int) * (-1) = (num : Int) := by omega
      have e2 : last + 1 - i = num + 1 := by omega
      have e3 : last + 1 - (i + 1) = num := by omega
      rw [e1]
      rw [e2] at hm
      refine Asg_Name (.inl rfl) (Sx_cons (S1_If (Ew_isCompare (Ew_name (Fra.set_self ..) (Ew_name (Fra.aside (hρ.at rfl)) (O2_inD hk ⟨_, rfl, fun hb => ?_, fun hb => ?_⟩))))))
      · obtain ⟨q, eq, hq⟩ := (hm _).mp (hasK_iff.mp hb)
        have : q = num := (Int.ofNat_inj.mp eq).symm
        subst this
        have hnd : Needs (premsOf rows) last q := (Wk_at ah).mp hq
        obtain ⟨r, hr⟩ : ∃ r, rows[q]? = some r := ⟨rows[q]'(by omega), List.getElem?_eq_getElem _⟩
        have hP := premsOf_some hr
        have p' := p.keep sm (by simp) (by simp) (by simp)
        refine Sx_cons (S1_ForL ["one"] (fun it j ρ₂ σ₂ => it = .tup (r.prem.map fun n : Nat => V.int n) ∧ j ≤ r.prem.length ∧ Same [] σ σ₂ ∧ ∃ kvs, σ₂ dd = some (.idict kvs) ∧ (kvs.map (·.1)).Nodup ∧ ∀ m : Int, m ∈ kvs.map (·.1) ↔ ∃ x : Nat, m = x ∧ (Wk (premsOf rows) last (q + 1) x ∨ x ∈ r.prem.take j)) (Iw_val ?_))
        refine Ew_Subscript (Ew_Subscript (Ew_AttrN (Fra.aside (hρ.at rfl)) p'.dx rfl fld_steps (Ew_name (Fra.set_self ..) (subL p'.st (v := stepV r) (by simp [hr]) (by simp; omega) (Ew_int (subT (k := 2) (vs := [.str r.rule, .tup (r.clause.map V.int), .tup (r.prem.map fun n : Nat => V.int n), r.note]) rfl ?_))))))
        refine ⟨_, .tup, .inl ⟨⟨_, _, rfl⟩, fun _ z => by cases z⟩, ⟨rfl, Nat.zero_le _, sm, kvs, hk, nd, fun m => by simpa using hm m⟩, r.prem.length, ?_⟩
        rintro j ρ₂ σ₂ hρ₂ ⟨-, hj, sm₂, kvs₂, hk₂, nd₂, hm₂⟩
        refine ⟨hj, trivial, fun v hv => ?_, fun hv => ?_⟩
        · simp only [It.at, List.getElem?_map, Option.map_eq_some_iff] at hv
          obtain ⟨x, hx, rfl⟩ := hv
          have hj' : j < r.prem.length := (List.getElem?_eq_some_iff.mp hx).1
          have hlen : kvs₂.length ≤ last + 1 := keys_len nd₂ fun m hm' => by
            obtain ⟨x, e, hx⟩ := (hm₂ m).mp hm'
            refine ⟨x, e, Nat.lt_succ_of_le ?_⟩
            rcases hx with hx | hx
            · exact Wk_le ah hx
            · exact Needs.le ah (.step hnd (hP ▸ List.mem_of_mem_take hx))
          refine Asg_Name (.inl rfl) (Sx_cons (S1_Assign (Ew_bool (Asg_Subscript (Ew_name (Fra.aside (hρ₂.at (Fra.aside (hρ.at rfl)))) (Ew_name (Fra.set_self ..) (O3_setD hk₂ (by omega) (Sx_nil ⟨hρ₂.set (.head _), rfl, hj', ?_, _, Store.set_self .., nodup_putK nd₂, fun m => ?_⟩))))))))
          · exact fun a o e na => by
              rw [Store.set_ne (ne_of e hdd)]
              exact sm₂ a o e na
          · rw [mem_putK, hm₂, List.take_add_one, hx]
            simp only [Option.toList_some, List.mem_append, List.mem_singleton]
            constructor
            · rintro (e | ⟨y, e, hy⟩)
              · exact ⟨x, e, .inr (.inr rfl)⟩
              · exact ⟨y, e, hy.imp id .inl⟩
            · rintro ⟨y, e, hy | hy | hy⟩
              · exact .inr ⟨y, e, .inl hy⟩
              · exact .inr ⟨y, e, .inr hy⟩
              · exact .inl (by rw [e, hy])
        · have hj' : j = r.prem.length := by
            simp only [It.at, List.getElem?_map, Option.map_eq_none_iff, List.getElem?_eq_none_iff] at hv
            omega
          subst hj'
          rw [List.take_length] at hm₂
          refine Sx_nil (Sx_nil ⟨?_, rfl, hlt, sm₂, kvs₂, hk₂, nd₂, fun m => ?_⟩)
          · exact fun y hy => (hρ₂ y (fun z => hy (.tail _ z))).trans ((Fra.set_ne (fun z => hy (by rw [z]; exact .head _))).trans (hρ y hy))
          · rw [hm₂, e3]
            refine exists_congr fun x => and_congr_right fun _ => ?_
            rw [Wk_step (n := q), hP]
            exact or_congr_right ⟨fun z => ⟨hnd, z⟩, fun z => z.2⟩
      · refine Sx_nil (Sx_nil ⟨hρ.set (.head _), rfl, hlt, sm, kvs, hk, nd, fun m => ?_⟩)
        rw [hm, e3]
        refine exists_congr fun x => and_congr_right fun _ => ?_
        rw [Wk_step (n := num)]
        refine ⟨.inl, fun z => z.elim id fun z => absurd ((Wk_at ah).mpr z.1) fun z2 => ?_⟩
        have := hasK_iff.mpr ((hm _).mpr ⟨num, rfl, z2⟩)
        rw [hb] at this; cases this
    · cases hv
  · have hi' : i = last + 1 := by
      simp only [It.at] at hv
      split at hv
      · cases hv
      · omega
    subst hi'
    rw [Nat.sub_self] at hm
    have hlen := keys_len nd bound
    refine Sx_cons (S1_Return (Ew_CallG (EvF.bltK (by kernel_rfl) rfl) KeepOk.builtin (Ew_item (v := .none) (Ew_name (hρ.at rfl) (Cw_sortedD hk (by omega) (ns' := zints (need (premsOf rows) last)) ?_ (ints_sorted (need_sorted _ _)) fun a ha => ?_)))))
    · refine (List.perm_ext_iff_of_nodup (ints_nodup (need_nodup _ _)) nd).mpr fun m => ?_
      rw [hm, mem_ints]
      exact exists_congr fun x => and_congr_right fun _ => (mem_need ah).trans Wk_zero.symm
    · rw [vints_eq]
      refine h a _ ?_ (sm.new ha) (Store.set_self ..)
      cases q : σ a with
      | none => rfl
      | some o => have := sm a o q (by simp); rw [ha] at this; cases this
end
end Mine

open PySem PySem.W PyProof.Rows PySem.Calls PyProof.V PySem.Spec PySem.SeqAt
set_option Elab.async false
set_option linter.all false
set_option maxRecDepth 100000
set_option maxHeartbeats 4000000
namespace Mine
section
variable {prog : Program} {w : World} {g : Heap} {mg mb : Str → Option Value} {d : Nat} {env : Env} {ρ : Fra} {σ : Store}

theorem trimmed_spec {dx s n : Addr} {e : Int} {rows : List Stp'} {last : Nat} {Q : V → Store → Prop} (p : IsPf σ dx s n e rows) (gr : GoodRows rows) (ok : ∀ r ∈ rows, OkRow r) (hlast : last < rows.length) (hz : rows.length ≤ 60)
    (h : ∀ dx' s' n' e' σ', σ dx' = none → σ s' = none → σ n' = none → Same [] σ σ' → IsPf σ' dx' s' n' e' (trimRows rows (need (premsOf rows) last)) → Q (.obj 213 dx') σ') : Kw (K2 prog w g mg mb) 14 (.ref 182) [.obj 213 dx, .int last] Q σ := by
  have ah := gr.ahead
  refine Kw_def (d := 13) ["self", "last"] (by with_unfolding_all rfl) (by kernel_rfl) (fun ws h => by match ws, h with | [a, b], _ => rfl) (by decide) (fun L => ?_)
  refine Sx_cons (S1_Assign (Ew_Tuple (Ew_items_cons (Ew_CallG (EvF.globK (by with_unfolding_all rfl)) keep_fn (Ew_items_nil ((make_spec fun dx' s' n' σ₁ f1 f2 f3 sm₁ p₁ => ?_).cwle (by decide)))))))
  refine Ew_items_cons (Ew_Dict0 fun pl hpl => Ew_items_nil ⟨by simp, Asg_Tuple rfl (AsgL_cons (Asg_Name (.inl rfl) (AsgL_cons (Asg_Name (.inr ⟨rfl, rfl, rfl, _, rfl⟩) (AsgL_nil ?_))))) ⟩)
  have sm₂ : Same [] σ (σ₁.set pl (.idict [])) := sm₁.new hpl
  have p₂ := p.keep sm₂ (by simp) (by simp) (by simp)
  have pn₂ : IsPf (σ₁.set pl (.idict [])) dx' s' n' (-1) [] := p₁.keep ((Same.refl [] _).new hpl) (by simp) (by simp) (by simp)
  refine Sx_cons (S1_ForL ["var"] (fun it i ρ' σ' => it = .rng 1 1 0 ∧ i = 0 ∧ σ' = σ₁.set pl (.idict [])) (Iw_val ?_))
  refine Ew_CallG (EvF.bltK (by kernel_rfl) rfl) KeepOk.type (Ew_items_cons (Ew_int (Ew_item (v := .none) (Ew_CallG (EvF.bltK (by kernel_rfl) rfl) KeepOk.builtin (Ew_item (v := .none) (Ew_AttrN rfl p₂.dx rfl fld_named (Cw_lenL p₂.nm (by decide) (Cw_range2 ?_))))))))
  refine ⟨_, itR2 (n := 1) (by decide), .inl ⟨⟨_, _, rfl⟩, fun _ z => by cases z⟩, ⟨rfl, rfl, rfl⟩, 0, ?_⟩
  rintro i₀ ρ' σ' hρ ⟨-, rfl, rfl⟩
  refine ⟨Nat.le_refl _, trivial, fun v hv => ?_, fun _ => ?_⟩
  · simp only [It.at] at hv
    rw [if_neg (Nat.not_lt_zero _)] at hv
    cases hv
  clear p₁
  generalize hσ₂ : σ₁.set pl (.idict []) = σ₂ at sm₂ p₂ pn₂ ⊢
  have hpl₂ : σ₂ pl = some (.idict []) := by rw [← hσ₂, Store.set_self]
  have hpl0 : σ pl = none := by
    cases q : σ pl with
    | none => rfl
    | some o => have := sm₁ pl o q (by simp); rw [hpl] at this; cases this
  have k1 : pl ≠ dx' := fun z => by rw [z, pn₂.dx] at hpl₂; cases hpl₂
  have k2 : pl ≠ s' := fun z => by rw [z, pn₂.st] at hpl₂; cases hpl₂
  have k3 : pl ≠ n' := fun z => by rw [z, pn₂.nm] at hpl₂; cases hpl₂
  refine Sx_cons (S1_ForL ["number", "rule", "clause", "premises", "note"] (fun it i ρ₂ σ' => ∃ a, it = .list a ∧ σ₂ a = none ∧ σ' a = some (.list (vints (need (premsOf rows) last))) ∧ i ≤ (need (premsOf rows) last).length ∧ Same [] σ σ' ∧
    ∃ e' kvs, IsPf σ' dx' s' n' e' ((trimRows rows (need (premsOf rows) last)).take i) ∧ σ' pl = some (.idict kvs) ∧ kvs.length ≤ i ∧ ∀ j t, j < i → (need (premsOf rows) last)[j]? = some t → getK (t : Int) kvs = some (.int j)) (Iw_val ?_))
  refine Ew_CallN (hρ.at rfl) p₂.dx rfl mth_needed keep_fn (Ew_item (v := .none) (Ew_name (hρ.at rfl) ((needed_spec p₂ gr hlast hz fun a σ₃ ha sm₃ ha₃ => ?_).cwle (by decide))))
  refine ⟨_, .list ha₃, .inl ⟨⟨_, _, rfl⟩, fun _ z => by cases z⟩, ⟨a, rfl, ha, ha₃, Nat.zero_le _, sm₂.trans sm₃, (-1), [], pn₂.keep sm₃ (by simp) (by simp) (by simp), sm₃.at hpl₂, Nat.le_refl _, fun j t h => absurd h (Nat.not_lt_zero _)⟩, (need (premsOf rows) last).length, ?_⟩
  rintro i ρ₂ σ₄ hρ₂ ⟨a', ea, hna, ha₄, hi, sm₄, e', kvs, pn, hk, hkl, hkv⟩
  cases ea
  refine ⟨hi, ⟨_, ha₄⟩, fun v hv => ?_, fun hv => ?_⟩
  · simp only [It.at, lof_of ha₄] at hv
    unfold vints at hv
    rw [List.getElem?_map, Option.map_eq_some_iff] at hv
    obtain ⟨t, ht, rfl⟩ := hv
    obtain ⟨hi', -⟩ := List.getElem?_eq_some_iff.mp ht
    have htm : t ∈ need (premsOf rows) last := List.mem_of_getElem? ht
    have hnt := (mem_need ah).mp htm
    have htl : t < rows.length := Nat.lt_of_le_of_lt (hnt.le ah) hlast
    obtain ⟨r, hr⟩ : ∃ r, rows[t]? = some r := ⟨rows[t], List.getElem?_eq_getElem htl⟩
    have okr := ok r (List.mem_of_getElem? hr)
    have okp := okr.prem
    have nl := need_length (premsOf rows) last
    have hP := premsOf_some hr
    have p₄ := p.keep sm₄ (by simp) (by simp) (by simp)
    have inT : ∀ m ∈ r.prem, m ∈ need (premsOf rows) last ∧ (need (premsOf rows) last).idxOf m < i := fun m hm => by
      have hmT := (mem_need ah).mpr (.step hnt (hP ▸ hm : m ∈ premsOf rows t))
      exact ⟨hmT, idx_lt (need_sorted _ _) ht hmT (gr t r hr m hm)⟩
    refine Asg_Name (.inl rfl) (Sx_cons (S1_Assign (Ew_Subscript (Ew_AttrN (Fra.aside (hρ₂.at (hρ.at rfl))) p₄.dx rfl fld_steps (Ew_name (Fra.set_self ..) (subL p₄.st (v := stepV r) (by simp [hr]) (by simp; omega) ?_))))))
    refine Asg_Tuple (vs := [.str r.rule, .tup (r.clause.map V.int), .tup (r.prem.map fun n : Nat => V.int n), r.note]) rfl (AsgL_cons (Asg_Name (.inl rfl) (AsgL_cons (Asg_Name (.inl rfl) (AsgL_cons (Asg_Name (.inl rfl) (AsgL_cons (Asg_Name (.inl rfl) (AsgL_nil ?_)))))))))
    refine Sx_cons (S1_Assign ?_)
    refine Ew_CallN (Fra.aside (Fra.aside (Fra.aside (Fra.aside (Fra.aside (hρ₂.at (hρ.at rfl))))))) pn.dx rfl mth_add keep_fn (Ew_items_cons (Ew_name (Fra.aside (Fra.aside (Fra.aside (Fra.set_self ..)))) (Ew_items_cons (Ew_name (Fra.aside (Fra.aside (Fra.set_self ..))) (Ew_items_cons ?_)))))
    have gp : ∀ m ∈ r.prem, getK (m : Int) kvs = some (.int ((need (premsOf rows) last).idxOf m)) := fun m hm => hkv _ m (inT m hm).2 (idx_at (inT m hm).1)
    refine Ew_CallG (EvF.bltK (by kernel_rfl) rfl) KeepOk.type (Ew_item (v := .none) (Ew_ListComp (cl := [("places", L + 1)]) (by with_unfolding_all rfl) (ClOk.to ⟨rfl, trivial⟩) (Iw_val (Ew_name (Fra.aside (Fra.set_self ..)) ⟨_, .tup, fun D LL hD => ?_⟩))))
    refine Gw_loopL ["one"] rfl rfl turn_one (.inl ⟨⟨_, _, rfl⟩, fun _ z => by cases z⟩) (fun j σ' => j ≤ r.prem.length ∧ Same [D] (σ₄.set D (.list [])) σ' ∧ σ' D = some (.list ((r.prem.take j).map fun m => V.int ((need (premsOf rows) last).idxOf m)))) ⟨Nat.zero_le _, Same.refl _ _, Store.set_self ..⟩ r.prem.length ?_
    · rintro j ρ₃ σ₅ hρ₃ ⟨hj, sm₅, hD₅⟩
      have s45 : Same [] σ₄ σ₅ := ((Same.refl [D] σ₄).new hD).trans sm₅ |>.drop fun x hx => .inr (by rw [List.mem_singleton.mp hx]; exact hD)
      refine ⟨hj, trivial, fun v hv => ?_, fun hv ρ₆ hρ₆ => ?_⟩
      · simp only [It.at, List.getElem?_map, Option.map_eq_some_iff] at hv
        obtain ⟨m, hm, rfl⟩ := hv
        have hmm : m ∈ r.prem := List.mem_of_getElem? hm
        obtain ⟨hj', -⟩ := List.getElem?_eq_some_iff.mp hm
        refine Asg_Name (.inl rfl) (Ts_nil ⟨fun _ => Em_last ?_, fun z => by cases z⟩)
        refine Ew_Subscript (Ew_name (Fra.aside (hρ₃.at (compFra_at (Fra.aside (Fra.aside (Fra.aside (Fra.aside (Fra.aside (hρ₂.at (hρ.at rfl)))))))))) (Ew_name (Fra.set_self ..) (subD (s45.at hk) (gp m hmm) ⟨_, hD₅, by simp; omega, hρ₃.set (.head _), hj', sm₅.put (.head _), ?_⟩)))
        rw [Store.set_self, List.take_add_one, hm]
        simp
      · have hj' : j = r.prem.length := by
          simp only [It.at, List.getElem?_map, Option.map_eq_none_iff, List.getElem?_eq_none_iff] at hv
          omega
        subst hj'
        rw [List.take_length] at hD₅
        have ed : (r.prem.map fun m => V.int ((need (premsOf rows) last).idxOf m)) = (r.prem.map fun m => (need (premsOf rows) last).idxOf m).map fun n : Nat => V.int n := by rw [List.map_map]; rfl
        rw [ed] at hD₅
        have pn₅ := pn.keep s45 (by simp) (by simp) (by simp)
        have hlen : ((trimRows rows (need (premsOf rows) last)).take i).length = i := by
          rw [List.length_take]; unfold trimRows; rw [List.length_map]; omega
        have sm05 : Same [] σ σ₅ := sm₄.trans s45
        refine Cw_tupleL hD₅ (by simp; omega) (Ew_items_cons (Ew_name (Fra.set_self ..) (Ew_items_nil ((add_spec (r := { r with prem := r.prem.map fun m => (need (premsOf rows) last).idxOf m }) pn₅ (by rw [hlen]; omega) okr.rule okr.len okr.nz ?_ (by simpa using okp) fun σ₆ e'' sm₆ p₆ => ?_).cwle (by decide)))))
        · intro m hm
          obtain ⟨y, hy, rfl⟩ := List.mem_map.mp hm
          rw [hlen]
          exact (inT y hy).2
        have hk₆ := sm₆.at (s45.at hk) (by simp only [List.mem_cons, List.not_mem_nil, or_false, not_or]; exact ⟨k2, k1⟩)
        have ha₅ := s45.at ha₄
        have a1 : a ≠ s' := fun z => by rw [z, pn₂.st] at ha; cases ha
        have a2 : a ≠ dx' := fun z => by rw [z, pn₂.dx] at ha; cases ha
        have a3 : a ≠ pl := fun z => by rw [z, hpl₂] at ha; cases ha
        have ha₆ := sm₆.at ha₅ (by simp only [List.mem_cons, List.not_mem_nil, or_false, not_or]; exact ⟨a1, a2⟩)
        refine Asg_Subscript (Ew_name (Fra.aside (Fra.aside (Fra.aside (Fra.aside (Fra.aside (hρ₂.at (hρ.at rfl))))))) (Ew_name (Fra.aside (Fra.aside (Fra.aside (Fra.aside (Fra.set_self ..))))) (O3_setD hk₆ (by omega) (Sx_nil ⟨?_, a, rfl, hna, ?_, hi', ?_, e'', _, ?_, Store.set_self .., ?_, fun j t' hj ht' => ?_⟩))))
        · exact ((((hρ₂.set (.head _)).set (.tail _ (.head _))).set (.tail _ (.tail _ (.head _)))).set (.tail _ (.tail _ (.tail _ (.head _))))).set (.tail _ (.tail _ (.tail _ (.tail _ (.head _)))))
        · rw [Store.set_ne a3]; exact ha₆
        · exact ((sm05.mono (by simp)).trans (sm₆.mono (Y := [s', dx', pl]) (by simp)) |>.put (by simp)).drop fun x hx => .inr (by
            simp only [List.mem_cons, List.not_mem_nil, or_false] at hx
            rcases hx with rfl | rfl | rfl
            · exact f2
            · exact f1
            · exact hpl0)
        · have e1 : (trimRows rows (need (premsOf rows) last)).take (i + 1) = (trimRows rows (need (premsOf rows) last)).take i ++ [{ r with prem := r.prem.map fun m => (need (premsOf rows) last).idxOf m }] := by
            rw [List.take_add_one]
            unfold trimRows
            rw [List.getElem?_map, ht, Option.map_some, rowAt_some hr]
            rfl
          rw [e1]
          exact p₆.keep ((Same.refl [pl] _).put (.head _)) (by simpa using Ne.symm k1) (by simpa using Ne.symm k2) (by simpa using Ne.symm k3)
        · exact Nat.le_trans (hasK_len _ _ _) (Nat.succ_le_succ hkl)
        · rcases Nat.lt_or_eq_of_le (Nat.le_of_lt_succ hj) with hj | rfl
          · rw [getK_put_ne]
            · exact hkv j t' hj ht'
            · intro z
              have z' : t' = t := Int.ofNat_inj.mp z
              subst z'
              have := (List.getElem?_inj (by omega) (need_nodup _ _)).mp (ht'.trans ht.symm)
              omega
          · have : t' = t := by rw [ht] at ht'; exact (Option.some.inj ht').symm
            subst this
            rw [getK_put_self, hlen]
  · have hi' : i = (need (premsOf rows) last).length := by
      simp only [It.at, lof_of ha₄] at hv
      unfold vints at hv
      rw [List.getElem?_map, Option.map_eq_none_iff, List.getElem?_eq_none_iff] at hv
      omega
    subst hi'
    rw [List.take_of_length_le (by unfold trimRows; rw [List.length_map]; exact Nat.le_refl _)] at pn
    exact Sx_cons (S1_Return (Ew_name (hρ₂.at (hρ.at rfl)) (h dx' s' n' e' σ₄ f1 f2 f3 sm₄ pn)))
end
end Mine

open PySem PySem.W PyProof.Rows PySem.Calls PyProof.V PySem.Spec PySem.SeqAt
set_option Elab.async false
set_option linter.all false
set_option maxRecDepth 100000
set_option maxHeartbeats 4000000
namespace Mine
section
variable {prog : Program} {w : World} {g : Heap} {mg mb : Str → Option Value} {d : Nat} {env : Env} {ρ : Fra} {σ : Store}

def kegO (c : Addr) (k : Nat) : O := .sdict [("cells", .ref c), ("k", .int k)]
theorem nip_spec {kd c : Addr} {k many : Nat} {cells : List Int} {Q : V → Store → Prop} (hk : σ kd = some (kegO c k)) (hc : σ c = some (.list (cells.map V.int))) (hkk : k ≤ 1000) (hz : cells.length ≤ 1000) (hm : 0 < many) 
    (h : ∀ r : Nat, r < many → Q (.int r) (σ.set kd (kegO c (k + 1)))) : Kw (K2 prog w g mg mb) 8 (.ref 223) [.ref kd, .int many] Q σ := by
  refine Kw_def (d := 7) ["keg", "many"] (by with_unfolding_all rfl) (by kernel_rfl) (fun ws h => by match ws, h with | [a, b], _ => rfl) (by decide) (fun L => ?_)
  have hcd : c ≠ kd := fun z => by rw [z, hk] at hc; cases hc
  refine Sx_cons (S1_Assign (Ew_Subscript (Ew_name rfl (Ew_str (subS (v := .int k) hk rfl (Asg_Name (.inl rfl) ?_))))))
  refine Sx_cons (S1_Assign (Ew_BinOp (Ew_name rfl (Ew_int (O2_add (Asg_Subscript (Ew_name rfl (Ew_str (O3_setS hk (by simp) ?_)))))))))
  have e1 : σ.set kd (.sdict (putK ("k" : Str) (V.int (k + 1)) [("cells", .ref c), ("k", .int k)])) = σ.set kd (kegO c (k + 1)) := by
    unfold kegO
    congr 1
  rw [e1]
  have hk' : (σ.set kd (kegO c (k + 1))) kd = some (kegO c (k + 1)) := Store.set_self ..
  have hc' : (σ.set kd (kegO c (k + 1))) c = some (.list (cells.map V.int)) := (Store.set_ne hcd).trans hc
  have fin : ∀ x : Int, ∃ r : Nat, r < many ∧ x.fmod (many : Int) = r := fun x => by
    have a1 := Int.fmod_nonneg_of_pos x (b := (many : Int)) (by omega)
    have a2 := Int.fmod_lt_of_pos x (b := (many : Int)) (by omega)
    exact ⟨(x.fmod many).toNat, by omega, by omega⟩
  have hl : (cells.map V.int).length ≤ 1000000 := by simp; omega
  refine Sx_cons (S1_If (Ew_isCompare (Ew_name rfl (Ew_CallG (EvF.bltK (by kernel_rfl) rfl) KeepOk.builtin (Ew_item (v := .none) (Ew_Subscript (Ew_name rfl (Ew_str (subS (v := .ref c) hk' rfl (Cw_lenL hc' hl (O2_lt ⟨_, rfl, fun hb => ?_, fun _ => ?_⟩)))))))))))
  · have hlt : k < cells.length := by
      have := of_decide_eq_true hb
      rw [List.length_map] at this
      omega
    obtain ⟨r, hr, e⟩ := fin cells[k]
    refine Sx_cons (S1_Return (Ew_BinOp (Ew_Subscript (Ew_Subscript ?_))))
    refine Ew_name rfl (Ew_str (subS (v := .ref c) hk' rfl ?_))
    refine Ew_name rfl (subL hc' (v := .int cells[k]) (by simp [hlt]) hl (Ew_name rfl (O2_fmod (by omega) ?_)))
    rw [e]; exact h r hr
  · refine Sx_nil (Sx_cons (S1_Return ?_))
    refine Ew_BinOp (Ew_BinOp (Ew_BinOp (Ew_BinOp (Ew_BinOp (Ew_BinOp (Ew_BinOp ?_))))))
    refine Ew_int (Ew_name rfl (O2_mul (by decide) (Ew_name rfl (O2_mul (intBits_le_64 (by omega) (by omega)) ?_))))
    refine Ew_BinOp (Ew_int (Ew_name rfl (O2_mul (by decide) (O2_add ?_))))
    refine Ew_BinOp (Ew_int (Ew_CallG (EvF.bltK (by kernel_rfl) rfl) KeepOk.builtin (Ew_item (v := .none) (Ew_Subscript (Ew_name rfl (Ew_str (subS (v := .ref c) hk' rfl (Cw_lenL hc' hl (O2_mul (by decide) (O2_add ?_))))))))))
    refine Ew_int (O2_add (Ew_int (O2_fdiv (by decide) (PyProof.noPylong_small (by decide)) (Ew_name rfl ?_))))
    refine O2_fmod (by omega) ?_
    obtain ⟨r, hr, e⟩ := fin (Int.fdiv (5 * (k : Int) * k + 9 * k + 5 * ((cells.map V.int).length : Int) + 7) 2)
    rw [e]
    exact h r hr
end
end Mine

open PySem PySem.W PyProof.Rows PySem.Calls PyProof.V PySem.Spec PySem.SeqAt
set_option Elab.async false
set_option linter.all false
set_option maxRecDepth 100000
set_option maxHeartbeats 4000000
namespace Mine
def rowsV (PL : List (List Nat)) : List V := PL.map fun pr => V.tup (vints pr)
def prOf (PL : List (List Nat)) (n : Nat) : List Nat := (PL[n]?).getD []
theorem prOf_some {PL : List (List Nat)} {n : Nat} {pr : List Nat} (h : PL[n]? = some pr) : prOf PL n = pr := by unfold prOf; rw [h]; rfl
theorem rowsV_at {PL : List (List Nat)} {n : Nat} {pr : List Nat} (h : PL[n]? = some pr) : (rowsV PL)[n]? = some (.tup (vints pr)) := by unfold rowsV; rw [List.getElem?_map, h]; rfl
section
variable {prog : Program} {w : World} {g : Heap} {mg mb : Str → Option Value} {d : Nat} {env : Env} {ρ : Fra} {σ : Store}

theorem roads_spec {ra : Addr} {PL : List (List Nat)} {last : Nat} {Q : V → Store → Prop} (hr : σ ra = some (.list (rowsV PL))) (ah : Ahead (prOf PL)) (hlast : last < PL.length) (hz : PL.length ≤ 1000)
    (h : ∀ (a : Addr) (σ' : Store) (ns : List Int), σ a = none → Same [] σ σ' → σ' a = some (.list (ns.map V.int)) → ns.length = PL.length → (∀ (n : Nat) (x : Int), ns[n]? = some x → (0 < x ↔ Needs (prOf PL) last n)) → Q (.ref a) σ') :
    Kw (K2 prog w g mg mb) 8 (.ref 235) [.ref ra, .int last] Q σ := by
  have hrl : (rowsV PL).length = PL.length := by unfold rowsV; rw [List.length_map]
  refine Kw_def (d := 7) ["rows", "last"] (by with_unfolding_all rfl) (by kernel_rfl) (fun ws h => by match ws, h with | [a, b], _ => rfl) (by decide) (fun L => ?_)
  refine Sx_cons (S1_Assign (Ew_BinOp (Ew_List (Ew_items_cons (Ew_int (Ew_items_nil ⟨by decide, fun a0 h0 => ?_⟩))))))
  have s0 : Same [] σ (σ.set a0 (.list [.int 0])) := (Same.refl _ _).new h0
  refine Ew_CallG (EvF.bltK (by kernel_rfl) rfl) KeepOk.builtin (Ew_item (v := .none) (Ew_name rfl (Cw_lenL (s0.at hr) (by omega) ?_)))
  refine O2_mulL (Store.set_self ..) (by omega) fun a ha => Asg_Name (.inl rfl) ?_
  have s1 := s0.new ha (o := .list (List.replicate (rowsV PL).length (V.int 0)))
  rw [hrl] at s1 ⊢
  have hna : σ a = none := by
    cases q : σ a with
    | none => rfl
    | some o => have := s0 a o q (by simp); rw [ha] at this; cases this
  refine Sx_cons (S1_Assign (Ew_int (Asg_Subscript (Ew_name rfl (Ew_name rfl (O3_setL (Store.set_self ..) (by omega) (by simp; omega) (by simp; omega) ?_))))))
  have sx : ∀ {σ' : Store} {o : O}, Same [] σ σ' → Same [] σ (σ'.set a o) := fun s b o e nb => by rw [Store.set_ne (ne_of e hna)]; exact s b o e nb
  refine Sx_cons (S1_ForL ["n", "one"] (fun it i ρ' σ' => it = .rng last (-1) (last + 1) ∧ i ≤ last + 1 ∧ Same [] σ σ' ∧ ∃ ns : List Int, σ' a = some (.list (ns.map V.int)) ∧ ns.length = PL.length ∧ ∀ (m : Nat) (x : Int), ns[m]? = some x → 0 ≤ x ∧ (0 < x ↔ Wk (prOf PL) last (last + 1 - i) m)) (Iw_val ?_))
  refine Ew_CallG (EvF.bltK (by kernel_rfl) rfl) KeepOk.type (Ew_items_cons (Ew_name rfl (Ew_items_cons (Ew_UnaryOp (Ew_int (O1_neg (Ew_items_cons (Ew_UnaryOp (Ew_int (O1_neg (Ew_items_nil (Cw_range3 (by decide) (by decide) ?_))))))))))))
  refine ⟨_, itDown (by omega), .inl ⟨⟨_, _, rfl⟩, fun _ z => by cases z⟩, ⟨rfl, Nat.zero_le _, sx s1, (List.replicate PL.length (0 : Int)).set last 1, ?_, by simp, fun m x hx => ?_⟩, last + 1, ?_⟩
  · rw [Store.set_self, List.map_set, List.map_replicate, Int.toNat_natCast]
  · rw [Nat.sub_zero, Wk_top ah]
    rw [List.getElem?_set] at hx
    split at hx
    · rename_i e
      split at hx
      · cases hx; exact ⟨by decide, fun _ => e.symm, fun _ => by decide⟩
      · cases hx
    · rename_i e
      rw [List.getElem?_replicate] at hx
      split at hx
      · cases hx; exact ⟨by decide, fun z => absurd z (by decide), fun z => absurd z.symm e⟩
      · cases hx
  rintro i ρ' σ' hρ ⟨-, hi, sm, ns, hk, hl, hm⟩
  refine ⟨hi, trivial, fun v hv => ?_, fun hv => ?_⟩
  · simp only [It.at] at hv
    split at hv
    · rename_i hlt
      cases hv
      obtain ⟨num, hn⟩ : ∃ num : Nat, num + i = last := ⟨last - i, by omega⟩
      have e1 : (last : Int) + (i : Int) * (-1) = (num : Int) := by omega
      have e2 : last + 1 - i = num + 1 := by omega
      have e3 : last + 1 - (i + 1) = num := by omega
      rw [e1]
      rw [e2] at hm
      obtain ⟨pr, hpr⟩ : ∃ pr, PL[num]? = some pr := ⟨PL[num]'(by omega), List.getElem?_eq_getElem _⟩
      have hP := prOf_some hpr
      refine Asg_Name (.inl rfl) (Sx_cons (S1_ForL ["one"] (fun it j ρ₂ σ₂ => it = .tup (vints pr) ∧ j ≤ pr.length ∧ Same [] σ σ₂ ∧ ∃ ns : List Int, σ₂ a = some (.list (ns.map V.int)) ∧ ns.length = PL.length ∧ ∀ (m : Nat) (x : Int), ns[m]? = some x → 0 ≤ x ∧ (0 < x ↔ Wk (prOf PL) last (num + 1) m ∨ (Needs (prOf PL) last num ∧ m ∈ pr.take j))) (Iw_val ?_)))
      refine Ew_Subscript (Ew_name (Fra.aside (hρ.at rfl)) (Ew_name (Fra.set_self ..) (subL (sm.at hr) (rowsV_at hpr) (by omega) ?_)))
      refine ⟨_, .tup, .inl ⟨⟨_, _, rfl⟩, fun _ z => by cases z⟩, ⟨rfl, Nat.zero_le _, sm, ns, hk, hl, fun m x hx => by simpa using hm m x hx⟩, pr.length, ?_⟩
      rintro j ρ₂ σ₂ hρ₂ ⟨-, hj, sm₂, ns₂, hk₂, hl₂, hm₂⟩
      refine ⟨hj, trivial, fun v hv => ?_, fun hv => ?_⟩
      · simp only [It.at] at hv
        unfold vints at hv
        rw [List.getElem?_map, Option.map_eq_some_iff] at hv
        obtain ⟨one, ho, rfl⟩ := hv
        obtain ⟨hj', -⟩ := List.getElem?_eq_some_iff.mp ho
        have hon : one < num := ah num one (hP ▸ List.mem_of_getElem? ho : one ∈ prOf PL num)
        obtain ⟨x1, hx1⟩ : ∃ x, ns₂[one]? = some x := ⟨ns₂[one]'(by omega), List.getElem?_eq_getElem _⟩
        obtain ⟨x2, hx2⟩ : ∃ x, ns₂[num]? = some x := ⟨ns₂[num]'(by omega), List.getElem?_eq_getElem _⟩
        have l1 := hm₂ one x1 hx1
        have l2 := hm₂ num x2 hx2
        have l2' : 0 < x2 ↔ Needs (prOf PL) last num := by
          rw [l2.2]
          constructor
          · rintro (z | z)
            · exact (Wk_at ah).mp z
            · exact z.1
          · exact fun z => .inl ((Wk_at ah).mpr z)
        have hsz : (ns₂.map V.int).length ≤ 1000000 := by simp; omega
        refine Asg_Name (.inl rfl) (Sx_cons (S1_Assign (Ew_BinOp (Ew_Subscript ?_))))
        refine Ew_name (Fra.aside (hρ₂.at (Fra.aside (hρ.at rfl)))) (Ew_name (Fra.set_self ..) (subL hk₂ (v := .int x1) (by simp [hx1]) hsz (Ew_Subscript ?_)))
        refine Ew_name (Fra.aside (hρ₂.at (Fra.aside (hρ.at rfl)))) (Ew_name (Fra.aside (hρ₂.at (Fra.set_self ..))) (subL hk₂ (v := .int x2) (by simp [hx2]) hsz (O2_add (Asg_Subscript ?_))))
        refine Ew_name (Fra.aside (hρ₂.at (Fra.aside (hρ.at rfl)))) (Ew_name (Fra.set_self ..) (O3_setL hk₂ (by omega) (by simp; omega) hsz (Sx_nil ⟨hρ₂.set (.head _), rfl, hj', sx sm₂, ns₂.set one (x1 + x2), ?_, by simpa using hl₂, fun m x hx => ?_⟩)))
        · rw [Store.set_self, List.map_set, Int.toNat_natCast]
        · rw [List.getElem?_set] at hx
          have tk : m ∈ pr.take (j + 1) ↔ m ∈ pr.take j ∨ m = one := by
            rw [List.take_add_one, ho]
            simp
          rw [tk]
          split at hx
          · rename_i e
            subst e
            split at hx
            · cases hx
              refine ⟨by omega, ?_⟩
              have : 0 < x1 + x2 ↔ 0 < x1 ∨ 0 < x2 := by have := l1.1; have := l2.1; omega
              rw [this, l1.2, l2']
              constructor
              · rintro ((z | z) | z)
                · exact .inl z
                · exact .inr ⟨z.1, .inl z.2⟩
                · exact .inr ⟨z, .inr rfl⟩
              · rintro (z | z)
                · exact .inl (.inl z)
                · exact .inr z.1
            · cases hx
          · rename_i e
            have l3 := hm₂ m x hx
            refine ⟨l3.1, l3.2.trans (or_congr_right (and_congr_right fun _ => ⟨.inl, fun z => z.elim id fun z => absurd z.symm e⟩))⟩
      · have hj' : j = pr.length := by
          simp only [It.at] at hv
          unfold vints at hv
          rw [List.getElem?_map, Option.map_eq_none_iff, List.getElem?_eq_none_iff] at hv
          omega
        subst hj'
        rw [List.take_length] at hm₂
        refine Sx_nil ⟨fun y hy => (hρ₂ y (fun z => hy (.tail _ z))).trans ((Fra.set_ne (fun z => hy (by rw [z]; exact .head _))).trans (hρ y hy)), rfl, hlt, sm₂, ns₂, hk₂, hl₂, fun m x hx => ?_⟩
        have l3 := hm₂ m x hx
        refine ⟨l3.1, l3.2.trans ?_⟩
        rw [e3, Wk_step (n := num), hP]
    · cases hv
  · have hi' : i = last + 1 := by
      simp only [It.at] at hv
      split at hv
      · cases hv
      · omega
    subst hi'
    rw [Nat.sub_self] at hm
    exact Sx_cons (S1_Return (Ew_name (hρ.at rfl) (h a σ' ns hna sm hk hl fun n x hx => (hm n x hx).2.trans Wk_zero)))

/-- the rows of a proof put from rules and premises -/
def putRows (l : List (Str × List Nat)) : List Stp' := l.mapIdx fun n r => ⟨r.1, [(n : Int) + 1], r.2, .int n⟩
def pairV (l : List (Str × List Nat)) : List V := l.map fun r => V.tup [.str r.1, .tup (vints r.2)]
theorem put_spec {sa : Addr} {l : List (Str × List Nat)} {Q : V → Store → Prop} (hs : σ sa = some (.list (pairV l))) (hz : l.length ≤ 1000) (hr : ∀ r ∈ l, r.1 ∈ rulesL ∧ r.2.length ≤ 1000) (ah : ∀ (n : Nat) (r : Str × List Nat), l[n]? = some r → ∀ m ∈ r.2, m < n)
    (h : ∀ dx s n e σ', σ dx = none → σ s = none → σ n = none → Same [] σ σ' → IsPf σ' dx s n e (putRows l) → Q (.obj 213 dx) σ') :
    Kw (K2 prog w g mg mb) 12 (.ref 242) [.ref sa] Q σ := by
  refine Kw_def (d := 11) ["steps"] (by with_unfolding_all rfl) (by kernel_rfl) (fun ws h => by match ws, h with | [a], _ => rfl) (by decide) (fun L => ?_)
  refine Sx_cons (S1_Assign (Ew_CallG (EvF.globK (by with_unfolding_all rfl)) keep_fn (Ew_items_nil ((make_spec fun dx s n σ₁ f1 f2 f3 sm₁ p₁ => ?_).cwle (by decide)))))
  refine Asg_Name (.inl rfl) (Sx_cons (S1_ForL ["n", "rule", "premises"] (fun it i ρ' σ' => it = .enum sa ∧ i ≤ l.length ∧ Same [] σ σ' ∧ ∃ e, IsPf σ' dx s n e ((putRows l).take i)) (Iw_enum (EvF.bltK (by kernel_rfl) rfl) (Ew_name rfl ⟨sa, _, rfl, sm₁.at hs, .inr ⟨⟨_, _, _, rfl⟩, _, .inr rfl⟩, ⟨rfl, Nat.zero_le _, sm₁, _, p₁⟩, l.length, ?_⟩))))
  rintro i ρ' σ' hρ ⟨-, hi, sm, e, p⟩
  have hs' := sm.at hs
  refine ⟨hi, ⟨_, hs'⟩, fun v hv => ?_, fun hv => ?_⟩
  · simp only [It.at, lof_of hs'] at hv
    unfold pairV at hv
    rw [List.getElem?_map, Option.map_map, Option.map_eq_some_iff] at hv
    obtain ⟨r, hri, rfl⟩ := hv
    obtain ⟨hi', -⟩ := List.getElem?_eq_some_iff.mp hri
    have hlen : ((putRows l).take i).length = i := by rw [List.length_take]; unfold putRows; rw [List.length_mapIdx]; omega
    have hrr := hr r (List.mem_of_getElem? hri)
    refine Asg_Tuple (vs := [.int i, .tup [.str r.1, .tup (vints r.2)]]) rfl (AsgL_cons (Asg_Name (.inl rfl) (AsgL_cons (Asg_Tuple (vs := [.str r.1, .tup (vints r.2)]) rfl (AsgL_cons (Asg_Name (.inl rfl) (AsgL_cons (Asg_Name (.inl rfl) (AsgL_nil (AsgL_nil ?_))))))))))
    refine Sx_cons (S1_Expr (Ew_CallN (Fra.aside (Fra.aside (Fra.aside (hρ.at rfl)))) p.dx rfl mth_add keep_fn ?_))
    refine Ew_items_cons (Ew_name (Fra.aside (Fra.set_self ..)) (Ew_items_cons (Ew_Tuple (Ew_items_cons (Ew_BinOp (Ew_name (Fra.aside (Fra.aside (Fra.set_self ..))) (Ew_int (O2_add (Ew_items_nil ⟨by simp, ?_⟩)))))))))
    refine Ew_items_cons (Ew_name (Fra.set_self ..) (Ew_items_cons (Ew_name (Fra.aside (Fra.aside (Fra.set_self ..))) (Ew_items_nil ?_))))
    refine (add_spec (r := ⟨r.1, [(i : Int) + 1], r.2, .int i⟩) p (by omega) hrr.1 (by simp) (by intro c hc; rw [List.mem_singleton] at hc; subst hc; omega) (by rw [hlen]; exact ah i r hri) hrr.2 fun σ₂ e' sm₂ p₂ => ?_).cwle (by decide)
    refine Sx_nil ⟨((hρ.set (.head _)).set (.tail _ (.head _))).set (.tail _ (.tail _ (.head _))), rfl, hi', ?_, e', ?_⟩
    · exact ((sm.mono (by simp)).trans sm₂).drop fun x hx => .inr (by
        simp only [List.mem_cons, List.not_mem_nil, or_false] at hx
        rcases hx with rfl | rfl
        · exact f2
        · exact f1)
    · have e1 : (putRows l).take (i + 1) = (putRows l).take i ++ [⟨r.1, [(i : Int) + 1], r.2, .int i⟩] := by
        rw [List.take_add_one]
        unfold putRows
        rw [List.getElem?_mapIdx, hri]
        rfl
      rw [e1]; exact p₂
  · have hi' : i = l.length := by
      simp only [It.at, lof_of hs'] at hv
      unfold pairV at hv
      rw [List.getElem?_map, Option.map_map, Option.map_eq_none_iff, List.getElem?_eq_none_iff] at hv
      omega
    subst hi'
    rw [List.take_of_length_le (by unfold putRows; rw [List.length_mapIdx]; exact Nat.le_refl _)] at p
    exact Sx_cons (S1_Return (Ew_name (hρ.at rfl) (h dx s n e σ' f1 f2 f3 sm p)))
end
end Mine

open PySem PySem.W PyProof.Rows PySem.Calls PyProof.V PySem.Spec PySem.SeqAt
set_option Elab.async false
set_option linter.all false
set_option maxRecDepth 100000
set_option maxHeartbeats 4000000
namespace Mine
/-! lots -/
def heldOf (N lot : Nat) : List Nat := (List.range N).filter fun n => lot / 2 ^ n % 2 == 1
theorem mem_held {N lot n : Nat} : n ∈ heldOf N lot ↔ n < N ∧ lot / 2 ^ n % 2 = 1 := by unfold heldOf; rw [List.mem_filter, List.mem_range, beq_iff_eq]
theorem lot_of : ∀ (N : Nat) (S : Nat → Bool), ∃ lot, lot < 2 ^ N ∧ ∀ n, n < N → (lot / 2 ^ n % 2 = 1 ↔ S n = true)
  | 0, _ => ⟨0, by decide, fun _ h => absurd h (Nat.not_lt_zero _)⟩
  | N + 1, S => by
    obtain ⟨lot, h1, h2⟩ := lot_of N fun n => S (n + 1)
    refine ⟨2 * lot + (if S 0 then 1 else 0), ?_, fun n hn => ?_⟩
    · rw [Nat.pow_succ]; split <;> omega
    · cases n with
      | zero => rw [Nat.pow_zero, Nat.div_one]; split <;> rename_i e <;> simp [e] <;> omega
      | succ n =>
        rw [Nat.pow_succ, Nat.mul_comm (2 ^ n) 2, ← Nat.div_div_eq_div_mul]
        have : (2 * lot + if S 0 = true then 1 else 0) / 2 = lot := by split <;> omega
        rw [this]
        exact h2 n (by omega)
def Closed (P : Nat → List Nat) (last : Nat) (held : List Nat) : Prop := last ∈ held ∧ ∀ n ∈ held, ∀ one ∈ P n, one ∈ held
theorem Closed.has {P : Nat → List Nat} {last m : Nat} {held : List Nat} (c : Closed P last held) (h : Needs P last m) : m ∈ held := by
  induction h with
  | refl => exact c.1
  | step _ hm ih => exact c.2 _ ih _ hm
open Classical in
noncomputable def commOf (P : Nat → List Nat) (N last i : Nat) : List Nat := (List.range N).filter fun n => decide (∀ lot, lot < i → Closed P last (heldOf N lot) → n ∈ heldOf N lot)
open Classical in
theorem comm_all {P : Nat → List Nat} {N last : Nat} (ah : Ahead P) (hl : last < N) : commOf P N last (2 ^ N) = need P last := by
  refine sorted_eq (List.pairwise_lt_range.filter _) (need_sorted P last) fun n => ?_
  unfold commOf
  rw [List.mem_filter, List.mem_range, decide_eq_true_iff, mem_need ah]
  constructor
  · rintro ⟨hn, h⟩
    obtain ⟨lot, h1, h2⟩ := lot_of N fun m => decide (Needs P last m)
    have hm : ∀ m, m ∈ heldOf N lot ↔ Needs P last m := fun m => by
      rw [mem_held]
      constructor
      · rintro ⟨a, b⟩; exact of_decide_eq_true ((h2 m a).mp b)
      · intro q
        have a : m < N := Nat.lt_of_le_of_lt (q.le ah) hl
        exact ⟨a, (h2 m a).mpr (decide_eq_true q)⟩
    exact (hm n).mp (h lot h1 ⟨(hm _).mpr .refl, fun a ha one ho => (hm _).mpr (.step ((hm _).mp ha) ho)⟩)
  · intro h
    exact ⟨Nat.lt_of_le_of_lt (h.le ah) hl, fun lot _ c => c.has h⟩
open Classical in
theorem comm_zero {P : Nat → List Nat} {N last : Nat} : commOf P N last 0 = List.range N := by
  unfold commOf
  rw [List.filter_eq_self]
  intro a _
  exact decide_eq_true fun lot h => absurd h (Nat.not_lt_zero _)
open Classical in
theorem comm_skip {P : Nat → List Nat} {N last i : Nat} (h : ¬ Closed P last (heldOf N i)) : commOf P N last (i + 1) = commOf P N last i := by
  unfold commOf
  refine List.filter_congr fun n _ => decide_eq_decide.mpr ⟨fun q lot hl c => q lot (Nat.lt_succ_of_lt hl) c, fun q lot hl c => ?_⟩
  rcases Nat.lt_or_eq_of_le (Nat.le_of_lt_succ hl) with z | rfl
  · exact q lot z c
  · exact absurd c h
open Classical in
theorem comm_take {P : Nat → List Nat} {N last i : Nat} (h : Closed P last (heldOf N i)) : commOf P N last (i + 1) = (commOf P N last i).filter fun n => decide (n ∈ heldOf N i) := by
  unfold commOf
  rw [List.filter_filter]
  refine List.filter_congr fun n _ => ?_
  rw [Bool.eq_iff_iff, Bool.and_eq_true, decide_eq_true_iff, decide_eq_true_iff, decide_eq_true_iff]
  constructor
  · intro q
    exact ⟨q i (Nat.lt_succ_self _) h, fun lot hl c => q lot (Nat.lt_succ_of_lt hl) c⟩
  · rintro ⟨a, b⟩ lot hl c
    rcases Nat.lt_or_eq_of_le (Nat.le_of_lt_succ hl) with z | rfl
    · exact b lot z c
    · exact a
theorem mem_z {n : Nat} {l : List Nat} : (n : Int) ∈ zints l ↔ n ∈ l := by
  rw [mem_ints]
  exact ⟨fun ⟨m, e, h⟩ => by rw [Int.ofNat_inj.mp e]; exact h, fun h => ⟨n, rfl, h⟩⟩
theorem bit_int (lot n : Nat) : ((lot : Int).fdiv (2 ^ ((n : Int).toNat))).fmod 2 = ((lot / 2 ^ n % 2 : Nat) : Int) := by
  rw [Int.toNat_natCast, Int.fdiv_eq_ediv_of_nonneg _ (Int.pow_nonneg (by decide)), Int.fmod_eq_emod_of_nonneg _ (by decide), Int.natCast_emod, Int.natCast_ediv, Int.natCast_pow]
  rfl
theorem pow_small {n : Nat} (h : n ≤ 10) : 2 ^ n ≤ 1024 := by
  have := Nat.pow_le_pow_right (n := 2) (by decide) h
  exact Nat.le_trans this (by decide)
section
variable {prog : Program} {w : World} {g : Heap} {mg mb : Str → Option Value} {d : Nat} {env : Env} {ρ : Fra} {σ : Store}

theorem common_spec {ra : Addr} {PL : List (List Nat)} {last : Nat} {Q : V → Store → Prop} (hr : σ ra = some (.list (rowsV PL))) (ah : Ahead (prOf PL)) (hlast : last < PL.length) (hz : PL.length ≤ 10) (hpl : ∀ pr ∈ PL, pr.length ≤ 60)
    (h : ∀ a σ', σ a = none → Same [] σ σ' → σ' a = some (.list (vints (need (prOf PL) last))) → Q (.ref a) σ') :
    Kw (K2 prog w g mg mb) 8 (.ref 228) [.ref ra, .int last] Q σ := by
  have hrl : (rowsV PL).length = PL.length := by unfold rowsV; rw [List.length_map]
  refine Kw_def (d := 7) ["rows", "last"] (by with_unfolding_all rfl) (by kernel_rfl) (fun ws h => by match ws, h with | [a, b], _ => rfl) (by decide) (fun L => ?_)
  refine Sx_cons (S1_Assign (Ew_CallG (EvF.bltK (by kernel_rfl) rfl) KeepOk.type (Ew_item (v := .none) (Ew_CallG (EvF.bltK (by kernel_rfl) rfl) KeepOk.type (Ew_item (v := .none) (Ew_CallG (EvF.bltK (by kernel_rfl) rfl) KeepOk.builtin (Ew_item (v := .none) (Ew_name rfl (Cw_lenL hr (by omega) ?_)))))))))
  rw [hrl]
  refine Cw_range1 (Cw_listR (by omega) fun ca hca => Asg_Name (.inl rfl) ?_)
  have s1 : Same [] σ (σ.set ca (.list (vints (List.range PL.length)))) := (Same.refl _ _).new hca
  have hca0 := hca
  have p20 : 2 ^ PL.length ≤ 1024 := pow_small hz
  refine Sx_cons (S1_ForL ["lot", "held", "common"] (fun it i ρ' σ' => it = .rng 0 1 (2 ^ PL.length) ∧ i ≤ 2 ^ PL.length ∧ Same [] σ σ' ∧ ∃ ca, ρ' "common" = some (.ref ca) ∧ σ ca = none ∧ σ' ca = some (.list (vints (commOf (prOf PL) PL.length last i)))) (Iw_val ?_))
  refine Ew_CallG (EvF.bltK (by kernel_rfl) rfl) KeepOk.type (Ew_item (v := .none) (Ew_BinOp (Ew_int (Ew_CallG (EvF.bltK (by kernel_rfl) rfl) KeepOk.builtin (Ew_item (v := .none) (Ew_name rfl (Cw_lenL (s1.at hr) (by omega) ?_)))))))
  rw [hrl]
  refine O2_pow (by omega) (by rw [show Builtin.Int.intBits 2 = 2 from by decide]; omega) ?_
  have epow : (2 : Int) ^ ((PL.length : Int).toNat) = ((2 ^ PL.length : Nat) : Int) := by rw [Int.toNat_natCast, Int.natCast_pow]; rfl
  rw [epow]
  refine Cw_range1 ⟨_, itR1 (by omega), .inl ⟨⟨_, _, rfl⟩, fun _ z => by cases z⟩, ⟨rfl, Nat.zero_le _, s1, ca, rfl, hca, by rw [comm_zero, Store.set_self]; rfl⟩, 2 ^ PL.length, ?_⟩
  clear s1 hca hca0
  rintro i ρ' σ' hρ ⟨-, hi, sm, ca, hρc, hca, hk⟩
  have hr' := sm.at hr
  refine ⟨hi, trivial, fun v hv => ?_, fun hv => ?_⟩
  · simp only [It.at] at hv
    split at hv
    · rename_i hlt
      cases hv
      have e0 : (0 : Int) + (i : Int) * 1 = (i : Int) := by omega
      rw [e0]
      refine Asg_Name (.inr ⟨rfl, rfl, rfl, _, rfl⟩) (Sx_cons (S1_Assign ?_))
      refine Ew_ListComp (cl := [("lot", L + 2)]) (by with_unfolding_all rfl) (ClOk.to ⟨rfl, trivial⟩) (Iw_val ?_)
      refine Ew_CallG (EvF.bltK (by kernel_rfl) rfl) KeepOk.type (Ew_item (v := .none) (Ew_CallG (EvF.bltK (by kernel_rfl) rfl) KeepOk.builtin (Ew_item (v := .none) (Ew_name (Fra.aside (hρ.at rfl)) (Cw_lenL hr' (by omega) ?_)))))
      rw [hrl]
      refine Cw_range1 ⟨_, itR1 (by omega), fun D LL hD => ?_⟩
      have hnD : σ D = none := by
        cases q : σ D with
        | none => rfl
        | some o => have := sm D o q (by simp); rw [hD] at this; cases this
      refine Gw_loopL ["n"] rfl rfl turn_one (.inl ⟨⟨_, _, rfl⟩, fun _ z => by cases z⟩) (fun j σ₂ => j ≤ PL.length ∧ Same [D] (σ'.set D (.list [])) σ₂ ∧ σ₂ D = some (.list (vints ((List.range j).filter fun n => i / 2 ^ n % 2 == 1)))) ⟨Nat.zero_le _, Same.refl _ _, Store.set_self ..⟩ PL.length ?_
      rintro j ρ₂ σ₂ hρ₂ ⟨hj, sm₂, hD₂⟩
      refine ⟨hj, trivial, fun v hv => ?_, fun hv ρ₃ hρ₃ => ?_⟩
      · simp only [It.at] at hv
        split at hv
        · rename_i hjl
          cases hv
          have e1 : (0 : Int) + (j : Int) * 1 = (j : Int) := by omega
          rw [e1]
          have pj : 2 ^ j ≤ 1024 := pow_small (by omega)
          have hpos : 0 < 2 ^ j := Nat.pow_pos (by decide)
          have ep : (2 : Int) ^ ((j : Int).toNat) = ((2 ^ j : Nat) : Int) := by rw [Int.toNat_natCast, Int.natCast_pow]; rfl
          have rs : (List.range (j + 1)).filter (fun n => i / 2 ^ n % 2 == 1) = (List.range j).filter (fun n => i / 2 ^ n % 2 == 1) ++ (if i / 2 ^ j % 2 == 1 then [j] else []) := by
            rw [List.range_succ, List.filter_append]
            cases q : (i / 2 ^ j % 2 == 1) <;> simp [q]
          have hlen : ((List.range j).filter fun n => i / 2 ^ n % 2 == 1).length ≤ j := Nat.le_trans (List.length_filter_le _ _) (by simp)
          refine Asg_Name (.inl rfl) (Ts_one (Ew_isCompare (Ew_BinOp (Ew_BinOp (Ew_name (Fra.aside (hρ₂.at (compFra_at (Fra.set_self ..)))) (Ew_BinOp (Ew_int (Ew_name (Fra.set_self ..) (O2_pow (by omega) (by rw [show Builtin.Int.intBits 2 = 2 from by decide]; omega) ?_)))))))))
          refine O2_fdiv (by rw [ep]; omega) (PyProof.noPylong_small (by rw [ep, Int.natAbs_natCast]; omega)) (Ew_int (O2_fmod (by decide) (Ew_int (O2_eq ⟨_, rfl, fun hb => Em_last (Ew_name (Fra.set_self ..) ⟨_, hD₂, by unfold vints; rw [List.length_map]; omega, hρ₂.set (.head _), hjl, sm₂.put (.head _), ?_⟩), fun hb => ⟨hρ₂.set (.head _), hjl, sm₂, ?_⟩⟩))))
          · rw [bit_int] at hb
            have q : (i / 2 ^ j % 2 == 1) = true := by rw [beq_iff_eq] at hb ⊢; omega
            rw [Store.set_self, rs, q]
            simp [vints]
          · rw [bit_int] at hb
            have q : (i / 2 ^ j % 2 == 1) = false := by
              rw [beq_eq_false_iff_ne] at hb ⊢
              omega
            rw [hD₂, rs, q]
            simp [vints]
        · cases hv
      have hj' : j = PL.length := by
        simp only [It.at] at hv
        split at hv
        · cases hv
        · omega
      subst hj'
      have sD : Same [] σ' σ₂ := (((Same.refl [D] σ').new hD).trans sm₂).drop fun x hx => .inr (by rw [List.mem_singleton.mp hx]; exact hD)
      have hD₂ : σ₂ D = some (.list (vints (heldOf PL.length i))) := hD₂
      have hk₂ := sD.at hk
      have hr₂ := sD.at hr'
      have hDz : σ₂ D = some (.list ((zints (heldOf PL.length i)).map V.int)) := by rw [vints_eq]; exact hD₂
      have hhl : (heldOf PL.length i).length ≤ PL.length := by unfold heldOf; exact Nat.le_trans (List.length_filter_le _ _) (by simp)
      have sm₃ : Same [] σ σ₂ := sm.trans sD
      refine Asg_Name (.inr ⟨rfl, rfl, rfl, _, rfl⟩) (Sx_cons (S1_If (Ew_isAnd (Ew_and_cons (Ew_isCompare (Ew_name (Fra.aside (Fra.aside (hρ.at rfl))) (Ew_name (Fra.set_self ..) (O2_inInts hDz ⟨_, rfl, fun hb => ?_, fun hb => ?_⟩))))))))
      rotate_left
      · refine ⟨fun z => (by cases z), fun _ => Sx_nil (Sx_nil ⟨(hρ.set (.head _)).set (.tail _ (.head _)), rfl, hlt, sm₃, ca, (Fra.set_ne (by decide)).trans ((Fra.set_ne (by decide)).trans hρc), hca, ?_⟩)⟩
        rw [comm_skip (fun c => of_decide_eq_false hb (mem_z.mpr c.1))]
        exact hk₂
      have hlm : last ∈ heldOf PL.length i := mem_z.mp (of_decide_eq_true hb)
      refine Ew_and_cons (Ew_isCompare (Ew_ListComp (cl := [("rows", L + 1), ("held", L + 3)]) (by with_unfolding_all rfl) (ClOk.to ⟨rfl, rfl, trivial⟩) (Iw_val (Ew_name (Fra.set_self ..) ⟨_, .list hD₂, fun D2 LL2 hD2 => ?_⟩))))
      refine Gw_loopL ["n", "one"] rfl rfl turn_two0 (.inl ⟨⟨_, _, rfl⟩, fun _ z => by cases z⟩) (fun k σ₃ => k ≤ (heldOf PL.length i).length ∧ Same [D2] (σ₂.set D2 (.list [])) σ₃ ∧ ∃ ns : List Int, σ₃ D2 = some (.list (ns.map V.int)) ∧ ns.length ≤ k * 60 ∧ (ns = [] ↔ ∀ x ∈ (heldOf PL.length i).take k, ∀ one ∈ prOf PL x, one ∈ heldOf PL.length i))
        ⟨Nat.zero_le _, Same.refl _ _, [], Store.set_self .., by simp, by simp⟩ (heldOf PL.length i).length ?_
      rintro k ρ₃ σ₃ hρ₃ ⟨hkl, sm₄, ns, hn, hnl, hne⟩
      have s23 : Same [] σ₂ σ₃ := (((Same.refl [D2] σ₂).new hD2).trans sm₄).drop fun x hx => .inr (by rw [List.mem_singleton.mp hx]; exact hD2)
      have hD₃ := s23.at hD₂
      refine ⟨hkl, ⟨_, hD₃⟩, fun v hv => ?_, fun hv ρ₄ hρ₄ => ?_⟩
      · simp only [It.at, lof_of hD₃] at hv
        unfold vints at hv
        rw [List.getElem?_map, Option.map_eq_some_iff] at hv
        obtain ⟨x, hx, rfl⟩ := hv
        obtain ⟨hk', -⟩ := List.getElem?_eq_some_iff.mp hx
        have hxN : x < PL.length := (mem_held.mp (List.mem_of_getElem? hx)).1
        obtain ⟨pr, hpr⟩ : ∃ pr, PL[x]? = some pr := ⟨PL[x], List.getElem?_eq_getElem hxN⟩
        have hP := prOf_some hpr
        have hpl60 := hpl pr (List.mem_of_getElem? hpr)
        refine Asg_Name (.inl rfl) (Ts_nil ⟨fun _ => Em_next (Iw_val (Ew_Subscript (Ew_name (Fra.aside (hρ₃.at (compFra_at (Fra.aside (Fra.aside (hρ.at rfl)))))) (Ew_name (Fra.set_self ..) (subL ((sD.trans s23).at hr') (rowsV_at hpr) (by omega) ⟨_, .tup, ?_⟩))))), fun z => by cases z⟩)
        refine Gw_loopL ["one"] rfl rfl turn_two1 (.inl ⟨⟨_, _, rfl⟩, fun _ z => by cases z⟩) (fun j σ₄ => j ≤ pr.length ∧ Same [D2] (σ₂.set D2 (.list [])) σ₄ ∧ ∃ ns : List Int, σ₄ D2 = some (.list (ns.map V.int)) ∧ ns.length ≤ k * 60 + j ∧ (ns = [] ↔ (∀ x ∈ (heldOf PL.length i).take k, ∀ one ∈ prOf PL x, one ∈ heldOf PL.length i) ∧ ∀ one ∈ pr.take j, one ∈ heldOf PL.length i))
          ⟨Nat.zero_le _, sm₄, ns, hn, hnl, by simpa using hne⟩ pr.length ?_
        rintro j ρ₅ σ₅ hρ₅ ⟨hj, sm₅, ns', hn', hnl', hne'⟩
        have s25 : Same [] σ₂ σ₅ := (((Same.refl [D2] σ₂).new hD2).trans sm₅).drop fun x hx => .inr (by rw [List.mem_singleton.mp hx]; exact hD2)
        refine ⟨hj, trivial, fun v hv => ?_, fun hv ρ₆ hρ₆ => ?_⟩
        · simp only [It.at] at hv
          unfold vints at hv
          rw [List.getElem?_map, Option.map_eq_some_iff] at hv
          obtain ⟨one, ho, rfl⟩ := hv
          obtain ⟨hj', -⟩ := List.getElem?_eq_some_iff.mp ho
          have tk : ∀ m, m ∈ pr.take (j + 1) ↔ m ∈ pr.take j ∨ m = one := fun m => by
            rw [List.take_add_one, ho]
            simp
          refine Asg_Name (.inl rfl) (Ts_one (Ew_isCompare (Ew_name (Fra.set_self ..) (Ew_name (Fra.aside (hρ₅.at (Fra.aside (hρ₃.at (compFra_at (Fra.set_self ..)))))) (O2_notInInts (s25.at hDz) ⟨_, rfl, fun hb => Em_last (Ew_int ⟨_, hn', by rw [List.length_map]; omega, hρ₅.set (.head _), hj', sm₅.put (.head _), ns' ++ [1], ?_, by rw [List.length_append]; simp; omega, ?_⟩), fun hb => ⟨hρ₅.set (.head _), hj', sm₅, ns', hn', by omega, ?_⟩⟩)))))
          · rw [Store.set_self, List.map_append]; rfl
          · have hno : ¬ one ∈ heldOf PL.length i := fun z => by
              rw [decide_eq_true (mem_z.mpr z)] at hb
              cases hb
            refine ⟨fun z => by simp at z, fun z => absurd (z.2 one ((tk one).mpr (.inr rfl))) hno⟩
          · have hyes : one ∈ heldOf PL.length i := by
              refine Classical.byContradiction fun z => ?_
              rw [decide_eq_false (fun q => z (mem_z.mp q))] at hb
              cases hb
            rw [hne']
            refine and_congr_right fun _ => ⟨fun z m hm => ?_, fun z m hm => z m ((tk m).mpr (.inl hm))⟩
            rcases (tk m).mp hm with q | rfl
            · exact z m q
            · exact hyes
        · have hj' : j = pr.length := by
            simp only [It.at] at hv
            unfold vints at hv
            rw [List.getElem?_map, Option.map_eq_none_iff, List.getElem?_eq_none_iff] at hv
            omega
          subst hj'
          rw [List.take_length] at hne'
          refine ⟨fun y hy => (hρ₆ y (fun z => hy (.tail _ z))).trans ((Fra.set_ne (fun z => hy (by rw [z]; exact .head _))).trans (hρ₃ y hy)), hk', sm₅, ns', hn', by omega, hne'.trans ?_⟩
          rw [List.take_add_one, hx]
          simp only [Option.toList_some, List.mem_append, List.mem_singleton]
          constructor
          · rintro ⟨a, b⟩ y (hy | rfl) one ho
            · exact a y hy one ho
            · exact b one (hP ▸ ho)
          · exact fun z => ⟨fun y hy => z y (.inl hy), fun one ho => z x (.inr rfl) one (hP.symm ▸ ho)⟩
      · have hk' : k = (heldOf PL.length i).length := by
          simp only [It.at, lof_of hD₃] at hv
          unfold vints at hv
          rw [List.getElem?_map, Option.map_eq_none_iff, List.getElem?_eq_none_iff] at hv
          omega
        subst hk'
        rw [List.take_length] at hne
        have sm₆ : Same [] σ σ₃ := sm₃.trans s23
        refine Ew_List (Ew_items_nil ⟨by decide, fun e he => ?_⟩)
        have s3e : Same [] σ₃ (σ₃.set e (.list [])) := (Same.refl _ _).new he
        refine O2_eqInts (ns := ns) (ms := []) (s3e.at hn) (Store.set_self ..) ⟨_, rfl, fun hb => ?_, fun hb => ?_⟩
        · have cl : Closed (prOf PL) last (heldOf PL.length i) := ⟨hlm, hne.mp (of_decide_eq_true hb)⟩
          refine Ew_and_nil ⟨fun _ => ?_, fun z => by cases z⟩
          have hk₃ := s3e.at (s23.at hk₂)
          have hDz₃ := s3e.at (s23.at hDz)
          refine Sx_cons (S1_AssignUsed rfl (cl := [("held", L + 3)]) (by with_unfolding_all rfl) (ClOk.to ⟨rfl, trivial⟩) (Iw_val (Ew_name ((Fra.set_ne (by decide)).trans ((Fra.set_ne (by decide)).trans hρc)) ⟨_, .list hk₃, fun D3 LL3 hD3 => ?_⟩)))
          refine Gw_loopL ["n"] rfl rfl turn_one (.inl ⟨⟨_, _, rfl⟩, fun _ z => by cases z⟩) (fun k σ₄ => k ≤ (commOf (prOf PL) PL.length last i).length ∧ Same [D3] ((σ₃.set e (.list [])).set D3 (.list [])) σ₄ ∧ σ₄ D3 = some (.list (vints (((commOf (prOf PL) PL.length last i).take k).filter fun n => decide (n ∈ heldOf PL.length i)))))
            ⟨Nat.zero_le _, Same.refl _ _, Store.set_self ..⟩ (commOf (prOf PL) PL.length last i).length ?_
          rintro k ρ₇ σ₇ hρ₇ ⟨hk7, sm₇, hD7⟩
          have s37 : Same [] (σ₃.set e (.list [])) σ₇ := (((Same.refl [D3] (σ₃.set e (.list []))).new hD3).trans sm₇).drop fun x hx => .inr (by rw [List.mem_singleton.mp hx]; exact hD3)
          have hk₇ := s37.at hk₃
          have hcl : (commOf (prOf PL) PL.length last i).length ≤ PL.length := by unfold commOf; exact Nat.le_trans (List.length_filter_le _ _) (by simp)
          refine ⟨hk7, ⟨_, hk₇⟩, fun v hv => ?_, fun hv ρ₈ hρ₈ => ?_⟩
          · simp only [It.at, lof_of hk₇] at hv
            unfold vints at hv
            rw [List.getElem?_map, Option.map_eq_some_iff] at hv
            obtain ⟨x, hx, rfl⟩ := hv
            obtain ⟨hk', -⟩ := List.getElem?_eq_some_iff.mp hx
            have ts : ((commOf (prOf PL) PL.length last i).take (k + 1)).filter (fun n => decide (n ∈ heldOf PL.length i)) = ((commOf (prOf PL) PL.length last i).take k).filter (fun n => decide (n ∈ heldOf PL.length i)) ++ (if decide (x ∈ heldOf PL.length i) then [x] else []) := by
              rw [List.take_add_one, hx, List.filter_append]
              cases q : decide (x ∈ heldOf PL.length i) <;> simp [q]
            have hfl : (((commOf (prOf PL) PL.length last i).take k).filter fun n => decide (n ∈ heldOf PL.length i)).length ≤ PL.length := Nat.le_trans (List.length_filter_le _ _) (by rw [List.length_take]; omega)
            refine Asg_Name (.inl rfl) (Ts_one (Ew_isCompare (Ew_name (Fra.set_self ..) (Ew_name (Fra.aside (hρ₇.at (compFra_at (Fra.set_self ..)))) (O2_inInts (s37.at hDz₃) ⟨_, rfl, fun hb => Em_last (Ew_name (Fra.set_self ..) ⟨_, hD7, by unfold vints; rw [List.length_map]; omega, hρ₇.set (.head _), hk', sm₇.put (.head _), ?_⟩), fun hb => ⟨hρ₇.set (.head _), hk', sm₇, ?_⟩⟩)))))
            · rw [Store.set_self, ts, if_pos (decide_eq_true (mem_z.mp (of_decide_eq_true hb)))]
              simp [vints]
            · rw [hD7, ts, if_neg (fun q => of_decide_eq_false hb (mem_z.mpr (of_decide_eq_true q)))]
              simp [vints]
          · have hk' : k = (commOf (prOf PL) PL.length last i).length := by
              simp only [It.at, lof_of hk₇] at hv
              unfold vints at hv
              rw [List.getElem?_map, Option.map_eq_none_iff, List.getElem?_eq_none_iff] at hv
              omega
            subst hk'
            rw [List.take_length, ← comm_take cl] at hD7
            have sme : Same [] σ (σ₃.set e (.list [])) := sm₆.trans s3e
            refine Sx_nil (Sx_nil ⟨((hρ.set (.head _)).set (.tail _ (.head _))).set (.tail _ (.tail _ (.head _))), rfl, hlt, sme.trans s37, D3, Fra.set_self .., ?_, hD7⟩)
            cases q : σ D3 with
            | none => rfl
            | some o => have := sme D3 o q (by simp); rw [hD3] at this; cases this
        · refine ⟨fun z => (by cases z), fun _ => Sx_nil (Sx_nil ⟨(hρ.set (.head _)).set (.tail _ (.head _)), rfl, hlt, sm₆.trans s3e, ca, (Fra.set_ne (by decide)).trans ((Fra.set_ne (by decide)).trans hρc), hca, ?_⟩)⟩
          rw [comm_skip (fun c => of_decide_eq_false hb (hne.mpr c.2))]
          exact s3e.at (s23.at hk₂)
    · cases hv
  · have hi' : i = 2 ^ PL.length := by
      simp only [It.at] at hv
      split at hv
      · cases hv
      · omega
    subst hi'
    rw [comm_all ah hlast] at hk
    exact Sx_cons (S1_Return (Ew_name hρc (h ca σ' hca sm hk)))
end
end Mine

open PySem PySem.W PyProof.Rows PySem.Calls PyProof.V PySem.Spec PySem.SeqAt
set_option Elab.async false
set_option linter.all false
set_option maxRecDepth 100000
set_option maxHeartbeats 4000000
namespace Mine
/-! the rows put from pairs -/
structure OkL (l : List (Str × List Nat)) : Prop where
  ok : ∀ r ∈ l, r.1 ∈ rulesL ∧ r.2.length ≤ 60
  ah : ∀ (n : Nat) (r : Str × List Nat), l[n]? = some r → ∀ m ∈ r.2, m < n
theorem putRows_at {l : List (Str × List Nat)} {n : Nat} {r : Str × List Nat} (h : l[n]? = some r) : (putRows l)[n]? = some ⟨r.1, [(n : Int) + 1], r.2, .int n⟩ := by
  unfold putRows; rw [List.getElem?_mapIdx, h]; rfl
theorem putRows_len (l : List (Str × List Nat)) : (putRows l).length = l.length := by unfold putRows; rw [List.length_mapIdx]
theorem putRows_back {l : List (Str × List Nat)} {n : Nat} {r : Stp'} (h : (putRows l)[n]? = some r) : ∃ q, l[n]? = some q ∧ r = ⟨q.1, [(n : Int) + 1], q.2, .int n⟩ := by
  unfold putRows at h
  rw [List.getElem?_mapIdx, Option.map_eq_some_iff] at h
  obtain ⟨q, a, b⟩ := h
  exact ⟨q, a, b.symm⟩
theorem OkL.good {l : List (Str × List Nat)} (h : OkL l) : GoodRows (putRows l) := fun n r hr => by
  obtain ⟨q, a, rfl⟩ := putRows_back hr
  exact h.ah n q a
theorem OkL.rows {l : List (Str × List Nat)} (h : OkL l) : ∀ r ∈ putRows l, OkRow r := fun r hr => by
  obtain ⟨n, hn⟩ := List.mem_iff_getElem?.mp hr
  obtain ⟨q, a, rfl⟩ := putRows_back hn
  have := h.ok q (List.mem_of_getElem? a)
  exact ⟨this.1, by simp, fun c hc => by rw [List.mem_singleton] at hc; subst hc; omega, Nat.le_trans this.2 (by decide)⟩
theorem prems_put {l : List (Str × List Nat)} {n : Nat} {q : Str × List Nat} (h : l[n]? = some q) : premsOf (putRows l) n = q.2 := premsOf_some (putRows_at h)
def trimPairs (l : List (Str × List Nat)) (T : List Nat) : List (Str × List Nat) := T.map fun n => (((l[n]?).getD (("" : Str), ([] : List Nat))).1, ((l[n]?).getD (("" : Str), ([] : List Nat))).2.map fun m => T.idxOf m)
theorem trimPairs_at {l : List (Str × List Nat)} {T : List Nat} {j t : Nat} {q : Str × List Nat} (h : T[j]? = some t) (hq : l[t]? = some q) : (trimPairs l T)[j]? = some (q.1, q.2.map fun m => T.idxOf m) := by
  unfold trimPairs; rw [List.getElem?_map, h, Option.map_some, hq]; rfl
theorem trimPairs_len (l : List (Str × List Nat)) (T : List Nat) : (trimPairs l T).length = T.length := by unfold trimPairs; rw [List.length_map]

section
variable {l : List (Str × List Nat)} {last : Nat}
theorem need_back (h : OkL l) (hl : last < l.length) {j t : Nat} (ht : (need (premsOf (putRows l)) last)[j]? = some t) : ∃ q, l[t]? = some q ∧ q ∈ l ∧ ∀ m ∈ q.2, m ∈ need (premsOf (putRows l)) last ∧ (need (premsOf (putRows l)) last).idxOf m < j := by
  have ah := h.good.ahead
  have hn := (mem_need ah).mp (List.mem_of_getElem? ht)
  have hlt : t < l.length := Nat.lt_of_le_of_lt (hn.le ah) hl
  have hq : l[t]? = some l[t] := List.getElem?_eq_getElem hlt
  refine ⟨l[t], hq, List.getElem_mem hlt, fun m hm => ?_⟩
  have hm' : m ∈ need (premsOf (putRows l)) last := (mem_need ah).mpr (.step hn (by rw [prems_put hq]; exact hm))
  exact ⟨hm', idx_lt (need_sorted _ _) ht hm' (h.ah t _ hq m hm)⟩
theorem trim_ok (h : OkL l) (hl : last < l.length) : OkL (trimPairs l (need (premsOf (putRows l)) last)) where
  ok := fun r hr => by
    unfold trimPairs at hr
    obtain ⟨t, ht, rfl⟩ := List.mem_map.mp hr
    obtain ⟨j, hj⟩ := List.mem_iff_getElem?.mp ht
    obtain ⟨q, hq, hql, _⟩ := need_back h hl hj
    rw [hq]
    have := h.ok q hql
    exact ⟨this.1, by simpa using this.2⟩
  ah := fun n r hr m hm => by
    unfold trimPairs at hr
    rw [List.getElem?_map, Option.map_eq_some_iff] at hr
    obtain ⟨t, ht, rfl⟩ := hr
    obtain ⟨q, hq, hql, hb⟩ := need_back h hl ht
    rw [hq] at hm
    obtain ⟨y, hy, rfl⟩ := List.mem_map.mp hm
    exact (hb y hy).2
theorem trimR_at (h : OkL l) (hl : last < l.length) {j t : Nat} {q : Str × List Nat} (ht : (need (premsOf (putRows l)) last)[j]? = some t) (hq : l[t]? = some q) :
    (trimRows (putRows l) (need (premsOf (putRows l)) last))[j]? = some ⟨q.1, [(t : Int) + 1], q.2.map fun m => (need (premsOf (putRows l)) last).idxOf m, .int t⟩ := by
  unfold trimRows
  rw [List.getElem?_map, ht, Option.map_some, rowAt_some (putRows_at hq)]
theorem trimR_good (h : OkL l) (hl : last < l.length) : GoodRows (trimRows (putRows l) (need (premsOf (putRows l)) last)) := fun n r hr m hm => by
  unfold trimRows at hr
  rw [List.getElem?_map, Option.map_eq_some_iff] at hr
  obtain ⟨t, ht, rfl⟩ := hr
  obtain ⟨q, hq, hql, hb⟩ := need_back h hl ht
  rw [rowAt_some (putRows_at hq)] at hm
  obtain ⟨y, hy, rfl⟩ := List.mem_map.mp hm
  exact (hb y hy).2
theorem need_put (h : OkL l) (hl : last < l.length) : need (premsOf (putRows (trimPairs l (need (premsOf (putRows l)) last)))) ((need (premsOf (putRows l)) last).length - 1) = List.range (need (premsOf (putRows l)) last).length :=
  relabel_full h.good.ahead (trim_ok h hl).good.ahead fun j t ht => by
    obtain ⟨q, hq, _, _⟩ := need_back h hl ht
    rw [prems_put (trimPairs_at ht hq), prems_put hq]
theorem need_trim (h : OkL l) (hl : last < l.length) : need (premsOf (trimRows (putRows l) (need (premsOf (putRows l)) last))) ((need (premsOf (putRows l)) last).length - 1) = List.range (need (premsOf (putRows l)) last).length :=
  relabel_full h.good.ahead (trimR_good h hl).ahead fun j t ht => by
    obtain ⟨q, hq, _, _⟩ := need_back h hl ht
    rw [premsOf_some (trimR_at h hl ht hq), prems_put hq]
end
theorem idx_z {m : Nat} : ∀ {T : List Nat}, (zints T).idxOf (m : Int) = T.idxOf m
  | [] => rfl
  | a :: T => by
    have ih := idx_z (m := m) (T := T)
    unfold zints at *
    rw [List.map_cons, List.idxOf_cons, List.idxOf_cons, ih]
    have : ((a : Int) == (m : Int)) = (a == m) := by rw [Bool.eq_iff_iff, beq_iff_eq, beq_iff_eq, Int.ofNat_inj]
    rw [this]
theorem pairV_at {l : List (Str × List Nat)} {n : Nat} {q : Str × List Nat} (h : l[n]? = some q) : (pairV l)[n]? = some (.tup [.str q.1, .tup (vints q.2)]) := by unfold pairV; rw [List.getElem?_map, h]; rfl
section
variable {prog : Program} {w : World} {g : Heap} {mg mb : Str → Option Value} {d : Nat} {env : Env} {ρ : Fra} {σ : Store}

theorem alone_spec {sa ta dx s n : Addr} {e : Int} {l : List (Str × List Nat)} {last : Nat} {Q : V → Store → Prop} (hs : σ sa = some (.list (pairV l))) (ht : σ ta = some (.list (vints (need (premsOf (putRows l)) last)))) (p : IsPf σ dx s n e (putRows l)) (ok : OkL l) (hlast : last < l.length) (hz : l.length ≤ 10)
    (h : ∀ σ', Same [] σ σ' → Q (.bool true) σ') : Kw (K2 prog w g mg mb) 20 (.ref 247) [.ref sa, .ref ta, .obj 213 dx, .int last] Q σ := by
  have ah := ok.good.ahead
  have hT := need_length (premsOf (putRows l)) last
  have hT0 : 0 < (need (premsOf (putRows l)) last).length := List.length_pos_of_mem (last_mem ah)
  have hback := fun {j t : Nat} (q : (need (premsOf (putRows l)) last)[j]? = some t) => need_back ok hlast q
  have hfull := need_put ok hlast
  have hfull2 := need_trim ok hlast
  have hok2 := trim_ok ok hlast
  have hgood2 := trimR_good ok hlast
  have htat := fun {j t : Nat} {q : Str × List Nat} => trimR_at ok hlast (j := j) (t := t) (q := q)
  have hsp := @trimmed_spec
  generalize hTd : need (premsOf (putRows l)) last = T at *
  have hsl : (pairV l).length = l.length := by unfold pairV; rw [List.length_map]
  have hvl : (vints T).length = T.length := by unfold vints; rw [List.length_map]
  refine Kw_def (d := 19) ["steps", "told", "proof", "last"] (by with_unfolding_all rfl) (by kernel_rfl) (fun ws h => by match ws, h with | [a, b, c, d], _ => rfl) (by decide) (fun L => ?_)
  refine Sx_cons (S1_Assign (Ew_CallG (EvF.globK (by with_unfolding_all rfl)) keep_fn (Ew_item (v := .none) ?_)))
  refine Ew_ListComp (cl := [("told", L + 2), ("steps", L + 1)]) (by with_unfolding_all rfl) (ClOk.to ⟨rfl, rfl, trivial⟩) (Iw_val (Ew_name rfl ⟨_, .list ht, fun D LL hD => ?_⟩))
  refine Gw_loopL ["n"] rfl rfl turn_one (.inl ⟨⟨_, _, rfl⟩, fun _ z => by cases z⟩) (fun k σ₂ => k ≤ T.length ∧ Same [D] (σ.set D (.list [])) σ₂ ∧ σ₂ D = some (.list (pairV ((trimPairs l T).take k)))) ⟨Nat.zero_le _, Same.refl _ _, Store.set_self ..⟩ T.length ?_
  rintro k ρ₂ σ₂ hρ₂ ⟨hk, sm₂, hD₂⟩
  have s02 : Same [] σ σ₂ := (((Same.refl [D] σ).new hD).trans sm₂).drop fun x hx => .inr (by rw [List.mem_singleton.mp hx]; exact hD)
  have ht₂ := s02.at ht
  have hs₂ := s02.at hs
  refine ⟨hk, ⟨_, ht₂⟩, fun v hv => ?_, fun hv ρ₃ hρ₃ => ?_⟩
  · simp only [It.at, lof_of ht₂] at hv
    unfold vints at hv
    rw [List.getElem?_map, Option.map_eq_some_iff] at hv
    obtain ⟨t, htk, rfl⟩ := hv
    obtain ⟨hk', -⟩ := List.getElem?_eq_some_iff.mp htk
    obtain ⟨q, hq, hql, hb⟩ := hback htk
    have hq60 := (ok.ok q hql).2
    refine Asg_Name (.inl rfl) (Ts_nil ⟨fun _ => Em_last ?_, fun z => by cases z⟩)
    refine Ew_Tuple (Ew_items_cons (Ew_Subscript (Ew_Subscript (Ew_name (Fra.aside (hρ₂.at (compFra_at rfl))) (Ew_name (Fra.set_self ..) (subL hs₂ (pairV_at hq) (by omega) (Ew_int (subT (k := 0) (v := .str q.1) rfl ?_))))))))
    refine Ew_items_cons (Ew_CallG (EvF.bltK (by kernel_rfl) rfl) KeepOk.type (Ew_item (v := .none) (Ew_ListComp (cl := [("told", L + 2)]) (by with_unfolding_all rfl) (ClOk.to ⟨rfl, trivial⟩) (Iw_val ?_))))
    refine Ew_Subscript (Ew_Subscript (Ew_name (Fra.aside (hρ₂.at (compFra_at rfl))) (Ew_name (Fra.set_self ..) (subL hs₂ (pairV_at hq) (by omega) (Ew_int (subT (k := 1) (v := .tup (vints q.2)) rfl ⟨_, .tup, fun D2 LL2 hD2 => ?_⟩))))))
    refine Gw_loopL ["one"] rfl rfl turn_one (.inl ⟨⟨_, _, rfl⟩, fun _ z => by cases z⟩) (fun j σ₄ => j ≤ q.2.length ∧ Same [D2] (σ₂.set D2 (.list [])) σ₄ ∧ σ₄ D2 = some (.list (vints ((q.2.take j).map fun m => T.idxOf m)))) ⟨Nat.zero_le _, Same.refl _ _, Store.set_self ..⟩ q.2.length ?_
    rintro j ρ₄ σ₄ hρ₄ ⟨hj, sm₄, hD₄⟩
    have s24 : Same [] σ₂ σ₄ := (((Same.refl [D2] σ₂).new hD2).trans sm₄).drop fun x hx => .inr (by rw [List.mem_singleton.mp hx]; exact hD2)
    have ht₄ := s24.at ht₂
    refine ⟨hj, trivial, fun v hv => ?_, fun hv ρ₅ hρ₅ => ?_⟩
    · simp only [It.at] at hv
      unfold vints at hv
      rw [List.getElem?_map, Option.map_eq_some_iff] at hv
      obtain ⟨one, ho, rfl⟩ := hv
      obtain ⟨hj', -⟩ := List.getElem?_eq_some_iff.mp ho
      have hin := (hb one (List.mem_of_getElem? ho)).1
      refine Asg_Name (.inl rfl) (Ts_nil ⟨fun _ => Em_last ?_, fun z => by cases z⟩)
      refine Ew_CallM (Ew_name (Fra.aside (hρ₄.at (compFra_at (Fra.aside (hρ₂.at (compFra_at rfl)))))) ⟨_, MethOk.list ht₄ PySem.F.slot_list_index PySem.F.type_list_index, KeepOk.builtin, Ew_item (v := .none) (Ew_name (Fra.set_self ..) ?_)⟩)
      refine Cw_index (ns := zints T) (by rw [vints_eq]; exact ht₄) (by unfold zints; rw [List.length_map]; omega) (mem_z.mpr hin) ⟨_, hD₄, by unfold vints; rw [List.length_map, List.length_map, List.length_take]; omega, hρ₄.set (.head _), hj', sm₄.put (.head _), ?_⟩
      rw [Store.set_self, idx_z, List.take_add_one, ho]
      simp [vints]
    · have hj' : j = q.2.length := by
        simp only [It.at] at hv
        unfold vints at hv
        rw [List.getElem?_map, Option.map_eq_none_iff, List.getElem?_eq_none_iff] at hv
        omega
      subst hj'
      rw [List.take_length] at hD₄
      have hD₅ : σ₄ D = some (.list (pairV ((trimPairs l T).take k))) := s24.at hD₂
      refine Cw_tupleL hD₄ (by unfold vints; rw [List.length_map, List.length_map]; omega) (Ew_items_nil ⟨by simp, _, hD₅, by unfold pairV; rw [List.length_map, List.length_take]; omega, hρ₂.set (.head _), hk', ?_, ?_⟩)
      · exact (((sm₂.mono (Y := [D]) (by simp)).trans (s24.mono (by simp))).put (.head _))
      · rw [Store.set_self, List.take_add_one, trimPairs_at htk hq]
        simp [pairV]
  have hk' : k = T.length := by
    simp only [It.at, lof_of ht₂] at hv
    unfold vints at hv
    rw [List.getElem?_map, Option.map_eq_none_iff, List.getElem?_eq_none_iff] at hv
    omega
  subst hk'
  rw [List.take_of_length_le (by rw [trimPairs_len]; exact Nat.le_refl _)] at hD₂
  have p₂ := p.keep s02 (by simp) (by simp) (by simp)
  refine (put_spec hD₂ (by rw [trimPairs_len]; omega) (fun r hr => ⟨(hok2.ok r hr).1, Nat.le_trans (hok2.ok r hr).2 (by decide)⟩) hok2.ah fun ax as an ae σ₆ f1 f2 f3 sm₆ pa => Asg_Name (.inl rfl) ?_).cwle (by decide)
  have hpal : (putRows (trimPairs l T)).length = T.length := by rw [putRows_len, trimPairs_len]
  refine Sx_cons (S1_Assign (Ew_CallN rfl pa.dx rfl mth_needed keep_fn (Ew_item (v := .none) (Ew_BinOp (Ew_CallN rfl pa.dx rfl mth_size keep_fn (Ew_items_nil ((size_spec pa (by omega) (Ew_int (O2_sub ?_))).cwle (by decide))))))))
  have esub : ((putRows (trimPairs l T)).length : Int) - 1 = ((T.length - 1 : Nat) : Int) := by rw [hpal]; omega
  rw [esub]
  refine (needed_spec pa hok2.good (by omega) (by omega) fun sa' σ₇ hsa sm₇ hsv => Asg_Name (.inl rfl) ?_).cwle (by decide)
  rw [hfull] at hsv
  have s07 : Same [] σ σ₇ := (s02.trans sm₆).trans sm₇
  have ht₇ := s07.at ht
  have hsz : σ₇ sa' = some (.list ((zints (List.range T.length)).map V.int)) := by rw [vints_eq]; exact hsv
  refine Sx_cons (S1_If (Ew_isCompare (Ew_name rfl ?_)))
  refine Ew_CallG (EvF.bltK (by kernel_rfl) rfl) KeepOk.type (Ew_item (v := .none) (Ew_CallG (EvF.bltK (by kernel_rfl) rfl) KeepOk.type (Ew_item (v := .none) (Ew_CallG (EvF.bltK (by kernel_rfl) rfl) KeepOk.builtin (Ew_item (v := .none) (Ew_name rfl (Cw_lenL ht₇ (by omega) ?_)))))))
  rw [hvl]
  refine Cw_range1 (Cw_listR (by omega) fun la hla => ?_)
  have s8 : Same [] σ₇ (σ₇.set la (.list (vints (List.range T.length)))) := (Same.refl _ _).new hla
  refine O2_neInts (ns := zints (List.range T.length)) (ms := zints (List.range T.length)) (s8.at hsz) (by rw [vints_eq]; exact Store.set_self ..) ⟨_, rfl, fun hb => by simp at hb, fun _ => Sx_nil ?_⟩
  have s08 := s07.trans s8
  have p₈ := p.keep s08 (by simp) (by simp) (by simp)
  refine Sx_cons (S1_Assign (Ew_CallN rfl p₈.dx rfl mth_trimmed keep_fn (Ew_item (v := .none) (Ew_name rfl ((trimmed_spec p₈ ok.good ok.rows (by rw [putRows_len]; exact hlast) (by rw [putRows_len]; omega) fun hx hs' hn' he' σ₉ g1 g2 g3 s9 ph => Asg_Name (.inr ⟨rfl, rfl, rfl, _, rfl⟩) ?_).cwle (by decide))))))
  rw [hTd] at ph
  have hphl : (trimRows (putRows l) T).length = T.length := by unfold trimRows; rw [List.length_map]
  have s09 := s08.trans s9
  have ht₉ := s09.at ht
  have hsz₉ := s9.at (s8.at hsz)
  refine Sx_cons (S1_Return (Ew_And2 (Ew_Compare (Ew_ListComp (cl := [("short", L + 3)]) (by with_unfolding_all rfl) (ClOk.to ⟨rfl, trivial⟩) (Iw_val ?_)))))
  refine Ew_CallG (EvF.bltK (by kernel_rfl) rfl) KeepOk.type (Ew_item (v := .none) (Ew_CallN (Fra.set_self ..) ph.dx rfl mth_size keep_fn (Ew_items_nil ((size_spec ph (by omega) ?_).cwle (by decide)))))
  rw [hphl]
  refine Cw_range1 ⟨_, itR1 (by omega), fun DA LA hDA => ?_⟩
  refine Gw_loopL ["n"] rfl rfl turn_one (.inl ⟨⟨_, _, rfl⟩, fun _ z => by cases z⟩) (fun j σ₂ => j ≤ T.length ∧ Same [DA] (σ₉.set DA (.list [])) σ₂ ∧ σ₂ DA = some (.list (((T.take j).map fun t : Nat => (t : Int) + 1).map tup1))) ⟨Nat.zero_le _, Same.refl _ _, Store.set_self ..⟩ T.length ?_
  rintro j ρ₃ σ₃ hρ₃ ⟨hj, sm₃, hD₃⟩
  have s93 : Same [] σ₉ σ₃ := (((Same.refl [DA] σ₉).new hDA).trans sm₃).drop fun x hx => .inr (by rw [List.mem_singleton.mp hx]; exact hDA)
  have ph₃ := ph.keep s93 (by simp) (by simp) (by simp)
  refine ⟨hj, trivial, fun v hv => ?_, fun hv ρ₄ hρ₄ => ?_⟩
  · simp only [It.at] at hv
    split at hv
    · rename_i hjl
      cases hv
      have e1 : (0 : Int) + (j : Int) * 1 = (j : Int) := by omega
      rw [e1]
      have hTj : T[j]? = some T[j] := List.getElem?_eq_getElem hjl
      obtain ⟨q, hq, hql, hb⟩ := hback hTj
      have hr := htat hTj hq
      refine Asg_Name (.inl rfl) (Ts_nil ⟨fun _ => Em_last (Ew_CallN (Fra.aside (hρ₃.at (compFra_at (Fra.set_self ..)))) ph₃.dx rfl mth_clause keep_fn (Ew_item (v := .none) (Ew_name (Fra.set_self ..) ((clause_spec ph₃ (by omega) hr ⟨_, hD₃, by simp; omega, hρ₃.set (.head _), hjl, sm₃.put (.head _), ?_⟩).cwle (by decide))))), fun z => by cases z⟩)
      rw [Store.set_self, List.take_add_one, hTj, List.map_append, List.map_append]
      rfl
    · cases hv
  have hj' : j = T.length := by
    simp only [It.at] at hv
    split at hv
    · cases hv
    · omega
  subst hj'
  rw [List.take_length] at hD₃
  refine Ew_ListComp (cl := []) (by with_unfolding_all rfl) (ClOk.to trivial) (Iw_val (Ew_name rfl ⟨_, .list (s93.at ht₉), fun DB LB hDB => ?_⟩))
  refine Gw_loopL ["n"] rfl rfl turn_one (.inl ⟨⟨_, _, rfl⟩, fun _ z => by cases z⟩) (fun j σ₂ => j ≤ T.length ∧ Same [DB] (σ₃.set DB (.list [])) σ₂ ∧ σ₂ DB = some (.list (((T.take j).map fun t : Nat => (t : Int) + 1).map tup1))) ⟨Nat.zero_le _, Same.refl _ _, Store.set_self ..⟩ T.length ?_
  rintro j ρ₅ σ₅ hρ₅ ⟨hj, sm₅, hD₅⟩
  have s35 : Same [] σ₃ σ₅ := (((Same.refl [DB] σ₃).new hDB).trans sm₅).drop fun x hx => .inr (by rw [List.mem_singleton.mp hx]; exact hDB)
  have ht₅ := s35.at (s93.at ht₉)
  refine ⟨hj, ⟨_, ht₅⟩, fun v hv => ?_, fun hv ρ₆ hρ₆ => ?_⟩
  · simp only [It.at, lof_of ht₅] at hv
    unfold vints at hv
    rw [List.getElem?_map, Option.map_eq_some_iff] at hv
    obtain ⟨t, htk, rfl⟩ := hv
    obtain ⟨hk', -⟩ := List.getElem?_eq_some_iff.mp htk
    refine Asg_Name (.inl rfl) (Ts_nil ⟨fun _ => Em_last (Ew_Tuple (Ew_items_cons (Ew_BinOp (Ew_name (Fra.set_self ..) (Ew_int (O2_add (Ew_items_nil ⟨by simp, _, hD₅, by simp; omega, hρ₅.set (.head _), hk', sm₅.put (.head _), ?_⟩))))))), fun z => by cases z⟩)
    rw [Store.set_self, List.take_add_one, htk]
    simp [tup1]
  have hj' : j = T.length := by
    simp only [It.at, lof_of ht₅] at hv
    unfold vints at hv
    rw [List.getElem?_map, Option.map_eq_none_iff, List.getElem?_eq_none_iff] at hv
    omega
  subst hj'
  rw [List.take_length] at hD₅
  have ph₅ := ph₃.keep s35 (by simp) (by simp) (by simp)
  refine O2_eqTup1 (s35.at hD₃) hD₅ ⟨_, rfl, fun _ => ?_, fun hb => by simp at hb⟩
  refine Ew_Compare (Ew_CallN (Fra.set_self ..) ph₅.dx rfl mth_needed keep_fn (Ew_item (v := .none) (Ew_BinOp (Ew_CallN (Fra.set_self ..) ph₅.dx rfl mth_size keep_fn (Ew_items_nil ((size_spec ph₅ (by omega) (Ew_int (O2_sub ?_))).cwle (by decide)))))))
  have esub2 : ((trimRows (putRows l) T).length : Int) - 1 = ((T.length - 1 : Nat) : Int) := by rw [hphl]; omega
  rw [esub2]
  refine (needed_spec ph₅ hgood2 (by omega) (by omega) fun sb σ₇ hsb sm₇ hsv => Ew_name rfl ?_).cwle (by decide)
  rw [hfull2] at hsv
  refine O2_eqInts (ns := zints (List.range T.length)) (ms := zints (List.range T.length)) (by rw [vints_eq]; exact hsv) (sm₇.at (s35.at (s93.at hsz₉))) ?_
  rw [decide_eq_true rfl]
  exact h _ (((s09.trans s93).trans s35).trans sm₇)
end
end Mine

open PySem PySem.W PyProof.Rows PySem.Calls PyProof.V PySem.Spec PySem.SeqAt
set_option Elab.async false
set_option linter.all false
set_option maxRecDepth 100000
set_option maxHeartbeats 8000000
namespace Mine
section
variable {prog : Program} {w : World} {g : Heap} {mg mb : Str → Option Value} {d : Nat} {env : Env} {ρ : Fra} {σ : Store}

/-- what the law holds while it puts its steps -/
structure LawSt (σ : Store) (kd cD st ea dx s n : Addr) (cells : List Int) (l : List (Str × List Nat)) (k : Nat) (es : List Addr) : Prop where
  keg : σ kd = some (kegO cD k)
  cel : σ cD = some (.list (cells.map V.int))
  stp : σ st = some (.list (pairV l))
  pf : ∃ e, IsPf σ dx s n e (putRows l)
  ear : σ ea = some (.list (es.map V.ref))
  len : es.length = l.length
  each : ∀ (j : Nat) (a : Addr), es[j]? = some a → σ a = some (.list (vints (need (premsOf (putRows l)) j))) ∧ a ≠ st ∧ a ≠ ea ∧ a ≠ s
  ok : OkL l
  few : ∀ r ∈ l, r.2.length ≤ 3
structure LawNe (kd cD st ea s n : Addr) : Prop where
  a1 : st ≠ ea
  a2 : st ≠ s
  a3 : st ≠ n
  a4 : st ≠ cD
  a5 : ea ≠ s
  a6 : ea ≠ n
  a7 : ea ≠ cD
  a8 : s ≠ cD
theorem LawSt.same {σ σ' : Store} {kd cD st ea dx s n : Addr} {cells : List Int} {l : List (Str × List Nat)} {k k' : Nat} {es : List Addr} (L : LawSt σ kd cD st ea dx s n cells l k es) (sm : Same [kd] σ σ') (hk : σ' kd = some (kegO cD k')) : LawSt σ' kd cD st ea dx s n cells l k' es := by
  have nk : ∀ {a : Addr} {vs : List V}, σ a = some (.list vs) → a ∉ [kd] := fun h z => by rw [List.mem_singleton.mp z, L.keg] at h; cases h
  obtain ⟨e, p⟩ := L.pf
  refine ⟨hk, sm.at L.cel (nk L.cel), sm.at L.stp (nk L.stp), ⟨e, p.keep sm (fun z => ?_) (nk p.st) (nk p.nm)⟩, sm.at L.ear (nk L.ear), L.len, fun j a ha => ?_, L.ok, L.few⟩
  · have := p.dx; rw [List.mem_singleton.mp z, L.keg] at this; cases this
  · obtain ⟨h1, h2⟩ := L.each j a ha
    exact ⟨sm.at h1 (nk h1), h2⟩

theorem ne_of2 {σ : Store} {a b : Addr} {o o' : O} (h : σ a = some o) (g : σ b = some o') (n : o ≠ o') : a ≠ b := fun z => n (by subst z; rw [h] at g; exact Option.some.inj g)
theorem putRows_snoc (l : List (Str × List Nat)) (q : Str × List Nat) : putRows (l ++ [q]) = putRows l ++ [⟨q.1, [(l.length : Int) + 1], q.2, .int l.length⟩] := by
  unfold putRows
  rw [List.mapIdx_append]
  simp
theorem prems_snoc {l : List (Str × List Nat)} {q : Str × List Nat} {m : Nat} (h : m < l.length) : premsOf (putRows l) m = premsOf (putRows (l ++ [q])) m := by
  have h1 : l[m]? = some l[m] := List.getElem?_eq_getElem h
  rw [prems_put h1, prems_put ((List.getElem?_append_left h).trans h1)]
theorem OkL.snoc {l : List (Str × List Nat)} {q : Str × List Nat} (h : OkL l) (h1 : q.1 ∈ rulesL) (h2 : q.2.length ≤ 60) (h3 : ∀ p ∈ q.2, p < l.length) : OkL (l ++ [q]) where
  ok := fun r hr => by
    rcases List.mem_append.mp hr with hr | hr
    · exact h.ok r hr
    · rw [List.mem_singleton.mp hr]; exact ⟨h1, h2⟩
  ah := fun n r hr m hm => by
    by_cases lt : n < l.length
    · rw [List.getElem?_append_left lt] at hr; exact h.ah n r hr m hm
    · rw [List.getElem?_append_right (Nat.le_of_not_lt lt)] at hr
      have : n - l.length = 0 := by
        refine Classical.byContradiction fun z => ?_
        rw [List.getElem?_eq_none (by simp; omega)] at hr
        cases hr
      rw [this] at hr
      cases hr
      have := h3 m hm
      omega
theorem LawSt.grow {σ σ' : Store} {kd cD st ea dx s n : Addr} {cells : List Int} {l : List (Str × List Nat)} {k : Nat} {es : List Addr} {q : Str × List Nat} {a : Addr} {e : Int} (L : LawSt σ kd cD st ea dx s n cells l k es) (N : LawNe kd cD st ea s n) (sm : Same [st, s, dx, ea] σ σ')
    (h1 : q.1 ∈ rulesL) (h2 : q.2.length ≤ 3) (h3 : ∀ p ∈ q.2, p < l.length) (hst : σ' st = some (.list (pairV (l ++ [q])))) (p : IsPf σ' dx s n e (putRows (l ++ [q]))) (hea : σ' ea = some (.list ((es ++ [a]).map V.ref))) (ha : σ' a = some (.list (vints (need (premsOf (putRows (l ++ [q]))) l.length)))) (na : a ≠ st ∧ a ≠ ea ∧ a ≠ s) :
    LawSt σ' kd cD st ea dx s n cells (l ++ [q]) k (es ++ [a]) := by
  have ok' := L.ok.snoc h1 (Nat.le_trans h2 (by decide)) h3
  obtain ⟨e0, p0⟩ := L.pf
  have nin : ∀ {x : Addr}, x ≠ st → x ≠ s → x ≠ dx → x ≠ ea → x ∉ [st, s, dx, ea] := fun a b c d => by simp [a, b, c, d]
  have kk : ∀ {x : Addr} {vs : List V}, σ x = some (.list vs) → kd ≠ x := fun hx => ne_of2 L.keg hx (by unfold kegO; intro z; cases z)
  have xd : ∀ {x : Addr} {vs : List V}, σ x = some (.list vs) → x ≠ dx := fun hx => ne_of2 hx p0.dx (by intro z; cases z)
  refine ⟨sm.at L.keg (nin (kk L.stp) (kk p0.st) (ne_of2 L.keg p0.dx (by unfold kegO; intro z; cases z)) (kk L.ear)), sm.at L.cel (nin (Ne.symm N.a4) (Ne.symm N.a8) (xd L.cel) (Ne.symm N.a7)), hst, ⟨e, p⟩, hea, by simp [L.len], fun j x hx => ?_, ok', fun r hr => ?_⟩
  · by_cases lt : j < es.length
    · rw [List.getElem?_append_left lt] at hx
      obtain ⟨b1, b2, b3, b4⟩ := L.each j x hx
      have lt' : j < l.length := by rw [← L.len]; exact lt
      refine ⟨?_, b2, b3, b4⟩
      rw [← need_congr L.ok.good.ahead ok'.good.ahead (last := j) fun m hm => prems_snoc (Nat.lt_of_le_of_lt hm lt')]
      exact sm.at b1 (nin b2 b4 (xd b1) b3)
    · rw [List.getElem?_append_right (Nat.le_of_not_lt lt)] at hx
      have z : j - es.length = 0 := by
        refine Classical.byContradiction fun z => ?_
        rw [List.getElem?_eq_none (by simp; omega)] at hx
        cases hx
      rw [z] at hx
      cases hx
      have : j = l.length := by rw [← L.len]; omega
      subst this
      exact ⟨ha, na⟩
  · rcases List.mem_append.mp hr with hr | hr
    · exact L.few r hr
    · rw [List.mem_singleton.mp hr]; exact h2
theorem prOf_put (l : List (Str × List Nat)) : prOf (l.map (·.2)) = premsOf (putRows l) := by
  funext n
  unfold prOf
  rw [List.getElem?_map]
  cases h : l[n]? with
  | some q => rw [prems_put h]; rfl
  | none =>
    unfold premsOf
    have : (putRows l)[n]? = none := by unfold putRows; rw [List.getElem?_mapIdx, h]; rfl
    rw [this]; rfl
def lawRules : List Str := ["input", "resolve", "congruence"]

theorem law_spec {sc : Addr} {ws : List Value} {ns : List Int} (hl : g.IsList sc ws.toArray) (hi : IntsAre ws ns) (hz : ns.length ≤ 63) :
    Kw (K2 prog w g mg mb) 41 (.ref 252) [.ref sc] (fun v _ => v = .bool true) (fun _ => none) := by
  refine Kw_def (d := 40) ["script"] (by with_unfolding_all rfl) (by kernel_rfl) (fun ws h => by match ws, h with | [a], _ => rfl) (by decide) (fun L => ?_)
  refine Sx_cons ?_
  refine S1_Assign ?_ ?_ ?_ ?_
  rotate_left
  · with_unfolding_all rfl
  · with_unfolding_all rfl
  · rfl
  refine Ew_Tuple ?_
  refine Ew_items_cons ?_
  refine Ew_DictK (knd := strKind prog w) (mk := O.sdict) (fun _ _ _ => Iff.rfl) rfl rfl (by simp) (by decide) fun kd hkd => ?_
  refine Ew_pairs_cons emb_str (Ew_str ⟨_, rfl, ?_⟩)
  refine Ew_ListComp (cl := []) (by with_unfolding_all rfl) (ClOk.to trivial) (Iw_val (Ew_SliceG hl hi (by omega) (Ew_name rfl ⟨rfl, Ew_int ⟨40, rfl, fun S hS => ⟨_, .list (Store.set_self ..), fun cD LL hcD => ?_⟩⟩⟩)))
  have kS : S ≠ kd := fun z => by rw [z] at hS; simp at hS
  refine Gw_loopL ["cell"] rfl rfl turn_one (.inl ⟨⟨_, _, rfl⟩, fun _ z => by cases z⟩) (fun j σ₂ => j ≤ (ns.take 40).length ∧ Same [cD] (((Store.set (fun _ => none) kd (.sdict [])).set S (.list ((ns.take 40).map V.int))).set cD (.list [])) σ₂ ∧ ∃ ms : List Int, σ₂ cD = some (.list (ms.map V.int)) ∧ ms.length = j) ⟨Nat.zero_le _, Same.refl _ _, [], Store.set_self .., rfl⟩ (ns.take 40).length ?_
  rintro j ρ₂ σ₂ hρ₂ ⟨hj, sm₂, ms, hms, hml⟩
  have s1 : Same [] ((Store.set (fun _ => none) kd (.sdict [])).set S (.list ((ns.take 40).map V.int))) σ₂ := (((Same.refl [cD] _).new hcD).trans sm₂).drop fun x hx => .inr (by rw [List.mem_singleton.mp hx]; exact hcD)
  have hSσ := s1.at (Store.set_self _ S _)
  have hl40 : (ns.take 40).length ≤ 63 := by rw [List.length_take]; omega
  refine ⟨hj, ⟨_, hSσ⟩, fun v hv => ?_, fun hv ρ₃ hρ₃ => ?_⟩
  · simp only [It.at, lof_of hSσ] at hv
    rw [List.getElem?_map, Option.map_eq_some_iff] at hv
    obtain ⟨x, hx, rfl⟩ := hv
    obtain ⟨hj', -⟩ := List.getElem?_eq_some_iff.mp hx
    refine Asg_Name (.inl rfl) (Ts_nil ⟨fun _ => Em_last (Ew_BinOp (Ew_CallG (EvF.bltK (by kernel_rfl) rfl) KeepOk.type (Ew_item (v := .none) (Ew_name (Fra.set_self ..) (Cw_intI (Ew_int (O2_fmod (by decide) ⟨_, hms, by simp; omega, hρ₂.set (.head _), hj', sm₂.put (.head _), ms ++ [x.fmod 1000003], ?_, by simp; omega⟩))))))), fun z => by cases z⟩)
    rw [Store.set_self, List.map_append]; rfl
  have hml' : ms.length ≤ 63 := by omega
  have hkd₂ : σ₂ kd = some (.sdict []) := s1.at ((Store.set_ne (Ne.symm kS)).trans (Store.set_self ..))
  clear hρ₂ hρ₃ hSσ hv sm₂ hj
  refine Ew_pairs_cons emb_str (Ew_str ⟨_, rfl, Ew_int (Ew_pairs_nil ⟨hkd₂, ?_⟩)⟩)
  have ek : σ₂.set kd (.sdict (mergeK [(("cells" : Str), V.ref cD), (("k" : Str), V.int 0)] [])) = σ₂.set kd (kegO cD 0) := by unfold kegO; congr 1
  rw [ek]
  have ck : cD ≠ kd := fun z => by rw [z, hkd₂] at hms; cases hms
  have hk₃ : (σ₂.set kd (kegO cD 0)) kd = some (kegO cD 0) := Store.set_self ..
  have hc₃ : (σ₂.set kd (kegO cD 0)) cD = some (.list (ms.map V.int)) := (Store.set_ne ck).trans hms
  generalize σ₂.set kd (kegO cD 0) = σ₃ at hk₃ hc₃ ⊢
  clear s1 hkd₂ ek hms
  refine Ew_items_cons (Ew_List (Ew_items_nil ⟨by decide, fun st hst => ?_⟩))
  refine Ew_items_cons (Ew_List (Ew_items_nil ⟨by decide, fun ea hea => Ew_items_nil ⟨by simp, ?_⟩⟩))
  refine Asg_Tuple rfl (AsgL_cons (Asg_Name (.inr ⟨rfl, rfl, rfl, _, rfl⟩) (AsgL_cons (Asg_Name (.inl rfl) (AsgL_cons (Asg_Name (.inl rfl) (AsgL_nil ?_)))))))
  have s34 : Same [] σ₃ (σ₃.set st (.list [])) := (Same.refl _ _).new hst
  have s45 : Same [] (σ₃.set st (.list [])) ((σ₃.set st (.list [])).set ea (.list [])) := (Same.refl _ _).new hea
  have a1 : st ≠ ea := ne_of (Store.set_self σ₃ st _) hea
  have a4 : st ≠ cD := Ne.symm (ne_of hc₃ hst)
  have a7 : ea ≠ cD := Ne.symm (ne_of (s34.at hc₃) hea)
  refine Sx_cons (S1_Assign (Ew_CallG (EvF.globK (by with_unfolding_all rfl)) keep_fn (Ew_items_nil ((make_spec fun dx s n σ₆ f1 f2 f3 sm₆ p₆ => Asg_Name (.inr ⟨rfl, rfl, rfl, _, rfl⟩) ?_).cwle (by decide)))))
  have NE : LawNe kd cD st ea s n := ⟨a1, ne_of (s45.at (Store.set_self ..)) f2, ne_of (s45.at (Store.set_self ..)) f3, a4, ne_of (Store.set_self ..) f2, ne_of (Store.set_self ..) f3, a7, Ne.symm (ne_of (s45.at (s34.at hc₃)) f2)⟩
  have L0 : LawSt σ₆ kd cD st ea dx s n ms [] 0 [] := ⟨sm₆.at (s45.at (s34.at hk₃)), sm₆.at (s45.at (s34.at hc₃)), sm₆.at (s45.at (Store.set_self ..)), ⟨_, p₆⟩, sm₆.at (Store.set_self ..), rfl, fun j a h => by simp at h, ⟨(fun r hr => nomatch hr), (fun n r h => by cases h)⟩, (fun r hr => nomatch hr)⟩
  clear s34 s45 f1 f2 f3 p₆ sm₆ hst hea
  refine Sx_cons (S1_ForL ["n", "rule", "premises"] (fun it i ρ' σ' => ∃ N, it = .rng 0 1 N ∧ N ≤ 5 ∧ i ≤ N ∧ ∃ l k es, l.length = i ∧ k ≤ 1 + 5 * i ∧ LawSt σ' kd cD st ea dx s n ms l k es) (Iw_val ?_))
  refine Ew_CallG (EvF.bltK (by kernel_rfl) rfl) KeepOk.type (Ew_item (v := .none) (Ew_BinOp (Ew_int (Ew_CallG (EvF.globK (by with_unfolding_all rfl)) keep_fn (Ew_items_cons (Ew_name rfl (Ew_item (v := .none) (Ew_int ?_))))))))
  refine (nip_spec (many := 4) L0.keg L0.cel (by decide) (by omega) (by decide) fun r hr => O2_add ?_).cwle (by decide)
  have e0 : (2 : Int) + (r : Int) = ((2 + r : Nat) : Int) := by omega
  rw [e0]
  have L1 : LawSt (σ₆.set kd (kegO cD 1)) kd cD st ea dx s n ms [] 1 [] := L0.same ((Same.refl [kd] _).put (.head _)) (Store.set_self ..)
  refine Cw_range1 ⟨_, itR1 (by omega), .inl ⟨⟨_, _, rfl⟩, fun _ z => by cases z⟩, ⟨2 + r, rfl, by omega, Nat.zero_le _, [], 1, [], rfl, by decide, L1⟩, 5, ?_⟩
  generalize 2 + r = N0 at *
  clear L0 L1 hr e0 r
  rintro i ρ' σ' hρ ⟨N, eN, hN5, hiN, l, k, es, hli, hkk, LS⟩
  refine ⟨by omega, trivial, fun v hv => ?_, fun hv => ?_⟩
  · simp only [It.at] at hv
    split at hv
    · rename_i hlt
      cases hv
      cases eN
      have e1 : (0 : Int) + (i : Int) * 1 = (i : Int) := by omega
      rw [e1]
      refine Asg_Name (.inr ⟨rfl, rfl, rfl, _, rfl⟩) (Sx_cons (S1_Assign (Ew_Subscript (Ew_globK (v := .tup (lawRules.map V.str)) (by with_unfolding_all rfl) (fun h X => ?_) ?_))))
      · exact ⟨_, _, _, rfl, X _ _ (by with_unfolding_all rfl), by
          unfold lawRules
          simp only [List.map_cons, List.map_nil]
          repeat (first | exact VRels.nil | refine VRels.cons ⟨_, rfl⟩ ?_)⟩
      refine Ew_CallG (EvF.globK (by with_unfolding_all rfl)) keep_fn (Ew_items_cons (Ew_name (Fra.aside (hρ.at rfl)) (Ew_item (v := .none) (Ew_int ?_))))
      refine (nip_spec (many := 3) LS.keg LS.cel (by omega) (by omega) (by decide) fun r hr => ?_).cwle (by decide)
      have LS₁ := LS.same ((Same.refl [kd] _).put (o := kegO cD (k + 1)) (.head _)) (Store.set_self ..)
      obtain ⟨x, hx, hxr⟩ : ∃ x, lawRules[r]? = some x ∧ x ∈ rulesL := by
        match r, hr with
        | 0, _ => exact ⟨_, rfl, by decide⟩
        | 1, _ => exact ⟨_, rfl, by decide⟩
        | 2, _ => exact ⟨_, rfl, by decide⟩
      generalize σ'.set kd (kegO cD (k + 1)) = σ₁ at LS₁ ⊢
      refine subT (k := r) (v := .str x) (by rw [List.getElem?_map, hx]; rfl) (Asg_Name (.inl rfl) ?_) (by unfold lawRules; simp)
      refine Sx_cons (S1_Assign (Ew.mono (Q := fun v σ₂ => ∃ ps k₂, v = .tup (vints ps) ∧ ps.length ≤ 3 ∧ (∀ p ∈ ps, p < i) ∧ k₂ ≤ k + 5 ∧ LawSt σ₂ kd cD st ea dx s n ms l k₂ es) ?_ fun v σ₂ hv₂ => ?_))
      · refine Ew_IfExp (Ew_isCompare (Ew_name (Fra.aside (Fra.set_self ..)) (Ew_int (O2_gt ⟨_, rfl, fun hb => ?_, fun hb => Ew_Tuple (Ew_items_nil ⟨by simp, [], k + 1, rfl, by simp, (fun p hp => nomatch hp), by omega, LS₁⟩)⟩))))
        have hi0 : 0 < i := by have := of_decide_eq_true hb; omega
        refine Ew_CallG (EvF.bltK (by kernel_rfl) rfl) KeepOk.type (Ew_item (v := .none) (Ew_ListComp (cl := [("n", L + 3), ("keg", L + 1)]) (by with_unfolding_all rfl) (ClOk.to ⟨rfl, rfl, trivial⟩) (Iw_val ?_)))
        refine Ew_CallG (EvF.bltK (by kernel_rfl) rfl) KeepOk.type (Ew_item (v := .none) (Ew_CallG (EvF.globK (by with_unfolding_all rfl)) keep_fn (Ew_items_cons (Ew_name (Fra.aside (Fra.aside (hρ.at rfl))) (Ew_item (v := .none) (Ew_int ?_))))))
        refine (nip_spec (many := 4) LS₁.keg LS₁.cel (by omega) (by omega) (by decide) fun m hm => Cw_range1 ⟨_, itR1 (by omega), fun D LL hD => ?_⟩).cwle (by decide)
        have LS₂ := LS₁.same ((Same.refl [kd] _).put (o := kegO cD (k + 1 + 1)) (.head _)) (Store.set_self ..)
        generalize σ₁.set kd (kegO cD (k + 1 + 1)) = σ₂ at LS₂ hD ⊢
        have kD : kd ≠ D := ne_of LS₂.keg hD
        refine Gw_loopL ["lap"] rfl rfl turn_one (.inl ⟨⟨_, _, rfl⟩, fun _ z => by cases z⟩) (fun j σ₃ => j ≤ m ∧ ∃ k₃ ps, k₃ ≤ k + 2 + j ∧ σ₃ kd = some (kegO cD k₃) ∧ Same [kd] σ₂ σ₃ ∧ σ₃ D = some (.list (vints ps)) ∧ ps.length = j ∧ ∀ p ∈ ps, p < i)
          ⟨Nat.zero_le _, k + 1 + 1, [], Nat.le_refl _, (Store.set_ne kD).trans LS₂.keg, (Same.refl _ _).new hD, Store.set_self .., rfl, fun p hp => nomatch hp⟩ m ?_
        rintro j ρ₃ σ₃ hρ₃ ⟨hj, k₃, ps, hk₃, hkd₃, sm₃, hD₃, hpl, hps⟩
        refine ⟨hj, trivial, fun v hv => ?_, fun hv ρ₄ hρ₄ => ?_⟩
        · simp only [It.at] at hv
          split at hv
          · rename_i hjl
            cases hv
            refine Asg_Name (.inl rfl) (Ts_nil ⟨fun _ => Em_last ?_, fun z => by cases z⟩)
            have cc : σ₃ cD = some (.list (ms.map V.int)) := sm₃.at LS₂.cel (fun z => by have := LS₂.cel; rw [List.mem_singleton.mp z, LS₂.keg] at this; cases this)
            refine Ew_CallG (EvF.globK (by with_unfolding_all rfl)) keep_fn (Ew_items_cons (Ew_name (Fra.aside (hρ₃.at (compFra_at (Fra.aside (Fra.aside (hρ.at rfl)))))) (Ew_item (v := .none) (Ew_name (Fra.aside (hρ₃.at (compFra_at (Fra.aside (Fra.set_self ..))))) ?_))))
            refine (nip_spec (many := i) hkd₃ cc (by omega) (by omega) hi0 fun y hy => ⟨_, (Store.set_ne (Ne.symm kD)).trans hD₃, by unfold vints; rw [List.length_map]; omega, hρ₃.set (.head _), hjl, k₃ + 1, ps ++ [y], by omega, (Store.set_ne kD).trans (Store.set_self ..), ?_, ?_, by simp; omega, ?_⟩).cwle (by decide)
            · exact fun a o e na => by
                rw [Store.set_ne (ne_of e hD)]
                exact (sm₃.put (.head _)) a o e na
            · rw [Store.set_self]; simp [vints]
            · intro p hp
              rcases List.mem_append.mp hp with hp | hp
              · exact hps p hp
              · rw [List.mem_singleton.mp hp]; exact hy
          · cases hv
        · have hj' : j = m := by
            simp only [It.at] at hv
            split at hv
            · cases hv
            · omega
          subst hj'
          exact Cw_tupleL hD₃ (by unfold vints; rw [List.length_map]; omega) ⟨ps, k₃, rfl, by omega, hps, by omega, LS₂.same sm₃ hkd₃⟩
      · obtain ⟨ps, k₂, rfl, hp3, hpi, hk₂, LS₂⟩ := hv₂
        obtain ⟨e₂, p₂⟩ := LS₂.pf
        refine Asg_Name (.inl rfl) (Sx_cons (S1_Expr ?_))
        refine Ew_CallM (Ew_name (Fra.aside (Fra.aside (Fra.aside (hρ.at rfl)))) ⟨_, MethOk.list LS₂.stp PySem.F.slot_list_append PySem.F.type_list_append, KeepOk.builtin, Ew_item (v := .none) ?_⟩)
        refine Ew_Tuple (Ew_items_cons ?_)
        refine Ew_name (Fra.aside (Fra.set_self ..)) (Ew_items_cons ?_)
        refine Ew_name (Fra.set_self ..) (Ew_items_nil ⟨by simp, Cw_append LS₂.stp (by unfold pairV; rw [List.length_map]; omega) ?_⟩)
        have ep : pairV l ++ [V.tup [.str x, .tup (vints ps)]] = pairV (l ++ [(x, ps)]) := by unfold pairV; rw [List.map_append]; rfl
        rw [ep]
        have s3 : Same [st] σ₂ (σ₂.set st (.list (pairV (l ++ [(x, ps)])))) := (Same.refl _ _).put (.head _)
        have p₃ := p₂.keep s3 (by simpa using Ne.symm (ne_of2 LS₂.stp p₂.dx (by intro z; cases z))) (by simpa using Ne.symm NE.a2) (by simpa using Ne.symm NE.a3)
        have hprl : (putRows l).length = i := by rw [putRows_len, hli]
        refine Sx_cons (S1_If (Ew_isCompare (Ew_CallN (Fra.aside (Fra.aside (Fra.aside (hρ.at rfl)))) p₃.dx rfl mth_add keep_fn ?_)))
        refine Ew_items_cons (Ew_name (Fra.aside (Fra.set_self ..)) (Ew_items_cons (Ew_Tuple (Ew_items_cons (Ew_BinOp (Ew_name (Fra.aside (Fra.aside (Fra.set_self ..))) (Ew_int (O2_add (Ew_items_nil ⟨by simp, ?_⟩)))))))))
        refine Ew_items_cons (Ew_name (Fra.set_self ..) (Ew_items_cons (Ew_name (Fra.aside (Fra.aside (Fra.set_self ..))) (Ew_items_nil ?_))))
        refine (add_spec (r := ⟨x, [(i : Int) + 1], ps, .int i⟩) p₃ (by omega) hxr (by simp) (by intro c hc; rw [List.mem_singleton] at hc; subst hc; omega) (by rw [hprl]; exact hpi) (by show ps.length ≤ 1000; omega) fun σ₄ e₄ sm₄ p₄ => ?_).cwle (by decide)
        rw [hprl]
        refine Ew_name (Fra.aside (Fra.aside (Fra.set_self ..))) (O2_ne ⟨_, rfl, fun hb => by simp at hb, fun _ => Sx_nil ?_⟩)
        have esn : putRows l ++ [⟨x, [(i : Int) + 1], ps, .int i⟩] = putRows (l ++ [(x, ps)]) := by rw [putRows_snoc, hli]
        rw [esn] at p₄
        have ok' : OkL (l ++ [(x, ps)]) := LS₂.ok.snoc hxr (by show ps.length ≤ 60; omega) (by rw [hli]; exact hpi)
        have ll' : (putRows (l ++ [(x, ps)])).length = i + 1 := by rw [putRows_len]; simp [hli]
        have sn : ∀ {y : Addr}, y ≠ s → y ≠ dx → y ∉ [s, dx] := fun a b => by simp [a, b]
        have edx : ea ≠ dx := ne_of2 LS₂.ear p₂.dx (by intro z; cases z)
        have sdx : st ≠ dx := ne_of2 LS₂.stp p₂.dx (by intro z; cases z)
        have hea₄ := sm₄.at (s3.at LS₂.ear (by simpa using Ne.symm NE.a1)) (sn NE.a5 edx)
        have hst₄ := sm₄.at (Store.set_self σ₂ st _) (sn NE.a2 sdx)
        refine Sx_cons (S1_Expr ?_)
        refine Ew_CallM (Ew_name (Fra.aside (Fra.aside (Fra.aside (hρ.at rfl)))) ⟨_, MethOk.list hea₄ PySem.F.slot_list_append PySem.F.type_list_append, KeepOk.builtin, Ew_item (v := .none) ?_⟩)
        refine Ew_CallN (Fra.aside (Fra.aside (Fra.aside (hρ.at rfl)))) p₄.dx rfl mth_needed keep_fn (Ew_item (v := .none) ?_)
        refine Ew_name (Fra.aside (Fra.aside (Fra.set_self ..))) ((needed_spec p₄ ok'.good (by omega) (by omega) fun a σ₅ ha sm₅ ha₅ => ?_).cwle (by decide))
        have hea₅ := sm₅.at hea₄
        have na : a ≠ st ∧ a ≠ ea ∧ a ≠ s := ⟨Ne.symm (ne_of hst₄ ha), Ne.symm (ne_of hea₄ ha), Ne.symm (ne_of p₄.st ha)⟩
        refine Cw_append hea₅ (by rw [List.length_map, LS₂.len]; omega) (Sx_nil ⟨((hρ.set (.head _)).set (.tail _ (.head _))).set (.tail _ (.tail _ (.head _))), N0, rfl, hN5, hlt, l ++ [(x, ps)], k₂, es ++ [a], by simp [hli], by omega, ?_⟩)
        have sea : Same [ea] σ₅ (σ₅.set ea (.list (es.map V.ref ++ [.ref a]))) := (Same.refl _ _).put (.head _)
        refine LS₂.grow NE ((((s3.mono (by simp)).trans (sm₄.mono (by simp))).trans (sm₅.mono (by simp))).trans (sea.mono (by simp))) hxr hp3 (by rw [hli]; exact hpi) (sea.at (sm₅.at hst₄) (by simpa using NE.a1)) (p₄.keep sm₅ (by simp) (by simp) (by simp) |>.keep sea (by simpa using Ne.symm edx) (by simpa using Ne.symm NE.a5) (by simpa using Ne.symm NE.a6)) (by rw [Store.set_self, List.map_append]; rfl) ?_ na
        rw [hli]
        exact sea.at ha₅ (by simpa using na.2.1)
    · cases hv
  have hiN' : i = N := by
    cases eN
    simp only [It.at] at hv
    split at hv
    · cases hv
    · omega
  subst hiN'
  subst hli
  clear hkk hiN hv eN
  have hP := prOf_put l
  have ah := LS.ok.good.ahead
  have hsl : (pairV l).length = l.length := by unfold pairV; rw [List.length_map]
  refine Sx_cons (S1_AssignUsed rfl (cl := []) (by with_unfolding_all rfl) (ClOk.to trivial) (Iw_val (Ew_name (hρ.at rfl) ⟨_, .list LS.stp, fun D LL hD => ?_⟩)))
  refine Gw_loopL ["rule", "premises"] rfl rfl turn_one (.inr ⟨⟨_, _, _, rfl⟩, _, .inl rfl⟩) (fun j σ₂ => j ≤ l.length ∧ Same [D] (σ'.set D (.list [])) σ₂ ∧ σ₂ D = some (.list (rowsV ((l.take j).map (·.2))))) ⟨Nat.zero_le _, Same.refl _ _, Store.set_self ..⟩ l.length ?_
  rintro j ρ₂ σ₂ hρ₂ ⟨hj, sm₂, hD₂⟩
  have s2 : Same [] σ' σ₂ := (((Same.refl [D] σ').new hD).trans sm₂).drop fun x hx => .inr (by rw [List.mem_singleton.mp hx]; exact hD)
  have hst₂ := s2.at LS.stp
  refine ⟨hj, ⟨_, hst₂⟩, fun v hv => ?_, fun hv ρ₃ hρ₃ => ?_⟩
  · simp only [It.at, lof_of hst₂] at hv
    unfold pairV at hv
    rw [List.getElem?_map, Option.map_eq_some_iff] at hv
    obtain ⟨q, hq, rfl⟩ := hv
    obtain ⟨hj', -⟩ := List.getElem?_eq_some_iff.mp hq
    refine Asg_Tuple (vs := [.str q.1, .tup (vints q.2)]) rfl (AsgL_cons (Asg_Name (.inl rfl) (AsgL_cons (Asg_Name (.inl rfl) (AsgL_nil ?_)))))
    refine Ts_nil ⟨fun _ => Em_last (Ew_name (Fra.set_self ..) ⟨_, hD₂, by unfold rowsV; rw [List.length_map, List.length_map, List.length_take]; omega, (hρ₂.set (.head _)).set (.tail _ (.head _)), hj', sm₂.put (.head _), ?_⟩), fun z => by cases z⟩
    rw [Store.set_self, List.take_add_one, hq]
    unfold rowsV
    rw [List.map_append, List.map_append]
    rfl
  have hj' : j = l.length := by
    simp only [It.at, lof_of hst₂] at hv
    rw [List.getElem?_eq_none_iff] at hv
    omega
  subst hj'
  rw [List.take_length] at hD₂
  have LS₂ := LS.same (s2.mono (by simp)) (s2.at LS.keg)
  have hrl : (rowsV (l.map (·.2))).length = l.length := by unfold rowsV; rw [List.length_map, List.length_map]
  clear hρ₂ hρ₃ sm₂ hst₂ hj
  refine Sx_cons ?_
  refine S1_ForL ["last", "told", "roads", "below"] (fun it i ρ' σ₃ => it = .rng 0 1 l.length ∧ i ≤ l.length ∧ Same [] σ₂ σ₃) (Iw_val ?_)
  refine Ew_CallG (EvF.bltK (by kernel_rfl) rfl) KeepOk.type (Ew_item (v := .none) (Ew_CallG (EvF.bltK (by kernel_rfl) rfl) KeepOk.builtin (Ew_item (v := .none) (Ew_name (Fra.set_self ..) (Cw_lenL hD₂ (by omega) ?_)))))
  rw [hrl]
  refine Cw_range1 ⟨_, itR1 (by omega), .inl ⟨⟨_, _, rfl⟩, fun _ z => by cases z⟩, ⟨rfl, Nat.zero_le _, Same.refl _ _⟩, l.length, ?_⟩
  rintro i ρ₃ σ₃ hρ₃ ⟨-, hi, sm₃⟩
  refine ⟨hi, trivial, fun v hv => ?_, fun hv => Sx_cons (S1_Return (Ew_bool rfl))⟩
  simp only [It.at] at hv
  split at hv
  rotate_left
  · cases hv
  rename_i hlt
  cases hv
  have e1 : (0 : Int) + (i : Int) * 1 = (i : Int) := by omega
  rw [e1]
  have LS₃ := LS₂.same (sm₃.mono (by simp)) (sm₃.at LS₂.keg)
  have hD₃ := sm₃.at hD₂
  obtain ⟨e₃, p₃⟩ := LS₃.pf
  have hprl : (putRows l).length = l.length := putRows_len l
  have nl := need_length (premsOf (putRows l)) i
  refine Asg_Name (.inl rfl) (Sx_cons (S1_Assign ?_))
  refine Ew_CallN (Fra.aside (hρ₃.at (Fra.aside (hρ.at rfl)))) p₃.dx rfl mth_needed keep_fn (Ew_item (v := .none) (Ew_name (Fra.set_self ..) ((needed_spec p₃ LS.ok.good (by omega) (by omega) fun ta σ₄ hta sm₄ ht => Asg_Name (.inl rfl) ?_).cwle (by decide))))
  have s34 := sm₃.trans sm₄
  have zt : σ₄ ta = some (.list ((zints (need (premsOf (putRows l)) i)).map V.int)) := by rw [vints_eq]; exact ht
  have LS₄ := LS₂.same (s34.mono (by simp)) (s34.at LS₂.keg)
  refine Sx_cons (S1_If (Ew_isOr (Ew_or_cons (Ew_isCompare (Ew_name (Fra.set_self ..) ?_)))))
  refine Ew_CallG (EvF.globK (by with_unfolding_all rfl)) keep_fn (Ew_items_cons (Ew_name (Fra.aside (Fra.aside (hρ₃.at (Fra.set_self ..)))) (Ew_item (v := .none) (Ew_name (Fra.aside (Fra.set_self ..)) ?_))))
  refine (common_spec (PL := l.map (·.2)) (s34.at hD₂) (by rw [hP]; exact ah) (by rw [List.length_map]; exact hlt) (by rw [List.length_map]; omega) (fun pr hpr => by
    obtain ⟨q, hq, rfl⟩ := List.mem_map.mp hpr
    exact (LS.ok.ok q hq).2) fun ca σ₅ hca sm₅ hc => ?_).cwle (by decide)
  rw [hP] at hc
  have zc : σ₅ ca = some (.list ((zints (need (premsOf (putRows l)) i)).map V.int)) := by rw [vints_eq]; exact hc
  refine O2_neInts (sm₅.at zt) zc ⟨_, rfl, fun hb => by simp at hb, fun _ => ?_⟩
  have s35 := s34.trans sm₅
  have LS₅ := LS₂.same (s35.mono (by simp)) (s35.at LS₂.keg)
  obtain ⟨ai, hai⟩ : ∃ ai, es[i]? = some ai := ⟨es[i]'(by rw [LS.len]; exact hlt), List.getElem?_eq_getElem _⟩
  have hev := (LS₅.each i ai hai).1
  refine Ew_or_cons (Ew_isCompare (Ew_name (Fra.set_self ..) (Ew_Subscript (Ew_name (Fra.aside (Fra.aside (hρ₃.at (Fra.aside (hρ.at rfl))))) (Ew_name (Fra.aside (Fra.set_self ..)) (subL LS₅.ear (v := .ref ai) (by rw [List.getElem?_map, hai]; rfl) (by rw [List.length_map, LS₅.len]; omega) ?_))))))
  refine O2_neInts (sm₅.at zt) (ms := zints (need (premsOf (putRows l)) i)) (by rw [vints_eq]; exact hev) ⟨_, rfl, fun hb => by simp at hb, fun _ => Ew_or_nil ⟨(fun z => by cases z), fun _ => Sx_nil ?_⟩⟩
  refine Sx_cons (S1_Assign (Ew_CallG (EvF.globK (by with_unfolding_all rfl)) keep_fn (Ew_items_cons (Ew_name (Fra.aside (Fra.aside (hρ₃.at (Fra.set_self ..)))) (Ew_item (v := .none) (Ew_name (Fra.aside (Fra.set_self ..)) ?_))))))
  refine (roads_spec (PL := l.map (·.2)) (s35.at hD₂) (by rw [hP]; exact ah) (by rw [List.length_map]; exact hlt) (by rw [List.length_map]; omega) fun ra σ₆ rs hra sm₆ hr hrl6 hrs => Asg_Name (.inr ⟨rfl, rfl, rfl, _, rfl⟩) ?_).cwle (by decide)
  rw [hP] at hrs
  rw [List.length_map] at hrl6
  have s36 := s35.trans sm₆
  have zt₆ := (sm₅.trans sm₆).at zt
  refine Sx_cons (S1_If (Ew_isCompare (Ew_name (Fra.aside (Fra.set_self ..)) ?_)))
  refine Ew_ListComp (cl := [("roads", L + 4)]) (by with_unfolding_all rfl) (ClOk.to ⟨rfl, trivial⟩) (Iw_val ?_)
  refine Ew_CallG (EvF.bltK (by kernel_rfl) rfl) KeepOk.type (Ew_item (v := .none) (Ew_CallG (EvF.bltK (by kernel_rfl) rfl) KeepOk.builtin (Ew_item (v := .none) (Ew_name (Fra.aside (Fra.aside (Fra.aside (hρ₃.at (Fra.set_self ..))))) (Cw_lenL (s36.at hD₂) (by omega) ?_)))))
  rw [hrl]
  refine Cw_range1 ⟨_, itR1 (by omega), fun E LE hE => ?_⟩
  refine Gw_loopL ["n"] rfl rfl turn_one (.inl ⟨⟨_, _, rfl⟩, fun _ z => by cases z⟩) (fun j σ₇ => j ≤ l.length ∧ Same [E] (σ₆.set E (.list [])) σ₇ ∧ σ₇ E = some (.list (vints ((List.range j).filter fun m => @decide (Needs (premsOf (putRows l)) i m) (Classical.propDecidable _))))) ⟨Nat.zero_le _, Same.refl _ _, Store.set_self ..⟩ l.length ?_
  rintro j ρ₇ σ₇ hρ₇ ⟨hj, sm₇, hE₇⟩
  have s67 : Same [] σ₆ σ₇ := (((Same.refl [E] σ₆).new hE).trans sm₇).drop fun x hx => .inr (by rw [List.mem_singleton.mp hx]; exact hE)
  refine ⟨hj, trivial, fun v hv => ?_, fun hv ρ₈ hρ₈ => ?_⟩
  · simp only [It.at] at hv
    split at hv
    · rename_i hjl
      cases hv
      have e2 : (0 : Int) + (j : Int) * 1 = (j : Int) := by omega
      rw [e2]
      obtain ⟨x, hx⟩ : ∃ x, rs[j]? = some x := ⟨rs[j]'(by omega), List.getElem?_eq_getElem _⟩
      have hxn := hrs j x hx
      have rsn : (List.range (j + 1)).filter (fun m => @decide (Needs (premsOf (putRows l)) i m) (Classical.propDecidable _)) = (List.range j).filter (fun m => @decide (Needs (premsOf (putRows l)) i m) (Classical.propDecidable _)) ++ (if 0 < x then [j] else []) := by
        rw [List.range_succ, List.filter_append]
        congr 1
        by_cases q : Needs (premsOf (putRows l)) i j
        · rw [if_pos (hxn.mpr q)]; simp [q]
        · rw [if_neg (fun z => q (hxn.mp z))]; simp [q]
      have hfl : ((List.range j).filter fun m => @decide (Needs (premsOf (putRows l)) i m) (Classical.propDecidable _)).length ≤ j := Nat.le_trans (List.length_filter_le _ _) (by simp)
      refine Asg_Name (.inl rfl) (Ts_one (Ew_isCompare (Ew_Subscript (Ew_name (Fra.aside (hρ₇.at (compFra_at (Fra.set_self ..)))) (Ew_name (Fra.set_self ..) (subL (s67.at hr) (v := .int x) (by simp [hx]) (by rw [List.length_map]; omega) (Ew_int (O2_gt ⟨_, rfl, fun hb => Em_last (Ew_name (Fra.set_self ..) ⟨_, hE₇, by unfold vints; rw [List.length_map]; omega, hρ₇.set (.head _), hjl, sm₇.put (.head _), ?_⟩), fun hb => ⟨hρ₇.set (.head _), hjl, sm₇, ?_⟩⟩))))))))
      · rw [Store.set_self, rsn, if_pos (of_decide_eq_true hb)]
        simp [vints]
      · rw [hE₇, rsn, if_neg (of_decide_eq_false hb)]
        simp [vints]
    · cases hv
  have hj' : j = l.length := by
    simp only [It.at] at hv
    split at hv
    · cases hv
    · omega
  subst hj'
  rw [need_range ah hlt] at hE₇
  refine O2_neInts (s67.at zt₆) (ms := zints (need (premsOf (putRows l)) i)) (by rw [vints_eq]; exact hE₇) ⟨_, rfl, fun hb => by simp at hb, fun _ => Sx_nil ?_⟩
  have s37 := s36.trans s67
  clear hρ₈ hρ₇ hE₇ sm₇ hv hj
  obtain ⟨q, hq⟩ : ∃ q, l[i]? = some q := ⟨l[i], List.getElem?_eq_getElem hlt⟩
  have hPi : premsOf (putRows l) i = q.2 := prems_put hq
  have hqi := LS.ok.ah i q hq
  have hq3 := LS.few q (List.mem_of_getElem? hq)
  have hrow : (rowsV (l.map (·.2)))[i]? = some (.tup (vints q.2)) := rowsV_at (by rw [List.getElem?_map, hq]; rfl)
  refine Sx_cons (S1_AssignUsed rfl (cl := [("proof", L + 2)]) (by with_unfolding_all rfl) (ClOk.to ⟨rfl, trivial⟩) (Iw_val (Ew_Subscript (Ew_name (Fra.aside (Fra.aside (Fra.aside (hρ₃.at (Fra.set_self ..))))) (Ew_name (Fra.aside (Fra.aside (Fra.set_self ..))) (subL (s37.at hD₂) hrow (by omega) ⟨_, .tup, fun B LB hB => ?_⟩))))))
  refine Gw_loopL ["premise", "one"] rfl rfl turn_two0 (.inl ⟨⟨_, _, rfl⟩, fun _ z => by cases z⟩) (fun k σ₈ => k ≤ q.2.length ∧ Same [B] (σ₇.set B (.list [])) σ₈ ∧ ∃ bs, σ₈ B = some (.list (vints bs)) ∧ bs.length ≤ k * 10 ∧ ∀ x, x ∈ bs ↔ ∃ p ∈ q.2.take k, Needs (premsOf (putRows l)) p x)
    ⟨Nat.zero_le _, Same.refl _ _, [], Store.set_self .., by simp, by simp⟩ q.2.length ?_
  rintro k₈ ρ₈ σ₈ hρ₈ ⟨hk₈, sm₈, bs, hB₈, hbl, hbs⟩
  have s78 : Same [] σ₇ σ₈ := (((Same.refl [B] σ₇).new hB).trans sm₈).drop fun x hx => .inr (by rw [List.mem_singleton.mp hx]; exact hB)
  have s38 := s37.trans s78
  have LS₈ := LS₂.same (s38.mono (by simp)) (s38.at LS₂.keg)
  obtain ⟨e₈, p₈⟩ := LS₈.pf
  refine ⟨hk₈, trivial, fun v hv => ?_, fun hv ρ₉ hρ₉ => ?_⟩
  · simp only [It.at] at hv
    unfold vints at hv
    rw [List.getElem?_map, Option.map_eq_some_iff] at hv
    obtain ⟨pm, hpm, rfl⟩ := hv
    obtain ⟨hk', -⟩ := List.getElem?_eq_some_iff.mp hpm
    have hpi := hqi pm (List.mem_of_getElem? hpm)
    have np := need_length (premsOf (putRows l)) pm
    refine Asg_Name (.inl rfl) (Ts_nil ⟨fun _ => Em_next (Iw_val ?_), fun z => by cases z⟩)
    have hpf : ρ₃ ("proof" : Str) = some (.obj 213 dx) := hρ₃.at (Fra.aside (hρ.at rfl))
    refine Ew_CallN (Fra.aside (hρ₈.at (compFra_at (Fra.aside (Fra.aside (Fra.aside hpf)))))) p₈.dx rfl mth_needed keep_fn (Ew_item (v := .none) (Ew_name (Fra.set_self ..) ((needed_spec p₈ LS.ok.good (by omega) (by omega) fun na σ₉ hna sm₉ hn => ⟨_, .list hn, ?_⟩).cwle (by decide))))
    have Bna : B ≠ na := ne_of hB₈ hna
    refine Gw_loopL ["one"] rfl rfl turn_two1 (.inl ⟨⟨_, _, rfl⟩, fun _ z => by cases z⟩) (fun j σₐ => j ≤ (need (premsOf (putRows l)) pm).length ∧ Same [B] (σ₇.set B (.list [])) σₐ ∧ σₐ na = some (.list (vints (need (premsOf (putRows l)) pm))) ∧ σₐ B = some (.list (vints (bs ++ (need (premsOf (putRows l)) pm).take j))))
      ⟨Nat.zero_le _, sm₈.trans (sm₉.mono (by simp)), hn, by rw [List.take_zero, List.append_nil]; exact sm₉.at hB₈⟩ (need (premsOf (putRows l)) pm).length ?_
    rintro j ρₐ σₐ hρₐ ⟨hj, smₐ, hnₐ, hBₐ⟩
    refine ⟨hj, ⟨_, hnₐ⟩, fun v hv => ?_, fun hv ρᵦ hρᵦ => ?_⟩
    · simp only [It.at, lof_of hnₐ] at hv
      unfold vints at hv
      rw [List.getElem?_map, Option.map_eq_some_iff] at hv
      obtain ⟨x, hx, rfl⟩ := hv
      obtain ⟨hj', -⟩ := List.getElem?_eq_some_iff.mp hx
      refine Asg_Name (.inl rfl) (Ts_nil ⟨fun _ => Em_last (Ew_name (Fra.set_self ..) ⟨_, hBₐ, by unfold vints; rw [List.length_map, List.length_append, List.length_take]; omega, hρₐ.set (.head _), hj', smₐ.put (.head _), (Store.set_ne (Ne.symm Bna)).trans hnₐ, ?_⟩), fun z => by cases z⟩)
      rw [Store.set_self, List.take_add_one, hx]
      simp [vints]
    · have hj' : j = (need (premsOf (putRows l)) pm).length := by
        simp only [It.at, lof_of hnₐ] at hv
        unfold vints at hv
        rw [List.getElem?_map, Option.map_eq_none_iff, List.getElem?_eq_none_iff] at hv
        omega
      subst hj'
      rw [List.take_length] at hBₐ
      refine ⟨fun y hy => (hρᵦ y (fun z => hy (.tail _ z))).trans ((Fra.set_ne (fun z => hy (by rw [z]; exact .head _))).trans (hρ₈ y hy)), hk', smₐ, _, hBₐ, by rw [List.length_append]; omega, fun x => ?_⟩
      rw [List.mem_append, hbs, mem_need ah, List.take_add_one, hpm]
      simp only [Option.toList_some, List.mem_append, List.mem_singleton]
      constructor
      · rintro (⟨p, hp, hx⟩ | hx)
        · exact ⟨p, .inl hp, hx⟩
        · exact ⟨pm, .inr rfl, hx⟩
      · rintro ⟨p, hp | rfl, hx⟩
        · exact .inl ⟨p, hp, hx⟩
        · exact .inr hx
  have hk' : k₈ = q.2.length := by
    simp only [It.at] at hv
    unfold vints at hv
    rw [List.getElem?_map, Option.map_eq_none_iff, List.getElem?_eq_none_iff] at hv
    omega
  subst hk'
  rw [List.take_length] at hbs
  have zt₈ := (s67.trans s78).at zt₆
  refine Sx_cons (S1_If (Ew_isOr (Ew_or_cons (Ew_isCompare ?_))))
  refine Ew_sortedSet (EvF.bltK (by kernel_rfl) rfl) (EvF.bltK (by kernel_rfl) rfl) ?_
  refine Ew_BinOp (Ew_name (Fra.set_self ..) (Ew_List (Ew_items_cons (Ew_name (Fra.aside (Fra.aside (Fra.aside (Fra.set_self ..)))) (Ew_items_nil ⟨by simp, fun o1 ho1 => ?_⟩)))))
  have so1 : Same [] σ₈ (σ₈.set o1 (.list [.int i])) := (Same.refl _ _).new ho1
  refine O2_addList (so1.at hB₈) (Store.set_self ..) (by unfold vints; rw [List.length_map]; simp; omega) fun c hc => ?_
  have so2 := so1.new hc (o := .list (vints bs ++ [V.int i]))
  refine ⟨c, bs ++ [i], need (premsOf (putRows l)) i, rfl, by rw [Store.set_self]; simp [vints], by simp; omega, fun x hx => ?_, need_sorted _ _, fun x => ?_, fun T hT => ?_⟩
  · have : Needs (premsOf (putRows l)) i x := by
      rw [needs_first, hPi]
      rcases List.mem_append.mp hx with hx | hx
      · exact .inr ((hbs x).mp hx)
      · exact .inl (List.mem_singleton.mp hx)
    have := this.le ah
    omega
  · rw [mem_need ah, needs_first, hPi, List.mem_append, hbs, List.mem_singleton]
    exact Or.comm
  have so3 := so2.new hT (o := .list (vints (need (premsOf (putRows l)) i)))
  refine Ew_name (Fra.aside (Fra.aside (Fra.set_self ..))) (O2_neInts (ns := zints (need (premsOf (putRows l)) i)) (by rw [vints_eq]; exact Store.set_self ..) (so3.at zt₈) ⟨_, rfl, fun hb => by simp at hb, fun _ => ?_⟩)
  have s3f := s38.trans so3
  have LSf := LS₂.same (s3f.mono (by simp)) (s3f.at LS₂.keg)
  obtain ⟨ef, pf⟩ := LSf.pf
  refine Ew_or_cons (Ew_isNot (Ew_isBool (Ew_CallG (EvF.globK (by with_unfolding_all rfl)) keep_fn ?_)))
  refine Ew_items_cons (Ew_name (Fra.aside (Fra.aside (Fra.aside (Fra.aside (hρ₃.at (Fra.aside (hρ.at rfl))))))) (Ew_items_cons (Ew_name (Fra.aside (Fra.aside (Fra.set_self ..))) ?_)))
  refine Ew_items_cons (Ew_name (Fra.aside (Fra.aside (Fra.aside (Fra.aside (hρ₃.at (Fra.aside (hρ.at rfl))))))) (Ew_items_cons (Ew_name (Fra.aside (Fra.aside (Fra.aside (Fra.set_self ..)))) (Ew_items_nil ?_))))
  refine (alone_spec LSf.stp (by have z9 := so3.at zt₈; rw [vints_eq] at z9; exact z9) pf LS.ok hlt (by omega) fun σz smz => ⟨true, rfl, (fun z => by cases z), fun _ => Ew_or_nil ⟨(fun z => by cases z), fun _ => Sx_nil (Sx_nil ⟨?_, rfl, hlt, s3f.trans smz⟩)⟩⟩).cwle (by decide)
  exact (((hρ₃.set (.head _)).set (.tail _ (.head _))).set (.tail _ (.tail _ (.head _)))).set (.tail _ (.tail _ (.tail _ (.head _))))
end
end Mine

open PySem PySem.W PyProof.Rows PySem.Calls
set_option Elab.async false
set_option linter.all false
set_option maxRecDepth 100000
set_option maxHeartbeats 8000000
namespace Mine
theorem rep0 {prog : Program} {w : World} {g : Heap} {mg mb : Str → Option Value} (K : (HK w.params).In g) (G : g.Ns mainGlobals mg) (B : g.Ns builtinsNs mb) (N : g.NoLimit) (b : ∀ x : Str, x ≠ "__name__" → mb x = bootBuiltins x) : Rep (K2 prog w g mg mb) (fun _ => none) g :=
  ⟨⟨K, G, B, N, b⟩, fun _ _ e => e, fun _ _ e => (nomatch e), fun _ _ e => (nomatch e)⟩
theorem fin02 : PySem.Challenge.rw_qz0005_02.Holds := hd (by with_unfolding_all rfl) (by with_unfolding_all rfl) (by with_unfolding_all rfl) (by
  intro w s₀ s₁ mg mb G Y fa o pm cd doc dV kV ho hdd hcd hD hmg hg args vals as hpre hlay hrd hwl hlo
  have KX := kIn_of Y
  refine Ground.open G ?_
  intro T B D TE TW
  try (refine guard_noD D (by decide +kernel) ?_; clear D)
  have hfa : Value.ref fa = Value.ref 252 := Option.some.inj ((show mg _ = some (Value.ref fa) from hmg).symm.trans (mg_of KX (topRead_of T).g (by with_unfolding_all rfl)))
  wrow_args hpre hlay hrd hwl hlo
  all_goals (
    first | refine callC_kw (enter_call ?_) | refine enter_call ?_ | refine callC_kw (enter_callW ?_) | refine enter_callW ?_ | w_how
    w_top on
    try refine codeAny_mono ?_ (fun _ _ g => GoodW.toG g)
    have K0 := below_caller (Top.heap T)
    clear hdd hcd hD
    skip)
  rw [hfa]
  have TR := topRead_of T
  refine law_spec (g := s₁.heap) (mg := mg) (mb := mb) (w := w) (ws := ?_) (ns := ?_) (by assumption) (by assumption) (by omega) callerA _ s₁ _ ⟨rfl, by decide, by decide⟩ (rep0 KX TR.g TR.b TR.nolimit TR.builtins) (VRels.cons rfl VRels.nil) fun b σ' x h' tk q R' r st => ?_
  subst q
  have ex : x = .bool true := r
  subst ex
  refine ⟨.inl ⟨_, ofPy (.bool true), [], rfl, fun cls => rfl, ?_, ?_, ?_⟩, fun b o e => st.keep b o e rfl, rfl, hg⟩
  · first | exact .bool _ | exact .py (.bool _) | constructor
  · kernel_rfl
  · exact fun _ => ⟨List.nodup_nil, fun a h => nomatch h⟩)
end Mine
theorem PySem.Challenge.cw_qz0005_02_holds : PySem.Challenge.rw_qz0005_02.Holds :=
  Mine.fin02
