import PyProof.Rows.All
import Wide.All
import OpenK.AllK
import Wide.FinOn
import PyProof.AttrMissHeap
import PySem.Challenge.RW_qz0005_01
open PySem PySem.W PyProof.Rows
set_option Elab.async false
set_option linter.all false
set_option maxRecDepth 100000
namespace Mine

/-- abstract values -/
inductive V where
  | none
  | bool (b : Bool)
  | int (i : Int)
  | str (x : Str)
  | tup (vs : List V)
  | obj (C dx : Addr)
  | ref (a : Addr)
  | rng (lo hi st : Int)

/-- abstract mutable objects -/
inductive O where
  | list (vs : List V)
  | idict (kvs : List (Int × V))
  | sdict (kvs : List (Str × V))
  | ns (k : Nat) (f : Str → Option V)

abbrev Store := Addr → Option O
abbrev Fra := Str → Option V

mutual
def VRel (h : Heap) : V → Value → Prop
  | .none, w => w = .none
  | .bool b, w => w = .bool b
  | .int i, w => ∃ t, w = .int i t
  | .str x, w => ∃ t, w = .str x t
  | .tup vs, w => ∃ a n ws, w = .ref a ∧ h.get? a = some { cls := .type "tuple", data := .seq ws n } ∧ VRels h vs ws.toList
  | .obj C dx, w => ∃ a, w = .ref a ∧ h.get? a = some (instObj C dx)
  | .ref a, w => w = .ref a
  | .rng a b c, w => ∃ r t u v, w = .ref r ∧ IsRange h r a b c t u v
def VRels (h : Heap) : List V → List Value → Prop
  | [], ws => ws = []
  | v :: vs, ws => ∃ w ws', ws = w :: ws' ∧ VRel h v w ∧ VRels h vs ws'
end

/-- the objects that no step of the texts changes -/
def ImObj (o : Obj) : Prop := (o.cls = .type "tuple" ∧ ∃ xs n, o.data = .seq xs n) ∨ (o.cls = .type "range" ∧ ∃ vs, o.data = .fields vs) ∨ o.data = .plain
def KeepsIm (h h' : Heap) : Prop := ∀ b o, h.get? b = some o → ImObj o → h'.get? b = some o

mutual
theorem VRel.keep {h h' : Heap} (k : KeepsIm h h') : ∀ (v : V) (w : Value), VRel h v w → VRel h' v w
  | .none, _, x => x
  | .bool _, _, x => x
  | .int _, _, x => x
  | .str _, _, x => x
  | .tup vs, _, x => by
    obtain ⟨a, n, ws, e, ha, hr⟩ := x
    exact ⟨a, n, ws, e, k _ _ ha (.inl ⟨rfl, _, _, rfl⟩), VRels.keep k vs _ hr⟩
  | .obj C dx, _, x => by
    obtain ⟨a, e, ha⟩ := x
    exact ⟨a, e, k _ _ ha (.inr (.inr rfl))⟩
  | .ref _, _, x => x
  | .rng a b c, _, x => by
    obtain ⟨r, t, u, v, e, ha⟩ := x
    exact ⟨r, t, u, v, e, k _ _ ha (.inr (.inl ⟨rfl, _, rfl⟩))⟩
theorem VRels.keep {h h' : Heap} (k : KeepsIm h h') : ∀ (vs : List V) (ws : List Value), VRels h vs ws → VRels h' vs ws
  | [], _, x => x
  | v :: vs, _, x => by
    obtain ⟨w, ws', e, a, b⟩ := x
    exact ⟨w, ws', e, VRel.keep k v w a, VRels.keep k vs ws' b⟩
end

theorem VRels.nil {h : Heap} : VRels h [] [] := by simp [VRels]
theorem VRels.cons {h : Heap} {v : V} {w : Value} {vs : List V} {ws : List Value} (a : VRel h v w) (b : VRels h vs ws) : VRels h (v :: vs) (w :: ws) := ⟨w, ws, rfl, a, b⟩
theorem VRels.length {h : Heap} : ∀ {vs : List V} {ws : List Value}, VRels h vs ws → ws.length = vs.length
  | [], ws, x => by have e : ws = [] := x; subst e; rfl
  | v :: vs, ws, x => by
    obtain ⟨w, ws', rfl, _, b⟩ := x
    simp [VRels.length b]
theorem VRels.append {h : Heap} : ∀ {vs vs' : List V} {ws ws' : List Value}, VRels h vs ws → VRels h vs' ws' → VRels h (vs ++ vs') (ws ++ ws')
  | [], _, ws, _, x, y => by have e : ws = [] := x; subst e; exact y
  | v :: vs, _, ws, _, x, y => by
    obtain ⟨w, ws', rfl, a, b⟩ := x
    exact VRels.cons a (VRels.append b y)
theorem VRels.at {h : Heap} : ∀ {vs : List V} {ws : List Value} {i : Nat} {v : V}, VRels h vs ws → vs[i]? = some v → ∃ w, ws[i]? = some w ∧ VRel h v w
  | [], _, i, v, x, e => by simp at e
  | u :: vs, ws, 0, v, x, e => by
    obtain ⟨w, ws', rfl, a, b⟩ := x
    simp at e; subst e
    exact ⟨w, rfl, a⟩
  | u :: vs, ws, i + 1, v, x, e => by
    obtain ⟨w, ws', rfl, a, b⟩ := x
    simp only [List.getElem?_cons_succ] at e ⊢
    exact VRels.at b e
theorem VRels.none_at {h : Heap} {vs : List V} {ws : List Value} {i : Nat} (x : VRels h vs ws) (e : vs[i]? = none) : ws[i]? = none := by
  rw [List.getElem?_eq_none_iff] at e ⊢; rw [x.length]; exact e

def StrKeyed (es : List DictEntry) : Prop := ∀ e ∈ es, ∃ n t, e.key = .str n t
def getV (x : Str) (es : List DictEntry) : Option Value := (es.find? fun e => e.key.isStr x).map (·.val)

/-- an abstract object at an address -/
def ORel (prog : Program) (w : World) (h : Heap) (a : Addr) : O → Prop
  | .list vs => ∃ ws, h.PlainList a ws ∧ VRels h vs ws.toList
  | .idict kvs => ∃ cvs : List (Int × Value), h.DictOf (intKind prog w) a cvs ∧ cvs.map (·.1) = kvs.map (·.1) ∧ VRels h (kvs.map (·.2)) (cvs.map (·.2))
  | .sdict kvs => ∃ cvs : List (Str × Value), h.DictOf (strKind prog w) a cvs ∧ cvs.map (·.1) = kvs.map (·.1) ∧ VRels h (kvs.map (·.2)) (cvs.map (·.2))
  | .ns k f => ∃ es n, h.get? a = some (dictOf es n) ∧ es.length ≤ k ∧ StrKeyed es ∧ ∀ x, (∀ v, f x = some v → ∃ w, getV x es = some w ∧ VRel h v w) ∧ (f x = none → getV x es = none)

theorem notIm_list {o : Obj} {xs n} (c : o.cls = .type "list") (d : o.data = .seq xs n) : ¬ ImObj o := by
  rintro (⟨h, _⟩ | ⟨_, vs, h⟩ | h)
  · rw [c] at h; injection h with h; exact absurd h (by decide)
  · rw [d] at h; cases h
  · rw [d] at h; cases h
theorem notIm_dict {o : Obj} {xs n} (d : o.data = .dict xs n) : ¬ ImObj o := by
  rintro (⟨_, xs', n', h⟩ | ⟨_, vs, h⟩ | h) <;> (rw [d] at h; cases h)
theorem notIm_cell {o : Obj} {v} (d : o.data = .cell v) : ¬ ImObj o := by
  rintro (⟨_, xs', n', h⟩ | ⟨_, vs, h⟩ | h) <;> (rw [d] at h; cases h)
theorem notIm_iter {o : Obj} {vs : Array Value} (d : o.data = .fields vs) (c : o.cls ≠ .type "range") : ¬ ImObj o := by
  rintro (⟨_, xs', n', h⟩ | ⟨h, _⟩ | h)
  · rw [d] at h; cases h
  · exact c h
  · rw [d] at h; cases h
theorem ORel.cls {prog w h a o} (x : ORel prog w h a o) : ∃ co, h.get? a = some co ∧ ¬ ImObj co := by
  cases o with
  | list vs => obtain ⟨ws, ⟨n, e⟩, _⟩ := x; exact ⟨_, e, notIm_list rfl rfl⟩
  | idict kvs => obtain ⟨cvs, ⟨o, es, ep, e, hx, hd, _⟩, _⟩ := x; exact ⟨_, e, notIm_dict hd⟩
  | sdict kvs => obtain ⟨cvs, ⟨o, es, ep, e, hx, hd, _⟩, _⟩ := x; exact ⟨_, e, notIm_dict hd⟩
  | ns k f => obtain ⟨es, n, e, _⟩ := x; exact ⟨_, e, notIm_dict rfl⟩

theorem ORel.keep {prog w} {h h' : Heap} {a o} (k : KeepsIm h h') (ka : ∀ co, h.get? a = some co → h'.get? a = some co) (x : ORel prog w h a o) : ORel prog w h' a o := by
  cases o with
  | list vs => obtain ⟨ws, e, r⟩ := x; exact ⟨ws, e.at ka, VRels.keep k _ _ r⟩
  | idict kvs => obtain ⟨cvs, ⟨o, es, ep, e, q⟩, e2, r⟩ := x; exact ⟨cvs, ⟨o, es, ep, ka _ e, q⟩, e2, VRels.keep k _ _ r⟩
  | sdict kvs => obtain ⟨cvs, ⟨o, es, ep, e, q⟩, e2, r⟩ := x; exact ⟨cvs, ⟨o, es, ep, ka _ e, q⟩, e2, VRels.keep k _ _ r⟩
  | ns _ f =>
    obtain ⟨es, n, e', q1, q2, r⟩ := x
    exact ⟨es, n, ka _ e', q1, q2, fun x => ⟨fun v hv => let ⟨w, a, b⟩ := (r x).1 v hv; ⟨w, a, VRel.keep k _ _ b⟩, (r x).2⟩⟩

/-- the ground: the world, the program, the heap as the law was called, its written part -/
structure Cx where
  prog : Program
  w : World
  g : Heap
  K : Frag
  mg : Str → Option Value
  mb : Str → Option Value

structure Cx.Ok (C : Cx) : Prop where
  k : C.K.In C.g
  gl : C.g.Ns mainGlobals C.mg
  bl : C.g.Ns builtinsNs C.mb
  nolimit : C.g.NoLimit
  boot : ∀ x : Str, x ≠ "__name__" → C.mb x = bootBuiltins x

abbrev Cx.M (C : Cx) : Model := model C.prog C.w

structure Rep (C : Cx) (σ : Store) (h : Heap) : Prop where
  ok : C.Ok
  base : ∀ b o, C.g.get? b = some o → h.get? b = some o
  off : ∀ a o, σ a = some o → C.g.get? a = none ∧ (a == sysModules) = false
  objs : ∀ a o, σ a = some o → ORel C.prog C.w h a o

def Keeps (σ : Store) (h h' : Heap) : Prop := ∀ b o, h.get? b = some o → σ b = none → h'.get? b = some o
def Fresh (σ σ' : Store) (h : Heap) : Prop := ∀ a o, σ' a = some o → (∃ o', σ a = some o') ∨ h.get? a = none

def Live (h h' : Heap) : Prop := ∀ b o, h.get? b = some o → ∃ o', h'.get? b = some o'
structure Stp (σ σ' : Store) (h h' : Heap) : Prop where
  keep : Keeps σ h h'
  fresh : Fresh σ σ' h
  live : Live h h'

theorem Stp.refl (σ : Store) (h : Heap) : Stp σ σ h h := ⟨fun _ _ e _ => e, fun _ o e => .inl ⟨o, e⟩, fun _ o e => ⟨o, e⟩⟩
theorem Stp.trans {σ₁ σ₂ σ₃ : Store} {h₁ h₂ h₃ : Heap} (x : Stp σ₁ σ₂ h₁ h₂) (y : Stp σ₂ σ₃ h₂ h₃) : Stp σ₁ σ₃ h₁ h₃ where
  keep := fun b o e n => y.keep b o (x.keep b o e n) (by
    cases q : σ₂ b with
    | none => rfl
    | some o' => rcases x.fresh b o' q with ⟨o'', z⟩ | z
                 · rw [n] at z; cases z
                 · rw [e] at z; cases z)
  fresh := fun a o e => by
    rcases y.fresh a o e with ⟨o', z⟩ | z
    · exact x.fresh a o' z
    · cases q : h₁.get? a with
      | none => exact .inr rfl
      | some o' => obtain ⟨o2, z2⟩ := x.live a o' q; rw [z] at z2; cases z2
  live := fun b o e => let ⟨o', e'⟩ := x.live b o e; y.live b o' e'

theorem Rep.im {C : Cx} {σ : Store} {h h' : Heap} (R : Rep C σ h) (k : Keeps σ h h') : KeepsIm h h' := fun b o e im => k b o e (by
  cases q : σ b with
  | none => rfl
  | some o' =>
    obtain ⟨co, e', c⟩ := (R.objs b o' q).cls
    rw [e] at e'; cases e'
    exact absurd im c)

theorem Rep.val {C : Cx} {σ : Store} {h h' : Heap} (R : Rep C σ h) (k : Keeps σ h h') {v : V} {w : Value} (x : VRel h v w) : VRel h' v w := VRel.keep (R.im k) _ _ x
theorem Rep.vals {C : Cx} {σ : Store} {h h' : Heap} (R : Rep C σ h) (k : Keeps σ h h') {v : List V} {w : List Value} (x : VRels h v w) : VRels h' v w := VRels.keep (R.im k) _ _ x

/-- the frame -/
structure FrameRep (C : Cx) (env : Env) (ρ : Fra) (σ : Store) (h : Heap) : Prop where
  kind : env.scope.kind = .function
  glob : env.globals = mainGlobals
  blt : env.builtins = builtinsNs
  above : C.g.get? env.locals = none
  off : σ env.locals = none
  ns : ∃ m, h.Ns env.locals m ∧ ∀ x v, ρ x = some v → env.kindOf x = some .local → ∃ w, m x = some w ∧ VRel h v w
  cell : ∀ x v, ρ x = some v → env.kindOf x ≠ some .local → (env.kindOf x = some .cell ∨ env.kindOf x = some .free) ∧ (x == ("__classdict__" : Str)) = false ∧ ∃ c w, env.cells.lookup x = some c ∧ h.IsCell c (some w) ∧ VRel h v w
  cells : ∀ x c, env.cells.lookup x = some c → σ c = none ∧ C.g.get? c = none ∧ c ≠ env.locals ∧ ∃ v, h.IsCell c v
  apart : ∀ x y c, env.cells.lookup x = some c → env.cells.lookup y = some c → x = y

theorem FrameRep.keep {C : Cx} {env : Env} {ρ : Fra} {σ σ' : Store} {h h' : Heap} (F : FrameRep C env ρ σ h) (R : Rep C σ h) (s : Stp σ σ' h h') : FrameRep C env ρ σ' h' := by
  have nof : ∀ a o, h.get? a = some o → σ a = none → σ' a = none := fun a o e n => by
    cases q : σ' a with
    | none => rfl
    | some o' => rcases s.fresh a o' q with ⟨_, z⟩ | z
                 · rw [n] at z; cases z
                 · rw [e] at z; cases z
  obtain ⟨m, hn, hm⟩ := F.ns
  obtain ⟨oL, es, ep, hL, hr⟩ := id hn
  refine ⟨F.kind, F.glob, F.blt, F.above, nof _ _ hL F.off, ⟨m, ⟨oL, es, ep, s.keep _ _ hL F.off, hr⟩, fun x v e k => ?_⟩, fun x v e k => ?_, fun x c e => ?_, F.apart⟩
  · obtain ⟨w, a, b⟩ := hm x v e k
    exact ⟨w, a, R.val s.keep b⟩
  · obtain ⟨a, a', c, w, b1, ⟨oc, b2, b2'⟩, b3⟩ := F.cell x v e k
    exact ⟨a, a', c, w, b1, ⟨oc, s.keep _ _ b2 (F.cells x c b1).1, b2'⟩, R.val s.keep b3⟩
  · obtain ⟨a, b0, b, v, oc, c1, c2⟩ := F.cells x c e
    exact ⟨nof _ _ c1 a, b0, b, v, oc, s.keep _ _ c1 a, c2⟩

theorem Rep.kin {C : Cx} {σ : Store} {h : Heap} (R : Rep C σ h) : C.K.In h := R.ok.k.keeps R.base

/-- room for d nested calls -/
structure Room (d : Nat) (A : Around) : Prop where
  hh : A.handled = none
  depth : A.depth + d ≤ 900
  units : A.units + 8 * d ≤ 8000
theorem Room.le {d d' : Nat} {A : Around} (x : Room d A) (h : d' ≤ d) : Room d' A := ⟨x.hh, Nat.le_trans (Nat.add_le_add_left h _) x.depth, Nat.le_trans (Nat.add_le_add_left (Nat.mul_le_mul_left _ h) _) x.units⟩
theorem Room.in1 {d : Nat} {A : Around} (x : Room (d + 1) A) : Room d A.in1 := ⟨x.hh, by have := x.depth; show A.depth + d ≤ 900; omega, by have := x.units; show A.units + 1 + 8 * d ≤ 8000; omega⟩
theorem Room.deeper {d : Nat} {A : Around} (x : Room (d + 1) A) (env : Env) : Room d (A.deeper env) := ⟨x.hh, by have := x.depth; show A.depth + 1 + d ≤ 900; omega, by have := x.units; show A.units + 3 + 8 * d ≤ 8000; omega⟩

/-- what an expression's tree does, at every state that the abstract one stands for -/
def Ew {α β : Type} (C : Cx) (d : Nat) (env : Env) (ρ : Fra) (R : Heap → β → α → Prop) (t : Sem α) (Q : β → Store → Prop) (σ : Store) : Prop :=
  ∀ (A : Around) (E : Value → Shared → Prop) (s : Shared) (Qc : α → Shared → Prop), Room d A → Rep C σ s.heap → FrameRep C env ρ σ s.heap →
    (∀ b σ' x h' tk, Q b σ' → Rep C σ' h' → R h' b x → Stp σ σ' s.heap h' → Qc x { s with heap := h', toks := tk }) → wpAny C.M A t Qc E s

/-- an operation on values that stands apart from the frame -/
def Ow {α β : Type} (C : Cx) (d : Nat) (R : Heap → β → α → Prop) (vs : List V) (t : List Value → Sem α) (Q : β → Store → Prop) (σ : Store) : Prop :=
  ∀ (A : Around) (E : Value → Shared → Prop) (s : Shared) (Qc : α → Shared → Prop) (ws : List Value), Room d A → Rep C σ s.heap → VRels s.heap vs ws →
    (∀ b σ' x h' tk, Q b σ' → Rep C σ' h' → R h' b x → Stp σ σ' s.heap h' → Qc x { s with heap := h', toks := tk }) → wpAny C.M A (t ws) Qc E s

def BRel (_ : Heap) (b : Bool) (x : Bool) : Prop := x = b

def KeepsF (env : Env) (σ : Store) (h h' : Heap) : Prop := ∀ b o, h.get? b = some o → σ b = none → b ≠ env.locals → (env.func.isSome = true → ∀ x, env.cells.lookup x ≠ some b) → h'.get? b = some o
structure StpF (env : Env) (σ σ' : Store) (h h' : Heap) : Prop where
  keep : KeepsF env σ h h'
  fresh : Fresh σ σ' h
  live : Live h h'

theorem Stp.toF {env : Env} {σ σ' : Store} {h h' : Heap} (x : Stp σ σ' h h') : StpF env σ σ' h h' := ⟨fun b o e n _ _ => x.keep b o e n, x.fresh, x.live⟩

theorem Fresh.none {σ σ' : Store} {h : Heap} (x : Fresh σ σ' h) {b : Addr} {o : Obj} (e : h.get? b = some o) (n : σ b = none) : σ' b = none := by
  cases q : σ' b with
  | none => rfl
  | some o' =>
    rcases x b o' q with ⟨o'', z⟩ | z
    · rw [n] at z; cases z
    · rw [e] at z; cases z

theorem StpF.trans {env : Env} {σ₁ σ₂ σ₃ : Store} {h₁ h₂ h₃ : Heap} (x : StpF env σ₁ σ₂ h₁ h₂) (y : StpF env σ₂ σ₃ h₂ h₃) : StpF env σ₁ σ₃ h₁ h₃ where
  keep := fun b o e n n1 n2 => y.keep b o (x.keep b o e n n1 n2) (x.fresh.none e n) n1 n2
  fresh := fun a o e => by
    rcases y.fresh a o e with ⟨o', z⟩ | z
    · exact x.fresh a o' z
    · cases q : h₁.get? a with
      | none => exact .inr rfl
      | some o' => obtain ⟨o2, z2⟩ := x.live a o' q; rw [z] at z2; cases z2
  live := fun b o e => let ⟨o', e'⟩ := x.live b o e; y.live b o' e'

/-- what a statement's tree does -/
def Sw {α β : Type} (C : Cx) (d : Nat) (env : Env) (R : Heap → β → α → Prop) (t : Sem α) (Q : β → Fra → Store → Prop) (ρ : Fra) (σ : Store) : Prop :=
  ∀ (A : Around) (E : Value → Shared → Prop) (s : Shared) (Qc : α → Shared → Prop), Room d A → Rep C σ s.heap → FrameRep C env ρ σ s.heap →
    (∀ b ρ' σ' x h' tk, Q b ρ' σ' → Rep C σ' h' → FrameRep C env ρ' σ' h' → R h' b x → StpF env σ σ' s.heap h' → Qc x { s with heap := h', toks := tk }) → wpAny C.M A t Qc E s
end Mine

open PySem PySem.W PyProof.Rows
set_option Elab.async false
set_option linter.all false
set_option maxRecDepth 100000
namespace Mine
section
variable {C : Cx} {d : Nat} {env : Env} {ρ : Fra} {σ : Store}

def Ow1 {α β : Type} (C : Cx) (d : Nat) (R : Heap → β → α → Prop) (v : V) (t : Value → Sem α) (Q : β → Store → Prop) (σ : Store) : Prop :=
  ∀ (A : Around) (E : Value → Shared → Prop) (s : Shared) (Qc : α → Shared → Prop) (w : Value), Room d A → Rep C σ s.heap → VRel s.heap v w →
    (∀ b σ' x h' tk, Q b σ' → Rep C σ' h' → R h' b x → Stp σ σ' s.heap h' → Qc x { s with heap := h', toks := tk }) → wpAny C.M A (t w) Qc E s
def Ow2 {α β : Type} (C : Cx) (d : Nat) (R : Heap → β → α → Prop) (u v : V) (t : Value → Value → Sem α) (Q : β → Store → Prop) (σ : Store) : Prop :=
  ∀ (A : Around) (E : Value → Shared → Prop) (s : Shared) (Qc : α → Shared → Prop) (y w : Value), Room d A → Rep C σ s.heap → VRel s.heap u y → VRel s.heap v w →
    (∀ b σ' x h' tk, Q b σ' → Rep C σ' h' → R h' b x → Stp σ σ' s.heap h' → Qc x { s with heap := h', toks := tk }) → wpAny C.M A (t y w) Qc E s

theorem Ew.mono {α β : Type} {R : Heap → β → α → Prop} {t : Sem α} {Q Q' : β → Store → Prop} (h : Ew C d env ρ R t Q σ) (k : ∀ b σ', Q b σ' → Q' b σ') : Ew C d env ρ R t Q' σ :=
  fun A E s Qc rm Rp F hq => h A E s Qc rm Rp F fun b σ' x h' tk q => hq b σ' x h' tk (k b σ' q)
theorem Ow1.mono {α β : Type} {R : Heap → β → α → Prop} {v : V} {t : Value → Sem α} {Q Q' : β → Store → Prop} (h : Ow1 C d R v t Q σ) (k : ∀ b σ', Q b σ' → Q' b σ') : Ow1 C d R v t Q' σ :=
  fun A E s Qc w rm Rp x hq => h A E s Qc w rm Rp x fun b σ' x h' tk q => hq b σ' x h' tk (k b σ' q)
theorem Ow2.mono {α β : Type} {R : Heap → β → α → Prop} {u v : V} {t : Value → Value → Sem α} {Q Q' : β → Store → Prop} (h : Ow2 C d R u v t Q σ) (k : ∀ b σ', Q b σ' → Q' b σ') : Ow2 C d R u v t Q' σ :=
  fun A E s Qc y w rm Rp x z hq => h A E s Qc y w rm Rp x z fun b σ' x h' tk q => hq b σ' x h' tk (k b σ' q)

/-! constants, names -/
theorem Ew_int {i : Int} {k pos} {Q : V → Store → Prop} (h : Q (.int i) σ) : Ew C d env ρ VRel (eval (.Constant (.int i) k pos) env) Q σ :=
  fun A E s Qc rm Rp F hq => wpAny_Constant_int (hq _ _ _ s.heap _ h Rp ⟨_, rfl⟩ (Stp.refl ..))
theorem Ew_str {x : Str} {k pos} {Q : V → Store → Prop} (h : Q (.str x) σ) : Ew C d env ρ VRel (eval (.Constant (.str x) k pos) env) Q σ :=
  fun A E s Qc rm Rp F hq => wpAny_Constant_str (hq _ _ _ s.heap _ h Rp ⟨_, rfl⟩ (Stp.refl ..))
theorem Ew_bool {b : Bool} {k pos} {Q : V → Store → Prop} (h : Q (.bool b) σ) : Ew C d env ρ VRel (eval (.Constant (.bool b) k pos) env) Q σ :=
  fun A E s Qc rm Rp F hq => wpAny_Constant_bool (hq _ _ _ s.heap s.toks h Rp rfl (Stp.refl ..))
theorem Ew_none {k pos} {Q : V → Store → Prop} (h : Q .none σ) : Ew C d env ρ VRel (eval (.Constant .none k pos) env) Q σ :=
  fun A E s Qc rm Rp F hq => wpAny_Constant_none (hq _ _ _ s.heap s.toks h Rp rfl (Stp.refl ..))

theorem wp_name {A : Around} {E : Value → Shared → Prop} {s : Shared} {x : Str} {v : V} {Q : Value → Shared → Prop} (F : FrameRep C env ρ σ s.heap) (e : ρ x = some v)
    (h : ∀ w, VRel s.heap v w → Q w s) : wpAny C.M A (loadName env x) Q E s := by
  by_cases hl : env.kindOf x = some .local
  · obtain ⟨m, hn, hm⟩ := F.ns
    obtain ⟨w, a, b⟩ := hm x v e hl
    exact wpAny_loadName_local F.kind hl hn a (h w b)
  · obtain ⟨hk, hd, c, w, a, b, r⟩ := F.cell x v e hl
    rcases hk with hk | hk
    · exact wpAny_loadName_cell F.kind hk a b (h w r)
    · exact wpAny_loadName_free F.kind hk a b (h w r) hd

theorem Ew_name {x : Str} {pos} {v : V} {Q : V → Store → Prop} (e : ρ x = some v) (h : Q v σ) (hd : (x == ("__debug__" : Str)) = false := by decide) :
    Ew C d env ρ VRel (eval (.Name x pos) env) Q σ :=
  fun A E s Qc rm Rp F hq => wpAny_Name (wp_name F e fun w r => hq _ _ _ s.heap s.toks h Rp r (Stp.refl ..)) hd

theorem wp_glob {A : Around} {E : Value → Shared → Prop} {s : Shared} {x : Str} {pos} {w : Value} {Q : Value → Shared → Prop} (Rp : Rep C σ s.heap) (F : FrameRep C env ρ σ s.heap)
    (hx : env.kindOf x = some .globalImplicit) (e : C.mg x = some w) (h : Q w s) (hd : (x == ("__debug__" : Str)) = false := by decide) : wpAny C.M A (eval (.Name x pos) env) Q E s :=
  Calls.Name_function_global F.kind hx (Calls.loadGlobal_global (by rw [F.glob]; exact Rp.ok.gl.keeps Rp.base) e h) hd
theorem wp_blt {A : Around} {E : Value → Shared → Prop} {s : Shared} {x : Str} {pos} {w : Value} {Q : Value → Shared → Prop} (Rp : Rep C σ s.heap) (F : FrameRep C env ρ σ s.heap)
    (hx : env.kindOf x = some .globalImplicit) (e : C.mg x = none) (hb : bootBuiltins x = some w) (hn : x ≠ "__name__") (h : Q w s) (hd : (x == ("__debug__" : Str)) = false := by decide) : wpAny C.M A (eval (.Name x pos) env) Q E s :=
  Calls.Name_function_global F.kind hx (Calls.loadGlobal_builtin (by rw [F.glob]; exact Rp.ok.gl.keeps Rp.base) e (by rw [F.blt]; exact Rp.ok.bl.keeps Rp.base) ((Rp.ok.boot x hn).trans hb) h) hd

/-- a module constant -/
theorem Ew_glob {x : Str} {pos} {v : V} {w : Value} {Q : V → Store → Prop} (hx : env.kindOf x = some .globalImplicit) (e : C.mg x = some w) (r : VRel C.g v w) (h : Q v σ) (hd : (x == ("__debug__" : Str)) = false := by decide) :
    Ew C d env ρ VRel (eval (.Name x pos) env) Q σ :=
  fun A E s Qc rm Rp F hq => wp_glob Rp F hx e (hq _ _ _ s.heap s.toks h Rp (VRel.keep (fun b o q _ => Rp.base b o q) _ _ r) (Stp.refl ..)) hd

/-! nodes -/
theorem Ew_BinOp {l r : Expr} {op : Operator} {pos} {Q : V → Store → Prop}
    (h : Ew C d env ρ VRel (eval l env) (fun u σ₁ => Ew C d env ρ VRel (eval r env) (fun v σ₂ => Ow2 C d VRel u v (binaryOp op) Q σ₂) σ₁) σ) :
    Ew C d env ρ VRel (eval (.BinOp l op r pos) env) Q σ :=
  fun A E s Qc rm Rp F hq => wpAny_BinOp (h A E s _ rm Rp F fun u σ₁ x h₁ k₁ q₁ R₁ r₁ s₁ => q₁ A E _ _ rm R₁ (F.keep Rp s₁) fun v σ₂ y h₂ k₂ q₂ R₂ r₂ s₂ =>
    q₂ A E _ _ x y rm R₂ (R₁.val s₂.keep r₁) r₂ fun b σ' z h' tk qb R' rb s' => hq b σ' z h' tk qb R' rb ((s₁.trans s₂).trans s'))

theorem Ew_Compare {l r : Expr} {op : CmpOp} {pos} {Q : V → Store → Prop}
    (h : Ew C d env ρ VRel (eval l env) (fun u σ₁ => Ew C d env ρ VRel (eval r env) (fun v σ₂ => Ow2 C d VRel u v (compareOp op) Q σ₂) σ₁) σ)
    (hm : behindInMarks op r = false := by with_unfolding_all rfl) :
    Ew C d env ρ VRel (eval (.Compare l [op] [r] pos) env) Q σ :=
  fun A E s Qc rm Rp F hq => wpAny_Compare1 (h A E s _ rm Rp F fun u σ₁ x h₁ k₁ q₁ R₁ r₁ s₁ => q₁ A E _ _ rm R₁ (F.keep Rp s₁) fun v σ₂ y h₂ k₂ q₂ R₂ r₂ s₂ =>
    q₂ A E _ _ x y rm R₂ (R₁.val s₂.keep r₁) r₂ fun b σ' z h' tk qb R' rb s' => hq b σ' z h' tk qb R' rb ((s₁.trans s₂).trans s')) hm

/-- a comparison whose answer is a bool b -/
theorem Ew_isCompare {l r : Expr} {op : CmpOp} {pos whole} {Q : Bool → Store → Prop}
    (h : Ew C d env ρ VRel (eval l env) (fun u σ₁ => Ew C d env ρ VRel (eval r env) (fun v σ₂ => Ow2 C d VRel u v (compareOp op) (fun c σ₃ => ∃ b, c = .bool b ∧ Q b σ₃) σ₂) σ₁) σ)
    (hm : behindInMarks op r = false := by with_unfolding_all rfl) :
    Ew C d env ρ BRel (isTrue (.Compare l [op] [r] pos) env whole) Q σ :=
  fun A E s Qc rm Rp F hq => wpAny_isTrue_Compare1 (h A E s _ rm Rp F fun u σ₁ x h₁ k₁ q₁ R₁ r₁ s₁ => q₁ A E _ _ rm R₁ (F.keep Rp s₁) fun v σ₂ y h₂ k₂ q₂ R₂ r₂ s₂ =>
    q₂ A E _ _ x y rm R₂ (R₁.val s₂.keep r₁) r₂ fun b σ' z h' tk qb R' rb s' => by
      obtain ⟨c, rfl, qc⟩ := qb
      have e : z = .bool c := rb
      subst e
      exact wpAny_truthy_bool (hq c σ' c h' tk qc R' rfl ((s₁.trans s₂).trans s'))) hm

theorem Ew_isNot {x : Expr} {pos whole} {Q : Bool → Store → Prop} (h : Ew C d env ρ BRel (isTrue x env (eval x env)) (fun b σ₁ => Q (!b) σ₁) σ) :
    Ew C d env ρ BRel (isTrue (.UnaryOp .Not x pos) env whole) Q σ :=
  fun A E s Qc rm Rp F hq => wpAny_isTrue_Not (h A E s _ rm Rp F fun b σ₁ x h₁ k₁ q₁ R₁ r₁ s₁ => by
    have e : x = b := r₁
    subst e
    exact hq _ _ _ _ _ q₁ R₁ rfl s₁)

theorem Ew_isBool {e : Expr} {whole : Sem Value} {Q : Bool → Store → Prop} (h : Ew C d env ρ VRel whole (fun v σ₁ => ∃ b, v = .bool b ∧ Q b σ₁) σ)
    (he : isTrue e env whole = (do let v ← whole; standAt e.pos; holding [v] (truthy v)) := by rfl) : Ew C d env ρ BRel (isTrue e env whole) Q σ :=
  fun A E s Qc rm Rp F hq => wpAny_isTrue_value (h A E s _ rm Rp F fun v σ₁ x h₁ k₁ q₁ R₁ r₁ s₁ => by
    obtain ⟨c, rfl, qc⟩ := q₁
    have e : x = .bool c := r₁
    subst e
    exact wpAny_truthy_bool (hq _ _ _ _ _ qc R₁ rfl s₁)) he

theorem Ew_isAnd {values : List Expr} {pos whole} {Q : Bool → Store → Prop} (h : Ew C d env ρ BRel (allTrue .And values env) Q σ) :
    Ew C d env ρ BRel (isTrue (.BoolOp .And values pos) env whole) Q σ := fun A E s Qc rm Rp F hq => wpAny_isTrue_BoolOp (h A E s Qc rm Rp F hq)
theorem Ew_isOr {values : List Expr} {pos whole} {Q : Bool → Store → Prop} (h : Ew C d env ρ BRel (allTrue .Or values env) Q σ) :
    Ew C d env ρ BRel (isTrue (.BoolOp .Or values pos) env whole) Q σ := fun A E s Qc rm Rp F hq => wpAny_isTrue_BoolOp (h A E s Qc rm Rp F hq)
theorem Ew_and_nil {Q : Bool → Store → Prop} (h : Q true σ) : Ew C d env ρ BRel (allTrue .And [] env) Q σ := fun A E s Qc rm Rp F hq => wpAny_allTrue_And_nil (hq _ _ _ s.heap s.toks h Rp rfl (Stp.refl ..))
theorem Ew_or_nil {Q : Bool → Store → Prop} (h : Q false σ) : Ew C d env ρ BRel (allTrue .Or [] env) Q σ := fun A E s Qc rm Rp F hq => wpAny_allTrue_Or_nil (hq _ _ _ s.heap s.toks h Rp rfl (Stp.refl ..))
theorem Ew_and_cons {x : Expr} {rest : List Expr} {Q : Bool → Store → Prop}
    (h : Ew C d env ρ BRel (isTrue x env (eval x env)) (fun b σ₁ => (b = true → Ew C d env ρ BRel (allTrue .And rest env) Q σ₁) ∧ (b = false → Q false σ₁)) σ) :
    Ew C d env ρ BRel (allTrue .And (x :: rest) env) Q σ :=
  fun A E s Qc rm Rp F hq => wpAny_allTrue_And_cons (h A E s _ rm Rp F fun b σ₁ x h₁ k₁ q₁ R₁ r₁ s₁ => by
    have e : x = b := r₁
    subst e
    cases x with
    | true => exact q₁.1 rfl A E _ _ rm R₁ (F.keep Rp s₁) fun b σ' z h' tk qb R' rb s' => hq b σ' z h' tk qb R' rb (s₁.trans s')
    | false => exact hq _ _ _ _ _ (q₁.2 rfl) R₁ rfl s₁)
theorem Ew_or_cons {x : Expr} {rest : List Expr} {Q : Bool → Store → Prop}
    (h : Ew C d env ρ BRel (isTrue x env (eval x env)) (fun b σ₁ => (b = true → Q true σ₁) ∧ (b = false → Ew C d env ρ BRel (allTrue .Or rest env) Q σ₁)) σ) :
    Ew C d env ρ BRel (allTrue .Or (x :: rest) env) Q σ :=
  fun A E s Qc rm Rp F hq => wpAny_allTrue_Or_cons (h A E s _ rm Rp F fun b σ₁ x h₁ k₁ q₁ R₁ r₁ s₁ => by
    have e : x = b := r₁
    subst e
    cases x with
    | true => exact hq _ _ _ _ _ (q₁.1 rfl) R₁ rfl s₁
    | false => exact q₁.2 rfl A E _ _ rm R₁ (F.keep Rp s₁) fun b σ' z h' tk qb R' rb s' => hq b σ' z h' tk qb R' rb (s₁.trans s'))

/-- `x and y`, both bools -/
theorem Ew_And2 {x y : Expr} {pos} {Q : V → Store → Prop}
    (h : Ew C d env ρ VRel (eval x env) (fun v σ₁ => ∃ b, v = .bool b ∧ (b = true → Ew C d env ρ VRel (eval y env) Q σ₁) ∧ (b = false → Q (.bool false) σ₁)) σ) :
    Ew C d env ρ VRel (eval (.BoolOp .And [x, y] pos) env) Q σ :=
  fun A E s Qc rm Rp F hq => wpAny_And2 (h A E s _ rm Rp F fun v σ₁ x h₁ k₁ q₁ R₁ r₁ s₁ => by
    obtain ⟨b, rfl, qt, qf⟩ := q₁
    have e : x = .bool b := r₁
    subst e
    refine wpAny_truthy_bool ?_
    cases b with
    | true => exact qt rfl A E _ _ rm R₁ (F.keep Rp s₁) fun b σ' z h' tk qb R' rb s' => hq b σ' z h' tk qb R' rb (s₁.trans s')
    | false => exact hq _ _ _ _ _ (qf rfl) R₁ rfl s₁)

theorem Ew_IfExp {test body orelse : Expr} {pos} {Q : V → Store → Prop}
    (h : Ew C d env ρ BRel (isTrue test env (eval test env)) (fun b σ₁ => (b = true → Ew C d env ρ VRel (eval body env) Q σ₁) ∧ (b = false → Ew C d env ρ VRel (eval orelse env) Q σ₁)) σ) :
    Ew C d env ρ VRel (eval (.IfExp test body orelse pos) env) Q σ :=
  fun A E s Qc rm Rp F hq => wpAny_IfExp (h A E s _ rm Rp F fun b σ₁ x h₁ k₁ q₁ R₁ r₁ s₁ => by
    have e : x = b := r₁
    subst e
    cases x with
    | true => exact q₁.1 rfl A E _ _ rm R₁ (F.keep Rp s₁) fun b σ' z h' tk qb R' rb s' => hq b σ' z h' tk qb R' rb (s₁.trans s')
    | false => exact q₁.2 rfl A E _ _ rm R₁ (F.keep Rp s₁) fun b σ' z h' tk qb R' rb s' => hq b σ' z h' tk qb R' rb (s₁.trans s'))

theorem Ew_UnaryOp {op : UnaryOp} {x : Expr} {pos} {Q : V → Store → Prop} (h : Ew C d env ρ VRel (eval x env) (fun v σ₁ => Ow1 C d VRel v (unaryOp op) Q σ₁) σ) :
    Ew C d env ρ VRel (eval (.UnaryOp op x pos) env) Q σ :=
  fun A E s Qc rm Rp F hq => wpAny_UnaryOp (h A E s _ rm Rp F fun v σ₁ x h₁ k₁ q₁ R₁ r₁ s₁ => q₁ A E _ _ x rm R₁ r₁ fun b σ' z h' tk qb R' rb s' => hq b σ' z h' tk qb R' rb (s₁.trans s'))

/-! lists of values -/
theorem Ew_items_nil {pos} {Q : List V → Store → Prop} (h : Q [] σ) : Ew C d env ρ VRels (spliced (backTo pos (starEach [] env))) Q σ :=
  fun A E s Qc rm Rp F hq => wpAny_items_nil (hq _ _ _ s.heap s.toks h Rp VRels.nil (Stp.refl ..))
theorem Ew_items_cons {pos} {e : Expr} {rest : List Expr} {Q : List V → Store → Prop}
    (h : Ew C d env ρ VRel (eval e env) (fun v σ₁ => Ew C d env ρ VRels (spliced (backTo pos (starEach rest env))) (fun vs σ₂ => Q (v :: vs) σ₂) σ₁) σ)
    (he : starEach (e :: rest) env = (false, eval e env) :: starEach rest env := by rfl) : Ew C d env ρ VRels (spliced (backTo pos (starEach (e :: rest) env))) Q σ :=
  fun A E s Qc rm Rp F hq => wpAny_items_cons (h A E s _ rm Rp F fun v σ₁ x h₁ k₁ q₁ R₁ r₁ s₁ => q₁ A E _ _ rm R₁ (F.keep Rp s₁) fun b σ' z h' tk qb R' rb s' =>
    hq _ σ' _ h' tk qb R' (VRels.cons (R₁.val s'.keep r₁) rb) (s₁.trans s')) he

/-- a new immutable object -/
theorem Rep.push {h : Heap} (R : Rep C σ h) (o : Obj) : Rep C σ (h.push o) ∧ Stp σ σ h (h.push o) :=
  have k : Keeps σ h (h.push o) := fun b o' e _ => Heap.get?_push_of_some _ e
  ⟨⟨R.ok, fun b o' e => Heap.get?_push_of_some _ (R.base b o' e), R.off, fun a o' e => (R.objs a o' e).keep (R.im k) fun co q => Heap.get?_push_of_some _ q⟩, k, fun _ o e => .inl ⟨o, e⟩, fun b o' e => ⟨o', Heap.get?_push_of_some _ e⟩⟩

theorem Rep.size {h : Heap} (R : Rep C σ h) : C.g.get? h.objs.size = none ∧ (h.objs.size == sysModules) = false := by
  refine ⟨?_, ?_⟩
  · cases q : C.g.get? h.objs.size with
    | none => rfl
    | some o => exact absurd (Heap.lt_size (R.base _ _ q)) (Nat.lt_irrefl _)
  · exact beq_eq_false_iff_ne.mpr (Nat.ne_of_gt (modules_low (R.ok.nolimit.keeps R.base)))
theorem Rep.fresh {h : Heap} (R : Rep C σ h) : σ h.objs.size = none := by
  cases q : σ h.objs.size with
  | none => rfl
  | some o => obtain ⟨co, e, _⟩ := (R.objs _ _ q).cls; exact absurd (Heap.lt_size e) (Nat.lt_irrefl _)
end

def Store.set (σ : Store) (a : Addr) (o : O) : Store := fun b => if b = a then some o else σ b
@[simp] theorem Store.set_self (σ : Store) (a : Addr) (o : O) : σ.set a o a = some o := by simp [Store.set]
theorem Store.set_ne {σ : Store} {a b : Addr} {o : O} (h : b ≠ a) : σ.set a o b = σ b := by simp [Store.set, h]

section
variable {C : Cx} {d : Nat} {env : Env} {ρ : Fra} {σ : Store}
/-- a new object of the abstract store -/
theorem Rep.alloc {h h' : Heap} {a : Addr} {o : O} (R : Rep C σ h) (e1 : h.get? a = none) (e2 : C.g.get? a = none) (e3 : (a == sysModules) = false) (k : ∀ b o, h.get? b = some o → h'.get? b = some o) (r : ORel C.prog C.w h' a o) :
    Rep C (σ.set a o) h' ∧ Stp σ (σ.set a o) h h' ∧ σ a = none := by
  have n : σ a = none := by
    cases q : σ a with
    | none => rfl
    | some o => obtain ⟨co, e, _⟩ := (R.objs _ _ q).cls; rw [e1] at e; cases e
  refine ⟨⟨R.ok, fun b o' e => k _ _ (R.base b o' e), fun b o' e => ?_, fun b o' e => ?_⟩, ⟨fun b o' e _ => k _ _ e, fun b o' e => ?_, fun b o' e => ⟨o', k _ _ e⟩⟩, n⟩
  · by_cases q : b = a
    · subst q; exact ⟨e2, e3⟩
    · rw [Store.set_ne q] at e; exact R.off b o' e
  · by_cases q : b = a
    · subst q; simp at e; subst e; exact r
    · rw [Store.set_ne q] at e; exact (R.objs b o' e).keep (fun b o q _ => k b o q) fun co q => k _ _ q
  · by_cases q : b = a
    · subst q; exact .inr e1
    · rw [Store.set_ne q] at e; exact .inl ⟨o', e⟩

/-- an object of the abstract store changed -/
theorem Rep.change {h h' : Heap} {a : Addr} {o o' : O} (R : Rep C σ h) (e : σ a = some o) (k : ∀ b co, b ≠ a → h.get? b = some co → h'.get? b = some co) (r : ORel C.prog C.w h' a o') :
    Rep C (σ.set a o') h' ∧ Stp σ (σ.set a o') h h' := by
  have kk : Keeps σ h h' := fun b co q n => k b co (fun z => by rw [z, e] at n; cases n) q
  refine ⟨⟨R.ok, fun b co q => k b co (fun z => by have := (R.off a o e).1; rw [z, this] at q; cases q) (R.base b co q), fun b o₂ q => ?_, fun b o₂ q => ?_⟩, ⟨kk, fun b o₂ q => ?_, fun b co q => by
      by_cases z : b = a
      · subst z; obtain ⟨c2, e2, _⟩ := r.cls; exact ⟨c2, e2⟩
      · exact ⟨co, k b co z q⟩⟩⟩
  · by_cases z : b = a
    · subst z; exact R.off b o e
    · rw [Store.set_ne z] at q; exact R.off b o₂ q
  · by_cases z : b = a
    · subst z; simp at q; subst q; exact r
    · rw [Store.set_ne z] at q; exact (R.objs b o₂ q).keep (R.im kk) fun co q => k _ _ z q
  · by_cases z : b = a
    · subst z; exact .inl ⟨o, e⟩
    · rw [Store.set_ne z] at q; exact .inl ⟨o₂, q⟩

theorem Ew_Tuple {elts : List Expr} {k pos} {Q : V → Store → Prop}
    (h : Ew C d env ρ VRels (spliced (backTo pos (starEach elts env))) (fun vs σ₁ => vs.length ≤ 1000000 ∧ Q (.tup vs) σ₁) σ) : Ew C d env ρ VRel (eval (.Tuple elts k pos) env) Q σ :=
  fun A E s Qc rm Rp F hq => wpAny_Tuple (h A E s _ rm Rp F fun vs σ₁ xs h₁ k₁ q₁ R₁ r₁ s₁ => by
    refine ⟨by rw [r₁.length, sizeLine_eq]; exact Nat.le_trans q₁.1 (by decide), ?_⟩
    obtain ⟨R₂, s₂⟩ := R₁.push { cls := .type "tuple", data := .seq xs.toArray }
    exact hq _ _ _ _ k₁ q₁.2 R₂ ⟨_, _, _, rfl, Heap.get?_push_size _ rfl, by simpa using R₁.vals s₂.keep r₁⟩ (s₁.trans s₂))
theorem Ew_List {elts : List Expr} {pos} {Q : V → Store → Prop}
    (h : Ew C d env ρ VRels (spliced (backTo pos (starEach elts env))) (fun vs σ₁ => vs.length ≤ 1000000 ∧ ∀ a, σ₁ a = none → Q (.ref a) (σ₁.set a (.list vs))) σ) : Ew C d env ρ VRel (eval (.List elts pos) env) Q σ :=
  fun A E s Qc rm Rp F hq => wpAny_List (h A E s _ rm Rp F fun vs σ₁ xs h₁ k₁ q₁ R₁ r₁ s₁ => by
    refine ⟨by rw [r₁.length, sizeLine_eq]; exact Nat.le_trans q₁.1 (by decide), ?_⟩
    have kp : ∀ b o, h₁.get? b = some o → (h₁.push { cls := .type "list", data := .seq xs.toArray }).get? b = some o := fun b o e => Heap.get?_push_of_some _ e
    have e1 : h₁.get? h₁.objs.size = none := by
      cases q : h₁.get? h₁.objs.size with
      | none => rfl
      | some o => exact absurd (Heap.lt_size q) (Nat.lt_irrefl _)
    obtain ⟨R₂, s₂, n⟩ := R₁.alloc (o := .list vs) e1 R₁.size.1 R₁.size.2 kp ⟨_, ⟨_, Heap.get?_push_size _ rfl⟩, by simpa using VRels.keep (fun b o q _ => kp b o q) _ _ r₁⟩
    exact hq _ _ _ _ k₁ (q₁.2 _ n) R₂ rfl (s₁.trans s₂))
end
end Mine

open PySem PySem.W PyProof.Rows PySem.Calls PyProof.V PySem.Spec PySem.SeqAt
set_option Elab.async false
set_option linter.all false
set_option maxRecDepth 100000
namespace Mine
section
variable {C : Cx} {d : Nat} {env : Env} {ρ : Fra} {σ : Store}

theorem IntsOf {h : Heap} : ∀ {ns : List Int} {ws : List Value}, VRels h (ns.map V.int) ws → IntsAre ws ns
  | [], ws, x => by have e : ws = [] := x; subst e; exact .nil
  | n :: ns, ws, x => by
    obtain ⟨w, ws', rfl, ⟨t, rfl⟩, b⟩ := x
    exact .cons _ _ (IntsOf b)
theorem ofInts {h : Heap} : ∀ {ns : List Int} {ws : List Value}, IntsAre ws ns → VRels h (ns.map V.int) ws
  | _, _, .nil => VRels.nil
  | _, _, .cons n t r => VRels.cons ⟨t, rfl⟩ (ofInts r)

theorem O2_add {a b : Int} {Q : V → Store → Prop} (h : Q (.int (a + b)) σ) : Ow2 C d VRel (.int a) (.int b) (binaryOp .Add) Q σ := by
  rintro A E s Qc _ _ rm Rp ⟨t, rfl⟩ ⟨u, rfl⟩ hq
  exact P.add_int (hq _ _ _ s.heap _ h Rp ⟨_, rfl⟩ (Stp.refl ..))
theorem O2_mul {a b : Int} {Q : V → Store → Prop} (hm : Builtin.Int.intBits a ≤ 64) (h : Q (.int (a * b)) σ) : Ow2 C d VRel (.int a) (.int b) (binaryOp .Mult) Q σ := by
  rintro A E s Qc _ _ rm Rp ⟨t, rfl⟩ ⟨u, rfl⟩ hq
  exact P.mul_int (hq _ _ _ s.heap _ h Rp ⟨_, rfl⟩ (Stp.refl ..)) (IntMulOk.of_left hm)
theorem O2_fdiv {a b : Int} {Q : V → Store → Prop} (hb : b ≠ 0) (hp : Builtin.divisionGoesByPylong a b = false) (h : Q (.int (a.fdiv b)) σ) : Ow2 C d VRel (.int a) (.int b) (binaryOp .FloorDiv) Q σ := by
  rintro A E s Qc _ _ rm Rp ⟨t, rfl⟩ ⟨u, rfl⟩ hq
  exact floordiv_int hb (hq _ _ _ s.heap _ h Rp ⟨_, rfl⟩ (Stp.refl ..)) (.inl hp)
theorem O2_fmod {a b : Int} {Q : V → Store → Prop} (hb : b ≠ 0) (h : Q (.int (a.fmod b)) σ) : Ow2 C d VRel (.int a) (.int b) (binaryOp .Mod) Q σ := by
  rintro A E s Qc _ _ rm Rp ⟨t, rfl⟩ ⟨u, rfl⟩ hq
  exact mod_int' hb (hq _ _ _ s.heap _ h Rp ⟨_, rfl⟩ (Stp.refl ..))
theorem O2_pow {a n : Int} {Q : V → Store → Prop} (hn : 0 ≤ n) (hsz : (Builtin.Int.intBits a : Int) * n ≤ 2 ^ 27) (h : Q (.int (a ^ n.toNat)) σ) : Ow2 C d VRel (.int a) (.int n) (binaryOp .Pow) Q σ := by
  rintro A E s Qc _ _ rm Rp ⟨t, rfl⟩ ⟨u, rfl⟩ hq
  exact pow_int hn hsz (hq _ _ _ s.heap _ h Rp ⟨_, rfl⟩ (Stp.refl ..))
theorem O1_neg {a : Int} {Q : V → Store → Prop} (h : Q (.int (-a)) σ) : Ow1 C d VRel (.int a) (unaryOp .USub) Q σ := by
  rintro A E s Qc _ rm Rp ⟨t, rfl⟩ hq
  exact P.neg_int (hq _ _ _ s.heap _ h Rp ⟨_, rfl⟩ (Stp.refl ..))

theorem O2_eq {a b : Int} {Q : V → Store → Prop} (h : Q (.bool (a == b)) σ) : Ow2 C d VRel (.int a) (.int b) (compareOp .Eq) Q σ := by
  rintro A E s Qc _ _ rm Rp ⟨t, rfl⟩ ⟨u, rfl⟩ hq
  exact P.eq_int (hq _ _ _ s.heap s.toks h Rp rfl (Stp.refl ..))
theorem O2_ne {a b : Int} {Q : V → Store → Prop} (h : Q (.bool (a != b)) σ) : Ow2 C d VRel (.int a) (.int b) (compareOp .NotEq) Q σ := by
  rintro A E s Qc _ _ rm Rp ⟨t, rfl⟩ ⟨u, rfl⟩ hq
  exact P.ne_int (hq _ _ _ s.heap s.toks h Rp rfl (Stp.refl ..))
theorem O2_lt {a b : Int} {Q : V → Store → Prop} (h : Q (.bool (decide (a < b))) σ) : Ow2 C d VRel (.int a) (.int b) (compareOp .Lt) Q σ := by
  rintro A E s Qc _ _ rm Rp ⟨t, rfl⟩ ⟨u, rfl⟩ hq
  exact P.lt_int (hq _ _ _ s.heap s.toks h Rp rfl (Stp.refl ..))
theorem O2_le {a b : Int} {Q : V → Store → Prop} (h : Q (.bool (decide (a ≤ b))) σ) : Ow2 C d VRel (.int a) (.int b) (compareOp .LtE) Q σ := by
  rintro A E s Qc _ _ rm Rp ⟨t, rfl⟩ ⟨u, rfl⟩ hq
  exact P.le_int (hq _ _ _ s.heap s.toks h Rp rfl (Stp.refl ..))
theorem O2_gt {a b : Int} {Q : V → Store → Prop} (h : Q (.bool (decide (a > b))) σ) : Ow2 C d VRel (.int a) (.int b) (compareOp .Gt) Q σ := by
  rintro A E s Qc _ _ rm Rp ⟨t, rfl⟩ ⟨u, rfl⟩ hq
  exact P.gt_int (hq _ _ _ s.heap s.toks h Rp rfl (Stp.refl ..))
theorem O2_ge {a b : Int} {Q : V → Store → Prop} (h : Q (.bool (decide (a ≥ b))) σ) : Ow2 C d VRel (.int a) (.int b) (compareOp .GtE) Q σ := by
  rintro A E s Qc _ _ rm Rp ⟨t, rfl⟩ ⟨u, rfl⟩ hq
  exact P.ge_int (hq _ _ _ s.heap s.toks h Rp rfl (Stp.refl ..))
theorem O2_eqStr {x y : Str} {Q : V → Store → Prop} (h : Q (.bool (x == y)) σ) : Ow2 C d VRel (.str x) (.str y) (compareOp .Eq) Q σ := by
  rintro A E s Qc _ _ rm Rp ⟨t, rfl⟩ ⟨u, rfl⟩ hq
  exact PyProof.Rows.eq_str (hq _ _ _ s.heap s.toks h Rp rfl (Stp.refl ..))
theorem O2_neStr {x y : Str} {Q : V → Store → Prop} (h : Q (.bool (x != y)) σ) : Ow2 C d VRel (.str x) (.str y) (compareOp .NotEq) Q σ := by
  rintro A E s Qc _ _ rm Rp ⟨t, rfl⟩ ⟨u, rfl⟩ hq
  exact PyProof.Rows.ne_str (hq _ _ _ s.heap s.toks h Rp rfl (Stp.refl ..))
theorem O2_eqBool {x y : Bool} {Q : V → Store → Prop} (h : Q (.bool (x == y)) σ) : Ow2 C d VRel (.bool x) (.bool y) (compareOp .Eq) Q σ := by
  intro A E s Qc a b rm Rp e1 e2 hq
  have e1 : a = .bool x := e1
  have e2 : b = .bool y := e2
  subst e1 e2
  exact PyProof.Rows.eq_bool (hq _ _ _ s.heap s.toks h Rp rfl (Stp.refl ..))

/-! lists -/
theorem Rep.list {h : Heap} (R : Rep C σ h) {a : Addr} {vs : List V} (e : σ a = some (.list vs)) : ∃ ws, h.PlainList a ws ∧ VRels h vs ws.toList := R.objs a _ e

theorem units_ok {A : Around} (rm : Room d A) : A.units + 64 < cLine := by have := rm.units; have e : cLine = 9900 := rfl; omega

theorem O2_eqInts {a b : Addr} {ns ms : List Int} {Q : V → Store → Prop} (ha : σ a = some (.list (ns.map V.int))) (hb : σ b = some (.list (ms.map V.int))) (h : Q (.bool (decide (ns = ms))) σ) :
    Ow2 C d VRel (.ref a) (.ref b) (compareOp .Eq) Q σ := by
  intro A E s Qc u v rm Rp e1 e2 hq
  have e1 : u = .ref a := e1
  have e2 : v = .ref b := e2
  subst e1 e2
  obtain ⟨ws, l1, r1⟩ := Rp.list ha
  obtain ⟨ws', l2, r2⟩ := Rp.list hb
  exact eq_intsK (by simpa using l1.isList) (IntsOf r1) (by simpa using l2.isList) (IntsOf r2) (units_ok rm) (hq _ _ _ s.heap s.toks h Rp rfl (Stp.refl ..))
theorem O2_neInts {a b : Addr} {ns ms : List Int} {Q : V → Store → Prop} (ha : σ a = some (.list (ns.map V.int))) (hb : σ b = some (.list (ms.map V.int))) (h : Q (.bool (!decide (ns = ms))) σ) :
    Ow2 C d VRel (.ref a) (.ref b) (compareOp .NotEq) Q σ := by
  intro A E s Qc u v rm Rp e1 e2 hq
  have e1 : u = .ref a := e1
  have e2 : v = .ref b := e2
  subst e1 e2
  obtain ⟨ws, l1, r1⟩ := Rp.list ha
  obtain ⟨ws', l2, r2⟩ := Rp.list hb
  exact ne_intsK (by simpa using l1.isList) (IntsOf r1) (by simpa using l2.isList) (IntsOf r2) (units_ok rm) (hq _ _ _ s.heap s.toks h Rp rfl (Stp.refl ..))

/-- a list of one-int tuples -/
def tup1 (n : Int) : V := .tup [.int n]
def ptup1 (n : Int) : PyData := .tuple [.int n]
theorem reads_tup1 {h : Heap} : ∀ {ns : List Int} {ws : List Value}, VRels h (ns.map tup1) ws → ReadsAll h ws (ns.map ptup1) []
  | [], ws, x => by have e : ws = [] := x; subst e; exact .nil
  | n :: ns, ws, x => by
    obtain ⟨w, ws', rfl, ⟨a, k, us, rfl, ha, hu⟩, b⟩ := x
    obtain ⟨w1, us', e1, ⟨t, rfl⟩, e2⟩ := hu
    have e2 : us' = [] := e2
    subst e2
    have r1 : ReadsAll h us.toList [.int n] [] := by rw [e1]; exact ReadsAll.cons (Reads.int n t) .nil
    exact ReadsAll.cons (bs := []) (Reads.tuple ha rfl rfl r1) (reads_tup1 b)
theorem canLay_tup1 : ∀ ns : List Int, PyData.canLayAll0 (ns.map ptup1) = true
  | [] => by simp [PyData.canLayAll0]
  | n :: r => by simp [PyData.canLayAll0, PyData.canLay0, ptup1, canLay_tup1 r]
theorem depth_tup1 : ∀ ns : List Int, PyData.depthAll (ns.map ptup1) ≤ 4
  | [] => by simp [PyData.depthAll]
  | n :: r => by
    have := depth_tup1 r
    simp only [List.map_cons, PyData.depthAll, PyData.depth, ptup1] at *
    omega
theorem shaped_tup1 (ns : List Int) : shaped (.list (ns.map ptup1)) = true := by
  have h1 := depth_tup1 ns
  have h2 : PyData.depth (.list (ns.map ptup1)) ≤ 64 := by simp only [PyData.depth]; omega
  show (PyData.canLay0 (.list (ns.map ptup1)) && decide (PyData.depth (.list (ns.map ptup1)) ≤ 64)) = true
  rw [Bool.and_eq_true]
  exact ⟨by simp only [PyData.canLay0]; exact canLay_tup1 ns, decide_eq_true h2⟩
theorem noMix_tup1 : ∀ ns ms : List Int, noMixAll (ns.map ptup1) (ms.map ptup1) = true
  | [], [] => by simp [noMixAll]
  | [], _ :: _ => by simp [noMixAll]
  | _ :: _, [] => by simp [noMixAll]
  | _ :: r, _ :: q => by simp [noMixAll, noMix, ptup1, noMix_tup1 r q]
theorem same_tup1 : ∀ ns ms : List Int, PySem.Spec.sameAll (ns.map ptup1) (ms.map ptup1) = decide (ns = ms)
  | [], [] => by simp [PySem.Spec.sameAll]
  | [], _ :: _ => by simp [PySem.Spec.sameAll]
  | _ :: _, [] => by simp [PySem.Spec.sameAll]
  | n :: r, k :: q => by
    have e : PySem.Spec.same (ptup1 n) (ptup1 k) = decide (n = k) := by by_cases h : n = k <;> simp [ptup1, PySem.Spec.same, PySem.Spec.sameAll, h]
    simp only [List.map_cons, PySem.Spec.sameAll, e, same_tup1 r q]
    by_cases h : n = k <;> simp [h]

theorem O2_eqTup1 {a b : Addr} {ns ms : List Int} {Q : V → Store → Prop} (ha : σ a = some (.list (ns.map tup1))) (hb : σ b = some (.list (ms.map tup1))) (h : Q (.bool (decide (ns = ms))) σ) :
    Ow2 C d VRel (.ref a) (.ref b) (compareOp .Eq) Q σ := by
  intro A E s Qc u v rm Rp e1 e2 hq
  have e1 : u = .ref a := e1
  have e2 : v = .ref b := e2
  subst e1 e2
  obtain ⟨ws, ⟨n1, l1⟩, r1⟩ := Rp.list ha
  obtain ⟨ws', ⟨n2, l2⟩, r2⟩ := Rp.list hb
  exact eq_dataH_same (Reads.list l1 rfl rfl (reads_tup1 r1)) (Reads.list l2 rfl rfl (reads_tup1 r2)) (shaped_tup1 ns) (shaped_tup1 ms) (units_ok rm)
    (by simp only [noMix]; exact noMix_tup1 ns ms) (by simp only [PySem.Spec.same]; rw [same_tup1]; exact hq _ _ _ s.heap s.toks h Rp rfl (Stp.refl ..))

/-- list + list -/
theorem O2_addList {a b : Addr} {us vs : List V} {Q : V → Store → Prop} (ha : σ a = some (.list us)) (hb : σ b = some (.list vs)) (hsz : us.length + vs.length ≤ 1000000)
    (h : ∀ c, σ c = none → Q (.ref c) (σ.set c (.list (us ++ vs)))) : Ow2 C d VRel (.ref a) (.ref b) (binaryOp .Add) Q σ := by
  intro A E s Qc u v rm Rp e1 e2 hq
  have e1 : u = .ref a := e1
  have e2 : v = .ref b := e2
  subst e1 e2
  obtain ⟨ws, ⟨n1, l1⟩, r1⟩ := Rp.list ha
  obtain ⟨ws', ⟨n2, l2⟩, r2⟩ := Rp.list hb
  have z1 := r1.length
  have z2 := r2.length
  refine P.add_list l1 l2 ?_ (by rw [sizeLine_eq]; simp only [Array.length_toList] at z1 z2; omega)
  have kp : ∀ b o, s.heap.get? b = some o → (s.heap.push { cls := .type "list", data := .seq (ws ++ ws') }).get? b = some o := fun b o e => Heap.get?_push_of_some _ e
  have e1 : s.heap.get? s.heap.objs.size = none := by
    cases q : s.heap.get? s.heap.objs.size with
    | none => rfl
    | some o => exact absurd (Heap.lt_size q) (Nat.lt_irrefl _)
  obtain ⟨R₂, s₂, n⟩ := Rp.alloc (o := .list (us ++ vs)) e1 Rp.size.1 Rp.size.2 kp ⟨_, ⟨_, Heap.get?_push_size _ rfl⟩, by
    rw [Array.toList_append]; exact VRels.keep (fun b o q _ => kp b o q) _ _ (r1.append r2)⟩
  exact hq _ _ _ _ s.toks (h _ n) R₂ rfl s₂

/-! membership -/
theorem eqAt_int {A : Around} {s : Shared} {a b : Int} {t u : Tok} : SeqAt.EqAt A s (.int a t) (.int b u) (a == b) := fun _ _ _ _ h => wpAny_eqBool_int h
theorem eqAt_str {A : Around} {s : Shared} {a b : Str} {t u : Tok} : SeqAt.EqAt A s (.str a t) (.str b u) (decide (a = b)) := fun _ _ _ _ h => wpAny_eqBool_str h

def isI (k : Int) : Value → Bool
  | .int n _ => n == k
  | _ => false
theorem any_ints {k : Int} : ∀ {ns : List Int} {ws : List Value}, IntsAre ws ns → ws.any (isI k) = decide (k ∈ ns)
  | _, _, .nil => by simp
  | _, _, .cons n t r => by
    rw [List.any_cons, any_ints r]
    by_cases h : n = k
    · subst h; simp [isI]
    · have h' : ¬ k = n := fun e => h e.symm
      simp [isI, h, h']
theorem ints_mem : ∀ {ns : List Int} {ws : List Value}, IntsAre ws ns → ∀ y ∈ ws, ∃ n t, y = .int n t
  | _, _, .nil, y, h => by cases h
  | _, _, .cons n t r, y, h => by
    rcases List.mem_cons.mp h with rfl | h
    · exact ⟨n, t, rfl⟩
    · exact ints_mem r y h

theorem O2_inInts {a : Addr} {k : Int} {ns : List Int} {Q : V → Store → Prop} (ha : σ a = some (.list (ns.map V.int))) (h : Q (.bool (decide (k ∈ ns))) σ) :
    Ow2 C d VRel (.int k) (.ref a) (compareOp .In) Q σ := by
  rintro A E s Qc _ v rm Rp ⟨t, rfl⟩ e2 hq
  have e2 : v = .ref a := e2
  subst e2
  obtain ⟨ws, l1, r1⟩ := Rp.list ha
  have hi := IntsOf r1
  refine SeqAt.in_listAt (isI k) l1.isList (fun y hy => ?_) ?_
  · obtain ⟨n, u, rfl⟩ := ints_mem hi y (by simpa using hy)
    exact eqAt_int
  · rw [← Array.any_toList, any_ints hi]; exact hq _ _ _ s.heap s.toks h Rp rfl (Stp.refl ..)
theorem O2_notInInts {a : Addr} {k : Int} {ns : List Int} {Q : V → Store → Prop} (ha : σ a = some (.list (ns.map V.int))) (h : Q (.bool (!decide (k ∈ ns))) σ) :
    Ow2 C d VRel (.int k) (.ref a) (compareOp .NotIn) Q σ := by
  rintro A E s Qc _ v rm Rp ⟨t, rfl⟩ e2 hq
  have e2 : v = .ref a := e2
  subst e2
  obtain ⟨ws, l1, r1⟩ := Rp.list ha
  have hi := IntsOf r1
  refine SeqAt.notIn_listAt (isI k) l1.isList (fun y hy => ?_) ?_
  · obtain ⟨n, u, rfl⟩ := ints_mem hi y (by simpa using hy)
    exact eqAt_int
  · rw [← Array.any_toList, any_ints hi]; exact hq _ _ _ s.heap s.toks h Rp rfl (Stp.refl ..)

def isS (k : Str) : Value → Bool
  | .str n _ => decide (n = k)
  | _ => false
theorem any_strs {h : Heap} {k : Str} : ∀ {xs : List Str} {ws : List Value}, VRels h (xs.map V.str) ws → ws.any (isS k) = decide (k ∈ xs) ∧ ∀ y ∈ ws, ∃ n t, y = .str n t
  | [], ws, x => by have e : ws = [] := x; subst e; simp
  | n :: r, ws, x => by
    obtain ⟨w, ws', rfl, ⟨t, rfl⟩, b⟩ := x
    obtain ⟨e, m⟩ := any_strs (k := k) b
    refine ⟨?_, fun y hy => ?_⟩
    · rw [List.any_cons, e]
      by_cases h : n = k
      · subst h; simp [isS]
      · have h' : ¬ k = n := fun e => h e.symm
        simp [isS, h, h']
    · rcases List.mem_cons.mp hy with rfl | hy
      · exact ⟨n, t, rfl⟩
      · exact m y hy
theorem O2_notInStrs {k : Str} {xs : List Str} {Q : V → Store → Prop} (h : Q (.bool (!decide (k ∈ xs))) σ) :
    Ow2 C d VRel (.str k) (.tup (xs.map V.str)) (compareOp .NotIn) Q σ := by
  rintro A E s Qc _ v rm Rp ⟨t, rfl⟩ ⟨a, n, ws, rfl, ha, r⟩ hq
  obtain ⟨e, m⟩ := any_strs (k := k) r
  refine SeqAt.notIn_tupleAt (isS k) ⟨_, ha, rfl, n, rfl⟩ (fun y hy => ?_) ?_
  · obtain ⟨n, u, rfl⟩ := m y (by simpa using hy)
    exact eqAt_str
  · rw [← Array.any_toList, e]; exact hq _ _ _ s.heap s.toks h Rp rfl (Stp.refl ..)

/-! dicts keyed by ints -/
def hasK {K : Type} [DecidableEq K] (k : K) (kvs : List (K × V)) : Bool := decide (k ∈ kvs.map (·.1))
def getK {K : Type} [DecidableEq K] (k : K) (kvs : List (K × V)) : Option V := (kvs.find? fun kv => kv.1 = k).map (·.2)
def putK {K : Type} [DecidableEq K] (k : K) (v : V) (kvs : List (K × V)) : List (K × V) :=
  if k ∈ kvs.map (·.1) then kvs.map (fun kv => if kv.1 = k then (kv.1, v) else kv) else kvs ++ [(k, v)]

theorem valueAt_isSome {K : Type} [DecidableEq K] (k : K) : ∀ {cvs : List (K × Value)} {kvs : List (K × V)}, cvs.map (·.1) = kvs.map (·.1) → (valueAt cvs k).isSome = hasK k kvs
  | [], [], _ => rfl
  | [], _ :: _, e => by simp at e
  | _ :: _, [], e => by simp at e
  | c :: cs, v :: vs, e => by
    simp only [List.map_cons, List.cons.injEq] at e
    have ih := valueAt_isSome k e.2
    unfold valueAt hasK at *
    simp only [List.find?_cons, List.map_cons, List.mem_cons, Option.isSome_map] at *
    by_cases h : c.1 = k
    · simp [h, ← e.1]
    · have h' : ¬ k = v.1 := fun q => h (by rw [e.1, q])
      simp only [decide_eq_false h, h', false_or]
      exact ih
theorem valueAt_rel {K : Type} [DecidableEq K] {h : Heap} {k : K} : ∀ {cvs : List (K × Value)} {kvs : List (K × V)} {v : V}, cvs.map (·.1) = kvs.map (·.1) → VRels h (kvs.map (·.2)) (cvs.map (·.2)) → getK k kvs = some v → ∃ w, valueAt cvs k = some w ∧ VRel h v w
  | [], [], _, _, _, g => by simp [getK] at g
  | [], _ :: _, _, e, _, _ => by simp at e
  | _ :: _, [], _, e, _, _ => by simp at e
  | c :: cs, u :: us, v, e, r, g => by
    simp only [List.map_cons, List.cons.injEq] at e
    obtain ⟨w, ws', e2, a, b⟩ := r
    simp only [List.map_cons, List.cons.injEq] at e2
    unfold getK at g
    unfold valueAt
    simp only [List.find?_cons] at *
    by_cases h : u.1 = k
    · have h' : c.1 = k := e.1.trans h
      simp only [h, decide_true, Option.map_some, Option.some.injEq] at g
      subst g
      simp only [h', decide_true, Option.map_some]
      exact ⟨_, rfl, by rw [e2.1]; exact a⟩
    · have h' : ¬ c.1 = k := fun q => h (e.1.symm.trans q)
      simp only [h, h', decide_false] at *
      obtain ⟨w', x1, x2⟩ := valueAt_rel (k := k) e.2 (by rw [e2.2]; exact b) (by unfold getK; exact g)
      exact ⟨w', by unfold valueAt at x1; exact x1, x2⟩
theorem stored_keys {K : Type} [DecidableEq K] {h : Heap} {k : K} {v : V} {w : Value} {cvs : List (K × Value)} {kvs : List (K × V)} (e : cvs.map (·.1) = kvs.map (·.1)) (r : VRels h (kvs.map (·.2)) (cvs.map (·.2))) (rv : VRel h v w) :
    (stored cvs k w).map (·.1) = (putK k v kvs).map (·.1) ∧ VRels h ((putK k v kvs).map (·.2)) ((stored cvs k w).map (·.2)) := by
  have hc : (cvs.any fun kv => decide (kv.1 = k)) = true ↔ k ∈ kvs.map (·.1) := by
    rw [← e]; simp [List.any_eq_true]
  unfold stored putK
  by_cases hk : k ∈ kvs.map (·.1)
  · rw [if_pos (hc.mpr hk), if_pos hk]
    refine ⟨?_, ?_⟩
    · have h1 : ∀ l : List (K × Value), (l.map fun kv => if kv.1 = k then (kv.1, w) else kv).map (·.1) = l.map (·.1) := fun l => by
        rw [List.map_map]; apply List.map_congr_left; intro x _; simp only [Function.comp]; split <;> rfl
      have h2 : ∀ l : List (K × V), (l.map fun kv => if kv.1 = k then (kv.1, v) else kv).map (·.1) = l.map (·.1) := fun l => by
        rw [List.map_map]; apply List.map_congr_left; intro x _; simp only [Function.comp]; split <;> rfl
      rw [h1, h2, e]
    · clear hc hk
      induction cvs generalizing kvs with
      | nil => cases kvs with
        | nil => exact VRels.nil
        | cons _ _ => simp at e
      | cons c cs ih => cases kvs with
        | nil => simp at e
        | cons u us =>
          simp only [List.map_cons, List.cons.injEq] at e
          obtain ⟨w', ws', e2, a, b⟩ := r
          simp only [List.map_cons, List.cons.injEq] at e2
          simp only [List.map_cons]
          refine VRels.cons ?_ (ih e.2 (by rw [e2.2]; exact b))
          by_cases q : c.1 = k
          · rw [if_pos q, if_pos (e.1.symm.trans q)]; exact rv
          · rw [if_neg q, if_neg (fun z => q (e.1.trans z))]; rw [e2.1]; exact a
  · rw [if_neg (fun z => hk (hc.mp z)), if_neg hk]
    refine ⟨by simp [e], ?_⟩
    simp only [List.map_append, List.map_cons, List.map_nil]
    exact r.append (VRels.cons rv VRels.nil)
end
end Mine

open PySem PySem.W PyProof.Rows PySem.Calls PyProof.V PySem.Spec PySem.SeqAt
set_option Elab.async false
set_option linter.all false
set_option maxRecDepth 100000
namespace Mine
section
variable {C : Cx} {d : Nat} {env : Env} {ρ : Fra} {σ : Store}

theorem intIs (prog : Program) (w : World) (k : Int) (t : Tok) : (intKind prog w).is k (.int k t) = true := intKind_is prog w k t

theorem O2_inD {a : Addr} {k : Int} {kvs : List (Int × V)} {Q : V → Store → Prop} (ha : σ a = some (.idict kvs)) (h : Q (.bool (hasK k kvs)) σ) : Ow2 C d VRel (.int k) (.ref a) (compareOp .In) Q σ := by
  rintro A E s Qc _ v rm Rp ⟨t, rfl⟩ e2 hq
  have e2 : v = .ref a := e2
  subst e2
  obtain ⟨cvs, hd, hk, r⟩ := Rp.objs a _ ha
  exact wpAny_in_of (intIs _ _ k t) (Rp.off a _ ha).2 hd.mapOf (by rw [valueAt_isSome k hk]; exact hq _ _ _ s.heap _ h Rp rfl (Stp.refl ..))
theorem O2_notInD {a : Addr} {k : Int} {kvs : List (Int × V)} {Q : V → Store → Prop} (ha : σ a = some (.idict kvs)) (h : Q (.bool (!hasK k kvs)) σ) : Ow2 C d VRel (.int k) (.ref a) (compareOp .NotIn) Q σ := by
  rintro A E s Qc _ v rm Rp ⟨t, rfl⟩ e2 hq
  have e2 : v = .ref a := e2
  subst e2
  obtain ⟨cvs, hd, hk, r⟩ := Rp.objs a _ ha
  exact wpAny_notIn_of (intIs _ _ k t) (Rp.off a _ ha).2 hd.mapOf (by rw [valueAt_isSome k hk]; exact hq _ _ _ s.heap _ h Rp rfl (Stp.refl ..))

/-- the items of a container -/
theorem O2_getL {a : Addr} {k : Int} {vs : List V} {v : V} {Q : V → Store → Prop} (ha : σ a = some (.list vs)) (h0 : 0 ≤ k) (hv : vs[k.toNat]? = some v) (hz : vs.length ≤ 1000000) (h : Q v σ) : Ow2 C d VRel (.ref a) (.int k) getItem Q σ := by
  rintro A E s Qc u _ rm Rp e1 ⟨t, rfl⟩ hq
  have e1 : u = .ref a := e1
  subst e1
  obtain ⟨ws, l, r⟩ := Rp.list ha
  obtain ⟨w, e, rv⟩ := r.at hv
  have hlt : k.toNat < vs.length := (List.getElem?_eq_some_iff.mp hv).1
  exact wpAny_getItem_list l.isList h0 (by omega) (by rw [← Array.getElem?_toList]; exact e) (hq _ _ _ s.heap s.toks h Rp rv (Stp.refl ..))
theorem O2_getT {k : Int} {vs : List V} {v : V} {Q : V → Store → Prop} (h0 : 0 ≤ k) (hv : vs[k.toNat]? = some v) (hz : vs.length ≤ 1000000) (h : Q v σ) : Ow2 C d VRel (.tup vs) (.int k) getItem Q σ := by
  rintro A E s Qc _ _ rm Rp ⟨a, n, ws, rfl, ha, r⟩ ⟨t, rfl⟩ hq
  obtain ⟨w, e, rv⟩ := r.at hv
  have hlt : k.toNat < vs.length := (List.getElem?_eq_some_iff.mp hv).1
  have hsz : ws.size = vs.length := by have := r.length; simpa using this
  exact PyProof.Rows.getItem_tuple (j := k.toNat) ⟨_, ha, rfl, n, rfl⟩ (by omega) (by omega) (by
      unfold seqIndex?
      rw [hsz]
      split <;> first | omega | (split <;> first | rfl | omega) | simp_all <;> omega) (by rw [← Array.getElem?_toList]; exact e) (hq _ _ _ s.heap s.toks h Rp rv (Stp.refl ..))
theorem O2_getD {a : Addr} {k : Int} {kvs : List (Int × V)} {v : V} {Q : V → Store → Prop} (ha : σ a = some (.idict kvs)) (hv : getK k kvs = some v) (h : Q v σ) : Ow2 C d VRel (.ref a) (.int k) getItem Q σ := by
  rintro A E s Qc u _ rm Rp e1 ⟨t, rfl⟩ hq
  have e1 : u = .ref a := e1
  subst e1
  obtain ⟨cvs, hd, hk, r⟩ := Rp.objs a _ ha
  obtain ⟨w, e, rv⟩ := valueAt_rel hk r hv
  exact wpAny_getItem_of (intIs _ _ k t) hd.mapOf e (hq _ _ _ s.heap _ h Rp rv (Stp.refl ..))
theorem O2_getS {a : Addr} {k : Str} {kvs : List (Str × V)} {v : V} {Q : V → Store → Prop} (ha : σ a = some (.sdict kvs)) (hv : getK k kvs = some v) (h : Q v σ) : Ow2 C d VRel (.ref a) (.str k) getItem Q σ := by
  rintro A E s Qc u _ rm Rp e1 ⟨t, rfl⟩ hq
  have e1 : u = .ref a := e1
  subst e1
  obtain ⟨cvs, hd, hk, r⟩ := Rp.objs a _ ha
  obtain ⟨w, e, rv⟩ := valueAt_rel hk r hv
  exact wpAny_getItem_of (strKind_is _ _ k t) hd.mapOf e (hq _ _ _ s.heap _ h Rp rv (Stp.refl ..))

theorem ITEM_types {v : V} {w : Value} {s : Shared} (h : VRel s.heap v w) (hv : (∃ vs, v = .tup vs) ∨ ∃ a o, v = .ref a ∧ σ a = some o ∧ ∀ k f, o ≠ .ns k f) (R : Rep C σ s.heap) :
    ∃ T id, s.TypeIs w T ∧ typeLookup (.type T) "__getitem__" = pure (some (.builtin id)) := by
  rcases hv with ⟨vs, rfl⟩ | ⟨a, o, rfl, e, hns⟩
  · obtain ⟨a, n, ws, rfl, ha, _⟩ := h
    exact ⟨"tuple", _, ⟨_, ha, rfl⟩, slot_tuple_getitem.lookup⟩
  · have h : w = .ref a := h
    subst h
    have r := R.objs a o e
    cases o with
    | list vs => obtain ⟨ws, l, _⟩ := r; exact ⟨"list", _, l.isList.typeIs, slot_list_getitem.lookup⟩
    | idict kvs => obtain ⟨cvs, hd, _⟩ := r; exact ⟨"dict", _, hd.typeIs, slot_dict_getitem.lookup⟩
    | sdict kvs => obtain ⟨cvs, hd, _⟩ := r; exact ⟨"dict", _, hd.typeIs, slot_dict_getitem.lookup⟩
    | ns k f => exact absurd rfl (hns k f)

/-- `o[i]` -/
theorem Ew_Subscript {value slice : Expr} {pos} {Q : V → Store → Prop}
    (h : Ew C d env ρ VRel (eval value env) (fun u σ₁ => Ew C d env ρ VRel (eval slice env) (fun v σ₂ =>
      ((∃ vs, u = .tup vs) ∨ ∃ a o, u = .ref a ∧ σ₂ a = some o ∧ ∀ k f, o ≠ .ns k f) ∧ Ow2 C d VRel u v getItem Q σ₂) σ₁) σ)
    (hs : ∀ o i, ∃ ops, subscripted slice false o i = operate ops (getItem o i) := by intro o i; exact ⟨_, by with_unfolding_all rfl⟩) :
    Ew C d env ρ VRel (eval (.Subscript value slice pos) env) Q σ :=
  fun A E s Qc rm Rp F hq => Subscript_ (h A E s _ rm Rp F fun u σ₁ x h₁ k₁ q₁ R₁ r₁ s₁ => q₁ A E _ _ rm R₁ (F.keep Rp s₁) fun v σ₂ y h₂ k₂ q₂ R₂ r₂ s₂ => by
    obtain ⟨T, id, hT, hl⟩ := ITEM_types (s := { s with heap := h₂, toks := k₂ }) (R₁.val s₂.keep r₁) q₂.1 R₂
    obtain ⟨ops, e⟩ := hs x y
    exact tail_any hT hl (q₂.2 A E _ _ x y rm R₂ (R₁.val s₂.keep r₁) r₂ fun b σ' z h' tk qb R' rb s' => hq b σ' z h' tk qb R' rb ((s₁.trans s₂).trans s')) e)

def Ow3 {α β : Type} (C : Cx) (d : Nat) (R : Heap → β → α → Prop) (u v x : V) (t : Value → Value → Value → Sem α) (Q : β → Store → Prop) (σ : Store) : Prop :=
  ∀ (A : Around) (E : Value → Shared → Prop) (s : Shared) (Qc : α → Shared → Prop) (y w z : Value), Room d A → Rep C σ s.heap → VRel s.heap u y → VRel s.heap v w → VRel s.heap x z →
    (∀ b σ' r h' tk, Q b σ' → Rep C σ' h' → R h' b r → Stp σ σ' s.heap h' → Qc r { s with heap := h', toks := tk }) → wpAny C.M A (t y w z) Qc E s
def URel (_ : Heap) (_ : Unit) (_ : Unit) : Prop := True

theorem hasK_len {K : Type} [DecidableEq K] (k : K) (v : V) (kvs : List (K × V)) : (putK k v kvs).length ≤ kvs.length + 1 := by
  unfold putK; split <;> simp

theorem dict_set {K : Type} [DecidableEq K] {knd : KeyKind C.prog C.w K} {mk : List (K × V) → O} (hmk : ∀ (h : Heap) (a : Addr) (kvs : List (K × V)), ORel C.prog C.w h a (mk kvs) ↔ ∃ cvs : List (K × Value), h.DictOf knd a cvs ∧ cvs.map (·.1) = kvs.map (·.1) ∧ VRels h (kvs.map (·.2)) (cvs.map (·.2)))
    {a : Addr} {kvs : List (K × V)} {k : K} {key : Value} {v : V} {w : Value} {A : Around} {E : Value → Shared → Prop} {s : Shared} {Qc : Unit → Shared → Prop} (hkey : knd.is k key = true) (Rp : Rep C σ s.heap) (ha : σ a = some (mk kvs)) (rv : VRel s.heap v w) (hz : kvs.length ≤ 1000000)
    (hq : ∀ h' tk, Rep C (σ.set a (mk (putK k v kvs))) h' → Stp σ (σ.set a (mk (putK k v kvs))) s.heap h' → Qc () { s with heap := h', toks := tk }) : wpAny C.M A (setItem (.ref a) key w) Qc E s := by
  obtain ⟨cvs, hd, hk, r⟩ := (hmk _ _ _).mp (Rp.objs a _ ha)
  have hlen : cvs.length = kvs.length := by have := congrArg List.length hk; simpa using this
  refine wpAny_setItem_pairs hkey hd (fun h' hd' hs' => ?_) (by rw [hlen, sizeLine_eq]; omega)
  have kp : KeepsIm s.heap h' := fun b o e im => hs'.extBut b o (fun z => by
    subst z
    obtain ⟨o', _, _, e', x, hdd, _⟩ := hd
    rw [e] at e'; cases e'
    exact notIm_dict hdd im) e
  obtain ⟨e1, e2⟩ := stored_keys (h := h') (k := k) (v := v) (w := w) hk (VRels.keep kp _ _ r) (VRel.keep kp _ _ rv)
  obtain ⟨R', s'⟩ := Rp.change (o' := mk (putK k v kvs)) ha (fun b co z e => hs'.extBut b co z e) ((hmk _ _ _).mpr ⟨_, hd', e1, e2⟩)
  exact hq h' _ R' s'

theorem O3_setD {a : Addr} {k : Int} {kvs : List (Int × V)} {v : V} {Q : Unit → Store → Prop} (ha : σ a = some (.idict kvs)) (hz : kvs.length ≤ 1000000) (h : Q () (σ.set a (.idict (putK k v kvs)))) : Ow3 C d URel (.ref a) (.int k) v setItem Q σ := by
  rintro A E s Qc u _ z rm Rp e1 ⟨t, rfl⟩ rv hq
  have e1 : u = .ref a := e1
  subst e1
  exact dict_set (mk := .idict) (fun _ _ _ => Iff.rfl) (intIs _ _ k t) Rp ha rv hz fun h' tk R' s' => hq _ _ _ _ _ h R' trivial s'
theorem O3_setS {a : Addr} {k : Str} {kvs : List (Str × V)} {v : V} {Q : Unit → Store → Prop} (ha : σ a = some (.sdict kvs)) (hz : kvs.length ≤ 1000000) (h : Q () (σ.set a (.sdict (putK k v kvs)))) : Ow3 C d URel (.ref a) (.str k) v setItem Q σ := by
  rintro A E s Qc u _ z rm Rp e1 ⟨t, rfl⟩ rv hq
  have e1 : u = .ref a := e1
  subst e1
  exact dict_set (mk := .sdict) (fun _ _ _ => Iff.rfl) (strKind_is _ _ k t) Rp ha rv hz fun h' tk R' s' => hq _ _ _ _ _ h R' trivial s'

theorem mapSeq_set (its : Array Value) (n i : Nat) (v : Value) :
    Obj.mapSeq (·.setIfInBounds i v) { cls := .type "list", data := .seq its n } = { cls := .type "list", data := .seq (its.setIfInBounds i v) n } := by simp [Obj.mapSeq]
theorem VRels.set {h : Heap} : ∀ {vs : List V} {ws : List Value} {i : Nat} {v : V} {w : Value}, VRels h vs ws → VRel h v w → VRels h (vs.set i v) (ws.set i w)
  | [], ws, i, v, w, x, y => by have e : ws = [] := x; subst e; exact x
  | u :: vs, ws, 0, v, w, x, y => by
    obtain ⟨w', ws', rfl, a, b⟩ := x
    exact VRels.cons y b
  | u :: vs, ws, i + 1, v, w, x, y => by
    obtain ⟨w', ws', rfl, a, b⟩ := x
    exact VRels.cons a (VRels.set b y)
theorem setItem_plain {prog : Program} {w : World} {A : Around} {E : Value → Shared → Prop} {s : Shared} {l : Addr} {its : Array Value} {k : Int} {t : Tok} {v : Value} {Q : Unit → Shared → Prop} (hl : s.heap.PlainList l its) (h0 : 0 ≤ k) (hk : k.toNat < its.size) (hfit : k < 2 ^ 63)
    (hQ : ∀ h', h'.PlainList l (its.setIfInBounds k.toNat v) → Heap.SameBut l s.heap h' → Q () { s with heap := h' }) : wpAny (model prog w) A (setItem (.ref l) (.int k t) v) Q E s := by
  obtain ⟨n, ho⟩ := hl
  have hT : s.TypeIs (.ref l) "list" := ⟨_, ho, rfl⟩
  unfold setItem
  try with_reducible refine wpAny_holding ?_
  refine wpAny_bind (wpAny_sequenceKey hT (by decide) ?_)
  refine wpAny_bind (wpAny_callSpecial?_slot (name := Str.ofString "__setitem__") hT slot_list_setitem
    (wpAny_call_entry slot_list_setitem hT entry_list_setitem ?_ (args_list_setitem _ _ _)))
  show wpAny _ _ (Builtin.List.listSubscript? (.int k t) >>= _) _ _ s
  refine wpAny_bind (wpAny_listSubscript_int (fitsIndex_of h0 hfit) ?_)
  clear hfit
  obtain ⟨j, rfl⟩ := Int.eq_ofNat_of_zero_le h0
  have hj : j < its.size := hk
  show wpAny _ _ ((seqItemAt l j >>= fun r => pure (r.map (j, ·))) >>= _) _ _ s
  refine wpAny_bind (wpAny_bind (wpAny_seqItemAt ho rfl (wpAny_pure ?_)))
  rw [Array.getElem?_eq_getElem hj]
  show wpAny _ _ (setSeqItemAt l j v >>= _) _ _ s
  have fin : (s.heap.update l (Obj.mapSeq (·.setIfInBounds j v))).PlainList l (its.setIfInBounds j v) := ⟨n, by rw [Heap.get?_update_self _ ho (by rw [mapSeq_set]; rfl), mapSeq_set]⟩
  refine wpAny_bind (wpAny_setSeqItemAt ho rfl ?_)
  exact wpAny_pure ⟨.none, rfl, wpAny_pure (hQ _ fin (Heap.SameBut.update ..))⟩
theorem O3_setL {a : Addr} {k : Int} {vs : List V} {v : V} {Q : Unit → Store → Prop} (ha : σ a = some (.list vs)) (h0 : 0 ≤ k) (h1 : k.toNat < vs.length) (hz : vs.length ≤ 1000000) (h : Q () (σ.set a (.list (vs.set k.toNat v)))) : Ow3 C d URel (.ref a) (.int k) v setItem Q σ := by
  rintro A E s Qc u _ z rm Rp e1 ⟨t, rfl⟩ rv hq
  have e1 : u = .ref a := e1
  subst e1
  obtain ⟨ws, l, r⟩ := Rp.list ha
  obtain ⟨j, rfl⟩ := Int.eq_ofNat_of_zero_le h0
  have hsz : ws.size = vs.length := by have := r.length; simpa using this
  simp only [Int.toNat_natCast] at h1 h
  refine setItem_plain l h0 (by simpa [hsz] using h1) (by omega) fun h' l' s' => ?_
  have kp : KeepsIm s.heap h' := fun b o e im => s'.extBut b o (fun z => by
    subst z
    obtain ⟨n, e'⟩ := l
    rw [e] at e'; cases e'
    exact notIm_list rfl rfl im) e
  obtain ⟨R', st⟩ := Rp.change (o' := .list (vs.set j v)) ha (fun b co z e => s'.extBut b co z e) ⟨_, l', by rw [Array.toList_setIfInBounds]; exact (VRels.keep kp _ _ r).set (VRel.keep kp _ _ rv)⟩
  exact hq _ _ _ _ s.toks h R' trivial st
end
end Mine

open PySem PySem.W PyProof.Rows PySem.Calls PyProof.V PySem.Spec PySem.SeqAt
set_option Elab.async false
set_option linter.all false
set_option maxRecDepth 100000
namespace Mine
def Fra.set (ρ : Fra) (x : Str) (v : V) : Fra := fun y => if y = x then some v else ρ y
@[simp] theorem Fra.set_self (ρ : Fra) (x : Str) (v : V) : ρ.set x v x = some v := by simp [Fra.set]
theorem Fra.set_ne {ρ : Fra} {x y : Str} {v : V} (h : y ≠ x) : ρ.set x v y = ρ y := by simp [Fra.set, h]

inductive Fl where
  | next | brk | cont
  | ret (v : V)
def FRel (h : Heap) : Fl → Flow → Prop
  | .next, f => f = .next
  | .brk, f => f = .brk
  | .cont, f => f = .cont
  | .ret v, f => ∃ w, f = .ret w ∧ VRel h v w

section
variable {C : Cx} {d : Nat} {env : Env} {ρ : Fra} {σ : Store}

theorem Heap.Ns.obj {h : Heap} {a : Addr} {m} (n : h.Ns a m) : ∃ o es ep, h.get? a = some o ∧ o.data = .dict es ep := let ⟨o, es, ep, a, b, _⟩ := n; ⟨o, es, ep, a, b⟩

/-- a change at one address that is no object of the store's, nor of the ground, nor an immutable one -/
theorem Rep.aside {h h' : Heap} {a : Addr} {co : Obj} (R : Rep C σ h) (e : h.get? a = some co) (ni : ¬ ImObj co) (n : σ a = none) (g : C.g.get? a = none) (s : Heap.SameBut a h h') : KeepsIm h h' ∧ Rep C σ h' := by
  have k : KeepsIm h h' := fun b o q im => (s.2 b (fun z => by subst z; rw [e] at q; cases q; exact ni im)).trans q
  refine ⟨k, R.ok, fun b o q => (s.2 b (fun z => by subst z; rw [g] at q; cases q)).trans (R.base b o q), R.off, fun b o q => (R.objs b o q).keep k fun co q' => (s.2 b (fun z => by subst z; rw [n] at q; cases q)).trans q'⟩

theorem g_none {h : Heap} {a : Addr} (x : C.g.objs.size ≤ a) : C.g.get? a = none := by
  cases q : C.g.get? a with
  | none => rfl
  | some o => exact absurd (Heap.lt_size q) (Nat.not_lt.mpr x)

theorem wp_storeL {A : Around} {E : Value → Shared → Prop} {s : Shared} {x : Str} {v : V} {w : Value} {Q : Unit → Shared → Prop} (Rp : Rep C σ s.heap) (F : FrameRep C env ρ σ s.heap) (rv : VRel s.heap v w) (hk : env.kindOf x = some .local)
    (hq : ∀ h' tk, Rep C σ h' → FrameRep C env (ρ.set x v) σ h' → Heap.SameBut env.locals s.heap h' → KeepsIm s.heap h' → Q () { s with heap := h', toks := tk }) : wpAny C.M A (storeName env x w) Q E s := by
  obtain ⟨m, hn, hm⟩ := F.ns
  refine wpAny_storeName_local hk hn (fun h' hn' hs' => ?_) (by rw [F.kind]; rfl)
  obtain ⟨co, es, ep, e, ed⟩ := Heap.Ns.obj hn
  obtain ⟨k, R'⟩ := Rp.aside e (notIm_dict ed) F.off F.above hs'
  refine hq h' _ R' ⟨F.kind, F.glob, F.blt, F.above, F.off, ⟨_, hn', fun y u ey ky => ?_⟩, fun y u ey ky => ?_, fun y c ec => ?_, F.apart⟩ hs' k
  · by_cases z : y = x
    · subst z; simp at ey; subst ey; exact ⟨w, by simp, VRel.keep k _ _ rv⟩
    · rw [Fra.set_ne z] at ey
      obtain ⟨w', a, b⟩ := hm y u ey ky
      exact ⟨w', by simp [z, a], VRel.keep k _ _ b⟩
  · have z : y ≠ x := fun z => ky (by rw [z]; exact hk)
    rw [Fra.set_ne z] at ey
    obtain ⟨a, a', c, w', b1, b2, b3⟩ := F.cell y u ey ky
    exact ⟨a, a', c, w', b1, b2.sameBut hs' (F.cells y c b1).2.2.1, VRel.keep k _ _ b3⟩
  · obtain ⟨a, b0, b, v', b2⟩ := F.cells y c ec
    exact ⟨a, b0, b, v', b2.sameBut hs' b⟩

theorem StpF.of_sameBut {h h' : Heap} {a : Addr} (s : Heap.SameBut a h h') (ha : a = env.locals ∨ (env.func.isSome = true ∧ ∃ x, env.cells.lookup x = some a)) (e : ∃ o, h'.get? a = some o) : StpF env σ σ h h' := by
  refine ⟨fun b o q n n1 n2 => (s.2 b (fun z => ?_)).trans q, fun b o q => .inl ⟨o, q⟩, fun b o q => ?_⟩
  · subst z
    rcases ha with ha | ⟨hf, x, ha⟩
    · exact n1 ha
    · exact n2 hf x ha
  · by_cases z : b = a
    · subst z; exact e
    · exact ⟨o, (s.2 b z).trans q⟩

theorem wp_storeC {A : Around} {E : Value → Shared → Prop} {s : Shared} {x : Str} {c : Addr} {v : V} {w : Value} {Q : Unit → Shared → Prop} (Rp : Rep C σ s.heap) (F : FrameRep C env ρ σ s.heap) (rv : VRel s.heap v w) (hk : env.kindOf x = some .cell) (hc : env.cells.lookup x = some c) (hx : (x == ("__classdict__" : Str)) = false)
    (hq : ∀ h' tk, Rep C σ h' → FrameRep C env (ρ.set x v) σ h' → Heap.SameBut c s.heap h' → (∃ o, h'.get? c = some o) → Q () { s with heap := h', toks := tk }) : wpAny C.M A (storeName env x w) Q E s := by
  obtain ⟨a0, b0, n0, v0, hv0⟩ := F.cells x c hc
  obtain ⟨m, hn, hm⟩ := F.ns
  refine wpAny_storeName_cell F.kind hk hc hv0 fun h' hc' hs' => ?_
  obtain ⟨co, e, ed⟩ := id hv0
  obtain ⟨k, R'⟩ := Rp.aside e (notIm_cell ed) a0 b0 hs'
  have hc2 := hc'
  obtain ⟨oc, eoc, _⟩ := hc2
  refine hq h' s.toks R' ⟨F.kind, F.glob, F.blt, F.above, F.off, ⟨m, hn.sameBut hs' (Ne.symm n0), fun y u ey ky => ?_⟩, fun y u ey ky => ?_, fun y c' ec => ?_, F.apart⟩ hs' ⟨oc, eoc⟩
  · have z : y ≠ x := fun z => by rw [z, hk] at ky; cases ky
    rw [Fra.set_ne z] at ey
    obtain ⟨w', a, b⟩ := hm y u ey ky
    exact ⟨w', a, VRel.keep k _ _ b⟩
  · by_cases z : y = x
    · subst z; simp at ey; subst ey; exact ⟨.inl hk, hx, c, w, hc, hc', VRel.keep k _ _ rv⟩
    · rw [Fra.set_ne z] at ey
      obtain ⟨a, a', c', w', b1, b2, b3⟩ := F.cell y u ey ky
      exact ⟨a, a', c', w', b1, b2.sameBut hs' (fun q => z (F.apart y x c' b1 (by rw [q]; exact hc))), VRel.keep k _ _ b3⟩
  · obtain ⟨a, b1, b, v', b2⟩ := F.cells y c' ec
    by_cases z : c' = c
    · subst z; exact ⟨a, b1, b, _, hc'⟩
    · exact ⟨a, b1, b, v', b2.sameBut hs' z⟩

/-- what a name can take -/
def Takes (env : Env) (x : Str) : Prop := env.kindOf x = some .local ∨ (env.kindOf x = some .cell ∧ env.func.isSome = true ∧ (x == ("__classdict__" : Str)) = false ∧ ∃ c, env.cells.lookup x = some c)

theorem wp_store {A : Around} {E : Value → Shared → Prop} {s : Shared} {x : Str} {v : V} {w : Value} {Q : Unit → Shared → Prop} (Rp : Rep C σ s.heap) (F : FrameRep C env ρ σ s.heap) (rv : VRel s.heap v w) (hk : Takes env x)
    (hq : ∀ h' tk, Rep C σ h' → FrameRep C env (ρ.set x v) σ h' → StpF env σ σ s.heap h' → Q () { s with heap := h', toks := tk }) : wpAny C.M A (storeName env x w) Q E s := by
  rcases hk with hk | ⟨hk, hf, hx, c, hc⟩
  · refine wp_storeL Rp F rv hk fun h' tk R' F' hs' k' => hq h' tk R' F' (StpF.of_sameBut hs' (.inl rfl) ?_)
    obtain ⟨m, hn, _⟩ := F'.ns
    obtain ⟨o, _, _, e, _⟩ := Heap.Ns.obj hn
    exact ⟨o, e⟩
  · exact wp_storeC Rp F rv hk hc hx fun h' tk R' F' hs' e' => hq h' tk R' F' (StpF.of_sameBut hs' (.inr ⟨hf, x, hc⟩) e')

/-! targets -/
def Asg (C : Cx) (d : Nat) (env : Env) (t : Expr) (v : V) (Q : Fra → Store → Prop) (ρ : Fra) (σ : Store) : Prop :=
  ∀ (A : Around) (E : Value → Shared → Prop) (s : Shared) (Qc : Unit → Shared → Prop) (w : Value), Room d A → Rep C σ s.heap → FrameRep C env ρ σ s.heap → VRel s.heap v w →
    (∀ ρ' σ' h' tk, Q ρ' σ' → Rep C σ' h' → FrameRep C env ρ' σ' h' → StpF env σ σ' s.heap h' → Qc () { s with heap := h', toks := tk }) → wpAny C.M A (assign t env w) Qc E s
def AsgL (C : Cx) (d : Nat) (env : Env) (ts : List Expr) (vs : List V) (Q : Fra → Store → Prop) (ρ : Fra) (σ : Store) : Prop :=
  ∀ (A : Around) (E : Value → Shared → Prop) (s : Shared) (Qc : Unit → Shared → Prop) (ws : List Value), Room d A → Rep C σ s.heap → FrameRep C env ρ σ s.heap → VRels s.heap vs ws →
    (∀ ρ' σ' h' tk, Q ρ' σ' → Rep C σ' h' → FrameRep C env ρ' σ' h' → StpF env σ σ' s.heap h' → Qc () { s with heap := h', toks := tk }) → wpAny C.M A (assignInOrder ((assignEach ts env).map (·.2)) ws) Qc E s

theorem Asg_Name {x : Str} {pos} {v : V} {Q : Fra → Store → Prop} (hk : Takes env x) (h : Q (ρ.set x v) σ) : Asg C d env (.Name x pos) v Q ρ σ :=
  fun A E s Qc w rm Rp F rv hq => wpAny_assign_Name (wp_store Rp F rv hk fun h' tk R' F' st => hq _ _ _ _ h R' F' st)

theorem AsgL_nil {Q : Fra → Store → Prop} (h : Q ρ σ) : AsgL C d env [] [] Q ρ σ :=
  fun A E s Qc ws rm Rp F rv hq => by
    have e : ws = [] := rv
    subst e
    exact wpAny_pure (hq _ _ s.heap s.toks h Rp F (Stp.refl ..).toF)

theorem VRels.im {h h' : Heap} (k : KeepsIm h h') {vs : List V} {ws : List Value} (x : VRels h vs ws) : VRels h' vs ws := VRels.keep k _ _ x

theorem StpF.im {σ' : Store} {h h' : Heap} (s : StpF env σ σ' h h') (R : Rep C σ h) (F : FrameRep C env ρ σ h) : KeepsIm h h' := fun b o e im => by
  refine s.keep b o e ?_ ?_ ?_
  · cases q : σ b with
    | none => rfl
    | some o' => obtain ⟨co, e', c⟩ := (R.objs b o' q).cls; rw [e] at e'; cases e'; exact absurd im c
  · rintro rfl
    obtain ⟨m, hn, _⟩ := F.ns
    obtain ⟨o', _, _, e', ed⟩ := Heap.Ns.obj hn
    rw [e] at e'; cases e'
    exact notIm_dict ed im
  · intro _ x hx
    obtain ⟨_, _, _, v, o', e', ed⟩ := F.cells x b hx
    rw [e] at e'; cases e'
    exact notIm_cell ed im

theorem AsgL_cons {t : Expr} {ts : List Expr} {v : V} {vs : List V} {Q : Fra → Store → Prop} (h : Asg C d env t v (fun ρ₁ σ₁ => AsgL C d env ts vs Q ρ₁ σ₁) ρ σ)
    (he : assignEach (t :: ts) env = (false, assign t env) :: assignEach ts env := by rfl) : AsgL C d env (t :: ts) (v :: vs) Q ρ σ :=
  fun A E s Qc ws rm Rp F rv hq => by
    obtain ⟨w, ws', rfl, a, b⟩ := rv
    rw [he]
    show wpAny C.M A (do holding ws' (assign t env w); assignInOrder ((assignEach ts env).map (·.2)) ws') Qc E s
    exact wpAny_bind (wpAny_holding (h A E s _ w rm Rp F a fun ρ₁ σ₁ h₁ k₁ q₁ R₁ F₁ s₁ => q₁ A E _ _ ws' rm R₁ F₁ (b.im (s₁.im Rp F)) fun ρ' σ' h' tk q R' F' s' => hq _ _ _ _ q R' F' (s₁.trans s')))

theorem assignEach_length {env : Env} : ∀ {ts : List Expr}, (assignEach ts env).length = ts.length
  | [] => rfl
  | t :: ts => by cases t <;> simp [assignEach, assignEach_length (ts := ts)]

theorem Asg_Tuple {ts : List Expr} {x1 pos} {vs : List V} {Q : Fra → Store → Prop} (hl : vs.length = ts.length) (h : AsgL C d env ts vs Q ρ σ) (hstar : (assignEach ts env).findIdx? (·.1) = none := by rfl) : Asg C d env (.Tuple ts x1 pos) (.tup vs) Q ρ σ :=
  fun A E s Qc w rm Rp F rv hq => by
    obtain ⟨a, n, ws, rfl, ha, r⟩ := rv
    have hsz : ws.size = vs.length := by have := r.length; simpa using this
    refine wpAny_assign_Tuple rm.hh ⟨_, ha, rfl, n, rfl⟩ (by rw [assignEach_length, hsz, hl]) hstar fun h' hx => ?_
    have kp : ∀ b o, s.heap.get? b = some o → h'.get? b = some o := fun b o e => hx b o (Nat.ne_of_lt (Heap.lt_size e)) e
    have st : Stp σ σ s.heap h' := ⟨fun b o e _ => kp b o e, fun _ o e => .inl ⟨o, e⟩, fun b o e => ⟨o, kp b o e⟩⟩
    have R' : Rep C σ h' := ⟨Rp.ok, fun b o e => kp b o (Rp.base b o e), Rp.off, fun b o e => (Rp.objs b o e).keep (Rp.im st.keep) fun co q => kp b co q⟩
    exact h A E _ _ ws.toList rm R' (F.keep Rp st) (Rp.vals st.keep r) fun ρ' σ' h'' tk q R'' F'' s'' => hq _ _ _ _ q R'' F'' (st.toF.trans s'')

theorem Asg_Subscript {o i : Expr} {pos} {v : V} {Q : Fra → Store → Prop}
    (h : Ew C d env ρ VRel (eval o env) (fun u σ₁ => Ew C d env ρ VRel (eval i env) (fun k σ₂ => Ow3 C d URel u k v setItem (fun _ σ₃ => Q ρ σ₃) σ₂) σ₁) σ)
    (hs : ∀ (v ov iv : Value), (match i with | .Slice _ _ none _ => [iv, v, ov] | _ => [v, ov, iv]) = [v, ov, iv] := by intros; rfl) : Asg C d env (.Subscript o i pos) v Q ρ σ :=
  fun A E s Qc w rm Rp F rv hq => by
    rw [assign_Subscript]
    refine wpAny_bind (wpAny_holding (h A E s _ rm Rp F fun u σ₁ x h₁ k₁ q₁ R₁ r₁ s₁ => ?_))
    refine wpAny_bind (wpAny_holding (q₁ A E _ _ rm R₁ (F.keep Rp s₁) fun k σ₂ y h₂ k₂ q₂ R₂ r₂ s₂ => ?_))
    refine wpAny_bind (wpAny_standAt (wpAny_bind (wpAny_holding (q₂ A E _ _ x y w rm R₂ (R₁.val s₂.keep r₁) r₂ (R₁.val s₂.keep (Rp.val s₁.keep rv)) fun b σ₃ z h₃ k₃ q₃ R₃ _ s₃ => ?_))))
    have st := (s₁.trans s₂).trans s₃
    exact wpAny_release (hq _ _ _ _ q₃ R₃ (F.keep Rp st) st.toF)
end
end Mine

open PySem PySem.W PyProof.Rows PySem.Calls PyProof.V PySem.Spec PySem.SeqAt
set_option Elab.async false
set_option linter.all false
set_option maxRecDepth 100000
namespace Mine

inductive It where
  | list (a : Addr)
  | tup (vs : List V)
  | rng (lo st : Int) (n : Nat)
  | enum (a : Addr)

def It.ok (σ : Store) : It → Prop
  | .list a => ∃ vs, σ a = some (.list vs)
  | .enum a => ∃ vs, σ a = some (.list vs)
  | _ => True
def lof (σ : Store) (a : Addr) : List V := match σ a with
  | some (.list vs) => vs
  | _ => []
theorem lof_of {σ : Store} {a : Addr} {vs : List V} (h : σ a = some (.list vs)) : lof σ a = vs := by unfold lof; rw [h]
def It.at (σ : Store) (i : Nat) : It → Option V
  | .list a => (lof σ a)[i]?
  | .tup vs => vs[i]?
  | .rng lo st n => if i < n then some (.int (lo + i * st)) else none
  | .enum a => ((lof σ a)[i]?).map fun v => .tup [.int i, v]

def ItRel (h : Heap) (I : Addr) (fp : List Addr) (i : Nat) : It → Prop
  | .list a => fp = [I] ∧ h.IsListIter I a i
  | .tup vs => fp = [I] ∧ ∃ t n ws, h.get? t = some { cls := .type "tuple", data := .seq ws n } ∧ VRels h vs ws.toList ∧ h.IsTupleIter I t i
  | .rng lo st n => fp = [I] ∧ IsRangeIter h I (lo + i * st) (n - i) st
  | .enum a => ∃ it old, fp = [I, it] ∧ I ≠ it ∧ IsEnum h I it i old ∧ h.IsListIter it a i

theorem notIm_listiter {h : Heap} {I a : Addr} {i : Nat} (x : h.IsListIter I a i) : ∃ o, h.get? I = some o ∧ ¬ ImObj o := by
  obtain ⟨o, e, c, dd⟩ := x
  exact ⟨o, e, notIm_iter dd (by rw [c]; intro q; injection q with q; exact absurd q (by decide))⟩
theorem ItRel.live {h : Heap} {I : Addr} {fp : List Addr} {i : Nat} {it : It} (x : ItRel h I fp i it) : I ∈ fp ∧ ∀ b ∈ fp, ∃ o, h.get? b = some o ∧ ¬ ImObj o := by
  cases it with
  | list a => obtain ⟨rfl, q⟩ := x; exact ⟨.head _, fun b hb => by rw [List.mem_singleton.mp hb]; exact notIm_listiter q⟩
  | tup vs =>
    obtain ⟨rfl, t, n, ws, _, _, o, e, c, dd⟩ := x
    exact ⟨.head _, fun b hb => by rw [List.mem_singleton.mp hb]; exact ⟨o, e, notIm_iter dd (by rw [c]; intro q; injection q with q; exact absurd q (by decide))⟩⟩
  | rng lo st n =>
    obtain ⟨rfl, q⟩ := x
    exact ⟨.head _, fun b hb => by rw [List.mem_singleton.mp hb]; exact ⟨_, q, notIm_iter rfl (by intro q; injection q with q; exact absurd q (by decide))⟩⟩
  | enum a =>
    obtain ⟨it, old, rfl, ne, q, q2⟩ := x
    refine ⟨.head _, fun b hb => ?_⟩
    rcases List.mem_cons.mp hb with rfl | hb
    · exact ⟨_, q, notIm_iter rfl (by intro q; injection q with q; exact absurd q (by decide))⟩
    · rw [List.mem_singleton.mp hb]; exact notIm_listiter q2
theorem ItRel.keep {h h' : Heap} {I : Addr} {fp : List Addr} {i : Nat} {it : It} (x : ItRel h I fp i it) (k : ∀ b ∈ fp, ∀ o, h.get? b = some o → h'.get? b = some o) (im : KeepsIm h h') : ItRel h' I fp i it := by
  cases it with
  | list a => obtain ⟨rfl, o, e, r⟩ := x; exact ⟨rfl, o, k _ (.head _) _ e, r⟩
  | tup vs => obtain ⟨rfl, t, n, ws, e0, r0, o, e, r⟩ := x; exact ⟨rfl, t, n, ws, im _ _ e0 (.inl ⟨rfl, _, _, rfl⟩), VRels.keep im _ _ r0, o, k _ (.head _) _ e, r⟩
  | rng lo st n => obtain ⟨rfl, q⟩ := x; exact ⟨rfl, k _ (.head _) _ q⟩
  | enum a => obtain ⟨it, old, rfl, ne, q, o, e, r⟩ := x; exact ⟨it, old, rfl, ne, k _ (.head _) _ q, o, k _ (.tail _ (.head _)) _ e, r⟩

/-- which targets go with which iterators -/
def TgtOk (t : Expr) (it : It) : Prop := ((∃ x p, t = .Name x p) ∧ ∀ a, it ≠ .enum a) ∨ ((∃ es k p, t = .Tuple es k p) ∧ ∃ a, it = .list a ∨ it = .enum a)

section
variable {C : Cx} {d : Nat} {env : Env} {ρ : Fra} {σ : Store}

def KeepBut (fp : List Addr) (h h' : Heap) : Prop := ∀ b o, b ∉ fp → h.get? b = some o → h'.get? b = some o

theorem KeepBut.im {h h' : Heap} {fp : List Addr} (k : KeepBut fp h h') (l : ∀ b ∈ fp, ∃ o, h.get? b = some o ∧ ¬ ImObj o) : KeepsIm h h' := fun b o e im => k b o (fun q => by
  obtain ⟨o', e', n⟩ := l b q
  rw [e] at e'; cases e'; exact n im) e

theorem it_item {A : Around} {E : Value → Shared → Prop} {s : Shared} {I : Addr} {fp : List Addr} {i : Nat} {it : It} {t : Expr} {v : V} {Q : Value → Shared → Prop} (Rp : Rep C σ s.heap) (x : ItRel s.heap I fp i it) (ht : TgtOk t it)
    (off : ∀ b ∈ fp, σ b = none) (ok : it.ok σ) (e : it.at σ i = some v)
    (hq : ∀ w h' tk, VRel h' v w → ItRel h' I fp (i + 1) it → KeepBut fp s.heap h' → Q w { s with heap := h', toks := tk }) :
    wpAny C.M A (pyNext (.ref I)) (fun r s₁ => match r with | none => False | some w => wpAny C.M A (letOwnedTupleGo t (.ref I) w) (fun _ s₂ => Q w s₂) E s₁) E s := by
  have live := x.live
  cases it with
  | list a =>
    obtain ⟨rfl, hit⟩ := x
    obtain ⟨vs, ha⟩ := ok
    simp only [It.at, lof_of ha] at e
    obtain ⟨ws, l, r⟩ := Rp.list ha
    obtain ⟨w, ew, rv⟩ := r.at e
    refine wpAny_pyNext_list_item hit l.isList (x := w) (by rw [← Array.getElem?_toList]; exact ew) fun h' hit' hs' => ?_
    have kb : KeepBut [I] s.heap h' := fun b o hb e => hs'.extBut b o (fun z => hb (by rw [z]; exact .head _)) e
    have fin := hq w h' s.toks (VRel.keep (kb.im live.2) _ _ rv) ⟨rfl, hit'⟩ kb
    rcases ht with ⟨⟨y, p, rfl⟩, _⟩ | ⟨⟨es, k, p, rfl⟩, _⟩
    · exact wpAny_pure fin
    · cases w with
      | ref T => exact wpAny_letOwnedTupleGo_listiter (s := { s with heap := h' }) hit' fin
      | _ => exact wpAny_pure fin
  | tup vs =>
    obtain ⟨rfl, tt, n, ws, e0, r0, hit⟩ := x
    simp only [It.at] at e
    obtain ⟨w, ew, rv⟩ := r0.at e
    refine wpAny_pyNext_tuple_item hit ⟨_, e0, rfl, n, rfl⟩ (x := w) (by rw [← Array.getElem?_toList]; exact ew) fun h' hit' hs' => ?_
    have kb : KeepBut [I] s.heap h' := fun b o hb e => hs'.extBut b o (fun z => hb (by rw [z]; exact .head _)) e
    have im := kb.im live.2
    have fin := hq w h' s.toks (VRel.keep im _ _ rv) ⟨rfl, tt, n, ws, im _ _ e0 (.inl ⟨rfl, _, _, rfl⟩), VRels.keep im _ _ r0, hit'⟩ kb
    rcases ht with ⟨⟨y, p, rfl⟩, _⟩ | ⟨_, a, ha⟩
    · exact wpAny_pure fin
    · rcases ha with ha | ha <;> cases ha
  | rng lo st n =>
    obtain ⟨rfl, hit⟩ := x
    simp only [It.at] at e
    split at e
    · rename_i hlt
      cases e
      refine wpAny_pyNext_range_item hit (by omega) fun h' hit' hs' => ?_
      have kb : KeepBut [I] s.heap h' := fun b o hb e => hs'.extBut b o (fun z => hb (by rw [z]; exact .head _)) e
      have e1 : lo + ((i + 1 : Nat) : Int) * st = lo + (i : Int) * st + st := by push_cast; rw [Int.add_mul, Int.one_mul, Int.add_assoc]
      have e2 : (n : Int) - ((i + 1 : Nat) : Int) = (n : Int) - (i : Int) - 1 := by push_cast; omega
      have fin := hq _ h' (s.toks + 1) ⟨s.toks, rfl⟩ ⟨rfl, by rw [e1, e2]; exact hit'⟩ kb
      rcases ht with ⟨⟨y, p, rfl⟩, _⟩ | ⟨_, a, ha⟩
      · exact wpAny_pure fin
      · rcases ha with ha | ha <;> cases ha
    · cases e
  | enum a =>
    obtain ⟨it, old, rfl, ne, he, hit⟩ := x
    obtain ⟨vs, ha⟩ := ok
    simp only [It.at, lof_of ha, Option.map_eq_some_iff] at e
    obtain ⟨u, eu, rfl⟩ := e
    obtain ⟨ws, l, r⟩ := Rp.list ha
    obtain ⟨w, ew, rv⟩ := r.at eu
    rcases ht with ⟨_, hn⟩ | ⟨⟨es, k, p, rfl⟩, _⟩
    · exact absurd rfl (hn a)
    · refine wpAny_pyNext_enum_item he hit l.isList (x := w) (by rw [← Array.getElem?_toList]; exact ew) ne fun h' heo hit' htup hsz kp => ?_
      refine wpAny_letOwnedTupleGo_enum heo fun h₂ he₂ hs₂ => ?_
      obtain ⟨oi, hoi, _⟩ := id hit
      have n1 : I ≠ s.heap.objs.size := Nat.ne_of_lt (Heap.lt_size he)
      have kb : KeepBut [I, it] s.heap h₂ := fun b o hb e => hs₂.extBut b o (fun z => hb (by rw [z]; exact .head _)) (kp b o (fun z => hb (by rw [z]; exact .head _)) (fun z => hb (by rw [z]; exact .tail _ (.head _))) e)
      have im := kb.im live.2
      refine hq _ h₂ (s.toks + 1) ⟨_, _, #[.int i s.toks, w], rfl, hs₂.extBut _ _ (Ne.symm n1) htup, VRels.cons ⟨_, rfl⟩ (VRels.cons (VRel.keep im _ _ rv) VRels.nil)⟩ ⟨it, w, rfl, ne, ?_, ?_⟩ kb
      · have : ((i + 1 : Nat) : Int) = (i : Int) + 1 := by push_cast; rfl
        rw [this]; exact he₂
      · exact hit'.extBut hs₂.extBut (Ne.symm ne)

theorem it_done {A : Around} {E : Value → Shared → Prop} {s : Shared} {I : Addr} {fp : List Addr} {i : Nat} {it : It} {Q : Shared → Prop} (hh : A.handled = none) (Rp : Rep C σ s.heap) (x : ItRel s.heap I fp i it)
    (ok : it.ok σ) (e : it.at σ i = none) (hq : ∀ h' tk, KeepBut fp s.heap h' → Q { s with heap := h', toks := tk }) :
    wpAny C.M A (pyNext (.ref I)) (fun r s₁ => match r with | none => Q s₁ | some _ => False) E s := by
  cases it with
  | list a =>
    obtain ⟨rfl, hit⟩ := x
    obtain ⟨vs, ha⟩ := ok
    simp only [It.at, lof_of ha] at e
    obtain ⟨ws, l, r⟩ := Rp.list ha
    exact wpAny_pyNext_list_end hh hit l.isList (by rw [← Array.getElem?_toList]; exact r.none_at e) fun h' he => hq h' s.toks fun b o hb => he b o (fun z => hb (by rw [z]; exact .head _))
  | tup vs =>
    obtain ⟨rfl, tt, n, ws, e0, r0, hit⟩ := x
    simp only [It.at] at e
    exact wpAny_pyNext_tuple_end hh hit ⟨_, e0, rfl, n, rfl⟩ (by rw [← Array.getElem?_toList]; exact r0.none_at e) fun h' he => hq h' s.toks fun b o hb => he b o (fun z => hb (by rw [z]; exact .head _))
  | rng lo st n =>
    obtain ⟨rfl, hit⟩ := x
    simp only [It.at] at e
    split at e
    · cases e
    · exact wpAny_pyNext_range_end hh hit (by omega) fun h' he => hq h' s.toks fun b o hb => he b o (fun z => hb (by rw [z]; exact .head _))
  | enum a =>
    obtain ⟨it, old, rfl, ne, he, hit⟩ := x
    obtain ⟨vs, ha⟩ := ok
    simp only [It.at, lof_of ha, Option.map_eq_none_iff] at e
    obtain ⟨ws, l, r⟩ := Rp.list ha
    exact wpAny_pyNext_enum_end hh he hit l.isList (by rw [← Array.getElem?_toList]; exact r.none_at e) fun h' he => hq h' s.toks fun b o hb => he b o (fun z => hb (by rw [z]; exact .tail _ (.head _)))

/-- the making of an iterator -/
def Iw (C : Cx) (d : Nat) (env : Env) (ρ : Fra) (iter : Expr) (Q : It → Store → Prop) (σ : Store) : Prop :=
  ∀ (A : Around) (E : Value → Shared → Prop) (s : Shared) (Qc : Value → Shared → Prop), Room d A → Rep C σ s.heap → FrameRep C env ρ σ s.heap →
    (∀ it σ' I fp h' tk, Q it σ' → Rep C σ' h' → ItRel h' I fp 0 it → (∀ b ∈ fp, s.heap.get? b = none ∧ σ' b = none ∧ C.g.get? b = none) → Stp σ σ' s.heap h' → Qc (.ref I) { s with heap := h', toks := tk }) →
    wpAny C.M A (eval iter env) (fun x s₁ => wpAny C.M A (pyIter x) Qc E s₁) E s

/-- the iterator of a value -/
inductive ItOf (σ : Store) : V → It → Prop
  | list {a vs} : σ a = some (.list vs) → ItOf σ (.ref a) (.list a)
  | tup {vs} : ItOf σ (.tup vs) (.tup vs)
  | rng {lo hi st : Int} : Builtin.Range.small lo hi st = true → ItOf σ (.rng lo hi st) (.rng lo st (Builtin.Range.rangeSize lo hi st).toNat)

theorem rangeSize_nonneg (a b c : Int) : 0 ≤ Builtin.Range.rangeSize a b c := by
  unfold Builtin.Range.rangeSize
  by_cases h1 : c > 0
  · rw [if_pos h1]
    split
    · have : (0 : Int) ≤ (b - a - 1) / c := Int.ediv_nonneg (by omega) (by omega)
      omega
    · exact Int.le_refl _
  · rw [if_neg h1]
    split
    · have : (0 : Int) ≤ (a - b - 1) / (-c) := by
        by_cases h2 : c = 0
        · subst h2; simp
        · exact Int.ediv_nonneg (by omega) (by omega)
      omega
    · exact Int.le_refl _

theorem Iw_val {iter : Expr} {Q : It → Store → Prop} (h : Ew C d env ρ VRel (eval iter env) (fun v σ₁ => ∃ it, ItOf σ₁ v it ∧ Q it σ₁) σ) : Iw C d env ρ iter Q σ :=
  fun A E s Qc rm Rp F hq => h A E s _ rm Rp F fun v σ₁ x h₁ k₁ q₁ R₁ r₁ s₁ => by
    obtain ⟨it, hi, q⟩ := q₁
    have nw : ∀ b ∈ [h₁.objs.size], s.heap.get? b = none ∧ σ₁ b = none ∧ C.g.get? b = none := fun b hb => by
      rw [List.mem_singleton.mp hb]
      refine ⟨?_, R₁.fresh, R₁.size.1⟩
      cases z : s.heap.get? h₁.objs.size with
      | none => rfl
      | some o => obtain ⟨o', z'⟩ := s₁.live _ _ z; exact absurd (Heap.lt_size z') (Nat.lt_irrefl _)
    have fin : ∀ (o : Obj), ItRel (h₁.push o) h₁.objs.size [h₁.objs.size] 0 it → Qc (.ref h₁.objs.size) { s with heap := h₁.push o, toks := k₁ } := fun o hr => by
      obtain ⟨R₂, s₂⟩ := R₁.push o
      exact hq it σ₁ _ _ _ k₁ q R₂ hr nw (s₁.trans s₂)
    cases hi with
    | list ha =>
      have e : x = .ref _ := r₁
      subst e
      obtain ⟨ws, l, r⟩ := R₁.list ha
      exact wpAny_pyIter_list l.isList (fin _ ⟨rfl, _, Heap.get?_push_size _ rfl, rfl, rfl⟩)
    | tup =>
      obtain ⟨a, n, ws, rfl, ha, r⟩ := r₁
      refine wpAny_pyIter_tuple ⟨_, ha, rfl, n, rfl⟩ (fin _ ⟨rfl, a, n, ws, Heap.get?_push_of_some _ ha, ?_, _, Heap.get?_push_size _ rfl, rfl, rfl⟩)
      exact VRels.keep (fun b o e _ => Heap.get?_push_of_some _ e) _ _ r
    | @rng lo hi' st hs =>
      obtain ⟨r, t, u, v, rfl, hr⟩ := r₁
      refine wpAny_pyIter_range hr hs (fin _ ⟨rfl, ?_⟩)
      have e1 : lo + ((0 : Nat) : Int) * st = lo := by simp
      have e2 : ((Builtin.Range.rangeSize lo hi' st).toNat : Int) - ((0 : Nat) : Int) = Builtin.Range.rangeSize lo hi' st := by
        rw [Int.toNat_of_nonneg (rangeSize_nonneg ..)]; simp
      rw [e1, e2]
      exact Heap.get?_push_size _ rfl
end
end Mine

open PySem PySem.W PyProof.Rows PySem.Calls PyProof.V PySem.Spec PySem.SeqAt
set_option Elab.async false
set_option linter.all false
set_option maxRecDepth 100000
namespace Mine
section
variable {C : Cx} {d : Nat} {env : Env} {ρ : Fra} {σ : Store}

theorem Sw.mono {α β : Type} {R : Heap → β → α → Prop} {t : Sem α} {Q Q' : β → Fra → Store → Prop} (h : Sw C d env R t Q ρ σ) (k : ∀ b ρ' σ', Q b ρ' σ' → Q' b ρ' σ') : Sw C d env R t Q' ρ σ :=
  fun A E s Qc rm Rp F hq => h A E s Qc rm Rp F fun b ρ' σ' x h' tk q => hq b ρ' σ' x h' tk (k b ρ' σ' q)
theorem Asg.mono {t : Expr} {v : V} {Q Q' : Fra → Store → Prop} (h : Asg C d env t v Q ρ σ) (k : ∀ ρ' σ', Q ρ' σ' → Q' ρ' σ') : Asg C d env t v Q' ρ σ :=
  fun A E s Qc w rm Rp F rv hq => h A E s Qc w rm Rp F rv fun ρ' σ' h' tk q => hq ρ' σ' h' tk (k ρ' σ' q)

abbrev Sx (C : Cx) (d : Nat) (env : Env) (body : List Stmt) (Q : Fl → Fra → Store → Prop) (ρ : Fra) (σ : Store) : Prop := Sw C d env FRel (execs body env) Q ρ σ
abbrev S1 (C : Cx) (d : Nat) (env : Env) (st : Stmt) (Q : Fl → Fra → Store → Prop) (ρ : Fra) (σ : Store) : Prop := Sw C d env FRel (exec st env) Q ρ σ

theorem Sx_nil {Q : Fl → Fra → Store → Prop} (h : Q .next ρ σ) : Sx C d env [] Q ρ σ := fun A E s Qc rm Rp F hq => wpAny_execs_nil (hq _ _ _ _ s.heap s.toks h Rp F rfl (Stp.refl ..).toF)

def behind (C : Cx) (d : Nat) (env : Env) (rest : List Stmt) (Q : Fl → Fra → Store → Prop) : Fl → Fra → Store → Prop
  | .next, ρ, σ => Sx C d env rest Q ρ σ
  | f, ρ, σ => Q f ρ σ
theorem Sx_cons {st : Stmt} {rest : List Stmt} {Q : Fl → Fra → Store → Prop} (h : S1 C d env st (behind C d env rest Q) ρ σ) : Sx C d env (st :: rest) Q ρ σ :=
  fun A E s Qc rm Rp F hq => wpAny_execs_cons (h A E s _ rm Rp F fun f ρ₁ σ₁ x h₁ k₁ q₁ R₁ F₁ r₁ s₁ => by
    cases f with
    | next =>
      have e : x = .next := r₁
      subst e
      exact q₁ A E _ _ rm R₁ F₁ fun b ρ' σ' z h' tk q R' F' r' s' => hq b ρ' σ' z h' tk q R' F' r' (s₁.trans s')
    | brk => have e : x = .brk := r₁; subst e; exact hq _ _ _ _ _ _ q₁ R₁ F₁ rfl s₁
    | cont => have e : x = .cont := r₁; subst e; exact hq _ _ _ _ _ _ q₁ R₁ F₁ rfl s₁
    | ret v => obtain ⟨w, rfl, rv⟩ := r₁; exact hq _ _ _ _ _ _ q₁ R₁ F₁ ⟨w, rfl, rv⟩ s₁)

theorem S1_Return {e : Expr} {pos} {Q : Fl → Fra → Store → Prop} (h : Ew C d env ρ VRel (eval e env) (fun v σ₁ => Q (.ret v) ρ σ₁) σ) : S1 C d env (.Return (some e) pos) Q ρ σ :=
  fun A E s Qc rm Rp F hq => wpAny_Return_some (h A E s _ rm Rp F fun v σ₁ x h₁ k₁ q₁ R₁ r₁ s₁ => hq _ _ _ _ _ _ q₁ R₁ (F.keep Rp s₁) ⟨x, rfl, r₁⟩ s₁.toF)

theorem S1_Expr {e : Expr} {pos} {Q : Fl → Fra → Store → Prop} (h : Ew C d env ρ VRel (eval e env) (fun _ σ₁ => Q .next ρ σ₁) σ) (hi : interactive env = false := by rfl) (hs : swapsWith e none pos.line env = pure false := by rfl) : S1 C d env (.Expr e pos) Q ρ σ :=
  fun A E s Qc rm Rp F hq => wpAny_Expr_any (h A E s _ rm Rp F fun v σ₁ x h₁ k₁ q₁ R₁ r₁ s₁ => hq _ _ _ _ _ _ q₁ R₁ (F.keep Rp s₁) rfl s₁.toF) hi hs

theorem S1_If {test : Expr} {body orelse : List Stmt} {pos} {Q : Fl → Fra → Store → Prop}
    (h : Ew C d env ρ BRel (isTrue test env (eval test env)) (fun b σ₁ => (b = true → Sx C d env body Q ρ σ₁) ∧ (b = false → Sx C d env orelse Q ρ σ₁)) σ) : S1 C d env (.If test body orelse pos) Q ρ σ :=
  fun A E s Qc rm Rp F hq => wpAny_If (h A E s _ rm Rp F fun b σ₁ x h₁ k₁ q₁ R₁ r₁ s₁ => by
    have e : x = b := r₁
    subst e
    cases x with
    | true => exact q₁.1 rfl A E _ _ rm R₁ (F.keep Rp s₁) fun b ρ' σ' z h' tk q R' F' r' s' => hq b ρ' σ' z h' tk q R' F' r' (s₁.toF.trans s')
    | false => exact q₁.2 rfl A E _ _ rm R₁ (F.keep Rp s₁) fun b ρ' σ' z h' tk q R' F' r' s' => hq b ρ' σ' z h' tk q R' F' r' (s₁.toF.trans s'))

/-- one target, its value no comprehension that swaps -/
theorem S1_Assign {t value : Expr} {pos} {Q : Fl → Fra → Store → Prop} (h : Ew C d env ρ VRel (eval value env) (fun v σ₁ => Asg C d env t v (Q .next) ρ σ₁) σ)
    (hs : swapsWithSole [t] value pos.line env = pure false := by with_unfolding_all rfl) (hw : swappedStores [t] value env = pure none := by with_unfolding_all rfl) (he : (assignEach [t] env).map (·.2) = [assign t env] := by rfl) : S1 C d env (.Assign [t] value pos) Q ρ σ :=
  fun A E s Qc rm Rp F hq => wpAny_Assign_stores (h A E s _ rm Rp F fun v σ₁ x h₁ k₁ q₁ R₁ r₁ s₁ => by
    rw [he]
    exact q₁ A E _ _ x rm R₁ (F.keep Rp s₁) r₁ fun ρ' σ' h' tk q R' F' s' => hq _ _ _ _ _ _ q R' F' rfl (s₁.toF.trans s')) hs hw

/-! loops -/
def loopEnd (J : Fra → Store → Prop) (Q : Fl → Fra → Store → Prop) : Fl → Fra → Store → Prop
  | .next, ρ, σ => J ρ σ
  | .cont, ρ, σ => J ρ σ
  | .brk, ρ, σ => Q .next ρ σ
  | .ret v, ρ, σ => Q (.ret v) ρ σ

theorem FrameRep.locals_live {h : Heap} (F : FrameRep C env ρ σ h) : ∃ o, h.get? env.locals = some o ∧ ¬ ImObj o := by
  obtain ⟨m, hn, _⟩ := F.ns
  obtain ⟨o, _, _, e, ed⟩ := Heap.Ns.obj hn
  exact ⟨o, e, notIm_dict ed⟩

/-- a step that changes only what the iterator is made of -/
theorem Rep.but {h h' : Heap} {fp : List Addr} (R : Rep C σ h) (k : KeepBut fp h h') (l : ∀ b ∈ fp, ∃ o, h.get? b = some o ∧ ¬ ImObj o) (off : ∀ b ∈ fp, σ b = none ∧ C.g.get? b = none) : Rep C σ h' := by
  have im := k.im l
  refine ⟨R.ok, fun b o e => k b o (fun z => by rw [(off b z).2] at e; cases e) (R.base b o e), R.off, fun b o e => (R.objs b o e).keep im fun co q => k b co (fun z => by rw [(off b z).1] at e; cases e) q⟩
theorem FrameRep.but {h h' : Heap} {fp : List Addr} (F : FrameRep C env ρ σ h) (k : KeepBut fp h h') (im : KeepsIm h h') (n1 : env.locals ∉ fp) (n2 : ∀ x c, env.cells.lookup x = some c → c ∉ fp) : FrameRep C env ρ σ h' := by
  obtain ⟨m, hn, hm⟩ := F.ns
  obtain ⟨oL, es, ep, hL, hr⟩ := id hn
  refine ⟨F.kind, F.glob, F.blt, F.above, F.off, ⟨m, ⟨oL, es, ep, k _ _ n1 hL, hr⟩, fun x v e kk => ?_⟩, fun x v e kk => ?_, fun x c e => ?_, F.apart⟩
  · obtain ⟨w, a, b⟩ := hm x v e kk
    exact ⟨w, a, VRel.keep im _ _ b⟩
  · obtain ⟨a, a', c, w, b1, ⟨oc, b2, b2'⟩, b3⟩ := F.cell x v e kk
    exact ⟨a, a', c, w, b1, ⟨oc, k _ _ (n2 x c b1) b2, b2'⟩, VRel.keep im _ _ b3⟩
  · obtain ⟨a, b0, b, v, oc, c1, c2⟩ := F.cells x c e
    exact ⟨a, b0, b, v, oc, k _ _ (n2 x c e) c1, c2⟩

theorem S1_For {target iter : Expr} {body : List Stmt} {pos} {Q : Fl → Fra → Store → Prop} (J : It → Nat → Fra → Store → Prop)
    (h : Iw C d env ρ iter (fun it σ₁ => TgtOk target it ∧ J it 0 ρ σ₁ ∧ ∃ N, ∀ i ρ' σ', J it i ρ' σ' → i ≤ N ∧ it.ok σ' ∧
      (∀ v, it.at σ' i = some v → Asg C d env target v (fun ρ₂ σ₂ => Sx C d env body (loopEnd (J it (i + 1)) Q) ρ₂ σ₂) ρ' σ') ∧ (it.at σ' i = none → Q .next ρ' σ')) σ)
    (hs : ∀ x, foldedSetIterable iter env x = pure x := by intro _; rfl) : S1 C d env (.For target iter body [] pos) Q ρ σ :=
  fun A E s Qc rm Rp F hq => wpAny_For (h A E s _ rm Rp F fun it σ₁ I fp h₁ k₁ q₁ R₁ ir nw s₁ => by
    obtain ⟨ht, j0, N, step⟩ := q₁
    have F₁ := F.keep Rp s₁
    have gone : ∀ b ∈ fp, b ≠ env.locals ∧ ∀ x c, env.cells.lookup x = some c → c ≠ b := fun b hb => by
      refine ⟨fun z => ?_, fun x c e z => ?_⟩
      · obtain ⟨o, e, _⟩ := F.locals_live
        rw [← z, (nw b hb).1] at e
        cases e
      · obtain ⟨_, _, _, v, o, e2, _⟩ := F.cells x c e
        rw [z, (nw b hb).1] at e2
        cases e2
    refine codeAny_forLoop_any (fun n s' => ∃ i ρ' σ' h' tk, s' = { s with heap := h', toks := tk } ∧ n = N + 1 - i ∧ J it i ρ' σ' ∧ Rep C σ' h' ∧ FrameRep C env ρ' σ' h' ∧ ItRel h' I fp i it ∧ (∀ b ∈ fp, σ' b = none) ∧ StpF env σ σ' s.heap h') ?_ (N + 1)
      ⟨0, ρ, σ₁, h₁, k₁, rfl, rfl, j0, R₁, F₁, ir, fun b hb => (nw b hb).2.1, s₁.toF⟩
    rintro n s' ⟨i, ρ', σ', h', tk, rfl, rfl, j, R', F', ir', off', st'⟩
    obtain ⟨hiN, hok, hsome, hnone⟩ := step i ρ' σ' j
    have live := ir'.live.2
    have nL : env.locals ∉ fp := fun z => (gone _ z).1 rfl
    have nC : ∀ x c, env.cells.lookup x = some c → c ∉ fp := fun x c e z => (gone _ z).2 x c e rfl
    cases e : it.at σ' i with
    | some v =>
      refine wpAny_mono (it_item (s := { s with heap := h', toks := tk }) R' ir' ht off' hok e (fun w h₂ t₂ rv ir₂ kb => ?_) (Q := fun w s₂ => ∃ h₂ t₂, s₂ = { s with heap := h₂, toks := t₂ } ∧ VRel h₂ v w ∧ ItRel h₂ I fp (i + 1) it ∧ KeepBut fp h' h₂)) (fun r s₂ hr => ?_) fun _ _ e => e
      · exact ⟨h₂, t₂, rfl, rv, ir₂, kb⟩
      · cases r with
        | none => exact hr.elim
        | some w =>
          refine wpAny_mono hr (fun _ s₃ hw => ?_) fun _ _ e => e
          obtain ⟨h₂, t₂, rfl, rv, ir₂, kb⟩ := hw
          have im := kb.im live
          have R₂ := R'.but kb live fun b hb => ⟨off' b hb, (nw b hb).2.2⟩
          have F₂ := F'.but kb im nL nC
          have st₂ : StpF env σ σ' s.heap h₂ := ⟨fun b o e n n1 n2 => kb b o (fun z => by rw [(nw b z).1] at e; cases e) (st'.keep b o e n n1 n2), st'.fresh, fun b o e => by
            obtain ⟨o', e'⟩ := st'.live b o e
            exact ⟨o', kb b o' (fun z => by rw [(nw b z).1] at e; cases e) e'⟩⟩
          refine hsome v e A _ _ _ w rm R₂ F₂ rv fun ρ₃ σ₃ h₃ t₃ q₃ R₃ F₃ s₃ => ?_
          refine q₃ A _ _ _ rm R₃ F₃ fun f ρ₄ σ₄ x h₄ t₄ q₄ R₄ F₄ r₄ s₄ => ?_
          have s34 := s₃.trans s₄
          have st₄ := st₂.trans s34
          have keepI : ∀ b ∈ fp, ∀ o, h₂.get? b = some o → h₄.get? b = some o := fun b hb o e => s34.keep b o e (off' b hb) (gone b hb).1 fun _ x z => (gone b hb).2 x b z rfl
          have ir₄ : ItRel h₄ I fp (i + 1) it := ir₂.keep keepI (s34.im R₂ F₂)
          have off₄ : ∀ b ∈ fp, σ₄ b = none := fun b hb => by
            obtain ⟨o, e, _⟩ := ir₂.live.2 b hb
            exact s34.fresh.none e (off' b hb)
          have again : J it (i + 1) ρ₄ σ₄ → ∃ m, m < N + 1 - i ∧ ∃ i ρ' σ' h' tk, ({ s with heap := h₄, toks := t₄ } : Shared) = { s with heap := h', toks := tk } ∧ m = N + 1 - i ∧ J it i ρ' σ' ∧ Rep C σ' h' ∧ FrameRep C env ρ' σ' h' ∧ ItRel h' I fp i it ∧ (∀ b ∈ fp, σ' b = none) ∧ StpF env σ σ' s.heap h' := fun j' =>
            ⟨N + 1 - (i + 1), by omega, i + 1, ρ₄, σ₄, h₄, t₄, rfl, rfl, j', R₄, F₄, ir₄, off₄, st₄⟩
          cases f with
          | next => have e : x = .next := r₄; subst e; exact again q₄
          | cont => have e : x = .cont := r₄; subst e; exact again q₄
          | brk => have e : x = .brk := r₄; subst e; exact hq _ _ _ _ _ _ q₄ R₄ F₄ rfl st₄
          | ret v => obtain ⟨w, rfl, rv⟩ := r₄; exact hq _ _ _ _ _ _ q₄ R₄ F₄ ⟨w, rfl, rv⟩ st₄
    | none =>
      refine wpAny_mono (it_done (s := { s with heap := h', toks := tk }) rm.hh R' ir' hok e (fun h₂ t₂ kb => ?_) (Q := fun s₂ => ∃ h₂ t₂, s₂ = { s with heap := h₂, toks := t₂ } ∧ KeepBut fp h' h₂)) (fun r s₂ hr => ?_) fun _ _ e => e
      · exact ⟨h₂, t₂, rfl, kb⟩
      · cases r with
        | some w => exact hr.elim
        | none =>
          obtain ⟨h₂, t₂, rfl, kb⟩ := hr
          have R₂ := R'.but kb live fun b hb => ⟨off' b hb, (nw b hb).2.2⟩
          have F₂ := F'.but kb (kb.im live) nL nC
          have st₂ : StpF env σ σ' s.heap h₂ := ⟨fun b o e n n1 n2 => kb b o (fun z => by rw [(nw b z).1] at e; cases e) (st'.keep b o e n n1 n2), st'.fresh, fun b o e => by
            obtain ⟨o', e'⟩ := st'.live b o e
            exact ⟨o', kb b o' (fun z => by rw [(nw b z).1] at e; cases e) e'⟩⟩
          exact wpAny_execs_nil (hq _ _ _ _ _ _ (hnone e) R₂ F₂ rfl st₂)) hs

theorem S1_While {test : Expr} {body : List Stmt} {pos} {Q : Fl → Fra → Store → Prop} (J : Nat → Fra → Store → Prop) (n : Nat) (j0 : J n ρ σ)
    (step : ∀ n ρ' σ', J n ρ' σ' → Ew C d env ρ' BRel (isTrue test env (eval test env)) (fun b σ₁ => (b = true → Sx C d env body (loopEnd (fun ρ₂ σ₂ => ∃ m, m < n ∧ J m ρ₂ σ₂) Q) ρ' σ₁) ∧ (b = false → Q .next ρ' σ₁)) σ') :
    S1 C d env (.While test body [] pos) Q ρ σ :=
  fun A E s Qc rm Rp F hq => wpAny_While (by
    refine codeAny_whileLoop (fun n s' => ∃ ρ' σ' h' tk, s' = { s with heap := h', toks := tk } ∧ J n ρ' σ' ∧ Rep C σ' h' ∧ FrameRep C env ρ' σ' h' ∧ StpF env σ σ' s.heap h') ?_ n ⟨ρ, σ, s.heap, s.toks, rfl, j0, Rp, F, (Stp.refl ..).toF⟩
    rintro n s' ⟨ρ', σ', h', tk, rfl, j, R', F', st'⟩
    refine step n ρ' σ' j A _ _ _ rm R' F' fun b σ₁ x h₁ k₁ q₁ R₁ r₁ s₁ => ?_
    have e : x = b := r₁
    subst e
    have F₁ := F'.keep R' s₁
    have st₁ := st'.trans s₁.toF
    cases x with
    | false => exact wpAny_execs_nil (hq _ _ _ _ _ _ (q₁.2 rfl) R₁ F₁ rfl st₁)
    | true =>
      refine q₁.1 rfl A _ _ _ rm R₁ F₁ fun f ρ₄ σ₄ x h₄ t₄ q₄ R₄ F₄ r₄ s₄ => ?_
      have st₄ := st₁.trans s₄
      cases f with
      | next => have e : x = .next := r₄; subst e; obtain ⟨m, hm, j'⟩ := q₄; exact ⟨m, hm, ρ₄, σ₄, h₄, t₄, rfl, j', R₄, F₄, st₄⟩
      | cont => have e : x = .cont := r₄; subst e; obtain ⟨m, hm, j'⟩ := q₄; exact ⟨m, hm, ρ₄, σ₄, h₄, t₄, rfl, j', R₄, F₄, st₄⟩
      | brk => have e : x = .brk := r₄; subst e; exact hq _ _ _ _ _ _ q₄ R₄ F₄ rfl st₄
      | ret v => obtain ⟨w, rfl, rv⟩ := r₄; exact hq _ _ _ _ _ _ q₄ R₄ F₄ ⟨w, rfl, rv⟩ st₄)
end
end Mine

open PySem PySem.W PyProof.Rows PySem.Calls PyProof.V PySem.Spec PySem.SeqAt
set_option Elab.async false
set_option linter.all false
set_option maxRecDepth 100000
namespace Mine
section
variable {C : Cx} {d : Nat} {env : Env} {ρ : Fra} {σ : Store}

/-- who keeps a callee's arguments is plain -/
def KeepOk (C : Cx) (f : Value) : Prop := ∀ h, C.K.In h → ∃ k, (k = Keeper.frame ∨ k = Keeper.machine ∨ k = Keeper.boundFrame) ∧ Looks C.M h (keeperOf f) k
theorem KeepOk.builtin {id : String} : KeepOk C (.builtin id) := fun h _ => ⟨.machine, .inr (.inl rfl), Looks.of_pure rfl⟩
theorem KeepOk.type {n : String} : KeepOk C (.type n) := fun h _ => ⟨.machine, .inr (.inl rfl), Looks.of_pure rfl⟩
theorem KeepOk.own {a : Addr} (h : keepIn C.K (.ref a) = true) : KeepOk C (.ref a) := keeps_K h

theorem wp_evalArgs {M : Model} {A : Around} {E : Value → Shared → Prop} {s : Shared} {f : Value} {Q : Args → Shared → Prop} : ∀ (T : List (Bool × Sem Value)), T.any (·.1) = false →
    wpAny M A (spliced T) (fun vs s' => Q ⟨vs, []⟩ s') E s → wpAny M A (evalArgs f true T []) Q E s
  | [], _, h => by
    unfold evalArgs
    show wpAny M A (spliced [] >>= _) Q E s
    refine wpAny_bind (wpAny_mono h (fun vs s' h' => ?_) fun _ _ x => x)
    refine wpAny_bind (wpAny_pure ?_)
    refine wpAny_holding ?_
    exact wpAny_bind (wpAny_pure (wpAny_bind (wpAny_pure (wpAny_pure h'))))
  | (true, x) :: r, e, _ => by simp at e
  | (false, x) :: r, _, h => evalArgs_plain h

theorem wp_callWith {A : Around} {E : Value → Shared → Prop} {s : Shared} {f : Value} {first : List Value} {args : List Expr} {pos : Pos} {Q : Value → Shared → Prop} (hk : KeepOk C f) (hp : (backTo pos (starEach args env)).any (·.1) = false)
    (h : wpAny C.M A (spliced (backTo pos (starEach args env))) (fun vs s₁ => C.K.In s₁.heap ∧ wpAny C.M A (call f (first ++ vs)) Q E s₁) E s) :
    wpAny C.M A (callWith pos f first (backTo pos (starEach args env)) []) Q E s :=
  callWith_of (P := fun h => C.K.In h) (by rw [hp]; rfl) hk (wp_evalArgs _ hp h)

def EvF (C : Cx) (env : Env) (func : Expr) (f : Value) : Prop := ∀ (ρ : Fra) (σ : Store) (A : Around) (E : Value → Shared → Prop) (s : Shared) (Q : Value → Shared → Prop), Rep C σ s.heap → FrameRep C env ρ σ s.heap → Q f s → wpAny C.M A (eval func env) Q E s
theorem EvF.glob {x : Str} {pos} {w : Value} (e : C.mg x = some w) (hx : env.kindOf x = some .globalImplicit := by rfl) (hd : (x == ("__debug__" : Str)) = false := by decide) : EvF C env (.Name x pos) w := fun ρ σ A E s Q R F h => wp_glob R F hx e h hd
theorem EvF.blt {x : Str} {pos} {w : Value} (e : C.mg x = none) (hb : bootBuiltins x = some w) (hx : env.kindOf x = some .globalImplicit := by rfl) (hn : x ≠ "__name__" := by decide) (hd : (x == ("__debug__" : Str)) = false := by decide) : EvF C env (.Name x pos) w := fun ρ σ A E s Q R F h => wp_blt R F hx e hb hn h hd

abbrev Cw (C : Cx) (d : Nat) (f : Value) (vs : List V) (Q : V → Store → Prop) (σ : Store) : Prop := Ow C d VRel vs (fun ws => call f ws) Q σ

theorem Ow.mono {α β : Type} {R : Heap → β → α → Prop} {vs : List V} {t : List Value → Sem α} {Q Q' : β → Store → Prop} (h : Ow C d R vs t Q σ) (k : ∀ b σ', Q b σ' → Q' b σ') : Ow C d R vs t Q' σ :=
  fun A E s Qc w rm Rp x hq => h A E s Qc w rm Rp x fun b σ' x h' tk q => hq b σ' x h' tk (k b σ' q)

theorem Ew_Call {func : Expr} {args : List Expr} {pos : Pos} {f : Value} {Q : V → Store → Prop} (hf : EvF C env func f) (hk : KeepOk C f)
    (h : Ew C d env ρ VRels (spliced (backTo pos (starEach args env))) (fun vs σ₁ => Cw C d f vs Q σ₁) σ)
    (hp : (backTo pos (starEach args env)).any (·.1) = false := by rfl)
    (he : eval (.Call func args [] pos) env = (do callWith pos (← eval func env) [] (backTo pos (starEach args env)) (backToKw pos (keywordEach [] env))) := by rfl) : Ew C d env ρ VRel (eval (.Call func args [] pos) env) Q σ :=
  fun A E s Qc rm Rp F hq => Call_ (hf ρ σ A E s _ Rp F (wp_callWith hk hp (h A E s _ rm Rp F fun vs σ₁ ws h₁ k₁ q₁ R₁ r₁ s₁ =>
    ⟨R₁.kin, q₁ A E _ _ ws rm R₁ r₁ fun b σ' z h' tk q R' r' s' => hq b σ' z h' tk q R' r' (s₁.trans s')⟩))) he

/-- a method -/
def MethOk (C : Cx) (σ : Store) (u : V) (name : Str) (f : Value) : Prop := ∀ (A : Around) (E : Value → Shared → Prop) (s : Shared) (Q : Value × List Value → Shared → Prop) (ov : Value) (pl : Sem Bool), Rep C σ s.heap → VRel s.heap u ov → Q (f, [ov]) s → wpAny C.M A (getMethod ov name pl) Q E s

theorem Ew_CallM {o : Expr} {name : Str} {apos pos : Pos} {args : List Expr} {Q : V → Store → Prop}
    (h : Ew C d env ρ VRel (eval o env) (fun u σ₁ => ∃ f, MethOk C σ₁ u name f ∧ KeepOk C f ∧ Ew C d env ρ VRels (spliced (backTo pos (starEach args env))) (fun vs σ₂ => Cw C d f (u :: vs) Q σ₂) σ₁) σ)
    (hbase : attributeBase o name env (eval o env) = eval o env := by rfl)
    (hfew : methodCallForm (args.length + ([] : List Keyword).length) (backTo pos (starEach args env)) (backToKw pos (keywordEach [] env)) = true := by rfl)
    (hline : (apos.endLine == pos.line) = true := by rfl) (hp : (backTo pos (starEach args env)).any (·.1) = false := by rfl) : Ew C d env ρ VRel (eval (.Call (.Attribute o name apos) args [] pos) env) Q σ :=
  fun A E s Qc rm Rp F hq => by
    rw [arm_eval_Call, hbase]
    have hpos : methodCallPos true o env apos pos = pure pos := by unfold methodCallPos; simp [hline]
    refine wpAny_bind (h A E s _ rm Rp F fun u σ₁ ov h₁ k₁ q₁ R₁ r₁ s₁ => ?_)
    obtain ⟨f, hm, hk, q⟩ := q₁
    refine wpAny_bind (wpAny_standAt ?_)
    unfold methodCall
    rw [hfew]
    refine wpAny_bind (wpAny_holding (hm A E _ _ ov _ R₁ r₁ ?_))
    refine wpAny_bind (wpAny_of_eq hpos (wp_callWith hk hp (q A E _ _ rm R₁ (F.keep Rp s₁) fun vs σ₂ ws h₂ k₂ q₂ R₂ r₂ s₂ => ⟨R₂.kin, ?_⟩)))
    exact q₂ A E _ _ (ov :: ws) rm R₂ (VRels.cons (R₁.val s₂.keep r₁) r₂) fun b σ' z h' tk q R' r' s' => hq b σ' z h' tk q R' r' ((s₁.trans s₂).trans s')

/-! objects of the text's classes -/
structure Fld (C : Cx) (Cl : Addr) (name : Str) : Prop where
  get : plainGet C.K Cl name = true
  dict : hasDictIn C.K Cl = true
  attr : ∃ attr, findIn C.K (.ref Cl) name = some attr ∧ noGet C.K attr = true
structure Sto (C : Cx) (Cl : Addr) (name : Str) : Prop where
  sa : findIn C.K (.ref Cl) "__setattr__" = some (some (.builtin "object.__setattr__"))
  plain : plainOver C.K Cl = true
  taker : takerIn C.K Cl name = some none
  dict : hasDictIn C.K Cl = true
structure Mth (C : Cx) (Cl : Addr) (name : Str) (fa : Addr) : Prop where
  get : plainGet C.K Cl name = true
  find : findIn C.K (.ref Cl) name = some (some (.ref fa))
  fn : isFn C.K (.ref fa) = true

theorem isStr_eq (x : Str) (v : Value) : v.isStr x = Value.isStrOf x v := isStr_of x v

theorem getL_keyed {es : List DictEntry} (hk : StrKeyed es) (name : Str) : getL name es = some (getV name es) := by
  unfold getL getV
  have hk' : es.any (·.refKey) = false := by
    rw [List.any_eq_false]
    intro x hx
    obtain ⟨n, t, h⟩ := hk x hx
    simp [DictEntry.refKey, h]
  cases hq : es.find? (fun e => e.key.isStr name) with
  | some x => rfl
  | none => simp [hk']
theorem isStr_str (x y : Str) (t : Tok) : (Value.str x t).isStr y = decide (x = y) := by
  unfold Value.isStr
  by_cases h : x = y
  · subst h; simp
  · simp [h]
theorem putL_len {name : Str} {hsh : Int} {key v : Value} : ∀ {es : List DictEntry}, (putL name hsh key v es).length = if (getV name es).isSome then es.length else es.length + 1
  | [] => rfl
  | e :: r => by
    have ih := putL_len (name := name) (hsh := hsh) (key := key) (v := v) (es := r)
    unfold getV at *
    cases h : e.key.isStr name with
    | true => simp [putL, h]
    | false =>
      simp only [putL, h, Bool.false_eq_true, if_false, List.length_cons, ih, List.find?_cons]
      split <;> rfl
theorem putL_keyed {name : Str} {hsh : Int} {t : Tok} {v : Value} : ∀ {es : List DictEntry}, StrKeyed es → StrKeyed (putL name hsh (.str name t) v es)
  | [], _ => by intro e he; simp [putL] at he; subst he; exact ⟨_, _, rfl⟩
  | e :: r, hk => by
    have ih := putL_keyed (name := name) (hsh := hsh) (t := t) (v := v) (es := r) fun x hx => hk x (.tail _ hx)
    unfold putL
    split
    · intro x hx
      rcases List.mem_cons.mp hx with rfl | hx
      · exact hk e (.head _)
      · exact hk x (.tail _ hx)
    · intro x hx
      rcases List.mem_cons.mp hx with rfl | hx
      · exact hk _ (.head _)
      · exact ih x hx
theorem putL_get {name : Str} {hsh : Int} {t : Tok} {v : Value} (x : Str) : ∀ {es : List DictEntry}, StrKeyed es → getV x (putL name hsh (.str name t) v es) = if x = name then some v else getV x es
  | [], _ => by
    unfold putL getV
    by_cases h : x = name
    · subst h; simp [isStr_str]
    · have h' : ¬ name = x := fun e => h e.symm
      simp [isStr_str, h, h']
  | e :: r, hk => by
    have ih := putL_get (name := name) (hsh := hsh) (t := t) (v := v) x (es := r) fun x hx => hk x (.tail _ hx)
    obtain ⟨n, u, hn⟩ := hk e (.head _)
    unfold putL
    cases h : e.key.isStr name with
    | true =>
      rw [hn, isStr_str] at h
      have hnn : n = name := of_decide_eq_true h
      subst hnn
      unfold getV
      simp only [if_true, List.find?_cons, hn, isStr_str]
      by_cases hx : x = n
      · subst hx; simp
      · have h' : ¬ n = x := fun e => hx e.symm
        simp [hx, h']
    | false =>
      rw [hn, isStr_str] at h
      have hnn : ¬ n = name := of_decide_eq_false h
      simp only [Bool.false_eq_true, if_false]
      unfold getV at *
      simp only [List.find?_cons, hn, isStr_str]
      by_cases hx : n = x
      · subst hx; simp [hnn]
      · simp only [decide_eq_false hx]; exact ih

theorem inst_at {Cl dx : Addr} {k : Nat} {f : Str → Option V} {h : Heap} {w : Value} (R : Rep C σ h) (e : σ dx = some (.ns k f)) (r : VRel h (.obj Cl dx) w) : ∃ x es n, w = .ref x ∧ h.get? dx = some (dictOf es n) ∧ es.length ≤ k ∧ StrKeyed es ∧ InstAt h x (instObj Cl dx) Cl (some (dictOf es n)) ∧
    ∀ y, (∀ v, f y = some v → ∃ u, getV y es = some u ∧ VRel h v u) ∧ (f y = none → getV y es = none) := by
  obtain ⟨x, rfl, hx⟩ := r
  obtain ⟨es, n, ho, hl, hk, hm⟩ := R.objs dx _ e
  exact ⟨x, es, n, rfl, ho, hl, hk, ⟨hx, rfl, rfl, ho⟩, hm⟩

theorem handedIn_of {h : Heap} {v : V} {w : Value} (r : VRel h v w) : handedIn w = true := by
  cases v with
  | none => have e : w = .none := r; subst e; rfl
  | bool b => have e : w = .bool b := r; subst e; rfl
  | int i => obtain ⟨t, rfl⟩ := r; rfl
  | str i => obtain ⟨t, rfl⟩ := r; rfl
  | tup vs => obtain ⟨a, n, ws, rfl, _⟩ := r; rfl
  | obj Cl dx => obtain ⟨a, rfl, _⟩ := r; rfl
  | ref a => have e : w = .ref a := r; subst e; rfl
  | rng a b c => obtain ⟨a, t, u, v, rfl, _⟩ := r; rfl

theorem Ew_Attribute {value : Expr} {attr : Str} {pos} {Q : V → Store → Prop}
    (h : Ew C d env ρ VRel (eval value env) (fun u σ₁ => ∃ Cl dx k f v, u = .obj Cl dx ∧ σ₁ dx = some (.ns k f) ∧ f attr = some v ∧ Fld C Cl attr ∧ Q v σ₁) σ)
    (he : eval (.Attribute value attr pos) env = (do
      let o ← eval value env
      standAt pos.atName
      let r ← holding [o] (getAttr o attr true)
      letTemporaryGo value o r
      pure r) := by with_unfolding_all rfl) : Ew C d env ρ VRel (eval (.Attribute value attr pos) env) Q σ :=
  fun A E s Qc rm Rp F hq => Attribute_any_ (h A E s _ rm Rp F fun u σ₁ x h₁ k₁ q₁ R₁ r₁ s₁ => by
    obtain ⟨Cl, dx, k, f, v, rfl, e, ef, fl, q⟩ := q₁
    obtain ⟨x, es, n, rfl, ho, hl, hk, I, hm⟩ := inst_at R₁ e r₁
    obtain ⟨wv, e1, rv⟩ := (hm attr).1 v ef
    obtain ⟨at', a1, a2⟩ := fl.attr
    exact get_value (s := { s with heap := h₁, toks := k₁ }) R₁.kin I (plainGet_of fl.get).1 (findObj_own fl.dict a1 a2 (by rw [lookIn_dict, getL_keyed hk, e1])) (handedIn_of rv) (hq v σ₁ wv h₁ _ q R₁ rv s₁)) he

theorem MethOk.own {Cl dx fa : Addr} {k : Nat} {f : Str → Option V} {name : Str} (e : σ dx = some (.ns k f)) (ef : f name = none) (m : Mth C Cl name fa) : MethOk C σ (.obj Cl dx) name (.ref fa) :=
  fun A E s Q ov pl R r hq => by
    obtain ⟨x, es, n, rfl, ho, hl, hk, I, hm⟩ := inst_at R e r
    exact method_fn R.kin I (plainGet_of m.get).1 (plainGet_of m.get).2 m.find (beq_iff_eq.mp m.fn) (by show (lookIn name (dictOf es n)).map _ = _; rw [lookIn_dict, getL_keyed hk, (hm name).2 ef]; rfl) hq

theorem MethOk.list {a : Addr} {vs : List V} {name : Str} {id : String} (e : σ a = some (.list vs)) (slot : Slot "list" name id) (hty : typeOf (.builtin id) = pure (.type "method_descriptor")) : MethOk C σ (.ref a) name (.builtin id) :=
  fun A E s Q ov pl R r hq => by
    have e1 : ov = .ref a := r
    subst e1
    obtain ⟨ws, ⟨n, l⟩, _⟩ := R.list e
    exact getMethod_builtin ⟨_, l, rfl⟩ PySem.F.plainAttrs_list slot hty (fun b q => by cases q; exact ⟨_, l, rfl⟩) hq
theorem MethOk.dict {a : Addr} {kvs : List (Int × V)} {name : Str} {id : String} (e : σ a = some (.idict kvs)) (slot : Slot "dict" name id) (hty : typeOf (.builtin id) = pure (.type "method_descriptor")) : MethOk C σ (.ref a) name (.builtin id) :=
  fun A E s Q ov pl R r hq => by
    have e1 : ov = .ref a := r
    subst e1
    obtain ⟨cvs, ⟨o, es, ep, l, hx, _⟩, _⟩ := R.objs a _ e
    exact getMethod_builtin ⟨_, l, hx.1⟩ PySem.F.plainAttrs_dict slot hty (fun b q => by cases q; exact ⟨_, l, hx.2.1⟩) hq

/-- a store into an object -/
theorem wp_nsSet {A : Around} {E : Value → Shared → Prop} {s : Shared} {a : Addr} {es : List DictEntry} {n : Nat} {name : Str} {w : Value} {Q : Unit → Shared → Prop} (ho : s.heap.get? a = some (dictOf es n)) (hk : StrKeyed es) (hz : es.length ≤ 1000)
    (hq : ∀ h' tk hsh t n', h'.get? a = some (dictOf (putL name hsh (.str name t) w es) n') → Heap.SameBut a s.heap h' → Q () { s with heap := h', toks := tk }) : wpAny C.M A (nsSet a name w) Q E s := by
  have e' : (s.heap.update a (Obj.putName name (PyData.keyHash C.w.params name) (.str name s.toks) w)).get? a = some (dictOf (putL name (PyData.keyHash C.w.params name) (.str name s.toks) w es) (putN name es n)) := by
    rw [Heap.get?_update_self _ ho (by rw [putName_dict]; rfl), putName_dict]
  have hlen : (putL name (PyData.keyHash C.w.params name) (.str name s.toks) w es).length ≤ es.length + 1 := by rw [putL_len]; split <;> omega
  unfold nsSet
  refine wpAny_bind (wpAny_bind (wpAny_askSetting (wpAny_pure (wpAny_bind (wpAny_mkText (wpAny_bind (wpAny_loadPart ho ?_)))))))
  have c : (!es.toArray.any (·.key.isStr name) && es.toArray.any (·.refKey)) = false := by
    have hk' : es.any (·.refKey) = false := by
      rw [List.any_eq_false]
      intro x hx
      obtain ⟨n, t, h⟩ := hk x hx
      simp [DictEntry.refKey, h]
    simp [hk']
  dsimp only
  rw [aRefKeyMayBeTheName_at, c]
  exact wpAny_updatePart ho (hq _ _ _ _ _ e' (Heap.SameBut.update ..))
theorem wp_setAttr {A : Around} {E : Value → Shared → Prop} {s : Shared} {Cl dx : Addr} {k : Nat} {f : Str → Option V} {name : Str} {v : V} {ov w : Value} {Q : Unit → Shared → Prop} (R : Rep C σ s.heap) (e : σ dx = some (.ns k f)) (hz : k ≤ 1000) (r : VRel s.heap (.obj Cl dx) ov) (rv : VRel s.heap v w) (S : Sto C Cl name)
    (hq : ∀ h' tk, Rep C (σ.set dx (.ns (if (f name).isSome then k else k + 1) fun y => if y = name then some v else f y)) h' → Stp σ (σ.set dx (.ns (if (f name).isSome then k else k + 1) fun y => if y = name then some v else f y)) s.heap h' → Q () { s with heap := h', toks := tk }) : wpAny C.M A (setAttr ov name w) Q E s := by
  obtain ⟨x, es, n, rfl, ho, hl, hk, I, hm⟩ := inst_at R e r
  have X := R.kin
  refine set_plain X I S.sa (osa_open (s := { s with toks := s.toks + 1 }) X I S.plain S.taker fun b => ?_)
  obtain ⟨cd, hc, hd'⟩ := any_some S.dict
  obtain ⟨hx, hcl, hno, -⟩ := I
  refine wpAny_bind (wpAny_pure (wpAny_bind (wpAny_bind (wpAny_loadPart hx (wpAny_bind (Looks.here (s := { s with toks := s.toks + 1 }) (looks_clsIn X hc) ?_))))))
  rw [hd']
  refine wpAny_pure (a := some dx) (wpAny_bind (wpAny_pure (wpAny_bind ?_)))
  refine wp_nsSet ho hk (by omega) fun h' tk hsh t n' ho' hs' => ?_
  have kp : KeepsIm s.heap h' := fun b co q im => hs'.extBut b co (fun z => by
    subst z
    rw [q] at ho; cases ho
    exact notIm_dict rfl im) q
  have hlen : (putL name hsh (.str name t) w es).length ≤ if (f name).isSome then k else k + 1 := by
    rw [putL_len]
    cases hf : f name with
    | none => rw [(hm name).2 hf]; simp; omega
    | some u => obtain ⟨w', a, _⟩ := (hm name).1 u hf; rw [a]; simp; omega
  obtain ⟨R', st⟩ := R.change (o' := .ns (if (f name).isSome then k else k + 1) fun y => if y = name then some v else f y) e (fun b co z q => hs'.extBut b co z q) ⟨_, n', ho', hlen, putL_keyed hk, fun y => by
    rw [putL_get y hk]
    by_cases z : y = name
    · subst z; simp only [if_true]; exact ⟨fun v' hv' => by cases hv'; exact ⟨w, rfl, VRel.keep kp _ _ rv⟩, fun hv' => by cases hv'⟩
    · simp only [if_neg z]; exact ⟨fun v' hv' => let ⟨u, a, b⟩ := (hm y).1 v' hv'; ⟨u, a, VRel.keep kp _ _ b⟩, (hm y).2⟩⟩
  refine wpAny_bind (wpAny_lookBehind ho' (pastItsLine_dict (by rw [List.size_toArray, sizeLine_eq]; split at hlen <;> omega)) ?_)
  exact wpAny_pure (hq h' tk R' st)

theorem assign_Attribute_arm (o : Expr) (attr : Str) (pos : Pos) (env : Env) (v : Value) : assign (.Attribute o attr pos) env v = (do
    let ov ← holding [v] (eval o env)
    standAt pos.atName
    holding [v, ov] (setAttr ov attr v)
    release [v, ov] []) := rfl

theorem Asg_Attribute {o : Expr} {attr : Str} {pos} {v : V} {Q : Fra → Store → Prop}
    (h : Ew C d env ρ VRel (eval o env) (fun u σ₁ => ∃ Cl dx k f, u = .obj Cl dx ∧ σ₁ dx = some (.ns k f) ∧ k ≤ 1000 ∧ Sto C Cl attr ∧ Q ρ (σ₁.set dx (.ns (if (f attr).isSome then k else k + 1) fun y => if y = attr then some v else f y))) σ) : Asg C d env (.Attribute o attr pos) v Q ρ σ :=
  fun A E s Qc w rm Rp F rv hq => by
    rw [assign_Attribute_arm]
    refine wpAny_bind (wpAny_holding (h A E s _ rm Rp F fun u σ₁ x h₁ k₁ q₁ R₁ r₁ s₁ => ?_))
    obtain ⟨Cl, dx, k, f, rfl, e, hz, S, q⟩ := q₁
    refine wpAny_bind (wpAny_standAt (wpAny_bind (wpAny_holding (wp_setAttr (s := { s with heap := h₁, toks := k₁ }) R₁ e hz r₁ (Rp.val s₁.keep rv) S fun h₂ k₂ R₂ s₂ => ?_))))
    have st := s₁.trans s₂
    exact wpAny_release (hq _ _ _ _ q R₂ (F.keep Rp st) st.toF)
end
end Mine

open PySem PySem.W PyProof.Rows PySem.Calls PyProof.V PySem.Spec PySem.SeqAt
set_option Elab.async false
set_option linter.all false
set_option maxRecDepth 100000
namespace Mine

def bindV : List (Str × V) → Fra → Fra
  | [], m => m
  | (n, v) :: r, m => bindV r (m.set n v)

theorem bindV_rel {h : Heap} {kindOf : Str → Option NameKind} : ∀ {xs : List Str} {vs : List V} {ws : List Value} {ρ : Fra} {mL mC : Str → Option Value}, VRels h vs ws →
    (∀ x v, ρ x = some v → (kindOf x = some .local → ∃ w, mL x = some w ∧ VRel h v w) ∧ (kindOf x ≠ some .local → ∃ w, mC x = some w ∧ VRel h v w)) →
    ∀ x v, bindV (xs.zip vs) ρ x = some v → (kindOf x = some .local → ∃ w, bindL kindOf (xs.zip ws) mL x = some w ∧ VRel h v w) ∧ (kindOf x ≠ some .local → ∃ w, bindC kindOf (xs.zip ws) mC x = some w ∧ VRel h v w)
  | [], vs, ws, ρ, mL, mC, _, q => by simpa [bindV, bindL, bindC] using q
  | y :: xs, [], ws, ρ, mL, mC, r, q => by have e : ws = [] := r; subst e; simpa [bindV, bindL, bindC] using q
  | y :: xs, u :: vs, ws, ρ, mL, mC, r, q => by
    obtain ⟨w, ws', rfl, a, b⟩ := r
    simp only [List.zip_cons_cons, bindV, bindL, bindC]
    refine bindV_rel b fun x v e => ?_
    by_cases hl : kindOf y = some .local
    · simp only [if_pos hl]
      by_cases z : x = y
      · subst z; simp at e; subst e; exact ⟨fun _ => ⟨w, by simp, a⟩, fun n => absurd hl n⟩
      · rw [Fra.set_ne z] at e; simpa [z] using q x v e
    · simp only [if_neg hl]
      by_cases z : x = y
      · subst z; simp at e; subst e; exact ⟨fun n => absurd n hl, fun _ => ⟨w, by simp, a⟩⟩
      · rw [Fra.set_ne z] at e; simpa [z] using q x v e

theorem bindV_mem : ∀ {bs : List (Str × V)} {ρ : Fra} {x : Str} {v : V}, bindV bs ρ x = some v → (∃ u, (x, u) ∈ bs) ∨ ρ x = some v
  | [], _, _, _, h => .inr h
  | (n, u) :: r, ρ, x, v, h => by
    rcases bindV_mem (bs := r) h with ⟨u', h⟩ | h
    · exact .inl ⟨u', .tail _ h⟩
    · by_cases z : x = n
      · subst z; exact .inl ⟨u, .head _⟩
      · rw [Fra.set_ne z] at h; exact .inr h

def retOf : Fl → V
  | .ret v => v
  | _ => .none
theorem retOf_rel {h : Heap} {f : Fl} {x : Flow} (r : FRel h f x) : VRel h (retOf f) (match (generalizing := false) x with | .ret v => v | _ => .none) := by
  cases f with
  | next => have e : x = .next := r; subst e; rfl
  | brk => have e : x = .brk := r; subst e; rfl
  | cont => have e : x = .cont := r; subst e; rfl
  | ret v => obtain ⟨w, rfl, rv⟩ := r; exact rv

/-- a call's code -/
def Kw (C : Cx) (d : Nat) (f : Value) (vs : List V) (Q : V → Store → Prop) (σ : Store) : Prop :=
  ∀ (A : Around) (R : Result → Shared → Prop) (s : Shared) (ws : List Value), Room d A → Rep C σ s.heap → VRels s.heap vs ws →
    (∀ b σ' x h' tk, Q b σ' → Rep C σ' h' → VRel h' b x → Stp σ σ' s.heap h' → R (.ok (.ret x)) { s with heap := h', toks := tk }) → codeAny C.M A (.call f ⟨ws, []⟩) R s

section
variable {C : Cx} {d : Nat} {env : Env} {ρ : Fra} {σ : Store}

theorem Kw.cw {f : Value} {vs : List V} {Q : V → Store → Prop} (h : Kw C d f vs Q σ) : Cw C d f vs Q σ :=
  fun A E s Qc ws rm R r hq => wpAny_call (h A _ s ws rm R r hq)
theorem Kw.mono {f : Value} {vs : List V} {Q Q' : V → Store → Prop} (h : Kw C d f vs Q σ) (k : ∀ b σ', Q b σ' → Q' b σ') : Kw C d f vs Q' σ :=
  fun A R s ws rm Rp r hq => h A R s ws rm Rp r fun b σ' x h' tk q => hq b σ' x h' tk (k b σ' q)

theorem Kw_def {name qual : Str} {params : Arguments} {body : List Stmt} {scope : Scope} {dV kV doc pm cdv ct oc : Value} {an od : Option Addr} {osl : Array (Option Value)} {f : Addr} {vs : List V} {Q : V → Store → Prop} (xs : List Str)
    (ho : C.K.lookup f = some ⟨oc, od, .func (fnOf name qual params body scope dV kV doc pm an cdv ct), osl⟩) (hcd : codeIn C.K cdv qual = true)
    (hbind : ∀ ws : List Value, ws.length = vs.length → bindArgs (fnOf name qual params body scope dV kV doc pm an cdv ct) ⟨ws, []⟩ = pure (xs.zip ws))
    (hkind : (xs.all fun y => (scope.names.lookup y == some .local || scope.names.lookup y == some .cell) && !(y == ("__classdict__" : Str))) = true)
    (h : ∀ L, Sx C d (envOfC qual scope L f cdv) body (fun fl _ σ' => Q (retOf fl) σ') (bindV (xs.zip vs) fun _ => none) σ)
    (hco : scope.isCoroutine = false := by rfl) (hgen : scope.isGenerator = false := by rfl) (hk : scope.kind = .function := by rfl) : Kw C (d + 1) (.ref f) vs Q σ :=
  fun A R s ws rm Rp r hq => by
    have hk' : ∀ y ∈ xs, (scope.names.lookup y = some .local ∨ scope.names.lookup y = some .cell) ∧ (y == ("__classdict__" : Str)) = false := fun y hy => by
      have := List.all_eq_true.mp hkind y hy
      rw [Bool.and_eq_true, Bool.or_eq_true] at this
      exact ⟨this.1.imp (fun q => by simpa using q) fun q => by simpa using q, by simpa using this.2⟩
    have hm : ∀ {α : Type} {ys : List α} {x : Str × α}, x ∈ xs.zip ys → x.1 ∈ xs := fun {α ys x} hx => (List.of_mem_zip hx).1
    refine codeAny_call_cells (fd := fnOf name qual params body scope dV kV doc pm an cdv ct) (Nat.lt_of_le_of_lt (Nat.le_trans (Nat.le_add_right _ _) rm.depth) (by decide)) (Rp.kin _ _ ho) rfl (Rp.ok.nolimit.keeps Rp.base) (codeRec_of Rp.kin hcd) rfl (hbind ws r.length) rfl
      (fun x hx => ?_) (fun s₁ X => ?_) hco hgen hk
    · rcases (hk' _ (hm hx)).1 with q | q
      · exact .inl q
      · exact .inr ⟨q, cellsFrom_some _ _ _ (.inl q)⟩
    obtain ⟨h₁, tk, rfl, keep⟩ := X.done
    have im : KeepsIm s.heap h₁ := fun b o e _ => keep b o e
    have low : ∀ a o, σ a = some o → a < s.heap.objs.size := fun a o e => by
      obtain ⟨co, e', _⟩ := (Rp.objs a o e).cls
      exact Heap.lt_size e'
    have low' : ∀ a, s.heap.objs.size ≤ a → σ a = none ∧ C.g.get? a = none ∧ s.heap.get? a = none := fun a ha => by
      refine ⟨?_, ?_, ?_⟩
      · cases q : σ a with
        | none => rfl
        | some o => exact absurd (low a o q) (Nat.not_lt.mpr ha)
      · cases q : C.g.get? a with
        | none => rfl
        | some o => exact absurd (Heap.lt_size (Rp.base _ _ q)) (Nat.not_lt.mpr ha)
      · cases q : s.heap.get? a with
        | none => rfl
        | some o => exact absurd (Heap.lt_size q) (Nat.not_lt.mpr ha)
    have st : Stp σ σ s.heap h₁ := ⟨fun b o e _ => keep b o e, fun _ o e => .inl ⟨o, e⟩, fun b o e => ⟨o, keep b o e⟩⟩
    have R₁ : Rep C σ h₁ := ⟨Rp.ok, fun b o e => keep _ _ (Rp.base b o e), Rp.off, fun a o e => (Rp.objs a o e).keep im fun co q => keep _ _ q⟩
    have rel := bindV_rel (h := h₁) (kindOf := (envOfC qual scope s.heap.objs.size f cdv).kindOf) (xs := xs) (ρ := fun _ => none) (mL := fun _ => none) (mC := fun _ => none) (VRels.keep im _ _ r) (fun x v e => by cases e)
    have F₁ : FrameRep C (envOfC qual scope s.heap.objs.size f cdv) (bindV (xs.zip vs) fun _ => none) σ h₁ := by
      refine ⟨hk, rfl, rfl, (low' _ (Nat.le_refl _)).2.1, (low' _ (Nat.le_refl _)).1, ⟨_, X.toInCall.ns, fun x v e kx => (rel x v e).1 kx⟩, fun x v e kx => ?_, fun x c e => ?_, fun x y c e e' => name_of_addr X.apart (mem_of_lookup e) (mem_of_lookup e')⟩
      · have hx : x ∈ xs := by
          rcases bindV_mem e with ⟨u, q⟩ | q
          · exact hm q
          · cases q
        rcases (hk' x hx).1 with q | q
        · exact absurd q kx
        · obtain ⟨c, ec⟩ := Option.isSome_iff_exists.mp (cellsFrom_some (x := x) scope.names (s.heap.objs.size + 1) [] (.inl q))
          obtain ⟨w, a, b⟩ := (rel x v e).2 kx
          have hc := X.cell x c ec
          exact ⟨.inl q, (hk' x hx).2, c, w, ec, a ▸ hc, b⟩
      · have hlt : s.heap.objs.size < c := X.above x c (mem_of_lookup e)
        have := low' c (Nat.le_of_lt hlt)
        exact ⟨this.1, this.2.1, Nat.ne_of_gt hlt, _, X.cell x c e⟩
    refine h s.heap.objs.size _ _ _ _ (rm.deeper _) R₁ F₁ fun b ρ' σ' x h' tk' q R' F' r' s' => ?_
    have hlow : ∀ b o, s.heap.get? b = some o → b < s.heap.objs.size := fun b o e => Heap.lt_size e
    refine hq _ σ' _ h' tk' q R' (retOf_rel r') ⟨fun b o e n => s'.keep b o (keep b o e) n (Nat.ne_of_lt (hlow b o e)) fun _ x z => ?_, fun a o e => ?_, fun b o e => s'.live b o (keep b o e)⟩
    · exact Nat.lt_asymm (hlow b o e) (X.above x b (mem_of_lookup z))
    · rcases s'.fresh a o e with z | z
      · exact .inl z
      · refine .inr ?_
        cases q : s.heap.get? a with
        | none => rfl
        | some o' => rw [keep a o' q] at z; cases z
end
end Mine

open PySem PySem.W PyProof.Rows PySem.Calls PyProof.V PySem.Spec PySem.SeqAt
set_option Elab.async false
set_option linter.all false
set_option maxRecDepth 100000
namespace Mine
section
variable {C : Cx} {d : Nat} {env : Env} {ρ : Fra} {σ : Store}

theorem Room.under_make {d : Nat} {A : Around} {c : Addr} {rest : List Value} {kw} (x : Room (d + 2) A) : Room d (A.under (.builtin "type.__call__" ⟨.ref c :: rest, kw⟩)) := by
  refine ⟨x.hh, ?_, ?_⟩
  · have := x.depth
    have e : (Code.builtin "type.__call__" ⟨.ref c :: rest, kw⟩).weight ≤ 2 := by
      rw [show (Code.builtin "type.__call__" ⟨.ref c :: rest, kw⟩).weight = 1 from by with_unfolding_all rfl]; decide
    show A.depth + _ + d ≤ 900
    omega
  · have := x.units
    have e : (Code.builtin "type.__call__" ⟨.ref c :: rest, kw⟩).cUnits ≤ 8 := by
      rw [show (Code.builtin "type.__call__" ⟨.ref c :: rest, kw⟩).cUnits = 1 from by with_unfolding_all rfl]; decide
    show A.units + _ + 8 * d ≤ 8000
    omega

theorem Kw_make {Cl fI : Addr} {vs : List V} {Q : V → Store → Prop} (hm : makesIn C.K Cl = true) (hi : findIn C.K (.ref Cl) "__init__" = some (some (.ref fI))) (hf : isFn C.K (.ref fI) = true)
    (h : ∀ dx, σ dx = none → Kw C d (.ref fI) (.obj Cl dx :: vs) (fun v σ' => v = .none ∧ Q (.obj Cl dx) σ') (σ.set dx (.ns 0 fun _ => none))) : Kw C (d + 2) (.ref Cl) vs Q σ :=
  fun A R s ws rm Rp r hq => by
    obtain ⟨hh, g, dd, t, os⟩ := s
    have X := Rp.kin
    refine make_core (makes_of X hm) (looks_findIn X hi) (fun self => bind_fn X self (beq_iff_eq.mp hf)) (.inl rfl) ?_
    have e0 : hh.get? hh.objs.size = none := by
      cases q : hh.get? hh.objs.size with
      | none => rfl
      | some o => exact absurd (Heap.lt_size q) (Nat.lt_irrefl _)
    obtain ⟨R₁, s₁, n₁⟩ := Rp.alloc (o := .ns 0 fun _ => none) e0 Rp.size.1 Rp.size.2 (fun b o e => Heap.get?_push_of_some emptyDict e) ⟨[], 0, Heap.get?_push_size _ rfl, Nat.le_refl _, (fun _ h => by cases h), fun x => ⟨(fun v hv => by cases hv), fun _ => rfl⟩⟩
    obtain ⟨R₂, s₂⟩ := R₁.push (instObj Cl hh.objs.size)
    have st := s₁.trans s₂
    have ho : VRel ((hh.push emptyDict).push (instObj Cl hh.objs.size)) (.obj Cl hh.objs.size) (.ref (hh.objs.size + 1)) := ⟨_, rfl, by heap_get⟩
    refine h hh.objs.size n₁ _ _ ⟨_, g, dd, t, os⟩ _ rm.under_make R₂ (VRels.cons ho (Rp.vals st.keep r)) fun b σ' x h' tk q R' rb s' => ?_
    obtain ⟨rfl, q⟩ := q
    have e : x = .none := rb
    exact ⟨e, hq _ σ' _ h' tk q R' (R₂.val s'.keep ho) (st.trans s')⟩
end
end Mine

open PySem PySem.W PyProof.Rows PySem.Calls PyProof.V PySem.Spec PySem.SeqAt
set_option Elab.async false
set_option linter.all false
set_option maxRecDepth 100000
namespace Mine
section
variable {C : Cx} {d : Nat} {env : Env} {ρ : Fra} {σ : Store}

theorem one_of {h : Heap} {v : V} {ws : List Value} (r : VRels h [v] ws) : ∃ w, ws = [w] ∧ VRel h v w := by
  obtain ⟨w, ws', rfl, a, b⟩ := r
  have e : ws' = [] := b
  subst e
  exact ⟨w, rfl, a⟩
theorem two_of {h : Heap} {u v : V} {ws : List Value} (r : VRels h [u, v] ws) : ∃ x w, ws = [x, w] ∧ VRel h u x ∧ VRel h v w := by
  obtain ⟨x, ws', rfl, a, b⟩ := r
  obtain ⟨w, rfl, c⟩ := one_of b
  exact ⟨x, w, rfl, a, c⟩
theorem three_of {h : Heap} {u v z : V} {ws : List Value} (r : VRels h [u, v, z] ws) : ∃ x w y, ws = [x, w, y] ∧ VRel h u x ∧ VRel h v w ∧ VRel h z y := by
  obtain ⟨x, ws', rfl, a, b⟩ := r
  obtain ⟨w, y, rfl, c, e⟩ := two_of b
  exact ⟨x, w, y, rfl, a, c, e⟩

theorem ext_of {h h' : Heap} (R : Rep C σ h) (k : ∀ b o, h.get? b = some o → h'.get? b = some o) : Rep C σ h' ∧ Stp σ σ h h' :=
  ⟨⟨R.ok, fun b o e => k _ _ (R.base b o e), R.off, fun a o e => (R.objs a o e).keep (fun b o q _ => k b o q) fun co q => k _ _ q⟩, fun b o e _ => k _ _ e, fun _ o e => .inl ⟨o, e⟩, fun b o e => ⟨o, k _ _ e⟩⟩

theorem gone_of {h : Heap} {a : Addr} (le : h.objs.size ≤ a) : h.get? a = none := by
  cases q : h.get? a with
  | none => rfl
  | some o => exact absurd (Heap.lt_size q) (Nat.not_lt.mpr le)

/-- a new object at or above the heap's end -/
theorem Rep.alloc' {h h' : Heap} {a : Addr} {o : O} (R : Rep C σ h) (le : h.objs.size ≤ a) (k : ∀ b o, h.get? b = some o → h'.get? b = some o) (r : ORel C.prog C.w h' a o) :
    Rep C (σ.set a o) h' ∧ Stp σ (σ.set a o) h h' ∧ σ a = none := by
  refine R.alloc (gone_of le) ?_ ?_ k r
  · cases q : C.g.get? a with
    | none => rfl
    | some o => exact absurd (Heap.lt_size (R.base _ _ q)) (Nat.not_lt.mpr le)
  · refine beq_eq_false_iff_ne.mpr (Nat.ne_of_gt (Nat.lt_of_lt_of_le ?_ le))
    exact (modules_low (R.ok.nolimit.keeps R.base))

theorem Cw_lenL {a : Addr} {vs : List V} {Q : V → Store → Prop} (ha : σ a = some (.list vs)) (hz : vs.length ≤ 1000000) (h : Q (.int vs.length) σ) : Cw C d (.builtin "len") [.ref a] Q σ :=
  fun A E s Qc ws rm R r hq => by
    obtain ⟨w, rfl, r1⟩ := one_of r
    have e : w = .ref a := r1
    subst e
    obtain ⟨ws, l, rr⟩ := R.list ha
    have hl : ws.size = vs.length := by have := rr.length; simpa using this
    exact call_len_list l.isList (by rw [hl]; exact Int.lt_of_le_of_lt (Int.ofNat_le.mpr hz) (by decide)) (hq _ _ _ s.heap _ h R ⟨_, by rw [hl]⟩ (Stp.refl ..))
theorem Cw_lenT {vs : List V} {Q : V → Store → Prop} (hz : vs.length ≤ 1000000) (h : Q (.int vs.length) σ) : Cw C d (.builtin "len") [.tup vs] Q σ :=
  fun A E s Qc ws rm R r hq => by
    obtain ⟨w, rfl, r1⟩ := one_of r
    obtain ⟨a, n, ws, rfl, ha, rr⟩ := r1
    have hl : ws.size = vs.length := by have := rr.length; simpa using this
    exact len_tuple ⟨_, ha, rfl, n, rfl⟩ (by rw [hl]; exact Int.lt_of_le_of_lt (Int.ofNat_le.mpr hz) (by decide)) (hq _ _ _ s.heap _ h R ⟨_, by rw [hl]⟩ (Stp.refl ..))
theorem Cw_lenD {a : Addr} {kvs : List (Int × V)} {Q : V → Store → Prop} (ha : σ a = some (.idict kvs)) (hz : kvs.length ≤ 1000000) (h : Q (.int kvs.length) σ) : Cw C d (.builtin "len") [.ref a] Q σ :=
  fun A E s Qc ws rm R r hq => by
    obtain ⟨w, rfl, r1⟩ := one_of r
    have e : w = .ref a := r1
    subst e
    obtain ⟨cvs, dd, ek, rr⟩ := R.objs a _ ha
    have hl : cvs.length = kvs.length := by have := congrArg List.length ek; simpa using this
    exact call_len_dict (R.off a _ ha).2 dd (by rw [hl]; exact Int.lt_of_le_of_lt (Int.ofNat_le.mpr hz) (by decide)) (hq _ _ _ s.heap _ h R ⟨_, by rw [hl]⟩ (Stp.refl ..))

theorem Cw_range1 {n : Int} {Q : V → Store → Prop} (h : Q (.rng 0 n 1) σ) : Cw C d (.type "range") [.int n] Q σ :=
  fun A E s Qc ws rm R r hq => by
    obtain ⟨w, rfl, t, rfl⟩ := one_of r
    refine call_range_1 ?_
    obtain ⟨R₂, s₂⟩ := R.push { cls := .type "range", data := .fields #[.int 0 s.toks, .int n t, .int 1 (s.toks + 1)] }
    exact hq _ _ _ _ _ h R₂ ⟨_, _, _, _, rfl, IsRange.new ..⟩ s₂
theorem Cw_range2 {a b : Int} {Q : V → Store → Prop} (h : Q (.rng a b 1) σ) : Cw C d (.type "range") [.int a, .int b] Q σ :=
  fun A E s Qc ws rm R r hq => by
    obtain ⟨x, w, rfl, ⟨t, rfl⟩, ⟨u, rfl⟩⟩ := two_of r
    refine call_range_2 ?_
    obtain ⟨R₂, s₂⟩ := R.push { cls := .type "range", data := .fields #[.int a t, .int b u, .int 1 s.toks] }
    exact hq _ _ _ _ _ h R₂ ⟨_, _, _, _, rfl, IsRange.new ..⟩ s₂
theorem Cw_range3 {a b c : Int} {Q : V → Store → Prop} (hc : c ≠ 0) (hp : c.natAbs < 1073741824) (h : Q (.rng a b c) σ) : Cw C d (.type "range") [.int a, .int b, .int c] Q σ :=
  fun A E s Qc ws rm R r hq => by
    obtain ⟨x, w, y, rfl, ⟨t, rfl⟩, ⟨u, rfl⟩, ⟨v, rfl⟩⟩ := three_of r
    refine call_range_3 hc ?_ (.inl (PyProof.noPylong_small hp))
    obtain ⟨R₂, s₂⟩ := R.push { cls := .type "range", data := .fields #[.int a t, .int b u, .int c v] }
    exact hq _ _ _ _ _ h R₂ ⟨_, _, _, _, rfl, IsRange.new ..⟩ s₂

theorem Cw_intI {n : Int} {Q : V → Store → Prop} (h : Q (.int n) σ) : Cw C d (.type "int") [.int n] Q σ :=
  fun A E s Qc ws rm R r hq => by
    obtain ⟨w, rfl, t, rfl⟩ := one_of r
    exact call_int_int (hq _ _ _ s.heap s.toks h R ⟨t, rfl⟩ (Stp.refl ..))
theorem Cw_intB {b : Bool} {Q : V → Store → Prop} (h : Q (.int (if b then 1 else 0)) σ) : Cw C d (.type "int") [.bool b] Q σ :=
  fun A E s Qc ws rm R r hq => by
    obtain ⟨w, rfl, r1⟩ := one_of r
    have e : w = .bool b := r1
    subst e
    exact call_int_bool (hq _ _ _ s.heap _ h R ⟨_, rfl⟩ (Stp.refl ..))

theorem Cw_append {a : Addr} {vs : List V} {v : V} {Q : V → Store → Prop} (ha : σ a = some (.list vs)) (hz : vs.length ≤ 1000000) (h : Q .none (σ.set a (.list (vs ++ [v])))) : Cw C d (.builtin "list.append") [.ref a, v] Q σ :=
  fun A E s Qc ws rm R r hq => by
    obtain ⟨x, w, rfl, e, rv⟩ := two_of r
    have e : x = .ref a := e
    subst e
    obtain ⟨ws, l, rr⟩ := R.list ha
    have hl : ws.size = vs.length := by have := rr.length; simpa using this
    refine wpAny_list_append_plain l (fun h' l' sb => ?_) (by rw [hl, sizeLine_eq]; exact Nat.le_trans hz (by decide))
    have kp : KeepsIm s.heap h' := fun b co q im => sb.extBut b co (fun z => by
      subst z
      obtain ⟨n, l⟩ := l
      rw [q] at l; cases l
      exact notIm_list rfl rfl im) q
    obtain ⟨R', st⟩ := R.change (o' := .list (vs ++ [v])) ha (fun b co z q => sb.extBut b co z q) ⟨_, l', by
      rw [Array.toList_push]
      exact VRels.append (VRels.keep kp _ _ rr) (VRels.cons (VRel.keep kp _ _ rv) VRels.nil)⟩
    exact hq _ _ _ h' s.toks h R' rfl st

theorem Cw_pop {a : Addr} {vs : List V} {v : V} {Q : V → Store → Prop} (ha : σ a = some (.list (vs ++ [v]))) (hz : vs.length ≤ 1000000) (h : Q v (σ.set a (.list vs))) : Cw C d (.builtin "list.pop") [.ref a] Q σ :=
  fun A E s Qc ws rm R r hq => by
    obtain ⟨x, rfl, e⟩ := one_of r
    have e : x = .ref a := e
    subst e
    obtain ⟨ws, ⟨n, l⟩, rr⟩ := R.list ha
    have hl : ws.size = vs.length + 1 := by have := rr.length; simpa using this
    obtain ⟨y, hy, ry⟩ := VRels.at (i := vs.length) (v := v) rr (by simp)
    refine Copied.pop_at l (y := y) (by rw [hl]; simpa using hy) (fun h' sb l' => ?_) (by rw [hl, sizeLine_eq]; exact Nat.le_trans (Nat.succ_le_succ hz) (by decide))
    have kp : KeepsIm s.heap h' := fun b co q im => sb.extBut b co (fun z => by
      subst z
      rw [q] at l; cases l
      exact notIm_list rfl rfl im) q
    have tk : ∀ {vs : List V} {ws : List Value}, VRels s.heap (vs ++ [v]) ws → VRels s.heap vs ws.dropLast := by
      intro vs
      induction vs with
      | nil => intro ws r; obtain ⟨w, rfl, _⟩ := one_of r; exact VRels.nil
      | cons u vs ih =>
        intro ws r
        obtain ⟨w, ws', rfl, a, b⟩ := r
        have := ih b
        have ne : ws' ≠ [] := by
          intro z
          have := VRels.length b
          rw [z] at this
          simp at this
        rw [List.dropLast_cons_of_ne_nil ne]
        exact VRels.cons a this
    obtain ⟨R', st⟩ := R.change (o' := .list vs) ha (fun b co z q => sb.extBut b co z q) ⟨_, ⟨_, l'⟩, by
      rw [Array.toList_pop]
      exact VRels.keep kp _ _ (tk rr)⟩
    exact hq _ _ _ h' s.toks h R' (VRel.keep kp _ _ ry) st

theorem Cw_tupleL {a : Addr} {vs : List V} {Q : V → Store → Prop} (ha : σ a = some (.list vs)) (hz : vs.length ≤ 1000000) (h : Q (.tup vs) σ) : Cw C d (.type "tuple") [.ref a] Q σ :=
  fun A E s Qc ws rm R r hq => by
    obtain ⟨x, rfl, e⟩ := one_of r
    have e : x = .ref a := e
    subst e
    obtain ⟨ws, l, rr⟩ := R.list ha
    have hl : ws.size = vs.length := by have := rr.length; simpa using this
    refine call_tuple_list l.isList (fun h' hk => ?_) (by rw [hl, sizeLine_eq]; exact Nat.le_trans hz (by decide))
    have kk : ∀ b o, s.heap.get? b = some o → (h'.push { cls := .type "tuple", data := .seq ws }).get? b = some o := fun b o e => Heap.get?_push_of_some _ (hk b o e)
    obtain ⟨R', st⟩ := ext_of R kk
    exact hq _ _ _ _ s.toks h R' ⟨_, _, _, rfl, Heap.get?_push_size _ rfl, R.vals st.keep rr⟩ st
theorem Cw_tupleT {vs : List V} {Q : V → Store → Prop} (h : Q (.tup vs) σ) : Cw C d (.type "tuple") [.tup vs] Q σ :=
  fun A E s Qc ws rm R r hq => by
    obtain ⟨x, rfl, e⟩ := one_of r
    obtain ⟨a, n, ws, rfl, ha, rr⟩ := e
    exact call_tuple_same ⟨_, ha, rfl, n, rfl⟩ (hq _ _ _ s.heap s.toks h R ⟨a, n, ws, rfl, ha, rr⟩ (Stp.refl ..))

theorem Cw_listR {n : Nat} {Q : V → Store → Prop} (hz : n ≤ 1000000) (h : ∀ a, σ a = none → Q (.ref a) (σ.set a (.list ((List.range n).map fun i : Nat => V.int i)))) : Cw C d (.type "list") [.rng 0 n 1] Q σ :=
  fun A E s Qc ws rm R r hq => by
    obtain ⟨x, rfl, e⟩ := one_of r
    obtain ⟨r, t, u, v, rfl, hr⟩ := e
    have hb : (n : Int) ≤ 1000000 := Int.ofNat_le.mpr hz
    refine call_list_range (n := n) rm.hh hr (small_one (by decide) (by decide) (by omega) (by omega)) (by rw [rangeSize_one]; split <;> omega) (by omega) fun h' tk acc' c' hk ha hit => ?_
    have rl : VRels h' ((List.range n).map fun i : Nat => V.int i) acc'.toList := by
      have hl : acc'.toList.length = n := by rw [Array.length_toList]; exact hit.1
      have gen : ∀ (l : List Value) (k : Nat), (∀ j v, l[j]? = some v → ∃ t, v = Value.int ((k + j : Nat) : Int) t) → VRels h' ((List.range' k l.length).map fun i : Nat => V.int i) l := by
        intro l
        induction l with
        | nil => intro k _; exact VRels.nil
        | cons x l ih =>
          intro k hx
          obtain ⟨t, e⟩ := hx 0 x rfl
          rw [List.length_cons, List.range'_succ, List.map_cons]
          refine VRels.cons ⟨t, e⟩ (ih (k + 1) fun j v e => ?_)
          obtain ⟨t, e'⟩ := hx (j + 1) v e
          exact ⟨t, by rw [e']; congr 2; omega⟩
      have := gen acc'.toList 0 fun j v e => by
        obtain ⟨t, e'⟩ := hit.2 j v (by rw [← Array.getElem?_toList]; exact e)
        exact ⟨t, by rw [e']; congr 1; simp⟩
      rw [hl] at this
      rw [List.range_eq_range']
      exact this
    obtain ⟨R', st, n'⟩ := R.alloc' (o := .list ((List.range n).map fun i : Nat => V.int i)) (Nat.le_refl _) hk ⟨_, ⟨_, ha⟩, rl⟩
    exact hq _ _ _ _ _ (h _ n') R' rfl st
end
end Mine

open PySem PySem.W PyProof.Rows PySem.Calls PyProof.V PySem.Spec PySem.SeqAt
set_option Elab.async false
set_option linter.all false
set_option maxRecDepth 100000
namespace Mine

/-- ascending and the same members: the one sorted list -/
theorem sorted_unique {a b : List Int} (p : a.Perm b) (ha : a.Pairwise (· ≤ ·)) (hb : b.Pairwise (· ≤ ·)) : a = b := p.eq_of_pairwise (fun _ _ _ _ x y => Int.le_antisymm x y) ha hb

theorem is_int {prog : Program} {w : World} {k : Int} {v : Value} (h : (intKind prog w).is k v = true) : ∃ t, v = .int k t := by
  cases v <;> first | (simp [intKind, Value.isInt] at h; done) | (simp [intKind, Value.isInt] at h; subst h; exact ⟨_, rfl⟩)
theorem ints_unique : ∀ {l : List Value} {a b : List Int}, IntsAre l a → IntsAre l b → a = b
  | _, _, _, .nil, .nil => rfl
  | _, _, _, .cons _ _ r, .cons _ _ r' => by rw [ints_unique r r']
section
variable {C : Cx} {d : Nat} {env : Env} {ρ : Fra} {σ : Store}

theorem wp_sorted {T : String} {r dd : Addr} {n : Nat} {P : Nat → Value → Prop} {OK : Heap → Prop} {A : Around} {E : Value → Shared → Prop} {s : Shared} {Q : Value → Shared → Prop} (K : KdlSrc C.prog C.w T r dd n P OK) (hh : A.handled = none) (hok : OK s.heap) (hn : n < 64) (Rp : Rep C σ s.heap)
    (hints : ∀ acc : Array Value, ItemsOf P acc n → ∃ ns, IntsAre acc.toList ns)
    (h : ∀ (h' : Heap) (tk : Nat) (acc : Array Value) (ns : List Int) (out : Array Value) (ns' : List Int) (a : Addr), ItemsOf P acc n → IntsAre acc.toList ns → IntsAre out.toList ns' → ns'.Perm ns → ns'.Pairwise (· ≤ ·) → s.heap.get? a = none → C.g.get? a = none → (a == sysModules) = false →
      (∀ b o, s.heap.get? b = some o → h'.get? b = some o) → h'.PlainList a out → Q (.ref a) { s with heap := h', toks := tk }) :
    wpAny (model C.prog C.w) A (call (.builtin "sorted") [.ref r]) Q E s := by
  have hz : n ≤ sizeLine := by rw [sizeLine_eq]; omega
  refine call_function_entry kind_sorted plain_sorted entry_sorted (args_sorted1 _) ?_
  unfold Builtin.«sorted»
  refine wpAny_bind (m := checkCount "sorted" 1 1 _) (wpAny_pure ?_)
  refine wpAny_bind (kdu_collect (A := A.in1) K hh hok hz fun h' tk acc hk hacc => ?_)
  have hl : acc.toList.length = n := by rw [Array.length_toList]; exact hacc.1
  obtain ⟨ns, hi⟩ := hints acc hacc
  refine wpAny_bind (wpAny_newList ?_ (by rw [hl]; exact hz))
  have ho : (h'.push (seqObj "list" acc.toList.toArray 0)).get? h'.objs.size = some (seqObj "list" acc.toList.toArray 0) := Heap.get?_push_size _ rfl
  refine wpAny_bind (wpAny_holding (wpAny_call_entry slot_list_sort ⟨_, ho, rfl⟩ entry_list_sort (list_sort_tree (s := { s with heap := h'.push (seqObj "list" acc.toList.toArray 0), toks := tk }) ho hi (by rw [hl]; exact hn) fun out ns' a1 a2 a3 => ⟨_, rfl, ?_⟩) (args_list_sort _)))
  refine wpAny_pure ⟨_, rfl, ?_⟩
  have hlt : ∀ {b o}, s.heap.get? b = some o → b < h'.objs.size := fun e => Heap.lt_size (hk _ _ e)
  obtain ⟨e, he⟩ := sortedHeap_at (out := out) ho
  have hno : s.heap.get? h'.objs.size = none := by
    cases q : s.heap.get? h'.objs.size with
    | some o => exact absurd (hlt q) (Nat.lt_irrefl _)
    | none => rfl
  refine h _ _ acc ns out ns' h'.objs.size hacc hi a1 a2 a3 hno ?_ ?_ (fun b o q => ?_) ⟨_, he⟩
  · cases q : C.g.get? h'.objs.size with
    | some o => exact absurd (hlt (Rp.base _ _ q)) (Nat.lt_irrefl _)
    | none => rfl
  · exact beq_eq_false_iff_ne.mpr (Nat.ne_of_gt (modules_low ((Rp.ok.nolimit.keeps Rp.base).keeps hk)))
  · rw [sortedHeap_old (Nat.ne_of_lt (hlt q)) (by rw [size_push']; exact Nat.lt_succ_of_lt (hlt q))]
    exact Heap.get?_push_of_some _ (hk _ _ q)

theorem Cw_sortedD {a : Addr} {kvs : List (Int × V)} {ns' : List Int} {Q : V → Store → Prop} (ha : σ a = some (.idict kvs)) (hz : kvs.length < 64) (hp : ns'.Perm (kvs.map (·.1))) (hs : ns'.Pairwise (· ≤ ·))
    (h : ∀ b, σ b = none → Q (.ref b) (σ.set b (.list (ns'.map V.int)))) : Cw C d (.builtin "sorted") [.ref a] Q σ :=
  fun A E s Qc ws rm R r hq => by
    obtain ⟨x, rfl, e⟩ := one_of r
    have e : x = .ref a := e
    subst e
    obtain ⟨cvs, dd, ek, rr⟩ := R.objs a _ ha
    have hl : cvs.length = kvs.length := by have := congrArg List.length ek; simpa using this
    obtain ⟨ep, hat⟩ := dd.dictAt
    have gen : ∀ (l : List Value) (cs : List (Int × Value)), l.length = cs.length → (∀ (j : Nat) (v : Value), l[j]? = some v → ∃ k x, cs[j]? = some (k, x) ∧ (intKind C.prog C.w).is k v = true) → IntsAre l (cs.map (·.1)) := by
      intro l
      induction l with
      | nil => intro cs e _; cases cs with | nil => exact .nil | cons _ _ => cases e
      | cons v l ih =>
        intro cs e hx
        cases cs with
        | nil => cases e
        | cons c cs =>
          obtain ⟨k, x, e1, e2⟩ := hx 0 v rfl
          cases e1
          obtain ⟨t, rfl⟩ := is_int e2
          exact .cons _ _ (ih cs (Nat.succ.inj e) fun j v e => hx (j + 1) v e)
    have it : ∀ acc : Array Value, ItemsOf (fun i v => ∃ k x, cvs[i]? = some (k, x) ∧ (intKind C.prog C.w).is k v = true) acc cvs.length → IntsAre acc.toList (cvs.map (·.1)) := fun acc hit =>
      gen _ _ (by rw [Array.length_toList]; exact hit.1) fun j v e => hit.2 j v (by rw [← Array.getElem?_toList]; exact e)
    refine wp_sorted (kdl_dict (knd := intKind C.prog C.w) (kvs := cvs) (ep := ep) (R.off a _ ha).2) rm.hh hat (by rw [hl]; exact hz) R (fun acc hit => ⟨_, it acc hit⟩) fun h' tk acc ns out ns₂ b hit hi ho p2 s2 f1 f2 f3 hk hpl => ?_
    have e1 : ns = cvs.map (·.1) := ints_unique hi (it acc hit)
    have e2 : ns₂ = ns' := sorted_unique (p2.trans (by rw [e1, ek]; exact hp.symm)) s2 hs
    subst e2
    obtain ⟨R', st, n'⟩ := R.alloc (o := .list (ns₂.map V.int)) f1 f2 f3 hk ⟨_, hpl, ofInts ho⟩
    exact hq _ _ _ _ _ (h _ n') R' rfl st

theorem Cw_index {a : Addr} {ns : List Int} {k : Int} {Q : V → Store → Prop} (ha : σ a = some (.list (ns.map V.int))) (hz : ns.length ≤ 1000) (hk : k ∈ ns) (h : Q (.int (ns.idxOf k : Nat)) σ) : Cw C d (.builtin "list.index") [.ref a, .int k] Q σ :=
  fun A E s Qc ws rm R r hq => by
    obtain ⟨x, y, rfl, e, t, rfl⟩ := two_of r
    have e : x = .ref a := e
    subst e
    obtain ⟨ws, l, rr⟩ := R.list ha
    have hi := IntsOf rr
    obtain ⟨⟨cls, dd, data, sl⟩, ho, hc, n, hd⟩ := l.isList
    simp only at hc hd
    subst hc hd
    have hlen : ws.size = ns.length := by have := hi.length; simpa using this
    have hj : ns.idxOf k < ns.length := List.idxOf_lt_length_iff.mpr hk
    refine call_meets PySem.F.slot_list_index ⟨_, ho, rfl⟩ PySem.F.entry_list_index (PySem.F.args_list_index_2 _ _)
      (list_indexAt a ws n dd sl (.int k t) (isInt k) (ns.idxOf k) (by rw [hlen]; exact hj) (by omega) ?_ ?_) ⟨ho, fun y hy => (eq_isInt k t hi y (by simpa using hy)).at _ _, hq _ _ _ s.heap _ h R ⟨_, rfl⟩ (Stp.refl ..)⟩
    · have := isInt_at k hi (ns.idxOf k) (by rw [Array.length_toList, hlen]; exact hj) hj
      rw [Array.getElem_toList] at this
      rw [this]
      simpa using List.getElem_idxOf hj
    · intro j hjs hlt
      have := isInt_at k hi j (by rw [Array.length_toList]; exact hjs) (by omega)
      rw [Array.getElem_toList] at this
      rw [this]
      exact ne_of_lt_idxOf hlt _
end
end Mine

open PySem PySem.W PyProof.Rows PySem.Calls PyProof.V PySem.Spec PySem.SeqAt
set_option Elab.async false
set_option linter.all false
set_option maxRecDepth 100000
namespace Mine

/-- the tests of a clause -/
def testsT (ifs : List Expr) (env : Env) : Sem Bool := forIn ifs true fun c r => if r = true then do let ok ← isTrue c env (eval c env); pure (ForInStep.yield ok) else pure (ForInStep.yield r)

def TurnIs (e : Expr) (k : Nat) (target : Expr) (ifs : List Expr) (p : Pos) (em : Value → Env → Sem PySem.Fin → Sem PySem.Fin) : Prop := ∀ (it acc : Value) (env : Env), compTurn e k it acc env = (do
      standAt p
      match ← pyNext it with
      | none => pure (.done .next)
      | some v =>
        letOwnedTupleGo target it v
        assign target env v
        let mut ok := true
        for c in ifs do
          if ok then ok ← isTrue c env (eval c env)
        if ok then em acc env (again (.compLoop e k it acc env)) else again (.compLoop e k it acc env))

def emLast (elt : Expr) (acc : Value) (env : Env) (k : Sem PySem.Fin) : Sem PySem.Fin := do
  (do let _ ← call (.builtin "list.append") [acc, ← eval elt env])
  k
def emNext (e : Expr) (n : Nat) (iter : Expr) (acc : Value) (env : Env) (k : Sem PySem.Fin) : Sem PySem.Fin := do
  let x ← eval iter env
  standAt iter.pos
  let x ← foldedSetIterable iter env x
  let _ ← runOwn (.compStart e n (← holding [x] (pyIter x)) acc env) env
  k

theorem turn_one {elt target iter : Expr} {ifs : List Expr} {scope : Scope} {pos : Pos} : TurnIs (.ListComp elt [⟨target, iter, ifs, 0⟩] scope pos) 0 target ifs iter.pos (emLast elt) := fun it acc env => by rfl
theorem turn_two0 {elt target iter target' iter' : Expr} {ifs ifs' : List Expr} {scope : Scope} {pos : Pos} :
    TurnIs (.ListComp elt [⟨target, iter, ifs, 0⟩, ⟨target', iter', ifs', 0⟩] scope pos) 0 target ifs iter.pos (emNext (.ListComp elt [⟨target, iter, ifs, 0⟩, ⟨target', iter', ifs', 0⟩] scope pos) 1 iter') := fun it acc env => by rfl
theorem turn_two1 {elt target iter target' iter' : Expr} {ifs ifs' : List Expr} {scope : Scope} {pos : Pos} :
    TurnIs (.ListComp elt [⟨target, iter, ifs, 0⟩, ⟨target', iter', ifs', 0⟩] scope pos) 1 target' ifs' iter'.pos (emLast elt) := fun it acc env => by rfl

section
variable {C : Cx} {d : Nat} {env cenv : Env} {ρ : Fra} {σ : Store}

/-- what is done with each item that passes -/
def Em (C : Cx) (d : Nat) (cenv : Env) (em : Value → Env → Sem PySem.Fin → Sem PySem.Fin) (D : Addr) (Q : Fra → Store → Prop) (ρ : Fra) (σ : Store) : Prop :=
  ∀ (A : Around) (E : Value → Shared → Prop) (s : Shared) (Qf : PySem.Fin → Shared → Prop) (k : Sem PySem.Fin), Room d A → Rep C σ s.heap → FrameRep C cenv ρ σ s.heap →
    (∀ ρ' σ' h' tk, Q ρ' σ' → Rep C σ' h' → FrameRep C cenv ρ' σ' h' → StpF cenv σ σ' s.heap h' → wpAny C.M A k Qf E { s with heap := h', toks := tk }) → wpAny C.M A (em (.ref D) cenv k) Qf E s

def Gw (C : Cx) (d : Nat) (cenv : Env) (e : Expr) (k : Nat) (D : Addr) (it : It) (Q : Fra → Store → Prop) (ρ : Fra) (σ : Store) : Prop :=
  ∀ (A : Around) (R : Result → Shared → Prop) (s : Shared) (I : Addr) (fp : List Addr) (h0 : Heap) (σ0 : Store), Room d A → Rep C σ s.heap → FrameRep C cenv ρ σ s.heap → ItRel s.heap I fp 0 it →
    (∀ b ∈ fp, h0.get? b = none ∧ σ b = none ∧ C.g.get? b = none ∧ b ≠ cenv.locals ∧ ∀ x c, cenv.cells.lookup x = some c → c ≠ b) → StpF cenv σ0 σ h0 s.heap →
    (∀ ρ' σ' h' tk, Q ρ' σ' → Rep C σ' h' → FrameRep C cenv ρ' σ' h' → StpF cenv σ0 σ' h0 h' → R (.ok .next) { s with heap := h', toks := tk }) → codeAny C.M A (.compStart e k (.ref I) (.ref D) cenv) R s

theorem it_self {A : Around} {E : Value → Shared → Prop} {s : Shared} {I : Addr} {fp : List Addr} {i : Nat} {it : It} {Q : Value → Shared → Prop} (x : ItRel s.heap I fp i it) (h : Q (.ref I) s) : wpAny C.M A (pyIter (.ref I)) Q E s := by
  cases it with
  | list a => obtain ⟨rfl, hit⟩ := x; exact wpAny_pyIter_listiter hit h
  | tup vs => obtain ⟨rfl, tt, n, ws, e0, r0, hit⟩ := x; exact wpAny_pyIter_tupleiter hit h
  | rng lo st n => obtain ⟨rfl, hit⟩ := x; exact wpAny_pyIter_rangeiter hit h
  | enum a => obtain ⟨it, old, rfl, ne, he, hit⟩ := x; exact wpAny_pyIter_enum he h

theorem comp_start {A : Around} {R : Result → Shared → Prop} {s : Shared} {elt : Expr} {gens : List Comprehension} {scope : Scope} {pos : Pos} {k : Nat} {I D : Addr} {fp : List Addr} {i : Nat} {it : It} {g : Comprehension} (hg : gens[k]? = some g) (ha : g.is_async = 0)
    (x : ItRel s.heap I fp i it) (h : codeAny C.M A (.compLoop (.ListComp elt gens scope pos) k (.ref I) (.ref D) cenv) R s) : codeAny C.M A (.compStart (.ListComp elt gens scope pos) k (.ref I) (.ref D) cenv) R s := by
  refine codeAny_of_tree ?_
  show wpAny _ _ ((compStart (.ListComp elt gens scope pos) k (.ref I) (.ref D) cenv).onRaise (fun x => do noteFrame x cenv; standAt theWindowsPlace)) _ _ s
  refine wpAny_notedAt ?_
  unfold compStart
  have hc : (clausesOf (.ListComp elt gens scope pos))[k]? = some g := hg
  rw [hc]
  have ha' : (g.is_async != 0) = false := by rw [ha]; rfl
  show wpAny _ _ (if (g.is_async != 0) = true then _ else _) _ _ s
  rw [if_neg (by rw [ha']; decide)]
  show wpAny _ _ (ask >>= _) _ _ s
  refine wpAny_bind (wpAny_askSetting (wpAny_ite ?_))
  split
  · first
      | exact wpAny_bind (wpAny_pure (wpAny_pure (And.intro rfl h)))
      | exact wpAny_pure (And.intro rfl h)
  · refine wpAny_bind (wpAny_rule ?_)
    show wpAny _ _ (standAt g.iter.pos >>= _) _ _ s
    exact wpAny_bind (wpAny_standAt (wpAny_bind (it_self x (wpAny_pure (And.intro rfl h)))))

theorem Gw_loop {elt target : Expr} {gens : List Comprehension} {ifs : List Expr} {scope : Scope} {pos p : Pos} {k : Nat} {em : Value → Env → Sem PySem.Fin → Sem PySem.Fin} {D : Addr} {it : It} {Q : Fra → Store → Prop} {g : Comprehension} (hg : gens[k]? = some g) (ha : g.is_async = 0)
    (turn : TurnIs (.ListComp elt gens scope pos) k target ifs p em) (ht : TgtOk target it) (J : Nat → Fra → Store → Prop) (j0 : J 0 ρ σ) (N : Nat)
    (step : ∀ i ρ' σ', J i ρ' σ' → i ≤ N ∧ it.ok σ' ∧ (∀ v, it.at σ' i = some v → Asg C d cenv target v (fun ρ₂ σ₂ => Ew C d cenv ρ₂ BRel (testsT ifs cenv) (fun b σ₃ => (b = true → Em C d cenv em D (J (i + 1)) ρ₂ σ₃) ∧ (b = false → J (i + 1) ρ₂ σ₃)) σ₂) ρ' σ') ∧
      (it.at σ' i = none → Q ρ' σ')) : Gw C d cenv (.ListComp elt gens scope pos) k D it Q ρ σ :=
  fun A R s I fp h0 σ0 rm Rp F ir nw st hq => by
    refine comp_start hg ha ir ?_
    have hidx : k = 0 ∨ k ≠ 0 := by omega
    refine codeAny_loop rfl (fun n s' => ∃ i ρ' σ' h' tk, s' = { s with heap := h', toks := tk } ∧ n = N + 1 - i ∧ J i ρ' σ' ∧ Rep C σ' h' ∧ FrameRep C cenv ρ' σ' h' ∧ ItRel h' I fp i it ∧ (∀ b ∈ fp, σ' b = none) ∧ StpF cenv σ0 σ' h0 h') ?_ (N + 1)
      ⟨0, ρ, σ, s.heap, s.toks, rfl, rfl, j0, Rp, F, ir, fun b hb => (nw b hb).2.1, st⟩
    rintro n s' ⟨i, ρ', σ', h', tk, rfl, rfl, j, R', F', ir', off', st'⟩
    obtain ⟨hiN, hok, hsome, hnone⟩ := step i ρ' σ' j
    have live := ir'.live.2
    have nL : cenv.locals ∉ fp := fun z => (nw _ z).2.2.2.1 rfl
    have nC : ∀ x c, cenv.cells.lookup x = some c → c ∉ fp := fun x c e z => (nw _ z).2.2.2.2 x c e rfl
    show wpAny _ A ((compTurn (.ListComp elt gens scope pos) k (.ref I) (.ref D) cenv).onRaise (fun x => do noteFrame x cenv; theTreesLotGoes x)) _ _ _
    refine wpAny_noted ?_
    rw [turn]
    refine wpAny_bind (wpAny_standAt (wpAny_bind ?_))
    cases e : it.at σ' i with
    | some v =>
      refine wpAny_mono (it_item (s := { s with heap := h', toks := tk }) R' ir' ht off' hok e (fun w h₂ t₂ rv ir₂ kb => ?_) (Q := fun w s₂ => ∃ h₂ t₂, s₂ = { s with heap := h₂, toks := t₂ } ∧ VRel h₂ v w ∧ ItRel h₂ I fp (i + 1) it ∧ KeepBut fp h' h₂)) (fun r s₂ hr => ?_) fun _ _ e => e
      · exact ⟨h₂, t₂, rfl, rv, ir₂, kb⟩
      · cases r with
        | none => exact hr.elim
        | some w =>
          refine wpAny_bind (wpAny_mono hr (fun _ s₃ hw => ?_) fun _ _ e => e)
          obtain ⟨h₂, t₂, rfl, rv, ir₂, kb⟩ := hw
          have im := kb.im live
          have R₂ := R'.but kb live fun b hb => ⟨off' b hb, (nw b hb).2.2.1⟩
          have F₂ := F'.but kb im nL nC
          have st₂ : StpF cenv σ0 σ' h0 h₂ := ⟨fun b o e n n1 n2 => kb b o (fun z => by rw [(nw b z).1] at e; cases e) (st'.keep b o e n n1 n2), st'.fresh, fun b o e => by
            obtain ⟨o', e'⟩ := st'.live b o e
            exact ⟨o', kb b o' (fun z => by rw [(nw b z).1] at e; cases e) e'⟩⟩
          refine wpAny_bind (hsome v e A _ _ _ w rm R₂ F₂ rv fun ρ₃ σ₃ h₃ t₃ q₃ R₃ F₃ s₃ => ?_)
          refine wpAny_bind (q₃ A _ _ _ rm R₃ F₃ fun b σ₄ x h₄ t₄ q₄ R₄ r₄ s₄ => ?_)
          have ex : x = b := r₄
          subst ex
          have F₄ := F₃.keep R₃ s₄
          have fin : ∀ ρ₅ σ₅ h₅ t₅, J (i + 1) ρ₅ σ₅ → Rep C σ₅ h₅ → FrameRep C cenv ρ₅ σ₅ h₅ → StpF cenv σ' σ₅ h₂ h₅ → ∃ m, m < N + 1 - i ∧ ∃ i ρ' σ' h' tk, ({ s with heap := h₅, toks := t₅ } : Shared) = { s with heap := h', toks := tk } ∧ m = N + 1 - i ∧ J i ρ' σ' ∧ Rep C σ' h' ∧ FrameRep C cenv ρ' σ' h' ∧ ItRel h' I fp i it ∧ (∀ b ∈ fp, σ' b = none) ∧ StpF cenv σ0 σ' h0 h' := by
            intro ρ₅ σ₅ h₅ t₅ j' R₅ F₅ s5
            have keepI : ∀ b ∈ fp, ∀ o, h₂.get? b = some o → h₅.get? b = some o := fun b hb o e => s5.keep b o e (off' b hb) (nw b hb).2.2.2.1 fun _ x z => (nw b hb).2.2.2.2 x b z rfl
            refine ⟨N + 1 - (i + 1), by omega, i + 1, ρ₅, σ₅, h₅, t₅, rfl, rfl, j', R₅, F₅, ir₂.keep keepI (s5.im R₂ F₂), fun b hb => ?_, st₂.trans s5⟩
            obtain ⟨o, e, _⟩ := ir₂.live.2 b hb
            exact s5.fresh.none e (off' b hb)
          have s34 := s₃.trans s₄.toF
          cases x with
          | true =>
            exact q₄.1 rfl A _ _ _ _ rm R₄ F₄ fun ρ₅ σ₅ h₅ t₅ q₅ R₅ F₅ s₅ => wpAny_pure ⟨rfl, fin _ _ _ _ q₅ R₅ F₅ (s34.trans s₅)⟩
          | false => exact wpAny_pure ⟨rfl, fin _ _ _ _ (q₄.2 rfl) R₄ F₄ s34⟩
    | none =>
      refine wpAny_mono (it_done (s := { s with heap := h', toks := tk }) rm.hh R' ir' hok e (fun h₂ t₂ kb => ?_) (Q := fun s₂ => ∃ h₂ t₂, s₂ = { s with heap := h₂, toks := t₂ } ∧ KeepBut fp h' h₂)) (fun r s₂ hr => ?_) fun _ _ e => e
      · exact ⟨h₂, t₂, rfl, kb⟩
      · cases r with
        | some w => exact hr.elim
        | none =>
          obtain ⟨h₂, t₂, rfl, kb⟩ := hr
          have R₂ := R'.but kb live fun b hb => ⟨off' b hb, (nw b hb).2.2.1⟩
          have F₂ := F'.but kb (kb.im live) nL nC
          have st₂ : StpF cenv σ0 σ' h0 h₂ := ⟨fun b o e n n1 n2 => kb b o (fun z => by rw [(nw b z).1] at e; cases e) (st'.keep b o e n n1 n2), st'.fresh, fun b o e => by
            obtain ⟨o', e'⟩ := st'.live b o e
            exact ⟨o', kb b o' (fun z => by rw [(nw b z).1] at e; cases e) e'⟩⟩
          exact wpAny_pure (hq _ _ _ _ (hnone e) R₂ F₂ st₂)

theorem Em_last {elt : Expr} {D : Addr} {Q : Fra → Store → Prop} (h : Ew C d cenv ρ VRel (eval elt cenv) (fun v σ₁ => ∃ vs, σ₁ D = some (.list vs) ∧ vs.length ≤ 1000000 ∧ Q ρ (σ₁.set D (.list (vs ++ [v])))) σ) : Em C d cenv (emLast elt) D Q ρ σ :=
  fun A E s Qf k rm Rp F hq => by
    unfold emLast
    refine wpAny_bind (wpAny_bind (h A E s _ rm Rp F fun v σ₁ x h₁ k₁ q₁ R₁ r₁ s₁ => ?_))
    obtain ⟨vs, ha, hz, q⟩ := q₁
    refine wpAny_bind (Cw_append (d := d) ha hz (Q := fun _ σ' => Q ρ σ') q A E { s with heap := h₁, toks := k₁ } _ [.ref D, x] rm R₁ (VRels.cons rfl (VRels.cons r₁ VRels.nil)) fun b σ' z h' tk q' R' _ s' => ?_)
    have st := s₁.trans s'
    exact wpAny_pure (hq _ _ _ _ q' R' (F.keep Rp st) st.toF)

theorem Em_next {e iter : Expr} {n : Nat} {D : Addr} {Q : Fra → Store → Prop} (h : Iw C d cenv ρ iter (fun it σ₁ => Gw C d cenv e n D it Q ρ σ₁) σ) (hs : ∀ x, foldedSetIterable iter cenv x = pure x := by intro _; rfl) : Em C d cenv (emNext e n iter) D Q ρ σ :=
  fun A E s Qf k rm Rp F hq => by
    unfold emNext
    refine wpAny_bind (wpAny_mono (h A E s (fun xv s' => wpAny C.M A (runOwn (.compStart e n xv (.ref D) cenv) cenv) (fun _ s₂ => wpAny C.M A k Qf E s₂) E s') rm Rp F fun it σ₁ I fp h₁ k₁ q₁ R₁ ir nw s₁ => ?_) (fun x s₁ hx => ?_) fun _ _ e => e)
    · have F₁ := F.keep Rp s₁
      refine wpAny_runOwn ?_
      refine q₁ _ _ _ I fp s.heap σ ⟨rm.hh, rm.depth, rm.units⟩ R₁ F₁ ir (fun b hb => ⟨(nw b hb).1, (nw b hb).2.1, (nw b hb).2.2, fun z => ?_, fun x c e z => ?_⟩) s₁.toF fun ρ' σ' h' tk q R' F' s' => hq _ _ _ _ q R' F' s'
      · obtain ⟨o, e, _⟩ := F.locals_live
        rw [← z, (nw b hb).1] at e
        cases e
      · obtain ⟨_, _, _, v, o, e2, _⟩ := F.cells x c e
        rw [z, (nw b hb).1] at e2
        cases e2
    · exact wpAny_bind (wpAny_standAt (wpAny_bind (wpAny_of_eq (hs x) (wpAny_bind (wpAny_holding (wpAny_mono hx (fun iv s₂ h₂ => wpAny_bind h₂) fun _ _ e => e))))))

theorem Ts_nil {Q : Bool → Store → Prop} (h : Q true σ) : Ew C d cenv ρ BRel (testsT [] cenv) Q σ := fun A E s Qc rm Rp F hq => wpAny_tests_nil (hq _ _ _ s.heap s.toks h Rp rfl (Stp.refl ..))
theorem Ts_one {c : Expr} {Q : Bool → Store → Prop} (h : Ew C d cenv ρ BRel (isTrue c cenv (eval c cenv)) Q σ) : Ew C d cenv ρ BRel (testsT [c] cenv) Q σ := fun A E s Qc rm Rp F hq => wpAny_tests_one (h A E s Qc rm Rp F hq)

/-! the whole -/
def compFra (ρ : Fra) (env cenv : Env) : Fra := fun x => if (cenv.cells.lookup x).isSome && !(env.kindOf x == some .local) && (cenv.kindOf x == some .cell || cenv.kindOf x == some .free) && !(x == ("__classdict__" : Str)) then ρ x else none

theorem compFrame {scope : Scope} {cl : List (Str × Addr)} {h : Heap} {L : Addr} (F : FrameRep C env ρ σ h) (hk : scope.kind = .function) (hcl : ∀ x c, cl.lookup x = some c → env.cells.lookup x = some c) (e0 : σ L = none) (e1 : C.g.get? L = none) (e2 : ∀ x c, env.cells.lookup x = some c → c ≠ L)
    (hn : h.Ns L fun _ => none) : FrameRep C (compEnvC scope cl L env) (compFra ρ env (compEnvC scope cl L env)) σ h := by
  refine ⟨hk, F.glob, F.blt, e1, e0, ⟨_, hn, fun x v e kx => ?_⟩, fun x v e kx => ?_, fun x c e => ?_, fun x y c e e' => F.apart x y c (hcl _ _ e) (hcl _ _ e')⟩
  · unfold compFra at e
    rw [kx] at e
    have z1 : (some NameKind.local == some NameKind.cell) = false := by decide
    have z2 : (some NameKind.local == some NameKind.free) = false := by decide
    rw [z1, z2] at e
    simp at e
  · unfold compFra at e
    split at e
    · rename_i hc
      simp only [Bool.and_eq_true, Bool.or_eq_true, Bool.not_eq_true'] at hc
      obtain ⟨⟨⟨h1, h2⟩, h3⟩, h4⟩ := hc
      obtain ⟨c, ec⟩ := Option.isSome_iff_exists.mp h1
      obtain ⟨_, _, c', w, a, b, r⟩ := F.cell x v e (fun z => by rw [z] at h2; exact absurd h2 (by decide))
      have ec' := hcl x c ec
      rw [a] at ec'
      cases ec'
      exact ⟨h3.imp (fun z => by simpa using z) fun z => by simpa using z, h4, _, w, ec, b, r⟩
    · cases e
  · obtain ⟨a, b, _, v, r⟩ := F.cells x c (hcl _ _ e)
    exact ⟨a, b, e2 x c (hcl _ _ e), v, r⟩

theorem wp_comp {elt : Expr} {g : Comprehension} {gs : List Comprehension} {scope : Scope} {pos : Pos} {cl : List (Str × Addr)} {use : Option (Value → Sem Unit)} {A : Around} {E : Value → Shared → Prop} {s : Shared} {Qc : Value → Shared → Prop} {Q : Addr → Store → Prop}
    (rm : Room d A) (Rp : Rep C σ s.heap) (F : FrameRep C env ρ σ s.heap)
    (hclos : closureFor scope env = pure cl) (hcl : ∀ x c, cl.lookup x = some c → env.cells.lookup x = some c) (hcell : ∀ y ∈ scope.names, y.2 ≠ .cell) (hkind : scope.kind = .function)
    (hnames : ∀ y ∈ scope.names, y.2 = .local → scope.names.lookup y.1 = some .local) (hs : ∀ x, foldedSetIterable g.iter env x = pure x)
    (h : Iw C d env ρ g.iter (fun it σ₁ => ∀ D L, σ₁ D = none → Gw C d (compEnvC scope cl L env) (.ListComp elt (g :: gs) scope pos) 0 D it (fun _ σ' => Q D σ') (compFra ρ env (compEnvC scope cl L env)) (σ₁.set D (.list []))) σ)
    (hq : ∀ D L σ' h' tk, Q D σ' → Rep C σ' h' → Stp σ σ' s.heap h' → s.heap.get? L = none → C.g.get? L = none → σ' L = none → (∃ m, h'.Ns L m) → compPost C.M A E use Qc (.ref D) L (.ok .next) { s with heap := h', toks := tk }) (p : Pos) :
    wpAny C.M A (comprehension (.ListComp elt (g :: gs) scope pos) scope env p (newList []) false (eval g.iter env) use) Qc E s := by
  refine wpAny_comprehension_free rfl hs hclos hkind hnames (h A E s _ rm Rp F fun it σ₁ I fp h₁ k₁ q₁ R₁ ir nw s₁ => ?_)
  refine wpAny_newObj_type (wpAny_newFunctionEnv hcell (by intro y hy; simp at hy) (fun h₂ hns₂ hsb₂ => ?_) hkind)
  dsimp only at hns₂ hsb₂ ⊢
  generalize hH2 : h₁.push { cls := .type "list", dict := none, data := .seq ([] : List Value).toArray } = H2 at hns₂ hsb₂ ⊢
  have hL : H2.objs.size = h₁.objs.size + 1 := by rw [← hH2, Heap.size_push]
  have old : ∀ b o, h₁.get? b = some o → h₂.get? b = some o := fun b o e => by
    have lt := Heap.lt_size e
    exact hsb₂.extBut b o (by rw [hL]; exact Nat.ne_of_lt (Nat.lt_succ_of_lt lt)) (Heap.get?_push_of_some _ (hH2 ▸ Heap.get?_push_of_some _ e))
  have hacc : h₂.PlainList h₁.objs.size #[] := ⟨_, hsb₂.extBut _ _ (by rw [hL]; exact Nat.ne_of_lt (Nat.lt_succ_self _)) (Heap.get?_push_of_some _ (hH2 ▸ Heap.get?_push_size _ rfl))⟩
  obtain ⟨R₂, s₂, n₂⟩ := R₁.alloc' (o := .list []) (Nat.le_refl _) old ⟨_, hacc, VRels.nil⟩
  have goneL : h₁.get? H2.objs.size = none := gone_of (by rw [hL]; exact Nat.le_succ _)
  have sL : s.heap.get? H2.objs.size = none := by
    cases q : s.heap.get? H2.objs.size with
    | none => rfl
    | some o => obtain ⟨o', e'⟩ := s₁.live _ _ q; rw [goneL] at e'; cases e'
  have st := s₁.trans s₂
  have σL : (σ₁.set h₁.objs.size (.list [])) H2.objs.size = none := by
    rw [Store.set_ne (by rw [hL]; exact Nat.ne_of_gt (Nat.lt_succ_self _))]
    cases q : σ₁ H2.objs.size with
    | none => rfl
    | some o => obtain ⟨co, e, _⟩ := (R₁.objs _ _ q).cls; rw [goneL] at e; cases e
  have gL : C.g.get? H2.objs.size = none := by
    cases q : C.g.get? H2.objs.size with
    | none => rfl
    | some o => have := R₁.base _ _ q; rw [goneL] at this; cases this
  have F₁ := F.keep Rp s₁
  have ncell : ∀ x c, env.cells.lookup x = some c → c ≠ H2.objs.size := fun x c e z => by
    obtain ⟨_, _, _, v, o, e2, _⟩ := F.cells x c e
    rw [z, sL] at e2
    cases e2
  have hns : h₂.Ns H2.objs.size fun _ => none := by
    have := hns₂
    simpa using this
  have F₂ := compFrame (F.keep Rp st) hkind hcl σL gL ncell (scope := scope) hns
  have ir₂ : ItRel h₂ I fp 0 it := ir.keep (fun b _ o e => old b o e) (fun b o e _ => old b o e)
  have lt₁ : ∀ b ∈ fp, b < h₁.objs.size := fun b hb => by
    obtain ⟨o, e, _⟩ := ir.live.2 b hb
    exact Heap.lt_size e
  refine q₁ h₁.objs.size H2.objs.size n₂ A _ { s with heap := h₂, toks := _ } I fp s.heap σ rm R₂ F₂ ir₂ (fun b hb => ⟨(nw b hb).1, ?_, (nw b hb).2.2, ?_, fun x c e z => ?_⟩) st.toF fun ρ' σ' h' tk q R' F' s' => ?_
  · rw [Store.set_ne (Nat.ne_of_lt (lt₁ b hb))]; exact (nw b hb).2.1
  · show b ≠ H2.objs.size
    rw [hL]; exact Nat.ne_of_lt (Nat.lt_succ_of_lt (lt₁ b hb))
  · obtain ⟨_, _, _, v, o, e2, _⟩ := F.cells x c (hcl x c e)
    rw [z, (nw b hb).1] at e2
    cases e2
  · obtain ⟨m, hn', _⟩ := F'.ns
    exact hq _ _ σ' h' tk q R' ⟨fun b o e n => s'.keep b o e n (fun z => by subst z; rw [show (compEnvC scope cl H2.objs.size env).locals = H2.objs.size from rfl, sL] at e; cases e) (fun hf => nomatch hf), s'.fresh, s'.live⟩ sL gL F'.off ⟨m, hn'⟩

theorem Ew_ListComp {elt : Expr} {g : Comprehension} {gs : List Comprehension} {scope : Scope} {pos : Pos} {cl : List (Str × Addr)} {Q : V → Store → Prop}
    (hclos : closureFor scope env = pure cl) (hcl : ∀ x c, cl.lookup x = some c → env.cells.lookup x = some c) 
    (h : Iw C d env ρ g.iter (fun it σ₁ => ∀ D L, σ₁ D = none → Gw C d (compEnvC scope cl L env) (.ListComp elt (g :: gs) scope pos) 0 D it (fun _ σ' => Q (.ref D) σ') (compFra ρ env (compEnvC scope cl L env)) (σ₁.set D (.list []))) σ)
    (hcell : ∀ y ∈ scope.names, y.2 ≠ .cell := by decide) (hkind : scope.kind = .function := by rfl)
    (hnames : ∀ y ∈ scope.names, y.2 = .local → scope.names.lookup y.1 = some .local := by decide) (hs : ∀ x, foldedSetIterable g.iter env x = pure x := by intro _; rfl)
    (ha : g.is_async = 0 := by rfl) : Ew C d env ρ VRel (eval (.ListComp elt (g :: gs) scope pos) env) Q σ :=
  fun A E s Qc rm Rp F hq => by
    rw [eval_ListComp]
    obtain ⟨target, iter, ifs, asy⟩ := g
    have e0 : asy = 0 := ha
    subst e0
    refine wp_comp (use := none) rm Rp F hclos hcl hcell hkind hnames hs h (fun D L σ' h' tk q R' st e1 e2 e3 hn => ?_) _
    obtain ⟨m, hn⟩ := hn
    refine ⟨m, hn, fun h'' sb => ?_⟩
    obtain ⟨oL, es, ep, eL, ed⟩ := Heap.Ns.obj hn
    obtain ⟨k, R''⟩ := R'.aside eL (notIm_dict ed) e3 e2 sb
    have kp : Keeps σ s.heap h'' := fun b o e n => (sb.2 b (fun z => by subst z; rw [e1] at e; cases e)).trans (st.keep b o e n)
    have lv : Live s.heap h'' := fun b o e => by
      obtain ⟨o', e'⟩ := st.live b o e
      exact ⟨o', (sb.2 b (fun z => by subst z; rw [e1] at e; cases e)).trans e'⟩
    exact hq _ _ _ _ _ q R'' rfl ⟨kp, st.fresh, lv⟩
end
end Mine

open PySem PySem.W PyProof.Rows PySem.Calls PyProof.V PySem.Spec PySem.SeqAt
set_option Elab.async false
set_option linter.all false
set_option maxRecDepth 100000
namespace Mine
section
variable {C : Cx} {d : Nat} {env : Env} {ρ : Fra} {σ : Store}

/-- `name = [..]` on one line: the value is stored ere the comprehension's own names go -/
theorem S1_AssignUsed {x : Str} {px : Pos} {elt : Expr} {g : Comprehension} {gs : List Comprehension} {scope : Scope} {cpos pos : Pos} {cl : List (Str × Addr)} {Q : Fl → Fra → Store → Prop} (hx : env.kindOf x = some .local)
    (hclos : closureFor scope env = pure cl) (hcl : ∀ x c, cl.lookup x = some c → env.cells.lookup x = some c)
    (h : Iw C d env ρ g.iter (fun it σ₁ => ∀ D L, σ₁ D = none → Gw C d (compEnvC scope cl L env) (.ListComp elt (g :: gs) scope cpos) 0 D it (fun _ σ' => Q .next (ρ.set x (.ref D)) σ') (compFra ρ env (compEnvC scope cl L env)) (σ₁.set D (.list []))) σ)
    (hsw : swapsWith (.ListComp elt (g :: gs) scope cpos) (some (.Name x px)) pos.line env = pure true := by with_unfolding_all rfl)
    (hcell : ∀ y ∈ scope.names, y.2 ≠ .cell := by decide) (hkind : scope.kind = .function := by rfl)
    (hnames : ∀ y ∈ scope.names, y.2 = .local → scope.names.lookup y.1 = some .local := by decide) (hs : ∀ x, foldedSetIterable g.iter env x = pure x := by intro _; rfl)
    (ha : g.is_async = 0 := by rfl) : S1 C d env (.Assign [.Name x px] (.ListComp elt (g :: gs) scope cpos) pos) Q ρ σ :=
  fun A E s Qc rm Rp F hq => by
    rw [exec_Assign_Name_used _ _ _ _ hsw]
    obtain ⟨target, iter, ifs, asy⟩ := g
    have e0 : asy = 0 := ha
    subst e0
    refine wpAny_bind (wpAny_standAt (wpAny_bind ?_))
    show wpAny _ A (do let _ ← comprehension (.ListComp elt (⟨target, iter, ifs, 0⟩ :: gs) scope cpos) scope env _ (newList []) false (eval iter env) (some (assign (.Name x px) env))) _ _ s
    refine wpAny_bind (wpAny_mono (wp_comp (use := some (assign (.Name x px) env)) (Q := fun D σ' => Q .next (ρ.set x (.ref D)) σ') (Qc := fun _ s' => Qc .next s') rm Rp F hclos hcl hcell hkind hnames hs h (fun D L σ' h' tk q R' st e1 e2 e3 hn => ?_) _) (fun _ s' hq => wpAny_pure (wpAny_pure hq)) fun _ _ e => e)
    obtain ⟨m, hn⟩ := hn
    show wpAny _ A (assign (.Name x px) env (.ref D)) _ _ _
    refine wpAny_assign_Name ?_
    refine wp_storeL (s := { s with heap := h', toks := tk }) R' (F.keep Rp st) (v := .ref D) rfl hx fun h₂ tk₂ R₂ F₂ sb k₂ => ?_
    have nL : L ≠ env.locals := fun z => by
      obtain ⟨o, e, _⟩ := F.locals_live
      rw [← z, e1] at e
      cases e
    have hn₂ : h₂.Ns L m := hn.sameBut sb nL
    refine ⟨m, hn₂, fun h₃ sb₃ => ?_⟩
    obtain ⟨oL, es, ep, eL, ed⟩ := Heap.Ns.obj hn₂
    obtain ⟨k, R₃⟩ := R₂.aside eL (notIm_dict ed) e3 e2 sb₃
    have kb : KeepBut [L] h₂ h₃ := fun b o hb e => (sb₃.2 b (fun z => hb (by rw [z]; exact .head _))).trans e
    have F₃ := F₂.but kb k (fun z => nL (List.mem_singleton.mp z).symm) (fun y c e z => by
      obtain ⟨_, _, _, v, o, e2, _⟩ := F.cells y c e
      rw [List.mem_singleton.mp z, e1] at e2
      cases e2)
    obtain ⟨co, eco, _⟩ := F₃.locals_live
    have kp : KeepsF env σ s.heap h₃ := fun b o e n n1 _ => (sb₃.2 b (fun z => by subst z; rw [e1] at e; cases e)).trans ((sb.2 b n1).trans (st.keep b o e n))
    have lv : Live s.heap h₃ := fun b o e => by
      by_cases z : b = env.locals
      · subst z; exact ⟨co, eco⟩
      · obtain ⟨o', e'⟩ := st.live b o e
        exact ⟨o', (sb₃.2 b (fun z => by subst z; rw [e1] at e; cases e)).trans ((sb.2 b z).trans e')⟩
    exact hq _ _ _ _ _ _ q R₃ F₃ rfl ⟨kp, st.fresh, lv⟩

/-- `l o1 r1 o2 r2`, the answers bools -/
theorem Ew_isChain {l r1 r2 : Expr} {o1 o2 : CmpOp} {pos whole} {Q : Bool → Store → Prop}
    (h : Ew C d env ρ VRel (eval l env) (fun u σ₁ => Ew C d env ρ VRel (eval r1 env) (fun v σ₂ => Ow2 C d VRel u v (compareOp o1) (fun c σ₃ => ∃ b, c = .bool b ∧ (b = false → Q false σ₃) ∧
      (b = true → Ew C d env ρ VRel (eval r2 env) (fun z σ₄ => Ow2 C d VRel v z (compareOp o2) (fun c σ₅ => ∃ b, c = .bool b ∧ Q b σ₅) σ₄) σ₃)) σ₂) σ₁) σ)
    (hm : behindInMarks o2 r2 = false := by with_unfolding_all rfl) :
    Ew C d env ρ BRel (isTrue (.Compare l [o1, o2] [r1, r2] pos) env whole) Q σ :=
  fun A E s Qc rm Rp F hq => by
    have e0 : markedEach [o1, o2] [r1, r2] (evalEach [r1, r2] env) = [eval r1 env, eval r2 env] := by
      show [eval r1 env, markedBehindIn o2 r2 (eval r2 env)] = _
      rw [markedBehindIn_of_false hm]
    rw [arm_isTrue_Compare, e0]
    refine wpAny_bind (h A E s _ rm Rp F fun u σ₁ x h₁ k₁ q₁ R₁ r₁ s₁ => ?_)
    show wpAny _ _ (do
      let rv ← holding [x] (eval r1 env)
      standAt pos
      let c ← holding [x, rv] (compareOp o1 x rv)
      release [x, rv] [c]
      if ← holding [c, rv] (truthy c) then testChain pos rv [o2] [eval r2 env] else pure false) _ _ _
    refine wpAny_bind (wpAny_holding (q₁ A E _ _ rm R₁ (F.keep Rp s₁) fun v σ₂ y h₂ k₂ q₂ R₂ r₂ s₂ => wpAny_bind (wpAny_standAt (wpAny_bind (wpAny_holding (q₂ A E _ _ x y rm R₂ (R₁.val s₂.keep r₁) r₂ fun c σ₃ z h₃ k₃ q₃ R₃ r₃ s₃ => ?_))))))
    obtain ⟨b, rfl, qf, qt⟩ := q₃
    have e : z = .bool b := r₃
    subst e
    refine wpAny_bind (wpAny_release (wpAny_bind (wpAny_holding (wpAny_truthy_bool ?_))))
    have st := (s₁.trans s₂).trans s₃
    cases b with
    | false => exact wpAny_pure (hq _ _ _ _ _ (qf rfl) R₃ rfl st)
    | true =>
      show wpAny _ _ (do
        let rv ← holding [y] (eval r2 env)
        standAt pos
        let c ← operate [y, rv] (compareOp o2 y rv)
        holding [c] (truthy c)) _ _ _
      refine wpAny_bind (wpAny_holding (qt rfl A E _ _ rm R₃ (F.keep Rp st) fun v' σ₄ y' h₄ k₄ q₄ R₄ r₄ s₄ => wpAny_bind (wpAny_standAt (wpAny_bind (wpAny_operating (q₄ A E _ _ y y' rm R₄ (R₂.val (s₃.trans s₄).keep r₂) r₄ fun c σ₅ z h₅ k₅ q₅ R₅ r₅ s₅ => ?_))))))
      obtain ⟨b, rfl, q⟩ := q₅
      have e : z = .bool b := r₅
      subst e
      exact wpAny_holding (wpAny_truthy_bool (hq _ _ _ _ _ q R₅ rfl ((st.trans s₄).trans s₅)))

theorem Ew_Dict0 {pos} {Q : V → Store → Prop} (h : ∀ dd, σ dd = none → Q (.ref dd) (σ.set dd (.idict []))) : Ew C d env ρ VRel (eval (.Dict [] [] pos) env) Q σ :=
  fun A E s Qc rm Rp F hq => by
    refine wpAny_Dict_empty ?_
    obtain ⟨R', st, n⟩ := Rp.alloc' (o := .idict []) (Nat.le_refl _) (fun b o e => Heap.get?_push_of_some { cls := .type "dict", data := .dict #[] } e) ⟨[], Heap.DictOf.new _, rfl, VRels.nil⟩
    exact hq _ _ _ _ _ (h _ n) R' rfl st

def mergeK {K : Type} [DecidableEq K] (kvs acc : List (K × V)) : List (K × V) := kvs.foldl (fun acc kv => putK kv.1 kv.2 acc) acc
def PRel {K : Type} [DecidableEq K] {prog : Program} {w : World} (knd : KeyKind prog w K) (h : Heap) (kvs : List (K × V)) (vs : List (Value × Value)) : Prop := ∃ cvs : List (K × Value), Carries knd vs cvs ∧ cvs.map (·.1) = kvs.map (·.1) ∧ VRels h (kvs.map (·.2)) (cvs.map (·.2))

theorem merged_keys {K : Type} [DecidableEq K] {h : Heap} : ∀ {cvs cacc : List (K × Value)} {kvs acc : List (K × V)}, cvs.map (·.1) = kvs.map (·.1) → VRels h (kvs.map (·.2)) (cvs.map (·.2)) → cacc.map (·.1) = acc.map (·.1) → VRels h (acc.map (·.2)) (cacc.map (·.2)) →
    (merged cacc cvs).map (·.1) = (mergeK kvs acc).map (·.1) ∧ VRels h ((mergeK kvs acc).map (·.2)) ((merged cacc cvs).map (·.2))
  | [], cacc, [], acc, _, _, e, r => ⟨e, r⟩
  | [], _, _ :: _, _, e, _, _, _ => by cases e
  | _ :: _, _, [], _, e, _, _, _ => by cases e
  | (k, w) :: cvs, cacc, (k', v) :: kvs, acc, e, r, e', r' => by
    have e0 : k = k' := by simpa using congrArg List.head? e
    have e1 : cvs.map (·.1) = kvs.map (·.1) := by simpa using congrArg List.tail e
    subst e0
    obtain ⟨w', ws', e2, a, b⟩ := r
    simp only [List.map_cons, List.cons.injEq] at e2
    obtain ⟨rfl, rfl⟩ := e2
    have := stored_keys e' r' a (k := k)
    have fin := merged_keys (cvs := cvs) (kvs := kvs) e1 b this.1 this.2
    exact fin

theorem Ew_DictK {K : Type} [DecidableEq K] {knd : KeyKind C.prog C.w K} {mk : List (K × V) → O} (hmk : ∀ (h : Heap) (a : Addr) (kvs : List (K × V)), ORel C.prog C.w h a (mk kvs) ↔ ∃ cvs : List (K × Value), h.DictOf knd a cvs ∧ cvs.map (·.1) = kvs.map (·.1) ∧ VRels h (kvs.map (·.2)) (cvs.map (·.2)))
    {keys : List (Option Expr)} {values : List Expr} {pos : Pos} {Q : V → Store → Prop} (hall : keys.all (·.isSome) = true) (hl : keys.length = values.length) (h0 : keys ≠ []) (hlen : keys.length ≤ 15)
    (h : ∀ dd, σ dd = none → Ew C d env ρ (PRel knd) (evalPairs (pairTrees keys values env pos)) (fun kvs σ₁ => σ₁ dd = some (mk []) ∧ Q (.ref dd) (σ₁.set dd (mk (mergeK kvs [])))) (σ.set dd (mk []))) : Ew C d env ρ VRel (eval (.Dict keys values pos) env) Q σ :=
  fun A E s Qc rm Rp F hq => by
    refine wpAny_Dict_walk (knd := knd) hall hl h0 hlen ?_
    have hD : (s.heap.push { cls := .type "dict", data := .dict #[] }).DictOf knd s.heap.objs.size [] := Heap.DictOf.new _
    obtain ⟨R', st, n⟩ := Rp.alloc' (o := mk []) (Nat.le_refl _) (fun b o e => Heap.get?_push_of_some { cls := .type "dict", data := .dict #[] } e) ((hmk _ _ _).mpr ⟨[], hD, rfl, VRels.nil⟩)
    refine h _ n A E { s with heap := s.heap.push { cls := .type "dict", data := .dict #[] } } _ rm R' (F.keep Rp st) fun kvs σ₁ vs h₁ k₁ q₁ R₁ r₁ s₁ => ?_
    obtain ⟨ha, q⟩ := q₁
    obtain ⟨cvs, hc, e1, e2⟩ := r₁
    obtain ⟨cvs0, hd0, e3, _⟩ := (hmk _ _ _).mp (R₁.objs _ _ ha)
    have e4 : cvs0 = [] := List.map_eq_nil_iff.mp e3
    subst e4
    refine ⟨cvs, hc, hd0, fun h' hd' sb => ?_⟩
    obtain ⟨co, eco, hno⟩ := (R₁.objs _ _ ha).cls
    have kp : KeepsIm h₁ h' := fun b co' q im => sb.extBut b co' (fun z => by
      subst z
      rw [q] at eco; cases eco
      exact hno im) q
    have := merged_keys (h := h₁) (cacc := []) (acc := []) e1 e2 rfl VRels.nil
    obtain ⟨R₂, s₂⟩ := R₁.change (o' := mk (mergeK kvs [])) ha (fun b co z q => sb.extBut b co z q) ((hmk _ _ _).mpr ⟨_, hd', this.1, VRels.keep kp _ _ this.2⟩)
    exact hq _ _ _ _ _ q R₂ rfl ((st.trans s₁).trans s₂)

theorem Ew_pairs_nil {K : Type} [DecidableEq K] {knd : KeyKind C.prog C.w K} {pos : Pos} {Q : List (K × V) → Store → Prop} (h : Q [] σ) : Ew C d env ρ (PRel knd) (evalPairs (pairTrees [] [] env pos)) Q σ := fun A E s Qc rm Rp F hq => evalPairs_nil (hq _ _ _ s.heap s.toks h Rp ⟨[], trivial, rfl, VRels.nil⟩ (Stp.refl ..))
theorem Ew_pairs_cons {K : Type} [DecidableEq K] {knd : KeyKind C.prog C.w K} {ke ve : Expr} {ks : List (Option Expr)} {es : List Expr} {pos : Pos} {emb : K → V} (hemb : ∀ h k w, VRel h (emb k) w → knd.is k w = true) {Q : List (K × V) → Store → Prop}
    (h : Ew C d env ρ VRel (eval ke env) (fun kv σ₁ => ∃ k, kv = emb k ∧ Ew C d env ρ VRel (eval ve env) (fun v σ₂ => Ew C d env ρ (PRel knd) (evalPairs (pairTrees ks es env pos)) (fun kvs σ₃ => Q ((k, v) :: kvs) σ₃) σ₂) σ₁) σ) :
    Ew C d env ρ (PRel knd) (evalPairs (pairTrees (some ke :: ks) (ve :: es) env pos)) Q σ :=
  fun A E s Qc rm Rp F hq => by
    show wpAny _ _ (evalPairs ((eval ke env, do let x ← eval ve env; standAt pos; pure x) :: pairTrees ks es env pos)) _ _ _
    refine evalPairs_cons (h A E s _ rm Rp F fun kv σ₁ x h₁ k₁ q₁ R₁ r₁ s₁ => ?_)
    obtain ⟨k, rfl, q⟩ := q₁
    have F₁ := F.keep Rp s₁
    refine wpAny_bind (q A E _ _ rm R₁ F₁ fun v σ₂ y h₂ k₂ q₂ R₂ r₂ s₂ => wpAny_bind (wpAny_standAt (wpAny_pure ?_)))
    refine q₂ A E _ _ rm R₂ (F₁.keep R₁ s₂) fun kvs σ₃ vs h₃ k₃ q₃ R₃ r₃ s₃ => ?_
    obtain ⟨cvs, c1, c2, c3⟩ := r₃
    exact hq _ _ _ _ _ q₃ R₃ ⟨(k, y) :: cvs, ⟨hemb _ _ _ (R₁.val s₂.keep r₁ |> R₂.val s₃.keep), rfl, c1⟩, by simp [c2], VRels.cons (R₂.val s₃.keep r₂) c3⟩ ((s₁.trans s₂).trans s₃)
theorem emb_int {prog : Program} {w : World} : ∀ (h : Heap) (k : Int) (x : Value), VRel h (V.int k) x → (intKind prog w).is k x = true := fun h k x r => by obtain ⟨t, rfl⟩ := r; exact intKind_is ..
theorem emb_str {prog : Program} {w : World} : ∀ (h : Heap) (k : Str) (x : Value), VRel h (V.str k) x → (strKind prog w).is k x = true := fun h k x r => by obtain ⟨t, rfl⟩ := r; exact strKind_is ..

theorem slicePick_to (items : Array Value) (b : Nat) : (slicePick items none (some (b : Int)) none).toList = items.toList.take b := by
  by_cases h : b ≤ items.size
  · rw [slicePick_upto items b h]
  · have e1 : slicePick items none (some (b : Int)) none = slicePick items none (some (items.size : Int)) none := by
      unfold slicePick
      have : sliceBounds none (some (b : Int)) none items.size = sliceBounds none (some (items.size : Int)) none items.size := by
        simp only [sliceBounds, Option.getD_none]
        have h2 : ¬ ((b : Int) < 0) := by omega
        have h3 : ¬ ((items.size : Int) < 0) := by omega
        simp only [h2, h3, if_false, show (1 : Int) > 0 by decide, if_true]
        have : min (b : Int) (items.size : Int) = items.size := by omega
        rw [this]
        simp
      rw [this]
    rw [e1, slicePick_upto items items.size (Nat.le_refl _)]
    simp only [List.toList_toArray]
    rw [List.take_of_length_le (by simp), List.take_of_length_le (by simp; omega)]

theorem VRels.take {h : Heap} : ∀ {vs : List V} {ws : List Value} (k : Nat), VRels h vs ws → VRels h (vs.take k) (ws.take k)
  | _, _, 0, _ => VRels.nil
  | [], ws, k + 1, r => by have e : ws = [] := r; subst e; exact VRels.nil
  | v :: vs, ws, k + 1, r => by
    obtain ⟨w, ws', rfl, a, b⟩ := r
    exact VRels.cons a (VRels.take k b)

/-- `list[:upper]` -/
theorem Ew_SliceTo {value upper : Expr} {p pos : Pos} {Q : V → Store → Prop}
    (h : Ew C d env ρ VRel (eval value env) (fun u σ₁ => Ew C d env ρ VRel (eval upper env) (fun v σ₂ => ∃ a vs, ∃ b : Nat, u = .ref a ∧ v = .int b ∧ σ₂ a = some (.list vs) ∧ vs.length ≤ 1000000 ∧ ∀ D, σ₂ D = none → Q (.ref D) (σ₂.set D (.list (vs.take b)))) σ₁) σ)
    (ht : ∀ o r, letTemporaryGo value o r = pure () := by intro _ _; rfl) : Ew C d env ρ VRel (eval (.Subscript value (.Slice none (some upper) none p) pos) env) Q σ :=
  fun A E s Qc rm Rp F hq => by
    refine wpAny_Subscript_list_slice (h A E s _ rm Rp F fun u σ₁ x h₁ k₁ q₁ R₁ r₁ s₁ => ?_) ht
    rw [evalPart_none, evalPart_some]
    refine wpAny_pure (q₁ A E _ _ rm R₁ (F.keep Rp s₁) fun v σ₂ y h₂ k₂ q₂ R₂ r₂ s₂ => ?_)
    obtain ⟨a, vs, b, rfl, rfl, ha, hz, q⟩ := q₂
    have e : x = .ref a := r₁
    subst e
    obtain ⟨t, rfl⟩ := r₂
    obtain ⟨ws, l, rr⟩ := R₂.list ha
    have hl : ws.size = vs.length := by have := rr.length; simpa using this
    refine ⟨a, ws, none, some (b : Int), rfl, l.isList, by rw [hl, sizeLine_eq]; exact Nat.le_trans hz (by decide), .none, .int _ _, ?_⟩
    obtain ⟨R₃, s₃⟩ := R₂.push { cls := .type "slice", data := .fields #[.none, .int b t, .none] }
    have hsz : (h₂.push { cls := .type "slice", data := .fields #[.none, .int b t, .none] }).objs.size = h₂.objs.size + 1 := Heap.size_push ..
    have kk : ∀ b' o, (h₂.push { cls := .type "slice", data := .fields #[.none, .int b t, .none] }).get? b' = some o → ((h₂.push { cls := .type "slice", data := .fields #[.none, .int b t, .none] }).push { cls := .type "list", data := .seq (slicePick ws none (some (b : Int)) none) }).get? b' = some o := fun b' o e => Heap.get?_push_of_some _ e
    obtain ⟨R₄, s₄, n⟩ := R₃.alloc' (a := h₂.objs.size + 1) (o := .list (vs.take b)) (by rw [hsz]; exact Nat.le_refl _) kk ⟨_, ⟨_, by rw [← hsz]; exact Heap.get?_push_size _ rfl⟩, by
      rw [slicePick_to]
      exact VRels.keep (fun b' o e _ => kk b' o (Heap.get?_push_of_some _ e)) _ _ (VRels.take b rr)⟩
    exact hq _ _ _ _ k₂ (q _ n) R₄ rfl (((s₁.trans s₂).trans s₃).trans s₄)

theorem mul_plain {prog : Program} {w : World} {A : Around} {E : Value → Shared → Prop} {s : Shared} {l : Addr} {items : Array Value} {k : Nat} {x : Int} {u : Tok} {Q : Value → Shared → Prop}
    (hl : s.heap.get? l = some { cls := .type "list", dict := none, data := .seq items k, slots := #[] }) (hlo : -(2 ^ 63 : Int) ≤ x) (hhi : x < 2 ^ 63) (hsz : items.size * x.toNat ≤ 2 ^ 24)
    (h : Q (.ref s.heap.objs.size) { s with heap := s.heap.push { cls := .type "list", data := .seq (List.foldl (fun x1 x2 => x1 ++ x2) #[] (List.replicate (if items.isEmpty = true then 0 else x.toNat) items)) } }) :
    wpAny (model prog w) A (binaryOp .Mult (.ref l) (.int x u)) Q E s :=
  wpAny_binaryOp_repeat_ref (T := "list") (U := "int") (by decide) ⟨_, hl, rfl⟩ (fun s' => typeIs_int s' x u) noFill_list_mul F.fills_int_mul F.slot_int_rmul repeat_list F.slot_int_index.lookup
    (call_meets F.slot_int_rmul (typeIs_int s x u) F.entry_int_rmul (F.args_int_rmul_2 _ _) (int___rmul___int_list x u l items k)
      ⟨hl, rfl, ⟨_, hl, rfl⟩, call_meets F.slot_list_mul ⟨_, hl, rfl⟩ F.entry_list_mul (F.args_list_mul_2 _ _)
        (AutoListH.list___mul___list_int_3 l items k x u (by simp [Builtin.List.listFitsIndex]; omega) (by omega) (by simp [Builtin.List.listTooLong, sizeLine]; omega))
        ⟨hl, h⟩⟩)

/-- `[v] * n` -/
theorem O2_mulL {a : Addr} {v : V} {n : Nat} {Q : V → Store → Prop} (ha : σ a = some (.list [v])) (hz : n ≤ 1000000) (h : ∀ D, σ D = none → Q (.ref D) (σ.set D (.list (List.replicate n v)))) : Ow2 C d VRel (.ref a) (.int n) (binaryOp .Mult) Q σ := by
  rintro A E s Qc _ _ rm Rp e ⟨t, rfl⟩ hq
  have e : _ = Value.ref a := e
  subst e
  obtain ⟨ws, ⟨k, l⟩, rr⟩ := Rp.list ha
  obtain ⟨w, e1, rv⟩ := one_of rr
  have e2 : ws = #[w] := by rw [← Array.toList_inj]; exact e1
  subst e2
  have hb : (n : Int) ≤ 1000000 := Int.ofNat_le.mpr hz
  have hn : ((n : Int).toNat) = n := Int.toNat_natCast n
  have hlist : (List.foldl (fun x1 x2 => x1 ++ x2) #[] (List.replicate (if (#[w] : Array Value).isEmpty = true then 0 else (n : Int).toNat) #[w])).toList = List.replicate n w := by
    rw [if_neg (by simp), hn]
    have gen : ∀ (k : Nat) (acc : Array Value), (List.foldl (fun x1 x2 => x1 ++ x2) acc (List.replicate k #[w])).toList = acc.toList ++ List.replicate k w := by
      intro k
      induction k with
      | zero => intro acc; simp
      | succ k ih => intro acc; rw [List.replicate_succ, List.foldl_cons, ih]; simp [List.replicate_succ]
    rw [gen]; simp
  have hsz : (#[w] : Array Value).size * (n : Int).toNat ≤ 2 ^ 24 := by
    rw [hn, show (#[w] : Array Value).size = 1 from rfl, Nat.one_mul]
    exact Nat.le_trans hz (by decide)
  refine mul_plain l (Int.le_trans (by decide) (Int.natCast_nonneg n)) (Int.lt_of_le_of_lt hb (by decide)) hsz ?_
  have kk : ∀ b o, s.heap.get? b = some o → (s.heap.push { cls := .type "list", data := .seq (List.foldl (fun x1 x2 => x1 ++ x2) #[] (List.replicate (if (#[w] : Array Value).isEmpty = true then 0 else (n : Int).toNat) #[w])) }).get? b = some o := fun b o e => Heap.get?_push_of_some _ e
  obtain ⟨R', st, n'⟩ := Rp.alloc' (o := .list (List.replicate n v)) (Nat.le_refl _) kk ⟨_, ⟨_, Heap.get?_push_size _ rfl⟩, by
    rw [hlist]
    have gen : ∀ k : Nat, VRels s.heap (List.replicate k v) (List.replicate k w) := fun k => by
      induction k with
      | zero => exact VRels.nil
      | succ k ih => exact VRels.cons rv ih
    exact VRels.keep (fun b o e _ => kk b o e) _ _ (gen n)⟩
  exact hq _ _ _ _ _ (h _ n') R' rfl st

theorem Iw_enum {func e : Expr} {pos : Pos} {Q : It → Store → Prop} (hf : EvF C env func (.type "enumerate")) (h : Ew C d env ρ VRel (eval e env) (fun v σ₁ => ∃ a vs, v = .ref a ∧ σ₁ a = some (.list vs) ∧ Q (.enum a) σ₁) σ)
    (hst : starEach [e] env = [(false, eval e env)] := by rfl)
    (he : eval (.Call func [e] [] pos) env = (do callWith pos (← eval func env) [] (backTo pos (starEach [e] env)) (backToKw pos (keywordEach [] env))) := by rfl) : Iw C d env ρ (.Call func [e] [] pos) Q σ :=
  fun A E s Qc rm Rp F hq => by
    have hp : (backTo pos (starEach [e] env)).any (·.1) = false := by rw [hst]; rfl
    refine Call_ (hf ρ σ A E s _ Rp F (wp_callWith KeepOk.type hp ?_)) he
    have items : Ew C d env ρ VRels (spliced (backTo pos (starEach [e] env))) (fun us σ₁ => ∃ v, us = [v] ∧ ∃ a vs, v = .ref a ∧ σ₁ a = some (.list vs) ∧ Q (.enum a) σ₁) σ :=
      Ew_items_cons (Ew.mono h fun v σ₁ q => Ew_items_nil ⟨v, rfl, q⟩) (by rw [hst]; rfl)
    refine items A E s _ rm Rp F fun us σ₁ xs h₁ k₁ q₁ R₁ r₁ s₁ => ⟨R₁.kin, ?_⟩
    obtain ⟨v, rfl, a, vs, rfl, ha, q⟩ := q₁
    obtain ⟨x, rfl, e⟩ := one_of r₁
    have e : x = .ref a := e
    subst e
    obtain ⟨ws, ⟨n, l⟩, rr⟩ := R₁.list ha
    show wpAny _ _ (call (.type "enumerate") [.ref a]) _ _ _
    refine call_enumerate_1 (s := { s with heap := h₁, toks := k₁ }) l fun h₂ he₂ hit₂ hsz kk => wpAny_pyIter_enum (s := { s with heap := h₂, toks := k₁ }) he₂ ?_
    obtain ⟨R₂, s₂⟩ := ext_of R₁ kk
    have low : ∀ b, h₁.objs.size ≤ b → s.heap.get? b = none ∧ σ₁ b = none ∧ C.g.get? b = none := fun b hb => by
      have g1 := gone_of hb
      refine ⟨?_, ?_, ?_⟩
      · cases q : s.heap.get? b with
        | none => rfl
        | some o => obtain ⟨o', e'⟩ := s₁.live _ _ q; rw [g1] at e'; cases e'
      · cases q : σ₁ b with
        | none => rfl
        | some o => obtain ⟨co, e, _⟩ := (R₁.objs _ _ q).cls; rw [g1] at e; cases e
      · cases q : C.g.get? b with
        | none => rfl
        | some o => have := R₁.base _ _ q; rw [g1] at this; cases this
    exact hq (.enum a) σ₁ (h₁.objs.size + 1) [h₁.objs.size + 1, h₁.objs.size] h₂ k₁ q R₂ ⟨h₁.objs.size, .none, rfl, Nat.succ_ne_self _, he₂, hit₂⟩ (fun b hb => by
      rcases List.mem_cons.mp hb with rfl | hb
      · exact low _ (Nat.le_succ _)
      · rw [List.mem_singleton.mp hb]; exact low _ (Nat.le_refl _)) (s₁.trans s₂)
end
end Mine

open PySem PySem.W PyProof.Rows PySem.Calls PyProof.V PySem.Spec PySem.SeqAt
set_option Elab.async false
set_option linter.all false
set_option maxRecDepth 100000
namespace Mine
/-- all objects but X stay -/
def Same (X : List Addr) (σ σ' : Store) : Prop := ∀ a o, σ a = some o → a ∉ X → σ' a = some o
theorem Same.refl (X : List Addr) (σ : Store) : Same X σ σ := fun _ _ e _ => e
theorem Same.new {X : List Addr} {σ σ' : Store} {a : Addr} {o : O} (s : Same X σ σ') (n : σ' a = none) : Same X σ (σ'.set a o) := fun b p e nb => by
  rw [Store.set_ne (fun z => by subst z; rw [s b p e nb] at n; cases n)]; exact s b p e nb
theorem Same.put {X : List Addr} {σ σ' : Store} {a : Addr} {o : O} (s : Same X σ σ') (h : a ∈ X) : Same X σ (σ'.set a o) := fun b p e nb => by
  rw [Store.set_ne (fun z => by subst z; exact nb h)]; exact s b p e nb
theorem Same.trans {X : List Addr} {σ₁ σ₂ σ₃ : Store} (s : Same X σ₁ σ₂) (t : Same X σ₂ σ₃) : Same X σ₁ σ₃ := fun a o e n => t a o (s a o e n) n
theorem Same.mono {X Y : List Addr} {σ σ' : Store} (s : Same X σ σ') (h : ∀ a ∈ X, a ∈ Y) : Same Y σ σ' := fun a o e n => s a o e fun z => n (h a z)
theorem Same.at {X : List Addr} {σ σ' : Store} (s : Same X σ σ') {a : Addr} {o : O} (e : σ a = some o) (n : a ∉ X := by simp) : σ' a = some o := s a o e n
/-- changes at places that were not there before do not count -/
theorem Same.drop {X Y : List Addr} {σ σ' : Store} (s : Same X σ σ') (h : ∀ a ∈ X, a ∈ Y ∨ σ a = none) : Same Y σ σ' := fun a o e n => s a o e fun z => (h a z).elim n fun q => by rw [q] at e; cases e
theorem ne_of {σ : Store} {a b : Addr} {o : O} (h : σ a = some o) (g : σ b = none) : a ≠ b := fun z => by subst z; rw [h] at g; cases g

section
variable {C : Cx} {d d' : Nat} {env : Env} {ρ : Fra} {σ : Store}
theorem Kw.le {f : Value} {vs : List V} {Q : V → Store → Prop} (h : Kw C d f vs Q σ) (le : d ≤ d') : Kw C d' f vs Q σ := fun A R s ws rm => h A R s ws (rm.le le)
theorem Kw.cwle {f : Value} {vs : List V} {Q : V → Store → Prop} (h : Kw C d f vs Q σ) (le : d ≤ d') : Cw C d' f vs Q σ := (h.le le).cw

theorem EvF.globK {x : Str} {pos} {w : Value} (e : nsIn C.K mainGlobals x = some (some w)) (hx : env.kindOf x = some .globalImplicit := by rfl) (hd : (x == ("__debug__" : Str)) = false := by decide) : EvF C env (.Name x pos) w :=
  fun ρ σ A E s Q R F h => wp_glob R F hx (mg_of R.ok.k R.ok.gl e) h hd
theorem EvF.bltK {x : Str} {pos} {w : Value} (e : nsIn C.K mainGlobals x = some none) (hb : bootBuiltins x = some w) (hx : env.kindOf x = some .globalImplicit := by rfl) (hn : x ≠ "__name__" := by decide) (hd : (x == ("__debug__" : Str)) = false := by decide) : EvF C env (.Name x pos) w :=
  fun ρ σ A E s Q R F h => wp_blt R F hx (mg_none_of R.ok.k R.ok.gl e) hb hn h hd
/-- a module constant -/
theorem Ew_globK {x : Str} {pos} {v : V} {w : Value} {Q : V → Store → Prop} (e : nsIn C.K mainGlobals x = some (some w)) (r : ∀ h, C.K.In h → VRel h v w) (h : Q v σ) (hx : env.kindOf x = some .globalImplicit := by rfl) (hd : (x == ("__debug__" : Str)) = false := by decide) :
    Ew C d env ρ VRel (eval (.Name x pos) env) Q σ :=
  fun A E s Qc rm Rp F hq => wp_glob Rp F hx (mg_of Rp.ok.k Rp.ok.gl e) (hq _ _ _ s.heap s.toks h Rp (r _ Rp.kin) (Stp.refl ..)) hd

theorem Ew_AttrN {x : Str} {px pos : Pos} {attr : Str} {Cl dx : Addr} {k : Nat} {f : Str → Option V} {v : V} {Q : V → Store → Prop} (e : ρ x = some (.obj Cl dx)) (hs : σ dx = some (.ns k f)) (hf : f attr = some v) (fl : Fld C Cl attr) (h : Q v σ)
    (hd : (x == ("__debug__" : Str)) = false := by decide)
    (he : eval (.Attribute (.Name x px) attr pos) env = (do
      let o ← eval (.Name x px) env
      standAt pos.atName
      let r ← holding [o] (getAttr o attr true)
      letTemporaryGo (.Name x px) o r
      pure r) := by with_unfolding_all rfl) : Ew C d env ρ VRel (eval (.Attribute (.Name x px) attr pos) env) Q σ :=
  Ew_Attribute (Ew_name e ⟨Cl, dx, k, f, v, rfl, hs, hf, fl, h⟩ hd) he
theorem Asg_AttrN {x : Str} {px pos : Pos} {attr : Str} {Cl dx : Addr} {k : Nat} {f : Str → Option V} {v : V} {Q : Fra → Store → Prop} (e : ρ x = some (.obj Cl dx)) (hs : σ dx = some (.ns k f)) (hk : k ≤ 1000) (S : Sto C Cl attr)
    (h : Q ρ (σ.set dx (.ns (if (f attr).isSome then k else k + 1) fun y => if y = attr then some v else f y))) (hd : (x == ("__debug__" : Str)) = false := by decide) : Asg C d env (.Attribute (.Name x px) attr pos) v Q ρ σ :=
  Asg_Attribute (Ew_name e ⟨Cl, dx, k, f, rfl, hs, hk, S, h⟩ hd)

/-- calls of a plain value by a global's name -/
theorem Ew_CallG {x : Str} {px pos : Pos} {args : List Expr} {f : Value} {Q : V → Store → Prop} (hf : EvF C env (.Name x px) f) (hk : KeepOk C f)
    (h : Ew C d env ρ VRels (spliced (backTo pos (starEach args env))) (fun vs σ₁ => Cw C d f vs Q σ₁) σ)
    (hp : (backTo pos (starEach args env)).any (·.1) = false := by rfl)
    (he : eval (.Call (.Name x px) args [] pos) env = (do callWith pos (← eval (.Name x px) env) [] (backTo pos (starEach args env)) (backToKw pos (keywordEach [] env))) := by rfl) : Ew C d env ρ VRel (eval (.Call (.Name x px) args [] pos) env) Q σ := Ew_Call hf hk h hp he

/-- a call of a method of a named object -/
theorem Ew_CallN {x : Str} {px apos pos : Pos} {name : Str} {args : List Expr} {Cl dx fa : Addr} {k : Nat} {f : Str → Option V} {Q : V → Store → Prop} (e : ρ x = some (.obj Cl dx)) (hs : σ dx = some (.ns k f)) (hf : f name = none) (m : Mth C Cl name fa) (hk : KeepOk C (.ref fa))
    (h : Ew C d env ρ VRels (spliced (backTo pos (starEach args env))) (fun vs σ₂ => Cw C d (.ref fa) (.obj Cl dx :: vs) Q σ₂) σ)
    (hd : (x == ("__debug__" : Str)) = false := by decide)
    (hbase : attributeBase (.Name x px) name env (eval (.Name x px) env) = eval (.Name x px) env := by rfl)
    (hfew : methodCallForm (args.length + ([] : List Keyword).length) (backTo pos (starEach args env)) (backToKw pos (keywordEach [] env)) = true := by rfl)
    (hline : (apos.endLine == pos.line) = true := by rfl) (hp : (backTo pos (starEach args env)).any (·.1) = false := by rfl) : Ew C d env ρ VRel (eval (.Call (.Attribute (.Name x px) name apos) args [] pos) env) Q σ :=
  Ew_CallM (Ew_name e ⟨.ref fa, MethOk.own hs hf m, hk, h⟩ hd) hbase hfew hline hp

theorem Ew_item {pos} {e : Expr} {v : V} {Q : List V → Store → Prop} (h : Ew C d env ρ VRel (eval e env) (fun v σ₁ => Q [v] σ₁) σ) (he : starEach [e] env = [(false, eval e env)] := by rfl) : Ew C d env ρ VRels (spliced (backTo pos (starEach [e] env))) Q σ :=
  Ew_items_cons (Ew.mono h fun v σ₁ q => Ew_items_nil q) (by rw [he]; rfl)

theorem subL {a : Addr} {k : Nat} {vs : List V} {v : V} {Q : V → Store → Prop} (ha : σ a = some (.list vs)) (hv : vs[k]? = some v) (hz : vs.length ≤ 1000000) (h : Q v σ) :
    ((∃ us, V.ref a = V.tup us) ∨ ∃ b o, V.ref a = V.ref b ∧ σ b = some o ∧ ∀ k f, o ≠ O.ns k f) ∧ Ow2 C d VRel (.ref a) (.int k) getItem Q σ :=
  ⟨.inr ⟨a, _, rfl, ha, fun _ _ z => by cases z⟩, O2_getL ha (Int.natCast_nonneg k) (by rw [Int.toNat_natCast]; exact hv) hz h⟩
theorem subT {k : Nat} {vs : List V} {v : V} {Q : V → Store → Prop} (hv : vs[k]? = some v) (h : Q v σ) (hz : vs.length ≤ 1000000 := by first | decide | (simp; done) | (simp; omega)) :
    ((∃ us, V.tup vs = V.tup us) ∨ ∃ b o, V.tup vs = V.ref b ∧ σ b = some o ∧ ∀ k f, o ≠ O.ns k f) ∧ Ow2 C d VRel (.tup vs) (.int k) getItem Q σ :=
  ⟨.inl ⟨_, rfl⟩, O2_getT (Int.natCast_nonneg k) (by rw [Int.toNat_natCast]; exact hv) hz h⟩
theorem subD {a : Addr} {k : Int} {kvs : List (Int × V)} {v : V} {Q : V → Store → Prop} (ha : σ a = some (.idict kvs)) (hv : getK k kvs = some v) (h : Q v σ) :
    ((∃ us, V.ref a = V.tup us) ∨ ∃ b o, V.ref a = V.ref b ∧ σ b = some o ∧ ∀ k f, o ≠ O.ns k f) ∧ Ow2 C d VRel (.ref a) (.int k) getItem Q σ :=
  ⟨.inr ⟨a, _, rfl, ha, fun _ _ z => by cases z⟩, O2_getD ha hv h⟩
theorem subS {a : Addr} {k : Str} {kvs : List (Str × V)} {v : V} {Q : V → Store → Prop} (ha : σ a = some (.sdict kvs)) (hv : getK k kvs = some v) (h : Q v σ) :
    ((∃ us, V.ref a = V.tup us) ∨ ∃ b o, V.ref a = V.ref b ∧ σ b = some o ∧ ∀ k f, o ≠ O.ns k f) ∧ Ow2 C d VRel (.ref a) (.str k) getItem Q σ :=
  ⟨.inr ⟨a, _, rfl, ha, fun _ _ z => by cases z⟩, O2_getS ha hv h⟩
theorem itR1 {n : Nat} (hz : n ≤ 1000000) : ItOf σ (.rng 0 n 1) (.rng 0 1 n) := by
  have hb : (n : Int) ≤ 1000000 := Int.ofNat_le.mpr hz
  have e : (Builtin.Range.rangeSize 0 n 1).toNat = n := by rw [rangeSize_one]; split <;> omega
  have := ItOf.rng (σ := σ) (small_one (a := 0) (b := n) (by decide) (by decide) (by omega) (by omega))
  rw [e] at this; exact this
theorem itR2 {n : Nat} (hz : n ≤ 1000000) : ItOf σ (.rng n n 1) (.rng n 1 0) := by
  have hb : (n : Int) ≤ 1000000 := Int.ofNat_le.mpr hz
  have e : (Builtin.Range.rangeSize n n 1).toNat = 0 := by rw [rangeSize_one]; split <;> omega
  have := ItOf.rng (σ := σ) (small_one (a := n) (b := n) (by omega) (by omega) (by omega) (by omega))
  rw [e] at this; exact this
theorem itDown {n : Nat} (hz : n ≤ 1000000) : ItOf σ (.rng n (-1) (-1)) (.rng n (-1) (n + 1)) := by
  have hb : (n : Int) ≤ 1000000 := Int.ofNat_le.mpr hz
  have e0 : Builtin.Range.rangeSize n (-1) (-1) = n + 1 := by
    unfold Builtin.Range.rangeSize
    rw [if_neg (by decide), if_pos (by omega)]
    simp
  have e : (Builtin.Range.rangeSize n (-1) (-1)).toNat = n + 1 := by rw [e0]; omega
  have sm : Builtin.Range.small n (-1) (-1) = true := by
    unfold Builtin.Range.small
    rw [e0]
    simp only [Builtin.Range.rangeFitsLong, Bool.and_eq_true, Bool.or_eq_true, decide_eq_true_eq, beq_iff_eq]
    refine ⟨⟨⟨⟨⟨?_, ?_⟩, by decide⟩, by decide⟩, ?_, ?_⟩, .inr (by decide)⟩ <;> omega
  have := ItOf.rng (σ := σ) sm
  rw [e] at this; exact this

/-- len(..) of a list -/
theorem Ew_lenN {x fx : Str} {px fp pos : Pos} {a : Addr} {vs : List V} {Q : V → Store → Prop} (hf : EvF C env (.Name fx fp) (.builtin "len")) (e : ρ x = some (.ref a)) (ha : σ a = some (.list vs)) (hz : vs.length ≤ 1000000) (h : Q (.int vs.length) σ)
    (hd : (x == ("__debug__" : Str)) = false := by decide)
    (he0 : starEach [.Name x px] env = [(false, eval (.Name x px) env)] := by rfl)
    (hp : (backTo pos (starEach [.Name x px] env)).any (·.1) = false := by rfl)
    (he : eval (.Call (.Name fx fp) [.Name x px] [] pos) env = (do callWith pos (← eval (.Name fx fp) env) [] (backTo pos (starEach [.Name x px] env)) (backToKw pos (keywordEach [] env))) := by rfl) : Ew C d env ρ VRel (eval (.Call (.Name fx fp) [.Name x px] [] pos) env) Q σ :=
  Ew_Call hf KeepOk.builtin (Ew_item (v := .none) (Ew_name e (Cw_lenL ha hz h) hd) he0) hp he
end

/-- all names but X stay -/
def Like (X : List Str) (ρ ρ' : Fra) : Prop := ∀ x, x ∉ X → ρ' x = ρ x
theorem Like.refl (X : List Str) (ρ : Fra) : Like X ρ ρ := fun _ _ => rfl
theorem Like.set {X : List Str} {ρ ρ' : Fra} {x : Str} {v : V} (h : Like X ρ ρ') (hx : x ∈ X) : Like X ρ (ρ'.set x v) := fun y hy => by rw [Fra.set_ne (fun z => by subst z; exact hy hx)]; exact h y hy
theorem Like.at {X : List Str} {ρ ρ' : Fra} {x : Str} {v : V} (h : Like X ρ ρ') (e : ρ x = some v) (hx : x ∉ X := by decide) : ρ' x = some v := (h x hx).trans e
/-- ahead of a set of another name -/
theorem Fra.aside {ρ : Fra} {x y : Str} {u v : V} (e : ρ x = some v) (h : x ≠ y := by decide) : ρ.set y u x = some v := (Fra.set_ne h).trans e

section
variable {C : Cx} {d : Nat} {env cenv : Env} {ρ : Fra} {σ : Store}
/-- the loop that changes just the names X -/
theorem S1_ForL {target iter : Expr} {body : List Stmt} {pos} {Q : Fl → Fra → Store → Prop} (X : List Str) (J : It → Nat → Fra → Store → Prop)
    (h : Iw C d env ρ iter (fun it σ₁ => TgtOk target it ∧ J it 0 ρ σ₁ ∧ ∃ N, ∀ i ρ' σ', Like X ρ ρ' → J it i ρ' σ' → i ≤ N ∧ it.ok σ' ∧
      (∀ v, it.at σ' i = some v → Asg C d env target v (fun ρ₂ σ₂ => Sx C d env body (loopEnd (fun ρ₃ σ₃ => Like X ρ ρ₃ ∧ J it (i + 1) ρ₃ σ₃) Q) ρ₂ σ₂) ρ' σ') ∧ (it.at σ' i = none → Q .next ρ' σ')) σ)
    (hs : ∀ x, foldedSetIterable iter env x = pure x := by intro _; rfl) : S1 C d env (.For target iter body [] pos) Q ρ σ :=
  S1_For (fun it i ρ' σ' => Like X ρ ρ' ∧ J it i ρ' σ') (fun A E s Qc rm Rp F hq => h A E s Qc rm Rp F fun it σ' I fp h' tk q => hq it σ' I fp h' tk ⟨q.1, ⟨Like.refl _ _, q.2.1⟩, by
    obtain ⟨_, _, N, st⟩ := q
    exact ⟨N, fun i ρ' σ' j => st i ρ' σ' j.1 j.2⟩⟩) hs

theorem S1_WhileL {test : Expr} {body : List Stmt} {pos} {Q : Fl → Fra → Store → Prop} (X : List Str) (J : Nat → Fra → Store → Prop) (n : Nat) (j0 : J n ρ σ)
    (step : ∀ n ρ' σ', Like X ρ ρ' → J n ρ' σ' → Ew C d env ρ' BRel (isTrue test env (eval test env)) (fun b σ₁ => (b = true → Sx C d env body (loopEnd (fun ρ₂ σ₂ => ∃ m, m < n ∧ Like X ρ ρ₂ ∧ J m ρ₂ σ₂) Q) ρ' σ₁) ∧ (b = false → Q .next ρ' σ₁)) σ') :
    S1 C d env (.While test body [] pos) Q ρ σ :=
  S1_While (fun n ρ' σ' => Like X ρ ρ' ∧ J n ρ' σ') n ⟨Like.refl _ _, j0⟩ fun n ρ' σ' j => step n ρ' σ' j.1 j.2

theorem Gw_loopL {elt target : Expr} {gens : List Comprehension} {ifs : List Expr} {scope : Scope} {pos p : Pos} {k : Nat} {em : Value → Env → Sem PySem.Fin → Sem PySem.Fin} {D : Addr} {it : It} {Q : Fra → Store → Prop} {g : Comprehension} (X : List Str) (hg : gens[k]? = some g) (ha : g.is_async = 0)
    (turn : TurnIs (.ListComp elt gens scope pos) k target ifs p em) (ht : TgtOk target it) (J : Nat → Store → Prop) (j0 : J 0 σ) (N : Nat)
    (step : ∀ i ρ' σ', Like X ρ ρ' → J i σ' → i ≤ N ∧ it.ok σ' ∧ (∀ v, it.at σ' i = some v → Asg C d cenv target v (fun ρ₂ σ₂ => Ew C d cenv ρ₂ BRel (testsT ifs cenv) (fun b σ₃ => (b = true → Em C d cenv em D (fun ρ₄ σ₄ => Like X ρ ρ₄ ∧ J (i + 1) σ₄) ρ₂ σ₃) ∧ (b = false → Like X ρ ρ₂ ∧ J (i + 1) σ₃)) σ₂) ρ' σ') ∧
      (it.at σ' i = none → ∀ ρ', Like X ρ ρ' → Q ρ' σ')) : Gw C d cenv (.ListComp elt gens scope pos) k D it Q ρ σ :=
  Gw_loop hg ha turn ht (fun i ρ' σ' => Like X ρ ρ' ∧ J i σ') ⟨Like.refl _ _, j0⟩ N fun i ρ' σ' j =>
    have := step i ρ' σ' j.1 j.2
    ⟨this.1, this.2.1, this.2.2.1, fun e => this.2.2.2 e ρ' j.1⟩
end

/-! the proofs' objects -/
structure Stp' where
  rule : Str
  clause : List Int
  prem : List Nat
  note : V
def stepV (s : Stp') : V := .tup [.str s.rule, .tup (s.clause.map V.int), .tup (s.prem.map fun n : Nat => V.int n), s.note]
def pfns (s n : Addr) (e : Int) : Str → Option V := fun y => if y = "empty" then some (.int e) else if y = "named" then some (.ref n) else if y = "steps" then some (.ref s) else none
structure IsPf (σ : Store) (dx s n : Addr) (e : Int) (rows : List Stp') : Prop where
  dx : σ dx = some (.ns 3 (pfns s n e))
  st : σ s = some (.list (rows.map stepV))
  nm : σ n = some (.list [.int 0])
  ne : s ≠ n
theorem IsPf.keep {σ σ' : Store} {X : List Addr} {dx s n : Addr} {e : Int} {rows : List Stp'} (p : IsPf σ dx s n e rows) (k : Same X σ σ') (h1 : dx ∉ X) (h2 : s ∉ X) (h3 : n ∉ X) : IsPf σ' dx s n e rows := ⟨k.at p.dx h1, k.at p.st h2, k.at p.nm h3, p.ne⟩
end Mine

open PySem PySem.W PyProof.Rows PySem.Calls PyProof.V PySem.Spec PySem.SeqAt
set_option Elab.async false
set_option linter.all false
set_option maxRecDepth 100000
namespace Mine

section
variable {K : Type} [DecidableEq K]
theorem hasK_iff {k : K} {kvs : List (K × V)} : hasK k kvs = true ↔ k ∈ kvs.map (·.1) := by unfold hasK; exact decide_eq_true_iff
theorem putK_keys (k : K) (v : V) (kvs : List (K × V)) : (putK k v kvs).map (·.1) = if k ∈ kvs.map (·.1) then kvs.map (·.1) else kvs.map (·.1) ++ [k] := by
  unfold putK
  split
  · rw [List.map_map]; apply List.map_congr_left; intro x _; simp only [Function.comp]; split <;> rfl
  · simp
theorem mem_putK {k x : K} {v : V} {kvs : List (K × V)} : x ∈ (putK k v kvs).map (·.1) ↔ x = k ∨ x ∈ kvs.map (·.1) := by
  rw [putK_keys]
  split
  · rename_i h
    exact ⟨.inr, fun z => z.elim (fun e => e ▸ h) id⟩
  · rw [List.mem_append, List.mem_singleton]; exact Or.comm
theorem nodup_putK {k : K} {v : V} {kvs : List (K × V)} (h : (kvs.map (·.1)).Nodup) : ((putK k v kvs).map (·.1)).Nodup := by
  rw [putK_keys]
  split
  · exact h
  · rename_i q
    rw [List.nodup_append]
    exact ⟨h, by simp, fun a ha b hb e => by rw [List.mem_singleton] at hb; subst hb; subst e; exact q ha⟩
theorem getK_put_self {k : K} {v : V} {kvs : List (K × V)} : getK k (putK k v kvs) = some v := by
  unfold getK putK
  split
  · rename_i h
    induction kvs with
    | nil => simp at h
    | cons c cs ih =>
      simp only [List.map_cons, List.find?_cons]
      by_cases e : c.1 = k
      · simp [e]
      · simp only [if_neg e, decide_eq_false e]
        simp only [List.map_cons, List.mem_cons] at h
        exact ih (h.resolve_left fun z => e z.symm)
  · rename_i h
    rw [List.find?_append]
    have : kvs.find? (fun kv => decide (kv.1 = k)) = none := by
      rw [List.find?_eq_none]
      intro x hx e
      exact h (List.mem_map.mpr ⟨x, hx, of_decide_eq_true e⟩)
    rw [this]
    simp
theorem getK_put_ne {k x : K} {v : V} {kvs : List (K × V)} (ne : x ≠ k) : getK x (putK k v kvs) = getK x kvs := by
  unfold getK putK
  split
  · rename_i hin
    clear hin
    induction kvs with
    | nil => rfl
    | cons c cs ih =>
      simp only [List.map_cons, List.find?_cons]
      by_cases e : c.1 = k
      · have : ¬ c.1 = x := fun z => ne (z.symm.trans e)
        simp only [if_pos e, this, decide_false]
        exact ih
      · simp only [if_neg e]
        by_cases e2 : c.1 = x
        · simp [e2]
        · simp only [e2, decide_false]; exact ih
  · rw [List.find?_append]
    cases kvs.find? (fun kv => decide (kv.1 = x)) with
    | some c => simp
    | none => simp [Ne.symm ne]
end

/-! what a step rests on -/
inductive Needs (P : Nat → List Nat) (last : Nat) : Nat → Prop
  | refl : Needs P last last
  | step {j m : Nat} : Needs P last j → m ∈ P j → Needs P last m
def Ahead (P : Nat → List Nat) : Prop := ∀ n, ∀ m ∈ P n, m < n
theorem Needs.le {P : Nat → List Nat} {last m : Nat} (g : Ahead P) (h : Needs P last m) : m ≤ last := by
  induction h with
  | refl => exact Nat.le_refl _
  | step _ hm ih => exact Nat.le_trans (Nat.le_of_lt (g _ _ hm)) ih
/-- those found when the steps from k on are done -/
def Wk (P : Nat → List Nat) (last k m : Nat) : Prop := m = last ∨ ∃ j, k ≤ j ∧ Needs P last j ∧ m ∈ P j
theorem Wk_zero {P : Nat → List Nat} {last m : Nat} : Wk P last 0 m ↔ Needs P last m := by
  constructor
  · rintro (rfl | ⟨j, _, hj, hm⟩)
    · exact .refl
    · exact .step hj hm
  · intro h
    cases h with
    | refl => exact .inl rfl
    | step hj hm => exact .inr ⟨_, Nat.zero_le _, hj, hm⟩
theorem Wk_top {P : Nat → List Nat} {last m : Nat} (g : Ahead P) : Wk P last (last + 1) m ↔ m = last := by
  constructor
  · rintro (rfl | ⟨j, hk, hj, hm⟩)
    · rfl
    · exact absurd (hj.le g) (by omega)
  · exact .inl
theorem Wk_at {P : Nat → List Nat} {last n : Nat} (g : Ahead P) : Wk P last (n + 1) n ↔ Needs P last n := by
  constructor
  · rintro (rfl | ⟨j, _, hj, hm⟩)
    · exact .refl
    · exact .step hj hm
  · intro h
    cases h with
    | refl => exact .inl rfl
    | step hj hm => exact .inr ⟨_, g _ _ hm, hj, hm⟩
theorem Wk_step {P : Nat → List Nat} {last n m : Nat} : Wk P last n m ↔ Wk P last (n + 1) m ∨ (Needs P last n ∧ m ∈ P n) := by
  constructor
  · rintro (rfl | ⟨j, hk, hj, hm⟩)
    · exact .inl (.inl rfl)
    · by_cases e : j = n
      · subst e; exact .inr ⟨hj, hm⟩
      · exact .inl (.inr ⟨j, by omega, hj, hm⟩)
  · rintro ((rfl | ⟨j, hk, hj, hm⟩) | ⟨h1, h2⟩)
    · exact .inl rfl
    · exact .inr ⟨j, by omega, hj, hm⟩
    · exact .inr ⟨n, Nat.le_refl _, h1, h2⟩
theorem Wk_le {P : Nat → List Nat} {last k m : Nat} (g : Ahead P) (h : Wk P last k m) : m ≤ last := by
  rcases h with rfl | ⟨j, _, hj, hm⟩
  · exact Nat.le_refl _
  · exact Needs.le g (.step hj hm)

open Classical in
noncomputable def need (P : Nat → List Nat) (last : Nat) : List Nat := (List.range (last + 1)).filter fun m => decide (Needs P last m)
open Classical in
theorem mem_need {P : Nat → List Nat} {last m : Nat} (g : Ahead P) : m ∈ need P last ↔ Needs P last m := by
  unfold need
  rw [List.mem_filter, List.mem_range, decide_eq_true_iff]
  exact ⟨fun h => h.2, fun h => ⟨Nat.lt_succ_of_le (h.le g), h⟩⟩
theorem need_sorted (P : Nat → List Nat) (last : Nat) : (need P last).Pairwise (· < ·) := List.pairwise_lt_range.filter _
theorem need_nodup (P : Nat → List Nat) (last : Nat) : (need P last).Nodup := (need_sorted P last).imp fun h => Nat.ne_of_lt h
theorem need_length (P : Nat → List Nat) (last : Nat) : (need P last).length ≤ last + 1 := by
  unfold need
  exact Nat.le_trans (List.length_filter_le _ _) (by simp)
theorem last_mem {P : Nat → List Nat} {last : Nat} (g : Ahead P) : last ∈ need P last := (mem_need g).mpr .refl

/-- as zints -/
def zints (l : List Nat) : List Int := l.map fun n : Nat => (n : Int)
def vints (l : List Nat) : List V := l.map fun n : Nat => V.int n
theorem vints_eq (l : List Nat) : (zints l).map V.int = vints l := by unfold zints vints; rw [List.map_map]; rfl
theorem ints_sorted {l : List Nat} (h : l.Pairwise (· < ·)) : (zints l).Pairwise (· ≤ ·) := by
  unfold zints
  rw [List.pairwise_map]
  exact h.imp fun q => Int.ofNat_le.mpr (Nat.le_of_lt q)
theorem ints_nodup {l : List Nat} (h : l.Nodup) : (zints l).Nodup := by
  unfold zints
  rw [List.nodup_iff_pairwise_ne, List.pairwise_map]
  exact (List.nodup_iff_pairwise_ne.mp h).imp fun q z => q (Int.ofNat_inj.mp z)
theorem mem_ints {l : List Nat} {m : Int} : m ∈ zints l ↔ ∃ n : Nat, m = n ∧ n ∈ l := by
  unfold zints
  rw [List.mem_map]
  exact ⟨fun ⟨n, a, b⟩ => ⟨n, b.symm, a⟩, fun ⟨n, a, b⟩ => ⟨n, b, a.symm⟩⟩
theorem ints_inj {a b : List Nat} (h : zints a = zints b) : a = b := by
  unfold zints at h
  exact List.map_inj_right (fun x y e => Int.ofNat_inj.mp e) |>.mp h
theorem sorted_eq {a b : List Nat} (ha : a.Pairwise (· < ·)) (hb : b.Pairwise (· < ·)) (h : ∀ x, x ∈ a ↔ x ∈ b) : a = b := by
  have na : a.Nodup := ha.imp fun q => Nat.ne_of_lt q
  have nb : b.Nodup := hb.imp fun q => Nat.ne_of_lt q
  exact ((List.perm_ext_iff_of_nodup na nb).mpr h).eq_of_pairwise (fun x y _ _ p q => absurd p (Nat.lt_asymm q)) ha hb

def premsOf (rows : List Stp') (n : Nat) : List Nat := (rows[n]?.map Stp'.prem).getD []
theorem premsOf_some {rows : List Stp'} {n : Nat} {r : Stp'} (h : rows[n]? = some r) : premsOf rows n = r.prem := by unfold premsOf; rw [h]; rfl
def GoodRows (rows : List Stp') : Prop := ∀ (n : Nat) (r : Stp'), rows[n]? = some r → ∀ m ∈ r.prem, m < n
theorem GoodRows.ahead {rows : List Stp'} (g : GoodRows rows) : Ahead (premsOf rows) := fun n m hm => by
  unfold premsOf at hm
  cases e : rows[n]? with
  | none => rw [e] at hm; cases hm
  | some r => rw [e] at hm; exact g n r e m hm

def rowAt (rows : List Stp') (n : Nat) : Stp' := (rows[n]?).getD ⟨"", [], [], .none⟩
theorem rowAt_some {rows : List Stp'} {n : Nat} {r : Stp'} (h : rows[n]? = some r) : rowAt rows n = r := by unfold rowAt; rw [h]; rfl
def trimRows (rows : List Stp') (told : List Nat) : List Stp' := told.map fun num => { rowAt rows num with prem := (rowAt rows num).prem.map fun m => told.idxOf m }
def rulesL : List Str := ["input", "define", "ite_term", "three", "bits", "congruence", "farkas", "branch", "divide", "cut", "resolve"]
structure OkRow (r : Stp') : Prop where
  rule : r.rule ∈ rulesL
  len : r.clause.length ≤ 1
  nz : ∀ c ∈ r.clause, c ≠ 0
  prem : r.prem.length ≤ 1000

theorem idx_lt {told : List Nat} (hs : told.Pairwise (· < ·)) {i m t : Nat} (ht : told[i]? = some t) (hm : m ∈ told) (lt : m < t) : told.idxOf m < i := by
  have h1 : told.idxOf m < told.length := List.idxOf_lt_length_iff.mpr hm
  have h2 : told[told.idxOf m] = m := List.getElem_idxOf h1
  obtain ⟨hi, e⟩ := List.getElem?_eq_some_iff.mp ht
  refine Nat.lt_of_not_le fun le => ?_
  rcases Nat.lt_or_eq_of_le le with q | q
  · have := (List.pairwise_iff_getElem.mp hs) i (told.idxOf m) hi h1 q
    omega
  · have : told[i] = m := by rw [← h2]; congr 1
    omega
theorem idx_at {told : List Nat} {m : Nat} (hm : m ∈ told) : told[told.idxOf m]? = some m := by
  have h1 : told.idxOf m < told.length := List.idxOf_lt_length_iff.mpr hm
  rw [List.getElem?_eq_getElem h1, List.getElem_idxOf h1]

def ClOk (cells : List (Str × Addr)) : List (Str × Addr) → Prop
  | [] => True
  | p :: r => cells.lookup p.1 = some p.2 ∧ ClOk cells r
theorem ClOk.mem {cells : List (Str × Addr)} : ∀ {cl : List (Str × Addr)}, ClOk cells cl → ∀ p ∈ cl, cells.lookup p.1 = some p.2
  | _ :: _, h, _, .head _ => h.1
  | _ :: _, h, _, .tail _ m => ClOk.mem h.2 _ m
theorem ClOk.to {cells cl : List (Str × Addr)} (h : ClOk cells cl) : ∀ x c, cl.lookup x = some c → cells.lookup x = some c := fun x c e => h.mem _ (mem_of_lookup e)
theorem compFra_at {ρ : Fra} {env cenv : Env} {x : Str} {v : V} (e : ρ x = some v) (h : ((cenv.cells.lookup x).isSome && !(env.kindOf x == some .local) && (cenv.kindOf x == some .cell || cenv.kindOf x == some .free) && !(x == ("__classdict__" : Str))) = true := by rfl) : compFra ρ env cenv x = some v := by
  unfold compFra; rw [if_pos h]; exact e
section
variable {C : Cx} {d : Nat} {env : Env} {ρ : Fra} {σ : Store}
theorem O2_sub {a b : Int} {Q : V → Store → Prop} (h : Q (.int (a - b)) σ) : Ow2 C d VRel (.int a) (.int b) (binaryOp .Sub) Q σ := by
  rintro A E s Qc _ _ rm Rp ⟨t, rfl⟩ ⟨u, rfl⟩ hq
  exact P.sub_int (hq _ _ _ s.heap _ h Rp ⟨_, rfl⟩ (Stp.refl ..))
end

theorem idx_last {P : Nat → List Nat} {last : Nat} (ah : Ahead P) : (need P last).idxOf last = (need P last).length - 1 := by
  have hm := last_mem (last := last) ah
  have h1 : (need P last).idxOf last < (need P last).length := List.idxOf_lt_length_iff.mpr hm
  refine Nat.le_antisymm (by omega) (Nat.le_of_not_lt fun lt => ?_)
  have h2 : (need P last)[(need P last).idxOf last] = last := List.getElem_idxOf h1
  have := (List.pairwise_iff_getElem.mp (need_sorted P last)) ((need P last).idxOf last) ((need P last).length - 1) h1 (by omega) lt
  have hle := ((mem_need ah).mp (List.getElem_mem (l := need P last) (n := (need P last).length - 1) (by omega))).le ah
  omega
theorem relabel_full {P P' : Nat → List Nat} {last : Nat} (ah : Ahead P) (ah' : Ahead P') (h : ∀ j t : Nat, (need P last)[j]? = some t → P' j = (P t).map fun m => (need P last).idxOf m) :
    need P' ((need P last).length - 1) = List.range (need P last).length := by
  have hm := last_mem (last := last) ah
  have hpos : 0 < (need P last).length := List.length_pos_of_mem hm
  refine sorted_eq (need_sorted _ _) List.pairwise_lt_range fun x => ?_
  rw [mem_need ah', List.mem_range]
  constructor
  · intro q
    have := q.le ah'
    omega
  · intro hx
    have key : ∀ m, Needs P last m → Needs P' ((need P last).length - 1) ((need P last).idxOf m) := by
      intro m hm
      induction hm with
      | refl => rw [idx_last ah]; exact .refl
      | step hj hmj ih =>
        refine .step ih ?_
        rw [h _ _ (idx_at ((mem_need ah).mpr hj))]
        exact List.mem_map_of_mem hmj
    have := key _ ((mem_need ah).mp (List.getElem_mem (l := need P last) (n := x) hx))
    have e : (need P last).idxOf (need P last)[x] = x := by
      have h1 : (need P last)[x] ∈ need P last := List.getElem_mem hx
      have h2 := idx_at h1
      have h3 : (need P last)[x]? = some (need P last)[x] := List.getElem?_eq_getElem hx
      exact (List.getElem?_inj (List.idxOf_lt_length_iff.mpr h1) (need_nodup _ _)).mp (h2.trans h3.symm)
    rw [e] at this
    exact this
end Mine

open PySem PySem.W PyProof.Rows PySem.Calls PyProof.V PySem.Spec PySem.SeqAt
set_option Elab.async false
set_option linter.all false
set_option maxRecDepth 100000
namespace Mine
theorem ints_take : ∀ {ws : List Value} {ns : List Int} (b : Nat), IntsAre ws ns → IntsAre (ws.take b) (ns.take b)
  | _, _, 0, _ => .nil
  | _, _, _ + 1, .nil => .nil
  | _, _, b + 1, .cons n t r => .cons n t (ints_take b r)
section
variable {C : Cx} {d : Nat} {env : Env} {ρ : Fra} {σ : Store}
/-- `list[:upper]` of a list of the ground -/
theorem Ew_SliceG {value upper : Expr} {p pos : Pos} {l : Addr} {ws : List Value} {ns : List Int} {Q : V → Store → Prop} (hl : C.g.IsList l ws.toArray) (hi : IntsAre ws ns) (hz : ns.length ≤ 1000000)
    (h : Ew C d env ρ VRel (eval value env) (fun u σ₁ => u = .ref l ∧ Ew C d env ρ VRel (eval upper env) (fun v σ₂ => ∃ b : Nat, v = .int b ∧ ∀ D, σ₂ D = none → Q (.ref D) (σ₂.set D (.list ((ns.take b).map V.int)))) σ₁) σ)
    (ht : ∀ o r, letTemporaryGo value o r = pure () := by intro _ _; rfl) : Ew C d env ρ VRel (eval (.Subscript value (.Slice none (some upper) none p) pos) env) Q σ :=
  fun A E s Qc rm Rp F hq => by
    refine wpAny_Subscript_list_slice (h A E s _ rm Rp F fun u σ₁ x h₁ k₁ q₁ R₁ r₁ s₁ => ?_) ht
    obtain ⟨rfl, q₁⟩ := q₁
    rw [evalPart_none, evalPart_some]
    refine wpAny_pure (q₁ A E _ _ rm R₁ (F.keep Rp s₁) fun v σ₂ y h₂ k₂ q₂ R₂ r₂ s₂ => ?_)
    obtain ⟨b, rfl, q⟩ := q₂
    have e : x = .ref l := r₁
    subst e
    obtain ⟨t, rfl⟩ := r₂
    have hl₂ : h₂.IsList l ws.toArray := by
      obtain ⟨o, ho, r⟩ := hl
      exact ⟨o, R₂.base _ _ ho, r⟩
    have hsz : ws.toArray.size = ns.length := by rw [List.size_toArray]; exact hi.length
    refine ⟨l, ws.toArray, none, some (b : Int), rfl, hl₂, by rw [hsz, sizeLine_eq]; exact Nat.le_trans hz (by decide), .none, .int _ _, ?_⟩
    obtain ⟨R₃, s₃⟩ := R₂.push { cls := .type "slice", data := .fields #[.none, .int b t, .none] }
    have hsz : (h₂.push { cls := .type "slice", data := .fields #[.none, .int b t, .none] }).objs.size = h₂.objs.size + 1 := Heap.size_push ..
    have kk : ∀ b' o, (h₂.push { cls := .type "slice", data := .fields #[.none, .int b t, .none] }).get? b' = some o → ((h₂.push { cls := .type "slice", data := .fields #[.none, .int b t, .none] }).push { cls := .type "list", data := .seq (slicePick ws.toArray none (some (b : Int)) none) }).get? b' = some o := fun b' o e => Heap.get?_push_of_some _ e
    obtain ⟨R₄, s₄, n⟩ := R₃.alloc' (a := h₂.objs.size + 1) (o := .list ((ns.take b).map V.int)) (by rw [hsz]; exact Nat.le_refl _) kk ⟨_, ⟨_, by rw [← hsz]; exact Heap.get?_push_size _ rfl⟩, by
      rw [slicePick_to]
      exact ofInts (ints_take b hi)⟩
    exact hq _ _ _ _ k₂ (q _ n) R₄ rfl (((s₁.trans s₂).trans s₃).trans s₄)

end
theorem need_congr {P P' : Nat → List Nat} {last : Nat} (ah : Ahead P) (ah' : Ahead P') (h : ∀ m, m ≤ last → P m = P' m) : need P last = need P' last := by
  refine sorted_eq (need_sorted _ _) (need_sorted _ _) fun x => ?_
  rw [mem_need ah, mem_need ah']
  constructor
  · intro q
    induction q with
    | refl => exact .refl
    | step hj hm ih => exact .step ih (h _ (hj.le ah) ▸ hm)
  · intro q
    induction q with
    | refl => exact .refl
    | step hj hm ih => exact .step ih ((h _ (hj.le ah')).symm ▸ hm)
theorem needs_trans {P : Nat → List Nat} {a b c : Nat} (h1 : Needs P a b) (h2 : Needs P b c) : Needs P a c := by
  induction h2 with
  | refl => exact h1
  | step _ hm ih => exact .step ih hm
theorem needs_first {P : Nat → List Nat} {last x : Nat} : Needs P last x ↔ x = last ∨ ∃ p ∈ P last, Needs P p x := by
  constructor
  · intro h
    induction h with
    | refl => exact .inl rfl
    | step hj hm ih =>
      rcases ih with rfl | ⟨p, hp, hx⟩
      · exact .inr ⟨_, hm, .refl⟩
      · exact .inr ⟨p, hp, .step hx hm⟩
  · rintro (rfl | ⟨p, hp, hx⟩)
    · exact .refl
    · exact needs_trans (.step .refl hp) hx
open Classical in
theorem need_range {P : Nat → List Nat} {last N : Nat} (ah : Ahead P) (h : last < N) : (List.range N).filter (fun m => decide (Needs P last m)) = need P last :=
  sorted_eq (List.pairwise_lt_range.filter _) (need_sorted _ _) fun x => by
    rw [mem_need ah, List.mem_filter, List.mem_range, decide_eq_true_iff]
    exact ⟨fun q => q.2, fun q => ⟨Nat.lt_of_le_of_lt (q.le ah) h, q⟩⟩
end Mine

open PySem PySem.W PyProof.Rows PySem.Calls PyProof.V PySem.Spec PySem.SeqAt
set_option Elab.async false
set_option linter.all false
set_option maxRecDepth 100000
namespace Mine
section
variable {C : Cx} {d : Nat} {env : Env} {ρ : Fra} {σ : Store}
theorem Cw_max {a : Addr} {ns : List Int} {Q : V → Store → Prop} (ha : σ a = some (.list (ns.map V.int))) (hne : 0 < ns.length) (h : ∀ M, M ∈ ns → (∀ x ∈ ns, x ≤ M) → Q (.int M) σ) : Cw C d (.builtin "max") [.ref a] Q σ :=
  fun A E s Qc ws rm R r hq => by
    obtain ⟨x, rfl, e⟩ := one_of r
    have e : x = .ref a := e
    subst e
    obtain ⟨vs, l, rr⟩ := R.list ha
    have hi : IntsAre vs.toList ns := IntsOf rr
    have hl : s.heap.IsList a vs.toList.toArray := l.isList
    obtain ⟨xs, e⟩ := hi.allInts.items
    have hns : ns = xs.toList.map (·.1) := by rw [← hi.numsOf, ← nums_intItems, ← e]
    have hsz : 0 < xs.size := by
      have h3 := hne; rw [hns, List.length_map, Array.length_toList] at h3; exact h3
    rw [e] at hl
    refine max_intList rm.hh hl hsz fun v h' tk hv hk => ?_
    obtain ⟨t, rfl⟩ := intItems_at hv
    obtain ⟨h1, h2⟩ := argBest_gt (numAt xs) (xs.size - 1)
    obtain ⟨R', st⟩ := ext_of R hk
    refine hq _ _ _ h' tk (h _ ?_ fun y hy => ?_) R' ⟨t, rfl⟩ st
    · rw [hns, numAt_eq]; exact getD_mem (by rw [List.length_map, Array.length_toList]; omega)
    · rw [hns] at hy
      obtain ⟨j, hj, rfl⟩ := mem_getD hy
      rw [List.length_map, Array.length_toList] at hj
      rw [← numAt_eq]; exact h2 j (by omega)

theorem Cw_max2 {a b : Int} {Q : V → Store → Prop} (h : Q (.int (max a b)) σ) : Cw C d (.builtin "max") [.int a, .int b] Q σ :=
  fun A E s Qc ws rm R r hq => by
    obtain ⟨x, y, rfl, ⟨t, rfl⟩, ⟨u, rfl⟩⟩ := two_of r
    refine max_two_ints rm.hh fun h' tk hk => ?_
    obtain ⟨R', st⟩ := ext_of R hk
    refine hq _ _ _ h' tk h R' ?_ st
    by_cases hb : b > a
    · rw [if_pos hb, Int.max_eq_right (Int.le_of_lt hb)]; exact ⟨u, rfl⟩
    · rw [if_neg hb, Int.max_eq_left (Int.not_lt.mp hb)]; exact ⟨t, rfl⟩

theorem mapSeq_ext (its its2 : Array Value) (n : Nat) : Obj.mapSeq (fun x => x ++ its2) { cls := .type "list", data := .seq its n } = { cls := .type "list", data := .seq (its ++ its2) (if (its ++ its2).size == its.size then n else n + 1) } := rfl
theorem Cw_extend {a b : Addr} {us vs : List V} {Q : V → Store → Prop} (ha : σ a = some (.list us)) (hb : σ b = some (.list vs)) (hz : us.length + vs.length ≤ 1000000) (h : Q .none (σ.set a (.list (us ++ vs)))) : Cw C d (.builtin "list.extend") [.ref a, .ref b] Q σ :=
  fun A E s Qc ws rm R r hq => by
    obtain ⟨x, y, rfl, e1, e2⟩ := two_of r
    have e1 : x = .ref a := e1
    have e2 : y = .ref b := e2
    subst e1 e2
    obtain ⟨xs, ⟨n, l⟩, rr⟩ := R.list ha
    obtain ⟨ys, ⟨m, l2⟩, rr2⟩ := R.list hb
    have h1 : xs.size = us.length := by have := rr.length; simpa using this
    have h2 : ys.size = vs.length := by have := rr2.length; simpa using this
    have hsz : xs.size + ys.size ≤ sizeLine := by rw [h1, h2, sizeLine_eq]; exact Nat.le_trans hz (by decide)
    refine call_meets PySem.F.slot_list_extend ⟨_, l, rfl⟩ PySem.F.entry_list_extend (PySem.F.args_list_extend_2 _ _) (AutoSeq1.list_extend_list_list_0 a xs n b ys m (extend_door hsz) (Nat.le_trans (Nat.le_add_right _ _) hsz) (Nat.le_succ_of_le hsz)) ⟨l, l2, ?_⟩
    have ho : (s.heap.update a (Obj.mapSeq fun x => x ++ ys)).get? a = some { cls := .type "list", data := .seq (xs ++ ys) (if (xs ++ ys).size == xs.size then n else n + 1) } := by
      rw [Heap.get?_update_self _ l (by rw [mapSeq_ext]; rfl), mapSeq_ext]
    have sb : Heap.SameBut a s.heap (s.heap.update a (Obj.mapSeq fun x => x ++ ys)) := Heap.SameBut.update ..
    have kp : KeepsIm s.heap (s.heap.update a (Obj.mapSeq fun x => x ++ ys)) := fun b' co q im => sb.extBut b' co (fun z => by
      subst z
      rw [q] at l; cases l
      exact notIm_list rfl rfl im) q
    obtain ⟨R', st⟩ := R.change (o' := .list (us ++ vs)) ha (fun b' co z q => sb.extBut b' co z q) ⟨_, ⟨_, ho⟩, by
      rw [Array.toList_append]
      exact VRels.append (VRels.keep kp _ _ rr) (VRels.keep kp _ _ rr2)⟩
    exact hq _ _ _ _ s.toks h R' rfl st
end
end Mine

open PySem PySem.W PyProof.Rows PySem.Calls PyProof.V PySem.Spec PySem.SeqAt
set_option Elab.async false
set_option linter.all false
set_option maxRecDepth 100000
set_option maxHeartbeats 4000000
namespace Mine
/-! dict.update from a list of pairs -/
theorem list_no_keys : typeLookup (.type "list") "keys" = pure none := by rw [typeLookup_type, builtinLookup_eq_fast]; kernel_rfl
section
variable {prog : Program} {w : World} {A : Around} {E : Value → Shared → Prop} {s : Shared}
theorem keys_of_list {a : Addr} {xs : Array Value} {k : Nat} {Q : Option Value → Shared → Prop}
    (hx : s.heap.get? a = some { cls := .type "list", data := .seq xs k }) (hA : A.handled = none)
    (h : ∀ h' tk, (∀ b o, s.heap.get? b = some o → h'.get? b = some o) → Q none { s with heap := h', toks := tk }) :
    wpAny (model prog w) A (getAttr? (.ref a) "keys") Q E s := by
  obtain ⟨hp, g, d, tk, os⟩ := s
  have hT : ∀ tk', (⟨hp, g, d, tk', os⟩ : Shared).TypeIs (.ref a) "list" := fun _ => ⟨_, hx, rfl⟩
  have f1 := sub_AttributeError
  have f3 := F.slot_list_getattribute.lookup
  have f4 := F.slot_list_getattribute.bind (.ref a)
  have f5 := am_list_getattr_none
  unfold getAttr? getAttrBy? getAttrBy
  repeat (any_goals (first | assumption | exact hT _ | ((with_reducible show wpAny _ _ (call (Value.builtin "list.__getattribute__") _ _) _ _ _); refine call_meets F.slot_list_getattribute (hT _) am_entry_list_getattribute (F.args_list_getattribute_2 _ _) (meets_getattribute_miss_list a xs k #[] "keys" _ list_no_keys (by decide)) ⟨hx, hA, fun h' tk' e hx' => ?_⟩) | wp_step))
  obtain ⟨t', u', he⟩ := hx'.there
  show wpAny _ _ (getattributeRaised _ _ _ _ _ _ _) _ _ _
  unfold getattributeRaised
  repeat (any_goals (first | assumption | wp_step))
  exact h _ _ hx'.keeps
end
theorem entry_upd : entryFor table "dict.update.loop" = some Builtin.«dict.update.loop» := entryFor_of_tree (by kernel_rfl)
theorem plain_upd : plainId "dict.update.loop" = true := by decide +kernel
/-- the i-th item is a pair -/
def PairAt (h : Heap) (v : Value) (k : Int) (x : Value) : Prop := ∃ T n t, v = .ref T ∧ h.get? T = some { cls := .type "tuple", data := .seq #[.int k t, x] n }
section
variable {prog : Program} {w : World} {A : Around} {E : Value → Shared → Prop} {s : Shared} {R : Result → Shared → Prop}
theorem pair_items {v x : Value} {k : Int} {Q : List Value → Shared → Prop} (hv : PairAt s.heap v k x) (h : ∀ t, Q [.int k t, x] s) :
    wpAny (model prog w) A (Builtin.Dict.pairItems v) Q E s := by
  obtain ⟨T, n, t, rfl, hT⟩ := hv
  have hT' : s.TypeIs (.ref T) "tuple" := ⟨_, hT, rfl⟩
  have hf := h t
  obtain ⟨hp, g, d, tk, os⟩ := s
  unfold Builtin.Dict.pairItems seqItems?
  repeat (any_goals (first | assumption | wp_step))
theorem upd_loop {I l dd : Addr} {items : Array Value} {ps : List (Int × Value)} (hh : A.handled = none) (hlI : l ≠ I) (hdI : dd ≠ I) (hdl : dd ≠ l) (hn : ps.length = items.size) :
    ∀ (m i : Nat) (s : Shared) (kvs : List (Int × Value)), items.size - i = m → i ≤ items.size → s.heap.IsListIter I l i → s.heap.IsList l items → s.heap.DictOf (intKind prog w) dd kvs → kvs.length + (items.size - i) ≤ 1000 →
      (∀ (j : Nat) (v : Value) (k : Int) (x : Value), items[j]? = some v → ps[j]? = some (k, x) → PairAt s.heap v k x) →
      (∀ h' tk, h'.DictOf (intKind prog w) dd (merged kvs (ps.drop i)) → (∀ b o, b ≠ dd → b ≠ I → s.heap.get? b = some o → h'.get? b = some o) → R (.ok (.ret .none)) { s with heap := h', toks := tk }) →
      codeAny (model prog w) A (.builtin "dict.update.loop" ⟨[.ref dd, .ref I, .int i 0, .none], []⟩) R s := by
  have W := Walks.list (prog := prog) (w := w) (A := A.in1) hh I l hlI items
  intro m
  induction m with
  | zero =>
    intro i s kvs hm hi hit hl hd hz hp hR
    have hi' : i = items.size := by omega
    subst hi'
    refine codeAny_builtin entry_upd ?_
    rw [Around.under_plainId plain_upd _]
    refine wpAny_bind (m := pyNext (.ref I)) (W.done s _ _ ⟨hit, hl⟩ fun h' tk mv => ?_)
    show wpAny _ _ (Builtin.Dict.addKeywords dd [] >>= _) _ _ _
    refine wpAny_bind (wpAny_pure (wpAny_pure (hR h' tk ?_ fun b o hb hb' e => mv b o (by simpa using hb') e)))
    rw [List.drop_eq_nil_of_le (by omega)]
    obtain ⟨o, es, ep, e, q⟩ := hd
    exact ⟨o, es, ep, mv _ _ (by simpa using hdI) e, q⟩
  | succ m ih =>
    intro i s kvs hm hi hit hl hd hz hp hR
    have hlt : i < items.size := by omega
    refine codeAny_builtin entry_upd ?_
    rw [Around.under_plainId plain_upd _]
    refine wpAny_bind (m := pyNext (.ref I)) (W.item i s _ _ hlt ⟨hit, hl⟩ fun v h₁ tk hv hst mv => ?_)
    obtain ⟨⟨k, x⟩, hps⟩ : ∃ p, ps[i]? = some p := ⟨ps[i]'(by omega), List.getElem?_eq_getElem _⟩
    have keepT : ∀ (j : Nat) (v : Value) (k : Int) (x : Value), items[j]? = some v → ps[j]? = some (k, x) → PairAt h₁ v k x := fun j v k x a b => by
      obtain ⟨T, n, t, e1, e2⟩ := hp j v k x a b
      refine ⟨T, n, t, e1, mv _ _ (fun z => ?_) e2⟩
      have z : T = I := by simpa using z
      obtain ⟨oI, eI, cI, dI⟩ := hit
      rw [z, eI] at e2; cases e2
      cases dI
    have hd₁ : h₁.DictOf (intKind prog w) dd kvs := by
      obtain ⟨o, es, ep, e, q⟩ := hd
      exact ⟨o, es, ep, mv _ _ (by simpa using hdI) e, q⟩
    show wpAny _ A.in1 (holding [v] _ >>= _) _ _ _
    refine wpAny_bind (wpAny_holding (wpAny_bind (wpAny_tryCatch (pair_items (s := { s with heap := h₁, toks := tk }) (keepT i v k x hv hps) fun t => ?_))))
    show wpAny _ A.in1 (holding [.int k t, x] (dictSet dd (.int k t) x)) _ _ _
    refine wpAny_holding (wpAny_dictSet_pairs (s := { s with heap := h₁, toks := tk }) (hsz := by rw [sizeLine_eq]; omega) (intKind_is _ _ _ _) hd₁ fun h₂ hd₂ sb => ?_)
    refine wpAny_pure ⟨plainId_quiet plain_upd _, ?_⟩
    have hIt : h₂.IsListIter I l (i + 1) := hst.1.at fun o e => sb.2 I (Ne.symm hdI) ▸ e
    have hL : h₂.IsList l items := hst.2.at fun o e => sb.2 l (Ne.symm hdl) ▸ e
    have hle := stored_length_le kvs k x
    show codeAny _ A (.builtin "dict.update.loop" ⟨[.ref dd, .ref I, .int ((i : Int) + 1) 0, .none], []⟩) R _
    refine ih (i + 1) { s with heap := h₂, toks := tk + 1 } _ (by omega) hlt hIt hL hd₂ (by omega) (fun j v k x a b => ?_) fun h' tk' a b => hR h' tk' ?_ fun b' o n1 n2 e => b b' o n1 n2 ((sb.2 b' n1).trans (mv b' o (by simpa using n2) e))
    · obtain ⟨T, n, t, e1, e2⟩ := keepT j v k x a b
      refine ⟨T, n, t, e1, (sb.2 T fun z => ?_).trans e2⟩
      obtain ⟨o, es, ep, e, c, q, _⟩ := hd₁
      rw [z, e] at e2; cases e2
      cases q
    · have : merged kvs (ps.drop i) = merged (stored kvs k x) (ps.drop (i + 1)) := by
        have hi' : i < ps.length := by omega
        rw [List.drop_eq_getElem_cons hi']
        have : ps[i] = (k, x) := by rw [List.getElem?_eq_getElem hi'] at hps; exact Option.some.inj hps
        rw [this]; rfl
      rw [this]; exact a
end
end Mine
namespace Mine
section
variable {prog : Program} {w : World} {A : Around} {E : Value → Shared → Prop} {s : Shared} {R : Result → Shared → Prop}
theorem wp_update {dd l : Addr} {items : Array Value} {n : Nat} {kvs ps : List (Int × Value)} {Q : Value → Shared → Prop} (hh : A.handled = none) (hl : s.heap.get? l = some { cls := .type "list", data := .seq items n }) (hd : s.heap.DictOf (intKind prog w) dd kvs) (hn : ps.length = items.size)
    (hz : kvs.length + items.size ≤ 1000) (hp : ∀ (j : Nat) (v : Value) (k : Int) (x : Value), items[j]? = some v → ps[j]? = some (k, x) → PairAt s.heap v k x)
    (h : ∀ h' tk, h'.DictOf (intKind prog w) dd (merged kvs ps) → (∀ b o, b ≠ dd → s.heap.get? b = some o → h'.get? b = some o) → Q .none { s with heap := h', toks := tk }) :
    wpAny (model prog w) A (call (.builtin "dict.update") [.ref dd, .ref l]) Q E s := by
  have hT : s.TypeIs (.ref dd) "dict" := hd.typeIs
  refine wpAny_call (codeAny_call_builtin PySem.F.slot_dict_update.plain PySem.F.entry_dict_update (PySem.F.slot_dict_update.check _ _ _ _ _ _ _ _ hT (PySem.F.args_dict_update_2 _ _) ?_))
  unfold Builtin.«dict.update»
  refine wpAny_bind ?_
  unfold Builtin.Dict.selfAndRest
  refine wpAny_bind (wpAny_notOrdered_dict hT ?_)
  show wpAny _ _ (pure (dd, [Value.ref l])) _ _ s
  refine wpAny_pure ?_
  show wpAny _ _ (Builtin.Dict.updateFrom "dict.update" dd (.ref l) [] .none) _ _ s
  unfold Builtin.Dict.updateFrom
  refine wpAny_bind (wpAny_typeOf (show s.TypeIs (.ref l) "list" from ⟨_, hl, rfl⟩) ?_)
  rw [if_pos (by decide)]
  refine wpAny_bind (keys_of_list hl hh fun h₁ tk₁ k₁ => ?_)
  rw [if_pos (show (none : Option Value).isNone = true from rfl)]
  refine wpAny_bind (wpAny_rule ?_)
  refine wpAny_bind (wpAny_pyIter_list (s := { s with heap := h₁, toks := tk₁ }) ⟨_, k₁ _ _ hl, rfl, n, rfl⟩ ?_)
  refine wpAny_pure ⟨plainId_quiet plain_upd _, ?_⟩
  have nI : ∀ b o, h₁.get? b = some o → b ≠ h₁.objs.size := fun b o e => Nat.ne_of_lt (Heap.lt_size e)
  have hd₁ : h₁.DictOf (intKind prog w) dd kvs := by
    obtain ⟨o, es, ep, e, q⟩ := hd
    exact ⟨o, es, ep, k₁ _ _ e, q⟩
  have ndl : dd ≠ l := fun z => by
    obtain ⟨o, es, ep, e, c, q, _⟩ := hd
    rw [z, hl] at e; cases e; cases q
  obtain ⟨od, esd, epd, ed, qd⟩ := id hd₁
  show codeAny _ A (.builtin "dict.update.loop" ⟨[.ref dd, .ref h₁.objs.size, .int ((0 : Nat) : Int) 0, .none], []⟩) _ _
  refine upd_loop (l := l) (items := items) (ps := ps) hh (nI _ _ (k₁ _ _ hl)) (nI _ _ ed) ndl hn items.size 0 _ kvs (by omega) (Nat.zero_le _) ⟨_, Heap.get?_push_size _ rfl, rfl, rfl⟩ ⟨_, Heap.get?_push_of_some _ (k₁ _ _ hl), rfl, n, rfl⟩ ⟨od, esd, epd, Heap.get?_push_of_some _ ed, qd⟩ (by omega) (fun j v k x a b => ?_) fun h' tk' a b => h h' tk' a fun b' o n1 e => ?_
  · obtain ⟨T, m, t, e1, e2⟩ := hp j v k x a b
    exact ⟨T, m, t, e1, Heap.get?_push_of_some _ (k₁ _ _ e2)⟩
  · exact b b' o n1 (nI _ _ (k₁ _ _ e)) (Heap.get?_push_of_some _ (k₁ _ _ e))
end
section
variable {C : Cx} {d : Nat} {env : Env} {ρ : Fra} {σ : Store}
def pairV (p : Int × V) : V := .tup [.int p.1, p.2]
theorem pairs_of {h : Heap} : ∀ {ps : List (Int × V)} {ws : List Value}, VRels h (ps.map pairV) ws → ∃ cs : List (Int × Value), cs.length = ws.length ∧ cs.map (·.1) = ps.map (·.1) ∧ VRels h (ps.map (·.2)) (cs.map (·.2)) ∧
    ∀ (j : Nat) (v : Value) (k : Int) (x : Value), ws[j]? = some v → cs[j]? = some (k, x) → PairAt h v k x
  | [], ws, r => by
    have e : ws = [] := r
    subst e
    exact ⟨[], rfl, rfl, VRels.nil, fun j v k x a => by simp at a⟩
  | (k, v) :: ps, ws, r => by
    obtain ⟨w, ws', rfl, a, b⟩ := r
    obtain ⟨cs, l, e1, e2, e3⟩ := pairs_of b
    obtain ⟨T, n, us, rfl, hT, r2⟩ := a
    obtain ⟨y, x, e4, ⟨t, rfl⟩, hx⟩ := two_of r2
    have e5 : us = #[.int k t, x] := by
      cases us with
      | mk l => simp only at e4; rw [e4]
    subst e5
    refine ⟨(k, x) :: cs, by simp [l], by simp [e1], VRels.cons hx e2, fun j v' k' x' q1 q2 => ?_⟩
    cases j with
    | zero =>
      simp only [List.getElem?_cons_zero, Option.some.injEq, Prod.mk.injEq] at q1 q2
      obtain ⟨rfl, rfl⟩ := q2
      subst q1
      exact ⟨T, n, t, rfl, hT⟩
    | succ j =>
      simp only [List.getElem?_cons_succ] at q1 q2
      exact e3 j v' k' x' q1 q2
theorem Cw_update {a b : Addr} {kvs ps : List (Int × V)} {Q : V → Store → Prop} (ha : σ a = some (.idict kvs)) (hb : σ b = some (.list (ps.map pairV))) (hz : kvs.length + ps.length ≤ 1000) (h : Q .none (σ.set a (.idict (mergeK ps kvs)))) :
    Cw C d (.builtin "dict.update") [.ref a, .ref b] Q σ :=
  fun A E s Qc ws rm R r hq => by
    obtain ⟨x, y, rfl, e1, e2⟩ := two_of r
    have e1 : x = .ref a := e1
    have e2 : y = .ref b := e2
    subst e1 e2
    obtain ⟨us, ⟨n, l⟩, rr⟩ := R.list hb
    obtain ⟨cvs, hd, ke, kr⟩ : ORel C.prog C.w s.heap a (.idict kvs) := R.objs a _ ha
    obtain ⟨cs, cl, c1, c2, c3⟩ := pairs_of rr
    have z1 : cs.length = ps.length := by have := congrArg List.length c1; simpa using this
    have z2 : cvs.length = kvs.length := by have := congrArg List.length ke; simpa using this
    have z3 : us.size = ps.length := by have := rr.length; simpa using this
    refine wp_update rm.hh l hd (ps := cs) (by omega) (by omega) (fun j v k x a b => c3 j v k x (by simpa using a) b) fun h' tk hd' k' => ?_
    have kp : KeepsIm s.heap h' := fun b' co q im => k' b' co (fun z => by
      subst z
      obtain ⟨o, es, ep, e, c, dq, _⟩ := hd
      rw [q] at e; cases e
      exact notIm_dict dq im) q
    have mk := merged_keys (h := h') c1 (VRels.keep kp _ _ c2) ke (VRels.keep kp _ _ kr)
    obtain ⟨R', st⟩ := R.change (o' := .idict (mergeK ps kvs)) ha (fun b' co z q => k' b' co z q) ⟨_, hd', mk.1, mk.2⟩
    exact hq _ _ _ _ tk h R' rfl st
end
end Mine

open PySem PySem.W PyProof.Rows PySem.Calls PyProof.V PySem.Spec PySem.SeqAt
set_option Elab.async false
set_option linter.all false
set_option maxRecDepth 100000
set_option maxHeartbeats 4000000
namespace Mine
def pairI (p : Int × Int) : V := .tup [.int p.1, .int p.2]
def ppairI (p : Int × Int) : PyData := .tuple [.int p.1, .int p.2]
theorem reads_pairI {h : Heap} : ∀ {ns : List (Int × Int)} {ws : List Value}, VRels h (ns.map pairI) ws → ReadsAll h ws (ns.map ppairI) []
  | [], ws, x => by have e : ws = [] := x; subst e; exact .nil
  | n :: ns, ws, x => by
    obtain ⟨w, ws', rfl, ⟨a, k, us, rfl, ha, hu⟩, b⟩ := x
    obtain ⟨x, y, e1, ⟨t, rfl⟩, ⟨t', rfl⟩⟩ := two_of hu
    have r1 : ReadsAll h us.toList [.int n.1, .int n.2] [] := by rw [e1]; exact ReadsAll.cons (Reads.int n.1 t) (ReadsAll.cons (Reads.int n.2 t') .nil)
    exact ReadsAll.cons (bs := []) (Reads.tuple ha rfl rfl r1) (reads_pairI b)
theorem canLay_pairI : ∀ ns : List (Int × Int), PyData.canLayAll0 (ns.map ppairI) = true
  | [] => by simp [PyData.canLayAll0]
  | n :: r => by simp [PyData.canLayAll0, PyData.canLay0, ppairI, canLay_pairI r]
theorem depth_pairI : ∀ ns : List (Int × Int), PyData.depthAll (ns.map ppairI) ≤ 4
  | [] => by simp [PyData.depthAll]
  | n :: r => by
    have := depth_pairI r
    simp only [List.map_cons, PyData.depthAll, PyData.depth, ppairI] at *
    omega
theorem shaped_pairI (ns : List (Int × Int)) : shaped (.list (ns.map ppairI)) = true := by
  have h1 := depth_pairI ns
  have h2 : PyData.depth (.list (ns.map ppairI)) ≤ 64 := by simp only [PyData.depth]; omega
  show (PyData.canLay0 (.list (ns.map ppairI)) && decide (PyData.depth (.list (ns.map ppairI)) ≤ 64)) = true
  rw [Bool.and_eq_true]
  exact ⟨by simp only [PyData.canLay0]; exact canLay_pairI ns, decide_eq_true h2⟩
section
variable {C : Cx} {d : Nat} {env : Env} {ρ : Fra} {σ : Store}
theorem O2_nePairs {a b : Addr} {ns : List (Int × Int)} {Q : V → Store → Prop} (ha : σ a = some (.list (ns.map pairI))) (hb : σ b = some (.list [])) (h : Q (.bool (!decide (ns = []))) σ) :
    Ow2 C d VRel (.ref a) (.ref b) (compareOp .NotEq) Q σ := by
  intro A E s Qc u v rm Rp e1 e2 hq
  have e1 : u = .ref a := e1
  have e2 : v = .ref b := e2
  subst e1 e2
  obtain ⟨ws, ⟨n1, l1⟩, r1⟩ := Rp.list ha
  obtain ⟨ws', ⟨n2, l2⟩, r2⟩ := Rp.list hb
  refine ne_dataH_same (Reads.list l1 rfl rfl (reads_pairI r1)) (Reads.list l2 rfl rfl (reads_pairI (ns := []) r2)) (shaped_pairI ns) (shaped_pairI []) (units_ok rm)
    (by cases ns <;> simp [noMix, noMixAll]) ?_
  have e : PySem.Spec.same (.list (ns.map ppairI)) (.list (([] : List (Int × Int)).map ppairI)) = decide (ns = []) := by cases ns <;> simp [PySem.Spec.same, PySem.Spec.sameAll]
  rw [e]
  exact hq _ _ _ s.heap s.toks h Rp rfl (Stp.refl ..)
end
end Mine

open PySem PySem.W PyProof.Rows PySem.Calls PyProof.V PySem.Spec PySem.SeqAt
set_option Elab.async false
set_option linter.all false
set_option maxRecDepth 100000
set_option maxHeartbeats 4000000
namespace Mine
section
variable {C : Cx} {d : Nat} {env : Env} {ρ : Fra} {σ : Store}
/-- two local names on one row take a tuple display: the second is stored first -/
theorem S1_AssignSwap {x y : Str} {px py : Pos} {value : Expr} {k tpos pos} {Q : Fl → Fra → Store → Prop} (hx' : Takes env x) (hy : Takes env y)
    (h : Ew C d env ρ VRel (eval value env) (fun v σ₁ => ∃ a b, v = .tup [a, b] ∧ Q .next ((ρ.set y b).set x a) σ₁) σ)
    (hs : swapsWithSole [.Tuple [.Name x px, .Name y py] k tpos] value pos.line env = pure false := by with_unfolding_all rfl)
    (hw : swappedStores [.Tuple [.Name x px, .Name y py] k tpos] value env = pure (some [x, y]) := by with_unfolding_all rfl) : S1 C d env (.Assign [.Tuple [.Name x px, .Name y py] k tpos] value pos) Q ρ σ :=
  fun A E s Qc rm Rp F hq => Assign_Tuple_swapped (h A E s _ rm Rp F fun v σ₁ z h₁ k₁ q₁ R₁ r₁ s₁ => by
    obtain ⟨a, b, rfl, q⟩ := q₁
    obtain ⟨t, n, us, rfl, ht, hu⟩ := r₁
    obtain ⟨wx, wy, eu, rx, ry⟩ := two_of hu
    have hsz : 2 = us.size := by have := congrArg List.length eu; simpa using this.symm
    show wpAny C.M A (unpackItems (.ref t) 2 none) _ E _
    rw [hsz]
    refine unpackItems_tuple rm.hh ⟨_, ht, rfl, n, rfl⟩ fun h' hx => ?_
    have kp : ∀ b o, h₁.get? b = some o → h'.get? b = some o := fun b o e => hx b o (Nat.ne_of_lt (Heap.lt_size e)) e
    have st : Stp σ₁ σ₁ h₁ h' := ⟨fun b o e _ => kp b o e, fun _ o e => .inl ⟨o, e⟩, fun b o e => ⟨o, kp b o e⟩⟩
    have R' : Rep C σ₁ h' := ⟨R₁.ok, fun b o e => kp b o (R₁.base b o e), R₁.off, fun b o e => (R₁.objs b o e).keep (R₁.im st.keep) fun co q => kp b co q⟩
    have F' := (F.keep Rp s₁).keep R₁ st
    have rx' := R₁.val st.keep rx
    have ry' := R₁.val st.keep ry
    rw [eu]
    show wpAny C.M A (do holding [wx] (bindName env y wy); assignInOrder [bindName env x] [wx]) _ E _
    refine wpAny_bind (wpAny_holding (bindName_ (wp_store R' F' ry' hy fun h₂ tk₂ R₂ F₂ st₂ => ?_)))
    have rx₂ := VRel.keep (st₂.im R' F') _ _ rx'
    show wpAny C.M A (do holding [] (bindName env x wx); assignInOrder [] []) _ E _
    refine wpAny_bind (wpAny_holding (bindName_ (wp_store R₂ F₂ rx₂ hx' fun h₃ tk₃ R₃ F₃ st₃ => ?_)))
    exact wpAny_pure (hq _ _ _ _ _ _ q R₃ F₃ rfl (((s₁.trans st).toF.trans st₂).trans st₃))) hs hw
end
end Mine

open PySem PySem.W PyProof.Rows
set_option Elab.async false
set_option linter.all false
set_option maxRecDepth 100000
set_option maxHeartbeats 4000000
namespace Mine
abbrev PW : Program := PySem.Challenge.pw_qz0005_01
noncomputable def stA (i : Nat) : Stmt := (PW.main.body[i]?).getD (.Pass ⟨0, 0, 0, 0⟩)
noncomputable def inC (s : Stmt) (i : Nat) : Stmt := match s with
  | .ClassDef _ _ _ b .. => (b[i]?).getD (.Pass ⟨0, 0, 0, 0⟩)
  | s => s
noncomputable def fnP (s : Stmt) : Arguments := match s with
  | .FunctionDef _ a .. => a
  | _ => ⟨[], [], none, [], [], none, []⟩
noncomputable def fnB (s : Stmt) : FuncBody := match s with
  | .FunctionDef _ _ b .. => .stmts b
  | _ => .stmts []
noncomputable def fnS (s : Stmt) : Scope := match s with
  | .FunctionDef _ _ _ _ _ _ s .. => s
  | _ => ⟨.function, [], false, false, []⟩
noncomputable def ho43 (P : Params) : Obj := Obj.mk (Value.type "tuple") none (Data.seq #[] 0) #[]
noncomputable def ho44 (P : Params) : Obj := Obj.mk Value.none none (Data.fields #[]) #[]
noncomputable def ho45 (P : Params) : Obj := Obj.mk (Value.type "code") none (Data.fields #[Value.str (Str.ofString "<module>") 182, Value.str (Str.ofString "<module>") 183, Value.str (Str.ofString "/claim/cut.py") 184, Value.int 1 0, Value.int 0 0, Value.int 0 0, Value.int 0 0, Value.int 0 0, Value.ref 11, Value.bool Bool.false, Value.int 181 0, Value.ref 12, Value.none, Value.none, Value.none, Value.none, Value.int 185 0, Value.int 1 0, Value.str (Str.ofString "/claim/cut.py") 186]) #[]
noncomputable def ho46 (P : Params) : Obj := Obj.mk (Value.type "frame") none Data.plain #[some (Value.ref 13), some (Value.ref 3), some (Value.ref 3), none, some (Value.str (Str.ofString "__main__") 164), none, some (Value.ref 0)]
noncomputable def ho49 (P : Params) : Obj := Obj.mk Value.none none (Data.dict #[DictEntry.mk (PyData.keyHash P (Str.ofString "type.__subclasses__.Exception.0")) (Value.str (Str.ofString "type.__subclasses__.Exception.0") 230) (Value.int 47 0), DictEntry.mk (PyData.keyHash P (Str.ofString "type.__subclasses__.Exception.n")) (Value.str (Str.ofString "type.__subclasses__.Exception.n") 231) (Value.int 1 0)] 2) #[]
noncomputable def ho50 (P : Params) : Obj := Obj.mk (Value.type "dict") none (Data.dict #[DictEntry.mk (PyData.keyHash P (Str.ofString "__name__")) (Value.str (Str.ofString "__name__") 165) (Value.str (Str.ofString "minismt.errors") 194), DictEntry.mk (PyData.keyHash P (Str.ofString "__doc__")) (Value.str (Str.ofString "__doc__") 166) Value.none, DictEntry.mk (PyData.keyHash P (Str.ofString "__package__")) (Value.str (Str.ofString "__package__") 167) Value.none, DictEntry.mk (PyData.keyHash P (Str.ofString "__loader__")) (Value.str (Str.ofString "__loader__") 168) (Value.builtin "__main__.__loader__#opaque"), DictEntry.mk (PyData.keyHash P (Str.ofString "__spec__")) (Value.str (Str.ofString "__spec__") 169) Value.none, DictEntry.mk (PyData.keyHash P (Str.ofString "__annotations__")) (Value.str (Str.ofString "__annotations__") 170) (Value.ref 6), DictEntry.mk (PyData.keyHash P (Str.ofString "__builtins__")) (Value.str (Str.ofString "__builtins__") 171) (Value.ref 4), DictEntry.mk (PyData.keyHash P (Str.ofString "__file__")) (Value.str (Str.ofString "__file__") 173) (Value.str (Str.ofString "/claim/cut.py") 172), DictEntry.mk (PyData.keyHash P (Str.ofString "__cached__")) (Value.str (Str.ofString "__cached__") 174) Value.none, DictEntry.mk (PyData.keyHash P (Str.ofString "_wall")) (Value.str (Str.ofString "_wall") 193) (Value.ref 21), DictEntry.mk (PyData.keyHash P (Str.ofString "SmtError")) (Value.str (Str.ofString "SmtError") 233) (Value.ref 47)] 11) #[]
noncomputable def ho51 (P : Params) : Obj := Obj.mk Value.none none (Data.fields #[Value.int 1 0, Value.int 0 0, Value.ref 20, Value.int 5 0, Value.int 0 0, Value.ref 28]) #[]
noncomputable def ho52 (P : Params) : Obj := Obj.mk (Value.type "tuple") none (Data.seq #[] 0) #[]
noncomputable def ho53 (P : Params) : Obj := Obj.mk Value.none none (Data.fields #[]) #[]
noncomputable def ho54 (P : Params) : Obj := Obj.mk (Value.type "tuple") none (Data.seq #[Value.str (Str.ofString "k") 190] 0) #[]
noncomputable def ho55 (P : Params) : Obj := Obj.mk (Value.type "tuple") none (Data.seq #[] 0) #[]
noncomputable def ho56 (P : Params) : Obj := Obj.mk Value.none none (Data.func (FuncData.mk (Str.ofString "_wall") (Str.ofString "_wall") (fnP (stA 0)) (fnB (stA 0)) (fnS (stA 0)) 0 [] Value.none Value.none Value.none Value.none none Value.none Value.none 0)) #[]
noncomputable def ho57 (P : Params) : Obj := Obj.mk (Value.type "code") none (Data.fields #[Value.str (Str.ofString "_wall") 187, Value.str (Str.ofString "_wall") 188, Value.str (Str.ofString "/claim/cut.py") 189, Value.int 1 0, Value.int 1 0, Value.int 0 0, Value.int 0 0, Value.int 3 0, Value.ref 15, Value.bool Bool.true, Value.int 181 0, Value.ref 16, Value.none, Value.ref 17, Value.ref 18, Value.ref 19, Value.int 191 0, Value.int 1 0, Value.str (Str.ofString "/claim/cut.py") 192]) #[]
noncomputable def ho58 (P : Params) : Obj := Obj.mk (Value.type "function") none (Data.func (FuncData.mk (Str.ofString "_wall") (Str.ofString "_wall") (fnP (stA 0)) (fnB (stA 0)) (fnS (stA 0)) 3 [] Value.none Value.none Value.none (Value.str (Str.ofString "__main__") 164) none (Value.ref 20) Value.none 0)) #[]
noncomputable def ho59 (P : Params) : Obj := Obj.mk (Value.type "tuple") none (Data.seq #[Value.type "Exception"] 0) #[]
noncomputable def ho60 (P : Params) : Obj := Obj.mk (Value.type "builtin_function_or_method") none (Data.fields #[Value.builtin "type.__prepare__", Value.type "type"]) #[]
noncomputable def ho61 (P : Params) : Obj := Obj.mk (Value.type "dict") none (Data.dict #[DictEntry.mk (PyData.keyHash P (Str.ofString "__module__")) (Value.str (Str.ofString "__module__") 203) (Value.str (Str.ofString "minismt.errors") 194), DictEntry.mk (PyData.keyHash P (Str.ofString "__qualname__")) (Value.str (Str.ofString "__qualname__") 205) (Value.str (Str.ofString "SmtError") 204), DictEntry.mk (PyData.keyHash P (Str.ofString "__firstlineno__")) (Value.str (Str.ofString "__firstlineno__") 207) (Value.int 5 206), DictEntry.mk (PyData.keyHash P (Str.ofString "__init__")) (Value.str (Str.ofString "__init__") 216) (Value.ref 37), DictEntry.mk (PyData.keyHash P (Str.ofString "told")) (Value.str (Str.ofString "told") 223) (Value.ref 44), DictEntry.mk (PyData.keyHash P (Str.ofString "__static_attributes__")) (Value.str (Str.ofString "__static_attributes__") 225) (Value.ref 45), DictEntry.mk (PyData.keyHash P (Str.ofString "__classcell__")) (Value.str (Str.ofString "__classcell__") 226) (Value.ref 25)] 7) #[]
noncomputable def ho62 (P : Params) : Obj := Obj.mk (Value.type "cell") none (Data.cell (some (Value.ref 47))) #[]
noncomputable def ho63 (P : Params) : Obj := Obj.mk (Value.type "tuple") none (Data.seq #[] 0) #[]
noncomputable def ho64 (P : Params) : Obj := Obj.mk Value.none none (Data.fields #[Value.int 7 0, Value.int 4 0, Value.ref 36, Value.int 11 0, Value.int 4 0, Value.ref 43]) #[]
noncomputable def ho65 (P : Params) : Obj := Obj.mk (Value.type "code") none (Data.fields #[Value.str (Str.ofString "SmtError") 198, Value.str (Str.ofString "SmtError") 199, Value.str (Str.ofString "/claim/cut.py") 200, Value.int 5 0, Value.int 0 0, Value.int 0 0, Value.int 0 0, Value.int 0 0, Value.ref 26, Value.bool Bool.false, Value.int 181 0, Value.ref 27, Value.none, Value.none, Value.none, Value.none, Value.int 201 0, Value.int 5 0, Value.str (Str.ofString "/claim/cut.py") 202]) #[]
noncomputable def ho66 (P : Params) : Obj := Obj.mk (Value.type "frame") none Data.plain #[some (Value.ref 28), some (Value.ref 3), some (Value.ref 24), none, some (Value.str (Str.ofString "minismt.errors") 194), none, some (Value.ref 0)]
noncomputable def ho67 (P : Params) : Obj := Obj.mk (Value.type "tuple") none (Data.seq #[Value.ref 25] 0) #[]
noncomputable def ho68 (P : Params) : Obj := Obj.mk (Value.type "tuple") none (Data.seq #[Value.str (Str.ofString "__class__") 211] 0) #[]
noncomputable def ho69 (P : Params) : Obj := Obj.mk Value.none none (Data.fields #[]) #[]
noncomputable def ho70 (P : Params) : Obj := Obj.mk (Value.type "tuple") none (Data.seq #[Value.str (Str.ofString "self") 212, Value.str (Str.ofString "what") 213] 0) #[]
noncomputable def ho71 (P : Params) : Obj := Obj.mk (Value.type "tuple") none (Data.seq #[] 0) #[]
noncomputable def ho72 (P : Params) : Obj := Obj.mk Value.none none (Data.func (FuncData.mk (Str.ofString "__init__") (Str.ofString "SmtError.__init__") (fnP (inC (stA 2) 0)) (fnB (inC (stA 2) 0)) (fnS (inC (stA 2) 0)) 0 [] Value.none Value.none Value.none Value.none none Value.none Value.none 0)) #[]
noncomputable def ho73 (P : Params) : Obj := Obj.mk (Value.type "code") none (Data.fields #[Value.str (Str.ofString "__init__") 208, Value.str (Str.ofString "SmtError.__init__") 209, Value.str (Str.ofString "/claim/cut.py") 210, Value.int 7 0, Value.int 2 0, Value.int 0 0, Value.int 0 0, Value.int 3 0, Value.ref 31, Value.bool Bool.true, Value.int 181 0, Value.ref 32, Value.none, Value.ref 33, Value.ref 34, Value.ref 35, Value.int 214 0, Value.int 7 0, Value.str (Str.ofString "/claim/cut.py") 215]) #[]
noncomputable def ho74 (P : Params) : Obj := Obj.mk (Value.type "function") none (Data.func (FuncData.mk (Str.ofString "__init__") (Str.ofString "SmtError.__init__") (fnP (inC (stA 2) 0)) (fnB (inC (stA 2) 0)) (fnS (inC (stA 2) 0)) 3 [(Str.ofString "__class__", 25)] Value.none Value.none Value.none (Value.str (Str.ofString "minismt.errors") 194) none (Value.ref 36) (Value.ref 30) 0)) #[]
noncomputable def ho75 (P : Params) : Obj := Obj.mk (Value.type "tuple") none (Data.seq #[] 0) #[]
noncomputable def ho76 (P : Params) : Obj := Obj.mk Value.none none (Data.fields #[]) #[]
noncomputable def ho77 (P : Params) : Obj := Obj.mk (Value.type "tuple") none (Data.seq #[Value.str (Str.ofString "self") 220] 0) #[]
noncomputable def ho78 (P : Params) : Obj := Obj.mk (Value.type "tuple") none (Data.seq #[] 0) #[]
noncomputable def ho79 (P : Params) : Obj := Obj.mk Value.none none (Data.func (FuncData.mk (Str.ofString "told") (Str.ofString "SmtError.told") (fnP (inC (stA 2) 1)) (fnB (inC (stA 2) 1)) (fnS (inC (stA 2) 1)) 0 [] Value.none Value.none Value.none Value.none none Value.none Value.none 0)) #[]
noncomputable def ho80 (P : Params) : Obj := Obj.mk (Value.type "code") none (Data.fields #[Value.str (Str.ofString "told") 217, Value.str (Str.ofString "SmtError.told") 218, Value.str (Str.ofString "/claim/cut.py") 219, Value.int 11 0, Value.int 1 0, Value.int 0 0, Value.int 0 0, Value.int 3 0, Value.ref 38, Value.bool Bool.true, Value.int 181 0, Value.ref 39, Value.none, Value.ref 40, Value.ref 41, Value.ref 42, Value.int 221 0, Value.int 11 0, Value.str (Str.ofString "/claim/cut.py") 222]) #[]
noncomputable def ho81 (P : Params) : Obj := Obj.mk (Value.type "function") none (Data.func (FuncData.mk (Str.ofString "told") (Str.ofString "SmtError.told") (fnP (inC (stA 2) 1)) (fnB (inC (stA 2) 1)) (fnS (inC (stA 2) 1)) 3 [] Value.none Value.none Value.none (Value.str (Str.ofString "minismt.errors") 194) none (Value.ref 43) Value.none 0)) #[]
noncomputable def ho82 (P : Params) : Obj := Obj.mk (Value.type "tuple") none (Data.seq #[Value.str (Str.ofString "what") 224] 0) #[]
noncomputable def ho83 (P : Params) : Obj := Obj.mk (Value.type "dict") none (Data.dict #[DictEntry.mk (PyData.keyHash P (Str.ofString "__module__")) (Value.str (Str.ofString "__module__") 203) (Value.str (Str.ofString "minismt.errors") 194), DictEntry.mk (PyData.keyHash P (Str.ofString "__firstlineno__")) (Value.str (Str.ofString "__firstlineno__") 207) (Value.int 5 206), DictEntry.mk (PyData.keyHash P (Str.ofString "__init__")) (Value.str (Str.ofString "__init__") 216) (Value.ref 37), DictEntry.mk (PyData.keyHash P (Str.ofString "told")) (Value.str (Str.ofString "told") 223) (Value.ref 44), DictEntry.mk (PyData.keyHash P (Str.ofString "__static_attributes__")) (Value.str (Str.ofString "__static_attributes__") 225) (Value.ref 45), DictEntry.mk (PyData.keyHash P (Str.ofString "__weakref__")) (Value.str (Str.ofString "__weakref__") 228) (Value.ref 48), DictEntry.mk (PyData.keyHash P (Str.ofString "__doc__")) (Value.str (Str.ofString "__doc__") 229) Value.none] 4) #[]
noncomputable def ho84 (P : Params) : Obj := Obj.mk (Value.type "type") none (Data.cls (ClassData.mk (Str.ofString "SmtError") [Value.type "Exception"] [Value.ref 47, Value.type "Exception", Value.type "BaseException", Value.type "object"] 46 (Str.ofString "SmtError") Bool.true [] [] Bool.false none Bool.false)) #[some (Value.ref 22), none, some (Value.str (Str.ofString "SmtError") 196), some (Value.str (Str.ofString "SmtError") 204), some (Value.builtin "Exception.__new__"), some (Value.bool Bool.true)]
noncomputable def ho85 (P : Params) : Obj := Obj.mk (Value.type "getset_descriptor") none (Data.fields #[Value.str (Str.ofString "__weakref__") 227, Value.ref 47, Value.builtin "ExceptionGroup.__weakref__", Value.none]) #[]
noncomputable def ho86 (P : Params) : Obj := Obj.mk (Value.type "super") none (Data.fields #[Value.ref 47, Value.ref 47, Value.ref 47]) #[]
noncomputable def ho87 (P : Params) : Obj := Obj.mk (Value.type "builtin_function_or_method") none (Data.fields #[Value.builtin "object.__init_subclass__", Value.ref 47]) #[]
noncomputable def ho88 (P : Params) : Obj := Obj.mk (Value.type "dict") none (Data.dict #[DictEntry.mk (PyData.keyHash P (Str.ofString "__name__")) (Value.str (Str.ofString "__name__") 165) (Value.str (Str.ofString "minismt.proof") 269), DictEntry.mk (PyData.keyHash P (Str.ofString "__doc__")) (Value.str (Str.ofString "__doc__") 166) Value.none, DictEntry.mk (PyData.keyHash P (Str.ofString "__package__")) (Value.str (Str.ofString "__package__") 167) Value.none, DictEntry.mk (PyData.keyHash P (Str.ofString "__loader__")) (Value.str (Str.ofString "__loader__") 168) (Value.builtin "__main__.__loader__#opaque"), DictEntry.mk (PyData.keyHash P (Str.ofString "__spec__")) (Value.str (Str.ofString "__spec__") 169) Value.none, DictEntry.mk (PyData.keyHash P (Str.ofString "__annotations__")) (Value.str (Str.ofString "__annotations__") 170) (Value.ref 6), DictEntry.mk (PyData.keyHash P (Str.ofString "__builtins__")) (Value.str (Str.ofString "__builtins__") 171) (Value.ref 4), DictEntry.mk (PyData.keyHash P (Str.ofString "__file__")) (Value.str (Str.ofString "__file__") 173) (Value.str (Str.ofString "/claim/cut.py") 172), DictEntry.mk (PyData.keyHash P (Str.ofString "__cached__")) (Value.str (Str.ofString "__cached__") 174) Value.none, DictEntry.mk (PyData.keyHash P (Str.ofString "_wall")) (Value.str (Str.ofString "_wall") 193) (Value.ref 21), DictEntry.mk (PyData.keyHash P (Str.ofString "SmtError")) (Value.str (Str.ofString "SmtError") 233) (Value.ref 47), DictEntry.mk (PyData.keyHash P (Str.ofString "ProofFault")) (Value.str (Str.ofString "ProofFault") 268) (Value.ref 76), DictEntry.mk (PyData.keyHash P (Str.ofString "RULES")) (Value.str (Str.ofString "RULES") 282) (Value.ref 79), DictEntry.mk (PyData.keyHash P (Str.ofString "is_tidy")) (Value.str (Str.ofString "is_tidy") 290) (Value.ref 86)] 14) #[]
noncomputable def ho89 (P : Params) : Obj := Obj.mk Value.none none (Data.fields #[Value.int 1 0, Value.int 0 0, Value.ref 20, Value.int 5 0, Value.int 0 0, Value.ref 28, Value.int 13 0, Value.int 0 0, Value.ref 57, Value.int 23 0, Value.int 0 0, Value.ref 85]) #[]
noncomputable def ho90 (P : Params) : Obj := Obj.mk (Value.type "type") none (Data.cls (ClassData.mk (Str.ofString "SmtError") [Value.type "Exception"] [Value.ref 47, Value.type "Exception", Value.type "BaseException", Value.type "object"] 46 (Str.ofString "SmtError") Bool.true [] [Value.ref 76] Bool.false none Bool.false)) #[some (Value.ref 22), none, some (Value.str (Str.ofString "SmtError") 196), some (Value.str (Str.ofString "SmtError") 204), some (Value.builtin "Exception.__new__"), some (Value.bool Bool.true)]
noncomputable def ho91 (P : Params) : Obj := Obj.mk (Value.type "tuple") none (Data.seq #[Value.ref 47] 0) #[]
noncomputable def ho92 (P : Params) : Obj := Obj.mk (Value.type "builtin_function_or_method") none (Data.fields #[Value.builtin "type.__prepare__", Value.type "type"]) #[]
noncomputable def ho93 (P : Params) : Obj := Obj.mk (Value.type "dict") none (Data.dict #[DictEntry.mk (PyData.keyHash P (Str.ofString "__module__")) (Value.str (Str.ofString "__module__") 241) (Value.str (Str.ofString "minismt.errors") 194), DictEntry.mk (PyData.keyHash P (Str.ofString "__qualname__")) (Value.str (Str.ofString "__qualname__") 243) (Value.str (Str.ofString "ProofFault") 242), DictEntry.mk (PyData.keyHash P (Str.ofString "__firstlineno__")) (Value.str (Str.ofString "__firstlineno__") 245) (Value.int 13 244), DictEntry.mk (PyData.keyHash P (Str.ofString "__init__")) (Value.str (Str.ofString "__init__") 255) (Value.ref 66), DictEntry.mk (PyData.keyHash P (Str.ofString "told")) (Value.str (Str.ofString "told") 262) (Value.ref 73), DictEntry.mk (PyData.keyHash P (Str.ofString "__static_attributes__")) (Value.str (Str.ofString "__static_attributes__") 264) (Value.ref 74), DictEntry.mk (PyData.keyHash P (Str.ofString "__classcell__")) (Value.str (Str.ofString "__classcell__") 265) (Value.ref 54)] 7) #[]
noncomputable def ho94 (P : Params) : Obj := Obj.mk (Value.type "cell") none (Data.cell (some (Value.ref 76))) #[]
noncomputable def ho95 (P : Params) : Obj := Obj.mk (Value.type "tuple") none (Data.seq #[] 0) #[]
noncomputable def ho96 (P : Params) : Obj := Obj.mk Value.none none (Data.fields #[Value.int 15 0, Value.int 4 0, Value.ref 65, Value.int 19 0, Value.int 4 0, Value.ref 72]) #[]
noncomputable def ho97 (P : Params) : Obj := Obj.mk (Value.type "code") none (Data.fields #[Value.str (Str.ofString "ProofFault") 236, Value.str (Str.ofString "ProofFault") 237, Value.str (Str.ofString "/claim/cut.py") 238, Value.int 13 0, Value.int 0 0, Value.int 0 0, Value.int 0 0, Value.int 0 0, Value.ref 55, Value.bool Bool.false, Value.int 181 0, Value.ref 56, Value.none, Value.none, Value.none, Value.none, Value.int 239 0, Value.int 13 0, Value.str (Str.ofString "/claim/cut.py") 240]) #[]
noncomputable def ho98 (P : Params) : Obj := Obj.mk (Value.type "frame") none Data.plain #[some (Value.ref 57), some (Value.ref 3), some (Value.ref 53), none, some (Value.str (Str.ofString "minismt.errors") 194), none, some (Value.ref 0)]
noncomputable def ho99 (P : Params) : Obj := Obj.mk (Value.type "tuple") none (Data.seq #[Value.ref 54] 0) #[]
noncomputable def ho100 (P : Params) : Obj := Obj.mk (Value.type "tuple") none (Data.seq #[Value.str (Str.ofString "__class__") 249] 0) #[]
noncomputable def ho101 (P : Params) : Obj := Obj.mk Value.none none (Data.fields #[]) #[]
noncomputable def ho102 (P : Params) : Obj := Obj.mk (Value.type "tuple") none (Data.seq #[Value.str (Str.ofString "self") 250, Value.str (Str.ofString "what") 251, Value.str (Str.ofString "step") 252] 0) #[]
noncomputable def ho103 (P : Params) : Obj := Obj.mk (Value.type "tuple") none (Data.seq #[] 0) #[]
noncomputable def ho104 (P : Params) : Obj := Obj.mk Value.none none (Data.func (FuncData.mk (Str.ofString "__init__") (Str.ofString "ProofFault.__init__") (fnP (inC (stA 3) 0)) (fnB (inC (stA 3) 0)) (fnS (inC (stA 3) 0)) 0 [] Value.none Value.none Value.none Value.none none Value.none Value.none 0)) #[]
noncomputable def ho105 (P : Params) : Obj := Obj.mk (Value.type "code") none (Data.fields #[Value.str (Str.ofString "__init__") 246, Value.str (Str.ofString "ProofFault.__init__") 247, Value.str (Str.ofString "/claim/cut.py") 248, Value.int 15 0, Value.int 3 0, Value.int 0 0, Value.int 0 0, Value.int 3 0, Value.ref 60, Value.bool Bool.true, Value.int 181 0, Value.ref 61, Value.none, Value.ref 62, Value.ref 63, Value.ref 64, Value.int 253 0, Value.int 15 0, Value.str (Str.ofString "/claim/cut.py") 254]) #[]
noncomputable def ho106 (P : Params) : Obj := Obj.mk (Value.type "function") none (Data.func (FuncData.mk (Str.ofString "__init__") (Str.ofString "ProofFault.__init__") (fnP (inC (stA 3) 0)) (fnB (inC (stA 3) 0)) (fnS (inC (stA 3) 0)) 3 [(Str.ofString "__class__", 54)] Value.none Value.none Value.none (Value.str (Str.ofString "minismt.errors") 194) none (Value.ref 65) (Value.ref 59) 0)) #[]
noncomputable def ho107 (P : Params) : Obj := Obj.mk (Value.type "tuple") none (Data.seq #[] 0) #[]
noncomputable def ho108 (P : Params) : Obj := Obj.mk Value.none none (Data.fields #[]) #[]
noncomputable def ho109 (P : Params) : Obj := Obj.mk (Value.type "tuple") none (Data.seq #[Value.str (Str.ofString "self") 259] 0) #[]
noncomputable def ho110 (P : Params) : Obj := Obj.mk (Value.type "tuple") none (Data.seq #[] 0) #[]
noncomputable def ho111 (P : Params) : Obj := Obj.mk Value.none none (Data.func (FuncData.mk (Str.ofString "told") (Str.ofString "ProofFault.told") (fnP (inC (stA 3) 1)) (fnB (inC (stA 3) 1)) (fnS (inC (stA 3) 1)) 0 [] Value.none Value.none Value.none Value.none none Value.none Value.none 0)) #[]
noncomputable def ho112 (P : Params) : Obj := Obj.mk (Value.type "code") none (Data.fields #[Value.str (Str.ofString "told") 256, Value.str (Str.ofString "ProofFault.told") 257, Value.str (Str.ofString "/claim/cut.py") 258, Value.int 19 0, Value.int 1 0, Value.int 0 0, Value.int 0 0, Value.int 3 0, Value.ref 67, Value.bool Bool.true, Value.int 181 0, Value.ref 68, Value.none, Value.ref 69, Value.ref 70, Value.ref 71, Value.int 260 0, Value.int 19 0, Value.str (Str.ofString "/claim/cut.py") 261]) #[]
noncomputable def ho113 (P : Params) : Obj := Obj.mk (Value.type "function") none (Data.func (FuncData.mk (Str.ofString "told") (Str.ofString "ProofFault.told") (fnP (inC (stA 3) 1)) (fnB (inC (stA 3) 1)) (fnS (inC (stA 3) 1)) 3 [] Value.none Value.none Value.none (Value.str (Str.ofString "minismt.errors") 194) none (Value.ref 72) Value.none 0)) #[]
noncomputable def ho114 (P : Params) : Obj := Obj.mk (Value.type "tuple") none (Data.seq #[Value.str (Str.ofString "step") 263] 0) #[]
noncomputable def ho115 (P : Params) : Obj := Obj.mk (Value.type "dict") none (Data.dict #[DictEntry.mk (PyData.keyHash P (Str.ofString "__module__")) (Value.str (Str.ofString "__module__") 241) (Value.str (Str.ofString "minismt.errors") 194), DictEntry.mk (PyData.keyHash P (Str.ofString "__firstlineno__")) (Value.str (Str.ofString "__firstlineno__") 245) (Value.int 13 244), DictEntry.mk (PyData.keyHash P (Str.ofString "__init__")) (Value.str (Str.ofString "__init__") 255) (Value.ref 66), DictEntry.mk (PyData.keyHash P (Str.ofString "told")) (Value.str (Str.ofString "told") 262) (Value.ref 73), DictEntry.mk (PyData.keyHash P (Str.ofString "__static_attributes__")) (Value.str (Str.ofString "__static_attributes__") 264) (Value.ref 74), DictEntry.mk (PyData.keyHash P (Str.ofString "__doc__")) (Value.str (Str.ofString "__doc__") 266) Value.none] 3) #[]
noncomputable def ho116 (P : Params) : Obj := Obj.mk (Value.type "type") none (Data.cls (ClassData.mk (Str.ofString "ProofFault") [Value.ref 47] [Value.ref 76, Value.ref 47, Value.type "Exception", Value.type "BaseException", Value.type "object"] 75 (Str.ofString "ProofFault") Bool.true [] [] Bool.false none Bool.false)) #[some (Value.ref 51), none, some (Value.str (Str.ofString "ProofFault") 234), some (Value.str (Str.ofString "ProofFault") 242), some (Value.builtin "Exception.__new__"), some (Value.bool Bool.true)]
noncomputable def ho117 (P : Params) : Obj := Obj.mk (Value.type "super") none (Data.fields #[Value.ref 76, Value.ref 76, Value.ref 76]) #[]
noncomputable def ho118 (P : Params) : Obj := Obj.mk (Value.type "builtin_function_or_method") none (Data.fields #[Value.builtin "object.__init_subclass__", Value.ref 76]) #[]
noncomputable def ho119 (P : Params) : Obj := Obj.mk (Value.type "tuple") none (Data.seq #[Value.str (Str.ofString "input") 271, Value.str (Str.ofString "define") 272, Value.str (Str.ofString "ite_term") 273, Value.str (Str.ofString "three") 274, Value.str (Str.ofString "bits") 275, Value.str (Str.ofString "congruence") 276, Value.str (Str.ofString "farkas") 277, Value.str (Str.ofString "branch") 278, Value.str (Str.ofString "divide") 279, Value.str (Str.ofString "cut") 280, Value.str (Str.ofString "resolve") 281] 0) #[]
noncomputable def ho120 (P : Params) : Obj := Obj.mk (Value.type "tuple") none (Data.seq #[] 0) #[]
noncomputable def ho121 (P : Params) : Obj := Obj.mk Value.none none (Data.fields #[]) #[]
noncomputable def ho122 (P : Params) : Obj := Obj.mk (Value.type "tuple") none (Data.seq #[Value.str (Str.ofString "clause") 286, Value.str (Str.ofString "place") 287] 0) #[]
noncomputable def ho123 (P : Params) : Obj := Obj.mk (Value.type "tuple") none (Data.seq #[] 0) #[]
noncomputable def ho124 (P : Params) : Obj := Obj.mk Value.none none (Data.func (FuncData.mk (Str.ofString "is_tidy") (Str.ofString "is_tidy") (fnP (stA 6)) (fnB (stA 6)) (fnS (stA 6)) 0 [] Value.none Value.none Value.none Value.none none Value.none Value.none 0)) #[]
noncomputable def ho125 (P : Params) : Obj := Obj.mk (Value.type "code") none (Data.fields #[Value.str (Str.ofString "is_tidy") 283, Value.str (Str.ofString "is_tidy") 284, Value.str (Str.ofString "/claim/cut.py") 285, Value.int 23 0, Value.int 1 0, Value.int 0 0, Value.int 0 0, Value.int 3 0, Value.ref 80, Value.bool Bool.true, Value.int 181 0, Value.ref 81, Value.none, Value.ref 82, Value.ref 83, Value.ref 84, Value.int 288 0, Value.int 23 0, Value.str (Str.ofString "/claim/cut.py") 289]) #[]
noncomputable def ho126 (P : Params) : Obj := Obj.mk (Value.type "function") none (Data.func (FuncData.mk (Str.ofString "is_tidy") (Str.ofString "is_tidy") (fnP (stA 6)) (fnB (stA 6)) (fnS (stA 6)) 3 [] Value.none Value.none Value.none (Value.str (Str.ofString "minismt.proof") 269) none (Value.ref 85) Value.none 0)) #[]
noncomputable def ho127 (P : Params) : Obj := Obj.mk (Value.type "dict") none (Data.dict #[DictEntry.mk (PyData.keyHash P (Str.ofString "__name__")) (Value.str (Str.ofString "__name__") 165) (Value.str (Str.ofString "minismt.proof") 269), DictEntry.mk (PyData.keyHash P (Str.ofString "__doc__")) (Value.str (Str.ofString "__doc__") 166) Value.none, DictEntry.mk (PyData.keyHash P (Str.ofString "__package__")) (Value.str (Str.ofString "__package__") 167) Value.none, DictEntry.mk (PyData.keyHash P (Str.ofString "__loader__")) (Value.str (Str.ofString "__loader__") 168) (Value.builtin "__main__.__loader__#opaque"), DictEntry.mk (PyData.keyHash P (Str.ofString "__spec__")) (Value.str (Str.ofString "__spec__") 169) Value.none, DictEntry.mk (PyData.keyHash P (Str.ofString "__annotations__")) (Value.str (Str.ofString "__annotations__") 170) (Value.ref 6), DictEntry.mk (PyData.keyHash P (Str.ofString "__builtins__")) (Value.str (Str.ofString "__builtins__") 171) (Value.ref 4), DictEntry.mk (PyData.keyHash P (Str.ofString "__file__")) (Value.str (Str.ofString "__file__") 173) (Value.str (Str.ofString "/claim/cut.py") 172), DictEntry.mk (PyData.keyHash P (Str.ofString "__cached__")) (Value.str (Str.ofString "__cached__") 174) Value.none, DictEntry.mk (PyData.keyHash P (Str.ofString "_wall")) (Value.str (Str.ofString "_wall") 193) (Value.ref 21), DictEntry.mk (PyData.keyHash P (Str.ofString "SmtError")) (Value.str (Str.ofString "SmtError") 233) (Value.ref 47), DictEntry.mk (PyData.keyHash P (Str.ofString "ProofFault")) (Value.str (Str.ofString "ProofFault") 268) (Value.ref 76), DictEntry.mk (PyData.keyHash P (Str.ofString "RULES")) (Value.str (Str.ofString "RULES") 282) (Value.ref 79), DictEntry.mk (PyData.keyHash P (Str.ofString "is_tidy")) (Value.str (Str.ofString "is_tidy") 290) (Value.ref 86), DictEntry.mk (PyData.keyHash P (Str.ofString "Steps")) (Value.str (Str.ofString "Steps") 389) (Value.ref 159)] 15) #[]
noncomputable def ho128 (P : Params) : Obj := Obj.mk Value.none none (Data.fields #[Value.int 1 0, Value.int 0 0, Value.ref 20, Value.int 5 0, Value.int 0 0, Value.ref 28, Value.int 13 0, Value.int 0 0, Value.ref 57, Value.int 23 0, Value.int 0 0, Value.ref 85, Value.int 30 0, Value.int 0 0, Value.ref 92]) #[]
noncomputable def ho129 (P : Params) : Obj := Obj.mk (Value.type "tuple") none (Data.seq #[] 0) #[]
noncomputable def ho130 (P : Params) : Obj := Obj.mk (Value.type "builtin_function_or_method") none (Data.fields #[Value.builtin "type.__prepare__", Value.type "type"]) #[]
noncomputable def ho131 (P : Params) : Obj := Obj.mk (Value.type "dict") none (Data.dict #[DictEntry.mk (PyData.keyHash P (Str.ofString "__module__")) (Value.str (Str.ofString "__module__") 298) (Value.str (Str.ofString "minismt.proof") 269), DictEntry.mk (PyData.keyHash P (Str.ofString "__qualname__")) (Value.str (Str.ofString "__qualname__") 300) (Value.str (Str.ofString "Steps") 299), DictEntry.mk (PyData.keyHash P (Str.ofString "__firstlineno__")) (Value.str (Str.ofString "__firstlineno__") 302) (Value.int 30 301), DictEntry.mk (PyData.keyHash P (Str.ofString "__init__")) (Value.str (Str.ofString "__init__") 309) (Value.ref 100), DictEntry.mk (PyData.keyHash P (Str.ofString "name")) (Value.str (Str.ofString "name") 318) (Value.ref 107), DictEntry.mk (PyData.keyHash P (Str.ofString "names")) (Value.str (Str.ofString "names") 326) (Value.ref 114), DictEntry.mk (PyData.keyHash P (Str.ofString "var_count")) (Value.str (Str.ofString "var_count") 333) (Value.ref 121), DictEntry.mk (PyData.keyHash P (Str.ofString "size")) (Value.str (Str.ofString "size") 340) (Value.ref 128), DictEntry.mk (PyData.keyHash P (Str.ofString "clause")) (Value.str (Str.ofString "clause") 348) (Value.ref 135), DictEntry.mk (PyData.keyHash P (Str.ofString "rule")) (Value.str (Str.ofString "rule") 356) (Value.ref 142), DictEntry.mk (PyData.keyHash P (Str.ofString "add")) (Value.str (Str.ofString "add") 369) (Value.ref 149), DictEntry.mk (PyData.keyHash P (Str.ofString "chain")) (Value.str (Str.ofString "chain") 378) (Value.ref 156), DictEntry.mk (PyData.keyHash P (Str.ofString "__static_attributes__")) (Value.str (Str.ofString "__static_attributes__") 382) (Value.ref 157)] 13) #[]
noncomputable def ho132 (P : Params) : Obj := Obj.mk (Value.type "tuple") none (Data.seq #[] 0) #[]
noncomputable def ho133 (P : Params) : Obj := Obj.mk Value.none none (Data.fields #[Value.int 32 0, Value.int 4 0, Value.ref 99, Value.int 37 0, Value.int 4 0, Value.ref 106, Value.int 42 0, Value.int 4 0, Value.ref 113, Value.int 47 0, Value.int 4 0, Value.ref 120, Value.int 50 0, Value.int 4 0, Value.ref 127, Value.int 53 0, Value.int 4 0, Value.ref 134, Value.int 56 0, Value.int 4 0, Value.ref 141, Value.int 59 0, Value.int 4 0, Value.ref 148, Value.int 73 0, Value.int 4 0, Value.ref 155]) #[]
noncomputable def ho134 (P : Params) : Obj := Obj.mk (Value.type "code") none (Data.fields #[Value.str (Str.ofString "Steps") 293, Value.str (Str.ofString "Steps") 294, Value.str (Str.ofString "/claim/cut.py") 295, Value.int 30 0, Value.int 0 0, Value.int 0 0, Value.int 0 0, Value.int 0 0, Value.ref 90, Value.bool Bool.false, Value.int 181 0, Value.ref 91, Value.none, Value.none, Value.none, Value.none, Value.int 296 0, Value.int 30 0, Value.str (Str.ofString "/claim/cut.py") 297]) #[]
noncomputable def ho135 (P : Params) : Obj := Obj.mk (Value.type "frame") none Data.plain #[some (Value.ref 92), some (Value.ref 3), some (Value.ref 89), none, some (Value.str (Str.ofString "minismt.proof") 269), none, some (Value.ref 0)]
noncomputable def ho136 (P : Params) : Obj := Obj.mk (Value.type "tuple") none (Data.seq #[] 0) #[]
noncomputable def ho137 (P : Params) : Obj := Obj.mk Value.none none (Data.fields #[]) #[]
noncomputable def ho138 (P : Params) : Obj := Obj.mk (Value.type "tuple") none (Data.seq #[Value.str (Str.ofString "self") 306] 0) #[]
noncomputable def ho139 (P : Params) : Obj := Obj.mk (Value.type "tuple") none (Data.seq #[] 0) #[]
noncomputable def ho140 (P : Params) : Obj := Obj.mk Value.none none (Data.func (FuncData.mk (Str.ofString "__init__") (Str.ofString "Steps.__init__") (fnP (inC (stA 7) 0)) (fnB (inC (stA 7) 0)) (fnS (inC (stA 7) 0)) 0 [] Value.none Value.none Value.none Value.none none Value.none Value.none 0)) #[]
noncomputable def ho141 (P : Params) : Obj := Obj.mk (Value.type "code") none (Data.fields #[Value.str (Str.ofString "__init__") 303, Value.str (Str.ofString "Steps.__init__") 304, Value.str (Str.ofString "/claim/cut.py") 305, Value.int 32 0, Value.int 1 0, Value.int 0 0, Value.int 0 0, Value.int 3 0, Value.ref 94, Value.bool Bool.true, Value.int 181 0, Value.ref 95, Value.none, Value.ref 96, Value.ref 97, Value.ref 98, Value.int 307 0, Value.int 32 0, Value.str (Str.ofString "/claim/cut.py") 308]) #[]
noncomputable def ho142 (P : Params) : Obj := Obj.mk (Value.type "function") none (Data.func (FuncData.mk (Str.ofString "__init__") (Str.ofString "Steps.__init__") (fnP (inC (stA 7) 0)) (fnB (inC (stA 7) 0)) (fnS (inC (stA 7) 0)) 3 [] Value.none Value.none Value.none (Value.str (Str.ofString "minismt.proof") 269) none (Value.ref 99) Value.none 0)) #[]
noncomputable def ho143 (P : Params) : Obj := Obj.mk (Value.type "tuple") none (Data.seq #[] 0) #[]
noncomputable def ho144 (P : Params) : Obj := Obj.mk Value.none none (Data.fields #[]) #[]
noncomputable def ho145 (P : Params) : Obj := Obj.mk (Value.type "tuple") none (Data.seq #[Value.str (Str.ofString "self") 313, Value.str (Str.ofString "var") 314, Value.str (Str.ofString "term") 315] 0) #[]
noncomputable def ho146 (P : Params) : Obj := Obj.mk (Value.type "tuple") none (Data.seq #[] 0) #[]
noncomputable def ho147 (P : Params) : Obj := Obj.mk Value.none none (Data.func (FuncData.mk (Str.ofString "name") (Str.ofString "Steps.name") (fnP (inC (stA 7) 1)) (fnB (inC (stA 7) 1)) (fnS (inC (stA 7) 1)) 0 [] Value.none Value.none Value.none Value.none none Value.none Value.none 0)) #[]
noncomputable def ho148 (P : Params) : Obj := Obj.mk (Value.type "code") none (Data.fields #[Value.str (Str.ofString "name") 310, Value.str (Str.ofString "Steps.name") 311, Value.str (Str.ofString "/claim/cut.py") 312, Value.int 37 0, Value.int 3 0, Value.int 0 0, Value.int 0 0, Value.int 3 0, Value.ref 101, Value.bool Bool.true, Value.int 181 0, Value.ref 102, Value.none, Value.ref 103, Value.ref 104, Value.ref 105, Value.int 316 0, Value.int 37 0, Value.str (Str.ofString "/claim/cut.py") 317]) #[]
noncomputable def ho149 (P : Params) : Obj := Obj.mk (Value.type "function") none (Data.func (FuncData.mk (Str.ofString "name") (Str.ofString "Steps.name") (fnP (inC (stA 7) 1)) (fnB (inC (stA 7) 1)) (fnS (inC (stA 7) 1)) 3 [] Value.none Value.none Value.none (Value.str (Str.ofString "minismt.proof") 269) none (Value.ref 106) Value.none 0)) #[]
noncomputable def ho150 (P : Params) : Obj := Obj.mk (Value.type "tuple") none (Data.seq #[] 0) #[]
noncomputable def ho151 (P : Params) : Obj := Obj.mk Value.none none (Data.fields #[]) #[]
noncomputable def ho152 (P : Params) : Obj := Obj.mk (Value.type "tuple") none (Data.seq #[Value.str (Str.ofString "self") 322, Value.str (Str.ofString "var") 323] 0) #[]
noncomputable def ho153 (P : Params) : Obj := Obj.mk (Value.type "tuple") none (Data.seq #[] 0) #[]
noncomputable def ho154 (P : Params) : Obj := Obj.mk Value.none none (Data.func (FuncData.mk (Str.ofString "names") (Str.ofString "Steps.names") (fnP (inC (stA 7) 2)) (fnB (inC (stA 7) 2)) (fnS (inC (stA 7) 2)) 0 [] Value.none Value.none Value.none Value.none none Value.none Value.none 0)) #[]
noncomputable def ho155 (P : Params) : Obj := Obj.mk (Value.type "code") none (Data.fields #[Value.str (Str.ofString "names") 319, Value.str (Str.ofString "Steps.names") 320, Value.str (Str.ofString "/claim/cut.py") 321, Value.int 42 0, Value.int 2 0, Value.int 0 0, Value.int 0 0, Value.int 3 0, Value.ref 108, Value.bool Bool.true, Value.int 181 0, Value.ref 109, Value.none, Value.ref 110, Value.ref 111, Value.ref 112, Value.int 324 0, Value.int 42 0, Value.str (Str.ofString "/claim/cut.py") 325]) #[]
noncomputable def ho156 (P : Params) : Obj := Obj.mk (Value.type "function") none (Data.func (FuncData.mk (Str.ofString "names") (Str.ofString "Steps.names") (fnP (inC (stA 7) 2)) (fnB (inC (stA 7) 2)) (fnS (inC (stA 7) 2)) 3 [] Value.none Value.none Value.none (Value.str (Str.ofString "minismt.proof") 269) none (Value.ref 113) Value.none 0)) #[]
noncomputable def ho157 (P : Params) : Obj := Obj.mk (Value.type "tuple") none (Data.seq #[] 0) #[]
noncomputable def ho158 (P : Params) : Obj := Obj.mk Value.none none (Data.fields #[]) #[]
noncomputable def ho159 (P : Params) : Obj := Obj.mk (Value.type "tuple") none (Data.seq #[Value.str (Str.ofString "self") 330] 0) #[]
noncomputable def ho160 (P : Params) : Obj := Obj.mk (Value.type "tuple") none (Data.seq #[] 0) #[]
noncomputable def ho161 (P : Params) : Obj := Obj.mk Value.none none (Data.func (FuncData.mk (Str.ofString "var_count") (Str.ofString "Steps.var_count") (fnP (inC (stA 7) 3)) (fnB (inC (stA 7) 3)) (fnS (inC (stA 7) 3)) 0 [] Value.none Value.none Value.none Value.none none Value.none Value.none 0)) #[]
noncomputable def ho162 (P : Params) : Obj := Obj.mk (Value.type "code") none (Data.fields #[Value.str (Str.ofString "var_count") 327, Value.str (Str.ofString "Steps.var_count") 328, Value.str (Str.ofString "/claim/cut.py") 329, Value.int 47 0, Value.int 1 0, Value.int 0 0, Value.int 0 0, Value.int 3 0, Value.ref 115, Value.bool Bool.true, Value.int 181 0, Value.ref 116, Value.none, Value.ref 117, Value.ref 118, Value.ref 119, Value.int 331 0, Value.int 47 0, Value.str (Str.ofString "/claim/cut.py") 332]) #[]
noncomputable def ho163 (P : Params) : Obj := Obj.mk (Value.type "function") none (Data.func (FuncData.mk (Str.ofString "var_count") (Str.ofString "Steps.var_count") (fnP (inC (stA 7) 3)) (fnB (inC (stA 7) 3)) (fnS (inC (stA 7) 3)) 3 [] Value.none Value.none Value.none (Value.str (Str.ofString "minismt.proof") 269) none (Value.ref 120) Value.none 0)) #[]
noncomputable def ho164 (P : Params) : Obj := Obj.mk (Value.type "tuple") none (Data.seq #[] 0) #[]
noncomputable def ho165 (P : Params) : Obj := Obj.mk Value.none none (Data.fields #[]) #[]
noncomputable def ho166 (P : Params) : Obj := Obj.mk (Value.type "tuple") none (Data.seq #[Value.str (Str.ofString "self") 337] 0) #[]
noncomputable def ho167 (P : Params) : Obj := Obj.mk (Value.type "tuple") none (Data.seq #[] 0) #[]
noncomputable def ho168 (P : Params) : Obj := Obj.mk Value.none none (Data.func (FuncData.mk (Str.ofString "size") (Str.ofString "Steps.size") (fnP (inC (stA 7) 4)) (fnB (inC (stA 7) 4)) (fnS (inC (stA 7) 4)) 0 [] Value.none Value.none Value.none Value.none none Value.none Value.none 0)) #[]
noncomputable def ho169 (P : Params) : Obj := Obj.mk (Value.type "code") none (Data.fields #[Value.str (Str.ofString "size") 334, Value.str (Str.ofString "Steps.size") 335, Value.str (Str.ofString "/claim/cut.py") 336, Value.int 50 0, Value.int 1 0, Value.int 0 0, Value.int 0 0, Value.int 3 0, Value.ref 122, Value.bool Bool.true, Value.int 181 0, Value.ref 123, Value.none, Value.ref 124, Value.ref 125, Value.ref 126, Value.int 338 0, Value.int 50 0, Value.str (Str.ofString "/claim/cut.py") 339]) #[]
noncomputable def ho170 (P : Params) : Obj := Obj.mk (Value.type "function") none (Data.func (FuncData.mk (Str.ofString "size") (Str.ofString "Steps.size") (fnP (inC (stA 7) 4)) (fnB (inC (stA 7) 4)) (fnS (inC (stA 7) 4)) 3 [] Value.none Value.none Value.none (Value.str (Str.ofString "minismt.proof") 269) none (Value.ref 127) Value.none 0)) #[]
noncomputable def ho171 (P : Params) : Obj := Obj.mk (Value.type "tuple") none (Data.seq #[] 0) #[]
noncomputable def ho172 (P : Params) : Obj := Obj.mk Value.none none (Data.fields #[]) #[]
noncomputable def ho173 (P : Params) : Obj := Obj.mk (Value.type "tuple") none (Data.seq #[Value.str (Str.ofString "self") 344, Value.str (Str.ofString "step") 345] 0) #[]
noncomputable def ho174 (P : Params) : Obj := Obj.mk (Value.type "tuple") none (Data.seq #[] 0) #[]
noncomputable def ho175 (P : Params) : Obj := Obj.mk Value.none none (Data.func (FuncData.mk (Str.ofString "clause") (Str.ofString "Steps.clause") (fnP (inC (stA 7) 5)) (fnB (inC (stA 7) 5)) (fnS (inC (stA 7) 5)) 0 [] Value.none Value.none Value.none Value.none none Value.none Value.none 0)) #[]
noncomputable def ho176 (P : Params) : Obj := Obj.mk (Value.type "code") none (Data.fields #[Value.str (Str.ofString "clause") 341, Value.str (Str.ofString "Steps.clause") 342, Value.str (Str.ofString "/claim/cut.py") 343, Value.int 53 0, Value.int 2 0, Value.int 0 0, Value.int 0 0, Value.int 3 0, Value.ref 129, Value.bool Bool.true, Value.int 181 0, Value.ref 130, Value.none, Value.ref 131, Value.ref 132, Value.ref 133, Value.int 346 0, Value.int 53 0, Value.str (Str.ofString "/claim/cut.py") 347]) #[]
noncomputable def ho177 (P : Params) : Obj := Obj.mk (Value.type "function") none (Data.func (FuncData.mk (Str.ofString "clause") (Str.ofString "Steps.clause") (fnP (inC (stA 7) 5)) (fnB (inC (stA 7) 5)) (fnS (inC (stA 7) 5)) 3 [] Value.none Value.none Value.none (Value.str (Str.ofString "minismt.proof") 269) none (Value.ref 134) Value.none 0)) #[]
noncomputable def ho178 (P : Params) : Obj := Obj.mk (Value.type "tuple") none (Data.seq #[] 0) #[]
noncomputable def ho179 (P : Params) : Obj := Obj.mk Value.none none (Data.fields #[]) #[]
noncomputable def ho180 (P : Params) : Obj := Obj.mk (Value.type "tuple") none (Data.seq #[Value.str (Str.ofString "self") 352, Value.str (Str.ofString "step") 353] 0) #[]
noncomputable def ho181 (P : Params) : Obj := Obj.mk (Value.type "tuple") none (Data.seq #[] 0) #[]
noncomputable def ho182 (P : Params) : Obj := Obj.mk Value.none none (Data.func (FuncData.mk (Str.ofString "rule") (Str.ofString "Steps.rule") (fnP (inC (stA 7) 6)) (fnB (inC (stA 7) 6)) (fnS (inC (stA 7) 6)) 0 [] Value.none Value.none Value.none Value.none none Value.none Value.none 0)) #[]
noncomputable def ho183 (P : Params) : Obj := Obj.mk (Value.type "code") none (Data.fields #[Value.str (Str.ofString "rule") 349, Value.str (Str.ofString "Steps.rule") 350, Value.str (Str.ofString "/claim/cut.py") 351, Value.int 56 0, Value.int 2 0, Value.int 0 0, Value.int 0 0, Value.int 3 0, Value.ref 136, Value.bool Bool.true, Value.int 181 0, Value.ref 137, Value.none, Value.ref 138, Value.ref 139, Value.ref 140, Value.int 354 0, Value.int 56 0, Value.str (Str.ofString "/claim/cut.py") 355]) #[]
noncomputable def ho184 (P : Params) : Obj := Obj.mk (Value.type "function") none (Data.func (FuncData.mk (Str.ofString "rule") (Str.ofString "Steps.rule") (fnP (inC (stA 7) 6)) (fnB (inC (stA 7) 6)) (fnS (inC (stA 7) 6)) 3 [] Value.none Value.none Value.none (Value.str (Str.ofString "minismt.proof") 269) none (Value.ref 141) Value.none 0)) #[]
noncomputable def ho185 (P : Params) : Obj := Obj.mk (Value.type "tuple") none (Data.seq #[] 0) #[]
noncomputable def ho186 (P : Params) : Obj := Obj.mk Value.none none (Data.fields #[]) #[]
noncomputable def ho187 (P : Params) : Obj := Obj.mk (Value.type "tuple") none (Data.seq #[Value.str (Str.ofString "self") 360, Value.str (Str.ofString "rule") 361, Value.str (Str.ofString "clause") 362, Value.str (Str.ofString "premises") 363, Value.str (Str.ofString "note") 364, Value.str (Str.ofString "number") 365, Value.str (Str.ofString "one") 366] 0) #[]
noncomputable def ho188 (P : Params) : Obj := Obj.mk (Value.type "tuple") none (Data.seq #[] 0) #[]
noncomputable def ho189 (P : Params) : Obj := Obj.mk Value.none none (Data.func (FuncData.mk (Str.ofString "add") (Str.ofString "Steps.add") (fnP (inC (stA 7) 7)) (fnB (inC (stA 7) 7)) (fnS (inC (stA 7) 7)) 0 [] Value.none Value.none Value.none Value.none none Value.none Value.none 0)) #[]
noncomputable def ho190 (P : Params) : Obj := Obj.mk (Value.type "code") none (Data.fields #[Value.str (Str.ofString "add") 357, Value.str (Str.ofString "Steps.add") 358, Value.str (Str.ofString "/claim/cut.py") 359, Value.int 59 0, Value.int 5 0, Value.int 0 0, Value.int 0 0, Value.int 3 0, Value.ref 143, Value.bool Bool.true, Value.int 181 0, Value.ref 144, Value.none, Value.ref 145, Value.ref 146, Value.ref 147, Value.int 367 0, Value.int 59 0, Value.str (Str.ofString "/claim/cut.py") 368]) #[]
noncomputable def ho191 (P : Params) : Obj := Obj.mk (Value.type "function") none (Data.func (FuncData.mk (Str.ofString "add") (Str.ofString "Steps.add") (fnP (inC (stA 7) 7)) (fnB (inC (stA 7) 7)) (fnS (inC (stA 7) 7)) 3 [] Value.none Value.none Value.none (Value.str (Str.ofString "minismt.proof") 269) none (Value.ref 148) Value.none 0)) #[]
noncomputable def ho192 (P : Params) : Obj := Obj.mk (Value.type "tuple") none (Data.seq #[] 0) #[]
noncomputable def ho193 (P : Params) : Obj := Obj.mk Value.none none (Data.fields #[]) #[]
noncomputable def ho194 (P : Params) : Obj := Obj.mk (Value.type "tuple") none (Data.seq #[Value.str (Str.ofString "self") 373, Value.str (Str.ofString "first") 374, Value.str (Str.ofString "pairs") 375] 0) #[]
noncomputable def ho195 (P : Params) : Obj := Obj.mk (Value.type "tuple") none (Data.seq #[] 0) #[]
noncomputable def ho196 (P : Params) : Obj := Obj.mk Value.none none (Data.func (FuncData.mk (Str.ofString "chain") (Str.ofString "Steps.chain") (fnP (inC (stA 7) 8)) (fnB (inC (stA 7) 8)) (fnS (inC (stA 7) 8)) 0 [] Value.none Value.none Value.none Value.none none Value.none Value.none 0)) #[]
noncomputable def ho197 (P : Params) : Obj := Obj.mk (Value.type "code") none (Data.fields #[Value.str (Str.ofString "chain") 370, Value.str (Str.ofString "Steps.chain") 371, Value.str (Str.ofString "/claim/cut.py") 372, Value.int 73 0, Value.int 3 0, Value.int 0 0, Value.int 0 0, Value.int 3 0, Value.ref 150, Value.bool Bool.true, Value.int 181 0, Value.ref 151, Value.none, Value.ref 152, Value.ref 153, Value.ref 154, Value.int 376 0, Value.int 73 0, Value.str (Str.ofString "/claim/cut.py") 377]) #[]
noncomputable def ho198 (P : Params) : Obj := Obj.mk (Value.type "function") none (Data.func (FuncData.mk (Str.ofString "chain") (Str.ofString "Steps.chain") (fnP (inC (stA 7) 8)) (fnB (inC (stA 7) 8)) (fnS (inC (stA 7) 8)) 3 [] Value.none Value.none Value.none (Value.str (Str.ofString "minismt.proof") 269) none (Value.ref 155) Value.none 0)) #[]
noncomputable def ho199 (P : Params) : Obj := Obj.mk (Value.type "tuple") none (Data.seq #[Value.str (Str.ofString "empty") 379, Value.str (Str.ofString "named") 380, Value.str (Str.ofString "steps") 381] 0) #[]
noncomputable def ho200 (P : Params) : Obj := Obj.mk (Value.type "dict") none (Data.dict #[DictEntry.mk (PyData.keyHash P (Str.ofString "__module__")) (Value.str (Str.ofString "__module__") 298) (Value.str (Str.ofString "minismt.proof") 269), DictEntry.mk (PyData.keyHash P (Str.ofString "__firstlineno__")) (Value.str (Str.ofString "__firstlineno__") 302) (Value.int 30 301), DictEntry.mk (PyData.keyHash P (Str.ofString "__init__")) (Value.str (Str.ofString "__init__") 309) (Value.ref 100), DictEntry.mk (PyData.keyHash P (Str.ofString "name")) (Value.str (Str.ofString "name") 318) (Value.ref 107), DictEntry.mk (PyData.keyHash P (Str.ofString "names")) (Value.str (Str.ofString "names") 326) (Value.ref 114), DictEntry.mk (PyData.keyHash P (Str.ofString "var_count")) (Value.str (Str.ofString "var_count") 333) (Value.ref 121), DictEntry.mk (PyData.keyHash P (Str.ofString "size")) (Value.str (Str.ofString "size") 340) (Value.ref 128), DictEntry.mk (PyData.keyHash P (Str.ofString "clause")) (Value.str (Str.ofString "clause") 348) (Value.ref 135), DictEntry.mk (PyData.keyHash P (Str.ofString "rule")) (Value.str (Str.ofString "rule") 356) (Value.ref 142), DictEntry.mk (PyData.keyHash P (Str.ofString "add")) (Value.str (Str.ofString "add") 369) (Value.ref 149), DictEntry.mk (PyData.keyHash P (Str.ofString "chain")) (Value.str (Str.ofString "chain") 378) (Value.ref 156), DictEntry.mk (PyData.keyHash P (Str.ofString "__static_attributes__")) (Value.str (Str.ofString "__static_attributes__") 382) (Value.ref 157), DictEntry.mk (PyData.keyHash P (Str.ofString "__dict__")) (Value.str (Str.ofString "__dict__") 384) (Value.ref 160), DictEntry.mk (PyData.keyHash P (Str.ofString "__weakref__")) (Value.str (Str.ofString "__weakref__") 386) (Value.ref 161), DictEntry.mk (PyData.keyHash P (Str.ofString "__doc__")) (Value.str (Str.ofString "__doc__") 387) Value.none] 4) #[]
noncomputable def ho201 (P : Params) : Obj := Obj.mk (Value.type "type") none (Data.cls (ClassData.mk (Str.ofString "Steps") [Value.type "object"] [Value.ref 159, Value.type "object"] 158 (Str.ofString "Steps") Bool.true [] [] Bool.false none Bool.false)) #[none, none, some (Value.str (Str.ofString "Steps") 291), some (Value.str (Str.ofString "Steps") 299), some (Value.builtin "object.__new__"), some (Value.bool Bool.true)]
noncomputable def ho202 (P : Params) : Obj := Obj.mk (Value.type "getset_descriptor") none (Data.fields #[Value.str (Str.ofString "__dict__") 383, Value.ref 159, Value.builtin "function.__dict__", Value.builtin "function.__dict__#set"]) #[]
noncomputable def ho203 (P : Params) : Obj := Obj.mk (Value.type "getset_descriptor") none (Data.fields #[Value.str (Str.ofString "__weakref__") 385, Value.ref 159, Value.builtin "ExceptionGroup.__weakref__", Value.none]) #[]
noncomputable def ho204 (P : Params) : Obj := Obj.mk (Value.type "super") none (Data.fields #[Value.ref 159, Value.ref 159, Value.ref 159]) #[]
noncomputable def ho205 (P : Params) : Obj := Obj.mk (Value.type "builtin_function_or_method") none (Data.fields #[Value.builtin "object.__init_subclass__", Value.ref 159]) #[]
noncomputable def ho206 (P : Params) : Obj := Obj.mk (Value.type "dict") none (Data.dict #[DictEntry.mk (PyData.keyHash P (Str.ofString "__name__")) (Value.str (Str.ofString "__name__") 165) (Value.str (Str.ofString "minismt.proof") 269), DictEntry.mk (PyData.keyHash P (Str.ofString "__doc__")) (Value.str (Str.ofString "__doc__") 166) Value.none, DictEntry.mk (PyData.keyHash P (Str.ofString "__package__")) (Value.str (Str.ofString "__package__") 167) Value.none, DictEntry.mk (PyData.keyHash P (Str.ofString "__loader__")) (Value.str (Str.ofString "__loader__") 168) (Value.builtin "__main__.__loader__#opaque"), DictEntry.mk (PyData.keyHash P (Str.ofString "__spec__")) (Value.str (Str.ofString "__spec__") 169) Value.none, DictEntry.mk (PyData.keyHash P (Str.ofString "__annotations__")) (Value.str (Str.ofString "__annotations__") 170) (Value.ref 6), DictEntry.mk (PyData.keyHash P (Str.ofString "__builtins__")) (Value.str (Str.ofString "__builtins__") 171) (Value.ref 4), DictEntry.mk (PyData.keyHash P (Str.ofString "__file__")) (Value.str (Str.ofString "__file__") 173) (Value.str (Str.ofString "/claim/cut.py") 172), DictEntry.mk (PyData.keyHash P (Str.ofString "__cached__")) (Value.str (Str.ofString "__cached__") 174) Value.none, DictEntry.mk (PyData.keyHash P (Str.ofString "_wall")) (Value.str (Str.ofString "_wall") 193) (Value.ref 21), DictEntry.mk (PyData.keyHash P (Str.ofString "SmtError")) (Value.str (Str.ofString "SmtError") 233) (Value.ref 47), DictEntry.mk (PyData.keyHash P (Str.ofString "ProofFault")) (Value.str (Str.ofString "ProofFault") 268) (Value.ref 76), DictEntry.mk (PyData.keyHash P (Str.ofString "RULES")) (Value.str (Str.ofString "RULES") 282) (Value.ref 79), DictEntry.mk (PyData.keyHash P (Str.ofString "is_tidy")) (Value.str (Str.ofString "is_tidy") 290) (Value.ref 86), DictEntry.mk (PyData.keyHash P (Str.ofString "Steps")) (Value.str (Str.ofString "Steps") 389) (Value.ref 159), DictEntry.mk (PyData.keyHash P (Str.ofString "Proof")) (Value.str (Str.ofString "Proof") 450) (Value.ref 211)] 16) #[]
noncomputable def ho207 (P : Params) : Obj := Obj.mk Value.none none (Data.fields #[Value.int 1 0, Value.int 0 0, Value.ref 20, Value.int 5 0, Value.int 0 0, Value.ref 28, Value.int 13 0, Value.int 0 0, Value.ref 57, Value.int 23 0, Value.int 0 0, Value.ref 85, Value.int 30 0, Value.int 0 0, Value.ref 92, Value.int 75 0, Value.int 0 0, Value.ref 169]) #[]
noncomputable def ho208 (P : Params) : Obj := Obj.mk (Value.type "type") none (Data.cls (ClassData.mk (Str.ofString "Steps") [Value.type "object"] [Value.ref 159, Value.type "object"] 158 (Str.ofString "Steps") Bool.true [] [Value.ref 211] Bool.false none Bool.false)) #[none, none, some (Value.str (Str.ofString "Steps") 291), some (Value.str (Str.ofString "Steps") 299), some (Value.builtin "object.__new__"), some (Value.bool Bool.true)]
noncomputable def ho209 (P : Params) : Obj := Obj.mk (Value.type "tuple") none (Data.seq #[Value.ref 159] 0) #[]
noncomputable def ho210 (P : Params) : Obj := Obj.mk (Value.type "builtin_function_or_method") none (Data.fields #[Value.builtin "type.__prepare__", Value.type "type"]) #[]
noncomputable def ho211 (P : Params) : Obj := Obj.mk (Value.type "dict") none (Data.dict #[DictEntry.mk (PyData.keyHash P (Str.ofString "__module__")) (Value.str (Str.ofString "__module__") 397) (Value.str (Str.ofString "minismt.proof") 269), DictEntry.mk (PyData.keyHash P (Str.ofString "__qualname__")) (Value.str (Str.ofString "__qualname__") 399) (Value.str (Str.ofString "Proof") 398), DictEntry.mk (PyData.keyHash P (Str.ofString "__firstlineno__")) (Value.str (Str.ofString "__firstlineno__") 401) (Value.int 75 400), DictEntry.mk (PyData.keyHash P (Str.ofString "needed")) (Value.str (Str.ofString "needed") 412) (Value.ref 177), DictEntry.mk (PyData.keyHash P (Str.ofString "trimmed")) (Value.str (Str.ofString "trimmed") 418) (Value.ref 182), DictEntry.mk (PyData.keyHash P (Str.ofString "trim")) (Value.str (Str.ofString "trim") 425) (Value.ref 189), DictEntry.mk (PyData.keyHash P (Str.ofString "used_inputs")) (Value.str (Str.ofString "used_inputs") 433) (Value.ref 196), DictEntry.mk (PyData.keyHash P (Str.ofString "counts")) (Value.str (Str.ofString "counts") 440) (Value.ref 203), DictEntry.mk (PyData.keyHash P (Str.ofString "depth")) (Value.str (Str.ofString "depth") 446) (Value.ref 208), DictEntry.mk (PyData.keyHash P (Str.ofString "__static_attributes__")) (Value.str (Str.ofString "__static_attributes__") 447) (Value.ref 209)] 10) #[]
noncomputable def ho212 (P : Params) : Obj := Obj.mk (Value.type "tuple") none (Data.seq #[] 0) #[]
noncomputable def ho213 (P : Params) : Obj := Obj.mk Value.none none (Data.fields #[Value.int 77 0, Value.int 4 0, Value.ref 176, Value.int 85 0, Value.int 4 0, Value.ref 181, Value.int 94 0, Value.int 4 0, Value.ref 188, Value.int 97 0, Value.int 4 0, Value.ref 195, Value.int 100 0, Value.int 4 0, Value.ref 202, Value.int 103 0, Value.int 4 0, Value.ref 207]) #[]
noncomputable def ho214 (P : Params) : Obj := Obj.mk (Value.type "code") none (Data.fields #[Value.str (Str.ofString "Proof") 392, Value.str (Str.ofString "Proof") 393, Value.str (Str.ofString "/claim/cut.py") 394, Value.int 75 0, Value.int 0 0, Value.int 0 0, Value.int 0 0, Value.int 0 0, Value.ref 167, Value.bool Bool.false, Value.int 181 0, Value.ref 168, Value.none, Value.none, Value.none, Value.none, Value.int 395 0, Value.int 75 0, Value.str (Str.ofString "/claim/cut.py") 396]) #[]
noncomputable def ho215 (P : Params) : Obj := Obj.mk (Value.type "frame") none Data.plain #[some (Value.ref 169), some (Value.ref 3), some (Value.ref 166), none, some (Value.str (Str.ofString "minismt.proof") 269), none, some (Value.ref 0)]
noncomputable def ho216 (P : Params) : Obj := Obj.mk (Value.type "tuple") none (Data.seq #[] 0) #[]
noncomputable def ho217 (P : Params) : Obj := Obj.mk Value.none none (Data.fields #[]) #[]
noncomputable def ho218 (P : Params) : Obj := Obj.mk (Value.type "tuple") none (Data.seq #[Value.str (Str.ofString "self") 405, Value.str (Str.ofString "last") 406, Value.str (Str.ofString "wanted") 407, Value.str (Str.ofString "number") 408, Value.str (Str.ofString "one") 409] 0) #[]
noncomputable def ho219 (P : Params) : Obj := Obj.mk (Value.type "tuple") none (Data.seq #[] 0) #[]
noncomputable def ho220 (P : Params) : Obj := Obj.mk Value.none none (Data.func (FuncData.mk (Str.ofString "needed") (Str.ofString "Proof.needed") (fnP (inC (stA 8) 0)) (fnB (inC (stA 8) 0)) (fnS (inC (stA 8) 0)) 0 [] Value.none Value.none Value.none Value.none none Value.none Value.none 0)) #[]
noncomputable def ho221 (P : Params) : Obj := Obj.mk (Value.type "code") none (Data.fields #[Value.str (Str.ofString "needed") 402, Value.str (Str.ofString "Proof.needed") 403, Value.str (Str.ofString "/claim/cut.py") 404, Value.int 77 0, Value.int 2 0, Value.int 0 0, Value.int 0 0, Value.int 3 0, Value.ref 171, Value.bool Bool.true, Value.int 181 0, Value.ref 172, Value.none, Value.ref 173, Value.ref 174, Value.ref 175, Value.int 410 0, Value.int 77 0, Value.str (Str.ofString "/claim/cut.py") 411]) #[]
noncomputable def ho222 (P : Params) : Obj := Obj.mk (Value.type "function") none (Data.func (FuncData.mk (Str.ofString "needed") (Str.ofString "Proof.needed") (fnP (inC (stA 8) 0)) (fnB (inC (stA 8) 0)) (fnS (inC (stA 8) 0)) 3 [] Value.none Value.none Value.none (Value.str (Str.ofString "minismt.proof") 269) none (Value.ref 176) Value.none 0)) #[]
noncomputable def ho223 (P : Params) : Obj := Obj.mk (Value.type "tuple") none (Data.seq #[] 0) #[]
noncomputable def ho224 (P : Params) : Obj := Obj.mk Value.none none (Data.fields #[]) #[]
noncomputable def ho225 (P : Params) : Obj := Obj.mk Value.none none (Data.func (FuncData.mk (Str.ofString "trimmed") (Str.ofString "Proof.trimmed") (fnP (inC (stA 8) 1)) (fnB (inC (stA 8) 1)) (fnS (inC (stA 8) 1)) 0 [] Value.none Value.none Value.none Value.none none Value.none Value.none 0)) #[]
noncomputable def ho226 (P : Params) : Obj := Obj.mk (Value.type "code") none (Data.fields #[Value.str (Str.ofString "trimmed") 413, Value.str (Str.ofString "Proof.trimmed") 414, Value.str (Str.ofString "/claim/cut.py") 415, Value.int 85 0, Value.int 2 0, Value.int 0 0, Value.int 0 0, Value.int 3 0, Value.ref 178, Value.bool Bool.true, Value.int 181 0, Value.ref 179, Value.none, Value.none, Value.none, Value.ref 180, Value.int 416 0, Value.int 85 0, Value.str (Str.ofString "/claim/cut.py") 417]) #[]
noncomputable def ho227 (P : Params) : Obj := Obj.mk (Value.type "function") none (Data.func (FuncData.mk (Str.ofString "trimmed") (Str.ofString "Proof.trimmed") (fnP (inC (stA 8) 1)) (fnB (inC (stA 8) 1)) (fnS (inC (stA 8) 1)) 3 [] Value.none Value.none Value.none (Value.str (Str.ofString "minismt.proof") 269) none (Value.ref 181) Value.none 0)) #[]
noncomputable def ho228 (P : Params) : Obj := Obj.mk (Value.type "tuple") none (Data.seq #[] 0) #[]
noncomputable def ho229 (P : Params) : Obj := Obj.mk Value.none none (Data.fields #[]) #[]
noncomputable def ho230 (P : Params) : Obj := Obj.mk (Value.type "tuple") none (Data.seq #[Value.str (Str.ofString "self") 422] 0) #[]
noncomputable def ho231 (P : Params) : Obj := Obj.mk (Value.type "tuple") none (Data.seq #[] 0) #[]
noncomputable def ho232 (P : Params) : Obj := Obj.mk Value.none none (Data.func (FuncData.mk (Str.ofString "trim") (Str.ofString "Proof.trim") (fnP (inC (stA 8) 2)) (fnB (inC (stA 8) 2)) (fnS (inC (stA 8) 2)) 0 [] Value.none Value.none Value.none Value.none none Value.none Value.none 0)) #[]
noncomputable def ho233 (P : Params) : Obj := Obj.mk (Value.type "code") none (Data.fields #[Value.str (Str.ofString "trim") 419, Value.str (Str.ofString "Proof.trim") 420, Value.str (Str.ofString "/claim/cut.py") 421, Value.int 94 0, Value.int 1 0, Value.int 0 0, Value.int 0 0, Value.int 3 0, Value.ref 183, Value.bool Bool.true, Value.int 181 0, Value.ref 184, Value.none, Value.ref 185, Value.ref 186, Value.ref 187, Value.int 423 0, Value.int 94 0, Value.str (Str.ofString "/claim/cut.py") 424]) #[]
noncomputable def ho234 (P : Params) : Obj := Obj.mk (Value.type "function") none (Data.func (FuncData.mk (Str.ofString "trim") (Str.ofString "Proof.trim") (fnP (inC (stA 8) 2)) (fnB (inC (stA 8) 2)) (fnS (inC (stA 8) 2)) 3 [] Value.none Value.none Value.none (Value.str (Str.ofString "minismt.proof") 269) none (Value.ref 188) Value.none 0)) #[]
noncomputable def ho235 (P : Params) : Obj := Obj.mk (Value.type "tuple") none (Data.seq #[] 0) #[]
noncomputable def ho236 (P : Params) : Obj := Obj.mk Value.none none (Data.fields #[]) #[]
noncomputable def ho237 (P : Params) : Obj := Obj.mk (Value.type "tuple") none (Data.seq #[Value.str (Str.ofString "self") 429, Value.str (Str.ofString "last") 430] 0) #[]
noncomputable def ho238 (P : Params) : Obj := Obj.mk (Value.type "tuple") none (Data.seq #[] 0) #[]
noncomputable def ho239 (P : Params) : Obj := Obj.mk Value.none none (Data.func (FuncData.mk (Str.ofString "used_inputs") (Str.ofString "Proof.used_inputs") (fnP (inC (stA 8) 3)) (fnB (inC (stA 8) 3)) (fnS (inC (stA 8) 3)) 0 [] Value.none Value.none Value.none Value.none none Value.none Value.none 0)) #[]
noncomputable def ho240 (P : Params) : Obj := Obj.mk (Value.type "code") none (Data.fields #[Value.str (Str.ofString "used_inputs") 426, Value.str (Str.ofString "Proof.used_inputs") 427, Value.str (Str.ofString "/claim/cut.py") 428, Value.int 97 0, Value.int 2 0, Value.int 0 0, Value.int 0 0, Value.int 3 0, Value.ref 190, Value.bool Bool.true, Value.int 181 0, Value.ref 191, Value.none, Value.ref 192, Value.ref 193, Value.ref 194, Value.int 431 0, Value.int 97 0, Value.str (Str.ofString "/claim/cut.py") 432]) #[]
noncomputable def ho241 (P : Params) : Obj := Obj.mk (Value.type "function") none (Data.func (FuncData.mk (Str.ofString "used_inputs") (Str.ofString "Proof.used_inputs") (fnP (inC (stA 8) 3)) (fnB (inC (stA 8) 3)) (fnS (inC (stA 8) 3)) 3 [] Value.none Value.none Value.none (Value.str (Str.ofString "minismt.proof") 269) none (Value.ref 195) Value.none 0)) #[]
noncomputable def ho242 (P : Params) : Obj := Obj.mk (Value.type "tuple") none (Data.seq #[] 0) #[]
noncomputable def ho243 (P : Params) : Obj := Obj.mk Value.none none (Data.fields #[]) #[]
noncomputable def ho244 (P : Params) : Obj := Obj.mk (Value.type "tuple") none (Data.seq #[Value.str (Str.ofString "self") 437] 0) #[]
noncomputable def ho245 (P : Params) : Obj := Obj.mk (Value.type "tuple") none (Data.seq #[] 0) #[]
noncomputable def ho246 (P : Params) : Obj := Obj.mk Value.none none (Data.func (FuncData.mk (Str.ofString "counts") (Str.ofString "Proof.counts") (fnP (inC (stA 8) 4)) (fnB (inC (stA 8) 4)) (fnS (inC (stA 8) 4)) 0 [] Value.none Value.none Value.none Value.none none Value.none Value.none 0)) #[]
noncomputable def ho247 (P : Params) : Obj := Obj.mk (Value.type "code") none (Data.fields #[Value.str (Str.ofString "counts") 434, Value.str (Str.ofString "Proof.counts") 435, Value.str (Str.ofString "/claim/cut.py") 436, Value.int 100 0, Value.int 1 0, Value.int 0 0, Value.int 0 0, Value.int 3 0, Value.ref 197, Value.bool Bool.true, Value.int 181 0, Value.ref 198, Value.none, Value.ref 199, Value.ref 200, Value.ref 201, Value.int 438 0, Value.int 100 0, Value.str (Str.ofString "/claim/cut.py") 439]) #[]
noncomputable def ho248 (P : Params) : Obj := Obj.mk (Value.type "function") none (Data.func (FuncData.mk (Str.ofString "counts") (Str.ofString "Proof.counts") (fnP (inC (stA 8) 4)) (fnB (inC (stA 8) 4)) (fnS (inC (stA 8) 4)) 3 [] Value.none Value.none Value.none (Value.str (Str.ofString "minismt.proof") 269) none (Value.ref 202) Value.none 0)) #[]
noncomputable def ho249 (P : Params) : Obj := Obj.mk (Value.type "tuple") none (Data.seq #[] 0) #[]
noncomputable def ho250 (P : Params) : Obj := Obj.mk Value.none none (Data.fields #[]) #[]
noncomputable def ho251 (P : Params) : Obj := Obj.mk Value.none none (Data.func (FuncData.mk (Str.ofString "depth") (Str.ofString "Proof.depth") (fnP (inC (stA 8) 5)) (fnB (inC (stA 8) 5)) (fnS (inC (stA 8) 5)) 0 [] Value.none Value.none Value.none Value.none none Value.none Value.none 0)) #[]
noncomputable def ho252 (P : Params) : Obj := Obj.mk (Value.type "code") none (Data.fields #[Value.str (Str.ofString "depth") 441, Value.str (Str.ofString "Proof.depth") 442, Value.str (Str.ofString "/claim/cut.py") 443, Value.int 103 0, Value.int 2 0, Value.int 0 0, Value.int 0 0, Value.int 3 0, Value.ref 204, Value.bool Bool.true, Value.int 181 0, Value.ref 205, Value.none, Value.none, Value.none, Value.ref 206, Value.int 444 0, Value.int 103 0, Value.str (Str.ofString "/claim/cut.py") 445]) #[]
noncomputable def ho253 (P : Params) : Obj := Obj.mk (Value.type "function") none (Data.func (FuncData.mk (Str.ofString "depth") (Str.ofString "Proof.depth") (fnP (inC (stA 8) 5)) (fnB (inC (stA 8) 5)) (fnS (inC (stA 8) 5)) 3 [] Value.none Value.none Value.none (Value.str (Str.ofString "minismt.proof") 269) none (Value.ref 207) Value.none 0)) #[]
noncomputable def ho254 (P : Params) : Obj := Obj.mk (Value.type "tuple") none (Data.seq #[] 0) #[]
noncomputable def ho255 (P : Params) : Obj := Obj.mk (Value.type "dict") none (Data.dict #[DictEntry.mk (PyData.keyHash P (Str.ofString "__module__")) (Value.str (Str.ofString "__module__") 397) (Value.str (Str.ofString "minismt.proof") 269), DictEntry.mk (PyData.keyHash P (Str.ofString "__firstlineno__")) (Value.str (Str.ofString "__firstlineno__") 401) (Value.int 75 400), DictEntry.mk (PyData.keyHash P (Str.ofString "needed")) (Value.str (Str.ofString "needed") 412) (Value.ref 177), DictEntry.mk (PyData.keyHash P (Str.ofString "trimmed")) (Value.str (Str.ofString "trimmed") 418) (Value.ref 182), DictEntry.mk (PyData.keyHash P (Str.ofString "trim")) (Value.str (Str.ofString "trim") 425) (Value.ref 189), DictEntry.mk (PyData.keyHash P (Str.ofString "used_inputs")) (Value.str (Str.ofString "used_inputs") 433) (Value.ref 196), DictEntry.mk (PyData.keyHash P (Str.ofString "counts")) (Value.str (Str.ofString "counts") 440) (Value.ref 203), DictEntry.mk (PyData.keyHash P (Str.ofString "depth")) (Value.str (Str.ofString "depth") 446) (Value.ref 208), DictEntry.mk (PyData.keyHash P (Str.ofString "__static_attributes__")) (Value.str (Str.ofString "__static_attributes__") 447) (Value.ref 209), DictEntry.mk (PyData.keyHash P (Str.ofString "__doc__")) (Value.str (Str.ofString "__doc__") 448) Value.none] 2) #[]
noncomputable def ho256 (P : Params) : Obj := Obj.mk (Value.type "type") none (Data.cls (ClassData.mk (Str.ofString "Proof") [Value.ref 159] [Value.ref 211, Value.ref 159, Value.type "object"] 210 (Str.ofString "Proof") Bool.true [] [] Bool.false none Bool.false)) #[some (Value.ref 164), none, some (Value.str (Str.ofString "Proof") 390), some (Value.str (Str.ofString "Proof") 398), some (Value.builtin "object.__new__"), some (Value.bool Bool.true)]
noncomputable def ho257 (P : Params) : Obj := Obj.mk (Value.type "super") none (Data.fields #[Value.ref 211, Value.ref 211, Value.ref 211]) #[]
noncomputable def ho258 (P : Params) : Obj := Obj.mk (Value.type "builtin_function_or_method") none (Data.fields #[Value.builtin "object.__init_subclass__", Value.ref 211]) #[]
noncomputable def ho259 (P : Params) : Obj := Obj.mk (Value.type "dict") none (Data.dict #[DictEntry.mk (PyData.keyHash P (Str.ofString "__name__")) (Value.str (Str.ofString "__name__") 165) (Value.str (Str.ofString "law_qz0005_01") 451), DictEntry.mk (PyData.keyHash P (Str.ofString "__doc__")) (Value.str (Str.ofString "__doc__") 166) Value.none, DictEntry.mk (PyData.keyHash P (Str.ofString "__package__")) (Value.str (Str.ofString "__package__") 167) Value.none, DictEntry.mk (PyData.keyHash P (Str.ofString "__loader__")) (Value.str (Str.ofString "__loader__") 168) (Value.builtin "__main__.__loader__#opaque"), DictEntry.mk (PyData.keyHash P (Str.ofString "__spec__")) (Value.str (Str.ofString "__spec__") 169) Value.none, DictEntry.mk (PyData.keyHash P (Str.ofString "__annotations__")) (Value.str (Str.ofString "__annotations__") 170) (Value.ref 6), DictEntry.mk (PyData.keyHash P (Str.ofString "__builtins__")) (Value.str (Str.ofString "__builtins__") 171) (Value.ref 4), DictEntry.mk (PyData.keyHash P (Str.ofString "__file__")) (Value.str (Str.ofString "__file__") 173) (Value.str (Str.ofString "/claim/cut.py") 172), DictEntry.mk (PyData.keyHash P (Str.ofString "__cached__")) (Value.str (Str.ofString "__cached__") 174) Value.none, DictEntry.mk (PyData.keyHash P (Str.ofString "_wall")) (Value.str (Str.ofString "_wall") 193) (Value.ref 21), DictEntry.mk (PyData.keyHash P (Str.ofString "SmtError")) (Value.str (Str.ofString "SmtError") 233) (Value.ref 47), DictEntry.mk (PyData.keyHash P (Str.ofString "ProofFault")) (Value.str (Str.ofString "ProofFault") 268) (Value.ref 76), DictEntry.mk (PyData.keyHash P (Str.ofString "RULES")) (Value.str (Str.ofString "RULES") 282) (Value.ref 79), DictEntry.mk (PyData.keyHash P (Str.ofString "is_tidy")) (Value.str (Str.ofString "is_tidy") 290) (Value.ref 86), DictEntry.mk (PyData.keyHash P (Str.ofString "Steps")) (Value.str (Str.ofString "Steps") 389) (Value.ref 159), DictEntry.mk (PyData.keyHash P (Str.ofString "Proof")) (Value.str (Str.ofString "Proof") 450) (Value.ref 211), DictEntry.mk (PyData.keyHash P (Str.ofString "_law_draw")) (Value.str (Str.ofString "_law_draw") 461) (Value.ref 220), DictEntry.mk (PyData.keyHash P (Str.ofString "_law_rows")) (Value.str (Str.ofString "_law_rows") 473) (Value.ref 227), DictEntry.mk (PyData.keyHash P (Str.ofString "_law_proof")) (Value.str (Str.ofString "_law_proof") 479) (Value.ref 232), DictEntry.mk (PyData.keyHash P (Str.ofString "_law_can_be")) (Value.str (Str.ofString "_law_can_be") 485) (Value.ref 237), DictEntry.mk (PyData.keyHash P (Str.ofString "_law_rounds")) (Value.str (Str.ofString "_law_rounds") 491) (Value.ref 242), DictEntry.mk (PyData.keyHash P (Str.ofString "_law_longest")) (Value.str (Str.ofString "_law_longest") 497) (Value.ref 247), DictEntry.mk (PyData.keyHash P (Str.ofString "law")) (Value.str (Str.ofString "law") 503) (Value.ref 252)] 23) #[]
noncomputable def ho260 (P : Params) : Obj := Obj.mk Value.none none (Data.fields #[Value.int 1 0, Value.int 0 0, Value.ref 20, Value.int 5 0, Value.int 0 0, Value.ref 28, Value.int 13 0, Value.int 0 0, Value.ref 57, Value.int 23 0, Value.int 0 0, Value.ref 85, Value.int 30 0, Value.int 0 0, Value.ref 92, Value.int 75 0, Value.int 0 0, Value.ref 169, Value.int 111 0, Value.int 0 0, Value.ref 219, Value.int 117 0, Value.int 0 0, Value.ref 226, Value.int 127 0, Value.int 0 0, Value.ref 231, Value.int 137 0, Value.int 0 0, Value.ref 236, Value.int 144 0, Value.int 0 0, Value.ref 241, Value.int 154 0, Value.int 0 0, Value.ref 246, Value.int 163 0, Value.int 0 0, Value.ref 251]) #[]
noncomputable def ho261 (P : Params) : Obj := Obj.mk (Value.type "tuple") none (Data.seq #[] 0) #[]
noncomputable def ho262 (P : Params) : Obj := Obj.mk Value.none none (Data.fields #[]) #[]
noncomputable def ho263 (P : Params) : Obj := Obj.mk (Value.type "tuple") none (Data.seq #[Value.str (Str.ofString "feed") 456, Value.str (Str.ofString "wide") 457, Value.str (Str.ofString "k") 458] 0) #[]
noncomputable def ho264 (P : Params) : Obj := Obj.mk (Value.type "tuple") none (Data.seq #[] 0) #[]
noncomputable def ho265 (P : Params) : Obj := Obj.mk Value.none none (Data.func (FuncData.mk (Str.ofString "_law_draw") (Str.ofString "_law_draw") (fnP (stA 10)) (fnB (stA 10)) (fnS (stA 10)) 0 [] Value.none Value.none Value.none Value.none none Value.none Value.none 0)) #[]
noncomputable def ho266 (P : Params) : Obj := Obj.mk (Value.type "code") none (Data.fields #[Value.str (Str.ofString "_law_draw") 453, Value.str (Str.ofString "_law_draw") 454, Value.str (Str.ofString "/claim/cut.py") 455, Value.int 111 0, Value.int 2 0, Value.int 0 0, Value.int 0 0, Value.int 3 0, Value.ref 214, Value.bool Bool.true, Value.int 181 0, Value.ref 215, Value.none, Value.ref 216, Value.ref 217, Value.ref 218, Value.int 459 0, Value.int 111 0, Value.str (Str.ofString "/claim/cut.py") 460]) #[]
noncomputable def ho267 (P : Params) : Obj := Obj.mk (Value.type "function") none (Data.func (FuncData.mk (Str.ofString "_law_draw") (Str.ofString "_law_draw") (fnP (stA 10)) (fnB (stA 10)) (fnS (stA 10)) 3 [] Value.none Value.none Value.none (Value.str (Str.ofString "law_qz0005_01") 451) none (Value.ref 219) Value.none 0)) #[]
noncomputable def ho268 (P : Params) : Obj := Obj.mk (Value.type "tuple") none (Data.seq #[] 0) #[]
noncomputable def ho269 (P : Params) : Obj := Obj.mk Value.none none (Data.fields #[]) #[]
noncomputable def ho270 (P : Params) : Obj := Obj.mk (Value.type "tuple") none (Data.seq #[Value.str (Str.ofString "feed") 465, Value.str (Str.ofString "found") 466, Value.str (Str.ofString "number") 467, Value.str (Str.ofString "rule") 468, Value.str (Str.ofString "premises") 469, Value.str (Str.ofString "turn") 470] 0) #[]
noncomputable def ho271 (P : Params) : Obj := Obj.mk (Value.type "tuple") none (Data.seq #[] 0) #[]
noncomputable def ho272 (P : Params) : Obj := Obj.mk Value.none none (Data.func (FuncData.mk (Str.ofString "_law_rows") (Str.ofString "_law_rows") (fnP (stA 11)) (fnB (stA 11)) (fnS (stA 11)) 0 [] Value.none Value.none Value.none Value.none none Value.none Value.none 0)) #[]
noncomputable def ho273 (P : Params) : Obj := Obj.mk (Value.type "code") none (Data.fields #[Value.str (Str.ofString "_law_rows") 462, Value.str (Str.ofString "_law_rows") 463, Value.str (Str.ofString "/claim/cut.py") 464, Value.int 117 0, Value.int 1 0, Value.int 0 0, Value.int 0 0, Value.int 3 0, Value.ref 221, Value.bool Bool.true, Value.int 181 0, Value.ref 222, Value.none, Value.ref 223, Value.ref 224, Value.ref 225, Value.int 471 0, Value.int 117 0, Value.str (Str.ofString "/claim/cut.py") 472]) #[]
noncomputable def ho274 (P : Params) : Obj := Obj.mk (Value.type "function") none (Data.func (FuncData.mk (Str.ofString "_law_rows") (Str.ofString "_law_rows") (fnP (stA 11)) (fnB (stA 11)) (fnS (stA 11)) 3 [] Value.none Value.none Value.none (Value.str (Str.ofString "law_qz0005_01") 451) none (Value.ref 226) Value.none 0)) #[]
noncomputable def ho275 (P : Params) : Obj := Obj.mk (Value.type "tuple") none (Data.seq #[] 0) #[]
noncomputable def ho276 (P : Params) : Obj := Obj.mk Value.none none (Data.fields #[]) #[]
noncomputable def ho277 (P : Params) : Obj := Obj.mk Value.none none (Data.func (FuncData.mk (Str.ofString "_law_proof") (Str.ofString "_law_proof") (fnP (stA 12)) (fnB (stA 12)) (fnS (stA 12)) 0 [] Value.none Value.none Value.none Value.none none Value.none Value.none 0)) #[]
noncomputable def ho278 (P : Params) : Obj := Obj.mk (Value.type "code") none (Data.fields #[Value.str (Str.ofString "_law_proof") 474, Value.str (Str.ofString "_law_proof") 475, Value.str (Str.ofString "/claim/cut.py") 476, Value.int 127 0, Value.int 2 0, Value.int 0 0, Value.int 0 0, Value.int 3 0, Value.ref 228, Value.bool Bool.true, Value.int 181 0, Value.ref 229, Value.none, Value.none, Value.none, Value.ref 230, Value.int 477 0, Value.int 127 0, Value.str (Str.ofString "/claim/cut.py") 478]) #[]
noncomputable def ho279 (P : Params) : Obj := Obj.mk (Value.type "function") none (Data.func (FuncData.mk (Str.ofString "_law_proof") (Str.ofString "_law_proof") (fnP (stA 12)) (fnB (stA 12)) (fnS (stA 12)) 3 [] Value.none Value.none Value.none (Value.str (Str.ofString "law_qz0005_01") 451) none (Value.ref 231) Value.none 0)) #[]
noncomputable def ho280 (P : Params) : Obj := Obj.mk (Value.type "tuple") none (Data.seq #[] 0) #[]
noncomputable def ho281 (P : Params) : Obj := Obj.mk Value.none none (Data.fields #[]) #[]
noncomputable def ho282 (P : Params) : Obj := Obj.mk Value.none none (Data.func (FuncData.mk (Str.ofString "_law_can_be") (Str.ofString "_law_can_be") (fnP (stA 13)) (fnB (stA 13)) (fnS (stA 13)) 0 [] Value.none Value.none Value.none Value.none none Value.none Value.none 0)) #[]
noncomputable def ho283 (P : Params) : Obj := Obj.mk (Value.type "code") none (Data.fields #[Value.str (Str.ofString "_law_can_be") 480, Value.str (Str.ofString "_law_can_be") 481, Value.str (Str.ofString "/claim/cut.py") 482, Value.int 137 0, Value.int 3 0, Value.int 0 0, Value.int 0 0, Value.int 3 0, Value.ref 233, Value.bool Bool.true, Value.int 181 0, Value.ref 234, Value.none, Value.none, Value.none, Value.ref 235, Value.int 483 0, Value.int 137 0, Value.str (Str.ofString "/claim/cut.py") 484]) #[]
noncomputable def ho284 (P : Params) : Obj := Obj.mk (Value.type "function") none (Data.func (FuncData.mk (Str.ofString "_law_can_be") (Str.ofString "_law_can_be") (fnP (stA 13)) (fnB (stA 13)) (fnS (stA 13)) 3 [] Value.none Value.none Value.none (Value.str (Str.ofString "law_qz0005_01") 451) none (Value.ref 236) Value.none 0)) #[]
noncomputable def ho285 (P : Params) : Obj := Obj.mk (Value.type "tuple") none (Data.seq #[] 0) #[]
noncomputable def ho286 (P : Params) : Obj := Obj.mk Value.none none (Data.fields #[]) #[]
noncomputable def ho287 (P : Params) : Obj := Obj.mk Value.none none (Data.func (FuncData.mk (Str.ofString "_law_rounds") (Str.ofString "_law_rounds") (fnP (stA 14)) (fnB (stA 14)) (fnS (stA 14)) 0 [] Value.none Value.none Value.none Value.none none Value.none Value.none 0)) #[]
noncomputable def ho288 (P : Params) : Obj := Obj.mk (Value.type "code") none (Data.fields #[Value.str (Str.ofString "_law_rounds") 486, Value.str (Str.ofString "_law_rounds") 487, Value.str (Str.ofString "/claim/cut.py") 488, Value.int 144 0, Value.int 1 0, Value.int 0 0, Value.int 0 0, Value.int 3 0, Value.ref 238, Value.bool Bool.true, Value.int 181 0, Value.ref 239, Value.none, Value.none, Value.none, Value.ref 240, Value.int 489 0, Value.int 144 0, Value.str (Str.ofString "/claim/cut.py") 490]) #[]
noncomputable def ho289 (P : Params) : Obj := Obj.mk (Value.type "function") none (Data.func (FuncData.mk (Str.ofString "_law_rounds") (Str.ofString "_law_rounds") (fnP (stA 14)) (fnB (stA 14)) (fnS (stA 14)) 3 [] Value.none Value.none Value.none (Value.str (Str.ofString "law_qz0005_01") 451) none (Value.ref 241) Value.none 0)) #[]
noncomputable def ho290 (P : Params) : Obj := Obj.mk (Value.type "tuple") none (Data.seq #[] 0) #[]
noncomputable def ho291 (P : Params) : Obj := Obj.mk Value.none none (Data.fields #[]) #[]
noncomputable def ho292 (P : Params) : Obj := Obj.mk Value.none none (Data.func (FuncData.mk (Str.ofString "_law_longest") (Str.ofString "_law_longest") (fnP (stA 15)) (fnB (stA 15)) (fnS (stA 15)) 0 [] Value.none Value.none Value.none Value.none none Value.none Value.none 0)) #[]
noncomputable def ho293 (P : Params) : Obj := Obj.mk (Value.type "code") none (Data.fields #[Value.str (Str.ofString "_law_longest") 492, Value.str (Str.ofString "_law_longest") 493, Value.str (Str.ofString "/claim/cut.py") 494, Value.int 154 0, Value.int 2 0, Value.int 0 0, Value.int 0 0, Value.int 3 0, Value.ref 243, Value.bool Bool.true, Value.int 181 0, Value.ref 244, Value.none, Value.none, Value.none, Value.ref 245, Value.int 495 0, Value.int 154 0, Value.str (Str.ofString "/claim/cut.py") 496]) #[]
noncomputable def ho294 (P : Params) : Obj := Obj.mk (Value.type "function") none (Data.func (FuncData.mk (Str.ofString "_law_longest") (Str.ofString "_law_longest") (fnP (stA 15)) (fnB (stA 15)) (fnS (stA 15)) 3 [] Value.none Value.none Value.none (Value.str (Str.ofString "law_qz0005_01") 451) none (Value.ref 246) Value.none 0)) #[]
noncomputable def ho295 (P : Params) : Obj := Obj.mk (Value.type "tuple") none (Data.seq #[] 0) #[]
noncomputable def ho296 (P : Params) : Obj := Obj.mk Value.none none (Data.fields #[]) #[]
noncomputable def ho297 (P : Params) : Obj := Obj.mk Value.none none (Data.func (FuncData.mk (Str.ofString "law") (Str.ofString "law") (fnP (stA 16)) (fnB (stA 16)) (fnS (stA 16)) 0 [] Value.none Value.none Value.none Value.none none Value.none Value.none 0)) #[]
noncomputable def ho298 (P : Params) : Obj := Obj.mk (Value.type "code") none (Data.fields #[Value.str (Str.ofString "law") 498, Value.str (Str.ofString "law") 499, Value.str (Str.ofString "/claim/cut.py") 500, Value.int 163 0, Value.int 1 0, Value.int 0 0, Value.int 0 0, Value.int 3 0, Value.ref 248, Value.bool Bool.true, Value.int 181 0, Value.ref 249, Value.none, Value.none, Value.none, Value.ref 250, Value.int 501 0, Value.int 163 0, Value.str (Str.ofString "/claim/cut.py") 502]) #[]
noncomputable def ho299 (P : Params) : Obj := Obj.mk (Value.type "function") none (Data.func (FuncData.mk (Str.ofString "law") (Str.ofString "law") (fnP (stA 16)) (fnB (stA 16)) (fnS (stA 16)) 3 [] Value.none Value.none Value.none (Value.str (Str.ofString "law_qz0005_01") 451) none (Value.ref 251) Value.none 0)) #[]
noncomputable def henv41 : Env := Env.mk (Module.scope (Program.main PW)) mainNs mainNs [] Str.empty none (Value.ref 13) (some 14) 0
noncomputable def hheap46 (P : Params) : Heap := Heap.mk (Array.mk [W.boot_o_0 P, W.boot_o_1 P, W.boot_o_2 P, W.boot_o_3 P, W.boot_o_4 P, W.boot_o_5 P, W.boot_o_6 P, W.boot_o_7 P, W.boot_o_8 P, W.boot_o_9 P, W.boot_o_10 P, ho43 P, ho44 P, ho45 P, ho46 P]) (Life.mk [] [] [] 0 [] [] Bool.false #[] [] 0 Bool.false Bool.false Bool.false 0 [2000, 10, 10] Bool.false 0 Bool.true [] [] 0 Bool.false)
noncomputable def htree47 (P : Params) : BT := W.BT.node (W.boot_o_0 P) (W.BT.node (W.boot_o_1 P) (W.BT.node (W.boot_o_3 P) (W.BT.node (W.boot_o_7 P) W.BT.nil W.BT.nil) (W.BT.node (ho43 P) W.BT.nil W.BT.nil)) (W.BT.node (W.boot_o_5 P) (W.BT.node (W.boot_o_9 P) W.BT.nil W.BT.nil) (W.BT.node (ho45 P) W.BT.nil W.BT.nil))) (W.BT.node (W.boot_o_2 P) (W.BT.node (W.boot_o_4 P) (W.BT.node (W.boot_o_8 P) W.BT.nil W.BT.nil) (W.BT.node (ho44 P) W.BT.nil W.BT.nil)) (W.BT.node (W.boot_o_6 P) (W.BT.node (W.boot_o_10 P) W.BT.nil W.BT.nil) (W.BT.node (ho46 P) W.BT.nil W.BT.nil)))
noncomputable def hsts49 : List Stmt := [stA 0, stA 1, stA 2]
noncomputable def htree87 (P : Params) : BT := W.BT.node (W.boot_o_0 P) (W.BT.node (W.boot_o_1 P) (W.BT.node (ho50 P) (W.BT.node (W.boot_o_7 P) (W.BT.node (ho52 P) (W.BT.node (ho68 P) W.BT.nil W.BT.nil) (W.BT.node (ho84 P) W.BT.nil W.BT.nil)) (W.BT.node (ho60 P) (W.BT.node (ho76 P) W.BT.nil W.BT.nil) W.BT.nil)) (W.BT.node (ho43 P) (W.BT.node (ho56 P) (W.BT.node (ho72 P) W.BT.nil W.BT.nil) W.BT.nil) (W.BT.node (ho64 P) (W.BT.node (ho80 P) W.BT.nil W.BT.nil) W.BT.nil))) (W.BT.node (W.boot_o_5 P) (W.BT.node (W.boot_o_9 P) (W.BT.node (ho54 P) (W.BT.node (ho70 P) W.BT.nil W.BT.nil) (W.BT.node (ho86 P) W.BT.nil W.BT.nil)) (W.BT.node (ho62 P) (W.BT.node (ho78 P) W.BT.nil W.BT.nil) W.BT.nil)) (W.BT.node (ho45 P) (W.BT.node (ho58 P) (W.BT.node (ho74 P) W.BT.nil W.BT.nil) W.BT.nil) (W.BT.node (ho66 P) (W.BT.node (ho82 P) W.BT.nil W.BT.nil) W.BT.nil)))) (W.BT.node (ho49 P) (W.BT.node (W.boot_o_4 P) (W.BT.node (W.boot_o_8 P) (W.BT.node (ho53 P) (W.BT.node (ho69 P) W.BT.nil W.BT.nil) (W.BT.node (ho85 P) W.BT.nil W.BT.nil)) (W.BT.node (ho61 P) (W.BT.node (ho77 P) W.BT.nil W.BT.nil) W.BT.nil)) (W.BT.node (ho51 P) (W.BT.node (ho57 P) (W.BT.node (ho73 P) W.BT.nil W.BT.nil) W.BT.nil) (W.BT.node (ho65 P) (W.BT.node (ho81 P) W.BT.nil W.BT.nil) W.BT.nil))) (W.BT.node (W.boot_o_6 P) (W.BT.node (W.boot_o_10 P) (W.BT.node (ho55 P) (W.BT.node (ho71 P) W.BT.nil W.BT.nil) (W.BT.node (ho87 P) W.BT.nil W.BT.nil)) (W.BT.node (ho63 P) (W.BT.node (ho79 P) W.BT.nil W.BT.nil) W.BT.nil)) (W.BT.node (ho46 P) (W.BT.node (ho59 P) (W.BT.node (ho75 P) W.BT.nil W.BT.nil) W.BT.nil) (W.BT.node (ho67 P) (W.BT.node (ho83 P) W.BT.nil W.BT.nil) W.BT.nil))))
noncomputable def hsts88 : List Stmt := [stA 3, stA 4, stA 5, stA 6]
noncomputable def htree126 (P : Params) : BT := W.BT.node (W.boot_o_0 P) (W.BT.node (W.boot_o_1 P) (W.BT.node (ho88 P) (W.BT.node (W.boot_o_7 P) (W.BT.node (ho52 P) (W.BT.node (ho68 P) (W.BT.node (ho103 P) W.BT.nil W.BT.nil) W.BT.nil) (W.BT.node (ho90 P) (W.BT.node (ho119 P) W.BT.nil W.BT.nil) W.BT.nil)) (W.BT.node (ho60 P) (W.BT.node (ho76 P) (W.BT.node (ho111 P) W.BT.nil W.BT.nil) W.BT.nil) (W.BT.node (ho95 P) W.BT.nil W.BT.nil))) (W.BT.node (ho43 P) (W.BT.node (ho56 P) (W.BT.node (ho72 P) (W.BT.node (ho107 P) W.BT.nil W.BT.nil) W.BT.nil) (W.BT.node (ho91 P) (W.BT.node (ho123 P) W.BT.nil W.BT.nil) W.BT.nil)) (W.BT.node (ho64 P) (W.BT.node (ho80 P) (W.BT.node (ho115 P) W.BT.nil W.BT.nil) W.BT.nil) (W.BT.node (ho99 P) W.BT.nil W.BT.nil)))) (W.BT.node (W.boot_o_5 P) (W.BT.node (W.boot_o_9 P) (W.BT.node (ho54 P) (W.BT.node (ho70 P) (W.BT.node (ho105 P) W.BT.nil W.BT.nil) W.BT.nil) (W.BT.node (ho86 P) (W.BT.node (ho121 P) W.BT.nil W.BT.nil) W.BT.nil)) (W.BT.node (ho62 P) (W.BT.node (ho78 P) (W.BT.node (ho113 P) W.BT.nil W.BT.nil) W.BT.nil) (W.BT.node (ho97 P) W.BT.nil W.BT.nil))) (W.BT.node (ho45 P) (W.BT.node (ho58 P) (W.BT.node (ho74 P) (W.BT.node (ho109 P) W.BT.nil W.BT.nil) W.BT.nil) (W.BT.node (ho93 P) (W.BT.node (ho125 P) W.BT.nil W.BT.nil) W.BT.nil)) (W.BT.node (ho66 P) (W.BT.node (ho82 P) (W.BT.node (ho117 P) W.BT.nil W.BT.nil) W.BT.nil) (W.BT.node (ho101 P) W.BT.nil W.BT.nil))))) (W.BT.node (ho49 P) (W.BT.node (W.boot_o_4 P) (W.BT.node (W.boot_o_8 P) (W.BT.node (ho53 P) (W.BT.node (ho69 P) (W.BT.node (ho104 P) W.BT.nil W.BT.nil) W.BT.nil) (W.BT.node (ho85 P) (W.BT.node (ho120 P) W.BT.nil W.BT.nil) W.BT.nil)) (W.BT.node (ho61 P) (W.BT.node (ho77 P) (W.BT.node (ho112 P) W.BT.nil W.BT.nil) W.BT.nil) (W.BT.node (ho96 P) W.BT.nil W.BT.nil))) (W.BT.node (ho89 P) (W.BT.node (ho57 P) (W.BT.node (ho73 P) (W.BT.node (ho108 P) W.BT.nil W.BT.nil) W.BT.nil) (W.BT.node (ho92 P) (W.BT.node (ho124 P) W.BT.nil W.BT.nil) W.BT.nil)) (W.BT.node (ho65 P) (W.BT.node (ho81 P) (W.BT.node (ho116 P) W.BT.nil W.BT.nil) W.BT.nil) (W.BT.node (ho100 P) W.BT.nil W.BT.nil)))) (W.BT.node (W.boot_o_6 P) (W.BT.node (W.boot_o_10 P) (W.BT.node (ho55 P) (W.BT.node (ho71 P) (W.BT.node (ho106 P) W.BT.nil W.BT.nil) W.BT.nil) (W.BT.node (ho87 P) (W.BT.node (ho122 P) W.BT.nil W.BT.nil) W.BT.nil)) (W.BT.node (ho63 P) (W.BT.node (ho79 P) (W.BT.node (ho114 P) W.BT.nil W.BT.nil) W.BT.nil) (W.BT.node (ho98 P) W.BT.nil W.BT.nil))) (W.BT.node (ho46 P) (W.BT.node (ho59 P) (W.BT.node (ho75 P) (W.BT.node (ho110 P) W.BT.nil W.BT.nil) W.BT.nil) (W.BT.node (ho94 P) (W.BT.node (ho126 P) W.BT.nil W.BT.nil) W.BT.nil)) (W.BT.node (ho67 P) (W.BT.node (ho83 P) (W.BT.node (ho118 P) W.BT.nil W.BT.nil) W.BT.nil) (W.BT.node (ho102 P) W.BT.nil W.BT.nil)))))
noncomputable def hsts127 : List Stmt := [stA 7]
noncomputable def htree205 (P : Params) : BT := W.BT.node (W.boot_o_0 P) (W.BT.node (W.boot_o_1 P) (W.BT.node (ho127 P) (W.BT.node (W.boot_o_7 P) (W.BT.node (ho52 P) (W.BT.node (ho68 P) (W.BT.node (ho103 P) (W.BT.node (ho169 P) W.BT.nil W.BT.nil) W.BT.nil) (W.BT.node (ho137 P) (W.BT.node (ho201 P) W.BT.nil W.BT.nil) W.BT.nil)) (W.BT.node (ho90 P) (W.BT.node (ho119 P) (W.BT.node (ho185 P) W.BT.nil W.BT.nil) W.BT.nil) (W.BT.node (ho153 P) W.BT.nil W.BT.nil))) (W.BT.node (ho60 P) (W.BT.node (ho76 P) (W.BT.node (ho111 P) (W.BT.node (ho177 P) W.BT.nil W.BT.nil) W.BT.nil) (W.BT.node (ho145 P) W.BT.nil W.BT.nil)) (W.BT.node (ho95 P) (W.BT.node (ho129 P) (W.BT.node (ho193 P) W.BT.nil W.BT.nil) W.BT.nil) (W.BT.node (ho161 P) W.BT.nil W.BT.nil)))) (W.BT.node (ho43 P) (W.BT.node (ho56 P) (W.BT.node (ho72 P) (W.BT.node (ho107 P) (W.BT.node (ho173 P) W.BT.nil W.BT.nil) W.BT.nil) (W.BT.node (ho141 P) (W.BT.node (ho205 P) W.BT.nil W.BT.nil) W.BT.nil)) (W.BT.node (ho91 P) (W.BT.node (ho123 P) (W.BT.node (ho189 P) W.BT.nil W.BT.nil) W.BT.nil) (W.BT.node (ho157 P) W.BT.nil W.BT.nil))) (W.BT.node (ho64 P) (W.BT.node (ho80 P) (W.BT.node (ho115 P) (W.BT.node (ho181 P) W.BT.nil W.BT.nil) W.BT.nil) (W.BT.node (ho149 P) W.BT.nil W.BT.nil)) (W.BT.node (ho99 P) (W.BT.node (ho133 P) (W.BT.node (ho197 P) W.BT.nil W.BT.nil) W.BT.nil) (W.BT.node (ho165 P) W.BT.nil W.BT.nil))))) (W.BT.node (W.boot_o_5 P) (W.BT.node (W.boot_o_9 P) (W.BT.node (ho54 P) (W.BT.node (ho70 P) (W.BT.node (ho105 P) (W.BT.node (ho171 P) W.BT.nil W.BT.nil) W.BT.nil) (W.BT.node (ho139 P) (W.BT.node (ho203 P) W.BT.nil W.BT.nil) W.BT.nil)) (W.BT.node (ho86 P) (W.BT.node (ho121 P) (W.BT.node (ho187 P) W.BT.nil W.BT.nil) W.BT.nil) (W.BT.node (ho155 P) W.BT.nil W.BT.nil))) (W.BT.node (ho62 P) (W.BT.node (ho78 P) (W.BT.node (ho113 P) (W.BT.node (ho179 P) W.BT.nil W.BT.nil) W.BT.nil) (W.BT.node (ho147 P) W.BT.nil W.BT.nil)) (W.BT.node (ho97 P) (W.BT.node (ho131 P) (W.BT.node (ho195 P) W.BT.nil W.BT.nil) W.BT.nil) (W.BT.node (ho163 P) W.BT.nil W.BT.nil)))) (W.BT.node (ho45 P) (W.BT.node (ho58 P) (W.BT.node (ho74 P) (W.BT.node (ho109 P) (W.BT.node (ho175 P) W.BT.nil W.BT.nil) W.BT.nil) (W.BT.node (ho143 P) W.BT.nil W.BT.nil)) (W.BT.node (ho93 P) (W.BT.node (ho125 P) (W.BT.node (ho191 P) W.BT.nil W.BT.nil) W.BT.nil) (W.BT.node (ho159 P) W.BT.nil W.BT.nil))) (W.BT.node (ho66 P) (W.BT.node (ho82 P) (W.BT.node (ho117 P) (W.BT.node (ho183 P) W.BT.nil W.BT.nil) W.BT.nil) (W.BT.node (ho151 P) W.BT.nil W.BT.nil)) (W.BT.node (ho101 P) (W.BT.node (ho135 P) (W.BT.node (ho199 P) W.BT.nil W.BT.nil) W.BT.nil) (W.BT.node (ho167 P) W.BT.nil W.BT.nil)))))) (W.BT.node (ho49 P) (W.BT.node (W.boot_o_4 P) (W.BT.node (W.boot_o_8 P) (W.BT.node (ho53 P) (W.BT.node (ho69 P) (W.BT.node (ho104 P) (W.BT.node (ho170 P) W.BT.nil W.BT.nil) W.BT.nil) (W.BT.node (ho138 P) (W.BT.node (ho202 P) W.BT.nil W.BT.nil) W.BT.nil)) (W.BT.node (ho85 P) (W.BT.node (ho120 P) (W.BT.node (ho186 P) W.BT.nil W.BT.nil) W.BT.nil) (W.BT.node (ho154 P) W.BT.nil W.BT.nil))) (W.BT.node (ho61 P) (W.BT.node (ho77 P) (W.BT.node (ho112 P) (W.BT.node (ho178 P) W.BT.nil W.BT.nil) W.BT.nil) (W.BT.node (ho146 P) W.BT.nil W.BT.nil)) (W.BT.node (ho96 P) (W.BT.node (ho130 P) (W.BT.node (ho194 P) W.BT.nil W.BT.nil) W.BT.nil) (W.BT.node (ho162 P) W.BT.nil W.BT.nil)))) (W.BT.node (ho128 P) (W.BT.node (ho57 P) (W.BT.node (ho73 P) (W.BT.node (ho108 P) (W.BT.node (ho174 P) W.BT.nil W.BT.nil) W.BT.nil) (W.BT.node (ho142 P) W.BT.nil W.BT.nil)) (W.BT.node (ho92 P) (W.BT.node (ho124 P) (W.BT.node (ho190 P) W.BT.nil W.BT.nil) W.BT.nil) (W.BT.node (ho158 P) W.BT.nil W.BT.nil))) (W.BT.node (ho65 P) (W.BT.node (ho81 P) (W.BT.node (ho116 P) (W.BT.node (ho182 P) W.BT.nil W.BT.nil) W.BT.nil) (W.BT.node (ho150 P) W.BT.nil W.BT.nil)) (W.BT.node (ho100 P) (W.BT.node (ho134 P) (W.BT.node (ho198 P) W.BT.nil W.BT.nil) W.BT.nil) (W.BT.node (ho166 P) W.BT.nil W.BT.nil))))) (W.BT.node (W.boot_o_6 P) (W.BT.node (W.boot_o_10 P) (W.BT.node (ho55 P) (W.BT.node (ho71 P) (W.BT.node (ho106 P) (W.BT.node (ho172 P) W.BT.nil W.BT.nil) W.BT.nil) (W.BT.node (ho140 P) (W.BT.node (ho204 P) W.BT.nil W.BT.nil) W.BT.nil)) (W.BT.node (ho87 P) (W.BT.node (ho122 P) (W.BT.node (ho188 P) W.BT.nil W.BT.nil) W.BT.nil) (W.BT.node (ho156 P) W.BT.nil W.BT.nil))) (W.BT.node (ho63 P) (W.BT.node (ho79 P) (W.BT.node (ho114 P) (W.BT.node (ho180 P) W.BT.nil W.BT.nil) W.BT.nil) (W.BT.node (ho148 P) W.BT.nil W.BT.nil)) (W.BT.node (ho98 P) (W.BT.node (ho132 P) (W.BT.node (ho196 P) W.BT.nil W.BT.nil) W.BT.nil) (W.BT.node (ho164 P) W.BT.nil W.BT.nil)))) (W.BT.node (ho46 P) (W.BT.node (ho59 P) (W.BT.node (ho75 P) (W.BT.node (ho110 P) (W.BT.node (ho176 P) W.BT.nil W.BT.nil) W.BT.nil) (W.BT.node (ho144 P) W.BT.nil W.BT.nil)) (W.BT.node (ho94 P) (W.BT.node (ho126 P) (W.BT.node (ho192 P) W.BT.nil W.BT.nil) W.BT.nil) (W.BT.node (ho160 P) W.BT.nil W.BT.nil))) (W.BT.node (ho67 P) (W.BT.node (ho83 P) (W.BT.node (ho118 P) (W.BT.node (ho184 P) W.BT.nil W.BT.nil) W.BT.nil) (W.BT.node (ho152 P) W.BT.nil W.BT.nil)) (W.BT.node (ho102 P) (W.BT.node (ho136 P) (W.BT.node (ho200 P) W.BT.nil W.BT.nil) W.BT.nil) (W.BT.node (ho168 P) W.BT.nil W.BT.nil))))))
noncomputable def hsts206 : List Stmt := [stA 8]
noncomputable def htree258 (P : Params) : BT := W.BT.node (W.boot_o_0 P) (W.BT.node (W.boot_o_1 P) (W.BT.node (ho206 P) (W.BT.node (W.boot_o_7 P) (W.BT.node (ho52 P) (W.BT.node (ho68 P) (W.BT.node (ho103 P) (W.BT.node (ho169 P) W.BT.nil W.BT.nil) (W.BT.node (ho236 P) W.BT.nil W.BT.nil)) (W.BT.node (ho137 P) (W.BT.node (ho208 P) W.BT.nil W.BT.nil) W.BT.nil)) (W.BT.node (ho90 P) (W.BT.node (ho119 P) (W.BT.node (ho185 P) W.BT.nil W.BT.nil) (W.BT.node (ho252 P) W.BT.nil W.BT.nil)) (W.BT.node (ho153 P) (W.BT.node (ho220 P) W.BT.nil W.BT.nil) W.BT.nil))) (W.BT.node (ho60 P) (W.BT.node (ho76 P) (W.BT.node (ho111 P) (W.BT.node (ho177 P) W.BT.nil W.BT.nil) (W.BT.node (ho244 P) W.BT.nil W.BT.nil)) (W.BT.node (ho145 P) (W.BT.node (ho212 P) W.BT.nil W.BT.nil) W.BT.nil)) (W.BT.node (ho95 P) (W.BT.node (ho129 P) (W.BT.node (ho193 P) W.BT.nil W.BT.nil) W.BT.nil) (W.BT.node (ho161 P) (W.BT.node (ho228 P) W.BT.nil W.BT.nil) W.BT.nil)))) (W.BT.node (ho43 P) (W.BT.node (ho56 P) (W.BT.node (ho72 P) (W.BT.node (ho107 P) (W.BT.node (ho173 P) W.BT.nil W.BT.nil) (W.BT.node (ho240 P) W.BT.nil W.BT.nil)) (W.BT.node (ho141 P) (W.BT.node (ho205 P) W.BT.nil W.BT.nil) W.BT.nil)) (W.BT.node (ho91 P) (W.BT.node (ho123 P) (W.BT.node (ho189 P) W.BT.nil W.BT.nil) (W.BT.node (ho256 P) W.BT.nil W.BT.nil)) (W.BT.node (ho157 P) (W.BT.node (ho224 P) W.BT.nil W.BT.nil) W.BT.nil))) (W.BT.node (ho64 P) (W.BT.node (ho80 P) (W.BT.node (ho115 P) (W.BT.node (ho181 P) W.BT.nil W.BT.nil) (W.BT.node (ho248 P) W.BT.nil W.BT.nil)) (W.BT.node (ho149 P) (W.BT.node (ho216 P) W.BT.nil W.BT.nil) W.BT.nil)) (W.BT.node (ho99 P) (W.BT.node (ho133 P) (W.BT.node (ho197 P) W.BT.nil W.BT.nil) W.BT.nil) (W.BT.node (ho165 P) (W.BT.node (ho232 P) W.BT.nil W.BT.nil) W.BT.nil))))) (W.BT.node (W.boot_o_5 P) (W.BT.node (W.boot_o_9 P) (W.BT.node (ho54 P) (W.BT.node (ho70 P) (W.BT.node (ho105 P) (W.BT.node (ho171 P) W.BT.nil W.BT.nil) (W.BT.node (ho238 P) W.BT.nil W.BT.nil)) (W.BT.node (ho139 P) (W.BT.node (ho203 P) W.BT.nil W.BT.nil) W.BT.nil)) (W.BT.node (ho86 P) (W.BT.node (ho121 P) (W.BT.node (ho187 P) W.BT.nil W.BT.nil) (W.BT.node (ho254 P) W.BT.nil W.BT.nil)) (W.BT.node (ho155 P) (W.BT.node (ho222 P) W.BT.nil W.BT.nil) W.BT.nil))) (W.BT.node (ho62 P) (W.BT.node (ho78 P) (W.BT.node (ho113 P) (W.BT.node (ho179 P) W.BT.nil W.BT.nil) (W.BT.node (ho246 P) W.BT.nil W.BT.nil)) (W.BT.node (ho147 P) (W.BT.node (ho214 P) W.BT.nil W.BT.nil) W.BT.nil)) (W.BT.node (ho97 P) (W.BT.node (ho131 P) (W.BT.node (ho195 P) W.BT.nil W.BT.nil) W.BT.nil) (W.BT.node (ho163 P) (W.BT.node (ho230 P) W.BT.nil W.BT.nil) W.BT.nil)))) (W.BT.node (ho45 P) (W.BT.node (ho58 P) (W.BT.node (ho74 P) (W.BT.node (ho109 P) (W.BT.node (ho175 P) W.BT.nil W.BT.nil) (W.BT.node (ho242 P) W.BT.nil W.BT.nil)) (W.BT.node (ho143 P) (W.BT.node (ho210 P) W.BT.nil W.BT.nil) W.BT.nil)) (W.BT.node (ho93 P) (W.BT.node (ho125 P) (W.BT.node (ho191 P) W.BT.nil W.BT.nil) (W.BT.node (ho258 P) W.BT.nil W.BT.nil)) (W.BT.node (ho159 P) (W.BT.node (ho226 P) W.BT.nil W.BT.nil) W.BT.nil))) (W.BT.node (ho66 P) (W.BT.node (ho82 P) (W.BT.node (ho117 P) (W.BT.node (ho183 P) W.BT.nil W.BT.nil) (W.BT.node (ho250 P) W.BT.nil W.BT.nil)) (W.BT.node (ho151 P) (W.BT.node (ho218 P) W.BT.nil W.BT.nil) W.BT.nil)) (W.BT.node (ho101 P) (W.BT.node (ho135 P) (W.BT.node (ho199 P) W.BT.nil W.BT.nil) W.BT.nil) (W.BT.node (ho167 P) (W.BT.node (ho234 P) W.BT.nil W.BT.nil) W.BT.nil)))))) (W.BT.node (ho49 P) (W.BT.node (W.boot_o_4 P) (W.BT.node (W.boot_o_8 P) (W.BT.node (ho53 P) (W.BT.node (ho69 P) (W.BT.node (ho104 P) (W.BT.node (ho170 P) W.BT.nil W.BT.nil) (W.BT.node (ho237 P) W.BT.nil W.BT.nil)) (W.BT.node (ho138 P) (W.BT.node (ho202 P) W.BT.nil W.BT.nil) W.BT.nil)) (W.BT.node (ho85 P) (W.BT.node (ho120 P) (W.BT.node (ho186 P) W.BT.nil W.BT.nil) (W.BT.node (ho253 P) W.BT.nil W.BT.nil)) (W.BT.node (ho154 P) (W.BT.node (ho221 P) W.BT.nil W.BT.nil) W.BT.nil))) (W.BT.node (ho61 P) (W.BT.node (ho77 P) (W.BT.node (ho112 P) (W.BT.node (ho178 P) W.BT.nil W.BT.nil) (W.BT.node (ho245 P) W.BT.nil W.BT.nil)) (W.BT.node (ho146 P) (W.BT.node (ho213 P) W.BT.nil W.BT.nil) W.BT.nil)) (W.BT.node (ho96 P) (W.BT.node (ho130 P) (W.BT.node (ho194 P) W.BT.nil W.BT.nil) W.BT.nil) (W.BT.node (ho162 P) (W.BT.node (ho229 P) W.BT.nil W.BT.nil) W.BT.nil)))) (W.BT.node (ho207 P) (W.BT.node (ho57 P) (W.BT.node (ho73 P) (W.BT.node (ho108 P) (W.BT.node (ho174 P) W.BT.nil W.BT.nil) (W.BT.node (ho241 P) W.BT.nil W.BT.nil)) (W.BT.node (ho142 P) (W.BT.node (ho209 P) W.BT.nil W.BT.nil) W.BT.nil)) (W.BT.node (ho92 P) (W.BT.node (ho124 P) (W.BT.node (ho190 P) W.BT.nil W.BT.nil) (W.BT.node (ho257 P) W.BT.nil W.BT.nil)) (W.BT.node (ho158 P) (W.BT.node (ho225 P) W.BT.nil W.BT.nil) W.BT.nil))) (W.BT.node (ho65 P) (W.BT.node (ho81 P) (W.BT.node (ho116 P) (W.BT.node (ho182 P) W.BT.nil W.BT.nil) (W.BT.node (ho249 P) W.BT.nil W.BT.nil)) (W.BT.node (ho150 P) (W.BT.node (ho217 P) W.BT.nil W.BT.nil) W.BT.nil)) (W.BT.node (ho100 P) (W.BT.node (ho134 P) (W.BT.node (ho198 P) W.BT.nil W.BT.nil) W.BT.nil) (W.BT.node (ho166 P) (W.BT.node (ho233 P) W.BT.nil W.BT.nil) W.BT.nil))))) (W.BT.node (W.boot_o_6 P) (W.BT.node (W.boot_o_10 P) (W.BT.node (ho55 P) (W.BT.node (ho71 P) (W.BT.node (ho106 P) (W.BT.node (ho172 P) W.BT.nil W.BT.nil) (W.BT.node (ho239 P) W.BT.nil W.BT.nil)) (W.BT.node (ho140 P) (W.BT.node (ho204 P) W.BT.nil W.BT.nil) W.BT.nil)) (W.BT.node (ho87 P) (W.BT.node (ho122 P) (W.BT.node (ho188 P) W.BT.nil W.BT.nil) (W.BT.node (ho255 P) W.BT.nil W.BT.nil)) (W.BT.node (ho156 P) (W.BT.node (ho223 P) W.BT.nil W.BT.nil) W.BT.nil))) (W.BT.node (ho63 P) (W.BT.node (ho79 P) (W.BT.node (ho114 P) (W.BT.node (ho180 P) W.BT.nil W.BT.nil) (W.BT.node (ho247 P) W.BT.nil W.BT.nil)) (W.BT.node (ho148 P) (W.BT.node (ho215 P) W.BT.nil W.BT.nil) W.BT.nil)) (W.BT.node (ho98 P) (W.BT.node (ho132 P) (W.BT.node (ho196 P) W.BT.nil W.BT.nil) W.BT.nil) (W.BT.node (ho164 P) (W.BT.node (ho231 P) W.BT.nil W.BT.nil) W.BT.nil)))) (W.BT.node (ho46 P) (W.BT.node (ho59 P) (W.BT.node (ho75 P) (W.BT.node (ho110 P) (W.BT.node (ho176 P) W.BT.nil W.BT.nil) (W.BT.node (ho243 P) W.BT.nil W.BT.nil)) (W.BT.node (ho144 P) (W.BT.node (ho211 P) W.BT.nil W.BT.nil) W.BT.nil)) (W.BT.node (ho94 P) (W.BT.node (ho126 P) (W.BT.node (ho192 P) W.BT.nil W.BT.nil) W.BT.nil) (W.BT.node (ho160 P) (W.BT.node (ho227 P) W.BT.nil W.BT.nil) W.BT.nil))) (W.BT.node (ho67 P) (W.BT.node (ho83 P) (W.BT.node (ho118 P) (W.BT.node (ho184 P) W.BT.nil W.BT.nil) (W.BT.node (ho251 P) W.BT.nil W.BT.nil)) (W.BT.node (ho152 P) (W.BT.node (ho219 P) W.BT.nil W.BT.nil) W.BT.nil)) (W.BT.node (ho102 P) (W.BT.node (ho136 P) (W.BT.node (ho200 P) W.BT.nil W.BT.nil) W.BT.nil) (W.BT.node (ho168 P) (W.BT.node (ho235 P) W.BT.nil W.BT.nil) W.BT.nil))))))
noncomputable def hsts259 : List Stmt := [stA 9, stA 10, stA 11, stA 12, stA 13, stA 14, stA 15, stA 16]
noncomputable def htree299 (P : Params) : BT := W.BT.node (W.boot_o_0 P) (W.BT.node (W.boot_o_1 P) (W.BT.node (ho259 P) (W.BT.node (W.boot_o_7 P) (W.BT.node (ho52 P) (W.BT.node (ho68 P) (W.BT.node (ho103 P) (W.BT.node (ho169 P) W.BT.nil W.BT.nil) (W.BT.node (ho236 P) W.BT.nil W.BT.nil)) (W.BT.node (ho137 P) (W.BT.node (ho208 P) W.BT.nil W.BT.nil) (W.BT.node (ho270 P) W.BT.nil W.BT.nil))) (W.BT.node (ho90 P) (W.BT.node (ho119 P) (W.BT.node (ho185 P) W.BT.nil W.BT.nil) (W.BT.node (ho252 P) W.BT.nil W.BT.nil)) (W.BT.node (ho153 P) (W.BT.node (ho220 P) W.BT.nil W.BT.nil) (W.BT.node (ho286 P) W.BT.nil W.BT.nil)))) (W.BT.node (ho60 P) (W.BT.node (ho76 P) (W.BT.node (ho111 P) (W.BT.node (ho177 P) W.BT.nil W.BT.nil) (W.BT.node (ho244 P) W.BT.nil W.BT.nil)) (W.BT.node (ho145 P) (W.BT.node (ho212 P) W.BT.nil W.BT.nil) (W.BT.node (ho278 P) W.BT.nil W.BT.nil))) (W.BT.node (ho95 P) (W.BT.node (ho129 P) (W.BT.node (ho193 P) W.BT.nil W.BT.nil) (W.BT.node (ho262 P) W.BT.nil W.BT.nil)) (W.BT.node (ho161 P) (W.BT.node (ho228 P) W.BT.nil W.BT.nil) (W.BT.node (ho294 P) W.BT.nil W.BT.nil))))) (W.BT.node (ho43 P) (W.BT.node (ho56 P) (W.BT.node (ho72 P) (W.BT.node (ho107 P) (W.BT.node (ho173 P) W.BT.nil W.BT.nil) (W.BT.node (ho240 P) W.BT.nil W.BT.nil)) (W.BT.node (ho141 P) (W.BT.node (ho205 P) W.BT.nil W.BT.nil) (W.BT.node (ho274 P) W.BT.nil W.BT.nil))) (W.BT.node (ho91 P) (W.BT.node (ho123 P) (W.BT.node (ho189 P) W.BT.nil W.BT.nil) (W.BT.node (ho256 P) W.BT.nil W.BT.nil)) (W.BT.node (ho157 P) (W.BT.node (ho224 P) W.BT.nil W.BT.nil) (W.BT.node (ho290 P) W.BT.nil W.BT.nil)))) (W.BT.node (ho64 P) (W.BT.node (ho80 P) (W.BT.node (ho115 P) (W.BT.node (ho181 P) W.BT.nil W.BT.nil) (W.BT.node (ho248 P) W.BT.nil W.BT.nil)) (W.BT.node (ho149 P) (W.BT.node (ho216 P) W.BT.nil W.BT.nil) (W.BT.node (ho282 P) W.BT.nil W.BT.nil))) (W.BT.node (ho99 P) (W.BT.node (ho133 P) (W.BT.node (ho197 P) W.BT.nil W.BT.nil) (W.BT.node (ho266 P) W.BT.nil W.BT.nil)) (W.BT.node (ho165 P) (W.BT.node (ho232 P) W.BT.nil W.BT.nil) (W.BT.node (ho298 P) W.BT.nil W.BT.nil)))))) (W.BT.node (W.boot_o_5 P) (W.BT.node (W.boot_o_9 P) (W.BT.node (ho54 P) (W.BT.node (ho70 P) (W.BT.node (ho105 P) (W.BT.node (ho171 P) W.BT.nil W.BT.nil) (W.BT.node (ho238 P) W.BT.nil W.BT.nil)) (W.BT.node (ho139 P) (W.BT.node (ho203 P) W.BT.nil W.BT.nil) (W.BT.node (ho272 P) W.BT.nil W.BT.nil))) (W.BT.node (ho86 P) (W.BT.node (ho121 P) (W.BT.node (ho187 P) W.BT.nil W.BT.nil) (W.BT.node (ho254 P) W.BT.nil W.BT.nil)) (W.BT.node (ho155 P) (W.BT.node (ho222 P) W.BT.nil W.BT.nil) (W.BT.node (ho288 P) W.BT.nil W.BT.nil)))) (W.BT.node (ho62 P) (W.BT.node (ho78 P) (W.BT.node (ho113 P) (W.BT.node (ho179 P) W.BT.nil W.BT.nil) (W.BT.node (ho246 P) W.BT.nil W.BT.nil)) (W.BT.node (ho147 P) (W.BT.node (ho214 P) W.BT.nil W.BT.nil) (W.BT.node (ho280 P) W.BT.nil W.BT.nil))) (W.BT.node (ho97 P) (W.BT.node (ho131 P) (W.BT.node (ho195 P) W.BT.nil W.BT.nil) (W.BT.node (ho264 P) W.BT.nil W.BT.nil)) (W.BT.node (ho163 P) (W.BT.node (ho230 P) W.BT.nil W.BT.nil) (W.BT.node (ho296 P) W.BT.nil W.BT.nil))))) (W.BT.node (ho45 P) (W.BT.node (ho58 P) (W.BT.node (ho74 P) (W.BT.node (ho109 P) (W.BT.node (ho175 P) W.BT.nil W.BT.nil) (W.BT.node (ho242 P) W.BT.nil W.BT.nil)) (W.BT.node (ho143 P) (W.BT.node (ho210 P) W.BT.nil W.BT.nil) (W.BT.node (ho276 P) W.BT.nil W.BT.nil))) (W.BT.node (ho93 P) (W.BT.node (ho125 P) (W.BT.node (ho191 P) W.BT.nil W.BT.nil) (W.BT.node (ho258 P) W.BT.nil W.BT.nil)) (W.BT.node (ho159 P) (W.BT.node (ho226 P) W.BT.nil W.BT.nil) (W.BT.node (ho292 P) W.BT.nil W.BT.nil)))) (W.BT.node (ho66 P) (W.BT.node (ho82 P) (W.BT.node (ho117 P) (W.BT.node (ho183 P) W.BT.nil W.BT.nil) (W.BT.node (ho250 P) W.BT.nil W.BT.nil)) (W.BT.node (ho151 P) (W.BT.node (ho218 P) W.BT.nil W.BT.nil) (W.BT.node (ho284 P) W.BT.nil W.BT.nil))) (W.BT.node (ho101 P) (W.BT.node (ho135 P) (W.BT.node (ho199 P) W.BT.nil W.BT.nil) (W.BT.node (ho268 P) W.BT.nil W.BT.nil)) (W.BT.node (ho167 P) (W.BT.node (ho234 P) W.BT.nil W.BT.nil) W.BT.nil)))))) (W.BT.node (ho49 P) (W.BT.node (W.boot_o_4 P) (W.BT.node (W.boot_o_8 P) (W.BT.node (ho53 P) (W.BT.node (ho69 P) (W.BT.node (ho104 P) (W.BT.node (ho170 P) W.BT.nil W.BT.nil) (W.BT.node (ho237 P) W.BT.nil W.BT.nil)) (W.BT.node (ho138 P) (W.BT.node (ho202 P) W.BT.nil W.BT.nil) (W.BT.node (ho271 P) W.BT.nil W.BT.nil))) (W.BT.node (ho85 P) (W.BT.node (ho120 P) (W.BT.node (ho186 P) W.BT.nil W.BT.nil) (W.BT.node (ho253 P) W.BT.nil W.BT.nil)) (W.BT.node (ho154 P) (W.BT.node (ho221 P) W.BT.nil W.BT.nil) (W.BT.node (ho287 P) W.BT.nil W.BT.nil)))) (W.BT.node (ho61 P) (W.BT.node (ho77 P) (W.BT.node (ho112 P) (W.BT.node (ho178 P) W.BT.nil W.BT.nil) (W.BT.node (ho245 P) W.BT.nil W.BT.nil)) (W.BT.node (ho146 P) (W.BT.node (ho213 P) W.BT.nil W.BT.nil) (W.BT.node (ho279 P) W.BT.nil W.BT.nil))) (W.BT.node (ho96 P) (W.BT.node (ho130 P) (W.BT.node (ho194 P) W.BT.nil W.BT.nil) (W.BT.node (ho263 P) W.BT.nil W.BT.nil)) (W.BT.node (ho162 P) (W.BT.node (ho229 P) W.BT.nil W.BT.nil) (W.BT.node (ho295 P) W.BT.nil W.BT.nil))))) (W.BT.node (ho260 P) (W.BT.node (ho57 P) (W.BT.node (ho73 P) (W.BT.node (ho108 P) (W.BT.node (ho174 P) W.BT.nil W.BT.nil) (W.BT.node (ho241 P) W.BT.nil W.BT.nil)) (W.BT.node (ho142 P) (W.BT.node (ho209 P) W.BT.nil W.BT.nil) (W.BT.node (ho275 P) W.BT.nil W.BT.nil))) (W.BT.node (ho92 P) (W.BT.node (ho124 P) (W.BT.node (ho190 P) W.BT.nil W.BT.nil) (W.BT.node (ho257 P) W.BT.nil W.BT.nil)) (W.BT.node (ho158 P) (W.BT.node (ho225 P) W.BT.nil W.BT.nil) (W.BT.node (ho291 P) W.BT.nil W.BT.nil)))) (W.BT.node (ho65 P) (W.BT.node (ho81 P) (W.BT.node (ho116 P) (W.BT.node (ho182 P) W.BT.nil W.BT.nil) (W.BT.node (ho249 P) W.BT.nil W.BT.nil)) (W.BT.node (ho150 P) (W.BT.node (ho217 P) W.BT.nil W.BT.nil) (W.BT.node (ho283 P) W.BT.nil W.BT.nil))) (W.BT.node (ho100 P) (W.BT.node (ho134 P) (W.BT.node (ho198 P) W.BT.nil W.BT.nil) (W.BT.node (ho267 P) W.BT.nil W.BT.nil)) (W.BT.node (ho166 P) (W.BT.node (ho233 P) W.BT.nil W.BT.nil) (W.BT.node (ho299 P) W.BT.nil W.BT.nil)))))) (W.BT.node (W.boot_o_6 P) (W.BT.node (W.boot_o_10 P) (W.BT.node (ho55 P) (W.BT.node (ho71 P) (W.BT.node (ho106 P) (W.BT.node (ho172 P) W.BT.nil W.BT.nil) (W.BT.node (ho239 P) W.BT.nil W.BT.nil)) (W.BT.node (ho140 P) (W.BT.node (ho204 P) W.BT.nil W.BT.nil) (W.BT.node (ho273 P) W.BT.nil W.BT.nil))) (W.BT.node (ho87 P) (W.BT.node (ho122 P) (W.BT.node (ho188 P) W.BT.nil W.BT.nil) (W.BT.node (ho255 P) W.BT.nil W.BT.nil)) (W.BT.node (ho156 P) (W.BT.node (ho223 P) W.BT.nil W.BT.nil) (W.BT.node (ho289 P) W.BT.nil W.BT.nil)))) (W.BT.node (ho63 P) (W.BT.node (ho79 P) (W.BT.node (ho114 P) (W.BT.node (ho180 P) W.BT.nil W.BT.nil) (W.BT.node (ho247 P) W.BT.nil W.BT.nil)) (W.BT.node (ho148 P) (W.BT.node (ho215 P) W.BT.nil W.BT.nil) (W.BT.node (ho281 P) W.BT.nil W.BT.nil))) (W.BT.node (ho98 P) (W.BT.node (ho132 P) (W.BT.node (ho196 P) W.BT.nil W.BT.nil) (W.BT.node (ho265 P) W.BT.nil W.BT.nil)) (W.BT.node (ho164 P) (W.BT.node (ho231 P) W.BT.nil W.BT.nil) (W.BT.node (ho297 P) W.BT.nil W.BT.nil))))) (W.BT.node (ho46 P) (W.BT.node (ho59 P) (W.BT.node (ho75 P) (W.BT.node (ho110 P) (W.BT.node (ho176 P) W.BT.nil W.BT.nil) (W.BT.node (ho243 P) W.BT.nil W.BT.nil)) (W.BT.node (ho144 P) (W.BT.node (ho211 P) W.BT.nil W.BT.nil) (W.BT.node (ho277 P) W.BT.nil W.BT.nil))) (W.BT.node (ho94 P) (W.BT.node (ho126 P) (W.BT.node (ho192 P) W.BT.nil W.BT.nil) (W.BT.node (ho261 P) W.BT.nil W.BT.nil)) (W.BT.node (ho160 P) (W.BT.node (ho227 P) W.BT.nil W.BT.nil) (W.BT.node (ho293 P) W.BT.nil W.BT.nil)))) (W.BT.node (ho67 P) (W.BT.node (ho83 P) (W.BT.node (ho118 P) (W.BT.node (ho184 P) W.BT.nil W.BT.nil) (W.BT.node (ho251 P) W.BT.nil W.BT.nil)) (W.BT.node (ho152 P) (W.BT.node (ho219 P) W.BT.nil W.BT.nil) (W.BT.node (ho285 P) W.BT.nil W.BT.nil))) (W.BT.node (ho102 P) (W.BT.node (ho136 P) (W.BT.node (ho200 P) W.BT.nil W.BT.nil) (W.BT.node (ho269 P) W.BT.nil W.BT.nil)) (W.BT.node (ho168 P) (W.BT.node (ho235 P) W.BT.nil W.BT.nil) W.BT.nil))))))
noncomputable def hheap300 (P : Params) : Heap := Heap.mk (Array.mk ((W.boot_o_0 P) :: (W.boot_o_1 P) :: (ho49 P) :: (ho259 P) :: (W.boot_o_4 P) :: (W.boot_o_5 P) :: (W.boot_o_6 P) :: (W.boot_o_7 P) :: (W.boot_o_8 P) :: (W.boot_o_9 P) :: (W.boot_o_10 P) :: (ho43 P) :: (ho260 P) :: (ho45 P) :: (ho46 P) :: (ho52 P) :: (ho53 P) :: (ho54 P) :: (ho55 P) :: (ho56 P) :: (ho57 P) :: (ho58 P) :: (ho59 P) :: (ho60 P) :: (ho61 P) :: (ho62 P) :: (ho63 P) :: (ho64 P) :: (ho65 P) :: (ho66 P) :: (ho67 P) :: (ho68 P) :: (ho69 P) :: (ho70 P) :: (ho71 P) :: (ho72 P) :: (ho73 P) :: (ho74 P) :: (ho75 P) :: (ho76 P) :: (ho77 P) :: (ho78 P) :: (ho79 P) :: (ho80 P) :: (ho81 P) :: (ho82 P) :: (ho83 P) :: (ho90 P) :: (ho85 P) :: (ho86 P) :: (ho87 P) :: (ho91 P) :: (ho92 P) :: (ho93 P) :: (ho94 P) :: (ho95 P) :: (ho96 P) :: (ho97 P) :: (ho98 P) :: (ho99 P) :: (ho100 P) :: (ho101 P) :: (ho102 P) :: (ho103 P) :: (ho104 P) :: (ho105 P) :: (ho106 P) :: (ho107 P) :: (ho108 P) :: (ho109 P) :: (ho110 P) :: (ho111 P) :: (ho112 P) :: (ho113 P) :: (ho114 P) :: (ho115 P) :: (ho116 P) :: (ho117 P) :: (ho118 P) :: (ho119 P) :: (ho120 P) :: (ho121 P) :: (ho122 P) :: (ho123 P) :: (ho124 P) :: (ho125 P) :: (ho126 P) :: (ho129 P) :: (ho130 P) :: (ho131 P) :: (ho132 P) :: (ho133 P) :: (ho134 P) :: (ho135 P) :: (ho136 P) :: (ho137 P) :: (ho138 P) :: (ho139 P) :: (ho140 P) :: (ho141 P) :: (ho142 P) :: (ho143 P) :: (ho144 P) :: (ho145 P) :: (ho146 P) :: (ho147 P) :: (ho148 P) :: (ho149 P) :: (ho150 P) :: (ho151 P) :: (ho152 P) :: (ho153 P) :: (ho154 P) :: (ho155 P) :: (ho156 P) :: (ho157 P) :: (ho158 P) :: (ho159 P) :: (ho160 P) :: (ho161 P) :: (ho162 P) :: (ho163 P) :: (ho164 P) :: (ho165 P) :: (ho166 P) :: (ho167 P) :: (ho168 P) :: (ho169 P) :: (ho170 P) :: (ho171 P) :: (ho172 P) :: (ho173 P) :: (ho174 P) :: (ho175 P) :: (ho176 P) :: (ho177 P) :: (ho178 P) :: (ho179 P) :: (ho180 P) :: (ho181 P) :: (ho182 P) :: (ho183 P) :: (ho184 P) :: (ho185 P) :: (ho186 P) :: (ho187 P) :: (ho188 P) :: (ho189 P) :: (ho190 P) :: (ho191 P) :: (ho192 P) :: (ho193 P) :: (ho194 P) :: (ho195 P) :: (ho196 P) :: (ho197 P) :: (ho198 P) :: (ho199 P) :: (ho200 P) :: (ho208 P) :: (ho202 P) :: (ho203 P) :: (ho204 P) :: (ho205 P) :: (ho209 P) :: (ho210 P) :: (ho211 P) :: (ho212 P) :: (ho213 P) :: (ho214 P) :: (ho215 P) :: (ho216 P) :: (ho217 P) :: (ho218 P) :: (ho219 P) :: (ho220 P) :: (ho221 P) :: (ho222 P) :: (ho223 P) :: (ho224 P) :: (ho225 P) :: (ho226 P) :: (ho227 P) :: (ho228 P) :: (ho229 P) :: (ho230 P) :: (ho231 P) :: (ho232 P) :: (ho233 P) :: (ho234 P) :: (ho235 P) :: (ho236 P) :: (ho237 P) :: (ho238 P) :: (ho239 P) :: (ho240 P) :: (ho241 P) :: (ho242 P) :: (ho243 P) :: (ho244 P) :: (ho245 P) :: (ho246 P) :: (ho247 P) :: (ho248 P) :: (ho249 P) :: (ho250 P) :: (ho251 P) :: (ho252 P) :: (ho253 P) :: (ho254 P) :: (ho255 P) :: (ho256 P) :: (ho257 P) :: (ho258 P) :: (ho261 P) :: (ho262 P) :: (ho263 P) :: (ho264 P) :: (ho265 P) :: (ho266 P) :: (ho267 P) :: (ho268 P) :: (ho269 P) :: (ho270 P) :: (ho271 P) :: (ho272 P) :: (ho273 P) :: (ho274 P) :: (ho275 P) :: (ho276 P) :: (ho277 P) :: (ho278 P) :: (ho279 P) :: (ho280 P) :: (ho281 P) :: (ho282 P) :: (ho283 P) :: (ho284 P) :: (ho285 P) :: (ho286 P) :: (ho287 P) :: (ho288 P) :: (ho289 P) :: (ho290 P) :: (ho291 P) :: (ho292 P) :: (ho293 P) :: (ho294 P) :: (ho295 P) :: (ho296 P) :: (ho297 P) :: (ho298 P) :: (ho299 P) :: [])) (Life.mk [] [] [] 0 [] [] Bool.false #[] [] 0 Bool.false Bool.false Bool.false 0 [2000, 10, 10] Bool.false 0 Bool.true [] [] 0 Bool.false)
noncomputable def HK (P : Params) : Frag := (2, ho49 P) :: (3, ho259 P) :: (15, ho52 P) :: (17, ho54 P) :: (18, ho55 P) :: (20, ho57 P) :: (21, ho58 P) :: (22, ho59 P) :: (25, ho62 P) :: (30, ho67 P) :: (31, ho68 P) :: (33, ho70 P) :: (34, ho71 P) :: (36, ho73 P) :: (37, ho74 P) :: (38, ho75 P) :: (40, ho77 P) :: (41, ho78 P) :: (43, ho80 P) :: (44, ho81 P) :: (45, ho82 P) :: (46, ho83 P) :: (47, ho90 P) :: (48, ho85 P) :: (51, ho91 P) :: (54, ho94 P) :: (59, ho99 P) :: (60, ho100 P) :: (62, ho102 P) :: (63, ho103 P) :: (65, ho105 P) :: (66, ho106 P) :: (67, ho107 P) :: (69, ho109 P) :: (70, ho110 P) :: (72, ho112 P) :: (73, ho113 P) :: (74, ho114 P) :: (75, ho115 P) :: (76, ho116 P) :: (79, ho119 P) :: (80, ho120 P) :: (82, ho122 P) :: (83, ho123 P) :: (85, ho125 P) :: (86, ho126 P) :: (94, ho136 P) :: (96, ho138 P) :: (97, ho139 P) :: (99, ho141 P) :: (100, ho142 P) :: (101, ho143 P) :: (103, ho145 P) :: (104, ho146 P) :: (106, ho148 P) :: (107, ho149 P) :: (108, ho150 P) :: (110, ho152 P) :: (111, ho153 P) :: (113, ho155 P) :: (114, ho156 P) :: (115, ho157 P) :: (117, ho159 P) :: (118, ho160 P) :: (120, ho162 P) :: (121, ho163 P) :: (122, ho164 P) :: (124, ho166 P) :: (125, ho167 P) :: (127, ho169 P) :: (128, ho170 P) :: (129, ho171 P) :: (131, ho173 P) :: (132, ho174 P) :: (134, ho176 P) :: (135, ho177 P) :: (136, ho178 P) :: (138, ho180 P) :: (139, ho181 P) :: (141, ho183 P) :: (142, ho184 P) :: (143, ho185 P) :: (145, ho187 P) :: (146, ho188 P) :: (148, ho190 P) :: (149, ho191 P) :: (150, ho192 P) :: (152, ho194 P) :: (153, ho195 P) :: (155, ho197 P) :: (156, ho198 P) :: (157, ho199 P) :: (158, ho200 P) :: (159, ho208 P) :: (160, ho202 P) :: (161, ho203 P) :: (164, ho209 P) :: (171, ho216 P) :: (173, ho218 P) :: (174, ho219 P) :: (176, ho221 P) :: (177, ho222 P) :: (178, ho223 P) :: (181, ho226 P) :: (182, ho227 P) :: (183, ho228 P) :: (185, ho230 P) :: (186, ho231 P) :: (188, ho233 P) :: (189, ho234 P) :: (190, ho235 P) :: (192, ho237 P) :: (193, ho238 P) :: (195, ho240 P) :: (196, ho241 P) :: (197, ho242 P) :: (199, ho244 P) :: (200, ho245 P) :: (202, ho247 P) :: (203, ho248 P) :: (204, ho249 P) :: (207, ho252 P) :: (208, ho253 P) :: (209, ho254 P) :: (210, ho255 P) :: (211, ho256 P) :: (214, ho261 P) :: (216, ho263 P) :: (217, ho264 P) :: (219, ho266 P) :: (220, ho267 P) :: (221, ho268 P) :: (223, ho270 P) :: (224, ho271 P) :: (226, ho273 P) :: (227, ho274 P) :: (228, ho275 P) :: (231, ho278 P) :: (232, ho279 P) :: (233, ho280 P) :: (236, ho283 P) :: (237, ho284 P) :: (238, ho285 P) :: (241, ho288 P) :: (242, ho289 P) :: (243, ho290 P) :: (246, ho293 P) :: (247, ho294 P) :: (248, ho295 P) :: (251, ho298 P) :: (252, ho299 P) :: []
abbrev asK : List Addr := 2 :: 3 :: 15 :: 17 :: 18 :: 20 :: 21 :: 22 :: 25 :: 30 :: 31 :: 33 :: 34 :: 36 :: 37 :: 38 :: 40 :: 41 :: 43 :: 44 :: 45 :: 46 :: 47 :: 48 :: 51 :: 54 :: 59 :: 60 :: 62 :: 63 :: 65 :: 66 :: 67 :: 69 :: 70 :: 72 :: 73 :: 74 :: 75 :: 76 :: 79 :: 80 :: 82 :: 83 :: 85 :: 86 :: 94 :: 96 :: 97 :: 99 :: 100 :: 101 :: 103 :: 104 :: 106 :: 107 :: 108 :: 110 :: 111 :: 113 :: 114 :: 115 :: 117 :: 118 :: 120 :: 121 :: 122 :: 124 :: 125 :: 127 :: 128 :: 129 :: 131 :: 132 :: 134 :: 135 :: 136 :: 138 :: 139 :: 141 :: 142 :: 143 :: 145 :: 146 :: 148 :: 149 :: 150 :: 152 :: 153 :: 155 :: 156 :: 157 :: 158 :: 159 :: 160 :: 161 :: 164 :: 171 :: 173 :: 174 :: 176 :: 177 :: 178 :: 181 :: 182 :: 183 :: 185 :: 186 :: 188 :: 189 :: 190 :: 192 :: 193 :: 195 :: 196 :: 197 :: 199 :: 200 :: 202 :: 203 :: 204 :: 207 :: 208 :: 209 :: 210 :: 211 :: 214 :: 216 :: 217 :: 219 :: 220 :: 221 :: 223 :: 224 :: 226 :: 227 :: 228 :: 231 :: 232 :: 233 :: 236 :: 237 :: 238 :: 241 :: 242 :: 243 :: 246 :: 247 :: 248 :: 251 :: 252 :: []
theorem asK_ok : ∀ P, asK = (HK P).map (·.1) := fun _ => by rfl
noncomputable def vw : Program := view PW [0, 2, 3, 5, 6, 7, 8, 10, 11, 12, 13, 14, 15, 16]
end Mine

open PySem PySem.W PyProof.Rows
set_option Elab.async false
set_option linter.all false
set_option maxRecDepth 100000
set_option maxHeartbeats 0
namespace Mine
noncomputable abbrev hk : Hook := kHook HK asK asK_ok
abbrev rrow : RowW := PySem.Challenge.rw_qz0005_01.row.toRowW
noncomputable def xt (s : Shared) : Bool := xlAt vw [] s && recOk (RowW.records rrow) s
theorem pc47 : ∀ w : World, (fun os => W.topGo treeTable PW w 11 (some (Value.ref 6)) 12 (Shared.mk (W.boot_heap (World.params w)) (Array.mk []) W.boot_drawn W.boot_toks os) (W.topStub PW)) = (fun os => some (Shared.mk (hheap46 (World.params w)) (Array.mk []) (Drawn.mk 0 0 0 0) 187 os, Thread.mk (denote treeTable (Code.body (W.behindTheImports PW) henv41)) (Code.body (W.behindTheImports PW) henv41) (Pos.mk 0 0 0 0) [W.topFrame (Pos.mk 0 0 0 0)])) := by
  intro w
  rw [PySem.W.Fast.te15667345088766844465, PySem.W.Fast.te14364793385576792824, PySem.W.Fast.te11892475500146522536]
  kernel_rfl
theorem pc49 : ∀ w : World, (fun os => W.segRun treeTable PW w 11 (some (Value.ref 6)) 1 1 (Shared.mk (hheap46 (World.params w)) (Array.mk []) (Drawn.mk 0 0 0 0) 187 os) (W.blockOf (W.behindTheImports PW) henv41 (Code.body (W.behindTheImports PW) henv41) (Pos.mk 0 0 0 0) [W.topFrame (Pos.mk 0 0 0 0)])) = (fun os => some (Flow.next, (W.SharedT.abs (W.SharedT.mk (htree47 (World.params w)) 15 (Life.mk [] [] [] 0 [] [] Bool.false #[] [] 0 Bool.false Bool.false Bool.false 0 [2000, 10, 10] Bool.false 0 Bool.true [] [] 0 Bool.false) (Array.mk []) (Drawn.mk 0 0 0 0) 187 os), (Code.body (W.behindTheImports PW) henv41, Pos.mk 0 0 0 0)))) := by
  intro w
  rw [PySem.W.Fast.te14374325043358763698, PySem.W.Fast.te14364793385576792824]
  kernel_rfl
theorem pc88 : ∀ w : World, (fun os => W.segRunT treeTable PW w 11 (some (Value.ref 6)) 1 314 (W.SharedT.mk (htree47 (World.params w)) 15 (Life.mk [] [] [] 0 [] [] Bool.false #[] [] 0 Bool.false Bool.false Bool.false 0 [2000, 10, 10] Bool.false 0 Bool.true [] [] 0 Bool.false) (Array.mk []) (Drawn.mk 0 0 0 0) 187 os) (W.piecesOf hsts49 henv41 (Code.body (W.behindTheImports PW) henv41) (Pos.mk 0 0 0 0) [W.topFrame (Pos.mk 0 0 0 0)])) = (fun os => some (Flow.next, (W.SharedT.mk (htree87 (World.params w)) 51 (Life.mk [] [] [] 0 [] [] Bool.false #[] [] 0 Bool.false Bool.false Bool.false 0 [2000, 10, 10] Bool.false 0 Bool.true [] [] 0 Bool.false) (Array.mk []) (Drawn.mk 0 0 0 0) 234 os, (Code.body (W.behindTheImports PW) henv41, Pos.mk 5 0 12 16)))) := by
  intro w
  rw [PySem.W.Fast.te10110043849684766642, PySem.W.Fast.te14364793385576792824]
  kernel_rfl
theorem pc127 : ∀ w : World, (fun os => W.segRunT treeTable PW w 11 (some (Value.ref 6)) 1 354 (W.SharedT.mk (htree87 (World.params w)) 51 (Life.mk [] [] [] 0 [] [] Bool.false #[] [] 0 Bool.false Bool.false Bool.false 0 [2000, 10, 10] Bool.false 0 Bool.true [] [] 0 Bool.false) (Array.mk []) (Drawn.mk 0 0 0 0) 234 os) (W.piecesOf hsts88 henv41 (Code.body (W.behindTheImports PW) henv41) (Pos.mk 5 0 12 16) [W.topFrame (Pos.mk 0 0 0 0)])) = (fun os => some (Flow.next, (W.SharedT.mk (htree126 (World.params w)) 87 (Life.mk [] [] [] 0 [] [] Bool.false #[] [] 0 Bool.false Bool.false Bool.false 0 [2000, 10, 10] Bool.false 0 Bool.true [] [] 0 Bool.false) (Array.mk []) (Drawn.mk 0 0 0 0) 291 os, (Code.body (W.behindTheImports PW) henv41, Pos.mk 23 0 29 15)))) := by
  intro w
  rw [PySem.W.Fast.te10110043849684766642, PySem.W.Fast.te14364793385576792824]
  kernel_rfl
theorem pc206 : ∀ w : World, (fun os => W.segRunT treeTable PW w 11 (some (Value.ref 6)) 1 485 (W.SharedT.mk (htree126 (World.params w)) 87 (Life.mk [] [] [] 0 [] [] Bool.false #[] [] 0 Bool.false Bool.false Bool.false 0 [2000, 10, 10] Bool.false 0 Bool.true [] [] 0 Bool.false) (Array.mk []) (Drawn.mk 0 0 0 0) 291 os) (W.piecesOf hsts127 henv41 (Code.body (W.behindTheImports PW) henv41) (Pos.mk 23 0 29 15) [W.topFrame (Pos.mk 0 0 0 0)])) = (fun os => some (Flow.next, (W.SharedT.mk (htree205 (World.params w)) 164 (Life.mk [] [] [] 0 [] [] Bool.false #[] [] 0 Bool.false Bool.false Bool.false 0 [2000, 10, 10] Bool.false 0 Bool.true [] [] 0 Bool.false) (Array.mk []) (Drawn.mk 0 0 0 0) 390 os, (Code.body (W.behindTheImports PW) henv41, Pos.mk 30 0 74 16)))) := by
  intro w
  rw [PySem.W.Fast.te10110043849684766642, PySem.W.Fast.te14364793385576792824]
  kernel_rfl
theorem pc259 : ∀ w : World, (fun os => W.segRunT treeTable PW w 11 (some (Value.ref 6)) 1 398 (W.SharedT.mk (htree205 (World.params w)) 164 (Life.mk [] [] [] 0 [] [] Bool.false #[] [] 0 Bool.false Bool.false Bool.false 0 [2000, 10, 10] Bool.false 0 Bool.true [] [] 0 Bool.false) (Array.mk []) (Drawn.mk 0 0 0 0) 390 os) (W.piecesOf hsts206 henv41 (Code.body (W.behindTheImports PW) henv41) (Pos.mk 30 0 74 16) [W.topFrame (Pos.mk 0 0 0 0)])) = (fun os => some (Flow.next, (W.SharedT.mk (htree258 (World.params w)) 214 (Life.mk [] [] [] 0 [] [] Bool.false #[] [] 0 Bool.false Bool.false Bool.false 0 [2000, 10, 10] Bool.false 0 Bool.true [] [] 0 Bool.false) (Array.mk []) (Drawn.mk 0 0 0 0) 451 os, (Code.body (W.behindTheImports PW) henv41, Pos.mk 75 0 109 28)))) := by
  intro w
  rw [PySem.W.Fast.te10110043849684766642, PySem.W.Fast.te14364793385576792824]
  kernel_rfl
theorem pc300 : ∀ w : World, (fun os => W.segRunT treeTable PW w 11 (some (Value.ref 6)) 1 205 (W.SharedT.mk (htree258 (World.params w)) 214 (Life.mk [] [] [] 0 [] [] Bool.false #[] [] 0 Bool.false Bool.false Bool.false 0 [2000, 10, 10] Bool.false 0 Bool.true [] [] 0 Bool.false) (Array.mk []) (Drawn.mk 0 0 0 0) 451 os) (W.piecesOf hsts259 henv41 (Code.body (W.behindTheImports PW) henv41) (Pos.mk 75 0 109 28) [W.topFrame (Pos.mk 0 0 0 0)])) = (fun os => some (Flow.next, (W.SharedT.mk (htree299 (World.params w)) 253 (Life.mk [] [] [] 0 [] [] Bool.false #[] [] 0 Bool.false Bool.false Bool.false 0 [2000, 10, 10] Bool.false 0 Bool.true [] [] 0 Bool.false) (Array.mk []) (Drawn.mk 0 0 0 0) 504 os, (Code.body (W.behindTheImports PW) henv41, Pos.mk 163 0 180 70)))) := by
  intro w
  rw [PySem.W.Fast.te10110043849684766642, PySem.W.Fast.te14364793385576792824]
  kernel_rfl
theorem pc302 : ∀ w : World, (fun os => W.topRun treeTable PW w 11 (some (Value.ref 6)) 2 (W.SharedT.abs (W.SharedT.mk (htree299 (World.params w)) 253 (Life.mk [] [] [] 0 [] [] Bool.false #[] [] 0 Bool.false Bool.false Bool.false 0 [2000, 10, 10] Bool.false 0 Bool.true [] [] 0 Bool.false) (Array.mk []) (Drawn.mk 0 0 0 0) 504 os)) (Thread.mk (W.doneF Flow.next) (Code.body (W.behindTheImports PW) henv41) (Pos.mk 163 0 180 70) [W.topFrame (Pos.mk 0 0 0 0)])) = (fun os => some (Shared.mk (hheap300 (World.params w)) (Array.mk []) (Drawn.mk 0 0 0 0) 504 os)) := by
  intro w
  rw [PySem.W.Fast.te14082659384304107361, PySem.W.Fast.te14364793385576792824]
  kernel_rfl
theorem body_eq : behindTheImports PW = hsts49 ++ (hsts88 ++ (hsts127 ++ (hsts206 ++ (hsts259 ++ ([]))))) := by kernel_rfl
theorem run : ∀ w : World, ∀ os : OsState, (W.topRun treeTable PW w 11 (some (Value.ref 6)) (12 + (1 + (314 + (354 + (485 + (398 + (205 + 2))))))) (Shared.mk (W.boot_heap (World.params w)) (Array.mk []) W.boot_drawn W.boot_toks os) (W.topStub PW)) = (some (Shared.mk (hheap300 (World.params w)) (Array.mk []) (Drawn.mk 0 0 0 0) 504 os)) := by
  intro w os
  have k := piece_nil (env := henv41) (congrFun (pc302 w) os)
  have k := piece_app (l := hsts259) (rest := []) (segRun_of (congrFun (pc300 w) os)) k
  have k := piece_app (l := hsts206) (rest := (hsts259 ++ [])) (segRun_of (congrFun (pc259 w) os)) k
  have k := piece_app (l := hsts127) (rest := (hsts206 ++ (hsts259 ++ []))) (segRun_of (congrFun (pc206 w) os)) k
  have k := piece_app (l := hsts88) (rest := (hsts127 ++ (hsts206 ++ (hsts259 ++ [])))) (segRun_of (congrFun (pc127 w) os)) k
  have k := piece_app (l := hsts49) (rest := (hsts88 ++ (hsts127 ++ (hsts206 ++ (hsts259 ++ []))))) (segRun_of (congrFun (pc88 w) os)) k
  have k := (congrArg (fun b => topRun treeTable PW w 11 (some (Value.ref 6)) _ _ (restOf b henv41 (Code.body (behindTheImports PW) henv41) (Pos.mk 0 0 0 0) [topFrame (Pos.mk 0 0 0 0)])) body_eq).trans k
  exact go_top (congrFun (pc47 w) os) (piece_block (congrFun (pc49 w) os) k)
theorem opens : ∀ w : World, (fencedOpening treeTable PW w 3628).map (fun s => (s.heap, s.gens, s.drawn, s.toks)) = some (boot_heap w.params, Array.mk [], boot_drawn, boot_toks) := boot_open (by kernel_rfl) (by rfl) (fun s => by rfl)
theorem size0 : ∀ w : World, ((boot_heap w.params).isNs mainGlobals && (Array.mk [] : Array GenState).size == 0, (boot_heap w.params).objs.size, (boot_heap w.params).nsMap mainGlobals "__annotations__") = (true, 11, some (Value.ref 6)) := fun w => by kernel_rfl
theorem look1 : ∀ (w : World) (os : OsState), (staticsOk (importedModules PW.main.body) (boot_heap w.params) (hheap300 w.params) && namesBound PW (hheap300 w.params) && gensDone (Shared.mk (hheap300 (World.params w)) (Array.mk []) (Drawn.mk 0 0 0 0) 504 os) && laidKept (boot_heap w.params) (hheap300 w.params)) = true := fun w os => by kernel_rfl
theorem look2 : ∀ (w : World) (os : OsState), openSeen vw [] (importedModules PW.main.body) xt true (Shared.mk (hheap300 (World.params w)) (Array.mk []) (Drawn.mk 0 0 0 0) 504 os) = openGood vw [] := fun w os => by
  rw [PySem.W.Fast.te4187177175401517315]
  kernel_rfl
theorem look3 : ∀ (w : World) (os : OsState), hk.obs (Shared.mk (hheap300 (World.params w)) (Array.mk []) (Drawn.mk 0 0 0 0) 504 os) = hk.val w := fun w os => by kernel_rfl
theorem left : LeftO PW vw [] xt hk.obs hk.val 3628 :=
  LeftO.of_pieces (H₁ := hheap300) (gs₁ := Array.mk []) (d₁ := Drawn.mk 0 0 0 0) (k₁ := 504) opens size0 run (by rfl) fun w => funext fun os => looks_pair (look1 w os) (looks_pair (look2 w os) (look3 w os))
theorem law_of (h : PySem.Challenge.rw_qz0005_01.row.wellSaid = true → PySem.Challenge.rw_qz0005_01.row.Holds) : PySem.Challenge.rw_qz0005_01.Holds := by
  o_law
  exact h (by assumption)
theorem hd {d : DefRec} {kwd : List (Str × Expr)} (hdef : defOf vw rrow.name = some (d, kwd)) (hp : rrow.prog.theDef rrow.name = some (d.params, d.body, d.scope))
    (hk' : kwWritten? d.params.kwonlyargs d.params.kw_defaults = some kwd)
    (call : WalkO vw [] (XL vw []) hk.says rrow d kwd fun f vs => PySem.call f vs) : PySem.Challenge.rw_qz0005_01.Holds :=
  law_of fun said => by
    refine holds_open (q := vw) (loose := []) (Xt := xt) (XP := XL vw []) (Yf := hk.obs) (Ya := hk.val) (YP := hk.says) (N := 3628) left hk.of hk.keeps (fun s e => xl_of s (Bool.and_eq_true_iff.mp e).1) XL.keeps hdef hp hk' (fun s e => recFacts_of (Bool.and_eq_true_iff.mp e).2) (by rfl) said (by decide +kernel) ⟨rfl, rfl, rfl, rfl, rfl, by decide +kernel⟩ ?hw call
    case hw => w_witness2
end Mine

open PySem PySem.W PyProof.Rows PySem.Calls PyProof.V PySem.Spec PySem.SeqAt
set_option Elab.async false
set_option linter.all false
set_option maxRecDepth 100000
set_option maxHeartbeats 4000000
namespace Mine
noncomputable abbrev K1 (prog : Program) (w : World) (g : Heap) (mg mb : Str → Option Value) : Cx := { prog, w, g, K := HK w.params, mg, mb }
section
variable {prog : Program} {w : World} {g : Heap} {mg mb : Str → Option Value} {d : Nat} {env : Env} {ρ : Fra} {σ : Store}
theorem fld_steps : Fld (K1 prog w g mg mb) 211 "steps" := ⟨by kernel_rfl, by kernel_rfl, none, by kernel_rfl, by kernel_rfl⟩
theorem fld_named : Fld (K1 prog w g mg mb) 211 "named" := ⟨by kernel_rfl, by kernel_rfl, none, by kernel_rfl, by kernel_rfl⟩
theorem fld_empty : Fld (K1 prog w g mg mb) 211 "empty" := ⟨by kernel_rfl, by kernel_rfl, none, by kernel_rfl, by kernel_rfl⟩
theorem sto_steps : Sto (K1 prog w g mg mb) 211 "steps" := ⟨by kernel_rfl, by kernel_rfl, by kernel_rfl, by kernel_rfl⟩
theorem sto_named : Sto (K1 prog w g mg mb) 211 "named" := ⟨by kernel_rfl, by kernel_rfl, by kernel_rfl, by kernel_rfl⟩
theorem sto_empty : Sto (K1 prog w g mg mb) 211 "empty" := ⟨by kernel_rfl, by kernel_rfl, by kernel_rfl, by kernel_rfl⟩
theorem mth_add : Mth (K1 prog w g mg mb) 211 "add" 149 := ⟨by kernel_rfl, by kernel_rfl, by kernel_rfl⟩
theorem mth_size : Mth (K1 prog w g mg mb) 211 "size" 128 := ⟨by kernel_rfl, by kernel_rfl, by kernel_rfl⟩
theorem mth_clause : Mth (K1 prog w g mg mb) 211 "clause" 135 := ⟨by kernel_rfl, by kernel_rfl, by kernel_rfl⟩
theorem mth_needed : Mth (K1 prog w g mg mb) 211 "needed" 177 := ⟨by kernel_rfl, by kernel_rfl, by kernel_rfl⟩
theorem mth_trimmed : Mth (K1 prog w g mg mb) 211 "trimmed" 182 := ⟨by kernel_rfl, by kernel_rfl, by kernel_rfl⟩
theorem mth_name : Mth (K1 prog w g mg mb) 211 "name" 107 := ⟨by kernel_rfl, by kernel_rfl, by kernel_rfl⟩

theorem keep_fn {a : Addr} (h : keepIn (HK w.params) (.ref a) = true := by kernel_rfl) : KeepOk (K1 prog w g mg mb) (.ref a) := KeepOk.own h

theorem init_spec {dx : Addr} {Q : V → Store → Prop} (e : σ dx = some (.ns 0 fun _ => none))
    (h : ∀ s n σ', σ s = none → σ n = none → Same [dx] σ σ' → IsPf σ' dx s n (-1) [] → Q .none σ') :
    Kw (K1 prog w g mg mb) 8 (.ref 100) [.obj 211 dx] Q σ := by
  refine Kw_def (d := 7) ["self"] (by with_unfolding_all rfl) (by kernel_rfl) (fun ws h => by match ws, h with | [a], _ => rfl) (by decide) (fun L => ?_)
  refine Sx_cons (S1_Assign (Ew_List (Ew_items_nil ⟨by decide, fun s hs => ?_⟩)))
  have d1 : dx ≠ s := ne_of e hs
  refine Asg_AttrN (k := 0) (f := fun _ => none) rfl (by rw [Store.set_ne d1]; exact e) (by decide) sto_steps ?_
  refine Sx_cons (S1_Assign (Ew_List (Ew_items_cons (Ew_int (Ew_items_nil ⟨by decide, fun n hn => ?_⟩)))))
  have hn' : n ≠ dx := fun z => by subst z; simp at hn
  have hn2 : n ≠ s := fun z => by subst z; rw [Store.set_ne (Ne.symm d1)] at hn; simp at hn
  have hn3 : σ n = none := by rw [Store.set_ne hn', Store.set_ne hn2] at hn; exact hn
  refine Asg_AttrN (k := 1) rfl (by rw [Store.set_ne (Ne.symm hn'), Store.set_self]; rfl) (by decide) sto_named ?_
  refine Sx_cons (S1_Assign (Ew_UnaryOp (Ew_int (O1_neg ?_))))
  refine Asg_AttrN (k := 2) rfl (by rw [Store.set_self]; rfl) (by decide) sto_empty ?_
  refine Sx_nil (h s n _ hs hn3 ?_ ⟨?_, ?_, ?_, Ne.symm hn2⟩)
  · exact ((((((Same.refl _ _).new hs).put (List.mem_singleton.mpr rfl)).new hn).put (List.mem_singleton.mpr rfl)).put (List.mem_singleton.mpr rfl))
  · rw [Store.set_self]; rfl
  · rw [Store.set_ne (Ne.symm d1), Store.set_ne (Ne.symm d1), Store.set_ne (Ne.symm hn2), Store.set_ne (Ne.symm d1), Store.set_self]; rfl
  · rw [Store.set_ne hn', Store.set_ne hn', Store.set_self]

theorem make_spec {Q : V → Store → Prop} (h : ∀ dx s n σ', σ dx = none → σ s = none → σ n = none → Same [] σ σ' → IsPf σ' dx s n (-1) [] → Q (.obj 211 dx) σ') :
    Kw (K1 prog w g mg mb) 10 (.ref 211) [] Q σ :=
  Kw_make (fI := 100) (by kernel_rfl) (by kernel_rfl) (by kernel_rfl) fun dx hdx => (init_spec (σ := σ.set dx (.ns 0 fun _ => none)) (Store.set_self ..) (Q := fun v σ' => v = .none ∧ Q (.obj 211 dx) σ') fun s n σ' hs hn sm p => by
    have e1 : ∀ x, (σ.set dx (.ns 0 fun _ => none)) x = none → σ x = none := fun x hx => by
      rw [Store.set_ne (fun z => by subst z; simp at hx)] at hx; exact hx
    refine ⟨rfl, h dx s n σ' hdx (e1 s hs) (e1 n hn) ?_ p⟩
    exact (((Same.refl [dx] σ).new hdx).trans sm).drop fun a ha => .inr (by rw [List.mem_singleton.mp ha]; exact hdx))

theorem size_spec {dx s n : Addr} {e : Int} {rows : List Stp'} {Q : V → Store → Prop} (p : IsPf σ dx s n e rows) (hz : rows.length ≤ 1000) (h : Q (.int rows.length) σ) : Kw (K1 prog w g mg mb) 8 (.ref 128) [.obj 211 dx] Q σ := by
  refine Kw_def (d := 7) ["self"] (by with_unfolding_all rfl) (by kernel_rfl) (fun ws h => by match ws, h with | [a], _ => rfl) (by decide) (fun L => ?_)
  refine Sx_cons (S1_Return (Ew_CallG (EvF.bltK (by kernel_rfl) rfl) KeepOk.builtin (Ew_item (v := .none) (Ew_AttrN rfl p.dx rfl fld_steps (Cw_lenL p.st (by simp; omega) ?_)))))
  simpa [behind, retOf] using h

theorem clause_spec {dx s n : Addr} {e : Int} {rows : List Stp'} {i : Nat} {r : Stp'} {Q : V → Store → Prop} (p : IsPf σ dx s n e rows) (hz : rows.length ≤ 1000) (hr : rows[i]? = some r) (h : Q (.tup (r.clause.map V.int)) σ) : Kw (K1 prog w g mg mb) 8 (.ref 135) [.obj 211 dx, .int i] Q σ := by
  refine Kw_def (d := 7) ["self", "step"] (by with_unfolding_all rfl) (by kernel_rfl) (fun ws h => by match ws, h with | [a, b], _ => rfl) (by decide) (fun L => ?_)
  refine Sx_cons (S1_Return (Ew_Subscript (Ew_Subscript (Ew_AttrN rfl p.dx rfl fld_steps (Ew_name rfl (subL p.st (v := stepV r) (by simp [hr]) (by simp; omega) (Ew_int (subT (k := 1) (vs := [.str r.rule, .tup (r.clause.map V.int), .tup (r.prem.map fun n : Nat => V.int n), r.note]) rfl ?_))))))))
  exact h

theorem tidy_spec {cl : List Int} {Q : V → Store → Prop} (h1 : cl.length ≤ 1) (h0 : ∀ c ∈ cl, c ≠ 0) (h : Q (.bool true) σ) : Kw (K1 prog w g mg mb) 8 (.ref 86) [.tup (cl.map V.int)] Q σ := by
  refine Kw_def (d := 7) ["clause"] (by with_unfolding_all rfl) (by kernel_rfl) (fun ws h => by match ws, h with | [a], _ => rfl) (by decide) (fun L => ?_)
  have hl : (cl.map V.int).length ≤ 1000000 := by simp; omega
  refine Sx_cons (S1_For (fun it i ρ' σ' => it = .rng 0 1 cl.length ∧ σ' = σ ∧ i ≤ cl.length ∧ ρ' "clause" = some (.tup (cl.map V.int))) (Iw_val (Ew_CallG (EvF.bltK (by kernel_rfl) rfl) KeepOk.type (Ew_item (v := .none) (Ew_CallG (EvF.bltK (by kernel_rfl) rfl) KeepOk.builtin (Ew_item (v := .none) (Ew_name rfl (Cw_lenT hl (Cw_range1 ?_)))))))))
  rw [List.length_map]
  refine ⟨_, itR1 (by omega), .inl ⟨⟨_, _, rfl⟩, fun _ z => by cases z⟩, ⟨rfl, rfl, Nat.zero_le _, rfl⟩, cl.length, ?_⟩
  rintro i ρ' σ' ⟨-, rfl, hi, hc⟩
  refine ⟨hi, trivial, fun v hv => ?_, fun _ => Sx_cons (S1_Return (Ew_bool h))⟩
  simp only [It.at] at hv
  split at hv
  · rename_i hlt
    cases hv
    have e0 : i = 0 := by omega
    subst e0
    obtain ⟨c, e⟩ : ∃ c, cl = [c] := by
      match cl, h1, hlt with
      | [c], _, _ => exact ⟨c, rfl⟩
      | [], _, h => exact absurd h (by decide)
      | _ :: _ :: _, h, _ => exact absurd h (by simp)
    subst e
    refine Asg_Name (.inl rfl) ?_
    refine Sx_cons (S1_If (Ew_isCompare (Ew_Subscript (Ew_name ((Fra.set_ne (by decide)).trans hc) (Ew_name (Fra.set_self ..) (subT (k := 0) rfl (Ew_int (O2_eq ⟨_, rfl, fun hb => ?_, fun _ => ?_⟩))))))))
    · exact absurd (beq_iff_eq.mp hb) (h0 c (.head _))
    refine Sx_nil (Sx_cons (S1_If (Ew_isAnd (Ew_and_cons (Ew_isCompare (Ew_name (Fra.set_self ..) (Ew_int (O2_gt ⟨_, rfl, fun hb => absurd hb (by decide), fun _ => ⟨(fun z => by cases z), fun _ => ?_⟩⟩))))))))
    exact Sx_nil (Sx_nil ⟨rfl, rfl, Nat.le_refl _, (Fra.set_ne (by decide)).trans hc⟩)
  · cases hv
end
end Mine

open PySem PySem.W PyProof.Rows PySem.Calls PyProof.V PySem.Spec PySem.SeqAt
set_option Elab.async false
set_option linter.all false
set_option maxRecDepth 100000
set_option maxHeartbeats 4000000
namespace Mine
section
variable {prog : Program} {w : World} {g : Heap} {mg mb : Str → Option Value} {d : Nat} {env : Env} {ρ : Fra} {σ : Store}

theorem pfns_put (s n : Addr) (e e' : Int) : (fun y : Str => if y = "empty" then some (V.int e') else pfns s n e y) = pfns s n e' := by
  funext y
  unfold pfns
  by_cases h : y = "empty"
  · rw [if_pos h, if_pos h]
  · rw [if_neg h, if_neg h, if_neg h]

theorem add_spec {dx s n : Addr} {e : Int} {rows : List Stp'} {r : Stp'} {Q : V → Store → Prop} (p : IsPf σ dx s n e rows) (hz : rows.length ≤ 1000) (hr : r.rule ∈ rulesL) (h1 : r.clause.length ≤ 1) (h0 : ∀ c ∈ r.clause, c ≠ 0) (hp : ∀ m ∈ r.prem, m < rows.length) (hpl : r.prem.length ≤ 1000)
    (h : ∀ σ' e', Same [s, dx] σ σ' → IsPf σ' dx s n e' (rows ++ [r]) → Q (.int rows.length) σ') : Kw (K1 prog w g mg mb) 10 (.ref 149) [.obj 211 dx, .str r.rule, .tup (r.clause.map V.int), .tup (r.prem.map fun n : Nat => V.int n), r.note] Q σ := by
  refine Kw_def (d := 9) ["self", "rule", "clause", "premises", "note"] (by with_unfolding_all rfl) (by kernel_rfl) (fun ws h => by match ws, h with | [a, b, c, d, e], _ => rfl) (by decide) (fun L => ?_)
  have hl : (rows.map stepV).length ≤ 1000000 := by simp; omega
  refine Sx_cons (S1_Assign (Ew_CallG (EvF.bltK (by kernel_rfl) rfl) KeepOk.builtin (Ew_item (v := .none) (Ew_AttrN rfl p.dx rfl fld_steps (Cw_lenL p.st hl (Asg_Name (.inl rfl) ?_))))))
  rw [List.length_map]
  refine Sx_cons (S1_If (Ew_isCompare (Ew_name rfl (Ew_globK (v := .tup (rulesL.map V.str)) (by with_unfolding_all rfl) (fun h X => ?_) (O2_notInStrs ⟨_, rfl, fun hb => ?_, fun _ => ?_⟩)))))
  · exact ⟨_, _, _, rfl, X _ _ (by with_unfolding_all rfl), by
      unfold rulesL
      simp only [List.map_cons, List.map_nil]
      repeat (first | exact VRels.nil | refine VRels.cons ⟨_, rfl⟩ ?_)⟩
  · simp [hr] at hb
  refine Sx_nil (Sx_cons (S1_If (Ew_isNot (Ew_isBool (Ew_CallG (EvF.globK (by with_unfolding_all rfl)) keep_fn (Ew_item (v := .none) (Ew_name rfl ((tidy_spec h1 h0 ⟨true, rfl, (fun z => by cases z), fun _ => ?_⟩).cwle (by decide)))))))))
  refine Sx_nil (Sx_cons ?_)
  refine S1_ForL ["one"] (fun it i ρ' σ' => it = .tup (r.prem.map fun n : Nat => V.int n) ∧ σ' = σ ∧ i ≤ r.prem.length) (Iw_val (Ew_name rfl ?_))
  refine ⟨_, .tup, .inl ⟨⟨_, _, rfl⟩, fun _ z => by cases z⟩, ⟨rfl, rfl, Nat.zero_le _⟩, r.prem.length, ?_⟩
  rintro i ρ' σ' hρ ⟨-, rfl, hi⟩
  refine ⟨hi, trivial, fun v hv => ?_, fun hv => ?_⟩
  · simp only [It.at, List.getElem?_map, Option.map_eq_some_iff] at hv
    obtain ⟨m, hm, rfl⟩ := hv
    have hlt : m < rows.length := hp m (List.mem_of_getElem? hm)
    have hi' : i < r.prem.length := (List.getElem?_eq_some_iff.mp hm).1
    refine Asg_Name (.inl rfl) (Sx_cons (S1_If (Ew_isNot (Ew_isChain (Ew_int (Ew_name (Fra.set_self ..) (O2_le ⟨_, rfl, fun hb => ?_, fun _ => Ew_name (Fra.aside (hρ.at rfl)) (O2_lt ⟨_, rfl, fun hb => ?_, fun _ => ?_⟩)⟩)))))))
    · exact absurd (of_decide_eq_false hb) (by omega)
    · have : ¬ ((m : Int) < (rows.length : Int)) := by simpa using hb
      omega
    · exact Sx_nil (Sx_nil ⟨hρ.set (.head _), rfl, rfl, hi'⟩)
  refine Sx_cons (S1_Expr (Ew_CallM (Ew_AttrN (hρ.at rfl) p.dx rfl fld_steps ⟨_, MethOk.list p.st PySem.F.slot_list_append PySem.F.type_list_append, KeepOk.builtin, Ew_item (v := .none) (Ew_Tuple (Ew_items_cons (Ew_name (hρ.at rfl) (Ew_items_cons ?_))))⟩)))
  refine Ew_CallG (EvF.bltK (by kernel_rfl) rfl) KeepOk.type (Ew_item (v := .none) (Ew_name (hρ.at rfl) (Cw_tupleT (Ew_items_cons ?_))))
  refine Ew_CallG (EvF.bltK (by kernel_rfl) rfl) KeepOk.type (Ew_item (v := .none) (Ew_name (hρ.at rfl) (Cw_tupleT (Ew_items_cons ?_))))
  refine Ew_name (hρ.at rfl) (Ew_items_nil ⟨by simp, Cw_append p.st hl ?_⟩)
  have e0 : rows.map stepV ++ [V.tup [.str r.rule, .tup (r.clause.map V.int), .tup (r.prem.map fun n : Nat => V.int n), r.note]] = (rows ++ [r]).map stepV := by rw [List.map_append]; rfl
  rw [e0]
  have n1 : dx ≠ s := fun z => by have := p.dx; rw [z, p.st] at this; cases this
  have p1 : IsPf (σ'.set s (.list ((rows ++ [r]).map stepV))) dx s n e (rows ++ [r]) := ⟨(Store.set_ne n1).trans p.dx, Store.set_self .., (Store.set_ne (Ne.symm p.ne)).trans p.nm, p.ne⟩
  have s1 : Same [s, dx] σ' (σ'.set s (.list ((rows ++ [r]).map stepV))) := (Same.refl _ _).put (.head _)
  refine Sx_cons (S1_If (Ew_isAnd (Ew_and_cons (Ew_isCompare (Ew_CallG (EvF.bltK (by kernel_rfl) rfl) KeepOk.builtin (Ew_item (v := .none) (Ew_name (hρ.at rfl) (Cw_lenT (by simp; omega) (Ew_int (O2_eq ⟨_, rfl, fun _ => ?_, fun _ => ⟨(fun z => by cases z), fun _ => Sx_nil (Sx_cons (S1_Return (Ew_name (hρ.at rfl) (h _ e s1 p1))))⟩⟩))))))))))
  refine Ew_and_cons (Ew_isCompare (Ew_AttrN (hρ.at rfl) p1.dx rfl fld_empty (Ew_int (O2_lt ⟨_, rfl, fun _ => ?_, fun _ => ⟨(fun z => by cases z), fun _ => Sx_nil (Sx_cons (S1_Return (Ew_name (hρ.at rfl) (h _ e s1 p1))))⟩⟩))))
  refine Ew_and_nil ⟨fun _ => ?_, fun z => by cases z⟩
  refine Sx_cons (S1_Assign (Ew_name (hρ.at rfl) (Asg_AttrN (hρ.at rfl) p1.dx (by decide) sto_empty (Sx_nil (Sx_cons (S1_Return (Ew_name (hρ.at rfl) ?_)))))))
  refine h _ rows.length (s1.put (.tail _ (.head _))) ⟨?_, ?_, ?_, p.ne⟩
  · rw [Store.set_self, ← pfns_put s n e rows.length]; rfl
  · exact (Store.set_ne (Ne.symm n1)).trans p1.st
  · exact (Store.set_ne (fun z => by have := p.dx; rw [← z, p.nm] at this; cases this)).trans p1.nm
end
end Mine

open PySem PySem.W PyProof.Rows PySem.Calls PyProof.V PySem.Spec PySem.SeqAt
set_option Elab.async false
set_option linter.all false
set_option maxRecDepth 100000
set_option maxHeartbeats 4000000
namespace Mine
theorem keys_len {K : Nat} {kvs : List (Int × V)} (nd : (kvs.map (·.1)).Nodup) (h : ∀ m : Int, m ∈ kvs.map (·.1) → ∃ q : Nat, m = q ∧ q < K) : kvs.length ≤ K := by
  have := List.Nodup.length_le_of_subset nd (l₂ := zints (List.range K)) fun m hm => by
    obtain ⟨q, e, hq⟩ := h m hm
    exact mem_ints.mpr ⟨q, e, List.mem_range.mpr hq⟩
  simpa [zints] using this
section
variable {prog : Program} {w : World} {g : Heap} {mg mb : Str → Option Value} {d : Nat} {env : Env} {ρ : Fra} {σ : Store}

theorem needed_spec {dx s n : Addr} {e : Int} {rows : List Stp'} {last : Nat} {Q : V → Store → Prop} (p : IsPf σ dx s n e rows) (gr : GoodRows rows) (hlast : last < rows.length) (hz : rows.length ≤ 60)
    (h : ∀ a σ', σ a = none → Same [] σ σ' → σ' a = some (.list (vints (need (premsOf rows) last))) → Q (.ref a) σ') : Kw (K1 prog w g mg mb) 8 (.ref 177) [.obj 211 dx, .int last] Q σ := by
  have ah := gr.ahead
  refine Kw_def (d := 7) ["self", "last"] (by with_unfolding_all rfl) (by kernel_rfl) (fun ws h => by match ws, h with | [a, b], _ => rfl) (by decide) (fun L => ?_)
  refine Sx_cons (S1_Assign (Ew_DictK (knd := intKind prog w) (mk := O.idict) (fun _ _ _ => Iff.rfl) rfl rfl (by simp) (by decide) fun dd hdd => ?_))
  refine Ew_pairs_cons emb_int (Ew_name rfl ⟨(last : Int), rfl, Ew_bool (Ew_pairs_nil ⟨Store.set_self .., Asg_Name (.inl rfl) ?_⟩)⟩)
  refine Sx_cons (S1_ForL ["number", "one"] (fun it i ρ' σ' => it = .rng last (-1) (last + 1) ∧ i ≤ last + 1 ∧ Same [] σ σ' ∧ ∃ kvs, σ' dd = some (.idict kvs) ∧ (kvs.map (·.1)).Nodup ∧ ∀ m : Int, m ∈ kvs.map (·.1) ↔ ∃ q : Nat, m = q ∧ Wk (premsOf rows) last (last + 1 - i) q) (Iw_val ?_))
  refine Ew_CallG (EvF.bltK (by kernel_rfl) rfl) KeepOk.type (Ew_items_cons (Ew_name rfl (Ew_items_cons (Ew_UnaryOp (Ew_int (O1_neg (Ew_items_cons (Ew_UnaryOp (Ew_int (O1_neg (Ew_items_nil (Cw_range3 (by decide) (by decide) ?_))))))))))))
  refine ⟨_, itDown (by omega), .inl ⟨⟨_, _, rfl⟩, fun _ z => by cases z⟩, ⟨rfl, Nat.zero_le _, ?_, [((last : Int), .bool true)], ?_, by simp, fun m => ?_⟩, last + 1, ?_⟩
  · exact fun a o e _ => by rw [Store.set_ne (ne_of e hdd), Store.set_ne (ne_of e hdd)]; exact e
  · rw [Store.set_self]; rfl
  · simp only [List.map_cons, List.map_nil, List.mem_singleton, Nat.sub_zero, Wk_top ah]
    exact ⟨fun e => ⟨last, e, rfl⟩, fun ⟨q, e, z⟩ => by rw [e, z]⟩
  rintro i ρ' σ' hρ ⟨-, hi, sm, kvs, hk, nd, hm⟩
  have bound : ∀ m : Int, m ∈ kvs.map (·.1) → ∃ q : Nat, m = q ∧ q < last + 1 := fun m hm' => by
    obtain ⟨q, e, hq⟩ := (hm m).mp hm'
    exact ⟨q, e, Nat.lt_succ_of_le (Wk_le ah hq)⟩
  refine ⟨hi, trivial, fun v hv => ?_, fun hv => ?_⟩
  · simp only [It.at] at hv
    split at hv
    · rename_i hlt
      cases hv
      obtain ⟨num, hn⟩ : ∃ num : Nat, num + i = last := ⟨last - i, by omega⟩
      have e1 : (last : Int) + (i : Int) * (-1) = (num : Int) := by omega
      have e2 : last + 1 - i = num + 1 := by omega
      have e3 : last + 1 - (i + 1) = num := by omega
      rw [e1]
      rw [e2] at hm
      refine Asg_Name (.inl rfl) (Sx_cons (S1_If (Ew_isCompare (Ew_name (Fra.set_self ..) (Ew_name (Fra.aside (hρ.at rfl)) (O2_inD hk ⟨_, rfl, fun hb => ?_, fun hb => ?_⟩))))))
      · obtain ⟨q, eq, hq⟩ := (hm _).mp (hasK_iff.mp hb)
        have : q = num := (Int.ofNat_inj.mp eq).symm
        subst this
        have hnd : Needs (premsOf rows) last q := (Wk_at ah).mp hq
        obtain ⟨r, hr⟩ : ∃ r, rows[q]? = some r := ⟨rows[q]'(by omega), List.getElem?_eq_getElem _⟩
        have hP := premsOf_some hr
        have p' := p.keep sm (by simp) (by simp) (by simp)
        refine Sx_cons (S1_ForL ["one"] (fun it j ρ₂ σ₂ => it = .tup (r.prem.map fun n : Nat => V.int n) ∧ j ≤ r.prem.length ∧ Same [] σ σ₂ ∧ ∃ kvs, σ₂ dd = some (.idict kvs) ∧ (kvs.map (·.1)).Nodup ∧ ∀ m : Int, m ∈ kvs.map (·.1) ↔ ∃ x : Nat, m = x ∧ (Wk (premsOf rows) last (q + 1) x ∨ x ∈ r.prem.take j)) (Iw_val ?_))
        refine Ew_Subscript (Ew_Subscript (Ew_AttrN (Fra.aside (hρ.at rfl)) p'.dx rfl fld_steps (Ew_name (Fra.set_self ..) (subL p'.st (v := stepV r) (by simp [hr]) (by simp; omega) (Ew_int (subT (k := 2) (vs := [.str r.rule, .tup (r.clause.map V.int), .tup (r.prem.map fun n : Nat => V.int n), r.note]) rfl ?_))))))
        refine ⟨_, .tup, .inl ⟨⟨_, _, rfl⟩, fun _ z => by cases z⟩, ⟨rfl, Nat.zero_le _, sm, kvs, hk, nd, fun m => by simpa using hm m⟩, r.prem.length, ?_⟩
        rintro j ρ₂ σ₂ hρ₂ ⟨-, hj, sm₂, kvs₂, hk₂, nd₂, hm₂⟩
        refine ⟨hj, trivial, fun v hv => ?_, fun hv => ?_⟩
        · simp only [It.at, List.getElem?_map, Option.map_eq_some_iff] at hv
          obtain ⟨x, hx, rfl⟩ := hv
          have hj' : j < r.prem.length := (List.getElem?_eq_some_iff.mp hx).1
          have hlen : kvs₂.length ≤ last + 1 := keys_len nd₂ fun m hm' => by
            obtain ⟨x, e, hx⟩ := (hm₂ m).mp hm'
            refine ⟨x, e, Nat.lt_succ_of_le ?_⟩
            rcases hx with hx | hx
            · exact Wk_le ah hx
            · exact Needs.le ah (.step hnd (hP ▸ List.mem_of_mem_take hx))
          refine Asg_Name (.inl rfl) (Sx_cons (S1_Assign (Ew_bool (Asg_Subscript (Ew_name (Fra.aside (hρ₂.at (Fra.aside (hρ.at rfl)))) (Ew_name (Fra.set_self ..) (O3_setD hk₂ (by omega) (Sx_nil ⟨hρ₂.set (.head _), rfl, hj', ?_, _, Store.set_self .., nodup_putK nd₂, fun m => ?_⟩))))))))
          · exact fun a o e na => by
              rw [Store.set_ne (ne_of e hdd)]
              exact sm₂ a o e na
          · rw [mem_putK, hm₂, List.take_add_one, hx]
            simp only [Option.toList_some, List.mem_append, List.mem_singleton]
            constructor
            · rintro (e | ⟨y, e, hy⟩)
              · exact ⟨x, e, .inr (.inr rfl)⟩
              · exact ⟨y, e, hy.imp id .inl⟩
            · rintro ⟨y, e, hy | hy | hy⟩
              · exact .inr ⟨y, e, .inl hy⟩
              · exact .inr ⟨y, e, .inr hy⟩
              · exact .inl (by rw [e, hy])
        · have hj' : j = r.prem.length := by
            simp only [It.at, List.getElem?_map, Option.map_eq_none_iff, List.getElem?_eq_none_iff] at hv
            omega
          subst hj'
          rw [List.take_length] at hm₂
          refine Sx_nil (Sx_nil ⟨?_, rfl, hlt, sm₂, kvs₂, hk₂, nd₂, fun m => ?_⟩)
          · exact fun y hy => (hρ₂ y (fun z => hy (.tail _ z))).trans ((Fra.set_ne (fun z => hy (by rw [z]; exact .head _))).trans (hρ y hy))
          · rw [hm₂, e3]
            refine exists_congr fun x => and_congr_right fun _ => ?_
            rw [Wk_step (n := q), hP]
            exact or_congr_right ⟨fun z => ⟨hnd, z⟩, fun z => z.2⟩
      · refine Sx_nil (Sx_nil ⟨hρ.set (.head _), rfl, hlt, sm, kvs, hk, nd, fun m => ?_⟩)
        rw [hm, e3]
        refine exists_congr fun x => and_congr_right fun _ => ?_
        rw [Wk_step (n := num)]
        refine ⟨.inl, fun z => z.elim id fun z => absurd ((Wk_at ah).mpr z.1) fun z2 => ?_⟩
        have := hasK_iff.mpr ((hm _).mpr ⟨num, rfl, z2⟩)
        rw [hb] at this; cases this
    · cases hv
  · have hi' : i = last + 1 := by
      simp only [It.at] at hv
      split at hv
      · cases hv
      · omega
    subst hi'
    rw [Nat.sub_self] at hm
    have hlen := keys_len nd bound
    refine Sx_cons (S1_Return (Ew_CallG (EvF.bltK (by kernel_rfl) rfl) KeepOk.builtin (Ew_item (v := .none) (Ew_name (hρ.at rfl) (Cw_sortedD hk (by omega) (ns' := zints (need (premsOf rows) last)) ?_ (ints_sorted (need_sorted _ _)) fun a ha => ?_)))))
    · refine (List.perm_ext_iff_of_nodup (ints_nodup (need_nodup _ _)) nd).mpr fun m => ?_
      rw [hm, mem_ints]
      exact exists_congr fun x => and_congr_right fun _ => (mem_need ah).trans Wk_zero.symm
    · rw [vints_eq]
      refine h a _ ?_ (sm.new ha) (Store.set_self ..)
      cases q : σ a with
      | none => rfl
      | some o => have := sm a o q (by simp); rw [ha] at this; cases this
end
end Mine

open PySem PySem.W PyProof.Rows PySem.Calls PyProof.V PySem.Spec PySem.SeqAt
set_option Elab.async false
set_option linter.all false
set_option maxRecDepth 100000
set_option maxHeartbeats 4000000
namespace Mine
section
variable {prog : Program} {w : World} {g : Heap} {mg mb : Str → Option Value} {d : Nat} {env : Env} {ρ : Fra} {σ : Store}

theorem trimmed_spec {dx s n : Addr} {e : Int} {rows : List Stp'} {last : Nat} {Q : V → Store → Prop} (p : IsPf σ dx s n e rows) (gr : GoodRows rows) (ok : ∀ r ∈ rows, OkRow r) (hlast : last < rows.length) (hz : rows.length ≤ 60)
    (h : ∀ dx' s' n' e' σ', σ dx' = none → σ s' = none → σ n' = none → Same [] σ σ' → IsPf σ' dx' s' n' e' (trimRows rows (need (premsOf rows) last)) → Q (.obj 211 dx') σ') : Kw (K1 prog w g mg mb) 14 (.ref 182) [.obj 211 dx, .int last] Q σ := by
  have ah := gr.ahead
  refine Kw_def (d := 13) ["self", "last"] (by with_unfolding_all rfl) (by kernel_rfl) (fun ws h => by match ws, h with | [a, b], _ => rfl) (by decide) (fun L => ?_)
  refine Sx_cons (S1_Assign (Ew_Tuple (Ew_items_cons (Ew_CallG (EvF.globK (by with_unfolding_all rfl)) keep_fn (Ew_items_nil ((make_spec fun dx' s' n' σ₁ f1 f2 f3 sm₁ p₁ => ?_).cwle (by decide)))))))
  refine Ew_items_cons (Ew_Dict0 fun pl hpl => Ew_items_nil ⟨by simp, Asg_Tuple rfl (AsgL_cons (Asg_Name (.inl rfl) (AsgL_cons (Asg_Name (.inr ⟨rfl, rfl, rfl, _, rfl⟩) (AsgL_nil ?_))))) ⟩)
  have sm₂ : Same [] σ (σ₁.set pl (.idict [])) := sm₁.new hpl
  have p₂ := p.keep sm₂ (by simp) (by simp) (by simp)
  have pn₂ : IsPf (σ₁.set pl (.idict [])) dx' s' n' (-1) [] := p₁.keep ((Same.refl [] _).new hpl) (by simp) (by simp) (by simp)
  refine Sx_cons (S1_ForL ["var"] (fun it i ρ' σ' => it = .rng 1 1 0 ∧ i = 0 ∧ σ' = σ₁.set pl (.idict [])) (Iw_val ?_))
  refine Ew_CallG (EvF.bltK (by kernel_rfl) rfl) KeepOk.type (Ew_items_cons (Ew_int (Ew_item (v := .none) (Ew_CallG (EvF.bltK (by kernel_rfl) rfl) KeepOk.builtin (Ew_item (v := .none) (Ew_AttrN rfl p₂.dx rfl fld_named (Cw_lenL p₂.nm (by decide) (Cw_range2 ?_))))))))
  refine ⟨_, itR2 (n := 1) (by decide), .inl ⟨⟨_, _, rfl⟩, fun _ z => by cases z⟩, ⟨rfl, rfl, rfl⟩, 0, ?_⟩
  rintro i₀ ρ' σ' hρ ⟨-, rfl, rfl⟩
  refine ⟨Nat.le_refl _, trivial, fun v hv => ?_, fun _ => ?_⟩
  · simp only [It.at] at hv
    rw [if_neg (Nat.not_lt_zero _)] at hv
    cases hv
  clear p₁
  generalize hσ₂ : σ₁.set pl (.idict []) = σ₂ at sm₂ p₂ pn₂ ⊢
  have hpl₂ : σ₂ pl = some (.idict []) := by rw [← hσ₂, Store.set_self]
  have hpl0 : σ pl = none := by
    cases q : σ pl with
    | none => rfl
    | some o => have := sm₁ pl o q (by simp); rw [hpl] at this; cases this
  have k1 : pl ≠ dx' := fun z => by rw [z, pn₂.dx] at hpl₂; cases hpl₂
  have k2 : pl ≠ s' := fun z => by rw [z, pn₂.st] at hpl₂; cases hpl₂
  have k3 : pl ≠ n' := fun z => by rw [z, pn₂.nm] at hpl₂; cases hpl₂
  refine Sx_cons (S1_ForL ["number", "rule", "clause", "premises", "note"] (fun it i ρ₂ σ' => ∃ a, it = .list a ∧ σ₂ a = none ∧ σ' a = some (.list (vints (need (premsOf rows) last))) ∧ i ≤ (need (premsOf rows) last).length ∧ Same [] σ σ' ∧
    ∃ e' kvs, IsPf σ' dx' s' n' e' ((trimRows rows (need (premsOf rows) last)).take i) ∧ σ' pl = some (.idict kvs) ∧ kvs.length ≤ i ∧ ∀ j t, j < i → (need (premsOf rows) last)[j]? = some t → getK (t : Int) kvs = some (.int j)) (Iw_val ?_))
  refine Ew_CallN (hρ.at rfl) p₂.dx rfl mth_needed keep_fn (Ew_item (v := .none) (Ew_name (hρ.at rfl) ((needed_spec p₂ gr hlast hz fun a σ₃ ha sm₃ ha₃ => ?_).cwle (by decide))))
  refine ⟨_, .list ha₃, .inl ⟨⟨_, _, rfl⟩, fun _ z => by cases z⟩, ⟨a, rfl, ha, ha₃, Nat.zero_le _, sm₂.trans sm₃, (-1), [], pn₂.keep sm₃ (by simp) (by simp) (by simp), sm₃.at hpl₂, Nat.le_refl _, fun j t h => absurd h (Nat.not_lt_zero _)⟩, (need (premsOf rows) last).length, ?_⟩
  rintro i ρ₂ σ₄ hρ₂ ⟨a', ea, hna, ha₄, hi, sm₄, e', kvs, pn, hk, hkl, hkv⟩
  cases ea
  refine ⟨hi, ⟨_, ha₄⟩, fun v hv => ?_, fun hv => ?_⟩
  · simp only [It.at, lof_of ha₄] at hv
    unfold vints at hv
    rw [List.getElem?_map, Option.map_eq_some_iff] at hv
    obtain ⟨t, ht, rfl⟩ := hv
    obtain ⟨hi', -⟩ := List.getElem?_eq_some_iff.mp ht
    have htm : t ∈ need (premsOf rows) last := List.mem_of_getElem? ht
    have hnt := (mem_need ah).mp htm
    have htl : t < rows.length := Nat.lt_of_le_of_lt (hnt.le ah) hlast
    obtain ⟨r, hr⟩ : ∃ r, rows[t]? = some r := ⟨rows[t], List.getElem?_eq_getElem htl⟩
    have okr := ok r (List.mem_of_getElem? hr)
    have okp := okr.prem
    have nl := need_length (premsOf rows) last
    have hP := premsOf_some hr
    have p₄ := p.keep sm₄ (by simp) (by simp) (by simp)
    have inT : ∀ m ∈ r.prem, m ∈ need (premsOf rows) last ∧ (need (premsOf rows) last).idxOf m < i := fun m hm => by
      have hmT := (mem_need ah).mpr (.step hnt (hP ▸ hm : m ∈ premsOf rows t))
      exact ⟨hmT, idx_lt (need_sorted _ _) ht hmT (gr t r hr m hm)⟩
    refine Asg_Name (.inl rfl) (Sx_cons (S1_Assign (Ew_Subscript (Ew_AttrN (Fra.aside (hρ₂.at (hρ.at rfl))) p₄.dx rfl fld_steps (Ew_name (Fra.set_self ..) (subL p₄.st (v := stepV r) (by simp [hr]) (by simp; omega) ?_))))))
    refine Asg_Tuple (vs := [.str r.rule, .tup (r.clause.map V.int), .tup (r.prem.map fun n : Nat => V.int n), r.note]) rfl (AsgL_cons (Asg_Name (.inl rfl) (AsgL_cons (Asg_Name (.inl rfl) (AsgL_cons (Asg_Name (.inl rfl) (AsgL_cons (Asg_Name (.inl rfl) (AsgL_nil ?_)))))))))
    refine Sx_cons (S1_Assign ?_)
    refine Ew_CallN (Fra.aside (Fra.aside (Fra.aside (Fra.aside (Fra.aside (hρ₂.at (hρ.at rfl))))))) pn.dx rfl mth_add keep_fn (Ew_items_cons (Ew_name (Fra.aside (Fra.aside (Fra.aside (Fra.set_self ..)))) (Ew_items_cons (Ew_name (Fra.aside (Fra.aside (Fra.set_self ..))) (Ew_items_cons ?_)))))
    have gp : ∀ m ∈ r.prem, getK (m : Int) kvs = some (.int ((need (premsOf rows) last).idxOf m)) := fun m hm => hkv _ m (inT m hm).2 (idx_at (inT m hm).1)
    refine Ew_CallG (EvF.bltK (by kernel_rfl) rfl) KeepOk.type (Ew_item (v := .none) (Ew_ListComp (cl := [("places", L + 1)]) (by with_unfolding_all rfl) (ClOk.to ⟨rfl, trivial⟩) (Iw_val (Ew_name (Fra.aside (Fra.set_self ..)) ⟨_, .tup, fun D LL hD => ?_⟩))))
    refine Gw_loopL ["one"] rfl rfl turn_one (.inl ⟨⟨_, _, rfl⟩, fun _ z => by cases z⟩) (fun j σ' => j ≤ r.prem.length ∧ Same [D] (σ₄.set D (.list [])) σ' ∧ σ' D = some (.list ((r.prem.take j).map fun m => V.int ((need (premsOf rows) last).idxOf m)))) ⟨Nat.zero_le _, Same.refl _ _, Store.set_self ..⟩ r.prem.length ?_
    · rintro j ρ₃ σ₅ hρ₃ ⟨hj, sm₅, hD₅⟩
      have s45 : Same [] σ₄ σ₅ := ((Same.refl [D] σ₄).new hD).trans sm₅ |>.drop fun x hx => .inr (by rw [List.mem_singleton.mp hx]; exact hD)
      refine ⟨hj, trivial, fun v hv => ?_, fun hv ρ₆ hρ₆ => ?_⟩
      · simp only [It.at, List.getElem?_map, Option.map_eq_some_iff] at hv
        obtain ⟨m, hm, rfl⟩ := hv
        have hmm : m ∈ r.prem := List.mem_of_getElem? hm
        obtain ⟨hj', -⟩ := List.getElem?_eq_some_iff.mp hm
        refine Asg_Name (.inl rfl) (Ts_nil ⟨fun _ => Em_last ?_, fun z => by cases z⟩)
        refine Ew_Subscript (Ew_name (Fra.aside (hρ₃.at (compFra_at (Fra.aside (Fra.aside (Fra.aside (Fra.aside (Fra.aside (hρ₂.at (hρ.at rfl)))))))))) (Ew_name (Fra.set_self ..) (subD (s45.at hk) (gp m hmm) ⟨_, hD₅, by simp; omega, hρ₃.set (.head _), hj', sm₅.put (.head _), ?_⟩)))
        rw [Store.set_self, List.take_add_one, hm]
        simp
      · have hj' : j = r.prem.length := by
          simp only [It.at, List.getElem?_map, Option.map_eq_none_iff, List.getElem?_eq_none_iff] at hv
          omega
        subst hj'
        rw [List.take_length] at hD₅
        have ed : (r.prem.map fun m => V.int ((need (premsOf rows) last).idxOf m)) = (r.prem.map fun m => (need (premsOf rows) last).idxOf m).map fun n : Nat => V.int n := by rw [List.map_map]; rfl
        rw [ed] at hD₅
        have pn₅ := pn.keep s45 (by simp) (by simp) (by simp)
        have hlen : ((trimRows rows (need (premsOf rows) last)).take i).length = i := by
          rw [List.length_take]; unfold trimRows; rw [List.length_map]; omega
        have sm05 : Same [] σ σ₅ := sm₄.trans s45
        refine Cw_tupleL hD₅ (by simp; omega) (Ew_items_cons (Ew_name (Fra.set_self ..) (Ew_items_nil ((add_spec (r := { r with prem := r.prem.map fun m => (need (premsOf rows) last).idxOf m }) pn₅ (by rw [hlen]; omega) okr.rule okr.len okr.nz ?_ (by simpa using okp) fun σ₆ e'' sm₆ p₆ => ?_).cwle (by decide)))))
        · intro m hm
          obtain ⟨y, hy, rfl⟩ := List.mem_map.mp hm
          rw [hlen]
          exact (inT y hy).2
        have hk₆ := sm₆.at (s45.at hk) (by simp only [List.mem_cons, List.not_mem_nil, or_false, not_or]; exact ⟨k2, k1⟩)
        have ha₅ := s45.at ha₄
        have a1 : a ≠ s' := fun z => by rw [z, pn₂.st] at ha; cases ha
        have a2 : a ≠ dx' := fun z => by rw [z, pn₂.dx] at ha; cases ha
        have a3 : a ≠ pl := fun z => by rw [z, hpl₂] at ha; cases ha
        have ha₆ := sm₆.at ha₅ (by simp only [List.mem_cons, List.not_mem_nil, or_false, not_or]; exact ⟨a1, a2⟩)
        refine Asg_Subscript (Ew_name (Fra.aside (Fra.aside (Fra.aside (Fra.aside (Fra.aside (hρ₂.at (hρ.at rfl))))))) (Ew_name (Fra.aside (Fra.aside (Fra.aside (Fra.aside (Fra.set_self ..))))) (O3_setD hk₆ (by omega) (Sx_nil ⟨?_, a, rfl, hna, ?_, hi', ?_, e'', _, ?_, Store.set_self .., ?_, fun j t' hj ht' => ?_⟩))))
        · exact ((((hρ₂.set (.head _)).set (.tail _ (.head _))).set (.tail _ (.tail _ (.head _)))).set (.tail _ (.tail _ (.tail _ (.head _))))).set (.tail _ (.tail _ (.tail _ (.tail _ (.head _)))))
        · rw [Store.set_ne a3]; exact ha₆
        · exact ((sm05.mono (by simp)).trans (sm₆.mono (Y := [s', dx', pl]) (by simp)) |>.put (by simp)).drop fun x hx => .inr (by
            simp only [List.mem_cons, List.not_mem_nil, or_false] at hx
            rcases hx with rfl | rfl | rfl
            · exact f2
            · exact f1
            · exact hpl0)
        · have e1 : (trimRows rows (need (premsOf rows) last)).take (i + 1) = (trimRows rows (need (premsOf rows) last)).take i ++ [{ r with prem := r.prem.map fun m => (need (premsOf rows) last).idxOf m }] := by
            rw [List.take_add_one]
            unfold trimRows
            rw [List.getElem?_map, ht, Option.map_some, rowAt_some hr]
            rfl
          rw [e1]
          exact p₆.keep ((Same.refl [pl] _).put (.head _)) (by simpa using Ne.symm k1) (by simpa using Ne.symm k2) (by simpa using Ne.symm k3)
        · exact Nat.le_trans (hasK_len _ _ _) (Nat.succ_le_succ hkl)
        · rcases Nat.lt_or_eq_of_le (Nat.le_of_lt_succ hj) with hj | rfl
          · rw [getK_put_ne]
            · exact hkv j t' hj ht'
            · intro z
              have z' : t' = t := Int.ofNat_inj.mp z
              subst z'
              have := (List.getElem?_inj (by omega) (need_nodup _ _)).mp (ht'.trans ht.symm)
              omega
          · have : t' = t := by rw [ht] at ht'; exact (Option.some.inj ht').symm
            subst this
            rw [getK_put_self, hlen]
  · have hi' : i = (need (premsOf rows) last).length := by
      simp only [It.at, lof_of ha₄] at hv
      unfold vints at hv
      rw [List.getElem?_map, Option.map_eq_none_iff, List.getElem?_eq_none_iff] at hv
      omega
    subst hi'
    rw [List.take_of_length_le (by unfold trimRows; rw [List.length_map]; exact Nat.le_refl _)] at pn
    exact Sx_cons (S1_Return (Ew_name (hρ₂.at (hρ.at rfl)) (h dx' s' n' e' σ₄ f1 f2 f3 sm₄ pn)))
end
end Mine

open PySem PySem.W PyProof.Rows PySem.Calls PyProof.V PySem.Spec PySem.SeqAt
set_option Elab.async false
set_option linter.all false
set_option maxRecDepth 100000
set_option maxHeartbeats 4000000
namespace Mine
/-! depths -/
def maxL (l : List Nat) : Nat := l.foldl max 0
theorem maxL_ge_acc : ∀ (l : List Nat) (a : Nat), a ≤ l.foldl max a
  | [], _ => Nat.le_refl _
  | x :: l, a => Nat.le_trans (Nat.le_max_left a x) (maxL_ge_acc l (max a x))
theorem maxL_ge : ∀ (l : List Nat) (a x : Nat), x ∈ l → x ≤ l.foldl max a
  | [], _, _, h => nomatch h
  | y :: l, a, x, h => by
    rcases List.mem_cons.mp h with rfl | h
    · exact Nat.le_trans (Nat.le_max_right a x) (maxL_ge_acc l _)
    · exact maxL_ge l _ x h
theorem maxL_mem : ∀ (l : List Nat) (a : Nat), l.foldl max a = a ∨ l.foldl max a ∈ l
  | [], _ => .inl rfl
  | x :: l, a => by
    rcases maxL_mem l (max a x) with h | h
    · rw [List.foldl_cons, h]
      rcases Nat.le_total a x with q | q
      · rw [Nat.max_eq_right q]; exact .inr (.head _)
      · rw [Nat.max_eq_left q]; exact .inl rfl
    · exact .inr (.tail _ h)
theorem maxL_is {l : List Nat} {m : Nat} (h1 : m ∈ l) (h2 : ∀ x ∈ l, x ≤ m) : maxL l = m := by
  refine Nat.le_antisymm ?_ (maxL_ge l 0 m h1)
  rcases maxL_mem l 0 with h | h
  · unfold maxL; rw [h]; exact Nat.zero_le _
  · exact h2 _ h
/-- depth over premises P and weights w -/
def depF (P : Nat → List Nat) (w : Nat → Nat) : Nat → Nat → Nat
  | 0, _ => 0
  | f + 1, n => maxL ((P n).map (depF P w f)) + w n
def dep (P : Nat → List Nat) (w : Nat → Nat) (n : Nat) : Nat := depF P w (n + 1) n
theorem depF_eq {P : Nat → List Nat} {w : Nat → Nat} (ah : Ahead P) : ∀ (f n : Nat), n < f → depF P w f n = dep P w n := by
  have key : ∀ (f : Nat), ∀ (g n : Nat), n < f → n < g → depF P w f n = depF P w g n := by
    intro f
    induction f with
    | zero => intro g n h; exact absurd h (Nat.not_lt_zero _)
    | succ f ih =>
      intro g n h1 h2
      cases g with
      | zero => exact absurd h2 (Nat.not_lt_zero _)
      | succ g =>
        unfold depF
        congr 2
        refine List.map_congr_left fun m hm => ?_
        have := ah n m hm
        exact ih g m (by omega) (by omega)
  exact fun f n h => key f (n + 1) n h (Nat.lt_succ_self _)
theorem dep_eq {P : Nat → List Nat} {w : Nat → Nat} (ah : Ahead P) (n : Nat) : dep P w n = maxL ((P n).map (dep P w)) + w n := by
  show maxL ((P n).map (depF P w n)) + w n = _
  congr 2
  exact List.map_congr_left fun m hm => depF_eq ah n m (ah n m hm)
def isR (r : Stp') : Nat := if r.rule = ("resolve" : Str) then 1 else 0
def wtOf (rows : List Stp') (n : Nat) : Nat := isR (rowAt rows n)
def depR (rows : List Stp') (n : Nat) : Nat := dep (premsOf rows) (wtOf rows) n
section
variable {prog : Program} {w : World} {g : Heap} {mg mb : Str → Option Value} {d : Nat} {env : Env} {ρ : Fra} {σ : Store}

theorem depth_spec {dx s n : Addr} {e : Int} {rows : List Stp'} {last : Nat} {Q : V → Store → Prop} (p : IsPf σ dx s n e rows) (gr : GoodRows rows) (ok : ∀ r ∈ rows, OkRow r) (hlast : last < rows.length) (hz : rows.length ≤ 60)
    (h : ∀ σ', Same [] σ σ' → Q (.int (depR rows last)) σ') : Kw (K1 prog w g mg mb) 12 (.ref 208) [.obj 211 dx, .int last] Q σ := by
  have ah := gr.ahead
  refine Kw_def (d := 11) ["self", "last"] (by with_unfolding_all rfl) (by kernel_rfl) (fun ws h => by match ws, h with | [a, b], _ => rfl) (by decide) (fun L => ?_)
  refine Sx_cons (S1_Assign (Ew_Dict0 fun hd hhd => Asg_Name (.inr ⟨rfl, rfl, rfl, _, rfl⟩) ?_))
  have s1 : Same [] σ (σ.set hd (.idict [])) := (Same.refl _ _).new hhd
  have p₁ := p.keep s1 (by simp) (by simp) (by simp)
  have nl := need_length (premsOf rows) last
  refine Sx_cons (S1_ForL ["number", "rule", "clause", "premises", "note", "beneath"] (fun it i ρ₂ σ' => ∃ a, it = .list a ∧ a ≠ hd ∧ σ a = none ∧ σ' a = some (.list (vints (need (premsOf rows) last))) ∧ i ≤ (need (premsOf rows) last).length ∧ Same [] σ σ' ∧
    ∃ kvs, σ' hd = some (.idict kvs) ∧ kvs.length ≤ i ∧ ∀ j t, j < i → (need (premsOf rows) last)[j]? = some t → getK (t : Int) kvs = some (.int (depR rows t))) (Iw_val ?_))
  refine Ew_CallN rfl p₁.dx rfl mth_needed keep_fn (Ew_item (v := .none) (Ew_name rfl ((needed_spec p₁ gr hlast hz fun a σ₃ ha sm₃ ha₃ => ?_).cwle (by decide))))
  have hna : σ a = none := by
    cases q : σ a with
    | none => rfl
    | some o => have := s1 a o q (by simp); rw [ha] at this; cases this
  refine ⟨_, .list ha₃, .inl ⟨⟨_, _, rfl⟩, fun _ z => by cases z⟩, ⟨a, rfl, Ne.symm (ne_of (Store.set_self σ hd _) ha), hna, ha₃, Nat.zero_le _, s1.trans sm₃, [], sm₃.at (Store.set_self ..), Nat.le_refl _, fun j t h => absurd h (Nat.not_lt_zero _)⟩, (need (premsOf rows) last).length, ?_⟩
  rintro i ρ₂ σ₄ hρ₂ ⟨a', ea, nhd, hna', ha₄, hi, sm₄, kvs, hk, hkl, hkv⟩
  cases ea
  refine ⟨hi, ⟨_, ha₄⟩, fun v hv => ?_, fun hv => ?_⟩
  · simp only [It.at, lof_of ha₄] at hv
    unfold vints at hv
    rw [List.getElem?_map, Option.map_eq_some_iff] at hv
    obtain ⟨t, ht, rfl⟩ := hv
    obtain ⟨hi', -⟩ := List.getElem?_eq_some_iff.mp ht
    have hnt := (mem_need ah).mp (List.mem_of_getElem? ht)
    have htl : t < rows.length := Nat.lt_of_le_of_lt (hnt.le ah) hlast
    obtain ⟨r, hr⟩ : ∃ r, rows[t]? = some r := ⟨rows[t], List.getElem?_eq_getElem htl⟩
    have okp := (ok r (List.mem_of_getElem? hr)).prem
    have hP := premsOf_some hr
    have p₄ := p.keep sm₄ (by simp) (by simp) (by simp)
    have gp : ∀ m ∈ r.prem, getK (m : Int) kvs = some (.int (depR rows m)) := fun m hm => by
      have hmT := (mem_need ah).mpr (.step hnt (hP ▸ hm : m ∈ premsOf rows t))
      exact hkv _ m (idx_lt (need_sorted _ _) ht hmT (gr t r hr m hm)) (idx_at hmT)
    have hdep : depR rows t = maxL (r.prem.map (depR rows)) + isR r := by
      unfold depR
      rw [dep_eq ah, hP]
      unfold wtOf
      rw [rowAt_some hr]
    refine Asg_Name (.inl rfl) (Sx_cons (S1_Assign (Ew_Subscript (Ew_AttrN (Fra.aside (hρ₂.at rfl)) p₄.dx rfl fld_steps (Ew_name (Fra.set_self ..) (subL p₄.st (v := stepV r) (by simp [hr]) (by simp; omega) ?_))))))
    refine Asg_Tuple (vs := [.str r.rule, .tup (r.clause.map V.int), .tup (r.prem.map fun n : Nat => V.int n), r.note]) rfl (AsgL_cons (Asg_Name (.inl rfl) (AsgL_cons (Asg_Name (.inl rfl) (AsgL_cons (Asg_Name (.inl rfl) (AsgL_cons (Asg_Name (.inl rfl) (AsgL_nil ?_)))))))))
    refine Sx_cons (S1_Assign (Ew.mono (Q := fun v σ₅ => v = .int (maxL (r.prem.map (depR rows))) ∧ Same [] σ₄ σ₅) ?_ fun v σ₅ hv₅ => ?_))
    · refine Ew_IfExp (Ew_isCompare (Ew_CallG (EvF.bltK (by kernel_rfl) rfl) KeepOk.builtin (Ew_item (v := .none) (Ew_name (Fra.aside (Fra.set_self ..)) (Cw_lenT (by simp; omega) (Ew_int (O2_gt ⟨_, rfl, fun hb => ?_, fun hb => Ew_int ⟨?_, Same.refl _ _⟩⟩)))))))
      · refine Ew_CallG (EvF.bltK (by kernel_rfl) rfl) KeepOk.builtin (Ew_item (v := .none) (Ew_ListComp (cl := [("heights", L + 1)]) (by with_unfolding_all rfl) (ClOk.to ⟨rfl, trivial⟩) (Iw_val (Ew_name (Fra.aside (Fra.set_self ..)) ⟨_, .tup, fun D LL hD => ?_⟩))))
        refine Gw_loopL ["one"] rfl rfl turn_one (.inl ⟨⟨_, _, rfl⟩, fun _ z => by cases z⟩) (fun j σ' => j ≤ r.prem.length ∧ Same [D] (σ₄.set D (.list [])) σ' ∧ σ' D = some (.list (((r.prem.take j).map fun m => (depR rows m : Int)).map V.int))) ⟨Nat.zero_le _, Same.refl _ _, Store.set_self ..⟩ r.prem.length ?_
        rintro j ρ₃ σ₅ hρ₃ ⟨hj, sm₅, hD₅⟩
        have s45 : Same [] σ₄ σ₅ := ((Same.refl [D] σ₄).new hD).trans sm₅ |>.drop fun x hx => .inr (by rw [List.mem_singleton.mp hx]; exact hD)
        refine ⟨hj, trivial, fun v hv => ?_, fun hv ρ₆ hρ₆ => ?_⟩
        · simp only [It.at, List.getElem?_map, Option.map_eq_some_iff] at hv
          obtain ⟨m, hm, rfl⟩ := hv
          obtain ⟨hj', -⟩ := List.getElem?_eq_some_iff.mp hm
          refine Asg_Name (.inl rfl) (Ts_nil ⟨fun _ => Em_last ?_, fun z => by cases z⟩)
          refine Ew_Subscript (Ew_name (Fra.aside (hρ₃.at (compFra_at (Fra.aside (Fra.aside (Fra.aside (Fra.aside (Fra.aside (hρ₂.at rfl))))))))) (Ew_name (Fra.set_self ..) (subD (s45.at hk) (gp m (List.mem_of_getElem? hm)) ⟨_, hD₅, by simp; omega, hρ₃.set (.head _), hj', sm₅.put (.head _), ?_⟩)))
          rw [Store.set_self, List.take_add_one, hm, List.map_append, List.map_append]
          rfl
        · have hj' : j = r.prem.length := by
            simp only [It.at, List.getElem?_map, Option.map_eq_none_iff, List.getElem?_eq_none_iff] at hv
            omega
          subst hj'
          rw [List.take_length] at hD₅
          have hpos : 0 < r.prem.length := by
            have := of_decide_eq_true hb
            rw [List.length_map] at this
            omega
          refine Cw_max hD₅ (by rw [List.length_map]; exact hpos) fun M hM hmx => ⟨?_, s45⟩
          obtain ⟨m, hm, rfl⟩ := List.mem_map.mp hM
          congr 2
          refine (maxL_is (List.mem_map_of_mem hm) fun x hx => ?_).symm
          obtain ⟨y, hy, rfl⟩ := List.mem_map.mp hx
          have := hmx _ (List.mem_map_of_mem hy)
          omega
      · have : r.prem = [] := by
          have := of_decide_eq_false hb
          rw [List.length_map] at this
          exact List.eq_nil_of_length_eq_zero (by omega)
        rw [this]; rfl
    · obtain ⟨rfl, s45⟩ := hv₅
      have hk₅ := s45.at hk
      refine Asg_Name (.inl rfl) (Sx_cons (S1_Assign (Ew_BinOp (Ew_name (Fra.set_self ..) (Ew_IfExp (Ew_isCompare (Ew_name (Fra.aside (Fra.aside (Fra.aside (Fra.aside (Fra.set_self ..))))) (Ew_str (O2_eqStr ⟨_, rfl, fun hb => Ew_int (O2_add ?_), fun hb => Ew_int (O2_add ?_)⟩)))))))))
      all_goals
        refine Asg_Subscript (Ew_name (Fra.aside (Fra.aside (Fra.aside (Fra.aside (Fra.aside (Fra.aside (hρ₂.at rfl))))))) (Ew_name (Fra.aside (Fra.aside (Fra.aside (Fra.aside (Fra.aside (Fra.set_self ..)))))) (O3_setD hk₅ (by omega) (Sx_nil ⟨?_, a, rfl, nhd, hna, ?_, hi', ?_, _, Store.set_self .., ?_, fun j t' hj ht' => ?_⟩))))
        · exact (((((hρ₂.set (.head _)).set (.tail _ (.head _))).set (.tail _ (.tail _ (.head _)))).set (.tail _ (.tail _ (.tail _ (.head _))))).set (.tail _ (.tail _ (.tail _ (.tail _ (.head _)))))).set (.tail _ (.tail _ (.tail _ (.tail _ (.tail _ (.head _))))))
        · rw [Store.set_ne nhd]; exact s45.at ha₄
        · exact fun x o e na => by rw [Store.set_ne (ne_of e hhd)]; exact (sm₄.trans s45) x o e na
        · exact Nat.le_trans (hasK_len _ _ _) (Nat.succ_le_succ hkl)
        · rcases Nat.lt_or_eq_of_le (Nat.le_of_lt_succ hj) with hj | rfl
          · rw [getK_put_ne]
            · exact hkv j t' hj ht'
            · intro z
              have z' : t' = t := Int.ofNat_inj.mp z
              subst z'
              have := (List.getElem?_inj (by omega) (need_nodup _ _)).mp (ht'.trans ht.symm)
              omega
          · have : t' = t := by rw [ht] at ht'; exact (Option.some.inj ht').symm
            subst this
            rw [getK_put_self, hdep]
            first
              | (have : r.rule = ("resolve" : Str) := by simpa using hb
                 unfold isR; rw [if_pos this]; rfl)
              | (have : ¬ r.rule = ("resolve" : Str) := by simpa using hb
                 unfold isR; rw [if_neg this]; rfl)
  · have hi' : i = (need (premsOf rows) last).length := by
      simp only [It.at, lof_of ha₄] at hv
      unfold vints at hv
      rw [List.getElem?_map, Option.map_eq_none_iff, List.getElem?_eq_none_iff] at hv
      omega
    subst hi'
    have hl := idx_at (last_mem (last := last) ah)
    have hli : (need (premsOf rows) last).idxOf last < (need (premsOf rows) last).length := List.idxOf_lt_length_iff.mpr (last_mem ah)
    exact Sx_cons (S1_Return (Ew_Subscript (Ew_name (hρ₂.at rfl) (Ew_name (hρ₂.at rfl) (subD hk (hkv _ last hli hl) (h _ sm₄))))))
end
end Mine

open PySem PySem.W PyProof.Rows PySem.Calls PyProof.V PySem.Spec PySem.SeqAt
set_option Elab.async false
set_option linter.all false
set_option maxRecDepth 100000
set_option maxHeartbeats 4000000
namespace Mine
section
variable {prog : Program} {w : World} {g : Heap} {mg mb : Str → Option Value} {d : Nat} {env : Env} {ρ : Fra} {σ : Store}

def feedO (c : Addr) (k : Nat) : O := .sdict [("cells", .ref c), ("at", .int k)]
theorem draw_spec {kd c : Addr} {k many : Nat} {cells : List Int} {Q : V → Store → Prop} (hk : σ kd = some (feedO c k)) (hc : σ c = some (.list (cells.map V.int))) (hkk : k ≤ 1000) (hz : cells.length ≤ 1000) (hm : 0 < many) 
    (h : ∀ r : Nat, r < many → Q (.int r) (σ.set kd (feedO c (k + 1)))) : Kw (K1 prog w g mg mb) 8 (.ref 220) [.ref kd, .int many] Q σ := by
  refine Kw_def (d := 7) ["feed", "wide"] (by with_unfolding_all rfl) (by kernel_rfl) (fun ws h => by match ws, h with | [a, b], _ => rfl) (by decide) (fun L => ?_)
  have hcd : c ≠ kd := fun z => by rw [z, hk] at hc; cases hc
  refine Sx_cons (S1_Assign (Ew_Subscript (Ew_name rfl (Ew_str (subS (v := .int k) hk rfl (Asg_Name (.inl rfl) ?_))))))
  refine Sx_cons (S1_Assign (Ew_BinOp (Ew_name rfl (Ew_int (O2_add (Asg_Subscript (Ew_name rfl (Ew_str (O3_setS hk (by simp) ?_)))))))))
  have e1 : σ.set kd (.sdict (putK ("at" : Str) (V.int (k + 1)) [("cells", .ref c), ("at", .int k)])) = σ.set kd (feedO c (k + 1)) := by
    unfold feedO
    congr 1
  rw [e1]
  have hk' : (σ.set kd (feedO c (k + 1))) kd = some (feedO c (k + 1)) := Store.set_self ..
  have hc' : (σ.set kd (feedO c (k + 1))) c = some (.list (cells.map V.int)) := (Store.set_ne hcd).trans hc
  have fin : ∀ x : Int, ∃ r : Nat, r < many ∧ x.fmod (many : Int) = r := fun x => by
    have a1 := Int.fmod_nonneg_of_pos x (b := (many : Int)) (by omega)
    have a2 := Int.fmod_lt_of_pos x (b := (many : Int)) (by omega)
    exact ⟨(x.fmod many).toNat, by omega, by omega⟩
  have hl : (cells.map V.int).length ≤ 1000000 := by simp; omega
  refine Sx_cons (S1_If (Ew_isCompare (Ew_name rfl (Ew_CallG (EvF.bltK (by kernel_rfl) rfl) KeepOk.builtin (Ew_item (v := .none) (Ew_Subscript (Ew_name rfl (Ew_str (subS (v := .ref c) hk' rfl (Cw_lenL hc' hl (O2_lt ⟨_, rfl, fun hb => ?_, fun _ => ?_⟩)))))))))))
  · have hlt : k < cells.length := by
      have := of_decide_eq_true hb
      rw [List.length_map] at this
      omega
    obtain ⟨r, hr, e⟩ := fin cells[k]
    refine Sx_cons (S1_Return (Ew_BinOp (Ew_Subscript (Ew_Subscript ?_))))
    refine Ew_name rfl (Ew_str (subS (v := .ref c) hk' rfl ?_))
    refine Ew_name rfl (subL hc' (v := .int cells[k]) (by simp [hlt]) hl (Ew_name rfl (O2_fmod (by omega) ?_)))
    rw [e]; exact h r hr
  · refine Sx_nil (Sx_cons (S1_Return ?_))
    refine Ew_BinOp (Ew_BinOp (Ew_BinOp (Ew_BinOp (Ew_BinOp (Ew_BinOp ?_)))))
    refine Ew_int (Ew_name rfl (O2_mul (by decide) (Ew_name rfl (O2_mul (intBits_le_64 (by omega) (by omega)) ?_))))
    refine Ew_BinOp (Ew_int (Ew_name rfl (O2_mul (by decide) (O2_add ?_))))
    refine Ew_int (O2_add (Ew_int (O2_fmod (by decide) (Ew_name rfl ?_))))
    refine O2_fmod (by omega) ?_
    obtain ⟨r, hr, e⟩ := fin (Int.fmod (7 * (k : Int) * k + 4 * k + 2) 61)
    rw [e]
    exact h r hr
end
end Mine

open PySem PySem.W PyProof.Rows PySem.Calls PyProof.V PySem.Spec PySem.SeqAt
set_option Elab.async false
set_option linter.all false
set_option maxRecDepth 100000
set_option maxHeartbeats 4000000
namespace Mine
theorem Same.fresh {X : List Addr} {σ σ' : Store} {a : Addr} {o : O} (s : Same X σ σ') (n : σ a = none) : Same X σ (σ'.set a o) := fun b p e nb => by
  rw [Store.set_ne (ne_of e n)]; exact s b p e nb
theorem Same.none_of {X : List Addr} {σ σ' : Store} {a : Addr} (s : Same X σ σ') (n : σ' a = none) (h : a ∉ X) : σ a = none := by
  cases q : σ a with
  | none => rfl
  | some o => rw [s a o q h] at n; cases n
theorem Like.join {X Y : List Str} {ρ ρ' ρ'' : Fra} (h : Like X ρ ρ') (k : Like Y ρ' ρ'') (s : ∀ y ∈ Y, y ∈ X) : Like X ρ ρ'' := fun x hx => (k x (fun z => hx (s x z))).trans (h x hx)
def rowV (r : Stp') : V := .tup [.str r.rule, .tup (r.clause.map V.int), .tup (vints r.prem)]
def rules5 : List Str := ["input", "resolve", "resolve", "define", "bits"]
structure RowOk (r : Stp') : Prop where
  rule : r.rule ∈ rules5
  len : r.clause.length ≤ 1
  nz : ∀ c ∈ r.clause, c ≠ 0
  prem : r.prem.length ≤ 2
  note : r.note = .none
structure RowsOk (R : List Stp') : Prop where
  good : GoodRows R
  each : ∀ r ∈ R, RowOk r
theorem RowOk.ok {r : Stp'} (h : RowOk r) : OkRow r := ⟨by
  have := h.rule
  unfold rules5 at this
  unfold rulesL
  simp only [List.mem_cons, List.not_mem_nil, or_false] at this ⊢
  rcases this with h | h | h | h | h <;> simp [h], h.len, h.nz, Nat.le_trans h.prem (by decide)⟩
theorem RowsOk.snoc {R : List Stp'} {r : Stp'} (h : RowsOk R) (hr : RowOk r) (hp : ∀ m ∈ r.prem, m < R.length) : RowsOk (R ++ [r]) := by
  refine ⟨fun n x hx m hm => ?_, fun x hx => ?_⟩
  · by_cases lt : n < R.length
    · rw [List.getElem?_append_left lt] at hx
      exact h.good n x hx m hm
    · rw [List.getElem?_append_right (Nat.le_of_not_lt lt)] at hx
      have z : n - R.length = 0 := by
        refine Classical.byContradiction fun z => ?_
        rw [List.getElem?_eq_none (by simp; omega)] at hx
        cases hx
      rw [z] at hx
      cases hx
      have := hp m hm
      omega
  · rcases List.mem_append.mp hx with q | q
    · exact h.each x q
    · rw [List.mem_singleton.mp q]; exact hr
section
variable {prog : Program} {w : World} {g : Heap} {mg mb : Str → Option Value} {d : Nat} {env : Env} {ρ : Fra} {σ : Store}

theorem rows_spec {kd c : Addr} {cells : List Int} {Q : V → Store → Prop} (hk : σ kd = some (feedO c 0)) (hc : σ c = some (.list (cells.map V.int))) (hz : cells.length ≤ 1000)
    (h : ∀ a R σ', σ a = none → Same [kd] σ σ' → σ' a = some (.list (R.map rowV)) → 3 ≤ R.length → R.length ≤ 9 → RowsOk R → Q (.ref a) σ') : Kw (K1 prog w g mg mb) 10 (.ref 227) [.ref kd] Q σ := by
  refine Kw_def (d := 9) ["feed"] (by with_unfolding_all rfl) (by kernel_rfl) (fun ws h => by match ws, h with | [a], _ => rfl) (by decide) (fun L => ?_)
  have ck : c ≠ kd := fun z => by rw [z, hk] at hc; cases hc
  refine Sx_cons (S1_Assign (Ew_List (Ew_items_nil ⟨by decide, fun f hf => Asg_Name (.inl rfl) ?_⟩)))
  have fk : f ≠ kd := Ne.symm (ne_of hk hf)
  have fc : f ≠ c := Ne.symm (ne_of hc hf)
  have s0 : Same [kd] σ (σ.set f (.list [])) := (Same.refl _ _).fresh hf
  refine Sx_cons (S1_ForL ["number", "rule", "premises", "turn"] (fun it i ρ' σ' => ∃ N, it = .rng 0 1 N ∧ 3 ≤ N ∧ N ≤ 9 ∧ i ≤ N ∧ ∃ (R : List Stp') (k : Nat), R.length = i ∧ k ≤ 1 + 5 * i ∧ σ' kd = some (feedO c k) ∧ σ' f = some (.list (R.map rowV)) ∧ Same [kd] σ σ' ∧ RowsOk R) (Iw_val ?_))
  refine Ew_CallG (EvF.bltK (by kernel_rfl) rfl) KeepOk.type (Ew_item (v := .none) (Ew_BinOp (Ew_int (Ew_CallG (EvF.globK (by with_unfolding_all rfl)) keep_fn (Ew_items_cons (Ew_name rfl (Ew_item (v := .none) (Ew_int ?_))))))))
  refine (draw_spec (many := 7) (k := 0) (c := c) (cells := cells) ((Store.set_ne (Ne.symm fk)).trans hk) ((Store.set_ne (Ne.symm fc)).trans hc) (by decide) hz (by decide) fun r hr => O2_add ?_).cwle (by decide)
  have e0 : (3 : Int) + (r : Int) = ((3 + r : Nat) : Int) := by omega
  rw [e0]
  refine Cw_range1 ⟨_, itR1 (by omega), .inl ⟨⟨_, _, rfl⟩, fun _ z => by cases z⟩, ⟨3 + r, rfl, by omega, by omega, Nat.zero_le _, [], 1, rfl, by decide, Store.set_self .., (Store.set_ne fk).trans (Store.set_self ..), s0.put (.head _), ⟨(fun n r h => by cases h), (fun r h => nomatch h)⟩⟩, 9, ?_⟩
  rintro i ρ' σ' hρ ⟨N, eN, hN3, hN9, hiN, R, k, hRi, hkk, hk', hf', sm, ok⟩
  refine ⟨by omega, trivial, fun v hv => ?_, fun hv => ?_⟩
  · simp only [It.at] at hv
    split at hv
    rotate_left
    · cases hv
    rename_i hlt
    cases hv
    cases eN
    have e1 : (0 : Int) + (i : Int) * 1 = (i : Int) := by omega
    rw [e1]
    have hc' : σ' c = some (.list (cells.map V.int)) := sm.at hc (by simpa using ck)
    refine Asg_Name (.inl rfl) (Sx_cons (S1_Assign (Ew_Subscript ?_)))
    refine Ew_Tuple (Ew_items_cons (Ew_str (Ew_items_cons (Ew_str (Ew_items_cons (Ew_str (Ew_items_cons (Ew_str (Ew_items_cons (Ew_str (Ew_items_nil ⟨by simp, ?_⟩)))))))))))
    refine Ew_CallG (EvF.globK (by with_unfolding_all rfl)) keep_fn (Ew_items_cons (Ew_name (Fra.aside (hρ.at rfl)) (Ew_item (v := .none) (Ew_int ?_))))
    refine (draw_spec (many := 5) hk' hc' (by omega) hz (by decide) fun q hq => ?_).cwle (by decide)
    obtain ⟨x, hx, hxr⟩ : ∃ x, rules5[q]? = some x ∧ x ∈ rules5 := by
      match q, hq with
      | 0, _ => exact ⟨_, rfl, by decide⟩
      | 1, _ => exact ⟨_, rfl, by decide⟩
      | 2, _ => exact ⟨_, rfl, by decide⟩
      | 3, _ => exact ⟨_, rfl, by decide⟩
      | 4, _ => exact ⟨_, rfl, by decide⟩
    refine subT (k := q) (vs := rules5.map V.str) (v := .str x) (by rw [List.getElem?_map, hx]; rfl) (Asg_Name (.inl rfl) ?_) (by unfold rules5; simp)
    have s1 : Same [kd] σ (σ'.set kd (feedO c (k + 1))) := sm.put (.head _)
    have hk1 : (σ'.set kd (feedO c (k + 1))) kd = some (feedO c (k + 1)) := Store.set_self ..
    have hf1 : (σ'.set kd (feedO c (k + 1))) f = some (.list (R.map rowV)) := (Store.set_ne fk).trans hf'
    generalize σ'.set kd (feedO c (k + 1)) = σ₁ at s1 hk1 hf1 ⊢
    refine Sx_cons (S1_Assign (Ew_List (Ew_items_nil ⟨by decide, fun p hp => Asg_Name (.inl rfl) ?_⟩)))
    have pk : p ≠ kd := Ne.symm (ne_of hk1 hp)
    have pf : p ≠ f := Ne.symm (ne_of hf1 hp)
    have hp0 : σ p = none := s1.none_of hp (by simpa using pk)
    have s2 : Same [kd] σ (σ₁.set p (.list [])) := s1.fresh hp0
    have hc2 : (σ₁.set p (.list [])) c = some (.list (cells.map V.int)) := s2.at hc (by simpa using ck)
    refine Sx_cons (S1_ForL ["turn"] (fun it j ρ₂ σ₂ => ∃ M, it = .rng 0 1 M ∧ M ≤ 2 ∧ j ≤ M ∧ ∃ (ps : List Nat) (k₂ : Nat), ps.length ≤ j ∧ (∀ m ∈ ps, m < i) ∧ k₂ ≤ k + 2 + j ∧ σ₂ kd = some (feedO c k₂) ∧ σ₂ f = some (.list (R.map rowV)) ∧ σ₂ p = some (.list (vints ps)) ∧ Same [kd] σ σ₂) (Iw_val ?_))
    refine Ew_CallG (EvF.bltK (by kernel_rfl) rfl) KeepOk.type (Ew_item (v := .none) (Ew_CallG (EvF.globK (by with_unfolding_all rfl)) keep_fn (Ew_items_cons (Ew_name (Fra.aside (Fra.aside (Fra.aside (hρ.at rfl)))) (Ew_item (v := .none) (Ew_int ?_))))))
    refine (draw_spec (many := 3) ((Store.set_ne (Ne.symm pk)).trans hk1) hc2 (by omega) hz (by decide) fun M hM => ?_).cwle (by decide)
    refine Cw_range1 ⟨_, itR1 (by omega), .inl ⟨⟨_, _, rfl⟩, fun _ z => by cases z⟩, ⟨M, rfl, by omega, Nat.zero_le _, [], k + 1 + 1, Nat.le_refl _, (fun m hm => nomatch hm), by omega, Store.set_self .., (Store.set_ne fk).trans ((Store.set_ne (Ne.symm pf)).trans hf1), (Store.set_ne pk).trans (Store.set_self ..), s2.put (.head _)⟩, 2, ?_⟩
    rintro j ρ₂ σ₂ hρ₂ ⟨M', eM, hM2, hjM, ps, k₂, hpl, hpi, hk₂, hkd₂, hf₂, hp₂, sm₂⟩
    refine ⟨by omega, trivial, fun v hv => ?_, fun hv => ?_⟩
    · simp only [It.at] at hv
      split at hv
      rotate_left
      · cases hv
      rename_i hjl
      cases hv
      have hc₂ : σ₂ c = some (.list (cells.map V.int)) := sm₂.at hc (by simpa using ck)
      refine Asg_Name (.inl rfl) (Sx_cons (S1_If (Ew_isCompare (Ew_name (Fra.aside (hρ₂.at (Fra.aside (Fra.aside (Fra.set_self ..))))) (Ew_int (O2_gt ⟨_, rfl, fun hb => ?_, fun hb => ?_⟩))))))
      · have hi0 : 0 < i := by have := of_decide_eq_true hb; omega
        refine Sx_cons (S1_Expr ?_)
        refine Ew_CallM (Ew_name (Fra.aside (hρ₂.at (Fra.set_self ..))) ⟨_, MethOk.list hp₂ PySem.F.slot_list_append PySem.F.type_list_append, KeepOk.builtin, Ew_item (v := .none) ?_⟩)
        refine Ew_CallG (EvF.globK (by with_unfolding_all rfl)) keep_fn (Ew_items_cons (Ew_name (Fra.aside (hρ₂.at (Fra.aside (Fra.aside (Fra.aside (hρ.at rfl)))))) (Ew_item (v := .none) (Ew_name (Fra.aside (hρ₂.at (Fra.aside (Fra.aside (Fra.set_self ..))))) ?_))))
        refine (draw_spec (many := i) hkd₂ hc₂ (by omega) hz hi0 fun y hy => ?_).cwle (by decide)
        refine Cw_append ((Store.set_ne pk).trans hp₂) (by unfold vints; rw [List.length_map]; omega) (Sx_nil (Sx_nil ⟨hρ₂.set (.head _), M', eM, hM2, by cases eM; omega, ps ++ [y], k₂ + 1, by simp; omega, fun m hm => ?_, by omega, (Store.set_ne (Ne.symm pk)).trans (Store.set_self ..), (Store.set_ne (Ne.symm pf)).trans ((Store.set_ne fk).trans hf₂), ?_, (sm₂.put (.head _)).fresh hp0⟩))
        · rcases List.mem_append.mp hm with q | q
          · exact hpi m q
          · rw [List.mem_singleton.mp q]; exact hy
        · rw [Store.set_self]; simp [vints]
      · exact Sx_nil (Sx_nil ⟨hρ₂.set (.head _), M', eM, hM2, by cases eM; omega, ps, k₂, by omega, hpi, by omega, hkd₂, hf₂, hp₂, sm₂⟩)
    · have hj2 : j ≤ 2 := by omega
      clear hjM eM
      have hc₂ : σ₂ c = some (.list (cells.map V.int)) := sm₂.at hc (by simpa using ck)
      refine Sx_cons (S1_Expr ?_)
      refine Ew_CallM (Ew_name (hρ₂.at (Fra.aside (Fra.aside (Fra.aside (hρ.at rfl))))) ⟨_, MethOk.list hf₂ PySem.F.slot_list_append PySem.F.type_list_append, KeepOk.builtin, Ew_item (v := .none) ?_⟩)
      refine Ew_Tuple (Ew_items_cons ?_)
      refine Ew_name (hρ₂.at (Fra.aside (Fra.set_self ..))) (Ew_items_cons ?_)
      refine Ew.mono (Q := fun v σ₃ => ∃ cl : List Int, v = .tup (cl.map V.int) ∧ cl.length ≤ 1 ∧ (∀ x ∈ cl, x ≠ 0) ∧ σ₃ = σ₂.set kd (feedO c (k₂ + 1))) ?_ fun v σ₃ hv₃ => ?_
      · refine Ew_IfExp (Ew_isCompare ?_)
        refine Ew_CallG (EvF.globK (by with_unfolding_all rfl)) keep_fn (Ew_items_cons (Ew_name (hρ₂.at (Fra.aside (Fra.aside (Fra.aside (hρ.at rfl))))) (Ew_item (v := .none) (Ew_int ?_))))
        refine (draw_spec (many := 2) hkd₂ hc₂ (by omega) hz (by decide) fun y hy => Ew_int (O2_eq ⟨_, rfl, fun _ => Ew_Tuple (Ew_items_nil ⟨by simp, [], rfl, by simp, (fun x hx => nomatch hx), rfl⟩), fun _ => ?_⟩)).cwle (by decide)
        refine Ew_Tuple (Ew_items_cons (Ew_BinOp (Ew_int (Ew_name (hρ₂.at (Fra.aside (Fra.aside (Fra.set_self ..)))) (O2_add (Ew_items_nil ⟨by simp, [1 + (i : Int)], rfl, by simp, fun x hx => ?_, rfl⟩))))))
        rw [List.mem_singleton.mp hx]; omega
      · obtain ⟨cl, rfl, hcl, hcz, rfl⟩ := hv₃
        have hp₃ : (σ₂.set kd (feedO c (k₂ + 1))) p = some (.list (vints ps)) := (Store.set_ne pk).trans hp₂
        have hf₃ : (σ₂.set kd (feedO c (k₂ + 1))) f = some (.list (R.map rowV)) := (Store.set_ne fk).trans hf₂
        refine Ew_items_cons (Ew_CallG (EvF.bltK (by kernel_rfl) rfl) KeepOk.type (Ew_item (v := .none) (Ew_name (hρ₂.at (Fra.set_self ..)) (Cw_tupleL hp₃ (by unfold vints; rw [List.length_map]; omega) (Ew_items_nil ⟨by simp, ?_⟩)))))
        refine Cw_append hf₃ (by rw [List.length_map]; omega) (Sx_nil ⟨(((hρ.set (.head _)).set (.tail _ (.head _))).set (.tail _ (.tail _ (.head _)))).join hρ₂ (by decide), _, rfl, hN3, hN9, hlt, R ++ [⟨x, cl, ps, .none⟩], k₂ + 1, by simp [hRi], by omega, (Store.set_ne (Ne.symm fk)).trans (Store.set_self ..), ?_, (sm₂.put (.head _)).fresh hf, ok.snoc ⟨hxr, hcl, hcz, by show ps.length ≤ 2; omega, rfl⟩ (by rw [hRi]; exact hpi)⟩)
        rw [Store.set_self, List.map_append]; rfl
  · have hiN' : i = N := by
      cases eN
      simp only [It.at] at hv
      split at hv
      · cases hv
      · omega
    subst hiN'
    exact Sx_cons (S1_Return (Ew_name (hρ.at rfl) (h f R σ' hf sm hf' (by omega) (by omega) ok)))
end
end Mine

open PySem PySem.W PyProof.Rows PySem.Calls PyProof.V PySem.Spec PySem.SeqAt
set_option Elab.async false
set_option linter.all false
set_option maxRecDepth 100000
set_option maxHeartbeats 4000000
namespace Mine
/-! rounds: the plain law -/
theorem isR_le (r : Stp') : isR r ≤ 1 := by unfold isR; split <;> omega
theorem maxL_le {l : List Nat} {b : Nat} (h : ∀ x ∈ l, x ≤ b) : maxL l ≤ b := by
  rcases maxL_mem l 0 with q | q
  · unfold maxL; rw [q]; exact Nat.zero_le _
  · exact h _ q
theorem depR_eq {R : List Stp'} (g : GoodRows R) (n : Nat) : depR R n = maxL ((premsOf R n).map (depR R)) + isR (rowAt R n) := dep_eq g.ahead n
theorem depR_prem {R : List Stp'} (g : GoodRows R) {n m : Nat} (h : m ∈ premsOf R n) : depR R m + isR (rowAt R n) ≤ depR R n := by
  rw [depR_eq g n]
  exact Nat.add_le_add_right (maxL_ge _ _ _ (List.mem_map_of_mem h)) _
theorem depR_le {R : List Stp'} (g : GoodRows R) (n : Nat) : depR R n ≤ n + 1 := by
  induction n using Nat.strongRecOn with
  | _ n ih =>
    rw [depR_eq g n]
    refine Nat.add_le_add (maxL_le fun x hx => ?_) (isR_le _)
    obtain ⟨m, hm, rfl⟩ := List.mem_map.mp hx
    have := g.ahead n m hm
    have := ih m this
    omega
theorem depR_max {R : List Stp'} (g : GoodRows R) {n c : Nat} (h : ∀ m ∈ premsOf R n, depR R m ≤ c) : depR R n ≤ c + isR (rowAt R n) := by
  rw [depR_eq g n]
  refine Nat.add_le_add_right (maxL_le fun x hx => ?_) _
  obtain ⟨m, hm, rfl⟩ := List.mem_map.mp hx
  exact h m hm
def keysOf (kvs : List (Int × V)) : List Int := kvs.map (·.1)
def canL (R : List Stp') (ks : List Int) (b : Bool) : List Nat := (List.range R.length).filter fun n => !decide ((n : Int) ∈ ks) && (((rowAt R n).rule == ("resolve" : Str)) == b) && (premsOf R n).all fun m => decide ((m : Int) ∈ ks)
theorem mem_canL {R : List Stp'} {ks : List Int} {b : Bool} {n : Nat} : n ∈ canL R ks b ↔ n < R.length ∧ (n : Int) ∉ ks ∧ ((rowAt R n).rule == ("resolve" : Str)) = b ∧ ∀ m ∈ premsOf R n, (m : Int) ∈ ks := by
  unfold canL
  simp only [List.mem_filter, List.mem_range, Bool.and_eq_true, Bool.not_eq_true', decide_eq_false_iff_not, beq_iff_eq, List.all_eq_true, decide_eq_true_eq]
  constructor
  · rintro ⟨a, ⟨b, c⟩, d⟩; exact ⟨a, b, c, d⟩
  · rintro ⟨a, b, c, d⟩; exact ⟨a, ⟨b, c⟩, d⟩
theorem isR_of {R : List Stp'} {n : Nat} : isR (rowAt R n) = if ((rowAt R n).rule == ("resolve" : Str)) = true then 1 else 0 := by
  unfold isR
  simp only [beq_iff_eq]
structure Rd (R : List Stp') (kvs : List (Int × V)) (c : Nat) : Prop where
  nd : (kvs.map (·.1)).Nodup
  keys : ∀ k : Int, k ∈ kvs.map (·.1) → ∃ n : Nat, k = n ∧ n < R.length
  vals : ∀ n : Nat, (n : Int) ∈ kvs.map (·.1) → getK (n : Int) kvs = some (.int (depR R n))
  le : ∀ n : Nat, (n : Int) ∈ kvs.map (·.1) → depR R n ≤ c
  lt : ∀ n : Nat, n < R.length → depR R n < c → (n : Int) ∈ kvs.map (·.1)
def RdR (R : List Stp') (kvs : List (Int × V)) (c : Nat) : Prop := ∀ n : Nat, n < R.length → isR (rowAt R n) = 1 → depR R n ≤ c → (n : Int) ∈ kvs.map (·.1)
theorem Rd.none (R : List Stp') : Rd R [] 0 := ⟨List.nodup_nil, (fun k h => nomatch h), (fun n h => nomatch h), (fun n h => nomatch h), fun n _ h => absurd h (Nat.not_lt_zero _)⟩
theorem RdR.none {R : List Stp'} (g : GoodRows R) : RdR R [] 0 := fun n _ h1 h2 => by
  rw [depR_eq g, h1] at h2
  omega
theorem Rd.len {R : List Stp'} {kvs : List (Int × V)} {c : Nat} (h : Rd R kvs c) : kvs.length ≤ R.length := keys_len h.nd h.keys
theorem Rd.all {R : List Stp'} {kvs : List (Int × V)} {c : Nat} (h : Rd R kvs c) (hl : ¬ kvs.length < R.length) (n : Nat) (hn : n < R.length) : (n : Int) ∈ kvs.map (·.1) := by
  refine Classical.byContradiction fun q => ?_
  have := keys_len (kvs := ((n : Int), V.none) :: kvs) (K := R.length) (by rw [List.map_cons, List.nodup_cons]; exact ⟨q, h.nd⟩) fun m hm => by
    rw [List.map_cons] at hm
    rcases List.mem_cons.mp hm with rfl | hm
    · exact ⟨n, rfl, hn⟩
    · exact h.keys m hm
  simp at this
  omega
theorem Rd.some {R : List Stp'} {kvs : List (Int × V)} {c : Nat} (g : GoodRows R) (h : Rd R kvs c) (hl : kvs.length < R.length) : c ≤ R.length := by
  refine Classical.byContradiction fun q => ?_
  have : (zints (List.range R.length)).length ≤ (kvs.map (·.1)).length := List.Nodup.length_le_of_subset (ints_nodup List.nodup_range) fun m hm => by
    obtain ⟨n, rfl, hn⟩ := mem_ints.mp hm
    have hn := List.mem_range.mp hn
    have := depR_le g n
    exact h.lt n hn (by omega)
  simp [zints] at this
  omega
/-! the update -/
def upd (l : List Nat) (c : Nat) : List (Int × V) := l.map fun n : Nat => ((n : Int), V.int (c : Nat))
theorem mergeK_len (ps : List (Int × V)) : ∀ kvs : List (Int × V), kvs.length ≤ (mergeK ps kvs).length := by
  induction ps with
  | nil => exact fun kvs => Nat.le_refl _
  | cons p ps ih =>
    intro kvs
    have e := congrArg List.length (putK_keys p.1 p.2 kvs)
    rw [List.length_map] at e
    have : kvs.length ≤ (putK p.1 p.2 kvs).length := by
      rw [e]; split <;> simp
    exact Nat.le_trans this (ih _)
theorem mergeK_lt {p : Int × V} {ps : List (Int × V)} {kvs : List (Int × V)} (h : p.1 ∉ kvs.map (·.1)) : kvs.length < (mergeK (p :: ps) kvs).length := by
  have e := congrArg List.length (putK_keys p.1 p.2 kvs)
  rw [List.length_map, if_neg h] at e
  simp only [List.length_append, List.length_map, List.length_cons, List.length_nil] at e
  have := mergeK_len ps (putK p.1 p.2 kvs)
  show _ < (mergeK ps (putK p.1 p.2 kvs)).length
  omega
theorem mem_mergeK {k : Int} (ps : List (Int × V)) : ∀ kvs : List (Int × V), k ∈ (mergeK ps kvs).map (·.1) ↔ k ∈ ps.map (·.1) ∨ k ∈ kvs.map (·.1) := by
  induction ps with
  | nil => intro kvs; simp [mergeK]
  | cons p ps ih =>
    intro kvs
    show k ∈ (mergeK ps (putK p.1 p.2 kvs)).map (·.1) ↔ _
    rw [ih, mem_putK, List.map_cons, List.mem_cons]
    constructor
    · rintro (h | h | h)
      · exact .inl (.inr h)
      · exact .inl (.inl h)
      · exact .inr h
    · rintro ((h | h) | h)
      · exact .inr (.inl h)
      · exact .inl h
      · exact .inr (.inr h)
theorem nodup_mergeK (ps : List (Int × V)) : ∀ kvs : List (Int × V), (kvs.map (·.1)).Nodup → ((mergeK ps kvs).map (·.1)).Nodup := by
  induction ps with
  | nil => exact fun _ h => h
  | cons p ps ih => exact fun kvs h => ih _ (nodup_putK h)
theorem getK_upd_ne {c : Nat} {k : Int} (l : List Nat) : ∀ kvs : List (Int × V), k ∉ (upd l c).map (·.1) → getK k (mergeK (upd l c) kvs) = getK k kvs := by
  induction l with
  | nil => exact fun _ _ => rfl
  | cons n l ih =>
    intro kvs h
    have h' : k ∉ (n : Int) :: (upd l c).map (·.1) := h
    rw [List.mem_cons, not_or] at h'
    show getK k (mergeK (upd l c) (putK (n : Int) (V.int (c : Nat)) kvs)) = _
    rw [ih _ h'.2, getK_put_ne h'.1]
theorem getK_upd {c n : Nat} (l : List Nat) : ∀ kvs : List (Int × V), n ∈ l → getK (n : Int) (mergeK (upd l c) kvs) = some (.int (c : Nat)) := by
  induction l with
  | nil => exact fun _ h => nomatch h
  | cons m l ih =>
    intro kvs h
    show getK (n : Int) (mergeK (upd l c) (putK (m : Int) (V.int (c : Nat)) kvs)) = _
    by_cases q : n ∈ l
    · exact ih _ q
    · have e : n = m := by rcases List.mem_cons.mp h with e | e; exact e; exact absurd e q
      subst e
      rw [getK_upd_ne, getK_put_self]
      intro z
      unfold upd at z
      rw [List.map_map] at z
      obtain ⟨x, hx, e⟩ := List.mem_map.mp z
      have : x = n := Int.ofNat_inj.mp e
      exact q (this ▸ hx)
theorem upd_keys {c : Nat} {k : Int} {l : List Nat} : k ∈ (upd l c).map (·.1) ↔ ∃ n ∈ l, k = (n : Int) := by
  unfold upd
  rw [List.map_map, List.mem_map]
  exact ⟨fun ⟨n, a, b⟩ => ⟨n, a, b.symm⟩, fun ⟨n, a, b⟩ => ⟨n, a, b.symm⟩⟩
theorem Rd.free {R : List Stp'} {kvs : List (Int × V)} {c : Nat} (g : GoodRows R) (h : Rd R kvs c) : Rd R (mergeK (upd (canL R (keysOf kvs) false) c) kvs) c := by
  have new : ∀ n, n ∈ canL R (keysOf kvs) false → depR R n = c := fun n hn => by
    obtain ⟨a, b, e, p⟩ := mem_canL.mp hn
    have h1 := depR_max g (c := c) fun m hm => h.le m (p m hm)
    rw [isR_of, e] at h1
    have h2 : ¬ depR R n < c := fun z => b (h.lt n a z)
    simp at h1
    omega
  refine ⟨nodup_mergeK _ _ h.nd, fun k hk => ?_, fun n hn => ?_, fun n hn => ?_, fun n a b => (mem_mergeK _ _).mpr (.inr (h.lt n a b))⟩
  · rcases (mem_mergeK _ _).mp hk with q | q
    · obtain ⟨n, hn, e⟩ := upd_keys.mp q
      exact ⟨n, e, (mem_canL.mp hn).1⟩
    · exact h.keys k q
  · by_cases q : n ∈ canL R (keysOf kvs) false
    · rw [getK_upd _ _ q, new n q]
    · rcases (mem_mergeK _ _).mp hn with z | z
      · obtain ⟨m, hm, e⟩ := upd_keys.mp z
        exact absurd (Int.ofNat_inj.mp e ▸ hm) q
      · rw [getK_upd_ne _ _ fun z => ?_]
        · exact h.vals n z
        · obtain ⟨m, hm, e⟩ := upd_keys.mp z
          exact q (Int.ofNat_inj.mp e ▸ hm)
  · rcases (mem_mergeK _ _).mp hn with z | z
    · obtain ⟨m, hm, e⟩ := upd_keys.mp z
      have e := Int.ofNat_inj.mp e
      subst e
      exact Nat.le_of_eq (new _ hm)
    · exact h.le n z
theorem RdR.grow {R : List Stp'} {kvs ps : List (Int × V)} {c : Nat} (h : RdR R kvs c) : RdR R (mergeK ps kvs) c := fun n a b e => (mem_mergeK _ _).mpr (.inr (h n a b e))
theorem Rd.full {R : List Stp'} {kvs : List (Int × V)} {c : Nat} (g : GoodRows R) (h : Rd R kvs c) (hr : RdR R kvs c) (e : canL R (keysOf kvs) false = []) (n : Nat) (hn : n < R.length) (hc : depR R n ≤ c) : (n : Int) ∈ kvs.map (·.1) := by
  induction n using Nat.strongRecOn with
  | _ n ih =>
    by_cases q : isR (rowAt R n) = 1
    · exact hr n hn q hc
    · refine Classical.byContradiction fun z => ?_
      have : n ∈ canL R (keysOf kvs) false := mem_canL.mpr ⟨hn, z, ?_, fun m hm => ?_⟩
      · rw [e] at this; cases this
      · rw [isR_of] at q
        cases w : ((rowAt R n).rule == ("resolve" : Str)) with
        | false => rfl
        | true => rw [w] at q; exact absurd rfl q
      · have a := g.ahead n m hm
        have b := depR_prem g hm
        exact ih m a (by omega) (by omega)
theorem Rd.next {R : List Stp'} {kvs : List (Int × V)} {c : Nat} (g : GoodRows R) (h : Rd R kvs c) (hr : RdR R kvs c) (e : canL R (keysOf kvs) false = []) :
    Rd R (mergeK (upd (canL R (keysOf kvs) true) (c + 1)) kvs) (c + 1) ∧ RdR R (mergeK (upd (canL R (keysOf kvs) true) (c + 1)) kvs) (c + 1) := by
  have fl := h.full g hr e
  have new : ∀ n, n ∈ canL R (keysOf kvs) true → depR R n = c + 1 := fun n hn => by
    obtain ⟨a, b, e, p⟩ := mem_canL.mp hn
    have h1 := depR_max g (c := c) fun m hm => h.le m (p m hm)
    rw [isR_of, e] at h1
    have h2 : ¬ depR R n ≤ c := fun z => b (fl n a z)
    simp at h1
    omega
  refine ⟨⟨nodup_mergeK _ _ h.nd, fun k hk => ?_, fun n hn => ?_, fun n hn => ?_, fun n a b => (mem_mergeK _ _).mpr (.inr (fl n a (by omega)))⟩, fun n a b q => ?_⟩
  · rcases (mem_mergeK _ _).mp hk with q | q
    · obtain ⟨n, hn, e⟩ := upd_keys.mp q
      exact ⟨n, e, (mem_canL.mp hn).1⟩
    · exact h.keys k q
  · by_cases q : n ∈ canL R (keysOf kvs) true
    · rw [getK_upd _ _ q, new n q]
    · rcases (mem_mergeK _ _).mp hn with z | z
      · obtain ⟨m, hm, e⟩ := upd_keys.mp z
        exact absurd (Int.ofNat_inj.mp e ▸ hm) q
      · rw [getK_upd_ne _ _ fun z => ?_]
        · exact h.vals n z
        · obtain ⟨m, hm, e⟩ := upd_keys.mp z
          exact q (Int.ofNat_inj.mp e ▸ hm)
  · rcases (mem_mergeK _ _).mp hn with z | z
    · obtain ⟨m, hm, e⟩ := upd_keys.mp z
      have e := Int.ofNat_inj.mp e
      subst e
      exact Nat.le_of_eq (new _ hm)
    · exact Nat.le_succ_of_le (h.le n z)
  · refine (mem_mergeK _ _).mpr ?_
    by_cases z : (n : Int) ∈ kvs.map (·.1)
    · exact .inr z
    · refine .inl (upd_keys.mpr ⟨n, mem_canL.mpr ⟨a, z, ?_, fun m hm => ?_⟩, rfl⟩)
      · rw [isR_of] at b
        cases w : ((rowAt R n).rule == ("resolve" : Str)) with
        | true => rfl
        | false => rw [w] at b; simp at b
      · have := g.ahead n m hm
        have b' := depR_prem g hm
        exact fl m (by omega) (by omega)
end Mine

open PySem PySem.W PyProof.Rows PySem.Calls PyProof.V PySem.Spec PySem.SeqAt
set_option Elab.async false
set_option linter.all false
set_option maxRecDepth 100000
set_option maxHeartbeats 4000000
namespace Mine
def canP (R : List Stp') (ks : List Int) (b : Bool) (n : Nat) : Bool := !decide ((n : Int) ∈ ks) && (((rowAt R n).rule == ("resolve" : Str)) == b) && (premsOf R n).all fun m => decide ((m : Int) ∈ ks)
theorem canL_eq (R : List Stp') (ks : List Int) (b : Bool) : canL R ks b = (List.range R.length).filter (canP R ks b) := rfl
theorem filter_nil_all {l : List Nat} {ks : List Int} : (l.filter fun m : Nat => !decide ((m : Int) ∈ ks)) = [] ↔ (l.all fun m => decide ((m : Int) ∈ ks)) = true := by
  rw [List.filter_eq_nil_iff, List.all_eq_true]
  simp
section
variable {prog : Program} {w : World} {g : Heap} {mg mb : Str → Option Value} {d : Nat} {env : Env} {ρ : Fra} {σ : Store}

theorem can_spec {ra da : Addr} {R : List Stp'} {kvs : List (Int × V)} {b : Bool} {Q : V → Store → Prop} (hr : σ ra = some (.list (R.map rowV))) (hd : σ da = some (.idict kvs)) (ok : RowsOk R) (hz : R.length ≤ 9)
    (h : ∀ a σ', σ a = none → Same [] σ σ' → σ' a = some (.list (vints (canL R (keysOf kvs) b))) → Q (.ref a) σ') :
    Kw (K1 prog w g mg mb) 8 (.ref 237) [.ref ra, .ref da, .bool b] Q σ := by
  refine Kw_def (d := 7) ["rows", "done", "is_resolve"] (by with_unfolding_all rfl) (by kernel_rfl) (fun ws h => by match ws, h with | [a, b, c], _ => rfl) (by decide) (fun L => ?_)
  refine Sx_cons (S1_Assign (Ew_List (Ew_items_nil ⟨by decide, fun f hf => Asg_Name (.inl rfl) ?_⟩)))
  have s0 : Same [] σ (σ.set f (.list [])) := (Same.refl _ _).fresh hf
  refine Sx_cons (S1_ForL ["number", "rule", "clause", "premises"] (fun it i ρ' σ' => it = .rng 0 1 R.length ∧ i ≤ R.length ∧ Same [] σ σ' ∧ σ' f = some (.list (vints ((List.range i).filter (canP R (keysOf kvs) b))))) (Iw_val ?_))
  refine Ew_CallG (EvF.bltK (by kernel_rfl) rfl) KeepOk.type (Ew_item (v := .none) (Ew_CallG (EvF.bltK (by kernel_rfl) rfl) KeepOk.builtin (Ew_item (v := .none) (Ew_name rfl (Cw_lenL (s0.at hr) (by rw [List.length_map]; omega) ?_)))))
  rw [List.length_map]
  refine Cw_range1 ⟨_, itR1 (by omega), .inl ⟨⟨_, _, rfl⟩, fun _ z => by cases z⟩, ⟨rfl, Nat.zero_le _, s0, Store.set_self ..⟩, R.length, ?_⟩
  rintro i ρ' σ' hρ ⟨-, hi, sm, hf'⟩
  refine ⟨hi, trivial, fun v hv => ?_, fun hv => ?_⟩
  · simp only [It.at] at hv
    split at hv
    rotate_left
    · cases hv
    rename_i hlt
    cases hv
    have e1 : (0 : Int) + (i : Int) * 1 = (i : Int) := by omega
    rw [e1]
    have hR : R[i]? = some R[i] := List.getElem?_eq_getElem hlt
    generalize R[i] = r at hR
    have hP := premsOf_some hR
    have hA := rowAt_some hR
    have hr2 := (ok.each r (List.mem_of_getElem? hR)).prem
    refine Asg_Name (.inl rfl) (Sx_cons (S1_Assign (Ew_Subscript (Ew_name (Fra.aside (hρ.at rfl)) (Ew_name (Fra.set_self ..) (subL (sm.at hr) (v := rowV r) (by rw [List.getElem?_map, hR]; rfl) (by rw [List.length_map]; omega) ?_))))))
    refine Asg_Tuple (vs := [.str r.rule, .tup (r.clause.map V.int), .tup (vints r.prem)]) rfl (AsgL_cons (Asg_Name (.inl rfl) (AsgL_cons (Asg_Name (.inl rfl) (AsgL_cons (Asg_Name (.inl rfl) (AsgL_nil ?_)))))))
    have ep : canP R (keysOf kvs) b i = (!decide ((i : Int) ∈ keysOf kvs) && ((r.rule == ("resolve" : Str)) == b) && r.prem.all fun m => decide ((m : Int) ∈ keysOf kvs)) := by unfold canP; rw [hA, hP]
    refine Sx_cons (S1_If (Ew.mono (Q := fun c σ₁ => c = canP R (keysOf kvs) b i ∧ Same [] σ' σ₁) ?_ fun c σ₁ hc => ?_))
    · rw [ep]
      refine Ew_isAnd (Ew_and_cons (Ew_isCompare (Ew_name (Fra.aside (Fra.aside (Fra.aside (Fra.set_self ..)))) (Ew_name (Fra.aside (Fra.aside (Fra.aside (Fra.aside (hρ.at rfl))))) (O2_notInD (sm.at hd) ⟨_, rfl, fun h1 => ?_, fun h1 => ⟨?_, Same.refl _ _⟩⟩)))))
      · have n1 : decide ((i : Int) ∈ keysOf kvs) = false := by
          have : hasK (i : Int) kvs = false := by simpa using h1
          refine decide_eq_false fun z => ?_
          have := hasK_iff.mpr z
          simp_all
        refine Ew_and_cons (Ew_isCompare (Ew_Compare (Ew_name (Fra.aside (Fra.aside (Fra.set_self ..))) (Ew_str (O2_eqStr (Ew_name (Fra.aside (Fra.aside (Fra.aside (Fra.aside (hρ.at rfl))))) (O2_eqBool ⟨_, rfl, fun h2 => ?_, fun h2 => ⟨?_, Same.refl _ _⟩⟩)))))))
        · refine Ew_and_cons (Ew_isCompare ?_)
          refine Ew_ListComp (cl := [("done", L + 1)]) (by with_unfolding_all rfl) (ClOk.to ⟨rfl, trivial⟩) (Iw_val (Ew_name (Fra.set_self ..) ⟨_, .tup, fun D LL hD => ?_⟩))
          refine Gw_loopL ["one"] rfl rfl turn_one (.inl ⟨⟨_, _, rfl⟩, fun _ z => by cases z⟩) (fun j σ₂ => j ≤ r.prem.length ∧ Same [] σ' σ₂ ∧ σ₂ D = some (.list (vints ((r.prem.take j).filter fun m : Nat => !decide ((m : Int) ∈ keysOf kvs))))) ⟨Nat.zero_le _, (Same.refl _ _).fresh hD, Store.set_self ..⟩ r.prem.length ?_
          rintro j ρ₂ σ₂ hρ₂ ⟨hj, sm₂, hD₂⟩
          refine ⟨hj, trivial, fun v hv => ?_, fun hv ρ₃ hρ₃ => ?_⟩
          · simp only [It.at] at hv
            unfold vints at hv
            rw [List.getElem?_map, Option.map_eq_some_iff] at hv
            obtain ⟨m, hm, rfl⟩ := hv
            obtain ⟨hj', -⟩ := List.getElem?_eq_some_iff.mp hm
            have ln : ((r.prem.take j).filter fun m : Nat => !decide ((m : Int) ∈ keysOf kvs)).length ≤ 1000 := Nat.le_trans (List.length_filter_le _ _) (by rw [List.length_take]; omega)
            refine Asg_Name (.inl rfl) (Ts_one (Ew_isCompare (Ew_name (Fra.set_self ..) (Ew_name (Fra.aside (hρ₂.at (compFra_at (Fra.aside (Fra.aside (Fra.aside (Fra.aside (hρ.at rfl)))))))) (O2_notInD (sm₂.at (sm.at hd)) ⟨_, rfl, fun hb => ?_, fun hb => ?_⟩)))))
            · refine Em_last (Ew_name (Fra.set_self ..) ⟨_, hD₂, by unfold vints; rw [List.length_map]; omega, hρ₂.set (.head _), hj', sm₂.fresh hD, ?_⟩)
              have : ¬ (m : Int) ∈ keysOf kvs := fun z => by
                have := hasK_iff.mpr z
                simp_all
              rw [Store.set_self, List.take_add_one, hm, List.filter_append]
              simp [this, vints]
            · have : (m : Int) ∈ keysOf kvs := hasK_iff.mp (by simpa using hb)
              refine ⟨hρ₂.set (.head _), hj', sm₂, ?_⟩
              rw [hD₂, List.take_add_one, hm, List.filter_append]
              simp [this]
          · have hj' : j = r.prem.length := by
              simp only [It.at] at hv
              unfold vints at hv
              rw [List.getElem?_map, Option.map_eq_none_iff, List.getElem?_eq_none_iff] at hv
              omega
            subst hj'
            rw [List.take_length, ← vints_eq] at hD₂
            refine Ew_List (Ew_items_nil ⟨by decide, fun e he => ?_⟩)
            have eD : D ≠ e := ne_of hD₂ he
            have s3 : Same [] σ' (σ₂.set e (.list [])) := sm₂.new he
            refine O2_eqInts (ms := []) ((Store.set_ne eD).trans hD₂) (Store.set_self ..) ⟨_, rfl, fun h3 => Ew_and_nil ⟨?_, s3⟩, fun h3 => ⟨?_, s3⟩⟩
            · have h3 := of_decide_eq_true h3
              have : (r.prem.filter fun m : Nat => !decide ((m : Int) ∈ keysOf kvs)) = [] := List.map_eq_nil_iff.mp h3
              rw [filter_nil_all.mp this, n1, h2]; rfl
            · have h3 := of_decide_eq_false h3
              have : ¬ (r.prem.filter fun m : Nat => !decide ((m : Int) ∈ keysOf kvs)) = [] := fun z => h3 (List.map_eq_nil_iff.mpr z)
              rw [filter_nil_all, Bool.not_eq_true] at this
              rw [this, n1, h2]; rfl
        · rw [h2]; simp
      · have : (i : Int) ∈ keysOf kvs := hasK_iff.mp (by simpa using h1)
        simp [this]
    · obtain ⟨rfl, s1⟩ := hc
      have s2 := sm.trans s1
      have hf₁ := s1.at hf'
      have ln : ((List.range i).filter (canP R (keysOf kvs) b)).length ≤ 1000 := Nat.le_trans (List.length_filter_le _ _) (by rw [List.length_range]; omega)
      refine ⟨fun ht => Sx_cons (S1_Expr ?_), fun ht => Sx_nil (Sx_nil ⟨?_, rfl, hlt, s2, ?_⟩)⟩
      · refine Ew_CallM (Ew_name (Fra.aside (Fra.aside (Fra.aside (Fra.aside (hρ.at rfl))))) ⟨_, MethOk.list hf₁ PySem.F.slot_list_append PySem.F.type_list_append, KeepOk.builtin, Ew_item (v := .none) (Ew_name (Fra.aside (Fra.aside (Fra.aside (Fra.set_self ..)))) ?_)⟩)
        refine Cw_append hf₁ (by unfold vints; rw [List.length_map]; omega) (Sx_nil (Sx_nil ⟨(((hρ.set (.head _)).set (.tail _ (.head _))).set (.tail _ (.tail _ (.head _)))).set (.tail _ (.tail _ (.tail _ (.head _)))), rfl, hlt, s2.fresh hf, ?_⟩))
        rw [Store.set_self, List.range_succ, List.filter_append]
        simp [ht, vints]
      · exact (((hρ.set (.head _)).set (.tail _ (.head _))).set (.tail _ (.tail _ (.head _)))).set (.tail _ (.tail _ (.tail _ (.head _))))
      · rw [hf₁, List.range_succ, List.filter_append]
        simp [ht]
  · have hi' : i = R.length := by
      simp only [It.at] at hv
      split at hv
      · cases hv
      · omega
    subst hi'
    exact Sx_cons (S1_Return (Ew_name (hρ.at rfl) (h f σ' hf sm (by rw [hf', canL_eq]))))
end
end Mine

open PySem PySem.W PyProof.Rows PySem.Calls PyProof.V PySem.Spec PySem.SeqAt
set_option Elab.async false
set_option linter.all false
set_option maxRecDepth 100000
set_option maxHeartbeats 4000000
namespace Mine
def deps (R : List Stp') : List Nat := (List.range R.length).map (depR R)
theorem canL_len (R : List Stp') (ks : List Int) (b : Bool) : (canL R ks b).length ≤ R.length := Nat.le_trans (List.length_filter_le _ _) (by rw [List.length_range]; omega)
theorem upd_snoc {l : List Nat} {j n c : Nat} (h : l[j]? = some n) : (upd (l.take (j + 1)) c).map pairV = (upd (l.take j) c).map pairV ++ [V.tup [V.int n, V.int c]] := by
  rw [List.take_add_one, h]
  unfold upd
  rw [List.map_append, List.map_append]
  rfl
section
variable {prog : Program} {w : World} {g : Heap} {mg mb : Str → Option Value} {d : Nat} {env : Env} {ρ : Fra} {σ : Store}

theorem rounds_spec {ra : Addr} {R : List Stp'} {Q : V → Store → Prop} (hr : σ ra = some (.list (R.map rowV))) (ok : RowsOk R) (hz : R.length ≤ 9)
    (h : ∀ a σ', σ a = none → Same [] σ σ' → σ' a = some (.list (vints (deps R))) → Q (.ref a) σ') :
    Kw (K1 prog w g mg mb) 10 (.ref 242) [.ref ra] Q σ := by
  have g := ok.good
  refine Kw_def (d := 9) ["rows"] (by with_unfolding_all rfl) (by kernel_rfl) (fun ws h => by match ws, h with | [a], _ => rfl) (by decide) (fun L => ?_)
  refine Sx_cons (S1_Assign (Ew_Tuple (Ew_items_cons (Ew_Dict0 fun da hda => Ew_items_cons (Ew_int (Ew_items_nil ⟨by simp, ?_⟩))))))
  refine Asg_Tuple rfl (AsgL_cons (Asg_Name (.inr ⟨rfl, rfl, rfl, _, rfl⟩) (AsgL_cons (Asg_Name (.inr ⟨rfl, rfl, rfl, _, rfl⟩) (AsgL_nil ?_)))))
  have s0 : Same [] σ (σ.set da (.idict [])) := (Same.refl _ _).fresh hda
  refine Sx_cons (S1_WhileL ["fresh", "count"] (fun m ρ' σ' => ∃ (c : Nat) (kvs : List (Int × V)), ρ' "count" = some (.int c) ∧ σ' da = some (.idict kvs) ∧ Rd R kvs c ∧ RdR R kvs c ∧ Same [] σ σ' ∧ m = R.length + 1 - c) (R.length + 1 - 0)
    ⟨0, [], rfl, Store.set_self .., Rd.none R, RdR.none g, s0, rfl⟩ ?_)
  rintro m ρ' σ' hρ ⟨c, kvs, hc, hd, rd, rr, sm, rfl⟩
  have hl := rd.len
  refine Ew_isCompare (Ew_CallG (EvF.bltK (by kernel_rfl) rfl) KeepOk.builtin (Ew_item (v := .none) (Ew_name (hρ.at rfl) (Cw_lenD hd (by omega) (Ew_CallG (EvF.bltK (by kernel_rfl) rfl) KeepOk.builtin (Ew_item (v := .none) (Ew_name (hρ.at rfl) (Cw_lenL (sm.at hr) (by rw [List.length_map]; omega) (O2_lt ⟨_, rfl, fun hb => ?_, fun hb => ?_⟩)))))))))
  · have hlt : kvs.length < R.length := by have := of_decide_eq_true hb; rw [List.length_map] at this; omega
    have hcN := rd.some g hlt
    clear hb hlt
    refine Sx_cons (S1_Assign (Ew_CallG (EvF.globK (by with_unfolding_all rfl)) keep_fn (Ew_items_cons (Ew_name (hρ.at rfl) (Ew_items_cons (Ew_name (hρ.at rfl) (Ew_item (v := .none) (Ew_bool ?_))))))))
    refine (can_spec (sm.at hr) hd ok hz fun fa σ₁ hfa sm₁ hl₁ => Asg_Name (.inl rfl) ?_).cwle (by decide)
    refine Sx_cons (S1_WhileL ["fresh"] (fun m ρ₂ σ₂ => ∃ (kvs : List (Int × V)) (fa : Addr), ρ₂ "fresh" = some (.ref fa) ∧ σ₂ fa = some (.list (vints (canL R (keysOf kvs) false))) ∧ fa ≠ da ∧ σ₂ da = some (.idict kvs) ∧ Rd R kvs c ∧ RdR R kvs c ∧ Same [] σ σ₂ ∧ m = R.length - kvs.length) (R.length - kvs.length)
      ⟨kvs, fa, Fra.set_self .., hl₁, Ne.symm (ne_of hd hfa), sm₁.at hd, rd, rr, sm.trans sm₁, rfl⟩ ?_)
    clear hd rd rr hl sm hl₁ sm₁ hfa
    rintro m ρ₂ σ₂ hρ₂ ⟨kvs₂, fa₂, hf₂, hl₂, nfd, hd₂, rd₂, rr₂, sm₂, rfl⟩
    have cl := canL_len R (keysOf kvs₂) false
    have hl := rd₂.len
    rw [← vints_eq] at hl₂
    refine Ew_isCompare (Ew_name hf₂ (Ew_List (Ew_items_nil ⟨by decide, fun e he => ?_⟩)))
    have fe : fa₂ ≠ e := ne_of hl₂ he
    have de : da ≠ e := ne_of hd₂ he
    have s3 : Same [] σ (σ₂.set e (.list [])) := sm₂.new he
    have hl₃ : (σ₂.set e (.list [])) fa₂ = some (.list (vints (canL R (keysOf kvs₂) false))) := by rw [← vints_eq]; exact (Store.set_ne fe).trans hl₂
    have hd₃ : (σ₂.set e (.list [])) da = some (.idict kvs₂) := (Store.set_ne de).trans hd₂
    refine O2_neInts (ms := []) ((Store.set_ne fe).trans hl₂) (Store.set_self ..) ?_
    generalize σ₂.set e (.list []) = σ₃ at s3 hl₃ hd₃ ⊢
    clear hl₂ hd₂ sm₂ he fe de
    refine ⟨_, rfl, fun hb => ?_, fun hb => ?_⟩
    · have hne : canL R (keysOf kvs₂) false ≠ [] := fun z => by rw [z] at hb; simp [zints] at hb
      refine Sx_cons (S1_Expr (Ew_CallM (Ew_name (hρ₂.at (Fra.aside (hρ.at rfl))) ⟨_, MethOk.dict hd₃ PySem.F.slot_dict_update PySem.F.type_dict_update, KeepOk.builtin, Ew_item (v := .none) ?_⟩)))
      refine Ew_ListComp (cl := [("count", L + 2)]) (by with_unfolding_all rfl) (ClOk.to ⟨rfl, trivial⟩) (Iw_val (Ew_name hf₂ ⟨_, .list hl₃, fun D LL hD => ?_⟩))
      have fD : fa₂ ≠ D := ne_of hl₃ hD
      have dD : da ≠ D := ne_of hd₃ hD
      refine Gw_loopL ["number"] rfl rfl turn_one (.inl ⟨⟨_, _, rfl⟩, fun _ z => by cases z⟩) (fun j σ₄ => j ≤ (canL R (keysOf kvs₂) false).length ∧ Same [] σ₃ σ₄ ∧ σ₄ D = some (.list ((upd ((canL R (keysOf kvs₂) false).take j) c).map pairV))) ⟨Nat.zero_le _, (Same.refl _ _).fresh hD, Store.set_self ..⟩ (canL R (keysOf kvs₂) false).length ?_
      rintro j ρ₄ σ₄ hρ₄ ⟨hj, sm₄, hD₄⟩
      have hl₄ := sm₄.at hl₃
      refine ⟨hj, ⟨_, hl₄⟩, fun v hv => ?_, fun hv ρ₅ hρ₅ => ?_⟩
      · simp only [It.at, lof_of hl₄] at hv
        unfold vints at hv
        rw [List.getElem?_map, Option.map_eq_some_iff] at hv
        obtain ⟨n, hn, rfl⟩ := hv
        obtain ⟨hj', -⟩ := List.getElem?_eq_some_iff.mp hn
        refine Asg_Name (.inl rfl) (Ts_nil ⟨fun _ => Em_last (Ew_Tuple (Ew_items_cons (Ew_name (Fra.set_self ..) (Ew_items_cons (Ew_name (Fra.aside (hρ₄.at (compFra_at (hρ₂.at (Fra.aside hc))))) (Ew_items_nil ⟨by simp, _, hD₄, by unfold upd; simp; omega, hρ₄.set (.head _), hj', sm₄.fresh hD, ?_⟩)))))), fun z => by cases z⟩)
        rw [Store.set_self, upd_snoc hn]
      · have hj' : j = (canL R (keysOf kvs₂) false).length := by
          simp only [It.at, lof_of hl₄] at hv
          unfold vints at hv
          rw [List.getElem?_map, Option.map_eq_none_iff, List.getElem?_eq_none_iff] at hv
          omega
        subst hj'
        rw [List.take_length] at hD₄
        have s5 := s3.trans sm₄
        refine Cw_update (sm₄.at hd₃) hD₄ (by unfold upd; rw [List.length_map]; omega) ?_
        have s6 : Same [] σ (σ₄.set da (.idict (mergeK (upd (canL R (keysOf kvs₂) false) c) kvs₂))) := s5.fresh hda
        have rd₃ := rd₂.free g
        have rr₃ : RdR R (mergeK (upd (canL R (keysOf kvs₂) false) c) kvs₂) c := rr₂.grow
        refine Sx_cons (S1_Assign (Ew_CallG (EvF.globK (by with_unfolding_all rfl)) keep_fn (Ew_items_cons (Ew_name (hρ₂.at (Fra.aside (hρ.at rfl))) (Ew_items_cons (Ew_name (hρ₂.at (Fra.aside (hρ.at rfl))) (Ew_item (v := .none) (Ew_bool ?_))))))))
        refine (can_spec (s6.at hr) (Store.set_self ..) ok hz fun fb σ₇ hfb sm₇ hl₇ => Asg_Name (.inl rfl) (Sx_nil ⟨_, ?_, hρ₂.set (.head _), _, fb, Fra.set_self .., hl₇, Ne.symm (ne_of (Store.set_self ..) hfb), sm₇.at (Store.set_self ..), rd₃, rr₃, s6.trans sm₇, rfl⟩)).cwle (by decide)
        have hlt : kvs₂.length < (mergeK (upd (canL R (keysOf kvs₂) false) c) kvs₂).length := by
          obtain ⟨n, l, e⟩ := List.exists_cons_of_ne_nil hne
          have hn := (mem_canL (R := R) (ks := keysOf kvs₂) (b := false) (n := n)).mp (by rw [e]; exact .head _)
          rw [e]
          exact mergeK_lt (p := ((n : Int), V.int c)) hn.2.1
        have := rd₃.len
        omega
    · have he : canL R (keysOf kvs₂) false = [] := by
        have : zints (canL R (keysOf kvs₂) false) = [] := by simpa using hb
        exact List.map_eq_nil_iff.mp this
      have hn := rd₂.next g rr₂ he
      refine Sx_cons (S1_Assign (Ew_BinOp (Ew_name (hρ₂.at (Fra.aside hc)) (Ew_int (O2_add (Asg_Name (.inr ⟨rfl, rfl, rfl, _, rfl⟩) ?_))))))
      have ec : (c : Int) + 1 = ((c + 1 : Nat) : Int) := by omega
      rw [ec]
      refine Sx_cons (S1_Expr (Ew_CallM (Ew_name (Fra.aside (hρ₂.at (Fra.aside (hρ.at rfl)))) ⟨_, MethOk.dict hd₃ PySem.F.slot_dict_update PySem.F.type_dict_update, KeepOk.builtin, Ew_item (v := .none) ?_⟩)))
      refine Ew_ListComp (cl := [("count", L + 2)]) (by with_unfolding_all rfl) (ClOk.to ⟨rfl, trivial⟩) (Iw_val ?_)
      refine Ew_CallG (EvF.globK (by with_unfolding_all rfl)) keep_fn (Ew_items_cons (Ew_name (Fra.aside (hρ₂.at (Fra.aside (hρ.at rfl)))) (Ew_items_cons (Ew_name (Fra.aside (hρ₂.at (Fra.aside (hρ.at rfl)))) (Ew_item (v := .none) (Ew_bool ?_))))))
      refine (can_spec (s3.at hr) hd₃ ok hz fun fb σ₄ hfb sm₄ hl₄ => ⟨_, .list hl₄, fun D LL hD => ?_⟩).cwle (by decide)
      have cl := canL_len R (keysOf kvs₂) true
      have s4 := s3.trans sm₄
      have hd₄ := sm₄.at hd₃
      clear hl₃ hd₃ s3 sm₄ hfb
      refine Gw_loopL ["number"] rfl rfl turn_one (.inl ⟨⟨_, _, rfl⟩, fun _ z => by cases z⟩) (fun j σ₅ => j ≤ (canL R (keysOf kvs₂) true).length ∧ Same [] σ₄ σ₅ ∧ σ₅ D = some (.list ((upd ((canL R (keysOf kvs₂) true).take j) (c + 1)).map pairV))) ⟨Nat.zero_le _, (Same.refl _ _).fresh hD, Store.set_self ..⟩ (canL R (keysOf kvs₂) true).length ?_
      rintro j ρ₄ σ₅ hρ₄ ⟨hj, sm₅, hD₅⟩
      have hl₅ := sm₅.at hl₄
      refine ⟨hj, ⟨_, hl₅⟩, fun v hv => ?_, fun hv ρ₅ hρ₅ => ?_⟩
      · simp only [It.at, lof_of hl₅] at hv
        unfold vints at hv
        rw [List.getElem?_map, Option.map_eq_some_iff] at hv
        obtain ⟨n, hn, rfl⟩ := hv
        obtain ⟨hj', -⟩ := List.getElem?_eq_some_iff.mp hn
        refine Asg_Name (.inl rfl) (Ts_nil ⟨fun _ => Em_last (Ew_Tuple (Ew_items_cons (Ew_name (Fra.set_self ..) (Ew_items_cons (Ew_name (Fra.aside (hρ₄.at (compFra_at (Fra.set_self ..)))) (Ew_items_nil ⟨by simp, _, hD₅, by unfold upd; simp; omega, hρ₄.set (.head _), hj', sm₅.fresh hD, ?_⟩)))))), fun z => by cases z⟩)
        rw [Store.set_self, upd_snoc hn]
      · have hj' : j = (canL R (keysOf kvs₂) true).length := by
          simp only [It.at, lof_of hl₅] at hv
          unfold vints at hv
          rw [List.getElem?_map, Option.map_eq_none_iff, List.getElem?_eq_none_iff] at hv
          omega
        subst hj'
        rw [List.take_length] at hD₅
        refine Cw_update (sm₅.at hd₄) hD₅ (by unfold upd; rw [List.length_map]; omega) ?_
        refine Sx_nil ⟨_, ?_, ((hρ.set (.head _)).join hρ₂ (by decide)).set (.tail _ (.head _)), c + 1, _, Fra.set_self .., Store.set_self .., hn.1, hn.2, (s4.trans sm₅).fresh hda, rfl⟩
        omega
  · have hge : ¬ kvs.length < R.length := by have := of_decide_eq_false hb; rw [List.length_map] at this; omega
    have fl := rd.all hge
    refine Sx_cons (S1_Return ?_)
    refine Ew_ListComp (cl := [("done", L + 1)]) (by with_unfolding_all rfl) (ClOk.to ⟨rfl, trivial⟩) (Iw_val ?_)
    refine Ew_CallG (EvF.bltK (by kernel_rfl) rfl) KeepOk.type (Ew_item (v := .none) (Ew_CallG (EvF.bltK (by kernel_rfl) rfl) KeepOk.builtin (Ew_item (v := .none) (Ew_name (hρ.at rfl) (Cw_lenL (sm.at hr) (by rw [List.length_map]; omega) ?_)))))
    rw [List.length_map]
    refine Cw_range1 ⟨_, itR1 (by omega), fun D LL hD => ?_⟩
    have hD0 : σ D = none := sm.none_of hD (by simp)
    refine Gw_loopL ["number"] rfl rfl turn_one (.inl ⟨⟨_, _, rfl⟩, fun _ z => by cases z⟩) (fun j σ₂ => j ≤ R.length ∧ Same [] σ' σ₂ ∧ σ₂ D = some (.list (vints ((List.range j).map (depR R))))) ⟨Nat.zero_le _, (Same.refl _ _).fresh hD, Store.set_self ..⟩ R.length ?_
    rintro j ρ₂ σ₂ hρ₂ ⟨hj, sm₂, hD₂⟩
    refine ⟨hj, trivial, fun v hv => ?_, fun hv ρ₃ hρ₃ => ?_⟩
    · simp only [It.at] at hv
      split at hv
      rotate_left
      · cases hv
      rename_i hlt
      cases hv
      have e1 : (0 : Int) + (j : Int) * 1 = (j : Int) := by omega
      rw [e1]
      refine Asg_Name (.inl rfl) (Ts_nil ⟨fun _ => Em_last (Ew_Subscript (Ew_name (Fra.aside (hρ₂.at (compFra_at (hρ.at rfl)))) (Ew_name (Fra.set_self ..) (subD (sm₂.at hd) (rd.vals j (fl j hlt)) ⟨_, hD₂, by unfold vints; rw [List.length_map, List.length_map, List.length_range]; omega, hρ₂.set (.head _), hlt, sm₂.fresh hD, ?_⟩)))), fun z => by cases z⟩)
      rw [Store.set_self, List.range_succ]
      simp [vints]
    · have hj' : j = R.length := by
        simp only [It.at] at hv
        split at hv
        · cases hv
        · omega
      subst hj'
      exact h D σ₂ hD0 (sm.trans sm₂) hD₂
end
end Mine

open PySem PySem.W PyProof.Rows PySem.Calls PyProof.V PySem.Spec PySem.SeqAt
set_option Elab.async false
set_option linter.all false
set_option maxRecDepth 100000
set_option maxHeartbeats 4000000
namespace Mine
/-! all ways down -/
def cstF (P : Nat → List Nat) : Nat → Nat → Nat
  | 0, _ => 0
  | f + 1, n => ((P n).map (cstF P f)).sum + 1
def cst (P : Nat → List Nat) (n : Nat) : Nat := cstF P (n + 1) n
theorem cstF_eq {P : Nat → List Nat} (ah : Ahead P) : ∀ (f g n : Nat), n < f → n < g → cstF P f n = cstF P g n := by
  intro f
  induction f with
  | zero => intro g n h; exact absurd h (Nat.not_lt_zero _)
  | succ f ih =>
    intro g n h1 h2
    cases g with
    | zero => exact absurd h2 (Nat.not_lt_zero _)
    | succ g =>
      unfold cstF
      congr 2
      refine List.map_congr_left fun m hm => ?_
      have := ah n m hm
      exact ih g m (by omega) (by omega)
theorem cst_eq {P : Nat → List Nat} (ah : Ahead P) (n : Nat) : cst P n = ((P n).map (cst P)).sum + 1 := by
  show ((P n).map (cstF P n)).sum + 1 = _
  congr 2
  exact List.map_congr_left fun m hm => cstF_eq ah n (m + 1) m (ah n m hm) (Nat.lt_succ_self _)
theorem sum_le {b : Nat} : ∀ {l : List Nat}, (∀ x ∈ l, x ≤ b) → l.sum ≤ l.length * b
  | [], _ => by simp
  | x :: l, h => by
    have h1 := h x (.head _)
    have h2 := sum_le fun y hy => h y (.tail _ hy)
    rw [List.sum_cons, List.length_cons, Nat.add_mul]
    omega
theorem cst_le {P : Nat → List Nat} (ah : Ahead P) (h2 : ∀ n, (P n).length ≤ 2) (n : Nat) : cst P n + 1 ≤ 2 ^ (n + 1) := by
  induction n using Nat.strongRecOn with
  | _ n ih =>
    rw [cst_eq ah]
    have : ((P n).map (cst P)).sum ≤ ((P n).map (cst P)).length * (2 ^ n - 1) := sum_le fun x hx => by
      obtain ⟨m, hm, rfl⟩ := List.mem_map.mp hx
      have lt := ah n m hm
      have a := ih m lt
      have b : 2 ^ (m + 1) ≤ 2 ^ n := Nat.pow_le_pow_right (by decide) lt
      omega
    rw [List.length_map] at this
    have b : (P n).length * (2 ^ n - 1) ≤ 2 * (2 ^ n - 1) := Nat.mul_le_mul_right _ (h2 n)
    have c : 0 < 2 ^ n := Nat.pow_pos (by decide)
    rw [Nat.pow_succ]
    omega
def wsum (P : Nat → List Nat) (ws : List (Nat × Nat)) : Nat := (ws.map fun p => cst P p.1).sum
theorem cst_pos {P : Nat → List Nat} (ah : Ahead P) (n : Nat) : 1 ≤ cst P n := by rw [cst_eq ah]; omega
theorem wsum_len {P : Nat → List Nat} (ah : Ahead P) : ∀ ws : List (Nat × Nat), ws.length ≤ wsum P ws
  | [] => Nat.zero_le _
  | p :: ws => by
    have a := wsum_len ah ws
    have b := cst_pos ah p.1
    unfold wsum at a ⊢
    rw [List.map_cons, List.sum_cons, List.length_cons]
    omega
theorem wsum_append (P : Nat → List Nat) (a b : List (Nat × Nat)) : wsum P (a ++ b) = wsum P a + wsum P b := by unfold wsum; rw [List.map_append, List.sum_append]
def zp (ws : List (Nat × Nat)) : List (Int × Int) := ws.map fun p => ((p.1 : Int), (p.2 : Int))
structure Ways (R : List Stp') (last b : Nat) (ws : List (Nat × Nat)) : Prop where
  lt : ∀ p ∈ ws, p.1 < R.length
  bst : b ≤ depR R last
  le : ∀ p ∈ ws, p.2 + depR R p.1 ≤ depR R last
  at_ : b = depR R last ∨ ∃ p ∈ ws, p.2 + depR R p.1 = depR R last
theorem Ways.start {R : List Stp'} {last : Nat} (h : last < R.length) : Ways R last 0 [(last, 0)] := ⟨fun p hp => by rw [List.mem_singleton.mp hp]; exact h, Nat.zero_le _, fun p hp => by rw [List.mem_singleton.mp hp]; simp, .inr ⟨_, .head _, by simp⟩⟩
theorem Ways.fin {R : List Stp'} {last b : Nat} (h : Ways R last b []) : b = depR R last := h.at_.elim id fun ⟨p, hp, _⟩ => nomatch hp
theorem Ways.step {R : List Stp'} {last b n m : Nat} {ws : List (Nat × Nat)} (g : GoodRows R) (h : Ways R last b (ws ++ [(n, m)])) :
    Ways R last (max b (m + isR (rowAt R n))) (ws ++ (premsOf R n).map fun q => (q, m + isR (rowAt R n))) := by
  have hn : n < R.length := h.lt (n, m) (by simp)
  have hl : m + depR R n ≤ depR R last := h.le (n, m) (by simp)
  have e := depR_eq g n
  refine ⟨fun p hp => ?_, Nat.max_le.mpr ⟨h.bst, by omega⟩, fun p hp => ?_, ?_⟩
  · rcases List.mem_append.mp hp with q | q
    · exact h.lt p (by simp [q])
    · obtain ⟨x, hx, rfl⟩ := List.mem_map.mp q
      have := g.ahead n x hx
      show x < _
      omega
  · rcases List.mem_append.mp hp with q | q
    · exact h.le p (by simp [q])
    · obtain ⟨x, hx, rfl⟩ := List.mem_map.mp q
      have := depR_prem g hx
      show m + isR (rowAt R n) + depR R x ≤ _
      omega
  · have up : m + isR (rowAt R n) = depR R last → max b (m + isR (rowAt R n)) = depR R last := fun z => by
      have := h.bst
      omega
    rcases h.at_ with q | ⟨p, hp, q⟩
    · exact .inl (by rw [Nat.max_def]; split <;> omega)
    · rcases List.mem_append.mp hp with z | z
      · exact .inr ⟨p, by simp [z], q⟩
      · rw [List.mem_singleton.mp z] at q
        have q : m + depR R n = depR R last := q
        rcases maxL_mem ((premsOf R n).map (depR R)) 0 with y | y
        · have y : maxL ((premsOf R n).map (depR R)) = 0 := y
          exact .inl (up (by omega))
        · have y : maxL ((premsOf R n).map (depR R)) ∈ _ := y
          obtain ⟨x, hx, ex⟩ := List.mem_map.mp y
          exact .inr ⟨(x, m + isR (rowAt R n)), by simp [hx], by show m + isR (rowAt R n) + depR R x = _; omega⟩
section
variable {prog : Program} {w : World} {g : Heap} {mg mb : Str → Option Value} {d : Nat} {env : Env} {ρ : Fra} {σ : Store}

theorem longest_spec {ra : Addr} {R : List Stp'} {last : Nat} {Q : V → Store → Prop} (hr : σ ra = some (.list (R.map rowV))) (ok : RowsOk R) (hz : R.length ≤ 9) (hlast : last < R.length)
    (h : ∀ σ', Same [] σ σ' → Q (.int (depR R last)) σ') :
    Kw (K1 prog w g mg mb) 8 (.ref 247) [.ref ra, .int last] Q σ := by
  have g := ok.good
  have ah := g.ahead
  have p2 : ∀ n, (premsOf R n).length ≤ 2 := fun n => by
    cases e : R[n]? with
    | none => unfold premsOf; rw [e]; simp
    | some r => rw [premsOf_some e]; exact (ok.each r (List.mem_of_getElem? e)).prem
  refine Kw_def (d := 7) ["rows", "last"] (by with_unfolding_all rfl) (by kernel_rfl) (fun ws h => by match ws, h with | [a, b], _ => rfl) (by decide) (fun L => ?_)
  refine Sx_cons (S1_AssignSwap (.inl rfl) (.inl rfl) (Ew_Tuple (Ew_items_cons (Ew_int (Ew_items_cons (Ew_List (Ew_items_cons (Ew_Tuple (Ew_items_cons (Ew_name rfl (Ew_items_cons (Ew_int (Ew_items_nil ⟨by simp, Ew_items_nil ⟨by simp, fun wa hwa => Ew_items_nil ⟨by simp, _, _, rfl, ?_⟩⟩⟩)))))))))))))
  have s0 : Same [] σ (σ.set wa (.list [V.tup [V.int last, V.int 0]])) := (Same.refl _ _).fresh hwa
  have c0 : wsum (premsOf R) [(last, 0)] ≤ 512 := by
    have a := cst_le ah p2 last
    have b : 2 ^ (last + 1) ≤ 2 ^ 9 := Nat.pow_le_pow_right (by decide) (by omega)
    have e : wsum (premsOf R) [(last, 0)] = cst (premsOf R) last := by unfold wsum; simp
    rw [e]
    have : (2 : Nat) ^ 9 = 512 := by decide
    omega
  refine Sx_cons (S1_WhileL ["best", "number", "many", "rule", "clause", "premises"] (fun m ρ' σ' => ∃ (b : Nat) (ws : List (Nat × Nat)), ρ' "best" = some (.int b) ∧ σ' wa = some (.list ((zp ws).map pairI)) ∧ Ways R last b ws ∧ Same [] σ σ' ∧ m = wsum (premsOf R) ws ∧ m ≤ 512) (wsum (premsOf R) [(last, 0)])
    ⟨0, _, rfl, Store.set_self .., Ways.start hlast, s0, rfl, c0⟩ ?_)
  rintro m ρ' σ' hρ ⟨b, ws, hb, hw, wy, sm, rfl, hm⟩
  have wl := wsum_len ah ws
  refine Ew_isCompare (Ew_name (hρ.at rfl) (Ew_List (Ew_items_nil ⟨by decide, fun e he => ?_⟩)))
  have we : wa ≠ e := ne_of hw he
  have s1 : Same [] σ (σ'.set e (.list [])) := sm.new he
  have hw1 : (σ'.set e (.list [])) wa = some (.list ((zp ws).map pairI)) := (Store.set_ne we).trans hw
  refine O2_nePairs hw1 (Store.set_self ..) ⟨_, rfl, fun hb' => ?_, fun hb' => ?_⟩
  · generalize σ'.set e (.list []) = σ₁ at s1 hw1 ⊢
    rcases List.eq_nil_or_concat ws with rfl | ⟨ws', ⟨n, k⟩, rfl⟩
    · simp [zp] at hb'
    rw [List.concat_eq_append] at hb' hw wl hm wy hw1 ⊢
    clear hb' hw we he sm
    have hn : n < R.length := wy.lt (n, k) (by simp)
    have hR : R[n]? = some R[n] := List.getElem?_eq_getElem hn
    generalize R[n] = r at hR
    have hP := premsOf_some hR
    have hA := rowAt_some hR
    have hr2 := (ok.each r (List.mem_of_getElem? hR)).prem
    have lz : ((zp (ws' ++ [(n, k)])).map pairI).length ≤ 1000 := by unfold zp; rw [List.length_map, List.length_map]; omega
    have ez : (zp (ws' ++ [(n, k)])).map pairI = (zp ws').map pairI ++ [V.tup [V.int n, V.int k]] := by unfold zp; rw [List.map_append, List.map_append]; rfl
    rw [ez] at hw1 lz
    refine Sx_cons (S1_Assign (Ew_CallM (Ew_name (hρ.at rfl) ⟨_, MethOk.list hw1 PySem.F.slot_list_pop PySem.F.type_list_pop, KeepOk.builtin, Ew_items_nil (Cw_pop hw1 (by rw [List.length_append] at lz; omega) ?_)⟩)))
    have s2 : Same [] σ (σ₁.set wa (.list ((zp ws').map pairI))) := s1.fresh hwa
    have hw2 : (σ₁.set wa (.list ((zp ws').map pairI))) wa = some (.list ((zp ws').map pairI)) := Store.set_self ..
    generalize σ₁.set wa (.list ((zp ws').map pairI)) = σ₂ at s2 hw2 ⊢
    clear s1 hw1 ez
    refine Asg_Tuple rfl (AsgL_cons (Asg_Name (.inl rfl) (AsgL_cons (Asg_Name (.inr ⟨rfl, rfl, rfl, _, rfl⟩) (AsgL_nil ?_)))))
    refine Sx_cons (S1_Assign (Ew_Subscript (Ew_name (Fra.aside (Fra.aside (hρ.at rfl))) (Ew_name (Fra.aside (Fra.set_self ..)) (subL (s2.at hr) (v := rowV r) (by rw [List.getElem?_map, hR]; rfl) (by rw [List.length_map]; omega) ?_)))))
    refine Asg_Tuple (vs := [.str r.rule, .tup (r.clause.map V.int), .tup (vints r.prem)]) rfl (AsgL_cons (Asg_Name (.inl rfl) (AsgL_cons (Asg_Name (.inl rfl) (AsgL_cons (Asg_Name (.inl rfl) (AsgL_nil ?_)))))))
    refine Sx_cons (S1_Assign (Ew_BinOp (Ew_name (Fra.aside (Fra.aside (Fra.aside (Fra.set_self ..)))) ?_)))
    refine Ew_CallG (EvF.bltK (by kernel_rfl) rfl) KeepOk.type (Ew_item (v := .none) (Ew_Compare (Ew_name (Fra.aside (Fra.aside (Fra.set_self ..))) (Ew_str (O2_eqStr (Cw_intB (O2_add ?_)))))))
    have em : (k : Int) + (if (r.rule == ("resolve" : Str)) = true then 1 else 0) = ((k + isR r : Nat) : Int) := by
      unfold isR
      simp only [beq_iff_eq]
      split <;> simp
    rw [em]
    refine Asg_Name (.inr ⟨rfl, rfl, rfl, _, rfl⟩) (Sx_cons (S1_Assign ?_))
    refine Ew_CallG (EvF.bltK (by kernel_rfl) rfl) KeepOk.builtin (Ew_items_cons (Ew_name (Fra.aside (Fra.aside (Fra.aside (Fra.aside (Fra.aside (Fra.aside hb)))))) (Ew_item (v := .none) (Ew_name (Fra.set_self ..) (Cw_max2 (Asg_Name (.inl rfl) ?_))))))
    have eb : max (b : Int) ((k + isR r : Nat) : Int) = ((max b (k + isR r) : Nat) : Int) := by omega
    rw [eb]
    refine Sx_cons (S1_Expr (Ew_CallM (Ew_name (Fra.aside (Fra.aside (Fra.aside (Fra.aside (Fra.aside (Fra.aside (Fra.aside (hρ.at rfl)))))))) ⟨_, MethOk.list hw2 PySem.F.slot_list_extend PySem.F.type_list_extend, KeepOk.builtin, Ew_item (v := .none) ?_⟩)))
    refine Ew_ListComp (cl := [("many", L + 1)]) (by with_unfolding_all rfl) (ClOk.to ⟨rfl, trivial⟩) (Iw_val (Ew_name (Fra.aside (Fra.aside (Fra.set_self ..))) ⟨_, .tup, fun D LL hD => ?_⟩))
    refine Gw_loopL ["one"] rfl rfl turn_one (.inl ⟨⟨_, _, rfl⟩, fun _ z => by cases z⟩) (fun j σ₃ => j ≤ r.prem.length ∧ Same [] σ₂ σ₃ ∧ σ₃ D = some (.list ((zp ((r.prem.take j).map fun q => (q, k + isR r))).map pairI))) ⟨Nat.zero_le _, (Same.refl _ _).fresh hD, Store.set_self ..⟩ r.prem.length ?_
    rintro j ρ₂ σ₃ hρ₂ ⟨hj, sm₃, hD₃⟩
    refine ⟨hj, trivial, fun v hv => ?_, fun hv ρ₃ hρ₃ => ?_⟩
    · simp only [It.at] at hv
      unfold vints at hv
      rw [List.getElem?_map, Option.map_eq_some_iff] at hv
      obtain ⟨q, hq, rfl⟩ := hv
      obtain ⟨hj', -⟩ := List.getElem?_eq_some_iff.mp hq
      refine Asg_Name (.inl rfl) (Ts_nil ⟨fun _ => Em_last (Ew_Tuple (Ew_items_cons (Ew_name (Fra.set_self ..) (Ew_items_cons (Ew_name (Fra.aside (hρ₂.at (compFra_at (Fra.aside (Fra.set_self ..))))) (Ew_items_nil ⟨by simp, _, hD₃, by unfold zp; simp; omega, hρ₂.set (.head _), hj', sm₃.fresh hD, ?_⟩)))))), fun z => by cases z⟩)
      rw [Store.set_self, List.take_add_one, hq]
      unfold zp
      rw [List.map_append, List.map_append, List.map_append]
      rfl
    · have hj' : j = r.prem.length := by
        simp only [It.at] at hv
        unfold vints at hv
        rw [List.getElem?_map, Option.map_eq_none_iff, List.getElem?_eq_none_iff] at hv
        omega
      subst hj'
      rw [List.take_length] at hD₃
      have wy' := wy.step g
      rw [hA, hP] at wy'
      have e1 := wsum_append (premsOf R) ws' [(n, k)]
      have e2 := wsum_append (premsOf R) ws' (r.prem.map fun q => (q, k + isR r))
      have e3 : wsum (premsOf R) [(n, k)] = cst (premsOf R) n := by unfold wsum; simp
      have e4 : wsum (premsOf R) (r.prem.map fun q => (q, k + isR r)) = ((premsOf R n).map (cst (premsOf R))).sum := by unfold wsum; rw [List.map_map, hP]; rfl
      have e5 := cst_eq ah n
      have hxz : ((zp ws').map pairI).length + ((zp (r.prem.map fun q => (q, k + isR r))).map pairI).length ≤ 1000000 := by
        have a : (zp (r.prem.map fun q => (q, k + isR r))).length ≤ 2 := by unfold zp; simp; omega
        rw [List.length_append] at lz
        rw [List.length_map (as := zp (r.prem.map fun q => (q, k + isR r)))]
        omega
      refine Cw_extend (sm₃.at hw2) hD₃ hxz ?_
      refine Sx_nil ⟨_, ?_, ((((((hρ.set (.tail _ (.head _))).set (.tail _ (.tail _ (.head _)))).set (.tail _ (.tail _ (.tail _ (.head _))))).set (.tail _ (.tail _ (.tail _ (.tail _ (.head _)))))).set (.tail _ (.tail _ (.tail _ (.tail _ (.tail _ (.head _))))))).set (.tail _ (.tail _ (.head _)))).set (.head _), max b (k + isR r), _, Fra.set_self .., ?_, wy', (s2.trans sm₃).fresh hwa, rfl, ?_⟩
      · omega
      · rw [Store.set_self]
        unfold zp
        rw [List.map_append, List.map_append]
      · omega
  · have : zp ws = [] := by simpa using hb'
    have : ws = [] := List.map_eq_nil_iff.mp this
    subst this
    rw [wy.fin] at hb
    exact Sx_cons (S1_Return (Ew_name hb (h _ s1)))
end
end Mine

open PySem PySem.W PyProof.Rows PySem.Calls PyProof.V PySem.Spec PySem.SeqAt
set_option Elab.async false
set_option linter.all false
set_option maxRecDepth 100000
set_option maxHeartbeats 4000000
namespace Mine
/-! rows put one by one -/
theorem premsOf_app {R X : List Stp'} {n : Nat} (h : n < R.length) : premsOf (R ++ X) n = premsOf R n := by
  unfold premsOf; rw [List.getElem?_append_left h]
theorem rowAt_app {R X : List Stp'} {n : Nat} (h : n < R.length) : rowAt (R ++ X) n = rowAt R n := by
  unfold rowAt; rw [List.getElem?_append_left h]
theorem get_snoc {R : List Stp'} {r : Stp'} : (R ++ [r])[R.length]? = some r := by simp
theorem GoodRows.snoc {R : List Stp'} {r : Stp'} (h : GoodRows R) (hp : ∀ m ∈ r.prem, m < R.length) : GoodRows (R ++ [r]) := fun n x hx m hm => by
  by_cases lt : n < R.length
  · rw [List.getElem?_append_left lt] at hx
    exact h n x hx m hm
  · rw [List.getElem?_append_right (Nat.le_of_not_lt lt)] at hx
    have z : n - R.length = 0 := by
      refine Classical.byContradiction fun z => ?_
      rw [List.getElem?_eq_none (by simp; omega)] at hx
      cases hx
    rw [z] at hx
    cases hx
    have := hp m hm
    omega
theorem GoodRows.init {R X : List Stp'} (h : GoodRows (R ++ X)) : GoodRows R := fun n x hx m hm => by
  obtain ⟨lt, -⟩ := List.getElem?_eq_some_iff.mp hx
  exact h n x (by rw [List.getElem?_append_left lt]; exact hx) m hm
theorem depR_app {R X : List Stp'} (h : GoodRows (R ++ X)) (n : Nat) (hn : n < R.length) : depR (R ++ X) n = depR R n := by
  induction n using Nat.strongRecOn with
  | _ n ih =>
    rw [depR_eq h, depR_eq h.init, premsOf_app hn, rowAt_app hn]
    congr 2
    refine List.map_congr_left fun m hm => ?_
    have := h.init.ahead n m hm
    exact ih m this (by omega)
theorem depR_new {R : List Stp'} {r : Stp'} (h : GoodRows R) (hp : ∀ m ∈ r.prem, m < R.length) : depR (R ++ [r]) R.length = maxL (r.prem.map (depR R)) + isR r := by
  have h' := h.snoc hp
  rw [depR_eq h', premsOf_some get_snoc, rowAt_some get_snoc]
  congr 2
  exact List.map_congr_left fun m hm => depR_app h' m (hp m hm)
theorem foldl_mul (t : Nat) : ∀ (l : List Nat) (a : Nat), (l.map (t * ·)).foldl max (t * a) = t * l.foldl max a
  | [], _ => rfl
  | x :: l, a => by
    rw [List.map_cons, List.foldl_cons, List.foldl_cons, Nat.mul_max_mul_left]
    exact foldl_mul t l (max a x)
theorem maxL_mul (t : Nat) (l : List Nat) : maxL (l.map (t * ·)) = t * maxL l := by
  have := foldl_mul t l 0
  rwa [Nat.mul_zero] at this
structure Px (R : List Stp') (t i : Nat) (R' : List Stp') (pl : List Nat) : Prop where
  good : GoodRows R'
  ok : ∀ r ∈ R', OkRow r
  plen : pl.length = i
  lt : ∀ (j p : Nat), pl[j]? = some p → p < R'.length
  dep : ∀ (j p : Nat), pl[j]? = some p → depR R' p = t * depR R j
  len : R'.length ≤ 3 * i
  one : t = 1 → R' = R.take i ∧ pl = List.range i
theorem Px.nil (R : List Stp') (t : Nat) : Px R t 0 [] [] := ⟨(fun n r h => by cases h), (fun r h => nomatch h), rfl, (fun j p h => by cases h), (fun j p h => by cases h), Nat.le_refl _, fun _ => ⟨by simp, rfl⟩⟩
def ben (pl : List Nat) (r : Stp') : List Nat := r.prem.map fun m => pl.getD m 0
theorem Px.ben_lt {R R' : List Stp'} {t i : Nat} {pl : List Nat} {r : Stp'} (h : Px R t i R' pl) (hp : ∀ m ∈ r.prem, m < i) : ∀ m ∈ ben pl r, m < R'.length := fun m hm => by
  obtain ⟨x, hx, rfl⟩ := List.mem_map.mp hm
  have lt : x < pl.length := by rw [h.plen]; exact hp x hx
  refine h.lt x _ ?_
  show pl[x]? = some (pl.getD x 0)
  rw [List.getD_eq_getElem?_getD, List.getElem?_eq_getElem lt]; rfl
theorem Px.ben_dep {R R' : List Stp'} {t i : Nat} {pl : List Nat} {r : Stp'} (h : Px R t i R' pl) (hp : ∀ m ∈ r.prem, m < i) : maxL ((ben pl r).map (depR R')) = t * maxL (r.prem.map (depR R)) := by
  rw [← maxL_mul]
  congr 1
  unfold ben
  rw [List.map_map, List.map_map]
  refine List.map_congr_left fun x hx => ?_
  have lt : x < pl.length := by rw [h.plen]; exact hp x hx
  refine h.dep x _ ?_
  show pl[x]? = some (pl.getD x 0)
  rw [List.getD_eq_getElem?_getD, List.getElem?_eq_getElem lt]; rfl
/-- the rows of one turn: nothing yet, or the newest row p -/
structure Tn (R' : List Stp') (t : Nat) (pl : List Nat) (r : Stp') (M s : Nat) (R'' : List Stp') (p : Nat) : Prop where
  last : p + 1 = R''.length
  good : GoodRows R''
  ok : ∀ r ∈ R'', OkRow r
  ext : ∃ X, R'' = R' ++ X
  dep : depR R'' p = t * M + (if r.rule = ("resolve" : Str) then s else 0)
  len : R''.length ≤ R'.length + max 1 s
  one : t = 1 → R'' = R' ++ [⟨r.rule, r.clause, ben pl r, .none⟩]
  least : r.rule = ("resolve" : Str) → 0 < t → 1 ≤ s
theorem OkRow.snoc {R : List Stp'} {r : Stp'} (h : ∀ r ∈ R, OkRow r) (hr : OkRow r) : ∀ x ∈ R ++ [r], OkRow x := fun x hx => by
  rcases List.mem_append.mp hx with q | q
  · exact h x q
  · rw [List.mem_singleton.mp q]; exact hr
theorem ben_len {pl : List Nat} {r : Stp'} : (ben pl r).length = r.prem.length := List.length_map ..
/-- the first arm -/
theorem Tn.arm {R R' : List Stp'} {t i : Nat} {pl : List Nat} {r : Stp'} (h : Px R t i R' pl) (hr : RowOk r) (hp : ∀ m ∈ r.prem, m < i) (hc : r.rule ≠ ("resolve" : Str) ∨ t = 0) :
    Tn R' t pl r (maxL (r.prem.map (depR R))) 0 (R' ++ [⟨if r.rule = ("resolve" : Str) then "define" else r.rule, r.clause, ben pl r, .none⟩]) R'.length := by
  have hb := h.ben_lt hp
  refine ⟨by simp, h.good.snoc hb, OkRow.snoc h.ok ⟨?_, hr.len, hr.nz, by show (ben pl r).length ≤ 1000; rw [ben_len]; exact Nat.le_trans hr.prem (by decide)⟩, ⟨_, rfl⟩, ?_, by simp, fun e => ?_, fun e ht => ?_⟩
  · show (if r.rule = ("resolve" : Str) then ("define" : Str) else r.rule) ∈ rulesL
    split
    · decide
    · exact hr.ok.rule
  · rw [depR_new h.good hb]
    show maxL ((ben pl r).map (depR R')) + isR _ = _
    rw [h.ben_dep hp]
    congr 1
    unfold isR
    by_cases q : r.rule = ("resolve" : Str)
    · simp [q]; decide
    · simp [q]
  · subst e
    rcases hc with q | q
    · rw [if_neg q]
    · cases q
  · rcases hc with q | q
    · exact absurd e q
    · omega
/-- the first turn -/
theorem Tn.first {R R' : List Stp'} {t i : Nat} {pl : List Nat} {r : Stp'} (h : Px R t i R' pl) (hr : RowOk r) (hp : ∀ m ∈ r.prem, m < i) (hc : r.rule = ("resolve" : Str)) :
    Tn R' t pl r (maxL (r.prem.map (depR R))) 1 (R' ++ [⟨r.rule, r.clause, ben pl r, .none⟩]) R'.length := by
  have hb := h.ben_lt hp
  refine ⟨by simp, h.good.snoc hb, OkRow.snoc h.ok ⟨hr.ok.rule, hr.len, hr.nz, by show (ben pl r).length ≤ 1000; rw [ben_len]; exact Nat.le_trans hr.prem (by decide)⟩, ⟨_, rfl⟩, ?_, by simp, fun _ => rfl, fun _ _ => Nat.le_refl _⟩
  rw [depR_new h.good hb]
  show maxL ((ben pl r).map (depR R')) + isR _ = _
  rw [h.ben_dep hp, if_pos hc]
  congr 1
  unfold isR
  rw [if_pos hc]
/-- one turn more -/
theorem Tn.more {R' R'' : List Stp'} {t : Nat} {pl : List Nat} {r : Stp'} {M s p : Nat} (h : Tn R' t pl r M s R'' p) (hr : RowOk r) (hc : r.rule = ("resolve" : Str)) (hs : s < t) :
    Tn R' t pl r M (s + 1) (R'' ++ [⟨r.rule, r.clause, [p], .none⟩]) R''.length := by
  have hl := h.last
  have hb : ∀ m ∈ [p], m < R''.length := fun m hm => by rw [List.mem_singleton.mp hm]; omega
  obtain ⟨X, ex⟩ := h.ext
  have h1 := h.least hc (by omega)
  refine ⟨by simp, h.good.snoc hb, OkRow.snoc h.ok ⟨hr.ok.rule, hr.len, hr.nz, by show 1 ≤ 1000; decide⟩, ⟨X ++ [_], by rw [ex, List.append_assoc]⟩, ?_, ?_, fun e => by omega, fun _ _ => by omega⟩
  · rw [depR_new h.good hb]
    show maxL ([p].map (depR R'')) + isR _ = _
    have e : maxL ([p].map (depR R'')) = depR R'' p := by simp [maxL]
    rw [e, h.dep, if_pos hc, if_pos hc]
    unfold isR
    rw [if_pos hc]
    omega
  · rw [List.length_append]
    have := h.len
    show R''.length + 1 ≤ _
    omega
theorem Tn.fin {R R' R'' : List Stp'} {t i : Nat} {pl : List Nat} {r : Stp'} {p : Nat} (h : Px R t i R' pl) (g : GoodRows R) (hr : RowOk r) (hR : R[i]? = some r) (hs3 : t ≤ 3)
    (k : Tn R' t pl r (maxL (r.prem.map (depR R))) (if r.rule = ("resolve" : Str) then t else 0) R'' p) : Px R t (i + 1) R'' (pl ++ [p]) := by
  obtain ⟨X, ex⟩ := k.ext
  have hl := k.last
  have gx : GoodRows (R' ++ X) := ex ▸ k.good
  have hd : depR R i = maxL (r.prem.map (depR R)) + isR r := by rw [depR_eq g, premsOf_some hR, rowAt_some hR]
  have new : depR R'' p = t * depR R i := by
    rw [k.dep, hd]
    unfold isR
    by_cases q : r.rule = ("resolve" : Str)
    · rw [if_pos q, if_pos q, if_pos q, Nat.mul_add, Nat.mul_one]
    · rw [if_neg q, if_neg q, Nat.add_zero, Nat.add_zero]
  refine ⟨k.good, k.ok, by rw [List.length_append, h.plen]; rfl, fun j q hq => ?_, fun j q hq => ?_, ?_, fun e => ?_⟩
  · by_cases lt : j < pl.length
    · rw [List.getElem?_append_left lt] at hq
      have := h.lt j q hq
      rw [ex, List.length_append]; omega
    · rw [List.getElem?_append_right (Nat.le_of_not_lt lt)] at hq
      have z : j - pl.length = 0 := by
        refine Classical.byContradiction fun z => ?_
        rw [List.getElem?_eq_none (by simp; omega)] at hq
        cases hq
      rw [z] at hq
      cases hq
      omega
  · by_cases lt : j < pl.length
    · rw [List.getElem?_append_left lt] at hq
      rw [← h.dep j q hq, ex]
      exact depR_app gx q (h.lt j q hq)
    · rw [List.getElem?_append_right (Nat.le_of_not_lt lt)] at hq
      have z : j - pl.length = 0 := by
        refine Classical.byContradiction fun z => ?_
        rw [List.getElem?_eq_none (by simp; omega)] at hq
        cases hq
      rw [z] at hq
      cases hq
      have : j = i := by have := h.plen; omega
      subst this
      exact new
  · have a := h.len
    have b := k.len
    have : (if r.rule = ("resolve" : Str) then t else 0) ≤ 3 := by split <;> omega
    omega
  · obtain ⟨e1, e2⟩ := h.one e
    have hi : i < R.length := (List.getElem?_eq_some_iff.mp hR).1
    have lR : R'.length = i := by rw [e1, List.length_take]; omega
    have eb : ben pl r = r.prem := by
      unfold ben
      rw [e2]
      refine (List.map_congr_left fun m hm => ?_).trans (List.map_id _)
      have lt := g i r hR m hm
      rw [List.getD_eq_getElem?_getD, List.getElem?_range lt]; rfl
    have ek := k.one e
    rw [eb] at ek
    refine ⟨?_, ?_⟩
    · rw [ek, e1, List.take_add_one, hR]
      obtain ⟨a, b, c, dd⟩ := r
      have : dd = .none := hr.note
      subst this
      rfl
    · rw [List.range_succ, e2]
      have := congrArg List.length ek
      rw [List.length_append, lR] at this
      have : p = i := by simp at this; omega
      rw [this]
end Mine

open PySem PySem.W PyProof.Rows PySem.Calls PyProof.V PySem.Spec PySem.SeqAt
set_option Elab.async false
set_option linter.all false
set_option maxRecDepth 100000
set_option maxHeartbeats 4000000
namespace Mine
theorem Same.onto {X Y : List Addr} {σ₁ σ₂ σ₃ : Store} (s : Same X σ₁ σ₂) (k : Same Y σ₂ σ₃) (h : ∀ y ∈ Y, σ₁ y = none) : Same X σ₁ σ₃ := fun a o e n => k a o (s a o e n) (fun z => by rw [h a z] at e; cases e)
section
variable {prog : Program} {w : World} {g : Heap} {mg mb : Str → Option Value} {d : Nat} {env : Env} {ρ : Fra} {σ : Store}

def Turn (R' : List Stp') (t : Nat) (pl : List Nat) (r : Stp') (M s : Nat) (R'' : List Stp') (he : Int) : Prop :=
  (he = -1 ∧ s = 0 ∧ r.rule = ("resolve" : Str) ∧ 0 < t ∧ R'' = R') ∨ ∃ p : Nat, he = p ∧ Tn R' t pl r M s R'' p

theorem proof_spec {ra : Addr} {R : List Stp'} {t : Nat} {Q : V → Store → Prop} (hr : σ ra = some (.list (R.map rowV))) (ok : RowsOk R) (hz : R.length ≤ 9) (ht : t ≤ 3)
    (h : ∀ dx s n pa e R' pl σ', σ dx = none → σ s = none → σ n = none → σ pa = none → Same [] σ σ' → IsPf σ' dx s n e R' → σ' pa = some (.list (vints pl)) → Px R t R.length R' pl → Q (.tup [.obj 211 dx, .ref pa]) σ') :
    Kw (K1 prog w g mg mb) 13 (.ref 232) [.ref ra, .int t] Q σ := by
  have gd := ok.good
  refine Kw_def (d := 12) ["rows", "times"] (by with_unfolding_all rfl) (by kernel_rfl) (fun ws h => by match ws, h with | [a, b], _ => rfl) (by decide) (fun L => ?_)
  refine Sx_cons (S1_Assign (Ew_Tuple (Ew_items_cons (Ew_CallG (EvF.globK (by with_unfolding_all rfl)) keep_fn (Ew_items_nil ((make_spec fun dx s n σ₁ f1 f2 f3 sm₁ p₁ => ?_).cwle (by decide)))))))
  refine Ew_items_cons (Ew_List (Ew_items_nil ⟨by simp, fun pa hpa => Ew_items_nil ⟨by simp, Asg_Tuple rfl (AsgL_cons (Asg_Name (.inl rfl) (AsgL_cons (Asg_Name (.inr ⟨rfl, rfl, rfl, _, rfl⟩) (AsgL_nil ?_)))))⟩⟩))
  have ps : pa ≠ s := Ne.symm (ne_of p₁.st hpa)
  have pn : pa ≠ n := Ne.symm (ne_of p₁.nm hpa)
  have pd : pa ≠ dx := Ne.symm (ne_of p₁.dx hpa)
  have f4 : σ pa = none := sm₁.none_of hpa (by simp)
  have s2 : Same [] σ (σ₁.set pa (.list [])) := sm₁.fresh f4
  have p₂ : IsPf (σ₁.set pa (.list [])) dx s n (-1) [] := p₁.keep (X := []) ((Same.refl _ _).new hpa) (by simp) (by simp) (by simp)
  refine Sx_cons (S1_ForL ["rule", "clause", "premises", "beneath", "here", "turn"] (fun it i ρ' σ' => it = .list ra ∧ i ≤ R.length ∧ ∃ e R' pl, IsPf σ' dx s n e R' ∧ σ' pa = some (.list (vints pl)) ∧ Px R t i R' pl ∧ Same [] σ σ') (Iw_val (Ew_name rfl ⟨_, .list (s2.at hr), .inr ⟨⟨_, _, _, rfl⟩, _, .inl rfl⟩, ⟨rfl, Nat.zero_le _, _, [], [], p₂, Store.set_self .., Px.nil R t, s2⟩, R.length, ?_⟩)))
  clear p₁ hpa sm₁ s2 p₂
  rintro i ρ' σ' hρ ⟨-, hi, e, R', pl, p, hpl, px, sm⟩
  have hr' := sm.at hr
  refine ⟨hi, ⟨_, hr'⟩, fun v hv => ?_, fun hv => ?_⟩
  · simp only [It.at, lof_of hr'] at hv
    rw [List.getElem?_map, Option.map_eq_some_iff] at hv
    obtain ⟨r, hR, rfl⟩ := hv
    obtain ⟨hlt, -⟩ := List.getElem?_eq_some_iff.mp hR
    have rok := ok.each r (List.mem_of_getElem? hR)
    have hr2 := rok.prem
    have hpm : ∀ m ∈ r.prem, m < i := gd i r hR
    have hl3 := px.len
    have hbl := ben_len (pl := pl) (r := r)
    have hblt := px.ben_lt hpm
    refine Asg_Tuple (vs := [.str r.rule, .tup (r.clause.map V.int), .tup (vints r.prem)]) rfl (AsgL_cons (Asg_Name (.inl rfl) (AsgL_cons (Asg_Name (.inl rfl) (AsgL_cons (Asg_Name (.inl rfl) (AsgL_nil ?_)))))))
    refine Sx_cons (S1_AssignSwap (.inl rfl) (.inl rfl) (Ew_Tuple (Ew_items_cons ?_)))
    refine Ew_CallG (EvF.bltK (by kernel_rfl) rfl) KeepOk.type (Ew_item (v := .none) (Ew_ListComp (cl := [("places", L + 1)]) (by with_unfolding_all rfl) (ClOk.to ⟨rfl, trivial⟩) (Iw_val (Ew_name (Fra.set_self ..) ⟨_, .tup, fun D LL hD => ?_⟩))))
    refine Gw_loopL ["one"] rfl rfl turn_one (.inl ⟨⟨_, _, rfl⟩, fun _ z => by cases z⟩) (fun j σ₂ => j ≤ r.prem.length ∧ Same [] σ' σ₂ ∧ σ₂ D = some (.list (vints ((r.prem.take j).map fun m => pl.getD m 0)))) ⟨Nat.zero_le _, (Same.refl _ _).fresh hD, Store.set_self ..⟩ r.prem.length ?_
    rintro j ρ₂ σ₂ hρ₂ ⟨hj, sm₂, hD₂⟩
    refine ⟨hj, trivial, fun v hv => ?_, fun hv ρ₃ hρ₃ => ?_⟩
    · simp only [It.at] at hv
      unfold vints at hv
      rw [List.getElem?_map, Option.map_eq_some_iff] at hv
      obtain ⟨m, hm, rfl⟩ := hv
      obtain ⟨hj', -⟩ := List.getElem?_eq_some_iff.mp hm
      have hmi : m < pl.length := by rw [px.plen]; exact hpm m (List.mem_of_getElem? hm)
      have hpl2 := px.plen
      refine Asg_Name (.inl rfl) (Ts_nil ⟨fun _ => Em_last (Ew_Subscript (Ew_name (Fra.aside (hρ₂.at (compFra_at (Fra.aside (Fra.aside (Fra.aside (hρ.at rfl))))))) (Ew_name (Fra.set_self ..) (subL (sm₂.at hpl) (v := .int (pl.getD m 0 : Nat)) (by unfold vints; rw [List.getElem?_map, List.getD_eq_getElem?_getD, List.getElem?_eq_getElem hmi]; rfl) (by unfold vints; rw [List.length_map]; omega) ⟨_, hD₂, by unfold vints; simp; omega, hρ₂.set (.head _), hj', sm₂.fresh hD, ?_⟩)))), fun z => by cases z⟩)
      rw [Store.set_self, List.take_add_one, hm]
      unfold vints
      rw [List.map_append, List.map_append]
      rfl
    have hj' : j = r.prem.length := by
      simp only [It.at] at hv
      unfold vints at hv
      rw [List.getElem?_map, Option.map_eq_none_iff, List.getElem?_eq_none_iff] at hv
      omega
    subst hj'
    rw [List.take_length] at hD₂
    have hD₂ : σ₂ D = some (.list (vints (ben pl r))) := hD₂
    refine Cw_tupleL hD₂ (by unfold vints; rw [List.length_map]; omega) (Ew_items_cons (Ew_UnaryOp (Ew_int (O1_neg (Ew_items_nil ⟨by simp, _, _, rfl, ?_⟩)))))
    have s3 := sm.trans sm₂
    have p₃ := p.keep sm₂ (by simp) (by simp) (by simp)
    have hpl₃ := sm₂.at hpl
    clear hρ₂ hρ₃ hD₂ hD sm₂ p hpl hj hv
    -- the first arm
    refine Sx_cons (Sw.mono (Q := fun f ρ₁ σ₁ => f = .next ∧ ∃ he e' R'', Like ["here"] (((((ρ'.set "rule" (.str r.rule)).set "clause" (.tup (r.clause.map V.int))).set "premises" (.tup (vints r.prem))).set "here" (.int (-1))).set "beneath" (.tup (vints (ben pl r)))) ρ₁ ∧ ρ₁ "here" = some (.int he) ∧ IsPf σ₁ dx s n e' R'' ∧ σ₁ pa = some (.list (vints pl)) ∧ Same [] σ σ₁ ∧ Turn R' t pl r (maxL (r.prem.map (depR R))) 0 R'' he ∧ (r.rule = ("resolve" : Str) → 0 < t → he = -1)) ?_ fun f ρ₁ σ₁ hf => ?_)
    · refine S1_If (Ew.mono (Q := fun b σ₁ => b = (decide (r.rule ≠ ("resolve" : Str) ∨ t = 0)) ∧ σ₁ = σ₂) ?_ fun b σ₁ hb => ?_)
      · refine Ew_isOr (Ew_or_cons (Ew_isCompare (Ew_name (Fra.aside (Fra.aside (Fra.aside (Fra.aside (Fra.set_self ..))))) (Ew_str (O2_neStr ⟨_, rfl, fun h1 => ⟨?_, rfl⟩, fun h1 => ?_⟩)))))
        · have : r.rule ≠ ("resolve" : Str) := by simpa using h1
          simp [this]
        · have h1 : r.rule = ("resolve" : Str) := by simpa using h1
          refine Ew_or_cons (Ew_isCompare (Ew_name (Fra.aside (Fra.aside (Fra.aside (Fra.aside (Fra.aside (hρ.at rfl)))))) (Ew_int (O2_eq ⟨_, rfl, fun h2 => ⟨?_, rfl⟩, fun h2 => Ew_or_nil ⟨?_, rfl⟩⟩))))
          · have h2 : t = 0 := by simpa using h2
            simp [h1, h2]
          · have h2 : ¬ t = 0 := by simpa using h2
            simp [h1, h2]
      · obtain ⟨rfl, rfl⟩ := hb
        refine ⟨fun hc => ?_, fun hc => Sx_nil ⟨rfl, -1, e, R', Like.refl _ _, Fra.aside (Fra.set_self ..), p₃, hpl₃, s3, .inl ?_, fun _ _ => rfl⟩⟩
        · have hc := of_decide_eq_true hc
          refine Sx_cons (S1_Assign (Ew_CallN (Fra.aside (Fra.aside (Fra.aside (Fra.aside (Fra.aside (hρ.at rfl)))))) p₃.dx rfl mth_add keep_fn ?_))
          refine Ew_items_cons (Ew.mono (Q := fun v σ₄ => v = .str (if r.rule = ("resolve" : Str) then "define" else r.rule) ∧ σ₄ = σ₁) (Ew_IfExp (Ew_isCompare (Ew_name (Fra.aside (Fra.aside (Fra.aside (Fra.aside (Fra.set_self ..))))) (Ew_str (O2_eqStr ⟨_, rfl, fun h1 => Ew_str ⟨?_, rfl⟩, fun h1 => Ew_name (Fra.aside (Fra.aside (Fra.aside (Fra.aside (Fra.set_self ..))))) ⟨?_, rfl⟩⟩))))) fun v σ₄ hv => ?_)
          · have h1 : r.rule = ("resolve" : Str) := by simpa using h1
            rw [if_pos h1]
          · have h1 : ¬ r.rule = ("resolve" : Str) := by simpa using h1
            rw [if_neg h1]
          obtain ⟨rfl, rfl⟩ := hv
          refine Ew_items_cons (Ew_name (Fra.aside (Fra.aside (Fra.aside (Fra.set_self ..)))) (Ew_items_cons (Ew_name (Fra.set_self ..) (Ew_items_cons (Ew_none (Ew_items_nil ?_))))))
          have tn := Tn.arm px rok hpm hc
          refine (add_spec (r := ⟨if r.rule = ("resolve" : Str) then "define" else r.rule, r.clause, ben pl r, .none⟩) p₃ (by omega) ?_ rok.len rok.nz hblt (by show (ben pl r).length ≤ 1000; omega) fun σ₅ e₅ sm₅ p₅ => Asg_Name (.inl rfl) (Sx_nil ⟨rfl, (R'.length : Nat), e₅, _, (Like.refl _ _).set (.head _), Fra.set_self .., p₅, sm₅.at hpl₃ (by simp [ps, pd]), ?_, .inr ⟨R'.length, rfl, tn⟩, fun h1 h2 => ?_⟩)).cwle (by decide)
          · show (if r.rule = ("resolve" : Str) then ("define" : Str) else r.rule) ∈ rulesL
            split
            · decide
            · exact rok.ok.rule
          · exact s3.onto sm₅ (by simp [f1, f2])
          · rcases hc with q | q
            · exact absurd h1 q
            · omega
        · have hc := of_decide_eq_false hc
          have h1 : r.rule = ("resolve" : Str) := Classical.byContradiction fun q => hc (.inl q)
          exact ⟨rfl, rfl, h1, by omega, rfl⟩
    obtain ⟨rfl, he, e₁, R₁, hρ₁, hhe, p₁, hpl₁, s₁, tu, hm1⟩ := hf
    clear p₃ hpl₃ s3
    -- the turns
    have hT : ∃ T : Nat, T = (if r.rule = ("resolve" : Str) then t else 0) := ⟨_, rfl⟩
    obtain ⟨T, hT⟩ := hT
    refine Sx_cons (S1_ForL ["here", "turn"] (fun it k ρ₂ σ₂ => it = .rng 0 1 T ∧ k ≤ T ∧ ∃ he e' R'', ρ₂ "here" = some (.int he) ∧ IsPf σ₂ dx s n e' R'' ∧ σ₂ pa = some (.list (vints pl)) ∧ Same [] σ σ₂ ∧ Turn R' t pl r (maxL (r.prem.map (depR R))) k R'' he) (Iw_val ?_))
    refine Ew_CallG (EvF.bltK (by kernel_rfl) rfl) KeepOk.type (Ew_item (v := .none) (Ew.mono (Q := fun v σ₄ => v = .int (T : Nat) ∧ σ₄ = σ₁) (Ew_IfExp (Ew_isCompare (Ew_name (hρ₁.at (Fra.aside (Fra.aside (Fra.aside (Fra.aside (Fra.set_self ..)))))) (Ew_str (O2_eqStr ⟨_, rfl, fun h1 => Ew_name (hρ₁.at (Fra.aside (Fra.aside (Fra.aside (Fra.aside (Fra.aside (hρ.at rfl))))))) ⟨?_, rfl⟩, fun h1 => Ew_int ⟨?_, rfl⟩⟩))))) fun v σ₄ hv => ?_))
    · have h1 : r.rule = ("resolve" : Str) := by simpa using h1
      rw [hT, if_pos h1]
    · have h1 : ¬ r.rule = ("resolve" : Str) := by simpa using h1
      rw [hT, if_neg h1]; rfl
    obtain ⟨rfl, rfl⟩ := hv
    have hT3 : T ≤ 3 := by rw [hT]; split <;> omega
    refine Cw_range1 ⟨_, itR1 (by omega), .inl ⟨⟨_, _, rfl⟩, fun _ z => by cases z⟩, ⟨rfl, Nat.zero_le _, he, e₁, R₁, hhe, p₁, hpl₁, s₁, tu⟩, T, ?_⟩
    clear hhe p₁ hpl₁ s₁ tu hm1
    rintro k ρ₂ σ₂ hρ₂ ⟨-, hk, he, e₂, R₂, hhe, p₂, hpl₂, s₂, tu⟩
    refine ⟨hk, trivial, fun v hv => ?_, fun hv => ?_⟩
    · simp only [It.at] at hv
      split at hv
      rotate_left
      · cases hv
      rename_i hkT
      cases hv
      have hres : r.rule = ("resolve" : Str) := Classical.byContradiction fun q => by rw [if_neg q] at hT; omega
      have hTt : T = t := by rw [hT, if_pos hres]
      have hlen2 : R₂.length ≤ 1000 := by
        rcases tu with ⟨-, -, -, -, q⟩ | ⟨p, -, q⟩
        · rw [q]; omega
        · have := q.len; omega
      refine Asg_Name (.inl rfl) (Sx_cons (S1_Assign (Ew_CallN (Fra.aside (hρ₂.at (hρ₁.at (Fra.aside (Fra.aside (Fra.aside (Fra.aside (Fra.aside (hρ.at rfl))))))))) p₂.dx rfl mth_add keep_fn ?_)))
      refine Ew_items_cons (Ew_name (Fra.aside (hρ₂.at (hρ₁.at (Fra.aside (Fra.aside (Fra.aside (Fra.aside (Fra.set_self ..)))))))) (Ew_items_cons (Ew_name (Fra.aside (hρ₂.at (hρ₁.at (Fra.aside (Fra.aside (Fra.aside (Fra.set_self ..))))))) (Ew_items_cons ?_))))
      refine Ew.mono (Q := fun v σ₄ => σ₄ = σ₂ ∧ ∃ pr : List Nat, v = .tup (vints pr) ∧ pr.length ≤ 1000 ∧ (∀ m ∈ pr, m < R₂.length) ∧ Turn R' t pl r (maxL (r.prem.map (depR R))) (k + 1) (R₂ ++ [⟨r.rule, r.clause, pr, .none⟩]) (R₂.length : Nat)) ?_ fun v σ₄ hv => ?_
      · refine Ew_IfExp (Ew_isCompare (Ew_name (Fra.aside hhe) (Ew_int (O2_lt ⟨_, rfl, fun hb => ?_, fun hb => ?_⟩))))
        · have hb := of_decide_eq_true hb
          rcases tu with ⟨h1, h2, h3, h4, h5⟩ | ⟨p, h1, h2⟩
          · refine Ew_name (Fra.aside (hρ₂.at (hρ₁.at (Fra.set_self ..)))) ⟨rfl, ben pl r, rfl, by omega, by rw [h5]; exact hblt, .inr ⟨R'.length, by rw [h5], ?_⟩⟩
            rw [h5, h2]
            exact Tn.first px rok hpm hres
          · omega
        · have hb := of_decide_eq_false hb
          rcases tu with ⟨h1, h2, h3, h4, h5⟩ | ⟨p, h1, h2⟩
          · omega
          · have hl := h2.last
            refine Ew_Tuple (Ew_items_cons (Ew_name (Fra.aside hhe) (Ew_items_nil ⟨by simp, rfl, [p], by rw [h1]; rfl, by simp, fun m hm => by rw [List.mem_singleton.mp hm]; omega, .inr ⟨R₂.length, rfl, h2.more rok hres (by omega)⟩⟩)))
      · obtain ⟨rfl, pr, rfl, hp1, hp2, tn⟩ := hv
        refine Ew_items_cons (Ew_none (Ew_items_nil ?_))
        refine (add_spec (r := ⟨r.rule, r.clause, pr, .none⟩) p₂ (by omega) rok.ok.rule rok.len rok.nz hp2 hp1 fun σ₅ e₅ sm₅ p₅ => Asg_Name (.inl rfl) (Sx_nil ⟨(hρ₂.set (.tail _ (.head _))).set (.head _), rfl, hkT, _, e₅, _, Fra.set_self .., p₅, sm₅.at hpl₂ (by simp [ps, pd]), ?_, tn⟩)).cwle (by decide)
        exact s₂.onto sm₅ (by simp [f1, f2])
    · have hkT : k = T := by
        simp only [It.at] at hv
        split at hv
        · cases hv
        · omega
      subst hkT
      rcases tu with ⟨h1, h2, h3, h4, h5⟩ | ⟨p, h1, h2⟩
      · rw [if_pos h3] at hT; omega
      · rw [hT] at h2
        have px' := Tn.fin px gd rok hR ht h2
        have hpll := px.plen
        refine Sx_cons (S1_Expr (Ew_CallM (Ew_name (hρ₂.at (hρ₁.at (Fra.aside (Fra.aside (Fra.aside (Fra.aside (Fra.aside (hρ.at rfl)))))))) ⟨_, MethOk.list hpl₂ PySem.F.slot_list_append PySem.F.type_list_append, KeepOk.builtin, Ew_item (v := .none) (Ew_name hhe ?_)⟩)))
        rw [h1]
        refine Cw_append hpl₂ (by unfold vints; rw [List.length_map]; omega) (Sx_nil ⟨?_, rfl, hlt, e₂, R₂, pl ++ [p], ?_, ?_, px', s₂.fresh f4⟩)
        · exact ((((((hρ.set (.head _)).set (.tail _ (.head _))).set (.tail _ (.tail _ (.head _)))).set (.tail _ (.tail _ (.tail _ (.tail _ (.head _)))))).set (.tail _ (.tail _ (.tail _ (.head _))))).join hρ₁ (by decide)).join hρ₂ (by decide)
        · exact p₂.keep (X := [pa]) ((Same.refl _ _).put (.head _)) (by simpa using Ne.symm pd) (by simpa using Ne.symm ps) (by simpa using Ne.symm pn)
        · rw [Store.set_self]; simp [vints]
  · have hi' : i = R.length := by
      simp only [It.at, lof_of hr'] at hv
      rw [List.getElem?_map, Option.map_eq_none_iff, List.getElem?_eq_none_iff] at hv
      omega
    subst hi'
    exact Sx_cons (S1_Return (Ew_Tuple (Ew_items_cons (Ew_name (hρ.at rfl) (Ew_items_cons (Ew_name (hρ.at rfl) (Ew_items_nil ⟨by simp, h dx s n pa e R' pl σ' f1 f2 f3 f4 sm p hpl px⟩)))))))
end
end Mine

open PySem PySem.W PyProof.Rows PySem.Calls PyProof.V PySem.Spec PySem.SeqAt
set_option Elab.async false
set_option linter.all false
set_option maxRecDepth 100000
set_option maxHeartbeats 4000000
namespace Mine
/-! trimmed, cut, grown -/
theorem trim_get {R : List Stp'} {told : List Nat} {j t : Nat} (h : told[j]? = some t) : (trimRows R told)[j]? = some { rowAt R t with prem := (rowAt R t).prem.map fun m => told.idxOf m } := by
  unfold trimRows; rw [List.getElem?_map, h]; rfl
theorem rowAt_prem (R : List Stp') (n : Nat) : (rowAt R n).prem = premsOf R n := by
  unfold rowAt premsOf
  cases R[n]? <;> rfl
theorem need_closed {R : List Stp'} (g : GoodRows R) {k t m : Nat} (h : t ∈ need (premsOf R) k) (hm : m ∈ premsOf R t) : m ∈ need (premsOf R) k := (mem_need g.ahead).mpr (.step ((mem_need g.ahead).mp h) hm)
theorem trim_good {R : List Stp'} (g : GoodRows R) (k : Nat) : GoodRows (trimRows R (need (premsOf R) k)) := fun n x hx m hm => by
  obtain ⟨lt, -⟩ := List.getElem?_eq_some_iff.mp hx
  have lt' : n < (need (premsOf R) k).length := by unfold trimRows at lt; rwa [List.length_map] at lt
  have ht : (need (premsOf R) k)[n]? = some (need (premsOf R) k)[n] := List.getElem?_eq_getElem lt'
  generalize (need (premsOf R) k)[n] = t at ht
  rw [trim_get ht] at hx
  cases hx
  obtain ⟨y, hy, rfl⟩ := List.mem_map.mp hm
  rw [rowAt_prem] at hy
  exact idx_lt (need_sorted _ _) ht (need_closed g (List.mem_of_getElem? ht) hy) (g.ahead t y hy)
theorem trim_dep {R : List Stp'} (g : GoodRows R) (k : Nat) (j t : Nat) (ht : (need (premsOf R) k)[j]? = some t) : depR (trimRows R (need (premsOf R) k)) j = depR R t := by
  induction j using Nat.strongRecOn generalizing t with
  | _ j ih =>
    rw [depR_eq (trim_good g k), depR_eq g, premsOf_some (trim_get ht), rowAt_some (trim_get ht)]
    congr 1
    show maxL (((rowAt R t).prem.map fun m => (need (premsOf R) k).idxOf m).map _) = _
    rw [rowAt_prem, List.map_map]
    congr 1
    refine List.map_congr_left fun m hm => ?_
    have hmT := need_closed g (List.mem_of_getElem? ht) hm
    exact ih _ (idx_lt (need_sorted _ _) ht hmT (g.ahead t m hm)) m (idx_at hmT)
theorem trim_last {R : List Stp'} (g : GoodRows R) (k : Nat) : depR (trimRows R (need (premsOf R) k)) ((need (premsOf R) k).length - 1) = depR R k := by
  rw [← idx_last g.ahead]
  exact trim_dep g k _ k (idx_at (last_mem g.ahead))
theorem trim_len (R : List Stp') (told : List Nat) : (trimRows R told).length = told.length := List.length_map ..
theorem trim_ok {R : List Stp'} (g : GoodRows R) (ok : ∀ r ∈ R, OkRow r) {k : Nat} (hk : k < R.length) : ∀ r ∈ trimRows R (need (premsOf R) k), OkRow r := fun r hr => by
  unfold trimRows at hr
  obtain ⟨t, ht, rfl⟩ := List.mem_map.mp hr
  have lt : t < R.length := Nat.lt_of_le_of_lt (((mem_need g.ahead).mp ht).le g.ahead) hk
  have hR : R[t]? = some R[t] := List.getElem?_eq_getElem lt
  rw [rowAt_some hR]
  have o := ok _ (List.mem_of_getElem? hR)
  exact ⟨o.rule, o.len, o.nz, by show (List.map _ _).length ≤ 1000; rw [List.length_map]; exact o.prem⟩
theorem RowsOk.take {R : List Stp'} (h : RowsOk R) (k : Nat) : RowsOk (R.take k) := by
  refine ⟨?_, fun r hr => h.each r (List.mem_of_mem_take hr)⟩
  have := h.good
  rw [← List.take_append_drop k R] at this
  exact this.init
theorem take_dep {R : List Stp'} (g : GoodRows R) {k : Nat} (hk : k < R.length) : depR (R.take (k + 1)) k = depR R k := by
  have g' := g
  rw [← List.take_append_drop (k + 1) R] at g'
  have := depR_app g' k (by rw [List.length_take]; omega)
  rw [List.take_append_drop] at this
  exact this.symm
theorem deps_at {R : List Stp'} {n : Nat} (h : n < R.length) : (vints (deps R))[n]? = some (.int (depR R n : Nat)) := by
  unfold vints deps
  rw [List.getElem?_map, List.getElem?_map, List.getElem?_range h]; rfl
theorem deps_len (R : List Stp') : (deps R).length = R.length := by unfold deps; rw [List.length_map, List.length_range]
theorem Px.deps {R R' : List Stp'} {t : Nat} {pl : List Nat} (h : Px R t R.length R' pl) : pl.map (depR R') = (deps R).map (t * ·) := by
  refine List.ext_getElem? fun j => ?_
  rw [List.getElem?_map, List.getElem?_map]
  by_cases lt : j < R.length
  · have hj : pl[j]? = some (pl[j]'(by rw [h.plen]; exact lt)) := List.getElem?_eq_getElem _
    generalize pl[j]'(by rw [h.plen]; exact lt) = p at hj
    rw [hj]
    unfold Mine.deps
    rw [List.getElem?_map, List.getElem?_range lt]
    show some (depR R' p) = some (t * depR R j)
    rw [h.dep j p hj]
  · rw [List.getElem?_eq_none (by rw [h.plen]; omega), List.getElem?_eq_none (by rw [deps_len]; omega)]; rfl
theorem Px.same {R R' : List Stp'} {pl : List Nat} (h : Px R 1 R.length R' pl) : R' = R := by
  have := (h.one rfl).1
  rw [List.take_length] at this
  exact this
/-- the proof grown by two rows a turn -/
structure Gr (R E : List Stp') (i : Nat) : Prop where
  good : GoodRows (R ++ E)
  ok : ∀ r ∈ R ++ E, OkRow r
  len : E.length = 2 * i
theorem Gr.start {R : List Stp'} (h : RowsOk R) : Gr R [] 0 := ⟨by rw [List.append_nil]; exact h.good, fun r hr => (h.each r (by simpa using hr)).ok, rfl⟩
theorem Gr.dep {R E : List Stp'} {i : Nat} (h : Gr R E i) {n : Nat} (hn : n < R.length) : depR (R ++ E) n = depR R n := depR_app h.good n hn
def plainRow (n : Nat) : Stp' := ⟨"bits", [], [n], .none⟩
def moreRow (n : Nat) : Stp' := ⟨"resolve", [], [n, 0], .none⟩
theorem Gr.next {R E : List Stp'} {i n : Nat} (h : Gr R E i) (hn : n < R.length) : Gr R (E ++ [plainRow n] ++ [moreRow n]) (i + 1) := by
  have l : R.length ≤ (R ++ E).length := by rw [List.length_append]; omega
  have g1 : GoodRows (R ++ E ++ [plainRow n]) := h.good.snoc fun m hm => by
    have : m = n := List.mem_singleton.mp hm
    omega
  have g2 : GoodRows (R ++ E ++ [plainRow n] ++ [moreRow n]) := g1.snoc fun m hm => by
    have : m = n ∨ m = 0 := by
      rcases List.mem_cons.mp hm with q | q
      · exact .inl q
      · exact .inr (List.mem_singleton.mp q)
    rw [List.length_append]
    omega
  refine ⟨by rw [← List.append_assoc, ← List.append_assoc]; exact g2, ?_, by simp [h.len]; omega⟩
  rw [← List.append_assoc, ← List.append_assoc]
  exact OkRow.snoc (OkRow.snoc h.ok ⟨by show ("bits" : Str) ∈ rulesL; decide, Nat.zero_le 1, (fun c hc => nomatch hc), by show 1 ≤ 1000; decide⟩) ⟨by show ("resolve" : Str) ∈ rulesL; decide, Nat.zero_le 1, (fun c hc => nomatch hc), by show 2 ≤ 1000; decide⟩
theorem Gr.plain {R E : List Stp'} {i n : Nat} (h : Gr R E i) (hn : n < R.length) : depR (R ++ (E ++ [plainRow n] ++ [moreRow n])) (R ++ E).length = depR R n := by
  have g := (h.next hn).good
  have l : R.length ≤ (R ++ E).length := by rw [List.length_append]; omega
  rw [← List.append_assoc, ← List.append_assoc] at g ⊢
  rw [depR_app g _ (by rw [List.length_append (as := R ++ E)]; simp), depR_new h.good fun m hm => by
    have : m = n := List.mem_singleton.mp hm
    omega]
  have e : maxL ((plainRow n).prem.map (depR (R ++ E))) = depR (R ++ E) n := by simp [maxL, plainRow]
  rw [e, h.dep hn]
  have : isR (plainRow n) = 0 := by unfold isR plainRow; exact if_neg (show ¬ ("bits" : Str) = "resolve" by decide)
  omega
theorem Gr.more {R E : List Stp'} {i n : Nat} (h : Gr R E i) (hn : n < R.length) : depR (R ++ (E ++ [plainRow n] ++ [moreRow n])) ((R ++ E).length + 1) = max (depR R n) (depR R 0) + 1 := by
  have g := (h.next hn).good
  have l : R.length ≤ (R ++ E).length := by rw [List.length_append]; omega
  rw [← List.append_assoc, ← List.append_assoc] at g ⊢
  have g1 := g.init
  have e1 : (R ++ E).length + 1 = (R ++ E ++ [plainRow n]).length := by rw [List.length_append (as := R ++ E)]; rfl
  rw [e1, depR_new g1 fun m hm => by
    have : m = n ∨ m = 0 := by
      rcases List.mem_cons.mp hm with q | q
      · exact .inl q
      · exact .inr (List.mem_singleton.mp q)
    omega]
  have e : maxL ((moreRow n).prem.map (depR (R ++ E ++ [plainRow n]))) = max (depR (R ++ E ++ [plainRow n]) n) (depR (R ++ E ++ [plainRow n]) 0) := by simp [maxL, moreRow]
  rw [e, depR_app g1 n (by omega), depR_app g1 0 (by omega), h.dep hn, h.dep (Nat.lt_of_le_of_lt (Nat.zero_le _) hn)]
  have : isR (moreRow n) = 1 := by unfold isR moreRow; exact if_pos rfl
  omega
end Mine

open PySem PySem.W PyProof.Rows PySem.Calls PyProof.V PySem.Spec PySem.SeqAt
set_option Elab.async false
set_option linter.all false
set_option maxRecDepth 100000
set_option maxHeartbeats 8000000
namespace Mine
section
variable {prog : Program} {w : World} {g : Heap} {mg mb : Str → Option Value} {d : Nat} {env : Env} {ρ : Fra} {σ : Store}
theorem mth_depth : Mth (K1 prog w g mg mb) 211 "depth" 208 := ⟨by kernel_rfl, by kernel_rfl, by kernel_rfl⟩
theorem zints_mul (t : Nat) (l : List Nat) : zints (l.map (t * ·)) = l.map fun n : Nat => (t : Int) * (n : Int) := by
  unfold zints
  rw [List.map_map]
  refine List.map_congr_left fun n _ => ?_
  show ((t * n : Nat) : Int) = _
  rw [Int.natCast_mul]
theorem ns_ne {f : Str → Option V} {k : Nat} : ∀ (k' : Nat) (f' : Str → Option V), O.list [] ≠ O.ns k' f' := fun _ _ z => by cases z

theorem law_spec {sc : Addr} {ws : List Value} {ns : List Int} (hl : g.IsList sc ws.toArray) (hi : IntsAre ws ns) (hz : ns.length ≤ 63) :
    Kw (K1 prog w g mg mb) 41 (.ref 252) [.ref sc] (fun v _ => v = .bool true) (fun _ => none) := by
  refine Kw_def (d := 40) ["script"] (by with_unfolding_all rfl) (by kernel_rfl) (fun ws h => by match ws, h with | [a], _ => rfl) (by decide) (fun L => ?_)
  refine Sx_cons ?_
  refine S1_Assign ?_ ?_ ?_ ?_
  rotate_left
  · with_unfolding_all rfl
  · with_unfolding_all rfl
  · rfl
  refine Ew_CallG (EvF.globK (by with_unfolding_all rfl)) keep_fn (Ew_item (v := .none) ?_)
  refine Ew_DictK (knd := strKind prog w) (mk := O.sdict) (fun _ _ _ => Iff.rfl) rfl rfl (by simp) (by decide) fun kd hkd => ?_
  refine Ew_pairs_cons emb_str (Ew_str ⟨_, rfl, ?_⟩)
  refine Ew_SliceG hl hi (by omega) (Ew_name rfl ⟨rfl, Ew_int ⟨60, rfl, fun S hS => ?_⟩⟩)
  have kS : S ≠ kd := fun z => by rw [z] at hS; simp at hS
  have hkd₂ : ((Store.set (fun _ => none) kd (.sdict [])).set S (.list ((ns.take 60).map V.int))) kd = some (.sdict []) := (Store.set_ne (Ne.symm kS)).trans (Store.set_self ..)
  have hS₂ : ((Store.set (fun _ => none) kd (.sdict [])).set S (.list ((ns.take 60).map V.int))) S = some (.list ((ns.take 60).map V.int)) := Store.set_self ..
  generalize (Store.set (fun _ => none) kd (.sdict [])).set S (.list ((ns.take 60).map V.int)) = σ₂ at hkd₂ hS₂ ⊢
  refine Ew_pairs_cons emb_str (Ew_str ⟨_, rfl, Ew_int (Ew_pairs_nil ⟨hkd₂, ?_⟩)⟩)
  have ek : σ₂.set kd (.sdict (mergeK [(("cells" : Str), V.ref S), (("at" : Str), V.int 0)] [])) = σ₂.set kd (feedO S 0) := by unfold feedO; congr 1
  rw [ek]
  refine (rows_spec (kd := kd) (c := S) (cells := ns.take 60) (Store.set_self ..) ((Store.set_ne kS).trans hS₂) (by rw [List.length_take]; omega) fun ra R σ₃ hra sm₃ hr h3 h9 ok => Asg_Name (.inr ⟨rfl, rfl, rfl, _, rfl⟩) ?_).cwle (by decide)
  clear ek hkd₂ hS₂ kS sm₃ hra hS hkd
  have gd := ok.good
  have hrl : (R.map rowV).length ≤ 1000000 := by rw [List.length_map]; omega
  refine Sx_cons (S1_Assign (Ew_CallG (EvF.globK (by with_unfolding_all rfl)) keep_fn (Ew_item (v := .none) (Ew_name (Fra.set_self ..) ((rounds_spec hr ok h9 fun fa σ₄ hfa sm₄ hd => Asg_Name (.inl rfl) ?_).cwle (by decide))))))
  have hr₄ := sm₄.at hr
  clear hr sm₄ hfa σ₂
  have dl := deps_len R
  have hdl : (vints (deps R)).length ≤ 1000000 := by unfold vints; rw [List.length_map]; omega
  -- due != longest
  refine Sx_cons (S1_If (Ew.mono (Q := fun b σ₅ => b = false ∧ Same [] σ₄ σ₅) ?_ fun b σ₅ hb => ?_))
  · refine Ew_isCompare (Ew_name (Fra.set_self ..) ?_)
    refine Ew_ListComp (cl := [("rows", L + 1)]) (by with_unfolding_all rfl) (ClOk.to ⟨rfl, trivial⟩) (Iw_val ?_)
    refine Ew_CallG (EvF.bltK (by kernel_rfl) rfl) KeepOk.type (Ew_item (v := .none) (Ew_CallG (EvF.bltK (by kernel_rfl) rfl) KeepOk.builtin (Ew_item (v := .none) (Ew_name (Fra.aside (Fra.set_self ..)) (Cw_lenL hr₄ hrl ?_)))))
    rw [List.length_map]
    refine Cw_range1 ⟨_, itR1 (by omega), fun D LL hD => ?_⟩
    refine Gw_loopL ["number"] rfl rfl turn_one (.inl ⟨⟨_, _, rfl⟩, fun _ z => by cases z⟩) (fun j σ₅ => j ≤ R.length ∧ Same [] σ₄ σ₅ ∧ σ₅ D = some (.list (vints ((List.range j).map (depR R))))) ⟨Nat.zero_le _, (Same.refl _ _).fresh hD, Store.set_self ..⟩ R.length ?_
    rintro j ρ₂ σ₅ hρ₂ ⟨hj, sm₅, hD₅⟩
    refine ⟨hj, trivial, fun v hv => ?_, fun hv ρ₃ hρ₃ => ?_⟩
    · simp only [It.at] at hv
      split at hv
      rotate_left
      · cases hv
      rename_i hlt
      cases hv
      have e1 : (0 : Int) + (j : Int) * 1 = (j : Int) := by omega
      rw [e1]
      refine Asg_Name (.inl rfl) (Ts_nil ⟨fun _ => Em_last ?_, fun z => by cases z⟩)
      refine Ew_CallG (EvF.globK (by with_unfolding_all rfl)) keep_fn (Ew_items_cons (Ew_name (Fra.aside (hρ₂.at (compFra_at (Fra.aside (Fra.set_self ..))))) (Ew_item (v := .none) (Ew_name (Fra.set_self ..) ?_))))
      refine (longest_spec (sm₅.at hr₄) ok h9 hlt fun σ₆ sm₆ => ⟨_, sm₆.at hD₅, by unfold vints; rw [List.length_map, List.length_map, List.length_range]; omega, hρ₂.set (.head _), hlt, (sm₅.trans sm₆).fresh hD, ?_⟩).cwle (by decide)
      rw [Store.set_self, List.range_succ]
      simp [vints]
    · have hj' : j = R.length := by
        simp only [It.at] at hv
        split at hv
        · cases hv
        · omega
      subst hj'
      have hD₅ : σ₅ D = some (.list (vints (deps R))) := hD₅
      rw [← vints_eq] at hD₅
      refine O2_neInts (ns := zints (deps R)) (ms := zints (deps R)) (by rw [vints_eq]; exact sm₅.at hd) hD₅ ⟨_, rfl, by simp, sm₅⟩
  obtain ⟨rfl, sm₅⟩ := hb
  refine ⟨(fun z => by cases z), fun _ => Sx_nil ?_⟩
  have hr₅ := sm₅.at hr₄
  have hd₅ := sm₅.at hd
  clear hr₄ hd sm₅ σ₄
  -- the four proofs
  refine Sx_cons (S1_ForL ["times", "proof", "places"] (fun it i ρ' σ' => it = .tup ([1, 0, 2, 3].map V.int) ∧ i ≤ 4 ∧ Same [] σ₅ σ') (Iw_val ?_))
  refine Ew_Tuple (Ew_items_cons (Ew_int (Ew_items_cons (Ew_int (Ew_items_cons (Ew_int (Ew_items_cons (Ew_int (Ew_items_nil ⟨by simp, _, .tup, .inl ⟨⟨_, _, rfl⟩, fun _ z => by cases z⟩, ⟨rfl, Nat.zero_le _, Same.refl _ _⟩, 4, ?_⟩)))))))))
  rintro i ρ' σ₆ hρ ⟨-, hi4, sm₆⟩
  refine ⟨hi4, trivial, fun v hv => ?_, fun hv => ?_⟩
  · have hi4' : i < 4 := by
      obtain ⟨h, -⟩ := List.getElem?_eq_some_iff.mp hv
      exact h
    obtain ⟨t, ht, rfl⟩ : ∃ t : Nat, t ≤ 3 ∧ v = .int t := by
      match i, hi4', hv with
      | 0, _, hv => cases hv; exact ⟨1, by decide, rfl⟩
      | 1, _, hv => cases hv; exact ⟨0, by decide, rfl⟩
      | 2, _, hv => cases hv; exact ⟨2, by decide, rfl⟩
      | 3, _, hv => cases hv; exact ⟨3, by decide, rfl⟩
    clear hv
    refine Asg_Name (.inr ⟨rfl, rfl, rfl, _, rfl⟩) (Sx_cons (S1_Assign (Ew_CallG (EvF.globK (by with_unfolding_all rfl)) keep_fn (Ew_items_cons (Ew_name (Fra.aside (hρ.at (Fra.aside (Fra.set_self ..)))) (Ew_item (v := .none) (Ew_name (Fra.set_self ..) ?_)))))))
    refine (proof_spec (sm₆.at hr₅) ok h9 ht fun dx s n pa e R' pl σ₇ f1 f2 f3 f4 sm₇ p₇ hpl px => ?_).cwle (by decide)
    refine Asg_Tuple rfl (AsgL_cons (Asg_Name (.inr ⟨rfl, rfl, rfl, _, rfl⟩) (AsgL_cons (Asg_Name (.inl rfl) (AsgL_nil ?_)))))
    have s7 := sm₆.trans sm₇
    have hd₇ := s7.at hd₅
    have pn := px.plen
    have hlen := px.len
    clear f1 f2 f3 f4 sm₇ sm₆
    refine Sx_cons (S1_If (Ew.mono (Q := fun b σ₈ => b = false ∧ Same [] σ₇ σ₈) ?_ fun b σ₈ hb => ?_))
    · refine Ew_isCompare ?_
      refine Ew_ListComp (cl := [("proof", L + 3)]) (by with_unfolding_all rfl) (ClOk.to ⟨rfl, trivial⟩) (Iw_val (Ew_name (Fra.set_self ..) ⟨_, .list hpl, fun D LL hD => ?_⟩))
      refine Gw_loopL ["place"] rfl rfl turn_one (.inl ⟨⟨_, _, rfl⟩, fun _ z => by cases z⟩) (fun j σ₈ => j ≤ pl.length ∧ Same [] σ₇ σ₈ ∧ σ₈ D = some (.list (vints ((pl.take j).map (depR R'))))) ⟨Nat.zero_le _, (Same.refl _ _).fresh hD, Store.set_self ..⟩ pl.length ?_
      rintro j ρ₂ σ₈ hρ₂ ⟨hj, sm₈, hD₈⟩
      have hpl₈ := sm₈.at hpl
      have p₈ := p₇.keep sm₈ (by simp) (by simp) (by simp)
      refine ⟨hj, ⟨_, hpl₈⟩, fun v hv => ?_, fun hv ρ₃ hρ₃ => ?_⟩
      · simp only [It.at, lof_of hpl₈] at hv
        unfold vints at hv
        rw [List.getElem?_map, Option.map_eq_some_iff] at hv
        obtain ⟨q, hq, rfl⟩ := hv
        obtain ⟨hj', -⟩ := List.getElem?_eq_some_iff.mp hq
        refine Asg_Name (.inl rfl) (Ts_nil ⟨fun _ => Em_last ?_, fun z => by cases z⟩)
        refine Ew_CallN (Fra.aside (hρ₂.at (compFra_at (Fra.aside (Fra.set_self ..))))) p₈.dx rfl mth_depth keep_fn (Ew_item (v := .none) (Ew_name (Fra.set_self ..) ?_))
        refine (depth_spec p₈ px.good px.ok (px.lt j q hq) (by omega) fun σ₉ sm₉ => ⟨_, sm₉.at hD₈, by unfold vints; simp; omega, hρ₂.set (.head _), hj', (sm₈.trans sm₉).fresh hD, ?_⟩).cwle (by decide)
        rw [Store.set_self, List.take_add_one, hq]
        simp [vints]
      · have hj' : j = pl.length := by
          simp only [It.at, lof_of hpl₈] at hv
          unfold vints at hv
          rw [List.getElem?_map, Option.map_eq_none_iff, List.getElem?_eq_none_iff] at hv
          omega
        subst hj'
        rw [List.take_length, px.deps, ← vints_eq] at hD₈
        refine Ew_ListComp (cl := [("times", L + 2)]) (by with_unfolding_all rfl) (ClOk.to ⟨rfl, trivial⟩) (Iw_val (Ew_name (Fra.aside (Fra.aside (Fra.aside (hρ.at (Fra.set_self ..))))) ⟨_, .list (sm₈.at hd₇), fun D' LL' hD' => ?_⟩))
        have hd₈ := sm₈.at hd₇
        refine Gw_loopL ["one"] rfl rfl turn_one (.inl ⟨⟨_, _, rfl⟩, fun _ z => by cases z⟩) (fun k σ₉ => k ≤ (deps R).length ∧ Same [] σ₈ σ₉ ∧ σ₉ D' = some (.list ((((deps R).take k).map fun n : Nat => (t : Int) * (n : Int)).map V.int))) ⟨Nat.zero_le _, (Same.refl _ _).fresh hD', Store.set_self ..⟩ (deps R).length ?_
        rintro k ρ₄ σ₉ hρ₄ ⟨hk, sm₉, hD₉⟩
        have hd₉ := sm₉.at hd₈
        refine ⟨hk, ⟨_, hd₉⟩, fun v hv => ?_, fun hv ρ₅ hρ₅ => ?_⟩
        · simp only [It.at, lof_of hd₉] at hv
          unfold vints at hv
          rw [List.getElem?_map, Option.map_eq_some_iff] at hv
          obtain ⟨q, hq, rfl⟩ := hv
          obtain ⟨hk', -⟩ := List.getElem?_eq_some_iff.mp hq
          refine Asg_Name (.inl rfl) (Ts_nil ⟨fun _ => Em_last (Ew_BinOp (Ew_name (Fra.aside (hρ₄.at (compFra_at (Fra.aside (Fra.aside (Fra.set_self ..)))))) (Ew_name (Fra.set_self ..) (O2_mul (intBits_le_64 (by omega) (by omega)) ⟨_, hD₉, by simp; omega, hρ₄.set (.head _), hk', sm₉.fresh hD', ?_⟩)))), fun z => by cases z⟩)
          rw [Store.set_self, List.take_add_one, hq]
          simp
        · have hk' : k = (deps R).length := by
            simp only [It.at, lof_of hd₉] at hv
            unfold vints at hv
            rw [List.getElem?_map, Option.map_eq_none_iff, List.getElem?_eq_none_iff] at hv
            omega
          subst hk'
          rw [List.take_length, ← zints_mul] at hD₉
          exact O2_neInts (sm₉.at hD₈) hD₉ ⟨_, rfl, by simp, sm₈.trans sm₉⟩
    · obtain ⟨rfl, sm₈⟩ := hb
      exact ⟨(fun z => by cases z), fun _ => Sx_nil (Sx_nil ⟨((hρ.set (.head _)).set (.tail _ (.head _))).set (.tail _ (.tail _ (.head _))), rfl, hi4', s7.trans sm₈⟩)⟩
  have hr₆ := sm₆.at hr₅
  have hd₆ := sm₆.at hd₅
  clear hr₅ hd₅ sm₆ hv σ₅ hi4
  have hρr : ρ' "rows" = some (.ref ra) := hρ.at (Fra.aside (Fra.set_self ..))
  have hρd : ρ' "due" = some (.ref fa) := hρ.at (Fra.set_self ..)
  clear hρ
  -- the proof that grows
  refine Sx_cons (S1_Assign (Ew_CallG (EvF.globK (by with_unfolding_all rfl)) keep_fn (Ew_items_cons (Ew_name hρr (Ew_item (v := .none) (Ew_int ?_))))))
  refine (proof_spec (t := 1) hr₆ ok h9 (by decide) fun dx s n pa e R' pl σ₇ f1 f2 f3 f4 sm₇ p₇ hpl px => ?_).cwle (by decide)
  refine Asg_Tuple rfl (AsgL_cons (Asg_Name (.inr ⟨rfl, rfl, rfl, _, rfl⟩) (AsgL_cons (Asg_Name (.inl rfl) (AsgL_nil ?_)))))
  rw [px.same] at p₇
  clear hpl f4 px
  refine Sx_cons (S1_ForL ["number", "short", "plain", "more"] (fun it i ρ' σ' => it = .rng 0 1 R.length ∧ i ≤ R.length ∧ ∃ e E, IsPf σ' dx s n e (R ++ E) ∧ Gr R E i ∧ Same [] σ₆ σ') (Iw_val ?_))
  refine Ew_CallG (EvF.bltK (by kernel_rfl) rfl) KeepOk.type (Ew_item (v := .none) (Ew_CallG (EvF.bltK (by kernel_rfl) rfl) KeepOk.builtin (Ew_item (v := .none) (Ew_name (Fra.aside (Fra.aside hρr)) (Cw_lenL (sm₇.at hr₆) hrl ?_)))))
  rw [List.length_map]
  refine Cw_range1 ⟨_, itR1 (by omega), .inl ⟨⟨_, _, rfl⟩, fun _ z => by cases z⟩, ⟨rfl, Nat.zero_le _, e, [], by rw [List.append_nil]; exact p₇, Gr.start ok, sm₇⟩, R.length, ?_⟩
  clear p₇ sm₇ e
  rintro i ρ₁ σ₈ hρ ⟨-, hiR, e, E, p, gr, sm⟩
  have hr₈ := sm.at hr₆
  have hd₈ := sm.at hd₆
  have hEl : (R ++ E).length ≤ 27 := by rw [List.length_append, gr.len]; omega
  have hRE : R.length ≤ (R ++ E).length := by rw [List.length_append]; omega
  refine ⟨hiR, trivial, fun v hv => ?_, fun hv => ?_⟩
  · simp only [It.at] at hv
    split at hv
    rotate_left
    · cases hv
    rename_i hlt
    cases hv
    have e1 : (0 : Int) + (i : Int) * 1 = (i : Int) := by omega
    rw [e1]
    refine Asg_Name (.inl rfl) (Sx_cons (S1_Assign (Ew_CallN (Fra.aside (hρ.at (Fra.aside (Fra.set_self ..)))) p.dx rfl mth_trimmed keep_fn (Ew_item (v := .none) (Ew_name (Fra.set_self ..) ?_)))))
    refine (trimmed_spec p gr.good gr.ok (Nat.lt_of_lt_of_le hlt hRE) (by omega) fun dx' s' n' e' σ₉ g1 g2 g3 sm₉ p₉ => Asg_Name (.inl rfl) ?_).cwle (by decide)
    clear g1 g2 g3
    have tl := trim_len (R ++ E) (need (premsOf (R ++ E)) i)
    have nl := need_length (premsOf (R ++ E)) i
    have np : 0 < (need (premsOf (R ++ E)) i).length := List.length_pos_of_mem (last_mem gr.good.ahead)
    have hd₉ := sm₉.at hd₈
    have hr₉ := sm₉.at hr₈
    have pp := p.keep sm₉ (by simp) (by simp) (by simp)
    refine Sx_cons (S1_If (Ew.mono (Q := fun b σ₁₀ => b = false ∧ Same [] σ₉ σ₁₀) ?_ fun b σ₁₀ hb => ?_))
    · refine Ew_isOr (Ew_or_cons (Ew_isCompare ?_))
      refine Ew_CallN (Fra.set_self ..) p₉.dx rfl mth_depth keep_fn (Ew_item (v := .none) (Ew_BinOp (Ew_CallN (Fra.set_self ..) p₉.dx rfl mth_size keep_fn (Ew_items_nil ?_))))
      refine (size_spec p₉ (by omega) (Ew_int (O2_sub ?_))).cwle (by decide)
      have es : ((trimRows (R ++ E) (need (premsOf (R ++ E)) i)).length : Int) - 1 = (((need (premsOf (R ++ E)) i).length - 1 : Nat) : Int) := by rw [tl]; omega
      rw [es]
      refine (depth_spec p₉ (trim_good gr.good i) (trim_ok gr.good gr.ok (Nat.lt_of_lt_of_le hlt hRE)) (by omega) (by omega) fun σ₁₁ sm₁₁ => ?_).cwle (by decide)
      rw [trim_last gr.good, gr.dep hlt]
      refine Ew_Subscript (Ew_name (Fra.aside (Fra.aside (hρ.at (Fra.aside (Fra.aside hρd))))) (Ew_name (Fra.aside (Fra.set_self ..)) (subL (sm₁₁.at hd₉) (deps_at hlt) hdl (O2_ne ⟨_, rfl, (fun hb => by simp at hb), fun _ => ?_⟩))))
      refine Ew_or_cons (Ew_isCompare (Ew_CallM (Ew_Subscript (Ew_CallG (EvF.globK (by with_unfolding_all rfl)) keep_fn (Ew_items_cons (Ew_SliceTo ?_))))))
      refine Ew_name (Fra.aside (Fra.aside (hρ.at (Fra.aside (Fra.aside hρr))))) (Ew_BinOp (Ew_name (Fra.aside (Fra.set_self ..)) (Ew_int (O2_add ⟨ra, _, i + 1, rfl, congrArg V.int (by omega), sm₁₁.at hr₉, hrl, fun D hD => Ew_item (v := .none) (Ew_int ?_)⟩))))
      have htl : (R.take (i + 1)).length = i + 1 := by rw [List.length_take]; omega
      refine (proof_spec (R := R.take (i + 1)) (t := 1) (by rw [Store.set_self, List.map_take]) (ok.take _) (by omega) (by decide) fun dx₂ s₂ n₂ pa₂ e₂ R₂ pl₂ σ₁₂ b1 b2 b3 b4 sm₁₂ p₁₂ hpl₂ px₂ => Ew_int ?_).cwle (by decide)
      clear b1 b2 b3 b4
      have s12 : Same [] σ₉ σ₁₂ := (sm₁₁.new hD).trans sm₁₂
      have px₂ : Px (R.take (i + 1)) 1 (R.take (i + 1)).length R₂ pl₂ := px₂
      have er := px₂.same
      subst er
      refine subT (k := 0) (v := .obj 211 dx₂) rfl ⟨_, MethOk.own p₁₂.dx rfl mth_depth, keep_fn, Ew_item (v := .none) (Ew_name (Fra.aside (Fra.set_self ..)) ?_)⟩ (by simp)
      refine (depth_spec p₁₂ (ok.take _).good (fun r hr => ((ok.take _).each r hr).ok) (by omega) (by omega) fun σ₁₃ sm₁₃ => ?_).cwle (by decide)
      rw [take_dep gd hlt]
      have s13 := s12.trans sm₁₃
      exact Ew_Subscript (Ew_name (Fra.aside (Fra.aside (hρ.at (Fra.aside (Fra.aside hρd))))) (Ew_name (Fra.aside (Fra.set_self ..)) (subL (s13.at hd₉) (deps_at hlt) hdl (O2_ne ⟨_, rfl, (fun hb => by simp at hb), fun _ => Ew_or_nil ⟨rfl, s13⟩⟩))))
    obtain ⟨rfl, sm₁₀⟩ := hb
    refine ⟨(fun z => by cases z), fun _ => Sx_nil ?_⟩
    have p₁₀ := pp.keep sm₁₀ (by simp) (by simp) (by simp)
    have hd₁₀ := sm₁₀.at hd₉
    have s10 := (sm.trans sm₉).trans sm₁₀
    clear pp p₉ hd₉ hr₉ hd₈ hr₈ tl nl np p sm sm₉ sm₁₀
    -- two rows more
    refine Sx_cons (S1_AssignSwap (.inl rfl) (.inl rfl) (Ew_Tuple (Ew_items_cons ?_)))
    refine Ew_CallN (Fra.aside (Fra.aside (hρ.at (Fra.aside (Fra.set_self ..))))) p₁₀.dx rfl mth_add keep_fn (Ew_items_cons (Ew_str (Ew_items_cons (Ew_Tuple (Ew_items_nil ⟨by simp, Ew_items_cons (Ew_Tuple (Ew_items_cons (Ew_name (Fra.aside (Fra.set_self ..)) (Ew_items_nil ⟨by simp, Ew_items_cons (Ew_none (Ew_items_nil ?_))⟩))))⟩)))))
    refine (add_spec (r := plainRow i) p₁₀ (by omega) (by show ("bits" : Str) ∈ rulesL; decide) (Nat.zero_le 1) (fun c hc => nomatch hc) (fun m hm => by rw [List.mem_singleton.mp hm]; omega) (by show 1 ≤ 1000; decide) fun σ₁₁ e₁₁ sm₁₁ p₁₁ => ?_).cwle (by decide)
    have gx := gr.next hlt
    have l1 : (R ++ E ++ [plainRow i]).length = (R ++ E).length + 1 := by rw [List.length_append (as := R ++ E)]; rfl
    refine Ew_items_cons (Ew_CallN (Fra.aside (Fra.aside (hρ.at (Fra.aside (Fra.set_self ..))))) p₁₁.dx rfl mth_add keep_fn (Ew_items_cons (Ew_str (Ew_items_cons (Ew_Tuple (Ew_items_nil ⟨by simp, Ew_items_cons (Ew_Tuple (Ew_items_cons (Ew_name (Fra.aside (Fra.set_self ..)) (Ew_items_cons (Ew_int (Ew_items_nil ⟨by simp, Ew_items_cons (Ew_none (Ew_items_nil ?_))⟩))))))⟩))))))
    refine (add_spec (r := moreRow i) p₁₁ (by omega) (by show ("resolve" : Str) ∈ rulesL; decide) (Nat.zero_le 1) (fun c hc => nomatch hc) (fun m hm => ?_) (by show 2 ≤ 1000; decide) fun σ₁₂ e₁₂ sm₁₂ p₁₂ => Ew_items_nil ⟨by simp, _, _, rfl, ?_⟩).cwle (by decide)
    · have : m = i ∨ m = 0 := by
        rcases List.mem_cons.mp hm with q | q
        · exact .inl q
        · exact .inr (List.mem_singleton.mp q)
      omega
    rw [l1]
    have p₁₂ : IsPf σ₁₂ dx s n e₁₂ (R ++ (E ++ [plainRow i] ++ [moreRow i])) := by rw [← List.append_assoc, ← List.append_assoc]; exact p₁₂
    have s12 : Same [] σ₆ σ₁₂ := (s10.onto sm₁₁ (by simp [f1, f2])).onto sm₁₂ (by simp [f1, f2])
    have hd₁₂ := s12.at hd₆
    have gl : (R ++ (E ++ [plainRow i] ++ [moreRow i])).length = (R ++ E).length + 2 := by rw [← List.append_assoc, ← List.append_assoc, List.length_append, l1]; rfl
    clear p₁₀ p₁₁ sm₁₁ sm₁₂ s10 hd₁₀ l1
    refine Sx_cons (S1_If (Ew.mono (Q := fun b σ₁₃ => b = false ∧ Same [] σ₁₂ σ₁₃) ?_ fun b σ₁₃ hb => ?_))
    · refine Ew_isOr (Ew_or_cons (Ew_isCompare ?_))
      refine Ew_CallN (Fra.aside (Fra.aside (Fra.aside (Fra.aside (hρ.at (Fra.aside (Fra.set_self ..))))))) p₁₂.dx rfl mth_depth keep_fn (Ew_item (v := .none) (Ew_name (Fra.set_self ..) ?_))
      refine (depth_spec p₁₂ gx.good gx.ok (by omega) (by omega) fun σ₁₃ sm₁₃ => ?_).cwle (by decide)
      rw [gr.plain hlt]
      refine Ew_Subscript (Ew_name (Fra.aside (Fra.aside (Fra.aside (Fra.aside (hρ.at (Fra.aside (Fra.aside hρd))))))) (Ew_name (Fra.aside (Fra.aside (Fra.aside (Fra.set_self ..)))) (subL (sm₁₃.at hd₁₂) (deps_at hlt) hdl (O2_ne ⟨_, rfl, (fun hb => by simp at hb), fun _ => ?_⟩))))
      have p₁₃ := p₁₂.keep sm₁₃ (by simp) (by simp) (by simp)
      refine Ew_or_cons (Ew_isCompare ?_)
      refine Ew_CallN (Fra.aside (Fra.aside (Fra.aside (Fra.aside (hρ.at (Fra.aside (Fra.set_self ..))))))) p₁₃.dx rfl mth_depth keep_fn (Ew_item (v := .none) (Ew_name (Fra.aside (Fra.set_self ..)) ?_))
      have ec : ((R ++ E).length : Int) + 1 = (((R ++ E).length + 1 : Nat) : Int) := by omega
      refine (depth_spec p₁₃ gx.good gx.ok (last := (R ++ E).length + 1) (by omega) (by omega) fun σ₁₄ sm₁₄ => ?_).cwle (by decide)
      rw [gr.more hlt]
      have s14 := sm₁₃.trans sm₁₄
      refine Ew_BinOp (Ew_CallG (EvF.bltK (by kernel_rfl) rfl) KeepOk.builtin (Ew_items_cons (Ew_Subscript (Ew_name (Fra.aside (Fra.aside (Fra.aside (Fra.aside (hρ.at (Fra.aside (Fra.aside hρd))))))) (Ew_name (Fra.aside (Fra.aside (Fra.aside (Fra.set_self ..)))) (subL (s14.at hd₁₂) (deps_at hlt) hdl (Ew_item (v := .none) (Ew_Subscript (Ew_name (Fra.aside (Fra.aside (Fra.aside (Fra.aside (hρ.at (Fra.aside (Fra.aside hρd))))))) (Ew_int (subL (k := 0) (s14.at hd₁₂) (deps_at (by omega)) hdl (Cw_max2 (Ew_int (O2_add (O2_ne ⟨_, rfl, fun hb => ?_, fun _ => Ew_or_nil ⟨rfl, s14⟩⟩)))))))))))))))
      have em : ((max (depR R i) (depR R 0) + 1 : Nat) : Int) = max (depR R i : Int) (depR R 0 : Int) + 1 := by omega
      rw [em] at hb
      simp at hb
    · obtain ⟨rfl, sm₁₃⟩ := hb
      exact ⟨(fun z => by cases z), fun _ => Sx_nil (Sx_nil ⟨(((hρ.set (.head _)).set (.tail _ (.head _))).set (.tail _ (.tail _ (.tail _ (.head _))))).set (.tail _ (.tail _ (.head _))), rfl, hlt, e₁₂, _, p₁₂.keep sm₁₃ (by simp) (by simp) (by simp), gx, s12.trans sm₁₃⟩)⟩
  · have hi' : i = R.length := by
      simp only [It.at] at hv
      split at hv
      · cases hv
      · omega
    subst hi'
    refine Sx_cons (S1_Return (Ew_Compare ?_))
    refine Ew_ListComp (cl := [("proof", L + 3)]) (by with_unfolding_all rfl) (ClOk.to ⟨rfl, trivial⟩) (Iw_val ?_)
    refine Ew_CallG (EvF.bltK (by kernel_rfl) rfl) KeepOk.type (Ew_item (v := .none) (Ew_CallG (EvF.bltK (by kernel_rfl) rfl) KeepOk.builtin (Ew_item (v := .none) (Ew_name (hρ.at (Fra.aside (Fra.aside hρr))) (Cw_lenL hr₈ hrl ?_)))))
    rw [List.length_map]
    refine Cw_range1 ⟨_, itR1 (by omega), fun D LL hD => ?_⟩
    refine Gw_loopL ["number"] rfl rfl turn_one (.inl ⟨⟨_, _, rfl⟩, fun _ z => by cases z⟩) (fun j σ₉ => j ≤ R.length ∧ Same [] σ₈ σ₉ ∧ σ₉ D = some (.list (vints ((List.range j).map (depR R))))) ⟨Nat.zero_le _, (Same.refl _ _).fresh hD, Store.set_self ..⟩ R.length ?_
    rintro j ρ₂ σ₉ hρ₂ ⟨hj, sm₉, hD₉⟩
    have p₉ := p.keep sm₉ (by simp) (by simp) (by simp)
    refine ⟨hj, trivial, fun v hv => ?_, fun hv ρ₃ hρ₃ => ?_⟩
    · simp only [It.at] at hv
      split at hv
      rotate_left
      · cases hv
      rename_i hlt
      cases hv
      have e1 : (0 : Int) + (j : Int) * 1 = (j : Int) := by omega
      rw [e1]
      refine Asg_Name (.inl rfl) (Ts_nil ⟨fun _ => Em_last ?_, fun z => by cases z⟩)
      refine Ew_CallN (Fra.aside (hρ₂.at (compFra_at (hρ.at (Fra.aside (Fra.set_self ..)))))) p₉.dx rfl mth_depth keep_fn (Ew_item (v := .none) (Ew_name (Fra.set_self ..) ?_))
      refine (depth_spec p₉ gr.good gr.ok (by omega) (by omega) fun σ₁₀ sm₁₀ => ⟨_, sm₁₀.at hD₉, by unfold vints; rw [List.length_map, List.length_map, List.length_range]; omega, hρ₂.set (.head _), hlt, (sm₉.trans sm₁₀).fresh hD, ?_⟩).cwle (by decide)
      rw [Store.set_self, List.range_succ, gr.dep hlt]
      simp [vints]
    · have hj' : j = R.length := by
        simp only [It.at] at hv
        split at hv
        · cases hv
        · omega
      subst hj'
      have hD₉ : σ₉ D = some (.list (vints (deps R))) := hD₉
      rw [← vints_eq] at hD₉
      refine Ew_name (hρ.at (Fra.aside (Fra.aside hρd))) (O2_eqInts (ns := zints (deps R)) (ms := zints (deps R)) hD₉ (by rw [vints_eq]; exact sm₉.at hd₈) ?_)
      simp [behind, retOf]
end
end Mine

open PySem PySem.W PyProof.Rows PySem.Calls
set_option Elab.async false
set_option linter.all false
set_option maxRecDepth 100000
set_option maxHeartbeats 8000000
namespace Mine
theorem rep0 {prog : Program} {w : World} {g : Heap} {mg mb : Str → Option Value} (K : (HK w.params).In g) (G : g.Ns mainGlobals mg) (B : g.Ns builtinsNs mb) (N : g.NoLimit) (b : ∀ x : Str, x ≠ "__name__" → mb x = bootBuiltins x) : Rep (K1 prog w g mg mb) (fun _ => none) g :=
  ⟨⟨K, G, B, N, b⟩, fun _ _ e => e, fun _ _ e => (nomatch e), fun _ _ e => (nomatch e)⟩
theorem fin01 : PySem.Challenge.rw_qz0005_01.Holds := hd (by with_unfolding_all rfl) (by with_unfolding_all rfl) (by with_unfolding_all rfl) (by
  intro w s₀ s₁ mg mb G Y fa o pm cd doc dV kV ho hdd hcd hD hmg hg args vals as hpre hlay hrd hwl hlo
  have KX := kIn_of Y
  refine Ground.open G ?_
  intro T B D TE TW
  try (refine guard_noD D (by decide +kernel) ?_; clear D)
  have hfa : Value.ref fa = Value.ref 252 := Option.some.inj ((show mg _ = some (Value.ref fa) from hmg).symm.trans (mg_of KX (topRead_of T).g (by with_unfolding_all rfl)))
  wrow_args hpre hlay hrd hwl hlo
  all_goals (
    first | refine callC_kw (enter_call ?_) | refine enter_call ?_ | refine callC_kw (enter_callW ?_) | refine enter_callW ?_ | w_how
    w_top on
    try refine codeAny_mono ?_ (fun _ _ g => GoodW.toG g)
    have K0 := below_caller (Top.heap T)
    clear hdd hcd hD
    skip)
  rw [hfa]
  have TR := topRead_of T
  refine law_spec (g := s₁.heap) (mg := mg) (mb := mb) (w := w) (ws := ?_) (ns := ?_) (by assumption) (by assumption) (by omega) callerA _ s₁ _ ⟨rfl, by decide, by decide⟩ (rep0 KX TR.g TR.b TR.nolimit TR.builtins) (VRels.cons rfl VRels.nil) fun b σ' x h' tk q R' r st => ?_
  subst q
  have ex : x = .bool true := r
  subst ex
  refine ⟨.inl ⟨_, ofPy (.bool true), [], rfl, fun cls => rfl, ?_, ?_, ?_⟩, fun b o e => st.keep b o e rfl, rfl, hg⟩
  · first | exact .bool _ | exact .py (.bool _) | constructor
  · kernel_rfl
  · exact fun _ => ⟨List.nodup_nil, fun a h => nomatch h⟩)
end Mine
theorem PySem.Challenge.cw_qz0005_01_holds : PySem.Challenge.rw_qz0005_01.Holds :=
  Mine.fin01
