import PyProof.Rows.All
import Wide.All
import OpenK.AllK
import Wide.FinOn
import KE.KItem
import KE.KListMore
import KE.KDictSum
import KE.KSlice
import KE.KDictOf
import Lean
import PySem.Challenge.RW_pb0335_01
set_option Elab.async false
set_option maxRecDepth 100000
set_option linter.unusedVariables false
set_option linter.unusedSectionVars false
namespace Mine
open PySem PySem.W PySem.Calls PyProof.Rows

/-! ## abstract values, objects, heaps -/
inductive V where
  | none | bool (b : Bool) | int (i : Int) | str (x : Str) | ref (a : Addr)
  deriving DecidableEq

noncomputable def vOf : Value → Option V
  | .none => some .none
  | .bool b => some (.bool b)
  | .int i _ => some (.int i)
  | .str x _ => some (.str x)
  | .ref a => some (.ref a)
  | _ => Option.none

inductive Ab where
  | tup (vs : List V) | list (vs : List V) | dict (ep : Nat) (es : List (Str × V)) | inst (d : Addr)

noncomputable abbrev Hp := Addr → Option Ab
noncomputable def Hp.set (h : Hp) (a : Addr) (o : Ab) : Hp := fun b => if b = a then some o else h b
theorem Hp.set_same (h : Hp) (a : Addr) (o : Ab) : h.set a o a = some o := if_pos rfl
theorem Hp.set_ne (h : Hp) {a b : Addr} (o : Ab) (hb : b ≠ a) : h.set a o b = h b := if_neg hb

structure Gl where
  prog : Program
  w : World
  K : Frag
  p : Program
  loose : List Str
  mean : ExcName → Option Value
  mg : Str → Option Value
  mb : Str → Option Value
  cls : Addr
  scrA : Addr
  scrN : List Int

structure Act where
  A₀ : Around
  base : Heap
  h₀ : Heap
  outer : List Env
  fenv : Env
  L : Addr

structure Act.Ok (g : Gl) (a : Act) : Prop where
  below : Below a.A₀ a.base a.outer a.h₀
  kin : g.K.In a.h₀
  top : Top g.p g.loose g.mean g.mg g.mb a.h₀
  fr : a.fenv.frame = some a.L
  ke : a.fenv.scope.kind = .function

structure AOk (a : Act) (n : Nat) (A : Around) : Prop where
  hd : A.handled = none
  fr : A.frames = some (a.fenv :: a.outer)
  dp : A.depth + n < recursionLimit
  un : A.units + 8 * n + 80 < cLine

noncomputable abbrev Gl.M (g : Gl) : Model := model g.prog g.w

/-- items of a sequence, read without their tokens -/
noncomputable def VRs (vals : List Value) (vs : List V) : Prop := vals.map vOf = vs.map some

theorem VRs.nil : VRs [] [] := rfl
theorem VRs.cons {a v} {vals vs} (h : vOf a = some v) (t : VRs vals vs) : VRs (a :: vals) (v :: vs) := by
  unfold VRs at *; simp [h, t]
theorem VRs.length {vals : List Value} {vs : List V} (h : VRs vals vs) : vals.length = vs.length := by
  have := congrArg List.length h; simpa using this
theorem VRs.append {l₁ l₂ : List Value} {m₁ m₂ : List V} (h : VRs l₁ m₁) (t : VRs l₂ m₂) : VRs (l₁ ++ l₂) (m₁ ++ m₂) := by
  unfold VRs at *; simp [h, t]
theorem VRs.snoc {l : List Value} {m : List V} {a v} (h : VRs l m) (t : vOf a = some v) : VRs (l ++ [a]) (m ++ [v]) := h.append (.cons t .nil)
theorem VRs.get {vals : List Value} {vs : List V} (h : VRs vals vs) {i : Nat} {v : V} (hv : vs[i]? = some v) : ∃ val, vals[i]? = some val ∧ vOf val = some v := by
  have e : (vals.map vOf)[i]? = (vs.map some)[i]? := by rw [h]
  rw [List.getElem?_map, List.getElem?_map, hv] at e
  cases hx : vals[i]? with
  | none => rw [hx] at e; cases e
  | some val => rw [hx] at e; exact ⟨val, rfl, Option.some.inj e⟩
theorem VRs.get' {vals : List Value} {vs : List V} (h : VRs vals vs) {i : Nat} {val : Value} (hv : vals[i]? = some val) : ∃ v, vs[i]? = some v ∧ vOf val = some v := by
  have e : (vals.map vOf)[i]? = (vs.map some)[i]? := by rw [h]
  rw [List.getElem?_map, List.getElem?_map, hv] at e
  cases hx : vs[i]? with
  | none => rw [hx] at e; cases e
  | some v => rw [hx] at e; exact ⟨v, rfl, Option.some.inj e⟩
theorem VRs.reverse {vals : List Value} {vs : List V} (h : VRs vals vs) : VRs vals.reverse vs.reverse := by
  unfold VRs at *; simp [List.map_reverse, h]
theorem VRs.take {vals : List Value} {vs : List V} (h : VRs vals vs) (n : Nat) : VRs (vals.take n) (vs.take n) := by
  unfold VRs at *; simp [List.map_take, h]
theorem VRs.dropLast {vals : List Value} {vs : List V} (h : VRs vals vs) : VRs vals.dropLast vs.dropLast := by
  unfold VRs at *
  simp only [List.map_dropLast, h]
theorem VRs.cons_inv {vals : List Value} {v : V} {vs : List V} (h : VRs vals (v :: vs)) : ∃ a t, vals = a :: t ∧ vOf a = some v ∧ VRs t vs := by
  cases vals with
  | nil => cases h
  | cons a t => unfold VRs at h; simp at h; exact ⟨a, t, rfl, h.1, h.2⟩
theorem VRs.nil_inv {vals : List Value} (h : VRs vals []) : vals = [] := by
  cases vals with
  | nil => rfl
  | cons a t => cases h
theorem VRs.inv {a : Value} {vals : List Value} {vs : List V} (h : VRs (a :: vals) vs) : ∃ v t, vs = v :: t ∧ vOf a = some v ∧ VRs vals t := by
  cases vs with
  | nil => cases h
  | cons v t => unfold VRs at h; simp at h; exact ⟨v, t, rfl, h.1, h.2⟩

/-- pairs of a dict, read without tokens -/
noncomputable def KVs (a : List (Str × Value)) (b : List (Str × V)) : Prop := a.map (fun p => (p.1, vOf p.2)) = b.map fun p => (p.1, some p.2)

noncomputable def OIs (g : Gl) (ob : Obj) : Ab → Prop
  | .tup vs => ob.cls = .type "tuple" ∧ ∃ items n, ob.data = .seq items n ∧ VRs items.toList vs
  | .list vs => ∃ items n, ob = { cls := .type "list", data := .seq items n } ∧ VRs items.toList vs
  | .dict ep kvs => ∃ es kvs', ob = { cls := .type "dict", data := .dict es ep } ∧ KeysOf (strKind g.prog g.w) es ∧ Pairs (strKind g.prog g.w) es.toList kvs' ∧ (kvs'.map (·.1)).Nodup ∧ KVs kvs' kvs
  | .inst d => ob = instObj g.cls d

noncomputable def Objs (g : Gl) (hp : Hp) (s : Shared) : Prop := ∀ x o, hp x = some o → ∃ ob, s.heap.get? x = some ob ∧ OIs g ob o

structure HRep (g : Gl) (a : Act) (hp : Hp) (s : Shared) : Prop where
  obj : Objs g hp s
  frm : ∃ m, Fr a.h₀ a.L s.heap m
  nL : hp a.L = none
  old : ∀ b o, a.h₀.get? b = some o → hp b = none
  scr : ∃ vs, s.heap.IsList g.scrA vs.toArray ∧ IntsAre vs g.scrN
  nscr : hp g.scrA = none
  low : ∀ b, hp b ≠ none → 4 < b

/-- from (hp, s) to (hp', s'): what stands outside hp (and not among ex) is kept; hp' holds hp's and new addresses -/
structure Step (ex : List Addr) (hp : Hp) (s : Shared) (hp' : Hp) (s' : Shared) : Prop where
  keep : ∀ b o, s.heap.get? b = some o → hp b = none → b ∉ ex → s'.heap.get? b = some o
  live : ∀ b, s.heap.get? b ≠ none → hp b = none → s'.heap.get? b ≠ none
  dom : ∀ b, hp' b ≠ none → hp b ≠ none ∨ (s.heap.get? b = none ∧ 4 < b)
  gens : s'.gens = s.gens
  os : s'.os = s.os

theorem Step.refl (ex) (hp : Hp) (s : Shared) : Step ex hp s hp s := ⟨fun _ _ e _ _ => e, fun _ e _ => e, fun _ h => .inl h, rfl, rfl⟩
theorem Step.out' {ex hp s hp' s'} (S : Step ex hp s hp' s') {b : Addr} (e : s.heap.get? b ≠ none) (n : hp b = none) : hp' b = none := by
  cases h : hp' b with
  | none => rfl
  | some o' =>
    rcases S.dom b (by rw [h]; exact fun x => nomatch x) with q | q
    · exact absurd n q
    · exact absurd q.1 e
theorem Step.out {ex hp s hp' s'} (S : Step ex hp s hp' s') {b : Addr} {o : Obj} (e : s.heap.get? b = some o) (n : hp b = none) : hp' b = none :=
  S.out' (by rw [e]; exact fun x => nomatch x) n
theorem Step.trans {ex hp s hp₁ s₁ hp₂ s₂} (S : Step ex hp s hp₁ s₁) (T : Step ex hp₁ s₁ hp₂ s₂) : Step ex hp s hp₂ s₂ where
  keep := fun b o e n x => T.keep b o (S.keep b o e n x) (S.out e n) x
  live := fun b e n => T.live b (S.live b e n) (S.out' e n)
  dom := fun b h => by
    rcases T.dom b h with q | q
    · exact S.dom b q
    · by_cases n : hp b = none
      · by_cases e : s.heap.get? b = none
        · exact .inr ⟨e, q.2⟩
        · exact absurd q.1 (S.live b e n)
      · exact .inl n
  gens := T.gens.trans S.gens
  os := T.os.trans S.os
theorem Step.weaken {ex hp s hp' s'} (S : Step [] hp s hp' s') : Step ex hp s hp' s' :=
  ⟨fun b o e n _ => S.keep b o e n (fun h => nomatch h), S.live, S.dom, S.gens, S.os⟩
/-- same abstract heap; the real heap keeps everything -/
theorem Step.kept {ex hp} {s s' : Shared} (k : ∀ b o, s.heap.get? b = some o → s'.heap.get? b = some o) (hg : s'.gens = s.gens) (ho : s'.os = s.os) : Step ex hp s hp s' :=
  ⟨fun b o e _ _ => k b o e, fun b e _ => (by
    cases q : s.heap.get? b with
    | none => exact absurd q e
    | some o => rw [k b o q]; exact fun x => nomatch x), fun _ h => Or.inl h, hg, ho⟩

theorem Objs.kept {g hp} {s s' : Shared} (O : Objs g hp s) (k : ∀ b o, s.heap.get? b = some o → s'.heap.get? b = some o) : Objs g hp s' :=
  fun x o e => let ⟨ob, e1, e2⟩ := O x o e; ⟨ob, k x ob e1, e2⟩

theorem HRep.step {g a hp s hp' s'} (R : HRep g a hp s) (S : Step [] hp s hp' s') (O : Objs g hp' s') : HRep g a hp' s' := by
  obtain ⟨m, F⟩ := R.frm
  have kp : ∀ b o, s.heap.get? b = some o → hp b = none → s'.heap.get? b = some o := fun b o e n => S.keep b o e n (fun h => nomatch h)
  obtain ⟨oL, es, ep, hL, hLd, r⟩ := F.ns
  refine ⟨O, ⟨m, ⟨⟨oL, es, ep, kp _ _ hL R.nL, hLd, r⟩, fun b o e => kp b o (F.keep b o e) (R.old b o e), F.above⟩⟩, S.out hL R.nL, fun b o e => S.out (F.keep b o e) (R.old b o e), ?_, ?_, fun b h => (S.dom b h).elim (R.low b) (·.2)⟩
  · obtain ⟨vs, ⟨ob, h1, h2⟩, h3⟩ := R.scr
    exact ⟨vs, ⟨ob, kp _ _ h1 R.nscr, h2⟩, h3⟩
  · obtain ⟨vs, ⟨ob, h1, h2⟩, h3⟩ := R.scr
    exact S.out h1 R.nscr

theorem HRep.big {g a hp s} (R : HRep g a hp s) (Ok : a.Ok g) : 4 < s.heap.objs.size := by
  obtain ⟨m, F⟩ := R.frm
  exact Nat.lt_of_lt_of_le (Nat.succ_lt_succ (Nat.lt_of_lt_of_le (Ok.top.g.lt : 3 < a.h₀.objs.size) F.above)) F.ns.lt

/-! ## environments -/
noncomputable abbrev Loc := List (Option V)
noncomputable def look (ρ : Loc) (i : Nat) : Option V := (ρ[i]?).join

structure EnvOk (env : Env) (sc : Scope) (nm : List Str) (ρ : Loc) (hp : Hp) (s : Shared) : Prop where
  hsc : env.scope = sc
  kind : sc.kind = .function
  glob : env.globals = mainGlobals
  blt : env.builtins = builtinsNs
  len : ρ.length = nm.length
  nd : nm.Nodup
  nL : hp env.locals = none
  ns : ∃ m, s.heap.Ns env.locals m ∧ ∀ i x v, nm[i]? = some x → look ρ i = some v → sc.names.lookup x = some .local → ∃ val, m x = some val ∧ vOf val = some v
  cl : ∀ i x, nm[i]? = some x → sc.names.lookup x = some .cell → ∃ c o v₀, env.cells.lookup x = some c ∧ c ≠ env.locals ∧ hp c = none ∧ s.heap.get? c = some o ∧ o.data = .cell v₀ ∧
    ∀ v, look ρ i = some v → ∃ val, v₀ = some val ∧ vOf val = some v
  inj : ∀ x y c, env.cells.lookup x = some c → env.cells.lookup y = some c → x = y
  cex : ∀ x c, env.cells.lookup x = some c → ∃ o v₀, s.heap.get? c = some o ∧ o.data = .cell v₀ ∧ hp c = none

theorem EnvOk.step {env sc nm ρ hp s hp' s'} (E : EnvOk env sc nm ρ hp s) (S : Step [] hp s hp' s') : EnvOk env sc nm ρ hp' s' := by
  have kp : ∀ b o, s.heap.get? b = some o → hp b = none → s'.heap.get? b = some o := fun b o e n => S.keep b o e n (fun h => nomatch h)
  obtain ⟨m, ⟨oL, es, ep, hL, r⟩, hm⟩ := E.ns
  refine ⟨E.hsc, E.kind, E.glob, E.blt, E.len, E.nd, S.out hL E.nL, ⟨m, ⟨oL, es, ep, kp _ _ hL E.nL, r⟩, hm⟩, fun i x hi hx => ?_, E.inj, fun x c h => ?_⟩
  · obtain ⟨c, o, v₀, h1, h2, h3, h4, h5, h6⟩ := E.cl i x hi hx
    exact ⟨c, o, v₀, h1, h2, S.out h4 h3, kp _ _ h4 h3, h5, h6⟩
  · obtain ⟨o, v₀, h1, h2, h3⟩ := E.cex x c h
    exact ⟨o, v₀, kp _ _ h1 h3, h2, S.out h1 h3⟩

/-! ## what the transformers mean -/
noncomputable abbrev EV := Loc → Hp → (V → Hp → Prop) → Prop
noncomputable abbrev ST := Loc → Hp → (Loc → Hp → Prop) → (V → Hp → Prop) → Prop

noncomputable def EPost (g : Gl) (hp : Hp) (s : Shared) (Q : V → Hp → Prop) (val : Value) (s' : Shared) : Prop :=
  ∃ v hp', Step [] hp s hp' s' ∧ Objs g hp' s' ∧ vOf val = some v ∧ Q v hp'

noncomputable def SoundE (g : Gl) (n : Nat) (sc : Scope) (nm : List Str) (e : Expr) (f : EV) : Prop :=
  ∀ (a : Act) (A : Around) (env : Env) (ρ : Loc) (hp : Hp) (s : Shared) (Q : V → Hp → Prop) (E : Value → Shared → Prop),
    a.Ok g → AOk a n A → EnvOk env sc nm ρ hp s → HRep g a hp s → f ρ hp Q → wpAny g.M A (eval e env) (EPost g hp s Q) E s

/-- as a test -/
noncomputable def BPost (g : Gl) (hp : Hp) (s : Shared) (Q : Bool → Hp → Prop) (b : Bool) (s' : Shared) : Prop :=
  ∃ hp', Step [] hp s hp' s' ∧ Objs g hp' s' ∧ Q b hp'
noncomputable abbrev BV := Loc → Hp → (Bool → Hp → Prop) → Prop
noncomputable def SoundB (g : Gl) (n : Nat) (sc : Scope) (nm : List Str) (e : Expr) (f : BV) : Prop :=
  ∀ (a : Act) (A : Around) (env : Env) (ρ : Loc) (hp : Hp) (s : Shared) (Q : Bool → Hp → Prop) (E : Value → Shared → Prop),
    a.Ok g → AOk a n A → EnvOk env sc nm ρ hp s → HRep g a hp s → f ρ hp Q → wpAny g.M A (isTrue e env (eval e env)) (BPost g hp s Q) E s

structure FOk (a : Act) : Prop where
  loc : a.fenv.locals = a.L
  cells : ∀ x c, a.fenv.cells.lookup x = some c → a.L < c

noncomputable def own (env : Env) : List Addr := env.locals :: env.cells.filterMap fun p => env.cells.lookup p.1
theorem lookup_mem {α β : Type} [BEq α] [LawfulBEq α] : ∀ {l : List (α × β)} {x : α} {c : β}, l.lookup x = some c → (x, c) ∈ l
  | (y, d) :: r, x, c, h => by
    rw [List.lookup_cons] at h
    cases e : x == y with
    | true => rw [e] at h; cases h; rw [eq_of_beq e]; exact .head _
    | false => rw [e] at h; exact .tail _ (lookup_mem h)
theorem mem_own {env : Env} {c : Addr} : c ∈ own env ↔ c = env.locals ∨ ∃ x, env.cells.lookup x = some c := by
  unfold own
  rw [List.mem_cons, List.mem_filterMap]
  exact ⟨fun h => h.imp id fun ⟨p, _, e⟩ => ⟨p.1, e⟩, fun h => h.imp id fun ⟨x, e⟩ => ⟨(x, c), lookup_mem e, e⟩⟩

noncomputable def SPost (g : Gl) (a : Act) (env : Env) (sc : Scope) (nm : List Str) (hp : Hp) (s : Shared) (N : Loc → Hp → Prop) (R : V → Hp → Prop) (fl : Flow) (s' : Shared) : Prop :=
  match fl with
  | .next => ∃ ρ' hp', Step (own env) hp s hp' s' ∧ HRep g a hp' s' ∧ EnvOk env sc nm ρ' hp' s' ∧ N ρ' hp'
  | .ret val => ∃ v hp', Step (own env) hp s hp' s' ∧ Objs g hp' s' ∧ vOf val = some v ∧ R v hp'
  | _ => False

noncomputable def SoundS (g : Gl) (n : Nat) (sc : Scope) (nm : List Str) (st : Stmt) (f : ST) : Prop :=
  ∀ (a : Act) (A : Around) (ρ : Loc) (hp : Hp) (s : Shared) (N : Loc → Hp → Prop) (R : V → Hp → Prop) (E : Value → Shared → Prop),
    a.Ok g → AOk a n A → FOk a → EnvOk a.fenv sc nm ρ hp s → HRep g a hp s → f ρ hp N R → wpAny g.M A (exec st a.fenv) (SPost g a a.fenv sc nm hp s N R) E s
noncomputable def SoundSs (g : Gl) (n : Nat) (sc : Scope) (nm : List Str) (st : List Stmt) (f : ST) : Prop :=
  ∀ (a : Act) (A : Around) (ρ : Loc) (hp : Hp) (s : Shared) (N : Loc → Hp → Prop) (R : V → Hp → Prop) (E : Value → Shared → Prop),
    a.Ok g → AOk a n A → FOk a → EnvOk a.fenv sc nm ρ hp s → HRep g a hp s → f ρ hp N R → wpAny g.M A (execs st a.fenv) (SPost g a a.fenv sc nm hp s N R) E s
end Mine
namespace Mine
open PySem PySem.W PySem.Calls PyProof.Rows

theorem Objs.there {g hp s} (O : Objs g hp s) {x} (h : hp x ≠ none) : s.heap.get? x ≠ none := by
  cases e : hp x with
  | none => exact absurd e h
  | some o => obtain ⟨ob, e1, _⟩ := O x o e; rw [e1]; exact fun x => nomatch x
theorem Objs.fresh {g hp s} (O : Objs g hp s) {D} (h : s.heap.get? D = none) : hp D = none := by
  cases e : hp D with
  | none => rfl
  | some o => obtain ⟨ob, e1, _⟩ := O D o e; rw [h] at e1; cases e1
theorem size_none (h : Heap) : h.get? h.objs.size = none := by
  cases q : h.get? h.objs.size with
  | none => rfl
  | some o => exact absurd (Heap.lt_size q) (Nat.lt_irrefl _)

theorem Step.alloc {ex hp} {s s' : Shared} {D : Addr} {o : Ab} (hD : s.heap.get? D = none) (hz : 4 < D)
    (k : ∀ b o, s.heap.get? b = some o → s'.heap.get? b = some o) (hg : s'.gens = s.gens) (ho : s'.os = s.os) : Step ex hp s (hp.set D o) s' where
  keep := fun b o e _ _ => k b o e
  live := fun b e _ => by
    cases q : s.heap.get? b with
    | none => exact absurd q e
    | some o => rw [k b o q]; exact fun x => nomatch x
  dom := fun b h => by
    by_cases e : b = D
    · subst e; exact .inr ⟨hD, hz⟩
    · rw [Hp.set_ne _ _ e] at h; exact .inl h
  gens := hg
  os := ho
theorem Objs.alloc {g hp} {s s' : Shared} (O : Objs g hp s) {D : Addr} {o : Ab} {ob : Obj} (hD : s.heap.get? D = none)
    (k : ∀ b o, s.heap.get? b = some o → s'.heap.get? b = some o) (h1 : s'.heap.get? D = some ob) (h2 : OIs g ob o) : Objs g (hp.set D o) s' := fun x o' e => by
  by_cases q : x = D
  · subst q; rw [Hp.set_same] at e; cases e; exact ⟨ob, h1, h2⟩
  · rw [Hp.set_ne _ _ q] at e; obtain ⟨ob', e1, e2⟩ := O x o' e; exact ⟨ob', k _ _ e1, e2⟩
theorem Step.upd {ex hp} {s s' : Shared} {d : Addr} {o : Ab} (hd : hp d ≠ none)
    (k : ∀ b, b ≠ d → s'.heap.get? b = s.heap.get? b) (hg : s'.gens = s.gens) (ho : s'.os = s.os) : Step ex hp s (hp.set d o) s' where
  keep := fun b o e n _ => by
    have : b ≠ d := fun q => hd (q ▸ n)
    rw [k b this]; exact e
  live := fun b e n => by
    have : b ≠ d := fun q => hd (q ▸ n)
    rw [k b this]; exact e
  dom := fun b h => by
    by_cases e : b = d
    · subst e; exact .inl hd
    · rw [Hp.set_ne _ _ e] at h; exact .inl h
  gens := hg
  os := ho
theorem Objs.upd {g hp} {s s' : Shared} (O : Objs g hp s) {d : Addr} {o : Ab} {ob : Obj}
    (k : ∀ b, b ≠ d → s'.heap.get? b = s.heap.get? b) (h1 : s'.heap.get? d = some ob) (h2 : OIs g ob o) : Objs g (hp.set d o) s' := fun x o' e => by
  by_cases q : x = d
  · subst q; rw [Hp.set_same] at e; cases e; exact ⟨ob, h1, h2⟩
  · rw [Hp.set_ne _ _ q] at e; obtain ⟨ob', e1, e2⟩ := O x o' e; exact ⟨ob', by rw [k x q]; exact e1, e2⟩

theorem EPost.comp {g hp s hp₁ s₁ Q val s'} (S : Step [] hp s hp₁ s₁) (h : EPost g hp₁ s₁ Q val s') : EPost g hp s Q val s' := by
  obtain ⟨v, hp', T, O, e, q⟩ := h
  exact ⟨v, hp', S.trans T, O, e, q⟩
theorem BPost.comp {g hp s hp₁ s₁ Q val s'} (S : Step [] hp s hp₁ s₁) (h : BPost g hp₁ s₁ Q val s') : BPost g hp s Q val s' := by
  obtain ⟨hp', T, O, q⟩ := h
  exact ⟨hp', S.trans T, O, q⟩
/-- a value, the heap as it was (or kept and grown by things that nobody names) -/
theorem EPost.val {g hp} {s s' : Shared} {Q : V → Hp → Prop} {val v} (O : Objs g hp s) (k : ∀ b o, s.heap.get? b = some o → s'.heap.get? b = some o) (hg : s'.gens = s.gens) (ho : s'.os = s.os)
    (hv : vOf val = some v) (q : Q v hp) : EPost g hp s Q val s' := ⟨v, hp, Step.kept k hg ho, O.kept k, hv, q⟩
theorem EPost.tok {g hp} {s : Shared} {k : Nat} {Q : V → Hp → Prop} {val v} (O : Objs g hp s) (hv : vOf val = some v) (q : Q v hp) : EPost g hp s Q val { s with toks := k } :=
  EPost.val O (fun _ _ e => e) rfl rfl hv q
theorem EPost.here {g hp} {s : Shared} {Q : V → Hp → Prop} {val v} (O : Objs g hp s) (hv : vOf val = some v) (q : Q v hp) : EPost g hp s Q val s :=
  EPost.val O (fun _ _ e => e) rfl rfl hv q
/-- a new object at the heap's end -/
theorem EPost.new {g hp} {s : Shared} {k : Nat} {Q : V → Hp → Prop} {ob : Obj} {o : Ab} (O : Objs g hp s) (hz : 4 < s.heap.objs.size) (hf : ob.isFreed = false) (h2 : OIs g ob o)
    (q : Q (.ref s.heap.objs.size) (hp.set s.heap.objs.size o)) : EPost g hp s Q (.ref s.heap.objs.size) { s with heap := s.heap.push ob, toks := k } := by
  have kk : ∀ b o, s.heap.get? b = some o → (s.heap.push ob).get? b = some o := fun b o e => Heap.get?_push_of_some _ e
  exact ⟨_, _, Step.alloc (size_none _) hz kk rfl rfl, O.alloc (size_none _) kk (Heap.get?_push_size _ hf) h2, rfl, q⟩

theorem vOf_ref {val : Value} {x : Addr} (h : vOf val = some (.ref x)) : val = .ref x := by
  cases val <;> simp [vOf] at h; exact congrArg _ h
theorem vOf_int {val : Value} {i : Int} (h : vOf val = some (.int i)) : ∃ t, val = .int i t := by
  cases val <;> simp [vOf] at h; subst h; exact ⟨_, rfl⟩
theorem vOf_str {val : Value} {x : Str} (h : vOf val = some (.str x)) : ∃ t, val = .str x t := by
  cases val <;> simp [vOf] at h; subst h; exact ⟨_, rfl⟩
theorem vOf_bool {val : Value} {b : Bool} (h : vOf val = some (.bool b)) : val = .bool b := by
  cases val <;> simp [vOf] at h; exact congrArg _ h
theorem vOf_none {val : Value} (h : vOf val = some .none) : val = .none := by
  cases val <;> simp [vOf] at h; rfl

/-! ## constants, names -/
noncomputable def cC (v : V) : EV := fun _ hp Q => Q v hp
noncomputable def cV (i : Nat) : EV := fun ρ hp Q => match look ρ i with | some v => Q v hp | none => False

section
variable {g : Gl} {n : Nat} {sc : Scope} {nm : List Str}
theorem s_int {i k pos} : SoundE g n sc nm (.Constant (.int i) k pos) (cC (.int i)) := fun a A env ρ hp s Q E _ _ _ R h =>
  wpAny_Constant_int (EPost.tok R.obj rfl h)
theorem s_str {x : Str} {k pos} : SoundE g n sc nm (.Constant (.str x) k pos) (cC (.str x)) := fun a A env ρ hp s Q E _ _ _ R h =>
  Constant_str (EPost.tok R.obj rfl h)
theorem s_bool {b k pos} : SoundE g n sc nm (.Constant (.bool b) k pos) (cC (.bool b)) := fun a A env ρ hp s Q E _ _ _ R h => fun _ _ _ =>
  (EPost.here R.obj (val := .bool b) rfl h : EPost g hp s Q (.bool b) s)
theorem s_none {k pos} : SoundE g n sc nm (.Constant .none k pos) (cC .none) := fun a A env ρ hp s Q E _ _ _ R h => fun _ _ _ =>
  (EPost.here R.obj (val := .none) rfl h : EPost g hp s Q .none s)

noncomputable def nmOk (nm : List Str) : Bool := nm.all fun x => !(x == ("__debug__" : Str))

theorem s_name {i : Nat} {x : Str} {pos} (hd : (x == ("__debug__" : Str)) = false) (hi : nm[i]? = some x) (hk : sc.names.lookup x = some .local ∨ sc.names.lookup x = some .cell) :
    SoundE g n sc nm (.Name x pos) (cV i) := fun a A env ρ hp s Q E _ _ V R h => by
  unfold cV at h
  cases hl : look ρ i with
  | none => rw [hl] at h; exact h.elim
  | some v =>
    rw [hl] at h
    have hkind : env.scope.kind = .function := by rw [V.hsc]; exact V.kind
    refine wpAny_Name ?_ hd
    rcases hk with hk | hk
    · obtain ⟨m, hn, hm⟩ := V.ns
      obtain ⟨val, h1, h2⟩ := hm i x v hi hl hk
      exact wpAny_loadName_local hkind (by rw [Env.kindOf, V.hsc]; exact hk) hn h1 (EPost.here R.obj h2 h)
    · obtain ⟨c, o, v₀, h1, h2, h3, h4, h5, h6⟩ := V.cl i x hi hk
      obtain ⟨val, rfl, h7⟩ := h6 v hl
      exact wpAny_loadName_cell hkind (by rw [Env.kindOf, V.hsc]; exact hk) h1 ⟨o, h4, h5⟩ (EPost.here R.obj h7 h)

/-! ## two operands -/
theorem eval2 {e₁ e₂ : Expr} {f₁ f₂ : EV} (h₁ : SoundE g n sc nm e₁ f₁) (h₂ : SoundE g n sc nm e₂ f₂) {a : Act} {A : Around} {env : Env} {ρ : Loc} {hp : Hp} {s : Shared} {P : V → V → Hp → Prop} {T : Value → Value → Shared → Prop} {E : Value → Shared → Prop}
    (Ok : a.Ok g) (AO : AOk a n A) (V : EnvOk env sc nm ρ hp s) (R : HRep g a hp s) (h : f₁ ρ hp fun x hp₁ => f₂ ρ hp₁ fun y hp₂ => P x y hp₂)
    (k : ∀ va vb x y hp₂ s₂, Step [] hp s hp₂ s₂ → HRep g a hp₂ s₂ → EnvOk env sc nm ρ hp₂ s₂ → vOf va = some x → vOf vb = some y → P x y hp₂ → T va vb s₂) :
    wpAny g.M A (eval e₁ env) (fun va s₁ => wpAny g.M A (eval e₂ env) (fun vb s₂ => T va vb s₂) E s₁) E s := by
  refine wpAny_mono (h₁ a A env ρ hp s _ E Ok AO V R h) (fun va s₁ q => ?_) fun _ _ x => x
  obtain ⟨x, hp₁, S₁, O₁, e₁, q⟩ := q
  have R₁ := R.step S₁ O₁
  have V₁ := V.step S₁
  refine wpAny_mono (h₂ a A env ρ hp₁ s₁ _ E Ok AO V₁ R₁ q) (fun vb s₂ q => ?_) fun _ _ x => x
  obtain ⟨y, hp₂, S₂, O₂, e₂, q⟩ := q
  exact k va vb x y hp₂ s₂ (S₁.trans S₂) (R₁.step S₂ O₂) (V₁.step S₂) e₁ e₂ q
end
end Mine
namespace Mine
open PySem PySem.W PySem.Calls PyProof.Rows

/-! ## reading structured data -/
mutual
inductive Rd (hp : Hp) : V → PyData → Prop
  | none : Rd hp .none .none
  | bool (b) : Rd hp (.bool b) (.bool b)
  | int (i) : Rd hp (.int i) (.int i)
  | str (x) : Rd hp (.str x) (.str x)
  | list {x vs ds} : hp x = some (.list vs) → RdAll hp vs ds → Rd hp (.ref x) (.list ds)
  | tup {x vs ds} : hp x = some (.tup vs) → RdAll hp vs ds → Rd hp (.ref x) (.tuple ds)
inductive RdAll (hp : Hp) : List V → List PyData → Prop
  | nil : RdAll hp [] []
  | cons {v vs d ds} : Rd hp v d → RdAll hp vs ds → RdAll hp (v :: vs) (d :: ds)
end

section
variable {g : Gl} {hp : Hp} {s : Shared} (O : Objs g hp s)
include O
mutual
theorem Rd.reads : ∀ {v : V} {d : PyData}, Rd hp v d → ∀ {val : Value}, vOf val = some v → ∃ as, Reads s.heap val d as
  | _, _, .none, val, e => by rw [vOf_none e]; exact ⟨_, .none⟩
  | _, _, .bool b, val, e => by rw [vOf_bool e]; exact ⟨_, .bool b⟩
  | _, _, .int i, val, e => by obtain ⟨t, rfl⟩ := vOf_int e; exact ⟨_, .int i t⟩
  | _, _, .str i, val, e => by obtain ⟨t, rfl⟩ := vOf_str e; exact ⟨_, .str i t⟩
  | _, _, .list hx r, val, e => by
    obtain rfl := vOf_ref e
    obtain ⟨ob, h1, items, n, rfl, hv⟩ := O _ _ hx
    obtain ⟨as, ha⟩ := RdAll.reads r hv
    exact ⟨_, .list h1 rfl rfl ha⟩
  | _, _, .tup hx r, val, e => by
    obtain rfl := vOf_ref e
    obtain ⟨ob, h1, hc, items, n, hd, hv⟩ := O _ _ hx
    obtain ⟨as, ha⟩ := RdAll.reads r hv
    exact ⟨_, .tuple h1 hc hd ha⟩
theorem RdAll.reads : ∀ {vs : List V} {ds : List PyData}, RdAll hp vs ds → ∀ {vals : List Value}, VRs vals vs → ∃ as, ReadsAll s.heap vals ds as
  | _, _, .nil, vals, e => by rw [e.nil_inv]; exact ⟨_, .nil⟩
  | _, _, .cons h t, vals, e => by
    obtain ⟨a, r, rfl, e1, e2⟩ := e.cons_inv
    obtain ⟨as, ha⟩ := Rd.reads h e1
    obtain ⟨bs, hb⟩ := RdAll.reads t e2
    exact ⟨_, .cons ha hb⟩
end
end

/-! ## lists of expressions -/
noncomputable def cAll : List EV → Loc → Hp → (List V → Hp → Prop) → Prop
  | [], _, hp, Q => Q [] hp
  | f :: fs, ρ, hp, Q => f ρ hp fun v hp₁ => cAll fs ρ hp₁ fun vs hp₂ => Q (v :: vs) hp₂

noncomputable def PlainX (e : Expr) : Prop := ∀ env rest, starEach (e :: rest) env = (false, eval e env) :: starEach rest env

inductive SL (g : Gl) (n : Nat) (sc : Scope) (nm : List Str) : List Expr → List EV → Prop
  | nil : SL g n sc nm [] []
  | cons {e f es fs} : SoundE g n sc nm e f → PlainX e → SL g n sc nm es fs → SL g n sc nm (e :: es) (f :: fs)

section
variable {g : Gl} {n : Nat} {sc : Scope} {nm : List Str}

theorem SL.starPlain {es fs} (h : SL g n sc nm es fs) (env : Env) (pos : Pos) : (backTo pos (starEach es env)).any (·.1) = false := by
  induction h with
  | nil => rfl
  | cons h p t ih => rw [p]; simpa [backTo] using ih

noncomputable def LPost (g : Gl) (k : Nat) (hp : Hp) (s : Shared) (Q : List V → Hp → Prop) (vals : List Value) (s' : Shared) : Prop :=
  ∃ vs hp', Step [] hp s hp' s' ∧ Objs g hp' s' ∧ VRs vals vs ∧ vals.length = k ∧ Q vs hp'

theorem spliced_all {es fs} (h : SL g n sc nm es fs) : ∀ {a : Act} {A : Around} {env : Env} {ρ : Loc} {hp : Hp} {s : Shared} {Q : List V → Hp → Prop} {E : Value → Shared → Prop} {pos : Pos},
    a.Ok g → AOk a n A → EnvOk env sc nm ρ hp s → HRep g a hp s → cAll fs ρ hp Q → wpAny g.M A (spliced (backTo pos (starEach es env))) (LPost g es.length hp s Q) E s := by
  induction h with
  | nil =>
    intro a A env ρ hp s Q E pos Ok AO V R q
    exact Calls.spliced_nil ⟨[], hp, Step.refl _ _ _, R.obj, .nil, rfl, q⟩
  | @cons e f es fs h p t ih =>
    intro a A env ρ hp s Q E pos Ok AO V R q
    rw [p]
    refine Calls.spliced_cons ?_
    refine wpAny_mono (h a A env ρ hp s _ E Ok AO V R q) (fun va s₁ q => ?_) fun _ _ x => x
    obtain ⟨x, hp₁, S₁, O₁, e₁, q⟩ := q
    have R₁ := R.step S₁ O₁
    refine wpAny_mono (ih Ok AO (V.step S₁) R₁ q) (fun vals s₂ q => ?_) fun _ _ x => x
    obtain ⟨vs, hp₂, S₂, O₂, e₂, hl, q⟩ := q
    exact ⟨x :: vs, hp₂, S₁.trans S₂, O₂, .cons e₁ e₂, by simp [hl], q⟩

noncomputable def cTup (fs : List EV) : EV := fun ρ hp Q => cAll fs ρ hp fun vs hp' => ∀ D, hp' D = none → Q (.ref D) (hp'.set D (.tup vs))
noncomputable def cList (fs : List EV) : EV := fun ρ hp Q => cAll fs ρ hp fun vs hp' => ∀ D, hp' D = none → Q (.ref D) (hp'.set D (.list vs))

theorem s_tup {es fs k pos} (h : SL g n sc nm es fs) (hl : es.length ≤ 100 := by decide) : SoundE g n sc nm (.Tuple es k pos) (cTup fs) := fun a A env ρ hp s Q E Ok AO V R q => by
  refine Tuple_ (wpAny_mono (spliced_all h Ok AO V R q) (fun vals s₁ x => ?_) fun _ _ x => x)
  obtain ⟨vs, hp₁, S₁, O₁, e₁, hn, q⟩ := x
  refine wpAny_newObj_type (EPost.comp S₁ (EPost.new (o := .tup vs) O₁ ((R.step S₁ O₁).big Ok) rfl ⟨rfl, _, _, rfl, by simpa using e₁⟩ (q _ (O₁.fresh (size_none _))))) ?_
  show vals.toArray.size ≤ sizeLine
  rw [List.size_toArray, hn, sizeLine_eq]; lia
theorem s_list {es fs pos} (h : SL g n sc nm es fs) (hl : es.length ≤ 100 := by decide) : SoundE g n sc nm (.List es pos) (cList fs) := fun a A env ρ hp s Q E Ok AO V R q => by
  refine List_ (wpAny_mono (spliced_all h Ok AO V R q) (fun vals s₁ x => ?_) fun _ _ x => x)
  obtain ⟨vs, hp₁, S₁, O₁, e₁, hn, q⟩ := x
  refine wpAny_newObj_type (EPost.comp S₁ (EPost.new (o := .list vs) O₁ ((R.step S₁ O₁).big Ok) rfl ⟨_, _, rfl, by simpa using e₁⟩ (q _ (O₁.fresh (size_none _))))) ?_
  show vals.toArray.size ≤ sizeLine
  rw [List.size_toArray, hn, sizeLine_eq]; lia

/-! ## subscripts -/
noncomputable def BIG : Int := 4611686018427387904
noncomputable def opSub (a b : V) (hp : Hp) (Q : V → Hp → Prop) : Prop := match a, b with
  | .ref x, .int i => match hp x with
    | some (.tup vs) => 0 ≤ i ∧ i < BIG ∧ (match vs[i.toNat]? with | some v => Q v hp | none => False)
    | some (.list vs) => 0 ≤ i ∧ i < BIG ∧ (match vs[i.toNat]? with | some v => Q v hp | none => False)
    | _ => False
  | .ref x, .str k => match hp x with
    | some (.dict _ es) => (match es.lookup k with | some v => Q v hp | none => False)
    | _ => False
  | _, _ => False
noncomputable def cSub (f₁ f₂ : EV) : EV := fun ρ hp Q => f₁ ρ hp fun a hp₁ => f₂ ρ hp₁ fun b hp₂ => opSub a b hp₂ Q

theorem IsTup.of {g : Gl} {ob : Obj} {h : Heap} {x : Addr} {vs} (e : h.get? x = some ob) (o : OIs g ob (.tup vs)) : ∃ items, IsTup h x items ∧ VRs items.toList vs := by
  obtain ⟨hc, items, n, hd, hv⟩ := o
  exact ⟨items, ⟨ob, e, hc, n, hd⟩, hv⟩
theorem IsList.of {g : Gl} {ob : Obj} {h : Heap} {x : Addr} {vs} (e : h.get? x = some ob) (o : OIs g ob (.list vs)) : ∃ items, h.PlainList x items ∧ VRs items.toList vs := by
  obtain ⟨items, n, rfl, hv⟩ := o
  exact ⟨items, ⟨n, e⟩, hv⟩
theorem DictAt.of {g : Gl} {ob : Obj} {h : Heap} {x : Addr} {ep kvs} (e : h.get? x = some ob) (o : OIs g ob (.dict ep kvs)) : ∃ kvs', h.DictAt (strKind g.prog g.w) x kvs' ep ∧ KVs kvs' kvs := by
  obtain ⟨es, kvs', rfl, h1, h2, h3, h4⟩ := o
  exact ⟨kvs', ⟨_, es, e, ⟨rfl, rfl, rfl⟩, rfl, h1, h2, h3⟩, h4⟩
theorem KVs.lookup : ∀ {a : List (Str × Value)} {b : List (Str × V)}, KVs a b → ∀ k, (valueAt a k).map vOf = (b.lookup k).map some
  | [], [], _, k => rfl
  | (x, v) :: a, (y, u) :: b, h, k => by
    unfold KVs at h
    simp only [List.map_cons, List.cons.injEq, Prod.mk.injEq] at h
    obtain ⟨⟨rfl, h1⟩, h2⟩ := h
    have ih := KVs.lookup (a := a) (b := b) h2 k
    unfold valueAt at ih ⊢
    by_cases e : x = k
    · subst e
      simp [h1]
    · have e' : (k == x) = false := by simpa using fun q : k = x => e q.symm
      rw [List.find?_cons_of_neg (by simpa using e), List.lookup_cons, e']; exact ih
  | [], _ :: _, h, _ => by cases h
  | _ :: _, [], h, _ => by cases h
theorem KVs.get {a : List (Str × Value)} {b : List (Str × V)} (h : KVs a b) {k : Str} {v : V} (e : b.lookup k = some v) : ∃ val, valueAt a k = some val ∧ vOf val = some v := by
  have := h.lookup k
  rw [e] at this
  cases q : valueAt a k with
  | none => rw [q] at this; cases this
  | some val => rw [q] at this; exact ⟨val, rfl, Option.some.inj this⟩
theorem KVs.length {a : List (Str × Value)} {b : List (Str × V)} (h : KVs a b) : a.length = b.length := by
  have := congrArg List.length h; simpa using this
theorem KVs.keys {a : List (Str × Value)} {b : List (Str × V)} (h : KVs a b) : a.map (·.1) = b.map (·.1) := by
  have := congrArg (List.map (·.1)) h
  simpa [List.map_map, Function.comp_def] using this

theorem opSub_sound {a b : V} {hp : Hp} {Q : V → Hp → Prop} {s : Shared} {A : Around} {E : Value → Shared → Prop} {va vb : Value} {value slice : Expr} (O : Objs g hp s) (ea : vOf va = some a) (eb : vOf vb = some b)
    (hs : ∀ o i, ∃ ops, subscripted slice false o i = operate ops (getItem o i)) (h : opSub a b hp Q) : wpAny g.M A (subscriptTail value slice va vb) (EPost g hp s Q) E s := by
  unfold opSub at h
  split at h
  · rename_i x i
    obtain rfl := vOf_ref ea
    obtain ⟨t, rfl⟩ := vOf_int eb
    split at h
    · rename_i vs hx
      obtain ⟨h0, h1, h⟩ := h
      split at h
      · rename_i v hv
        obtain ⟨ob, e1, e2⟩ := O _ _ hx
        obtain ⟨items, ht, hr⟩ := IsTup.of e1 e2
        obtain ⟨val, g1, g2⟩ := hr.get hv
        have hlt : i.toNat < items.size := by
          have := (List.getElem?_eq_some_iff.mp g1).1; simpa using this
        have hidx : seqIndex? i items.size = some i.toNat := by
          have hn : ¬ i < 0 := Int.not_lt.mpr h0
          have h2 : (decide (0 ≤ i) && decide (i < (items.size : Int))) = true := by
            rw [Bool.and_eq_true, decide_eq_true_eq, decide_eq_true_eq]; lia
          simp only [seqIndex?, hn, if_false, h2, if_true]
        refine tail_any ht.typeIs slot_tuple_getitem.lookup (getItem_tuple ht (by simp only [BIG] at h1; lia) (by simp only [BIG] at h1; lia) hidx (by simpa using g1) (EPost.here O g2 h)) (hs _ _).choose_spec
      · exact h.elim
    · rename_i vs hx
      obtain ⟨h0, h1, h⟩ := h
      split at h
      · rename_i v hv
        obtain ⟨ob, e1, e2⟩ := O _ _ hx
        obtain ⟨items, ht, hr⟩ := IsList.of e1 e2
        obtain ⟨val, g1, g2⟩ := hr.get hv
        refine tail_any ht.isList.typeIs slot_list_getitem.lookup (wpAny_getItem_list ht.isList h0 (by simp only [BIG] at h1; lia) (by simpa using g1) (EPost.here O g2 h)) (hs _ _).choose_spec
      · exact h.elim
    · exact h.elim
  · rename_i x k
    obtain rfl := vOf_ref ea
    obtain ⟨t, rfl⟩ := vOf_str eb
    split at h
    · rename_i ep es hx
      split at h
      · rename_i v hv
        obtain ⟨ob, e1, e2⟩ := O _ _ hx
        obtain ⟨kvs', ht, hr⟩ := DictAt.of e1 e2
        obtain ⟨val, g1, g2⟩ := hr.get hv
        refine tail_any ht.dictOf.typeIs slot_dict_getitem.lookup (wpAny_getItem_of (strKind_is _ _ k t) ht.dictOf.mapOf g1 (EPost.tok O g2 h)) (hs _ _).choose_spec
      · exact h.elim
    · exact h.elim
  · exact h.elim

theorem s_sub {e₁ e₂ f₁ f₂ pos} (h₁ : SoundE g n sc nm e₁ f₁) (h₂ : SoundE g n sc nm e₂ f₂) (hs : ∀ o i, ∃ ops, subscripted e₂ false o i = operate ops (getItem o i) := by exact fun _ _ => ⟨_, rfl⟩) :
    SoundE g n sc nm (.Subscript e₁ e₂ pos) (cSub f₁ f₂) := fun a A env ρ hp s Q E Ok AO V R q => by
  refine Subscript_ (eval2 h₁ h₂ Ok AO V R q fun va vb x y hp₂ s₂ S R₂ V₂ ea eb P => ?_)
  exact wpAny_mono (opSub_sound R₂.obj ea eb hs P) (fun _ _ q => EPost.comp S q) fun _ _ x => x
end
end Mine
namespace Mine
open PySem PySem.W PySem.Calls PyProof.Rows

/-! ## comparisons -/
noncomputable def inData (b : V) (a : V) (hp : Hp) (neg : Bool) (Q : Bool → Prop) : Prop :=
  ∃ d ds, Rd hp a d ∧ (Rd hp b (.list ds) ∨ Rd hp b (.tuple ds)) ∧ PyData.canLayAll0 ds = true ∧ SeqAt.shaped d = true ∧ Q (xor neg (ds.any fun y => PyData.eqv y d))
noncomputable def cmpEq (a b : V) (hp : Hp) (Q : Bool → Prop) : Prop := match a with
  | .str x => (match b with | .str y => Q (x == y) | _ => False)
  | .int x => (match b with | .int y => Q (x == y) | _ => False)
  | .ref x => (match b with | .ref y => ∃ da db, Rd hp (.ref x) da ∧ Rd hp (.ref y) db ∧ SeqAt.shaped da = true ∧ SeqAt.shaped db = true ∧ Q (PyData.eqv da db) | _ => False)
  | _ => False
noncomputable def cmpNe (a b : V) (hp : Hp) (Q : Bool → Prop) : Prop := match a with
  | .bool x => (match b with | .bool y => Q (x != y) | _ => False)
  | .ref x => (match b with | .ref y => ∃ da db, Rd hp (.ref x) da ∧ Rd hp (.ref y) db ∧ SeqAt.shaped da = true ∧ SeqAt.shaped db = true ∧ Q (!PyData.eqv da db) | _ => False)
  | _ => False
noncomputable def cmpI (f : Int → Int → Bool) (a b : V) (Q : Bool → Prop) : Prop := match a with
  | .int x => (match b with | .int y => Q (f x y) | _ => False)
  | _ => False
noncomputable def strK (a : V) (P : Str → Prop) : Prop := match a with | .str k => P k | _ => False
noncomputable def cmpIn (neg : Bool) (a b : V) (hp : Hp) (Q : Bool → Prop) : Prop := match b with
  | .ref y => (match hp y with
      | some (.dict _ es) => strK a fun k => Q (cond neg (!(es.lookup k).isSome) (es.lookup k).isSome)
      | _ => inData (.ref y) a hp neg Q)
  | _ => False
noncomputable def opCmp (op : CmpOp) (a b : V) (hp : Hp) (Q : Bool → Prop) : Prop := match op with
  | .Eq => cmpEq a b hp Q
  | .NotEq => cmpNe a b hp Q
  | .Lt => cmpI (fun x y => decide (x < y)) a b Q
  | .Gt => cmpI (fun x y => decide (y < x)) a b Q
  | .GtE => cmpI (fun x y => decide (y ≤ x)) a b Q
  | .In => cmpIn false a b hp Q
  | .NotIn => cmpIn true a b hp Q
  | _ => False

theorem valueAt_isSome {a : List (Str × Value)} {b : List (Str × V)} (h : KVs a b) (k : Str) : (valueAt a k).isSome = (b.lookup k).isSome := by
  have := congrArg Option.isSome (h.lookup k); simpa using this

theorem opCmp_sound {g : Gl} {op : CmpOp} {a b : V} {hp : Hp} {Q : Bool → Prop} {s : Shared} {A : Around} {E : Value → Shared → Prop} {va vb : Value} (O : Objs g hp s) (hl : ∀ b, hp b ≠ none → 4 < b) (hu : A.units + 70 < cLine)
    (ea : vOf va = some a) (eb : vOf vb = some b) (h : opCmp op a b hp Q) :
    wpAny g.M A (compareOp op va vb) (fun r s' => ∃ c tk, r = .bool c ∧ s' = { s with toks := tk } ∧ Q c) E s := by
  have low : ∀ {y o}, hp y = some o → (y == sysModules) = false := fun {y o} e => by
    have := hl y (by rw [e]; exact fun x => nomatch x)
    exact beq_false_of_ne (Nat.ne_of_gt (Nat.lt_trans (by decide : (1 : Nat) < 4) this))
  have cI : ∀ f : Int → Int → Bool, cmpI f a b Q → ∃ x y, a = .int x ∧ b = .int y ∧ Q (f x y) := fun f h => by
    cases a with
    | int x => cases b with
      | int y => exact ⟨x, y, rfl, rfl, h⟩
      | _ => exact False.elim h
    | _ => exact False.elim h
  have cIn : ∀ neg, cmpIn neg a b hp Q → ∃ y, b = .ref y ∧ ((∃ ep es k, hp y = some (.dict ep es) ∧ a = .str k ∧ Q (cond neg (!(es.lookup k).isSome) (es.lookup k).isSome)) ∨ inData (.ref y) a hp neg Q) := fun neg h => by
    cases b with
    | ref y =>
      refine ⟨y, rfl, ?_⟩
      revert h
      unfold cmpIn
      dsimp only
      cases hy : hp y with
      | none => exact .inr
      | some o => cases o with
        | dict ep es =>
          intro h
          cases a with
          | str k => exact .inl ⟨ep, es, k, rfl, rfl, h⟩
          | _ => exact False.elim h
        | _ => exact .inr
    | _ => exact False.elim h
  have room : ∀ {d : PyData} {ds}, SeqAt.shaped d = true → A.units + 1 + min (PyData.depthAll ds) d.depth < cLine := fun {d ds} h2 => by
    have := SeqAt.depth_of_shaped h2
    have := Nat.min_le_right (PyData.depthAll ds) d.depth
    lia
  cases op with
  | Eq =>
    replace h : cmpEq a b hp Q := h
    cases a with
    | str x => cases b with
      | str y =>
        obtain ⟨t, rfl⟩ := vOf_str ea; obtain ⟨u, rfl⟩ := vOf_str eb
        exact eq_str ⟨_, s.toks, rfl, rfl, h⟩
      | _ => exact False.elim h
    | int x => cases b with
      | int y =>
        obtain ⟨t, rfl⟩ := vOf_int ea; obtain ⟨u, rfl⟩ := vOf_int eb
        exact eq_int ⟨_, s.toks, rfl, rfl, h⟩
      | _ => exact False.elim h
    | ref x => cases b with
      | ref y =>
        obtain ⟨da, db, ra, rb, sa, sb, h⟩ := h
        obtain ⟨as, ra⟩ := ra.reads O ea
        obtain ⟨bs, rb⟩ := rb.reads O eb
        exact eq_dataH ra rb sa sb (by lia) ⟨_, s.toks, rfl, rfl, h⟩
      | _ => exact False.elim h
    | _ => exact False.elim h
  | NotEq =>
    replace h : cmpNe a b hp Q := h
    cases a with
    | bool x => cases b with
      | bool y =>
        obtain rfl := vOf_bool ea; obtain rfl := vOf_bool eb
        refine ne_dataH (Reads.bool _) (Reads.bool _) rfl rfl (by lia) ⟨_, s.toks, rfl, rfl, ?_⟩
        cases x <;> cases y <;> exact h
      | _ => exact False.elim h
    | ref x => cases b with
      | ref y =>
        obtain ⟨da, db, ra, rb, sa, sb, h⟩ := h
        obtain ⟨as, ra⟩ := ra.reads O ea
        obtain ⟨bs, rb⟩ := rb.reads O eb
        exact ne_dataH ra rb sa sb (by lia) ⟨_, s.toks, rfl, rfl, h⟩
      | _ => exact False.elim h
    | _ => exact False.elim h
  | Lt =>
    obtain ⟨x, y, rfl, rfl, h⟩ := cI _ h
    obtain ⟨t, rfl⟩ := vOf_int ea; obtain ⟨u, rfl⟩ := vOf_int eb
    exact lt_int ⟨_, s.toks, rfl, rfl, h⟩
  | Gt =>
    obtain ⟨x, y, rfl, rfl, h⟩ := cI _ h
    obtain ⟨t, rfl⟩ := vOf_int ea; obtain ⟨u, rfl⟩ := vOf_int eb
    exact gt_int ⟨_, s.toks, rfl, rfl, h⟩
  | GtE =>
    obtain ⟨x, y, rfl, rfl, h⟩ := cI _ h
    obtain ⟨t, rfl⟩ := vOf_int ea; obtain ⟨u, rfl⟩ := vOf_int eb
    exact ge_int ⟨_, s.toks, rfl, rfl, h⟩
  | In =>
    obtain ⟨y, rfl, q⟩ := cIn _ h
    clear h
    obtain ⟨ep, es, k, hy, rfl, h⟩ | ⟨d, ds, rd, rb, h1, h2, h⟩ := q
    · obtain rfl := vOf_ref eb
      obtain ⟨t, rfl⟩ := vOf_str ea
      obtain ⟨ob, e1, e2⟩ := O _ _ hy
      obtain ⟨kvs', ht, hr⟩ := DictAt.of e1 e2
      exact wpAny_in_of (strKind_is _ _ _ t) (low hy) ht.dictOf.mapOf ⟨_, _, rfl, rfl, by rw [valueAt_isSome hr]; exact h⟩
    · obtain rfl := vOf_ref eb
      obtain ⟨as, rd⟩ := rd.reads O ea
      rw [Bool.false_xor] at h
      rcases rb with rb | rb
      · obtain ⟨bs, rb⟩ := rb.reads O eb
        exact SeqAt.in_list_reads rb rd h1 (SeqAt.canLay_of_shaped h2) (room h2) ⟨_, s.toks, rfl, rfl, h⟩
      · obtain ⟨bs, rb⟩ := rb.reads O eb
        exact SeqAt.in_tuple_reads rb rd h1 (SeqAt.canLay_of_shaped h2) (room h2) ⟨_, s.toks, rfl, rfl, h⟩
  | NotIn =>
    obtain ⟨y, rfl, q⟩ := cIn _ h
    clear h
    obtain ⟨ep, es, k, hy, rfl, h⟩ | ⟨d, ds, rd, rb, h1, h2, h⟩ := q
    · obtain rfl := vOf_ref eb
      obtain ⟨t, rfl⟩ := vOf_str ea
      obtain ⟨ob, e1, e2⟩ := O _ _ hy
      obtain ⟨kvs', ht, hr⟩ := DictAt.of e1 e2
      exact wpAny_notIn_of (strKind_is _ _ _ t) (low hy) ht.dictOf.mapOf ⟨_, _, rfl, rfl, by rw [valueAt_isSome hr]; exact h⟩
    · obtain rfl := vOf_ref eb
      obtain ⟨as, rd⟩ := rd.reads O ea
      rw [Bool.true_xor] at h
      rcases rb with rb | rb
      · obtain ⟨bs, rb⟩ := rb.reads O eb
        exact SeqAt.notIn_list_reads rb rd h1 (SeqAt.canLay_of_shaped h2) (room h2) ⟨_, s.toks, rfl, rfl, h⟩
      · obtain ⟨bs, rb⟩ := rb.reads O eb
        exact SeqAt.notIn_tuple_reads rb rd h1 (SeqAt.canLay_of_shaped h2) (room h2) ⟨_, s.toks, rfl, rfl, h⟩
  | _ => exact False.elim h

noncomputable def cCmp (op : CmpOp) (f₁ f₂ : EV) : EV := fun ρ hp Q => f₁ ρ hp fun a hp₁ => f₂ ρ hp₁ fun b hp₂ => opCmp op a b hp₂ fun r => Q (.bool r) hp₂
noncomputable def bCmp (op : CmpOp) (f₁ f₂ : EV) : BV := fun ρ hp Q => f₁ ρ hp fun a hp₁ => f₂ ρ hp₁ fun b hp₂ => opCmp op a b hp₂ fun r => Q r hp₂

section
variable {g : Gl} {n : Nat} {sc : Scope} {nm : List Str}
theorem s_cmp {op e₁ e₂ f₁ f₂ pos} (h₁ : SoundE g n sc nm e₁ f₁) (h₂ : SoundE g n sc nm e₂ f₂) (hm : behindInMarks op e₂ = false := by exact rfl) :
    SoundE g n sc nm (.Compare e₁ [op] [e₂] pos) (cCmp op f₁ f₂) := fun a A env ρ hp s Q E Ok AO V R q => by
  refine wpAny_Compare1 (eval2 h₁ h₂ Ok AO V R q fun va vb x y hp₂ s₂ S R₂ V₂ ea eb P => ?_) hm
  refine wpAny_mono (opCmp_sound R₂.obj R₂.low (by have := AO.un; lia) ea eb P) (fun r s' h => ?_) fun _ _ x => x
  obtain ⟨c, tk, rfl, rfl, h⟩ := h
  exact EPost.comp S (EPost.tok R₂.obj rfl h)
theorem b_cmp {op e₁ e₂ f₁ f₂ pos} (h₁ : SoundE g n sc nm e₁ f₁) (h₂ : SoundE g n sc nm e₂ f₂) (hm : behindInMarks op e₂ = false := by exact rfl) :
    SoundB g n sc nm (.Compare e₁ [op] [e₂] pos) (bCmp op f₁ f₂) := fun a A env ρ hp s Q E Ok AO V R q => by
  refine wpAny_isTrue_Compare1 (eval2 h₁ h₂ Ok AO V R q fun va vb x y hp₂ s₂ S R₂ V₂ ea eb P => ?_) hm
  refine wpAny_mono (opCmp_sound R₂.obj R₂.low (by have := AO.un; lia) ea eb P) (fun r s' h => ?_) fun _ _ x => x
  obtain ⟨c, tk, rfl, rfl, h⟩ := h
  exact wpAny_truthy_bool ⟨hp₂, S.trans (Step.kept (fun _ _ e => e) rfl rfl), R₂.obj.kept (fun _ _ e => e), h⟩

/-! ## tests -/
noncomputable def bVal (f : EV) : BV := fun ρ hp Q => f ρ hp fun v hp₁ => match v with | .bool b => Q b hp₁ | _ => False
noncomputable def bNot (f : BV) : BV := fun ρ hp Q => f ρ hp fun b hp₁ => Q (!b) hp₁
noncomputable def bAnd : List BV → BV
  | [], _, hp, Q => Q true hp
  | f :: fs, ρ, hp, Q => f ρ hp fun b hp₁ => if b = true then bAnd fs ρ hp₁ Q else Q false hp₁
noncomputable def bOr : List BV → BV
  | [], _, hp, Q => Q false hp
  | f :: fs, ρ, hp, Q => f ρ hp fun b hp₁ => if b = true then Q true hp₁ else bOr fs ρ hp₁ Q

theorem b_val {e f} (h : SoundE g n sc nm e f) (he : ∀ env whole, isTrue e env whole = (do let v ← whole; standAt e.pos; holding [v] (truthy v)) := by exact fun _ _ => rfl) :
    SoundB g n sc nm e (bVal f) := fun a A env ρ hp s Q E Ok AO V R q => by
  refine isTrue_plain ?_ (he env _)
  refine wpAny_mono (h a A env ρ hp s _ E Ok AO V R q) (fun va s₁ q => ?_) fun _ _ x => x
  obtain ⟨x, hp₁, S₁, O₁, e₁, q⟩ := q
  cases x with
  | bool b => rw [vOf_bool e₁]; exact wpAny_truthy_bool ⟨hp₁, S₁, O₁, q⟩
  | _ => exact q.elim
theorem b_not {e f pos} (h : SoundB g n sc nm e f) : SoundB g n sc nm (.UnaryOp .Not e pos) (bNot f) := fun a A env ρ hp s Q E Ok AO V R q => by
  refine wpAny_isTrue_Not (wpAny_mono (h a A env ρ hp s _ E Ok AO V R q) (fun b s₁ q => ?_) fun _ _ x => x)
  obtain ⟨hp₁, S₁, O₁, q⟩ := q
  exact ⟨hp₁, S₁, O₁, q⟩
inductive BL (g : Gl) (n : Nat) (sc : Scope) (nm : List Str) : List Expr → List BV → Prop
  | nil : BL g n sc nm [] []
  | cons {e f es fs} : SoundB g n sc nm e f → BL g n sc nm es fs → BL g n sc nm (e :: es) (f :: fs)
theorem b_and {es fs pos} (h : BL g n sc nm es fs) : SoundB g n sc nm (.BoolOp .And es pos) (bAnd fs) := fun a A env ρ hp s Q E Ok AO V R q => by
  refine wpAny_isTrue_BoolOp ?_
  induction h generalizing hp s with
  | nil => exact wpAny_allTrue_And_nil ⟨hp, Step.refl _ _ _, R.obj, q⟩
  | @cons e f es fs h t ih =>
    refine wpAny_allTrue_And_cons (wpAny_mono (h a A env ρ hp s _ E Ok AO V R q) (fun b s₁ q => ?_) fun _ _ x => x)
    obtain ⟨hp₁, S₁, O₁, q⟩ := q
    cases b with
    | true => exact wpAny_mono (ih hp₁ s₁ (V.step S₁) (R.step S₁ O₁) q) (fun _ _ q => BPost.comp S₁ q) fun _ _ x => x
    | false => exact ⟨hp₁, S₁, O₁, q⟩
theorem b_or {es fs pos} (h : BL g n sc nm es fs) : SoundB g n sc nm (.BoolOp .Or es pos) (bOr fs) := fun a A env ρ hp s Q E Ok AO V R q => by
  refine wpAny_isTrue_BoolOp ?_
  induction h generalizing hp s with
  | nil => exact wpAny_allTrue_Or_nil ⟨hp, Step.refl _ _ _, R.obj, q⟩
  | @cons e f es fs h t ih =>
    refine wpAny_allTrue_Or_cons (wpAny_mono (h a A env ρ hp s _ E Ok AO V R q) (fun b s₁ q => ?_) fun _ _ x => x)
    obtain ⟨hp₁, S₁, O₁, q⟩ := q
    cases b with
    | false => exact wpAny_mono (ih hp₁ s₁ (V.step S₁) (R.step S₁ O₁) q) (fun _ _ q => BPost.comp S₁ q) fun _ _ x => x
    | true => exact ⟨hp₁, S₁, O₁, q⟩

/-- x if t else y -/
noncomputable def cIf (t : BV) (f₁ f₂ : EV) : EV := fun ρ hp Q => t ρ hp fun b hp₁ => if b = true then f₁ ρ hp₁ Q else f₂ ρ hp₁ Q
theorem s_if {t e₁ e₂ b f₁ f₂ pos} (ht : SoundB g n sc nm t b) (h₁ : SoundE g n sc nm e₁ f₁) (h₂ : SoundE g n sc nm e₂ f₂) : SoundE g n sc nm (.IfExp t e₁ e₂ pos) (cIf b f₁ f₂) :=
  fun a A env ρ hp s Q E Ok AO V R q => by
  refine wpAny_IfExp (wpAny_mono (ht a A env ρ hp s _ E Ok AO V R q) (fun c s₁ q => ?_) fun _ _ x => x)
  obtain ⟨hp₁, S₁, O₁, q⟩ := q
  cases c with
  | true => exact wpAny_mono (h₁ a A env ρ hp₁ s₁ _ E Ok AO (V.step S₁) (R.step S₁ O₁) q) (fun _ _ q => EPost.comp S₁ q) fun _ _ x => x
  | false => exact wpAny_mono (h₂ a A env ρ hp₁ s₁ _ E Ok AO (V.step S₁) (R.step S₁ O₁) q) (fun _ _ q => EPost.comp S₁ q) fun _ _ x => x

/-- and, or as values: of bools -/
noncomputable def cAnd : List EV → EV
  | [], _, _, _ => False
  | [f], ρ, hp, Q => f ρ hp Q
  | f :: fs, ρ, hp, Q => f ρ hp fun v hp₁ => match v with | .bool true => cAnd fs ρ hp₁ Q | .bool false => Q (.bool false) hp₁ | _ => False
noncomputable def cOr : List EV → EV
  | [], _, _, _ => False
  | [f], ρ, hp, Q => f ρ hp Q
  | f :: fs, ρ, hp, Q => f ρ hp fun v hp₁ => match v with | .bool false => cOr fs ρ hp₁ Q | .bool true => Q (.bool true) hp₁ | _ => False

theorem boolOp_cons {M : Model} {A : Around} {E : Value → Shared → Prop} {s : Shared} {pos : Pos} {op : BoolOp} {x y : Sem Value} {r : List (Sem Value)} {Q : Value → Shared → Prop}
    (h : wpAny M A x (fun v s₁ => ∃ b, v = .bool b ∧ (if (match op with | .And => !b | .Or => b) = true then Q v s₁ else wpAny M A (boolOp pos op (y :: r)) Q E s₁)) E s) :
    wpAny M A (boolOp pos op (x :: y :: r)) Q E s := by
  show wpAny M A (do
    let v ← x
    standAt pos
    let t ← holding [v] (truthy v)
    match op, t with
    | .And, false | .Or, true => pure v
    | _, _ => boolOp pos op (y :: r)) Q E s
  refine wpAny_bind (wpAny_mono h (fun v s₁ h₁ => ?_) fun _ _ x => x)
  obtain ⟨b, rfl, h₁⟩ := h₁
  refine wpAny_bind (wpAny_standAt (wpAny_bind (wpAny_holding (wpAny_truthy_bool ?_))))
  cases op <;> cases b <;> first | exact wpAny_pure h₁ | exact h₁

theorem s_and {es fs pos} (h : SL g n sc nm es fs) : SoundE g n sc nm (.BoolOp .And es pos) (cAnd fs) := fun a A env ρ hp s Q E Ok AO V R q => by
  show wpAny g.M A (boolOp pos .And (evalEach es env)) _ E s
  induction h generalizing hp s with
  | nil => exact q.elim
  | @cons e f es fs h p t ih =>
    cases t with
    | nil => exact h a A env ρ hp s Q E Ok AO V R q
    | @cons e' f' es' fs' h' p' t' =>
      refine boolOp_cons (wpAny_mono (h a A env ρ hp s _ E Ok AO V R q) (fun v s₁ q => ?_) fun _ _ x => x)
      obtain ⟨x, hp₁, S₁, O₁, e₁, q⟩ := q
      cases x with
      | bool b =>
        refine ⟨b, vOf_bool e₁, ?_⟩
        cases b with
        | true => exact wpAny_mono (ih hp₁ s₁ (V.step S₁) (R.step S₁ O₁) q) (fun _ _ q => EPost.comp S₁ q) fun _ _ x => x
        | false => exact ⟨_, hp₁, S₁, O₁, e₁, q⟩
      | _ => exact q.elim
theorem s_or {es fs pos} (h : SL g n sc nm es fs) : SoundE g n sc nm (.BoolOp .Or es pos) (cOr fs) := fun a A env ρ hp s Q E Ok AO V R q => by
  show wpAny g.M A (boolOp pos .Or (evalEach es env)) _ E s
  induction h generalizing hp s with
  | nil => exact q.elim
  | @cons e f es fs h p t ih =>
    cases t with
    | nil => exact h a A env ρ hp s Q E Ok AO V R q
    | @cons e' f' es' fs' h' p' t' =>
      refine boolOp_cons (wpAny_mono (h a A env ρ hp s _ E Ok AO V R q) (fun v s₁ q => ?_) fun _ _ x => x)
      obtain ⟨x, hp₁, S₁, O₁, e₁, q⟩ := q
      cases x with
      | bool b =>
        refine ⟨b, vOf_bool e₁, ?_⟩
        cases b with
        | false => exact wpAny_mono (ih hp₁ s₁ (V.step S₁) (R.step S₁ O₁) q) (fun _ _ q => EPost.comp S₁ q) fun _ _ x => x
        | true => exact ⟨_, hp₁, S₁, O₁, e₁, q⟩
      | _ => exact q.elim
end
end Mine
namespace Mine
open PySem PySem.W PySem.Calls PyProof.Rows

/-! ## arithmetic -/
noncomputable def opBin (op : Operator) (a b : V) (hp : Hp) (Q : V → Hp → Prop) : Prop := match a, b with
  | .int x, .int y => (match op with
      | .Add => Q (.int (x + y)) hp
      | .Sub => Q (.int (x - y)) hp
      | .Mult => x.natAbs < 1000000 ∧ y.natAbs < 1000000 ∧ Q (.int (x * y)) hp
      | .Mod => 0 < y ∧ y < 100000 ∧ Q (.int (x.fmod y)) hp
      | .FloorDiv => 0 < y ∧ y < 100000 ∧ Q (.int (x.fdiv y)) hp
      | _ => False)
  | .str x, .str y => op = .Add ∧ x.length + y.length ≤ 1000000 ∧ Q (.str (x ++ y)) hp
  | .ref x, .ref y => op = .Add ∧ (match hp x, hp y with
      | some (.list vs), some (.list ws) => vs.length + ws.length ≤ 1000000 ∧ ∀ D, hp D = none → Q (.ref D) (hp.set D (.list (vs ++ ws)))
      | _, _ => False)
  | _, _ => False
noncomputable def cBin (op : Operator) (f₁ f₂ : EV) : EV := fun ρ hp Q => f₁ ρ hp fun a hp₁ => f₂ ρ hp₁ fun b hp₂ => opBin op a b hp₂ Q

theorem pylong_small {x y : Int} (h0 : 0 < y) (h : y < 100000) : Builtin.divisionGoesByPylong x y = false := by
  have hy : y.natAbs < 2 ^ 17 := by lia
  have hl : y.natAbs.log2 < 17 := by
    rcases Nat.eq_zero_or_pos y.natAbs with e | e
    · rw [e]; decide
    · exact (Nat.log2_lt (Nat.pos_iff_ne_zero.mp e)).mpr hy
  unfold Builtin.divisionGoesByPylong
  have hne : (y == 0) = false := by simpa using Int.ne_of_gt h0
  simp only [hne, Bool.false_eq_true, if_false, Bool.and_eq_false_iff, decide_eq_false_iff_not]
  left
  lia

section
variable {g : Gl} {n : Nat} {sc : Scope} {nm : List Str}

theorem opBin_sound {op : Operator} {a b : V} {hp : Hp} {Q : V → Hp → Prop} {s : Shared} {A : Around} {E : Value → Shared → Prop} {va vb : Value} (O : Objs g hp s) (hz : 4 < s.heap.objs.size)
    (ea : vOf va = some a) (eb : vOf vb = some b) (h : opBin op a b hp Q) : wpAny g.M A (binaryOp op va vb) (EPost g hp s Q) E s := by
  unfold opBin at h
  split at h
  · rename_i x y
    obtain ⟨t, rfl⟩ := vOf_int ea
    obtain ⟨u, rfl⟩ := vOf_int eb
    cases op <;> first | exact h.elim | skip
    · exact add_int (EPost.tok O rfl h)
    · exact sub_int (EPost.tok O rfl h)
    · obtain ⟨h1, h2, h⟩ := h
      refine mul_int (EPost.tok O rfl h) ?_
      exact IntMulOk.of_left (intBits_le_64 (by lia) (by lia))
    · obtain ⟨h1, h2, h⟩ := h
      exact mod_int' (Int.ne_of_gt h1) (EPost.tok O rfl h)
    · obtain ⟨h1, h2, h⟩ := h
      exact floordiv_int (Int.ne_of_gt h1) (EPost.tok O rfl h) (.inl (pylong_small h1 h2))
  · obtain ⟨t, rfl⟩ := vOf_str ea
    obtain ⟨u, rfl⟩ := vOf_str eb
    obtain ⟨rfl, h1, h⟩ := h
    exact PyProof.Rows.add_str (fun t' tk => EPost.tok O rfl h) (by rw [sizeLine_eq]; lia)
  · obtain rfl := vOf_ref ea
    obtain rfl := vOf_ref eb
    obtain ⟨rfl, h⟩ := h
    split at h
    · rename_i vs ws hx hy
      obtain ⟨h1, h⟩ := h
      obtain ⟨ob, e1, e2⟩ := O _ _ hx
      obtain ⟨items, ⟨k, e1⟩, hv⟩ := IsList.of e1 e2
      obtain ⟨ob', e3, e4⟩ := O _ _ hy
      obtain ⟨items', ⟨k', e3⟩, hw⟩ := IsList.of e3 e4
      have l1 := hv.length
      have l2 := hw.length
      rw [Array.length_toList] at l1 l2
      refine concat_meets ⟨_, e1, rfl⟩ ⟨_, e3, rfl⟩ noFill_list_add seq_list_add PySem.F.slot_list_add PySem.F.entry_list_add (PySem.F.args_list_add_2 _ _)
        (list_addW _ _ items items' k k' none none #[] #[] (by rw [l1, l2, sizeLine_eq]; lia)) ⟨e1, e3, ?_⟩
      have := EPost.new (g := g) (k := s.toks) (o := .list (_ ++ _)) O hz (ob := { cls := .type "list", data := .seq (items ++ items') }) rfl ⟨_, _, rfl, by rw [Array.toList_append]; exact hv.append hw⟩ (h _ (O.fresh (size_none _)))
      exact this
    · exact h.elim
  · exact h.elim

theorem s_bin {op e₁ e₂ f₁ f₂ pos} (h₁ : SoundE g n sc nm e₁ f₁) (h₂ : SoundE g n sc nm e₂ f₂) : SoundE g n sc nm (.BinOp e₁ op e₂ pos) (cBin op f₁ f₂) := fun a A env ρ hp s Q E Ok AO V R q => by
  refine wpAny_BinOp (eval2 h₁ h₂ Ok AO V R q fun va vb x y hp₂ s₂ S R₂ V₂ ea eb P => ?_)
  exact wpAny_mono (opBin_sound R₂.obj (R₂.big Ok) ea eb P) (fun _ _ q => EPost.comp S q) fun _ _ x => x

/-! ## calls by name -/
structure NameIs (g : Gl) (x : Str) (v : Value) : Prop where
  is : nsIn g.K mainGlobals x = some (some v) ∨ (nsIn g.K mainGlobals x = some none ∧ bootBuiltins x = some v ∧ x ≠ "__name__")
  dbg : (x == ("__debug__" : Str)) = false

theorem name_eval {x : Str} {v : Value} (hN : NameIs g x v) (hx : sc.names.lookup x = some .globalImplicit) {a : Act} {A : Around} {env : Env} {ρ hp s pos} {Q : Value → Shared → Prop} {E : Value → Shared → Prop}
    (Ok : a.Ok g) (V : EnvOk env sc nm ρ hp s) (R : HRep g a hp s) (h : Q v s) : wpAny g.M A (eval (.Name x pos) env) Q E s := by
  have hkind : env.scope.kind = .function := by rw [V.hsc]; exact V.kind
  have hk : env.kindOf x = some .globalImplicit := by rw [Env.kindOf, V.hsc]; exact hx
  obtain ⟨m, F⟩ := R.frm
  refine Name_function_global hkind hk ?_ hN.dbg
  rcases hN.is with e | ⟨e, e2, e3⟩
  · exact loadGlobal_global (env := env) (by rw [V.glob]; exact Ok.top.g.keeps F.keep) (mg_of Ok.kin Ok.top.g e) h
  · exact loadGlobal_builtin (env := env) (by rw [V.glob]; exact Ok.top.g.keeps F.keep) (mg_none_of Ok.kin Ok.top.g e) (by rw [V.blt]; exact Ok.top.b.keeps F.keep) ((Ok.top.builtins x e3).trans e2) h

noncomputable abbrev Op := List V → Hp → (V → Hp → Prop) → Prop
noncomputable def SoundOp (g : Gl) (n : Nat) (fv : Value) (op : Op) : Prop :=
  ∀ (a : Act) (A : Around) (hp : Hp) (s : Shared) (vals : List Value) (vs : List V) (Q : V → Hp → Prop) (E : Value → Shared → Prop),
    a.Ok g → AOk a n A → HRep g a hp s → VRs vals vs → op vs hp Q → wpAny g.M A (call fv vals) (EPost g hp s Q) E s
noncomputable def cOp (op : Op) (fs : List EV) : EV := fun ρ hp Q => cAll fs ρ hp fun vs hp' => op vs hp' Q

/-- who may be called: a built-in function, a type, a def or a class of the text -/
noncomputable def keepOk (K : Frag) : Value → Bool
  | .builtin _ => true
  | .type _ => true
  | f => keepIn K f
theorem callWith_any {A : Around} {E : Value → Shared → Prop} {s : Shared} {env : Env} {pos : Pos} {fv : Value} {first : List Value} {e : Expr} {rest : List Expr} {Q : Value → Shared → Prop} (hk : keepOk g.K fv = true) (X : g.K.In s.heap)
    (h : wpAny g.M A (spliced (backTo pos (starEach (e :: rest) env))) (fun vs s₁ => g.K.In s₁.heap ∧ wpAny g.M A (call fv (first ++ vs)) Q E s₁) E s)
    (he : starEach (e :: rest) env = (false, eval e env) :: starEach rest env) (hplain : (backTo pos (starEach rest env)).any (·.1) = false) :
    wpAny g.M A (callWith pos fv first (backTo pos (starEach (e :: rest) env)) []) Q E s := by
  have hpl : (backTo pos (starEach (e :: rest) env)).any (·.1) = false := by
    rw [he]
    show (false || (backTo pos (starEach rest env)).any (·.1)) = false
    rw [hplain]; rfl
  cases fv with
  | builtin id =>
    rw [he] at h ⊢
    rw [he] at hpl
    exact Calls.callWith_builtin hpl (Calls.evalArgs_plain (wpAny_mono h (fun vs s₁ q => q.2) fun _ _ x => x))
  | type id =>
    rw [he] at h ⊢
    rw [he] at hpl
    exact PyProof.Rows.callWith_type hpl (Calls.evalArgs_plain (wpAny_mono h (fun vs s₁ q => q.2) fun _ _ x => x))
  | _ => exact callWith_K X hk h he hplain
theorem callWith_any0 {A : Around} {E : Value → Shared → Prop} {s : Shared} {env : Env} {pos : Pos} {fv : Value} {first : List Value} {Q : Value → Shared → Prop} (hk : keepOk g.K fv = true) (X : g.K.In s.heap)
    (h : wpAny g.M A (call fv first) Q E s) : wpAny g.M A (callWith pos fv first (backTo pos (starEach [] env)) []) Q E s := by
  have h' : wpAny g.M A (call fv (first ++ [])) Q E s := by simpa using h
  cases fv with
  | builtin id => exact callWith_method0 h
  | type id => exact PyProof.Rows.callWith_type (args := []) rfl (evalArgs_nil3 h')
  | _ => exact callWith_K0 X hk h'

theorem s_call {x : Str} {fv : Value} {op : Op} {e es fs np pos} (hN : NameIs g x fv) (hx : sc.names.lookup x = some .globalImplicit) (hk : keepOk g.K fv = true) (ho : SoundOp g n fv op)
    (h : SL g n sc nm (e :: es) fs) (he : ∀ env, eval (.Call (.Name x np) (e :: es) [] pos) env = (do callWith pos (← eval (.Name x np) env) [] (backTo pos (starEach (e :: es) env)) (backToKw pos (keywordEach [] env))) := by exact fun _ => rfl) :
    SoundE g n sc nm (.Call (.Name x np) (e :: es) [] pos) (cOp op fs) := fun a A env ρ hp s Q E Ok AO V R q => by
  refine Call_ (name_eval hN hx Ok V R ?_) (he env)
  have hp1 : PlainX e := by cases h with | cons _ p _ => exact p
  have hpl : (backTo pos (starEach es env)).any (·.1) = false := by cases h with | cons _ _ t => exact t.starPlain env pos
  have KX : g.K.In s.heap := let ⟨m, F⟩ := R.frm; Ok.kin.keeps F.keep
  refine callWith_any hk KX ?_ (hp1 env es) hpl
  refine wpAny_mono (spliced_all h Ok AO V R q) (fun vals s₁ x => ?_) fun _ _ x => x
  obtain ⟨vs, hp₁, S₁, O₁, e₁, _, q⟩ := x
  have R₁ := R.step S₁ O₁
  obtain ⟨m, F₁⟩ := R₁.frm
  exact ⟨Ok.kin.keeps F₁.keep, wpAny_mono (ho a A hp₁ s₁ vals vs Q E Ok AO R₁ e₁ q) (fun _ _ q => EPost.comp S₁ q) fun _ _ x => x⟩

/-! ## built-in functions -/
noncomputable def opLen : Op := fun vs hp Q => match vs with
  | [.ref x] => (match hp x with
      | some (.list l) => l.length ≤ 1000000 ∧ Q (.int l.length) hp
      | some (.tup l) => l.length ≤ 1000000 ∧ Q (.int l.length) hp
      | some (.dict _ l) => l.length ≤ 1000000 ∧ Q (.int l.length) hp
      | _ => False)
  | _ => False
theorem vrs1 {vals : List Value} {v : V} (h : VRs vals [v]) : ∃ val, vals = [val] ∧ vOf val = some v := by
  obtain ⟨a, t, rfl, e, r⟩ := h.cons_inv
  rw [r.nil_inv]; exact ⟨a, rfl, e⟩
theorem vrs2 {vals : List Value} {v u : V} (h : VRs vals [v, u]) : ∃ a b, vals = [a, b] ∧ vOf a = some v ∧ vOf b = some u := by
  obtain ⟨a, t, rfl, e, r⟩ := h.cons_inv
  obtain ⟨b, rfl, e'⟩ := vrs1 r
  exact ⟨a, b, rfl, e, e'⟩

theorem o_len : SoundOp g n (.builtin "len") opLen := fun a A hp s vals vs Q E Ok AO R hv h => by
  unfold opLen at h
  split at h
  · rename_i x
    obtain ⟨val, rfl, e⟩ := vrs1 hv
    obtain rfl := vOf_ref e
    have fit : ∀ {k : Nat}, k ≤ 1000000 → (k : Int) < 2 ^ 63 := fun h => by lia
    split at h
    · rename_i l hx
      obtain ⟨h1, h⟩ := h
      obtain ⟨ob, e1, e2⟩ := R.obj _ _ hx
      obtain ⟨items, hl, hr⟩ := IsList.of e1 e2
      have hlen := hr.length
      rw [Array.length_toList] at hlen
      refine call_len_list hl.isList (by rw [hlen]; exact fit h1) ?_
      rw [hlen]; exact EPost.tok R.obj rfl h
    · rename_i l hx
      obtain ⟨h1, h⟩ := h
      obtain ⟨ob, e1, e2⟩ := R.obj _ _ hx
      obtain ⟨items, hl, hr⟩ := IsTup.of e1 e2
      have hlen := hr.length
      rw [Array.length_toList] at hlen
      refine len_tuple hl (by rw [hlen]; exact fit h1) ?_
      rw [hlen]; exact EPost.tok R.obj rfl h
    · rename_i ep l hx
      obtain ⟨h1, h⟩ := h
      obtain ⟨ob, e1, e2⟩ := R.obj _ _ hx
      obtain ⟨kvs', ht, hr⟩ := DictAt.of e1 e2
      have low : (x == sysModules) = false := beq_false_of_ne (Nat.ne_of_gt (Nat.lt_trans (by decide : (1 : Nat) < 4) (R.low x (by rw [hx]; exact fun x => nomatch x))))
      refine call_len_dict low ht.dictOf (by rw [hr.length]; exact fit h1) ?_
      rw [hr.length]; exact EPost.tok R.obj rfl h
    · exact h.elim
  · exact h.elim

noncomputable def opMax : Op := fun vs hp Q => match vs with
  | [.int x, .int y] => Q (.int (if y > x then y else x)) hp
  | _ => False
theorem o_max : SoundOp g n (.builtin "max") opMax := fun a A hp s vals vs Q E Ok AO R hv h => by
  unfold opMax at h
  split at h
  · obtain ⟨u, v, rfl, e1, e2⟩ := vrs2 hv
    obtain ⟨t, rfl⟩ := vOf_int e1
    obtain ⟨t', rfl⟩ := vOf_int e2
    refine max_two_ints AO.hd fun h' tk hk => ?_
    rename_i x y
    by_cases c : y > x
    · rw [if_pos c] at h ⊢; exact EPost.val R.obj hk rfl rfl rfl h
    · rw [if_neg c] at h ⊢; exact EPost.val R.obj hk rfl rfl rfl h
  · exact h.elim

noncomputable def opStr : Op := fun vs hp Q => match vs with
  | [.int x] => x.natAbs < 1000 ∧ Q (.str (Str.ofString (toString x))) hp
  | _ => False
theorem o_str : SoundOp g n (.type "str") opStr := fun a A hp s vals vs Q E Ok AO R hv h => by
  unfold opStr at h
  split at h
  · obtain ⟨u, rfl, e1⟩ := vrs1 hv
    obtain ⟨t, rfl⟩ := vOf_int e1
    obtain ⟨h1, h⟩ := h
    rename_i x
    refine P.str_of_int (a := x) ?_ (EPost.tok R.obj rfl h)
    rcases Nat.eq_zero_or_pos x.natAbs with e | e
    · rw [e]; decide
    · exact (Nat.log2_lt (Nat.pos_iff_ne_zero.mp e)).mpr (Nat.lt_of_lt_of_le (Nat.lt_trans h1 (by decide : 1000 < 2 ^ 10)) (Nat.pow_le_pow_right (by decide) (by decide : 10 ≤ 1920)))
  · exact h.elim
end
end Mine
namespace Mine
open PySem PySem.W PySem.Calls PyProof.Rows

theorem bindL_other {k : Str → Option NameKind} {x : Str} : ∀ {binds : List (Str × Value)} {m : Str → Option Value}, x ∉ binds.map (·.1) → bindL k binds m x = m x
  | [], _, _ => rfl
  | (y, v) :: r, m, h => by
    simp only [List.map_cons, List.mem_cons, not_or] at h
    show bindL k r _ x = m x
    rw [bindL_other h.2]
    split
    · exact if_neg h.1
    · rfl
theorem bindC_other {k : Str → Option NameKind} {x : Str} : ∀ {binds : List (Str × Value)} {m : Str → Option Value}, x ∉ binds.map (·.1) → bindC k binds m x = m x
  | [], _, _ => rfl
  | (y, v) :: r, m, h => by
    simp only [List.map_cons, List.mem_cons, not_or] at h
    show bindC k r _ x = m x
    rw [bindC_other h.2]
    split
    · rfl
    · exact if_neg h.1
theorem bindL_get {k : Str → Option NameKind} {x : Str} {v : Value} (hk : k x = some .local) : ∀ {binds : List (Str × Value)} {m : Str → Option Value}, (binds.map (·.1)).Nodup → (x, v) ∈ binds → bindL k binds m x = some v
  | (y, u) :: r, m, hn, h => by
    simp only [List.map_cons, List.nodup_cons] at hn
    show bindL k r _ x = some v
    rcases List.mem_cons.mp h with h | h
    · cases h
      rw [bindL_other hn.1, if_pos hk]; exact if_pos rfl
    · exact bindL_get hk hn.2 h
theorem bindC_get {k : Str → Option NameKind} {x : Str} {v : Value} (hk : k x ≠ some .local) : ∀ {binds : List (Str × Value)} {m : Str → Option Value}, (binds.map (·.1)).Nodup → (x, v) ∈ binds → bindC k binds m x = some v
  | (y, u) :: r, m, hn, h => by
    simp only [List.map_cons, List.nodup_cons] at hn
    show bindC k r _ x = some v
    rcases List.mem_cons.mp h with h | h
    · cases h
      rw [bindC_other hn.1, if_neg hk]; exact if_pos rfl
    · exact bindC_get hk hn.2 h

structure FnIs (g : Gl) (n : Nat) (addr : Addr) (k : Nat) (nm : List Str) (f : ST) : Prop where
  is : ∃ name qual params stmts scope dV kV doc pm an cdv ct oc od osl,
    g.K.lookup addr = some ⟨oc, od, .func (fnOf name qual params stmts scope dV kV doc pm an cdv ct), osl⟩ ∧ codeIn g.K cdv qual = true ∧
    (∀ vals : List Value, vals.length = k → bindArgs (fnOf name qual params stmts scope dV kV doc pm an cdv ct) ⟨vals, []⟩ = pure ((nm.take k).zip vals)) ∧
    ((nm.take k).all fun x => scope.names.lookup x == some .local || scope.names.lookup x == some .cell) = true ∧
    scope.isCoroutine = false ∧ scope.isGenerator = false ∧ scope.kind = .function ∧ SoundSs g n scope nm stmts f
  nd : nm.Nodup
  le : k ≤ nm.length

noncomputable def opFn (k N : Nat) (f : ST) : Op := fun vs hp Q => vs.length = k ∧ f (vs.map some ++ List.replicate (N - k) none) hp (fun _ hp' => Q .none hp') Q

section
variable {g : Gl} {n : Nat}

/-- the list of what the heap's abstract part names -/
noncomputable def newsOf (hp : Hp) (h : Heap) : List (Addr × Obj) := (List.range h.objs.size).filterMap fun b => if (hp b).isSome then (h.get? b).map (b, ·) else none
theorem mem_newsOf {hp : Hp} {h : Heap} {p : Addr × Obj} : p ∈ newsOf hp h ↔ (hp p.1).isSome ∧ h.get? p.1 = some p.2 := by
  unfold newsOf
  rw [List.mem_filterMap]
  constructor
  · rintro ⟨b, hb, e⟩
    split at e
    · rename_i hs
      obtain ⟨o, ho, rfl⟩ := Option.map_eq_some_iff.mp e
      exact ⟨hs, ho⟩
    · cases e
  · rintro ⟨h1, h2⟩
    refine ⟨p.1, List.mem_range.mpr (Heap.lt_size h2), ?_⟩
    rw [if_pos h1, h2]; rfl
theorem HRep.news {a hp s} (R : HRep g a hp s) : News a.h₀ a.L s.heap (newsOf hp s.heap) := fun p hp' => by
  obtain ⟨h1, h2⟩ := mem_newsOf.mp hp'
  refine ⟨h2, fun e => ?_, ?_⟩
  · rw [e, R.nL] at h1; cases h1
  · cases q : a.h₀.get? p.1 with
    | none => rfl
    | some o => rw [R.old _ _ q] at h1; cases h1

theorem fn_code {addr : Addr} {k : Nat} {nm : List Str} {f : ST} (Fn : FnIs g n addr k nm f) {a : Act} {A : Around} {hp : Hp} {s : Shared} {vals : List Value} {vs : List V} {Q : V → Hp → Prop} {E : Value → Shared → Prop}
    (Ok : a.Ok g) (AO : AOk a (n + 1) A) (R : HRep g a hp s) (hv : VRs vals vs) (h : opFn k nm.length f vs hp Q) :
    codeAny g.M A (.call (.ref addr) ⟨vals, []⟩) (fun r s' => match r with | .ok (.ret v) => EPost g hp s Q v s' | .ok _ => False | .error e => E e s') s := by
  obtain ⟨name, qual, params, stmts, scope, dV, kV, doc, pm, an, cdv, ct, oc, od, osl, hlk, hcd, hbind, hkinds, hco, hgen, hk, hs⟩ := Fn.is
  obtain ⟨hlen, h⟩ := h
  have hvl : vals.length = k := hv.length.trans hlen
  obtain ⟨m, F⟩ := R.frm
  have N := R.news
  obtain ⟨FG, BG, st, _⟩ := groundX (R := fun _ _ => True) Ok.below F N AO.fr Ok.fr Ok.ke
  have hmemk : ∀ x ∈ nm.take k, scope.names.lookup x = some .local ∨ scope.names.lookup x = some .cell := fun x hx => by
    have := List.all_eq_true.mp hkinds x hx
    simpa using this
  refine codeAny_call_function (Nat.lt_of_le_of_lt (Nat.le_add_right _ _) AO.dp) ((Ok.kin.keeps F.keep) _ _ hlk) rfl hco hgen rfl (codeRec_of (Ok.kin.keeps F.keep) hcd) ?_
  rw [hbind vals hvl]
  refine wpAny_pure (wpAny_newFunctionEnv_cells hk (fun x hx => ?_) fun env he s₁ X => ?_)
  · rcases hmemk x.1 (List.of_mem_zip hx).1 with q | q
    · exact .inl q
    · exact .inr ⟨q, cellsFrom_some _ _ _ (.inl q)⟩
  subst he
  obtain ⟨h₁, tk, rfl, kp⟩ := X.done
  refine ⟨(Ok.top.nolimit.keeps F.keep).keeps kp, codeAny_func ?_⟩
  -- the callee's own activation
  let env : Env := newEnv scope s.heap.objs.size mainGlobals (cellsFrom (s.heap.objs.size + 1) scope.names []) (qual ++ ".<locals>.") (some addr) cdv none builtinsNs
  let G : Heap := hideAll s.heap ((newsOf hp s.heap).map (·.1))
  let a' : Act := { A₀ := A, base := a.base, h₀ := G, outer := a.fenv :: a.outer, fenv := env, L := s.heap.objs.size }
  have Ok' : a'.Ok g := ⟨BG, Ok.kin.keeps st, Ok.top.keeps st, rfl, hk⟩
  have hout : ∀ b o, G.get? b = some o → hp b = none := fun b o e => by
    cases q : hp b with
    | none => rfl
    | some ob =>
      have e1 := of_hideAll _ e
      have : b ∈ (newsOf hp s.heap).map (·.1) := List.mem_map.mpr ⟨(b, o), mem_newsOf.mpr ⟨by rw [q]; rfl, e1⟩, rfl⟩
      rw [show G.get? b = none from hideAll_none _ this] at e; cases e
  have fresh : ∀ b, s.heap.objs.size ≤ b → hp b = none := fun b hb => by
    cases q : hp b with
    | none => rfl
    | some ob => obtain ⟨o, e1, _⟩ := R.obj b ob q; exact absurd (Heap.lt_size e1) (Nat.not_lt.mpr hb)
  have R' : HRep g a' hp { s with heap := h₁, toks := tk } := by
    refine ⟨R.obj.kept kp, ⟨_, ⟨X.toInCall.ns, fun b o e => kp b o (of_hideAll _ e), Nat.le_of_eq (hideAll_size _ _)⟩⟩, fresh _ (Nat.le_refl _), hout, ?_, R.nscr, R.low⟩
    obtain ⟨us, ⟨ob, h1, h2⟩, h3⟩ := R.scr
    exact ⟨us, ⟨ob, kp _ _ h1, h2⟩, h3⟩
  have hcells : ∀ {x c}, env.cells.lookup x = some c → s.heap.objs.size < c := fun {x c} e => X.above x c (lookup_mem e)
  have zmem : ∀ {i x v}, nm[i]? = some x → look (vs.map some ++ List.replicate (nm.length - k) none) i = some v → ∃ val, (x, val) ∈ (nm.take k).zip vals ∧ vOf val = some v := fun {i x v} hi hl => by
    unfold look at hl
    by_cases hik : i < vs.length
    · rw [List.getElem?_append_left (by simpa using hik), List.getElem?_map] at hl
      obtain ⟨v', hv'⟩ : ∃ v', vs[i]? = some v' := ⟨vs[i], List.getElem?_eq_getElem hik⟩
      rw [hv'] at hl
      obtain rfl : v' = v := by simpa using hl
      obtain ⟨val, g1, g2⟩ := hv.get hv'
      refine ⟨val, ?_, g2⟩
      have : ((nm.take k).zip vals)[i]? = some (x, val) := by
        rw [List.getElem?_zip_eq_some]
        exact ⟨by rw [List.getElem?_take_of_lt (hlen ▸ hik)]; exact hi, g1⟩
      exact List.mem_of_getElem? this
    · rw [List.getElem?_append_right (by simpa using hik)] at hl
      exfalso
      rw [List.getElem?_replicate] at hl
      split at hl <;> simp at hl
  have hnd : (((nm.take k).zip vals).map (·.1)).Nodup := by
    rw [List.map_fst_zip (by rw [List.length_take, hvl]; exact Nat.min_le_left _ _)]
    exact Fn.nd.sublist (List.take_sublist _ _)
  have V' : EnvOk a'.fenv scope nm (vs.map some ++ List.replicate (nm.length - k) none) hp { s with heap := h₁, toks := tk } := by
    refine ⟨rfl, hk, rfl, rfl, ?_, Fn.nd, fresh _ (Nat.le_refl _), ⟨_, X.toInCall.ns, fun i x v hi hl hx => ?_⟩, fun i x hi hx => ?_, fun x y c e1 e2 => ?_, fun x c hc => ?_⟩
    · have := Fn.le; simp [hlen]; lia
    · obtain ⟨val, hm, hv'⟩ := zmem hi hl
      exact ⟨val, bindL_get hx hnd hm, hv'⟩
    · obtain ⟨c, hc⟩ := Option.isSome_iff_exists.mp (cellsFrom_some (x := x) scope.names (s.heap.objs.size + 1) [] (.inl hx))
      obtain ⟨o, ho, hd⟩ := X.cell x c hc
      refine ⟨c, o, _, hc, Nat.ne_of_gt (hcells hc), fresh _ (Nat.le_of_lt (hcells hc)), ho, hd, fun v hl => ?_⟩
      obtain ⟨val, hm, hv'⟩ := zmem hi hl
      refine ⟨val, bindC_get (x := x) ?_ hnd hm, hv'⟩
      show ¬ scope.names.lookup x = some .local
      rw [hx]; exact fun e => by cases e
    · have m1 := lookup_mem e1
      have m2 := lookup_mem e2
      by_cases q : x = y
      · exact q
      · exfalso
        have := X.apart
        rw [List.pairwise_iff_forall_sublist] at this
        obtain ⟨i, hi, h1⟩ := List.getElem_of_mem m1
        obtain ⟨j, hj, h2⟩ := List.getElem_of_mem m2
        have P := List.pairwise_iff_getElem.mp X.apart
        rcases Nat.lt_trichotomy i j with l | l | l
        · exact P i j hi hj l (by rw [h1, h2])
        · subst l; rw [h1] at h2; exact q (congrArg Prod.fst h2)
        · exact P j i hj hi l (by rw [h1, h2])
    · obtain ⟨o, ho, hd⟩ := X.cell x c hc
      exact ⟨o, _, ho, hd, fresh _ (Nat.le_of_lt (hcells hc))⟩
  have AO' : AOk a' n (A.deeper env) := by
    refine ⟨AO.hd, Around.frames_deeper AO.fr, ?_, ?_⟩
    · have := AO.dp; show A.depth + 1 + n < _; lia
    · have := AO.un; show A.units + 3 + 8 * n + 80 < _; lia
  have Step' : ∀ {hp' s'}, Step (own env) hp { s with heap := h₁, toks := tk } hp' s' → Step [] hp s hp' s' := fun {hp' s'} S => by
    have ne : ∀ b, s.heap.get? b ≠ none → b ∉ own env := fun b hb hm => by
      have hlt : b < s.heap.objs.size := by
        cases q : s.heap.get? b with
        | none => exact absurd q hb
        | some o => exact Heap.lt_size q
      rcases mem_own.mp hm with e | ⟨x, e⟩
      · exact Nat.lt_irrefl _ (e ▸ hlt)
      · exact Nat.lt_irrefl _ (Nat.lt_trans hlt (X.above x b (lookup_mem e)))
    refine ⟨fun b o e n1 _ => S.keep b o (kp b o e) n1 (ne b (by rw [e]; exact fun x => nomatch x)), fun b e n1 => S.live b ?_ n1, fun b hb => (S.dom b hb).imp id fun q => ⟨?_, q.2⟩, S.gens, S.os⟩
    · cases q : s.heap.get? b with
      | none => exact absurd q e
      | some o => rw [show ({ s with heap := h₁, toks := tk } : Shared).heap.get? b = some o from kp b o q]; exact fun x => nomatch x
    · cases q' : s.heap.get? b with
      | none => rfl
      | some o => have := q.1; rw [show ({ s with heap := h₁, toks := tk } : Shared).heap.get? b = some o from kp b o q'] at this; cases this
  have key := hs a' (A.deeper env) _ hp _ _ _ (fun e s' => wpAny (model g.prog g.w) (A.deeper env) (leaving env e) (fun _ s'' => E e s'') (fun e' s'' => E e' s'') s') Ok' AO' ⟨rfl, fun x c e => X.above x c (lookup_mem e)⟩ V' R' h
  refine wpAny_mono key (fun fl s' q => ?_) fun _ _ x => x
  cases fl with
  | next =>
    obtain ⟨ρ', hp', S, R2, _, q⟩ := q
    exact ⟨.none, hp', Step' S, R2.obj, rfl, q⟩
  | ret v =>
    obtain ⟨v', hp', S, O2, e2, q⟩ := q
    exact ⟨v', hp', Step' S, O2, e2, q⟩
  | _ => exact q.elim
theorem fn_sound {addr : Addr} {k : Nat} {nm : List Str} {f : ST} (Fn : FnIs g n addr k nm f) : SoundOp g (n + 1) (.ref addr) (opFn k nm.length f) :=
  fun a A hp s vals vs Q E Ok AO R hv h => wpAny_call (fn_code Fn Ok AO R hv h)
end
end Mine
namespace Mine
open PySem PySem.W PySem.Calls PyProof.Rows

section
variable {g : Gl} {n : Nat} {sc : Scope} {nm : List Str}

theorem look_set_same {ρ : Loc} {i : Nat} {v : V} (h : i < ρ.length) : look (ρ.set i (some v)) i = some v := by
  unfold look; rw [List.getElem?_set_self h]; rfl
theorem look_set_ne {ρ : Loc} {i j : Nat} {v : V} (h : i ≠ j) : look (ρ.set i (some v)) j = look ρ j := by
  unfold look; rw [List.getElem?_set_ne h]

theorem nm_inj {nm : List Str} (nd : nm.Nodup) {i j : Nat} {x : Str} (hi : nm[i]? = some x) (hj : nm[j]? = some x) : i = j := by
  obtain ⟨h1, e1⟩ := List.getElem?_eq_some_iff.mp hi
  obtain ⟨h2, e2⟩ := List.getElem?_eq_some_iff.mp hj
  exact (List.getElem_inj nd).mp (e1.trans e2.symm)

noncomputable def StP (g : Gl) (a : Act) (sc : Scope) (nm : List Str) (hp : Hp) (s : Shared) (ρ' : Loc) (s' : Shared) : Prop :=
  Step (own a.fenv) hp s hp s' ∧ HRep g a hp s' ∧ EnvOk a.fenv sc nm ρ' hp s'

theorem store_ok {a : Act} {A : Around} {ρ : Loc} {hp : Hp} {s : Shared} {E : Value → Shared → Prop} {i : Nat} {x : Str} {val : Value} {v : V}
    (Ok : a.Ok g) (FO : FOk a) (V : EnvOk a.fenv sc nm ρ hp s) (R : HRep g a hp s) (hi : nm[i]? = some x) (hk : sc.names.lookup x = some .local ∨ sc.names.lookup x = some .cell) (hv : vOf val = some v) :
    wpAny g.M A (storeName a.fenv x val) (fun _ s' => StP g a sc nm hp s (ρ.set i (some v)) s') E s := by
  have hkind : a.fenv.scope.kind = .function := by rw [V.hsc]; exact V.kind
  have hil : i < ρ.length := by rw [V.len]; exact (List.getElem?_eq_some_iff.mp hi).1
  obtain ⟨mF, F⟩ := R.frm
  have hlenLt : ∀ {b : Addr} {o : Obj}, a.h₀.get? b = some o → b < a.L := fun e => Nat.lt_of_lt_of_le (Heap.lt_size e) F.above
  -- what a change at one own address does
  have main : ∀ (d : Addr) (h' : Heap) (tk : Nat), d ∈ own a.fenv → a.L ≤ d → (∃ o, s.heap.get? d = some o ∧ (∀ its k, o.data ≠ .seq its k)) → (∃ o, h'.get? d = some o) → hp d = none → (∀ b, b ≠ d → h'.get? b = s.heap.get? b) → (∃ m', h'.Ns a.L m') →
      Step (own a.fenv) hp s hp { s with heap := h', toks := tk } ∧ HRep g a hp { s with heap := h', toks := tk } := fun d h' tk hd hLd ⟨od, hod, hns⟩ ⟨od', hod'⟩ hpd hsame ⟨m', hm'⟩ => by
    refine ⟨⟨fun b o e nn ne => ?_, fun b e nn => ?_, fun b h => .inl h, rfl, rfl⟩, ⟨fun y o e => ?_, ⟨m', ⟨hm', fun b o e => ?_, F.above⟩⟩, R.nL, R.old, ?_, R.nscr, R.low⟩⟩
    · show h'.get? b = some o
      rw [hsame b fun q => ne (q ▸ hd)]; exact e
    · show h'.get? b ≠ none
      by_cases q : b = d
      · rw [q, hod']; exact fun x => nomatch x
      · rw [hsame b q]; exact e
    · obtain ⟨ob, e1, e2⟩ := R.obj y o e
      exact ⟨ob, by show h'.get? y = _; rw [hsame y fun q => by rw [q, hpd] at e; cases e]; exact e1, e2⟩
    · have : b ≠ d := fun q => Nat.lt_irrefl _ (Nat.lt_of_lt_of_le (q ▸ hlenLt e) hLd)
      rw [hsame b this]; exact F.keep b o e
    · obtain ⟨us, ⟨ob, h1, h2, k, h3⟩, h4⟩ := R.scr
      refine ⟨us, ⟨ob, ?_, h2, k, h3⟩, h4⟩
      show h'.get? g.scrA = _
      rw [hsame g.scrA fun q => by rw [q, hod] at h1; cases h1; exact hns _ _ h3]; exact h1
  rcases hk with hk | hk
  · obtain ⟨m, hn, hm⟩ := V.ns
    refine wpAny_storeName_local (by rw [Env.kindOf, V.hsc]; exact hk) hn (fun h' hn' hsb => ?_) (by rw [hkind]; rfl)
    obtain ⟨oL, es, ep, hL, hLd, hLk⟩ := id hn
    obtain ⟨oL', es', ep', hL', _⟩ := id hn'
    obtain ⟨S', R'⟩ := main a.fenv.locals h' (s.toks + 1) (mem_own.mpr (.inl rfl)) (by rw [FO.loc]; exact Nat.le_refl _) ⟨oL, hL, fun its k q => by rw [hLd] at q; cases q⟩ ⟨oL', hL'⟩ V.nL hsb.2 ⟨_, FO.loc ▸ hn'⟩
    refine ⟨S', R', ⟨V.hsc, V.kind, V.glob, V.blt, by rw [List.length_set]; exact V.len, V.nd, V.nL, ⟨_, hn', fun j y w hj hl hy => ?_⟩, fun j y hj hy => ?_, V.inj, fun y c hc => ?_⟩⟩
    · by_cases q : i = j
      · subst q
        rw [hi] at hj; cases hj
        rw [look_set_same hil] at hl; cases hl
        exact ⟨val, if_pos rfl, hv⟩
      · rw [look_set_ne q] at hl
        obtain ⟨w', h1, h2⟩ := hm j y w hj hl hy
        exact ⟨w', by rw [if_neg fun (e : y = x) => q (nm_inj V.nd hi (e ▸ hj))]; exact h1, h2⟩
    · obtain ⟨c, o, v₀, h1, h2, h3, h4, h5, h6⟩ := V.cl j y hj hy
      refine ⟨c, o, v₀, h1, h2, h3, ?_, h5, fun w hl => ?_⟩
      · show h'.get? c = some o
        rw [hsb.2 c h2]; exact h4
      · refine h6 w ?_
        rw [look_set_ne fun q => by subst q; rw [hi] at hj; cases hj; rw [hk] at hy; cases hy] at hl
        exact hl
    · obtain ⟨o, v₀, h1, h2, h3⟩ := V.cex y c hc
      exact ⟨o, v₀, by show h'.get? c = _; rw [hsb.2 c fun q => by subst q; rw [hL] at h1; cases h1; rw [hLd] at h2; cases h2]; exact h1, h2, h3⟩
  · obtain ⟨c, o, v₀, h1, h2, h3, h4, h5, h6⟩ := V.cl i x hi hk
    refine wpAny_storeName_cell hkind (by rw [Env.kindOf, V.hsc]; exact hk) h1 ⟨o, h4, h5⟩ fun h' hc' hsb => ?_
    obtain ⟨o', ho', hd'⟩ := id hc'
    have hown : c ∈ own a.fenv := mem_own.mpr (.inr ⟨_, h1⟩)
    have hLc : a.L < c := FO.cells _ _ h1
    have hnL : ∃ m', h'.Ns a.L m' := by
      obtain ⟨oL, es, ep, hL, r⟩ := F.ns
      exact ⟨_, oL, es, ep, by rw [hsb.2 _ (Nat.ne_of_lt hLc)]; exact hL, r⟩
    obtain ⟨S', R'⟩ := main c h' s.toks hown (Nat.le_of_lt hLc) ⟨o, h4, fun its k q => by rw [h5] at q; cases q⟩ ⟨o', ho'⟩ h3 hsb.2 hnL
    obtain ⟨m, ⟨oL, es, ep, hL, r⟩, hm⟩ := V.ns
    refine ⟨S', R', ⟨V.hsc, V.kind, V.glob, V.blt, by rw [List.length_set]; exact V.len, V.nd, V.nL, ⟨m, ⟨oL, es, ep, by show h'.get? _ = _; rw [hsb.2 _ (Ne.symm h2)]; exact hL, r⟩, fun j y w hj hl hy => ?_⟩, fun j y hj hy => ?_, V.inj, fun y c' hc => ?_⟩⟩
    · rw [look_set_ne fun q => by subst q; rw [hi] at hj; cases hj; rw [hk] at hy; cases hy] at hl
      exact hm j y w hj hl hy
    · by_cases q : i = j
      · subst q
        rw [hi] at hj; cases hj
        refine ⟨c, o', some val, h1, h2, h3, ho', hd', fun w hl => ?_⟩
        rw [look_set_same hil] at hl; cases hl
        exact ⟨val, rfl, hv⟩
      · obtain ⟨c₂, o₂, v₂, g1, g2, g3, g4, g5, g6⟩ := V.cl j y hj hy
        have hne : c₂ ≠ c := fun e => by
          subst e
          have e2 := V.inj _ _ _ h1 g1
          subst e2
          exact q (nm_inj V.nd hi hj)
        refine ⟨c₂, o₂, v₂, g1, g2, g3, by show h'.get? _ = _; rw [hsb.2 _ hne]; exact g4, g5, fun w hl => g6 w ?_⟩
        rwa [look_set_ne q] at hl
    · obtain ⟨o₂, v₂, g1, g2, g3⟩ := V.cex y c' hc
      by_cases q : c' = c
      · subst q; exact ⟨o', _, ho', hd', g3⟩
      · exact ⟨o₂, v₂, by show h'.get? _ = _; rw [hsb.2 _ q]; exact g1, g2, g3⟩

/-! ## targets -/
noncomputable abbrev TG := V → Loc → Hp → (Loc → Prop) → Prop
noncomputable def tName (i : Nat) : TG := fun v ρ _ K => K (ρ.set i (some v))
noncomputable def setAll : List Nat → List V → Loc → Loc
  | i :: is, v :: vs, ρ => setAll is vs (ρ.set i (some v))
  | _, _, ρ => ρ
noncomputable def tTup (is : List Nat) : TG := fun v ρ hp K => match v with
  | .ref x => (match hp x with
      | some (.tup vs) => vs.length = is.length ∧ K (setAll is vs ρ)
      | _ => False)
  | _ => False

noncomputable def SoundT (g : Gl) (n : Nat) (sc : Scope) (nm : List Str) (t : Expr) (f : TG) : Prop :=
  ∀ (a : Act) (A : Around) (ρ : Loc) (hp : Hp) (s : Shared) (val : Value) (v : V) (K : Loc → Prop) (E : Value → Shared → Prop),
    a.Ok g → AOk a n A → FOk a → EnvOk a.fenv sc nm ρ hp s → HRep g a hp s → vOf val = some v → f v ρ hp K → wpAny g.M A (assign t a.fenv val) (fun _ s' => ∃ ρ', StP g a sc nm hp s ρ' s' ∧ K ρ') E s

theorem t_name {i : Nat} {x : Str} {pos} (hi : nm[i]? = some x) (hk : sc.names.lookup x = some .local ∨ sc.names.lookup x = some .cell) : SoundT g n sc nm (.Name x pos) (tName i) :=
  fun a A ρ hp s val v K E Ok AO FO V R hv h => wpAny_assign_Name (wpAny_mono (store_ok Ok FO V R hi hk hv) (fun _ s' q => ⟨_, q, h⟩) fun _ _ x => x)

inductive NL (sc : Scope) (nm : List Str) : List Expr → List Nat → Prop
  | nil : NL sc nm [] []
  | cons {i x pos es is} : nm[i]? = some x → (sc.names.lookup x = some .local ∨ sc.names.lookup x = some .cell) → NL sc nm es is → NL sc nm (.Name x pos :: es) (i :: is)
theorem NL.length {es is} (h : NL sc nm es is) (env : Env) : (assignEach es env).length = is.length := by
  induction h with
  | nil => rfl
  | cons h1 h2 t ih => show (_ :: assignEach _ env).length = _; simp [ih]
theorem NL.star {es is} (h : NL sc nm es is) (env : Env) : (assignEach es env).findIdx? (·.1) = none := by
  induction h with
  | nil => rfl
  | cons h1 h2 t ih => show List.findIdx? _ (_ :: assignEach _ env) = _; simp [List.findIdx?_cons, ih]

theorem HRep.pushed {a hp} {s s' : Shared} (R : HRep g a hp s) (k : ∀ b o, s.heap.get? b = some o → s'.heap.get? b = some o) (hg : s'.gens = s.gens) (ho : s'.os = s.os) : HRep g a hp s' :=
  R.step (Step.kept k hg ho) (R.obj.kept k)
theorem EnvOk.pushed {env sc nm ρ hp} {s s' : Shared} (V : EnvOk env sc nm ρ hp s) (k : ∀ b o, s.heap.get? b = some o → s'.heap.get? b = some o) (hg : s'.gens = s.gens) (ho : s'.os = s.os) : EnvOk env sc nm ρ hp s' :=
  V.step (Step.kept k hg ho)

theorem inOrder {a : Act} {A : Around} {E : Value → Shared → Prop} {es is} (h : NL sc nm es is) (Ok : a.Ok g) (FO : FOk a) : ∀ {ρ : Loc} {hp : Hp} {s : Shared} {vals : List Value} {vs : List V},
    EnvOk a.fenv sc nm ρ hp s → HRep g a hp s → VRs vals vs → wpAny g.M A (assignInOrder ((assignEach es a.fenv).map (·.2)) vals) (fun _ s' => StP g a sc nm hp s (setAll is vs ρ) s') E s := by
  induction h with
  | nil => intro ρ hp s vals vs V R hv; exact wpAny_pure ⟨Step.refl _ _ _, R, V⟩
  | @cons i x pos es is h1 h2 t ih =>
    intro ρ hp s vals vs V R hv
    cases vals with
    | nil =>
      cases vs with
      | nil => exact wpAny_pure ⟨Step.refl _ _ _, R, V⟩
      | cons _ _ => cases hv
    | cons val vals =>
      obtain ⟨v, vs', rfl, e1, e2⟩ := hv.inv
      show wpAny g.M A (do holding vals (assign (.Name x pos) a.fenv val); assignInOrder ((assignEach es a.fenv).map (·.2)) vals) _ E s
      refine wpAny_bind (wpAny_holding (wpAny_assign_Name (wpAny_mono (store_ok Ok FO V R h1 h2 e1) (fun _ s₁ q => ?_) fun _ _ x => x)))
      obtain ⟨S₁, R₁, V₁⟩ := q
      exact wpAny_mono (ih V₁ R₁ e2) (fun _ s₂ q => ⟨S₁.trans q.1, q.2⟩) fun _ _ x => x

theorem t_tup {es is k pos} (h : NL sc nm es is) : SoundT g n sc nm (.Tuple es k pos) (tTup is) := fun a A ρ hp s val v K E Ok AO FO V R hv q => by
  unfold tTup at q
  split at q
  · rename_i x
    obtain rfl := vOf_ref hv
    split at q
    · rename_i vs hx
      obtain ⟨hl, q⟩ := q
      obtain ⟨ob, e1, e2⟩ := R.obj _ _ hx
      obtain ⟨items, ht, hr⟩ := IsTup.of e1 e2
      have hsz : items.size = vs.length := by rw [← hr.length, Array.length_toList]
      refine wpAny_assign_Tuple AO.hd ht (by rw [h.length, hsz, hl]) (h.star _) fun h' he => ?_
      have kp : ∀ b o, s.heap.get? b = some o → h'.get? b = some o := fun b o e => he b o (Nat.ne_of_lt (Heap.lt_size e)) e
      have S0 : Step (own a.fenv) hp s hp { s with heap := h' } := Step.kept kp rfl rfl
      refine wpAny_mono (inOrder h Ok FO (V.pushed (s' := { s with heap := h' }) kp rfl rfl) (R.pushed (s' := { s with heap := h' }) kp rfl rfl) hr) (fun _ s' r => ⟨_, ⟨S0.trans r.1, r.2⟩, q⟩) fun _ _ x => x
    · exact q.elim
  · exact q.elim

/-! ## statements -/
theorem SPost.comp {a : Act} {hp s hp₁ s₁ N R fl s'} (S : Step (own a.fenv) hp s hp₁ s₁) (h : SPost g a a.fenv sc nm hp₁ s₁ N R fl s') : SPost g a a.fenv sc nm hp s N R fl s' := by
  cases fl with
  | next => obtain ⟨ρ', hp', T, r⟩ := h; exact ⟨ρ', hp', S.trans T, r⟩
  | ret v => obtain ⟨v', hp', T, r⟩ := h; exact ⟨v', hp', S.trans T, r⟩
  | _ => exact h.elim

noncomputable def sAsg (t : TG) (f : EV) : ST := fun ρ hp N R => f ρ hp fun v hp' => t v ρ hp' fun ρ' => N ρ' hp'
theorem st_name {i : Nat} {x : Str} {f : EV} {value px pos} (h : SoundE g n sc nm value f) (hi : nm[i]? = some x) (hk : sc.names.lookup x = some .local ∨ sc.names.lookup x = some .cell)
    (hs : ∀ env, swapsWith value (some (.Name x px)) pos.line env = pure false := by exact fun _ => rfl) : SoundS g n sc nm (.Assign [.Name x px] value pos) (sAsg (tName i) f) := fun a A ρ hp s N R E Ok AO FO V Rp q => by
  refine wpAny_Assign_Name (wpAny_mono (h a A a.fenv ρ hp s _ E Ok AO V Rp q) (fun val s₁ q => ?_) fun _ _ x => x) (hs _)
  obtain ⟨v, hp₁, S₁, O₁, e₁, q⟩ := q
  refine wpAny_mono (store_ok Ok FO (V.step S₁) (Rp.step S₁ O₁) hi hk e₁) (fun _ s₂ r => ?_) fun _ _ x => x
  exact ⟨_, hp₁, S₁.weaken.trans r.1, r.2.1, r.2.2, q⟩
theorem st_tup {t : TG} {f : EV} {elts k tpos value pos} (h : SoundE g n sc nm value f) (ht : SoundT g n sc nm (.Tuple elts k tpos) t)
    (hs : ∀ env, swapsWithSole [.Tuple elts k tpos] value pos.line env = pure false := by exact fun _ => rfl) (hw : ∀ env, swappedStores [.Tuple elts k tpos] value env = pure none := by exact fun _ => rfl) :
    SoundS g n sc nm (.Assign [.Tuple elts k tpos] value pos) (sAsg t f) := fun a A ρ hp s N R E Ok AO FO V Rp q => by
  refine Assign_Tuple (wpAny_mono (h a A a.fenv ρ hp s _ E Ok AO V Rp q) (fun val s₁ q => ?_) fun _ _ x => x) (hs _) (hw _)
  obtain ⟨v, hp₁, S₁, O₁, e₁, q⟩ := q
  refine wpAny_mono (ht a A ρ hp₁ s₁ val v _ E Ok AO FO (V.step S₁) (Rp.step S₁ O₁) e₁ q) (fun _ s₂ r => ?_) fun _ _ x => x
  obtain ⟨ρ', r, k⟩ := r
  exact ⟨ρ', hp₁, S₁.weaken.trans r.1, r.2.1, r.2.2, k⟩

noncomputable def sRet (f : EV) : ST := fun ρ hp N R => f ρ hp R
theorem st_ret {e f pos} (h : SoundE g n sc nm e f) : SoundS g n sc nm (.Return (some e) pos) (sRet f) := fun a A ρ hp s N R E Ok AO FO V Rp q =>
  wpAny_Return_some (wpAny_mono (h a A a.fenv ρ hp s _ E Ok AO V Rp q) (fun val s₁ q => by
    obtain ⟨v, hp₁, S₁, O₁, e₁, q⟩ := q
    exact ⟨v, hp₁, S₁.weaken, O₁, e₁, q⟩) fun _ _ x => x)
noncomputable def sRetN : ST := fun ρ hp N R => R .none hp
theorem st_retN {pos} : SoundS g n sc nm (.Return none pos) sRetN := fun a A ρ hp s N R E Ok AO FO V Rp q =>
  wpAny_Return_none ⟨.none, hp, Step.refl _ _ _, Rp.obj, rfl, q⟩
noncomputable def sExp (f : EV) : ST := fun ρ hp N R => f ρ hp fun _ hp' => N ρ hp'
theorem st_exp {e f pos} (h : SoundE g n sc nm e f) (hi : sc.kind = .function → ∀ env : Env, env.scope = sc → interactive env = false := by exact fun k env e => by (unfold interactive; rw [e, k]; rfl))
    (hs : ∀ env, swapsWith e none pos.line env = pure false := by exact fun _ => rfl) : SoundS g n sc nm (.Expr e pos) (sExp f) := fun a A ρ hp s N R E Ok AO FO V Rp q =>
  wpAny_Expr_any (wpAny_mono (h a A a.fenv ρ hp s _ E Ok AO V Rp q) (fun val s₁ q => by
    obtain ⟨v, hp₁, S₁, O₁, e₁, q⟩ := q
    exact ⟨ρ, hp₁, S₁.weaken, Rp.step S₁ O₁, V.step S₁, q⟩) fun _ _ x => x) (hi V.kind _ V.hsc) (hs _)
noncomputable def sSeq : List ST → ST
  | [], ρ, hp, N, _ => N ρ hp
  | f :: fs, ρ, hp, N, R => f ρ hp (fun ρ' hp' => sSeq fs ρ' hp' N R) R
inductive SSL (g : Gl) (n : Nat) (sc : Scope) (nm : List Str) : List Stmt → List ST → Prop
  | nil : SSL g n sc nm [] []
  | cons {s f ss fs} : SoundS g n sc nm s f → SSL g n sc nm ss fs → SSL g n sc nm (s :: ss) (f :: fs)
theorem st_seq {ss fs} (h : SSL g n sc nm ss fs) : SoundSs g n sc nm ss (sSeq fs) := fun a A ρ hp s N R E Ok AO FO V Rp q => by
  induction h generalizing ρ hp s with
  | nil => exact wpAny_execs_nil ⟨ρ, hp, Step.refl _ _ _, Rp, V, q⟩
  | @cons st f ss fs h t ih =>
    refine wpAny_execs_cons (wpAny_mono (h a A ρ hp s _ _ E Ok AO FO V Rp q) (fun fl s₁ q => ?_) fun _ _ x => x)
    cases fl with
    | next =>
      obtain ⟨ρ', hp', S, R', V', q⟩ := q
      exact wpAny_mono (ih ρ' hp' s₁ V' R' q) (fun _ _ r => SPost.comp S r) fun _ _ x => x
    | ret v => exact q
    | _ => exact q.elim
noncomputable def sIf (t : BV) (f₁ f₂ : ST) : ST := fun ρ hp N R => t ρ hp fun b hp₁ => if b = true then f₁ ρ hp₁ N R else f₂ ρ hp₁ N R
theorem st_if {t b s₁ s₂ f₁ f₂ pos} (ht : SoundB g n sc nm t b) (h₁ : SoundSs g n sc nm s₁ f₁) (h₂ : SoundSs g n sc nm s₂ f₂) : SoundS g n sc nm (.If t s₁ s₂ pos) (sIf b f₁ f₂) :=
  fun a A ρ hp s N R E Ok AO FO V Rp q => by
  refine wpAny_If (wpAny_mono (ht a A a.fenv ρ hp s _ E Ok AO V Rp q) (fun c s₁ q => ?_) fun _ _ x => x)
  obtain ⟨hp₁, S₁, O₁, q⟩ := q
  cases c with
  | true => exact wpAny_mono (h₁ a A ρ hp₁ s₁ _ _ E Ok AO FO (V.step S₁) (Rp.step S₁ O₁) q) (fun _ _ r => SPost.comp S₁.weaken r) fun _ _ x => x
  | false => exact wpAny_mono (h₂ a A ρ hp₁ s₁ _ _ E Ok AO FO (V.step S₁) (Rp.step S₁ O₁) q) (fun _ _ r => SPost.comp S₁.weaken r) fun _ _ x => x

/-- while: an invariant with a measure -/
noncomputable def sWhile (t : BV) (body : ST) : ST := fun ρ hp N R => ∃ (I : Nat → Loc → Hp → Prop) (k : Nat), I k ρ hp ∧
  ∀ k ρ hp, I k ρ hp → t ρ hp fun b hp₁ => if b = true then body ρ hp₁ (fun ρ' hp' => ∃ j, j < k ∧ I j ρ' hp') R else N ρ hp₁
theorem st_while {t b body f pos} (ht : SoundB g n sc nm t b) (h : SoundSs g n sc nm body f) : SoundS g n sc nm (.While t body [] pos) (sWhile b f) :=
  fun a A ρ hp s N R E Ok AO FO V Rp q => by
  obtain ⟨I, k, hI, turn⟩ := q
  refine wpAny_While (codeAny_whileLoop (fun k s' => ∃ ρ' hp', Step (own a.fenv) hp s hp' s' ∧ HRep g a hp' s' ∧ EnvOk a.fenv sc nm ρ' hp' s' ∧ I k ρ' hp') ?_ k ⟨ρ, hp, Step.refl _ _ _, Rp, V, hI⟩)
  rintro k s' ⟨ρ', hp', S, R', V', hI⟩
  refine wpAny_mono (ht a A a.fenv ρ' hp' s' _ _ Ok AO V' R' (turn k ρ' hp' hI)) (fun c s₁ q => ?_) fun _ _ x => x
  obtain ⟨hp₁, S₁, O₁, q⟩ := q
  have R₁ := R'.step S₁ O₁
  have V₁ := V'.step S₁
  have T := S.trans S₁.weaken
  cases c with
  | true =>
    rw [if_pos rfl] at q ⊢
    refine wpAny_mono (h a A ρ' hp₁ s₁ _ _ _ Ok AO FO V₁ R₁ q) (fun fl s₂ r => ?_) fun _ _ x => x
    cases fl with
    | next =>
      obtain ⟨ρ₂, hp₂, S₂, R₂, V₂, j, hj, hI⟩ := r
      exact ⟨j, hj, ρ₂, hp₂, T.trans S₂, R₂, V₂, hI⟩
    | ret v =>
      obtain ⟨v', hp₂, S₂, r⟩ := r
      exact ⟨v', hp₂, T.trans S₂, r⟩
    | _ => exact r.elim
  | false =>
    rw [if_neg Bool.false_ne_true] at q ⊢
    exact wpAny_execs_nil ⟨ρ', hp₁, T, R₁, V₁, q⟩
end
end Mine
namespace Mine
open PySem PySem.W PySem.Calls PyProof.Rows

noncomputable def ownerNames : List String := ["enumerate", "zip", "dict_itemiterator", "dict_reverseitemiterator", "odict_iterator", "itertools.zip_longest", "itertools.pairwise"]
/-- what the iterator object is like -/
noncomputable def ItObj (o : Obj) : Prop := ∃ T fs, o.cls = .type T ∧ ownerNames.contains T = false ∧ o.data = .fields fs

/-- an iterator I over the abstract values vs, good while chk holds of the abstract heap -/
structure Src (g : Gl) (A : Around) (I : Addr) (vs : List V) (chk : Hp → Prop) (St : Nat → Heap → Prop) : Prop where
  item : ∀ i v (s : Shared) (hp : Hp) (Q : Option Value → Shared → Prop) (E : Value → Shared → Prop), vs[i]? = some v → St i s.heap → Objs g hp s → chk hp →
    (∀ val h' tk, vOf val = some v → St (i + 1) h' → (∀ b o, b ≠ I → s.heap.get? b = some o → h'.get? b = some o) → Q (some val) { s with heap := h', toks := tk }) → wpAny g.M A (pyNext (.ref I)) Q E s
  done : ∀ (s : Shared) (hp : Hp) (Q : Option Value → Shared → Prop) (E : Value → Shared → Prop), St vs.length s.heap → Objs g hp s → chk hp →
    (∀ h' tk, (∀ b o, b ≠ I → s.heap.get? b = some o → h'.get? b = some o) → Q none { s with heap := h', toks := tk }) → wpAny g.M A (pyNext (.ref I)) Q E s
  self : ∀ i (s : Shared) (Q : Value → Shared → Prop) (E : Value → Shared → Prop), St i s.heap → Q (.ref I) s → wpAny g.M A (pyIter (.ref I)) Q E s
  frame : ∀ i h h', St i h → (∀ o, h.get? I = some o → h'.get? I = some o) → St i h'
  own : ∀ i h, St i h → ∃ o, h.get? I = some o ∧ ItObj o

section
variable {g : Gl} {A : Around} (hh : A.handled = none)
include hh

theorem Src.list {I ax : Addr} {vs : List V} : Src g A I vs (fun hp => hp ax = some (.list vs)) (fun i h => h.IsListIter I ax i) where
  item := fun i v s hp Q E hv st O hc k => by
    obtain ⟨ob, e1, e2⟩ := O _ _ hc
    obtain ⟨items, hl, hr⟩ := IsList.of e1 e2
    obtain ⟨val, g1, g2⟩ := hr.get hv
    exact wpAny_pyNext_list_item st hl.isList (by simpa using g1) fun h' st' hs => k val h' s.toks g2 st' fun b o hb e => (hs.2 b hb).trans e
  done := fun s hp Q E st O hc k => by
    obtain ⟨ob, e1, e2⟩ := O _ _ hc
    obtain ⟨items, hl, hr⟩ := IsList.of e1 e2
    refine wpAny_pyNext_list_end hh st hl.isList ?_ fun h' hs => k h' s.toks fun b o hb e => hs b o hb e
    have := hr.length; rw [Array.length_toList] at this
    rw [Array.getElem?_eq_none (Nat.le_of_eq this)]
  self := fun i s Q E st q => wpAny_pyIter_listiter st q
  frame := fun i h h' st k => st.at k
  own := fun i h ⟨o, ho, hc, hd⟩ => ⟨o, ho, _, _, hc, by decide, hd⟩

theorem Src.tup {I ax : Addr} {vs : List V} : Src g A I vs (fun hp => hp ax = some (.tup vs)) (fun i h => h.IsTupleIter I ax i) where
  item := fun i v s hp Q E hv st O hc k => by
    obtain ⟨ob, e1, e2⟩ := O _ _ hc
    obtain ⟨items, hl, hr⟩ := IsTup.of e1 e2
    obtain ⟨val, g1, g2⟩ := hr.get hv
    exact wpAny_pyNext_tuple_item st hl (by simpa using g1) fun h' st' hs => k val h' s.toks g2 st' fun b o hb e => (hs.2 b hb).trans e
  done := fun s hp Q E st O hc k => by
    obtain ⟨ob, e1, e2⟩ := O _ _ hc
    obtain ⟨items, hl, hr⟩ := IsTup.of e1 e2
    refine wpAny_pyNext_tuple_end hh st hl ?_ fun h' hs => k h' s.toks fun b o hb e => hs b o hb e
    have := hr.length; rw [Array.length_toList] at this
    rw [Array.getElem?_eq_none (Nat.le_of_eq this)]
  self := fun i s Q E st q => wpAny_pyIter_tupleiter st q
  frame := fun i h h' ⟨o, ho, r⟩ k => ⟨o, k o ho, r⟩
  own := fun i h ⟨o, ho, hc, hd⟩ => ⟨o, ho, _, _, hc, by decide, hd⟩

theorem Src.dict {I d : Addr} {ep : Nat} {es : List (Str × V)} : Src g A I (es.map fun p => V.str p.1) (fun hp => hp d = some (.dict ep es)) (fun i h => h.IsKeyIter I d i es.length ep) where
  item := fun i v s hp Q E hv st O hc k => by
    obtain ⟨ob, e1, e2⟩ := O _ _ hc
    obtain ⟨kvs', ht, hr⟩ := DictAt.of e1 e2
    rw [List.getElem?_map] at hv
    obtain ⟨p, hp', rfl⟩ := Option.map_eq_some_iff.mp hv
    have hk : (kvs'.map (·.1))[i]? = some p.1 := by rw [hr.keys, List.getElem?_map, hp']; rfl
    rw [List.getElem?_map] at hk
    obtain ⟨⟨x, u⟩, hq, e⟩ := Option.map_eq_some_iff.mp hk
    simp only at e
    subst e
    rw [← hr.length] at st
    refine wpAny_pyNext_dict_item st ht hq fun key h' hkey st' hs => ?_
    obtain ⟨t, rfl⟩ := Value.isStrOf_shape hkey
    rw [hr.length] at st'
    exact k _ h' s.toks rfl st' fun b o hb e => (hs.2 b hb).trans e
  done := fun s hp Q E st O hc k => by
    obtain ⟨ob, e1, e2⟩ := O _ _ hc
    obtain ⟨kvs', ht, hr⟩ := DictAt.of e1 e2
    rw [List.length_map] at st
    rw [← hr.length] at st
    exact wpAny_pyNext_dict_end hh st ht (List.getElem?_eq_none (Nat.le_refl _)) fun h' hs => k h' s.toks fun b o hb e => hs b o hb e
  self := fun i s Q E st q => wpAny_pyIter_keyiter st q
  frame := fun i h h' ⟨o, ho, r⟩ k => ⟨o, k o ho, r⟩
  own := fun i h ⟨o, ho, hc, hd⟩ => ⟨o, ho, _, _, hc, by decide, hd⟩

/-- a, a + c, a + 2 c .. -/
noncomputable def ranged (a c : Int) (n : Nat) : List V := (List.range n).map fun (i : Nat) => V.int (a + i * c)
theorem Src.range {I : Addr} (a c : Int) (n : Nat) : Src g A I (ranged a c n) (fun _ => True) (fun i h => IsRangeIter h I (a + (i : Nat) * c) ((n : Int) - (i : Nat)) c) where
  item := fun i v s hp Q E hv st O hc k => by
    unfold ranged at hv
    rw [List.getElem?_map] at hv
    obtain ⟨j, hj, rfl⟩ := Option.map_eq_some_iff.mp hv
    obtain ⟨hlt, e⟩ := List.getElem?_eq_some_iff.mp hj
    rw [List.length_range] at hlt
    rw [List.getElem_range] at e
    subst e
    refine (Walks.range hh I a c n).item i s Q E hlt st fun val h' tk ⟨t, hv⟩ st' hs => k val h' tk (by rw [hv]; rfl) st' fun b o hb e => hs b o (by simpa using hb) e
  done := fun s hp Q E st O hc k => by
    unfold ranged at st
    rw [List.length_map, List.length_range] at st
    exact (Walks.range hh I a c n).done s Q E st fun h' tk hs => k h' tk fun b o hb e => hs b o (by simpa using hb) e
  self := fun i s Q E st q => (Walks.range hh I a c n).self i s Q E st q
  frame := fun i h h' st k => k _ st
  own := fun i h st => ⟨_, st, _, _, rfl, by decide, rfl⟩
end

section
variable {g : Gl} {n : Nat} {sc : Scope} {nm : List Str}

theorem wpAny_notOwner {A : Around} {E : Value → Shared → Prop} {s : Shared} {t : Expr} {I : Addr} {v : Value} {o : Obj} {Q : Unit → Shared → Prop} (ho : s.heap.get? I = some o) (hi : ItObj o) (h : Q () s) :
    wpAny g.M A (letOwnedTupleGo t (.ref I) v) Q E s := by
  obtain ⟨T, fs, hc, hn, hd⟩ := hi
  have main : ∀ r : Addr, wpAny g.M A (do
      let o ← load I
      match o.cls, o.data with
      | .type n, .fields vs =>
        if ["enumerate", "zip", "dict_itemiterator", "dict_reverseitemiterator", "odict_iterator", "itertools.zip_longest", "itertools.pairwise"].contains n && vs[0]? == some (rawInt r) then
          rule "for.unpacks-the-owned-tuple"
          updateField I 0 .none
      | _, _ => pure ()) Q E s := fun r => by
    refine wpAny_bind (wpAny_load ho ?_)
    rw [hc, hd]
    show wpAny _ _ (if (ownerNames.contains T && fs[0]? == some (rawInt r)) = true then _ else _) _ _ _
    rw [hn, Bool.false_and, if_neg Bool.false_ne_true]
    exact wpAny_pure h
  unfold letOwnedTupleGo
  split
  · cases v <;> first | exact wpAny_pure h | exact main _
  · cases v <;> first | exact wpAny_pure h | exact main _
  · exact wpAny_pure h

/-- only the iterator turned, or new things came -/
theorem HRep.but {a hp I} {s : Shared} {h' : Heap} {tk : Nat} {o : Obj} (R : HRep g a hp s) (ho : s.heap.get? I = some o) (hi : ItObj o) (hI : hp I = none) (hb : a.h₀.get? I = none)
    (k : ∀ b o, b ≠ I → s.heap.get? b = some o → h'.get? b = some o) : HRep g a hp { s with heap := h', toks := tk } := by
  obtain ⟨T, fs, hc, hn, hd⟩ := hi
  obtain ⟨m, F⟩ := R.frm
  obtain ⟨oL, es, ep, hL, hLd, r⟩ := F.ns
  refine ⟨fun y oy e => ?_, ⟨m, ⟨⟨oL, es, ep, k _ _ (fun q => by rw [q, ho] at hL; cases hL; rw [hd] at hLd; cases hLd) hL, hLd, r⟩, fun b o' e => k b o' (fun q => by rw [q, hb] at e; cases e) (F.keep b o' e), F.above⟩⟩, R.nL, R.old, ?_, R.nscr, R.low⟩
  · obtain ⟨ob, e1, e2⟩ := R.obj y oy e
    exact ⟨ob, k y ob (fun q => by rw [q, hI] at e; cases e) e1, e2⟩
  · obtain ⟨us, ⟨ob, h1, h2, kk, h3⟩, h4⟩ := R.scr
    exact ⟨us, ⟨ob, k _ _ (fun q => by rw [q, ho] at h1; cases h1; rw [hd] at h3; cases h3) h1, h2, kk, h3⟩, h4⟩
theorem EnvOk.but {env hp I ρ} {s : Shared} {h' : Heap} {tk : Nat} {o : Obj} (V : EnvOk env sc nm ρ hp s) (ho : s.heap.get? I = some o) (hi : ItObj o)
    (k : ∀ b o, b ≠ I → s.heap.get? b = some o → h'.get? b = some o) : EnvOk env sc nm ρ hp { s with heap := h', toks := tk } := by
  obtain ⟨T, fs, hc, hn, hd⟩ := hi
  obtain ⟨m, ⟨oL, es, ep, hL, hLd, r⟩, hm⟩ := V.ns
  refine ⟨V.hsc, V.kind, V.glob, V.blt, V.len, V.nd, V.nL, ⟨m, ⟨oL, es, ep, k _ _ (fun q => by rw [q, ho] at hL; cases hL; rw [hd] at hLd; cases hLd) hL, hLd, r⟩, hm⟩, fun i x hi hx => ?_, V.inj, fun x c hc => ?_⟩
  · obtain ⟨c, oc, v₀, h1, h2, h3, h4, h5, h6⟩ := V.cl i x hi hx
    exact ⟨c, oc, v₀, h1, h2, h3, k _ _ (fun q => by rw [q, ho] at h4; cases h4; rw [hd] at h5; cases h5) h4, h5, h6⟩
  · obtain ⟨oc, v₀, h4, h5, h6⟩ := V.cex x c hc
    exact ⟨oc, v₀, k _ _ (fun q => by rw [q, ho] at h4; cases h4; rw [hd] at h5; cases h5) h4, h5, h6⟩
theorem Step.but {ex hp I hp'} {s₁ s : Shared} {h' : Heap} {tk : Nat} (S : Step ex hp s₁ hp' s) (hI : s₁.heap.get? I = none) (k : ∀ b o, b ≠ I → s.heap.get? b = some o → h'.get? b = some o) :
    Step ex hp s₁ hp' { s with heap := h', toks := tk } := by
  have ne : ∀ b, s₁.heap.get? b ≠ none → b ≠ I := fun b hb q => hb (q ▸ hI)
  refine ⟨fun b o e n x => k b o (ne b (by rw [e]; exact fun x => nomatch x)) (S.keep b o e n x), fun b e n => ?_, S.dom, S.gens, S.os⟩
  have h := S.live b e n
  cases q : s.heap.get? b with
  | none => exact absurd q h
  | some o => show h'.get? b ≠ none; rw [k b o (ne b e) q]; exact fun x => nomatch x

noncomputable def forL (t : TG) (body : ST) (chk : Hp → Prop) : List V → ST
  | [], ρ, hp, N, R => chk hp ∧ N ρ hp
  | v :: vs, ρ, hp, N, R => chk hp ∧ t v ρ hp fun ρ' => body ρ' hp (fun ρ'' hp'' => forL t body chk vs ρ'' hp'' N R) R

/-- the loop itself, behind the call of iter -/
theorem for_loop {tx : Expr} {t : TG} {body : List Stmt} {f : ST} (ht : SoundT g n sc nm tx t) (hb : SoundSs g n sc nm body f) {a : Act} {A : Around} {ρ hp N R} {s₁ s₂ : Shared} {I : Addr} {vs : List V} {chk : Hp → Prop} {St : Nat → Heap → Prop} {E : Value → Shared → Prop}
    (W : Src g A I vs chk St) (Ok : a.Ok g) (AO : AOk a n A) (FO : FOk a) (V₁ : EnvOk a.fenv sc nm ρ hp s₁) (R₁ : HRep g a hp s₁) (hI : s₁.heap.get? I = none) (kp : ∀ b o, s₁.heap.get? b = some o → s₂.heap.get? b = some o) (hgn : s₂.gens = s₁.gens) (hos : s₂.os = s₁.os)
    (st : St 0 s₂.heap) (q : forL t f chk vs ρ hp N R) :
    codeAny g.M A (.forLoop tx (.ref I) body [] a.fenv) (fun r s' => match r with | .ok fl => SPost g a a.fenv sc nm hp s₁ N R fl s' | .error e => cameBackBy g.M A a.fenv E e s') s₂ := by
  have hIh : a.h₀.get? I = none := by
    cases e : a.h₀.get? I with
    | none => rfl
    | some o => obtain ⟨m, F⟩ := R₁.frm; rw [F.keep _ _ e] at hI; cases hI
  have hIown : I ∉ own a.fenv := fun hm => by
    rcases mem_own.mp hm with e | ⟨x, e⟩
    · obtain ⟨m, ⟨oL, _, _, hL, _⟩, _⟩ := V₁.ns
      rw [← e, hI] at hL; cases hL
    · obtain ⟨o, v₀, h1, _⟩ := V₁.cex x I e
      rw [hI] at h1; cases h1
  have hI0 : hp I = none := R₁.obj.fresh hI
  refine codeAny_forLoop_any (fun k s' => ∃ (i : Nat) (rest : List V) (ρ' : Loc) (hp' : Hp), vs.drop i = rest ∧ i + rest.length = vs.length ∧ k = rest.length + 1 ∧ St i s'.heap ∧
    Step (own a.fenv) hp s₁ hp' s' ∧ HRep g a hp' s' ∧ EnvOk a.fenv sc nm ρ' hp' s' ∧ hp' I = none ∧ forL t f chk rest ρ' hp' N R) ?_ (vs.length + 1)
    ⟨0, vs, ρ, hp, rfl, by simp, rfl, st, Step.kept kp hgn hos, R₁.pushed kp hgn hos, V₁.pushed kp hgn hos, hI0, q⟩
  rintro k s' ⟨i, rest, ρ', hp', hdrop, hlen, rfl, st', S, R', V', hI', q⟩
  obtain ⟨oI, hoI, hiI⟩ := W.own i _ st'
  cases rest with
  | nil =>
    obtain ⟨hc, q⟩ := q
    have : i = vs.length := by simpa using hlen
    subst this
    refine W.done s' hp' _ _ st' R'.obj hc fun h' tk ks => ?_
    exact wpAny_execs_nil ⟨ρ', hp', S.but hI ks, R'.but hoI hiI hI' hIh ks, V'.but hoI hiI ks, q⟩
  | cons v rest =>
    obtain ⟨hc, q⟩ := q
    have hv : vs[i]? = some v := by
      have := congrArg (·[0]?) hdrop
      simpa [List.getElem?_drop] using this
    refine W.item i v s' hp' _ _ hv st' R'.obj hc fun val h' tk hval st₂ ks => ?_
    have S₂ := S.but (h' := h') (tk := tk) hI ks
    have R₂ := R'.but (tk := tk) hoI hiI hI' hIh ks
    have V₂ := V'.but (tk := tk) hoI hiI ks
    obtain ⟨o₂, ho₂, hi₂⟩ := W.own (i + 1) _ st₂
    refine wpAny_notOwner (s := { s' with heap := h', toks := tk }) ho₂ hi₂ ?_
    refine wpAny_mono (ht a A ρ' hp' _ val v _ _ Ok AO FO V₂ R₂ hval q) (fun _ s₃ r => ?_) fun _ _ x => x
    obtain ⟨ρ₃, ⟨S₃, R₃, V₃⟩, q⟩ := r
    refine wpAny_mono (hb a A ρ₃ hp' s₃ _ _ _ Ok AO FO V₃ R₃ q) (fun fl s₄ r => ?_) fun _ _ x => x
    cases fl with
    | next =>
      obtain ⟨ρ₄, hp₄, S₄, R₄, V₄, q⟩ := r
      have S₃₄ := S₃.trans S₄
      refine ⟨rest.length + 1, by simp, i + 1, rest, ρ₄, hp₄, ?_, ?_, rfl, ?_, (S₂.trans S₃).trans S₄, R₄, V₄, S₃₄.out ho₂ hI', q⟩
      · have := congrArg List.tail hdrop
        rw [List.tail_drop] at this; simpa using this
      · simp at hlen; lia
      · exact W.frame (i + 1) h' s₄.heap st₂ fun o e => S₃₄.keep I o e hI' hIown
    | ret u =>
      obtain ⟨u', hp₄, S₄, r⟩ := r
      exact ⟨u', hp₄, (S₂.trans S₃).trans S₄, r⟩
    | _ => exact r.elim
end
end Mine
namespace Mine
open PySem PySem.W PySem.Calls PyProof.Rows

section
variable {g : Gl} {n : Nat} {sc : Scope} {nm : List Str}

/-- from the iterable's value to the loop -/
theorem for_from {tx : Expr} {t : TG} {body : List Stmt} {f : ST} (ht : SoundT g n sc nm tx t) (hb : SoundSs g n sc nm body f) {a : Act} {A : Around} {ρ hp N R} {s s₁ : Shared} {vs : List V} {chk : Hp → Prop} {x : Value} {E : Value → Shared → Prop} {hp₀}
    (hit : ∀ (T : Value → Shared → Prop), (∀ I h' St, s₁.heap.get? I = none → (∀ b o, s₁.heap.get? b = some o → h'.get? b = some o) → Src g A I vs chk St → St 0 h' → T (.ref I) { s₁ with heap := h' }) → wpAny g.M A (pyIter x) T E s₁)
    (Ok : a.Ok g) (AO : AOk a n A) (FO : FOk a) (S : Step (own a.fenv) hp₀ s hp s₁) (V : EnvOk a.fenv sc nm ρ hp s₁) (Rp : HRep g a hp s₁) (q : forL t f chk vs ρ hp N R) :
    wpAny g.M A (pyIter x) (fun it s₂ => codeAny g.M A (.forLoop tx it body [] a.fenv) (fun r s' => match r with | .ok fl => SPost g a a.fenv sc nm hp₀ s N R fl s' | .error e => cameBackBy g.M A a.fenv E e s') s₂) E s₁ := by
  refine hit _ fun I h' St hI kp W st => ?_
  refine codeAny_mono (for_loop (E := E) ht hb W Ok AO FO V Rp hI (s₂ := { s₁ with heap := h' }) kp rfl rfl st q) fun r s' h => ?_
  cases r with
  | ok fl => exact SPost.comp S h
  | error e => exact h

noncomputable def forK (t : TG) (body : ST) (ρ : Loc) (N : Loc → Hp → Prop) (R : V → Hp → Prop) : V → Hp → Prop
  | .ref x, hp₁ => (match hp₁ x with
    | some (.list vs) => forL t body (fun h => h x = some (.list vs)) vs ρ hp₁ N R
    | some (.tup vs) => forL t body (fun h => h x = some (.tup vs)) vs ρ hp₁ N R
    | some (.dict ep es) => forL t body (fun h => h x = some (.dict ep es)) (es.map fun p => V.str p.1) ρ hp₁ N R
    | _ => False)
  | _, _ => False
noncomputable def sFor (t : TG) (f : EV) (body : ST) : ST := fun ρ hp N R => f ρ hp (forK t body ρ N R)

theorem kept_push {h : Heap} (o : Obj) : ∀ b ob, h.get? b = some ob → (h.push o).get? b = some ob := fun b ob e => Heap.get?_push_of_some _ e

theorem iter_value {a : Act} {A : Around} {hp : Hp} {s : Shared} {E : Value → Shared → Prop} (AO : AOk a n A) (R : HRep g a hp s) {x : Addr} {vs : List V} {chk : Hp → Prop}
    (h : (hp x = some (.list vs) ∧ chk = fun h => h x = some (.list vs)) ∨ (hp x = some (.tup vs) ∧ chk = fun h => h x = some (.tup vs)) ∨ ∃ ep es, hp x = some (.dict ep es) ∧ chk = (fun h => h x = some (.dict ep es)) ∧ vs = es.map fun p => V.str p.1) :
    ∀ (T : Value → Shared → Prop), (∀ I h' St, s.heap.get? I = none → (∀ b o, s.heap.get? b = some o → h'.get? b = some o) → Src g A I vs chk St → St 0 h' → T (.ref I) { s with heap := h' }) → wpAny g.M A (pyIter (.ref x)) T E s := fun T k => by
  rcases h with ⟨hx, rfl⟩ | ⟨hx, rfl⟩ | ⟨ep, es, hx, rfl, rfl⟩
  · obtain ⟨ob, e1, e2⟩ := R.obj _ _ hx
    obtain ⟨items, hl, hr⟩ := IsList.of e1 e2
    exact wpAny_pyIter_list hl.isList (k _ _ _ (size_none _) (kept_push _) (Src.list AO.hd) ⟨_, Heap.get?_push_size _ rfl, rfl, rfl⟩)
  · obtain ⟨ob, e1, e2⟩ := R.obj _ _ hx
    obtain ⟨items, hl, hr⟩ := IsTup.of e1 e2
    exact wpAny_pyIter_tuple hl (k _ _ _ (size_none _) (kept_push _) (Src.tup AO.hd) ⟨_, Heap.get?_push_size _ rfl, rfl, rfl⟩)
  · obtain ⟨ob, e1, e2⟩ := R.obj _ _ hx
    obtain ⟨kvs', ht, hr⟩ := DictAt.of e1 e2
    have low : (x == sysModules) = false := beq_false_of_ne (Nat.ne_of_gt (Nat.lt_trans (by decide : (1 : Nat) < 4) (R.low x (by rw [hx]; exact fun x => nomatch x))))
    refine wpAny_pyIter_dict low ht (k _ _ _ (size_none _) (kept_push _) (Src.dict (ep := ep) (es := es) AO.hd) ⟨_, Heap.get?_push_size _ rfl, rfl, ?_⟩)
    rw [hr.length]; rfl

theorem st_for {tx it : Expr} {t : TG} {f : EV} {body : List Stmt} {fb : ST} {pos} (h : SoundE g n sc nm it f) (ht : SoundT g n sc nm tx t) (hb : SoundSs g n sc nm body fb)
    (hs : ∀ env x, foldedSetIterable it env x = pure x := by exact fun _ _ => rfl) : SoundS g n sc nm (.For tx it body [] pos) (sFor t f fb) := fun a A ρ hp s N R E Ok AO FO V Rp q => by
  refine wpAny_For (wpAny_mono (h a A a.fenv ρ hp s _ E Ok AO V Rp q) (fun val s₁ q => ?_) fun _ _ x => x) (hs _)
  obtain ⟨v, hp₁, S₁, O₁, e₁, q⟩ := q
  have R₁ := Rp.step S₁ O₁
  unfold forK at q
  split at q
  · rename_i x
    obtain rfl := vOf_ref e₁
    split at q
    · rename_i vs hx
      exact for_from ht hb (iter_value AO R₁ (.inl ⟨hx, rfl⟩)) Ok AO FO S₁.weaken (V.step S₁) R₁ q
    · rename_i vs hx
      exact for_from ht hb (iter_value AO R₁ (.inr (.inl ⟨hx, rfl⟩))) Ok AO FO S₁.weaken (V.step S₁) R₁ q
    · rename_i ep es hx
      exact for_from ht hb (iter_value AO R₁ (.inr (.inr ⟨ep, es, hx, rfl, rfl⟩))) Ok AO FO S₁.weaken (V.step S₁) R₁ q
    · exact q.elim
  · exact q.elim

/-- a call by name, up to the call -/
theorem call_eval {x : Str} {fv : Value} {e es fs np pos} (hN : NameIs g x fv) (hx : sc.names.lookup x = some .globalImplicit) (hk : keepOk g.K fv = true)
    (h : SL g n sc nm (e :: es) fs) (he : ∀ env, eval (.Call (.Name x np) (e :: es) [] pos) env = (do callWith pos (← eval (.Name x np) env) [] (backTo pos (starEach (e :: es) env)) (backToKw pos (keywordEach [] env))))
    {a : Act} {A : Around} {env : Env} {ρ hp s} {P : List V → Hp → Prop} {T : Value → Shared → Prop} {E : Value → Shared → Prop} (Ok : a.Ok g) (AO : AOk a n A) (V : EnvOk env sc nm ρ hp s) (R : HRep g a hp s) (q : cAll fs ρ hp P)
    (k : ∀ vals vs hp₁ s₁, Step [] hp s hp₁ s₁ → HRep g a hp₁ s₁ → EnvOk env sc nm ρ hp₁ s₁ → VRs vals vs → P vs hp₁ → wpAny g.M A (call fv vals) T E s₁) :
    wpAny g.M A (eval (.Call (.Name x np) (e :: es) [] pos) env) T E s := by
  refine Call_ (name_eval hN hx Ok V R ?_) (he env)
  have hp1 : PlainX e := by cases h with | cons _ p _ => exact p
  have hpl : (backTo pos (starEach es env)).any (·.1) = false := by cases h with | cons _ _ t => exact t.starPlain env pos
  have KX : g.K.In s.heap := let ⟨m, F⟩ := R.frm; Ok.kin.keeps F.keep
  refine callWith_any hk KX ?_ (hp1 env es) hpl
  refine wpAny_mono (spliced_all h Ok AO V R q) (fun vals s₁ x => ?_) fun _ _ x => x
  obtain ⟨vs, hp₁, S₁, O₁, e₁, _, q⟩ := x
  have R₁ := R.step S₁ O₁
  obtain ⟨m, F₁⟩ := R₁.frm
  exact ⟨Ok.kin.keeps F₁.keep, k vals vs hp₁ s₁ S₁ R₁ (V.step S₁) e₁ q⟩

/-- for .. in range(..) -/
noncomputable def rangeOf : List V → Option (Int × Int × Nat)
  | [.int b] => @ite _ (-10 ≤ b ∧ b < 100000) (Classical.propDecidable _) (some (0, 1, b.toNat)) none
  | [.int a, .int b, .int c] => @ite _ (c = -1 ∧ -10 ≤ a ∧ a < 100000 ∧ -10 ≤ b ∧ b < 100000) (Classical.propDecidable _) (some (a, -1, (a - b).toNat)) none
  | _ => none
noncomputable def rngK (t : TG) (body : ST) (ρ : Loc) (N : Loc → Hp → Prop) (R : V → Hp → Prop) : List V → Hp → Prop := fun vs hp₁ => match rangeOf vs with
  | some (a, c, k) => forL t body (fun _ => True) (ranged a c k) ρ hp₁ N R
  | none => False
noncomputable def sForR (t : TG) (fs : List EV) (body : ST) : ST := fun ρ hp N R => cAll fs ρ hp (rngK t body ρ N R)

theorem rs_up (b : Int) : Builtin.Range.rangeSize 0 b 1 = (b.toNat : Int) := by
  unfold Builtin.Range.rangeSize
  rw [if_pos (by decide), Int.ediv_one]
  split <;> lia
theorem rs_down (a b : Int) : Builtin.Range.rangeSize a b (-1) = ((a - b).toNat : Int) := by
  unfold Builtin.Range.rangeSize
  rw [if_neg (by decide), show (-(-1) : Int) = 1 from rfl, Int.ediv_one]
  split <;> lia
theorem fits_small {i : Int} (h1 : -1000000 ≤ i) (h2 : i ≤ 1000000) : Builtin.Range.rangeFitsLong i = true := by
  unfold Builtin.Range.rangeFitsLong
  rw [Bool.and_eq_true, decide_eq_true_eq, decide_eq_true_eq]
  constructor
  · exact Int.le_trans (by decide) h1
  · exact Int.lt_of_le_of_lt h2 (by decide)
theorem small_of {a b c : Int} (hc : c = 1 ∨ c = -1) (ha1 : -10 ≤ a) (ha2 : a < 100000) (hb1 : b < 100000) (hb2 : -10 ≤ b) : Builtin.Range.small a b c = true := by
  have hs : Builtin.Range.rangeSize a b c ≤ 1000000 ∧ 0 ≤ Builtin.Range.rangeSize a b c := by
    rcases hc with rfl | rfl
    · unfold Builtin.Range.rangeSize; rw [if_pos (by decide), Int.ediv_one]; split <;> lia
    · rw [rs_down]; lia
  unfold Builtin.Range.small
  rw [fits_small (by lia) (by lia), fits_small (i := b) (by lia) (by lia), fits_small (i := c) (by lia) (by lia), fits_small (i := Builtin.Range.rangeSize a b c) (by lia) (by lia)]
  simp only [Bool.true_and, Bool.or_eq_true]
  right
  split
  · exact fits_small (by lia) (by lia)
  · exact fits_small (by lia) (by lia)

theorem st_forR {x : Str} {tx e : Expr} {es : List Expr} {fs : List EV} {t : TG} {body : List Stmt} {fb : ST} {np p2 pos} (hN : NameIs g x (.type "range")) (hx : sc.names.lookup x = some .globalImplicit) 
    (h : SL g n sc nm (e :: es) fs) (ht : SoundT g n sc nm tx t) (hb : SoundSs g n sc nm body fb)
    (he : ∀ env, eval (.Call (.Name x np) (e :: es) [] p2) env = (do callWith p2 (← eval (.Name x np) env) [] (backTo p2 (starEach (e :: es) env)) (backToKw p2 (keywordEach [] env))) := by exact fun _ => rfl)
    (hs : ∀ env v, foldedSetIterable (.Call (.Name x np) (e :: es) [] p2) env v = pure v := by exact fun _ _ => rfl) : SoundS g n sc nm (.For tx (.Call (.Name x np) (e :: es) [] p2) body [] pos) (sForR t fs fb) := fun a A ρ hp s N R E Ok AO FO V Rp q => by
  refine wpAny_For (call_eval hN hx rfl h he Ok AO V Rp q fun vals vs hp₁ s₁ S₁ R₁ V₁ hv q => ?_) (hs _)
  unfold rngK at q
  cases hr : rangeOf vs with
  | none => rw [hr] at q; exact q.elim
  | some acn =>
    obtain ⟨a₀, c, k⟩ := acn
    rw [hr] at q
    unfold rangeOf at hr
    split at hr
    · rename_i b
      split at hr
      · rename_i hlt
        simp only [Option.some.injEq, Prod.mk.injEq] at hr
        obtain ⟨rfl, rfl, rfl⟩ := hr
        obtain ⟨val, rfl, e1⟩ := vrs1 hv
        obtain ⟨u, rfl⟩ := vOf_int e1
        refine call_range_1 ?_
        have kp := kept_push (h := s₁.heap) { cls := .type "range", data := .fields #[.int 0 s₁.toks, .int b u, .int 1 (s₁.toks + 1)] }
        have S₂ : Step (own a.fenv) hp s hp₁ { s₁ with heap := s₁.heap.push { cls := .type "range", data := .fields #[.int 0 s₁.toks, .int b u, .int 1 (s₁.toks + 1)] }, toks := s₁.toks + 1 + 1 } := S₁.weaken.trans (Step.kept kp rfl rfl)
        refine for_from ht hb (fun T k' => ?_) Ok AO FO S₂ (V₁.pushed (s' := { s₁ with heap := s₁.heap.push _, toks := s₁.toks + 1 + 1 }) kp rfl rfl) (R₁.pushed (s' := { s₁ with heap := s₁.heap.push _, toks := s₁.toks + 1 + 1 }) kp rfl rfl) q
        refine wpAny_pyIter_range (Heap.get?_push_size _ rfl) (small_of (c := 1) (.inl rfl) (by decide) (by decide) hlt.2 hlt.1) (k' _ _ _ (size_none _) (kept_push _) (Src.range AO.hd 0 1 b.toNat) ?_)
        rw [rs_up]
        exact Heap.get?_push_size _ rfl
      · cases hr
    · rename_i a₁ b c₁
      split at hr
      · rename_i hlt
        obtain ⟨rfl, ha1, ha2, hb1, hb2⟩ := hlt
        simp only [Option.some.injEq, Prod.mk.injEq] at hr
        obtain ⟨rfl, rfl, rfl⟩ := hr
        obtain ⟨va, r, rfl, e1, r1⟩ := hv.cons_inv
        obtain ⟨vb, vc, rfl, e2, e3⟩ := vrs2 r1
        obtain ⟨u, rfl⟩ := vOf_int e1
        obtain ⟨u', rfl⟩ := vOf_int e2
        obtain ⟨u'', rfl⟩ := vOf_int e3
        refine call_range_3 (by decide) ?_ (.inl ?_)
        · have kp := kept_push (h := s₁.heap) { cls := .type "range", data := .fields #[.int a₁ u, .int b u', .int (-1) u''] }
          have S₂ : Step (own a.fenv) hp s hp₁ { s₁ with heap := s₁.heap.push { cls := .type "range", data := .fields #[.int a₁ u, .int b u', .int (-1) u''] }, toks := s₁.toks } := S₁.weaken.trans (Step.kept kp rfl rfl)
          refine for_from ht hb (fun T k' => ?_) Ok AO FO S₂ (V₁.pushed (s' := { s₁ with heap := s₁.heap.push _, toks := s₁.toks }) kp rfl rfl) (R₁.pushed (s' := { s₁ with heap := s₁.heap.push _, toks := s₁.toks }) kp rfl rfl) q
          refine wpAny_pyIter_range (Heap.get?_push_size _ rfl) (small_of (c := -1) (.inr rfl) ha1 ha2 hb2 hb1) (k' _ _ _ (size_none _) (kept_push _) (Src.range AO.hd a₁ (-1) (a₁ - b).toNat) ?_)
          rw [rs_down]
          have e : a₁ + ((0 : Nat) : Int) * (-1) = a₁ := by lia
          rw [e]
          exact Heap.get?_push_size _ rfl
        · have e : ∀ z : Int, Builtin.divisionGoesByPylong z (-1) = false := fun z => by
            unfold Builtin.divisionGoesByPylong
            exact Bool.and_eq_false_iff.mpr (.inl (show decide (((if ((-1 : Int) == 0) = true then 0 else (-1 : Int).natAbs.log2 / 30 + 1)) > 300) = false by decide))
          exact e _
      · cases hr
    · cases hr
end
end Mine
namespace Mine
open PySem PySem.W PySem.Calls PyProof.Rows

theorem owner_rv : Manifest.owners.lookup (String.ofList ['d', 'e', 's', 'r', 'e', 'v', 'e', 'r'].reverse) = some Manifest.sig_reversed := by kernel_rfl
theorem slot_rv_next : Slot "reversed" "__next__" "reversed.__next__" :=
  .of (owner := "reversed") (n := "__next__") (by rw [typeLookup_type, builtinLookup_eq_fast]; kernel_rfl) (by decide +kernel) (by decide +kernel) (by decide +kernel)
    (by first | exact .inl (by decide +kernel) | exact .inr (by decide +kernel)) (by rw [isSubtype_type]; kernel_rfl)
theorem entry_rv_next : entryFor table "reversed.__next__" = some Builtin.«reversed.__next__» := entryFor_of_tree (by kernel_rfl)
theorem args_rv_next (a : Value) : argsOk "reversed.__next__" ⟨[a], []⟩ := by
  unfold argsOk; rw [signature?_of (id := "reversed.__next__") (n := ['_', '_', 't', 'x', 'e', 'n', '_', '_']) (o := ['d', 'e', 's', 'r', 'e', 'v', 'e', 'r']) (by kernel_rfl) owner_rv]; kernel_rfl
theorem slot_rv_iter : Slot "reversed" "__iter__" "reversed.__iter__" :=
  .of (owner := "reversed") (n := "__iter__") (by rw [typeLookup_type, builtinLookup_eq_fast]; kernel_rfl) (by decide +kernel) (by decide +kernel) (by decide +kernel)
    (by first | exact .inl (by decide +kernel) | exact .inr (by decide +kernel)) (by rw [isSubtype_type]; kernel_rfl)
theorem args_rv_iter (a : Value) : argsOk "reversed.__iter__" ⟨[a], []⟩ := by
  unfold argsOk; rw [signature?_of (id := "reversed.__iter__") (n := ['_', '_', 'r', 'e', 't', 'i', '_', '_']) (o := ['d', 'e', 's', 'r', 'e', 'v', 'e', 'r']) (by kernel_rfl) owner_rv]; kernel_rfl
theorem entry_rv_iter : entryFor table "reversed.__iter__" = some Builtin.«dict_keyiterator.__iter__» :=
  entryFor_alias (id' := "dict_keyiterator.__iter__") (by kernel_rfl) (by first | rfl | decide +kernel | (unfold String.splitOn; simp +decide [String.splitOnAux])) (by decide +kernel) (by kernel_rfl)
theorem slot_rv_init : Slot "reversed" "__init__" "object.__init__" :=
  .of (owner := "object") (n := "__init__") (by rw [typeLookup_type, builtinLookup_eq_fast]; kernel_rfl) (by decide +kernel) (by decide +kernel) (by decide +kernel)
    (by first | exact .inl (by decide +kernel) | exact .inr (by decide +kernel)) (by rw [isSubtype_type]; kernel_rfl)
theorem called_rv : TypeCalled "reversed" "reversed.__new__" "object.__init__" :=
  ⟨by decide +kernel, F.create_reversed, ⟨_, _, F.mro_reversed⟩, F.made_reversed, F.plain_reversed_new, F.sub_reversed_self, slot_rv_init⟩
theorem no_tuple_reversed : typeLookup (.type "tuple") "__reversed__" = pure none := by rw [typeLookup_type, builtinLookup_eq_fast]; kernel_rfl

noncomputable def IsRv (h : Heap) (I t : Addr) (i : Int) : Prop := h.get? I = some { cls := .type "reversed", data := .fields #[.ref t, rawInt i] }
theorem IsRv.typeIs {s : Shared} {I t i} (x : IsRv s.heap I t i) : s.TypeIs (.ref I) "reversed" := ⟨_, x, rfl⟩

section
variable {prog : Program} {w : World} {A : Around} {E : Value → Shared → Prop} {s : Shared}
theorem rv_new {t : Addr} {items : Array Value} (hsz : items.size < 1000000) : MeetsIn prog w (Builtin.«reversed.__new__» ⟨[.type "reversed", .ref t], []⟩)
    (fun A R s => IsTup s.heap t items ∧ ∀ tk, R (.ok (.ret (.ref s.heap.objs.size))) { s with heap := s.heap.push { cls := .type "reversed", data := .fields #[.ref t, rawInt ((items.size : Int) - 1)] }, toks := tk }) :=
  .of_wp fun A R s h => by
    obtain ⟨ht, h⟩ := h
    unfold Builtin.«reversed.__new__»
    refine wpAny_bind (wpAny_of_eq (newClass_reversed _) ?_)
    try dsimp only
    refine wpAny_bind (wpAny_of_eq (a := ()) (by first | rfl | kernel_rfl) ?_)
    refine wpAny_bind (wpAny_of_eq (a := ()) (by first | rfl | kernel_rfl) ?_)
    try dsimp only
    refine wpAny_bind (wpAny_specialOf ht.typeIs no_tuple_reversed ?_)
    try dsimp only
    refine wpAny_bind (m := _) ?_
    refine wpAny_bind (m := isInstance (.ref t) (.type "dict")) (wpAny_isInstance (T := "tuple") (b := false) ht.typeIs PySem.F.sub_tuple_dict ?_)
    rw [if_neg Bool.false_ne_true]
    refine wpAny_bind (m := specialOf (.ref t) "__getitem__") (wpAny_specialOf ht.typeIs slot_tuple_getitem.lookup ?_)
    try dsimp only
    rw [if_pos (by decide)]
    first | refine wpAny_pure ?_ | refine wpAny_bind (wpAny_pure ?_)
    simp only [Bool.not_true, Bool.false_eq_true, if_false]
    refine wpAny_bind (len_tuple ht (by lia) ?_)
    refine wpAny_bind (wpAny_of_eq (a := some (items.size : Int)) rfl ?_)
    try dsimp only
    refine wpAny_bind (m := Builtin.SmallTypes.newRecord _ _) ?_
    show wpAny _ _ (newObj (.type "reversed") (.fields #[.ref t, rawInt ((items.size : Int) - 1)])) _ _ _
    exact wpAny_newObj_type (wpAny_pure ⟨_, rfl, h _⟩) (by size_fits)

theorem call_rv {t : Addr} {items : Array Value} {Q : Value → Shared → Prop} (ht : IsTup s.heap t items) (hsz : items.size < 1000000)
    (h : ∀ tk, Q (.ref s.heap.objs.size) { s with heap := s.heap.push { cls := .type "reversed", data := .fields #[.ref t, rawInt ((items.size : Int) - 1)] }, toks := tk }) : wpAny (model prog w) A (call (.type "reversed") [.ref t]) Q E s :=
  callType_newIn called_rv (by decide) (F.typeCall_reversed_1 _) (F.newCall_reversed_1 _) (fun obj => PySem.F.args_object_init_2 obj _) F.entry_reversed_new (rv_new hsz) ⟨ht, fun tk => ⟨⟨_, Heap.get?_push_size _ rfl, rfl⟩, h tk⟩⟩

theorem rv_iter {I t : Addr} {i : Int} {Q : Value → Shared → Prop} (hit : IsRv s.heap I t i) (h : Q (.ref I) s) : wpAny (model prog w) A (pyIter (.ref I)) Q E s := by
  refine wpAny_pyIter_slot hit.typeIs slot_rv_iter (wpAny_call_entry slot_rv_iter hit.typeIs entry_rv_iter ?_ (args_rv_iter _))
  show wpAny _ _ (ret (.ref I)) _ _ s
  exact wpAny_pure ⟨_, rfl, "reversed", _, hit.typeIs, slot_rv_next.lookup, h⟩

theorem rv_item {I t : Addr} {i : Nat} {items : Array Value} {x : Value} {Q : Option Value → Shared → Prop} (hit : IsRv s.heap I t (i : Int)) (ht : IsTup s.heap t items) (hne : t ≠ I) (hi : i < 1000000) (hx : items[i]? = some x)
    (hQ : ∀ h' tk, IsRv h' I t ((i : Int) - 1) → Heap.SameBut I s.heap h' → Q (some x) { s with heap := h', toks := tk }) : wpAny (model prog w) A (pyNext (.ref I)) Q E s := by
  unfold pyNext
  refine wpAny_bind (wpAny_attempt (wpAny_callSpecial?_slot (name := Str.ofString "__next__") hit.typeIs slot_rv_next
    (wpAny_call_entry slot_rv_next hit.typeIs entry_rv_next ?_ (args_rv_next _))))
  unfold Builtin.«reversed.__next__»
  refine wpAny_bind (wpAny_of_eq (a := (Value.ref I, [])) rfl ?_)
  try dsimp only
  refine wpAny_bind (wpAny_field hit rfl (x := .ref t) rfl ?_)
  refine wpAny_bind (wpAny_field hit rfl (x := rawInt (i : Int)) rfl ?_)
  show wpAny _ _ (if (i : Int) < 0 then _ else _) _ _ s
  rw [if_neg (by lia)]
  refine wpAny_bind (wpAny_specialOf ht.typeIs slot_tuple_getitem.lookup ?_)
  simp only [Option.isNone_some, Bool.false_eq_true, if_false]
  refine wpAny_bind (wpAny_mkInt ?_)
  have hlt : i < items.size := (Array.getElem?_eq_some_iff.mp hx).1
  have hidx : seqIndex? (i : Int) items.size = some i := by
    have hn : ¬ (i : Int) < 0 := by lia
    have h2 : (decide (0 ≤ (i : Int)) && decide ((i : Int) < (items.size : Int))) = true := by
      rw [Bool.and_eq_true, decide_eq_true_eq, decide_eq_true_eq]; lia
    simp only [seqIndex?, hn, if_false, h2, if_true, Int.toNat_natCast]
  refine wpAny_bind (wpAny_attempt (getItem_tuple ht (by lia) (by lia) hidx hx ?_))
  dsimp only
  refine wpAny_bind (wpAny_field hit rfl (x := rawInt (i : Int)) rfl ?_)
  show wpAny _ _ (setField (.ref I) 1 (rawInt ((i : Int) - 1)) >>= _) _ _ _
  refine wpAny_bind (wpAny_setField hit rfl (by simp) ?_)
  refine wpAny_pure ⟨x, rfl, wpAny_pure (hQ _ _ ?_ (Heap.SameBut.update ..))⟩
  have := Heap.get?_update_self (Obj.mapFields (·.setIfInBounds 1 (rawInt ((i : Int) - 1)))) hit rfl
  exact this

theorem rv_end {I t : Addr} {Q : Option Value → Shared → Prop} (hh : A.handled = none) (hit : IsRv s.heap I t (-1))
    (hQ : ∀ h', Heap.ExtBut I s.heap h' → Q none { s with heap := h' }) : wpAny (model prog w) A (pyNext (.ref I)) Q E s := by
  unfold pyNext
  refine wpAny_bind (wpAny_attempt (wpAny_callSpecial?_slot (name := Str.ofString "__next__") hit.typeIs slot_rv_next
    (wpAny_call_entry slot_rv_next hit.typeIs entry_rv_next ?_ (args_rv_next _))))
  unfold Builtin.«reversed.__next__»
  refine wpAny_bind (wpAny_of_eq (a := (Value.ref I, [])) rfl ?_)
  try dsimp only
  refine wpAny_bind (wpAny_field hit rfl (x := .ref t) rfl ?_)
  refine wpAny_bind (wpAny_field hit rfl (x := rawInt (-1)) rfl ?_)
  show wpAny _ _ (if (-1 : Int) < 0 then _ else _) _ _ s
  rw [if_pos (by decide)]
  refine wpAny_bind (wpAny_rule ?_)
  refine wpAny_bind (m := _) ?_
  refine wpAny_bind (m := setField (.ref I) 1 (rawInt (-1))) (wpAny_setField hit rfl (by simp) ?_)
  have h2 := Heap.get?_update_self (Obj.mapFields (·.setIfInBounds 1 (rawInt (-1)))) hit rfl
  refine wpAny_setField (a := I) (o := { cls := .type "reversed", data := .fields #[.ref t, rawInt (-1)] }) (vs := #[.ref t, rawInt (-1)]) h2 rfl (by simp) ?_
  refine wpAny_bind (m := _) ?_
  unfold Builtin.SmallTypes.stopIteration
  refine wpAny_bind ?_
  simp only [newExc, newTuple]
  refine wpAny_bind (wpAny_newObj_type ?_ (by size_fits))
  refine wpAny_bind (m := firstArgMember _ _) (wpAny_of_eq (a := Value.none) (by first | rfl | (simp only [firstArgMember]; rfl)) ?_)
  refine wpAny_newObj_type ?_ (by size_fits)
  simp only [raiseNew]
  refine wpAny_bind (wpAny_handled ?_)
  first | rw [show A.in1.handled = none from hh] | rw [hh]
  refine wpAny_bind (wpAny_pure (wpAny_throw ?_))
  refine wpAny_bind (wpAny_isInstance (T := "StopIteration") (b := true) ⟨_, Heap.get?_push_size _ rfl, rfl⟩ isSubtype_stop ?_)
  exact wpAny_pure (hQ _ (((((Heap.SameBut.update ..).trans (Heap.SameBut.update ..)).extBut).push _).push _))
end

section
variable {g : Gl} {A : Around} {n : Nat} {sc : Scope} {nm : List Str}
theorem Src.rev (hh : A.handled = none) {I ax : Addr} {vs : List V} (hne : ax ≠ I) (hsz : vs.length < 1000000) :
    Src g A I vs.reverse (fun hp => hp ax = some (.tup vs)) (fun i h => IsRv h I ax ((vs.length : Int) - 1 - i)) where
  item := fun i v s hp Q E hv st O hc k => by
    obtain ⟨ob, e1, e2⟩ := O _ _ hc
    obtain ⟨items, hl, hr⟩ := IsTup.of e1 e2
    have hlen := hr.length
    rw [Array.length_toList] at hlen
    have hi : i < vs.length := by
      have := (List.getElem?_eq_some_iff.mp hv).1; simpa using this
    rw [List.getElem?_reverse hi] at hv
    obtain ⟨val, g1, g2⟩ := hr.get hv
    have e : (vs.length : Int) - 1 - i = ((vs.length - 1 - i : Nat) : Int) := by lia
    rw [e] at st
    refine rv_item st hl hne (by lia) (by simpa using g1) fun h' tk st' hs => k val h' tk g2 ?_ fun b o hb e => (hs.2 b hb).trans e
    have e2 : (vs.length : Int) - 1 - ((i + 1 : Nat) : Int) = ((vs.length - 1 - i : Nat) : Int) - 1 := by lia
    rw [e2]; exact st'
  done := fun s hp Q E st O hc k => by
    rw [List.length_reverse, show (vs.length : Int) - 1 - (vs.length : Int) = -1 by lia] at st
    exact rv_end hh st fun h' hs => k h' s.toks fun b o hb e => hs b o hb e
  self := fun i s Q E st q => rv_iter st q
  frame := fun i h h' st k => k _ st
  own := fun i h st => ⟨_, st, _, _, rfl, by decide, rfl⟩

/-- for .. in reversed(a tuple) -/
noncomputable def revK (t : TG) (body : ST) (ρ : Loc) (N : Loc → Hp → Prop) (R : V → Hp → Prop) : List V → Hp → Prop
  | [.ref x], hp₁ => (match hp₁ x with
    | some (.tup vs) => vs.length < 1000000 ∧ forL t body (fun h => h x = some (.tup vs)) vs.reverse ρ hp₁ N R
    | _ => False)
  | _, _ => False
noncomputable def sForV (t : TG) (f : EV) (body : ST) : ST := fun ρ hp N R => cAll [f] ρ hp (revK t body ρ N R)
theorem st_forV {x : Str} {tx e : Expr} {f : EV} {t : TG} {body : List Stmt} {fb : ST} {np p2 pos} (hN : NameIs g x (.type "reversed")) (hx : sc.names.lookup x = some .globalImplicit) 
    (h : SoundE g n sc nm e f) (hpx : PlainX e) (ht : SoundT g n sc nm tx t) (hb : SoundSs g n sc nm body fb)
    (he : ∀ env, eval (.Call (.Name x np) [e] [] p2) env = (do callWith p2 (← eval (.Name x np) env) [] (backTo p2 (starEach [e] env)) (backToKw p2 (keywordEach [] env))) := by exact fun _ => rfl)
    (hs : ∀ env v, foldedSetIterable (.Call (.Name x np) [e] [] p2) env v = pure v := by exact fun _ _ => rfl) : SoundS g n sc nm (.For tx (.Call (.Name x np) [e] [] p2) body [] pos) (sForV t f fb) := fun a A ρ hp s N R E Ok AO FO V Rp q => by
  refine wpAny_For (call_eval (fs := [f]) hN hx rfl (.cons h hpx .nil) he Ok AO V Rp q fun vals vs hp₁ s₁ S₁ R₁ V₁ hv q => ?_) (hs _)
  unfold revK at q
  split at q
  · rename_i y
    obtain ⟨val, rfl, e1⟩ := vrs1 hv
    obtain rfl := vOf_ref e1
    split at q
    · rename_i us hy
      obtain ⟨hsz, q⟩ := q
      obtain ⟨ob, g1, g2⟩ := R₁.obj _ _ hy
      obtain ⟨items, hl, hr⟩ := IsTup.of g1 g2
      have hlen := hr.length
      rw [Array.length_toList] at hlen
      refine call_rv hl (by lia) fun tk => ?_
      have kp := kept_push (h := s₁.heap) { cls := .type "reversed", data := .fields #[.ref y, rawInt ((items.size : Int) - 1)] }
      have hne : y ≠ s₁.heap.objs.size := Nat.ne_of_lt (Heap.lt_size g1)
      have st0 : IsRv (s₁.heap.push { cls := .type "reversed", data := .fields #[.ref y, rawInt ((items.size : Int) - 1)] }) s₁.heap.objs.size y ((us.length : Int) - 1 - ((0 : Nat) : Int)) := by
        rw [← hlen, show ((items.size : Int) - 1 - ((0 : Nat) : Int)) = (items.size : Int) - 1 by lia]
        exact Heap.get?_push_size _ rfl
      refine rv_iter st0 ?_
      refine codeAny_mono (for_loop (E := E) ht hb (Src.rev AO.hd hne hsz) Ok AO FO V₁ R₁ (size_none _) (s₂ := { s₁ with heap := s₁.heap.push _, toks := tk }) kp rfl rfl st0 q) fun r s' h => ?_
      cases r with
      | ok fl => exact SPost.comp S₁.weaken h
      | error e => exact h
    · exact q.elim
  · exact q.elim
end
end Mine
namespace Mine
open PySem PySem.W PySem.Calls PyProof.Rows

/-! ## changes at one address that nobody names -/
section
variable {g : Gl} {sc : Scope} {nm : List Str}
theorem HRep.off {a hp d} {s : Shared} {h' : Heap} {tk : Nat} (R : HRep g a hp s) (h1 : hp d = none) (h2 : d ≠ a.L) (h3 : a.h₀.get? d = none) (h4 : d ≠ g.scrA)
    (k : ∀ b o, b ≠ d → s.heap.get? b = some o → h'.get? b = some o) : HRep g a hp { s with heap := h', toks := tk } := by
  obtain ⟨m, F⟩ := R.frm
  obtain ⟨oL, es, ep, hL, r⟩ := F.ns
  refine ⟨fun y oy e => ?_, ⟨m, ⟨⟨oL, es, ep, k _ _ (Ne.symm h2) hL, r⟩, fun b o' e => k b o' (fun q => by rw [q, h3] at e; cases e) (F.keep b o' e), F.above⟩⟩, R.nL, R.old, ?_, R.nscr, R.low⟩
  · obtain ⟨ob, e1, e2⟩ := R.obj y oy e
    exact ⟨ob, k y ob (fun q => by rw [q, h1] at e; cases e) e1, e2⟩
  · obtain ⟨us, ⟨ob, g1, g2⟩, g3⟩ := R.scr
    exact ⟨us, ⟨ob, k _ _ (Ne.symm h4) g1, g2⟩, g3⟩
theorem EnvOk.off {env hp d ρ} {s : Shared} {h' : Heap} {tk : Nat} (V : EnvOk env sc nm ρ hp s) (h : d ∉ own env)
    (k : ∀ b o, b ≠ d → s.heap.get? b = some o → h'.get? b = some o) : EnvOk env sc nm ρ hp { s with heap := h', toks := tk } := by
  obtain ⟨m, ⟨oL, es, ep, hL, r⟩, hm⟩ := V.ns
  refine ⟨V.hsc, V.kind, V.glob, V.blt, V.len, V.nd, V.nL, ⟨m, ⟨oL, es, ep, k _ _ (fun q => h (mem_own.mpr (.inl q.symm))) hL, r⟩, hm⟩, fun i x hi hx => ?_, V.inj, fun x c hc => ?_⟩
  · obtain ⟨c, oc, v₀, h1, h2, h3, h4, h5, h6⟩ := V.cl i x hi hx
    exact ⟨c, oc, v₀, h1, h2, h3, k _ _ (fun q => h (mem_own.mpr (.inr ⟨x, q ▸ h1⟩))) h4, h5, h6⟩
  · obtain ⟨oc, v₀, h4, h5, h6⟩ := V.cex x c hc
    exact ⟨oc, v₀, k _ _ (fun q => h (mem_own.mpr (.inr ⟨x, q ▸ hc⟩))) h4, h5, h6⟩
/-- what stands apart from a base state -/
structure Apart (g : Gl) (a : Act) (env : Env) (s₁ : Shared) (d : Addr) : Prop where
  nL : d ≠ a.L
  h₀ : a.h₀.get? d = none
  scr : d ≠ g.scrA
  own : d ∉ own env
theorem Apart.of {a env hp d ρ} {s₁ : Shared} (R : HRep g a hp s₁) (V : EnvOk env sc nm ρ hp s₁) (h : s₁.heap.get? d = none) : Apart g a env s₁ d := by
  obtain ⟨m, F⟩ := R.frm
  obtain ⟨oL, es, ep, hL, r⟩ := F.ns
  refine ⟨fun q => (by rw [q, hL] at h; cases h), ?_, fun q => ?_, fun hm => ?_⟩
  · cases e : a.h₀.get? d with
    | none => rfl
    | some o => rw [F.keep _ _ e] at h; cases h
  · obtain ⟨us, ⟨ob, g1, _⟩, _⟩ := R.scr
    rw [q, g1] at h; cases h
  · rcases mem_own.mp hm with e | ⟨x, e⟩
    · obtain ⟨m', ⟨oL', _, _, hL', _⟩, _⟩ := V.ns
      rw [e, hL'] at h; cases h
    · obtain ⟨o, v₀, h1, _⟩ := V.cex x d e
      rw [h1] at h; cases h
end

/-! ## the block of a comprehension -/
noncomputable def clF (cells : List (Str × Addr)) : List (Str × NameKind) → List (Str × Addr) → List (Str × Addr)
  | [], acc => acc
  | (x, k) :: r, acc => if k == .free then clF cells r ((x, (cells.lookup x).getD 0) :: acc) else clF cells r acc
theorem cellOf_eq {env : Env} {x : Str} {c : Addr} (h : env.cells.lookup x = some c) : cellOf env x = pure c := by unfold cellOf; rw [h]
theorem closure_eq {scope : Scope} {env : Env} (h : ∀ x ∈ scope.names, x.2 = .free → ∃ c, env.cells.lookup x.1 = some c) : closureFor scope env = pure (clF env.cells scope.names []) := by
  unfold closureFor
  have main : ∀ (names : List (Str × NameKind)) (acc : List (Str × Addr)), (∀ x ∈ names, x.2 = .free → ∃ c, env.cells.lookup x.1 = some c) →
      (forIn names acc fun (x : Str × NameKind) r => (match x with
        | (name, kind) => if (kind == NameKind.free) = true then do let a ← cellOf env name; pure (ForInStep.yield ((name, a) :: r)) else pure (ForInStep.yield r) : Sem (ForInStep (List (Str × Addr))))) = pure (clF env.cells names acc) := by
    intro names
    induction names with
    | nil => intro acc _; rfl
    | cons x r ih =>
      intro acc h
      obtain ⟨y, k⟩ := x
      rw [List.forIn_cons]
      by_cases hk : (k == NameKind.free) = true
      · obtain ⟨c, hc⟩ := h (y, k) (.head _) (eq_of_beq hk)
        dsimp only
        rw [if_pos hk, cellOf_eq hc]
        show (forIn r ((y, c) :: acc) _ : Sem _) = _
        rw [ih _ fun x hx => h x (.tail _ hx)]
        simp only [clF, hk, if_true, hc, Option.getD_some]
      · have hk' : (k == NameKind.free) = false := by simpa using hk
        dsimp only
        rw [if_neg hk]
        show (forIn r acc _ : Sem _) = _
        rw [ih _ fun x hx => h x (.tail _ hx)]
        simp only [clF, hk', Bool.false_eq_true, if_false]
  simp only []
  rw [main scope.names [] h]
  rfl

theorem clF_lookup {cells : List (Str × Addr)} {x : Str} {c : Addr} : ∀ {names : List (Str × NameKind)} {acc : List (Str × Addr)}, (∀ y ∈ names, y.2 = .free → ∃ c, cells.lookup y.1 = some c) →
    (∀ y c, acc.lookup y = some c → cells.lookup y = some c) → (clF cells names acc).lookup x = some c → cells.lookup x = some c
  | [], acc, _, ha, h => ha _ _ h
  | (y, k) :: r, acc, hn, ha, h => by
    unfold clF at h
    split at h
    · rename_i hk
      obtain ⟨c', hc'⟩ := hn (y, k) (.head _) (eq_of_beq hk)
      refine clF_lookup (fun z hz => hn z (.tail _ hz)) (fun z d hz => ?_) h
      rw [List.lookup_cons] at hz
      cases e : z == y with
      | true => rw [e] at hz; rw [eq_of_beq e, hc']; rw [hc'] at hz; simpa using hz
      | false => rw [e] at hz; exact ha _ _ hz
    · exact clF_lookup (fun z hz => hn z (.tail _ hz)) ha h
theorem clF_has {cells : List (Str × Addr)} {x : Str} : ∀ {names : List (Str × NameKind)} {acc : List (Str × Addr)}, ((x, NameKind.free) ∈ names ∨ (acc.lookup x).isSome) → ((clF cells names acc).lookup x).isSome
  | [], acc, h => h.elim (fun h => nomatch h) id
  | (y, k) :: r, acc, h => by
    unfold clF
    split
    · rename_i hk
      refine clF_has ?_
      by_cases e : x = y
      · subst e; right; rw [List.lookup_cons, beq_self_eq_true]; rfl
      · rcases h with h | h
        · rcases List.mem_cons.mp h with h | h
          · cases h; exact absurd rfl e
          · exact .inl h
        · right; rw [List.lookup_cons, beq_false_of_ne e]; exact h
    · rename_i hk
      refine clF_has (h.imp (fun h => ?_) id)
      rcases List.mem_cons.mp h with h | h
      · cases h; exact absurd rfl hk
      · exact h

/-- the comprehension's own scope, its free names told as cells -/
noncomputable def relS (scope sc : Scope) : Scope := { scope with names := scope.names.map fun (n, k) => if (k == .free && sc.kind == .function && sc.names.lookup n == some .cell) then (n, .cell) else (n, k) }
theorem relS_eq (scope : Scope) {env : Env} {sc : Scope} (h : env.scope = sc) : relabel scope env = relS scope sc := by
  unfold relabel relS Env.kindOf; rw [h]

/-- what the text says of a comprehension's scope; decided by evaluation -/
noncomputable def compOk (scope sc : Scope) (nm : List Str) (x : Str) : Bool :=
  (scope.kind == .function && scope.names.lookup x == some .local && (relS scope sc).names.lookup x == some .local) &&
  (scope.names.all fun y => match y.2 with
    | .free => nm.contains y.1 && sc.names.lookup y.1 == some .cell
    | .cell => false
    | .local => scope.names.lookup y.1 == some .local
    | _ => true) &&
  (nm.all fun y => match (relS scope sc).names.lookup y with
    | some .local => y == x
    | some .cell => (scope.names.any fun z => z.1 == y && z.2 == .free) && sc.names.lookup y == some .cell
    | _ => true)
structure CompOk (scope sc : Scope) (nm : List Str) (x : Str) : Prop where
  kind : scope.kind = .function
  hx : scope.names.lookup x = some .local
  hx' : (relS scope sc).names.lookup x = some .local
  free : ∀ y ∈ scope.names, y.2 = .free → y.1 ∈ nm ∧ sc.names.lookup y.1 = some .cell
  nocell : ∀ y ∈ scope.names, y.2 ≠ .cell
  loc : ∀ y ∈ scope.names, y.2 = .local → scope.names.lookup y.1 = some .local
  only : ∀ y ∈ nm, (relS scope sc).names.lookup y = some .local → y = x
  cells : ∀ y, y ∈ nm → (relS scope sc).names.lookup y = some .cell → (y, NameKind.free) ∈ scope.names ∧ sc.names.lookup y = some .cell
theorem CompOk.of {scope sc : Scope} {nm : List Str} {x : Str} (h : compOk scope sc nm x = true) : CompOk scope sc nm x := by
  unfold compOk at h
  rw [Bool.and_eq_true, Bool.and_eq_true, Bool.and_eq_true, Bool.and_eq_true, List.all_eq_true, List.all_eq_true] at h
  obtain ⟨⟨⟨⟨h1, h2⟩, h3⟩, h4⟩, h5⟩ := h
  refine ⟨eq_of_beq h1, eq_of_beq h2, eq_of_beq h3, fun y hy e => ?_, fun y hy e => ?_, fun y hy e => ?_, fun y hy e => ?_, fun y hy e => ?_⟩
  · have := h4 y hy
    rw [e, Bool.and_eq_true, List.contains_iff_mem] at this
    exact ⟨this.1, eq_of_beq this.2⟩
  · have := h4 y hy
    rw [e] at this; cases this
  · have := h4 y hy
    rw [e] at this; exact eq_of_beq this
  · have := h5 y hy
    rw [e] at this; exact eq_of_beq this
  · have := h5 y hy
    rw [e, Bool.and_eq_true, List.any_eq_true] at this
    obtain ⟨⟨z, hz, hz'⟩, h6⟩ := this
    rw [Bool.and_eq_true] at hz'
    obtain ⟨z1, z2⟩ := z
    have e1 : z1 = y := eq_of_beq hz'.1
    have e2 : z2 = .free := eq_of_beq hz'.2
    subst e1 e2
    exact ⟨hz, eq_of_beq h6⟩

noncomputable def compL (i : Nat) (cond : BV) (elt : EV) (chk : Hp → Prop) : List V → List V → Loc → Hp → (List V → Hp → Prop) → Prop
  | [], acc, _, hp, Q => chk hp ∧ Q acc hp
  | v :: vs, acc, ρ, hp, Q => chk hp ∧ cond (ρ.set i (some v)) hp fun b hp₁ => if b = true then elt (ρ.set i (some v)) hp₁ fun y hp₂ => compL i cond elt chk vs (acc ++ [y]) ρ hp₂ Q else compL i cond elt chk vs acc ρ hp₁ Q
noncomputable def bT : BV := fun _ hp Q => Q true hp

inductive SoundIfs (g : Gl) (n : Nat) (sc : Scope) (nm : List Str) : List Expr → BV → Prop
  | nil : SoundIfs g n sc nm [] bT
  | one {c f} : SoundB g n sc nm c f → SoundIfs g n sc nm [c] f

section
variable {g : Gl} {n : Nat} {sc : Scope} {nm : List Str}

theorem CompOk.clos {scope : Scope} {x : Str} {env : Env} {ρ hp s} (K : CompOk scope sc nm x) (V : EnvOk env sc nm ρ hp s) : ∀ y ∈ scope.names, y.2 = .free → ∃ c, env.cells.lookup y.1 = some c := fun y hy hk => by
  obtain ⟨h1, h2⟩ := K.free y hy hk
  obtain ⟨j, hj⟩ := List.getElem?_of_mem h1
  obtain ⟨c, _, _, h, _⟩ := V.cl j y.1 hj h2
  exact ⟨c, h⟩

/-- the block's own environment -/
theorem cenv_ok {scope : Scope} {x : Str} {i : Nat} {env : Env} {ρ hp s C m val v} (K : CompOk scope sc nm x) (hi : nm[i]? = some x) (V : EnvOk env sc nm ρ hp s) (hC : s.heap.Ns C m) (hCo : C ∉ own env) (hpC : hp C = none) (hm : m x = some val) (hv : vOf val = some v) :
    EnvOk (compEnvC scope (clF env.cells scope.names []) C env) (relS scope sc) nm (ρ.set i (some v)) hp s := by
  have hil : i < ρ.length := by rw [V.len]; exact (List.getElem?_eq_some_iff.mp hi).1
  have back : ∀ {y c}, (clF env.cells scope.names []).lookup y = some c → env.cells.lookup y = some c := fun h => clF_lookup (K.clos V) (fun _ _ h => by cases h) h
  refine ⟨relS_eq _ V.hsc, K.kind, V.glob, V.blt, by rw [List.length_set]; exact V.len, V.nd, hpC, ⟨m, hC, fun j y w hj hl hy => ?_⟩, fun j y hj hy => ?_, fun y z c h1 h2 => V.inj y z c (back h1) (back h2), fun y c h => V.cex y c (back h)⟩
  · have e := K.only y (List.mem_of_getElem? hj) hy
    subst e
    have e := nm_inj V.nd hi hj
    subst e
    rw [look_set_same hil] at hl; cases hl
    exact ⟨val, hm, hv⟩
  · obtain ⟨h1, h2⟩ := K.cells y (List.mem_of_getElem? hj) hy
    obtain ⟨c, o, v₀, g1, g2, g3, g4, g5, g6⟩ := V.cl j y hj h2
    obtain ⟨c', hc'⟩ := Option.isSome_iff_exists.mp (clF_has (cells := env.cells) (x := y) (names := scope.names) (acc := []) (.inl h1))
    have e : c' = c := by have := back hc'; rw [g1] at this; exact (Option.some.inj this).symm
    subst e
    have hne : i ≠ j := fun e => by
      subst e; rw [hi] at hj; cases hj; rw [K.hx'] at hy; cases hy
    refine ⟨c', o, v₀, hc', fun (e : c' = C) => hCo (mem_own.mpr (.inr ⟨y, e ▸ g1⟩)), g3, g4, g5, fun w hl => g6 w ?_⟩
    rwa [look_set_ne hne] at hl

theorem Step.adopt {ex hp hp'} {s₁ s' : Shared} {D : Addr} {o : Ab} (S : Step ex hp s₁ hp' s') (hD : s₁.heap.get? D = none) (hz : 4 < D) : Step ex hp s₁ (hp'.set D o) s' :=
  ⟨S.keep, S.live, fun b h => by
    by_cases e : b = D
    · subst e; exact .inr ⟨hD, hz⟩
    · rw [Hp.set_ne _ _ e] at h; exact S.dom b h, S.gens, S.os⟩
theorem Objs.adopt {hp} {s : Shared} {D : Addr} {o : Ab} {ob : Obj} (O : Objs g hp s) (h1 : s.heap.get? D = some ob) (h2 : OIs g ob o) : Objs g (hp.set D o) s := fun x o' e => by
  by_cases q : x = D
  · subst q; rw [Hp.set_same] at e; cases e; exact ⟨ob, h1, h2⟩
  · rw [Hp.set_ne _ _ q] at e; exact O x o' e

/-- the tests of a block -/
theorem tests_sound {ifs : List Expr} {cond : BV} (h : SoundIfs g n sc nm ifs cond) {a : Act} {A : Around} {env : Env} {ρ hp s Q} {E : Value → Shared → Prop} (Ok : a.Ok g) (AO : AOk a n A) (V : EnvOk env sc nm ρ hp s) (R : HRep g a hp s) (q : cond ρ hp Q) :
    wpAny g.M A (forIn ifs true fun c r => if r = true then do let ok ← isTrue c env (eval c env); pure (ForInStep.yield ok) else pure (ForInStep.yield r)) (BPost g hp s Q) E s := by
  cases h with
  | nil => exact wpAny_tests_nil ⟨hp, Step.refl _ _ _, R.obj, q⟩
  | one h => exact wpAny_tests_one (h a A env ρ hp s Q E Ok AO V R q)

/-- the block: from the source's iterator to the list of all that was yielded -/
theorem comp_block {elt iter : Expr} {x : Str} {px : Pos} {ifs : List Expr} {scope : Scope} {pos : Pos} {i : Nat} {cond : BV} {ef : EV} (K : CompOk scope sc nm x) (hi : nm[i]? = some x)
    (hif : SoundIfs g n (relS scope sc) nm ifs cond) (hel : SoundE g n (relS scope sc) nm elt ef) {a : Act} {A : Around} {env : Env} {ρ hp} {s₁ : Shared} {vs : List V} {chk : Hp → Prop} {P : List V → Hp → Prop} {xv : Value} {E : Value → Shared → Prop}
    {RR : Value → Addr → Result → Shared → Prop}
    (hit : ∀ (T : Value → Shared → Prop), (∀ I h' St, s₁.heap.get? I = none → (∀ b o, s₁.heap.get? b = some o → h'.get? b = some o) → Src g A I vs chk St → St 0 h' → T (.ref I) { s₁ with heap := h' }) → wpAny g.M A (pyIter xv) T E s₁)
    (Ok : a.Ok g) (AO : AOk a n A) (Ve : EnvOk env sc nm ρ hp s₁) (R : HRep g a hp s₁) (hsz : vs.length ≤ sizeLine) (q : compL i cond ef chk vs [] ρ hp P)
    (hRR : ∀ D C hp' s' items acc m, 4 < D → s₁.heap.get? D = none → s₁.heap.get? C = none → D ≠ C → Step [] hp s₁ hp' s' → HRep g a hp' s' → EnvOk env sc nm ρ hp' s' → hp' D = none → hp' C = none → s'.heap.PlainList D items → VRs items.toList acc → s'.heap.Ns C m → P acc hp' →
      RR (.ref D) C (.ok .next) s') :
    wpAny g.M A (pyIter xv) (fun it s₂ => wpAny g.M A (newList []) (fun acc s₃ =>
      wpAny g.M A (newFunctionEnv scope env.globals (clF env.cells scope.names []) [] env.qual none .none (some env)) (fun cenv s₄ =>
        codeAny g.M A (.compStart (.ListComp elt [⟨.Name x px, iter, ifs, 0⟩] scope pos) 0 it acc { cenv with scope := relabel scope env }) (RR acc cenv.locals) s₄) E s₃) E s₂) E s₁ := by
  refine hit _ fun I h₀' St hI kp₀ W st₀ => ?_
  refine wpAny_newObj_type (hd := by size_fits) (wpAny_newFunctionEnv K.nocell (by intro y hy; simp at hy) (fun h₁ hns₁ hsb₁ => ?_) K.kind)
  dsimp only at hns₁ hsb₁ ⊢
  generalize hH2 : h₀'.push { cls := .type "list", dict := none, data := .seq ([] : List Value).toArray } = H2 at hns₁ hsb₁ ⊢
  have hIlt : I < h₀'.objs.size := by obtain ⟨o, ho, _⟩ := W.own _ _ st₀; exact Heap.lt_size ho
  have hC : H2.objs.size = h₀'.objs.size + 1 := by rw [← hH2, Heap.size_push]
  generalize hDe : h₀'.objs.size = D at *
  generalize hCe : H2.objs.size = C at *
  have hDC : D ≠ C := by rw [hC]; exact Nat.ne_of_lt (Nat.lt_succ_self _)
  have hID : I ≠ D := Nat.ne_of_lt hIlt
  have hIC : I ≠ C := by rw [hC]; exact Nat.ne_of_lt (Nat.lt_succ_of_lt hIlt)
  have fresh : ∀ b, D ≤ b → s₁.heap.get? b = none := fun b hb => by
    cases e : s₁.heap.get? b with
    | none => rfl
    | some o => exact absurd (Heap.lt_size (kp₀ b o e)) (Nat.not_lt.mpr (hDe ▸ hb))
  have h4D : 4 < D := by
    obtain ⟨mF, F⟩ := R.frm
    obtain ⟨oL, _, _, hL, _⟩ := F.ns
    have h1 := Heap.lt_size (kp₀ _ _ hL)
    rw [hDe] at h1
    have h2 : 3 < a.h₀.objs.size := Ok.top.g.lt
    have h3 := F.above
    exact Nat.lt_of_le_of_lt (Nat.le_trans h2 h3) h1
  have hD1 : s₁.heap.get? D = none := fresh _ (Nat.le_refl _)
  have hC1 : s₁.heap.get? C = none := fresh _ (by rw [hC]; exact Nat.le_succ _)
  have old : ∀ b o, s₁.heap.get? b = some o → h₁.get? b = some o := fun b o e =>
    hsb₁.extBut b o (fun h => by rw [h, hC1] at e; cases e) (Heap.get?_push_of_some _ (hH2 ▸ Heap.get?_push_of_some _ (kp₀ b o e)))
  have st₁ : St 0 h₁ := W.frame _ _ _ st₀ fun o e => hsb₁.extBut _ _ hIC (Heap.get?_push_of_some _ (hH2 ▸ Heap.get?_push_of_some _ e))
  have hacc : h₁.PlainList D #[] := ⟨_, hsb₁.extBut _ _ hDC (Heap.get?_push_of_some _ (by rw [← hH2, ← hDe]; exact Heap.get?_push_size _ rfl))⟩
  have apI := Apart.of R Ve hI
  have apD := Apart.of R Ve hD1
  have apC := Apart.of R Ve hC1
  have hx' : (compEnvC scope (clF env.cells scope.names []) C env).kindOf x = some .local := lookup_relabel_local K.hx
  have loop : ∀ s₂ : Shared, s₂ = { s₁ with heap := h₁, toks := s₁.toks + ([] : List (Str × Value)).length } →
      codeAny g.M A (.compLoop (.ListComp elt [⟨.Name x px, iter, ifs, 0⟩] scope pos) 0 (.ref I) (.ref D) (compEnvC scope (clF env.cells scope.names []) C env)) (RR (.ref D) C) s₂ := by
    rintro s₂ rfl
    refine codeAny_compLoop_tests
      (fun k s' => ∃ (j : Nat) (rest acc : List V) (items : Array Value) (hp' : Hp) (m : Str → Option Value), vs.drop j = rest ∧ j + rest.length = vs.length ∧ k = rest.length + 1 ∧ St j s'.heap ∧ Step [] hp s₁ hp' s' ∧ HRep g a hp' s' ∧ EnvOk env sc nm ρ hp' s' ∧
        hp' I = none ∧ hp' D = none ∧ hp' C = none ∧ s'.heap.PlainList D items ∧ VRs items.toList acc ∧ items.size ≤ j ∧ s'.heap.Ns C m ∧ compL i cond ef chk rest acc ρ hp' P) ?_ (vs.length + 1)
      ⟨0, vs, [], #[], hp, _, rfl, by simp, rfl, st₁, Step.kept old rfl rfl, R.pushed (s' := { s₁ with heap := h₁, toks := _ }) old rfl rfl, Ve.pushed (s' := { s₁ with heap := h₁, toks := _ }) old rfl rfl, R.obj.fresh hI, R.obj.fresh hD1, R.obj.fresh hC1, hacc, .nil, Nat.le_refl _, hns₁, q⟩
    rintro k s' ⟨j, rest, acc, items, hp', m, hdrop, hlen, rfl, st, S, R', V', nI, nD, nC, hl, hr, hsi, hn, q⟩
    obtain ⟨oI, hoI, hiI⟩ := W.own j _ st
    cases rest with
    | nil =>
      obtain ⟨hc, q⟩ := q
      have : j = vs.length := by simpa using hlen
      subst this
      refine W.done s' hp' _ _ st R'.obj hc fun h' tk ks => ?_
      exact hRR D C hp' _ items acc m h4D hD1 hC1 hDC (S.but hI ks) (R'.but hoI hiI nI apI.h₀ ks) (V'.but hoI hiI ks) nD nC (hl.at fun o e => ks _ o (Ne.symm hID) e) hr (hn.at' fun o e => ks _ o (Ne.symm hIC) e) q
    | cons v rest =>
      obtain ⟨hc, q⟩ := q
      have hv : vs[j]? = some v := by
        have := congrArg (·[0]?) hdrop
        simpa [List.getElem?_drop] using this
      refine W.item j v s' hp' _ _ hv st R'.obj hc fun val h' tk hval st₂ ks => ?_
      refine wpAny_assign_Name (wpAny_storeName_local hx' (hn.at' fun o e => ks _ o (Ne.symm hIC) e) (fun h₂ hn₂ hs₂ => ?_) (by simp [compEnvC, relabel, K.kind]))
      have ks₂ := hs₂.extBut
      have S₂ := (S.but (h' := h') (tk := tk) hI ks).but (h' := h₂) (tk := tk + 1) hC1 ks₂
      have R₂ := (R'.but (tk := tk) hoI hiI nI apI.h₀ ks).off (tk := tk + 1) nC apC.nL apC.h₀ apC.scr ks₂
      have V₂ := (V'.but (tk := tk) hoI hiI ks).off (tk := tk + 1) apC.own ks₂
      have st₃ : St (j + 1) h₂ := W.frame _ _ _ st₂ fun o e => ks₂ _ o hIC e
      have hl₂ : h₂.PlainList D items := hl.at fun o e => ks₂ _ o hDC (ks _ o (Ne.symm hID) e)
      have VC := cenv_ok (val := val) (v := v) K hi V₂ hn₂ apC.own nC (if_pos rfl) hval
      refine wpAny_mono (tests_sound hif Ok AO VC R₂ q) (fun ok s₃ r => ?_) fun _ _ x => x
      obtain ⟨hp₃, S₃, O₃, q⟩ := r
      have R₃ := R₂.step S₃ O₃
      have V₃ := V₂.step S₃
      have VC₃ := VC.step S₃
      obtain ⟨oI₂, hoI₂, hiI₂⟩ := W.own _ _ st₃
      have keepN : ∀ {hp' : Hp} {s s' : Shared} {hp'' : Hp} (T : Step [] hp' s hp'' s') {b : Addr}, hp' b = none → ∀ o, s.heap.get? b = some o → s'.heap.get? b = some o := fun T b h o e => T.keep b o e h (fun h => nomatch h)
      have outN : ∀ {hp' : Hp} {s s' : Shared} {hp'' : Hp} (T : Step [] hp' s hp'' s') {b : Addr} {o : Obj}, s.heap.get? b = some o → hp' b = none → hp'' b = none := fun T b o e h => T.out e h
      obtain ⟨nD₂, hD₂⟩ := id hl₂
      obtain ⟨oC₂, _, _, hC₂, _⟩ := id hn₂
      have st₄ : St (j + 1) s₃.heap := W.frame _ _ _ st₃ fun o e => keepN S₃ nI o e
      have hl₃ : s₃.heap.PlainList D items := hl₂.at fun o e => keepN S₃ nD o e
      have hn₃ := hn₂.at' (h' := s₃.heap) fun o e => keepN S₃ nC o e
      have nI₃ := outN S₃ hoI₂ nI
      have nD₃ := outN S₃ hD₂ nD
      have nC₃ := outN S₃ hC₂ nC
      have hdrop' : vs.drop (j + 1) = rest := by
        have := congrArg List.tail hdrop
        rw [List.tail_drop] at this; simpa using this
      have hlen' : j + 1 + rest.length = vs.length := by simp at hlen; lia
      cases ok with
      | false =>
        rw [if_neg Bool.false_ne_true] at q ⊢
        exact ⟨rest.length + 1, by simp, j + 1, rest, acc, items, hp₃, _, hdrop', hlen', rfl, st₄, S₂.trans S₃, R₃, V₃, nI₃, nD₃, nC₃, hl₃, hr, Nat.le_succ_of_le hsi, hn₃, q⟩
      | true =>
        rw [if_pos rfl] at q ⊢
        refine wpAny_mono (hel a A _ _ hp₃ s₃ _ _ Ok AO VC₃ R₃ q) (fun y s₄ r => ?_) fun _ _ x => x
        obtain ⟨yv, hp₄, S₄, O₄, hy, q⟩ := r
        have R₄ := R₃.step S₄ O₄
        have V₄ := V₃.step S₄
        obtain ⟨oI₃, hoI₃, hiI₃⟩ := W.own _ _ st₄
        obtain ⟨nD₃', hD₃⟩ := id hl₃
        obtain ⟨oC₃, _, _, hC₃, _⟩ := id hn₃
        have hl₄ : s₄.heap.PlainList D items := hl₃.at fun o e => keepN S₄ nD₃ o e
        have hn₄ := hn₃.at' (h' := s₄.heap) fun o e => keepN S₄ nC₃ o e
        have nI₄ := outN S₄ hoI₃ nI₃
        have nD₄ := outN S₄ hD₃ nD₃
        have nC₄ := outN S₄ hC₃ nC₃
        refine wpAny_list_append_plain (hsz := by lia) hl₄ fun h₅ hl₅ hs₅ => ?_
        have ks₅ := hs₅.extBut
        refine ⟨rest.length + 1, by simp, j + 1, rest, acc ++ [yv], items.push y, hp₄, _, hdrop', hlen', rfl, W.frame _ _ _ st₄ fun o e => ks₅ _ o hID (keepN S₄ nI₃ o e), ((S₂.trans S₃).trans S₄).but hD1 ks₅,
          R₄.off (tk := s₄.toks) nD₄ apD.nL apD.h₀ apD.scr ks₅, V₄.off (tk := s₄.toks) apD.own ks₅, nI₄, nD₄, nC₄, hl₅, by rw [Array.toList_push]; exact hr.snoc hy, by rw [Array.size_push]; lia, hn₄.at' fun o e => ks₅ _ o (Ne.symm hDC) e, q⟩
  exact codeAny_compStart_list (loop _ rfl) (W.self 0 _ _ _ st₁ (loop _ rfl))

/-- the values of a source -/
noncomputable def srcOf : Option Ab → Option (List V)
  | some (.list vs) => some vs
  | some (.tup vs) => some vs
  | some (.dict _ es) => some (es.map fun p => V.str p.1)
  | _ => none
noncomputable def chkOf (x : Addr) : Option Ab → Hp → Prop := fun o h => h x = o
noncomputable def compV (i : Nat) (cond : BV) (ef : EV) (ρ : Loc) (P : List V → Hp → Prop) : V → Hp → Prop
  | .ref x, hp₁ => (match srcOf (hp₁ x) with
    | some vs => vs.length ≤ 1000000 ∧ compL i cond ef (fun h => h x = hp₁ x) vs [] ρ hp₁ P
    | none => False)
  | _, _ => False
noncomputable def cComp (i : Nat) (cond : BV) (f ef : EV) : EV := fun ρ hp Q => f ρ hp (compV i cond ef ρ fun acc hp' => ∀ D, hp' D = none → Q (.ref D) (hp'.set D (.list acc)))
noncomputable def sComp (y i : Nat) (cond : BV) (f ef : EV) : ST := fun ρ hp N R => f ρ hp (compV i cond ef ρ fun acc hp' => ∀ D, hp' D = none → N (ρ.set y (some (.ref D))) (hp'.set D (.list acc)))

theorem iter_src {a : Act} {A : Around} {hp : Hp} {s : Shared} {E : Value → Shared → Prop} (AO : AOk a n A) (R : HRep g a hp s) {x : Addr} {vs : List V} (h : srcOf (hp x) = some vs) :
    ∀ (T : Value → Shared → Prop), (∀ I h' St, s.heap.get? I = none → (∀ b o, s.heap.get? b = some o → h'.get? b = some o) → Src g A I vs (fun h => h x = hp x) St → St 0 h' → T (.ref I) { s with heap := h' }) → wpAny g.M A (pyIter (.ref x)) T E s := by
  cases hx : hp x with
  | none => rw [hx] at h; cases h
  | some o =>
    rw [hx] at h
    cases o with
    | list us => cases h; exact iter_value AO R (.inl ⟨hx, rfl⟩)
    | tup us => cases h; exact iter_value AO R (.inr (.inl ⟨hx, rfl⟩))
    | dict ep es => cases h; exact iter_value AO R (.inr (.inr ⟨ep, es, hx, rfl, rfl⟩))
    | inst d => cases h

theorem s_comp {elt iter : Expr} {x : Str} {px : Pos} {ifs : List Expr} {scope : Scope} {pos : Pos} {i : Nat} {cond : BV} {f ef : EV} (K : compOk scope sc nm x = true) (hi : nm[i]? = some x)
    (h : SoundE g n sc nm iter f) (hif : SoundIfs g n (relS scope sc) nm ifs cond) (hel : SoundE g n (relS scope sc) nm elt ef)
    (hs : ∀ env x, foldedSetIterable iter env x = pure x := by exact fun _ _ => rfl) : SoundE g n sc nm (.ListComp elt [⟨.Name x px, iter, ifs, 0⟩] scope pos) (cComp i cond f ef) := fun a A env ρ hp s Q E Ok AO V R q => by
  have K := CompOk.of K
  rw [eval_ListComp]
  refine wpAny_comprehension_free (use := none) rfl (hs _) (closure_eq (K.clos V)) K.kind K.loc (wpAny_mono (h a A env ρ hp s _ E Ok AO V R q) (fun xv s₁ r => ?_) fun _ _ e => e)
  obtain ⟨v, hp₁, S₁, O₁, e₁, q⟩ := r
  have R₁ := R.step S₁ O₁
  have V₁ := V.step S₁
  unfold compV at q
  split at q
  · rename_i y
    obtain rfl := vOf_ref e₁
    split at q
    · rename_i vs hvs
      obtain ⟨hsz, q⟩ := q
      refine comp_block (RR := fun acc C => compPost g.M A E none (EPost g hp s Q) acc C) K hi hif hel (iter_src AO R₁ hvs) Ok AO V₁ R₁ (by rw [sizeLine_eq]; lia) q ?_
      intro D C hp' s' items acc m hz hD hC hDC S' R' V' nD nC hl hr hn q
      refine ⟨m, hn, fun h' hs' => ?_⟩
      have ks := hs'.extBut
      have apC := Apart.of R₁ V₁ hC
      obtain ⟨nn, hl'⟩ := hl.at (h' := h') fun o e => ks _ o hDC e
      have R'' := R'.off (tk := s'.toks) nC apC.nL apC.h₀ apC.scr ks
      exact ⟨.ref D, hp'.set D (.list acc), S₁.trans ((S'.but hC ks).adopt hD hz), R''.obj.adopt (o := .list acc) hl' ⟨_, _, rfl, hr⟩, rfl, q D nD⟩
    · exact q.elim
  · exact q.elim

theorem st_comp {elt iter : Expr} {x y : Str} {px py : Pos} {ifs : List Expr} {scope : Scope} {pos spos : Pos} {i j : Nat} {cond : BV} {f ef : EV} (K : compOk scope sc nm x = true) (hi : nm[i]? = some x)
    (hj : nm[j]? = some y) (hk : sc.names.lookup y = some .local ∨ sc.names.lookup y = some .cell)
    (h : SoundE g n sc nm iter f) (hif : SoundIfs g n (relS scope sc) nm ifs cond) (hel : SoundE g n (relS scope sc) nm elt ef)
    (hsw : ∀ env : Env, env.scope = sc → swapsWith (.ListComp elt [⟨.Name x px, iter, ifs, 0⟩] scope pos) (some (.Name y py)) spos.line env = pure true)
    (hs : ∀ env x, foldedSetIterable iter env x = pure x := by exact fun _ _ => rfl) : SoundS g n sc nm (.Assign [.Name y py] (.ListComp elt [⟨.Name x px, iter, ifs, 0⟩] scope pos) spos) (sComp j i cond f ef) := fun a A ρ hp s N R E Ok AO FO V Rp q => by
  have K := CompOk.of K
  rw [exec_Assign_Name_used _ _ _ _ (hsw _ V.hsc)]
  refine wpAny_bind (wpAny_standAt (wpAny_bind ?_))
  show wpAny _ A (do let _ ← comprehension (.ListComp elt [⟨.Name x px, iter, ifs, 0⟩] scope pos) scope a.fenv _ (newList []) false (eval iter a.fenv) (some (assign (.Name y py) a.fenv))) _ _ s
  refine wpAny_bind (wpAny_mono (wpAny_comprehension_free (use := some (assign (.Name y py) a.fenv)) (Q := fun _ s' => SPost g a a.fenv sc nm hp s N R .next s') rfl (hs _) (closure_eq (K.clos V)) K.kind K.loc
    (wpAny_mono (h a A a.fenv ρ hp s _ E Ok AO V Rp q) (fun xv s₁ r => ?_) fun _ _ e => e)) (fun _ s' hq => wpAny_pure (wpAny_pure hq)) fun _ _ e => e)
  obtain ⟨v, hp₁, S₁, O₁, e₁, q⟩ := r
  have R₁ := Rp.step S₁ O₁
  have V₁ := V.step S₁
  unfold compV at q
  split at q
  · rename_i z
    obtain rfl := vOf_ref e₁
    split at q
    · rename_i vs hvs
      obtain ⟨hsz, q⟩ := q
      refine comp_block (RR := fun acc C => compPost g.M A E (some (assign (.Name y py) a.fenv)) (fun _ s' => SPost g a a.fenv sc nm hp s N R .next s') acc C) K hi hif hel (iter_src AO R₁ hvs) Ok AO V₁ R₁ (by rw [sizeLine_eq]; lia) q ?_
      intro D C hp' s' items acc m hz hD hC hDC S' R' V' nD nC hl hr hn q
      have apC := Apart.of R₁ V₁ hC
      obtain ⟨nn, hl'⟩ := id hl
      have S₂ : Step [] hp₁ s₁ (hp'.set D (.list acc)) s' := S'.adopt hD hz
      have O₂ : Objs g (hp'.set D (.list acc)) s' := R'.obj.adopt (o := .list acc) hl' ⟨_, _, rfl, hr⟩
      show wpAny _ A (assign (.Name y py) a.fenv (.ref D)) _ _ _
      refine wpAny_assign_Name (wpAny_mono (store_ok (v := .ref D) Ok FO (V₁.step S₂) (R₁.step S₂ O₂) hj hk rfl) (fun _ s₃ r => ?_) fun _ _ x => x)
      obtain ⟨S₃, R₃, V₃⟩ := r
      have nC' : (hp'.set D (.list acc)) C = none := by rw [Hp.set_ne _ _ (Ne.symm hDC)]; exact nC
      refine ⟨m, hn.at' fun o e => S₃.keep _ o e nC' apC.own, fun h' hs' => ?_⟩
      have ks := hs'.extBut
      exact ⟨_, _, S₁.weaken.trans ((S₂.weaken.trans S₃).but (tk := s₃.toks) hC ks), R₃.off (tk := s₃.toks) nC' apC.nL apC.h₀ apC.scr ks, V₃.off (tk := s₃.toks) apC.own ks, q D nD⟩
    · exact q.elim
  · exact q.elim
end
end Mine
namespace Mine
open PySem PySem.W PySem.Calls PyProof.Rows

/-! ## dicts: stores -/
section
variable {prog : Program} {w : World} {A : Around} {E : Value → Shared → Prop} {s : Shared} {knd : KeyKind prog w Str}
theorem dictSet_at {d : Addr} {kvs : List (Str × Value)} {k : Str} {ep : Nat} {key v : Value} {Q : Unit → Shared → Prop} (hkey : knd.is k key = true) (hm : s.heap.DictAt knd d kvs ep)
    (hQ : ∀ h', h'.DictAt knd d (stored kvs k v) (if kvs.any (fun kv => kv.1 = k) then ep else ep + 1) → Heap.SameBut d s.heap h' → Q () { s with heap := h', toks := s.toks + 1 })
    (hsz : kvs.length ≤ sizeLine) : wpAny (model prog w) A (dictSet d key v) Q E s := by
  obtain ⟨o, es, ho, hc, hd, hk, hp, hn⟩ := hm
  have hes : es.size ≤ sizeLine := by have e1 := hp.length; have e2 : es.toList.length = es.size := by simp
                                      lia
  unfold dictSet
  try with_reducible refine wpAny_holding ?_
  refine wpAny_bind (knd.pyHash hkey ?_)
  unfold dictSetHashed
  try with_reducible refine wpAny_holding ?_
  refine wpAny_bind (wpAny_dictFind_of (s := { s with toks := s.toks + 1 }) hkey ho hd hk ?_)
  have hidx : (es.findIdx? fun e => knd.is k e.key) = kvs.findIdx? fun kv => decide (kv.1 = k) := by
    rw [← hp.findIdx k]; obtain ⟨l⟩ := es; simp
  cases hi : es.findIdx? fun e => knd.is k e.key with
  | some i =>
    have hany := any_of_findIdx_some (hidx ▸ hi)
    rw [if_pos hany] at hQ
    refine wpAny_bind (wpAny_rule (wpAny_bind (wpAny_updateDict (s := { s with toks := s.toks + 1 }) ho hd (wpAny_point (hQ _ ⟨_, _, Heap.get?_update_self _ ho (Obj.isFreed_of_dict (Obj.data_mapDict hd _)),
      hc.mapDict _, Obj.data_mapDict hd _, hk.modify _ _, ?_, ?_⟩ (Heap.SameBut.update ..))))))
    · rw [stored, if_pos hany]
      have hl : (es.toList.findIdx? fun e => knd.is k e.key) = some i := by rw [← hi]; obtain ⟨l⟩ := es; simp
      have := hp.modify hn hl v
      obtain ⟨l⟩ := es
      simpa using this
    · rw [stored, if_pos hany, keys_map_store]; exact hn
  | none =>
    have hnot : k ∉ kvs.map (·.1) := not_mem_of_findIdx_none (hidx ▸ hi)
    have hany : ¬ (kvs.any fun kv => decide (kv.1 = k)) = true := by
      rw [List.any_eq_true]; rintro ⟨kv, hkv, he⟩
      exact hnot (List.mem_map.mpr ⟨kv, hkv, of_decide_eq_true he⟩)
    rw [if_neg hany] at hQ
    refine wpAny_bind (wpAny_rule (wpAny_updateDictKeys (hz := hes) (s := { s with toks := s.toks + 1 }) ho hd (hQ _ ⟨_, _, Heap.get?_update_self _ ho (Obj.isFreed_of_dict (Obj.data_mapDictKeys hd _)),
      hc.mapDictKeys _, Obj.data_mapDictKeys hd _, hk.push hkey _, ?_, ?_⟩ (Heap.SameBut.update ..))))
    · rw [stored, if_neg hany]
      have := hp.append hkey (knd.hash k) v
      obtain ⟨l⟩ := es
      simpa using this
    · rw [stored, if_neg hany, List.map_append, List.nodup_append]
      refine ⟨hn, by simp, ?_⟩
      intro a ha b hb
      simp only [List.map_cons, List.map_nil, List.mem_singleton] at hb
      subst hb
      exact fun e => hnot (e ▸ ha)
theorem setItem_at {d : Addr} {kvs : List (Str × Value)} {k : Str} {ep : Nat} {key v : Value} {Q : Unit → Shared → Prop} (hkey : knd.is k key = true) (hm : s.heap.DictAt knd d kvs ep)
    (hQ : ∀ h', h'.DictAt knd d (stored kvs k v) (if kvs.any (fun kv => kv.1 = k) then ep else ep + 1) → Heap.SameBut d s.heap h' → Q () { s with heap := h', toks := s.toks + 1 })
    (hsz : kvs.length ≤ sizeLine) : wpAny (model prog w) A (setItem (.ref d) key v) Q E s := by
  have ht : s.TypeIs (.ref d) "dict" := hm.dictOf.typeIs
  unfold setItem
  try with_reducible refine wpAny_holding ?_
  refine wpAny_bind (wpAny_sequenceKey ht (by decide) ?_)
  refine wpAny_bind (wpAny_callSpecial?_slot (name := Str.ofString "__setitem__") ht slot_dict_setitem
    (wpAny_call_entry slot_dict_setitem ht entry_dict_setitem ?_ (args_dict_setitem _ _ _)))
  show wpAny _ _ (Builtin.Dict.notOrdered "__setitem__" ⟨[.ref d, key, v], []⟩ >>= _) _ _ s
  refine wpAny_bind (wpAny_notOrdered_dict ht ?_)
  show wpAny _ _ (dictSet d key v >>= _) _ _ s
  exact wpAny_bind (dictSet_at hkey hm (fun h' hm' hs' => wpAny_pure ⟨.none, rfl, wpAny_pure (hQ h' hm' hs')⟩) hsz)
end

theorem DictAt.to {g : Gl} {h : Heap} {d : Addr} {kvs : List (Str × Value)} {ep : Nat} {es : List (Str × V)} (x : h.DictAt (strKind g.prog g.w) d kvs ep) (hk : KVs kvs es) : ∃ ob, h.get? d = some ob ∧ OIs g ob (.dict ep es) := by
  obtain ⟨⟨c, dd, dt, sl⟩, ess, ho, ⟨h1, h2, h3⟩, hd, r1, r2, r3⟩ := x
  dsimp only at h1 h2 h3 hd
  subst h1 h2 h3 hd
  exact ⟨_, ho, ess, kvs, rfl, r1, r2, r3, hk⟩

noncomputable def hasK (es : List (Str × V)) (k : Str) : Bool := es.any fun p => p.1 == k
noncomputable def putV (es : List (Str × V)) (k : Str) (v : V) : List (Str × V) := if hasK es k then es.map fun p => if p.1 == k then (p.1, v) else p else es ++ [(k, v)]
theorem KVs.any : ∀ {a : List (Str × Value)} {b : List (Str × V)}, KVs a b → ∀ k, (a.any fun kv => decide (kv.1 = k)) = hasK b k
  | [], [], _, k => rfl
  | (x, v) :: a, (y, u) :: b, h, k => by
    unfold KVs at h
    simp only [List.map_cons, List.cons.injEq, Prod.mk.injEq] at h
    obtain ⟨⟨rfl, h1⟩, h2⟩ := h
    have ih := KVs.any (a := a) (b := b) h2 k
    unfold hasK at ih ⊢
    rw [List.any_cons, List.any_cons, ih]
    rfl
  | [], _ :: _, h, _ => by cases h
  | _ :: _, [], h, _ => by cases h
theorem KVs.mapStore {k : Str} {val : Value} {v : V} (hv : vOf val = some v) : ∀ {a : List (Str × Value)} {b : List (Str × V)}, KVs a b → KVs (a.map fun kv => if kv.1 = k then (kv.1, val) else kv) (b.map fun p => if p.1 == k then (p.1, v) else p)
  | [], [], _ => rfl
  | (x, u) :: a, (y, u') :: b, h => by
    unfold KVs at h
    simp only [List.map_cons, List.cons.injEq, Prod.mk.injEq] at h
    obtain ⟨⟨rfl, h1⟩, h2⟩ := h
    have ih := KVs.mapStore hv (k := k) (a := a) (b := b) h2
    unfold KVs at ih ⊢
    rw [List.map_cons, List.map_cons, List.map_cons, List.map_cons, ih]
    congr 1
    by_cases e : x = k
    · simp [e, hv]
    · simp [e, h1]
  | [], _ :: _, h => by cases h
  | _ :: _, [], h => by cases h
theorem KVs.stored {a : List (Str × Value)} {b : List (Str × V)} (h : KVs a b) {k : Str} {val : Value} {v : V} (hv : vOf val = some v) : KVs (PySem.stored a k val) (putV b k v) := by
  unfold PySem.stored putV
  have e := h.any k
  by_cases c : hasK b k = true
  · rw [if_pos c, if_pos (e.trans c)]; exact h.mapStore hv
  · rw [if_neg c, if_neg (by rw [e]; exact c)]
    unfold KVs at h ⊢
    simp [h, hv]

theorem VRs.set {vals : List Value} {vs : List V} (h : VRs vals vs) {val : Value} {v : V} (hv : vOf val = some v) (i : Nat) : VRs (vals.set i val) (vs.set i v) := by
  unfold VRs at *; rw [List.map_set, List.map_set, h, hv]

theorem mapSeq_list (its : Array Value) (n : Nat) (f : Array Value → Array Value) : ∃ n', Obj.mapSeq f { cls := .type "list", data := .seq its n } = { cls := .type "list", data := .seq (f its) n' } := by
  exact ⟨_, rfl⟩
/-- a[b] = v -/
noncomputable def opStore (a b v : V) (hp : Hp) (Q : Hp → Prop) : Prop := match a with
  | .ref x => (match hp x with
    | some (.dict ep es) => (match b with
      | .str k => es.length ≤ 1000000 ∧ Q (hp.set x (.dict (if hasK es k then ep else ep + 1) (putV es k v)))
      | _ => False)
    | some (.list vs) => (match b with
      | .int i => 0 ≤ i ∧ i < BIG ∧ i < vs.length ∧ Q (hp.set x (.list (vs.set i.toNat v)))
      | _ => False)
    | _ => False)
  | _ => False

theorem opStore_sound {g : Gl} {a b v : V} {hp : Hp} {Q : Hp → Prop} {s : Shared} {A : Around} {E : Value → Shared → Prop} {va vb vv : Value} (O : Objs g hp s) (ea : vOf va = some a) (eb : vOf vb = some b) (ev : vOf vv = some v) (h : opStore a b v hp Q) :
    wpAny g.M A (setItem va vb vv) (fun _ s' => ∃ hp', Step [] hp s hp' s' ∧ Objs g hp' s' ∧ Q hp') E s := by
  unfold opStore at h
  split at h
  · rename_i x
    obtain rfl := vOf_ref ea
    split at h
    · rename_i ep es hx
      split at h
      · rename_i k
        obtain ⟨hsz, h⟩ := h
        obtain ⟨t, rfl⟩ := vOf_str eb
        obtain ⟨ob, e1, e2⟩ := O _ _ hx
        obtain ⟨kvs', ht, hr⟩ := DictAt.of e1 e2
        refine setItem_at (strKind_is _ _ k t) ht (fun h' hd hs => ?_) (by rw [hr.length, sizeLine_eq]; lia)
        obtain ⟨ob', g1, g2⟩ := DictAt.to hd (hr.stored ev)
        rw [hr.any k] at g2
        refine ⟨_, Step.upd (s' := { s with heap := h', toks := s.toks + 1 }) (by rw [hx]; exact fun x => nomatch x) hs.2 rfl rfl, O.upd (s' := { s with heap := h', toks := s.toks + 1 }) hs.2 g1 g2, h⟩
      · exact h.elim
    · rename_i vs hx
      split at h
      · rename_i i
        obtain ⟨h0, h1, h2, h⟩ := h
        obtain ⟨t, rfl⟩ := vOf_int eb
        obtain ⟨ob, e1, e2⟩ := O _ _ hx
        obtain ⟨items, hl, hr⟩ := IsList.of e1 e2
        have hlen := hr.length
        rw [Array.length_toList] at hlen
        obtain ⟨nn, ho⟩ := hl
        have hm := mapSeq_list items nn (·.setIfInBounds i.toNat vv)
        refine ki_setAt (n := nn) ho h0 (by simp only [BIG] at h1; lia) (by rw [hlen]; exact_mod_cast h2) ?_
        have hs : Heap.SameBut x s.heap (s.heap.update x (Obj.mapSeq (·.setIfInBounds i.toNat vv))) := Heap.SameBut.update ..
        have hg : (s.heap.update x (Obj.mapSeq (·.setIfInBounds i.toNat vv))).get? x = some _ := Heap.get?_update_self _ ho (by obtain ⟨n', e⟩ := hm; rw [e]; rfl)
        obtain ⟨n', e⟩ := hm
        rw [e] at hg
        refine ⟨_, Step.upd (s' := { s with heap := s.heap.update x _ }) (by rw [hx]; exact fun x => nomatch x) hs.2 rfl rfl, O.upd (o := .list (vs.set i.toNat v)) (s' := { s with heap := s.heap.update x _ }) hs.2 hg ⟨_, _, rfl, ?_⟩, h⟩
        rw [Array.toList_setIfInBounds]
        exact hr.set ev _
      · exact h.elim
    · exact h.elim
  · exact h.elim

section
variable {g : Gl} {n : Nat} {sc : Scope} {nm : List Str}
noncomputable def sStore (f₁ f₂ f : EV) : ST := fun ρ hp N R => f ρ hp fun v hp₁ => f₁ ρ hp₁ fun a hp₂ => f₂ ρ hp₂ fun b hp₃ => opStore a b v hp₃ fun hp₄ => N ρ hp₄
theorem st_store {e₁ e₂ e f₁ f₂ f sp pos} (h : SoundE g n sc nm e f) (h₁ : SoundE g n sc nm e₁ f₁) (h₂ : SoundE g n sc nm e₂ f₂)
    (hs : ∀ env, swapsWith e (some (.Subscript e₁ e₂ sp)) pos.line env = pure false := by exact fun _ => rfl) : SoundS g n sc nm (.Assign [.Subscript e₁ e₂ sp] e pos) (sStore f₁ f₂ f) := fun a A ρ hp s N R E Ok AO FO V Rp q => by
  refine wpAny_Assign_Subscript (wpAny_mono (h a A a.fenv ρ hp s _ E Ok AO V Rp q) (fun vv s₁ q => ?_) fun _ _ x => x) (hs _)
  obtain ⟨v, hp₁, S₁, O₁, ev, q⟩ := q
  refine eval2 h₁ h₂ Ok AO (V.step S₁) (Rp.step S₁ O₁) q fun va vb x y hp₂ s₂ S R₂ V₂ ea eb P => ?_
  refine wpAny_mono (opStore_sound R₂.obj ea eb ev P) (fun _ s₃ r => ?_) fun _ _ x => x
  obtain ⟨hp₃, S₃, O₃, q⟩ := r
  exact ⟨ρ, hp₃, ((S₁.trans S).trans S₃).weaken, R₂.step S₃ O₃, V₂.step S₃, q⟩

/-! ## dict displays -/
noncomputable def cDict0 : EV := fun ρ hp Q => ∀ D, hp D = none → Q (.ref D) (hp.set D (.dict 0 []))
theorem s_dict0 {pos} : SoundE g n sc nm (.Dict [] [] pos) cDict0 := fun a A env ρ hp s Q E Ok AO V R q => by
  refine wpAny_Dict_empty ?_
  exact EPost.new (k := s.toks) (o := .dict 0 []) R.obj (R.big Ok) rfl ⟨#[], [], rfl, fun _ he => by simp at he, Pairs.nil, List.nodup_nil, rfl⟩ (q _ (R.obj.fresh (size_none _)))

/-- {k: v} -/
noncomputable def cDict1 (f₁ f₂ : EV) : EV := fun ρ hp Q => f₁ ρ hp fun a hp₁ => f₂ ρ hp₁ fun b hp₂ => match a with
  | .str k => ∀ D ep, hp₂ D = none → Q (.ref D) (hp₂.set D (.dict ep [(k, b)]))
  | _ => False
theorem s_dict1 {e₁ e₂ f₁ f₂ pos} (h₁ : SoundE g n sc nm e₁ f₁) (h₂ : SoundE g n sc nm e₂ f₂) : SoundE g n sc nm (.Dict [some e₁] [e₂] pos) (cDict1 f₁ f₂) := fun a A env ρ hp s Q E Ok AO V R q => by
  have kp := kept_push (h := s.heap) { cls := .type "dict", data := .dict #[] }
  have V' := V.pushed (s' := { s with heap := s.heap.push { cls := .type "dict", data := .dict #[] } }) kp rfl rfl
  have R' := R.pushed (s' := { s with heap := s.heap.push { cls := .type "dict", data := .dict #[] } }) kp rfl rfl
  have hD := size_none s.heap
  have hD0 : hp s.heap.objs.size = none := R.obj.fresh hD
  refine wpAny_Dict_walk (knd := strKind g.prog g.w) rfl rfl (by simp) (by simp) (pairTrees_cons_walk (eval2 h₁ h₂ Ok AO V' R' q fun va vb x y hp₂ s₂ S R₂ V₂ ea eb P => pairTrees_nil_walk ?_))
  cases x with
  | str k =>
    obtain ⟨t, rfl⟩ := vOf_str ea
    have hnew : (s.heap.push { cls := .type "dict", data := .dict #[] }).get? s.heap.objs.size = some { cls := .type "dict", data := .dict #[] } := Heap.get?_push_size _ rfl
    have hnew₂ := S.keep _ _ hnew hD0 (fun h => nomatch h)
    have hp2D : hp₂ s.heap.objs.size = none := S.out hnew hD0
    refine ⟨[(k, vb)], ⟨strKind_is _ _ k t, rfl, trivial⟩, ⟨_, #[], 0, hnew₂, ⟨rfl, rfl, rfl⟩, rfl, fun _ he => by simp at he, Pairs.nil, List.nodup_nil⟩, fun h' hd hs => ?_⟩
    obtain ⟨ep, hd⟩ := hd.dictAt
    have hd' : h'.DictAt (strKind g.prog g.w) s.heap.objs.size [(k, vb)] ep := by simpa [merged, stored] using hd
    obtain ⟨ob, g1, g2⟩ := DictAt.to hd' (es := [(k, y)]) (by unfold KVs; simp [eb])
    have S0 : Step [] hp s hp₂ s₂ := (Step.kept (s' := { s with heap := s.heap.push { cls := .type "dict", data := .dict #[] } }) kp rfl rfl).trans S
    have S' : Step [] hp s hp₂ { s₂ with heap := h', toks := s₂.toks + 1 } := S0.but hD hs.extBut
    have O' : Objs g hp₂ { s₂ with heap := h', toks := s₂.toks + 1 } := fun b o e => by
      obtain ⟨ob, e1, e2⟩ := R₂.obj b o e
      exact ⟨ob, hs.extBut _ _ (fun q => by rw [q, hp2D] at e; cases e) e1, e2⟩
    exact ⟨_, _, S'.adopt hD (R.big Ok), O'.adopt g1 g2, rfl, P _ ep hp2D⟩
  | _ => exact P.elim
end
end Mine
namespace Mine
open PySem PySem.W PySem.Calls PyProof.Rows

/-! ## methods of lists -/
noncomputable abbrev MOp := V → List V → Hp → (V → Hp → Prop) → Prop
noncomputable def SoundM (g : Gl) (n : Nat) (fv : Value) (op : MOp) : Prop :=
  ∀ (a : Act) (A : Around) (hp : Hp) (s : Shared) (self : Value) (sv : V) (vals : List Value) (vs : List V) (Q : V → Hp → Prop) (E : Value → Shared → Prop),
    a.Ok g → AOk a n A → HRep g a hp s → vOf self = some sv → VRs vals vs → op sv vs hp Q → wpAny g.M A (call fv (self :: vals)) (EPost g hp s Q) E s
noncomputable def isL (v : V) (hp : Hp) : Prop := match v with
  | .ref x => (match hp x with | some (.list _) => True | _ => False)
  | _ => False
noncomputable def cLm (op : MOp) (f : EV) (fs : List EV) : EV := fun ρ hp Q => f ρ hp fun self hp₁ => isL self hp₁ ∧ cAll fs ρ hp₁ fun vs hp₂ => op self vs hp₂ Q

section
variable {g : Gl} {n : Nat} {sc : Scope} {nm : List Str}

theorem lists_method {A : Around} {E : Value → Shared → Prop} {s : Shared} {name : Str} {id : String} {pl : Sem Bool} {Q : Value × List Value → Shared → Prop} {ov : Value} {v : V} {hp : Hp} (O : Objs g hp s) (ev : vOf ov = some v) (hl : isL v hp)
    (slot : Slot "list" name id) (hty : typeOf (.builtin id) = pure (.type "method_descriptor")) (h : Q (.builtin id, [ov]) s) : wpAny g.M A (getMethod ov name pl) Q E s := by
  unfold isL at hl
  split at hl
  · rename_i x
    obtain rfl := vOf_ref ev
    split at hl
    · rename_i vs hx
      obtain ⟨ob, e1, e2⟩ := O _ _ hx
      obtain ⟨items, ⟨k, e3⟩, hr⟩ := IsList.of e1 e2
      exact getMethod_builtin ⟨_, e3, rfl⟩ PySem.F.plainAttrs_list slot hty (fun a e => by cases e; exact ⟨_, e3, rfl⟩) h
    · exact hl.elim
  · exact hl.elim

theorem s_lm {o : Expr} {name : Str} {id : String} {op : MOp} {f : EV} {es : List Expr} {fs : List EV} {apos pos : Pos} (slot : Slot "list" name id) (hty : typeOf (.builtin id) = pure (.type "method_descriptor")) (ho : SoundM g n (.builtin id) op)
    (h : SoundE g n sc nm o f) (hs : SL g n sc nm es fs)
    (he : ∀ env, ∃ pl, eval (.Call (.Attribute o name apos) es [] pos) env = (do
      let ov ← eval o env
      standAt apos.atName
      let (f, first) ← holding [ov] (getMethod ov name pl)
      callWith pos f first (backTo pos (starEach es env)) (backToKw pos (keywordEach [] env))) := by exact fun _ => ⟨_, rfl⟩) :
    SoundE g n sc nm (.Call (.Attribute o name apos) es [] pos) (cLm op f fs) := fun a A env ρ hp s Q E Ok AO V R q => by
  obtain ⟨pl, he⟩ := he env
  refine methodCall_KW (wpAny_mono (h a A env ρ hp s _ E Ok AO V R q) (fun ov s₁ q => ?_) fun _ _ x => x) he
  obtain ⟨v, hp₁, S₁, O₁, ev, hl, q⟩ := q
  refine lists_method O₁ ev hl slot hty ?_
  have R₁ := R.step S₁ O₁
  have KX : g.K.In s₁.heap := let ⟨m, F⟩ := R₁.frm; Ok.kin.keeps F.keep
  cases hs with
  | nil =>
    refine callWith_any0 rfl KX (wpAny_mono (ho a A hp₁ s₁ ov v [] [] Q E Ok AO R₁ ev .nil q) (fun _ _ q => EPost.comp S₁ q) fun _ _ x => x)
  | @cons e fe es' fs' h1 hp1 t =>
    refine callWith_any rfl KX ?_ (hp1 env es') (t.starPlain env pos)
    refine wpAny_mono (spliced_all (.cons h1 hp1 t) Ok AO (V.step S₁) R₁ q) (fun vals s₂ x => ?_) fun _ _ x => x
    obtain ⟨vs, hp₂, S₂, O₂, e₂, _, q⟩ := x
    have R₂ := R₁.step S₂ O₂
    obtain ⟨m, F₂⟩ := R₂.frm
    exact ⟨Ok.kin.keeps F₂.keep, wpAny_mono (ho a A hp₂ s₂ ov v vals vs Q E Ok AO R₂ ev e₂ q) (fun _ _ q => EPost.comp (S₁.trans S₂) q) fun _ _ x => x⟩

noncomputable def mApp : MOp := fun self vs hp Q => match self, vs with
  | .ref x, [v] => (match hp x with
    | some (.list us) => us.length ≤ 1000000 ∧ Q .none (hp.set x (.list (us ++ [v])))
    | _ => False)
  | _, _ => False
theorem EPost.upd {hp} {s s' : Shared} {Q : V → Hp → Prop} {val v} {x : Addr} {o : Ab} {ob : Obj} (O : Objs g hp s) (hx : hp x ≠ none) (k : ∀ b, b ≠ x → s'.heap.get? b = s.heap.get? b) (hg : s'.gens = s.gens) (ho : s'.os = s.os)
    (h1 : s'.heap.get? x = some ob) (h2 : OIs g ob o) (hv : vOf val = some v) (q : Q v (hp.set x o)) : EPost g hp s Q val s' :=
  ⟨v, _, Step.upd hx k hg ho, O.upd k h1 h2, hv, q⟩
theorem m_app : SoundM g n (.builtin "list.append") mApp := fun a A hp s self sv vals vs Q E Ok AO R ev hv h => by
  unfold mApp at h
  split at h
  · rename_i x v
    obtain rfl := vOf_ref ev
    obtain ⟨val, rfl, e⟩ := vrs1 hv
    split at h
    · rename_i us hx
      obtain ⟨h1, h⟩ := h
      obtain ⟨ob, e1, e2⟩ := R.obj _ _ hx
      obtain ⟨items, hl, hr⟩ := IsList.of e1 e2
      have hlen := hr.length
      rw [Array.length_toList] at hlen
      refine wpAny_list_append_plain (hsz := by rw [hlen, sizeLine_eq]; lia) hl fun h' ⟨k, hl'⟩ hs => ?_
      exact EPost.upd (s' := { s with heap := h' }) (o := .list (us ++ [v])) R.obj (by rw [hx]; exact fun x => nomatch x) hs.2 rfl rfl hl' ⟨_, _, rfl, by rw [Array.toList_push]; exact hr.snoc e⟩ rfl h
    · exact h.elim
  · exact h.elim

noncomputable def mPop : MOp := fun self vs hp Q => match self, vs with
  | .ref x, [] => (match hp x with
    | some (.list us) => us.length ≤ 1000000 ∧ (match us.getLast? with | some v => Q v (hp.set x (.list us.dropLast)) | none => False)
    | _ => False)
  | _, _ => False
theorem m_pop : SoundM g n (.builtin "list.pop") mPop := fun a A hp s self sv vals vs Q E Ok AO R ev hv h => by
  unfold mPop at h
  split at h
  · rename_i x
    obtain rfl := vOf_ref ev
    obtain rfl := hv.nil_inv
    split at h
    · rename_i us hx
      obtain ⟨h1, h⟩ := h
      split at h
      · rename_i v hlast
        obtain ⟨ob, e1, e2⟩ := R.obj _ _ hx
        obtain ⟨items, ⟨k, hl⟩, hr⟩ := IsList.of e1 e2
        have hlen := hr.length
        rw [Array.length_toList] at hlen
        rw [List.getLast?_eq_getElem?] at hlast
        obtain ⟨y, g1, g2⟩ := hr.get hlast
        rw [← hlen] at g1
        have hm := mapSeq_list items k (fun its => its.eraseIdxIfInBounds (items.size - 1))
        have hg := Heap.get?_update_self (Obj.mapSeq fun its => its.eraseIdxIfInBounds (items.size - 1)) hl (by obtain ⟨n', e⟩ := hm; rw [e]; rfl)
        obtain ⟨n', e⟩ := hm
        rw [e] at hg
        have hs : Heap.SameBut x s.heap (s.heap.update x (Obj.mapSeq fun its => its.eraseIdxIfInBounds (items.size - 1))) := Heap.SameBut.update ..
        refine call_meets PySem.F.slot_list_pop ⟨_, hl, rfl⟩ PySem.F.entry_list_pop (PySem.F.args_list_pop_1 _) (PySem.MeetsSeq.list_pop_last x items k y (by simpa using g1) (by rw [hlen, sizeLine_eq]; lia)) ⟨hl, ?_⟩
        refine EPost.upd (s' := { s with heap := s.heap.update x _ }) (o := .list us.dropLast) R.obj (by rw [hx]; exact fun x => nomatch x) hs.2 rfl rfl hg ⟨_, _, rfl, ?_⟩ g2 h
        have hpos : items.size - 1 < items.size := by
          have := (List.getElem?_eq_some_iff.mp g1).1
          simpa using this
        unfold Array.eraseIdxIfInBounds
        rw [dif_pos hpos, Array.toList_eraseIdx]
        have : items.toList.eraseIdx (items.size - 1) = items.toList.dropLast := by
          rw [List.dropLast_eq_take, Array.length_toList, List.eraseIdx_eq_take_drop_succ, List.drop_eq_nil_of_le (by simp; lia), List.append_nil]
        rw [this]
        exact hr.dropLast
      · exact h.elim
    · exact h.elim
  · exact h.elim

noncomputable def mRev : MOp := fun self vs hp Q => match self, vs with
  | .ref x, [] => (match hp x with
    | some (.list us) => us.length ≤ 1000000 ∧ Q .none (hp.set x (.list us.reverse))
    | _ => False)
  | _, _ => False
theorem m_rev : SoundM g n (.builtin "list.reverse") mRev := fun a A hp s self sv vals vs Q E Ok AO R ev hv h => by
  unfold mRev at h
  split at h
  · rename_i x
    obtain rfl := vOf_ref ev
    obtain rfl := hv.nil_inv
    split at h
    · rename_i us hx
      obtain ⟨h1, h⟩ := h
      obtain ⟨ob, e1, e2⟩ := R.obj _ _ hx
      obtain ⟨items, ⟨k, hl⟩, hr⟩ := IsList.of e1 e2
      have hlen := hr.length
      rw [Array.length_toList] at hlen
      have hm := mapSeq_list items k (fun its => its.reverse)
      have hg := Heap.get?_update_self (Obj.mapSeq fun its => its.reverse) hl (by obtain ⟨n', e⟩ := hm; rw [e]; rfl)
      obtain ⟨n', e⟩ := hm
      rw [e] at hg
      have hs : Heap.SameBut x s.heap (s.heap.update x (Obj.mapSeq fun its => its.reverse)) := Heap.SameBut.update ..
      refine call_meets PySem.F.slot_list_reverse ⟨_, hl, rfl⟩ PySem.F.entry_list_reverse (PySem.F.args_list_reverse_1 _) (PySem.AutoSeq1.list_reverse_list_0 x items k (by rw [hlen, sizeLine_eq]; lia)) ⟨hl, ?_⟩
      refine EPost.upd (s' := { s with heap := s.heap.update x _ }) (o := .list us.reverse) R.obj (by rw [hx]; exact fun x => nomatch x) hs.2 rfl rfl hg ⟨_, _, rfl, ?_⟩ rfl h
      rw [Array.toList_reverse]; exact hr.reverse
    · exact h.elim
  · exact h.elim

/-- dict(d) -/
noncomputable def opDict : Op := fun vs hp Q => match vs with
  | [.ref x] => (match hp x with
    | some (.dict _ es) => es.length ≤ 1000000 ∧ ∀ D ep, hp D = none → Q (.ref D) (hp.set D (.dict ep es))
    | _ => False)
  | _ => False
theorem o_dict : SoundOp g n (.type "dict") opDict := fun a A hp s vals vs Q E Ok AO R hv h => by
  unfold opDict at h
  split at h
  · rename_i x
    obtain ⟨val, rfl, e⟩ := vrs1 hv
    obtain rfl := vOf_ref e
    split at h
    · rename_i ep es hx
      obtain ⟨h1, h⟩ := h
      obtain ⟨ob, e1, e2⟩ := R.obj _ _ hx
      obtain ⟨kvs', ht, hr⟩ := DictAt.of e1 e2
      have low : (x == sysModules) = false := beq_false_of_ne (Nat.ne_of_gt (Nat.lt_trans (by decide : (1 : Nat) < 4) (R.low x (by rw [hx]; exact fun x => nomatch x))))
      refine kt_call_dict low ht.dictOf (by rw [hr.length, sizeLine_eq]; lia) fun h' hd hs => ?_
      obtain ⟨ep', hd⟩ := hd.dictAt
      obtain ⟨ob', g1, g2⟩ := DictAt.to hd hr
      have kp : ∀ b o, s.heap.get? b = some o → h'.get? b = some o := fun b o e => hs.extBut _ _ (Nat.ne_of_lt (Heap.lt_size e)) (kept_push _ b o e)
      exact ⟨_, _, Step.alloc (s' := { s with heap := h' }) (size_none _) (R.big Ok) kp rfl rfl, R.obj.alloc (s' := { s with heap := h' }) (size_none _) kp g1 g2, rfl, h _ ep' (R.obj.fresh (size_none _))⟩
    · exact h.elim
  · exact h.elim
end
end Mine
namespace Mine
open PySem PySem.W PySem.Calls PyProof.Rows

/-! ## the script -/
theorem IntsAre.length' : ∀ {vs : List Value} {ns : List Int}, IntsAre vs ns → vs.length = ns.length
  | _, _, .nil => rfl
  | _, _, .cons n t h => by simp [IntsAre.length' h]
theorem IntsAre.vrs : ∀ {vs : List Value} {ns : List Int}, IntsAre vs ns → VRs vs (ns.map V.int)
  | _, _, .nil => .nil
  | _, _, .cons n t h => .cons rfl (IntsAre.vrs h)
theorem VRs.ints : ∀ {vs : List Value} {ns : List Int}, VRs vs (ns.map V.int) → IntsAre vs ns
  | [], [], _ => .nil
  | v :: vs, n :: ns, h => by
    obtain ⟨a, t, e, e1, e2⟩ := h.cons_inv
    cases e
    obtain ⟨t, rfl⟩ := vOf_int e1
    exact .cons n t (VRs.ints e2)
  | [], _ :: _, h => by cases h
  | _ :: _, [], h => by cases h
theorem VRs.strs : ∀ {vs : List Value} {ns : List Str}, VRs vs (ns.map V.str) → StrsAre vs ns
  | [], [], _ => .nil
  | v :: vs, n :: ns, h => by
    obtain ⟨a, t, e, e1, e2⟩ := h.cons_inv
    cases e
    obtain ⟨t, rfl⟩ := vOf_str e1
    exact .cons n t (VRs.strs e2)
  | [], _ :: _, h => by cases h
  | _ :: _, [], h => by cases h
theorem StrsAre.vrs : ∀ {vs : List Value} {ns : List Str}, StrsAre vs ns → VRs vs (ns.map V.str)
  | _, _, .nil => .nil
  | _, _, .cons n t h => .cons rfl (StrsAre.vrs h)
theorem slicePick_to (items : Array Value) (b : Nat) : slicePick items none (some (b : Int)) none = (items.toList.take b).toArray := by
  by_cases h : b ≤ items.size
  · exact slicePick_upto items b h
  · have e : slicePick items none (some (b : Int)) none = slicePick items none (some (items.size : Int)) none := by
      have e : sliceBounds none (some (b : Int)) none items.size = sliceBounds none (some (items.size : Int)) none items.size := by
        simp only [sliceBounds, Option.getD_none]
        have h1 : ¬ ((b : Int) < 0) := by lia
        have h2 : ¬ ((items.size : Int) < 0) := by lia
        simp only [h1, h2, if_false, show (1 : Int) > 0 by decide, if_true]
        congr 2
        lia
      unfold slicePick; rw [e]
    rw [e, slicePick_upto items items.size (Nat.le_refl _), List.take_of_length_le (by simp), List.take_of_length_le (by simp; lia)]

section
variable {g : Gl} {n : Nat} {sc : Scope} {nm : List Str}
/-- f[:k], f being the script -/
noncomputable def cSl (g : Gl) (k : Nat) (f : EV) : EV := fun ρ hp Q => f ρ hp fun v hp₁ => v = .ref g.scrA ∧ g.scrN.length ≤ 1000000 ∧ ∀ D, hp₁ D = none → Q (.ref D) (hp₁.set D (.list ((g.scrN.take k).map V.int)))
theorem s_slice {e : Expr} {f : EV} {k : Nat} {kp p p2 pos} (h : SoundE g n sc nm e f) (ht : ∀ o r, letTemporaryGo e o r = pure () := by exact fun _ _ => rfl) :
    SoundE g n sc nm (.Subscript e (.Slice none (some (.Constant (.int (k : Int)) kp p)) none p2) pos) (cSl g k f) := fun a A env ρ hp s Q E Ok AO Ve R q => by
  refine wpAny_Subscript_list_slice (wpAny_mono (h a A env ρ hp s _ E Ok AO Ve R q) (fun val s₁ r => ?_) fun _ _ x => x) ht
  obtain ⟨v, hp₁, S₁, O₁, e₁, rfl, hlen, q⟩ := r
  obtain rfl := vOf_ref e₁
  have R₁ := R.step S₁ O₁
  refine wpAny_pure ?_
  rw [evalPart_some]
  refine wpAny_Constant_int ?_
  obtain ⟨vs, hl, hi⟩ := R₁.scr
  have hvl := IntsAre.length' hi
  refine ⟨g.scrA, vs.toArray, none, some (k : Int), rfl, hl, by rw [List.size_toArray, hvl, sizeLine_eq]; lia, .none, .int _ _, ?_⟩
  have kp : ∀ b o, s₁.heap.get? b = some o → (s₁.heap.push { cls := .type "slice", data := .fields #[.none, .int (k : Int) s₁.toks, .none] }).get? b = some o := kept_push _
  have R₂ := R₁.pushed (s' := { s₁ with heap := s₁.heap.push { cls := .type "slice", data := .fields #[.none, .int (k : Int) s₁.toks, .none] }, toks := s₁.toks + 1 }) kp rfl rfl
  have S₂ : Step [] hp s hp₁ { s₁ with heap := s₁.heap.push { cls := .type "slice", data := .fields #[.none, .int (k : Int) s₁.toks, .none] }, toks := s₁.toks + 1 } := S₁.trans (Step.kept kp rfl rfl)
  refine EPost.comp S₂ ?_
  have hsz : (s₁.heap.push { cls := .type "slice", data := .fields #[.none, .int (k : Int) s₁.toks, .none] }).objs.size = s₁.heap.objs.size + 1 := Heap.size_push ..
  have key := EPost.new (g := g) (hp := hp₁) (s := { s₁ with heap := s₁.heap.push { cls := .type "slice", data := .fields #[.none, .int (k : Int) s₁.toks, .none] }, toks := s₁.toks + 1 }) (k := s₁.toks + 1) (Q := Q) (o := .list ((g.scrN.take k).map V.int)) (ob := { cls := .type "list", data := .seq (slicePick vs.toArray none (some (k : Int)) none) })
    R₂.obj (R₂.big Ok) rfl ⟨_, _, rfl, by rw [slicePick_to]; simpa using (IntsAre.vrs hi).take k⟩ (q _ (R₂.obj.fresh (size_none _)))
  rw [hsz] at key
  exact key

noncomputable def opLenS (g : Gl) : Op := fun vs hp Q => vs = [.ref g.scrA] ∧ g.scrN.length ≤ 1000000 ∧ Q (.int g.scrN.length) hp
theorem o_lenS : SoundOp g n (.builtin "len") (opLenS g) := fun a A hp s vals vs Q E Ok AO R hv h => by
  obtain ⟨rfl, h1, h⟩ := h
  obtain ⟨val, rfl, e⟩ := vrs1 hv
  obtain rfl := vOf_ref e
  obtain ⟨us, hl, hi⟩ := R.scr
  have hvl := IntsAre.length' hi
  refine call_len_list hl (by rw [List.size_toArray, hvl]; lia) ?_
  rw [List.size_toArray, hvl]; exact EPost.tok R.obj rfl h

/-! ## an item of a text -/
noncomputable def cSubS (x : Str) (f : EV) : EV := fun ρ hp Q => f ρ hp fun v hp₁ => match v with
  | .int i => 0 ≤ i ∧ i < BIG ∧ (match x.cps[i.toNat]? with | some c => Q (.str ⟨#[c]⟩) hp₁ | none => False)
  | _ => False
theorem s_subS {x : Str} {e : Expr} {f : EV} {k p pos} (h : SoundE g n sc nm e f) (hs : ∀ o i, ∃ ops, subscripted e false o i = operate ops (getItem o i) := by exact fun _ _ => ⟨_, rfl⟩) :
    SoundE g n sc nm (.Subscript (.Constant (.str x) k p) e pos) (cSubS x f) := fun a A env ρ hp s Q E Ok AO V R q => by
  refine Subscript_ (Constant_str (wpAny_mono (h a A env ρ hp _ _ E Ok AO (V.pushed (s' := { s with toks := _ }) (fun _ _ e => e) rfl rfl) (R.pushed (s' := { s with toks := _ }) (fun _ _ e => e) rfl rfl) q) (fun vi s₁ r => ?_) fun _ _ x => x))
  obtain ⟨v, hp₁, S₁, O₁, e₁, q⟩ := r
  cases v with
  | int i =>
    obtain ⟨t, rfl⟩ := vOf_int e₁
    obtain ⟨h0, h1, q⟩ := q
    split at q
    · rename_i c hc
      have hlt : i.toNat < x.cps.size := (Array.getElem?_eq_some_iff.mp hc).1
      have hidx : seqIndex? i x.length = some i.toNat := by
        have hn : ¬ i < 0 := by lia
        have hxl : x.length = x.cps.size := rfl
        have h2 : (decide (0 ≤ i) && decide (i < (x.length : Int))) = true := by
          rw [Bool.and_eq_true, decide_eq_true_eq, decide_eq_true_eq, hxl]; lia
        simp only [seqIndex?, hn, if_false, h2, if_true]
      refine tail_any (typeIs_str _ _ _) PySem.F.slot_str_getitem.lookup (P.getItem_str (c := c) ?_ (by rw [hidx]; exact hc) (EPost.comp ((Step.kept (s := s) (s' := { s with toks := s.toks + 1 }) (fun _ _ e => e) rfl rfl).trans S₁) (EPost.tok O₁ rfl q))) (hs _ _).choose_spec
      simp only [BIG] at h1
      rw [decide_eq_false (by lia), decide_eq_false (by lia)]; rfl
    · exact q.elim
  | _ => exact q.elim

/-! ## sums -/
noncomputable def opSum : Op := fun vs hp Q => match vs with
  | [.ref x] => ∃ ns : List Int, hp x = some (.list (ns.map V.int)) ∧ Q (.int ns.sum) hp
  | _ => False
theorem o_sum : SoundOp g n (.builtin "sum") opSum := fun a A hp s vals vs Q E Ok AO R hv h => by
  unfold opSum at h
  split at h
  · rename_i x
    obtain ⟨val, rfl, e⟩ := vrs1 hv
    obtain rfl := vOf_ref e
    obtain ⟨ns, hx, h⟩ := h
    obtain ⟨ob, e1, e2⟩ := R.obj _ _ hx
    obtain ⟨items, hl, hr⟩ := IsList.of e1 e2
    have hi := VRs.ints hr
    obtain ⟨xs, hxs⟩ := hi.allInts.items
    have hl' : s.heap.IsList x (intItems xs) := by rw [← hxs]; exact hl.isList
    refine sum_intListG AO.hd hl' fun h' tk t' hk => ?_
    have e1 : ns = xs.toList.map (·.1) := by
      rw [← nums_intItems, ← hxs]
      exact (show numsOf items.toList = ns from hi.numsOf).symm
    have e2 : preSum (numAt xs) xs.size = ns.sum := by
      rw [preSum_eq, List.take_of_length_le (by simp), e1]
    rw [e2]
    exact EPost.val (s' := { s with heap := h', toks := tk }) R.obj hk rfl rfl rfl h
  · exact h.elim
end
end Mine
namespace Mine
open PySem PySem.W PySem.Calls PyProof.Rows

/-! ## the order of texts -/
noncomputable def leS (a b : Str) : Bool := !PySem.Spec.ltCps b.cps.toList a.cps.toList
theorem leS_iff {a b : Str} : leS a b = true ↔ a.cps.toList ≤ b.cps.toList := by
  unfold leS
  rw [ltCps_eq, Bool.not_eq_true', decide_eq_false_iff_not]
  exact Iff.rfl
theorem leS_total (a b : Str) : (leS a b || leS b a) = true := by
  rw [Bool.or_eq_true, leS_iff, leS_iff]; exact List.le_total _ _
theorem leS_trans (a b c : Str) (h : leS a b = true) (t : leS b c = true) : leS a c = true := by
  rw [leS_iff] at *; exact List.le_trans h t
theorem leS_anti {a b : Str} (h : leS a b = true) (t : leS b a = true) : a = b := by
  rw [leS_iff] at *
  have := List.le_antisymm h t
  cases a; cases b
  simp only [Str.mk.injEq]
  exact Array.toList_inj.mp this
noncomputable def srt (l : List Str) : List Str := l.mergeSort leS
theorem srt_pair (l : List Str) : (srt l).Pairwise fun a b => leS a b = true := List.pairwise_mergeSort leS_trans leS_total l
theorem srt_perm (l : List Str) : (srt l).Perm l := List.mergeSort_perm l leS
theorem rising_pair : ∀ {p : Str} {l : List Str}, risingS p l = true → (p :: l).Pairwise fun a b => leS a b = true
  | p, [], _ => List.pairwise_singleton _ _
  | p, x :: r, h => by
    unfold risingS at h
    rw [Bool.and_eq_true] at h
    have ih := rising_pair h.2
    refine List.pairwise_cons.mpr ⟨fun y hy => ?_, ih⟩
    rcases List.mem_cons.mp hy with rfl | hy
    · exact h.1
    · exact leS_trans p x y h.1 (List.rel_of_pairwise_cons ih hy)
theorem sortedS_pair : ∀ {l : List Str}, sortedS l = true → l.Pairwise fun a b => leS a b = true
  | [], _ => List.Pairwise.nil
  | x :: r, h => rising_pair h
theorem srt_unique {a l : List Str} (h : a.Pairwise fun a b => leS a b = true) (p : a.Perm l) : a = srt l :=
  List.Perm.eq_of_pairwise (fun x y _ _ h t => leS_anti h t) h (srt_pair l) (p.trans (srt_perm l).symm)
theorem mem_srt {l : List Str} {x : Str} : x ∈ srt l ↔ x ∈ l := (srt_perm l).mem_iff
/-- the texts of a list, each once, in order -/
noncomputable def uniq (l : List Str) : List Str := srt l.eraseDups
theorem eraseDups_nodup : ∀ (n : Nat) (l : List Str), l.length ≤ n → l.eraseDups.Nodup
  | _, [], _ => by simp
  | 0, x :: r, h => by simp at h
  | n + 1, x :: r, h => by
    rw [List.eraseDups_cons, List.nodup_cons]
    refine ⟨fun hm => ?_, eraseDups_nodup n _ ?_⟩
    · rw [List.mem_eraseDups, List.mem_filter] at hm
      simp at hm
    · have := List.length_filter_le (fun b => !b == x) r
      simp only [List.length_cons] at h
      lia
theorem mem_uniq {l : List Str} {x : Str} : x ∈ uniq l ↔ x ∈ l := by rw [uniq, mem_srt, List.mem_eraseDups]
theorem uniq_nodup (l : List Str) : (uniq l).Nodup := (srt_perm _).nodup_iff.mpr (eraseDups_nodup _ l (Nat.le_refl _))
theorem uniq_pair (l : List Str) : (uniq l).Pairwise fun a b => leS a b = true := srt_pair _
theorem uniq_unique {a l : List Str} (h : a.Pairwise fun a b => leS a b = true) (hn : a.Nodup) (p : ∀ x, x ∈ a ↔ x ∈ l) : a = uniq l :=
  srt_unique h ((List.perm_ext_iff_of_nodup hn (eraseDups_nodup _ l (Nat.le_refl _))).mpr fun x => (p x).trans List.mem_eraseDups.symm)

/-! ## sorted -/
structure Kept (s s' : Shared) : Prop where
  keep : ∀ b o, s.heap.get? b = some o → s'.heap.get? b = some o
  gens : s'.gens = s.gens
  os : s'.os = s.os
theorem Kept.trans {s s' s'' : Shared} (a : Kept s s') (b : Kept s' s'') : Kept s s'' := ⟨fun x o e => b.keep x o (a.keep x o e), b.gens.trans a.gens, b.os.trans a.os⟩

section
variable {prog : Program} {w : World} {A : Around} {E : Value → Shared → Prop} {s : Shared}
theorem sorted_collect {x : Value} {ss : List Str} {Q : Value → Shared → Prop} (h64 : ss.length < 64)
    (hcol : ∀ (R : List Value → Shared → Prop), (∀ s' vals ss', Kept s s' → StrsAre vals ss' → ss'.Perm ss → R vals s') → wpAny (model prog w) A.in1 (collect x) R E s)
    (hQ : ∀ s' D out e, Kept s s' → (∀ b o, s.heap.get? b = some o → b < D) → s'.heap.get? D = some (seqObj "list" out e) → StrsAre out.toList (srt ss) → Q (.ref D) s') :
    wpAny (model prog w) A (call (.builtin "sorted") [x]) Q E s := by
  refine Calls.call_function_entry kind_sorted plain_sorted entry_sorted (args_sorted1 _) ?_
  unfold Builtin.«sorted»
  refine wpAny_bind (m := checkCount "sorted" 1 1 _) (wpAny_pure ?_)
  refine wpAny_bind (hcol _ fun s' vals ss₀ K hS hperm => ?_)
  have hl : vals.length = ss.length := hS.length.trans hperm.length_eq
  refine wpAny_bind (wpAny_newList ?_ (by rw [hl, sizeLine_eq]; lia))
  have hoL : (s'.heap.push (seqObj "list" vals.toArray 0)).get? s'.heap.objs.size = some (seqObj "list" vals.toArray 0) := Heap.get?_push_size _ rfl
  refine wpAny_bind (wpAny_holding (wpAny_call_entry slot_list_sort ⟨_, hoL, rfl⟩ entry_list_sort (list_sort_treeK strKind_oneLt (n := 0) hoL hS.keysOf (fun v₁ v₂ rest e => keyKind_strs (by rw [← e]; exact hS)) (by rw [hl]; exact h64) fun st' hp hs => ⟨_, rfl, ?_⟩) (args_list_sort _)))
  obtain ⟨ss', h1, h2, h3⟩ := sorted_out_str hS hp hs
  obtain ⟨e, he⟩ := sortedHeap_at (n := 0) (out := (arrOf st').map (·.2)) hoL
  refine wpAny_pure ⟨_, rfl, hQ _ _ _ e (K.trans ⟨fun b o hb => ?_, rfl, rfl⟩) (fun b o hb => Heap.lt_size (K.keep b o hb)) he (by rw [← srt_unique (sortedS_pair h3) (h2.trans hperm)]; exact h1)⟩
  have hlt := Heap.lt_size hb
  rw [sortedHeap_old (Nat.ne_of_lt hlt) (by rw [Heap.size_push]; exact Nat.lt_succ_of_lt hlt)]
  exact Heap.get?_push_of_some _ hb
end

section
variable {g : Gl} {n : Nat} {sc : Scope} {nm : List Str}
theorem fresh_of {a hp s D} (R : HRep g a hp s) (Ok : a.Ok g) (h : ∀ b o, s.heap.get? b = some o → b < D) : s.heap.get? D = none ∧ 4 < D := by
  refine ⟨?_, ?_⟩
  · cases e : s.heap.get? D with
    | none => rfl
    | some o => exact absurd (h _ _ e) (Nat.lt_irrefl _)
  · obtain ⟨mF, F⟩ := R.frm
    obtain ⟨oL, _, _, hL, _⟩ := F.ns
    have h2 : 3 < a.h₀.objs.size := Ok.top.g.lt
    exact Nat.lt_of_le_of_lt (Nat.le_trans h2 F.above) (h _ _ hL)

theorem sorted_post {a hp s Q} (R : HRep g a hp s) (Ok : a.Ok g) {ss : List Str} (q : ∀ D, hp D = none → Q (.ref D) (hp.set D (.list (ss.map V.str)))) {s' D out e} (K : Kept s s') (hlt : ∀ b o, s.heap.get? b = some o → b < D) (hD : s'.heap.get? D = some (seqObj "list" out e)) (hS : StrsAre out.toList ss) :
    EPost g hp s Q (.ref D) s' := by
  obtain ⟨h1, h2⟩ := fresh_of R Ok hlt
  exact ⟨_, _, Step.alloc h1 h2 K.keep K.gens K.os, R.obj.alloc (o := .list (ss.map V.str)) h1 K.keep hD ⟨_, _, rfl, StrsAre.vrs hS⟩, rfl, q D (R.obj.fresh h1)⟩

/-- sorted of a list of texts, of a dict's keys -/
noncomputable def opSorted : Op := fun vs hp Q => match vs with
  | [.ref x] => (∃ ss : List Str, hp x = some (.list (ss.map V.str)) ∧ ss.length < 64 ∧ ∀ D, hp D = none → Q (.ref D) (hp.set D (.list ((srt ss).map V.str)))) ∨
    (∃ ep es, hp x = some (.dict ep es) ∧ es.length < 64 ∧ ∀ D, hp D = none → Q (.ref D) (hp.set D (.list ((srt (es.map (·.1))).map V.str))))
  | _ => False
theorem o_sorted : SoundOp g n (.builtin "sorted") opSorted := fun a A hp s vals vs Q E Ok AO R hv h => by
  unfold opSorted at h
  split at h
  · rename_i x
    obtain ⟨val, rfl, e⟩ := vrs1 hv
    obtain rfl := vOf_ref e
    rcases h with ⟨ss, hx, h64, h⟩ | ⟨ep, es, hx, h64, h⟩
    · obtain ⟨ob, e1, e2⟩ := R.obj _ _ hx
      obtain ⟨items, hl, hr⟩ := IsList.of e1 e2
      have hS := VRs.strs hr
      refine sorted_strs (vs := items.toList) (by rw [Array.toArray_toList]; exact hl.isList) hS (by rw [hS.length]; exact h64) fun out ss' a1 a2 a3 => ?_
      obtain ⟨e', he⟩ := sortedAll_at s.heap items.toList out
      exact sorted_post (s' := { s with heap := sortedAll s.heap items.toList out }) R Ok h ⟨fun b o => sortedAll_old, rfl, rfl⟩ (fun b o hb => Nat.lt_succ_of_lt (Heap.lt_size hb)) he (by rw [← srt_unique (sortedS_pair a3) a2]; exact a1)
    · obtain ⟨ob, e1, e2⟩ := R.obj _ _ hx
      obtain ⟨kvs', ht, hr⟩ := DictAt.of e1 e2
      have low : (x == sysModules) = false := beq_false_of_ne (Nat.ne_of_gt (Nat.lt_trans (by decide : (1 : Nat) < 4) (R.low x (by rw [hx]; exact fun x => nomatch x))))
      refine sorted_collect (ss := es.map (·.1)) (by simpa using h64) (fun R' k => ?_) fun s' D out e K hlt hD hS => sorted_post R Ok h K hlt hD hS
      refine kdu_collect (kdl_dict low) AO.hd ht (by rw [hr.length, sizeLine_eq]; lia) fun h' tk acc hk hacc => k { s with heap := h', toks := tk } _ _ ⟨hk, rfl, rfl⟩ ?_ (List.Perm.refl _)
      obtain ⟨h1, h2⟩ := hacc
      have hkeys : kvs'.map (·.1) = es.map (·.1) := hr.keys
      rw [← hkeys]
      have : VRs acc.toList ((kvs'.map (·.1)).map V.str) := by
        unfold VRs
        refine List.ext_getElem? fun i => ?_
        rw [List.getElem?_map, List.getElem?_map, List.getElem?_map, List.getElem?_map]
        cases hi : acc.toList[i]? with
        | none =>
          have : kvs'[i]? = none := by
            rw [List.getElem?_eq_none_iff] at hi ⊢
            rw [Array.length_toList, h1] at hi; exact hi
          rw [this]; rfl
        | some v =>
          obtain ⟨k', u, hk', hkv⟩ := h2 i v (by rw [← Array.getElem?_toList]; exact hi)
          obtain ⟨t, rfl⟩ := Value.isStrOf_shape hkv
          rw [hk']; rfl
      exact VRs.strs this
  · exact h.elim
end
end Mine
namespace Mine
open PySem PySem.W PySem.Calls PyProof.Rows Builtin Builtin.ObjectAttr

/-! ## names of a dict -/
theorem hash_eq (w : World) (x : Str) : PyData.keyHash w.params x = hashStr w x := rfl
theorem isStr_is (prog : Program) (w : World) (k : Str) (v : Value) : (strKind prog w).is k v = v.isStr k := (strKind prog w).strs k k 0 v (strKind_is prog w k 0)

section
variable {prog : Program} {w : World}
theorem noRefKey {es : Array DictEntry} (h : KeysOf (strKind prog w) es) : ∀ e ∈ es.toList, e.refKey = false := fun e he => by
  obtain ⟨k, hk, _⟩ := h e (Array.mem_toList_iff.mp he)
  obtain ⟨t, ht⟩ := Value.isStrOf_shape hk
  simp [DictEntry.refKey, ht]
theorem lookIn_at {ob : Obj} {es : Array DictEntry} {ep : Nat} {kvs : List (Str × Value)} (hd : ob.data = .dict es ep) (hk : KeysOf (strKind prog w) es) (hp : Pairs (strKind prog w) es.toList kvs) (k : Str) :
    lookIn k ob = some (valueAt kvs k) := by
  unfold lookIn
  rw [hd]
  dsimp only
  have e := hp.find k
  have hf : (fun e : DictEntry => (strKind prog w).is k e.key) = fun e => e.key.isStr k := funext fun e => isStr_is prog w k e.key
  rw [hf] at e
  rw [← e]
  cases q : es.toList.find? (fun e => e.key.isStr k) with
  | some x => rfl
  | none =>
    have : es.toList.any (·.refKey) = false := by
      rw [List.any_eq_false]; intro x hx; rw [noRefKey hk x hx]; exact Bool.false_ne_true
    show (if _ then _ else _) = _
    rw [this]; rfl

theorem putName_at {h : Heap} {d : Addr} {kvs : List (Str × Value)} {ep : Nat} {k : Str} {tk : Tok} {v : Value} (hm : h.DictAt (strKind prog w) d kvs ep) :
    (h.update d (Obj.putName k (PyData.keyHash w.params k) (.str k tk) v)).DictAt (strKind prog w) d (stored kvs k v) (if kvs.any (fun kv => kv.1 = k) then ep else ep + 1) := by
  obtain ⟨o, es, ho, hc, hd, hk, hp, hn⟩ := hm
  obtain ⟨c, dd, dt, sl⟩ := o
  obtain ⟨h1, h2, h3⟩ := hc
  dsimp only at h1 h2 h3 hd
  subst h1 h2 h3 hd
  have hf : (fun e : DictEntry => e.key.isStr k) = fun e => (strKind prog w).is k e.key := funext fun e => (isStr_is prog w k e.key).symm
  have hidx : (es.findIdx? fun e => (strKind prog w).is k e.key) = kvs.findIdx? fun kv => decide (kv.1 = k) := by
    rw [← hp.findIdx k]; obtain ⟨l⟩ := es; simp
  have hP : Obj.putName k (PyData.keyHash w.params k) (.str k tk) v ⟨.type "dict", none, .dict es ep, #[]⟩ =
      (match es.findIdx? fun e => (strKind prog w).is k e.key with
        | some i => ⟨.type "dict", none, .dict (es.modify i fun e => { e with val := v }) ep, #[]⟩
        | none => ⟨.type "dict", none, .dict (es.push ⟨hashStr w k, .str k tk, v⟩) (ep + 1), #[]⟩) := by
    rw [Obj.putName_eq]
    unfold Obj.putNameByArray
    rw [hf]; rfl
  cases hi : es.findIdx? fun e => (strKind prog w).is k e.key with
  | some i =>
    have hany := any_of_findIdx_some (hidx ▸ hi)
    rw [hi] at hP
    have hg := Heap.get?_update_self (Obj.putName k (PyData.keyHash w.params k) (.str k tk) v) ho (by rw [hP]; rfl)
    rw [hP] at hg
    refine ⟨_, _, hg, ⟨rfl, rfl, rfl⟩, by rw [if_pos hany], hk.modify _ _, ?_, ?_⟩
    · rw [stored, if_pos hany]
      have hl : (es.toList.findIdx? fun e => (strKind prog w).is k e.key) = some i := by rw [← hi]; obtain ⟨l⟩ := es; simp
      have := hp.modify hn hl v
      obtain ⟨l⟩ := es
      simpa using this
    · rw [stored, if_pos hany, keys_map_store]; exact hn
  | none =>
    have hnot : k ∉ kvs.map (·.1) := not_mem_of_findIdx_none (hidx ▸ hi)
    have hany : ¬ (kvs.any fun kv => decide (kv.1 = k)) = true := by
      rw [List.any_eq_true]; rintro ⟨kv, hkv, he⟩
      exact hnot (List.mem_map.mpr ⟨kv, hkv, of_decide_eq_true he⟩)
    rw [hi] at hP
    have hg := Heap.get?_update_self (Obj.putName k (PyData.keyHash w.params k) (.str k tk) v) ho (by rw [hP]; rfl)
    rw [hP] at hg
    refine ⟨_, es.push ⟨hashStr w k, .str k tk, v⟩, hg, ⟨rfl, rfl, rfl⟩, by rw [if_neg hany], hk.push (strKind_is _ _ k tk) _, ?_, ?_⟩
    · rw [stored, if_neg hany]
      have := hp.append (strKind_is prog w k tk) (hashStr w k) v
      obtain ⟨l⟩ := es
      simpa using this
    · rw [stored, if_neg hany, List.map_append, List.nodup_append]
      refine ⟨hn, by simp, ?_⟩
      intro a ha b hb
      simp only [List.map_cons, List.map_nil, List.mem_singleton] at hb
      subst hb
      exact fun e => hnot (e ▸ ha)
end

/-! ## instances of the text's class -/
structure ClsOk (g : Gl) : Prop where
  hga : findIn g.K (.ref g.cls) "__getattribute__" = some (some (.builtin "object.__getattribute__"))
  hk : findIn g.K (.ref g.cls) "__getattr__" = some none
  hs : findIn g.K (.ref g.cls) "__setattr__" = some (some (.builtin "object.__setattr__"))
  hd : (clsIn g.K g.cls).any (·.hasDict) = true
  po : plainOver g.K g.cls = true
  mks : makesIn g.K g.cls = true

theorem inst_at {g : Gl} {hp : Hp} {s : Shared} (O : Objs g hp s) {x d : Addr} {ep : Nat} {es : List (Str × V)} (hx : hp x = some (.inst d)) (hd : hp d = some (.dict ep es)) :
    ∃ od kvs, InstAt s.heap x (instObj g.cls d) g.cls (some od) ∧ s.heap.get? d = some od ∧ s.heap.DictAt (strKind g.prog g.w) d kvs ep ∧ KVs kvs es ∧ ∀ k, lookIn k od = some (valueAt kvs k) := by
  obtain ⟨ox, e1, e2⟩ := O _ _ hx
  obtain ⟨od, e3, e4⟩ := O _ _ hd
  cases e2
  obtain ⟨kvs, ht, hr⟩ := DictAt.of e3 e4
  obtain ⟨o, ees, h1, h2, h3, h4, h5, h6⟩ := id ht
  rw [e3] at h1; cases h1
  exact ⟨od, kvs, ⟨e1, rfl, rfl, e3⟩, e3, ht, hr, fun k => lookIn_at h3 h4 h5 k⟩

noncomputable def opAttr (name : Str) (a : V) (hp : Hp) (Q : V → Prop) : Prop := match a with
  | .ref x => (match hp x with
    | some (.inst d) => (match hp d with
      | some (.dict _ es) => (match es.lookup name with | some v => Q v | none => False)
      | _ => False)
    | _ => False)
  | _ => False
noncomputable def cAttr (name : Str) (f : EV) : EV := fun ρ hp Q => f ρ hp fun a hp₁ => opAttr name a hp₁ fun v => Q v hp₁

section
variable {g : Gl} {n : Nat} {sc : Scope} {nm : List Str}

theorem handed_v {val : Value} {v : V} (h : vOf val = some v) : handedIn val = true := by
  cases val <;> first | rfl | cases h

theorem s_attr {e : Expr} {name : Str} {f : EV} {pos : Pos} (C : ClsOk g) (hn : findIn g.K (.ref g.cls) name = some none) (h : SoundE g n sc nm e f)
    (he : ∀ env, eval (.Attribute e name pos) env = (do
      let o ← eval e env
      standAt pos.atName
      let r ← holding [o] (getAttr o name true)
      letTemporaryGo e o r
      pure r) := by exact fun _ => rfl) : SoundE g n sc nm (.Attribute e name pos) (cAttr name f) := fun a A env ρ hp s Q E Ok AO V R q => by
  refine Attribute_any_ (wpAny_mono (h a A env ρ hp s _ E Ok AO V R q) (fun ov s₁ q => ?_) fun _ _ x => x) (he env)
  obtain ⟨v, hp₁, S₁, O₁, ev, q⟩ := q
  have R₁ := R.step S₁ O₁
  unfold opAttr at q
  split at q
  · rename_i x
    obtain rfl := vOf_ref ev
    split at q
    · rename_i d hx
      split at q
      · rename_i ep es hd
        split at q
        · rename_i v hl
          obtain ⟨od, kvs, I, hod, ht, hr, lk⟩ := inst_at O₁ hx hd
          obtain ⟨val, g1, g2⟩ := hr.get hl
          obtain ⟨m, F⟩ := R₁.frm
          obtain ⟨cd, hc, hdd⟩ := any_some C.hd
          have hlk := lk name
          rw [g1] at hlk
          refine get_value (Ok.kin.keeps F.keep) I C.hga ?_ (handed_v g2) (EPost.comp S₁ (EPost.tok O₁ g2 q))
          unfold findObj
          rw [hc, hn]
          simp only [Option.bind_some]
          unfold W.ownOf
          rw [hdd, if_pos rfl]
          simp only [hlk, Option.bind_some]
        · exact q.elim
      · exact q.elim
    · exact q.elim
  · exact q.elim

theorem osa_at {prog : Program} {w : World} {K : Frag} {A : Around} {s : Shared} {x C d : Addr} {od : Obj} {name : Str} {tk : Tok} {vv : Value} {kvs : List (Str × Value)} {ep : Nat} {R : Result → Shared → Prop} (X : K.In s.heap) (I : InstAt s.heap x (instObj C d) C (some od)) (hp : plainOver K C = true)
    (hn : findIn K (.ref C) name = some none) (hh : (clsIn K C).any (·.hasDict) = true) (ht : s.heap.DictAt (strKind prog w) d kvs ep) (hz : kvs.length ≤ 1000)
    (h : R (.ok (.ret .none)) { s with heap := s.heap.update d (Obj.putName name (PyData.keyHash w.params name) (.str name s.toks) vv), toks := s.toks + 1 }) :
    codeAny (model prog w) A (.call (.builtin "object.__setattr__") ⟨[.ref x, .str name tk, vv], []⟩) R s := by
  have htk : takerIn K C name = some none := by unfold takerIn; rw [hn]; rfl
  refine osa_open X I hp htk fun b => ?_
  obtain ⟨cd, hc, hdd⟩ := any_some hh
  obtain ⟨hx', hcl, hno, hod⟩ := I
  have hup := putName_at (k := name) (tk := s.toks) (v := vv) ht
  refine wpAny_bind (wpAny_pure (wpAny_bind (wpAny_bind (wpAny_loadPart hx' (wpAny_bind ((looks_clsIn X hc).here ?_))))))
  rw [hdd]
  refine wpAny_pure (a := some d) (wpAny_bind (wpAny_pure (wpAny_bind ?_)))
  unfold nsSet
  refine wpAny_bind (wpAny_bind (wpAny_askSetting (wpAny_pure (wpAny_bind (wpAny_mkText (wpAny_bind (wpAny_loadPart hod ?_)))))))
  obtain ⟨o', ees, h1, h2, h3, h4, h5, h6⟩ := id ht
  have hod' : s.heap.get? d = some od := hod
  rw [hod'] at h1; cases h1
  rw [h3]
  dsimp only
  have cc : (!ees.any (·.key.isStr name) && ees.any (·.refKey)) = false := by
    have : ees.toList.any (·.refKey) = false := by
      rw [List.any_eq_false]; intro x hx; rw [noRefKey h4 x hx]; exact Bool.false_ne_true
    rw [← Array.any_toList (p := fun e : DictEntry => e.refKey), this, Bool.and_false]
  rw [aRefKeyMayBeTheName_at, cc]
  refine wpAny_updatePart hod ?_
  obtain ⟨o', es', g1, g2, g3, r1, r2, r3⟩ := hup
  refine wpAny_bind (wpAny_lookBehind g1 (by
    obtain ⟨c, dd, dt, sl⟩ := o'
    dsimp only at g3
    subst g3
    refine pastItsLine_dict ?_
    have l1 := r2.length
    rw [Array.length_toList] at l1
    rw [l1, sizeLine_eq]
    unfold stored
    split
    · rw [List.length_map]; lia
    · rw [List.length_append]; simp; lia) ?_)
  exact wpAny_pure h

/-- a.name = v -/
noncomputable def opSetA (name : Str) (a v : V) (hp : Hp) (Q : Hp → Prop) : Prop := match a with
  | .ref x => (match hp x with
    | some (.inst d) => (match hp d with
      | some (.dict _ es) => es.length ≤ 1000 ∧ ∀ ep, Q (hp.set d (.dict ep (putV es name v)))
      | _ => False)
    | _ => False)
  | _ => False
noncomputable def sSetA (name : Str) (f₁ f : EV) : ST := fun ρ hp N R => f ρ hp fun v hp₁ => f₁ ρ hp₁ fun a hp₂ => opSetA name a v hp₂ fun hp₃ => N ρ hp₃

theorem st_setA {e₁ e : Expr} {name : Str} {f₁ f : EV} {ap pos : Pos} (C : ClsOk g) (hn : findIn g.K (.ref g.cls) name = some none) (h : SoundE g n sc nm e f) (h₁ : SoundE g n sc nm e₁ f₁)
    (hs : ∀ env, swapsWith e (some (.Attribute e₁ name ap)) pos.line env = pure false := by exact fun _ => rfl) :
    SoundS g n sc nm (.Assign [.Attribute e₁ name ap] e pos) (sSetA name f₁ f) := fun a A ρ hp s N R E Ok AO FO V Rp q => by
  refine plainObj_wpAny_Assign_Attribute (wpAny_mono (h a A a.fenv ρ hp s _ E Ok AO V Rp q) (fun vv s₁ q => ?_) fun _ _ x => x) (hs _)
  obtain ⟨v, hp₁, S₁, O₁, ev, q⟩ := q
  refine wpAny_mono (h₁ a A a.fenv ρ hp₁ s₁ _ E Ok AO (V.step S₁) (Rp.step S₁ O₁) q) (fun ov s₂ q => ?_) fun _ _ x => x
  obtain ⟨u, hp₂, S₂, O₂, eu, q⟩ := q
  have R₂ := (Rp.step S₁ O₁).step S₂ O₂
  have V₂ := (V.step S₁).step S₂
  unfold opSetA at q
  split at q
  · rename_i x
    obtain rfl := vOf_ref eu
    split at q
    · rename_i d hx
      split at q
      · rename_i ep es hd
        obtain ⟨hsz, q⟩ := q
        obtain ⟨od, kvs, I, hod, ht, hr, lk⟩ := inst_at O₂ hx hd
        obtain ⟨m, F⟩ := R₂.frm
        have X := Ok.kin.keeps F.keep
        have hs := Heap.SameBut.update s₂.heap d (Obj.putName name (PyData.keyHash g.w.params name) (.str name (s₂.toks + 1)) vv)
        obtain ⟨ob', g1, g2⟩ := DictAt.to (putName_at (k := name) (tk := s₂.toks + 1) (v := vv) ht) (hr.stored ev)
        refine set_plain X I C.hs (osa_at (s := { s₂ with toks := s₂.toks + 1 }) (tk := s₂.toks) X I C.po hn C.hd ht (by rw [hr.length]; exact hsz) ?_)
        have U : Step [] hp₂ s₂ (hp₂.set d (.dict (if kvs.any (fun kv => kv.1 = name) then ep else ep + 1) (putV es name v))) { s₂ with heap := s₂.heap.update d (Obj.putName name (PyData.keyHash g.w.params name) (.str name (s₂.toks + 1)) vv), toks := s₂.toks + 1 + 1 } := Step.upd (by rw [hd]; exact fun x => nomatch x) hs.2 rfl rfl
        exact ⟨ρ, _, ((S₁.trans S₂).trans U).weaken, R₂.step U (O₂.upd hs.2 g1 g2), V₂.step U, q _⟩
      · exact q.elim
    · exact q.elim
  · exact q.elim

/-- a method of an own object -/
noncomputable def isI (name : Str) (v : V) (hp : Hp) : Prop := match v with
  | .ref x => (match hp x with
    | some (.inst d) => (match hp d with
      | some (.dict _ es) => es.lookup name = none
      | _ => False)
    | _ => False)
  | _ => False
noncomputable def cIm (name : Str) (op : Op) (f : EV) (fs : List EV) : EV := fun ρ hp Q => f ρ hp fun self hp₁ => isI name self hp₁ ∧ cAll fs ρ hp₁ fun vs hp₂ => op (self :: vs) hp₂ Q

theorem s_im {o : Expr} {name : Str} {fa : Addr} {op : Op} {f : EV} {es : List Expr} {fs : List EV} {apos pos : Pos} (C : ClsOk g) (hf : findIn g.K (.ref g.cls) name = some (some (.ref fa))) (hty : typeIn g.K (.ref fa) = some (.type "function"))
    (hkp : keepIn g.K (.ref fa) = true) (ho : SoundOp g n (.ref fa) op) (h : SoundE g n sc nm o f) (hs : SL g n sc nm es fs)
    (he : ∀ env, ∃ pl, eval (.Call (.Attribute o name apos) es [] pos) env = (do
      let ov ← eval o env
      standAt apos.atName
      let (f, first) ← holding [ov] (getMethod ov name pl)
      callWith pos f first (backTo pos (starEach es env)) (backToKw pos (keywordEach [] env))) := by exact fun _ => ⟨_, rfl⟩) :
    SoundE g n sc nm (.Call (.Attribute o name apos) es [] pos) (cIm name op f fs) := fun a A env ρ hp s Q E Ok AO V R q => by
  obtain ⟨pl, he⟩ := he env
  refine methodCall_KW (wpAny_mono (h a A env ρ hp s _ E Ok AO V R q) (fun ov s₁ q => ?_) fun _ _ x => x) he
  obtain ⟨v, hp₁, S₁, O₁, ev, hl, q⟩ := q
  have R₁ := R.step S₁ O₁
  have KX : g.K.In s₁.heap := let ⟨m, F⟩ := R₁.frm; Ok.kin.keeps F.keep
  unfold isI at hl
  split at hl
  · rename_i x
    obtain rfl := vOf_ref ev
    split at hl
    · rename_i d hx
      split at hl
      · rename_i ep es' hd
        obtain ⟨od, kvs, I, hod, ht, hr, lk⟩ := inst_at O₁ hx hd
        have hsh : shadowIn (some od) name = some false := by
          unfold shadowIn
          have e := hr.lookup name
          rw [hl] at e
          show (lookIn name od).map (·.isSome) = some false
          rw [lk name, Option.map_eq_none_iff.mp e]; rfl
        refine method_fn KX I C.hga C.hk hf hty hsh ?_
        cases hs with
        | nil =>
          refine callWith_any0 hkp KX (wpAny_mono (ho a A hp₁ s₁ [.ref x] [.ref x] Q E Ok AO R₁ (.cons rfl .nil) q) (fun _ _ q => EPost.comp S₁ q) fun _ _ x => x)
        | @cons e fe es' fs' h1 hp1 t =>
          refine callWith_any hkp KX ?_ (hp1 env es') (t.starPlain env pos)
          refine wpAny_mono (spliced_all (.cons h1 hp1 t) Ok AO (V.step S₁) R₁ q) (fun vals s₂ x => ?_) fun _ _ x => x
          obtain ⟨vs, hp₂, S₂, O₂, e₂, _, q⟩ := x
          have R₂ := R₁.step S₂ O₂
          obtain ⟨m, F₂⟩ := R₂.frm
          exact ⟨Ok.kin.keeps F₂.keep, wpAny_mono (ho a A hp₂ s₂ (.ref x :: vals) (.ref x :: vs) Q E Ok AO R₂ (.cons rfl e₂) q) (fun _ _ q => EPost.comp (S₁.trans S₂) q) fun _ _ x => x⟩
      · exact hl.elim
    · exact hl.elim
  · exact hl.elim

/-- C(..): an own class with an own __init__ -/
noncomputable def opCls (opI : Op) : Op := fun vs hp Q => ∀ x d, hp x = none → hp d = none → x ≠ d → opI (.ref x :: vs) ((hp.set d (.dict 0 [])).set x (.inst d)) (fun v hp' => v = .none ∧ Q (.ref x) hp')
noncomputable def SoundC (g : Gl) (n : Nat) (fv : Value) (op : Op) : Prop := ∀ (a : Act) (A : Around) (hp : Hp) (s : Shared) (vals : List Value) (vs : List V) (Q : V → Hp → Prop) (E : Value → Shared → Prop),
    a.Ok g → AOk a n A → HRep g a hp s → VRs vals vs → op vs hp Q → codeAny g.M A (.call fv ⟨vals, []⟩) (fun r s' => match r with | .ok (.ret v) => EPost g hp s Q v s' | .ok _ => False | .error e => E e s') s
theorem cls_sound {fI : Addr} {opI : Op} (C : ClsOk g) (hi : findIn g.K (.ref g.cls) "__init__" = some (some (.ref fI))) (hty : typeIn g.K (.ref fI) = some (.type "function")) (hI : SoundC g n (.ref fI) opI) :
    SoundOp g (n + 1) (.ref g.cls) (opCls opI) := fun a A hp s vals vs Q E Ok AO R hv q => by
  obtain ⟨m, F⟩ := R.frm
  have KX : g.K.In s.heap := Ok.kin.keeps F.keep
  obtain ⟨hh, gg, dr, tk, os⟩ := s
  have kp : ∀ b o, hh.get? b = some o → ((hh.push emptyDict).push (instObj g.cls hh.objs.size)).get? b = some o := fun b o e => Heap.get?_push_of_some _ (Heap.get?_push_of_some _ e)
  have hd0 : hh.get? hh.objs.size = none := size_none _
  have hx0 : hh.get? (hh.objs.size + 1) = none := by
    cases q : hh.get? (hh.objs.size + 1) with
    | none => rfl
    | some o => exact absurd (Heap.lt_size q) (Nat.not_lt.mpr (Nat.le_succ _))
  have hbig := R.big Ok
  have gd : ((hh.push emptyDict).push (instObj g.cls hh.objs.size)).get? hh.objs.size = some emptyDict := Heap.get?_push_of_some _ (Heap.get?_push_size _ rfl)
  have gx : ((hh.push emptyDict).push (instObj g.cls hh.objs.size)).get? (hh.objs.size + 1) = some (instObj g.cls hh.objs.size) := by
    have := Heap.get?_push_size (h := hh.push emptyDict) (o := instObj g.cls hh.objs.size) (by rfl)
    rwa [Heap.size_push] at this
  have hdn := R.obj.fresh hd0
  have hxn := R.obj.fresh hx0
  let s' : Shared := ⟨(hh.push emptyDict).push (instObj g.cls hh.objs.size), gg, dr, tk, os⟩
  let hp' := (hp.set hh.objs.size (.dict 0 [])).set (hh.objs.size + 1) (.inst hh.objs.size)
  have S : Step [] hp ⟨hh, gg, dr, tk, os⟩ hp' s' := by
    refine ⟨fun b o e _ _ => kp b o e, fun b e _ => ?_, fun b hb => ?_, rfl, rfl⟩
    · cases q : hh.get? b with
      | none => exact absurd q e
      | some o => show ((hh.push emptyDict).push (instObj g.cls hh.objs.size)).get? b ≠ none; rw [kp b o q]; exact fun x => nomatch x
    · by_cases e1 : b = hh.objs.size + 1
      · subst e1; exact .inr ⟨hx0, Nat.lt_succ_of_lt hbig⟩
      · by_cases e2 : b = hh.objs.size
        · subst e2; exact .inr ⟨hd0, hbig⟩
        · left; rwa [show hp' b = hp b from (Hp.set_ne _ _ e1).trans (Hp.set_ne _ _ e2)] at hb
  have O' : Objs g hp' s' := fun b o e => by
    by_cases e1 : b = hh.objs.size + 1
    · subst e1; rw [show hp' (hh.objs.size + 1) = _ from Hp.set_same ..] at e; cases e; exact ⟨_, gx, rfl⟩
    · by_cases e2 : b = hh.objs.size
      · subst e2; rw [show hp' hh.objs.size = some (.dict 0 []) from (Hp.set_ne _ _ (Ne.symm (Nat.succ_ne_self _))).trans (Hp.set_same ..)] at e; cases e
        exact ⟨_, gd, #[], [], rfl, fun _ he => by simp at he, Pairs.nil, List.nodup_nil, rfl⟩
      · rw [show hp' b = hp b from (Hp.set_ne _ _ e1).trans (Hp.set_ne _ _ e2)] at e
        obtain ⟨ob, h1, h2⟩ := R.obj b o e
        exact ⟨ob, kp _ _ h1, h2⟩
  refine wpAny_call (make_core (makes_of KX C.mks) (looks_findIn KX hi) (fun self => bind_fn KX self hty) (.inl rfl) ?_)
  have AO' : AOk a n (A.under (.builtin "type.__call__" ⟨.ref g.cls :: vals, []⟩)) := by
    refine ⟨AO.hd, ?_, ?_, ?_⟩
    · show pushEnvs [] A.frames = _
      rw [AO.fr]; rfl
    · rw [depth_under_make]; have := AO.dp; lia
    · rw [units_under_make]; have := AO.un; lia
  refine codeAny_mono (hI a _ hp' s' (.ref (hh.objs.size + 1) :: vals) (.ref (hh.objs.size + 1) :: vs) _ E Ok AO' (R.step S O') (.cons rfl hv) (q _ _ hxn hdn (Nat.succ_ne_self _))) fun r s₂ z => ?_
  rcases r with e | (v | _ | _ | _) <;> first | exact z | exact z.elim | skip
  obtain ⟨v', hp₂, S₂, O₂, e₂, rfl, q⟩ := z
  exact ⟨vOf_none e₂, .ref (hh.objs.size + 1), hp₂, S.trans S₂, O₂, rfl, q⟩

/-! ## augmented assignments, a negative literal, a constant of the top -/
noncomputable def opIAdd (a b : V) (hp : Hp) (Q : V → Hp → Prop) : Prop := match a, b with
  | .ref x, .ref y => (match hp x, hp y with
      | some (.list vs), some (.list ws) => vs.length + ws.length ≤ 1000000 ∧ Q (.ref x) (hp.set x (.list (vs ++ ws)))
      | _, _ => False)
  | _, _ => False
noncomputable def sIAdd (i : Nat) (f : EV) : ST := fun ρ hp N R => match look ρ i with
  | some a => f ρ hp fun b hp₁ => opIAdd a b hp₁ fun v hp₂ => N (ρ.set i (some v)) hp₂
  | none => False
theorem iadd_lists {A : Around} {E : Value → Shared → Prop} {s : Shared} {l b : Addr} {items items2 : Array Value} {k k2 : Nat} {prog : Program} {w : World} {Q : Value → Shared → Prop}
    (hl : s.heap.get? l = some { cls := .type "list", data := .seq items k }) (hb : s.heap.get? b = some { cls := .type "list", data := .seq items2 k2 }) (hsz : items.size + items2.size ≤ 1000000)
    (h : Q (.ref l) { s with heap := s.heap.update l (Obj.mapSeq fun x => x ++ items2) }) : wpAny (model prog w) A (inplaceOp .Add (.ref l) (.ref b)) Q E s := by
  have ha : s.TypeIs (.ref l) "list" := ⟨_, hl, rfl⟩
  have hb' : s.TypeIs (.ref b) "list" := ⟨_, hb, rfl⟩
  unfold inplaceOp
  refine wpAny_holding ?_
  have hfi : fillsInplaceSlot (.type "list") "add" (Operator.Add == .Add) = pure false := by
    unfold fillsInplaceSlot
    show (typeLookup (.type "list") (dunderI "add") >>= fun fi => pure (fi.isSome && !isSeqSlot fi)) = pure false
    rw [PySem.F.slot_list_iadd.lookup]
    show (pure _ : Sem Bool) = _
    congr 1
  have hsi : seqSlot? (.type "list") (dunderI "add") = pure (some (.builtin "list.__iadd__")) := PySem.seqSlot_of PySem.F.slot_list_iadd.lookup (by decide +kernel)
  refine wpAny_bind (wpAny_typeOf ha (wpAny_bind (wpAny_of_eq hfi ?_)))
  show wpAny _ A (if false = true then _ else _) Q E s
  rw [if_neg Bool.false_ne_true]
  refine wpAny_bind (wpAny_binaryOp1_none (nm := "add") ha hb' noFill_list_add ?_)
  refine wpAny_bind (wpAny_of_eq hsi ?_)
  refine wpAny_bind (wpAny_rule ?_)
  refine call_meets PySem.F.slot_list_iadd ha PySem.F.entry_list_iadd (PySem.F.args_list_iadd_2 _ _) (PySem.AutoSeq1.list___iadd___list_list_0 l items k b items2 k2 ?_ ?_ ?_) ⟨hl, hb, h⟩
  · simp only [Bool.and_eq_true, not_and, Bool.not_eq_true]
    intro _
    unfold Builtin.List.listTooLong
    exact decide_eq_false (by rw [sizeLine_eq]; lia)
  · rw [sizeLine_eq]; lia
  · rw [sizeLine_eq]; lia

theorem st_iadd {i : Nat} {x : Str} {e : Expr} {f : EV} {xp pos : Pos} (hd : (x == ("__debug__" : Str)) = false) (hi : nm[i]? = some x) (hk : sc.names.lookup x = some .local ∨ sc.names.lookup x = some .cell) (h : SoundE g n sc nm e f) :
    SoundS g n sc nm (.AugAssign (.Name x xp) .Add e pos) (sIAdd i f) := fun a A ρ hp s N R E Ok AO FO V Rp q => by
  unfold sIAdd at q
  split at q
  · rename_i a₀ hl
    have hkind : a.fenv.scope.kind = .function := by rw [V.hsc]; exact V.kind
    have main : ∀ (val : Value), vOf val = some a₀ → wpAny g.M A (eval e a.fenv) (fun v s₂ => wpAny g.M A (inplaceOp .Add val v)
      (fun r s₃ => wpAny g.M A (storeName a.fenv x r) (fun _ => SPost g a a.fenv sc nm hp s N R .next) E s₃) E s₂) E s := fun val hv => by
      refine wpAny_mono (h a A a.fenv ρ hp s _ E Ok AO V Rp q) (fun vb s₁ q => ?_) fun _ _ x => x
      obtain ⟨v, hp₁, S₁, O₁, ev, q⟩ := q
      unfold opIAdd at q
      split at q
      · rename_i x' y _
        obtain rfl := vOf_ref hv
        obtain rfl := vOf_ref ev
        split at q
        · rename_i vs ws hx hy
          obtain ⟨hsz, q⟩ := q
          obtain ⟨ob, e1, e2⟩ := O₁ _ _ hx
          obtain ⟨items, ⟨k, hl1⟩, hr⟩ := IsList.of e1 e2
          obtain ⟨ob2, e3, e4⟩ := O₁ _ _ hy
          obtain ⟨items2, ⟨k2, hl2⟩, hr2⟩ := IsList.of e3 e4
          have l1 := hr.length
          have l2 := hr2.length
          rw [Array.length_toList] at l1 l2
          have hm := mapSeq_list items k (fun x => x ++ items2)
          have hg := Heap.get?_update_self (Obj.mapSeq fun x => x ++ items2) hl1 (by obtain ⟨n', e⟩ := hm; rw [e]; rfl)
          obtain ⟨n', e⟩ := hm
          rw [e] at hg
          have hs : Heap.SameBut x' s₁.heap (s₁.heap.update x' (Obj.mapSeq fun x => x ++ items2)) := Heap.SameBut.update ..
          refine iadd_lists hl1 hl2 (by rw [l1, l2]; exact hsz) ?_
          have U : Step [] hp₁ s₁ (hp₁.set x' (.list (vs ++ ws))) { s₁ with heap := s₁.heap.update x' (Obj.mapSeq fun x => x ++ items2) } := Step.upd (by rw [hx]; exact fun x => nomatch x) hs.2 rfl rfl
          have O₂ := O₁.upd (o := .list (vs ++ ws)) (s' := { s₁ with heap := s₁.heap.update x' (Obj.mapSeq fun x => x ++ items2) }) hs.2 hg ⟨_, _, rfl, by rw [Array.toList_append]; exact hr.append hr2⟩
          refine wpAny_mono (store_ok Ok FO ((V.step S₁).step U) ((Rp.step S₁ O₁).step U O₂) hi hk (v := .ref x') rfl) (fun _ s₂ r => ?_) fun _ _ x => x
          exact ⟨_, _, (S₁.trans U).weaken.trans r.1, r.2.1, r.2.2, q⟩
        · exact q.elim
      · exact q.elim
    refine wpAny_AugAssign_Name ?_
    rcases hk with hk' | hk'
    · obtain ⟨m, hn, hm⟩ := V.ns
      obtain ⟨val, h1, h2⟩ := hm i x a₀ hi hl hk'
      exact wpAny_loadName_local hkind (by rw [Env.kindOf, V.hsc]; exact hk') hn h1 (main val h2)
    · obtain ⟨c, o, v₀, h1, h2, h3, h4, h5, h6⟩ := V.cl i x hi hk'
      obtain ⟨val, rfl, h7⟩ := h6 a₀ hl
      exact wpAny_loadName_cell hkind (by rw [Env.kindOf, V.hsc]; exact hk') h1 ⟨o, h4, h5⟩ (main val h7)
  · exact q.elim

/-- x[i] -= k, ints -/
theorem opGet_sound {a b : V} {hp : Hp} {Q : V → Hp → Prop} {s : Shared} {A : Around} {E : Value → Shared → Prop} {va vb : Value} (O : Objs g hp s) (ea : vOf va = some a) (eb : vOf vb = some b)
    (h : opSub a b hp Q) (hl : ∃ x vs, a = .ref x ∧ hp x = some (.list vs)) : wpAny g.M A (getItem va vb) (EPost g hp s Q) E s := by
  obtain ⟨x, vs, rfl, hx⟩ := hl
  obtain rfl := vOf_ref ea
  unfold opSub at h
  split at h
  · rename_i x' i he
    cases he
    obtain ⟨t, rfl⟩ := vOf_int eb
    rw [hx] at h
    obtain ⟨h0, h1, h⟩ := h
    split at h
    · rename_i v hv
      obtain ⟨ob, e1, e2⟩ := O _ _ hx
      obtain ⟨items, ht, hr⟩ := IsList.of e1 e2
      obtain ⟨val, g1, g2⟩ := hr.get hv
      exact wpAny_getItem_list ht.isList h0 (by simp only [BIG] at h1; lia) (by simpa using g1) (EPost.here O g2 h)
    · exact h.elim
  · rename_i x' k he
    cases he
    rw [hx] at h; exact h.elim
  · exact h.elim
noncomputable def isLs (v : V) (hp : Hp) : Prop := ∃ x vs, v = .ref x ∧ hp x = some (.list vs)
noncomputable def sISub (f₁ f₂ f : EV) : ST := fun ρ hp N R => f₁ ρ hp fun a hp₁ => f₂ ρ hp₁ fun b hp₂ => isLs a hp₂ ∧ opSub a b hp₂ fun old hp₃ => f ρ hp₃ fun v hp₄ => match old, v with
  | .int x, .int y => opStore a b (.int (x - y)) hp₄ fun hp₅ => N ρ hp₅
  | _, _ => False
theorem st_isub {e₁ e₂ e f₁ f₂ f sp pos} (h : SoundE g n sc nm e f) (h₁ : SoundE g n sc nm e₁ f₁) (h₂ : SoundE g n sc nm e₂ f₂)
    (hi : ∀ ov iv new, augStore e₂ ov iv new = (do holding [new, ov, iv] (setItem ov iv new); release [new, ov, iv] []; pure .next) := by exact fun _ _ _ => rfl) :
    SoundS g n sc nm (.AugAssign (.Subscript e₁ e₂ sp) .Sub e pos) (sISub f₁ f₂ f) := fun a A ρ hp s N R E Ok AO FO V Rp q => by
  refine wpAny_AugAssign_SubscriptAny (eval2 h₁ h₂ Ok AO V Rp q fun va vb x y hp₂ s₂ S R₂ V₂ ea eb P => ?_) hi
  obtain ⟨hL, P⟩ := P
  refine wpAny_mono (opGet_sound R₂.obj ea eb P hL) (fun vo s₃ r => ?_) fun _ _ x => x
  obtain ⟨vold, hp₃, S₃, O₃, eo, P⟩ := r
  have R₃ := R₂.step S₃ O₃
  have V₃ := V₂.step S₃
  refine wpAny_mono (h a A a.fenv ρ hp₃ s₃ _ E Ok AO V₃ R₃ P) (fun vv s₄ r => ?_) fun _ _ x => x
  obtain ⟨v, hp₄, S₄, O₄, ev, P⟩ := r
  have R₄ := R₃.step S₄ O₄
  have V₄ := V₃.step S₄
  split at P
  · rename_i xo yv _
    obtain ⟨t, rfl⟩ := vOf_int eo
    obtain ⟨u, rfl⟩ := vOf_int ev
    refine PySem.AutoIntOps.isub_0 ?_
    have K5 : Step [] hp₄ s₄ hp₄ { s₄ with toks := s₄.toks + 1 } := Step.kept (fun _ _ e => e) rfl rfl
    refine wpAny_mono (opStore_sound (s := { s₄ with toks := s₄.toks + 1 }) (O₄.kept fun _ _ e => e) ea eb (v := .int (xo - yv)) rfl P) (fun _ s₅ r => ?_) fun _ _ x => x
    obtain ⟨hp₅, S₅, O₅, P⟩ := r
    exact ⟨ρ, hp₅, ((((S.trans S₃).trans S₄).trans K5).trans S₅).weaken, (R₄.step K5 (O₄.kept fun _ _ e => e)).step S₅ O₅, (V₄.step K5).step S₅, P⟩
  · exact P.elim

/-- - k -/
noncomputable def cNeg (f : EV) : EV := fun ρ hp Q => f ρ hp fun v hp₁ => match v with | .int i => Q (.int (-i)) hp₁ | _ => False
theorem s_neg {e f pos} (h : SoundE g n sc nm e f) : SoundE g n sc nm (.UnaryOp .USub e pos) (cNeg f) := fun a A env ρ hp s Q E Ok AO V R q => by
  refine wpAny_UnaryOp (wpAny_mono (h a A env ρ hp s _ E Ok AO V R q) (fun va s₁ q => ?_) fun _ _ x => x)
  obtain ⟨x, hp₁, S₁, O₁, e₁, q⟩ := q
  cases x with
  | int i =>
    obtain ⟨t, rfl⟩ := vOf_int e₁
    exact PyProof.Rows.neg_int (EPost.comp S₁ (EPost.tok O₁ rfl q))
  | _ => exact q.elim

/-- a constant of the module's top -/
theorem s_glob {x : Str} {fv : Value} {v : V} {pos} (hN : NameIs g x fv) (hx : sc.names.lookup x = some .globalImplicit) (hv : vOf fv = some v) : SoundE g n sc nm (.Name x pos) (cC v) :=
  fun a A env ρ hp s Q E Ok AO V R h => name_eval hN hx Ok V R (EPost.here R.obj hv h)
end
end Mine
namespace Mine
open PySem PySem.W PySem.Calls PyProof.Rows

/-! ## a set of texts -/
noncomputable abbrev ledOf (w : World) : Bool := !w.params.followText "set-order"
noncomputable def setObj (es : Array (Int × Value)) (ep : Nat) (t : SetTable) : Obj := { cls := .type "set", dict := none, data := .set es ep t }
noncomputable def toS : Value → Str | .str x _ => x | _ => Str.ofString ""
noncomputable def strsOf (es : Array (Int × Value)) : List Str := es.toList.map fun e => toS e.2
structure SetOk (prog : Program) (w : World) (es : Array (Int × Value)) (t : SetTable) : Prop where
  el : ElemsOf (strKind prog w) es.toList
  sz : es.size < 1000
  fit : t.fits es.size = true
  led : t.led = ledOf w
  pl : es.size = 0 ∨ t.plain = false

theorem orStandIn_led (t : SetTable) (n : Nat) : (t.orStandIn n).led = t.led := by unfold SetTable.orStandIn; split <;> rfl
theorem orStandIn_plain (t : SetTable) (n : Nat) (hp : t.plain = false) : (t.orStandIn n).plain = false := by
  unfold SetTable.orStandIn
  split
  · exact hp
  · rfl
theorem layNew_led (t : SetTable) (es : Array (Int × Value)) (h : Int) (x : Value) : (layNew t es h x).2.1.led = t.led := by
  unfold layNew
  split
  · exact orStandIn_led _ _
  · rfl
theorem layNew_plain (t : SetTable) (es : Array (Int × Value)) (h : Int) (x : Value) (hp : t.plain = false) : (layNew t es h x).2.1.plain = false := by
  unfold layNew
  split
  · exact orStandIn_plain _ _ hp
  · rfl
theorem laid_keeps {mask finger moves : Nat} {led plain : Bool} {hs : Array Int} {r : SetTable × Array Nat} (e : SetTable.laid mask finger moves led plain hs = some r) : r.1.led = led ∧ r.1.plain = plain := by
  unfold SetTable.laid at e
  cases q : SetTable.layClean mask hs with
  | none => rw [q] at e; cases e
  | some o => rw [q] at e; cases e; exact ⟨rfl, rfl⟩
theorem relayAll_led (t : SetTable) (es : Array (Int × Value)) (n : Nat) : (relayAll t es n).2.1.led = t.led := by
  unfold relayAll
  split
  · rename_i t' order e
    dsimp only
    split
    · exact (laid_keeps e).1
    · rfl
  · rfl
theorem relayAll_plain (t : SetTable) (es : Array (Int × Value)) (n : Nat) (hp : t.plain = false) : (relayAll t es n).2.1.plain = false := by
  unfold relayAll
  split
  · rename_i t' order e
    dsimp only
    split
    · exact (laid_keeps e).2.trans hp
    · rfl
  · rfl

section
variable {prog : Program} {w : World} {A : Around} {E : Value → Shared → Prop} {s : Shared}
theorem putSet_obj (es es' : Array (Int × Value)) (ep : Nat) (t t' : SetTable) : Obj.putSet es' t' (setObj es ep t) = setObj es' (ep + 1) t' := rfl
theorem store_set {a : Addr} {es es' : Array (Int × Value)} {ep : Nat} {t t' : SetTable} {Q : Unit → Shared → Prop} (ho : s.heap.get? a = some (setObj es ep t)) (hz : es'.size ≤ 1000)
    (h : ∀ h', Heap.SameBut a s.heap h' → h'.get? a = some (setObj es' (ep + 1) t') → Q () { s with heap := h' }) : wpAny (model prog w) A (storeSet a es' t') Q E s :=
  wpAny_storeSet_of ho rfl (h _ (Heap.SameBut.update ..) (Heap.get?_update_self _ ho rfl)) (by rw [sizeLine_eq]; lia)

theorem elem_str {es : List (Int × Value)} (h : ElemsOf (strKind prog w) es) {e : Int × Value} (he : e ∈ es) : ∃ t, e.2 = .str (toS e.2) t := by
  obtain ⟨⟨k, hk, _⟩, _⟩ := h e he
  obtain ⟨t, ht⟩ := Value.isStrOf_shape hk
  rw [ht]; exact ⟨t, rfl⟩
theorem elem_is {es : List (Int × Value)} (h : ElemsOf (strKind prog w) es) {e : Int × Value} (he : e ∈ es) (x : Str) : (strKind prog w).is x e.2 = decide (toS e.2 = x) := by
  obtain ⟨⟨k, hk, _⟩, _⟩ := h e he
  obtain ⟨t, ht⟩ := Value.isStrOf_shape hk
  rw [KeyKind.is_eq_decide hk x, ht]
  show decide (x = k) = decide (k = x)
  by_cases q : x = k
  · subst q; rfl
  · rw [decide_eq_false q, decide_eq_false (Ne.symm q)]

theorem setAdd_str {a : Addr} {x : Str} {tk : Tok} {es : Array (Int × Value)} {ep : Nat} {t : SetTable} {Q : Bool → Shared → Prop} (ho : s.heap.get? a = some (setObj es ep t)) (ok : SetOk prog w es t) (hroom : es.size < 500)
    (h : ∀ h' es' ep' t' b, Heap.SameBut a s.heap h' → h'.get? a = some (setObj es' ep' t') → SetOk prog w es' t' → es'.toList.Perm (if x ∈ strsOf es then es.toList else es.toList ++ [(hashStr w x, .str x tk)]) → Q b { s with heap := h', toks := s.toks + 1 }) :
    wpAny (model prog w) A (setAdd a (.str x tk)) Q E s := by
  have hkey : (strKind prog w).is x (.str x tk) = true := strKind_is prog w x tk
  unfold setAdd
  refine wpAny_holding (wpAny_bind ((strKind prog w).pyHash hkey ?_))
  unfold setAddHashed setAddHashedIn
  refine wpAny_holding (wpAny_bind (wpAny_setState_of (s := { s with toks := s.toks + 1 }) ho rfl ok.fit ?_))
  dsimp only
  rw [byScan_of (knd := strKind prog w) rfl (Nat.lt_trans ok.sz (by decide)) ok.el]
  simp only [↓reduceIte]
  unfold setAddByScan
  refine wpAny_bind ?_
  refine wpAny_bind (wpAny_rule ?_)
  refine wpAny_bind (wpAny_setScan_of (s := { s with toks := s.toks + 1 }) hkey ho rfl ok.fit ok.el ?_)
  have hmem : x ∈ strsOf es ↔ ∃ e ∈ es.toList, (strKind prog w).is x e.2 = true := by
    unfold strsOf
    rw [List.mem_map]
    exact ⟨fun ⟨e, he, q⟩ => ⟨e, he, by rw [elem_is ok.el he x]; exact decide_eq_true q⟩, fun ⟨e, he, q⟩ => ⟨e, he, by rw [elem_is ok.el he x] at q; exact of_decide_eq_true q⟩⟩
  cases hr : List.findIdx? (fun e => (strKind prog w).is x e.2) es.toList with
  | some j =>
    dsimp only
    obtain ⟨hj, hpj, _⟩ := List.findIdx?_eq_some_iff_getElem.mp hr
    have hx : x ∈ strsOf es := hmem.mpr ⟨es.toList[j], List.getElem_mem hj, hpj⟩
    exact wpAny_pure (wpAny_pure (h s.heap es ep t _ (Heap.SameBut.refl a s.heap) ho ok (by rw [if_pos hx])))
  | none =>
    dsimp only
    have hx : x ∉ strsOf es := fun q => by
      obtain ⟨e, he, hp⟩ := hmem.mp q
      have := List.findIdx?_eq_none_iff.mp hr e he
      rw [hp] at this; exact Bool.noConfusion this
    have hgw : ∀ (b : Bool) {s₁ : Shared} {Q' : Unit → Shared → Prop}, Q' () s₁ → wpAny (model prog w) A (match b with | true => rule "set.scan.the-table-gave-way" | false => pure ()) Q' E s₁ :=
      fun b s₁ Q' hq => by cases b <;> first | exact wpAny_pure hq | exact wpAny_rule hq
    have hperm := layNew_perm t es ((strKind prog w).hash x) (.str x tk)
    have hfits := layNew_fits t es ((strKind prog w).hash x) (.str x tk)
    have hled := layNew_led t es ((strKind prog w).hash x) (.str x tk)
    have hplain := layNew_plain t es ((strKind prog w).hash x) (.str x tk)
    generalize hL : layNew t es ((strKind prog w).hash x) (.str x tk) = L at hperm hfits hled hplain ⊢
    obtain ⟨es1, t1, wasDummy, gave⟩ := L
    dsimp only at hperm hfits hled hplain ⊢
    rw [Array.toList_push] at hperm
    have hel1 : ElemsOf (strKind prog w) es1.toList := (ok.el.push hkey rfl).perm hperm
    have hsz1 : es1.size = es.size + 1 := by rw [← Array.length_toList, hperm.length_eq, List.length_append, Array.length_toList]; rfl
    refine wpAny_bind (hgw _ ?_)
    -- from here the table t2 is not plain
    have tail : ∀ t2 : SetTable, t2.fits es1.size = true → t2.led = ledOf w → t2.plain = false → wpAny (model prog w) A (do
        storeSet a es1 t2
        if (!wasDummy && t2.tooFull) = true then do
            (match (relayAll t2 es1 (SetTable.grown es1.size)).2.2 with | true => rule "set.scan.the-table-gave-way" | false => pure ())
            storeSet a (relayAll t2 es1 (SetTable.grown es1.size)).1 (relayAll t2 es1 (SetTable.grown es1.size)).2.1
            pure (some true)
          else pure (some true)) (fun r s' => wpAny (model prog w) A (match r with | some added => pure added | none => setAddHashedIn a (.str x tk) ((strKind prog w).hash x) 99999) Q E s') E { s with toks := s.toks + 1 } := by
      intro t2 f2 l2 p2
      refine wpAny_bind (store_set (s := { s with toks := s.toks + 1 }) ho (by have := ok.sz; lia) fun h1 hs1 ho1 => ?_)
      split
      · have hp := relayAll_perm t2 es1 (SetTable.grown es1.size)
        have hfr := relayAll_fits t2 es1 (SetTable.grown es1.size)
        have hl := relayAll_led t2 es1 (SetTable.grown es1.size)
        have hpl := relayAll_plain t2 es1 (SetTable.grown es1.size) p2
        generalize hRl : relayAll t2 es1 (SetTable.grown es1.size) = Rl at hp hfr hl hpl ⊢
        obtain ⟨es2, t3, gave2⟩ := Rl
        dsimp only at hp hfr hl hpl ⊢
        have hsz : es2.size = es1.size := by rw [← Array.length_toList, hp.length_eq, Array.length_toList]
        refine wpAny_bind (hgw _ ?_)
        refine wpAny_bind (store_set (s := { s with heap := h1, toks := s.toks + 1 }) ho1 (by have := ok.sz; lia) fun h2 hs2 ho2 => ?_)
        refine wpAny_pure (wpAny_pure (h h2 es2 _ t3 _ (hs1.trans hs2) ho2 ⟨hel1.perm hp, by lia, hfr, hl.trans l2, .inr hpl⟩ ?_))
        rw [if_neg hx]; exact hp.trans hperm
      · refine wpAny_pure (wpAny_pure (h h1 es1 _ t2 _ hs1 ho1 ⟨hel1, by lia, f2, l2, .inr p2⟩ ?_))
        rw [if_neg hx]; exact hperm
    cases hpl : t1.plain with
    | true =>
      simp only [↓reduceIte]
      refine wpAny_bind ?_
      rw [hashByValue_scannable 8 rfl]
      refine wpAny_pure ?_
      simp only [plainKind, Bool.false_eq_true, ↓reduceIte]
      exact tail { t1 with plain := false } (SetTable.fits_plain_off hfits) (hled.trans ok.led) rfl
    | false =>
      simp only [Bool.false_eq_true, ↓reduceIte]
      refine wpAny_bind (wpAny_pure ?_)
      exact tail t1 hfits (hled.trans ok.led) hpl

theorem code_set_new1 (a : Value) {Q₁ : Value → Shared → Prop} (h : Q₁ (.ref s.heap.objs.size) { s with heap := s.heap.push (setObj #[] 0 (.fresh 0 0 (ledOf w))) }) :
    codeAny (model prog w) A (.call (.builtin "set.__new__") ⟨[.type "set", a], []⟩) (wants Q₁ E) s := by
  refine codeAny_of_tree ?_
  show wpAny _ A.in1 (do checkBuiltinCall "set.__new__" ⟨[.type "set", a], []⟩; again (.builtin "set.__new__" ⟨[.type "set", a], []⟩)) _ _ s
  refine wpAny_bind (wpAny_of_eq (PySem.F.newCall_set_1 a) (wpAny_pure ⟨plainId_quiet PySem.F.plain_set_new _, codeAny_builtin PySem.F.entry_set_new ?_⟩))
  rw [Around.under_plainId PySem.F.plain_set_new _]
  unfold Builtin.«set.__new__» Builtin.Frozenset.newClass
  have hsub := sub_set_self
  obtain ⟨hp, g, d, tk, os⟩ := s
  dsimp only
  wp_walk
  refine wpAny_askSetting (wpAny_pure ?_)
  dsimp only
  simp only [newObj]
  refine wpAny_bind (wpAny_alloc (wpAny_pure ?_))
  exact wpAny_pure h

/-- the entries of the set while i of the texts have been taken -/
noncomputable def Taken (prog : Program) (w : World) (h : Heap) (S : Addr) (ss : List Str) : Prop := ∃ es ep t, h.get? S = some (setObj es ep t) ∧ SetOk prog w es t ∧ (strsOf es).Nodup ∧ ∀ x, x ∈ strsOf es ↔ x ∈ ss

theorem nodup_sub : ∀ {l m : List Str}, l.Nodup → (∀ x ∈ l, x ∈ m) → l.length ≤ m.length
  | [], _, _, _ => Nat.zero_le _
  | x :: l, m, hn, h => by
    have hx := h x (.head _)
    rw [List.nodup_cons] at hn
    have ih := nodup_sub (l := l) (m := m.erase x) hn.2 fun y hy => (List.mem_erase_of_ne (fun (e : y = x) => hn.1 (e ▸ hy))).mpr (h y (.tail _ hy))
    rw [List.length_erase_of_mem hx] at ih
    have := List.length_pos_of_mem hx
    rw [List.length_cons]; lia

theorem loop_set {I S : Addr} {items : Array Value} {ss U : List Str} {wr fp : List Addr} {G : Array GenState → Array GenState → Prop} {St : Nat → Shared → Prop} {R : Result → Shared → Prop} (hs : StrsAre items.toList ss) (hU : ∀ x ∈ ss, x ∈ U) (hU2 : U.length < 500)
    (W : WalksS prog w A.in1 I fp wr G items.size (fun i v => items[i]? = some v) St) (hSf : S ∉ fp) :
    ∀ (k i : Nat) (s : Shared), items.size - i = k → i ≤ items.size → St i s → Taken prog w s.heap S (ss.take i) →
      (∀ s', Moved (S :: wr) G s s' → Taken prog w s'.heap S ss → R (.ok (.ret .none)) s') → codeAny (model prog w) A (.builtin "set.update.loop" ⟨[.ref S, .ref I], []⟩) R s := by
  have hlen : items.size = ss.length := by rw [← Array.length_toList]; exact hs.length
  have hSw : S ∉ wr := fun h => hSf (W.sub _ h)
  have hsub : ∀ b ∈ wr, b ∈ S :: wr := fun b hb => List.mem_cons_of_mem _ hb
  intro k
  induction k with
  | zero =>
    intro i s hk hi hst hS hR
    have hin : i = items.size := by lia
    subst hin
    refine codeAny_builtin PyProof.Rows.F.entry_set_update_loop ?_
    rw [Around.under_plainId PyProof.Rows.F.plain_set_update_loop _]
    show wpAny _ A.in1 (pyNext (.ref I) >>= _) _ _ s
    refine wpAny_bind (W.done s _ _ hst fun s' hm => ?_)
    show wpAny _ A.in1 (ret Value.none) _ _ s'
    refine wpAny_pure (hR s' (hm.mono hsub) ?_)
    rw [hlen, List.take_length] at hS
    obtain ⟨es, ep, t, ho, rest⟩ := hS
    exact ⟨es, ep, t, hm.heap S _ hSw ho, rest⟩
  | succ k ih =>
    intro i s hk hi hst hS hR
    have hlt : i < items.size := by lia
    refine codeAny_builtin PyProof.Rows.F.entry_set_update_loop ?_
    rw [Around.under_plainId PyProof.Rows.F.plain_set_update_loop _]
    show wpAny _ A.in1 (pyNext (.ref I) >>= _) _ _ s
    refine wpAny_bind (W.item i s _ _ hlt hst fun v s' hP hst' hm => ?_)
    have hil : i < ss.length := by lia
    obtain ⟨x, t, hx, rfl⟩ : ∃ x t, ss[i]? = some x ∧ v = .str x t := by
      have hv := StrsAre.vrs hs
      obtain ⟨u, h1, h2⟩ := hv.get' (i := i) (val := v) (by rw [Array.getElem?_toList]; exact hP)
      rw [List.getElem?_map] at h1
      obtain ⟨x, hx, rfl⟩ := Option.map_eq_some_iff.mp h1
      obtain ⟨t, ht⟩ := vOf_str h2
      exact ⟨x, t, hx, ht⟩
    obtain ⟨es, ep, tb, ho, ok, hnd, hmem⟩ := hS
    have ho' := hm.heap S _ hSw ho
    have hxm : x ∈ ss := List.mem_of_getElem? hx
    have hle : es.size < 500 := by
      have h1 : (strsOf es).length = es.size := by unfold strsOf; rw [List.length_map, Array.length_toList]
      have := nodup_sub hnd (m := U) fun y hy => hU y (List.mem_of_mem_take ((hmem y).mp hy))
      lia
    show wpAny _ A.in1 (holding [Value.str x t] (setAdd S (.str x t)) >>= _) _ _ s'
    refine wpAny_bind (wpAny_holding (setAdd_str ho' ok hle fun h' es' ep' t' b hsb hg ok' hperm => ?_))
    have hT : Taken prog w h' S (ss.take (i + 1)) := by
      refine ⟨es', ep', t', hg, ok', ?_, fun y => ?_⟩
      · have hp := hperm.map (fun e => toS e.2)
        split at hp
        · exact (hp.nodup_iff).mpr hnd
        · rename_i hno
          refine (hp.nodup_iff).mpr ?_
          rw [List.map_append, List.nodup_append]
          refine ⟨hnd, by simp, fun a ha b hb => ?_⟩
          simp only [List.map_cons, List.map_nil, List.mem_singleton] at hb
          subst hb
          exact fun e => hno (e ▸ ha)
      · have hp := (hperm.map (fun e => toS e.2)).mem_iff (a := y)
        have htk : y ∈ ss.take (i + 1) ↔ y ∈ ss.take i ∨ y = x := by
          rw [List.take_add_one, hx]; simp
        show y ∈ es'.toList.map _ ↔ _
        rw [hp, htk, ← hmem y]
        split
        · rename_i hin
          exact ⟨.inl, fun h => h.elim id fun e => e ▸ hin⟩
        · rw [List.map_append, List.mem_append]
          simp [strsOf, toS]
    refine wpAny_pure ⟨plainId_quiet PyProof.Rows.F.plain_set_update_loop _, ih (i + 1) _ (by lia) hlt (W.frame _ s' _ _ hst' (Nat.le_succ _) fun b hb o e => ?_) hT fun s'' hm'' hS'' => ?_⟩
    · rw [hsb.2 b (fun h : b = S => hSf (by rw [← h]; exact hb))]; exact e
    · refine hR s'' (Moved.trans W.gtrans ((hm.mono hsub).then_heap (Nat.le_succ _) fun b o hb e => ?_) hm'') hS''
      rw [hsb.2 b (fun h : b = S => hb (by rw [h]; exact List.mem_cons_self))]; exact e

set_option maxHeartbeats 3200000 in
theorem call_set {l : Addr} {items : Array Value} {ss U : List Str} {Q : Value → Shared → Prop} (hh : A.handled = none) (hl : s.heap.IsList l items) (hi : StrsAre items.toList ss) (hU : ∀ x ∈ ss, x ∈ U) (hU2 : U.length < 500)
    (h : ∀ (h' : Heap) (tk : Nat), Taken prog w h' s.heap.objs.size ss → (∀ b o, b < s.heap.objs.size → s.heap.get? b = some o → h'.get? b = some o) → Q (.ref s.heap.objs.size) { s with heap := h', toks := tk }) :
    wpAny (model prog w) A (call (.type "set") [.ref l]) Q E s := by
  obtain ⟨c, tl, hmro⟩ := PySem.F.called_set.mro
  have hmade := PySem.F.called_set.made
  have hsub := PySem.F.called_set.sub
  refine wpAny_call (codeAny_of_tree ?_)
  show wpAny _ _ (callAny (.type "set") _) _ _ _
  refine wpAny_pure ⟨Code.quiet_builtin _ (by decide +kernel), codeAny_builtin PySem.F.entry_type_call ?_⟩
  rw [Around.under_plain (weight_type_call_type "set" [.ref l] []) rfl]
  have h1 := PySem.F.called_set.notType
  have h2 := PySem.F.called_set.canCreate
  have hct := PySem.F.typeCall_set_1 (.ref l)
  repeat (any_goals (first | assumption | wp_step))
  refine codeAny_mono (code_set_new1 (.ref l) (E := E) (Q₁ := fun obj s₁ => obj = .ref s.heap.objs.size ∧ s₁ = { s with heap := s.heap.push (setObj #[] 0 (.fresh 0 0 (ledOf w))) }) ⟨rfl, rfl⟩) fun r s₁ hr => ?_
  cases r with
  | error e => exact hr
  | ok fl =>
    cases fl with
    | ret obj =>
      obtain ⟨rfl, rfl⟩ := hr
      have hS : (s.heap.push (setObj #[] 0 (.fresh 0 0 (ledOf w)))).get? s.heap.objs.size = some (setObj #[] 0 (.fresh 0 0 (ledOf w))) := Heap.get?_push_size _ rfl
      have hT : Shared.TypeIs { s with heap := s.heap.push (setObj #[] 0 (.fresh 0 0 (ledOf w))) } (.ref s.heap.objs.size) "set" := ⟨_, hS, rfl⟩
      have hli := PySem.F.called_set.init.lookup
      have hbi := PySem.F.called_set.init.bind (.ref s.heap.objs.size)
      repeat (any_goals (first | assumption | wp_step))
      refine codeAny_mono (codeAny_call_builtin (R := wants (fun r s₂ => r = .none ∧ ∃ h' tk, s₂ = { s with heap := h', toks := tk } ∧ Taken prog w h' s.heap.objs.size ss ∧
          (∀ b o, b < s.heap.objs.size → s.heap.get? b = some o → h'.get? b = some o)) E) PySem.F.called_set.init.plain PySem.F.entry_set_init (check_set_init_1 hT ?_)) fun r₂ s₂ hr₂ => ?_
      · obtain ⟨ol, hol, hcl, nl, hdl⟩ := hl
        obtain ⟨ocls, odict, odata, oslots⟩ := ol
        simp only at hcl hdl
        subst hcl; subst hdl
        have hol' : (s.heap.push (setObj #[] 0 (.fresh 0 0 (ledOf w)))).get? l = some { cls := .type "list", dict := odict, data := .seq items nl, slots := oslots } := Heap.get?_push_of_some _ hol
        have hsls := PySem.F.sub_list_set
        have hslf := PySem.F.sub_list_frozenset
        have hne : (Value.type "list" == Value.type "dict") = false := by decide
        have hl1 : (s.heap.push (setObj #[] 0 (.fresh 0 0 (ledOf w)))).IsList l items := ⟨_, hol', rfl, nl, rfl⟩
        unfold Builtin.«set.__init__» noKeywords Builtin.Frozenset.updateFrom
        generalize hPI : pyIter = PI
        unfold setObj at hS hol' ⊢
        wp_walk
        subst hPI
        refine wpAny_pyIter_list hl1 ?_
        refine wpAny_bind (wpAny_runValue ?_)
        have hlS : l < s.heap.objs.size := Heap.lt_size hol
        have hh3 : A.in1.in1.in1.handled = none := by simp [hh]
        have hneI : l ≠ (s.heap.push (setObj #[] 0 (.fresh 0 0 (ledOf w)))).objs.size := by
          rw [Heap.size_push]; exact Nat.ne_of_lt (Nat.lt_succ_of_lt hlS)
        have hSf : s.heap.objs.size ∉ [(s.heap.push (setObj #[] 0 (.fresh 0 0 (ledOf w)))).objs.size, l] := by
          rw [Heap.size_push]; simp only [List.mem_cons, List.mem_singleton, List.not_mem_nil, or_false, not_or]
          exact ⟨Nat.ne_of_lt (Nat.lt_succ_self _), Nat.ne_of_gt hlS⟩
        refine loop_set hi hU hU2 ((Walks.list hh3 _ l hneI items).toS) hSf (items.size - 0) 0 _ (by lia) (Nat.zero_le _) ⟨⟨_, Heap.get?_push_size _ rfl, rfl, rfl⟩, (hl1.push _)⟩ ?hS0 ?hR
        case hS0 =>
          have hget : ((s.heap.push (setObj #[] 0 (.fresh 0 0 (ledOf w)))).push { cls := .type "list_iterator", data := .fields #[.ref l, .int 0 0] }).get? s.heap.objs.size
              = some (setObj #[] 0 (.fresh 0 0 (ledOf w))) := Heap.get?_push_of_some _ hS
          exact ⟨#[], 0, _, hget, ⟨fun e he => by simp at he, by decide, rfl, rfl, .inl rfl⟩, by simp [strsOf], fun x => by simp [strsOf]⟩
        case hR =>
          intro s' hm hS'
          obtain ⟨h', g', d', tk', os'⟩ := s'
          have eg : g' = s.gens := hm.gens
          have ed : d' = s.drawn := hm.drawn
          have eo : os' = s.os := hm.os
          subst eg; subst ed; subst eo
          show wpAny _ _ _ _ _ _
          refine wpAny_pure ?_
          show wpAny _ _ (ret Value.none) _ _ _
          refine wpAny_pure ⟨rfl, h', tk', rfl, hS', fun b o hb e => ?_⟩
          have hb1 : b ≠ s.heap.objs.size := Nat.ne_of_lt hb
          have hb2 : b ≠ (s.heap.push (setObj #[] 0 (.fresh 0 0 (ledOf w)))).objs.size := by
            rw [Heap.size_push]; exact Nat.ne_of_lt (Nat.lt_succ_of_lt hb)
          exact hm.heap b o (by simp only [List.mem_cons, List.mem_singleton, List.not_mem_nil, or_false, not_or]; exact ⟨hb1, hb2⟩) (Heap.get?_push_of_some _ (Heap.get?_push_of_some _ e))
      · cases r₂ with
        | error e => exact hr₂
        | ok fl₂ =>
          cases fl₂ with
          | ret r =>
            obtain ⟨rfl, h', tk, rfl, hS', hk'⟩ := hr₂
            repeat (any_goals (first | assumption | wp_step))
            exact h _ _ hS' hk'
          | _ => exact hr₂.elim
    | _ => exact hr.elim
end
end Mine
namespace Mine
open PySem PySem.W PySem.Calls PyProof.Rows

/-! ## the order in which a set is met -/
theorem cons_erase {α : Type} {l : List α} {i : Nat} (h : i < l.length) : (l[i] :: l.eraseIdx i).Perm l := by
  have e : l = l.take i ++ l[i] :: l.drop (i + 1) := by rw [← List.drop_eq_getElem_cons h, List.take_append_drop]
  rw [List.eraseIdx_eq_take_drop_succ]
  exact (List.perm_middle.symm).trans (List.Perm.of_eq e.symm)
theorem pick_go {α : Type} (next : Nat → Nat) : ∀ (n k : Nat) (l : List α) (out : Array α), l.length = n → (pickOrder.go next n k l out).toList.Perm (out.toList ++ l)
  | 0, k, l, out, h => by
    rw [List.length_eq_zero_iff.mp h]
    simp [pickOrder.go]
  | n + 1, k, l, out, h => by
    unfold pickOrder.go
    have hlt : next k % l.length < l.length := Nat.mod_lt _ (by lia)
    rw [List.getElem?_eq_getElem hlt]
    refine (pick_go next n (k + 1) _ _ (by rw [List.length_eraseIdx_of_lt hlt]; lia)).trans ?_
    rw [Array.toList_push, List.append_assoc]
    exact List.Perm.append_left _ (cons_erase hlt)
theorem pick_perm {α : Type} (next : Nat → Nat) (xs : Array α) : (pickOrder next xs).toList.Perm xs.toList := by
  have := pick_go next xs.size 0 xs.toList #[] (by simp)
  simpa [pickOrder] using this

section
variable {prog : Program} {w : World} {A : Around} {E : Value → Shared → Prop} {s : Shared}
theorem wpAny_choose {n : Nat} {src : Source} {Q : Nat → Shared → Prop} (hn : n ≠ 0) (h : ∀ i d, i < n → Q i { s with drawn := d }) : wpAny (model prog w) A (choose src n) Q E s := fun Γ p hΓ => by
  unfold choose
  rw [Sem.wp_choose]
  exact ⟨hn, h _ _ (Nat.mod_lt _ (Nat.pos_of_ne_zero hn))⟩
theorem draw_perm {α : Type} : ∀ (n : Nat) (l : List α) (s : Shared) (Q : List α → Shared → Prop), l.length = n → (∀ l' d, l'.Perm l → Q l' { s with drawn := d }) → wpAny (model prog w) A (drawOrder n l) Q E s
  | 0, l, s, Q, h, k => by
    rw [List.length_eq_zero_iff.mp h] at k ⊢
    exact wpAny_pure (k [] s.drawn List.Perm.nil)
  | n + 1, [], s, Q, h, k => by cases h
  | n + 1, x :: r, s, Q, h, k => by
    unfold drawOrder
    refine wpAny_bind (wpAny_choose (by simp) fun i d hi => ?_)
    rw [List.getElem?_eq_getElem hi]
    dsimp only
    refine wpAny_bind (draw_perm n _ { s with drawn := d } _ (by rw [List.length_eraseIdx_of_lt hi]; lia) fun l' d' hp => ?_)
    exact wpAny_pure (k _ d' ((List.Perm.cons _ hp).trans (cons_erase hi)))
end

/-! ## the iterator of a set -/
theorem owner_si : Manifest.owners.lookup (String.ofList ['r', 'o', 't', 'a', 'r', 'e', 't', 'i', '_', 't', 'e', 's'].reverse) = some Manifest.sig_set_iterator := by kernel_rfl
theorem slot_si_next : Slot "set_iterator" "__next__" "set_iterator.__next__" :=
  .of (owner := "set_iterator") (n := "__next__") (by rw [typeLookup_type, builtinLookup_eq_fast]; kernel_rfl) (by decide +kernel) (by decide +kernel) (by decide +kernel)
    (by first | exact .inl (by decide +kernel) | exact .inr (by decide +kernel)) (by rw [isSubtype_type]; kernel_rfl)
theorem entry_si_next : entryFor table "set_iterator.__next__" = some Builtin.«set_iterator.__next__» := entryFor_of_tree (by kernel_rfl)
theorem args_si_next (a : Value) : argsOk "set_iterator.__next__" ⟨[a], []⟩ := by
  unfold argsOk; rw [signature?_of (id := "set_iterator.__next__") (n := ['_', '_', 't', 'x', 'e', 'n', '_', '_']) (o := ['r', 'o', 't', 'a', 'r', 'e', 't', 'i', '_', 't', 'e', 's']) (by kernel_rfl) owner_si]; kernel_rfl
theorem slot_si_iter : Slot "set_iterator" "__iter__" "set_iterator.__iter__" :=
  .of (owner := "set_iterator") (n := "__iter__") (by rw [typeLookup_type, builtinLookup_eq_fast]; kernel_rfl) (by decide +kernel) (by decide +kernel) (by decide +kernel)
    (by first | exact .inl (by decide +kernel) | exact .inr (by decide +kernel)) (by rw [isSubtype_type]; kernel_rfl)
theorem args_si_iter (a : Value) : argsOk "set_iterator.__iter__" ⟨[a], []⟩ := by
  unfold argsOk; rw [signature?_of (id := "set_iterator.__iter__") (n := ['_', '_', 'r', 'e', 't', 'i', '_', '_']) (o := ['r', 'o', 't', 'a', 'r', 'e', 't', 'i', '_', 't', 'e', 's']) (by kernel_rfl) owner_si]; kernel_rfl
theorem entry_si_iter : entryFor table "set_iterator.__iter__" = some Builtin.«dict_keyiterator.__iter__» :=
  entryFor_alias (id' := "dict_keyiterator.__iter__") (by kernel_rfl) (by first | rfl | decide +kernel | (unfold String.splitOn; simp +decide [String.splitOnAux])) (by decide +kernel) (by kernel_rfl)
theorem entry_set_iter : entryFor table "set.__iter__" = some Builtin.«frozenset.__iter__» :=
  entryFor_alias (id' := "frozenset.__iter__") (by kernel_rfl) rfl (by decide +kernel) (by kernel_rfl)

noncomputable def itO (first : Value) (i : Int) (S : Value) (n ep : Nat) : Obj := { cls := .type "set_iterator", data := .fields #[first, rawInt i, S, rawInt n, rawInt ep] }

section
variable {prog : Program} {w : World} {A : Around} {E : Value → Shared → Prop} {s : Shared}
theorem si_iter {I : Addr} {o : Obj} {Q : Value → Shared → Prop} (hit : s.heap.get? I = some o) (hc : o.cls = .type "set_iterator") (h : Q (.ref I) s) : wpAny (model prog w) A (pyIter (.ref I)) Q E s := by
  have hT : s.TypeIs (.ref I) "set_iterator" := ⟨_, hit, hc⟩
  refine wpAny_pyIter_slot hT slot_si_iter (wpAny_call_entry slot_si_iter hT entry_si_iter ?_ (args_si_iter _))
  show wpAny _ _ (ret (.ref I)) _ _ s
  exact wpAny_pure ⟨_, rfl, "set_iterator", _, hT, slot_si_next.lookup, h⟩

/-- behind the look at the size -/
noncomputable def siTail (it : Value) (first : Value) (i : Int) (a : Addr) (epoch : Int) : Sem Fin :=
  if let .int slot _ := first then do
    match ← setNext a slot.toNat i.toNat epoch.toNat with
    | some (x, next) =>
      setField it 0 (rawInt next)
      setField it 1 (rawInt (i + 1))
      ret x
    | none => setField it 2 .none; raiseNew (← newExc (.type "StopIteration") [])
  else do
    let some places ← seqItems? first | unsupported "internal:set_iterator"
    match places[i.toNat]? with
    | some (.int place _) =>
      let x ← setNextDrawn a place.toNat epoch.toNat
      setField it 1 (rawInt (i + 1))
      ret x
    | some _ => unsupported "internal:set_iterator"
    | none => setField it 0 (rawInt 0); setField it 2 .none; raiseNew (← newExc (.type "StopIteration") [])

theorem si_open {I S : Addr} {first : Value} {i : Nat} {es : Array (Int × Value)} {ep : Nat} {t : SetTable} {Q : Option Value → Shared → Prop} (hI : s.heap.get? I = some (itO first i (.ref S) es.size ep)) (hS : s.heap.get? S = some (setObj es ep t)) (hf : t.fits es.size = true)
    (h : wpAny (model prog w) A.in1 (siTail (.ref I) first i S ep) (fun fin s' => match fin with | .done (.ret v) => Q (some v) s' | _ => False)
      (fun e s' => wpAny (model prog w) A (do if ← isInstance e (.type "StopIteration") then pure none else throw e) Q E s') s) : wpAny (model prog w) A (pyNext (.ref I)) Q E s := by
  have hT : s.TypeIs (.ref I) "set_iterator" := ⟨_, hI, rfl⟩
  unfold pyNext
  refine wpAny_bind (wpAny_attempt (wpAny_callSpecial?_slot (name := Str.ofString "__next__") hT slot_si_next
    (wpAny_call_entry slot_si_next hT entry_si_next ?_ (args_si_next _))))
  unfold Builtin.«set_iterator.__next__»
  refine wpAny_bind (wpAny_of_eq (a := (Value.ref I, [])) rfl ?_)
  try dsimp only
  refine wpAny_bind (wpAny_fieldsOf hI rfl ?_)
  try dsimp only [rawInt]
  refine wpAny_bind (wpAny_setEntries_of hS rfl hf ?_)
  simp only [bne_self_eq_false, Bool.false_eq_true, if_false]
  have h' : wpAny (model prog w) A.in1 (siTail (Value.ref I) first i S ep) (fun fin s' => ∃ v, fin = Fin.done (Flow.ret v) ∧ wpAny (model prog w) A (pure (some v)) Q E s') (fun e s' => wpAny (model prog w) A (do if ← isInstance e (.type "StopIteration") then pure none else throw e) Q E s') s :=
    wpAny_mono h (fun fin s' q => by
      cases fin with
      | done f =>
        cases f with
        | ret v => exact ⟨v, rfl, wpAny_pure q⟩
        | _ => exact q.elim
      | again c => exact q.elim) fun _ _ x => x
  unfold siTail at h'
  simp only [rawInt] at h'
  exact h'

theorem si_stop {R : Fin → Shared → Prop} {Q : Option Value → Shared → Prop} (hh : A.handled = none) (h : ∀ h', (∀ b o, s.heap.get? b = some o → h'.get? b = some o) → Q none { s with heap := h' }) :
    wpAny (model prog w) A.in1 (do raiseNew (← newExc (.type "StopIteration") [])) R (fun e s' => wpAny (model prog w) A (do if ← isInstance e (.type "StopIteration") then pure none else throw e) Q E s') s := by
  refine wpAny_bind ?_
  simp only [newExc, newTuple]
  refine wpAny_bind (wpAny_newObj_type ?_ (by size_fits))
  refine wpAny_bind (m := firstArgMember _ _) (wpAny_of_eq (a := Value.none) (by first | rfl | (simp only [firstArgMember]; rfl)) ?_)
  refine wpAny_newObj_type ?_ (by size_fits)
  simp only [raiseNew]
  refine wpAny_bind (wpAny_handled ?_)
  first | rw [show A.in1.handled = none from hh] | rw [hh]
  refine wpAny_bind (wpAny_pure (wpAny_throw ?_))
  refine wpAny_bind (wpAny_isInstance (T := "StopIteration") (b := true) ⟨_, Heap.get?_push_size _ rfl, rfl⟩ isSubtype_stop ?_)
  exact wpAny_pure (h _ fun b o e => Heap.get?_push_of_some _ (Heap.get?_push_of_some _ e))

theorem set_field {I : Addr} {cls : Value} {vs : Array Value} {k : Nat} {x : Value} {Q : Unit → Shared → Prop} (ho : s.heap.get? I = some { cls := cls, data := .fields vs }) (hk : k < vs.size)
    (h : ∀ h', h'.get? I = some { cls := cls, data := .fields (vs.setIfInBounds k x) } → Heap.SameBut I s.heap h' → Q () { s with heap := h' }) : wpAny (model prog w) A (setField (.ref I) k x) Q E s := wpAny_setField_rec ho hk h

theorem SameBut.keep {I : Addr} {h h' : Heap} (x : Heap.SameBut I h h') {b : Addr} {o : Obj} (hb : b ≠ I) (e : h.get? b = some o) : h'.get? b = some o := (x.2 b hb).trans e

/-- the walks of a set, by the way that its order is known -/
structure SiSt (first : Value) (i : Nat) (I S : Addr) (es : Array (Int × Value)) (ep : Nat) (t : SetTable) (h : Heap) : Prop where
  it : h.get? I = some (itO first i (.ref S) es.size ep)
  set : h.get? S = some (setObj es ep t)

/-- the world's text says the order -/
theorem walk_text (hh : A.handled = none) (ht : w.params.followText "set-order" = true) {I S : Addr} (hIS : S ≠ I) {es : Array (Int × Value)} {ep : Nat} {t : SetTable} (hf : t.fits es.size = true) :
    WalksS prog w A I [I, S] [I] (· = ·) es.size (fun i v => ((pickOrder (w.params.setOrder S ep) es).toList.map (·.2))[i]? = some v) (fun i s => SiSt (rawInt 0) i I S es ep t s.heap) where
  sub := fun b hb => by rw [List.mem_singleton.mp hb]; exact .head _
  grefl := fun _ => rfl
  gtrans := fun _ _ _ a b => a.trans b
  frame := fun i s h' tk st _ hk => ⟨hk I (.head _) _ st.it, hk S (.tail _ (.head _)) _ st.set⟩
  self := fun i s Q E st q => si_iter st.it rfl q
  item := fun i s Q E hi st k => by
    refine si_open st.it st.set hf ?_
    have hsz : (pickOrder (w.params.setOrder S ep) es).size = es.size := by
      have := (pick_perm (w.params.setOrder S ep) es).length_eq; simpa using this
    have hlt : i < (pickOrder (w.params.setOrder S ep) es).size := by lia
    show wpAny _ _ (setNext S (0 : Int).toNat (i : Int).toNat (ep : Int).toNat >>= _) _ _ _
    unfold setNext setsByText
    refine wpAny_bind (wpAny_bind (wpAny_setState_of st.set rfl hf ?_))
    dsimp only
    refine wpAny_bind (wpAny_bind (wpAny_askSetting (wpAny_pure ?_)))
    dsimp only [model]
    rw [ht]
    simp only [Int.toNat_natCast, bne_self_eq_false, Bool.false_eq_true, if_false, if_true]
    refine wpAny_bind ?_
    unfold setWalk setsByText
    refine wpAny_bind (wpAny_setState_of st.set rfl hf ?_)
    dsimp only
    refine wpAny_bind (wpAny_bind (wpAny_askSetting (wpAny_pure ?_)))
    dsimp only [model]
    rw [ht]
    simp only [if_true]
    refine wpAny_bind (wpAny_askSetting (wpAny_pure (wpAny_pure ?_)))
    dsimp only
    rw [Array.getElem?_eq_getElem hlt]
    simp only [Option.map_some]
    refine wpAny_bind (set_field st.it (by simp) fun h1 e1 s1 => ?_)
    refine wpAny_bind (set_field e1 (by simp) fun h2 e2 s2 => ?_)
    refine wpAny_pure (k _ _ ?_ ⟨e2, SameBut.keep s2 hIS (SameBut.keep s1 hIS st.set)⟩ ⟨fun b o hb e => ?_, rfl, rfl, rfl, Nat.le_refl _⟩)
    · rw [List.getElem?_map, Array.getElem?_toList, Array.getElem?_eq_getElem hlt]; rfl
    · have hb : b ≠ I := fun q => hb (by rw [q]; exact .head _)
      exact SameBut.keep s2 hb (SameBut.keep s1 hb e)
  done := fun s Q E st k => by
    refine si_open st.it st.set hf ?_
    have hsz : (pickOrder (w.params.setOrder S ep) es).size = es.size := by
      have := (pick_perm (w.params.setOrder S ep) es).length_eq; simpa using this
    show wpAny _ _ (setNext S (0 : Int).toNat (es.size : Int).toNat (ep : Int).toNat >>= _) _ _ _
    unfold setNext setsByText
    refine wpAny_bind (wpAny_bind (wpAny_setState_of st.set rfl hf ?_))
    dsimp only
    refine wpAny_bind (wpAny_bind (wpAny_askSetting (wpAny_pure ?_)))
    dsimp only [model]
    rw [ht]
    simp only [Int.toNat_natCast, bne_self_eq_false, Bool.false_eq_true, if_false, if_true]
    refine wpAny_bind ?_
    unfold setWalk setsByText
    refine wpAny_bind (wpAny_setState_of st.set rfl hf ?_)
    dsimp only
    refine wpAny_bind (wpAny_bind (wpAny_askSetting (wpAny_pure ?_)))
    dsimp only [model]
    rw [ht]
    simp only [if_true]
    refine wpAny_bind (wpAny_askSetting (wpAny_pure (wpAny_pure ?_)))
    dsimp only
    rw [Array.getElem?_eq_none (by lia)]
    simp only [Option.map_none]
    refine wpAny_bind (set_field st.it (by simp) fun h1 e1 s1 => ?_)
    refine si_stop (s := { s with heap := h1 }) hh fun h' hk => k _ ⟨fun b o hb e => ?_, rfl, rfl, rfl, Nat.le_refl _⟩
    have hb : b ≠ I := fun q => hb (by rw [q]; exact .head _)
    exact hk _ _ (SameBut.keep s1 hb e)

/-- one text or none, the table led -/
theorem below1 (p : Nat) (j : Nat) : SetTable.below #[p] j = if p < j then 1 else 0 := by
  unfold SetTable.below
  show SetTable.below.go #[p] j 1 0 1 = _
  unfold SetTable.below.go
  simp only [Nat.lt_add_one, if_true]
  by_cases h : p < j
  · simp [h, SetTable.below.go]
  · simp [h, SetTable.below.go]

theorem walk_one (hh : A.handled = none) (ht : w.params.followText "set-order" = false) {I S : Addr} (hIS : S ≠ I) {es : Array (Int × Value)} {ep : Nat} {t : SetTable} (hf : t.fits es.size = true) (h1 : es.size ≤ 1) (hl : t.led = true) :
    WalksS prog w A I [I, S] [I] (· = ·) es.size (fun i v => (es.toList.map (·.2))[i]? = some v) (fun i s => SiSt (rawInt (if i = 0 then 0 else ((t.place.getD 0 0 + 1 : Nat) : Int))) i I S es ep t s.heap) where
  sub := fun b hb => by rw [List.mem_singleton.mp hb]; exact .head _
  grefl := fun _ => rfl
  gtrans := fun _ _ _ a b => a.trans b
  frame := fun i s h' tk st _ hk => ⟨hk I (.head _) _ st.it, hk S (.tail _ (.head _)) _ st.set⟩
  self := fun i s Q E st q => si_iter st.it rfl q
  item := fun i s Q E hi st k => by
    have hs1 : es.size = 1 := by lia
    have hi0 : i = 0 := by lia
    subst hi0
    refine si_open st.it st.set hf ?_
    have hpl : t.place.size = 1 := by
      simp only [SetTable.fits, Bool.and_eq_true, beq_iff_eq] at hf; lia
    obtain ⟨p, hp⟩ : ∃ p, t.place = #[p] := Array.size_eq_one_iff.mp hpl
    obtain ⟨e, he⟩ : ∃ e, es = #[e] := Array.size_eq_one_iff.mp hs1
    show wpAny _ _ (setNext S (0 : Int).toNat (0 : Int).toNat (ep : Int).toNat >>= _) _ _ _
    unfold setNext setsByText
    refine wpAny_bind (wpAny_bind (wpAny_setState_of st.set rfl hf ?_))
    dsimp only
    refine wpAny_bind (wpAny_bind (wpAny_askSetting (wpAny_pure ?_)))
    dsimp only [model]
    rw [ht]
    simp only [Bool.false_eq_true, if_false]
    subst he
    refine wpAny_ite_split (fun hd => ?_) (fun _ => ?_)
    · have hd' : (!t.plain && decide ((1 : Nat) > 1)) = true := hd
      rw [show decide ((1 : Nat) > 1) = false from rfl, Bool.and_false] at hd'
      cases hd'
    refine wpAny_bind (m := (_ : Sem Unit)) ?_
    show wpAny _ _ (if (!t.led && !(#[e] : Array (Int × Value)).isEmpty) = true then unsupported "set:maker-not-led" else pure ()) _ _ _
    rw [hl]
    simp only [Bool.not_true, Bool.false_and, Bool.false_eq_true, if_false]
    refine wpAny_pure (wpAny_pure ?_)
    rw [hp, below1, if_neg (show ¬ p < Int.toNat 0 from Nat.not_lt_zero _)]
    refine wpAny_bind (set_field st.it (by simp) fun h1 e1 s1 => ?_)
    refine wpAny_bind (set_field e1 (by simp) fun h2 e2 s2 => ?_)
    refine wpAny_pure (k _ _ rfl ⟨by rw [hp]; exact e2, SameBut.keep s2 hIS (SameBut.keep s1 hIS st.set)⟩ ⟨fun b o hb e => ?_, rfl, rfl, rfl, Nat.le_refl _⟩)
    have hb : b ≠ I := fun q => hb (by rw [q]; exact .head _)
    exact SameBut.keep s2 hb (SameBut.keep s1 hb e)
  done := fun s Q E st k => by
    refine si_open st.it st.set hf ?_
    have hpl : t.place.size = es.size := by
      simp only [SetTable.fits, Bool.and_eq_true, beq_iff_eq] at hf; lia
    have fin : ∀ slot : Int, es[SetTable.below t.place slot.toNat]? = none → wpAny (model prog w) A.in1 (siTail (.ref I) (rawInt slot) es.size S ep) (fun fin s' => match fin with | .done (.ret v) => Q (some v) s' | _ => False)
      (fun e s' => wpAny (model prog w) A (do if ← isInstance e (.type "StopIteration") then pure none else throw e) Q E s') s := by
      intro slot hno
      show wpAny _ _ (setNext S slot.toNat (es.size : Int).toNat (ep : Int).toNat >>= _) _ _ _
      unfold setNext setsByText
      refine wpAny_bind (wpAny_bind (wpAny_setState_of st.set rfl hf ?_))
      dsimp only
      refine wpAny_bind (wpAny_bind (wpAny_askSetting (wpAny_pure ?_)))
      dsimp only [model]
      rw [ht]
      simp only [Bool.false_eq_true, if_false]
      refine wpAny_ite_split (fun hd => ?_) (fun _ => ?_)
      · have hd' : (!t.plain && decide (es.size > 1)) = true := hd
        rw [show decide (es.size > 1) = false from decide_eq_false (by lia), Bool.and_false] at hd'
        cases hd'
      refine wpAny_bind (m := (_ : Sem Unit)) ?_
      show wpAny _ _ (if (!t.led && !es.isEmpty) = true then unsupported "set:maker-not-led" else pure ()) _ _ _
      rw [hl]
      simp only [Bool.not_true, Bool.false_and, Bool.false_eq_true, if_false]
      refine wpAny_pure (wpAny_pure ?_)
      rw [hno]
      dsimp only
      refine wpAny_bind (set_field st.it (by simp) fun h1 e1 s1 => ?_)
      refine si_stop (s := { s with heap := h1 }) hh fun h' hk => k _ ⟨fun b o hb e => ?_, rfl, rfl, rfl, Nat.le_refl _⟩
      have hb : b ≠ I := fun q => hb (by rw [q]; exact .head _)
      exact hk _ _ (SameBut.keep s1 hb e)
    refine fin _ ?_
    rcases Nat.eq_zero_or_pos es.size with e0 | e0
    · rw [Array.eq_empty_of_size_eq_zero e0]; simp
    · have hs1 : es.size = 1 := by lia
      obtain ⟨p, hp⟩ : ∃ p, t.place = #[p] := Array.size_eq_one_iff.mp (by lia)
      rw [hs1, hp, if_neg (by decide), below1]
      have : p < ((((#[p] : Array Nat).getD 0 0 + 1 : Nat) : Int)).toNat := by simp
      rw [if_pos this, Array.getElem?_eq_none (by lia)]

/-- the order was drawn as the walk began: T holds the places -/
structure SdSt (T : Addr) (places : Array Nat) (i : Nat) (I S : Addr) (es : Array (Int × Value)) (ep : Nat) (t : SetTable) (h : Heap) : Prop where
  it : h.get? I = some (itO (.ref T) i (.ref S) es.size ep)
  set : h.get? S = some (setObj es ep t)
  tup : IsTup h T (places.map fun (j : Nat) => rawInt j)

theorem walk_drawn (hh : A.handled = none) {I S T : Addr} (hIS : S ≠ I) (hIT : T ≠ I) {es : Array (Int × Value)} {ep : Nat} {t : SetTable} {places : Array Nat} (hf : t.fits es.size = true) (hpl : places.toList.Perm (List.range es.size)) :
    WalksS prog w A I [I, S, T] [I] (· = ·) es.size (fun i v => ((places.toList.filterMap fun j => es[j]?).map (·.2))[i]? = some v) (fun i s => SdSt T places i I S es ep t s.heap) where
  sub := fun b hb => by rw [List.mem_singleton.mp hb]; exact .head _
  grefl := fun _ => rfl
  gtrans := fun _ _ _ a b => a.trans b
  frame := fun i s h' tk st _ hk => ⟨hk I (.head _) _ st.it, hk S (.tail _ (.head _)) _ st.set, let ⟨o, ho, x⟩ := st.tup; ⟨o, hk T (.tail _ (.tail _ (.head _))) _ ho, x⟩⟩
  self := fun i s Q E st q => si_iter st.it rfl q
  item := fun i s Q E hi st k => by
    have hlen : places.size = es.size := by have := hpl.length_eq; simpa using this
    have hip : i < places.size := by lia
    have hj : places[i] < es.size := by
      have := hpl.mem_iff (a := places[i])
      rw [List.mem_range] at this
      exact this.mp (by simp)
    refine si_open st.it st.set hf ?_
    show wpAny _ _ (seqItems? (.ref T) >>= _) _ _ _
    obtain ⟨oT, hoT, hcT, nT, hdT⟩ := id st.tup
    refine wpAny_bind (wpAny_seqItems hoT hdT ?_)
    dsimp only
    rw [Int.toNat_natCast, Array.getElem?_map, Array.getElem?_eq_getElem hip]
    simp only [Option.map_some, rawInt]
    refine wpAny_bind ?_
    unfold setNextDrawn
    refine wpAny_bind (wpAny_setState_of st.set rfl hf ?_)
    simp only [Int.toNat_natCast, bne_self_eq_false, Bool.false_eq_true, if_false]
    rw [Array.getElem?_eq_getElem hj]
    refine wpAny_pure ?_
    refine wpAny_bind (set_field st.it (by simp) fun h2 e2 s2 => ?_)
    refine wpAny_pure (k _ _ ?_ ⟨e2, SameBut.keep s2 hIS st.set, let ⟨o, ho, x⟩ := st.tup; ⟨o, SameBut.keep s2 hIT ho, x⟩⟩ ⟨fun b o hb e => ?_, rfl, rfl, rfl, Nat.le_refl _⟩)
    · have hall : ∀ l : List Nat, (∀ j ∈ l, j < es.size) → (l.filterMap fun j => es[j]?).map some = l.map fun j => es[j]? := by
        intro l
        induction l with
        | nil => intro _; rfl
        | cons a l ih =>
          intro h
          rw [List.filterMap_cons, Array.getElem?_eq_getElem (h a (.head _))]
          simp only [List.map_cons]
          rw [ih fun j hj => h j (.tail _ hj), Array.getElem?_eq_getElem (h a (.head _))]
      have hm := hall places.toList fun j hj => by
        have := (hpl.mem_iff (a := j)).mp hj
        exact List.mem_range.mp this
      have h0 := congrArg (·[i]?) hm
      simp only [List.getElem?_map] at h0
      rw [show places.toList[i]? = some places[i] from (Array.getElem?_toList (xs := places)).trans (Array.getElem?_eq_getElem hip), Option.map_some, Array.getElem?_eq_getElem hj] at h0
      obtain ⟨e, he, hee⟩ := Option.map_eq_some_iff.mp h0
      rw [List.getElem?_map, he]
      cases hee; rfl
    · have hb : b ≠ I := fun q => hb (by rw [q]; exact .head _)
      exact SameBut.keep s2 hb e
  done := fun s Q E st k => by
    have hlen : places.size = es.size := by have := hpl.length_eq; simpa using this
    refine si_open st.it st.set hf ?_
    show wpAny _ _ (seqItems? (.ref T) >>= _) _ _ _
    obtain ⟨oT, hoT, hcT, nT, hdT⟩ := id st.tup
    refine wpAny_bind (wpAny_seqItems hoT hdT ?_)
    dsimp only
    rw [Int.toNat_natCast, Array.getElem?_map, Array.getElem?_eq_none (by lia)]
    simp only [Option.map_none]
    refine wpAny_bind (set_field st.it (by simp) fun h1 e1 s1 => ?_)
    refine wpAny_bind (set_field e1 (by simp) fun h2 e2 s2 => ?_)
    refine si_stop (s := { s with heap := h2 }) hh fun h' hk => k _ ⟨fun b o hb e => ?_, rfl, rfl, rfl, Nat.le_refl _⟩
    have hb : b ≠ I := fun q => hb (by rw [q]; exact .head _)
    exact hk _ _ (SameBut.keep s2 hb (SameBut.keep s1 hb e))

/-- iter of a set: an order of its texts, and a walk of it -/
theorem set_iter (hh : A.handled = none) {S : Addr} {es : Array (Int × Value)} {ep : Nat} {t : SetTable} {A' : Around} {Q : Value → Shared → Prop} (hS : s.heap.get? S = some (setObj es ep t)) (ok : SetOk prog w es t)
    (k : ∀ (I : Addr) (s' : Shared) (fp : List Addr) (St : Nat → Shared → Prop) (vs : List Value), I ≠ S → (∀ b ∈ fp, b < s'.heap.objs.size) → I ∈ fp → Kept s s' → vs.Perm (es.toList.map (·.2)) → (∀ b ∈ fp, b = S ∨ s.heap.get? b = none) →
      WalksS prog w A I fp [I] (· = ·) es.size (fun i v => vs[i]? = some v) St → St 0 s' → Q (.ref I) s') : wpAny (model prog w) A' (pyIter (.ref S)) Q E s := by
  have hT : s.TypeIs (.ref S) "set" := ⟨_, hS, rfl⟩
  have hlt := Heap.lt_size hS
  refine wpAny_pyIter_slot hT PySem.F.slot_set_iter (wpAny_call_entry PySem.F.slot_set_iter hT entry_set_iter ?_ (PySem.F.args_set_iter_1 _))
  unfold Builtin.«frozenset.__iter__»
  refine wpAny_bind (wpAny_of_eq (a := S) rfl ?_)
  refine wpAny_bind ?_
  unfold Builtin.Frozenset.sizeOf
  refine wpAny_bind (wpAny_setEntries_of hS rfl ok.fit (wpAny_pure ?_))
  refine wpAny_bind ?_
  unfold setDrawn setsByText
  refine wpAny_bind (wpAny_setState_of hS rfl ok.fit ?_)
  dsimp only
  refine wpAny_bind (wpAny_bind (wpAny_askSetting (wpAny_pure (wpAny_pure ?_))))
  dsimp only [model]
  refine wpAny_ite_split (fun hd => ?_) (fun hd => ?_)
  · -- drawn
    refine wpAny_bind (draw_perm es.size (List.range es.size) s _ (by simp) fun l' d hp => ?_)
    refine wpAny_bind (m := newTuple _) ?_
    unfold newTuple
    have hl : l'.length = es.size := by have := hp.length_eq; simpa using this
    refine wpAny_newObj_type ?_ (by
      show (List.map (fun (i : Nat) => rawInt i) l').toArray.size ≤ sizeLine
      rw [List.size_toArray, List.length_map, hl, sizeLine_eq]; have := ok.sz; lia)
    have hS1 : (s.heap.push { cls := .type "tuple", data := .seq (l'.map fun (i : Nat) => rawInt i).toArray }).get? S = some (setObj es ep t) := Heap.get?_push_of_some _ hS
    refine wpAny_bind (wpAny_setEpoch_of (s := { s with heap := s.heap.push _, drawn := d }) hS1 rfl ok.fit ?_)
    refine wpAny_bind (m := newFields _ _) ?_
    unfold newFields
    refine wpAny_newObj_type ?_ (by size_fits)
    have hT1 : ((s.heap.push { cls := .type "tuple", data := .seq (l'.map fun (i : Nat) => rawInt i).toArray }).push (itO (.ref s.heap.objs.size) 0 (.ref S) es.size ep)).get? s.heap.objs.size = some { cls := .type "tuple", data := .seq (l'.map fun (i : Nat) => rawInt i).toArray } :=
      Heap.get?_push_of_some _ (Heap.get?_push_size _ rfl)
    have hsz1 : (s.heap.push { cls := .type "tuple", data := .seq (l'.map fun (i : Nat) => rawInt i).toArray }).objs.size = s.heap.objs.size + 1 := Heap.size_push ..
    have hIg : ((s.heap.push { cls := .type "tuple", data := .seq (l'.map fun (i : Nat) => rawInt i).toArray }).push (itO (.ref s.heap.objs.size) 0 (.ref S) es.size ep)).get? (s.heap.push { cls := .type "tuple", data := .seq (l'.map fun (i : Nat) => rawInt i).toArray }).objs.size = some (itO (.ref s.heap.objs.size) 0 (.ref S) es.size ep) :=
      Heap.get?_push_size _ rfl
    refine wpAny_pure ⟨_, rfl, "set_iterator", _, ⟨_, hIg, rfl⟩, slot_si_next.lookup, ?_⟩
    refine k _ _ _ _ ((l'.filterMap fun j => es[j]?).map (·.2)) ?_ ?_ (.head _) ⟨fun b o e => Heap.get?_push_of_some _ (Heap.get?_push_of_some _ e), rfl, rfl⟩ ?_ ?_ (walk_drawn (T := s.heap.objs.size) (S := S) (places := l'.toArray) (t := t) (es := es) (ep := ep) hh ?_ ?_ ok.fit (by simpa using hp)) ⟨hIg, Heap.get?_push_of_some _ hS1, ⟨_, hT1, rfl, 0, ?_⟩⟩
    · rw [hsz1]; exact Nat.ne_of_gt (Nat.lt_succ_of_lt hlt)
    · intro b hb
      show b < ((s.heap.push _).push _).objs.size
      rw [Heap.size_push, hsz1]
      simp only [List.mem_cons, List.not_mem_nil, or_false] at hb
      rcases hb with rfl | rfl | rfl
      · rw [hsz1]; exact Nat.lt_succ_self _
      · exact Nat.lt_succ_of_lt (Nat.lt_succ_of_lt hlt)
      · exact Nat.lt_succ_of_lt (Nat.lt_succ_self _)
    · refine List.Perm.map _ ((hp.filterMap _).trans (List.Perm.of_eq ?_))
      exact filterMap_getElem?_range es
    · intro b hb
      simp only [List.mem_cons, List.not_mem_nil, or_false] at hb
      rcases hb with rfl | rfl | rfl
      · right
        rw [hsz1]
        cases q : s.heap.get? (s.heap.objs.size + 1) with
        | none => rfl
        | some o => exact absurd (Heap.lt_size q) (Nat.not_lt.mpr (Nat.le_succ _))
      · exact .inl rfl
      · exact .inr (size_none _)
    · rw [hsz1]; exact Nat.ne_of_lt (Nat.lt_succ_of_lt hlt)
    · rw [hsz1]; exact Nat.ne_of_lt (Nat.lt_succ_self _)
    · simp
  · -- as the table lies, or as the world's text says
    refine wpAny_bind (wpAny_pure ?_)
    refine wpAny_bind (wpAny_setEpoch_of hS rfl ok.fit ?_)
    refine wpAny_bind (m := newFields _ _) ?_
    unfold newFields
    refine wpAny_newObj_type ?_ (by size_fits)
    have hIg : (s.heap.push (itO (rawInt 0) 0 (.ref S) es.size ep)).get? s.heap.objs.size = some (itO (rawInt 0) 0 (.ref S) es.size ep) := Heap.get?_push_size _ rfl
    have hS1 : (s.heap.push (itO (rawInt 0) 0 (.ref S) es.size ep)).get? S = some (setObj es ep t) := Heap.get?_push_of_some _ hS
    refine wpAny_pure ⟨_, rfl, "set_iterator", _, ⟨_, hIg, rfl⟩, slot_si_next.lookup, ?_⟩
    have hfp : ∀ b ∈ [s.heap.objs.size, S], b < (s.heap.push (itO (rawInt 0) 0 (.ref S) es.size ep)).objs.size := fun b hb => by
      rw [Heap.size_push]
      simp only [List.mem_cons, List.not_mem_nil, or_false] at hb
      rcases hb with rfl | rfl
      · exact Nat.lt_succ_self _
      · exact Nat.lt_succ_of_lt hlt
    have hfr : ∀ b ∈ [s.heap.objs.size, S], b = S ∨ s.heap.get? b = none := fun b hb => by
      simp only [List.mem_cons, List.not_mem_nil, or_false] at hb
      rcases hb with rfl | rfl
      · exact .inr (size_none _)
      · exact .inl rfl
    cases ht : w.params.followText "set-order" with
    | true =>
      refine k _ _ _ _ ((pickOrder (w.params.setOrder S ep) es).toList.map (·.2)) (Nat.ne_of_gt hlt) hfp (.head _) ⟨fun b o e => Heap.get?_push_of_some _ e, rfl, rfl⟩ ((pick_perm _ _).map _) hfr (walk_text (t := t) hh ht (Nat.ne_of_lt hlt) ok.fit) ⟨hIg, hS1⟩
    | false =>
      have hled : t.led = true := by rw [ok.led]; unfold ledOf; rw [ht]; rfl
      have hle : es.size ≤ 1 := by
        rw [ht] at hd
        rcases ok.pl with e | e
        · lia
        · by_cases c : es.size ≤ 1
          · exact c
          · exact absurd (show (!false && (!t.plain && decide (es.size > 1))) = true by rw [e]; simp; lia) hd
      refine k _ _ _ _ (es.toList.map (·.2)) (Nat.ne_of_gt hlt) hfp (.head _) ⟨fun b o e => Heap.get?_push_of_some _ e, rfl, rfl⟩ (List.Perm.refl _) hfr (walk_one (t := t) hh ht (Nat.ne_of_lt hlt) ok.fit hle hled) ⟨hIg, hS1⟩

theorem hint_set {r : Addr} {Q : Bool → Shared → Prop} (hT : s.TypeIs (.ref r) "set") (h : Q false s) : wpAny (model prog w) A (Builtin.List.listLengthHint (.ref r)) Q E s := by
  unfold Builtin.List.listLengthHint
  refine wpAny_bind (wpAny_specialOf hT PySem.F.slot_set_len.lookup ?_)
  generalize hid : ("set.__len__" : String) = id0
  wp_delta
  rw [show splitId id0 = some ("set", "__len__") from by subst hid; decide +kernel]
  subst hid
  refine wpAny_bind (wpAny_isInstance (T := "set") (b := true) hT (by rw [isSubtype_type]; kernel_rfl) ?_)
  refine wpAny_ite_split (fun hab => absurd hab (by decide)) (fun _ => ?_)
  refine wpAny_ite_split (fun _ => ?_) (fun hab => absurd (by decide +kernel) hab)
  refine wpAny_bind (wpAny_typeOf hT ?_)
  exact wpAny_pure h

theorem set_collect (hh : A.handled = none) {S : Addr} {es : Array (Int × Value)} {ep : Nat} {t : SetTable} {R : List Value → Shared → Prop} (hS : s.heap.get? S = some (setObj es ep t)) (ok : SetOk prog w es t)
    (h : ∀ s' vals, Kept s s' → vals.Perm (es.toList.map (·.2)) → R vals s') : wpAny (model prog w) A (collect (.ref S)) R E s := by
  unfold collect
  refine wpAny_bind (wpAny_runValue (codeAny_builtin entry_proto_collect' ?_))
  rw [Around.under_plainId PySem.F.plain_proto_collect _]
  show wpAny _ A.in1 (newList [] >>= fun l => again (.builtin "list.__iadd__" ⟨[l, .ref S], []⟩)) _ _ s
  refine wpAny_bind (wpAny_newObj_type ?_)
  refine wpAny_pure ⟨plainId_quiet PySem.F.plain_list_iadd _, codeAny_builtin entry_list_iadd' ?_⟩
  rw [Around.under_plainId PySem.F.plain_list_iadd _]
  have hlt := Heap.lt_size hS
  have hL : (s.heap.push { cls := .type "list", data := .seq ([] : List Value).toArray }).get? s.heap.objs.size = some { cls := .type "list", data := .seq #[] } := Heap.get?_push_size _ rfl
  have hS1 : (s.heap.push { cls := .type "list", data := .seq ([] : List Value).toArray }).get? S = some (setObj es ep t) := Heap.get?_push_of_some _ hS
  have hsz : (s.heap.push { cls := .type "list", data := .seq ([] : List Value).toArray }).objs.size = s.heap.objs.size + 1 := Heap.size_push ..
  show wpAny _ A.in1 (Builtin.List.listExtendWith (.ref s.heap.objs.size) (.ref S) (.ref s.heap.objs.size)) _ _ _
  unfold Builtin.List.listExtendWith
  refine wpAny_bind (wpAny_typeOf (T := "set") ⟨_, hS1, rfl⟩ ?_)
  have h1 : Builtin.List.listSameRef (.ref s.heap.objs.size) (.ref S) = false := by
    simp only [Builtin.List.listSameRef, beq_eq_false_iff_ne]; exact Nat.ne_of_gt hlt
  rw [if_neg (by rw [h1]; decide)]
  refine wpAny_bind (set_iter (s := { s with heap := s.heap.push _ }) (A := A.in1) (A' := A.in1) hh hS1 ok fun I s' fp St vs hIS hfp hIf K hperm hIn W st => ?_)
  have hS' := K.keep _ _ hS1
  have hL' := K.keep _ _ hL
  refine wpAny_bind (wpAny_holding (hint_set ⟨_, hS', rfl⟩ ?_))
  have hLf : s.heap.objs.size ∉ fp := fun hm => by
    rcases hIn _ hm with e | e
    · exact Nat.ne_of_gt hlt e
    · rw [show (s.heap.push { cls := .type "list", data := .seq ([] : List Value).toArray }).get? s.heap.objs.size = none from e] at hL; cases hL
  have hn : es.size ≤ sizeLine := by rw [sizeLine_eq]; have := ok.sz; lia
  refine wpAny_ite_split (fun _ => ?_) (fun hab => absurd (by decide) hab)
  refine wpAny_bind (wpAny_rule ?_)
  refine wpAny_bind ?_
  show wpAny _ _ (updateSeq s.heap.objs.size (·.push .none) >>= fun _ => updateSeq s.heap.objs.size (·.pop)) _ _ _
  refine wpAny_bind (wpAny_updateSeq hL' rfl ?_)
  have hS₂ := Heap.get?_update_self (Obj.mapSeq (·.push Value.none)) hL' rfl
  refine wpAny_updateSeq (hz := by seq_fits) hS₂ rfl ?_
  have hS₃ := Heap.get?_update_self (Obj.mapSeq (·.pop)) hS₂ rfl
  have kk : ∀ b o, b ≠ s.heap.objs.size → s'.heap.get? b = some o → ((s'.heap.update s.heap.objs.size (Obj.mapSeq (·.push Value.none))).update s.heap.objs.size (Obj.mapSeq (·.pop))).get? b = some o := fun b o hb e =>
    (Heap.get?_update_other _ _ (Ne.symm hb)).trans ((Heap.get?_update_other _ _ (Ne.symm hb)).trans e)
  refine wpAny_pure ⟨plainId_quiet PySem.F.plain_extend_loop _, codeAny_extend_loopS W hn _ hLf _ es.size 0 _ #[] _ rfl (Nat.zero_le _) (W.frame 0 s' _ s'.toks st (Nat.le_refl _) fun b hb o e => kk b o (fun q => hLf (q ▸ hb)) e) hS₃ (ItemsOf.nil _) fun s₂ acc c hm hg hacc => ?_⟩
  show wpAny _ A (load s.heap.objs.size >>= _) _ _ _
  refine wpAny_bind (wpAny_load hg ?_)
  refine wpAny_pure (h _ _ ?_ ?_)
  · refine ⟨fun b o e => ?_, (show s'.gens = s₂.gens from hm.gens).symm.trans K.gens, (show s₂.os = s'.os from hm.os).trans K.os⟩
    have hbn : b ≠ s.heap.objs.size := Nat.ne_of_lt (Heap.lt_size e)
    have e1 : (s.heap.push { cls := .type "list", data := .seq ([] : List Value).toArray }).get? b = some o := Heap.get?_push_of_some _ e
    refine hm.heap b o (fun hb => ?_) (kk b o hbn (K.keep _ _ e1))
    rcases List.mem_cons.mp hb with q | hb
    · exact hbn q
    · rw [List.mem_singleton] at hb
      rcases hIn I hIf with q | q
      · exact hIS q
      · rw [← hb] at q
        rw [show (s.heap.push { cls := .type "list", data := .seq ([] : List Value).toArray }).get? b = none from q] at e1; cases e1
  · have hlen : vs.length = es.size := by have := hperm.length_eq; simpa using this
    have : acc.toList = vs := by
      refine List.ext_getElem? fun i => ?_
      by_cases hi : i < acc.size
      · have e := hacc.2 i acc[i] (Array.getElem?_eq_getElem hi)
        rw [e, Array.getElem?_toList, Array.getElem?_eq_getElem hi]
      · rw [List.getElem?_eq_none (by rw [Array.length_toList]; lia), List.getElem?_eq_none (by rw [hlen, ← hacc.1]; lia)]
    rw [this]; exact hperm
end
end Mine
namespace Mine
open PySem PySem.W PySem.Calls PyProof.Rows

theorem elems_strs {prog : Program} {w : World} : ∀ {l : List (Int × Value)}, ElemsOf (strKind prog w) l → StrsAre (l.map (·.2)) (l.map fun e => toS e.2)
  | [], _ => .nil
  | e :: l, h => by
    obtain ⟨t, ht⟩ := elem_str h (.head _)
    have ih := elems_strs h.tail
    rw [List.map_cons, List.map_cons, ht]
    exact .cons _ t ih
theorem strs_perm {vals vals' : List Value} {ss : List Str} (p : vals'.Perm vals) (h : StrsAre vals ss) : ∃ ss', StrsAre vals' ss' ∧ ss'.Perm ss := by
  have e : ∀ {v : List Value} {l : List Str}, StrsAre v l → v.map toS = l := by
    intro v l h
    induction h with
    | nil => rfl
    | cons x t _ ih => simp [toS, ih]
  have a : ∀ {v : List Value}, (∀ x ∈ v, ∃ t, x = .str (toS x) t) → StrsAre v (v.map toS) := by
    intro v
    induction v with
    | nil => intro _; exact .nil
    | cons x v ih =>
      intro h
      obtain ⟨t, ht⟩ := h x (.head _)
      rw [List.map_cons]
      have := ih fun y hy => h y (.tail _ hy)
      rw [ht]; exact .cons _ t this
  have b : ∀ {v : List Value} {l : List Str}, StrsAre v l → ∀ x ∈ v, ∃ t, x = .str (toS x) t := by
    intro v l h
    induction h with
    | nil => intro x hx; cases hx
    | cons y t _ ih =>
      intro x hx
      rcases List.mem_cons.mp hx with rfl | hx
      · exact ⟨t, rfl⟩
      · exact ih x hx
  refine ⟨vals'.map toS, a fun x hx => b h x (p.mem_iff.mp hx), ?_⟩
  rw [← e h]; exact p.map _

section
variable {g : Gl} {n : Nat} {sc : Scope} {nm : List Str}
/-- sorted(set(f)), f a list of texts out of a few -/
noncomputable def ssetK (Q : V → Hp → Prop) : List V → Hp → Prop
  | [.ref x], hp₁ => ∃ ss U : List Str, hp₁ x = some (.list (ss.map V.str)) ∧ (∀ y ∈ ss, y ∈ U) ∧ U.length < 60 ∧ ∀ D, hp₁ D = none → Q (.ref D) (hp₁.set D (.list ((uniq ss).map V.str)))
  | _, _ => False
noncomputable def cSSet (f : EV) : EV := fun ρ hp Q => cAll [f] ρ hp (ssetK Q)
theorem s_sset {x y : Str} {e : Expr} {f : EV} {np np' pos pos'} (hN : NameIs g x (.builtin "sorted")) (hN' : NameIs g y (.type "set")) (hx : sc.names.lookup x = some .globalImplicit) (hy : sc.names.lookup y = some .globalImplicit) (h : SoundE g n sc nm e f) (hpx : PlainX e)
    (hi : PlainX (.Call (.Name y np') [e] [] pos') := by exact fun _ _ => rfl)
    (he : ∀ env, eval (.Call (.Name x np) [.Call (.Name y np') [e] [] pos'] [] pos) env = (do callWith pos (← eval (.Name x np) env) [] (backTo pos (starEach [.Call (.Name y np') [e] [] pos'] env)) (backToKw pos (keywordEach [] env))) := by exact fun _ => rfl)
    (he' : ∀ env, eval (.Call (.Name y np') [e] [] pos') env = (do callWith pos' (← eval (.Name y np') env) [] (backTo pos' (starEach [e] env)) (backToKw pos' (keywordEach [] env))) := by exact fun _ => rfl) :
    SoundE g n sc nm (.Call (.Name x np) [.Call (.Name y np') [e] [] pos'] [] pos) (cSSet f) := fun a A env ρ hp s Q E Ok AO V R q => by
  refine Call_ (name_eval hN hx Ok V R ?_) (he env)
  have KX : g.K.In s.heap := let ⟨m, F⟩ := R.frm; Ok.kin.keeps F.keep
  refine callWith_any rfl KX ?_ (hi env []) rfl
  rw [hi env []]
  refine Calls.spliced_cons ?_
  refine call_eval (fs := [f]) hN' hy rfl (.cons h hpx .nil) he' Ok AO V R q fun vals vs hp₁ s₁ S₁ R₁ V₁ hv P => ?_
  unfold ssetK at P
  split at P
  · rename_i x
    obtain ⟨val, rfl, e1⟩ := vrs1 hv
    obtain rfl := vOf_ref e1
    obtain ⟨ss, U, hx, hU, hU2, q⟩ := P
    obtain ⟨ob, g1, g2⟩ := R₁.obj _ _ hx
    obtain ⟨items, hl, hr⟩ := IsList.of g1 g2
    refine call_set AO.hd hl.isList (VRs.strs hr) hU (by lia) fun h' tk hT hk => ?_
    obtain ⟨es, ep, t, ho, ok, hnd, hmem⟩ := hT
    have kp : ∀ b o, s₁.heap.get? b = some o → h'.get? b = some o := fun b o e => hk b o (Heap.lt_size e) e
    have R₂ := R₁.pushed (s' := { s₁ with heap := h', toks := tk }) kp rfl rfl
    have S₂ : Step [] hp s hp₁ { s₁ with heap := h', toks := tk } := S₁.trans (Step.kept kp rfl rfl)
    refine Calls.spliced_nil ⟨let ⟨m, F⟩ := R₂.frm; Ok.kin.keeps F.keep, ?_⟩
    have hlen : (strsOf es).length < 60 := Nat.lt_of_le_of_lt (nodup_sub hnd fun y hy => hU y ((hmem y).mp hy)) hU2
    show wpAny g.M A (call (.builtin "sorted") [.ref s₁.heap.objs.size]) _ E _
    refine sorted_collect (ss := strsOf es) (by lia) (fun R' k => ?_) fun s' D out e' K hlt hD hS => EPost.comp S₂ (sorted_post (ss := uniq ss) R₂ Ok q K hlt hD ?_)
    · refine set_collect (A := A.in1) AO.hd ho ok fun s' vals K hp => ?_
      obtain ⟨ss', h1, h2⟩ := strs_perm hp (elems_strs ok.el)
      exact k s' vals ss' K h1 h2
    · rw [show uniq ss = srt (strsOf es) from ?_]
      · exact hS
      · refine (uniq_unique (srt_pair _) ((srt_perm _).nodup_iff.mpr hnd) fun y => ?_).symm
        rw [mem_srt, hmem]
  · exact P.elim
end
end Mine
namespace Mine
open PySem PySem.W PySem.Calls PyProof.Rows

/-! ## the text's own defs, by projection -/
noncomputable abbrev rr := Challenge.rw_pb0335_01.row
noncomputable abbrev pw : Program := Challenge.pw_pb0335_01
noncomputable def stmtAt (i : Nat) : Stmt := (pw.main.body[i]?).getD (.Pass default)
noncomputable def defRec : Stmt → DefRec
  | .FunctionDef name args body _ _ _ scope _ _ pos => ⟨name, args, body, scope, pos⟩
  | _ => ⟨"", default, [], default, default⟩
noncomputable def clsBody : Stmt → List Stmt
  | .ClassDef _ _ _ body _ _ _ _ _ _ _ => body
  | _ => []
noncomputable def fd_token_of : DefRec := defRec (stmtAt 2)
noncomputable def fd_is_token : DefRec := defRec (stmtAt 3)
noncomputable def fd_merge : DefRec := defRec (stmtAt 4)
noncomputable def fd_may_be_empty : DefRec := defRec (stmtAt 6)
noncomputable def fd_empty_rules : DefRec := defRec (stmtAt 7)
noncomputable def fd_first_of : DefRec := defRec (stmtAt 8)
noncomputable def fd_first_rows : DefRec := defRec (stmtAt 9)
noncomputable def fd_follow_rows : DefRec := defRec (stmtAt 10)
noncomputable def fd_add_follows : DefRec := defRec (stmtAt 11)
noncomputable def fd_parts : DefRec := defRec (stmtAt 12)
noncomputable def fd_shared : DefRec := defRec (stmtAt 13)
noncomputable def fd_conflicts : DefRec := defRec (stmtAt 14)
noncomputable def fd_find_conflicts : DefRec := defRec (stmtAt 15)
noncomputable def fd_add_alternatives : DefRec := defRec (stmtAt 16)
noncomputable def fd__law_stock : DefRec := defRec (stmtAt 18)
noncomputable def fd__law_pick : DefRec := defRec (stmtAt 19)
noncomputable def fd__law_tree : DefRec := defRec (stmtAt 20)
noncomputable def fd__law_hollow : DefRec := defRec (stmtAt 21)
noncomputable def fd__law_none : DefRec := defRec (stmtAt 22)
noncomputable def fd__law_heads : DefRec := defRec (stmtAt 23)
noncomputable def fd__law_front : DefRec := defRec (stmtAt 24)
noncomputable def fd__law_ahead : DefRec := defRec (stmtAt 25)
noncomputable def fd__law_walk : DefRec := defRec (stmtAt 26)
noncomputable def fd__law_after : DefRec := defRec (stmtAt 27)
noncomputable def fd__law_quarrels : DefRec := defRec (stmtAt 28)
noncomputable def fd_law : DefRec := defRec (stmtAt 29)
noncomputable def fd_Grammar___init__ : DefRec := defRec (((clsBody (stmtAt 5))[0]?).getD (.Pass default))
noncomputable def fd_Grammar_nullable : DefRec := defRec (((clsBody (stmtAt 5))[1]?).getD (.Pass default))
noncomputable def fd_Grammar_first : DefRec := defRec (((clsBody (stmtAt 5))[2]?).getD (.Pass default))
noncomputable def fd_Grammar_predict : DefRec := defRec (((clsBody (stmtAt 5))[3]?).getD (.Pass default))

noncomputable def kE (P : Params) (k : Str) (t : Nat) (v : Value) : DictEntry := { hash := PyData.keyHash P k, key := .str k t, val := v }
noncomputable def kFn (d : DefRec) (q m : Str) (t c : Nat) : Obj := { cls := .type "function", data := .func { name := d.name, qualname := q, params := d.params, body := .stmts d.body, scope := d.scope, globals := 3, closure := [], defaults := .none, kwdefaults := .none, pyModule := .str m t, code := .ref c } }
/-- the part of the heap behind the top that the walk reads; printed by wip/genK.py -/
noncomputable def K (P : Params) : Frag := [
  (3, { cls := .type "dict", data := .dict #[kE P "__name__" 165 (.str ("law_pb0335_01") 401), kE P "__doc__" 166 .none, kE P "__package__" 167 .none, kE P "__loader__" 168 (.builtin "__main__.__loader__#opaque"), kE P "__spec__" 169 .none, kE P "__annotations__" 170 (.ref 6), kE P "__builtins__" 171 (.ref 4), kE P "__file__" 173 (.str ("/claim/cut.py") 172), kE P "__cached__" 174 .none, kE P "END" 190 (.str ("eof") 189), kE P "token_of" 198 (.ref 21), kE P "is_token" 206 (.ref 28), kE P "merge" 216 (.ref 35), kE P "Grammar" 279 (.ref 73), kE P "may_be_empty" 290 (.ref 84), kE P "empty_rules" 301 (.ref 91), kE P "first_of" 314 (.ref 98), kE P "first_rows" 326 (.ref 105), kE P "follow_rows" 336 (.ref 112), kE P "add_follows" 350 (.ref 119), kE P "parts" 362 (.ref 126), kE P "shared" 368 (.ref 131), kE P "conflicts" 377 (.ref 138), kE P "find_conflicts" 394 (.ref 145), kE P "add_alternatives" 400 (.ref 150), kE P "_law_stock" 413 (.ref 157), kE P "_law_pick" 421 (.ref 164), kE P "_law_tree" 431 (.ref 171), kE P "_law_hollow" 437 (.ref 176), kE P "_law_none" 443 (.ref 181), kE P "_law_heads" 457 (.ref 188), kE P "_law_front" 472 (.ref 195), kE P "_law_ahead" 482 (.ref 202), kE P "_law_walk" 496 (.ref 209), kE P "_law_after" 508 (.ref 216), kE P "_law_quarrels" 514 (.ref 221), kE P "law" 534 (.ref 228)] 37 }),
  (20, { cls := .type "code", data := .fields #[(.str ("token_of") 191), (.str ("token_of") 192), (.str ("/claim/cut.py") 193), (.int 3 0), (.int 2 0), (.int 0 0), (.int 0 0), (.int 3 0), (.ref 15), (.bool true), (.int 181 0), (.ref 16), .none, (.ref 17), (.ref 18), (.ref 19), (.int 196 0), (.int 3 0), (.str ("/claim/cut.py") 197)] }),
  (21, kFn fd_token_of "token_of" "moduleyard.firsts" 187 20),
  (27, { cls := .type "code", data := .fields #[(.str ("is_token") 199), (.str ("is_token") 200), (.str ("/claim/cut.py") 201), (.int 9 0), (.int 2 0), (.int 0 0), (.int 0 0), (.int 3 0), (.ref 22), (.bool true), (.int 181 0), (.ref 23), .none, (.ref 24), (.ref 25), (.ref 26), (.int 204 0), (.int 9 0), (.str ("/claim/cut.py") 205)] }),
  (28, kFn fd_is_token "is_token" "moduleyard.firsts" 187 27),
  (34, { cls := .type "code", data := .fields #[(.str ("merge") 207), (.str ("merge") 208), (.str ("/claim/cut.py") 209), (.int 11 0), (.int 2 0), (.int 0 0), (.int 0 0), (.int 3 0), (.ref 29), (.bool true), (.int 181 0), (.ref 30), .none, (.ref 31), (.ref 32), (.ref 33), (.int 214 0), (.int 11 0), (.str ("/claim/cut.py") 215)] }),
  (35, kFn fd_merge "merge" "moduleyard.firsts" 187 34),
  (48, { cls := .type "code", data := .fields #[(.str ("__init__") 229), (.str ("Grammar.__init__") 230), (.str ("/claim/cut.py") 231), (.int 18 0), (.int 3 0), (.int 0 0), (.int 0 0), (.int 3 0), (.ref 43), (.bool true), (.int 181 0), (.ref 44), .none, (.ref 45), (.ref 46), (.ref 47), (.int 237 0), (.int 18 0), (.str ("/claim/cut.py") 238)] }),
  (49, kFn fd_Grammar___init__ "Grammar.__init__" "moduleyard.firsts" 187 48),
  (55, { cls := .type "code", data := .fields #[(.str ("nullable") 240), (.str ("Grammar.nullable") 241), (.str ("/claim/cut.py") 242), (.int 30 0), (.int 2 0), (.int 0 0), (.int 0 0), (.int 3 0), (.ref 50), (.bool true), (.int 181 0), (.ref 51), .none, (.ref 52), (.ref 53), (.ref 54), (.int 245 0), (.int 30 0), (.str ("/claim/cut.py") 246)] }),
  (56, kFn fd_Grammar_nullable "Grammar.nullable" "moduleyard.firsts" 187 55),
  (62, { cls := .type "code", data := .fields #[(.str ("first") 248), (.str ("Grammar.first") 249), (.str ("/claim/cut.py") 250), (.int 33 0), (.int 2 0), (.int 0 0), (.int 0 0), (.int 3 0), (.ref 57), (.bool true), (.int 181 0), (.ref 58), .none, (.ref 59), (.ref 60), (.ref 61), (.int 253 0), (.int 33 0), (.str ("/claim/cut.py") 254)] }),
  (63, kFn fd_Grammar_first "Grammar.first" "moduleyard.firsts" 187 62),
  (69, { cls := .type "code", data := .fields #[(.str ("predict") 256), (.str ("Grammar.predict") 257), (.str ("/claim/cut.py") 258), (.int 36 0), (.int 3 0), (.int 0 0), (.int 0 0), (.int 3 0), (.ref 64), (.bool true), (.int 181 0), (.ref 65), .none, (.ref 66), (.ref 67), (.ref 68), (.int 263 0), (.int 36 0), (.str ("/claim/cut.py") 264)] }),
  (70, kFn fd_Grammar_predict "Grammar.predict" "moduleyard.firsts" 187 69),
  (72, { cls := .type "dict", data := .dict #[kE P "__module__" 224 (.str ("moduleyard.firsts") 187), kE P "__firstlineno__" 228 (.int 16 227), kE P "__init__" 239 (.ref 49), kE P "nullable" 247 (.ref 56), kE P "first" 255 (.ref 63), kE P "predict" 265 (.ref 70), kE P "__static_attributes__" 272 (.ref 71), kE P "__dict__" 274 (.ref 74), kE P "__weakref__" 276 (.ref 75), kE P "__doc__" 277 .none] 4 }),
  (73, { cls := .type "type", data := .cls { name := "Grammar", bases := [.type "object"], mro := [.ref 73, .type "object"], ns := 72, qualname := "Grammar" }, slots := #[none, none, some (.str "Grammar" 217), some (.str "Grammar" 225), some (.builtin "object.__new__"), some (.bool true)] }),
  (83, { cls := .type "code", data := .fields #[(.str ("may_be_empty") 280), (.str ("may_be_empty") 281), (.str ("/claim/cut.py") 282), (.int 41 0), (.int 3 0), (.int 0 0), (.int 0 0), (.int 3 0), (.ref 78), (.bool true), (.int 181 0), (.ref 79), .none, (.ref 80), (.ref 81), (.ref 82), (.int 288 0), (.int 41 0), (.str ("/claim/cut.py") 289)] }),
  (84, kFn fd_may_be_empty "may_be_empty" "moduleyard.firsts" 187 83),
  (90, { cls := .type "code", data := .fields #[(.str ("empty_rules") 291), (.str ("empty_rules") 292), (.str ("/claim/cut.py") 293), (.int 56 0), (.int 2 0), (.int 0 0), (.int 0 0), (.int 3 0), (.ref 85), (.bool true), (.int 181 0), (.ref 86), .none, (.ref 87), (.ref 88), (.ref 89), (.int 299 0), (.int 56 0), (.str ("/claim/cut.py") 300)] }),
  (91, kFn fd_empty_rules "empty_rules" "moduleyard.firsts" 187 90),
  (97, { cls := .type "code", data := .fields #[(.str ("first_of") 302), (.str ("first_of") 303), (.str ("/claim/cut.py") 304), (.int 66 0), (.int 4 0), (.int 0 0), (.int 0 0), (.int 3 0), (.ref 92), (.bool true), (.int 181 0), (.ref 93), .none, (.ref 94), (.ref 95), (.ref 96), (.int 312 0), (.int 66 0), (.str ("/claim/cut.py") 313)] }),
  (98, kFn fd_first_of "first_of" "moduleyard.firsts" 187 97),
  (104, { cls := .type "code", data := .fields #[(.str ("first_rows") 315), (.str ("first_rows") 316), (.str ("/claim/cut.py") 317), (.int 80 0), (.int 3 0), (.int 0 0), (.int 0 0), (.int 3 0), (.ref 99), (.bool true), (.int 181 0), (.ref 100), .none, (.ref 101), (.ref 102), (.ref 103), (.int 324 0), (.int 80 0), (.str ("/claim/cut.py") 325)] }),
  (105, kFn fd_first_rows "first_rows" "moduleyard.firsts" 187 104),
  (111, { cls := .type "code", data := .fields #[(.str ("follow_rows") 327), (.str ("follow_rows") 328), (.str ("/claim/cut.py") 329), (.int 91 0), (.int 1 0), (.int 0 0), (.int 0 0), (.int 3 0), (.ref 106), (.bool true), (.int 181 0), (.ref 107), .none, (.ref 108), (.ref 109), (.ref 110), (.int 334 0), (.int 91 0), (.str ("/claim/cut.py") 335)] }),
  (112, kFn fd_follow_rows "follow_rows" "moduleyard.firsts" 187 111),
  (118, { cls := .type "code", data := .fields #[(.str ("add_follows") 337), (.str ("add_follows") 338), (.str ("/claim/cut.py") 339), (.int 104 0), (.int 4 0), (.int 0 0), (.int 0 0), (.int 3 0), (.ref 113), (.bool true), (.int 181 0), (.ref 114), .none, (.ref 115), (.ref 116), (.ref 117), (.int 348 0), (.int 104 0), (.str ("/claim/cut.py") 349)] }),
  (119, kFn fd_add_follows "add_follows" "moduleyard.firsts" 187 118),
  (125, { cls := .type "code", data := .fields #[(.str ("parts") 351), (.str ("parts") 352), (.str ("/claim/cut.py") 353), (.int 121 0), (.int 3 0), (.int 0 0), (.int 0 0), (.int 3 0), (.ref 120), (.bool true), (.int 181 0), (.ref 121), .none, (.ref 122), (.ref 123), (.ref 124), (.int 360 0), (.int 121 0), (.str ("/claim/cut.py") 361)] }),
  (126, kFn fd_parts "parts" "moduleyard.firsts" 187 125),
  (130, { cls := .type "code", data := .fields #[(.str ("shared") 363), (.str ("shared") 364), (.str ("/claim/cut.py") 365), (.int 130 0), (.int 2 0), (.int 0 0), (.int 0 0), (.int 3 0), (.ref 127), (.bool true), (.int 181 0), (.ref 128), .none, .none, .none, (.ref 129), (.int 366 0), (.int 130 0), (.str ("/claim/cut.py") 367)] }),
  (131, kFn fd_shared "shared" "moduleyard.firsts" 187 130),
  (137, { cls := .type "code", data := .fields #[(.str ("conflicts") 369), (.str ("conflicts") 370), (.str ("/claim/cut.py") 371), (.int 132 0), (.int 1 0), (.int 0 0), (.int 0 0), (.int 3 0), (.ref 132), (.bool true), (.int 181 0), (.ref 133), .none, (.ref 134), (.ref 135), (.ref 136), (.int 375 0), (.int 132 0), (.str ("/claim/cut.py") 376)] }),
  (138, kFn fd_conflicts "conflicts" "moduleyard.firsts" 187 137),
  (144, { cls := .type "code", data := .fields #[(.str ("find_conflicts") 378), (.str ("find_conflicts") 379), (.str ("/claim/cut.py") 380), (.int 137 0), (.int 5 0), (.int 0 0), (.int 0 0), (.int 3 0), (.ref 139), (.bool true), (.int 181 0), (.ref 140), .none, (.ref 141), (.ref 142), (.ref 143), (.int 392 0), (.int 137 0), (.str ("/claim/cut.py") 393)] }),
  (145, kFn fd_find_conflicts "find_conflicts" "moduleyard.firsts" 187 144),
  (149, { cls := .type "code", data := .fields #[(.str ("add_alternatives") 395), (.str ("add_alternatives") 396), (.str ("/claim/cut.py") 397), (.int 158 0), (.int 5 0), (.int 0 0), (.int 0 0), (.int 3 0), (.ref 146), (.bool true), (.int 181 0), (.ref 147), .none, .none, .none, (.ref 148), (.int 398 0), (.int 158 0), (.str ("/claim/cut.py") 399)] }),
  (150, kFn fd_add_alternatives "add_alternatives" "moduleyard.firsts" 187 149),
  (156, { cls := .type "code", data := .fields #[(.str ("_law_stock") 403), (.str ("_law_stock") 404), (.str ("/claim/cut.py") 405), (.int 166 0), (.int 1 0), (.int 0 0), (.int 0 0), (.int 3 0), (.ref 151), (.bool true), (.int 181 0), (.ref 152), .none, (.ref 153), (.ref 154), (.ref 155), (.int 411 0), (.int 166 0), (.str ("/claim/cut.py") 412)] }),
  (157, kFn fd__law_stock "_law_stock" "law_pb0335_01" 401 156),
  (163, { cls := .type "code", data := .fields #[(.str ("_law_pick") 414), (.str ("_law_pick") 415), (.str ("/claim/cut.py") 416), (.int 180 0), (.int 2 0), (.int 0 0), (.int 0 0), (.int 3 0), (.ref 158), (.bool true), (.int 181 0), (.ref 159), .none, (.ref 160), (.ref 161), (.ref 162), (.int 419 0), (.int 180 0), (.str ("/claim/cut.py") 420)] }),
  (164, kFn fd__law_pick "_law_pick" "law_pb0335_01" 401 163),
  (170, { cls := .type "code", data := .fields #[(.str ("_law_tree") 422), (.str ("_law_tree") 423), (.str ("/claim/cut.py") 424), (.int 186 0), (.int 3 0), (.int 0 0), (.int 0 0), (.int 3 0), (.ref 165), (.bool true), (.int 181 0), (.ref 166), .none, (.ref 167), (.ref 168), (.ref 169), (.int 429 0), (.int 186 0), (.str ("/claim/cut.py") 430)] }),
  (171, kFn fd__law_tree "_law_tree" "law_pb0335_01" 401 170),
  (175, { cls := .type "code", data := .fields #[(.str ("_law_hollow") 432), (.str ("_law_hollow") 433), (.str ("/claim/cut.py") 434), (.int 198 0), (.int 3 0), (.int 0 0), (.int 0 0), (.int 3 0), (.ref 172), (.bool true), (.int 181 0), (.ref 173), .none, .none, .none, (.ref 174), (.int 435 0), (.int 198 0), (.str ("/claim/cut.py") 436)] }),
  (176, kFn fd__law_hollow "_law_hollow" "law_pb0335_01" 401 175),
  (180, { cls := .type "code", data := .fields #[(.str ("_law_none") 438), (.str ("_law_none") 439), (.str ("/claim/cut.py") 440), (.int 207 0), (.int 2 0), (.int 0 0), (.int 0 0), (.int 3 0), (.ref 177), (.bool true), (.int 181 0), (.ref 178), .none, .none, .none, (.ref 179), (.int 441 0), (.int 207 0), (.str ("/claim/cut.py") 442)] }),
  (181, kFn fd__law_none "_law_none" "law_pb0335_01" 401 180),
  (187, { cls := .type "code", data := .fields #[(.str ("_law_heads") 444), (.str ("_law_heads") 445), (.str ("/claim/cut.py") 446), (.int 215 0), (.int 4 0), (.int 0 0), (.int 0 0), (.int 3 0), (.ref 182), (.bool true), (.int 181 0), (.ref 183), .none, (.ref 184), (.ref 185), (.ref 186), (.int 455 0), (.int 215 0), (.str ("/claim/cut.py") 456)] }),
  (188, kFn fd__law_heads "_law_heads" "law_pb0335_01" 401 187),
  (194, { cls := .type "code", data := .fields #[(.str ("_law_front") 458), (.str ("_law_front") 459), (.str ("/claim/cut.py") 460), (.int 229 0), (.int 2 0), (.int 0 0), (.int 0 0), (.int 3 0), (.ref 189), (.bool true), (.int 181 0), (.ref 190), .none, (.ref 191), (.ref 192), (.ref 193), (.int 470 0), (.int 229 0), (.str ("/claim/cut.py") 471)] }),
  (195, kFn fd__law_front "_law_front" "law_pb0335_01" 401 194),
  (201, { cls := .type "code", data := .fields #[(.str ("_law_ahead") 473), (.str ("_law_ahead") 474), (.str ("/claim/cut.py") 475), (.int 244 0), (.int 3 0), (.int 0 0), (.int 0 0), (.int 3 0), (.ref 196), (.bool true), (.int 181 0), (.ref 197), .none, (.ref 198), (.ref 199), (.ref 200), (.int 480 0), (.int 244 0), (.str ("/claim/cut.py") 481)] }),
  (202, kFn fd__law_ahead "_law_ahead" "law_pb0335_01" 401 201),
  (208, { cls := .type "code", data := .fields #[(.str ("_law_walk") 483), (.str ("_law_walk") 484), (.str ("/claim/cut.py") 485), (.int 247 0), (.int 4 0), (.int 0 0), (.int 0 0), (.int 3 0), (.ref 203), (.bool true), (.int 181 0), (.ref 204), .none, (.ref 205), (.ref 206), (.ref 207), (.int 494 0), (.int 247 0), (.str ("/claim/cut.py") 495)] }),
  (209, kFn fd__law_walk "_law_walk" "law_pb0335_01" 401 208),
  (215, { cls := .type "code", data := .fields #[(.str ("_law_after") 497), (.str ("_law_after") 498), (.str ("/claim/cut.py") 499), (.int 262 0), (.int 1 0), (.int 0 0), (.int 0 0), (.int 3 0), (.ref 210), (.bool true), (.int 181 0), (.ref 211), .none, (.ref 212), (.ref 213), (.ref 214), (.int 506 0), (.int 262 0), (.str ("/claim/cut.py") 507)] }),
  (216, kFn fd__law_after "_law_after" "law_pb0335_01" 401 215),
  (220, { cls := .type "code", data := .fields #[(.str ("_law_quarrels") 509), (.str ("_law_quarrels") 510), (.str ("/claim/cut.py") 511), (.int 276 0), (.int 5 0), (.int 0 0), (.int 0 0), (.int 3 0), (.ref 217), (.bool true), (.int 181 0), (.ref 218), .none, .none, .none, (.ref 219), (.int 512 0), (.int 276 0), (.str ("/claim/cut.py") 513)] }),
  (221, kFn fd__law_quarrels "_law_quarrels" "law_pb0335_01" 401 220),
  (227, { cls := .type "code", data := .fields #[(.str ("law") 515), (.str ("law") 516), (.str ("/claim/cut.py") 517), (.int 298 0), (.int 1 0), (.int 0 0), (.int 0 0), (.int 3 0), (.ref 222), (.bool true), (.int 181 0), (.ref 223), .none, (.ref 224), (.ref 225), (.ref 226), (.int 532 0), (.int 298 0), (.str ("/claim/cut.py") 533)] }),
  (228, kFn fd_law "law" "law_pb0335_01" 401 227)]

noncomputable def addrs : List Addr := [3, 20, 21, 27, 28, 34, 35, 48, 49, 55, 56, 62, 63, 69, 70, 72, 73, 83, 84, 90, 91, 97, 98, 104, 105, 111, 112, 118, 119, 125, 126, 130, 131, 137, 138, 144, 145, 149, 150, 156, 157, 163, 164, 170, 171, 175, 176, 180, 181, 187, 188, 194, 195, 201, 202, 208, 209, 215, 216, 220, 221, 227, 228]
theorem k_addrs : ∀ P, addrs = (K P).map (·.1) := fun _ => by kernel_rfl
noncomputable def view : Program := { pw with main := { pw.main with body := (pw.main.body.drop 1).take 16 ++ pw.main.body.drop 18 } }
noncomputable abbrev HK : Hook := kHook K addrs k_addrs
theorem hl : LeftO rr.prog view [] (fun s => xlAt view [] s && recOk (RowW.records rr.toRowW) s) HK.obs HK.val 2518 := fun w => by kernel_rfl
theorem said : Challenge.rw_pb0335_01.wellSaid = true := by
  unfold OpenLaw.wellSaid OpenRow.wellSaid OpenRow.partSaid looksOpen
  repeat' with_reducible refine look_both ?_ ?_
  all_goals decide +kernel
end Mine
namespace Mine
open PySem PySem.W PySem.Calls PyProof.Rows

/-! ## shorter words for the soundness of the text's defs -/
noncomputable def kOk (sc : Scope) (loc gl : List Str) : Bool := (loc.all fun x => !(x == ("__debug__" : Str)) && (sc.names.lookup x == some .local || sc.names.lookup x == some .cell)) && gl.all fun x => sc.names.lookup x == some .globalImplicit
section
variable {g : Gl} {n : Nat} {sc : Scope} {nm loc gl : List Str} (K : kOk sc loc gl = true)
include K
theorem kL {i : Nat} {x : Str} (h : loc[i]? = some x) : (x == ("__debug__" : Str)) = false ∧ (sc.names.lookup x = some .local ∨ sc.names.lookup x = some .cell) := by
  unfold kOk at K
  rw [Bool.and_eq_true, List.all_eq_true, List.all_eq_true] at K
  have := K.1 x (List.mem_of_getElem? h)
  rw [Bool.and_eq_true, Bool.or_eq_true] at this
  exact ⟨by simpa using this.1, this.2.imp (fun e => by simpa using e) fun e => by simpa using e⟩
theorem kN {i : Nat} {x : Str} (h : loc[i]? = some x) : sc.names.lookup x = some .local ∨ sc.names.lookup x = some .cell := (kL K h).2
theorem kG {x : Str} (h : (gl.contains x) = true) : sc.names.lookup x = some .globalImplicit := by
  unfold kOk at K
  rw [Bool.and_eq_true, List.all_eq_true, List.all_eq_true] at K
  have := K.2 x (List.contains_iff_mem.mp h)
  simpa using this
theorem nmE {i j : Nat} {x : Str} {pos : Pos} (hj : loc[j]? = some x) (hi : nm[i]? = some x) : SoundE g n sc nm (.Name x pos) (cV i) := s_name (kL K hj).1 hi (kL K hj).2
theorem iaddS {i j : Nat} {x : Str} {e : Expr} {f : EV} {xp pos : Pos} (hj : loc[j]? = some x) (hi : nm[i]? = some x) (h : SoundE g n sc nm e f) : SoundS g n sc nm (.AugAssign (.Name x xp) .Add e pos) (sIAdd i f) := st_iadd (kL K hj).1 hi (kL K hj).2 h
end
theorem st_nameC {g : Gl} {n : Nat} {sc : Scope} {nm : List Str} {i : Nat} {x : Str} {f : EV} {value px pos} (h : SoundE g n sc nm value f) (hi : nm[i]? = some x) (hk : sc.names.lookup x = some .local ∨ sc.names.lookup x = some .cell)
    (hs : ∀ env : Env, env.scope = sc → swapsWith value (some (.Name x px)) pos.line env = pure false) : SoundS g n sc nm (.Assign [.Name x px] value pos) (sAsg (tName i) f) := fun a A ρ hp s N R E Ok AO FO V Rp q => by
  refine wpAny_Assign_Name (wpAny_mono (h a A a.fenv ρ hp s _ E Ok AO V Rp q) (fun val s₁ q => ?_) fun _ _ x => x) (hs _ V.hsc)
  obtain ⟨v, hp₁, S₁, O₁, e₁, q⟩ := q
  refine wpAny_mono (store_ok Ok FO (V.step S₁) (Rp.step S₁ O₁) hi hk e₁) (fun _ s₂ r => ?_) fun _ _ x => x
  exact ⟨_, hp₁, S₁.weaken.trans r.1, r.2.1, r.2.2, q⟩
/-- swaps, for a comprehension's value -/
noncomputable def swOf (sc scope : Scope) (x : Str) (px pos : Pos) : Bool :=
  (if sc.kind.isAnnotationScope then ScopeKind.function else sc.kind) == .function && sc.names.lookup x == some .local && px.line == pos.line && !(scope.names.any fun (n, k) => n == x && (k == .local || k == .cell))
theorem swaps_is {sc scope : Scope} {x : Str} {px pos : Pos} {elt : Expr} {gens : List Comprehension} {line : Nat} {b : Bool} (h : swOf sc scope x px pos = b) : ∀ env : Env, env.scope = sc → swapsWith (.ListComp elt gens scope pos) (some (.Name x px)) line env = pure b := fun env e => by
  subst e h
  rfl

structure GOk (g : Gl) : Prop where
  hK : g.K = Mine.K g.w.params
  hC : g.cls = 73
section
variable {g : Gl} (G : GOk g)
include G
theorem ClsOk.of : ClsOk g := by
  refine ⟨?_, ?_, ?_, ?_, ?_, ?_⟩ <;> rw [G.hK, G.hC] <;> kernel_rfl
theorem noAttr {name : Str} (h : ∀ P, findIn (Mine.K P) (.ref 73) name = some none) : findIn g.K (.ref g.cls) name = some none := by rw [G.hK, G.hC]; exact h _
theorem meth {name : Str} {fa : Addr} (h : ∀ P, findIn (Mine.K P) (.ref 73) name = some (some (.ref fa))) : findIn g.K (.ref g.cls) name = some (some (.ref fa)) := by rw [G.hK, G.hC]; exact h _
theorem isFun {fa : Addr} (h : ∀ P, typeIn (Mine.K P) (.ref fa) = some (.type "function")) : typeIn g.K (.ref fa) = some (.type "function") := by rw [G.hK]; exact h _
theorem kept {v : Value} (h : ∀ P, keepOk (Mine.K P) v = true) : keepOk g.K v = true := by rw [G.hK]; exact h _
theorem keptI {v : Value} (h : ∀ P, keepIn (Mine.K P) v = true) : keepIn g.K v = true := by rw [G.hK]; exact h _
theorem named {x : Str} {v : Value} (h : ∀ P, nsIn (Mine.K P) mainGlobals x = some (some v)) (hd : (x == ("__debug__" : Str)) = false) : NameIs g x v := ⟨.inl (by rw [G.hK]; exact h _), hd⟩
theorem builtIn {x : Str} {v : Value} (h : ∀ P, nsIn (Mine.K P) mainGlobals x = some none) (hb : bootBuiltins x = some v) (hn : x ≠ "__name__") (hd : (x == ("__debug__" : Str)) = false) : NameIs g x v := ⟨.inr ⟨by rw [G.hK]; exact h _, hb, hn⟩, hd⟩
end
end Mine
set_option maxHeartbeats 4000000
namespace Mine
open PySem PySem.W PySem.Calls PyProof.Rows
/-! printed by wip/genB.py -/
inductive FId where
  | token_of | is_token | merge | g_init | g_nullable | g_first | g_predict | may_be_empty | empty_rules | first_of | first_rows | follow_rows | add_follows | parts | shared | conflicts | find_conflicts | add_alternatives | l_stock | l_pick | l_tree | l_hollow | l_none | l_heads | l_front | l_ahead | l_walk | l_after | l_quarrels | law | g_new
noncomputable abbrev FT := FId → Op
noncomputable def fv : FId → Value
  | .token_of => .ref 21
  | .is_token => .ref 28
  | .merge => .ref 35
  | .g_init => .ref 49
  | .g_nullable => .ref 56
  | .g_first => .ref 63
  | .g_predict => .ref 70
  | .may_be_empty => .ref 84
  | .empty_rules => .ref 91
  | .first_of => .ref 98
  | .first_rows => .ref 105
  | .follow_rows => .ref 112
  | .add_follows => .ref 119
  | .parts => .ref 126
  | .shared => .ref 131
  | .conflicts => .ref 138
  | .find_conflicts => .ref 145
  | .add_alternatives => .ref 150
  | .l_stock => .ref 157
  | .l_pick => .ref 164
  | .l_tree => .ref 171
  | .l_hollow => .ref 176
  | .l_none => .ref 181
  | .l_heads => .ref 188
  | .l_front => .ref 195
  | .l_ahead => .ref 202
  | .l_walk => .ref 209
  | .l_after => .ref 216
  | .l_quarrels => .ref 221
  | .law => .ref 228
  | .g_new => .ref 73
section
variable {g : Gl} (G : GOk g)
include G
theorem n_END : NameIs g "END" (.str "eof" 189) := named G (fun _ => by kernel_rfl) (by decide +kernel)
theorem n_Grammar : NameIs g "Grammar" (.ref 73) := named G (fun _ => by kernel_rfl) (by decide +kernel)
theorem n__law_after : NameIs g "_law_after" (.ref 216) := named G (fun _ => by kernel_rfl) (by decide +kernel)
theorem n__law_ahead : NameIs g "_law_ahead" (.ref 202) := named G (fun _ => by kernel_rfl) (by decide +kernel)
theorem n__law_front : NameIs g "_law_front" (.ref 195) := named G (fun _ => by kernel_rfl) (by decide +kernel)
theorem n__law_heads : NameIs g "_law_heads" (.ref 188) := named G (fun _ => by kernel_rfl) (by decide +kernel)
theorem n__law_hollow : NameIs g "_law_hollow" (.ref 176) := named G (fun _ => by kernel_rfl) (by decide +kernel)
theorem n__law_none : NameIs g "_law_none" (.ref 181) := named G (fun _ => by kernel_rfl) (by decide +kernel)
theorem n__law_pick : NameIs g "_law_pick" (.ref 164) := named G (fun _ => by kernel_rfl) (by decide +kernel)
theorem n__law_quarrels : NameIs g "_law_quarrels" (.ref 221) := named G (fun _ => by kernel_rfl) (by decide +kernel)
theorem n__law_stock : NameIs g "_law_stock" (.ref 157) := named G (fun _ => by kernel_rfl) (by decide +kernel)
theorem n__law_tree : NameIs g "_law_tree" (.ref 171) := named G (fun _ => by kernel_rfl) (by decide +kernel)
theorem n__law_walk : NameIs g "_law_walk" (.ref 209) := named G (fun _ => by kernel_rfl) (by decide +kernel)
theorem n_add_alternatives : NameIs g "add_alternatives" (.ref 150) := named G (fun _ => by kernel_rfl) (by decide +kernel)
theorem n_add_follows : NameIs g "add_follows" (.ref 119) := named G (fun _ => by kernel_rfl) (by decide +kernel)
theorem n_conflicts : NameIs g "conflicts" (.ref 138) := named G (fun _ => by kernel_rfl) (by decide +kernel)
theorem n_dict : NameIs g "dict" (.type "dict") := builtIn G (fun _ => by kernel_rfl) (by kernel_rfl) (by decide +kernel) (by decide +kernel)
theorem n_empty_rules : NameIs g "empty_rules" (.ref 91) := named G (fun _ => by kernel_rfl) (by decide +kernel)
theorem n_find_conflicts : NameIs g "find_conflicts" (.ref 145) := named G (fun _ => by kernel_rfl) (by decide +kernel)
theorem n_first_of : NameIs g "first_of" (.ref 98) := named G (fun _ => by kernel_rfl) (by decide +kernel)
theorem n_first_rows : NameIs g "first_rows" (.ref 105) := named G (fun _ => by kernel_rfl) (by decide +kernel)
theorem n_follow_rows : NameIs g "follow_rows" (.ref 112) := named G (fun _ => by kernel_rfl) (by decide +kernel)
theorem n_is_token : NameIs g "is_token" (.ref 28) := named G (fun _ => by kernel_rfl) (by decide +kernel)
theorem n_len : NameIs g "len" (.builtin "len") := builtIn G (fun _ => by kernel_rfl) (by kernel_rfl) (by decide +kernel) (by decide +kernel)
theorem n_max : NameIs g "max" (.builtin "max") := builtIn G (fun _ => by kernel_rfl) (by kernel_rfl) (by decide +kernel) (by decide +kernel)
theorem n_may_be_empty : NameIs g "may_be_empty" (.ref 84) := named G (fun _ => by kernel_rfl) (by decide +kernel)
theorem n_merge : NameIs g "merge" (.ref 35) := named G (fun _ => by kernel_rfl) (by decide +kernel)
theorem n_parts : NameIs g "parts" (.ref 126) := named G (fun _ => by kernel_rfl) (by decide +kernel)
theorem n_range : NameIs g "range" (.type "range") := builtIn G (fun _ => by kernel_rfl) (by kernel_rfl) (by decide +kernel) (by decide +kernel)
theorem n_reversed : NameIs g "reversed" (.type "reversed") := builtIn G (fun _ => by kernel_rfl) (by kernel_rfl) (by decide +kernel) (by decide +kernel)
theorem n_set : NameIs g "set" (.type "set") := builtIn G (fun _ => by kernel_rfl) (by kernel_rfl) (by decide +kernel) (by decide +kernel)
theorem n_shared : NameIs g "shared" (.ref 131) := named G (fun _ => by kernel_rfl) (by decide +kernel)
theorem n_sorted : NameIs g "sorted" (.builtin "sorted") := builtIn G (fun _ => by kernel_rfl) (by kernel_rfl) (by decide +kernel) (by decide +kernel)
theorem n_str : NameIs g "str" (.type "str") := builtIn G (fun _ => by kernel_rfl) (by kernel_rfl) (by decide +kernel) (by decide +kernel)
theorem n_sum : NameIs g "sum" (.builtin "sum") := builtIn G (fun _ => by kernel_rfl) (by kernel_rfl) (by decide +kernel) (by decide +kernel)
theorem n_token_of : NameIs g "token_of" (.ref 21) := named G (fun _ => by kernel_rfl) (by decide +kernel)
end
noncomputable def nm_token_of : List Str := ["e", "table"]
noncomputable abbrev t_token_of_1 : List ST := (sRet (cSub (cV 0) (cC (.int 1)))) :: []
noncomputable abbrev t_token_of_2 : List ST := (sRet (cC (.str ""))) :: []
noncomputable abbrev t_token_of_3 : List ST := (sIf (bAnd [(bCmp .Eq (cSub (cV 0) (cC (.int 0))) (cC (.str "name"))), (bCmp .NotIn (cSub (cV 0) (cC (.int 1))) (cV 1))]) (sSeq t_token_of_1) (sSeq [])) :: t_token_of_2
noncomputable abbrev t_token_of_4 : List ST := (sIf (bCmp .Eq (cSub (cV 0) (cC (.int 0))) (cC (.str "text"))) (sSeq t_token_of_1) (sSeq [])) :: t_token_of_3
noncomputable def b_token_of (c : FT) : ST := (sSeq t_token_of_4)
noncomputable def nm_is_token : List Str := ["e", "table"]
noncomputable abbrev t_is_token_1 : List ST := (sRet (cOr [(cCmp .Eq (cSub (cV 0) (cC (.int 0))) (cC (.str "text"))), (cAnd [(cCmp .Eq (cSub (cV 0) (cC (.int 0))) (cC (.str "name"))), (cCmp .NotIn (cSub (cV 0) (cC (.int 1))) (cV 1))])])) :: []
noncomputable def b_is_token (c : FT) : ST := (sSeq t_is_token_1)
noncomputable def nm_merge : List Str := ["target", "source", "size", "token"]
noncomputable abbrev t_merge_1 : List ST := (sStore (cV 0) (cV 3) (cC (.bool true))) :: []
noncomputable abbrev t_merge_2 : List ST := (sRet (cCmp .Gt (cOp opLen [(cV 0)]) (cV 2))) :: []
noncomputable abbrev t_merge_3 : List ST := (sFor (tName 3) (cV 1) (sSeq t_merge_1)) :: t_merge_2
noncomputable abbrev t_merge_4 : List ST := (sAsg (tName 2) (cOp opLen [(cV 0)])) :: t_merge_3
noncomputable def b_merge (c : FT) : ST := (sSeq t_merge_4)
noncomputable def nm_g_init : List Str := ["self", "rules", "start", "name", "e"]
noncomputable abbrev t_g_init_1 : List ST := (sStore (cAttr "table" (cV 0)) (cV 3) (cV 4)) :: []
noncomputable abbrev t_g_init_2 : List ST := (sExp (cLm mApp (cAttr "order" (cV 0)) [(cV 3)])) :: t_g_init_1
noncomputable abbrev t_g_init_3 : List ST := (sIf (bCmp .NotIn (cV 3) (cAttr "table" (cV 0))) (sSeq t_g_init_2) (sSeq [])) :: []
noncomputable abbrev t_g_init_4 (c : FT) : List ST := (sSetA "follows" (cV 0) (cOp (c .follow_rows) [(cV 0)])) :: []
noncomputable abbrev t_g_init_5 (c : FT) : List ST := (sSetA "firsts" (cV 0) (cOp (c .first_rows) [(cAttr "table" (cV 0)), (cAttr "order" (cV 0)), (cAttr "empty" (cV 0))])) :: (t_g_init_4 c)
noncomputable abbrev t_g_init_6 (c : FT) : List ST := (sSetA "empty" (cV 0) (cOp (c .empty_rules) [(cAttr "table" (cV 0)), (cAttr "order" (cV 0))])) :: (t_g_init_5 c)
noncomputable abbrev t_g_init_7 (c : FT) : List ST := (sFor (tTup [3, 4]) (cV 1) (sSeq t_g_init_3)) :: (t_g_init_6 c)
noncomputable abbrev t_g_init_8 (c : FT) : List ST := (sSetA "table" (cV 0) cDict0) :: (t_g_init_7 c)
noncomputable abbrev t_g_init_9 (c : FT) : List ST := (sSetA "order" (cV 0) (cList [])) :: (t_g_init_8 c)
noncomputable abbrev t_g_init_10 (c : FT) : List ST := (sSetA "start" (cV 0) (cV 2)) :: (t_g_init_9 c)
noncomputable def b_g_init (c : FT) : ST := (sSeq (t_g_init_10 c))
noncomputable def nm_g_nullable : List Str := ["self", "e"]
noncomputable abbrev t_g_nullable_1 (c : FT) : List ST := (sRet (cOp (c .may_be_empty) [(cV 1), (cAttr "table" (cV 0)), (cAttr "empty" (cV 0))])) :: []
noncomputable def b_g_nullable (c : FT) : ST := (sSeq (t_g_nullable_1 c))
noncomputable def nm_g_first : List Str := ["self", "e"]
noncomputable abbrev t_g_first_1 (c : FT) : List ST := (sRet (cOp (c .first_of) [(cV 1), (cAttr "table" (cV 0)), (cAttr "empty" (cV 0)), (cAttr "firsts" (cV 0))])) :: []
noncomputable def b_g_first (c : FT) : ST := (sSeq (t_g_first_1 c))
noncomputable def nm_g_predict : List Str := ["self", "e", "after", "found"]
noncomputable abbrev t_g_predict_1 (c : FT) : List ST := (sExp (cOp (c .merge) [(cV 3), (cV 2)])) :: []
noncomputable abbrev t_g_predict_2 : List ST := (sRet (cV 3)) :: []
noncomputable abbrev t_g_predict_3 (c : FT) : List ST := (sIf (bVal (cIm "nullable" (c .g_nullable) (cV 0) [(cV 1)])) (sSeq (t_g_predict_1 c)) (sSeq [])) :: t_g_predict_2
noncomputable abbrev t_g_predict_4 (c : FT) : List ST := (sAsg (tName 3) (cOp opDict [(cIm "first" (c .g_first) (cV 0) [(cV 1)])])) :: (t_g_predict_3 c)
noncomputable def b_g_predict (c : FT) : ST := (sSeq (t_g_predict_4 c))
noncomputable def nm_may_be_empty : List Str := ["e", "table", "empty", "tag", "item"]
noncomputable abbrev t_may_be_empty_1 : List ST := (sRet (cC (.bool true))) :: []
noncomputable abbrev t_may_be_empty_2 : List ST := (sRet (cC (.bool false))) :: []
noncomputable abbrev t_may_be_empty_3 (c : FT) : List ST := (sIf (bNot (bVal (cOp (c .may_be_empty) [(cV 4), (cV 1), (cV 2)]))) (sSeq t_may_be_empty_2) (sSeq [])) :: []
noncomputable abbrev t_may_be_empty_4 (c : FT) : List ST := (sFor (tName 4) (cSub (cV 0) (cC (.int 1))) (sSeq (t_may_be_empty_3 c))) :: t_may_be_empty_1
noncomputable abbrev t_may_be_empty_5 (c : FT) : List ST := (sIf (bVal (cOp (c .may_be_empty) [(cV 4), (cV 1), (cV 2)])) (sSeq t_may_be_empty_1) (sSeq [])) :: []
noncomputable abbrev t_may_be_empty_6 (c : FT) : List ST := (sFor (tName 4) (cSub (cV 0) (cC (.int 1))) (sSeq (t_may_be_empty_5 c))) :: t_may_be_empty_2
noncomputable abbrev t_may_be_empty_7 : List ST := (sRet (cAnd [(cCmp .Eq (cV 3) (cC (.str "name"))), (cCmp .In (cSub (cV 0) (cC (.int 1))) (cV 2))])) :: []
noncomputable abbrev t_may_be_empty_8 (c : FT) : List ST := (sIf (bCmp .Eq (cV 3) (cC (.str "alt"))) (sSeq (t_may_be_empty_6 c)) (sSeq [])) :: t_may_be_empty_7
noncomputable abbrev t_may_be_empty_9 (c : FT) : List ST := (sIf (bCmp .Eq (cV 3) (cC (.str "seq"))) (sSeq (t_may_be_empty_4 c)) (sSeq [])) :: (t_may_be_empty_8 c)
noncomputable abbrev t_may_be_empty_10 (c : FT) : List ST := (sIf (bOr [(bCmp .Eq (cV 3) (cC (.str "opt"))), (bCmp .Eq (cV 3) (cC (.str "rep")))]) (sSeq t_may_be_empty_1) (sSeq [])) :: (t_may_be_empty_9 c)
noncomputable abbrev t_may_be_empty_11 (c : FT) : List ST := (sAsg (tName 3) (cSub (cV 0) (cC (.int 0)))) :: (t_may_be_empty_10 c)
noncomputable def b_may_be_empty (c : FT) : ST := (sSeq (t_may_be_empty_11 c))
noncomputable def nm_empty_rules : List Str := ["table", "order", "empty", "grown", "name"]
noncomputable abbrev t_empty_rules_1 : List ST := (sAsg (tName 3) (cC (.bool true))) :: []
noncomputable abbrev t_empty_rules_2 : List ST := (sStore (cV 2) (cV 4) (cC (.bool true))) :: t_empty_rules_1
noncomputable abbrev t_empty_rules_3 (c : FT) : List ST := (sIf (bAnd [(bCmp .NotIn (cV 4) (cV 2)), (bVal (cOp (c .may_be_empty) [(cSub (cV 0) (cV 4)), (cV 0), (cV 2)]))]) (sSeq t_empty_rules_2) (sSeq [])) :: []
noncomputable abbrev t_empty_rules_4 (c : FT) : List ST := (sFor (tName 4) (cV 1) (sSeq (t_empty_rules_3 c))) :: []
noncomputable abbrev t_empty_rules_5 (c : FT) : List ST := (sAsg (tName 3) (cC (.bool false))) :: (t_empty_rules_4 c)
noncomputable abbrev t_empty_rules_6 : List ST := (sRet (cV 2)) :: []
noncomputable abbrev t_empty_rules_7 (c : FT) : List ST := (sWhile (bVal (cV 3)) (sSeq (t_empty_rules_5 c))) :: t_empty_rules_6
noncomputable abbrev t_empty_rules_8 (c : FT) : List ST := (sAsg (tName 3) (cC (.bool true))) :: (t_empty_rules_7 c)
noncomputable abbrev t_empty_rules_9 (c : FT) : List ST := (sAsg (tName 2) cDict0) :: (t_empty_rules_8 c)
noncomputable def b_empty_rules (c : FT) : ST := (sSeq (t_empty_rules_9 c))
noncomputable def nm_first_of : List Str := ["e", "table", "empty", "firsts", "tag", "found", "item"]
noncomputable abbrev t_first_of_1 (c : FT) : List ST := (sRet (cDict1 (cOp (c .token_of) [(cV 0), (cV 1)]) (cC (.bool true)))) :: []
noncomputable abbrev t_first_of_2 : List ST := (sRet (cSub (cV 3) (cSub (cV 0) (cC (.int 1))))) :: []
noncomputable abbrev t_first_of_3 (c : FT) : List ST := (sRet (cOp (c .first_of) [(cSub (cV 0) (cC (.int 1))), (cV 1), (cV 2), (cV 3)])) :: []
noncomputable abbrev t_first_of_4 : List ST := (sRet (cV 5)) :: []
noncomputable abbrev t_first_of_5 (c : FT) : List ST := (sIf (bAnd [(bCmp .Eq (cV 4) (cC (.str "seq"))), (bNot (bVal (cOp (c .may_be_empty) [(cV 6), (cV 1), (cV 2)])))]) (sSeq t_first_of_4) (sSeq [])) :: []
noncomputable abbrev t_first_of_6 (c : FT) : List ST := (sExp (cOp (c .merge) [(cV 5), (cOp (c .first_of) [(cV 6), (cV 1), (cV 2), (cV 3)])])) :: (t_first_of_5 c)
noncomputable abbrev t_first_of_7 (c : FT) : List ST := (sFor (tName 6) (cSub (cV 0) (cC (.int 1))) (sSeq (t_first_of_6 c))) :: t_first_of_4
noncomputable abbrev t_first_of_8 (c : FT) : List ST := (sAsg (tName 5) cDict0) :: (t_first_of_7 c)
noncomputable abbrev t_first_of_9 (c : FT) : List ST := (sIf (bOr [(bCmp .Eq (cV 4) (cC (.str "opt"))), (bCmp .Eq (cV 4) (cC (.str "rep")))]) (sSeq (t_first_of_3 c)) (sSeq [])) :: (t_first_of_8 c)
noncomputable abbrev t_first_of_10 (c : FT) : List ST := (sIf (bCmp .Eq (cV 4) (cC (.str "name"))) (sSeq t_first_of_2) (sSeq [])) :: (t_first_of_9 c)
noncomputable abbrev t_first_of_11 (c : FT) : List ST := (sAsg (tName 4) (cSub (cV 0) (cC (.int 0)))) :: (t_first_of_10 c)
noncomputable abbrev t_first_of_12 (c : FT) : List ST := (sIf (bVal (cOp (c .is_token) [(cV 0), (cV 1)])) (sSeq (t_first_of_1 c)) (sSeq [])) :: (t_first_of_11 c)
noncomputable def b_first_of (c : FT) : ST := (sSeq (t_first_of_12 c))
noncomputable def nm_first_rows : List Str := ["table", "order", "empty", "firsts", "name", "grown"]
noncomputable abbrev t_first_rows_1 : List ST := (sStore (cV 3) (cV 4) cDict0) :: []
noncomputable abbrev t_first_rows_2 : List ST := (sAsg (tName 5) (cC (.bool true))) :: []
noncomputable abbrev t_first_rows_3 (c : FT) : List ST := (sIf (bVal (cOp (c .merge) [(cSub (cV 3) (cV 4)), (cOp (c .first_of) [(cSub (cV 0) (cV 4)), (cV 0), (cV 2), (cV 3)])])) (sSeq t_first_rows_2) (sSeq [])) :: []
noncomputable abbrev t_first_rows_4 (c : FT) : List ST := (sFor (tName 4) (cV 1) (sSeq (t_first_rows_3 c))) :: []
noncomputable abbrev t_first_rows_5 (c : FT) : List ST := (sAsg (tName 5) (cC (.bool false))) :: (t_first_rows_4 c)
noncomputable abbrev t_first_rows_6 (c : FT) : List ST := (sWhile (bVal (cV 5)) (sSeq (t_first_rows_5 c))) :: t_g_predict_2
noncomputable abbrev t_first_rows_7 (c : FT) : List ST := (sAsg (tName 5) (cC (.bool true))) :: (t_first_rows_6 c)
noncomputable abbrev t_first_rows_8 (c : FT) : List ST := (sFor (tName 4) (cV 1) (sSeq t_first_rows_1)) :: (t_first_rows_7 c)
noncomputable abbrev t_first_rows_9 (c : FT) : List ST := (sAsg (tName 3) cDict0) :: (t_first_rows_8 c)
noncomputable def b_first_rows (c : FT) : ST := (sSeq (t_first_rows_9 c))
noncomputable def nm_follow_rows : List Str := ["grammar", "follows", "name", "grown"]
noncomputable abbrev t_follow_rows_1 : List ST := (sStore (cV 1) (cV 2) cDict0) :: []
noncomputable abbrev t_follow_rows_2 : List ST := (sStore (cSub (cV 1) (cAttr "start" (cV 0))) (cC (.str "eof")) (cC (.bool true))) :: []
noncomputable abbrev t_follow_rows_3 (c : FT) : List ST := (sIf (bVal (cOp (c .add_follows) [(cV 0), (cSub (cAttr "table" (cV 0)) (cV 2)), (cSub (cV 1) (cV 2)), (cV 1)])) (sSeq t_empty_rules_1) (sSeq [])) :: []
noncomputable abbrev t_follow_rows_4 (c : FT) : List ST := (sFor (tName 2) (cAttr "order" (cV 0)) (sSeq (t_follow_rows_3 c))) :: []
noncomputable abbrev t_follow_rows_5 (c : FT) : List ST := (sAsg (tName 3) (cC (.bool false))) :: (t_follow_rows_4 c)
noncomputable abbrev t_follow_rows_6 : List ST := (sRet (cV 1)) :: []
noncomputable abbrev t_follow_rows_7 (c : FT) : List ST := (sWhile (bVal (cV 3)) (sSeq (t_follow_rows_5 c))) :: t_follow_rows_6
noncomputable abbrev t_follow_rows_8 (c : FT) : List ST := (sAsg (tName 3) (cC (.bool true))) :: (t_follow_rows_7 c)
noncomputable abbrev t_follow_rows_9 (c : FT) : List ST := (sIf (bCmp .In (cAttr "start" (cV 0)) (cV 1)) (sSeq t_follow_rows_2) (sSeq [])) :: (t_follow_rows_8 c)
noncomputable abbrev t_follow_rows_10 (c : FT) : List ST := (sFor (tName 2) (cAttr "order" (cV 0)) (sSeq t_follow_rows_1)) :: (t_follow_rows_9 c)
noncomputable abbrev t_follow_rows_11 (c : FT) : List ST := (sAsg (tName 1) cDict0) :: (t_follow_rows_10 c)
noncomputable def b_follow_rows (c : FT) : ST := (sSeq (t_follow_rows_11 c))
noncomputable def nm_add_follows : List Str := ["grammar", "e", "after", "follows", "tag", "grown", "item", "behind"]
noncomputable abbrev t_add_follows_1 (c : FT) : List ST := (sRet (cOp (c .merge) [(cSub (cV 3) (cSub (cV 1) (cC (.int 1)))), (cV 2)])) :: []
noncomputable abbrev t_add_follows_2 (c : FT) : List ST := (sIf (bCmp .In (cSub (cV 1) (cC (.int 1))) (cV 3)) (sSeq (t_add_follows_1 c)) (sSeq [])) :: t_may_be_empty_2
noncomputable abbrev t_add_follows_3 (c : FT) : List ST := (sRet (cOp (c .add_follows) [(cV 0), (cSub (cV 1) (cC (.int 1))), (cV 2), (cV 3)])) :: []
noncomputable abbrev t_add_follows_4 (c : FT) : List ST := (sRet (cOp (c .add_follows) [(cV 0), (cSub (cV 1) (cC (.int 1))), (cIm "predict" (c .g_predict) (cV 0) [(cV 1), (cV 2)]), (cV 3)])) :: []
noncomputable abbrev t_add_follows_5 (c : FT) : List ST := (sIf (bVal (cOp (c .add_follows) [(cV 0), (cV 6), (cV 7), (cV 3)])) (sSeq t_first_rows_2) (sSeq [])) :: []
noncomputable abbrev t_add_follows_6 (c : FT) : List ST := (sFor (tTup [6, 7]) (cOp (c .parts) [(cV 0), (cV 1), (cV 2)]) (sSeq (t_add_follows_5 c))) :: t_first_of_4
noncomputable abbrev t_add_follows_7 (c : FT) : List ST := (sAsg (tName 5) (cC (.bool false))) :: (t_add_follows_6 c)
noncomputable abbrev t_add_follows_8 (c : FT) : List ST := (sIf (bCmp .Eq (cV 4) (cC (.str "rep"))) (sSeq (t_add_follows_4 c)) (sSeq [])) :: (t_add_follows_7 c)
noncomputable abbrev t_add_follows_9 (c : FT) : List ST := (sIf (bCmp .Eq (cV 4) (cC (.str "opt"))) (sSeq (t_add_follows_3 c)) (sSeq [])) :: (t_add_follows_8 c)
noncomputable abbrev t_add_follows_10 (c : FT) : List ST := (sIf (bCmp .Eq (cV 4) (cC (.str "text"))) (sSeq t_may_be_empty_2) (sSeq [])) :: (t_add_follows_9 c)
noncomputable abbrev t_add_follows_11 (c : FT) : List ST := (sIf (bCmp .Eq (cV 4) (cC (.str "name"))) (sSeq (t_add_follows_2 c)) (sSeq [])) :: (t_add_follows_10 c)
noncomputable abbrev t_add_follows_12 (c : FT) : List ST := (sAsg (tName 4) (cSub (cV 1) (cC (.int 0)))) :: (t_add_follows_11 c)
noncomputable def b_add_follows (c : FT) : ST := (sSeq (t_add_follows_12 c))
noncomputable def nm_parts : List Str := ["grammar", "e", "after", "found", "behind", "item"]
noncomputable abbrev t_parts_1 (c : FT) : List ST := (sAsg (tName 4) (cIm "predict" (c .g_predict) (cV 0) [(cV 5), (cV 4)])) :: []
noncomputable abbrev t_parts_2 (c : FT) : List ST := (sIf (bCmp .Eq (cSub (cV 1) (cC (.int 0))) (cC (.str "seq"))) (sSeq (t_parts_1 c)) (sSeq [])) :: []
noncomputable abbrev t_parts_3 (c : FT) : List ST := (sExp (cLm mApp (cV 3) [(cTup [(cV 5), (cV 4)])])) :: (t_parts_2 c)
noncomputable abbrev t_parts_4 : List ST := (sExp (cLm mRev (cV 3) [])) :: t_g_predict_2
noncomputable abbrev t_parts_5 (c : FT) : List ST := (sForV (tName 5) (cSub (cV 1) (cC (.int 1))) (sSeq (t_parts_3 c))) :: t_parts_4
noncomputable abbrev t_parts_6 (c : FT) : List ST := (sAsg (tName 4) (cV 2)) :: (t_parts_5 c)
noncomputable abbrev t_parts_7 (c : FT) : List ST := (sAsg (tName 3) (cList [])) :: (t_parts_6 c)
noncomputable def b_parts (c : FT) : ST := (sSeq (t_parts_7 c))
noncomputable def nm_shared : List Str := ["first", "second", "token"]
noncomputable abbrev t_shared_1 : List ST := (sRet (cOp opSorted [(cComp 2 (bCmp .In (cV 2) (cV 1)) (cV 0) (cV 2))])) :: []
noncomputable def b_shared (c : FT) : ST := (sSeq t_shared_1)
noncomputable def nm_conflicts : List Str := ["grammar", "found", "name"]
noncomputable abbrev t_conflicts_1 (c : FT) : List ST := (sExp (cOp (c .find_conflicts) [(cV 0), (cV 2), (cSub (cAttr "table" (cV 0)) (cV 2)), (cSub (cAttr "follows" (cV 0)) (cV 2)), (cV 1)])) :: []
noncomputable abbrev t_conflicts_2 (c : FT) : List ST := (sFor (tName 2) (cAttr "order" (cV 0)) (sSeq (t_conflicts_1 c))) :: t_follow_rows_6
noncomputable abbrev t_conflicts_3 (c : FT) : List ST := (sAsg (tName 1) (cList [])) :: (t_conflicts_2 c)
noncomputable def b_conflicts (c : FT) : ST := (sSeq (t_conflicts_3 c))
noncomputable def nm_find_conflicts : List Str := ["grammar", "name", "e", "after", "found", "tag", "body", "kind", "both", "behind", "item"]
noncomputable abbrev t_find_conflicts_1 : List ST := sRetN :: []
noncomputable abbrev t_find_conflicts_2 : List ST := (sExp (cLm mApp (cV 4) [(cTup [(cV 1), (cC (.str "empty")), (cList [])])])) :: []
noncomputable abbrev t_find_conflicts_3 : List ST := (sExp (cLm mApp (cV 4) [(cTup [(cV 1), (cV 7), (cV 8)])])) :: []
noncomputable abbrev t_find_conflicts_4 (c : FT) : List ST := (sAsg (tName 9) (cIm "predict" (c .g_predict) (cV 0) [(cV 2), (cV 3)])) :: []
noncomputable abbrev t_find_conflicts_5 (c : FT) : List ST := (sExp (cOp (c .find_conflicts) [(cV 0), (cV 1), (cV 6), (cV 9), (cV 4)])) :: t_find_conflicts_1
noncomputable abbrev t_find_conflicts_6 (c : FT) : List ST := (sIf (bCmp .Eq (cV 5) (cC (.str "rep"))) (sSeq (t_find_conflicts_4 c)) (sSeq [])) :: (t_find_conflicts_5 c)
noncomputable abbrev t_find_conflicts_7 (c : FT) : List ST := (sAsg (tName 9) (cV 3)) :: (t_find_conflicts_6 c)
noncomputable abbrev t_find_conflicts_8 (c : FT) : List ST := (sIf (bCmp .Gt (cOp opLen [(cV 8)]) (cC (.int 0))) (sSeq t_find_conflicts_3) (sSeq [])) :: (t_find_conflicts_7 c)
noncomputable abbrev t_find_conflicts_9 (c : FT) : List ST := (sAsg (tName 8) (cOp (c .shared) [(cIm "first" (c .g_first) (cV 0) [(cV 6)]), (cV 3)])) :: (t_find_conflicts_8 c)
noncomputable abbrev t_find_conflicts_10 (c : FT) : List ST := (sIf (bVal (cIm "nullable" (c .g_nullable) (cV 0) [(cV 6)])) (sSeq t_find_conflicts_2) (sSeq [])) :: (t_find_conflicts_9 c)
noncomputable abbrev t_find_conflicts_11 (c : FT) : List ST := (sAsg (tName 7) (cIf (bCmp .Eq (cV 5) (cC (.str "opt"))) (cC (.str "option")) (cC (.str "repetition")))) :: (t_find_conflicts_10 c)
noncomputable abbrev t_find_conflicts_12 (c : FT) : List ST := (sAsg (tName 6) (cSub (cV 2) (cC (.int 1)))) :: (t_find_conflicts_11 c)
noncomputable abbrev t_find_conflicts_13 (c : FT) : List ST := (sExp (cOp (c .add_alternatives) [(cV 0), (cV 1), (cV 2), (cV 3), (cV 4)])) :: []
noncomputable abbrev t_find_conflicts_14 (c : FT) : List ST := (sExp (cOp (c .find_conflicts) [(cV 0), (cV 1), (cV 10), (cV 9), (cV 4)])) :: []
noncomputable abbrev t_find_conflicts_15 (c : FT) : List ST := (sFor (tTup [10, 9]) (cOp (c .parts) [(cV 0), (cV 2), (cV 3)]) (sSeq (t_find_conflicts_14 c))) :: []
noncomputable abbrev t_find_conflicts_16 (c : FT) : List ST := (sIf (bCmp .Eq (cV 5) (cC (.str "alt"))) (sSeq (t_find_conflicts_13 c)) (sSeq [])) :: (t_find_conflicts_15 c)
noncomputable abbrev t_find_conflicts_17 (c : FT) : List ST := (sIf (bOr [(bCmp .Eq (cV 5) (cC (.str "opt"))), (bCmp .Eq (cV 5) (cC (.str "rep")))]) (sSeq (t_find_conflicts_12 c)) (sSeq [])) :: (t_find_conflicts_16 c)
noncomputable abbrev t_find_conflicts_18 (c : FT) : List ST := (sIf (bOr [(bCmp .Eq (cV 5) (cC (.str "name"))), (bCmp .Eq (cV 5) (cC (.str "text")))]) (sSeq t_find_conflicts_1) (sSeq [])) :: (t_find_conflicts_17 c)
noncomputable abbrev t_find_conflicts_19 (c : FT) : List ST := (sAsg (tName 5) (cSub (cV 2) (cC (.int 0)))) :: (t_find_conflicts_18 c)
noncomputable def b_find_conflicts (c : FT) : ST := (sSeq (t_find_conflicts_19 c))
noncomputable def nm_add_alternatives : List Str := ["grammar", "name", "e", "after", "found", "rows", "high", "low", "both", "item"]
noncomputable abbrev t_add_alternatives_1 : List ST := (sExp (cLm mApp (cV 4) [(cTup [(cV 1), (cC (.str "alternatives")), (cV 8)])])) :: []
noncomputable abbrev t_add_alternatives_2 : List ST := (sIf (bCmp .Gt (cOp opLen [(cV 8)]) (cC (.int 0))) (sSeq t_add_alternatives_1) (sSeq [])) :: []
noncomputable abbrev t_add_alternatives_3 (c : FT) : List ST := (sAsg (tName 8) (cOp (c .shared) [(cSub (cV 5) (cV 7)), (cSub (cV 5) (cV 6))])) :: t_add_alternatives_2
noncomputable abbrev t_add_alternatives_4 (c : FT) : List ST := (sForR (tName 7) [(cV 6)] (sSeq (t_add_alternatives_3 c))) :: []
noncomputable abbrev t_add_alternatives_5 (c : FT) : List ST := (sForR (tName 6) [(cOp opLen [(cV 5)])] (sSeq (t_add_alternatives_4 c))) :: []
noncomputable abbrev t_add_alternatives_6 (c : FT) : List ST := (sComp 5 9 bT (cSub (cV 2) (cC (.int 1))) (cIm "predict" (c .g_predict) (cV 0) [(cV 9), (cV 3)])) :: (t_add_alternatives_5 c)
noncomputable def b_add_alternatives (c : FT) : ST := (sSeq (t_add_alternatives_6 c))
noncomputable def nm_l_stock : List Str := ["script", "waiting", "cell", "rest", "turn"]
noncomputable abbrev t_l_stock_1 : List ST := (sAsg (tName 3) (cBin .FloorDiv (cV 3) (cC (.int 1000)))) :: []
noncomputable abbrev t_l_stock_2 : List ST := (sExp (cLm mApp (cV 1) [(cBin .Mod (cV 3) (cC (.int 1000)))])) :: t_l_stock_1
noncomputable abbrev t_l_stock_3 : List ST := (sWhile (bAnd [(bCmp .Gt (cV 3) (cC (.int 0))), (bCmp .Lt (cOp opLen [(cV 1)]) (cC (.int 300)))]) (sSeq t_l_stock_2)) :: []
noncomputable abbrev t_l_stock_4 : List ST := (sAsg (tName 3) (cBin .FloorDiv (cV 3) (cC (.int 1000)))) :: t_l_stock_3
noncomputable abbrev t_l_stock_5 : List ST := (sExp (cLm mApp (cV 1) [(cBin .Mod (cV 3) (cC (.int 1000)))])) :: t_l_stock_4
noncomputable abbrev t_l_stock_6 : List ST := (sAsg (tName 3) (cIf (bCmp .GtE (cV 2) (cC (.int 0))) (cV 2) (cBin .Sub (cC (.int 1)) (cV 2)))) :: t_l_stock_5
noncomputable abbrev t_l_stock_7 : List ST := (sAsg (tName 4) (cBin .Add (cC (.int 1)) (cBin .Mod (cOp opSum [(cV 1)]) (cC (.int 990))))) :: []
noncomputable abbrev t_l_stock_8 : List ST := (sRet (cList [(cV 1), (cV 4)])) :: []
noncomputable abbrev t_l_stock_9 : List ST := (sExp (cLm mRev (cV 1) [])) :: t_l_stock_8
noncomputable abbrev t_l_stock_10 (g : Gl) : List ST := (sIf (bCmp .Gt (cOp (opLenS g) [(cV 0)]) (cC (.int 2))) (sSeq t_l_stock_7) (sSeq [])) :: t_l_stock_9
noncomputable abbrev t_l_stock_11 (g : Gl) : List ST := (sAsg (tName 4) (cC (.int 0))) :: (t_l_stock_10 g)
noncomputable abbrev t_l_stock_12 (g : Gl) : List ST := (sFor (tName 2) (cSl g 50 (cV 0)) (sSeq t_l_stock_6)) :: (t_l_stock_11 g)
noncomputable abbrev t_l_stock_13 (g : Gl) : List ST := (sAsg (tName 1) (cList [])) :: (t_l_stock_12 g)
noncomputable def b_l_stock (g : Gl) (c : FT) : ST := (sSeq (t_l_stock_13 g))
noncomputable def nm_l_pick : List Str := ["pool", "ways"]
noncomputable abbrev t_l_pick_1 : List ST := (sRet (cBin .Mod (cLm mPop (cSub (cV 0) (cC (.int 0))) []) (cV 1))) :: []
noncomputable abbrev t_l_pick_2 : List ST := (sStore (cV 0) (cC (.int 1)) (cOp opMax [(cBin .Mod (cBin .Add (cBin .Mult (cSub (cV 0) (cC (.int 1))) (cC (.int 29))) (cC (.int 7))) (cC (.int 997))), (cC (.int 1))])) :: []
noncomputable abbrev t_l_pick_3 : List ST := (sRet (cBin .Mod (cSub (cV 0) (cC (.int 1))) (cV 1))) :: []
noncomputable abbrev t_l_pick_4 : List ST := (sIf (bCmp .Gt (cSub (cV 0) (cC (.int 1))) (cC (.int 0))) (sSeq t_l_pick_2) (sSeq [])) :: t_l_pick_3
noncomputable abbrev t_l_pick_5 : List ST := (sIf (bCmp .NotEq (cSub (cV 0) (cC (.int 0))) (cList [])) (sSeq t_l_pick_1) (sSeq [])) :: t_l_pick_4
noncomputable def b_l_pick (c : FT) : ST := (sSeq t_l_pick_5)
noncomputable def nm_l_tree : List Str := ["pool", "spare", "deep", "kind"]
noncomputable abbrev t_l_tree_1 (c : FT) : List ST := (sRet (cTup [(cC (.str "text")), (cSubS "pqrs" (cOp (c .l_pick) [(cV 0), (cC (.int 4))]))])) :: []
noncomputable abbrev t_l_tree_2 (c : FT) : List ST := (sRet (cTup [(cC (.str "name")), (cSub (cList [(cC (.str "R0")), (cC (.str "R1")), (cC (.str "R2")), (cC (.str "word"))]) (cOp (c .l_pick) [(cV 0), (cC (.int 4))]))])) :: []
noncomputable abbrev t_l_tree_3 : List ST := (sRet (cTup [(cC (.str "seq")), (cTup [])])) :: []
noncomputable abbrev t_l_tree_4 (c : FT) : List ST := (sRet (cTup [(cSub (cList [(cC (.str "rep")), (cC (.str "opt"))]) (cBin .Sub (cV 3) (cC (.int 5)))), (cOp (c .l_tree) [(cV 0), (cV 1), (cBin .Add (cV 2) (cC (.int 1)))])])) :: []
noncomputable abbrev t_l_tree_5 (c : FT) : List ST := (sRet (cTup [(cIf (bCmp .Eq (cV 3) (cC (.int 4))) (cC (.str "seq")) (cC (.str "alt"))), (cTup [(cOp (c .l_tree) [(cV 0), (cV 1), (cBin .Add (cV 2) (cC (.int 1)))]), (cOp (c .l_tree) [(cV 0), (cV 1), (cBin .Add (cV 2) (cC (.int 1)))])])])) :: []
noncomputable abbrev t_l_tree_6 (c : FT) : List ST := (sIf (bOr [(bCmp .Eq (cV 3) (cC (.int 5))), (bCmp .Eq (cV 3) (cC (.int 6)))]) (sSeq (t_l_tree_4 c)) (sSeq [])) :: (t_l_tree_5 c)
noncomputable abbrev t_l_tree_7 (c : FT) : List ST := (sIf (bCmp .Eq (cV 3) (cC (.int 3))) (sSeq t_l_tree_3) (sSeq [])) :: (t_l_tree_6 c)
noncomputable abbrev t_l_tree_8 (c : FT) : List ST := (sIf (bCmp .Eq (cV 3) (cC (.int 2))) (sSeq (t_l_tree_2 c)) (sSeq [])) :: (t_l_tree_7 c)
noncomputable abbrev t_l_tree_9 (c : FT) : List ST := (sIf (bCmp .Lt (cV 3) (cC (.int 2))) (sSeq (t_l_tree_1 c)) (sSeq [])) :: (t_l_tree_8 c)
noncomputable abbrev t_l_tree_10 (c : FT) : List ST := (sAsg (tName 3) (cOp (c .l_pick) [(cV 0), (cIf (bAnd [(bCmp .Lt (cV 2) (cC (.int 3))), (bCmp .Gt (cSub (cV 1) (cC (.int 0))) (cC (.int 0)))]) (cC (.int 8)) (cC (.int 4)))])) :: (t_l_tree_9 c)
noncomputable abbrev t_l_tree_11 (c : FT) : List ST := (sISub (cV 1) (cC (.int 0)) (cC (.int 1))) :: (t_l_tree_10 c)
noncomputable def b_l_tree (c : FT) : ST := (sSeq (t_l_tree_11 c))
noncomputable def nm_l_hollow : List Str := ["tree", "rules", "depth", "kind", "value", "piece"]
noncomputable abbrev t_l_hollow_1 (c : FT) : List ST := (sRet (cCmp .NotIn (cC (.bool false)) (cComp 5 bT (cV 4) (cOp (c .l_hollow) [(cV 5), (cV 1), (cV 2)])))) :: []
noncomputable abbrev t_l_hollow_2 (c : FT) : List ST := (sRet (cCmp .In (cC (.bool true)) (cComp 5 bT (cV 4) (cOp (c .l_hollow) [(cV 5), (cV 1), (cV 2)])))) :: []
noncomputable abbrev t_l_hollow_3 (c : FT) : List ST := (sRet (cAnd [(cCmp .Eq (cV 3) (cC (.str "name"))), (cCmp .In (cV 4) (cV 1)), (cCmp .Gt (cV 2) (cC (.int 0))), (cOp (c .l_hollow) [(cSub (cV 1) (cV 4)), (cV 1), (cBin .Sub (cV 2) (cC (.int 1)))])])) :: []
noncomputable abbrev t_l_hollow_4 (c : FT) : List ST := (sIf (bCmp .Eq (cV 3) (cC (.str "alt"))) (sSeq (t_l_hollow_2 c)) (sSeq [])) :: (t_l_hollow_3 c)
noncomputable abbrev t_l_hollow_5 (c : FT) : List ST := (sIf (bCmp .Eq (cV 3) (cC (.str "seq"))) (sSeq (t_l_hollow_1 c)) (sSeq [])) :: (t_l_hollow_4 c)
noncomputable abbrev t_l_hollow_6 (c : FT) : List ST := (sIf (bCmp .In (cV 3) (cTup [(cC (.str "opt")), (cC (.str "rep"))])) (sSeq t_may_be_empty_1) (sSeq [])) :: (t_l_hollow_5 c)
noncomputable abbrev t_l_hollow_7 (c : FT) : List ST := (sAsg (tTup [3, 4]) (cV 0)) :: (t_l_hollow_6 c)
noncomputable def b_l_hollow (c : FT) : ST := (sSeq (t_l_hollow_7 c))
noncomputable def nm_l_none : List Str := ["tree", "hollow", "kind", "value", "row", "piece"]
noncomputable abbrev t_l_none_1 : List ST := (sRet (cIf (bCmp .Eq (cV 2) (cC (.str "seq"))) (cCmp .NotIn (cC (.bool false)) (cV 4)) (cCmp .In (cC (.bool true)) (cV 4)))) :: []
noncomputable abbrev t_l_none_2 (c : FT) : List ST := (sComp 4 5 bT (cV 3) (cOp (c .l_none) [(cV 5), (cV 1)])) :: t_l_none_1
noncomputable abbrev t_l_none_3 : List ST := (sRet (cAnd [(cCmp .Eq (cV 2) (cC (.str "name"))), (cCmp .In (cV 3) (cV 1)), (cSub (cV 1) (cV 3))])) :: []
noncomputable abbrev t_l_none_4 (c : FT) : List ST := (sIf (bCmp .In (cV 2) (cTup [(cC (.str "seq")), (cC (.str "alt"))])) (sSeq (t_l_none_2 c)) (sSeq [])) :: t_l_none_3
noncomputable abbrev t_l_none_5 (c : FT) : List ST := (sIf (bCmp .In (cV 2) (cTup [(cC (.str "opt")), (cC (.str "rep"))])) (sSeq t_may_be_empty_1) (sSeq [])) :: (t_l_none_4 c)
noncomputable abbrev t_l_none_6 (c : FT) : List ST := (sAsg (tTup [2, 3]) (cV 0)) :: (t_l_none_5 c)
noncomputable def b_l_none (c : FT) : ST := (sSeq (t_l_none_6 c))
noncomputable def nm_l_heads : List Str := ["tree", "rules", "hollow", "depth", "kind", "value", "found", "piece"]
noncomputable abbrev t_l_heads_1 : List ST := (sRet (cList [(cV 5)])) :: []
noncomputable abbrev t_l_heads_2 (c : FT) : List ST := (sRet (cIf (bCmp .Gt (cV 3) (cC (.int 0))) (cOp (c .l_heads) [(cSub (cV 1) (cV 5)), (cV 1), (cV 2), (cBin .Sub (cV 3) (cC (.int 1)))]) (cList []))) :: []
noncomputable abbrev t_l_heads_3 (c : FT) : List ST := (sRet (cOp (c .l_heads) [(cV 5), (cV 1), (cV 2), (cV 3)])) :: []
noncomputable abbrev t_l_heads_4 : List ST := (sRet (cV 6)) :: []
noncomputable abbrev t_l_heads_5 (c : FT) : List ST := (sIf (bAnd [(bCmp .Eq (cV 4) (cC (.str "seq"))), (bNot (bVal (cOp (c .l_none) [(cV 7), (cV 2)])))]) (sSeq t_l_heads_4) (sSeq [])) :: []
noncomputable abbrev t_l_heads_6 (c : FT) : List ST := (sIAdd 6 (cOp (c .l_heads) [(cV 7), (cV 1), (cV 2), (cV 3)])) :: (t_l_heads_5 c)
noncomputable abbrev t_l_heads_7 (c : FT) : List ST := (sFor (tName 7) (cV 5) (sSeq (t_l_heads_6 c))) :: t_l_heads_4
noncomputable abbrev t_l_heads_8 (c : FT) : List ST := (sAsg (tName 6) (cList [])) :: (t_l_heads_7 c)
noncomputable abbrev t_l_heads_9 (c : FT) : List ST := (sIf (bCmp .In (cV 4) (cTup [(cC (.str "opt")), (cC (.str "rep"))])) (sSeq (t_l_heads_3 c)) (sSeq [])) :: (t_l_heads_8 c)
noncomputable abbrev t_l_heads_10 (c : FT) : List ST := (sIf (bCmp .Eq (cV 4) (cC (.str "name"))) (sSeq (t_l_heads_2 c)) (sSeq [])) :: (t_l_heads_9 c)
noncomputable abbrev t_l_heads_11 (c : FT) : List ST := (sIf (bOr [(bCmp .Eq (cV 4) (cC (.str "text"))), (bAnd [(bCmp .Eq (cV 4) (cC (.str "name"))), (bCmp .NotIn (cV 5) (cV 1))])]) (sSeq t_l_heads_1) (sSeq [])) :: (t_l_heads_10 c)
noncomputable abbrev t_l_heads_12 (c : FT) : List ST := (sAsg (tTup [4, 5]) (cV 0)) :: (t_l_heads_11 c)
noncomputable def b_l_heads (c : FT) : ST := (sSeq (t_l_heads_12 c))
noncomputable def nm_l_front : List Str := ["tree", "facts", "rules", "hollow", "heads", "kind", "value", "found", "piece"]
noncomputable abbrev t_l_front_1 : List ST := (sRet (cList [(cV 6)])) :: []
noncomputable abbrev t_l_front_2 : List ST := (sRet (cSub (cV 4) (cV 6))) :: []
noncomputable abbrev t_l_front_3 (c : FT) : List ST := (sRet (cOp (c .l_front) [(cV 6), (cV 1)])) :: []
noncomputable abbrev t_l_front_4 : List ST := (sRet (cSSet (cV 7))) :: []
noncomputable abbrev t_l_front_5 (c : FT) : List ST := (sIf (bAnd [(bCmp .Eq (cV 5) (cC (.str "seq"))), (bNot (bVal (cOp (c .l_none) [(cV 8), (cV 3)])))]) (sSeq t_l_front_4) (sSeq [])) :: []
noncomputable abbrev t_l_front_6 (c : FT) : List ST := (sAsg (tName 7) (cBin .Add (cV 7) (cOp (c .l_front) [(cV 8), (cV 1)]))) :: (t_l_front_5 c)
noncomputable abbrev t_l_front_7 (c : FT) : List ST := (sFor (tName 8) (cV 6) (sSeq (t_l_front_6 c))) :: t_l_front_4
noncomputable abbrev t_l_front_8 (c : FT) : List ST := (sAsg (tName 7) (cList [])) :: (t_l_front_7 c)
noncomputable abbrev t_l_front_9 (c : FT) : List ST := (sIf (bCmp .In (cV 5) (cTup [(cC (.str "opt")), (cC (.str "rep"))])) (sSeq (t_l_front_3 c)) (sSeq [])) :: (t_l_front_8 c)
noncomputable abbrev t_l_front_10 (c : FT) : List ST := (sIf (bCmp .Eq (cV 5) (cC (.str "name"))) (sSeq t_l_front_2) (sSeq [])) :: (t_l_front_9 c)
noncomputable abbrev t_l_front_11 (c : FT) : List ST := (sIf (bOr [(bCmp .Eq (cV 5) (cC (.str "text"))), (bAnd [(bCmp .Eq (cV 5) (cC (.str "name"))), (bCmp .NotIn (cV 6) (cV 2))])]) (sSeq t_l_front_1) (sSeq [])) :: (t_l_front_10 c)
noncomputable abbrev t_l_front_12 (c : FT) : List ST := (sAsg (tTup [5, 6]) (cV 0)) :: (t_l_front_11 c)
noncomputable abbrev t_l_front_13 (c : FT) : List ST := (sAsg (tTup [2, 3, 4]) (cV 1)) :: (t_l_front_12 c)
noncomputable def b_l_front (c : FT) : ST := (sSeq (t_l_front_13 c))
noncomputable def nm_l_ahead : List Str := ["tree", "facts", "behind", "found"]
noncomputable abbrev t_l_ahead_1 (c : FT) : List ST := (sRet (cIf (bVal (cOp (c .l_none) [(cV 0), (cSub (cV 1) (cC (.int 1)))])) (cSSet (cBin .Add (cV 3) (cV 2))) (cV 3))) :: []
noncomputable abbrev t_l_ahead_2 (c : FT) : List ST := (sAsg (tName 3) (cOp (c .l_front) [(cV 0), (cV 1)])) :: (t_l_ahead_1 c)
noncomputable def b_l_ahead (c : FT) : ST := (sSeq (t_l_ahead_2 c))
noncomputable def nm_l_walk : List Str := ["tree", "facts", "behind", "calls", "kind", "value", "piece", "step"]
noncomputable abbrev t_l_walk_1 : List ST := (sExp (cLm mApp (cV 3) [(cTup [(cV 5), (cV 2)])])) :: []
noncomputable abbrev t_l_walk_2 (c : FT) : List ST := (sExp (cOp (c .l_walk) [(cV 5), (cV 1), (cV 2), (cV 3)])) :: []
noncomputable abbrev t_l_walk_3 (c : FT) : List ST := (sExp (cOp (c .l_walk) [(cV 5), (cV 1), (cOp (c .l_ahead) [(cV 0), (cV 1), (cV 2)]), (cV 3)])) :: []
noncomputable abbrev t_l_walk_4 (c : FT) : List ST := (sExp (cOp (c .l_walk) [(cV 6), (cV 1), (cV 2), (cV 3)])) :: []
noncomputable abbrev t_l_walk_5 (c : FT) : List ST := (sFor (tName 6) (cV 5) (sSeq (t_l_walk_4 c))) :: []
noncomputable abbrev t_l_walk_6 (c : FT) : List ST := (sAsg (tName 2) (cOp (c .l_ahead) [(cSub (cV 5) (cV 7)), (cV 1), (cV 2)])) :: []
noncomputable abbrev t_l_walk_7 (c : FT) : List ST := (sExp (cOp (c .l_walk) [(cSub (cV 5) (cV 7)), (cV 1), (cV 2), (cV 3)])) :: (t_l_walk_6 c)
noncomputable abbrev t_l_walk_8 (c : FT) : List ST := (sForR (tName 7) [(cBin .Sub (cOp opLen [(cV 5)]) (cC (.int 1))), (cNeg (cC (.int 1))), (cNeg (cC (.int 1)))] (sSeq (t_l_walk_7 c))) :: []
noncomputable abbrev t_l_walk_9 (c : FT) : List ST := (sIf (bCmp .Eq (cV 4) (cC (.str "seq"))) (sSeq (t_l_walk_8 c)) (sSeq [])) :: []
noncomputable abbrev t_l_walk_10 (c : FT) : List ST := (sIf (bCmp .Eq (cV 4) (cC (.str "alt"))) (sSeq (t_l_walk_5 c)) (sSeq (t_l_walk_9 c))) :: []
noncomputable abbrev t_l_walk_11 (c : FT) : List ST := (sIf (bCmp .Eq (cV 4) (cC (.str "rep"))) (sSeq (t_l_walk_3 c)) (sSeq (t_l_walk_10 c))) :: []
noncomputable abbrev t_l_walk_12 (c : FT) : List ST := (sIf (bCmp .Eq (cV 4) (cC (.str "opt"))) (sSeq (t_l_walk_2 c)) (sSeq (t_l_walk_11 c))) :: []
noncomputable abbrev t_l_walk_13 (c : FT) : List ST := (sIf (bAnd [(bCmp .Eq (cV 4) (cC (.str "name"))), (bCmp .In (cV 5) (cSub (cV 1) (cC (.int 0))))]) (sSeq t_l_walk_1) (sSeq (t_l_walk_12 c))) :: []
noncomputable abbrev t_l_walk_14 (c : FT) : List ST := (sAsg (tTup [4, 5]) (cV 0)) :: (t_l_walk_13 c)
noncomputable def b_l_walk (c : FT) : ST := (sSeq (t_l_walk_14 c))
noncomputable def nm_l_after : List Str := ["facts", "due", "calls", "name", "seen", "behind"]
noncomputable abbrev t_l_after_1 : List ST := (sExp (cLm mApp (cV 2) [(cTup [(cV 3), (cList [])])])) :: []
noncomputable abbrev t_l_after_2 : List ST := (sStore (cV 1) (cV 3) (cList [])) :: t_l_after_1
noncomputable abbrev t_l_after_3 (c : FT) : List ST := (sExp (cOp (c .l_walk) [(cSub (cSub (cV 0) (cC (.int 0))) (cV 3)), (cV 0), (cV 5), (cV 2)])) :: []
noncomputable abbrev t_l_after_4 (c : FT) : List ST := (sStore (cV 1) (cV 3) (cSSet (cBin .Add (cSub (cV 1) (cV 3)) (cV 5)))) :: (t_l_after_3 c)
noncomputable abbrev t_l_after_5 (c : FT) : List ST := (sExp (cLm mApp (cV 4) [(cTup [(cV 3), (cV 5)])])) :: (t_l_after_4 c)
noncomputable abbrev t_l_after_6 (c : FT) : List ST := (sIf (bCmp .NotIn (cTup [(cV 3), (cV 5)]) (cV 4)) (sSeq (t_l_after_5 c)) (sSeq [])) :: []
noncomputable abbrev t_l_after_7 (c : FT) : List ST := (sAsg (tTup [3, 5]) (cLm mPop (cV 2) [])) :: (t_l_after_6 c)
noncomputable abbrev t_l_after_8 (c : FT) : List ST := (sWhile (bCmp .NotEq (cV 2) (cList [])) (sSeq (t_l_after_7 c))) :: t_follow_rows_6
noncomputable abbrev t_l_after_9 (c : FT) : List ST := (sAsg (tName 4) (cList [])) :: (t_l_after_8 c)
noncomputable abbrev t_l_after_10 (c : FT) : List ST := (sFor (tName 3) (cOp opSorted [(cSub (cV 0) (cC (.int 0)))]) (sSeq t_l_after_2)) :: (t_l_after_9 c)
noncomputable abbrev t_l_after_11 (c : FT) : List ST := (sAsg (tName 2) (cList [(cTup [(cC (.str "R0")), (cList [(cC (.str "eof"))])])])) :: (t_l_after_10 c)
noncomputable abbrev t_l_after_12 (c : FT) : List ST := (sAsg (tName 1) cDict0) :: (t_l_after_11 c)
noncomputable def b_l_after (c : FT) : ST := (sSeq (t_l_after_12 c))
noncomputable def nm_l_quarrels : List Str := ["tree", "facts", "behind", "name", "found", "kind", "value", "common", "rows", "piece", "step", "rest", "later", "word"]
noncomputable abbrev t_l_quarrels_1 : List ST := (sExp (cLm mApp (cV 4) [(cTup [(cV 3), (cC (.str "empty")), (cList [])])])) :: []
noncomputable abbrev t_l_quarrels_2 : List ST := (sExp (cLm mApp (cV 4) [(cTup [(cV 3), (cIf (bCmp .Eq (cV 5) (cC (.str "opt"))) (cC (.str "option")) (cC (.str "repetition"))), (cV 7)])])) :: []
noncomputable abbrev t_l_quarrels_3 (c : FT) : List ST := (sExp (cOp (c .l_quarrels) [(cV 6), (cV 1), (cIf (bCmp .Eq (cV 5) (cC (.str "rep"))) (cOp (c .l_ahead) [(cV 0), (cV 1), (cV 2)]) (cV 2)), (cV 3), (cV 4)])) :: []
noncomputable abbrev t_l_quarrels_4 (c : FT) : List ST := (sIf (bCmp .NotEq (cV 7) (cList [])) (sSeq t_l_quarrels_2) (sSeq [])) :: (t_l_quarrels_3 c)
noncomputable abbrev t_l_quarrels_5 (c : FT) : List ST := (sComp 7 13 (bCmp .In (cV 13) (cV 2)) (cOp (c .l_front) [(cV 6), (cV 1)]) (cV 13)) :: (t_l_quarrels_4 c)
noncomputable abbrev t_l_quarrels_6 (c : FT) : List ST := (sIf (bVal (cOp (c .l_none) [(cV 6), (cSub (cV 1) (cC (.int 1)))])) (sSeq t_l_quarrels_1) (sSeq [])) :: (t_l_quarrels_5 c)
noncomputable abbrev t_l_quarrels_7 : List ST := (sExp (cLm mApp (cV 4) [(cTup [(cV 3), (cC (.str "alternatives")), (cV 7)])])) :: []
noncomputable abbrev t_l_quarrels_8 (c : FT) : List ST := (sExp (cOp (c .l_quarrels) [(cV 9), (cV 1), (cV 2), (cV 3), (cV 4)])) :: []
noncomputable abbrev t_l_quarrels_9 (c : FT) : List ST := (sFor (tName 9) (cV 6) (sSeq (t_l_quarrels_8 c))) :: []
noncomputable abbrev t_l_quarrels_10 (c : FT) : List ST := (sIf (bCmp .NotEq (cV 7) (cList [])) (sSeq t_l_quarrels_7) (sSeq [])) :: (t_l_quarrels_9 c)
noncomputable abbrev t_l_quarrels_11 (c : FT) : List ST := (sComp 7 13 (bCmp .In (cV 13) (cSub (cV 8) (cC (.int 1)))) (cSub (cV 8) (cC (.int 0))) (cV 13)) :: (t_l_quarrels_10 c)
noncomputable abbrev t_l_quarrels_12 (c : FT) : List ST := (sAsg (tName 8) (cComp 9 bT (cV 6) (cOp (c .l_ahead) [(cV 9), (cV 1), (cV 2)]))) :: (t_l_quarrels_11 c)
noncomputable abbrev t_l_quarrels_13 (c : FT) : List ST := (sAsg (tName 11) (cOp (c .l_ahead) [(cSub (cV 6) (cV 12)), (cV 1), (cV 11)])) :: []
noncomputable abbrev t_l_quarrels_14 (c : FT) : List ST := (sExp (cOp (c .l_quarrels) [(cSub (cV 6) (cV 10)), (cV 1), (cV 11), (cV 3), (cV 4)])) :: []
noncomputable abbrev t_l_quarrels_15 (c : FT) : List ST := (sForR (tName 12) [(cBin .Sub (cOp opLen [(cV 6)]) (cC (.int 1))), (cV 10), (cNeg (cC (.int 1)))] (sSeq (t_l_quarrels_13 c))) :: (t_l_quarrels_14 c)
noncomputable abbrev t_l_quarrels_16 (c : FT) : List ST := (sAsg (tName 11) (cV 2)) :: (t_l_quarrels_15 c)
noncomputable abbrev t_l_quarrels_17 (c : FT) : List ST := (sForR (tName 10) [(cOp opLen [(cV 6)])] (sSeq (t_l_quarrels_16 c))) :: []
noncomputable abbrev t_l_quarrels_18 (c : FT) : List ST := (sIf (bCmp .Eq (cV 5) (cC (.str "seq"))) (sSeq (t_l_quarrels_17 c)) (sSeq [])) :: []
noncomputable abbrev t_l_quarrels_19 (c : FT) : List ST := (sIf (bCmp .Eq (cV 5) (cC (.str "alt"))) (sSeq (t_l_quarrels_12 c)) (sSeq (t_l_quarrels_18 c))) :: []
noncomputable abbrev t_l_quarrels_20 (c : FT) : List ST := (sIf (bCmp .In (cV 5) (cTup [(cC (.str "opt")), (cC (.str "rep"))])) (sSeq (t_l_quarrels_6 c)) (sSeq (t_l_quarrels_19 c))) :: []
noncomputable abbrev t_l_quarrels_21 (c : FT) : List ST := (sAsg (tTup [5, 6]) (cV 0)) :: (t_l_quarrels_20 c)
noncomputable def b_l_quarrels (c : FT) : ST := (sSeq (t_l_quarrels_21 c))
noncomputable def nm_law : List Str := ["script", "pool", "rules", "rows", "step", "tree", "depth", "hollow", "name", "heads", "facts", "made", "after", "due"]
noncomputable abbrev t_law_1 : List ST := (sExp (cLm mApp (cV 3) [(cTup [(cBin .Add (cC (.str "R")) (cOp opStr [(cV 4)])), (cV 5)])])) :: []
noncomputable abbrev t_law_2 : List ST := (sStore (cV 2) (cBin .Add (cC (.str "R")) (cOp opStr [(cV 4)])) (cV 5)) :: t_law_1
noncomputable abbrev t_law_3 (c : FT) : List ST := (sAsg (tName 5) (cOp (c .l_tree) [(cV 1), (cList [(cC (.int 5))]), (cC (.int 0))])) :: t_law_2
noncomputable abbrev t_law_4 (c : FT) : List ST := (sStore (cV 7) (cV 8) (cOp (c .l_hollow) [(cSub (cV 2) (cV 8)), (cV 2), (cV 6)])) :: []
noncomputable abbrev t_law_5 (c : FT) : List ST := (sStore (cV 9) (cV 8) (cSSet (cOp (c .l_heads) [(cSub (cV 2) (cV 8)), (cV 2), (cV 7), (cV 6)]))) :: []
noncomputable abbrev t_law_6 (c : FT) : List ST := (sExp (cOp (c .l_quarrels) [(cSub (cV 2) (cV 8)), (cV 10), (cSub (cV 12) (cV 8)), (cV 8), (cV 13)])) :: []
noncomputable abbrev t_law_7 (c : FT) : List ST := (sIf (bCmp .NotEq (cOp opSorted [(cSub (cAttr "follows" (cV 11)) (cV 8))]) (cSub (cV 12) (cV 8))) (sSeq t_may_be_empty_2) (sSeq [])) :: (t_law_6 c)
noncomputable abbrev t_law_8 (c : FT) : List ST := (sIf (bOr [(bCmp .NotEq (cCmp .In (cV 8) (cAttr "empty" (cV 11))) (cSub (cV 7) (cV 8))), (bCmp .NotEq (cOp opSorted [(cSub (cAttr "firsts" (cV 11)) (cV 8))]) (cSub (cV 9) (cV 8)))]) (sSeq t_may_be_empty_2) (sSeq [])) :: (t_law_7 c)
noncomputable abbrev t_law_9 (c : FT) : List ST := (sRet (cCmp .Eq (cOp (c .conflicts) [(cV 11)]) (cV 13))) :: []
noncomputable abbrev t_law_10 (c : FT) : List ST := (sFor (tName 8) (cOp opSorted [(cV 2)]) (sSeq (t_law_8 c))) :: (t_law_9 c)
noncomputable abbrev t_law_11 (c : FT) : List ST := (sAsg (tName 13) (cList [])) :: (t_law_10 c)
noncomputable abbrev t_law_12 (c : FT) : List ST := (sAsg (tName 12) (cOp (c .l_after) [(cV 10)])) :: (t_law_11 c)
noncomputable abbrev t_law_13 (c : FT) : List ST := (sAsg (tName 11) (cOp (c .g_new) [(cV 3), (cC (.str "R0"))])) :: (t_law_12 c)
noncomputable abbrev t_law_14 (c : FT) : List ST := (sAsg (tName 10) (cTup [(cV 2), (cV 7), (cV 9)])) :: (t_law_13 c)
noncomputable abbrev t_law_15 (c : FT) : List ST := (sFor (tName 8) (cOp opSorted [(cV 2)]) (sSeq (t_law_5 c))) :: (t_law_14 c)
noncomputable abbrev t_law_16 (c : FT) : List ST := (sAsg (tName 9) cDict0) :: (t_law_15 c)
noncomputable abbrev t_law_17 (c : FT) : List ST := (sFor (tName 8) (cOp opSorted [(cV 2)]) (sSeq (t_law_4 c))) :: (t_law_16 c)
noncomputable abbrev t_law_18 (c : FT) : List ST := (sAsg (tName 7) cDict0) :: (t_law_17 c)
noncomputable abbrev t_law_19 (c : FT) : List ST := (sAsg (tName 6) (cOp opLen [(cV 2)])) :: (t_law_18 c)
noncomputable abbrev t_law_20 (c : FT) : List ST := (sForR (tName 4) [(cBin .Add (cC (.int 1)) (cOp (c .l_pick) [(cV 1), (cC (.int 3))]))] (sSeq (t_law_3 c))) :: (t_law_19 c)
noncomputable abbrev t_law_21 (c : FT) : List ST := (sAsg (tName 3) (cList [])) :: (t_law_20 c)
noncomputable abbrev t_law_22 (c : FT) : List ST := (sAsg (tName 2) cDict0) :: (t_law_21 c)
noncomputable abbrev t_law_23 (c : FT) : List ST := (sAsg (tName 1) (cOp (c .l_stock) [(cV 0)])) :: (t_law_22 c)
noncomputable def b_law (c : FT) : ST := (sSeq (t_law_23 c))
end Mine
set_option maxHeartbeats 4000000
namespace Mine
open PySem PySem.W PySem.Calls PyProof.Rows
theorem k_token_of : kOk fd_token_of.scope ["e", "table"] [] = true := by kernel_rfl
theorem k_is_token : kOk fd_is_token.scope ["e", "table"] [] = true := by kernel_rfl
theorem k_merge : kOk fd_merge.scope ["target", "source", "size", "token"] ["len"] = true := by kernel_rfl
theorem k_g_init : kOk fd_Grammar___init__.scope ["self", "rules", "start", "name", "e"] ["empty_rules", "first_rows", "follow_rows"] = true := by kernel_rfl
theorem k_g_nullable : kOk fd_Grammar_nullable.scope ["self", "e"] ["may_be_empty"] = true := by kernel_rfl
theorem k_g_first : kOk fd_Grammar_first.scope ["self", "e"] ["first_of"] = true := by kernel_rfl
theorem k_g_predict : kOk fd_Grammar_predict.scope ["self", "e", "after", "found"] ["dict", "merge"] = true := by kernel_rfl
theorem k_may_be_empty : kOk fd_may_be_empty.scope ["e", "table", "empty", "tag", "item"] ["may_be_empty"] = true := by kernel_rfl
theorem k_empty_rules : kOk fd_empty_rules.scope ["table", "order", "empty", "grown", "name"] ["may_be_empty"] = true := by kernel_rfl
section
variable {g : Gl} (G : GOk g) {n : Nat} {c : FT} (hc : ∀ f, SoundOp g n (fv f) (c f))
include G hc
theorem sd_token_of : SoundSs g n fd_token_of.scope nm_token_of fd_token_of.body (b_token_of c) :=
  have K := k_token_of
  (st_seq (.cons (st_if (b_cmp (s_sub (nmE K (j := 0) rfl rfl) s_int) s_str) (st_seq (.cons (st_ret (s_sub (nmE K (j := 0) rfl rfl) s_int)) .nil)) (st_seq .nil)) (.cons (st_if (b_and (.cons (b_cmp (s_sub (nmE K (j := 0) rfl rfl) s_int) s_str) (.cons (b_cmp (s_sub (nmE K (j := 0) rfl rfl) s_int) (nmE K (j := 1) rfl rfl)) .nil))) (st_seq (.cons (st_ret (s_sub (nmE K (j := 0) rfl rfl) s_int)) .nil)) (st_seq .nil)) (.cons (st_ret s_str) .nil))))
theorem sd_is_token : SoundSs g n fd_is_token.scope nm_is_token fd_is_token.body (b_is_token c) :=
  have K := k_is_token
  (st_seq (.cons (st_ret (s_or (.cons (s_cmp (s_sub (nmE K (j := 0) rfl rfl) s_int) s_str) (fun _ _ => rfl) (.cons (s_and (.cons (s_cmp (s_sub (nmE K (j := 0) rfl rfl) s_int) s_str) (fun _ _ => rfl) (.cons (s_cmp (s_sub (nmE K (j := 0) rfl rfl) s_int) (nmE K (j := 1) rfl rfl)) (fun _ _ => rfl) .nil))) (fun _ _ => rfl) .nil)))) .nil))
theorem sd_merge : SoundSs g n fd_merge.scope nm_merge fd_merge.body (b_merge c) :=
  have K := k_merge
  (st_seq (.cons (st_name (s_call (n_len G) (kG K rfl) rfl o_len (.cons (nmE K (j := 0) rfl rfl) (fun _ _ => rfl) .nil)) rfl (kN K (i := 2) rfl)) (.cons (st_for (nmE K (j := 1) rfl rfl) (t_name rfl (kN K (i := 3) rfl)) (st_seq (.cons (st_store s_bool (nmE K (j := 0) rfl rfl) (nmE K (j := 3) rfl rfl)) .nil))) (.cons (st_ret (s_cmp (s_call (n_len G) (kG K rfl) rfl o_len (.cons (nmE K (j := 0) rfl rfl) (fun _ _ => rfl) .nil)) (nmE K (j := 2) rfl rfl))) .nil))))
theorem sd_g_init : SoundSs g n fd_Grammar___init__.scope nm_g_init fd_Grammar___init__.body (b_g_init c) :=
  have K := k_g_init
  (st_seq (.cons (st_setA (ClsOk.of G) (noAttr G fun _ => by kernel_rfl) (nmE K (j := 2) rfl rfl) (nmE K (j := 0) rfl rfl)) (.cons (st_setA (ClsOk.of G) (noAttr G fun _ => by kernel_rfl) (s_list .nil) (nmE K (j := 0) rfl rfl)) (.cons (st_setA (ClsOk.of G) (noAttr G fun _ => by kernel_rfl) s_dict0 (nmE K (j := 0) rfl rfl)) (.cons (st_for (nmE K (j := 1) rfl rfl) (t_tup (.cons rfl (kN K (i := 3) rfl) (.cons rfl (kN K (i := 4) rfl) .nil))) (st_seq (.cons (st_if (b_cmp (nmE K (j := 3) rfl rfl) (s_attr (ClsOk.of G) (noAttr G fun _ => by kernel_rfl) (nmE K (j := 0) rfl rfl))) (st_seq (.cons (st_exp (s_lm PySem.F.slot_list_append PySem.F.type_list_append m_app (s_attr (ClsOk.of G) (noAttr G fun _ => by kernel_rfl) (nmE K (j := 0) rfl rfl)) (.cons (nmE K (j := 3) rfl rfl) (fun _ _ => rfl) .nil))) (.cons (st_store (nmE K (j := 4) rfl rfl) (s_attr (ClsOk.of G) (noAttr G fun _ => by kernel_rfl) (nmE K (j := 0) rfl rfl)) (nmE K (j := 3) rfl rfl)) .nil))) (st_seq .nil)) .nil))) (.cons (st_setA (ClsOk.of G) (noAttr G fun _ => by kernel_rfl) (s_call (n_empty_rules G) (kG K rfl) (kept G fun _ => by kernel_rfl) (hc .empty_rules) (.cons (s_attr (ClsOk.of G) (noAttr G fun _ => by kernel_rfl) (nmE K (j := 0) rfl rfl)) (fun _ _ => rfl) (.cons (s_attr (ClsOk.of G) (noAttr G fun _ => by kernel_rfl) (nmE K (j := 0) rfl rfl)) (fun _ _ => rfl) .nil))) (nmE K (j := 0) rfl rfl)) (.cons (st_setA (ClsOk.of G) (noAttr G fun _ => by kernel_rfl) (s_call (n_first_rows G) (kG K rfl) (kept G fun _ => by kernel_rfl) (hc .first_rows) (.cons (s_attr (ClsOk.of G) (noAttr G fun _ => by kernel_rfl) (nmE K (j := 0) rfl rfl)) (fun _ _ => rfl) (.cons (s_attr (ClsOk.of G) (noAttr G fun _ => by kernel_rfl) (nmE K (j := 0) rfl rfl)) (fun _ _ => rfl) (.cons (s_attr (ClsOk.of G) (noAttr G fun _ => by kernel_rfl) (nmE K (j := 0) rfl rfl)) (fun _ _ => rfl) .nil)))) (nmE K (j := 0) rfl rfl)) (.cons (st_setA (ClsOk.of G) (noAttr G fun _ => by kernel_rfl) (s_call (n_follow_rows G) (kG K rfl) (kept G fun _ => by kernel_rfl) (hc .follow_rows) (.cons (nmE K (j := 0) rfl rfl) (fun _ _ => rfl) .nil)) (nmE K (j := 0) rfl rfl)) .nil))))))))
theorem sd_g_nullable : SoundSs g n fd_Grammar_nullable.scope nm_g_nullable fd_Grammar_nullable.body (b_g_nullable c) :=
  have K := k_g_nullable
  (st_seq (.cons (st_ret (s_call (n_may_be_empty G) (kG K rfl) (kept G fun _ => by kernel_rfl) (hc .may_be_empty) (.cons (nmE K (j := 1) rfl rfl) (fun _ _ => rfl) (.cons (s_attr (ClsOk.of G) (noAttr G fun _ => by kernel_rfl) (nmE K (j := 0) rfl rfl)) (fun _ _ => rfl) (.cons (s_attr (ClsOk.of G) (noAttr G fun _ => by kernel_rfl) (nmE K (j := 0) rfl rfl)) (fun _ _ => rfl) .nil))))) .nil))
theorem sd_g_first : SoundSs g n fd_Grammar_first.scope nm_g_first fd_Grammar_first.body (b_g_first c) :=
  have K := k_g_first
  (st_seq (.cons (st_ret (s_call (n_first_of G) (kG K rfl) (kept G fun _ => by kernel_rfl) (hc .first_of) (.cons (nmE K (j := 1) rfl rfl) (fun _ _ => rfl) (.cons (s_attr (ClsOk.of G) (noAttr G fun _ => by kernel_rfl) (nmE K (j := 0) rfl rfl)) (fun _ _ => rfl) (.cons (s_attr (ClsOk.of G) (noAttr G fun _ => by kernel_rfl) (nmE K (j := 0) rfl rfl)) (fun _ _ => rfl) (.cons (s_attr (ClsOk.of G) (noAttr G fun _ => by kernel_rfl) (nmE K (j := 0) rfl rfl)) (fun _ _ => rfl) .nil)))))) .nil))
theorem sd_g_predict : SoundSs g n fd_Grammar_predict.scope nm_g_predict fd_Grammar_predict.body (b_g_predict c) :=
  have K := k_g_predict
  (st_seq (.cons (st_name (s_call (n_dict G) (kG K rfl) rfl o_dict (.cons (s_im (ClsOk.of G) (meth G (fa := 63) fun _ => by kernel_rfl) (isFun G fun _ => by kernel_rfl) (keptI G fun _ => by kernel_rfl) (hc .g_first) (nmE K (j := 0) rfl rfl) (.cons (nmE K (j := 1) rfl rfl) (fun _ _ => rfl) .nil)) (fun _ _ => rfl) .nil)) rfl (kN K (i := 3) rfl)) (.cons (st_if (b_val (s_im (ClsOk.of G) (meth G (fa := 56) fun _ => by kernel_rfl) (isFun G fun _ => by kernel_rfl) (keptI G fun _ => by kernel_rfl) (hc .g_nullable) (nmE K (j := 0) rfl rfl) (.cons (nmE K (j := 1) rfl rfl) (fun _ _ => rfl) .nil))) (st_seq (.cons (st_exp (s_call (n_merge G) (kG K rfl) (kept G fun _ => by kernel_rfl) (hc .merge) (.cons (nmE K (j := 3) rfl rfl) (fun _ _ => rfl) (.cons (nmE K (j := 2) rfl rfl) (fun _ _ => rfl) .nil)))) .nil)) (st_seq .nil)) (.cons (st_ret (nmE K (j := 3) rfl rfl)) .nil))))
theorem sd_may_be_empty : SoundSs g n fd_may_be_empty.scope nm_may_be_empty fd_may_be_empty.body (b_may_be_empty c) :=
  have K := k_may_be_empty
  (st_seq (.cons (st_name (s_sub (nmE K (j := 0) rfl rfl) s_int) rfl (kN K (i := 3) rfl)) (.cons (st_if (b_or (.cons (b_cmp (nmE K (j := 3) rfl rfl) s_str) (.cons (b_cmp (nmE K (j := 3) rfl rfl) s_str) .nil))) (st_seq (.cons (st_ret s_bool) .nil)) (st_seq .nil)) (.cons (st_if (b_cmp (nmE K (j := 3) rfl rfl) s_str) (st_seq (.cons (st_for (s_sub (nmE K (j := 0) rfl rfl) s_int) (t_name rfl (kN K (i := 4) rfl)) (st_seq (.cons (st_if (b_not (b_val (s_call (n_may_be_empty G) (kG K rfl) (kept G fun _ => by kernel_rfl) (hc .may_be_empty) (.cons (nmE K (j := 4) rfl rfl) (fun _ _ => rfl) (.cons (nmE K (j := 1) rfl rfl) (fun _ _ => rfl) (.cons (nmE K (j := 2) rfl rfl) (fun _ _ => rfl) .nil)))))) (st_seq (.cons (st_ret s_bool) .nil)) (st_seq .nil)) .nil))) (.cons (st_ret s_bool) .nil))) (st_seq .nil)) (.cons (st_if (b_cmp (nmE K (j := 3) rfl rfl) s_str) (st_seq (.cons (st_for (s_sub (nmE K (j := 0) rfl rfl) s_int) (t_name rfl (kN K (i := 4) rfl)) (st_seq (.cons (st_if (b_val (s_call (n_may_be_empty G) (kG K rfl) (kept G fun _ => by kernel_rfl) (hc .may_be_empty) (.cons (nmE K (j := 4) rfl rfl) (fun _ _ => rfl) (.cons (nmE K (j := 1) rfl rfl) (fun _ _ => rfl) (.cons (nmE K (j := 2) rfl rfl) (fun _ _ => rfl) .nil))))) (st_seq (.cons (st_ret s_bool) .nil)) (st_seq .nil)) .nil))) (.cons (st_ret s_bool) .nil))) (st_seq .nil)) (.cons (st_ret (s_and (.cons (s_cmp (nmE K (j := 3) rfl rfl) s_str) (fun _ _ => rfl) (.cons (s_cmp (s_sub (nmE K (j := 0) rfl rfl) s_int) (nmE K (j := 2) rfl rfl)) (fun _ _ => rfl) .nil)))) .nil))))))
theorem sd_empty_rules : SoundSs g n fd_empty_rules.scope nm_empty_rules fd_empty_rules.body (b_empty_rules c) :=
  have K := k_empty_rules
  (st_seq (.cons (st_name s_dict0 rfl (kN K (i := 2) rfl)) (.cons (st_name s_bool rfl (kN K (i := 3) rfl)) (.cons (st_while (b_val (nmE K (j := 3) rfl rfl)) (st_seq (.cons (st_name s_bool rfl (kN K (i := 3) rfl)) (.cons (st_for (nmE K (j := 1) rfl rfl) (t_name rfl (kN K (i := 4) rfl)) (st_seq (.cons (st_if (b_and (.cons (b_cmp (nmE K (j := 4) rfl rfl) (nmE K (j := 2) rfl rfl)) (.cons (b_val (s_call (n_may_be_empty G) (kG K rfl) (kept G fun _ => by kernel_rfl) (hc .may_be_empty) (.cons (s_sub (nmE K (j := 0) rfl rfl) (nmE K (j := 4) rfl rfl)) (fun _ _ => rfl) (.cons (nmE K (j := 0) rfl rfl) (fun _ _ => rfl) (.cons (nmE K (j := 2) rfl rfl) (fun _ _ => rfl) .nil))))) .nil))) (st_seq (.cons (st_store s_bool (nmE K (j := 2) rfl rfl) (nmE K (j := 4) rfl rfl)) (.cons (st_name s_bool rfl (kN K (i := 3) rfl)) .nil))) (st_seq .nil)) .nil))) .nil)))) (.cons (st_ret (nmE K (j := 2) rfl rfl)) .nil)))))
end
end Mine
set_option maxHeartbeats 4000000
namespace Mine
open PySem PySem.W PySem.Calls PyProof.Rows
theorem k_first_of : kOk fd_first_of.scope ["e", "table", "empty", "firsts", "tag", "found", "item"] ["first_of", "is_token", "may_be_empty", "merge", "token_of"] = true := by kernel_rfl
theorem k_first_rows : kOk fd_first_rows.scope ["table", "order", "empty", "firsts", "name", "grown"] ["first_of", "merge"] = true := by kernel_rfl
theorem k_follow_rows : kOk fd_follow_rows.scope ["grammar", "follows", "name", "grown"] ["END", "add_follows"] = true := by kernel_rfl
theorem k_add_follows : kOk fd_add_follows.scope ["grammar", "e", "after", "follows", "tag", "grown", "item", "behind"] ["add_follows", "merge", "parts"] = true := by kernel_rfl
theorem k_parts : kOk fd_parts.scope ["grammar", "e", "after", "found", "behind", "item"] ["reversed"] = true := by kernel_rfl
theorem k_shared : kOk fd_shared.scope ["first", "second"] ["sorted"] = true := by kernel_rfl
theorem k_conflicts : kOk fd_conflicts.scope ["grammar", "found", "name"] ["find_conflicts"] = true := by kernel_rfl
theorem k_find_conflicts : kOk fd_find_conflicts.scope ["grammar", "name", "e", "after", "found", "tag", "body", "kind", "both", "behind", "item"] ["add_alternatives", "find_conflicts", "len", "parts", "shared"] = true := by kernel_rfl
theorem k_add_alternatives : kOk fd_add_alternatives.scope ["grammar", "name", "e", "after", "found", "rows", "high", "low", "both"] ["len", "range", "shared"] = true := by kernel_rfl
section
variable {g : Gl} (G : GOk g) {n : Nat} {c : FT} (hc : ∀ f, SoundOp g n (fv f) (c f))
include G hc
theorem sd_first_of : SoundSs g n fd_first_of.scope nm_first_of fd_first_of.body (b_first_of c) :=
  have K := k_first_of
  (st_seq (.cons (st_if (b_val (s_call (n_is_token G) (kG K rfl) (kept G fun _ => by kernel_rfl) (hc .is_token) (.cons (nmE K (j := 0) rfl rfl) (fun _ _ => rfl) (.cons (nmE K (j := 1) rfl rfl) (fun _ _ => rfl) .nil)))) (st_seq (.cons (st_ret (s_dict1 (s_call (n_token_of G) (kG K rfl) (kept G fun _ => by kernel_rfl) (hc .token_of) (.cons (nmE K (j := 0) rfl rfl) (fun _ _ => rfl) (.cons (nmE K (j := 1) rfl rfl) (fun _ _ => rfl) .nil))) s_bool)) .nil)) (st_seq .nil)) (.cons (st_name (s_sub (nmE K (j := 0) rfl rfl) s_int) rfl (kN K (i := 4) rfl)) (.cons (st_if (b_cmp (nmE K (j := 4) rfl rfl) s_str) (st_seq (.cons (st_ret (s_sub (nmE K (j := 3) rfl rfl) (s_sub (nmE K (j := 0) rfl rfl) s_int))) .nil)) (st_seq .nil)) (.cons (st_if (b_or (.cons (b_cmp (nmE K (j := 4) rfl rfl) s_str) (.cons (b_cmp (nmE K (j := 4) rfl rfl) s_str) .nil))) (st_seq (.cons (st_ret (s_call (n_first_of G) (kG K rfl) (kept G fun _ => by kernel_rfl) (hc .first_of) (.cons (s_sub (nmE K (j := 0) rfl rfl) s_int) (fun _ _ => rfl) (.cons (nmE K (j := 1) rfl rfl) (fun _ _ => rfl) (.cons (nmE K (j := 2) rfl rfl) (fun _ _ => rfl) (.cons (nmE K (j := 3) rfl rfl) (fun _ _ => rfl) .nil)))))) .nil)) (st_seq .nil)) (.cons (st_name s_dict0 rfl (kN K (i := 5) rfl)) (.cons (st_for (s_sub (nmE K (j := 0) rfl rfl) s_int) (t_name rfl (kN K (i := 6) rfl)) (st_seq (.cons (st_exp (s_call (n_merge G) (kG K rfl) (kept G fun _ => by kernel_rfl) (hc .merge) (.cons (nmE K (j := 5) rfl rfl) (fun _ _ => rfl) (.cons (s_call (n_first_of G) (kG K rfl) (kept G fun _ => by kernel_rfl) (hc .first_of) (.cons (nmE K (j := 6) rfl rfl) (fun _ _ => rfl) (.cons (nmE K (j := 1) rfl rfl) (fun _ _ => rfl) (.cons (nmE K (j := 2) rfl rfl) (fun _ _ => rfl) (.cons (nmE K (j := 3) rfl rfl) (fun _ _ => rfl) .nil))))) (fun _ _ => rfl) .nil)))) (.cons (st_if (b_and (.cons (b_cmp (nmE K (j := 4) rfl rfl) s_str) (.cons (b_not (b_val (s_call (n_may_be_empty G) (kG K rfl) (kept G fun _ => by kernel_rfl) (hc .may_be_empty) (.cons (nmE K (j := 6) rfl rfl) (fun _ _ => rfl) (.cons (nmE K (j := 1) rfl rfl) (fun _ _ => rfl) (.cons (nmE K (j := 2) rfl rfl) (fun _ _ => rfl) .nil)))))) .nil))) (st_seq (.cons (st_ret (nmE K (j := 5) rfl rfl)) .nil)) (st_seq .nil)) .nil)))) (.cons (st_ret (nmE K (j := 5) rfl rfl)) .nil))))))))
theorem sd_first_rows : SoundSs g n fd_first_rows.scope nm_first_rows fd_first_rows.body (b_first_rows c) :=
  have K := k_first_rows
  (st_seq (.cons (st_name s_dict0 rfl (kN K (i := 3) rfl)) (.cons (st_for (nmE K (j := 1) rfl rfl) (t_name rfl (kN K (i := 4) rfl)) (st_seq (.cons (st_store s_dict0 (nmE K (j := 3) rfl rfl) (nmE K (j := 4) rfl rfl)) .nil))) (.cons (st_name s_bool rfl (kN K (i := 5) rfl)) (.cons (st_while (b_val (nmE K (j := 5) rfl rfl)) (st_seq (.cons (st_name s_bool rfl (kN K (i := 5) rfl)) (.cons (st_for (nmE K (j := 1) rfl rfl) (t_name rfl (kN K (i := 4) rfl)) (st_seq (.cons (st_if (b_val (s_call (n_merge G) (kG K rfl) (kept G fun _ => by kernel_rfl) (hc .merge) (.cons (s_sub (nmE K (j := 3) rfl rfl) (nmE K (j := 4) rfl rfl)) (fun _ _ => rfl) (.cons (s_call (n_first_of G) (kG K rfl) (kept G fun _ => by kernel_rfl) (hc .first_of) (.cons (s_sub (nmE K (j := 0) rfl rfl) (nmE K (j := 4) rfl rfl)) (fun _ _ => rfl) (.cons (nmE K (j := 0) rfl rfl) (fun _ _ => rfl) (.cons (nmE K (j := 2) rfl rfl) (fun _ _ => rfl) (.cons (nmE K (j := 3) rfl rfl) (fun _ _ => rfl) .nil))))) (fun _ _ => rfl) .nil)))) (st_seq (.cons (st_name s_bool rfl (kN K (i := 5) rfl)) .nil)) (st_seq .nil)) .nil))) .nil)))) (.cons (st_ret (nmE K (j := 3) rfl rfl)) .nil))))))
theorem sd_follow_rows : SoundSs g n fd_follow_rows.scope nm_follow_rows fd_follow_rows.body (b_follow_rows c) :=
  have K := k_follow_rows
  (st_seq (.cons (st_name s_dict0 rfl (kN K (i := 1) rfl)) (.cons (st_for (s_attr (ClsOk.of G) (noAttr G fun _ => by kernel_rfl) (nmE K (j := 0) rfl rfl)) (t_name rfl (kN K (i := 2) rfl)) (st_seq (.cons (st_store s_dict0 (nmE K (j := 1) rfl rfl) (nmE K (j := 2) rfl rfl)) .nil))) (.cons (st_if (b_cmp (s_attr (ClsOk.of G) (noAttr G fun _ => by kernel_rfl) (nmE K (j := 0) rfl rfl)) (nmE K (j := 1) rfl rfl)) (st_seq (.cons (st_store s_bool (s_sub (nmE K (j := 1) rfl rfl) (s_attr (ClsOk.of G) (noAttr G fun _ => by kernel_rfl) (nmE K (j := 0) rfl rfl))) (s_glob (n_END G) (kG K rfl) rfl)) .nil)) (st_seq .nil)) (.cons (st_name s_bool rfl (kN K (i := 3) rfl)) (.cons (st_while (b_val (nmE K (j := 3) rfl rfl)) (st_seq (.cons (st_name s_bool rfl (kN K (i := 3) rfl)) (.cons (st_for (s_attr (ClsOk.of G) (noAttr G fun _ => by kernel_rfl) (nmE K (j := 0) rfl rfl)) (t_name rfl (kN K (i := 2) rfl)) (st_seq (.cons (st_if (b_val (s_call (n_add_follows G) (kG K rfl) (kept G fun _ => by kernel_rfl) (hc .add_follows) (.cons (nmE K (j := 0) rfl rfl) (fun _ _ => rfl) (.cons (s_sub (s_attr (ClsOk.of G) (noAttr G fun _ => by kernel_rfl) (nmE K (j := 0) rfl rfl)) (nmE K (j := 2) rfl rfl)) (fun _ _ => rfl) (.cons (s_sub (nmE K (j := 1) rfl rfl) (nmE K (j := 2) rfl rfl)) (fun _ _ => rfl) (.cons (nmE K (j := 1) rfl rfl) (fun _ _ => rfl) .nil)))))) (st_seq (.cons (st_name s_bool rfl (kN K (i := 3) rfl)) .nil)) (st_seq .nil)) .nil))) .nil)))) (.cons (st_ret (nmE K (j := 1) rfl rfl)) .nil)))))))
theorem sd_add_follows : SoundSs g n fd_add_follows.scope nm_add_follows fd_add_follows.body (b_add_follows c) :=
  have K := k_add_follows
  (st_seq (.cons (st_name (s_sub (nmE K (j := 1) rfl rfl) s_int) rfl (kN K (i := 4) rfl)) (.cons (st_if (b_cmp (nmE K (j := 4) rfl rfl) s_str) (st_seq (.cons (st_if (b_cmp (s_sub (nmE K (j := 1) rfl rfl) s_int) (nmE K (j := 3) rfl rfl)) (st_seq (.cons (st_ret (s_call (n_merge G) (kG K rfl) (kept G fun _ => by kernel_rfl) (hc .merge) (.cons (s_sub (nmE K (j := 3) rfl rfl) (s_sub (nmE K (j := 1) rfl rfl) s_int)) (fun _ _ => rfl) (.cons (nmE K (j := 2) rfl rfl) (fun _ _ => rfl) .nil)))) .nil)) (st_seq .nil)) (.cons (st_ret s_bool) .nil))) (st_seq .nil)) (.cons (st_if (b_cmp (nmE K (j := 4) rfl rfl) s_str) (st_seq (.cons (st_ret s_bool) .nil)) (st_seq .nil)) (.cons (st_if (b_cmp (nmE K (j := 4) rfl rfl) s_str) (st_seq (.cons (st_ret (s_call (n_add_follows G) (kG K rfl) (kept G fun _ => by kernel_rfl) (hc .add_follows) (.cons (nmE K (j := 0) rfl rfl) (fun _ _ => rfl) (.cons (s_sub (nmE K (j := 1) rfl rfl) s_int) (fun _ _ => rfl) (.cons (nmE K (j := 2) rfl rfl) (fun _ _ => rfl) (.cons (nmE K (j := 3) rfl rfl) (fun _ _ => rfl) .nil)))))) .nil)) (st_seq .nil)) (.cons (st_if (b_cmp (nmE K (j := 4) rfl rfl) s_str) (st_seq (.cons (st_ret (s_call (n_add_follows G) (kG K rfl) (kept G fun _ => by kernel_rfl) (hc .add_follows) (.cons (nmE K (j := 0) rfl rfl) (fun _ _ => rfl) (.cons (s_sub (nmE K (j := 1) rfl rfl) s_int) (fun _ _ => rfl) (.cons (s_im (ClsOk.of G) (meth G (fa := 70) fun _ => by kernel_rfl) (isFun G fun _ => by kernel_rfl) (keptI G fun _ => by kernel_rfl) (hc .g_predict) (nmE K (j := 0) rfl rfl) (.cons (nmE K (j := 1) rfl rfl) (fun _ _ => rfl) (.cons (nmE K (j := 2) rfl rfl) (fun _ _ => rfl) .nil))) (fun _ _ => rfl) (.cons (nmE K (j := 3) rfl rfl) (fun _ _ => rfl) .nil)))))) .nil)) (st_seq .nil)) (.cons (st_name s_bool rfl (kN K (i := 5) rfl)) (.cons (st_for (s_call (n_parts G) (kG K rfl) (kept G fun _ => by kernel_rfl) (hc .parts) (.cons (nmE K (j := 0) rfl rfl) (fun _ _ => rfl) (.cons (nmE K (j := 1) rfl rfl) (fun _ _ => rfl) (.cons (nmE K (j := 2) rfl rfl) (fun _ _ => rfl) .nil)))) (t_tup (.cons rfl (kN K (i := 6) rfl) (.cons rfl (kN K (i := 7) rfl) .nil))) (st_seq (.cons (st_if (b_val (s_call (n_add_follows G) (kG K rfl) (kept G fun _ => by kernel_rfl) (hc .add_follows) (.cons (nmE K (j := 0) rfl rfl) (fun _ _ => rfl) (.cons (nmE K (j := 6) rfl rfl) (fun _ _ => rfl) (.cons (nmE K (j := 7) rfl rfl) (fun _ _ => rfl) (.cons (nmE K (j := 3) rfl rfl) (fun _ _ => rfl) .nil)))))) (st_seq (.cons (st_name s_bool rfl (kN K (i := 5) rfl)) .nil)) (st_seq .nil)) .nil))) (.cons (st_ret (nmE K (j := 5) rfl rfl)) .nil)))))))))
theorem sd_parts : SoundSs g n fd_parts.scope nm_parts fd_parts.body (b_parts c) :=
  have K := k_parts
  (st_seq (.cons (st_name (s_list .nil) rfl (kN K (i := 3) rfl)) (.cons (st_name (nmE K (j := 2) rfl rfl) rfl (kN K (i := 4) rfl)) (.cons (st_forV (n_reversed G) (kG K rfl) (s_sub (nmE K (j := 1) rfl rfl) s_int) (fun _ _ => rfl) (t_name rfl (kN K (i := 5) rfl)) (st_seq (.cons (st_exp (s_lm PySem.F.slot_list_append PySem.F.type_list_append m_app (nmE K (j := 3) rfl rfl) (.cons (s_tup (.cons (nmE K (j := 5) rfl rfl) (fun _ _ => rfl) (.cons (nmE K (j := 4) rfl rfl) (fun _ _ => rfl) .nil))) (fun _ _ => rfl) .nil))) (.cons (st_if (b_cmp (s_sub (nmE K (j := 1) rfl rfl) s_int) s_str) (st_seq (.cons (st_name (s_im (ClsOk.of G) (meth G (fa := 70) fun _ => by kernel_rfl) (isFun G fun _ => by kernel_rfl) (keptI G fun _ => by kernel_rfl) (hc .g_predict) (nmE K (j := 0) rfl rfl) (.cons (nmE K (j := 5) rfl rfl) (fun _ _ => rfl) (.cons (nmE K (j := 4) rfl rfl) (fun _ _ => rfl) .nil))) rfl (kN K (i := 4) rfl)) .nil)) (st_seq .nil)) .nil)))) (.cons (st_exp (s_lm PySem.F.slot_list_reverse PySem.F.type_list_reverse m_rev (nmE K (j := 3) rfl rfl) .nil)) (.cons (st_ret (nmE K (j := 3) rfl rfl)) .nil))))))
theorem sd_shared : SoundSs g n fd_shared.scope nm_shared fd_shared.body (b_shared c) :=
  have K := k_shared
  (st_seq (.cons (st_ret (s_call (n_sorted G) (kG K rfl) rfl o_sorted (.cons (s_comp (by kernel_rfl) rfl (nmE K (j := 0) rfl rfl) (.one (b_cmp (nmE (loc := ["token", "second"]) (gl := []) (by kernel_rfl) (j := 0) rfl rfl) (nmE (loc := ["token", "second"]) (gl := []) (by kernel_rfl) (j := 1) rfl rfl))) (nmE (loc := ["token", "second"]) (gl := []) (by kernel_rfl) (j := 0) rfl rfl)) (fun _ _ => rfl) .nil))) .nil))
theorem sd_conflicts : SoundSs g n fd_conflicts.scope nm_conflicts fd_conflicts.body (b_conflicts c) :=
  have K := k_conflicts
  (st_seq (.cons (st_name (s_list .nil) rfl (kN K (i := 1) rfl)) (.cons (st_for (s_attr (ClsOk.of G) (noAttr G fun _ => by kernel_rfl) (nmE K (j := 0) rfl rfl)) (t_name rfl (kN K (i := 2) rfl)) (st_seq (.cons (st_exp (s_call (n_find_conflicts G) (kG K rfl) (kept G fun _ => by kernel_rfl) (hc .find_conflicts) (.cons (nmE K (j := 0) rfl rfl) (fun _ _ => rfl) (.cons (nmE K (j := 2) rfl rfl) (fun _ _ => rfl) (.cons (s_sub (s_attr (ClsOk.of G) (noAttr G fun _ => by kernel_rfl) (nmE K (j := 0) rfl rfl)) (nmE K (j := 2) rfl rfl)) (fun _ _ => rfl) (.cons (s_sub (s_attr (ClsOk.of G) (noAttr G fun _ => by kernel_rfl) (nmE K (j := 0) rfl rfl)) (nmE K (j := 2) rfl rfl)) (fun _ _ => rfl) (.cons (nmE K (j := 1) rfl rfl) (fun _ _ => rfl) .nil))))))) .nil))) (.cons (st_ret (nmE K (j := 1) rfl rfl)) .nil))))
theorem sd_find_conflicts : SoundSs g n fd_find_conflicts.scope nm_find_conflicts fd_find_conflicts.body (b_find_conflicts c) :=
  have K := k_find_conflicts
  (st_seq (.cons (st_name (s_sub (nmE K (j := 2) rfl rfl) s_int) rfl (kN K (i := 5) rfl)) (.cons (st_if (b_or (.cons (b_cmp (nmE K (j := 5) rfl rfl) s_str) (.cons (b_cmp (nmE K (j := 5) rfl rfl) s_str) .nil))) (st_seq (.cons st_retN .nil)) (st_seq .nil)) (.cons (st_if (b_or (.cons (b_cmp (nmE K (j := 5) rfl rfl) s_str) (.cons (b_cmp (nmE K (j := 5) rfl rfl) s_str) .nil))) (st_seq (.cons (st_name (s_sub (nmE K (j := 2) rfl rfl) s_int) rfl (kN K (i := 6) rfl)) (.cons (st_name (s_if (b_cmp (nmE K (j := 5) rfl rfl) s_str) s_str s_str) rfl (kN K (i := 7) rfl)) (.cons (st_if (b_val (s_im (ClsOk.of G) (meth G (fa := 56) fun _ => by kernel_rfl) (isFun G fun _ => by kernel_rfl) (keptI G fun _ => by kernel_rfl) (hc .g_nullable) (nmE K (j := 0) rfl rfl) (.cons (nmE K (j := 6) rfl rfl) (fun _ _ => rfl) .nil))) (st_seq (.cons (st_exp (s_lm PySem.F.slot_list_append PySem.F.type_list_append m_app (nmE K (j := 4) rfl rfl) (.cons (s_tup (.cons (nmE K (j := 1) rfl rfl) (fun _ _ => rfl) (.cons s_str (fun _ _ => rfl) (.cons (s_list .nil) (fun _ _ => rfl) .nil)))) (fun _ _ => rfl) .nil))) .nil)) (st_seq .nil)) (.cons (st_name (s_call (n_shared G) (kG K rfl) (kept G fun _ => by kernel_rfl) (hc .shared) (.cons (s_im (ClsOk.of G) (meth G (fa := 63) fun _ => by kernel_rfl) (isFun G fun _ => by kernel_rfl) (keptI G fun _ => by kernel_rfl) (hc .g_first) (nmE K (j := 0) rfl rfl) (.cons (nmE K (j := 6) rfl rfl) (fun _ _ => rfl) .nil)) (fun _ _ => rfl) (.cons (nmE K (j := 3) rfl rfl) (fun _ _ => rfl) .nil))) rfl (kN K (i := 8) rfl)) (.cons (st_if (b_cmp (s_call (n_len G) (kG K rfl) rfl o_len (.cons (nmE K (j := 8) rfl rfl) (fun _ _ => rfl) .nil)) s_int) (st_seq (.cons (st_exp (s_lm PySem.F.slot_list_append PySem.F.type_list_append m_app (nmE K (j := 4) rfl rfl) (.cons (s_tup (.cons (nmE K (j := 1) rfl rfl) (fun _ _ => rfl) (.cons (nmE K (j := 7) rfl rfl) (fun _ _ => rfl) (.cons (nmE K (j := 8) rfl rfl) (fun _ _ => rfl) .nil)))) (fun _ _ => rfl) .nil))) .nil)) (st_seq .nil)) (.cons (st_name (nmE K (j := 3) rfl rfl) rfl (kN K (i := 9) rfl)) (.cons (st_if (b_cmp (nmE K (j := 5) rfl rfl) s_str) (st_seq (.cons (st_name (s_im (ClsOk.of G) (meth G (fa := 70) fun _ => by kernel_rfl) (isFun G fun _ => by kernel_rfl) (keptI G fun _ => by kernel_rfl) (hc .g_predict) (nmE K (j := 0) rfl rfl) (.cons (nmE K (j := 2) rfl rfl) (fun _ _ => rfl) (.cons (nmE K (j := 3) rfl rfl) (fun _ _ => rfl) .nil))) rfl (kN K (i := 9) rfl)) .nil)) (st_seq .nil)) (.cons (st_exp (s_call (n_find_conflicts G) (kG K rfl) (kept G fun _ => by kernel_rfl) (hc .find_conflicts) (.cons (nmE K (j := 0) rfl rfl) (fun _ _ => rfl) (.cons (nmE K (j := 1) rfl rfl) (fun _ _ => rfl) (.cons (nmE K (j := 6) rfl rfl) (fun _ _ => rfl) (.cons (nmE K (j := 9) rfl rfl) (fun _ _ => rfl) (.cons (nmE K (j := 4) rfl rfl) (fun _ _ => rfl) .nil))))))) (.cons st_retN .nil)))))))))) (st_seq .nil)) (.cons (st_if (b_cmp (nmE K (j := 5) rfl rfl) s_str) (st_seq (.cons (st_exp (s_call (n_add_alternatives G) (kG K rfl) (kept G fun _ => by kernel_rfl) (hc .add_alternatives) (.cons (nmE K (j := 0) rfl rfl) (fun _ _ => rfl) (.cons (nmE K (j := 1) rfl rfl) (fun _ _ => rfl) (.cons (nmE K (j := 2) rfl rfl) (fun _ _ => rfl) (.cons (nmE K (j := 3) rfl rfl) (fun _ _ => rfl) (.cons (nmE K (j := 4) rfl rfl) (fun _ _ => rfl) .nil))))))) .nil)) (st_seq .nil)) (.cons (st_for (s_call (n_parts G) (kG K rfl) (kept G fun _ => by kernel_rfl) (hc .parts) (.cons (nmE K (j := 0) rfl rfl) (fun _ _ => rfl) (.cons (nmE K (j := 2) rfl rfl) (fun _ _ => rfl) (.cons (nmE K (j := 3) rfl rfl) (fun _ _ => rfl) .nil)))) (t_tup (.cons rfl (kN K (i := 10) rfl) (.cons rfl (kN K (i := 9) rfl) .nil))) (st_seq (.cons (st_exp (s_call (n_find_conflicts G) (kG K rfl) (kept G fun _ => by kernel_rfl) (hc .find_conflicts) (.cons (nmE K (j := 0) rfl rfl) (fun _ _ => rfl) (.cons (nmE K (j := 1) rfl rfl) (fun _ _ => rfl) (.cons (nmE K (j := 10) rfl rfl) (fun _ _ => rfl) (.cons (nmE K (j := 9) rfl rfl) (fun _ _ => rfl) (.cons (nmE K (j := 4) rfl rfl) (fun _ _ => rfl) .nil))))))) .nil))) .nil))))))
theorem sd_add_alternatives : SoundSs g n fd_add_alternatives.scope nm_add_alternatives fd_add_alternatives.body (b_add_alternatives c) :=
  have K := k_add_alternatives
  (st_seq (.cons (st_comp (by kernel_rfl) rfl rfl (kN K (i := 5) rfl) (s_sub (nmE K (j := 2) rfl rfl) s_int) .nil (s_im (ClsOk.of G) (meth G (fa := 70) fun _ => by kernel_rfl) (isFun G fun _ => by kernel_rfl) (keptI G fun _ => by kernel_rfl) (hc .g_predict) (nmE (loc := ["item", "after", "grammar"]) (gl := []) (by kernel_rfl) (j := 2) rfl rfl) (.cons (nmE (loc := ["item", "after", "grammar"]) (gl := []) (by kernel_rfl) (j := 0) rfl rfl) (fun _ _ => rfl) (.cons (nmE (loc := ["item", "after", "grammar"]) (gl := []) (by kernel_rfl) (j := 1) rfl rfl) (fun _ _ => rfl) .nil))) (swaps_is (by kernel_rfl))) (.cons (st_forR (n_range G) (kG K rfl) (.cons (s_call (n_len G) (kG K rfl) rfl o_len (.cons (nmE K (j := 5) rfl rfl) (fun _ _ => rfl) .nil)) (fun _ _ => rfl) .nil) (t_name rfl (kN K (i := 6) rfl)) (st_seq (.cons (st_forR (n_range G) (kG K rfl) (.cons (nmE K (j := 6) rfl rfl) (fun _ _ => rfl) .nil) (t_name rfl (kN K (i := 7) rfl)) (st_seq (.cons (st_name (s_call (n_shared G) (kG K rfl) (kept G fun _ => by kernel_rfl) (hc .shared) (.cons (s_sub (nmE K (j := 5) rfl rfl) (nmE K (j := 7) rfl rfl)) (fun _ _ => rfl) (.cons (s_sub (nmE K (j := 5) rfl rfl) (nmE K (j := 6) rfl rfl)) (fun _ _ => rfl) .nil))) rfl (kN K (i := 8) rfl)) (.cons (st_if (b_cmp (s_call (n_len G) (kG K rfl) rfl o_len (.cons (nmE K (j := 8) rfl rfl) (fun _ _ => rfl) .nil)) s_int) (st_seq (.cons (st_exp (s_lm PySem.F.slot_list_append PySem.F.type_list_append m_app (nmE K (j := 4) rfl rfl) (.cons (s_tup (.cons (nmE K (j := 1) rfl rfl) (fun _ _ => rfl) (.cons s_str (fun _ _ => rfl) (.cons (nmE K (j := 8) rfl rfl) (fun _ _ => rfl) .nil)))) (fun _ _ => rfl) .nil))) .nil)) (st_seq .nil)) .nil)))) .nil))) .nil)))
end
end Mine
set_option maxHeartbeats 4000000
namespace Mine
open PySem PySem.W PySem.Calls PyProof.Rows
theorem k_l_stock : kOk fd__law_stock.scope ["script", "waiting", "cell", "rest", "turn"] ["len", "sum"] = true := by kernel_rfl
theorem k_l_pick : kOk fd__law_pick.scope ["pool", "ways"] ["max"] = true := by kernel_rfl
theorem k_l_tree : kOk fd__law_tree.scope ["pool", "spare", "deep", "kind"] ["_law_pick", "_law_tree"] = true := by kernel_rfl
theorem k_l_hollow : kOk fd__law_hollow.scope ["tree", "rules", "depth", "kind", "value"] ["_law_hollow"] = true := by kernel_rfl
theorem k_l_none : kOk fd__law_none.scope ["tree", "hollow", "kind", "value", "row"] [] = true := by kernel_rfl
theorem k_l_heads : kOk fd__law_heads.scope ["tree", "rules", "hollow", "depth", "kind", "value", "found", "piece"] ["_law_heads", "_law_none"] = true := by kernel_rfl
theorem k_l_front : kOk fd__law_front.scope ["tree", "facts", "rules", "hollow", "heads", "kind", "value", "found", "piece"] ["_law_front", "_law_none", "set", "sorted"] = true := by kernel_rfl
theorem k_l_ahead : kOk fd__law_ahead.scope ["tree", "facts", "behind", "found"] ["_law_front", "_law_none", "set", "sorted"] = true := by kernel_rfl
theorem k_l_walk : kOk fd__law_walk.scope ["tree", "facts", "behind", "calls", "kind", "value", "piece", "step"] ["_law_ahead", "_law_walk", "len", "range"] = true := by kernel_rfl
theorem k_l_after : kOk fd__law_after.scope ["facts", "due", "calls", "name", "seen", "behind"] ["_law_walk", "set", "sorted"] = true := by kernel_rfl
theorem k_l_quarrels : kOk fd__law_quarrels.scope ["tree", "facts", "behind", "name", "found", "kind", "value", "common", "rows", "piece", "step", "rest", "later"] ["_law_ahead", "_law_front", "_law_none", "_law_quarrels", "len", "range"] = true := by kernel_rfl
theorem k_law : kOk fd_law.scope ["script", "pool", "rules", "rows", "step", "tree", "depth", "hollow", "name", "heads", "facts", "made", "after", "due"] ["Grammar", "_law_after", "_law_heads", "_law_hollow", "_law_pick", "_law_quarrels", "_law_stock", "_law_tree", "conflicts", "len", "range", "set", "sorted", "str"] = true := by kernel_rfl
section
variable {g : Gl} (G : GOk g) {n : Nat} {c : FT} (hc : ∀ f, SoundOp g n (fv f) (c f))
include G hc
theorem sd_l_stock : SoundSs g n fd__law_stock.scope nm_l_stock fd__law_stock.body (b_l_stock g c) :=
  have K := k_l_stock
  (st_seq (.cons (st_name (s_list .nil) rfl (kN K (i := 1) rfl)) (.cons (st_for (s_slice (nmE K (j := 0) rfl rfl)) (t_name rfl (kN K (i := 2) rfl)) (st_seq (.cons (st_name (s_if (b_cmp (nmE K (j := 2) rfl rfl) s_int) (nmE K (j := 2) rfl rfl) (s_bin s_int (nmE K (j := 2) rfl rfl))) rfl (kN K (i := 3) rfl)) (.cons (st_exp (s_lm PySem.F.slot_list_append PySem.F.type_list_append m_app (nmE K (j := 1) rfl rfl) (.cons (s_bin (nmE K (j := 3) rfl rfl) s_int) (fun _ _ => rfl) .nil))) (.cons (st_name (s_bin (nmE K (j := 3) rfl rfl) s_int) rfl (kN K (i := 3) rfl)) (.cons (st_while (b_and (.cons (b_cmp (nmE K (j := 3) rfl rfl) s_int) (.cons (b_cmp (s_call (n_len G) (kG K rfl) rfl o_len (.cons (nmE K (j := 1) rfl rfl) (fun _ _ => rfl) .nil)) s_int) .nil))) (st_seq (.cons (st_exp (s_lm PySem.F.slot_list_append PySem.F.type_list_append m_app (nmE K (j := 1) rfl rfl) (.cons (s_bin (nmE K (j := 3) rfl rfl) s_int) (fun _ _ => rfl) .nil))) (.cons (st_name (s_bin (nmE K (j := 3) rfl rfl) s_int) rfl (kN K (i := 3) rfl)) .nil)))) .nil)))))) (.cons (st_name s_int rfl (kN K (i := 4) rfl)) (.cons (st_if (b_cmp (s_call (n_len G) (kG K rfl) rfl o_lenS (.cons (nmE K (j := 0) rfl rfl) (fun _ _ => rfl) .nil)) s_int) (st_seq (.cons (st_name (s_bin s_int (s_bin (s_call (n_sum G) (kG K rfl) rfl o_sum (.cons (nmE K (j := 1) rfl rfl) (fun _ _ => rfl) .nil)) s_int)) rfl (kN K (i := 4) rfl)) .nil)) (st_seq .nil)) (.cons (st_exp (s_lm PySem.F.slot_list_reverse PySem.F.type_list_reverse m_rev (nmE K (j := 1) rfl rfl) .nil)) (.cons (st_ret (s_list (.cons (nmE K (j := 1) rfl rfl) (fun _ _ => rfl) (.cons (nmE K (j := 4) rfl rfl) (fun _ _ => rfl) .nil)))) .nil)))))))
theorem sd_l_pick : SoundSs g n fd__law_pick.scope nm_l_pick fd__law_pick.body (b_l_pick c) :=
  have K := k_l_pick
  (st_seq (.cons (st_if (b_cmp (s_sub (nmE K (j := 0) rfl rfl) s_int) (s_list .nil)) (st_seq (.cons (st_ret (s_bin (s_lm PySem.F.slot_list_pop PySem.F.type_list_pop m_pop (s_sub (nmE K (j := 0) rfl rfl) s_int) .nil) (nmE K (j := 1) rfl rfl))) .nil)) (st_seq .nil)) (.cons (st_if (b_cmp (s_sub (nmE K (j := 0) rfl rfl) s_int) s_int) (st_seq (.cons (st_store (s_call (n_max G) (kG K rfl) rfl o_max (.cons (s_bin (s_bin (s_bin (s_sub (nmE K (j := 0) rfl rfl) s_int) s_int) s_int) s_int) (fun _ _ => rfl) (.cons s_int (fun _ _ => rfl) .nil))) (nmE K (j := 0) rfl rfl) s_int) .nil)) (st_seq .nil)) (.cons (st_ret (s_bin (s_sub (nmE K (j := 0) rfl rfl) s_int) (nmE K (j := 1) rfl rfl))) .nil))))
theorem sd_l_tree : SoundSs g n fd__law_tree.scope nm_l_tree fd__law_tree.body (b_l_tree c) :=
  have K := k_l_tree
  (st_seq (.cons (st_isub s_int (nmE K (j := 1) rfl rfl) s_int) (.cons (st_name (s_call (n__law_pick G) (kG K rfl) (kept G fun _ => by kernel_rfl) (hc .l_pick) (.cons (nmE K (j := 0) rfl rfl) (fun _ _ => rfl) (.cons (s_if (b_and (.cons (b_cmp (nmE K (j := 2) rfl rfl) s_int) (.cons (b_cmp (s_sub (nmE K (j := 1) rfl rfl) s_int) s_int) .nil))) s_int s_int) (fun _ _ => rfl) .nil))) rfl (kN K (i := 3) rfl)) (.cons (st_if (b_cmp (nmE K (j := 3) rfl rfl) s_int) (st_seq (.cons (st_ret (s_tup (.cons s_str (fun _ _ => rfl) (.cons (s_subS (s_call (n__law_pick G) (kG K rfl) (kept G fun _ => by kernel_rfl) (hc .l_pick) (.cons (nmE K (j := 0) rfl rfl) (fun _ _ => rfl) (.cons s_int (fun _ _ => rfl) .nil)))) (fun _ _ => rfl) .nil)))) .nil)) (st_seq .nil)) (.cons (st_if (b_cmp (nmE K (j := 3) rfl rfl) s_int) (st_seq (.cons (st_ret (s_tup (.cons s_str (fun _ _ => rfl) (.cons (s_sub (s_list (.cons s_str (fun _ _ => rfl) (.cons s_str (fun _ _ => rfl) (.cons s_str (fun _ _ => rfl) (.cons s_str (fun _ _ => rfl) .nil))))) (s_call (n__law_pick G) (kG K rfl) (kept G fun _ => by kernel_rfl) (hc .l_pick) (.cons (nmE K (j := 0) rfl rfl) (fun _ _ => rfl) (.cons s_int (fun _ _ => rfl) .nil)))) (fun _ _ => rfl) .nil)))) .nil)) (st_seq .nil)) (.cons (st_if (b_cmp (nmE K (j := 3) rfl rfl) s_int) (st_seq (.cons (st_ret (s_tup (.cons s_str (fun _ _ => rfl) (.cons (s_tup .nil) (fun _ _ => rfl) .nil)))) .nil)) (st_seq .nil)) (.cons (st_if (b_or (.cons (b_cmp (nmE K (j := 3) rfl rfl) s_int) (.cons (b_cmp (nmE K (j := 3) rfl rfl) s_int) .nil))) (st_seq (.cons (st_ret (s_tup (.cons (s_sub (s_list (.cons s_str (fun _ _ => rfl) (.cons s_str (fun _ _ => rfl) .nil))) (s_bin (nmE K (j := 3) rfl rfl) s_int)) (fun _ _ => rfl) (.cons (s_call (n__law_tree G) (kG K rfl) (kept G fun _ => by kernel_rfl) (hc .l_tree) (.cons (nmE K (j := 0) rfl rfl) (fun _ _ => rfl) (.cons (nmE K (j := 1) rfl rfl) (fun _ _ => rfl) (.cons (s_bin (nmE K (j := 2) rfl rfl) s_int) (fun _ _ => rfl) .nil)))) (fun _ _ => rfl) .nil)))) .nil)) (st_seq .nil)) (.cons (st_ret (s_tup (.cons (s_if (b_cmp (nmE K (j := 3) rfl rfl) s_int) s_str s_str) (fun _ _ => rfl) (.cons (s_tup (.cons (s_call (n__law_tree G) (kG K rfl) (kept G fun _ => by kernel_rfl) (hc .l_tree) (.cons (nmE K (j := 0) rfl rfl) (fun _ _ => rfl) (.cons (nmE K (j := 1) rfl rfl) (fun _ _ => rfl) (.cons (s_bin (nmE K (j := 2) rfl rfl) s_int) (fun _ _ => rfl) .nil)))) (fun _ _ => rfl) (.cons (s_call (n__law_tree G) (kG K rfl) (kept G fun _ => by kernel_rfl) (hc .l_tree) (.cons (nmE K (j := 0) rfl rfl) (fun _ _ => rfl) (.cons (nmE K (j := 1) rfl rfl) (fun _ _ => rfl) (.cons (s_bin (nmE K (j := 2) rfl rfl) s_int) (fun _ _ => rfl) .nil)))) (fun _ _ => rfl) .nil))) (fun _ _ => rfl) .nil)))) .nil))))))))
theorem sd_l_hollow : SoundSs g n fd__law_hollow.scope nm_l_hollow fd__law_hollow.body (b_l_hollow c) :=
  have K := k_l_hollow
  (st_seq (.cons (st_tup (nmE K (j := 0) rfl rfl) (t_tup (.cons rfl (kN K (i := 3) rfl) (.cons rfl (kN K (i := 4) rfl) .nil)))) (.cons (st_if (b_cmp (nmE K (j := 3) rfl rfl) (s_tup (.cons s_str (fun _ _ => rfl) (.cons s_str (fun _ _ => rfl) .nil)))) (st_seq (.cons (st_ret s_bool) .nil)) (st_seq .nil)) (.cons (st_if (b_cmp (nmE K (j := 3) rfl rfl) s_str) (st_seq (.cons (st_ret (s_cmp s_bool (s_comp (by kernel_rfl) rfl (nmE K (j := 4) rfl rfl) .nil (s_call (n__law_hollow G) (kG (loc := ["piece", "rules", "depth"]) (gl := ["_law_hollow"]) (by kernel_rfl) rfl) (kept G fun _ => by kernel_rfl) (hc .l_hollow) (.cons (nmE (loc := ["piece", "rules", "depth"]) (gl := ["_law_hollow"]) (by kernel_rfl) (j := 0) rfl rfl) (fun _ _ => rfl) (.cons (nmE (loc := ["piece", "rules", "depth"]) (gl := ["_law_hollow"]) (by kernel_rfl) (j := 1) rfl rfl) (fun _ _ => rfl) (.cons (nmE (loc := ["piece", "rules", "depth"]) (gl := ["_law_hollow"]) (by kernel_rfl) (j := 2) rfl rfl) (fun _ _ => rfl) .nil))))))) .nil)) (st_seq .nil)) (.cons (st_if (b_cmp (nmE K (j := 3) rfl rfl) s_str) (st_seq (.cons (st_ret (s_cmp s_bool (s_comp (by kernel_rfl) rfl (nmE K (j := 4) rfl rfl) .nil (s_call (n__law_hollow G) (kG (loc := ["piece", "rules", "depth"]) (gl := ["_law_hollow"]) (by kernel_rfl) rfl) (kept G fun _ => by kernel_rfl) (hc .l_hollow) (.cons (nmE (loc := ["piece", "rules", "depth"]) (gl := ["_law_hollow"]) (by kernel_rfl) (j := 0) rfl rfl) (fun _ _ => rfl) (.cons (nmE (loc := ["piece", "rules", "depth"]) (gl := ["_law_hollow"]) (by kernel_rfl) (j := 1) rfl rfl) (fun _ _ => rfl) (.cons (nmE (loc := ["piece", "rules", "depth"]) (gl := ["_law_hollow"]) (by kernel_rfl) (j := 2) rfl rfl) (fun _ _ => rfl) .nil))))))) .nil)) (st_seq .nil)) (.cons (st_ret (s_and (.cons (s_cmp (nmE K (j := 3) rfl rfl) s_str) (fun _ _ => rfl) (.cons (s_cmp (nmE K (j := 4) rfl rfl) (nmE K (j := 1) rfl rfl)) (fun _ _ => rfl) (.cons (s_cmp (nmE K (j := 2) rfl rfl) s_int) (fun _ _ => rfl) (.cons (s_call (n__law_hollow G) (kG K rfl) (kept G fun _ => by kernel_rfl) (hc .l_hollow) (.cons (s_sub (nmE K (j := 1) rfl rfl) (nmE K (j := 4) rfl rfl)) (fun _ _ => rfl) (.cons (nmE K (j := 1) rfl rfl) (fun _ _ => rfl) (.cons (s_bin (nmE K (j := 2) rfl rfl) s_int) (fun _ _ => rfl) .nil)))) (fun _ _ => rfl) .nil)))))) .nil))))))
theorem sd_l_none : SoundSs g n fd__law_none.scope nm_l_none fd__law_none.body (b_l_none c) :=
  have K := k_l_none
  (st_seq (.cons (st_tup (nmE K (j := 0) rfl rfl) (t_tup (.cons rfl (kN K (i := 2) rfl) (.cons rfl (kN K (i := 3) rfl) .nil)))) (.cons (st_if (b_cmp (nmE K (j := 2) rfl rfl) (s_tup (.cons s_str (fun _ _ => rfl) (.cons s_str (fun _ _ => rfl) .nil)))) (st_seq (.cons (st_ret s_bool) .nil)) (st_seq .nil)) (.cons (st_if (b_cmp (nmE K (j := 2) rfl rfl) (s_tup (.cons s_str (fun _ _ => rfl) (.cons s_str (fun _ _ => rfl) .nil)))) (st_seq (.cons (st_comp (by kernel_rfl) rfl rfl (kN K (i := 4) rfl) (nmE K (j := 3) rfl rfl) .nil (s_call (n__law_none G) (kG (loc := ["piece", "hollow"]) (gl := ["_law_none"]) (by kernel_rfl) rfl) (kept G fun _ => by kernel_rfl) (hc .l_none) (.cons (nmE (loc := ["piece", "hollow"]) (gl := ["_law_none"]) (by kernel_rfl) (j := 0) rfl rfl) (fun _ _ => rfl) (.cons (nmE (loc := ["piece", "hollow"]) (gl := ["_law_none"]) (by kernel_rfl) (j := 1) rfl rfl) (fun _ _ => rfl) .nil))) (swaps_is (by kernel_rfl))) (.cons (st_ret (s_if (b_cmp (nmE K (j := 2) rfl rfl) s_str) (s_cmp s_bool (nmE K (j := 4) rfl rfl)) (s_cmp s_bool (nmE K (j := 4) rfl rfl)))) .nil))) (st_seq .nil)) (.cons (st_ret (s_and (.cons (s_cmp (nmE K (j := 2) rfl rfl) s_str) (fun _ _ => rfl) (.cons (s_cmp (nmE K (j := 3) rfl rfl) (nmE K (j := 1) rfl rfl)) (fun _ _ => rfl) (.cons (s_sub (nmE K (j := 1) rfl rfl) (nmE K (j := 3) rfl rfl)) (fun _ _ => rfl) .nil))))) .nil)))))
theorem sd_l_heads : SoundSs g n fd__law_heads.scope nm_l_heads fd__law_heads.body (b_l_heads c) :=
  have K := k_l_heads
  (st_seq (.cons (st_tup (nmE K (j := 0) rfl rfl) (t_tup (.cons rfl (kN K (i := 4) rfl) (.cons rfl (kN K (i := 5) rfl) .nil)))) (.cons (st_if (b_or (.cons (b_cmp (nmE K (j := 4) rfl rfl) s_str) (.cons (b_and (.cons (b_cmp (nmE K (j := 4) rfl rfl) s_str) (.cons (b_cmp (nmE K (j := 5) rfl rfl) (nmE K (j := 1) rfl rfl)) .nil))) .nil))) (st_seq (.cons (st_ret (s_list (.cons (nmE K (j := 5) rfl rfl) (fun _ _ => rfl) .nil))) .nil)) (st_seq .nil)) (.cons (st_if (b_cmp (nmE K (j := 4) rfl rfl) s_str) (st_seq (.cons (st_ret (s_if (b_cmp (nmE K (j := 3) rfl rfl) s_int) (s_call (n__law_heads G) (kG K rfl) (kept G fun _ => by kernel_rfl) (hc .l_heads) (.cons (s_sub (nmE K (j := 1) rfl rfl) (nmE K (j := 5) rfl rfl)) (fun _ _ => rfl) (.cons (nmE K (j := 1) rfl rfl) (fun _ _ => rfl) (.cons (nmE K (j := 2) rfl rfl) (fun _ _ => rfl) (.cons (s_bin (nmE K (j := 3) rfl rfl) s_int) (fun _ _ => rfl) .nil))))) (s_list .nil))) .nil)) (st_seq .nil)) (.cons (st_if (b_cmp (nmE K (j := 4) rfl rfl) (s_tup (.cons s_str (fun _ _ => rfl) (.cons s_str (fun _ _ => rfl) .nil)))) (st_seq (.cons (st_ret (s_call (n__law_heads G) (kG K rfl) (kept G fun _ => by kernel_rfl) (hc .l_heads) (.cons (nmE K (j := 5) rfl rfl) (fun _ _ => rfl) (.cons (nmE K (j := 1) rfl rfl) (fun _ _ => rfl) (.cons (nmE K (j := 2) rfl rfl) (fun _ _ => rfl) (.cons (nmE K (j := 3) rfl rfl) (fun _ _ => rfl) .nil)))))) .nil)) (st_seq .nil)) (.cons (st_name (s_list .nil) rfl (kN K (i := 6) rfl)) (.cons (st_for (nmE K (j := 5) rfl rfl) (t_name rfl (kN K (i := 7) rfl)) (st_seq (.cons (iaddS K (j := 6) rfl rfl (s_call (n__law_heads G) (kG K rfl) (kept G fun _ => by kernel_rfl) (hc .l_heads) (.cons (nmE K (j := 7) rfl rfl) (fun _ _ => rfl) (.cons (nmE K (j := 1) rfl rfl) (fun _ _ => rfl) (.cons (nmE K (j := 2) rfl rfl) (fun _ _ => rfl) (.cons (nmE K (j := 3) rfl rfl) (fun _ _ => rfl) .nil)))))) (.cons (st_if (b_and (.cons (b_cmp (nmE K (j := 4) rfl rfl) s_str) (.cons (b_not (b_val (s_call (n__law_none G) (kG K rfl) (kept G fun _ => by kernel_rfl) (hc .l_none) (.cons (nmE K (j := 7) rfl rfl) (fun _ _ => rfl) (.cons (nmE K (j := 2) rfl rfl) (fun _ _ => rfl) .nil))))) .nil))) (st_seq (.cons (st_ret (nmE K (j := 6) rfl rfl)) .nil)) (st_seq .nil)) .nil)))) (.cons (st_ret (nmE K (j := 6) rfl rfl)) .nil))))))))
theorem sd_l_front : SoundSs g n fd__law_front.scope nm_l_front fd__law_front.body (b_l_front c) :=
  have K := k_l_front
  (st_seq (.cons (st_tup (nmE K (j := 1) rfl rfl) (t_tup (.cons rfl (kN K (i := 2) rfl) (.cons rfl (kN K (i := 3) rfl) (.cons rfl (kN K (i := 4) rfl) .nil))))) (.cons (st_tup (nmE K (j := 0) rfl rfl) (t_tup (.cons rfl (kN K (i := 5) rfl) (.cons rfl (kN K (i := 6) rfl) .nil)))) (.cons (st_if (b_or (.cons (b_cmp (nmE K (j := 5) rfl rfl) s_str) (.cons (b_and (.cons (b_cmp (nmE K (j := 5) rfl rfl) s_str) (.cons (b_cmp (nmE K (j := 6) rfl rfl) (nmE K (j := 2) rfl rfl)) .nil))) .nil))) (st_seq (.cons (st_ret (s_list (.cons (nmE K (j := 6) rfl rfl) (fun _ _ => rfl) .nil))) .nil)) (st_seq .nil)) (.cons (st_if (b_cmp (nmE K (j := 5) rfl rfl) s_str) (st_seq (.cons (st_ret (s_sub (nmE K (j := 4) rfl rfl) (nmE K (j := 6) rfl rfl))) .nil)) (st_seq .nil)) (.cons (st_if (b_cmp (nmE K (j := 5) rfl rfl) (s_tup (.cons s_str (fun _ _ => rfl) (.cons s_str (fun _ _ => rfl) .nil)))) (st_seq (.cons (st_ret (s_call (n__law_front G) (kG K rfl) (kept G fun _ => by kernel_rfl) (hc .l_front) (.cons (nmE K (j := 6) rfl rfl) (fun _ _ => rfl) (.cons (nmE K (j := 1) rfl rfl) (fun _ _ => rfl) .nil)))) .nil)) (st_seq .nil)) (.cons (st_name (s_list .nil) rfl (kN K (i := 7) rfl)) (.cons (st_for (nmE K (j := 6) rfl rfl) (t_name rfl (kN K (i := 8) rfl)) (st_seq (.cons (st_name (s_bin (nmE K (j := 7) rfl rfl) (s_call (n__law_front G) (kG K rfl) (kept G fun _ => by kernel_rfl) (hc .l_front) (.cons (nmE K (j := 8) rfl rfl) (fun _ _ => rfl) (.cons (nmE K (j := 1) rfl rfl) (fun _ _ => rfl) .nil)))) rfl (kN K (i := 7) rfl)) (.cons (st_if (b_and (.cons (b_cmp (nmE K (j := 5) rfl rfl) s_str) (.cons (b_not (b_val (s_call (n__law_none G) (kG K rfl) (kept G fun _ => by kernel_rfl) (hc .l_none) (.cons (nmE K (j := 8) rfl rfl) (fun _ _ => rfl) (.cons (nmE K (j := 3) rfl rfl) (fun _ _ => rfl) .nil))))) .nil))) (st_seq (.cons (st_ret (s_sset (n_sorted G) (n_set G) (kG K rfl) (kG K rfl) (nmE K (j := 7) rfl rfl) (fun _ _ => rfl))) .nil)) (st_seq .nil)) .nil)))) (.cons (st_ret (s_sset (n_sorted G) (n_set G) (kG K rfl) (kG K rfl) (nmE K (j := 7) rfl rfl) (fun _ _ => rfl))) .nil)))))))))
theorem sd_l_ahead : SoundSs g n fd__law_ahead.scope nm_l_ahead fd__law_ahead.body (b_l_ahead c) :=
  have K := k_l_ahead
  (st_seq (.cons (st_name (s_call (n__law_front G) (kG K rfl) (kept G fun _ => by kernel_rfl) (hc .l_front) (.cons (nmE K (j := 0) rfl rfl) (fun _ _ => rfl) (.cons (nmE K (j := 1) rfl rfl) (fun _ _ => rfl) .nil))) rfl (kN K (i := 3) rfl)) (.cons (st_ret (s_if (b_val (s_call (n__law_none G) (kG K rfl) (kept G fun _ => by kernel_rfl) (hc .l_none) (.cons (nmE K (j := 0) rfl rfl) (fun _ _ => rfl) (.cons (s_sub (nmE K (j := 1) rfl rfl) s_int) (fun _ _ => rfl) .nil)))) (s_sset (n_sorted G) (n_set G) (kG K rfl) (kG K rfl) (s_bin (nmE K (j := 3) rfl rfl) (nmE K (j := 2) rfl rfl)) (fun _ _ => rfl)) (nmE K (j := 3) rfl rfl))) .nil)))
theorem sd_l_walk : SoundSs g n fd__law_walk.scope nm_l_walk fd__law_walk.body (b_l_walk c) :=
  have K := k_l_walk
  (st_seq (.cons (st_tup (nmE K (j := 0) rfl rfl) (t_tup (.cons rfl (kN K (i := 4) rfl) (.cons rfl (kN K (i := 5) rfl) .nil)))) (.cons (st_if (b_and (.cons (b_cmp (nmE K (j := 4) rfl rfl) s_str) (.cons (b_cmp (nmE K (j := 5) rfl rfl) (s_sub (nmE K (j := 1) rfl rfl) s_int)) .nil))) (st_seq (.cons (st_exp (s_lm PySem.F.slot_list_append PySem.F.type_list_append m_app (nmE K (j := 3) rfl rfl) (.cons (s_tup (.cons (nmE K (j := 5) rfl rfl) (fun _ _ => rfl) (.cons (nmE K (j := 2) rfl rfl) (fun _ _ => rfl) .nil))) (fun _ _ => rfl) .nil))) .nil)) (st_seq (.cons (st_if (b_cmp (nmE K (j := 4) rfl rfl) s_str) (st_seq (.cons (st_exp (s_call (n__law_walk G) (kG K rfl) (kept G fun _ => by kernel_rfl) (hc .l_walk) (.cons (nmE K (j := 5) rfl rfl) (fun _ _ => rfl) (.cons (nmE K (j := 1) rfl rfl) (fun _ _ => rfl) (.cons (nmE K (j := 2) rfl rfl) (fun _ _ => rfl) (.cons (nmE K (j := 3) rfl rfl) (fun _ _ => rfl) .nil)))))) .nil)) (st_seq (.cons (st_if (b_cmp (nmE K (j := 4) rfl rfl) s_str) (st_seq (.cons (st_exp (s_call (n__law_walk G) (kG K rfl) (kept G fun _ => by kernel_rfl) (hc .l_walk) (.cons (nmE K (j := 5) rfl rfl) (fun _ _ => rfl) (.cons (nmE K (j := 1) rfl rfl) (fun _ _ => rfl) (.cons (s_call (n__law_ahead G) (kG K rfl) (kept G fun _ => by kernel_rfl) (hc .l_ahead) (.cons (nmE K (j := 0) rfl rfl) (fun _ _ => rfl) (.cons (nmE K (j := 1) rfl rfl) (fun _ _ => rfl) (.cons (nmE K (j := 2) rfl rfl) (fun _ _ => rfl) .nil)))) (fun _ _ => rfl) (.cons (nmE K (j := 3) rfl rfl) (fun _ _ => rfl) .nil)))))) .nil)) (st_seq (.cons (st_if (b_cmp (nmE K (j := 4) rfl rfl) s_str) (st_seq (.cons (st_for (nmE K (j := 5) rfl rfl) (t_name rfl (kN K (i := 6) rfl)) (st_seq (.cons (st_exp (s_call (n__law_walk G) (kG K rfl) (kept G fun _ => by kernel_rfl) (hc .l_walk) (.cons (nmE K (j := 6) rfl rfl) (fun _ _ => rfl) (.cons (nmE K (j := 1) rfl rfl) (fun _ _ => rfl) (.cons (nmE K (j := 2) rfl rfl) (fun _ _ => rfl) (.cons (nmE K (j := 3) rfl rfl) (fun _ _ => rfl) .nil)))))) .nil))) .nil)) (st_seq (.cons (st_if (b_cmp (nmE K (j := 4) rfl rfl) s_str) (st_seq (.cons (st_forR (n_range G) (kG K rfl) (.cons (s_bin (s_call (n_len G) (kG K rfl) rfl o_len (.cons (nmE K (j := 5) rfl rfl) (fun _ _ => rfl) .nil)) s_int) (fun _ _ => rfl) (.cons (s_neg s_int) (fun _ _ => rfl) (.cons (s_neg s_int) (fun _ _ => rfl) .nil))) (t_name rfl (kN K (i := 7) rfl)) (st_seq (.cons (st_exp (s_call (n__law_walk G) (kG K rfl) (kept G fun _ => by kernel_rfl) (hc .l_walk) (.cons (s_sub (nmE K (j := 5) rfl rfl) (nmE K (j := 7) rfl rfl)) (fun _ _ => rfl) (.cons (nmE K (j := 1) rfl rfl) (fun _ _ => rfl) (.cons (nmE K (j := 2) rfl rfl) (fun _ _ => rfl) (.cons (nmE K (j := 3) rfl rfl) (fun _ _ => rfl) .nil)))))) (.cons (st_name (s_call (n__law_ahead G) (kG K rfl) (kept G fun _ => by kernel_rfl) (hc .l_ahead) (.cons (s_sub (nmE K (j := 5) rfl rfl) (nmE K (j := 7) rfl rfl)) (fun _ _ => rfl) (.cons (nmE K (j := 1) rfl rfl) (fun _ _ => rfl) (.cons (nmE K (j := 2) rfl rfl) (fun _ _ => rfl) .nil)))) rfl (kN K (i := 2) rfl)) .nil)))) .nil)) (st_seq .nil)) .nil))) .nil))) .nil))) .nil))) .nil)))
theorem sd_l_after : SoundSs g n fd__law_after.scope nm_l_after fd__law_after.body (b_l_after c) :=
  have K := k_l_after
  (st_seq (.cons (st_name s_dict0 rfl (kN K (i := 1) rfl)) (.cons (st_name (s_list (.cons (s_tup (.cons s_str (fun _ _ => rfl) (.cons (s_list (.cons s_str (fun _ _ => rfl) .nil)) (fun _ _ => rfl) .nil))) (fun _ _ => rfl) .nil)) rfl (kN K (i := 2) rfl)) (.cons (st_for (s_call (n_sorted G) (kG K rfl) rfl o_sorted (.cons (s_sub (nmE K (j := 0) rfl rfl) s_int) (fun _ _ => rfl) .nil)) (t_name rfl (kN K (i := 3) rfl)) (st_seq (.cons (st_store (s_list .nil) (nmE K (j := 1) rfl rfl) (nmE K (j := 3) rfl rfl)) (.cons (st_exp (s_lm PySem.F.slot_list_append PySem.F.type_list_append m_app (nmE K (j := 2) rfl rfl) (.cons (s_tup (.cons (nmE K (j := 3) rfl rfl) (fun _ _ => rfl) (.cons (s_list .nil) (fun _ _ => rfl) .nil))) (fun _ _ => rfl) .nil))) .nil)))) (.cons (st_name (s_list .nil) rfl (kN K (i := 4) rfl)) (.cons (st_while (b_cmp (nmE K (j := 2) rfl rfl) (s_list .nil)) (st_seq (.cons (st_tup (s_lm PySem.F.slot_list_pop PySem.F.type_list_pop m_pop (nmE K (j := 2) rfl rfl) .nil) (t_tup (.cons rfl (kN K (i := 3) rfl) (.cons rfl (kN K (i := 5) rfl) .nil)))) (.cons (st_if (b_cmp (s_tup (.cons (nmE K (j := 3) rfl rfl) (fun _ _ => rfl) (.cons (nmE K (j := 5) rfl rfl) (fun _ _ => rfl) .nil))) (nmE K (j := 4) rfl rfl)) (st_seq (.cons (st_exp (s_lm PySem.F.slot_list_append PySem.F.type_list_append m_app (nmE K (j := 4) rfl rfl) (.cons (s_tup (.cons (nmE K (j := 3) rfl rfl) (fun _ _ => rfl) (.cons (nmE K (j := 5) rfl rfl) (fun _ _ => rfl) .nil))) (fun _ _ => rfl) .nil))) (.cons (st_store (s_sset (n_sorted G) (n_set G) (kG K rfl) (kG K rfl) (s_bin (s_sub (nmE K (j := 1) rfl rfl) (nmE K (j := 3) rfl rfl)) (nmE K (j := 5) rfl rfl)) (fun _ _ => rfl)) (nmE K (j := 1) rfl rfl) (nmE K (j := 3) rfl rfl)) (.cons (st_exp (s_call (n__law_walk G) (kG K rfl) (kept G fun _ => by kernel_rfl) (hc .l_walk) (.cons (s_sub (s_sub (nmE K (j := 0) rfl rfl) s_int) (nmE K (j := 3) rfl rfl)) (fun _ _ => rfl) (.cons (nmE K (j := 0) rfl rfl) (fun _ _ => rfl) (.cons (nmE K (j := 5) rfl rfl) (fun _ _ => rfl) (.cons (nmE K (j := 2) rfl rfl) (fun _ _ => rfl) .nil)))))) .nil)))) (st_seq .nil)) .nil)))) (.cons (st_ret (nmE K (j := 1) rfl rfl)) .nil)))))))
theorem sd_l_quarrels : SoundSs g n fd__law_quarrels.scope nm_l_quarrels fd__law_quarrels.body (b_l_quarrels c) :=
  have K := k_l_quarrels
  (st_seq (.cons (st_tup (nmE K (j := 0) rfl rfl) (t_tup (.cons rfl (kN K (i := 5) rfl) (.cons rfl (kN K (i := 6) rfl) .nil)))) (.cons (st_if (b_cmp (nmE K (j := 5) rfl rfl) (s_tup (.cons s_str (fun _ _ => rfl) (.cons s_str (fun _ _ => rfl) .nil)))) (st_seq (.cons (st_if (b_val (s_call (n__law_none G) (kG K rfl) (kept G fun _ => by kernel_rfl) (hc .l_none) (.cons (nmE K (j := 6) rfl rfl) (fun _ _ => rfl) (.cons (s_sub (nmE K (j := 1) rfl rfl) s_int) (fun _ _ => rfl) .nil)))) (st_seq (.cons (st_exp (s_lm PySem.F.slot_list_append PySem.F.type_list_append m_app (nmE K (j := 4) rfl rfl) (.cons (s_tup (.cons (nmE K (j := 3) rfl rfl) (fun _ _ => rfl) (.cons s_str (fun _ _ => rfl) (.cons (s_list .nil) (fun _ _ => rfl) .nil)))) (fun _ _ => rfl) .nil))) .nil)) (st_seq .nil)) (.cons (st_comp (by kernel_rfl) rfl rfl (kN K (i := 7) rfl) (s_call (n__law_front G) (kG K rfl) (kept G fun _ => by kernel_rfl) (hc .l_front) (.cons (nmE K (j := 6) rfl rfl) (fun _ _ => rfl) (.cons (nmE K (j := 1) rfl rfl) (fun _ _ => rfl) .nil))) (.one (b_cmp (nmE (loc := ["word", "behind"]) (gl := []) (by kernel_rfl) (j := 0) rfl rfl) (nmE (loc := ["word", "behind"]) (gl := []) (by kernel_rfl) (j := 1) rfl rfl))) (nmE (loc := ["word", "behind"]) (gl := []) (by kernel_rfl) (j := 0) rfl rfl) (swaps_is (by kernel_rfl))) (.cons (st_if (b_cmp (nmE K (j := 7) rfl rfl) (s_list .nil)) (st_seq (.cons (st_exp (s_lm PySem.F.slot_list_append PySem.F.type_list_append m_app (nmE K (j := 4) rfl rfl) (.cons (s_tup (.cons (nmE K (j := 3) rfl rfl) (fun _ _ => rfl) (.cons (s_if (b_cmp (nmE K (j := 5) rfl rfl) s_str) s_str s_str) (fun _ _ => rfl) (.cons (nmE K (j := 7) rfl rfl) (fun _ _ => rfl) .nil)))) (fun _ _ => rfl) .nil))) .nil)) (st_seq .nil)) (.cons (st_exp (s_call (n__law_quarrels G) (kG K rfl) (kept G fun _ => by kernel_rfl) (hc .l_quarrels) (.cons (nmE K (j := 6) rfl rfl) (fun _ _ => rfl) (.cons (nmE K (j := 1) rfl rfl) (fun _ _ => rfl) (.cons (s_if (b_cmp (nmE K (j := 5) rfl rfl) s_str) (s_call (n__law_ahead G) (kG K rfl) (kept G fun _ => by kernel_rfl) (hc .l_ahead) (.cons (nmE K (j := 0) rfl rfl) (fun _ _ => rfl) (.cons (nmE K (j := 1) rfl rfl) (fun _ _ => rfl) (.cons (nmE K (j := 2) rfl rfl) (fun _ _ => rfl) .nil)))) (nmE K (j := 2) rfl rfl)) (fun _ _ => rfl) (.cons (nmE K (j := 3) rfl rfl) (fun _ _ => rfl) (.cons (nmE K (j := 4) rfl rfl) (fun _ _ => rfl) .nil))))))) .nil))))) (st_seq (.cons (st_if (b_cmp (nmE K (j := 5) rfl rfl) s_str) (st_seq (.cons (st_nameC (s_comp (by kernel_rfl) rfl (nmE K (j := 6) rfl rfl) .nil (s_call (n__law_ahead G) (kG (loc := ["piece", "facts", "behind"]) (gl := ["_law_ahead"]) (by kernel_rfl) rfl) (kept G fun _ => by kernel_rfl) (hc .l_ahead) (.cons (nmE (loc := ["piece", "facts", "behind"]) (gl := ["_law_ahead"]) (by kernel_rfl) (j := 0) rfl rfl) (fun _ _ => rfl) (.cons (nmE (loc := ["piece", "facts", "behind"]) (gl := ["_law_ahead"]) (by kernel_rfl) (j := 1) rfl rfl) (fun _ _ => rfl) (.cons (nmE (loc := ["piece", "facts", "behind"]) (gl := ["_law_ahead"]) (by kernel_rfl) (j := 2) rfl rfl) (fun _ _ => rfl) .nil))))) rfl (kN K (i := 8) rfl) (swaps_is (by kernel_rfl))) (.cons (st_comp (by kernel_rfl) rfl rfl (kN K (i := 7) rfl) (s_sub (nmE K (j := 8) rfl rfl) s_int) (.one (b_cmp (nmE (loc := ["word", "rows"]) (gl := []) (by kernel_rfl) (j := 0) rfl rfl) (s_sub (nmE (loc := ["word", "rows"]) (gl := []) (by kernel_rfl) (j := 1) rfl rfl) s_int))) (nmE (loc := ["word", "rows"]) (gl := []) (by kernel_rfl) (j := 0) rfl rfl) (swaps_is (by kernel_rfl))) (.cons (st_if (b_cmp (nmE K (j := 7) rfl rfl) (s_list .nil)) (st_seq (.cons (st_exp (s_lm PySem.F.slot_list_append PySem.F.type_list_append m_app (nmE K (j := 4) rfl rfl) (.cons (s_tup (.cons (nmE K (j := 3) rfl rfl) (fun _ _ => rfl) (.cons s_str (fun _ _ => rfl) (.cons (nmE K (j := 7) rfl rfl) (fun _ _ => rfl) .nil)))) (fun _ _ => rfl) .nil))) .nil)) (st_seq .nil)) (.cons (st_for (nmE K (j := 6) rfl rfl) (t_name rfl (kN K (i := 9) rfl)) (st_seq (.cons (st_exp (s_call (n__law_quarrels G) (kG K rfl) (kept G fun _ => by kernel_rfl) (hc .l_quarrels) (.cons (nmE K (j := 9) rfl rfl) (fun _ _ => rfl) (.cons (nmE K (j := 1) rfl rfl) (fun _ _ => rfl) (.cons (nmE K (j := 2) rfl rfl) (fun _ _ => rfl) (.cons (nmE K (j := 3) rfl rfl) (fun _ _ => rfl) (.cons (nmE K (j := 4) rfl rfl) (fun _ _ => rfl) .nil))))))) .nil))) .nil))))) (st_seq (.cons (st_if (b_cmp (nmE K (j := 5) rfl rfl) s_str) (st_seq (.cons (st_forR (n_range G) (kG K rfl) (.cons (s_call (n_len G) (kG K rfl) rfl o_len (.cons (nmE K (j := 6) rfl rfl) (fun _ _ => rfl) .nil)) (fun _ _ => rfl) .nil) (t_name rfl (kN K (i := 10) rfl)) (st_seq (.cons (st_name (nmE K (j := 2) rfl rfl) rfl (kN K (i := 11) rfl)) (.cons (st_forR (n_range G) (kG K rfl) (.cons (s_bin (s_call (n_len G) (kG K rfl) rfl o_len (.cons (nmE K (j := 6) rfl rfl) (fun _ _ => rfl) .nil)) s_int) (fun _ _ => rfl) (.cons (nmE K (j := 10) rfl rfl) (fun _ _ => rfl) (.cons (s_neg s_int) (fun _ _ => rfl) .nil))) (t_name rfl (kN K (i := 12) rfl)) (st_seq (.cons (st_name (s_call (n__law_ahead G) (kG K rfl) (kept G fun _ => by kernel_rfl) (hc .l_ahead) (.cons (s_sub (nmE K (j := 6) rfl rfl) (nmE K (j := 12) rfl rfl)) (fun _ _ => rfl) (.cons (nmE K (j := 1) rfl rfl) (fun _ _ => rfl) (.cons (nmE K (j := 11) rfl rfl) (fun _ _ => rfl) .nil)))) rfl (kN K (i := 11) rfl)) .nil))) (.cons (st_exp (s_call (n__law_quarrels G) (kG K rfl) (kept G fun _ => by kernel_rfl) (hc .l_quarrels) (.cons (s_sub (nmE K (j := 6) rfl rfl) (nmE K (j := 10) rfl rfl)) (fun _ _ => rfl) (.cons (nmE K (j := 1) rfl rfl) (fun _ _ => rfl) (.cons (nmE K (j := 11) rfl rfl) (fun _ _ => rfl) (.cons (nmE K (j := 3) rfl rfl) (fun _ _ => rfl) (.cons (nmE K (j := 4) rfl rfl) (fun _ _ => rfl) .nil))))))) .nil))))) .nil)) (st_seq .nil)) .nil))) .nil))) .nil)))
theorem sd_law : SoundSs g n fd_law.scope nm_law fd_law.body (b_law c) :=
  have K := k_law
  (st_seq (.cons (st_name (s_call (n__law_stock G) (kG K rfl) (kept G fun _ => by kernel_rfl) (hc .l_stock) (.cons (nmE K (j := 0) rfl rfl) (fun _ _ => rfl) .nil)) rfl (kN K (i := 1) rfl)) (.cons (st_name s_dict0 rfl (kN K (i := 2) rfl)) (.cons (st_name (s_list .nil) rfl (kN K (i := 3) rfl)) (.cons (st_forR (n_range G) (kG K rfl) (.cons (s_bin s_int (s_call (n__law_pick G) (kG K rfl) (kept G fun _ => by kernel_rfl) (hc .l_pick) (.cons (nmE K (j := 1) rfl rfl) (fun _ _ => rfl) (.cons s_int (fun _ _ => rfl) .nil)))) (fun _ _ => rfl) .nil) (t_name rfl (kN K (i := 4) rfl)) (st_seq (.cons (st_name (s_call (n__law_tree G) (kG K rfl) (kept G fun _ => by kernel_rfl) (hc .l_tree) (.cons (nmE K (j := 1) rfl rfl) (fun _ _ => rfl) (.cons (s_list (.cons s_int (fun _ _ => rfl) .nil)) (fun _ _ => rfl) (.cons s_int (fun _ _ => rfl) .nil)))) rfl (kN K (i := 5) rfl)) (.cons (st_store (nmE K (j := 5) rfl rfl) (nmE K (j := 2) rfl rfl) (s_bin s_str (s_call (n_str G) (kG K rfl) rfl o_str (.cons (nmE K (j := 4) rfl rfl) (fun _ _ => rfl) .nil)))) (.cons (st_exp (s_lm PySem.F.slot_list_append PySem.F.type_list_append m_app (nmE K (j := 3) rfl rfl) (.cons (s_tup (.cons (s_bin s_str (s_call (n_str G) (kG K rfl) rfl o_str (.cons (nmE K (j := 4) rfl rfl) (fun _ _ => rfl) .nil))) (fun _ _ => rfl) (.cons (nmE K (j := 5) rfl rfl) (fun _ _ => rfl) .nil))) (fun _ _ => rfl) .nil))) .nil))))) (.cons (st_name (s_call (n_len G) (kG K rfl) rfl o_len (.cons (nmE K (j := 2) rfl rfl) (fun _ _ => rfl) .nil)) rfl (kN K (i := 6) rfl)) (.cons (st_name s_dict0 rfl (kN K (i := 7) rfl)) (.cons (st_for (s_call (n_sorted G) (kG K rfl) rfl o_sorted (.cons (nmE K (j := 2) rfl rfl) (fun _ _ => rfl) .nil)) (t_name rfl (kN K (i := 8) rfl)) (st_seq (.cons (st_store (s_call (n__law_hollow G) (kG K rfl) (kept G fun _ => by kernel_rfl) (hc .l_hollow) (.cons (s_sub (nmE K (j := 2) rfl rfl) (nmE K (j := 8) rfl rfl)) (fun _ _ => rfl) (.cons (nmE K (j := 2) rfl rfl) (fun _ _ => rfl) (.cons (nmE K (j := 6) rfl rfl) (fun _ _ => rfl) .nil)))) (nmE K (j := 7) rfl rfl) (nmE K (j := 8) rfl rfl)) .nil))) (.cons (st_name s_dict0 rfl (kN K (i := 9) rfl)) (.cons (st_for (s_call (n_sorted G) (kG K rfl) rfl o_sorted (.cons (nmE K (j := 2) rfl rfl) (fun _ _ => rfl) .nil)) (t_name rfl (kN K (i := 8) rfl)) (st_seq (.cons (st_store (s_sset (n_sorted G) (n_set G) (kG K rfl) (kG K rfl) (s_call (n__law_heads G) (kG K rfl) (kept G fun _ => by kernel_rfl) (hc .l_heads) (.cons (s_sub (nmE K (j := 2) rfl rfl) (nmE K (j := 8) rfl rfl)) (fun _ _ => rfl) (.cons (nmE K (j := 2) rfl rfl) (fun _ _ => rfl) (.cons (nmE K (j := 7) rfl rfl) (fun _ _ => rfl) (.cons (nmE K (j := 6) rfl rfl) (fun _ _ => rfl) .nil))))) (fun _ _ => rfl)) (nmE K (j := 9) rfl rfl) (nmE K (j := 8) rfl rfl)) .nil))) (.cons (st_name (s_tup (.cons (nmE K (j := 2) rfl rfl) (fun _ _ => rfl) (.cons (nmE K (j := 7) rfl rfl) (fun _ _ => rfl) (.cons (nmE K (j := 9) rfl rfl) (fun _ _ => rfl) .nil)))) rfl (kN K (i := 10) rfl)) (.cons (st_name (s_call (n_Grammar G) (kG K rfl) (kept G fun _ => by kernel_rfl) (hc .g_new) (.cons (nmE K (j := 3) rfl rfl) (fun _ _ => rfl) (.cons s_str (fun _ _ => rfl) .nil))) rfl (kN K (i := 11) rfl)) (.cons (st_name (s_call (n__law_after G) (kG K rfl) (kept G fun _ => by kernel_rfl) (hc .l_after) (.cons (nmE K (j := 10) rfl rfl) (fun _ _ => rfl) .nil)) rfl (kN K (i := 12) rfl)) (.cons (st_name (s_list .nil) rfl (kN K (i := 13) rfl)) (.cons (st_for (s_call (n_sorted G) (kG K rfl) rfl o_sorted (.cons (nmE K (j := 2) rfl rfl) (fun _ _ => rfl) .nil)) (t_name rfl (kN K (i := 8) rfl)) (st_seq (.cons (st_if (b_or (.cons (b_cmp (s_cmp (nmE K (j := 8) rfl rfl) (s_attr (ClsOk.of G) (noAttr G fun _ => by kernel_rfl) (nmE K (j := 11) rfl rfl))) (s_sub (nmE K (j := 7) rfl rfl) (nmE K (j := 8) rfl rfl))) (.cons (b_cmp (s_call (n_sorted G) (kG K rfl) rfl o_sorted (.cons (s_sub (s_attr (ClsOk.of G) (noAttr G fun _ => by kernel_rfl) (nmE K (j := 11) rfl rfl)) (nmE K (j := 8) rfl rfl)) (fun _ _ => rfl) .nil)) (s_sub (nmE K (j := 9) rfl rfl) (nmE K (j := 8) rfl rfl))) .nil))) (st_seq (.cons (st_ret s_bool) .nil)) (st_seq .nil)) (.cons (st_if (b_cmp (s_call (n_sorted G) (kG K rfl) rfl o_sorted (.cons (s_sub (s_attr (ClsOk.of G) (noAttr G fun _ => by kernel_rfl) (nmE K (j := 11) rfl rfl)) (nmE K (j := 8) rfl rfl)) (fun _ _ => rfl) .nil)) (s_sub (nmE K (j := 12) rfl rfl) (nmE K (j := 8) rfl rfl))) (st_seq (.cons (st_ret s_bool) .nil)) (st_seq .nil)) (.cons (st_exp (s_call (n__law_quarrels G) (kG K rfl) (kept G fun _ => by kernel_rfl) (hc .l_quarrels) (.cons (s_sub (nmE K (j := 2) rfl rfl) (nmE K (j := 8) rfl rfl)) (fun _ _ => rfl) (.cons (nmE K (j := 10) rfl rfl) (fun _ _ => rfl) (.cons (s_sub (nmE K (j := 12) rfl rfl) (nmE K (j := 8) rfl rfl)) (fun _ _ => rfl) (.cons (nmE K (j := 8) rfl rfl) (fun _ _ => rfl) (.cons (nmE K (j := 13) rfl rfl) (fun _ _ => rfl) .nil))))))) .nil))))) (.cons (st_ret (s_cmp (s_call (n_conflicts G) (kG K rfl) (kept G fun _ => by kernel_rfl) (hc .conflicts) (.cons (nmE K (j := 11) rfl rfl) (fun _ _ => rfl) .nil)) (nmE K (j := 13) rfl rfl))) .nil))))))))))))))))
end
end Mine
set_option maxHeartbeats 4000000
namespace Mine
open PySem PySem.W PySem.Calls PyProof.Rows

theorem fnIs_of {g : Gl} (G : GOk g) {n : Nat} {addr k : Nat} {nm : List Str} {f : ST} {d : DefRec} {q m : Str} {t c : Nat} (hl : ∀ P, (Mine.K P).lookup addr = some (kFn d q m t c)) (hcode : ∀ P, codeIn (Mine.K P) (.ref c) q = true)
    (hb : ∀ vals : List Value, vals.length = k → bindArgs (fnOf d.name q d.params d.body d.scope .none .none .none (.str m t) none (.ref c) .none) ⟨vals, []⟩ = pure ((nm.take k).zip vals))
    (hk : ((nm.take k).all fun x => d.scope.names.lookup x == some .local || d.scope.names.lookup x == some .cell) = true) (h1 : d.scope.isCoroutine = false) (h2 : d.scope.isGenerator = false) (h3 : d.scope.kind = .function)
    (nd : nm.Nodup) (le : k ≤ nm.length) (hs : SoundSs g n d.scope nm d.body f) : FnIs g n addr k nm f :=
  ⟨⟨_, _, _, _, _, _, _, _, _, _, _, _, _, _, _, by rw [G.hK]; exact hl _, by rw [G.hK]; exact hcode _, hb, hk, h1, h2, h3, hs⟩, nd, le⟩
theorem len1 {l : List Value} (h : l.length = 1) : ∃ a, l = [a] := List.length_eq_one_iff.mp h
theorem len2 {l : List Value} (h : l.length = 2) : ∃ a b, l = [a, b] := by
  cases l with
  | nil => cases h
  | cons a t =>
    obtain ⟨b, rfl⟩ := len1 (Nat.succ.inj h)
    exact ⟨a, b, rfl⟩
theorem len3 {l : List Value} (h : l.length = 3) : ∃ a b c, l = [a, b, c] := by
  cases l with
  | nil => cases h
  | cons a t =>
    obtain ⟨b, c, rfl⟩ := len2 (Nat.succ.inj h)
    exact ⟨a, b, c, rfl⟩
theorem len4 {l : List Value} (h : l.length = 4) : ∃ a b c d, l = [a, b, c, d] := by
  cases l with
  | nil => cases h
  | cons a t =>
    obtain ⟨b, c, d, rfl⟩ := len3 (Nat.succ.inj h)
    exact ⟨a, b, c, d, rfl⟩
theorem len5 {l : List Value} (h : l.length = 5) : ∃ a b c d e, l = [a, b, c, d, e] := by
  cases l with
  | nil => cases h
  | cons a t =>
    obtain ⟨b, c, d, e, rfl⟩ := len4 (Nat.succ.inj h)
    exact ⟨a, b, c, d, e, rfl⟩
section
variable {g : Gl} (G : GOk g) {n : Nat} {c : FT} (hc : ∀ f, SoundOp g n (fv f) (c f))
include G hc
theorem fi_token_of : FnIs g n 21 2 nm_token_of (b_token_of c) := fnIs_of G (d := fd_token_of) (q := "token_of") (m := "moduleyard.firsts") (t := 187) (c := 20) (fun _ => by kernel_rfl) (fun _ => by kernel_rfl) (fun vals h => by obtain ⟨a, b, rfl⟩ := len2 h; kernel_rfl) (by kernel_rfl) (by kernel_rfl) (by kernel_rfl) (by kernel_rfl) (by decide +kernel) (by decide) (sd_token_of G hc)
theorem fi_is_token : FnIs g n 28 2 nm_is_token (b_is_token c) := fnIs_of G (d := fd_is_token) (q := "is_token") (m := "moduleyard.firsts") (t := 187) (c := 27) (fun _ => by kernel_rfl) (fun _ => by kernel_rfl) (fun vals h => by obtain ⟨a, b, rfl⟩ := len2 h; kernel_rfl) (by kernel_rfl) (by kernel_rfl) (by kernel_rfl) (by kernel_rfl) (by decide +kernel) (by decide) (sd_is_token G hc)
theorem fi_merge : FnIs g n 35 2 nm_merge (b_merge c) := fnIs_of G (d := fd_merge) (q := "merge") (m := "moduleyard.firsts") (t := 187) (c := 34) (fun _ => by kernel_rfl) (fun _ => by kernel_rfl) (fun vals h => by obtain ⟨a, b, rfl⟩ := len2 h; kernel_rfl) (by kernel_rfl) (by kernel_rfl) (by kernel_rfl) (by kernel_rfl) (by decide +kernel) (by decide) (sd_merge G hc)
theorem fi_g_init : FnIs g n 49 3 nm_g_init (b_g_init c) := fnIs_of G (d := fd_Grammar___init__) (q := "Grammar.__init__") (m := "moduleyard.firsts") (t := 187) (c := 48) (fun _ => by kernel_rfl) (fun _ => by kernel_rfl) (fun vals h => by obtain ⟨a, b, c, rfl⟩ := len3 h; kernel_rfl) (by kernel_rfl) (by kernel_rfl) (by kernel_rfl) (by kernel_rfl) (by decide +kernel) (by decide) (sd_g_init G hc)
theorem fi_g_nullable : FnIs g n 56 2 nm_g_nullable (b_g_nullable c) := fnIs_of G (d := fd_Grammar_nullable) (q := "Grammar.nullable") (m := "moduleyard.firsts") (t := 187) (c := 55) (fun _ => by kernel_rfl) (fun _ => by kernel_rfl) (fun vals h => by obtain ⟨a, b, rfl⟩ := len2 h; kernel_rfl) (by kernel_rfl) (by kernel_rfl) (by kernel_rfl) (by kernel_rfl) (by decide +kernel) (by decide) (sd_g_nullable G hc)
theorem fi_g_first : FnIs g n 63 2 nm_g_first (b_g_first c) := fnIs_of G (d := fd_Grammar_first) (q := "Grammar.first") (m := "moduleyard.firsts") (t := 187) (c := 62) (fun _ => by kernel_rfl) (fun _ => by kernel_rfl) (fun vals h => by obtain ⟨a, b, rfl⟩ := len2 h; kernel_rfl) (by kernel_rfl) (by kernel_rfl) (by kernel_rfl) (by kernel_rfl) (by decide +kernel) (by decide) (sd_g_first G hc)
theorem fi_g_predict : FnIs g n 70 3 nm_g_predict (b_g_predict c) := fnIs_of G (d := fd_Grammar_predict) (q := "Grammar.predict") (m := "moduleyard.firsts") (t := 187) (c := 69) (fun _ => by kernel_rfl) (fun _ => by kernel_rfl) (fun vals h => by obtain ⟨a, b, c, rfl⟩ := len3 h; kernel_rfl) (by kernel_rfl) (by kernel_rfl) (by kernel_rfl) (by kernel_rfl) (by decide +kernel) (by decide) (sd_g_predict G hc)
theorem fi_may_be_empty : FnIs g n 84 3 nm_may_be_empty (b_may_be_empty c) := fnIs_of G (d := fd_may_be_empty) (q := "may_be_empty") (m := "moduleyard.firsts") (t := 187) (c := 83) (fun _ => by kernel_rfl) (fun _ => by kernel_rfl) (fun vals h => by obtain ⟨a, b, c, rfl⟩ := len3 h; kernel_rfl) (by kernel_rfl) (by kernel_rfl) (by kernel_rfl) (by kernel_rfl) (by decide +kernel) (by decide) (sd_may_be_empty G hc)
theorem fi_empty_rules : FnIs g n 91 2 nm_empty_rules (b_empty_rules c) := fnIs_of G (d := fd_empty_rules) (q := "empty_rules") (m := "moduleyard.firsts") (t := 187) (c := 90) (fun _ => by kernel_rfl) (fun _ => by kernel_rfl) (fun vals h => by obtain ⟨a, b, rfl⟩ := len2 h; kernel_rfl) (by kernel_rfl) (by kernel_rfl) (by kernel_rfl) (by kernel_rfl) (by decide +kernel) (by decide) (sd_empty_rules G hc)
theorem fi_first_of : FnIs g n 98 4 nm_first_of (b_first_of c) := fnIs_of G (d := fd_first_of) (q := "first_of") (m := "moduleyard.firsts") (t := 187) (c := 97) (fun _ => by kernel_rfl) (fun _ => by kernel_rfl) (fun vals h => by obtain ⟨a, b, c, d, rfl⟩ := len4 h; kernel_rfl) (by kernel_rfl) (by kernel_rfl) (by kernel_rfl) (by kernel_rfl) (by decide +kernel) (by decide) (sd_first_of G hc)
theorem fi_first_rows : FnIs g n 105 3 nm_first_rows (b_first_rows c) := fnIs_of G (d := fd_first_rows) (q := "first_rows") (m := "moduleyard.firsts") (t := 187) (c := 104) (fun _ => by kernel_rfl) (fun _ => by kernel_rfl) (fun vals h => by obtain ⟨a, b, c, rfl⟩ := len3 h; kernel_rfl) (by kernel_rfl) (by kernel_rfl) (by kernel_rfl) (by kernel_rfl) (by decide +kernel) (by decide) (sd_first_rows G hc)
theorem fi_follow_rows : FnIs g n 112 1 nm_follow_rows (b_follow_rows c) := fnIs_of G (d := fd_follow_rows) (q := "follow_rows") (m := "moduleyard.firsts") (t := 187) (c := 111) (fun _ => by kernel_rfl) (fun _ => by kernel_rfl) (fun vals h => by obtain ⟨a, rfl⟩ := len1 h; kernel_rfl) (by kernel_rfl) (by kernel_rfl) (by kernel_rfl) (by kernel_rfl) (by decide +kernel) (by decide) (sd_follow_rows G hc)
theorem fi_add_follows : FnIs g n 119 4 nm_add_follows (b_add_follows c) := fnIs_of G (d := fd_add_follows) (q := "add_follows") (m := "moduleyard.firsts") (t := 187) (c := 118) (fun _ => by kernel_rfl) (fun _ => by kernel_rfl) (fun vals h => by obtain ⟨a, b, c, d, rfl⟩ := len4 h; kernel_rfl) (by kernel_rfl) (by kernel_rfl) (by kernel_rfl) (by kernel_rfl) (by decide +kernel) (by decide) (sd_add_follows G hc)
theorem fi_parts : FnIs g n 126 3 nm_parts (b_parts c) := fnIs_of G (d := fd_parts) (q := "parts") (m := "moduleyard.firsts") (t := 187) (c := 125) (fun _ => by kernel_rfl) (fun _ => by kernel_rfl) (fun vals h => by obtain ⟨a, b, c, rfl⟩ := len3 h; kernel_rfl) (by kernel_rfl) (by kernel_rfl) (by kernel_rfl) (by kernel_rfl) (by decide +kernel) (by decide) (sd_parts G hc)
theorem fi_shared : FnIs g n 131 2 nm_shared (b_shared c) := fnIs_of G (d := fd_shared) (q := "shared") (m := "moduleyard.firsts") (t := 187) (c := 130) (fun _ => by kernel_rfl) (fun _ => by kernel_rfl) (fun vals h => by obtain ⟨a, b, rfl⟩ := len2 h; kernel_rfl) (by kernel_rfl) (by kernel_rfl) (by kernel_rfl) (by kernel_rfl) (by decide +kernel) (by decide) (sd_shared G hc)
theorem fi_conflicts : FnIs g n 138 1 nm_conflicts (b_conflicts c) := fnIs_of G (d := fd_conflicts) (q := "conflicts") (m := "moduleyard.firsts") (t := 187) (c := 137) (fun _ => by kernel_rfl) (fun _ => by kernel_rfl) (fun vals h => by obtain ⟨a, rfl⟩ := len1 h; kernel_rfl) (by kernel_rfl) (by kernel_rfl) (by kernel_rfl) (by kernel_rfl) (by decide +kernel) (by decide) (sd_conflicts G hc)
theorem fi_find_conflicts : FnIs g n 145 5 nm_find_conflicts (b_find_conflicts c) := fnIs_of G (d := fd_find_conflicts) (q := "find_conflicts") (m := "moduleyard.firsts") (t := 187) (c := 144) (fun _ => by kernel_rfl) (fun _ => by kernel_rfl) (fun vals h => by obtain ⟨a, b, c, d, e, rfl⟩ := len5 h; kernel_rfl) (by kernel_rfl) (by kernel_rfl) (by kernel_rfl) (by kernel_rfl) (by decide +kernel) (by decide) (sd_find_conflicts G hc)
theorem fi_add_alternatives : FnIs g n 150 5 nm_add_alternatives (b_add_alternatives c) := fnIs_of G (d := fd_add_alternatives) (q := "add_alternatives") (m := "moduleyard.firsts") (t := 187) (c := 149) (fun _ => by kernel_rfl) (fun _ => by kernel_rfl) (fun vals h => by obtain ⟨a, b, c, d, e, rfl⟩ := len5 h; kernel_rfl) (by kernel_rfl) (by kernel_rfl) (by kernel_rfl) (by kernel_rfl) (by decide +kernel) (by decide) (sd_add_alternatives G hc)
theorem fi_l_stock : FnIs g n 157 1 nm_l_stock (b_l_stock g c) := fnIs_of G (d := fd__law_stock) (q := "_law_stock") (m := "law_pb0335_01") (t := 401) (c := 156) (fun _ => by kernel_rfl) (fun _ => by kernel_rfl) (fun vals h => by obtain ⟨a, rfl⟩ := len1 h; kernel_rfl) (by kernel_rfl) (by kernel_rfl) (by kernel_rfl) (by kernel_rfl) (by decide +kernel) (by decide) (sd_l_stock G hc)
theorem fi_l_pick : FnIs g n 164 2 nm_l_pick (b_l_pick c) := fnIs_of G (d := fd__law_pick) (q := "_law_pick") (m := "law_pb0335_01") (t := 401) (c := 163) (fun _ => by kernel_rfl) (fun _ => by kernel_rfl) (fun vals h => by obtain ⟨a, b, rfl⟩ := len2 h; kernel_rfl) (by kernel_rfl) (by kernel_rfl) (by kernel_rfl) (by kernel_rfl) (by decide +kernel) (by decide) (sd_l_pick G hc)
theorem fi_l_tree : FnIs g n 171 3 nm_l_tree (b_l_tree c) := fnIs_of G (d := fd__law_tree) (q := "_law_tree") (m := "law_pb0335_01") (t := 401) (c := 170) (fun _ => by kernel_rfl) (fun _ => by kernel_rfl) (fun vals h => by obtain ⟨a, b, c, rfl⟩ := len3 h; kernel_rfl) (by kernel_rfl) (by kernel_rfl) (by kernel_rfl) (by kernel_rfl) (by decide +kernel) (by decide) (sd_l_tree G hc)
theorem fi_l_hollow : FnIs g n 176 3 nm_l_hollow (b_l_hollow c) := fnIs_of G (d := fd__law_hollow) (q := "_law_hollow") (m := "law_pb0335_01") (t := 401) (c := 175) (fun _ => by kernel_rfl) (fun _ => by kernel_rfl) (fun vals h => by obtain ⟨a, b, c, rfl⟩ := len3 h; kernel_rfl) (by kernel_rfl) (by kernel_rfl) (by kernel_rfl) (by kernel_rfl) (by decide +kernel) (by decide) (sd_l_hollow G hc)
theorem fi_l_none : FnIs g n 181 2 nm_l_none (b_l_none c) := fnIs_of G (d := fd__law_none) (q := "_law_none") (m := "law_pb0335_01") (t := 401) (c := 180) (fun _ => by kernel_rfl) (fun _ => by kernel_rfl) (fun vals h => by obtain ⟨a, b, rfl⟩ := len2 h; kernel_rfl) (by kernel_rfl) (by kernel_rfl) (by kernel_rfl) (by kernel_rfl) (by decide +kernel) (by decide) (sd_l_none G hc)
theorem fi_l_heads : FnIs g n 188 4 nm_l_heads (b_l_heads c) := fnIs_of G (d := fd__law_heads) (q := "_law_heads") (m := "law_pb0335_01") (t := 401) (c := 187) (fun _ => by kernel_rfl) (fun _ => by kernel_rfl) (fun vals h => by obtain ⟨a, b, c, d, rfl⟩ := len4 h; kernel_rfl) (by kernel_rfl) (by kernel_rfl) (by kernel_rfl) (by kernel_rfl) (by decide +kernel) (by decide) (sd_l_heads G hc)
theorem fi_l_front : FnIs g n 195 2 nm_l_front (b_l_front c) := fnIs_of G (d := fd__law_front) (q := "_law_front") (m := "law_pb0335_01") (t := 401) (c := 194) (fun _ => by kernel_rfl) (fun _ => by kernel_rfl) (fun vals h => by obtain ⟨a, b, rfl⟩ := len2 h; kernel_rfl) (by kernel_rfl) (by kernel_rfl) (by kernel_rfl) (by kernel_rfl) (by decide +kernel) (by decide) (sd_l_front G hc)
theorem fi_l_ahead : FnIs g n 202 3 nm_l_ahead (b_l_ahead c) := fnIs_of G (d := fd__law_ahead) (q := "_law_ahead") (m := "law_pb0335_01") (t := 401) (c := 201) (fun _ => by kernel_rfl) (fun _ => by kernel_rfl) (fun vals h => by obtain ⟨a, b, c, rfl⟩ := len3 h; kernel_rfl) (by kernel_rfl) (by kernel_rfl) (by kernel_rfl) (by kernel_rfl) (by decide +kernel) (by decide) (sd_l_ahead G hc)
theorem fi_l_walk : FnIs g n 209 4 nm_l_walk (b_l_walk c) := fnIs_of G (d := fd__law_walk) (q := "_law_walk") (m := "law_pb0335_01") (t := 401) (c := 208) (fun _ => by kernel_rfl) (fun _ => by kernel_rfl) (fun vals h => by obtain ⟨a, b, c, d, rfl⟩ := len4 h; kernel_rfl) (by kernel_rfl) (by kernel_rfl) (by kernel_rfl) (by kernel_rfl) (by decide +kernel) (by decide) (sd_l_walk G hc)
theorem fi_l_after : FnIs g n 216 1 nm_l_after (b_l_after c) := fnIs_of G (d := fd__law_after) (q := "_law_after") (m := "law_pb0335_01") (t := 401) (c := 215) (fun _ => by kernel_rfl) (fun _ => by kernel_rfl) (fun vals h => by obtain ⟨a, rfl⟩ := len1 h; kernel_rfl) (by kernel_rfl) (by kernel_rfl) (by kernel_rfl) (by kernel_rfl) (by decide +kernel) (by decide) (sd_l_after G hc)
theorem fi_l_quarrels : FnIs g n 221 5 nm_l_quarrels (b_l_quarrels c) := fnIs_of G (d := fd__law_quarrels) (q := "_law_quarrels") (m := "law_pb0335_01") (t := 401) (c := 220) (fun _ => by kernel_rfl) (fun _ => by kernel_rfl) (fun vals h => by obtain ⟨a, b, c, d, e, rfl⟩ := len5 h; kernel_rfl) (by kernel_rfl) (by kernel_rfl) (by kernel_rfl) (by kernel_rfl) (by decide +kernel) (by decide) (sd_l_quarrels G hc)
theorem fi_law : FnIs g n 228 1 nm_law (b_law c) := fnIs_of G (d := fd_law) (q := "law") (m := "law_pb0335_01") (t := 401) (c := 227) (fun _ => by kernel_rfl) (fun _ => by kernel_rfl) (fun vals h => by obtain ⟨a, rfl⟩ := len1 h; kernel_rfl) (by kernel_rfl) (by kernel_rfl) (by kernel_rfl) (by kernel_rfl) (by decide +kernel) (by decide) (sd_law G hc)
end
/-- one level of calls -/
noncomputable def opBody (g : Gl) (c : FT) : FT
  | .token_of => opFn 2 2 (b_token_of c)
  | .is_token => opFn 2 2 (b_is_token c)
  | .merge => opFn 2 4 (b_merge c)
  | .g_init => opFn 3 5 (b_g_init c)
  | .g_nullable => opFn 2 2 (b_g_nullable c)
  | .g_first => opFn 2 2 (b_g_first c)
  | .g_predict => opFn 3 4 (b_g_predict c)
  | .may_be_empty => opFn 3 5 (b_may_be_empty c)
  | .empty_rules => opFn 2 5 (b_empty_rules c)
  | .first_of => opFn 4 7 (b_first_of c)
  | .first_rows => opFn 3 6 (b_first_rows c)
  | .follow_rows => opFn 1 4 (b_follow_rows c)
  | .add_follows => opFn 4 8 (b_add_follows c)
  | .parts => opFn 3 6 (b_parts c)
  | .shared => opFn 2 3 (b_shared c)
  | .conflicts => opFn 1 3 (b_conflicts c)
  | .find_conflicts => opFn 5 11 (b_find_conflicts c)
  | .add_alternatives => opFn 5 10 (b_add_alternatives c)
  | .l_stock => opFn 1 5 (b_l_stock g c)
  | .l_pick => opFn 2 2 (b_l_pick c)
  | .l_tree => opFn 3 4 (b_l_tree c)
  | .l_hollow => opFn 3 6 (b_l_hollow c)
  | .l_none => opFn 2 6 (b_l_none c)
  | .l_heads => opFn 4 8 (b_l_heads c)
  | .l_front => opFn 2 9 (b_l_front c)
  | .l_ahead => opFn 3 4 (b_l_ahead c)
  | .l_walk => opFn 4 8 (b_l_walk c)
  | .l_after => opFn 1 6 (b_l_after c)
  | .l_quarrels => opFn 5 14 (b_l_quarrels c)
  | .law => opFn 1 14 (b_law c)
  | .g_new => opCls (c .g_init)
noncomputable def callD (g : Gl) : Nat → FT
  | 0 => fun _ _ _ _ => False
  | n + 1 => opBody g (callD g n)

theorem SoundC.op {g : Gl} {n : Nat} {fv : Value} {op : Op} (h : SoundC g n fv op) : SoundOp g n fv op := fun a A hp s vals vs Q E Ok AO R hv q => wpAny_call (h a A hp s vals vs Q E Ok AO R hv q)
theorem soundC_of {g : Gl} {n addr k : Nat} {nm : List Str} {f : ST} (Fn : FnIs g n addr k nm f) : SoundC g (n + 1) (.ref addr) (opFn k nm.length f) := fun a A hp s vals vs Q E Ok AO R hv q => fn_code Fn Ok AO R hv q
theorem call_sound {g : Gl} (G : GOk g) : ∀ n, (∀ f, SoundOp g n (fv f) (callD g n f)) ∧ SoundC g n (.ref 49) (callD g n .g_init)
  | 0 => ⟨fun f a A hp s vals vs Q E Ok AO R hv q => q.elim, fun a A hp s vals vs Q E Ok AO R hv q => q.elim⟩
  | n + 1 => by
    obtain ⟨hc, hi⟩ := call_sound G n
    refine ⟨fun f => ?_, soundC_of (fi_g_init G hc)⟩
    cases f with
    | token_of => exact (soundC_of (fi_token_of G hc)).op
    | is_token => exact (soundC_of (fi_is_token G hc)).op
    | merge => exact (soundC_of (fi_merge G hc)).op
    | g_init => exact (soundC_of (fi_g_init G hc)).op
    | g_nullable => exact (soundC_of (fi_g_nullable G hc)).op
    | g_first => exact (soundC_of (fi_g_first G hc)).op
    | g_predict => exact (soundC_of (fi_g_predict G hc)).op
    | may_be_empty => exact (soundC_of (fi_may_be_empty G hc)).op
    | empty_rules => exact (soundC_of (fi_empty_rules G hc)).op
    | first_of => exact (soundC_of (fi_first_of G hc)).op
    | first_rows => exact (soundC_of (fi_first_rows G hc)).op
    | follow_rows => exact (soundC_of (fi_follow_rows G hc)).op
    | add_follows => exact (soundC_of (fi_add_follows G hc)).op
    | parts => exact (soundC_of (fi_parts G hc)).op
    | shared => exact (soundC_of (fi_shared G hc)).op
    | conflicts => exact (soundC_of (fi_conflicts G hc)).op
    | find_conflicts => exact (soundC_of (fi_find_conflicts G hc)).op
    | add_alternatives => exact (soundC_of (fi_add_alternatives G hc)).op
    | l_stock => exact (soundC_of (fi_l_stock G hc)).op
    | l_pick => exact (soundC_of (fi_l_pick G hc)).op
    | l_tree => exact (soundC_of (fi_l_tree G hc)).op
    | l_hollow => exact (soundC_of (fi_l_hollow G hc)).op
    | l_none => exact (soundC_of (fi_l_none G hc)).op
    | l_heads => exact (soundC_of (fi_l_heads G hc)).op
    | l_front => exact (soundC_of (fi_l_front G hc)).op
    | l_ahead => exact (soundC_of (fi_l_ahead G hc)).op
    | l_walk => exact (soundC_of (fi_l_walk G hc)).op
    | l_after => exact (soundC_of (fi_l_after G hc)).op
    | l_quarrels => exact (soundC_of (fi_l_quarrels G hc)).op
    | law => exact (soundC_of (fi_law G hc)).op
    | g_new => have := cls_sound (ClsOk.of G) (meth G (fa := 49) fun _ => by kernel_rfl) (isFun G fun _ => by kernel_rfl) hi; rw [G.hC] at this; exact this
section
variable {g : Gl} {n : Nat} {hp : Hp} {Q : V → Hp → Prop}
theorem u_token_of {v0 v1 : V} (h : b_token_of (callD g n) [some v0, some v1] hp (fun _ hp' => Q .none hp') Q) : callD g (n + 1) .token_of [v0, v1] hp Q := ⟨rfl, h⟩
theorem u_is_token {v0 v1 : V} (h : b_is_token (callD g n) [some v0, some v1] hp (fun _ hp' => Q .none hp') Q) : callD g (n + 1) .is_token [v0, v1] hp Q := ⟨rfl, h⟩
theorem u_merge {v0 v1 : V} (h : b_merge (callD g n) [some v0, some v1, none, none] hp (fun _ hp' => Q .none hp') Q) : callD g (n + 1) .merge [v0, v1] hp Q := ⟨rfl, h⟩
theorem u_g_init {v0 v1 v2 : V} (h : b_g_init (callD g n) [some v0, some v1, some v2, none, none] hp (fun _ hp' => Q .none hp') Q) : callD g (n + 1) .g_init [v0, v1, v2] hp Q := ⟨rfl, h⟩
theorem u_g_nullable {v0 v1 : V} (h : b_g_nullable (callD g n) [some v0, some v1] hp (fun _ hp' => Q .none hp') Q) : callD g (n + 1) .g_nullable [v0, v1] hp Q := ⟨rfl, h⟩
theorem u_g_first {v0 v1 : V} (h : b_g_first (callD g n) [some v0, some v1] hp (fun _ hp' => Q .none hp') Q) : callD g (n + 1) .g_first [v0, v1] hp Q := ⟨rfl, h⟩
theorem u_g_predict {v0 v1 v2 : V} (h : b_g_predict (callD g n) [some v0, some v1, some v2, none] hp (fun _ hp' => Q .none hp') Q) : callD g (n + 1) .g_predict [v0, v1, v2] hp Q := ⟨rfl, h⟩
theorem u_may_be_empty {v0 v1 v2 : V} (h : b_may_be_empty (callD g n) [some v0, some v1, some v2, none, none] hp (fun _ hp' => Q .none hp') Q) : callD g (n + 1) .may_be_empty [v0, v1, v2] hp Q := ⟨rfl, h⟩
theorem u_empty_rules {v0 v1 : V} (h : b_empty_rules (callD g n) [some v0, some v1, none, none, none] hp (fun _ hp' => Q .none hp') Q) : callD g (n + 1) .empty_rules [v0, v1] hp Q := ⟨rfl, h⟩
theorem u_first_of {v0 v1 v2 v3 : V} (h : b_first_of (callD g n) [some v0, some v1, some v2, some v3, none, none, none] hp (fun _ hp' => Q .none hp') Q) : callD g (n + 1) .first_of [v0, v1, v2, v3] hp Q := ⟨rfl, h⟩
theorem u_first_rows {v0 v1 v2 : V} (h : b_first_rows (callD g n) [some v0, some v1, some v2, none, none, none] hp (fun _ hp' => Q .none hp') Q) : callD g (n + 1) .first_rows [v0, v1, v2] hp Q := ⟨rfl, h⟩
theorem u_follow_rows {v0 : V} (h : b_follow_rows (callD g n) [some v0, none, none, none] hp (fun _ hp' => Q .none hp') Q) : callD g (n + 1) .follow_rows [v0] hp Q := ⟨rfl, h⟩
theorem u_add_follows {v0 v1 v2 v3 : V} (h : b_add_follows (callD g n) [some v0, some v1, some v2, some v3, none, none, none, none] hp (fun _ hp' => Q .none hp') Q) : callD g (n + 1) .add_follows [v0, v1, v2, v3] hp Q := ⟨rfl, h⟩
theorem u_parts {v0 v1 v2 : V} (h : b_parts (callD g n) [some v0, some v1, some v2, none, none, none] hp (fun _ hp' => Q .none hp') Q) : callD g (n + 1) .parts [v0, v1, v2] hp Q := ⟨rfl, h⟩
theorem u_shared {v0 v1 : V} (h : b_shared (callD g n) [some v0, some v1, none] hp (fun _ hp' => Q .none hp') Q) : callD g (n + 1) .shared [v0, v1] hp Q := ⟨rfl, h⟩
theorem u_conflicts {v0 : V} (h : b_conflicts (callD g n) [some v0, none, none] hp (fun _ hp' => Q .none hp') Q) : callD g (n + 1) .conflicts [v0] hp Q := ⟨rfl, h⟩
theorem u_find_conflicts {v0 v1 v2 v3 v4 : V} (h : b_find_conflicts (callD g n) [some v0, some v1, some v2, some v3, some v4, none, none, none, none, none, none] hp (fun _ hp' => Q .none hp') Q) : callD g (n + 1) .find_conflicts [v0, v1, v2, v3, v4] hp Q := ⟨rfl, h⟩
theorem u_add_alternatives {v0 v1 v2 v3 v4 : V} (h : b_add_alternatives (callD g n) [some v0, some v1, some v2, some v3, some v4, none, none, none, none, none] hp (fun _ hp' => Q .none hp') Q) : callD g (n + 1) .add_alternatives [v0, v1, v2, v3, v4] hp Q := ⟨rfl, h⟩
theorem u_l_stock {v0 : V} (h : b_l_stock g (callD g n) [some v0, none, none, none, none] hp (fun _ hp' => Q .none hp') Q) : callD g (n + 1) .l_stock [v0] hp Q := ⟨rfl, h⟩
theorem u_l_pick {v0 v1 : V} (h : b_l_pick (callD g n) [some v0, some v1] hp (fun _ hp' => Q .none hp') Q) : callD g (n + 1) .l_pick [v0, v1] hp Q := ⟨rfl, h⟩
theorem u_l_tree {v0 v1 v2 : V} (h : b_l_tree (callD g n) [some v0, some v1, some v2, none] hp (fun _ hp' => Q .none hp') Q) : callD g (n + 1) .l_tree [v0, v1, v2] hp Q := ⟨rfl, h⟩
theorem u_l_hollow {v0 v1 v2 : V} (h : b_l_hollow (callD g n) [some v0, some v1, some v2, none, none, none] hp (fun _ hp' => Q .none hp') Q) : callD g (n + 1) .l_hollow [v0, v1, v2] hp Q := ⟨rfl, h⟩
theorem u_l_none {v0 v1 : V} (h : b_l_none (callD g n) [some v0, some v1, none, none, none, none] hp (fun _ hp' => Q .none hp') Q) : callD g (n + 1) .l_none [v0, v1] hp Q := ⟨rfl, h⟩
theorem u_l_heads {v0 v1 v2 v3 : V} (h : b_l_heads (callD g n) [some v0, some v1, some v2, some v3, none, none, none, none] hp (fun _ hp' => Q .none hp') Q) : callD g (n + 1) .l_heads [v0, v1, v2, v3] hp Q := ⟨rfl, h⟩
theorem u_l_front {v0 v1 : V} (h : b_l_front (callD g n) [some v0, some v1, none, none, none, none, none, none, none] hp (fun _ hp' => Q .none hp') Q) : callD g (n + 1) .l_front [v0, v1] hp Q := ⟨rfl, h⟩
theorem u_l_ahead {v0 v1 v2 : V} (h : b_l_ahead (callD g n) [some v0, some v1, some v2, none] hp (fun _ hp' => Q .none hp') Q) : callD g (n + 1) .l_ahead [v0, v1, v2] hp Q := ⟨rfl, h⟩
theorem u_l_walk {v0 v1 v2 v3 : V} (h : b_l_walk (callD g n) [some v0, some v1, some v2, some v3, none, none, none, none] hp (fun _ hp' => Q .none hp') Q) : callD g (n + 1) .l_walk [v0, v1, v2, v3] hp Q := ⟨rfl, h⟩
theorem u_l_after {v0 : V} (h : b_l_after (callD g n) [some v0, none, none, none, none, none] hp (fun _ hp' => Q .none hp') Q) : callD g (n + 1) .l_after [v0] hp Q := ⟨rfl, h⟩
theorem u_l_quarrels {v0 v1 v2 v3 v4 : V} (h : b_l_quarrels (callD g n) [some v0, some v1, some v2, some v3, some v4, none, none, none, none, none, none, none, none, none] hp (fun _ hp' => Q .none hp') Q) : callD g (n + 1) .l_quarrels [v0, v1, v2, v3, v4] hp Q := ⟨rfl, h⟩
theorem u_law {v0 : V} (h : b_law (callD g n) [some v0, none, none, none, none, none, none, none, none, none, none, none, none, none] hp (fun _ hp' => Q .none hp') Q) : callD g (n + 1) .law [v0] hp Q := ⟨rfl, h⟩
end
end Mine
namespace Mine
open PySem

/-! ## the plain law: trees, what may be empty, what begins, what follows -/
inductive T where
  | text (x : Str) | name (x : Str) | eps | seq (a b : T) | alt (a b : T) | opt (a : T) | rep (a : T)
noncomputable abbrev Rules := List (Str × T)

inductive Nul (rs : Rules) : T → Prop
  | eps : Nul rs .eps
  | opt {a} : Nul rs (.opt a)
  | rep {a} : Nul rs (.rep a)
  | seq {a b} : Nul rs a → Nul rs b → Nul rs (.seq a b)
  | altl {a b} : Nul rs a → Nul rs (.alt a b)
  | altr {a b} : Nul rs b → Nul rs (.alt a b)
  | name {x t} : rs.lookup x = some t → Nul rs t → Nul rs (.name x)

noncomputable def mbe (E : Str → Bool) : T → Bool
  | .text _ => false
  | .name x => E x
  | .eps => true
  | .seq a b => mbe E a && mbe E b
  | .alt a b => mbe E a || mbe E b
  | .opt _ => true
  | .rep _ => true

theorem mbe_sound {rs : Rules} {E : Str → Bool} (h : ∀ x, E x = true → Nul rs (.name x)) : ∀ t, mbe E t = true → Nul rs t
  | .text x, e => by cases e
  | .name x, e => h x e
  | .eps, _ => .eps
  | .seq a b, e => by
    unfold mbe at e
    rw [Bool.and_eq_true] at e
    exact .seq (mbe_sound h a e.1) (mbe_sound h b e.2)
  | .alt a b, e => by
    unfold mbe at e
    rw [Bool.or_eq_true] at e
    exact e.elim (fun e => .altl (mbe_sound h a e)) fun e => .altr (mbe_sound h b e)
  | .opt _, _ => .opt
  | .rep _, _ => .rep
theorem mbe_complete {rs : Rules} {E : Str → Bool} (h : ∀ x t, rs.lookup x = some t → mbe E t = true → E x = true) {t : T} (n : Nul rs t) : mbe E t = true := by
  induction n with
  | eps => rfl
  | opt => rfl
  | rep => rfl
  | seq _ _ ih1 ih2 => unfold mbe; rw [ih1, ih2]; rfl
  | altl _ ih => unfold mbe; rw [ih]; rfl
  | altr _ ih => unfold mbe; rw [ih, Bool.or_true]
  | name e _ ih => exact h _ _ e ih
theorem mbe_mono {E E' : Str → Bool} (h : ∀ x, E x = true → E' x = true) : ∀ t, mbe E t = true → mbe E' t = true
  | .text x, e => by cases e
  | .name x, e => h x e
  | .eps, _ => rfl
  | .seq a b, e => by
    unfold mbe at e ⊢
    rw [Bool.and_eq_true] at e ⊢
    exact ⟨mbe_mono h a e.1, mbe_mono h b e.2⟩
  | .alt a b, e => by
    unfold mbe at e ⊢
    rw [Bool.or_eq_true] at e ⊢
    exact e.imp (mbe_mono h a) (mbe_mono h b)
  | .opt _, _ => rfl
  | .rep _, _ => rfl
theorem mbe_iff {rs : Rules} {E : Str → Bool} (h : ∀ x, E x = true ↔ Nul rs (.name x)) (t : T) : mbe E t = true ↔ Nul rs t :=
  ⟨mbe_sound (fun x => (h x).mp) t, fun n => mbe_complete (fun x t e m => (h x).mpr (.name e (mbe_sound (fun x => (h x).mp) t m))) n⟩
theorem nul_name {rs : Rules} {x : Str} : Nul rs (.name x) ↔ ∃ t, rs.lookup x = some t ∧ Nul rs t :=
  ⟨fun h => by cases h with | name e n => exact ⟨_, e, n⟩, fun ⟨t, e, n⟩ => .name e n⟩

/-! ### a bounded reading -/
theorem count_le {α : Type} {p q : α → Bool} (h : ∀ x, p x = true → q x = true) : ∀ l : List α, (l.filter p).length ≤ (l.filter q).length
  | [] => Nat.le_refl _
  | a :: l => by
    have ih := count_le h l
    rw [List.filter_cons, List.filter_cons]
    by_cases hp : p a = true
    · rw [if_pos hp, if_pos (h a hp)]; simpa using ih
    · rw [if_neg hp]
      split
      · exact Nat.le_succ_of_le ih
      · exact ih
theorem count_lt {α : Type} {p q : α → Bool} (h : ∀ x, p x = true → q x = true) : ∀ {l : List α} {x : α}, x ∈ l → q x = true → ¬ p x = true → (l.filter p).length < (l.filter q).length
  | [], _, hx, _, _ => by cases hx
  | a :: l, x, hx, hq, hp => by
    rw [List.filter_cons, List.filter_cons]
    rcases List.mem_cons.mp hx with rfl | hx
    · rw [if_neg hp, if_pos hq]
      exact Nat.lt_succ_of_le (count_le h l)
    · have ih := count_lt h hx hq hp
      by_cases ha : p a = true
      · rw [if_pos ha, if_pos (h a ha)]; simpa using ih
      · rw [if_neg ha]
        split
        · exact Nat.lt_succ_of_lt ih
        · exact ih
open Classical in
theorem rank {ns : List Str} (P : Nat → Str → Prop) (mono : ∀ d x, P d x → P (d + 1) x) (dom : ∀ d x, P d x → x ∈ ns) (stab : ∀ d, (∀ x, P (d + 1) x → P d x) → ∀ x, P (d + 2) x → P (d + 1) x) (d : Nat) (x : Str) (h : P d x) : P ns.length x := by
  have mono' : ∀ d e, d ≤ e → ∀ x, P d x → P e x := fun d e hde => by
    induction hde with
    | refl => exact fun _ h => h
    | step _ ih => exact fun x h => mono _ x (ih x h)
  have grow : ∀ m, (∀ d, d < m → ¬ ∀ x, P (d + 1) x → P d x) → m ≤ (ns.filter fun x => decide (P m x)).length := by
    intro m
    induction m with
    | zero => intro _; exact Nat.zero_le _
    | succ m ih =>
      intro hs
      have h1 := ih fun d hd => hs d (Nat.lt_succ_of_lt hd)
      have h2 := hs m (Nat.lt_succ_self _)
      obtain ⟨x, hx⟩ := Classical.not_forall.mp h2
      obtain ⟨hx1, hx2⟩ := Classical.not_imp.mp hx
      have := count_lt (p := fun x => decide (P m x)) (q := fun x => decide (P (m + 1) x)) (fun y hy => decide_eq_true (mono m y (of_decide_eq_true hy))) (dom _ x hx1) (decide_eq_true hx1) (fun e => hx2 (of_decide_eq_true e))
      lia
  have ex : ∃ d, d ≤ ns.length ∧ ∀ x, P (d + 1) x → P d x := by
    refine Classical.byContradiction fun hn => ?_
    have := grow (ns.length + 1) fun d hd hs => hn ⟨d, Nat.le_of_lt_succ hd, hs⟩
    have h2 := List.length_filter_le (fun x => decide (P (ns.length + 1) x)) ns
    lia
  obtain ⟨m, hm, hs⟩ := ex
  have st : ∀ k x, P (m + k + 1) x → P (m + k) x := by
    intro k
    induction k with
    | zero => exact hs
    | succ k ih => exact stab (m + k) ih
  have down : ∀ k x, P (m + k) x → P m x := by
    intro k
    induction k with
    | zero => exact fun _ h => h
    | succ k ih => exact fun x h => ih x (st k x h)
  refine mono' m _ hm x ?_
  by_cases c : d ≤ m
  · exact mono' d m c x h
  · have : d = m + (d - m) := by lia
    rw [this] at h
    exact down _ x h

noncomputable def El (rs : Rules) : Nat → Str → Bool
  | 0, _ => false
  | d + 1, x => match rs.lookup x with
    | some t => mbe (El rs d) t
    | none => false
theorem El_mono (rs : Rules) : ∀ d x, El rs d x = true → El rs (d + 1) x = true
  | 0, x, h => by cases h
  | d + 1, x, h => by
    unfold El at h ⊢
    cases e : rs.lookup x with
    | none => rw [e] at h; cases h
    | some t => rw [e] at h; exact mbe_mono (El_mono rs d) t h
theorem El_sound (rs : Rules) : ∀ d x, El rs d x = true → Nul rs (.name x)
  | 0, x, h => by cases h
  | d + 1, x, h => by
    unfold El at h
    cases e : rs.lookup x with
    | none => rw [e] at h; cases h
    | some t => rw [e] at h; exact .name e (mbe_sound (El_sound rs d) t h)
theorem lookup_key {α : Type} : ∀ {l : List (Str × α)} {x : Str} {t : α}, l.lookup x = some t → x ∈ l.map (·.1)
  | (y, u) :: r, x, t, h => by
    rw [List.lookup_cons] at h
    cases e : x == y with
    | true => rw [eq_of_beq e]; exact .head _
    | false => rw [e] at h; exact .tail _ (lookup_key h)
theorem El_mono' (rs : Rules) {d e : Nat} (h : d ≤ e) : ∀ x, El rs d x = true → El rs e x = true := by
  induction h with
  | refl => exact fun _ h => h
  | step _ ih => exact fun x h => El_mono rs _ x (ih x h)
theorem nul_bounded {rs : Rules} {t : T} (n : Nul rs t) : ∃ d, mbe (El rs d) t = true := by
  induction n with
  | eps => exact ⟨0, rfl⟩
  | opt => exact ⟨0, rfl⟩
  | rep => exact ⟨0, rfl⟩
  | seq _ _ ih1 ih2 =>
    obtain ⟨d, h1⟩ := ih1
    obtain ⟨e, h2⟩ := ih2
    refine ⟨max d e, ?_⟩
    unfold mbe
    rw [mbe_mono (El_mono' rs (Nat.le_max_left d e)) _ h1, mbe_mono (El_mono' rs (Nat.le_max_right d e)) _ h2]; rfl
  | altl _ ih => obtain ⟨d, h⟩ := ih; exact ⟨d, by unfold mbe; rw [h]; rfl⟩
  | altr _ ih => obtain ⟨d, h⟩ := ih; exact ⟨d, by unfold mbe; rw [h, Bool.or_true]⟩
  | @name x t e _ ih => obtain ⟨d, h⟩ := ih; exact ⟨d + 1, by show El rs (d + 1) x = true; unfold El; rw [e]; exact h⟩
theorem El_rank (rs : Rules) (d : Nat) (x : Str) (h : El rs d x = true) : El rs rs.length x = true := by
  have := rank (ns := rs.map (·.1)) (fun d x => El rs d x = true) (El_mono rs) (fun d x h => by
    cases d with
    | zero => cases h
    | succ d =>
      unfold El at h
      cases e : rs.lookup x with
      | none => rw [e] at h; cases h
      | some t => exact lookup_key e) (fun d hs x h => by
    unfold El at h ⊢
    cases e : rs.lookup x with
    | none => rw [e] at h; cases h
    | some t => rw [e] at h; exact mbe_mono hs t h) d x h
  simpa using this
/-- the law's reading of bounded depth is right -/
theorem hollow_iff (rs : Rules) (t : T) : mbe (El rs rs.length) t = true ↔ Nul rs t := by
  refine mbe_iff (fun x => ⟨El_sound rs _ x, fun n => ?_⟩) t
  obtain ⟨d, h⟩ := nul_bounded n
  exact El_rank rs d x h

/-! ### what a tree may begin with -/
inductive Fst (rs : Rules) : T → Str → Prop
  | text {x} : Fst rs (.text x) x
  | tok {x} : rs.lookup x = none → Fst rs (.name x) x
  | name {x t y} : rs.lookup x = some t → Fst rs t y → Fst rs (.name x) y
  | seql {a b y} : Fst rs a y → Fst rs (.seq a b) y
  | seqr {a b y} : Nul rs a → Fst rs b y → Fst rs (.seq a b) y
  | altl {a b y} : Fst rs a y → Fst rs (.alt a b) y
  | altr {a b y} : Fst rs b y → Fst rs (.alt a b) y
  | opt {a y} : Fst rs a y → Fst rs (.opt a) y
  | rep {a y} : Fst rs a y → Fst rs (.rep a) y

noncomputable def fo (rs : Rules) (F : Str → Str → Prop) : T → Str → Prop
  | .text x => fun y => y = x
  | .name x => fun y => match rs.lookup x with | none => y = x | some _ => F x y
  | .eps => fun _ => False
  | .seq a b => fun y => fo rs F a y ∨ (Nul rs a ∧ fo rs F b y)
  | .alt a b => fun y => fo rs F a y ∨ fo rs F b y
  | .opt a => fo rs F a
  | .rep a => fo rs F a
theorem fo_sound {rs : Rules} {F : Str → Str → Prop} (h : ∀ x y t, rs.lookup x = some t → F x y → Fst rs (.name x) y) : ∀ t y, fo rs F t y → Fst rs t y
  | .text x, y, e => by cases e; exact .text
  | .name x, y, e => by
    unfold fo at e
    cases q : rs.lookup x with
    | none => rw [q] at e; cases e; exact .tok q
    | some t => rw [q] at e; exact h x y t q e
  | .eps, _, e => e.elim
  | .seq a b, y, e => e.elim (fun e => .seql (fo_sound h a y e)) fun e => .seqr e.1 (fo_sound h b y e.2)
  | .alt a b, y, e => e.elim (fun e => .altl (fo_sound h a y e)) fun e => .altr (fo_sound h b y e)
  | .opt a, y, e => .opt (fo_sound h a y e)
  | .rep a, y, e => .rep (fo_sound h a y e)
theorem fo_complete {rs : Rules} {F : Str → Str → Prop} (h : ∀ x t y, rs.lookup x = some t → fo rs F t y → F x y) {t : T} {y : Str} (n : Fst rs t y) : fo rs F t y := by
  induction n with
  | text => rfl
  | tok e => unfold fo; rw [e]
  | name e _ ih => unfold fo; rw [e]; exact h _ _ _ e ih
  | seql _ ih => exact .inl ih
  | seqr n _ ih => exact .inr ⟨n, ih⟩
  | altl _ ih => exact .inl ih
  | altr _ ih => exact .inr ih
  | opt _ ih => exact ih
  | rep _ ih => exact ih
theorem fo_mono {rs : Rules} {F F' : Str → Str → Prop} (h : ∀ x y, F x y → F' x y) : ∀ t y, fo rs F t y → fo rs F' t y
  | .text x, y, e => e
  | .name x, y, e => by
    unfold fo at e ⊢
    cases q : rs.lookup x with
    | none => rw [q] at e; exact e
    | some t => rw [q] at e; exact h x y e
  | .eps, _, e => e
  | .seq a b, y, e => e.imp (fo_mono h a y) fun e => ⟨e.1, fo_mono h b y e.2⟩
  | .alt a b, y, e => e.imp (fo_mono h a y) (fo_mono h b y)
  | .opt a, y, e => fo_mono h a y e
  | .rep a, y, e => fo_mono h a y e
theorem fo_iff {rs : Rules} {F : Str → Str → Prop} (h : ∀ x y t, rs.lookup x = some t → (F x y ↔ Fst rs (.name x) y)) (t : T) (y : Str) : fo rs F t y ↔ Fst rs t y :=
  ⟨fo_sound (fun x y t e => (h x y t e).mp) t y, fun n => fo_complete (fun x t y e m => (h x y t e).mpr (.name e (fo_sound (fun x y t e => (h x y t e).mp) t y m))) n⟩

noncomputable def Hl (rs : Rules) : Nat → Str → Str → Prop
  | 0, _ => fun _ => False
  | d + 1, x => fun y => match rs.lookup x with
    | some t => fo rs (Hl rs d) t y
    | none => False
theorem Hl_mono (rs : Rules) : ∀ d x y, Hl rs d x y → Hl rs (d + 1) x y
  | 0, x, y, h => h.elim
  | d + 1, x, y, h => by
    unfold Hl at h ⊢
    cases e : rs.lookup x with
    | none => rw [e] at h; exact h.elim
    | some t => rw [e] at h; exact fo_mono (Hl_mono rs d) t y h
theorem Hl_mono' (rs : Rules) {d e : Nat} (h : d ≤ e) : ∀ x y, Hl rs d x y → Hl rs e x y := by
  induction h with
  | refl => exact fun _ _ h => h
  | step _ ih => exact fun x y h => Hl_mono rs _ x y (ih x y h)
theorem Hl_sound (rs : Rules) : ∀ d x y, Hl rs d x y → Fst rs (.name x) y
  | 0, x, y, h => h.elim
  | d + 1, x, y, h => by
    unfold Hl at h
    cases e : rs.lookup x with
    | none => rw [e] at h; exact h.elim
    | some t => rw [e] at h; exact .name e (fo_sound (fun x y _ _ => Hl_sound rs d x y) t y h)
theorem fst_bounded {rs : Rules} {t : T} {y : Str} (n : Fst rs t y) : ∃ d, fo rs (Hl rs d) t y := by
  induction n with
  | text => exact ⟨0, rfl⟩
  | tok e => exact ⟨0, by unfold fo; rw [e]⟩
  | @name x t y e _ ih => obtain ⟨d, h⟩ := ih; exact ⟨d + 1, by unfold fo; rw [e]; show Hl rs (d + 1) x y; unfold Hl; rw [e]; exact h⟩
  | seql _ ih => obtain ⟨d, h⟩ := ih; exact ⟨d, .inl h⟩
  | seqr n _ ih => obtain ⟨d, h⟩ := ih; exact ⟨d, .inr ⟨n, h⟩⟩
  | altl _ ih => obtain ⟨d, h⟩ := ih; exact ⟨d, .inl h⟩
  | altr _ ih => obtain ⟨d, h⟩ := ih; exact ⟨d, .inr h⟩
  | opt _ ih => exact ih
  | rep _ ih => exact ih
theorem Hl_rank (rs : Rules) (d : Nat) (x y : Str) (h : Hl rs d x y) : Hl rs rs.length x y := by
  -- the one text y held, the others as they are: rank over x
  have key : ∀ d x, (fun d x => Hl rs d x y) d x → (fun d x => Hl rs d x y) (rs.map (·.1)).length x := by
    refine rank (ns := rs.map (·.1)) (fun d x => Hl rs d x y) (fun d x => Hl_mono rs d x y) (fun d x h => ?_) (fun d hs x h => ?_)
    · cases d with
      | zero => exact h.elim
      | succ d =>
        unfold Hl at h
        cases e : rs.lookup x with
        | none => rw [e] at h; exact h.elim
        | some t => exact lookup_key e
    · unfold Hl at h ⊢
      cases e : rs.lookup x with
      | none => rw [e] at h; exact h.elim
      | some t =>
        rw [e] at h
        have : ∀ t, fo rs (Hl rs (d + 1)) t y → fo rs (Hl rs d) t y := by
          intro t
          induction t with
          | text z => exact fun h => h
          | name z => intro h; unfold fo at h ⊢; cases q : rs.lookup z with
            | none => rw [q] at h; exact h
            | some u => rw [q] at h; exact hs z h
          | eps => exact fun h => h
          | seq a b iha ihb => exact fun h => h.imp iha fun h => ⟨h.1, ihb h.2⟩
          | alt a b iha ihb => exact fun h => h.imp iha ihb
          | opt a ih => exact ih
          | rep a ih => exact ih
        exact this t h
  have := key d x h
  simpa using this
theorem heads_iff (rs : Rules) (t : T) (y : Str) : fo rs (Hl rs rs.length) t y ↔ Fst rs t y := by
  refine fo_iff (fun x y t _ => ⟨Hl_sound rs _ x y, fun n => ?_⟩) t y
  obtain ⟨d, h⟩ := fst_bounded n
  have : fo rs (Hl rs d) (.name x) y := h
  unfold fo at this
  rename_i e
  rw [e] at this
  exact Hl_rank rs d x y this

/-! ### what may follow -/
noncomputable def prd (rs : Rules) (t : T) (B : Str → Prop) : Str → Prop := fun y => Fst rs t y ∨ (Nul rs t ∧ B y)
noncomputable def Occ (rs : Rules) : T → (Str → Prop) → Str → Str → Prop
  | .text _, _ => fun _ _ => False
  | .name x, B => fun m y => m = x ∧ (∃ t, rs.lookup x = some t) ∧ B y
  | .eps, _ => fun _ _ => False
  | .seq a b, B => fun m y => Occ rs a (prd rs b B) m y ∨ Occ rs b B m y
  | .alt a b, B => fun m y => Occ rs a B m y ∨ Occ rs b B m y
  | .opt a, B => Occ rs a B
  | .rep a, B => Occ rs a (prd rs (.rep a) B)
theorem prd_mono {rs : Rules} {t : T} {B B' : Str → Prop} (h : ∀ y, B y → B' y) (y : Str) (e : prd rs t B y) : prd rs t B' y := e.imp id fun e => ⟨e.1, h y e.2⟩
theorem Occ_mono {rs : Rules} : ∀ (t : T) {B B' : Str → Prop}, (∀ y, B y → B' y) → ∀ m y, Occ rs t B m y → Occ rs t B' m y
  | .text _, _, _, _, _, _, e => e
  | .name x, _, _, h, m, y, e => ⟨e.1, e.2.1, h y e.2.2⟩
  | .eps, _, _, _, _, _, e => e
  | .seq a b, _, _, h, m, y, e => e.imp (Occ_mono a (prd_mono h) m y) (Occ_mono b h m y)
  | .alt a b, _, _, h, m, y, e => e.imp (Occ_mono a h m y) (Occ_mono b h m y)
  | .opt a, _, _, h, m, y, e => Occ_mono a h m y e
  | .rep a, _, _, h, m, y, e => Occ_mono a (prd_mono h) m y e
/-- what follows each of many what-comes-behinds -/
theorem Occ_each {rs : Rules} {ι : Type} (i₀ : ι) : ∀ (t : T) {B : ι → Str → Prop} {m y : Str}, Occ rs t (fun z => ∃ i, B i z) m y → ∃ i, Occ rs t (B i) m y
  | .text _, _, _, _, e => e.elim
  | .name x, _, m, y, ⟨e1, e2, i, e3⟩ => ⟨i, e1, e2, e3⟩
  | .eps, _, _, _, e => e.elim
  | .seq a b, B, m, y, e => by
    rcases e with e | e
    · have : Occ rs a (fun z => ∃ i, prd rs b (B i) z) m y := Occ_mono a (fun z h => h.elim (fun h => ⟨i₀, .inl h⟩) fun ⟨h, i, h'⟩ => ⟨i, .inr ⟨h, h'⟩⟩) m y e
      obtain ⟨i, h⟩ := Occ_each i₀ a this
      exact ⟨i, .inl h⟩
    · obtain ⟨i, h⟩ := Occ_each i₀ b e
      exact ⟨i, .inr h⟩
  | .alt a b, B, m, y, e => by
    rcases e with e | e
    · obtain ⟨i, h⟩ := Occ_each i₀ a e
      exact ⟨i, .inl h⟩
    · obtain ⟨i, h⟩ := Occ_each i₀ b e
      exact ⟨i, .inr h⟩
  | .opt a, B, m, y, e => Occ_each i₀ a e
  | .rep a, B, m, y, e => by
    have : Occ rs a (fun z => ∃ i, prd rs (.rep a) (B i) z) m y := Occ_mono a (fun z h => h.elim (fun h => ⟨i₀, .inl h⟩) fun ⟨h, i, h'⟩ => ⟨i, .inr ⟨h, h'⟩⟩) m y e
    exact Occ_each i₀ a this
/-- closed: what follows is told -/
structure FolClosed (rs : Rules) (st : Str) (X : Str → Str → Prop) : Prop where
  start : (∃ t, rs.lookup st = some t) → X st "eof"
  step : ∀ n t, rs.lookup n = some t → ∀ m y, Occ rs t (X n) m y → X m y
noncomputable def Fol (rs : Rules) (st : Str) (m y : Str) : Prop := ∀ X, FolClosed rs st X → X m y
theorem Fol.closed (rs : Rules) (st : Str) : FolClosed rs st (Fol rs st) where
  start := fun h X C => C.start h
  step := fun n t e m y o X C => C.step n t e m y (Occ_mono t (fun z h => h X C) m y o)
end Mine
namespace Mine
open PySem
section

/-! ## how an abstract heap grows -/
structure Ext (M : Addr → Prop) (hp hp' : Hp) : Prop where
  keep : ∀ b o, hp b = some o → ¬ M b → hp' b = some o
  tup : ∀ b vs, hp b = some (.tup vs) → hp' b = some (.tup vs)
  live : ∀ b, hp b ≠ none → hp' b ≠ none
noncomputable abbrev No : Addr → Prop := fun _ => False
theorem Ext.refl {M} (hp : Hp) : Ext M hp hp := ⟨fun _ _ e _ => e, fun _ _ e => e, fun _ h => h⟩
theorem Ext.trans {M} {hp₁ hp₂ hp₃ : Hp} (a : Ext M hp₁ hp₂) (b : Ext M hp₂ hp₃) : Ext M hp₁ hp₃ := ⟨fun x o e n => b.keep x o (a.keep x o e n) n, fun x vs e => b.tup x vs (a.tup x vs e), fun x h => b.live x (a.live x h)⟩
theorem Ext.mono {M M' : Addr → Prop} {hp hp' : Hp} (a : Ext M hp hp') (h : ∀ b, M b → M' b) : Ext M' hp hp' := ⟨fun x o e n => a.keep x o e fun m => n (h x m), a.tup, a.live⟩
theorem Ext.no {M} {hp hp' : Hp} (a : Ext No hp hp') : Ext M hp hp' := a.mono fun _ h => h.elim
theorem Ext.get {hp hp' : Hp} (a : Ext No hp hp') {b o} (e : hp b = some o) : hp' b = some o := a.keep b o e id
theorem Ext.alloc {M} {hp : Hp} {D o} (h : hp D = none) : Ext M hp (hp.set D o) where
  keep := fun b o' e _ => by rw [Hp.set_ne _ _ fun q => by rw [q, h] at e; cases e]; exact e
  tup := fun b vs e => by rw [Hp.set_ne _ _ fun q => by rw [q, h] at e; cases e]; exact e
  live := fun b hb => by
    by_cases q : b = D
    · rw [q, Hp.set_same]; exact fun x => nomatch x
    · rw [Hp.set_ne _ _ q]; exact hb
noncomputable def isTup : Option Ab → Bool | some (.tup _) => true | _ => false
theorem Ext.upd {M : Addr → Prop} {hp : Hp} {d o} (hM : M d) (h : isTup (hp d) = false) : Ext M hp (hp.set d o) where
  keep := fun b o' e n => by rw [Hp.set_ne _ _ fun (q : b = d) => n (q ▸ hM)]; exact e
  tup := fun b vs e => by rw [Hp.set_ne _ _ fun q => by rw [← q, e] at h; cases h]; exact e
  live := fun b hb => by
    by_cases q : b = d
    · rw [q, Hp.set_same]; exact fun x => nomatch x
    · rw [Hp.set_ne _ _ q]; exact hb
theorem Ext.ne {M} {hp hp' : Hp} (a : Ext M hp hp') {b D} (hb : hp b ≠ none) (hD : hp' D = none) : b ≠ D := fun q => a.live b hb (q ▸ hD)
theorem ne_none {hp : Hp} {b o} (e : hp b = some o) : hp b ≠ none := by rw [e]; exact fun x => nomatch x

/-! ## trees in a heap -/
noncomputable def IsT (hp : Hp) : T → V → Prop
  | .text x, v => ∃ d, v = .ref d ∧ hp d = some (.tup [.str "text", .str x])
  | .name x, v => ∃ d, v = .ref d ∧ hp d = some (.tup [.str "name", .str x])
  | .eps, v => ∃ d e, v = .ref d ∧ hp d = some (.tup [.str "seq", .ref e]) ∧ hp e = some (.tup [])
  | .seq a b, v => ∃ d e va vb, v = .ref d ∧ hp d = some (.tup [.str "seq", .ref e]) ∧ hp e = some (.tup [va, vb]) ∧ IsT hp a va ∧ IsT hp b vb
  | .alt a b, v => ∃ d e va vb, v = .ref d ∧ hp d = some (.tup [.str "alt", .ref e]) ∧ hp e = some (.tup [va, vb]) ∧ IsT hp a va ∧ IsT hp b vb
  | .opt a, v => ∃ d va, v = .ref d ∧ hp d = some (.tup [.str "opt", va]) ∧ IsT hp a va
  | .rep a, v => ∃ d va, v = .ref d ∧ hp d = some (.tup [.str "rep", va]) ∧ IsT hp a va
theorem IsT.ext {M} {hp hp' : Hp} (E : Ext M hp hp') : ∀ {t v}, IsT hp t v → IsT hp' t v
  | .text x, v, ⟨d, e, h⟩ => ⟨d, e, E.tup _ _ h⟩
  | .name x, v, ⟨d, e, h⟩ => ⟨d, e, E.tup _ _ h⟩
  | .eps, v, ⟨d, e, h, h1, h2⟩ => ⟨d, e, h, E.tup _ _ h1, E.tup _ _ h2⟩
  | .seq a b, v, ⟨d, e, va, vb, h, h1, h2, h3, h4⟩ => ⟨d, e, va, vb, h, E.tup _ _ h1, E.tup _ _ h2, IsT.ext E h3, IsT.ext E h4⟩
  | .alt a b, v, ⟨d, e, va, vb, h, h1, h2, h3, h4⟩ => ⟨d, e, va, vb, h, E.tup _ _ h1, E.tup _ _ h2, IsT.ext E h3, IsT.ext E h4⟩
  | .opt a, v, ⟨d, va, h, h1, h2⟩ => ⟨d, va, h, E.tup _ _ h1, IsT.ext E h2⟩
  | .rep a, v, ⟨d, va, h, h1, h2⟩ => ⟨d, va, h, E.tup _ _ h1, IsT.ext E h2⟩
noncomputable def ht : T → Nat
  | .text _ | .name _ | .eps => 1
  | .seq a b | .alt a b => max (ht a) (ht b) + 1
  | .opt a | .rep a => ht a + 1

/-! ## steps of the abstract bodies -/
section
variable {hp : Hp} {Q : V → Hp → Prop} {Qb : Bool → Prop}
theorem r_sub0 {d a r} (hx : hp d = some (.tup (a :: r))) (h : Q a hp) : opSub (.ref d) (.int 0) hp Q := by
  unfold opSub; simp only [hx]; exact ⟨Int.le_refl _, by decide, h⟩
theorem r_sub1 {d a b r} (hx : hp d = some (.tup (a :: b :: r))) (h : Q b hp) : opSub (.ref d) (.int 1) hp Q := by
  unfold opSub; simp only [hx]; exact ⟨by decide, by decide, h⟩
theorem r_subD {d ep es k v} (hx : hp d = some (.dict ep es)) (hl : es.lookup k = some v) (h : Q v hp) : opSub (.ref d) (.str k) hp Q := by
  unfold opSub; simp only [hx, hl]; exact h
theorem r_subL {d vs} {i : Int} {v} (hx : hp d = some (.list vs)) (h0 : 0 ≤ i) (h1 : i < BIG) (hl : vs[i.toNat]? = some v) (h : Q v hp) : opSub (.ref d) (.int i) hp Q := by
  unfold opSub; simp only [hx, hl]; exact ⟨h0, h1, h⟩
theorem r_eqF {x y : Str} (hne : (x == y) = false) (h : Qb false) : opCmp .Eq (.str x) (.str y) hp Qb := by
  show Qb (x == y); rw [hne]; exact h
theorem r_eqT {x : Str} (h : Qb true) : opCmp .Eq (.str x) (.str x) hp Qb := by
  show Qb (x == x); rw [beq_self_eq_true]; exact h
theorem r_inD {d ep es k} (hx : hp d = some (.dict ep es)) (h : Qb (es.lookup k).isSome) : opCmp .In (.str k) (.ref d) hp Qb := by
  unfold opCmp cmpIn; simp only [hx]; exact h
theorem r_ninD {d ep es k} (hx : hp d = some (.dict ep es)) (h : Qb (!(es.lookup k).isSome)) : opCmp .NotIn (.str k) (.ref d) hp Qb := by
  unfold opCmp cmpIn; simp only [hx]; exact h
theorem r_if {b : Bool} {P P' : Prop} (h : b = true → P) (h' : b = false → P') : if b = true then P else P' := by
  cases b with
  | true => exact h rfl
  | false => exact h' rfl
theorem r_forT {t body ρ N R x vs} (hx : hp x = some (.tup vs)) (h : forL t body (fun h => h x = some (.tup vs)) vs ρ hp N R) : forK t body ρ N R (.ref x) hp := by
  unfold forK; simp only [hx]; exact h
theorem r_forL {t body ρ N R x vs} (hx : hp x = some (.list vs)) (h : forL t body (fun h => h x = some (.list vs)) vs ρ hp N R) : forK t body ρ N R (.ref x) hp := by
  unfold forK; simp only [hx]; exact h
theorem r_forD {t body ρ N R x ep es} (hx : hp x = some (.dict ep es)) (h : forL t body (fun h => h x = some (.dict ep es)) (es.map fun p => V.str p.1) ρ hp N R) : forK t body ρ N R (.ref x) hp := by
  unfold forK; simp only [hx]; exact h
theorem r_tup {is x vs ρ K} (hx : hp x = some (.tup vs)) (hl : vs.length = is.length) (h : K (setAll is vs ρ)) : tTup is (.ref x) ρ hp K := by
  unfold tTup; simp only [hx]; exact ⟨hl, h⟩
end

/-! ## the bodies, construct by construct -/
section
variable {ρ : Loc} {hp : Hp} {Q : V → Hp → Prop} {Qb : Bool → Hp → Prop} {N : Loc → Hp → Prop} {R : V → Hp → Prop}
theorem i_fn {k M : Nat} {f : ST} {vs : List V} {ρ' : Loc} (hl : vs.length = k) (hρ : vs.map some ++ List.replicate (M - k) none = ρ') (h : f ρ' hp (fun _ hp' => Q .none hp') Q) : opFn k M f vs hp Q := ⟨hl, by rw [hρ]; exact h⟩
theorem i_nil (h : N ρ hp) : sSeq [] ρ hp N R := h
theorem i_seq {f fs} (h : f ρ hp (fun ρ' hp' => sSeq fs ρ' hp' N R) R) : sSeq (f :: fs) ρ hp N R := h
theorem i_ret {f : EV} (h : f ρ hp R) : sRet f ρ hp N R := h
theorem i_retN (h : R .none hp) : sRetN ρ hp N R := h
theorem i_exp {f : EV} (h : f ρ hp fun _ hp' => N ρ hp') : sExp f ρ hp N R := h
theorem i_if {t : BV} {f₁ f₂ : ST} (h : t ρ hp fun b hp₁ => if b = true then f₁ ρ hp₁ N R else f₂ ρ hp₁ N R) : sIf t f₁ f₂ ρ hp N R := h
theorem i_asg {t : TG} {f : EV} (h : f ρ hp fun v hp' => t v ρ hp' fun ρ' => N ρ' hp') : sAsg t f ρ hp N R := h
theorem i_name {i : Nat} {v : V} {K : Loc → Prop} (h : K (ρ.set i (some v))) : tName i v ρ hp K := h
theorem i_for {t : TG} {f : EV} {body : ST} (h : f ρ hp (forK t body ρ N R)) : sFor t f body ρ hp N R := h
theorem i_forR {t : TG} {fs : List EV} {body : ST} (h : cAll fs ρ hp (rngK t body ρ N R)) : sForR t fs body ρ hp N R := h
theorem i_forV {t : TG} {f : EV} {body : ST} (h : cAll [f] ρ hp (revK t body ρ N R)) : sForV t f body ρ hp N R := h
theorem i_store {f₁ f₂ f : EV} (h : f ρ hp fun v hp₁ => f₁ ρ hp₁ fun a hp₂ => f₂ ρ hp₂ fun b hp₃ => opStore a b v hp₃ fun hp₄ => N ρ hp₄) : sStore f₁ f₂ f ρ hp N R := h
theorem i_setA {name : Str} {f₁ f : EV} (h : f ρ hp fun v hp₁ => f₁ ρ hp₁ fun a hp₂ => opSetA name a v hp₂ fun hp₃ => N ρ hp₃) : sSetA name f₁ f ρ hp N R := h
theorem i_iadd {i : Nat} {a : V} {f : EV} (hi : look ρ i = some a) (h : f ρ hp fun b hp₁ => opIAdd a b hp₁ fun v hp₂ => N (ρ.set i (some v)) hp₂) : sIAdd i f ρ hp N R := by unfold sIAdd; rw [hi]; exact h
theorem i_comp {y i : Nat} {cond : BV} {f ef : EV} (h : f ρ hp (compV i cond ef ρ fun acc hp' => ∀ D, hp' D = none → N (ρ.set y (some (.ref D))) (hp'.set D (.list acc)))) : sComp y i cond f ef ρ hp N R := h
theorem e_V {i : Nat} {v : V} (hi : look ρ i = some v) (h : Q v hp) : cV i ρ hp Q := by unfold cV; rw [hi]; exact h
theorem e_C {v : V} (h : Q v hp) : cC v ρ hp Q := h
theorem e_sub {f₁ f₂ : EV} (h : f₁ ρ hp fun a hp₁ => f₂ ρ hp₁ fun b hp₂ => opSub a b hp₂ Q) : cSub f₁ f₂ ρ hp Q := h
theorem e_attr {name : Str} {f : EV} (h : f ρ hp fun a hp₁ => opAttr name a hp₁ fun v => Q v hp₁) : cAttr name f ρ hp Q := h
theorem e_bin {op : Operator} {f₁ f₂ : EV} (h : f₁ ρ hp fun a hp₁ => f₂ ρ hp₁ fun b hp₂ => opBin op a b hp₂ Q) : cBin op f₁ f₂ ρ hp Q := h
theorem e_cmp {op : CmpOp} {f₁ f₂ : EV} (h : f₁ ρ hp fun a hp₁ => f₂ ρ hp₁ fun b hp₂ => opCmp op a b hp₂ fun r => Q (.bool r) hp₂) : cCmp op f₁ f₂ ρ hp Q := h
theorem e_op {op : Op} {fs : List EV} (h : cAll fs ρ hp fun vs hp' => op vs hp' Q) : cOp op fs ρ hp Q := h
theorem e_lm {op : MOp} {f : EV} {fs : List EV} (h : f ρ hp fun self hp₁ => isL self hp₁ ∧ cAll fs ρ hp₁ fun vs hp₂ => op self vs hp₂ Q) : cLm op f fs ρ hp Q := h
theorem e_im {name : Str} {op : Op} {f : EV} {fs : List EV} (h : f ρ hp fun self hp₁ => isI name self hp₁ ∧ cAll fs ρ hp₁ fun vs hp₂ => op (self :: vs) hp₂ Q) : cIm name op f fs ρ hp Q := h
theorem e_tup {fs : List EV} (h : cAll fs ρ hp fun vs hp' => ∀ D, hp' D = none → Q (.ref D) (hp'.set D (.tup vs))) : cTup fs ρ hp Q := h
theorem e_list {fs : List EV} (h : cAll fs ρ hp fun vs hp' => ∀ D, hp' D = none → Q (.ref D) (hp'.set D (.list vs))) : cList fs ρ hp Q := h
theorem e_dict0 (h : ∀ D, hp D = none → Q (.ref D) (hp.set D (.dict 0 []))) : cDict0 ρ hp Q := h
theorem e_if {t : BV} {f₁ f₂ : EV} (h : t ρ hp fun b hp₁ => if b = true then f₁ ρ hp₁ Q else f₂ ρ hp₁ Q) : cIf t f₁ f₂ ρ hp Q := h
theorem e_comp {i : Nat} {cond : BV} {f ef : EV} (h : f ρ hp (compV i cond ef ρ fun acc hp' => ∀ D, hp' D = none → Q (.ref D) (hp'.set D (.list acc)))) : cComp i cond f ef ρ hp Q := h
theorem e_sset {f : EV} (h : cAll [f] ρ hp (ssetK Q)) : cSSet f ρ hp Q := h
theorem e_and1 {f : EV} (h : f ρ hp Q) : cAnd [f] ρ hp Q := h
theorem e_or1 {f : EV} (h : f ρ hp Q) : cOr [f] ρ hp Q := h
theorem e_and {f f' : EV} {fs : List EV} (h : f ρ hp fun v hp₁ => match v with | .bool true => cAnd (f' :: fs) ρ hp₁ Q | .bool false => Q (.bool false) hp₁ | _ => False) : cAnd (f :: f' :: fs) ρ hp Q := by
  unfold cAnd; exact h
theorem e_or {f f' : EV} {fs : List EV} (h : f ρ hp fun v hp₁ => match v with | .bool false => cOr (f' :: fs) ρ hp₁ Q | .bool true => Q (.bool true) hp₁ | _ => False) : cOr (f :: f' :: fs) ρ hp Q := by
  unfold cOr; exact h
theorem a_nil {P : List V → Hp → Prop} (h : P [] hp) : cAll [] ρ hp P := h
theorem a_cons {f : EV} {fs : List EV} {P : List V → Hp → Prop} (h : f ρ hp fun v hp₁ => cAll fs ρ hp₁ fun vs hp₂ => P (v :: vs) hp₂) : cAll (f :: fs) ρ hp P := h
theorem b_cmp' {op : CmpOp} {f₁ f₂ : EV} (h : f₁ ρ hp fun a hp₁ => f₂ ρ hp₁ fun b hp₂ => opCmp op a b hp₂ fun r => Qb r hp₂) : bCmp op f₁ f₂ ρ hp Qb := h
noncomputable def bvK (Qb : Bool → Hp → Prop) : V → Hp → Prop := fun v hp₁ => match v with | .bool b => Qb b hp₁ | _ => False
theorem b_val' {f : EV} (h : f ρ hp (bvK Qb)) : bVal f ρ hp Qb := h
theorem b_bool {b : Bool} (h : Qb b hp) : bvK Qb (.bool b) hp := h
theorem b_not' {f : BV} (h : f ρ hp fun b hp₁ => Qb (!b) hp₁) : bNot f ρ hp Qb := h
theorem b_and0 (h : Qb true hp) : bAnd [] ρ hp Qb := h
theorem b_and' {f : BV} {fs} (h : f ρ hp fun b hp₁ => if b = true then bAnd fs ρ hp₁ Qb else Qb false hp₁) : bAnd (f :: fs) ρ hp Qb := h
theorem b_or0 (h : Qb false hp) : bOr [] ρ hp Qb := h
theorem b_or' {f : BV} {fs} (h : f ρ hp fun b hp₁ => if b = true then Qb true hp₁ else bOr fs ρ hp₁ Qb) : bOr (f :: fs) ρ hp Qb := h
theorem b_T (h : Qb true hp) : bT ρ hp Qb := h
theorem f_nil {t : TG} {body : ST} {chk : Hp → Prop} (hc : chk hp) (h : N ρ hp) : forL t body chk [] ρ hp N R := ⟨hc, h⟩
theorem f_cons {t : TG} {body : ST} {chk : Hp → Prop} {v : V} {vs : List V} (hc : chk hp) (h : t v ρ hp fun ρ' => body ρ' hp (fun ρ'' hp'' => forL t body chk vs ρ'' hp'' N R) R) : forL t body chk (v :: vs) ρ hp N R := ⟨hc, h⟩
theorem if_t {P P' : Prop} (h : P) : if true = true then P else P' := h
theorem if_f {P P' : Prop} (h : P') : if false = true then P else P' := h
theorem if_nt {P P' : Prop} (h : P) : if (!false) = true then P else P' := h
theorem if_nf {P P' : Prop} (h : P') : if (!true) = true then P else P' := h
end

end
noncomputable abbrev LnkI (A B : Prop) : Prop := (A → B) → A → B
noncomputable abbrev LnkE (A B : Prop) : Prop := (A → B) → A = B
theorem cutA {A B : Prop} (e : A = B) (a : A) : B := Eq.mp e a
theorem cut1 {A B : Prop} (e : A → B) (a : A) : B := e a
local macro_rules | `(tactic| walk_at "abp") => `(tactic| with_reducible first
  | refine i_seq ?_ | refine i_nil ?_ | refine i_ret ?_ | refine i_retN ?_ | refine i_exp ?_ | refine i_if ?_ | refine i_asg ?_ | refine i_name ?_ | refine i_for ?_ | refine i_forR ?_ | refine i_forV ?_ | refine i_store ?_ | refine i_setA ?_ | refine i_comp ?_
  | refine i_iadd (by with_unfolding_all rfl) ?_ | refine e_V (by with_unfolding_all rfl) ?_
  | refine e_C ?_ | refine e_sub ?_ | refine e_attr ?_ | refine e_bin ?_ | refine e_cmp ?_ | refine e_op ?_ | refine e_lm ?_ | refine e_im ?_ | refine e_tup ?_ | refine e_list ?_ | refine e_dict0 ?_ | refine e_if ?_ | refine e_comp ?_ | refine e_sset ?_ | refine e_and1 ?_ | refine e_or1 ?_ | refine e_and ?_ | refine e_or ?_ | refine a_nil ?_ | refine a_cons ?_ | refine b_cmp' ?_ | refine b_val' ?_ | refine b_bool ?_ | refine b_not' ?_ | refine b_and0 ?_ | refine b_and' ?_ | refine b_or0 ?_ | refine b_or' ?_ | refine b_T ?_ | refine if_t ?_ | refine if_f ?_ | refine if_nt ?_ | refine if_nf ?_ | refine r_eqF (by decide +kernel) ?_ | refine r_eqT ?_ )
local macro_rules | `(tactic| walk_at "abh") => `(tactic| with_reducible first | refine r_sub0 (by assumption) ?_ | refine r_sub1 (by assumption) ?_ | refine r_forT (by assumption) ?_ | refine f_nil (by assumption) ?_ | refine f_cons (by assumption) ?_)
local macro_rules | `(tactic| walk_at "abs") => `(tactic| (with_reducible refine' cutA ((?f : LnkE _ _) ?w) ?n; (case w => (intro hh; (try dsimp only [List.set_cons_zero, List.set_cons_succ, Option.isSome_none, Option.isSome_some, setAll]); walk_at "abp"; (try dsimp only [List.set_cons_zero, List.set_cons_succ, Option.isSome_none, Option.isSome_some, setAll]); (repeat (walk_at "abp"; try dsimp only [List.set_cons_zero, List.set_cons_succ, Option.isSome_none, Option.isSome_some, setAll])); with_reducible exact hh)); (case f => (intro _; kernel_rfl))))
local macro_rules | `(tactic| walk_at "ab") => `(tactic| ((repeat (first | walk_at "abs" | walk_at "abh"));(try dsimp only [List.set_cons_zero, List.set_cons_succ, Option.isSome_none, Option.isSome_some, setAll])))
local macro_rules | `(tactic| walk_at "abo") => `(tactic| ((try dsimp only [List.set_cons_zero, List.set_cons_succ, Option.isSome_none, Option.isSome_some, setAll]); (repeat ((first | walk_at "abp" | walk_at "abh"); try dsimp only [List.set_cons_zero, List.set_cons_succ, Option.isSome_none, Option.isSome_some, setAll]))))
section
/-! ## token_of, is_token -/
structure Keys (rs : Rules) (es : List (Str × V)) : Prop where
  eq : ∀ x, (es.lookup x).isSome = (rs.lookup x).isSome
noncomputable def isTok (rs : Rules) : T → Bool
  | .text _ => true
  | .name x => !(rs.lookup x).isSome
  | _ => false
section
variable {g : Gl} {n : Nat} {hp : Hp} {Q : V → Hp → Prop} {rs : Rules} {tb ep : Nat} {es : List (Str × V)} (htb : hp tb = some (.dict ep es)) (K : Keys rs es)
include htb K
theorem c_is_token {t : T} {v : V} (hT : IsT hp t v) (h : Q (.bool (isTok rs t)) hp) : callD g (n + 1) .is_token [v, .ref tb] hp Q := by
  refine u_is_token ?_
  cases t with
  | text x =>
    obtain ⟨d, rfl, hd⟩ := hT
    unfold b_is_token
    walk_at "ab"
    exact h
  | name x =>
    obtain ⟨d, rfl, hd⟩ := hT
    unfold b_is_token
    walk_at "ab"
    refine r_ninD htb ?_
    rw [K.eq]; exact h
  | eps =>
    obtain ⟨d, e, rfl, hd, _⟩ := hT
    unfold b_is_token
    walk_at "ab"
    exact h
  | seq a b =>
    obtain ⟨d, e, va, vb, rfl, hd, _⟩ := hT
    unfold b_is_token
    walk_at "ab"
    exact h
  | alt a b =>
    obtain ⟨d, e, va, vb, rfl, hd, _⟩ := hT
    unfold b_is_token
    walk_at "ab"
    exact h
  | opt a =>
    obtain ⟨d, va, rfl, hd, _⟩ := hT
    unfold b_is_token
    walk_at "ab"
    exact h
  | rep a =>
    obtain ⟨d, va, rfl, hd, _⟩ := hT
    unfold b_is_token
    walk_at "ab"
    exact h
end
end
section
/-! ## sets of texts, as dicts -/
noncomputable def univ : List Str := ["R0", "R1", "R2", "eof", "p", "q", "r", "s", "word"]
noncomputable def kt (ks : List Str) : List (Str × V) := ks.map fun k => (k, V.bool true)
noncomputable def DS (hp : Hp) (d : Addr) (S : Str → Prop) : Prop := ∃ ks ep, hp d = some (.dict ep (kt ks)) ∧ ks.Nodup ∧ (∀ x ∈ ks, x ∈ univ) ∧ ∀ x, x ∈ ks ↔ S x
noncomputable def dsz (hp : Hp) (d : Addr) : Nat := match hp d with | some (.dict _ es) => es.length | _ => 0
theorem dsz_at {hp : Hp} {d ep es} (h : hp d = some (.dict ep es)) : dsz hp d = es.length := by unfold dsz; rw [h]
theorem DS.congr {hp d S S'} (h : DS hp d S) (e : ∀ x, S x ↔ S' x) : DS hp d S' := let ⟨ks, ep, a, b, c, f⟩ := h; ⟨ks, ep, a, b, c, fun x => (f x).trans (e x)⟩
theorem DS.inU {hp d S} (h : DS hp d S) {x} (hx : S x) : x ∈ univ := let ⟨ks, ep, a, b, c, f⟩ := h; c x ((f x).mpr hx)
theorem DS.at {hp hp' : Hp} {d S} (h : DS hp d S) (e : hp' d = hp d) : DS hp' d S := let ⟨ks, ep, a, r⟩ := h; ⟨ks, ep, e.trans a, r⟩
theorem DS.live {hp d S} (h : DS hp d S) : hp d ≠ none := let ⟨ks, ep, a, r⟩ := h; ne_none a
theorem DS.notTup {hp d S} (h : DS hp d S) : isTup (hp d) = false := let ⟨ks, ep, a, r⟩ := h; by rw [a]; rfl
theorem DS.ext {M : Addr → Prop} {hp hp' d S} (E : Ext M hp hp') (h : DS hp d S) (n : ¬ M d) : DS hp' d S := let ⟨ks, ep, a, r⟩ := h; ⟨ks, ep, E.keep _ _ a n, r⟩
theorem kt_len (ks : List Str) : (kt ks).length = ks.length := List.length_map ..
theorem sub_len {ks : List Str} (hn : ks.Nodup) (h : ∀ x ∈ ks, x ∈ univ) : ks.length ≤ 9 := nodup_sub' hn h
  where nodup_sub' : ∀ {l : List Str}, l.Nodup → (∀ x ∈ l, x ∈ univ) → l.length ≤ 9 := fun hn h => nodup_sub (m := univ) hn h
theorem kt_lookup : ∀ (ks : List Str) (x : Str), ((kt ks).lookup x).isSome = ks.contains x
  | [], x => rfl
  | k :: ks, x => by
    show (((k, V.bool true) :: kt ks).lookup x).isSome = _
    rw [List.lookup_cons, List.contains_cons]
    cases e : x == k with
    | true => rfl
    | false => rw [Bool.false_or]; exact kt_lookup ks x
theorem kt_hasK (ks : List Str) (x : Str) : hasK (kt ks) x = ks.contains x := by
  unfold hasK kt
  induction ks with
  | nil => rfl
  | cons k ks ih =>
    rw [List.map_cons, List.any_cons, ih, List.contains_cons]
    congr 1
    by_cases e : k = x
    · subst e; rfl
    · rw [show ((k, V.bool true).1 == x) = false from beq_false_of_ne e, beq_false_of_ne (Ne.symm e)]
theorem kt_put_old {ks : List Str} {x : Str} (h : x ∈ ks) : putV (kt ks) x (.bool true) = kt ks := by
  unfold putV
  rw [if_pos (by rw [kt_hasK]; simpa using h)]
  unfold kt
  rw [List.map_map]
  refine List.map_congr_left fun k _ => ?_
  show (if (k == x) = true then _ else _) = _
  split <;> rfl
theorem kt_put_new {ks : List Str} {x : Str} (h : x ∉ ks) : putV (kt ks) x (.bool true) = kt (ks ++ [x]) := by
  unfold putV
  rw [if_neg (by rw [kt_hasK]; simpa using h)]
  unfold kt
  rw [List.map_append]; rfl

section
variable {g : Gl} {n : Nat} {hp : Hp} {Q : V → Hp → Prop} {rs : Rules}
theorem r_len {d ep es} {Q : V → Hp → Prop} (hx : hp d = some (.dict ep es)) (hl : es.length ≤ 1000000) (h : Q (.int es.length) hp) : opLen [.ref d] hp Q := by
  unfold opLen; simp only [hx]; exact ⟨hl, h⟩
theorem r_lenL {d es} {Q : V → Hp → Prop} (hx : hp d = some (.list es)) (hl : es.length ≤ 1000000) (h : Q (.int es.length) hp) : opLen [.ref d] hp Q := by
  unfold opLen; simp only [hx]; exact ⟨hl, h⟩
theorem r_lenT {d es} {Q : V → Hp → Prop} (hx : hp d = some (.tup es)) (hl : es.length ≤ 1000000) (h : Q (.int es.length) hp) : opLen [.ref d] hp Q := by
  unfold opLen; simp only [hx]; exact ⟨hl, h⟩
theorem r_storeD {d ep es k v} {Q : Hp → Prop} (hx : hp d = some (.dict ep es)) (hl : es.length ≤ 1000000) (h : Q (hp.set d (.dict (if hasK es k then ep else ep + 1) (putV es k v)))) : opStore (.ref d) (.str k) v hp Q := by
  unfold opStore; simp only [hx]; exact ⟨hl, h⟩
theorem set_self {hp : Hp} {d o} (h : hp d = some o) : hp.set d o = hp := by
  funext b
  by_cases e : b = d
  · subst e; rw [Hp.set_same, h]
  · rw [Hp.set_ne _ _ e]

/-! ## merge -/
theorem merge_loop {t s : Addr} {eps : Nat} {ks' : List Str} {sz : V} {N : Loc → Hp → Prop} {R : V → Hp → Prop} : ∀ (l : List Str) (hp : Hp) (ks : List Str) (ep : Nat) (o : Option V), (∀ x ∈ l, x ∈ ks') → (∀ x ∈ l, x ∈ univ) → ks.Nodup → (∀ x ∈ ks, x ∈ univ) →
    hp t = some (.dict ep (kt ks)) → hp s = some (.dict eps (kt ks')) →
    (∀ hp' ks₂ ep₂ o', hp' t = some (.dict ep₂ (kt ks₂)) → (∀ b, b ≠ t → hp' b = hp b) → ks₂.Nodup → (∀ x ∈ ks₂, x ∈ univ) → (∀ x, x ∈ ks₂ ↔ x ∈ ks ∨ x ∈ l) → ks.length ≤ ks₂.length → (ks₂.length = ks.length → hp' = hp) → N [some (.ref t), some (.ref s), some sz, o'] hp') →
    forL (tName 3) (sSeq t_merge_1) (fun h => h s = some (.dict eps (kt ks'))) (l.map V.str) [some (.ref t), some (.ref s), some sz, o] hp N R
  | [], hp, ks, ep, o, hl, hu, hn, hk, ht, hs, q => by
    refine f_nil hs (q hp ks ep o ht (fun _ _ => rfl) hn hk (fun x => by simp) (Nat.le_refl _) fun _ => rfl)
  | x :: l, hp, ks, ep, o, hl, hu, hn, hk, ht, hs, q => by
    refine f_cons hs ?_
    walk_at "ab"
    have h9 := sub_len hn hk
    refine r_storeD ht (by rw [kt_len]; lia) ?_
    try dsimp only
    refine i_nil ?_
    rw [kt_hasK]
    by_cases hx : x ∈ ks
    · rw [kt_put_old hx, if_pos (by simpa using hx), set_self ht]
      refine merge_loop l hp ks ep _ (fun y hy => hl y (.tail _ hy)) (fun y hy => hu y (.tail _ hy)) hn hk ht hs fun hp' ks₂ ep₂ o' a1 a2 a3 a4 a5 a6 a7 => q hp' ks₂ ep₂ o' a1 a2 a3 a4 (fun y => (a5 y).trans ⟨fun h => h.imp id (.tail _), fun h => ?_⟩) a6 a7
      rcases h with h | h
      · exact .inl h
      · rcases List.mem_cons.mp h with rfl | h
        · exact .inl hx
        · exact .inr h
    · have hst : s ≠ t := fun e => by
        subst e
        rw [ht] at hs
        have e0 : kt ks = kt ks' := by
          have := Option.some.inj hs
          injection this
        have e2 : ks = ks' := by
          have := congrArg (List.map Prod.fst) e0
          unfold kt at this
          rw [List.map_map, List.map_map] at this
          simpa [Function.comp_def] using this
        exact hx (e2 ▸ hl x (.head _))
      rw [kt_put_new hx, if_neg (by simpa using hx)]
      have hn' : (ks ++ [x]).Nodup := by
        rw [List.nodup_append]
        refine ⟨hn, by simp, fun a ha b hb => ?_⟩
        rw [List.mem_singleton] at hb
        subst hb
        exact fun e => hx (e ▸ ha)
      have hk' : ∀ y ∈ ks ++ [x], y ∈ univ := fun y hy => by
        rcases List.mem_append.mp hy with h | h
        · exact hk y h
        · rw [List.mem_singleton] at h; subst h; exact hu _ (.head _)
      refine merge_loop l (hp.set t (.dict (ep + 1) (kt (ks ++ [x])))) (ks ++ [x]) (ep + 1) _ (fun y hy => hl y (.tail _ hy)) (fun y hy => hu y (.tail _ hy)) hn' hk' (Hp.set_same ..) (by rw [Hp.set_ne _ _ hst]; exact hs) fun hp' ks₂ ep₂ o' a1 a2 a3 a4 a5 a6 a7 => ?_
      rw [List.length_append, List.length_singleton] at a6
      refine q hp' ks₂ ep₂ o' a1 (fun b hb => (a2 b hb).trans (Hp.set_ne _ _ hb)) a3 a4 (fun y => (a5 y).trans ?_) (by lia) fun e => by lia
      rw [List.mem_append, List.mem_singleton, List.mem_cons, or_assoc]
theorem c_merge {t s : Addr} {S S' : Str → Prop} (h1 : DS hp t S) (h2 : DS hp s S')
    (h : ∀ b hp', (∀ x, x ≠ t → hp' x = hp x) → DS hp' t (fun x => S x ∨ S' x) → dsz hp t ≤ dsz hp' t → b = decide (dsz hp t < dsz hp' t) → (b = false → hp' = hp) → Q (.bool b) hp') : callD g (n + 1) .merge [.ref t, .ref s] hp Q := by
  obtain ⟨ks, ep, ht, hn, hk, hm⟩ := h1
  obtain ⟨ks', eps, hs, hn', hk', hm'⟩ := h2
  have h9 := sub_len hn hk
  refine u_merge ?_
  unfold b_merge
  walk_at "ab"
  refine r_len ht (by rw [kt_len]; lia) ?_
  walk_at "ab"
  refine r_forD hs ?_
  rw [show ((kt ks').map fun p => V.str p.1) = ks'.map V.str by unfold kt; rw [List.map_map]; rfl]
  refine merge_loop ks' hp ks ep none (fun _ h => h) hk' hn hk ht hs fun hp' ks₂ ep₂ o' a1 a2 a3 a4 a5 a6 a7 => ?_
  have h9' := sub_len a3 a4
  walk_at "ab"
  refine r_len a1 (by rw [kt_len]; lia) ?_
  walk_at "ab"
  have e1 := dsz_at ht
  have e2 := dsz_at a1
  rw [kt_len] at e1 e2
  refine (show Q (.bool (decide (((kt ks).length : Int) < ((kt ks₂).length : Int)))) hp' → _ from fun h => h) ?_
  refine h _ hp' a2 ⟨ks₂, ep₂, a1, a3, a4, fun x => (a5 x).trans (or_congr (hm x) (hm' x))⟩ (by lia) ?_ fun e => a7 ?_
  · rw [kt_len, kt_len, e1, e2]
    exact decide_eq_decide.mpr Int.ofNat_lt
  · rw [kt_len, kt_len] at e
    have := of_decide_eq_false e
    lia
end
end
section
theorem Ext.fresh {hp hp' hp'' : Hp} {D : Addr} (a : Ext No hp hp') (hD : hp D = none) (b : ∀ x, x ≠ D → hp'' x = hp' x) (hs : hp'' D ≠ none) : Ext No hp hp'' where
  keep := fun b' o e _ => (b b' fun q => by rw [q, hD] at e; cases e).trans (a.get e)
  tup := fun b' vs e => (b b' fun q => by rw [q, hD] at e; cases e).trans (a.get e)
  live := fun b' hb => by
    by_cases q : b' = D
    · rw [q]; exact hs
    · rw [b b' q]; exact a.live b' hb
theorem Ext.new {hp hp' : Hp} (a : Ext No hp hp') {D : Addr} (hD : hp' D = none) : hp D = none := by
  cases e : hp D with
  | none => rfl
  | some o => exact absurd hD (ne_none (a.get e))

/-- every text of the tree is one of the few -/
noncomputable def Wf : T → Prop
  | .text x => x ∈ univ
  | .name x => x ∈ univ
  | .eps => True
  | .seq a b => Wf a ∧ Wf b
  | .alt a b => Wf a ∧ Wf b
  | .opt a => Wf a
  | .rep a => Wf a

noncomputable def famE (ns : List Str) (ad : Str → Addr) : List (Str × V) := ns.map fun x => (x, V.ref (ad x))
theorem famE_lookup {ad : Str → Addr} : ∀ {ns : List Str} {x : Str}, x ∈ ns → (famE ns ad).lookup x = some (.ref (ad x))
  | y :: ns, x, h => by
    show (((y, V.ref (ad y)) :: famE ns ad).lookup x) = _
    rw [List.lookup_cons]
    cases e : x == y with
    | true => rw [eq_of_beq e]
    | false =>
      rcases List.mem_cons.mp h with rfl | h
      · rw [beq_self_eq_true] at e; cases e
      · exact famE_lookup h
theorem famE_some {ad : Str → Addr} : ∀ {ns : List Str} {x : Str}, ((famE ns ad).lookup x).isSome = ns.contains x
  | [], x => rfl
  | y :: ns, x => by
    show (((y, V.ref (ad y)) :: famE ns ad).lookup x).isSome = _
    rw [List.lookup_cons, List.contains_cons]
    cases e : x == y with
    | true => rfl
    | false => rw [Bool.false_or]; exact famE_some
structure Fam (hp : Hp) (fd : Addr) (ns : List Str) (ad : Str → Addr) (F : Str → Str → Prop) : Prop where
  at_ : ∃ ep, hp fd = some (.dict ep (famE ns ad))
  each : ∀ x ∈ ns, DS hp (ad x) (F x)
  inj : ∀ x ∈ ns, ∀ y ∈ ns, ad x = ad y → x = y
  ne : ∀ x ∈ ns, ad x ≠ fd
theorem Fam.ext {M : Addr → Prop} {hp hp' fd ns ad F} (E : Ext M hp hp') (h : Fam hp fd ns ad F) (n1 : ¬ M fd) (n2 : ∀ x ∈ ns, ¬ M (ad x)) : Fam hp' fd ns ad F :=
  ⟨let ⟨ep, a⟩ := h.at_; ⟨ep, E.keep _ _ a n1⟩, fun x hx => (h.each x hx).ext E (n2 x hx), h.inj, h.ne⟩
noncomputable abbrev nsOf (rs : Rules) : List Str := rs.map (·.1)
theorem lookup_ns : ∀ {rs : Rules} {x : Str}, x ∈ nsOf rs ↔ ∃ t, rs.lookup x = some t
  | [], x => by simp
  | (y, t) :: rs, x => by
    rw [List.lookup_cons]
    show x ∈ y :: nsOf rs ↔ _
    cases e : x == y with
    | true => rw [eq_of_beq e]; simp
    | false =>
      rw [List.mem_cons, lookup_ns (rs := rs)]
      exact ⟨fun h => h.elim (fun q => by rw [q, beq_self_eq_true] at e; cases e) id, .inr⟩

/-- what the readers of a grammar read -/
structure GEnv (hp : Hp) (rs : Rules) (tb em fd : Addr) (E : Str → Bool) (ad : Str → Addr) (F : Str → Str → Prop) : Prop where
  tab : ∃ ep es, hp tb = some (.dict ep es) ∧ Keys rs es
  emp : ∃ ep es, hp em = some (.dict ep es) ∧ ∀ x, (es.lookup x).isSome = E x
  hE : ∀ t, mbe E t = true ↔ Nul rs t
  fam : Fam hp fd (nsOf rs) ad F
theorem GEnv.ext {hp hp' : Hp} {rs tb em fd E ad F} (X : Ext No hp hp') (G : GEnv hp rs tb em fd E ad F) : GEnv hp' rs tb em fd E ad F :=
  ⟨let ⟨ep, es, a, b⟩ := G.tab; ⟨ep, es, X.get a, b⟩, let ⟨ep, es, a, b⟩ := G.emp; ⟨ep, es, X.get a, b⟩, G.hE, G.fam.ext X id fun _ _ => id⟩

section
variable {g : Gl} {rs : Rules}
noncomputable def d1K (Q : V → Hp → Prop) (a b : V) (hp₂ : Hp) : Prop := match a with
  | .str k => ∀ D ep, hp₂ D = none → Q (.ref D) (hp₂.set D (.dict ep [(k, b)]))
  | _ => False
theorem e_dict1 {ρ : Loc} {hp : Hp} {Q : V → Hp → Prop} {f₁ f₂ : EV} (h : f₁ ρ hp fun a hp₁ => f₂ ρ hp₁ fun b hp₂ => d1K Q a b hp₂) : cDict1 f₁ f₂ ρ hp Q := h
theorem c_token_of {n : Nat} {hp : Hp} {Q : V → Hp → Prop} {tb ep : Nat} {es : List (Str × V)} (htb : hp tb = some (.dict ep es)) (K : Keys rs es) {t : T} {v : V} (hT : IsT hp t v) (hi : isTok rs t = true)
    (h : ∀ x, (∀ F y, fo rs F t y ↔ y = x) → (Wf t → x ∈ univ) → Q (.str x) hp) : callD g (n + 1) .token_of [v, .ref tb] hp Q := by
  refine u_token_of ?_
  unfold b_token_of
  cases t with
  | text x =>
    obtain ⟨d, rfl, hd⟩ := hT
    walk_at "ab"
    exact h x (fun F y => Iff.rfl) id
  | name x =>
    obtain ⟨d, rfl, hd⟩ := hT
    walk_at "ab"
    refine r_ninD htb ?_
    have e : rs.lookup x = none := by
      have hi' : (!(rs.lookup x).isSome) = true := hi
      cases q : rs.lookup x with
      | none => rfl
      | some t => rw [q] at hi'; cases hi'
    rw [K.eq, e]
    walk_at "ab"
    exact h x (fun F y => by unfold fo; rw [e]) id
  | _ => cases hi

/-! ## may_be_empty -/
theorem c_mbe {em ep : Nat} {es : List (Str × V)} {vt : V} : ∀ (t : T) (n : Nat) (hp : Hp) (v : V) (Q : V → Hp → Prop), ht t ≤ n → IsT hp t v → hp em = some (.dict ep es) → Q (.bool (mbe (fun x => (es.lookup x).isSome) t)) hp → callD g n .may_be_empty [v, vt, .ref em] hp Q := by
  intro t
  induction t with
  | text x =>
    intro n hp v Q hn hT he h
    cases n with
    | zero => cases hn
    | succ n =>
      obtain ⟨d, rfl, hd⟩ := hT
      refine u_may_be_empty ?_
      unfold b_may_be_empty
      walk_at "ab"
      exact h
  | name x =>
    intro n hp v Q hn hT he h
    cases n with
    | zero => cases hn
    | succ n =>
      obtain ⟨d, rfl, hd⟩ := hT
      refine u_may_be_empty ?_
      unfold b_may_be_empty
      walk_at "ab"
      refine r_inD he ?_
      exact h
  | eps =>
    intro n hp v Q hn hT he h
    cases n with
    | zero => cases hn
    | succ n =>
      obtain ⟨d, e, rfl, hd, hee⟩ := hT
      refine u_may_be_empty ?_
      unfold b_may_be_empty
      walk_at "ab"
      exact h
  | opt a =>
    intro n hp v Q hn hT he h
    cases n with
    | zero => cases hn
    | succ n =>
      obtain ⟨d, va, rfl, hd, hee⟩ := hT
      refine u_may_be_empty ?_
      unfold b_may_be_empty
      walk_at "ab"
      exact h
  | rep a =>
    intro n hp v Q hn hT he h
    cases n with
    | zero => cases hn
    | succ n =>
      obtain ⟨d, va, rfl, hd, hee⟩ := hT
      refine u_may_be_empty ?_
      unfold b_may_be_empty
      walk_at "ab"
      exact h
  | seq a b iha ihb =>
    intro n hp v Q hn hT he h
    cases n with
    | zero => cases hn
    | succ n =>
      obtain ⟨d, e, va, vb, rfl, hd, hee, ha, hb⟩ := hT
      have h1 : max (ht a) (ht b) + 1 ≤ n + 1 := hn
      refine u_may_be_empty ?_
      unfold b_may_be_empty
      walk_at "ab"
      refine iha n hp va _ (by lia) ha he ?_
      unfold mbe at h
      cases qa : mbe (fun x => (es.lookup x).isSome) a with
      | false => rw [qa] at h; walk_at "ab"; exact h
      | true =>
        rw [qa] at h
        walk_at "ab"
        refine ihb n hp vb _ (by lia) hb he ?_
        cases qb : mbe (fun x => (es.lookup x).isSome) b with
        | false => rw [qb] at h; walk_at "ab"; exact h
        | true => rw [qb] at h; walk_at "ab"; exact h
  | alt a b iha ihb =>
    intro n hp v Q hn hT he h
    cases n with
    | zero => cases hn
    | succ n =>
      obtain ⟨d, e, va, vb, rfl, hd, hee, ha, hb⟩ := hT
      have h1 : max (ht a) (ht b) + 1 ≤ n + 1 := hn
      refine u_may_be_empty ?_
      unfold b_may_be_empty
      walk_at "ab"
      refine iha n hp va _ (by lia) ha he ?_
      unfold mbe at h
      cases qa : mbe (fun x => (es.lookup x).isSome) a with
      | true => rw [qa] at h; walk_at "ab"; exact h
      | false =>
        rw [qa] at h
        walk_at "ab"
        refine ihb n hp vb _ (by lia) hb he ?_
        cases qb : mbe (fun x => (es.lookup x).isSome) b with
        | true => rw [qb] at h; walk_at "ab"; exact h
        | false => rw [qb] at h; walk_at "ab"; exact h
theorem c_nul {hp : Hp} {tb em fd : Addr} {E ad F} {vt : V} (G : GEnv hp rs tb em fd E ad F) {t : T} {n : Nat} {v : V} {Q : V → Hp → Prop} (hn : ht t ≤ n) (hT : IsT hp t v) (h : ∀ b : Bool, (b = true ↔ Nul rs t) → Q (.bool b) hp) : callD g n .may_be_empty [v, vt, .ref em] hp Q := by
  obtain ⟨ep, es, he, hk⟩ := G.emp
  refine c_mbe t n hp v Q hn hT he (h _ ?_)
  rw [show (fun x => (es.lookup x).isSome) = E from funext hk]
  exact G.hE t
end
end
local macro_rules | `(tactic| walk_at "abp") => `(tactic| with_reducible refine e_dict1 ?_)
section
theorem DS.one {hp : Hp} {D ep k} (h : hp D = some (.dict ep [(k, .bool true)])) (hu : k ∈ univ) : DS hp D (fun y => y = k) := ⟨[k], ep, h, by simp, fun x hx => by rw [List.mem_singleton] at hx; rw [hx]; exact hu, fun x => List.mem_singleton⟩
theorem DS.nil {hp : Hp} {D ep} (h : hp D = some (.dict ep [])) : DS hp D (fun _ => False) := ⟨[], ep, h, List.nodup_nil, (fun x hx => by cases hx), fun x => by simp⟩
theorem r_d1 {hp : Hp} {Q : V → Hp → Prop} {k : Str} {b : V} (h : ∀ D ep, hp D = none → Q (.ref D) (hp.set D (.dict ep [(k, b)]))) : d1K Q (.str k) b hp := h

section
variable {g : Gl} {rs : Rules} {tb em fd : Addr} {E : Str → Bool} {ad : Str → Addr} {F : Str → Str → Prop}
theorem c_first_of : ∀ (t : T) (n : Nat) (hp : Hp) (v : V) (Q : V → Hp → Prop), ht t + 1 ≤ n → Wf t → IsT hp t v → GEnv hp rs tb em fd E ad F → (∀ d hp', Ext No hp hp' → DS hp' d (fo rs F t) → Q (.ref d) hp') →
    callD g n .first_of [v, .ref tb, .ref em, .ref fd] hp Q := by
  intro t
  induction t with
  | text x =>
    intro n hp v Q hn hw hT G h
    obtain ⟨m, rfl⟩ : ∃ m, n = m + 2 := ⟨n - 2, by simp only [ht] at hn; lia⟩
    obtain ⟨ep, es, htb, K⟩ := G.tab
    refine u_first_of ?_
    unfold b_first_of
    walk_at "ab"
    refine c_is_token htb K hT ?_
    rw [show isTok rs (.text x) = true from rfl]
    walk_at "ab"
    refine c_token_of htb K hT rfl fun y hy hu => ?_
    walk_at "ab"
    refine r_d1 fun D ep hD => ?_
    exact h D _ (Ext.alloc hD) ((DS.one (Hp.set_same ..) (hu hw)).congr fun z => (hy F z).symm)
  | name x =>
    intro n hp v Q hn hw hT G h
    obtain ⟨m, rfl⟩ : ∃ m, n = m + 2 := ⟨n - 2, by simp only [ht] at hn; lia⟩
    obtain ⟨ep, es, htb, K⟩ := G.tab
    refine u_first_of ?_
    unfold b_first_of
    walk_at "ab"
    refine c_is_token htb K hT ?_
    cases q : rs.lookup x with
    | none =>
      have hi : isTok rs (.name x) = true := by show (!(rs.lookup x).isSome) = _; rw [q]; rfl
      rw [hi]
      walk_at "ab"
      refine c_token_of htb K hT hi fun y hy hu => ?_
      walk_at "ab"
      refine r_d1 fun D ep hD => ?_
      exact h D _ (Ext.alloc hD) ((DS.one (Hp.set_same ..) (hu hw)).congr fun z => (hy F z).symm)
    | some t =>
      have hi : isTok rs (.name x) = false := by show (!(rs.lookup x).isSome) = _; rw [q]; rfl
      rw [hi]
      obtain ⟨d, rfl, hd⟩ := hT
      obtain ⟨epf, hfd⟩ := G.fam.at_
      have hx : x ∈ nsOf rs := lookup_ns.mpr ⟨t, q⟩
      walk_at "ab"
      refine r_subD hfd (famE_lookup hx) ?_
      exact h (ad x) hp (Ext.refl _) ((G.fam.each x hx).congr fun z => by unfold fo; rw [q])
  | eps =>
    intro n hp v Q hn hw hT G h
    obtain ⟨m, rfl⟩ : ∃ m, n = m + 2 := ⟨n - 2, by simp only [ht] at hn; lia⟩
    obtain ⟨ep, es, htb, K⟩ := G.tab
    refine u_first_of ?_
    unfold b_first_of
    walk_at "ab"
    refine c_is_token htb K hT ?_
    rw [show isTok rs .eps = false from rfl]
    obtain ⟨d, e, rfl, hd, hee⟩ := hT
    walk_at "ab"
    intro D hD
    have X1 : Ext No hp (hp.set D (.dict 0 [])) := Ext.alloc hD
    have hd1 := X1.get hd
    have hee1 := X1.get hee
    walk_at "ab"
    exact h D _ X1 (DS.nil (Hp.set_same ..))
  | opt a ih =>
    intro n hp v Q hn hw hT G h
    obtain ⟨m, rfl⟩ : ∃ m, n = m + 2 := ⟨n - 2, by simp only [ht] at hn; lia⟩
    simp only [ht] at hn
    obtain ⟨ep, es, htb, K⟩ := G.tab
    refine u_first_of ?_
    unfold b_first_of
    walk_at "ab"
    refine c_is_token htb K hT ?_
    rw [show isTok rs (.opt a) = false from rfl]
    obtain ⟨d, va, rfl, hd, ha⟩ := hT
    walk_at "ab"
    exact ih _ hp va _ (by lia) hw ha G h
  | rep a ih =>
    intro n hp v Q hn hw hT G h
    obtain ⟨m, rfl⟩ : ∃ m, n = m + 2 := ⟨n - 2, by simp only [ht] at hn; lia⟩
    simp only [ht] at hn
    obtain ⟨ep, es, htb, K⟩ := G.tab
    refine u_first_of ?_
    unfold b_first_of
    walk_at "ab"
    refine c_is_token htb K hT ?_
    rw [show isTok rs (.rep a) = false from rfl]
    obtain ⟨d, va, rfl, hd, ha⟩ := hT
    walk_at "ab"
    exact ih _ hp va _ (by lia) hw ha G h
  | seq a b iha ihb =>
    intro n hp v Q hn hw hT G h
    obtain ⟨m, rfl⟩ : ∃ m, n = m + 2 := ⟨n - 2, by simp only [ht] at hn; lia⟩
    simp only [ht] at hn
    obtain ⟨ep, es, htb, K⟩ := G.tab
    refine u_first_of ?_
    unfold b_first_of
    walk_at "ab"
    refine c_is_token htb K hT ?_
    rw [show isTok rs (.seq a b) = false from rfl]
    obtain ⟨d, e, va, vb, rfl, hd, hee, ha, hb⟩ := hT
    walk_at "ab"
    intro D hD
    have X1 : Ext No hp (hp.set D (.dict 0 [])) := Ext.alloc hD
    have hd1 := X1.get hd
    have hee1 := X1.get hee
    walk_at "ab"
    refine iha _ _ va _ (by lia) hw.1 (ha.ext X1) (G.ext X1) fun d1 hp2 X2 h1 => ?_
    walk_at "ab"
    refine c_merge (DS.ext X2 (DS.nil (Hp.set_same ..)) id) h1 fun b1 hp3 a1 a2 a3 a4 a5 => ?_
    have X3 : Ext No hp hp3 := Ext.fresh (X1.trans X2) hD a1 a2.live
    have hd3 := X3.get hd
    have hee3 := X3.get hee
    walk_at "ab"
    refine c_nul (G.ext X3) (by lia) (ha.ext X3) fun b2 hb2 => ?_
    cases b2 with
    | false =>
      walk_at "ab"
      refine h D hp3 X3 (a2.congr fun z => ?_)
      have hna : ¬ Nul rs a := fun q => by have := hb2.mpr q; cases this
      show _ ↔ fo rs F a z ∨ (Nul rs a ∧ fo rs F b z)
      exact ⟨fun q => q.elim False.elim .inl, fun q => q.elim .inr fun q => absurd q.1 hna⟩
    | true =>
      walk_at "ab"
      refine ihb _ _ vb _ (by lia) hw.2 (hb.ext X3) (G.ext X3) fun d2 hp4 X4 h2 => ?_
      walk_at "ab"
      refine c_merge (DS.ext X4 a2 id) h2 fun b3 hp5 c1 c2 c3 c4 c5 => ?_
      have X5 : Ext No hp hp5 := Ext.fresh (X3.trans X4) hD c1 c2.live
      have hee5 := X5.get hee
      have hna := hb2.mp rfl
      have fin : DS hp5 D (fo rs F (.seq a b)) := c2.congr fun z => by
        show _ ↔ fo rs F a z ∨ (Nul rs a ∧ fo rs F b z)
        exact ⟨fun q => q.elim (fun q => q.elim False.elim .inl) fun q => .inr ⟨hna, q⟩, fun q => q.elim (fun q => .inl (.inr q)) fun q => .inr q.2⟩
      walk_at "ab"
      refine c_nul (G.ext X5) (by lia) (hb.ext X5) fun b4 hb4 => ?_
      cases b4 with
      | false => walk_at "ab"; exact h D hp5 X5 fin
      | true => walk_at "ab"; exact h D hp5 X5 fin
  | alt a b iha ihb =>
    intro n hp v Q hn hw hT G h
    obtain ⟨m, rfl⟩ : ∃ m, n = m + 2 := ⟨n - 2, by simp only [ht] at hn; lia⟩
    simp only [ht] at hn
    obtain ⟨ep, es, htb, K⟩ := G.tab
    refine u_first_of ?_
    unfold b_first_of
    walk_at "ab"
    refine c_is_token htb K hT ?_
    rw [show isTok rs (.alt a b) = false from rfl]
    obtain ⟨d, e, va, vb, rfl, hd, hee, ha, hb⟩ := hT
    walk_at "ab"
    intro D hD
    have X1 : Ext No hp (hp.set D (.dict 0 [])) := Ext.alloc hD
    have hd1 := X1.get hd
    have hee1 := X1.get hee
    walk_at "ab"
    refine iha _ _ va _ (by lia) hw.1 (ha.ext X1) (G.ext X1) fun d1 hp2 X2 h1 => ?_
    walk_at "ab"
    refine c_merge (DS.ext X2 (DS.nil (Hp.set_same ..)) id) h1 fun b1 hp3 a1 a2 a3 a4 a5 => ?_
    have X3 : Ext No hp hp3 := Ext.fresh (X1.trans X2) hD a1 a2.live
    have hd3 := X3.get hd
    have hee3 := X3.get hee
    walk_at "ab"
    refine ihb _ _ vb _ (by lia) hw.2 (hb.ext X3) (G.ext X3) fun d2 hp4 X4 h2 => ?_
    walk_at "ab"
    refine c_merge (DS.ext X4 a2 id) h2 fun b3 hp5 c1 c2 c3 c4 c5 => ?_
    have X5 : Ext No hp hp5 := Ext.fresh (X3.trans X4) hD c1 c2.live
    have hee5 := X5.get hee
    have fin : DS hp5 D (fo rs F (.alt a b)) := c2.congr fun z => by
      show _ ↔ fo rs F a z ∨ fo rs F b z
      exact ⟨fun q => q.elim (fun q => q.elim False.elim .inl) .inr, fun q => q.elim (fun q => .inl (.inr q)) .inr⟩
    walk_at "ab"
    exact h D hp5 X5 fin

/-! ## the grammar's own methods -/
noncomputable def attrs (st : Str) (o tb em fd : Addr) (extra : List (Str × V)) : List (Str × V) := ("start", .str st) :: ("order", .ref o) :: ("table", .ref tb) :: ("empty", .ref em) :: ("firsts", .ref fd) :: extra
noncomputable def exOk (extra : List (Str × V)) : Prop := extra = [] ∨ ∃ w, extra = [(("follows" : Str), w)]
noncomputable def Gob (hp : Hp) (gr : Addr) (st : Str) (o tb em fd : Addr) (extra : List (Str × V)) : Prop := exOk extra ∧ ∃ gd ep, hp gr = some (.inst gd) ∧ hp gd = some (.dict ep (attrs st o tb em fd extra))
theorem Gob.ext {hp hp' : Hp} {gr st o tb em fd extra} (X : Ext No hp hp') (G : Gob hp gr st o tb em fd extra) : Gob hp' gr st o tb em fd extra :=
  let ⟨x, gd, ep, a, b⟩ := G; ⟨x, gd, ep, X.get a, X.get b⟩
theorem lkc {α : Type} {k k' : Str} {v : α} {l : List (Str × α)} (h : (k == k') = false) : ((k', v) :: l).lookup k = l.lookup k := by rw [List.lookup_cons, h]
theorem lkh {α : Type} {k : Str} {v : α} {l : List (Str × α)} : ((k, v) :: l).lookup k = some v := by rw [List.lookup_cons, beq_self_eq_true]
section
variable {st : Str} {o : Addr} {extra : List (Str × V)}
theorem at_start : (attrs st o tb em fd extra).lookup ("start" : Str) = some (.str st) := lkh
theorem at_order : (attrs st o tb em fd extra).lookup ("order" : Str) = some (.ref o) := (lkc (by decide +kernel)).trans lkh
theorem at_table : (attrs st o tb em fd extra).lookup ("table" : Str) = some (.ref tb) := (lkc (by decide +kernel)).trans ((lkc (by decide +kernel)).trans lkh)
theorem at_empty : (attrs st o tb em fd extra).lookup ("empty" : Str) = some (.ref em) := (lkc (by decide +kernel)).trans ((lkc (by decide +kernel)).trans ((lkc (by decide +kernel)).trans lkh))
theorem at_firsts : (attrs st o tb em fd extra).lookup ("firsts" : Str) = some (.ref fd) := (lkc (by decide +kernel)).trans ((lkc (by decide +kernel)).trans ((lkc (by decide +kernel)).trans ((lkc (by decide +kernel)).trans lkh)))
theorem at_follows {w : V} : (attrs st o tb em fd [(("follows" : Str), w)]).lookup ("follows" : Str) = some w :=
  (lkc (by decide +kernel)).trans ((lkc (by decide +kernel)).trans ((lkc (by decide +kernel)).trans ((lkc (by decide +kernel)).trans ((lkc (by decide +kernel)).trans lkh))))
theorem at_none {x : Str} (hx : exOk extra) (h : (["start", "order", "table", "empty", "firsts", "follows"] : List Str).contains x = false) : (attrs st o tb em fd extra).lookup x = none := by
  simp only [List.contains_cons, Bool.or_eq_false_iff] at h
  obtain ⟨h1, h2, h3, h4, h5, h6, _⟩ := h
  refine (lkc h1).trans ((lkc h2).trans ((lkc h3).trans ((lkc h4).trans ((lkc h5).trans ?_))))
  rcases hx with rfl | ⟨w, rfl⟩
  · rfl
  · exact (lkc h6).trans rfl
end
theorem r_attr {name : Str} {x d ep : Nat} {es : List (Str × V)} {hp : Hp} {v : V} {Q : V → Prop} (hx : hp x = some (.inst d)) (hd : hp d = some (.dict ep es)) (hl : es.lookup name = some v) (h : Q v) : opAttr name (.ref x) hp Q := by
  unfold opAttr; simp only [hx, hd, hl]; exact h
theorem r_isI {name : Str} {gr : Addr} {hp : Hp} {st o extra} (G : Gob hp gr st o tb em fd extra) (h : (["start", "order", "table", "empty", "firsts", "follows"] : List Str).contains name = false) : isI name (.ref gr) hp := by
  obtain ⟨hx, gd, ep, a, b⟩ := G
  unfold isI; simp only [a, b]; exact at_none hx h

/-- firsts as they should be -/
structure GX (hp : Hp) (rs : Rules) (gr : Addr) (st : Str) (o tb em fd : Addr) (extra : List (Str × V)) (E : Str → Bool) (ad : Str → Addr) (F : Str → Str → Prop) : Prop where
  env : GEnv hp rs tb em fd E ad F
  ob : Gob hp gr st o tb em fd extra
  hF : ∀ t y, fo rs F t y ↔ Fst rs t y
theorem GX.ext {hp hp' : Hp} {gr st o extra} (X : Ext No hp hp') (G : GX hp rs gr st o tb em fd extra E ad F) : GX hp' rs gr st o tb em fd extra E ad F := ⟨G.env.ext X, G.ob.ext X, G.hF⟩
variable {gr : Addr} {st : Str} {o : Addr} {extra : List (Str × V)}
theorem c_g_nullable {n : Nat} {hp : Hp} {Q : V → Hp → Prop} (G : GX hp rs gr st o tb em fd extra E ad F) {t : T} {v : V} (hn : ht t + 1 ≤ n) (hT : IsT hp t v) (h : ∀ b : Bool, (b = true ↔ Nul rs t) → Q (.bool b) hp) : callD g n .g_nullable [.ref gr, v] hp Q := by
  obtain ⟨m, rfl⟩ : ∃ m, n = m + 1 := ⟨n - 1, by lia⟩
  obtain ⟨hx, gd, ep, a, b⟩ := G.ob
  refine u_g_nullable ?_
  unfold b_g_nullable
  walk_at "ab"
  refine r_attr a b at_table ?_
  walk_at "ab"
  refine r_attr a b at_empty ?_
  walk_at "ab"
  exact c_nul G.env (by lia) hT h
theorem c_g_first {n : Nat} {hp : Hp} {Q : V → Hp → Prop} (G : GX hp rs gr st o tb em fd extra E ad F) {t : T} {v : V} (hn : ht t + 2 ≤ n) (hw : Wf t) (hT : IsT hp t v) (h : ∀ d hp', Ext No hp hp' → DS hp' d (Fst rs t) → Q (.ref d) hp') : callD g n .g_first [.ref gr, v] hp Q := by
  obtain ⟨m, rfl⟩ : ∃ m, n = m + 1 := ⟨n - 1, by lia⟩
  obtain ⟨hx, gd, ep, a, b⟩ := G.ob
  refine u_g_first ?_
  unfold b_g_first
  walk_at "ab"
  refine r_attr a b at_table ?_
  walk_at "ab"
  refine r_attr a b at_empty ?_
  walk_at "ab"
  refine r_attr a b at_firsts ?_
  walk_at "ab"
  exact c_first_of t _ hp v _ (by lia) hw hT G.env fun d hp' X D => h d hp' X (D.congr fun y => G.hF t y)
theorem r_dict {d ep : Nat} {es : List (Str × V)} {hp : Hp} {Q : V → Hp → Prop} (hx : hp d = some (.dict ep es)) (hl : es.length ≤ 1000000) (h : ∀ D ep, hp D = none → Q (.ref D) (hp.set D (.dict ep es))) : opDict [.ref d] hp Q := by
  unfold opDict; simp only [hx]; exact ⟨hl, h⟩
theorem c_g_predict {n : Nat} {hp : Hp} {Q : V → Hp → Prop} (G : GX hp rs gr st o tb em fd extra E ad F) {t : T} {v : V} {af : Addr} {S : Str → Prop} (hn : ht t + 3 ≤ n) (hw : Wf t) (hT : IsT hp t v) (hA : DS hp af S)
    (h : ∀ d hp', hp d = none → Ext No hp hp' → DS hp' d (prd rs t S) → Q (.ref d) hp') : callD g n .g_predict [.ref gr, v, .ref af] hp Q := by
  obtain ⟨m, rfl⟩ : ∃ m, n = m + 2 := ⟨n - 2, by lia⟩
  refine u_g_predict ?_
  unfold b_g_predict
  walk_at "ab"
  refine ⟨r_isI G.ob (by decide +kernel), ?_⟩
  walk_at "ab"
  refine c_g_first G (by lia) hw hT fun d1 hp1 X1 D1 => ?_
  obtain ⟨ks, ep1, k1, k2, k3, k4⟩ := id D1
  have h9 := sub_len k2 k3
  walk_at "ab"
  refine r_dict k1 (by rw [kt_len]; lia) fun D ep hD => ?_
  have X2 : Ext No hp (hp1.set D (.dict ep (kt ks))) := X1.trans (Ext.alloc hD)
  have D2 : DS (hp1.set D (.dict ep (kt ks))) D (Fst rs t) := ⟨ks, ep, Hp.set_same .., k2, k3, k4⟩
  walk_at "ab"
  refine ⟨r_isI (G.ob.ext X2) (by decide +kernel), ?_⟩
  walk_at "ab"
  refine c_g_nullable (G.ext X2) (by lia) (hT.ext X2) fun b hb => ?_
  cases b with
  | false =>
    walk_at "ab"
    refine h D _ (X1.new hD) X2 (D2.congr fun y => ?_)
    unfold prd
    exact ⟨.inl, fun q => q.elim id fun q => by have := hb.mpr q.1; cases this⟩
  | true =>
    walk_at "ab"
    refine c_merge D2 (hA.ext X2 id) fun b3 hp3 a1 a2 a3 a4 a5 => ?_
    walk_at "ab"
    refine h D _ (X1.new hD) (Ext.fresh X2 (X1.new hD) a1 a2.live) (a2.congr fun y => ?_)
    unfold prd
    exact ⟨fun q => q.imp id fun q => ⟨hb.mp rfl, q⟩, fun q => q.imp id (·.2)⟩
end
end
section
/-! ## the table, the order -/
structure RsOk (rs : Rules) : Prop where
  nd : (nsOf rs).Nodup
  un : ∀ x ∈ nsOf rs, x ∈ univ
  wf : ∀ x t, rs.lookup x = some t → Wf t ∧ ht t ≤ 4
theorem RsOk.len {rs} (h : RsOk rs) : rs.length ≤ 9 := by
  have := sub_len h.nd h.un
  rwa [List.length_map] at this
structure TabT (hp : Hp) (tb : Addr) (rs : Rules) : Prop where
  ex : ∃ ep es, hp tb = some (.dict ep es) ∧ Keys rs es ∧ ∀ x t, rs.lookup x = some t → ∃ v, es.lookup x = some v ∧ IsT hp t v
theorem TabT.ext {hp hp' : Hp} {tb rs} (X : Ext No hp hp') (h : TabT hp tb rs) : TabT hp' tb rs :=
  let ⟨ep, es, a, b, c⟩ := h.ex; ⟨ep, es, X.get a, b, fun x t e => let ⟨v, p, q⟩ := c x t e; ⟨v, p, q.ext X⟩⟩
noncomputable def OrdL (hp : Hp) (od : Addr) (rs : Rules) : Prop := hp od = some (.list ((nsOf rs).map V.str))
theorem i_while {t : BV} {body : ST} {ρ hp N R} (I : Nat → Loc → Hp → Prop) (k : Nat) (h0 : I k ρ hp) (h : ∀ k ρ hp, I k ρ hp → t ρ hp fun b hp₁ => if b = true then body ρ hp₁ (fun ρ' hp' => ∃ j, j < k ∧ I j ρ' hp') R else N ρ hp₁) : sWhile t body ρ hp N R := ⟨I, k, h0, h⟩

section
variable {g : Gl} {rs : Rules}
/-! ## empty_rules -/
theorem er_loop {n : Nat} (hn : 7 ≤ n) (ok : RsOk rs) {hp₀ : Hp} {tb od D : Addr} (hD : hp₀ D = none) (hT : TabT hp₀ tb rs) (hO : OrdL hp₀ od rs) (ks0 : List Str) {N : Loc → Hp → Prop} {R : V → Hp → Prop} :
    ∀ (l : List Str) (hp : Hp) (ks : List Str) (ep : Nat) (b : Bool) (o : Option V), (∀ x ∈ l, x ∈ nsOf rs) → hp D = some (.dict ep (kt ks)) → Ext No hp₀ hp → ks.Nodup → (∀ x ∈ ks, x ∈ nsOf rs ∧ Nul rs (.name x)) → (b = true → ks0.length < ks.length) → (b = false → ks = ks0) →
      (∀ hp' ks' ep' b' o', hp' D = some (.dict ep' (kt ks')) → Ext No hp₀ hp' → ks'.Nodup → (∀ x ∈ ks', x ∈ nsOf rs ∧ Nul rs (.name x)) → (∀ x ∈ ks, x ∈ ks') → (b' = true → ks0.length < ks'.length) → (b' = false → ks' = ks0 ∧ ∀ x ∈ l, ∀ t, rs.lookup x = some t → mbe ks0.contains t = true → x ∈ ks0) → N [some (.ref tb), some (.ref od), some (.ref D), some (.bool b'), o'] hp') →
      forL (tName 4) (sSeq (t_empty_rules_3 (callD g n))) (fun h => h od = some (.list ((nsOf rs).map V.str))) (l.map V.str) [some (.ref tb), some (.ref od), some (.ref D), some (.bool b), o] hp N R
  | [], hp, ks, ep, b, o, hl, hd, X, hnd, hk, h1, h2, q => by
    refine f_nil (X.get hO) (q hp ks ep b o hd X hnd hk (fun _ h => h) h1 fun e => ⟨h2 e, fun x hx => by cases hx⟩)
  | x :: l, hp, ks, ep, b, o, hl, hd, X, hnd, hk, h1, h2, q => by
    have ih := er_loop hn ok hD hT hO ks0 (N := N) (R := R) l
    have hxn := hl x (.head _)
    obtain ⟨t, hxt⟩ := lookup_ns.mp hxn
    obtain ⟨hwf, hht⟩ := ok.wf x t hxt
    obtain ⟨ept, est, htb, hK, hv⟩ := (hT.ext X).ex
    obtain ⟨v, hv1, hv2⟩ := hv x t hxt
    have hlen : ks.length ≤ 9 := sub_len hnd fun y hy => ok.un y (hk y hy).1
    have hmbe : ∀ t, mbe (fun x => ((kt ks).lookup x).isSome) t = mbe ks.contains t := fun t => by rw [show (fun x => ((kt ks).lookup x).isSome) = ks.contains from funext fun x => kt_lookup ks x]
    refine f_cons (X.get hO) ?_
    walk_at "ab"
    refine r_ninD hd ?_
    rw [kt_lookup]
    by_cases hx : x ∈ ks
    · rw [show ks.contains x = true by simpa using hx]
      walk_at "ab"
      refine ih hp ks ep b _ (fun y hy => hl y (.tail _ hy)) hd X hnd hk h1 h2 fun hp' ks' ep' b' o' a1 a2 a3 a4 a7 a5 a6 => q hp' ks' ep' b' o' a1 a2 a3 a4 a7 a5 fun e => ⟨(a6 e).1, fun y hy => ?_⟩
      rcases List.mem_cons.mp hy with rfl | hy
      · intro t' ht' hm
        rw [← (a6 e).1]; exact a7 _ hx
      · exact (a6 e).2 y hy
    · rw [show ks.contains x = false by simpa using hx]
      walk_at "ab"
      refine r_subD htb hv1 ?_
      walk_at "ab"
      refine c_mbe t n hp v _ (by lia) hv2 hd ?_
      rw [hmbe]
      cases hm : mbe ks.contains t with
      | false =>
        walk_at "ab"
        refine ih hp ks ep b _ (fun y hy => hl y (.tail _ hy)) hd X hnd hk h1 h2 fun hp' ks' ep' b' o' a1 a2 a3 a4 a7 a5 a6 => q hp' ks' ep' b' o' a1 a2 a3 a4 a7 a5 fun e => ⟨(a6 e).1, fun y hy => ?_⟩
        rcases List.mem_cons.mp hy with rfl | hy
        · intro t' ht' hm'
          rw [hxt] at ht'; cases ht'
          have := mbe_mono (E' := ks.contains) (fun z hz => by
            have hz' : z ∈ ks0 := by simpa using hz
            rw [← (a6 e).1] at hz'
            cases b with
            | false => rw [h2 rfl]; exact hz
            | true => exact absurd (h1 rfl) (by
                have := (a6 e).1
                rw [this] at a7
                have h3 := nodup_sub hnd a7
                lia)) t hm'
          rw [hm] at this; cases this
        · exact (a6 e).2 y hy
      | true =>
        walk_at "ab"
        refine r_storeD hd (by rw [kt_len]; lia) ?_
        rw [kt_hasK, kt_put_new hx, show ks.contains x = false by simpa using hx]
        walk_at "ab"
        have hnd' : (ks ++ [x]).Nodup := by
          rw [List.nodup_append]
          refine ⟨hnd, by simp, fun a ha b hb => ?_⟩
          rw [List.mem_singleton] at hb
          subst hb
          exact fun e => hx (e ▸ ha)
        have hk' : ∀ y ∈ ks ++ [x], y ∈ nsOf rs ∧ Nul rs (.name y) := fun y hy => by
          rcases List.mem_append.mp hy with h | h
          · exact hk y h
          · rw [List.mem_singleton] at h; subst h
            exact ⟨hxn, .name hxt (mbe_sound (fun z hz => (hk z (by simpa using hz)).2) t hm)⟩
        refine ih (hp.set D _) (ks ++ [x]) _ true _ (fun y hy => hl y (.tail _ hy)) (Hp.set_same ..) (Ext.fresh X hD (fun z hz => Hp.set_ne _ _ hz) (by rw [Hp.set_same]; exact fun x => nomatch x)) hnd' hk' (fun _ => ?_) (fun e => by cases e) fun hp' ks' ep' b' o' a1 a2 a3 a4 a7 a5 a6 => q hp' ks' ep' b' o' a1 a2 a3 a4 (fun y hy => a7 y (List.mem_append_left _ hy)) a5 fun e => ?_
        · rw [List.length_append]
          cases b with
          | false => rw [h2 rfl]; simp
          | true => have := h1 rfl; simp; lia
        · exfalso
          have h3 := nodup_sub hnd' a7
          rw [(a6 e).1, List.length_append] at h3
          cases b with
          | false => rw [h2 rfl] at h3; simp at h3; lia
          | true => have := h1 rfl; simp at h3; lia
theorem c_empty_rules {n : Nat} (hn : 8 ≤ n) (ok : RsOk rs) {hp : Hp} {Q : V → Hp → Prop} {tb od : Addr} (hT : TabT hp tb rs) (hO : OrdL hp od rs)
    (h : ∀ D hp' ep ks, hp D = none → Ext No hp hp' → hp' D = some (.dict ep (kt ks)) → (∀ x, ks.contains x = true ↔ Nul rs (.name x)) → Q (.ref D) hp') : callD g n .empty_rules [.ref tb, .ref od] hp Q := by
  obtain ⟨m, rfl⟩ : ∃ m, n = m + 1 := ⟨n - 1, by lia⟩
  refine u_empty_rules ?_
  unfold b_empty_rules
  walk_at "ab"
  intro D hD
  walk_at "ab"
  refine i_while (fun k ρ hp' => ∃ b o ks ep, ρ = [some (.ref tb), some (.ref od), some (.ref D), some (.bool b), o] ∧ hp' D = some (.dict ep (kt ks)) ∧ Ext No hp hp' ∧ ks.Nodup ∧ (∀ x ∈ ks, x ∈ nsOf rs ∧ Nul rs (.name x)) ∧
      (b = false → ∀ x t, rs.lookup x = some t → mbe ks.contains t = true → x ∈ ks) ∧ k = b.toNat + 2 * (10 - ks.length)) _ ⟨true, none, [], 0, rfl, Hp.set_same .., Ext.alloc hD, List.nodup_nil, (fun x hx => by cases hx), (fun e => by cases e), rfl⟩ ?_
  rintro k ρ hp' ⟨b, o, ks, ep, rfl, hd, X, hnd, hk, hcl, rfl⟩
  walk_at "ab"
  cases b with
  | false =>
    walk_at "ab"
    refine h D hp' ep ks hD X hd fun x => ⟨fun e => (hk x (by simpa using e)).2, fun e => ?_⟩
    obtain ⟨t, ht, hN⟩ := nul_name.mp e
    have := mbe_complete (E := ks.contains) (fun x t e m => by simpa using hcl rfl x t e m) hN
    simpa using hcl rfl x t ht this
  | true =>
    walk_at "ab"
    refine r_forL (X.get hO) ?_
    refine er_loop (by lia) ok hD hT hO ks (nsOf rs) hp' ks ep false _ (fun _ h => h) hd X hnd hk (fun e => by cases e) (fun _ => rfl) fun hp2 ks' ep' b' o' a1 a2 a3 a4 a7 a5 a6 => ?_
    walk_at "ab"
    refine ⟨_, ?_, b', o', ks', ep', rfl, a1, a2, a3, a4, fun e x t hxt hm => ?_, rfl⟩
    · have h9 : ks'.length ≤ 9 := sub_len a3 fun y hy => ok.un y (a4 y hy).1
      cases b' with
      | true => have := a5 rfl; show 1 + _ < 1 + _; lia
      | false => rw [(a6 rfl).1]; show 0 + _ < 1 + _; lia
    · obtain ⟨e1, e2⟩ := a6 e
      rw [e1] at hm ⊢
      exact e2 x (lookup_ns.mpr ⟨t, hxt⟩) t hxt hm
end
end
section
theorem famE_hasK {ad : Str → Addr} (ns : List Str) (x : Str) : hasK (famE ns ad) x = ns.contains x := by
  unfold hasK famE
  induction ns with
  | nil => rfl
  | cons k ks ih =>
    rw [List.map_cons, List.any_cons, ih, List.contains_cons]
    congr 1
    by_cases e : k = x
    · subst e; rfl
    · rw [show ((k, V.ref (ad k)).1 == x) = false from beq_false_of_ne e, beq_false_of_ne (Ne.symm e)]
theorem famE_put {ad : Str → Addr} {ns : List Str} {x : Str} {D : Addr} (h : x ∉ ns) : putV (famE ns ad) x (.ref D) = famE (ns ++ [x]) (fun y => if y = x then D else ad y) := by
  unfold putV
  rw [if_neg (by rw [famE_hasK]; simpa using h)]
  unfold famE
  rw [List.map_append]
  refine congr (congrArg _ (List.map_congr_left fun y hy => ?_)) ?_
  · show _ = (y, V.ref (if y = x then D else ad y))
    rw [if_neg fun (e : y = x) => h (e ▸ hy)]
  · simp
theorem famE_len {ad : Str → Addr} (ns : List Str) : (famE ns ad).length = ns.length := List.length_map ..
/-- the rows as they are first made -/
structure Made (hp₀ hp : Hp) (D : Addr) (pre : List Str) (ad : Str → Addr) : Prop where
  at_ : ∃ ep, hp D = some (.dict ep (famE pre ad))
  each : ∀ x ∈ pre, ∃ ep, hp (ad x) = some (.dict ep [])
  new : ∀ x ∈ pre, hp₀ (ad x) = none
  inj : ∀ x ∈ pre, ∀ y ∈ pre, ad x = ad y → x = y
  ne : ∀ x ∈ pre, ad x ≠ D
  ext : Ext No hp₀ hp
theorem Made.more {hp₀ hp : Hp} {D D' : Addr} {pre : List Str} {ad : Str → Addr} (M : Made hp₀ hp D pre ad) (hD : hp₀ D = none) {x : Str} (hx : x ∉ pre) (hD' : hp D' = none) (ep : Nat) :
    Made hp₀ ((hp.set D' (.dict 0 [])).set D (.dict ep (famE (pre ++ [x]) (fun y => if y = x then D' else ad y)))) D (pre ++ [x]) (fun y => if y = x then D' else ad y) := by
  have hDD : D' ≠ D := fun e => by obtain ⟨ep, a⟩ := M.at_; rw [← e, hD'] at a; cases a
  have hne : ∀ y ∈ pre, ad y ≠ D' := fun y hy e => by obtain ⟨ep, a⟩ := M.each y hy; rw [e, hD'] at a; cases a
  have hyx : ∀ y ∈ pre, y ≠ x := fun y hy (e : y = x) => hx (e ▸ hy)
  refine ⟨⟨ep, Hp.set_same ..⟩, fun y hy => ?_, fun y hy => ?_, fun y hy z hz e => ?_, fun y hy => ?_, ?_⟩
  · rcases List.mem_append.mp hy with h | h
    · rw [if_neg (hyx y h), Hp.set_ne _ _ (M.ne y h), Hp.set_ne _ _ (hne y h)]; exact M.each y h
    · rw [List.mem_singleton] at h; rw [if_pos h, Hp.set_ne _ _ hDD, Hp.set_same]; exact ⟨0, rfl⟩
  · rcases List.mem_append.mp hy with h | h
    · rw [if_neg (hyx y h)]; exact M.new y h
    · rw [List.mem_singleton] at h; rw [if_pos h]; exact M.ext.new hD'
  · rcases List.mem_append.mp hy with h | h <;> rcases List.mem_append.mp hz with h' | h'
    · rw [if_neg (hyx y h), if_neg (hyx z h')] at e; exact M.inj y h z h' e
    · rw [List.mem_singleton] at h'; rw [if_neg (hyx y h), if_pos h'] at e; exact absurd e (hne y h)
    · rw [List.mem_singleton] at h; rw [if_neg (hyx z h'), if_pos h] at e; exact absurd e.symm (hne z h')
    · rw [List.mem_singleton] at h h'; rw [h, h']
  · rcases List.mem_append.mp hy with h | h
    · rw [if_neg (hyx y h)]; exact M.ne y h
    · rw [List.mem_singleton] at h; rw [if_pos h]; exact hDD
  · exact Ext.fresh (M.ext.trans (Ext.alloc hD')) hD (fun b hb => Hp.set_ne _ _ hb) (by rw [Hp.set_same]; exact fun x => nomatch x)

noncomputable def szs (hp : Hp) (ad : Str → Addr) (ns : List Str) : Nat := (ns.map fun x => dsz hp (ad x)).sum
theorem szs_le {hp hp' : Hp} {ad : Str → Addr} : ∀ {ns : List Str}, (∀ x ∈ ns, dsz hp (ad x) ≤ dsz hp' (ad x)) → szs hp ad ns ≤ szs hp' ad ns
  | [], _ => Nat.le_refl _
  | x :: ns, h => by
    unfold szs
    rw [List.map_cons, List.map_cons, List.sum_cons, List.sum_cons]
    exact Nat.add_le_add (h x (.head _)) (szs_le fun y hy => h y (.tail _ hy))
theorem szs_lt {hp hp' : Hp} {ad : Str → Addr} : ∀ {ns : List Str} {x : Str}, (∀ x ∈ ns, dsz hp (ad x) ≤ dsz hp' (ad x)) → x ∈ ns → dsz hp (ad x) < dsz hp' (ad x) → szs hp ad ns < szs hp' ad ns
  | [], _, _, hx, _ => by cases hx
  | y :: ns, x, h, hx, hl => by
    unfold szs
    rw [List.map_cons, List.map_cons, List.sum_cons, List.sum_cons]
    rcases List.mem_cons.mp hx with rfl | hx
    · exact Nat.add_lt_add_of_lt_of_le hl (szs_le fun y hy => h y (.tail _ hy))
    · exact Nat.add_lt_add_of_le_of_lt (h y (.head _)) (szs_lt (fun y hy => h y (.tail _ hy)) hx hl)
theorem szs_eq {hp hp' : Hp} {ad : Str → Addr} {ns : List Str} (h : ∀ x ∈ ns, dsz hp (ad x) = dsz hp' (ad x)) : szs hp ad ns = szs hp' ad ns :=
  Nat.le_antisymm (szs_le fun x hx => Nat.le_of_eq (h x hx)) (szs_le fun x hx => Nat.le_of_eq (h x hx).symm)
theorem DS.sz {hp d S} (h : DS hp d S) : dsz hp d ≤ 9 := by
  obtain ⟨ks, ep, a, b, c, _⟩ := h
  rw [dsz_at a, kt_len]; exact sub_len b c
theorem szs_bound {hp : Hp} {ad : Str → Addr} : ∀ {ns : List Str}, (∀ x ∈ ns, dsz hp (ad x) ≤ 9) → szs hp ad ns ≤ 9 * ns.length
  | [], _ => Nat.le_refl _
  | x :: ns, h => by
    unfold szs
    rw [List.map_cons, List.sum_cons, List.length_cons]
    have h1 := h x (.head _)
    have h2 := szs_bound (ns := ns) fun y hy => h y (.tail _ hy)
    unfold szs at h2
    lia
theorem dsz_ext {hp hp' : Hp} (X : Ext No hp hp') {d} (h : hp d ≠ none) : dsz hp' d = dsz hp d := by
  cases e : hp d with
  | none => exact absurd e h
  | some o => unfold dsz; rw [e, X.get e]

section
variable {g : Gl} {rs : Rules}
/-- for name in order: rows[name] = {} -/
theorem mk_loop {hp₀ : Hp} {od D : Addr} (hD : hp₀ D = none) (hO : OrdL hp₀ od rs) {i₁ i₂ : Nat} {N : Loc → Hp → Prop} {R : V → Hp → Prop} (mkρ : Option V → Loc) (hs : ∀ o v, (mkρ o).set i₂ (some v) = mkρ (some v)) (hl1 : ∀ o, look (mkρ o) i₁ = some (.ref D)) (hl2 : ∀ v, look (mkρ (some v)) i₂ = some v) :
    ∀ (l pre : List Str) (hp : Hp) (ad : Str → Addr) (o : Option V), (pre ++ l).Nodup → (pre ++ l).length ≤ 9 → Made hp₀ hp D pre ad →
      (∀ hp' ad' o', Made hp₀ hp' D (pre ++ l) ad' → N (mkρ o') hp') →
      forL (tName i₂) (sSeq [(sStore (cV i₁) (cV i₂) cDict0)]) (fun h => h od = some (.list ((nsOf rs).map V.str))) (l.map V.str) (mkρ o) hp N R
  | [], pre, hp, ad, o, hnd, hlen, M, q => f_nil (M.ext.get hO) (by have := q hp ad o; rw [List.append_nil] at this; exact this M)
  | x :: l, pre, hp, ad, o, hnd, hlen, M, q => by
    have ih := mk_loop hD hO (N := N) (R := R) mkρ hs hl1 hl2 l (pre ++ [x])
    have hx : x ∉ pre := fun h => by
      rw [List.nodup_append] at hnd
      exact hnd.2.2 x h x (.head _) rfl
    refine f_cons (M.ext.get hO) ?_
    refine i_name ?_
    rw [hs]
    refine i_seq (i_store (e_dict0 fun D' hD' => ?_))
    refine e_V (hl1 _) (e_V (hl2 _) ?_)
    obtain ⟨ep, hd⟩ := M.at_
    have hd' : (hp.set D' (.dict 0 [])) D = some (.dict ep (famE pre ad)) := (Ext.alloc (M := No) hD').get hd
    refine r_storeD hd' ?_ ?_
    · rw [famE_len]; rw [List.length_append] at hlen; lia
    rw [famE_put hx]
    refine i_nil (ih _ _ _ (by rwa [List.append_assoc]) (by rwa [List.append_assoc]) (M.more hD hx hD' _) fun hp' ad' o' h => q hp' ad' o' (by rwa [List.append_assoc] at h))

/-! ## first_rows -/
theorem fr_loop {n : Nat} (hn : 8 ≤ n) (ok : RsOk rs) {hp₀ : Hp} {tb od em D : Addr} {E : Str → Bool} {ad : Str → Addr} (hT : TabT hp₀ tb rs) (hO : OrdL hp₀ od rs) (hem : ∃ ep es, hp₀ em = some (.dict ep es) ∧ ∀ x, (es.lookup x).isSome = E x) (hE : ∀ t, mbe E t = true ↔ Nul rs t)
    (hnew : ∀ x ∈ nsOf rs, hp₀ (ad x) = none) (F0 : Str → Str → Prop) (sz0 : Nat) {N : Loc → Hp → Prop} {R : V → Hp → Prop} :
    ∀ (l : List Str) (hp : Hp) (F : Str → Str → Prop) (b : Bool) (o : Option V), (∀ x ∈ l, x ∈ nsOf rs) → Ext No hp₀ hp → Fam hp D (nsOf rs) ad F → (∀ x y t, rs.lookup x = some t → F x y → Fst rs (.name x) y) → sz0 ≤ szs hp ad (nsOf rs) → (b = true → sz0 < szs hp ad (nsOf rs)) → (b = false → F = F0 ∧ szs hp ad (nsOf rs) = sz0) →
      (∀ hp' F' b' o', Ext No hp₀ hp' → Fam hp' D (nsOf rs) ad F' → (∀ x y t, rs.lookup x = some t → F' x y → Fst rs (.name x) y) → szs hp ad (nsOf rs) ≤ szs hp' ad (nsOf rs) → (b' = true → sz0 < szs hp' ad (nsOf rs)) → (b' = false → F' = F0 ∧ szs hp' ad (nsOf rs) = sz0 ∧ ∀ x ∈ l, ∀ t y, rs.lookup x = some t → fo rs F0 t y → F0 x y) → N [some (.ref tb), some (.ref od), some (.ref em), some (.ref D), o', some (.bool b')] hp') →
      forL (tName 4) (sSeq (t_first_rows_3 (callD g n))) (fun h => h od = some (.list ((nsOf rs).map V.str))) (l.map V.str) [some (.ref tb), some (.ref od), some (.ref em), some (.ref D), o, some (.bool b)] hp N R
  | [], hp, F, b, o, hl, X, M, hs, h0, h1, h2, q => by
    refine f_nil (X.get hO) (q hp F b o X M hs (Nat.le_refl _) h1 fun e => ⟨(h2 e).1, (h2 e).2, fun x hx => by cases hx⟩)
  | x :: l, hp, F, b, o, hl, X, M, hs, h0, h1, h2, q => by
    have ih := fr_loop (D := D) hn ok hT hO hem hE hnew F0 sz0 (N := N) (R := R) l
    obtain ⟨m, rfl⟩ : ∃ m, n = m + 1 := ⟨n - 1, by lia⟩
    have hxn := hl x (.head _)
    obtain ⟨t, hxt⟩ := lookup_ns.mp hxn
    obtain ⟨hwf, hht⟩ := ok.wf x t hxt
    obtain ⟨ept, est, htb, hK, hv⟩ := (hT.ext X).ex
    obtain ⟨v, hv1, hv2⟩ := hv x t hxt
    obtain ⟨epd, hd⟩ := M.at_
    have G : GEnv hp rs tb em D E ad F := ⟨⟨ept, est, htb, hK⟩, let ⟨ep, es, a, b⟩ := hem; ⟨ep, es, X.get a, b⟩, hE, M⟩
    refine f_cons (X.get hO) ?_
    walk_at "ab"
    refine r_subD hd (famE_lookup hxn) ?_
    walk_at "ab"
    refine r_subD htb hv1 ?_
    walk_at "ab"
    refine c_first_of t _ hp v _ (by lia) hwf hv2 G fun d hp1 X1 D1 => ?_
    walk_at "ab"
    have M1 := M.ext X1 id fun _ _ => id
    refine c_merge (M1.each x hxn) D1 fun b1 hp2 a1 a2 a3 a4 a5 => ?_
    have hlive : ∀ y ∈ nsOf rs, hp (ad y) ≠ none := fun y hy => (M.each y hy).live
    have hsz1 : szs hp1 ad (nsOf rs) = szs hp ad (nsOf rs) := szs_eq fun y hy => dsz_ext X1 (hlive y hy)
    cases b1 with
    | false =>
      have e := a5 rfl
      subst e
      walk_at "ab"
      refine ih hp2 F b _ (fun y hy => hl y (.tail _ hy)) (X.trans X1) M1 hs (by lia) (fun e => by rw [hsz1]; exact h1 e) (fun e => ⟨(h2 e).1, by rw [hsz1]; exact (h2 e).2⟩) fun hp' F' b' o' c1 c2 c3 c4 c5 c6 => q hp' F' b' o' c1 c2 c3 (by lia) c5 fun e => ⟨(c6 e).1, (c6 e).2.1, fun y hy => ?_⟩
      rcases List.mem_cons.mp hy with rfl | hy
      · intro t' z ht' hz
        rw [hxt] at ht'; cases ht'
        -- nothing was grown before either: the sizes say so
        have hb : b = false := by
          cases b with
          | false => rfl
          | true => have := h1 rfl; have := (c6 e).2.1; lia
        rw [← (h2 hb).1] at hz ⊢
        obtain ⟨ks, ep1, k1, k2, k3, k4⟩ := M1.each y hxn
        obtain ⟨ks', ep2, j1, j2, j3, j4⟩ := a2
        rw [k1] at j1
        have e0 : kt ks = kt ks' := by
          have := Option.some.inj j1
          injection this
        have e3 : ks = ks' := by
          have := congrArg (List.map Prod.fst) e0
          unfold kt at this
          rw [List.map_map, List.map_map] at this
          simpa [Function.comp_def] using this
        subst e3
        exact (k4 z).mp ((j4 z).mpr (.inr hz))
      · exact (c6 e).2.2 y hy
    | true =>
      have hlt : dsz hp1 (ad x) < dsz hp2 (ad x) := of_decide_eq_true a4.symm
      walk_at "ab"
      have hoth : ∀ y ∈ nsOf rs, y ≠ x → hp2 (ad y) = hp1 (ad y) := fun y hy hyx => a1 _ fun e => hyx (M.inj y hy x hxn e)
      have hszle : ∀ y ∈ nsOf rs, dsz hp1 (ad y) ≤ dsz hp2 (ad y) := fun y hy => by
        by_cases e : y = x
        · rw [e]; exact a3
        · unfold dsz; rw [hoth y hy e]; exact Nat.le_refl _
      have hgrow := szs_lt hszle hxn hlt
      have M2 : Fam hp2 D (nsOf rs) ad (fun y z => if y = x then F x z ∨ fo rs F t z else F y z) := by
        refine ⟨⟨epd, (a1 _ (Ne.symm (M.ne x hxn))).trans (X1.get hd)⟩, fun y hy => ?_, M.inj, M.ne⟩
        by_cases e : y = x
        · subst e; exact a2.congr fun z => by simp
        · exact ((M1.each y hy).at (hoth y hy e)).congr fun z => by rw [if_neg e]
      refine ih hp2 _ true _ (fun y hy => hl y (.tail _ hy)) (Ext.fresh (X.trans X1) (hnew x hxn) a1 a2.live) M2 (fun y z u hu hz => ?_) (by lia) (fun _ => by lia) (fun e => by cases e) fun hp' F' b' o' c1 c2 c3 c4 c5 c6 => q hp' F' b' o' c1 c2 c3 (by lia) c5 fun e => by
        exfalso
        have := (c6 e).2.1
        lia
      by_cases e : y = x
      · subst e
        rw [if_pos rfl] at hz
        rcases hz with hz | hz
        · exact hs y z u hu hz
        · rw [hxt] at hu; cases hu
          exact .name hxt (fo_sound hs t z hz)
      · rw [if_neg e] at hz; exact hs y z u hu hz
theorem c_first_rows {n : Nat} (hn : 9 ≤ n) (ok : RsOk rs) {hp : Hp} {Q : V → Hp → Prop} {tb od em : Addr} {E : Str → Bool} (hT : TabT hp tb rs) (hO : OrdL hp od rs) (hem : ∃ ep es, hp em = some (.dict ep es) ∧ ∀ x, (es.lookup x).isSome = E x) (hE : ∀ t, mbe E t = true ↔ Nul rs t)
    (h : ∀ D hp' ad F, hp D = none → Ext No hp hp' → Fam hp' D (nsOf rs) ad F → (∀ t y, fo rs F t y ↔ Fst rs t y) → (∀ x ∈ nsOf rs, hp (ad x) = none) → Q (.ref D) hp') : callD g n .first_rows [.ref tb, .ref od, .ref em] hp Q := by
  obtain ⟨m, rfl⟩ : ∃ m, n = m + 1 := ⟨n - 1, by lia⟩
  refine u_first_rows ?_
  unfold b_first_rows
  walk_at "ab"
  intro D hD
  have X0 : Ext No hp (hp.set D (.dict 0 [])) := Ext.alloc hD
  walk_at "ab"
  refine r_forL (X0.get hO) ?_
  refine mk_loop hD hO (fun o => [some (.ref tb), some (.ref od), some (.ref em), some (.ref D), o, none]) (fun _ _ => rfl) (fun _ => rfl) (fun _ => rfl) (nsOf rs) [] _ (fun _ => 0) none (by simpa using ok.nd) (by simpa using ok.len) ⟨⟨0, Hp.set_same ..⟩, (fun x hx => by cases hx), (fun x hx => by cases hx), (fun x hx => by cases hx), (fun x hx => by cases hx), X0⟩ fun hp1 ad o1 M => ?_
  rw [List.nil_append] at M
  walk_at "ab"
  have hfam0 : Fam hp1 D (nsOf rs) ad (fun _ _ => False) := ⟨M.at_, fun x hx => let ⟨ep, a⟩ := M.each x hx; DS.nil a, M.inj, M.ne⟩
  refine i_while (fun k ρ hp' => ∃ b o F, ρ = [some (.ref tb), some (.ref od), some (.ref em), some (.ref D), o, some (.bool b)] ∧ Ext No hp hp' ∧ Fam hp' D (nsOf rs) ad F ∧ (∀ x y t, rs.lookup x = some t → F x y → Fst rs (.name x) y) ∧
      (b = false → ∀ x t y, rs.lookup x = some t → fo rs F t y → F x y) ∧ k = b.toNat + 2 * (100 - szs hp' ad (nsOf rs))) _ ⟨true, o1, fun _ _ => False, rfl, M.ext, hfam0, (fun _ _ _ _ h => h.elim), (fun e => by cases e), rfl⟩ ?_
  rintro k ρ hp' ⟨b, o, F, rfl, X, MF, hs, hcl, rfl⟩
  walk_at "ab"
  cases b with
  | false =>
    walk_at "ab"
    refine h D hp' ad F hD X MF (fun t y => ⟨fo_sound hs t y, fun n => fo_complete (hcl rfl) n⟩) M.new
  | true =>
    walk_at "ab"
    refine r_forL (X.get hO) ?_
    refine fr_loop (by lia) ok hT hO hem hE M.new F (szs hp' ad (nsOf rs)) (nsOf rs) hp' F false _ (fun _ h => h) X MF hs (Nat.le_refl _) (fun e => by cases e) (fun _ => ⟨rfl, rfl⟩) fun hp2 F' b' o' c1 c2 c3 c4 c5 c6 => ?_
    walk_at "ab"
    refine ⟨_, ?_, b', o', F', rfl, c1, c2, c3, fun e x t y hxt hy => ?_, rfl⟩
    · have hb : szs hp2 ad (nsOf rs) ≤ 9 * (nsOf rs).length := szs_bound fun x hx => (c2.each x hx).sz
      have hl : (nsOf rs).length ≤ 9 := by have := ok.len; simpa using this
      cases b' with
      | true => have := c5 rfl; show 1 + _ < 1 + _; lia
      | false => rw [(c6 rfl).2.1]; show 0 + _ < 1 + _; lia
    · obtain ⟨e1, e2, e3⟩ := c6 e
      subst e1
      exact e3 x (lookup_ns.mpr ⟨t, hxt⟩) t y hxt hy
end
end
section
section
variable {hp : Hp} {Q : V → Hp → Prop}
theorem r_rev {t body ρ N R x vs ws} (hx : hp x = some (.tup vs)) (hl : vs.length < 1000000) (hr : vs.reverse = ws) (h : forL t body (fun h => h x = some (.tup vs)) ws ρ hp N R) : revK t body ρ N R [.ref x] hp := by
  unfold revK; simp only [hx]; subst hr; exact ⟨hl, h⟩
theorem r_isL {x vs} (hx : hp x = some (.list vs)) : isL (.ref x) hp := by unfold isL; simp only [hx]
theorem r_app {x us v} (hx : hp x = some (.list us)) (hl : us.length ≤ 1000000) (h : Q .none (hp.set x (.list (us ++ [v])))) : mApp (.ref x) [v] hp Q := by unfold mApp; simp only [hx]; exact ⟨hl, h⟩
theorem r_rv {x us} (hx : hp x = some (.list us)) (hl : us.length ≤ 1000000) (h : Q .none (hp.set x (.list us.reverse))) : mRev (.ref x) [] hp Q := by unfold mRev; simp only [hx]; exact ⟨hl, h⟩
theorem r_pop {x us v} (hx : hp x = some (.list us)) (hl : us.length ≤ 1000000) (hv : us.getLast? = some v) (h : Q v (hp.set x (.list us.dropLast))) : mPop (.ref x) [] hp Q := by unfold mPop; simp only [hx, hv]; exact ⟨hl, h⟩
end
theorem set_set {hp : Hp} {d o o'} : (hp.set d o).set d o' = hp.set d o' := by
  funext b
  by_cases e : b = d
  · subst e; rw [Hp.set_same, Hp.set_same]
  · rw [Hp.set_ne _ _ e, Hp.set_ne _ _ e, Hp.set_ne _ _ e]
theorem set_comm {hp : Hp} {d d' o o'} (h : d ≠ d') : (hp.set d o).set d' o' = (hp.set d' o').set d o := by
  funext b
  by_cases e : b = d
  · subst e; rw [Hp.set_ne _ _ h, Hp.set_same, Hp.set_same]
  · by_cases e' : b = d'
    · subst e'; rw [Hp.set_same, Hp.set_ne _ _ e, Hp.set_same]
    · rw [Hp.set_ne _ _ e', Hp.set_ne _ _ e, Hp.set_ne _ _ e, Hp.set_ne _ _ e']
theorem Ext.own {hp hp' : Hp} {D : Addr} {o : Ab} (X : Ext No hp hp') (hD : hp D = none) : Ext No hp (hp'.set D o) := Ext.fresh X hD (fun b hb => Hp.set_ne _ _ hb) (by rw [Hp.set_same]; exact fun x => nomatch x)
theorem Ext.base {M : Addr → Prop} {hB hp hp' : Hp} (a : Ext No hB hp) (b : Ext M hp hp') (h : ∀ x, M x → hB x = none) : Ext No hB hp' :=
  ⟨(fun x o e _ => b.keep x o (a.get e) fun m => by rw [h x m] at e; cases e), fun x vs e => b.tup x vs (a.tup x vs e), fun x hx => b.live x (a.live x hx)⟩

section
variable {g : Gl} {rs : Rules} {tb em fd : Addr} {E : Str → Bool} {ad' : Str → Addr} {F' : Str → Str → Prop} {gr : Addr} {st : Str} {od : Addr} {extra : List (Str × V)}
/-! ## parts -/
theorem c_parts_eps {n : Nat} (hn : 1 ≤ n) {hp : Hp} {v af : V} {Q : V → Hp → Prop} (hT : IsT hp .eps v) (h : ∀ l hp', hp l = none → Ext No hp hp' → hp' l = some (.list []) → Q (.ref l) hp') : callD g n .parts [.ref gr, v, af] hp Q := by
  obtain ⟨m, rfl⟩ : ∃ m, n = m + 1 := ⟨n - 1, by lia⟩
  obtain ⟨d, e, rfl, hd, hee⟩ := hT
  refine u_parts ?_
  unfold b_parts
  walk_at "ab"
  intro D hD
  have X0 : Ext No hp (hp.set D (.list [])) := Ext.alloc hD
  have hd0 := X0.get hd
  have hee0 := X0.get hee
  walk_at "ab"
  refine r_rev hee0 (by simp) (ws := []) rfl ?_
  walk_at "ab"
  refine ⟨r_isL (Hp.set_same ..), ?_⟩
  walk_at "ab"
  refine r_rv (Hp.set_same ..) (by simp) ?_
  rw [set_set]
  walk_at "ab"
  exact h D _ hD X0 (Hp.set_same ..)
theorem c_parts_alt {n : Nat} (hn : 1 ≤ n) {hp : Hp} {v af : V} {a b : T} {Q : V → Hp → Prop} (hT : IsT hp (.alt a b) v) (h : ∀ l va vb p1 p2 hp', hp l = none → Ext No hp hp' → hp' l = some (.list [.ref p1, .ref p2]) → hp' p1 = some (.tup [va, af]) → hp' p2 = some (.tup [vb, af]) → IsT hp a va → IsT hp b vb → Q (.ref l) hp') :
    callD g n .parts [.ref gr, v, af] hp Q := by
  obtain ⟨m, rfl⟩ : ∃ m, n = m + 1 := ⟨n - 1, by lia⟩
  obtain ⟨d, e, va, vb, rfl, hd, hee, ha, hb⟩ := hT
  refine u_parts ?_
  unfold b_parts
  walk_at "ab"
  intro D hD
  have X0 : Ext No hp (hp.set D (.list [])) := Ext.alloc hD
  have hd0 := X0.get hd
  have hee0 := X0.get hee
  walk_at "ab"
  refine r_rev hee0 (by simp) (ws := [vb, va]) rfl ?_
  walk_at "ab"
  refine ⟨r_isL (Hp.set_same ..), ?_⟩
  walk_at "ab"
  intro p2 hp2
  have hp2D : D ≠ p2 := fun q => by rw [← q, Hp.set_same] at hp2; cases hp2
  walk_at "ab"
  refine r_app (us := []) ?_ (by simp) ?_
  · rw [Hp.set_ne _ _ hp2D, Hp.set_same]
  have X1 : Ext No hp (((hp.set D (.list [])).set p2 (.tup [vb, af])).set D (.list ([] ++ [.ref p2]))) := (X0.trans (Ext.alloc hp2)).own hD
  have hd1 := X1.get hd
  have hee1 := X1.get hee
  walk_at "ab"
  refine ⟨r_isL (Hp.set_same ..), ?_⟩
  walk_at "ab"
  intro p1 hp1
  have hp1D : D ≠ p1 := fun q => by rw [← q, Hp.set_same] at hp1; cases hp1
  have hp12 : p2 ≠ p1 := fun q => by rw [← q, Hp.set_ne _ _ (Ne.symm hp2D), Hp.set_same] at hp1; cases hp1
  walk_at "ab"
  refine r_app (us := [.ref p2]) ?_ (by simp) ?_
  · rw [Hp.set_ne _ _ hp1D, Hp.set_same]; rfl
  have X2 : Ext No hp (((((hp.set D (.list [])).set p2 (.tup [vb, af])).set D (.list ([] ++ [.ref p2]))).set p1 (.tup [va, af])).set D (.list ([.ref p2] ++ [.ref p1]))) := (X1.trans (Ext.alloc hp1)).own hD
  have hd2 := X2.get hd
  have hee2 := X2.get hee
  walk_at "ab"
  refine ⟨r_isL (Hp.set_same ..), ?_⟩
  walk_at "ab"
  refine r_rv (Hp.set_same ..) (by simp) ?_
  walk_at "ab"
  refine h D va vb p1 p2 _ hD ((X1.trans (Ext.alloc hp1)).own hD |>.own hD) (Hp.set_same ..) ?_ ?_ ha hb
  · rw [Hp.set_ne _ _ (Ne.symm hp1D), Hp.set_ne _ _ (Ne.symm hp1D), Hp.set_same]
  · rw [Hp.set_ne _ _ (Ne.symm hp2D), Hp.set_ne _ _ (Ne.symm hp2D), Hp.set_ne _ _ hp12, Hp.set_ne _ _ (Ne.symm hp2D), Hp.set_same]
theorem c_parts_seq {n : Nat} {hp : Hp} {v : V} {af : Addr} {a b : T} {S : Str → Prop} {Q : V → Hp → Prop} (hn : ht (.seq a b) + 3 ≤ n) (hw : Wf (.seq a b)) (G : GX hp rs gr st od tb em fd extra E ad' F') (hT : IsT hp (.seq a b) v) (hA : DS hp af S)
    (h : ∀ l va vb p1 p2 d1 hp', hp l = none → Ext No hp hp' → hp' l = some (.list [.ref p1, .ref p2]) → hp' p1 = some (.tup [va, .ref d1]) → hp' p2 = some (.tup [vb, .ref af]) → hp d1 = none → DS hp' d1 (prd rs b S) → IsT hp a va → IsT hp b vb → Q (.ref l) hp') :
    callD g n .parts [.ref gr, v, .ref af] hp Q := by
  obtain ⟨m, rfl⟩ : ∃ m, n = m + 1 := ⟨n - 1, by lia⟩
  obtain ⟨d, e, va, vb, rfl, hd, hee, ha, hb⟩ := hT
  simp only [ht] at hn
  refine u_parts ?_
  unfold b_parts
  walk_at "ab"
  intro D hD
  have X0 : Ext No hp (hp.set D (.list [])) := Ext.alloc hD
  have hd0 := X0.get hd
  have hee0 := X0.get hee
  walk_at "ab"
  refine r_rev hee0 (by simp) (ws := [vb, va]) rfl ?_
  walk_at "ab"
  refine ⟨r_isL (Hp.set_same ..), ?_⟩
  walk_at "ab"
  intro p2 hp2
  have hp2D : D ≠ p2 := fun q => by rw [← q, Hp.set_same] at hp2; cases hp2
  walk_at "ab"
  refine r_app (us := []) ?_ (by simp) ?_
  · rw [Hp.set_ne _ _ hp2D, Hp.set_same]
  have X1 : Ext No hp (((hp.set D (.list [])).set p2 (.tup [vb, .ref af])).set D (.list ([] ++ [.ref p2]))) := (X0.trans (Ext.alloc hp2)).own hD
  have hd1 := X1.get hd
  have hee1 := X1.get hee
  have h1D : (((hp.set D (.list [])).set p2 (.tup [vb, .ref af])).set D (.list ([] ++ [.ref p2]))) D = some (.list [.ref p2]) := Hp.set_same ..
  have h1p : (((hp.set D (.list [])).set p2 (.tup [vb, .ref af])).set D (.list ([] ++ [.ref p2]))) p2 = some (.tup [vb, .ref af]) := by rw [Hp.set_ne _ _ (Ne.symm hp2D), Hp.set_same]
  generalize (((hp.set D (.list [])).set p2 (.tup [vb, .ref af])).set D (.list ([] ++ [.ref p2]))) = hA1 at X1 hd1 hee1 h1D h1p ⊢
  walk_at "ab"
  refine ⟨r_isI (G.ob.ext X1) (by decide +kernel), ?_⟩
  walk_at "ab"
  refine c_g_predict (G.ext X1) (by lia) hw.2 (hb.ext X1) (hA.ext X1 id) fun d1 hp3 hd1n X3 D3 => ?_
  have X4 := X1.trans X3
  have hee3 := X4.get hee
  walk_at "ab"
  refine ⟨r_isL (X3.get h1D), ?_⟩
  walk_at "ab"
  intro p1 hp1
  have hp1D : D ≠ p1 := fun q => by rw [← q, X3.get h1D] at hp1; cases hp1
  have hp12 : p2 ≠ p1 := fun q => by rw [← q, X3.get h1p] at hp1; cases hp1
  have hd11 : d1 ≠ p1 := fun q => D3.live (q ▸ hp1)
  have hd1D : d1 ≠ D := fun q => by rw [q, h1D] at hd1n; cases hd1n
  walk_at "ab"
  refine r_app (us := [.ref p2]) ?_ (by simp) ?_
  · rw [Hp.set_ne _ _ hp1D]; exact X3.get h1D
  have X5 : Ext No hp ((hp3.set p1 (.tup [va, .ref d1])).set D (.list ([.ref p2] ++ [.ref p1]))) := (X4.trans (Ext.alloc hp1)).own hD
  have hd5 := X5.get hd
  have hee5 := X5.get hee
  have h5D : ((hp3.set p1 (.tup [va, .ref d1])).set D (.list ([.ref p2] ++ [.ref p1]))) D = some (.list [.ref p2, .ref p1]) := Hp.set_same ..
  have h5p1 : ((hp3.set p1 (.tup [va, .ref d1])).set D (.list ([.ref p2] ++ [.ref p1]))) p1 = some (.tup [va, .ref d1]) := by rw [Hp.set_ne _ _ (Ne.symm hp1D), Hp.set_same]
  have h5p2 : ((hp3.set p1 (.tup [va, .ref d1])).set D (.list ([.ref p2] ++ [.ref p1]))) p2 = some (.tup [vb, .ref af]) := by rw [Hp.set_ne _ _ (Ne.symm hp2D), Hp.set_ne _ _ hp12]; exact X3.get h1p
  have D5 : DS ((hp3.set p1 (.tup [va, .ref d1])).set D (.list ([.ref p2] ++ [.ref p1]))) d1 (prd rs b S) := D3.at (by rw [Hp.set_ne _ _ hd1D, Hp.set_ne _ _ hd11])
  generalize ((hp3.set p1 (.tup [va, .ref d1])).set D (.list ([.ref p2] ++ [.ref p1]))) = hA5 at X5 hd5 hee5 h5D h5p1 h5p2 D5 ⊢
  walk_at "ab"
  refine ⟨r_isI (G.ob.ext X5) (by decide +kernel), ?_⟩
  walk_at "ab"
  refine c_g_predict (G.ext X5) (by lia) hw.1 (ha.ext X5) D5 fun d2 hp6 hd2n X6 D6 => ?_
  have X7 := X5.trans X6
  have hee7 := X7.get hee
  walk_at "ab"
  refine ⟨r_isL (X6.get h5D), ?_⟩
  walk_at "ab"
  refine r_rv (X6.get h5D) (by simp) ?_
  walk_at "ab"
  refine h D va vb p1 p2 d1 _ hD (X7.own hD) (Hp.set_same ..) ?_ ?_ (X1.new hd1n) ((D5.ext X6 id).at (Hp.set_ne _ _ hd1D)) ha hb
  · rw [Hp.set_ne _ _ (Ne.symm hp1D)]; exact X6.get h5p1
  · rw [Hp.set_ne _ _ (Ne.symm hp2D)]; exact X6.get h5p2
end
end
local macro_rules | `(tactic| walk_at "abh") => `(tactic| with_reducible refine r_tup (by assumption) rfl ?_)
section
theorem kt_inj {ks ks' : List Str} (h : kt ks = kt ks') : ks = ks' := by
  have := congrArg (List.map Prod.fst) h
  unfold kt at this
  rw [List.map_map, List.map_map] at this
  simpa [Function.comp_def] using this
theorem DS.uniq {hp d S S'} (h : DS hp d S) (h' : DS hp d S') (x : Str) : S x ↔ S' x := by
  obtain ⟨ks, ep, a, _, _, f⟩ := h
  obtain ⟨ks', ep', a', _, _, f'⟩ := h'
  rw [a] at a'
  have e : ks = ks' := kt_inj (by have := Option.some.inj a'; injection this)
  subst e
  exact (f x).symm.trans (f' x)
noncomputable abbrev Mf (rs : Rules) (ad : Str → Addr) : Addr → Prop := fun x => ∃ y ∈ nsOf rs, x = ad y
structure FR (rs : Rules) (ad : Str → Addr) (fw : Addr) (t : T) (hp hp' : Hp) (F F' : Str → Str → Prop) (af : Addr) (S : Str → Prop) (b : Bool) : Prop where
  ext : Ext (Mf rs ad) hp hp'
  fam : Fam hp' fw (nsOf rs) ad F'
  grow : ∀ y z, F y z → F' y z
  sound : ∀ (X : Str → Str → Prop) (B : Str → Prop), (∀ y z, F y z → X y z) → (∀ z, S z → B z) → (∀ y ∈ nsOf rs, af = ad y → ∀ z, X y z → B z) → (∀ m z, Occ rs t B m z → X m z) → ∀ y z, F' y z → X y z
  le : szs hp ad (nsOf rs) ≤ szs hp' ad (nsOf rs)
  lt : b = true → szs hp ad (nsOf rs) < szs hp' ad (nsOf rs)
  eq : b = false → F' = F ∧ szs hp' ad (nsOf rs) = szs hp ad (nsOf rs) ∧ ∀ m z, Occ rs t S m z → F m z
section
variable {rs : Rules} {ad : Str → Addr} {fw : Addr}
theorem szs_ext {hp hp' : Hp} {F} (X : Ext No hp hp') (M : Fam hp fw (nsOf rs) ad F) : szs hp' ad (nsOf rs) = szs hp ad (nsOf rs) := szs_eq fun y hy => dsz_ext X (M.each y hy).live
/-- nothing is done -/
theorem FR.same {t : T} {hp hp' : Hp} {F af S} (X : Ext No hp hp') (M : Fam hp fw (nsOf rs) ad F) (h : ∀ B m z, ¬ Occ rs t B m z) : FR rs ad fw t hp hp' F F af S false :=
  ⟨X.no, M.ext X id fun _ _ => id, fun _ _ h => h, fun X B h1 _ _ _ => h1, Nat.le_of_eq (szs_ext X M).symm, (fun e => by cases e), fun _ => ⟨rfl, szs_ext X M, fun m z o => (h S m z o).elim⟩⟩
theorem FR.after {t : T} {hp hp' : Hp} {F F' af S b} (R : FR rs ad fw t hp hp' F F' af S b) {af' : Addr} {S' : Str → Prop} (M : Fam hp fw (nsOf rs) ad F) (hA : DS hp af' S') :
    ∃ S1, DS hp' af' S1 ∧ (∀ z, S' z → S1 z) ∧ ∀ (X : Str → Str → Prop) (B : Str → Prop), (∀ y z, F' y z → X y z) → (∀ z, S' z → B z) → (∀ y ∈ nsOf rs, af' = ad y → ∀ z, X y z → B z) → ∀ z, S1 z → B z := by
  by_cases h : ∃ y ∈ nsOf rs, af' = ad y
  · obtain ⟨y, hy, rfl⟩ := h
    exact ⟨F' y, R.fam.each y hy, fun z hz => R.grow y z ((hA.uniq (M.each y hy) z).mp hz), fun X B h1 h2 h3 z hz => h3 y hy rfl z (h1 y z hz)⟩
  · exact ⟨S', hA.ext R.ext h, fun _ h => h, fun X B h1 h2 h3 => h2⟩
theorem FR.pre {t : T} {hp hp₀ hp' : Hp} {F F' af S b} (X : Ext No hp hp₀) (M : Fam hp fw (nsOf rs) ad F) (R : FR rs ad fw t hp₀ hp' F F' af S b) : FR rs ad fw t hp hp' F F' af S b := by
  have e := szs_ext X M
  exact ⟨X.no.trans R.ext, R.fam, R.grow, R.sound, by rw [← e]; exact R.le, by rw [← e]; exact R.lt, by rw [← e]; exact R.eq⟩
/-- one piece, then another -/
theorem FR.two {t a c : T} {hp hp₁ hp₂ : Hp} {F F₁ F₂ : Str → Str → Prop} {af af₁ : Addr} {S S₁ Sa : Str → Prop} {b₁ b₂ : Bool} (R₁ : FR rs ad fw a hp hp₁ F F₁ af₁ Sa b₁) (R₂ : FR rs ad fw c hp₁ hp₂ F₁ F₂ af S₁ b₂) (hS : ∀ z, S z → S₁ z)
    (hB : ∀ (X : Str → Str → Prop) (B : Str → Prop), (∀ y z, F₁ y z → X y z) → (∀ z, S z → B z) → (∀ y ∈ nsOf rs, af = ad y → ∀ z, X y z → B z) → ∀ z, S₁ z → B z)
    (h1 : ∀ (X : Str → Str → Prop) (B : Str → Prop), (∀ z, S z → B z) → (∀ y ∈ nsOf rs, af = ad y → ∀ z, X y z → B z) → (∀ m z, Occ rs t B m z → X m z) → ∃ B₁ : Str → Prop, (∀ z, Sa z → B₁ z) ∧ (∀ y ∈ nsOf rs, af₁ = ad y → ∀ z, X y z → B₁ z) ∧ (∀ m z, Occ rs a B₁ m z → X m z))
    (h2 : ∀ B m z, Occ rs c B m z → Occ rs t B m z) (h3 : ∀ m z, Occ rs t S m z → Occ rs a Sa m z ∨ Occ rs c S m z) : FR rs ad fw t hp hp₂ F F₂ af S (b₁ || b₂) where
  ext := R₁.ext.trans R₂.ext
  fam := R₂.fam
  grow := fun y z h => R₂.grow y z (R₁.grow y z h)
  sound := fun X B x1 x2 x3 x4 => by
    obtain ⟨B₁, y1, y2, y3⟩ := h1 X B x2 x3 x4
    have z1 := R₁.sound X B₁ x1 y1 y2 y3
    exact R₂.sound X B z1 (hB X B z1 x2 x3) x3 fun m z o => x4 m z (h2 B m z o)
  le := Nat.le_trans R₁.le R₂.le
  lt := fun e => by
    rcases Bool.or_eq_true_iff.mp e with e | e
    · exact Nat.lt_of_lt_of_le (R₁.lt e) R₂.le
    · exact Nat.lt_of_le_of_lt R₁.le (R₂.lt e)
  eq := fun e => by
    rw [Bool.or_eq_false_iff] at e
    obtain ⟨p1, p2, p3⟩ := R₁.eq e.1
    obtain ⟨q1, q2, q3⟩ := R₂.eq e.2
    subst p1
    exact ⟨q1, q2.trans p2, fun m z o => (h3 m z o).elim (p3 m z) fun o => q3 m z (Occ_mono c hS m z o)⟩
/-- the same under another name of the tree -/
theorem FR.as {t a : T} {hp hp' : Hp} {F F' af af' S Sa b} (R : FR rs ad fw a hp hp' F F' af' Sa b)
    (h1 : ∀ (X : Str → Str → Prop) (B : Str → Prop), (∀ z, S z → B z) → (∀ y ∈ nsOf rs, af = ad y → ∀ z, X y z → B z) → (∀ m z, Occ rs t B m z → X m z) → ∃ B₁ : Str → Prop, (∀ z, Sa z → B₁ z) ∧ (∀ y ∈ nsOf rs, af' = ad y → ∀ z, X y z → B₁ z) ∧ (∀ m z, Occ rs a B₁ m z → X m z))
    (h3 : ∀ m z, Occ rs t S m z → Occ rs a Sa m z) : FR rs ad fw t hp hp' F F' af S b where
  ext := R.ext
  fam := R.fam
  grow := R.grow
  sound := fun X B x1 x2 x3 x4 => by
    obtain ⟨B₁, y1, y2, y3⟩ := h1 X B x2 x3 x4
    exact R.sound X B₁ x1 y1 y2 y3
  le := R.le
  lt := R.lt
  eq := fun e => let ⟨p1, p2, p3⟩ := R.eq e; ⟨p1, p2, fun m z o => p3 m z (h3 m z o)⟩

variable {g : Gl} {tb em fd : Addr} {E : Str → Bool} {ad' : Str → Addr} {Fs : Str → Str → Prop} {gr : Addr} {st : Str} {od : Addr} {extra : List (Str × V)} {hB : Hp}
theorem c_add_follows (G : GX hB rs gr st od tb em fd extra E ad' Fs) (hnew : ∀ y ∈ nsOf rs, hB (ad y) = none) : ∀ (t : T) (n : Nat) (hp : Hp) (v : V) (af : Addr) (S : Str → Prop) (F : Str → Str → Prop) (Q : V → Hp → Prop), ht t + 4 ≤ n → Wf t → IsT hp t v → Ext No hB hp → Fam hp fw (nsOf rs) ad F → DS hp af S →
    (∀ b hp' F', FR rs ad fw t hp hp' F F' af S b → Q (.bool b) hp') → callD g n .add_follows [.ref gr, v, .ref af, .ref fw] hp Q := by
  have hMb : ∀ x, Mf rs ad x → hB x = none := fun x ⟨y, hy, e⟩ => e ▸ hnew y hy
  intro t
  induction t with
  | text x =>
    intro n hp v af S F Q hn hw hT X M hA h
    obtain ⟨m, rfl⟩ : ∃ m, n = m + 1 := ⟨n - 1, by lia⟩
    obtain ⟨d, rfl, hd⟩ := hT
    refine u_add_follows ?_
    unfold b_add_follows
    walk_at "ab"
    exact h false hp F (FR.same (Ext.refl _) M fun B m z o => o)
  | name x =>
    intro n hp v af S F Q hn hw hT X M hA h
    obtain ⟨m, rfl⟩ : ∃ m, n = m + 2 := ⟨n - 2, by lia⟩
    obtain ⟨d, rfl, hd⟩ := hT
    obtain ⟨epf, hfw⟩ := M.at_
    refine u_add_follows ?_
    unfold b_add_follows
    walk_at "ab"
    refine r_inD hfw ?_
    rw [famE_some]
    by_cases hx : x ∈ nsOf rs
    · rw [show (nsOf rs).contains x = true by simpa using hx]
      walk_at "ab"
      refine r_subD hfw (famE_lookup hx) ?_
      walk_at "ab"
      refine c_merge (M.each x hx) hA fun b hp2 a1 a2 a3 a4 a5 => ?_
      obtain ⟨t', ht'⟩ := lookup_ns.mp hx
      have hoth : ∀ y ∈ nsOf rs, y ≠ x → hp2 (ad y) = hp (ad y) := fun y hy hyx => a1 _ fun e => hyx (M.inj y hy x hx e)
      have hszle : ∀ y ∈ nsOf rs, dsz hp (ad y) ≤ dsz hp2 (ad y) := fun y hy => by
        by_cases e : y = x
        · rw [e]; exact a3
        · unfold dsz; rw [hoth y hy e]; exact Nat.le_refl _
      have hext : Ext (Mf rs ad) hp hp2 := by
        refine ⟨fun y o e hn => (a1 y fun q => hn ⟨x, hx, q⟩).trans e, fun y vs e => (a1 y fun q => ?_).trans e, fun y hy => ?_⟩
        · have := (M.each x hx).notTup
          rw [← q, e] at this; cases this
        · by_cases q : y = ad x
          · rw [q]; exact a2.live
          · rw [a1 y q]; exact hy
      cases b with
      | false =>
        have e := a5 rfl
        subst e
        refine h false hp2 F ⟨Ext.refl _, M, fun _ _ h => h, fun X B h1 _ _ _ => h1, Nat.le_refl _, (fun e => by cases e), fun _ => ⟨rfl, rfl, ?_⟩⟩
        rintro m z ⟨rfl, _, hz⟩
        exact ((M.each m hx).uniq a2 z).mpr (.inr hz)
      | true =>
        have hlt : dsz hp (ad x) < dsz hp2 (ad x) := of_decide_eq_true a4.symm
        refine h true hp2 (fun y z => if y = x then F x z ∨ S z else F y z) ⟨hext, ⟨⟨epf, (a1 _ (Ne.symm (M.ne x hx))).trans hfw⟩, fun y hy => ?_, M.inj, M.ne⟩, fun y z hz => ?_, fun X B h1 h2 h3 h4 y z hz => ?_, szs_le hszle, fun _ => szs_lt hszle hx hlt, fun e => by cases e⟩
        · by_cases e : y = x
          · subst e; exact a2.congr fun z => by simp
          · exact ((M.each y hy).at (hoth y hy e)).congr fun z => by rw [if_neg e]
        · by_cases e : y = x
          · rw [if_pos e]; subst e; exact .inl hz
          · rw [if_neg e]; exact hz
        · by_cases e : y = x
          · rw [if_pos e] at hz; subst e
            exact hz.elim (h1 y z) fun hz => h4 y z ⟨rfl, ⟨t', ht'⟩, h2 z hz⟩
          · rw [if_neg e] at hz; exact h1 y z hz
    · rw [show (nsOf rs).contains x = false by simpa using hx]
      walk_at "ab"
      exact h false hp F (FR.same (Ext.refl _) M fun B m z o => hx (lookup_ns.mpr o.2.1))
  | eps =>
    intro n hp v af S F Q hn hw hT X M hA h
    simp only [ht] at hn
    obtain ⟨m, rfl⟩ : ∃ m, n = m + 2 := ⟨n - 2, by lia⟩
    have hT' := hT
    obtain ⟨d, e, rfl, hd, hee⟩ := hT
    refine u_add_follows ?_
    unfold b_add_follows
    walk_at "ab"
    refine c_parts_eps (by lia) hT' fun l hp0 hl X0 hl0 => ?_
    refine r_forL hl0 ?_
    walk_at "ab"
    exact h false hp0 F (FR.same X0 M fun B m z o => o)
  | opt a ih =>
    intro n hp v af S F Q hn hw hT X M hA h
    simp only [ht] at hn
    obtain ⟨m, rfl⟩ : ∃ m, n = m + 1 := ⟨n - 1, by lia⟩
    obtain ⟨d, va, rfl, hd, ha⟩ := hT
    refine u_add_follows ?_
    unfold b_add_follows
    walk_at "ab"
    refine ih m hp va af S F _ (by lia) hw ha X M hA fun b hp' F' R => h b hp' F' (R.as (fun X B x1 x2 x3 => ⟨B, x1, x2, x3⟩) fun m z o => o)
  | rep a ih =>
    intro n hp v af S F Q hn hw hT X M hA h
    simp only [ht] at hn
    obtain ⟨m, rfl⟩ : ∃ m, n = m + 1 := ⟨n - 1, by lia⟩
    have hT' := hT
    obtain ⟨d, va, rfl, hd, ha⟩ := hT
    refine u_add_follows ?_
    unfold b_add_follows
    walk_at "ab"
    refine ⟨r_isI (G.ob.ext X) (by decide +kernel), ?_⟩
    walk_at "ab"
    refine c_g_predict (G.ext X) (t := .rep a) (by simp only [ht]; lia) hw hT' hA fun d1 hp1 hd1 X1 D1 => ?_
    walk_at "ab"
    refine ih m hp1 va d1 (prd rs (.rep a) S) F _ (by lia) hw (ha.ext X1) (X.trans X1) (M.ext X1 id fun _ _ => id) D1 fun b hp' F' R => h b hp' F' ((FR.pre X1 M R).as (fun X B x1 x2 x3 => ⟨prd rs (.rep a) B, prd_mono x1, fun y hy e => ?_, x3⟩) fun m z o => o)
    exact absurd hd1 (e ▸ (M.each y hy).live)
  | alt a b iha ihb =>
    intro n hp v af S F Q hn hw hT X M hA h
    simp only [ht] at hn
    obtain ⟨m, rfl⟩ : ∃ m, n = m + 1 := ⟨n - 1, by lia⟩
    have hT' := hT
    obtain ⟨d, e, va, vb, rfl, hd, hee, ha, hb⟩ := hT
    refine u_add_follows ?_
    unfold b_add_follows
    walk_at "ab"
    refine c_parts_alt (by lia) hT' fun l va vb p1 p2 hp0 hl X0 hl0 hp1 hp2 ha hb => ?_
    have M0 := M.ext X0 id fun _ _ => id
    have hA0 := hA.ext X0 id
    refine r_forL hl0 ?_
    walk_at "ab"
    refine iha m hp0 va af S F _ (by lia) hw.1 (ha.ext X0) (X.trans X0) M0 hA0 fun b1 hq1 F1 R1 => ?_
    have hlm : ¬ Mf rs ad l := fun ⟨y, hy, e⟩ => (M.each y hy).live (e ▸ hl)
    have hl1 := R1.ext.keep l _ hl0 hlm
    have hp21 := R1.ext.tup _ _ hp2
    obtain ⟨S1, A1, s1, s2⟩ := R1.after M0 hA0
    have X1 : Ext No hB hq1 := (X.trans X0).base R1.ext hMb
    have comb : ∀ b2 hq2 F2, FR rs ad fw b hq1 hq2 F1 F2 af S1 b2 → FR rs ad fw (.alt a b) hp hq2 F F2 af S (b1 || b2) := fun b2 hq2 F2 R2 =>
      FR.pre X0 M (R1.two R2 s1 s2 (fun X B x1 x2 x3 => ⟨B, x1, x2, fun m z o => x3 m z (.inl o)⟩) (fun B m z o => .inr o) fun m z o => o)
    cases b1 with
    | false =>
      walk_at "ab"
      refine ihb m hq1 vb af S1 F1 _ (by lia) hw.2 ((hb.ext X0).ext R1.ext) X1 R1.fam A1 fun b2 hq2 F2 R2 => ?_
      have hl2 := R2.ext.keep l _ hl1 hlm
      cases b2 with
      | false => walk_at "ab"; exact h _ hq2 F2 (comb false hq2 F2 R2)
      | true => walk_at "ab"; exact h _ hq2 F2 (comb true hq2 F2 R2)
    | true =>
      walk_at "ab"
      refine ihb m hq1 vb af S1 F1 _ (by lia) hw.2 ((hb.ext X0).ext R1.ext) X1 R1.fam A1 fun b2 hq2 F2 R2 => ?_
      have hl2 := R2.ext.keep l _ hl1 hlm
      cases b2 with
      | false => walk_at "ab"; exact h _ hq2 F2 (comb false hq2 F2 R2)
      | true => walk_at "ab"; exact h _ hq2 F2 (comb true hq2 F2 R2)
  | seq a b iha ihb =>
    intro n hp v af S F Q hn hw hT X M hA h
    simp only [ht] at hn
    obtain ⟨m, rfl⟩ : ∃ m, n = m + 1 := ⟨n - 1, by lia⟩
    have hT' := hT
    obtain ⟨d, e, va, vb, rfl, hd, hee, ha, hb⟩ := hT
    refine u_add_follows ?_
    unfold b_add_follows
    walk_at "ab"
    refine c_parts_seq (by simp only [ht]; lia) hw (G.ext X) hT' hA fun l va vb p1 p2 d1 hp0 hl X0 hl0 hp1 hp2 hd1 D1 ha hb => ?_
    have M0 := M.ext X0 id fun _ _ => id
    have hA0 := hA.ext X0 id
    refine r_forL hl0 ?_
    walk_at "ab"
    refine iha m hp0 va d1 (prd rs b S) F _ (by lia) hw.1 (ha.ext X0) (X.trans X0) M0 D1 fun b1 hq1 F1 R1 => ?_
    have hlm : ¬ Mf rs ad l := fun ⟨y, hy, e⟩ => (M.each y hy).live (e ▸ hl)
    have hl1 := R1.ext.keep l _ hl0 hlm
    have hp21 := R1.ext.tup _ _ hp2
    obtain ⟨S1, A1, s1, s2⟩ := R1.after M0 hA0
    have X1 : Ext No hB hq1 := (X.trans X0).base R1.ext hMb
    have comb : ∀ b2 hq2 F2, FR rs ad fw b hq1 hq2 F1 F2 af S1 b2 → FR rs ad fw (.seq a b) hp hq2 F F2 af S (b1 || b2) := fun b2 hq2 F2 R2 =>
      FR.pre X0 M (R1.two R2 s1 s2 (fun X B x1 x2 x3 => ⟨prd rs b B, prd_mono x1, fun y hy e => absurd hd1 (e ▸ (M.each y hy).live), fun m z o => x3 m z (.inl o)⟩) (fun B m z o => .inr o) fun m z o => o)
    cases b1 with
    | false =>
      walk_at "ab"
      refine ihb m hq1 vb af S1 F1 _ (by lia) hw.2 ((hb.ext X0).ext R1.ext) X1 R1.fam A1 fun b2 hq2 F2 R2 => ?_
      have hl2 := R2.ext.keep l _ hl1 hlm
      cases b2 with
      | false => walk_at "ab"; exact h _ hq2 F2 (comb false hq2 F2 R2)
      | true => walk_at "ab"; exact h _ hq2 F2 (comb true hq2 F2 R2)
    | true =>
      walk_at "ab"
      refine ihb m hq1 vb af S1 F1 _ (by lia) hw.2 ((hb.ext X0).ext R1.ext) X1 R1.fam A1 fun b2 hq2 F2 R2 => ?_
      have hl2 := R2.ext.keep l _ hl1 hlm
      cases b2 with
      | false => walk_at "ab"; exact h _ hq2 F2 (comb false hq2 F2 R2)
      | true => walk_at "ab"; exact h _ hq2 F2 (comb true hq2 F2 R2)
end
end
section
section
variable {rs : Rules} {g : Gl} {tb em fd : Addr} {E : Str → Bool} {ad' : Str → Addr} {Fs : Str → Str → Prop} {gr : Addr} {st : Str} {od : Addr} {extra : List (Str × V)}
/-! ## follow_rows -/
theorem fw_loop {n : Nat} (hn : 11 ≤ n) (ok : RsOk rs) {hp₀ : Hp} {D : Addr} {ad : Str → Addr} (G : GX hp₀ rs gr st od tb em fd extra E ad' Fs) (hT : TabT hp₀ tb rs) (hO : OrdL hp₀ od rs)
    (hnew : ∀ x ∈ nsOf rs, hp₀ (ad x) = none) (F0 : Str → Str → Prop) (sz0 : Nat) {N : Loc → Hp → Prop} {R : V → Hp → Prop} :
    ∀ (l : List Str) (hp : Hp) (F : Str → Str → Prop) (b : Bool) (o : Option V), (∀ x ∈ l, x ∈ nsOf rs) → Ext No hp₀ hp → Fam hp D (nsOf rs) ad F → (∀ x y, F x y → Fol rs st x y) → sz0 ≤ szs hp ad (nsOf rs) → (b = true → sz0 < szs hp ad (nsOf rs)) → (b = false → F = F0 ∧ szs hp ad (nsOf rs) = sz0) →
      (∀ hp' F' b' o', Ext No hp₀ hp' → Fam hp' D (nsOf rs) ad F' → (∀ x y, F' x y → Fol rs st x y) → (∀ x y, F x y → F' x y) → szs hp ad (nsOf rs) ≤ szs hp' ad (nsOf rs) → (b' = true → sz0 < szs hp' ad (nsOf rs)) → (b' = false → F' = F0 ∧ szs hp' ad (nsOf rs) = sz0 ∧ ∀ x ∈ l, ∀ t, rs.lookup x = some t → ∀ m z, Occ rs t (F0 x) m z → F0 m z) → N [some (.ref gr), some (.ref D), o', some (.bool b')] hp') →
      forL (tName 2) (sSeq (t_follow_rows_3 (callD g n))) (fun h => h od = some (.list ((nsOf rs).map V.str))) (l.map V.str) [some (.ref gr), some (.ref D), o, some (.bool b)] hp N R
  | [], hp, F, b, o, hl, X, M, hs, h0, h1, h2, q => by
    refine f_nil (X.get hO) (q hp F b o X M hs (fun _ _ h => h) (Nat.le_refl _) h1 fun e => ⟨(h2 e).1, (h2 e).2, fun x hx => by cases hx⟩)
  | x :: l, hp, F, b, o, hl, X, M, hs, h0, h1, h2, q => by
    have ih := fw_loop (D := D) hn ok G hT hO hnew F0 sz0 (N := N) (R := R) l
    have hxn := hl x (.head _)
    obtain ⟨t, hxt⟩ := lookup_ns.mp hxn
    obtain ⟨hwf, hht⟩ := ok.wf x t hxt
    obtain ⟨ept, est, htb, hK, hv⟩ := (hT.ext X).ex
    obtain ⟨v, hv1, hv2⟩ := hv x t hxt
    obtain ⟨epd, hd⟩ := M.at_
    obtain ⟨hx1, gd, epg, hg1, hg2⟩ := G.ob.ext X
    refine f_cons (X.get hO) ?_
    walk_at "ab"
    refine r_attr hg1 hg2 at_table ?_
    walk_at "ab"
    refine r_subD htb hv1 ?_
    walk_at "ab"
    refine r_subD hd (famE_lookup hxn) ?_
    walk_at "ab"
    refine c_add_follows G hnew t n hp v (ad x) (F x) F _ (by lia) hwf hv2 X M (M.each x hxn) fun b1 hp2 F2 R => ?_
    have X2 : Ext No hp₀ hp2 := X.base R.ext fun y ⟨z, hz, e⟩ => e ▸ hnew z hz
    cases b1 with
    | false =>
      obtain ⟨e1, e2, e3⟩ := R.eq rfl
      subst e1
      walk_at "ab"
      refine ih hp2 F2 b _ (fun y hy => hl y (.tail _ hy)) X2 R.fam hs (by lia) (fun e => by rw [e2]; exact h1 e) (fun e => ⟨(h2 e).1, by rw [e2]; exact (h2 e).2⟩) fun hp' F' b' o' c1 c2 c3 c7 c4 c5 c6 => q hp' F' b' o' c1 c2 c3 c7 (by lia) c5 fun e => ⟨(c6 e).1, (c6 e).2.1, fun y hy => ?_⟩
      rcases List.mem_cons.mp hy with rfl | hy
      · intro t' ht' m z hz
        rw [hxt] at ht'; cases ht'
        have hb : b = false := by
          cases b with
          | false => rfl
          | true => have := h1 rfl; have := (c6 e).2.1; lia
        rw [← (h2 hb).1] at hz ⊢
        exact e3 m z hz
      · exact (c6 e).2.2 y hy
    | true =>
      have hlt := R.lt rfl
      walk_at "ab"
      refine ih hp2 F2 true _ (fun y hy => hl y (.tail _ hy)) X2 R.fam (R.sound (Fol rs st) (Fol rs st x) hs (hs x) (fun y hy e z hz => ?_) fun m z o => (Fol.closed rs st).step x t hxt m z o) (by lia) (fun _ => by lia) (fun e => by cases e) fun hp' F' b' o' c1 c2 c3 c7 c4 c5 c6 => q hp' F' b' o' c1 c2 c3 (fun y z hz => c7 y z (R.grow y z hz)) (by lia) c5 fun e => by
        exfalso
        have := (c6 e).2.1
        lia
      rw [M.inj x hxn y hy e]; exact hz
theorem c_follow_rows {n : Nat} (hn : 12 ≤ n) (ok : RsOk rs) {hp : Hp} {Q : V → Hp → Prop} (G : GX hp rs gr st od tb em fd extra E ad' Fs) (hT : TabT hp tb rs) (hO : OrdL hp od rs)
    (h : ∀ D hp' ad, hp D = none → Ext No hp hp' → Fam hp' D (nsOf rs) ad (Fol rs st) → Q (.ref D) hp') : callD g n .follow_rows [.ref gr] hp Q := by
  obtain ⟨m, rfl⟩ : ∃ m, n = m + 1 := ⟨n - 1, by lia⟩
  obtain ⟨hx1, gd, epg, hg1, hg2⟩ := G.ob
  refine u_follow_rows ?_
  unfold b_follow_rows
  walk_at "ab"
  intro D hD
  have X0 : Ext No hp (hp.set D (.dict 0 [])) := Ext.alloc hD
  walk_at "ab"
  refine r_attr (X0.get hg1) (X0.get hg2) at_order ?_
  refine r_forL (X0.get hO) ?_
  refine mk_loop hD hO (fun o => [some (.ref gr), some (.ref D), o, none]) (fun _ _ => rfl) (fun _ => rfl) (fun _ => rfl) (nsOf rs) [] _ (fun _ => 0) none (by simpa using ok.nd) (by simpa using ok.len) ⟨⟨0, Hp.set_same ..⟩, (fun x hx => by cases hx), (fun x hx => by cases hx), (fun x hx => by cases hx), (fun x hx => by cases hx), X0⟩ fun hp1 ad o1 M => ?_
  rw [List.nil_append] at M
  obtain ⟨epD, hDd⟩ := M.at_
  -- behind the test of the start
  have main : ∀ hp2, Ext No hp hp2 → Fam hp2 D (nsOf rs) ad (fun y z => y = st ∧ st ∈ nsOf rs ∧ z = "eof") → sSeq (t_follow_rows_8 (callD g m)) [some (.ref gr), some (.ref D), o1, none] hp2 (fun _ hp' => Q .none hp') Q := by
    intro hp2 X2 MF
    walk_at "ab"
    refine i_while (fun k ρ hp' => ∃ b o F, ρ = [some (.ref gr), some (.ref D), o, some (.bool b)] ∧ Ext No hp hp' ∧ Fam hp' D (nsOf rs) ad F ∧ (∀ x y, F x y → Fol rs st x y) ∧ (st ∈ nsOf rs → F st "eof") ∧
      (b = false → ∀ x t, rs.lookup x = some t → ∀ m z, Occ rs t (F x) m z → F m z) ∧ k = b.toNat + 2 * (100 - szs hp' ad (nsOf rs))) _ ⟨true, o1, _, rfl, X2, MF, fun x y h => ?_, fun hs => ⟨rfl, hs, rfl⟩, (fun e => by cases e), rfl⟩ ?_
    · obtain ⟨rfl, h2, rfl⟩ := h
      exact (Fol.closed rs _).start (lookup_ns.mp h2)
    rintro k ρ hp' ⟨b, o, F, rfl, X, MF, hs, hst, hcl, rfl⟩
    walk_at "ab"
    cases b with
    | false =>
      walk_at "ab"
      have key : ∀ x y, Fol rs st x y → (x ∈ nsOf rs → F x y) := fun x y hf => hf (fun x y => x ∈ nsOf rs → F x y) ⟨fun ⟨t, e⟩ _ => hst (lookup_ns.mpr ⟨t, e⟩), fun x t e m z o _ => hcl rfl x t e m z (Occ_mono t (fun y hy => hy (lookup_ns.mpr ⟨t, e⟩)) m z o)⟩
      exact h D hp' ad hD X ⟨MF.at_, fun x hx => (MF.each x hx).congr fun y => ⟨hs x y, fun hf => key x y hf hx⟩, MF.inj, MF.ne⟩
    | true =>
      walk_at "ab"
      refine r_attr (X.get hg1) (X.get hg2) at_order ?_
      refine r_forL (X.get hO) ?_
      refine fw_loop (by lia) ok G hT hO M.new F (szs hp' ad (nsOf rs)) (nsOf rs) hp' F false _ (fun _ h => h) X MF hs (Nat.le_refl _) (fun e => by cases e) (fun _ => ⟨rfl, rfl⟩) fun hp3 F' b' o' c1 c2 c3 c7 c4 c5 c6 => ?_
      walk_at "ab"
      refine ⟨_, ?_, b', o', F', rfl, c1, c2, c3, fun e => c7 _ _ (hst e), fun e x t hxt m z hz => ?_, rfl⟩
      · have hb : szs hp3 ad (nsOf rs) ≤ 9 * (nsOf rs).length := szs_bound fun x hx => (c2.each x hx).sz
        have hl : (nsOf rs).length ≤ 9 := by have := ok.len; simpa using this
        cases b' with
        | true => have := c5 rfl; show 1 + _ < 1 + _; lia
        | false => rw [(c6 rfl).2.1]; show 0 + _ < 1 + _; lia
      · obtain ⟨e1, e2, e3⟩ := c6 e
        subst e1
        exact e3 x (lookup_ns.mpr ⟨t, hxt⟩) t hxt m z hz
  walk_at "ab"
  refine r_attr (M.ext.get hg1) (M.ext.get hg2) at_start ?_
  walk_at "ab"
  refine r_inD hDd ?_
  rw [famE_some]
  by_cases hs : st ∈ nsOf rs
  · rw [show (nsOf rs).contains st = true by simpa using hs]
    walk_at "ab"
    refine r_attr (M.ext.get hg1) (M.ext.get hg2) at_start ?_
    refine r_subD hDd (famE_lookup hs) ?_
    walk_at "ab"
    obtain ⟨eps, hps⟩ := M.each st hs
    refine r_storeD hps (by simp) ?_
    rw [show putV [] (("eof" : Str)) (.bool true) = kt ["eof"] from rfl]
    refine i_nil (main _ (M.ext.own (M.new st hs)) ⟨⟨epD, by rw [Hp.set_ne _ _ (Ne.symm (M.ne st hs))]; exact hDd⟩, fun y hy => ?_, M.inj, M.ne⟩)
    by_cases e : y = st
    · subst e
      exact ⟨["eof"], _, Hp.set_same .., by simp, (fun x hx => by rw [List.mem_singleton] at hx; subst hx; decide +kernel), fun x => by simp [hs]⟩
    · obtain ⟨epy, hpy⟩ := M.each y hy
      exact (DS.nil (hp := Hp.set _ _ _) (D := ad y) (ep := epy) (by rw [Hp.set_ne _ _ fun q => e (M.inj y hy st hs q)]; exact hpy)).congr fun z => by simp [e]
  · rw [show (nsOf rs).contains st = false by simpa using hs]
    refine if_f (i_nil (main _ M.ext ⟨M.at_, fun y hy => ?_, M.inj, M.ne⟩))
    obtain ⟨epy, hpy⟩ := M.each y hy
    exact (DS.nil hpy).congr fun z => by simp [hs]
end
end
section
/-! ## the making of a grammar -/
theorem r_setA {name : Str} {x d ep : Nat} {es : List (Str × V)} {hp : Hp} {v : V} {Q : Hp → Prop} (hx : hp x = some (.inst d)) (hd : hp d = some (.dict ep es)) (hl : es.length ≤ 1000) (h : ∀ ep', Q (hp.set d (.dict ep' (putV es name v)))) : opSetA name (.ref x) v hp Q := by
  unfold opSetA; simp only [hx, hd]; exact ⟨hl, h⟩
theorem r_setA2 {name : Str} {x d ep : Nat} {es : List (Str × V)} {hp : Hp} {v : V} {Q : Hp → Prop} (hx : hp x = some (.inst d)) (hd : hp d = some (.dict ep es)) (hl : es.length ≤ 1000) (hk : hasK es name = false) (h : ∀ ep', Q (hp.set d (.dict ep' (es ++ [(name, v)])))) : opSetA name (.ref x) v hp Q :=
  r_setA hx hd hl fun ep' => by unfold putV; rw [hk]; exact h ep'
theorem hasK_cons {k k' : Str} {v : V} {l : List (Str × V)} (h : (k' == k) = false) (t : hasK l k = false) : hasK ((k', v) :: l) k = false := by
  show ((k' == k) || hasK l k) = false
  rw [h, t]; rfl
theorem hasK_nil {k : Str} : hasK [] k = false := rfl
theorem putV_new {k : Str} {v : V} {l : List (Str × V)} (h : hasK l k = false) : putV l k v = l ++ [(k, v)] := by unfold putV; rw [h]; rfl
noncomputable def RowsA (hp : Hp) : List V → Rules → Prop
  | [], [] => True
  | v :: vs, r :: rs => (∃ p tv, v = .ref p ∧ hp p = some (.tup [.str r.1, tv]) ∧ IsT hp r.2 tv) ∧ RowsA hp vs rs
  | _, _ => False
theorem RowsA.ext {M} {hp hp' : Hp} (X : Ext M hp hp') : ∀ {vs rs}, RowsA hp vs rs → RowsA hp' vs rs
  | [], [], _ => trivial
  | v :: vs, r :: rs, ⟨⟨p, tv, a, b, c⟩, t⟩ => ⟨⟨p, tv, a, X.tup _ _ b, c.ext X⟩, RowsA.ext X t⟩
  | [], _ :: _, h => h.elim
  | _ :: _, [], h => h.elim
theorem RowsA.len {hp : Hp} : ∀ {vs rs}, RowsA hp vs rs → vs.length = rs.length
  | [], [], _ => rfl
  | v :: vs, r :: rs, h => by simp [RowsA.len h.2]
  | [], _ :: _, h => h.elim
  | _ :: _, [], h => h.elim
noncomputable def TbA (hp : Hp) : List (Str × V) → Rules → Prop
  | [], [] => True
  | p :: es, r :: rs => (p.1 = r.1 ∧ IsT hp r.2 p.2) ∧ TbA hp es rs
  | _, _ => False
theorem TbA.ext {M} {hp hp' : Hp} (X : Ext M hp hp') : ∀ {es rs}, TbA hp es rs → TbA hp' es rs
  | [], [], _ => trivial
  | v :: vs, r :: rs, ⟨⟨a, c⟩, t⟩ => ⟨⟨a, c.ext X⟩, TbA.ext X t⟩
  | [], _ :: _, h => h.elim
  | _ :: _, [], h => h.elim
theorem TbA.names {hp : Hp} : ∀ {es rs}, TbA hp es rs → es.map (·.1) = nsOf rs
  | [], [], _ => rfl
  | v :: vs, r :: rs, h => by simp [TbA.names h.2, h.1.1, nsOf]
  | [], _ :: _, h => h.elim
  | _ :: _, [], h => h.elim
theorem TbA.snoc {hp : Hp} : ∀ {es rs} {k v t}, TbA hp es rs → IsT hp t v → TbA hp (es ++ [(k, v)]) (rs ++ [(k, t)])
  | [], [], _, _, _, _, hT => ⟨⟨rfl, hT⟩, trivial⟩
  | v :: vs, r :: rs, _, _, _, h, hT => ⟨h.1, TbA.snoc h.2 hT⟩
  | [], _ :: _, _, _, _, h, _ => h.elim
  | _ :: _, [], _, _, _, h, _ => h.elim
theorem TbA.keys {hp : Hp} : ∀ {es rs}, TbA hp es rs → ∀ x, (es.lookup x).isSome = (rs.lookup x).isSome
  | [], [], _, x => rfl
  | (k, v) :: vs, (k', t) :: rs, h, x => by
    obtain ⟨⟨rfl, h1⟩, h2⟩ := h
    rw [List.lookup_cons, List.lookup_cons]
    cases x == k with
    | true => rfl
    | false => exact TbA.keys h2 x
  | [], _ :: _, h, _ => h.elim
  | _ :: _, [], h, _ => h.elim
theorem TbA.get {hp : Hp} : ∀ {es rs}, TbA hp es rs → ∀ x t, rs.lookup x = some t → ∃ v, es.lookup x = some v ∧ IsT hp t v
  | [], [], _, x, t, e => by cases e
  | (k, v) :: vs, (k', t') :: rs, h, x, t, e => by
    obtain ⟨⟨rfl, h1⟩, h2⟩ := h
    rw [List.lookup_cons] at e
    rw [List.lookup_cons]
    cases q : x == k with
    | true => rw [q] at e; cases e; exact ⟨v, rfl, h1⟩
    | false => rw [q] at e; exact TbA.get h2 x t e
  | [], _ :: _, h, _, _, _ => h.elim
  | _ :: _, [], h, _, _, _ => h.elim
theorem TabT.of {hp : Hp} {tb ep es rs} (h : hp tb = some (.dict ep es)) (t : TbA hp es rs) : TabT hp tb rs := ⟨ep, es, h, ⟨t.keys⟩, t.get⟩
theorem hasK_ns {hp : Hp} {es rs} (h : TbA hp es rs) (x : Str) : hasK es x = (nsOf rs).contains x := by
  rw [← h.names]
  unfold hasK
  induction es generalizing rs with
  | nil => rfl
  | cons p es ih =>
    cases rs with
    | nil => exact h.elim
    | cons r rs =>
      rw [List.any_cons, ih h.2, List.map_cons, List.contains_cons]
      congr 1
      by_cases e : p.1 = x
      · rw [e]
      · rw [beq_false_of_ne e, beq_false_of_ne (Ne.symm e)]
theorem TabT.extM {M : Addr → Prop} {hp hp' : Hp} {tb rs} (X : Ext M hp hp') (n : ¬ M tb) (h : TabT hp tb rs) : TabT hp' tb rs :=
  let ⟨ep, es, a, b, c⟩ := h.ex; ⟨ep, es, X.keep _ _ a n, b, fun x t e => let ⟨v, p, q⟩ := c x t e; ⟨v, p, q.ext X⟩⟩

section
variable {g : Gl}
theorem init_loop {gr gd o tb rl : Addr} {attr : List (Str × V)} {epg : Nat} {vs₀ : List V} {st : V} (hat : attr.lookup ("table" : Str) = some (.ref tb)) (hao : attr.lookup ("order" : Str) = some (.ref o))
    (hot : o ≠ tb) (hog : o ≠ gd) (hor : o ≠ gr) (hol : o ≠ rl) (htg : tb ≠ gd) (htr : tb ≠ gr) (htl : tb ≠ rl) {N : Loc → Hp → Prop} {R : V → Hp → Prop} :
    ∀ (vs : List V) (l pre : Rules) (hp : Hp) (es : List (Str × V)) (ep : Nat) (a b : Option V), (nsOf (pre ++ l)).Nodup → (pre ++ l).length ≤ 9 → RowsA hp vs l → hp gr = some (.inst gd) → hp gd = some (.dict epg attr) → hp rl = some (.list vs₀) → hp o = some (.list ((nsOf pre).map V.str)) → hp tb = some (.dict ep es) → TbA hp es pre →
      (∀ hp' es' ep' a' b', Ext (fun x => x = o ∨ x = tb) hp hp' → hp' gr = some (.inst gd) → hp' gd = some (.dict epg attr) → hp' o = some (.list ((nsOf (pre ++ l)).map V.str)) → hp' tb = some (.dict ep' es') → TbA hp' es' (pre ++ l) → N [some (.ref gr), some (.ref rl), some st, a', b'] hp') →
      forL (tTup [3, 4]) (sSeq t_g_init_3) (fun h => h rl = some (.list vs₀)) vs [some (.ref gr), some (.ref rl), some st, a, b] hp N R
  | [], [], pre, hp, es, ep, a, b, hnd, hlen, hr, h1, h2, h3, h4, h5, h6, q => by
    refine f_nil h3 (q hp es ep a b (Ext.refl _) h1 h2 ?_ h5 ?_)
    · rw [List.append_nil]; exact h4
    · rw [List.append_nil]; exact h6
  | v :: vs, (x, t) :: l, pre, hp, es, ep, a, b, hnd, hlen, hr, h1, h2, h3, h4, h5, h6, q => by
    obtain ⟨⟨p, tv, rfl, hp1, hp2⟩, hr2⟩ := hr
    have hx : x ∉ nsOf pre := fun h => by
      unfold nsOf at hnd
      rw [List.map_append, List.nodup_append] at hnd
      exact hnd.2.2 x h x (.head _) rfl
    have hes : es.length ≤ 9 := by
      have e := congrArg List.length h6.names
      rw [List.length_map, List.length_map] at e
      rw [List.length_append] at hlen
      lia
    have hpl : ((nsOf pre).map V.str).length ≤ 9 := by
      rw [List.length_append] at hlen
      rw [List.length_map, List.length_map]; lia
    refine f_cons h3 ?_
    walk_at "ab"
    refine r_attr h1 h2 hat ?_
    refine r_ninD h5 ?_
    rw [h6.keys]
    rw [show (pre.lookup x).isSome = false from by
      cases e : pre.lookup x with
      | none => rfl
      | some t => exact absurd (lookup_ns.mpr ⟨t, e⟩) hx]
    walk_at "ab"
    refine r_attr h1 h2 hao ?_
    refine ⟨r_isL h4, ?_⟩
    walk_at "ab"
    refine r_app h4 (by lia) ?_
    have g1 : (hp.set o (.list ((nsOf pre).map V.str ++ [.str x]))) gr = some (.inst gd) := by rw [Hp.set_ne _ _ (Ne.symm hor)]; exact h1
    have g2 : (hp.set o (.list ((nsOf pre).map V.str ++ [.str x]))) gd = some (.dict epg attr) := by rw [Hp.set_ne _ _ (Ne.symm hog)]; exact h2
    have g3 : (hp.set o (.list ((nsOf pre).map V.str ++ [.str x]))) tb = some (.dict ep es) := by rw [Hp.set_ne _ _ (Ne.symm hot)]; exact h5
    walk_at "ab"
    refine r_attr g1 g2 hat ?_
    walk_at "ab"
    refine r_storeD g3 (by lia) ?_
    rw [hasK_ns h6, putV_new (by rw [hasK_ns h6]; simpa using hx), show (nsOf pre).contains x = false by simpa using hx]
    walk_at "ab"
    have X1 : Ext (fun x => x = o ∨ x = tb) hp ((hp.set o (.list ((nsOf pre).map V.str ++ [.str x]))).set tb (.dict (if false = true then ep else ep + 1) (es ++ [(x, tv)]))) :=
      (Ext.upd (M := fun x => x = o ∨ x = tb) (.inl rfl) (by rw [h4]; rfl)).trans (Ext.upd (.inr rfl) (by rw [g3]; rfl))
    refine init_loop hat hao hot hog hor hol htg htr htl vs l (pre ++ [(x, t)]) _ _ _ _ _ (by rwa [List.append_assoc]) (by rwa [List.append_assoc]) (hr2.ext X1) (by rw [Hp.set_ne _ _ (Ne.symm htr)]; exact g1) (by rw [Hp.set_ne _ _ (Ne.symm htg)]; exact g2) (by rw [Hp.set_ne _ _ (Ne.symm htl), Hp.set_ne _ _ (Ne.symm hol)]; exact h3)
      (by rw [Hp.set_ne _ _ hot, Hp.set_same]; simp [nsOf]) (Hp.set_same ..) ((h6.ext X1).snoc (hp2.ext X1)) fun hp' es' ep' a' b' c1 c2 c3 c4 c5 c6 => ?_
    rw [List.append_assoc] at c4 c6
    exact q hp' es' ep' a' b' (X1.trans c1) c2 c3 c4 c5 c6
  | [], _ :: _, _, _, _, _, _, _, _, _, hr, _, _, _, _, _, _, _ => hr.elim
  | _ :: _, [], _, _, _, _, _, _, _, _, hr, _, _, _, _, _, _, _ => hr.elim

theorem c_g_new {n : Nat} (hn : 14 ≤ n) {rs : Rules} (ok : RsOk rs) {hp : Hp} {Q : V → Hp → Prop} {rl : Addr} {vs : List V} {st : Str} (hl : hp rl = some (.list vs)) (hr : RowsA hp vs rs)
    (h : ∀ x hp' o tb em fd fw E ad F adw, hp x = none → Ext No hp hp' → GX hp' rs x st o tb em fd [(("follows" : Str), V.ref fw)] E ad F → (∃ ep ks, hp' em = some (.dict ep (kt ks)) ∧ ∀ y, ks.contains y = true ↔ Nul rs (.name y)) → TabT hp' tb rs → OrdL hp' o rs → Fam hp' fw (nsOf rs) adw (Fol rs st) → Q (.ref x) hp') :
    callD g n .g_new [.ref rl, .str st] hp Q := by
  obtain ⟨m, rfl⟩ : ∃ m, n = m + 2 := ⟨n - 2, by lia⟩
  intro gr gd hgr0 hgd0 hne
  have Xa : Ext No hp ((hp.set gd (.dict 0 [])).set gr (.inst gd)) := (Ext.alloc hgd0).trans (Ext.alloc (by rw [Hp.set_ne _ _ hne]; exact hgr0))
  have h1 : ((hp.set gd (.dict 0 [])).set gr (.inst gd)) gr = some (.inst gd) := Hp.set_same ..
  have h2 : ((hp.set gd (.dict 0 [])).set gr (.inst gd)) gd = some (.dict 0 []) := by rw [Hp.set_ne _ _ (Ne.symm hne), Hp.set_same]
  generalize ((hp.set gd (.dict 0 [])).set gr (.inst gd)) = hA at Xa h1 h2 ⊢
  -- storing an attribute
  have own : ∀ {hq : Hp} {es : List (Str × V)} {ep ep' : Nat}, Ext No hp hq → hq gr = some (.inst gd) → hq gd = some (.dict ep es) → ∀ es', Ext No hp (hq.set gd (.dict ep' es')) ∧ (hq.set gd (.dict ep' es')) gr = some (.inst gd) ∧ (hq.set gd (.dict ep' es')) gd = some (.dict ep' es') := fun X a b es' =>
    ⟨X.own hgd0, by rw [Hp.set_ne _ _ hne]; exact a, Hp.set_same ..⟩
  refine u_g_init ?_
  unfold b_g_init
  walk_at "ab"
  refine r_setA2 h1 h2 (by simp) hasK_nil fun e1 => ?_
  obtain ⟨X1, i1, d1⟩ := own (ep' := e1) Xa h1 h2 ([] ++ [(("start" : Str), V.str st)])
  generalize hA.set gd (.dict e1 ([] ++ [(("start" : Str), V.str st)])) = hB at X1 i1 d1 ⊢
  walk_at "ab"
  intro o ho
  have Xo : Ext No hB (hB.set o (.list [])) := Ext.alloc ho
  have ho0 : (hB.set o (.list [])) o = some (.list []) := Hp.set_same ..
  have hog : o ≠ gd := fun e => by rw [e, d1] at ho; cases ho
  have hor : o ≠ gr := fun e => by rw [e, i1] at ho; cases ho
  have hol : o ≠ rl := fun e => by rw [e, X1.get hl] at ho; cases ho
  walk_at "ab"
  refine r_setA2 (Xo.get i1) (Xo.get d1) (by simp) (hasK_cons (by decide +kernel) hasK_nil) fun e2 => ?_
  obtain ⟨X2, i2, d2⟩ := own (ep' := e2) (X1.trans Xo) (Xo.get i1) (Xo.get d1) ([] ++ [(("start" : Str), V.str st)] ++ [(("order" : Str), V.ref o)])
  have ho2 : ((hB.set o (.list [])).set gd (.dict e2 ([] ++ [(("start" : Str), V.str st)] ++ [(("order" : Str), V.ref o)]))) o = some (.list []) := by rw [Hp.set_ne _ _ hog]; exact ho0
  generalize ((hB.set o (.list [])).set gd (.dict e2 ([] ++ [(("start" : Str), V.str st)] ++ [(("order" : Str), V.ref o)]))) = hC at X2 i2 d2 ho2 ⊢
  walk_at "ab"
  intro tb htb
  have Xt : Ext No hC (hC.set tb (.dict 0 [])) := Ext.alloc htb
  have htb0 : (hC.set tb (.dict 0 [])) tb = some (.dict 0 []) := Hp.set_same ..
  have htg : tb ≠ gd := fun e => by rw [e, d2] at htb; cases htb
  have htr : tb ≠ gr := fun e => by rw [e, i2] at htb; cases htb
  have htl : tb ≠ rl := fun e => by rw [e, X2.get hl] at htb; cases htb
  have hot : o ≠ tb := fun e => by rw [← e, ho2] at htb; cases htb
  walk_at "ab"
  refine r_setA2 (Xt.get i2) (Xt.get d2) (by simp) (hasK_cons (by decide +kernel) (hasK_cons (by decide +kernel) hasK_nil)) fun e3 => ?_
  obtain ⟨X3, i3, d3⟩ := own (ep' := e3) (X2.trans Xt) (Xt.get i2) (Xt.get d2) ([] ++ [(("start" : Str), V.str st)] ++ [(("order" : Str), V.ref o)] ++ [(("table" : Str), V.ref tb)])
  have ho3 : ((hC.set tb (.dict 0 [])).set gd (.dict e3 ([] ++ [(("start" : Str), V.str st)] ++ [(("order" : Str), V.ref o)] ++ [(("table" : Str), V.ref tb)]))) o = some (.list []) := by rw [Hp.set_ne _ _ hog]; exact Xt.get ho2
  have htb3 : ((hC.set tb (.dict 0 [])).set gd (.dict e3 ([] ++ [(("start" : Str), V.str st)] ++ [(("order" : Str), V.ref o)] ++ [(("table" : Str), V.ref tb)]))) tb = some (.dict 0 []) := by rw [Hp.set_ne _ _ htg]; exact htb0
  have hnew_o : hp o = none := X1.new ho
  have hnew_t : hp tb = none := X2.new htb
  generalize ((hC.set tb (.dict 0 [])).set gd (.dict e3 ([] ++ [(("start" : Str), V.str st)] ++ [(("order" : Str), V.ref o)] ++ [(("table" : Str), V.ref tb)]))) = hD at X3 i3 d3 ho3 htb3 ⊢
  walk_at "ab"
  refine r_forL (X3.get hl) ?_
  refine init_loop (attr := [] ++ [(("start" : Str), V.str st)] ++ [(("order" : Str), V.ref o)] ++ [(("table" : Str), V.ref tb)]) ((lkc (by decide +kernel)).trans ((lkc (by decide +kernel)).trans lkh)) ((lkc (by decide +kernel)).trans lkh) hot hog hor hol htg htr htl vs rs [] hD [] 0 none none (by simpa using ok.nd) (by simpa using ok.len) (hr.ext X3) i3 d3 (X3.get hl) ho3 htb3 trivial fun hE es ep a' b' Y1 i4 d4 ho4 htb4 hTb => ?_
  rw [List.nil_append] at ho4 hTb
  have X4 : Ext No hp hE := X3.base Y1 fun x hx => by rcases hx with rfl | rfl <;> assumption
  have hT4 : TabT hE tb rs := TabT.of htb4 hTb
  walk_at "ab"
  refine r_attr i4 d4 ((lkc (by decide +kernel)).trans ((lkc (by decide +kernel)).trans lkh)) ?_
  walk_at "ab"
  refine r_attr i4 d4 ((lkc (by decide +kernel)).trans lkh) ?_
  walk_at "ab"
  refine c_empty_rules (by lia) ok hT4 ho4 fun em hF epe ks hem Y2 hem2 hks => ?_
  walk_at "ab"
  have hme : em ≠ gd := fun e => by rw [e, d4] at hem; cases hem
  refine r_setA2 (Y2.get i4) (Y2.get d4) (by simp) (hasK_cons (by decide +kernel) (hasK_cons (by decide +kernel) (hasK_cons (by decide +kernel) hasK_nil))) fun e5 => ?_
  obtain ⟨X5, i5, d5⟩ := own (ep' := e5) (X4.trans Y2) (Y2.get i4) (Y2.get d4) ([] ++ [(("start" : Str), V.str st)] ++ [(("order" : Str), V.ref o)] ++ [(("table" : Str), V.ref tb)] ++ [(("empty" : Str), V.ref em)])
  have U5 : Ext (fun x => x = gd) hF (hF.set gd (.dict e5 ([] ++ [(("start" : Str), V.str st)] ++ [(("order" : Str), V.ref o)] ++ [(("table" : Str), V.ref tb)] ++ [(("empty" : Str), V.ref em)]))) := Ext.upd rfl (by rw [Y2.get d4]; rfl)
  have hT5 := (hT4.ext Y2).extM U5 htg
  have ho5 : OrdL _ o rs := U5.keep _ _ (Y2.get ho4) hog
  have he5 := U5.keep _ _ hem2 hme
  generalize (hF.set gd (.dict e5 ([] ++ [(("start" : Str), V.str st)] ++ [(("order" : Str), V.ref o)] ++ [(("table" : Str), V.ref tb)] ++ [(("empty" : Str), V.ref em)]))) = hG at X5 i5 d5 hT5 ho5 he5 ⊢
  walk_at "ab"
  refine r_attr i5 d5 ((lkc (by decide +kernel)).trans ((lkc (by decide +kernel)).trans lkh)) ?_
  walk_at "ab"
  refine r_attr i5 d5 ((lkc (by decide +kernel)).trans lkh) ?_
  walk_at "ab"
  refine r_attr i5 d5 ((lkc (by decide +kernel)).trans ((lkc (by decide +kernel)).trans ((lkc (by decide +kernel)).trans lkh))) ?_
  walk_at "ab"
  have hEE : ∀ t, mbe ks.contains t = true ↔ Nul rs t := fun t => mbe_iff hks t
  refine c_first_rows (E := ks.contains) (by lia) ok hT5 ho5 ⟨epe, kt ks, he5, fun x => kt_lookup ks x⟩ hEE fun fd hH ad F hfd Y3 hFam hfo hadn => ?_
  walk_at "ab"
  have hfg : fd ≠ gd := fun e => by rw [e, d5] at hfd; cases hfd
  refine r_setA2 (Y3.get i5) (Y3.get d5) (by simp) (hasK_cons (by decide +kernel) (hasK_cons (by decide +kernel) (hasK_cons (by decide +kernel) (hasK_cons (by decide +kernel) hasK_nil)))) fun e6 => ?_
  rw [show ([] ++ [(("start" : Str), V.str st)] ++ [(("order" : Str), V.ref o)] ++ [(("table" : Str), V.ref tb)] ++ [(("empty" : Str), V.ref em)] ++ [(("firsts" : Str), V.ref fd)]) = attrs st o tb em fd [] from rfl]
  obtain ⟨X6, i6, d6⟩ := own (ep' := e6) (X5.trans Y3) (Y3.get i5) (Y3.get d5) (attrs st o tb em fd [])
  have U6 : Ext (fun x => x = gd) hH (hH.set gd (.dict e6 (attrs st o tb em fd []))) := Ext.upd rfl (by rw [Y3.get d5]; rfl)
  have hT6 := (hT5.ext Y3).extM U6 htg
  have ho6 : OrdL _ o rs := U6.keep _ _ (Y3.get ho5) hog
  have he6 := U6.keep _ _ (Y3.get he5) hme
  have hag : ∀ x ∈ nsOf rs, ad x ≠ gd := fun x hx e => by have := hadn x hx; rw [e, d5] at this; cases this
  have hF6 := hFam.ext U6 hfg hag
  generalize (hH.set gd (.dict e6 (attrs st o tb em fd []))) = hI at X6 i6 d6 hT6 ho6 he6 hF6 ⊢
  have G6 : GX hI rs gr st o tb em fd [] ks.contains ad F := ⟨⟨let ⟨a, b, c, d, _⟩ := hT6.ex; ⟨a, b, c, d⟩, ⟨epe, kt ks, he6, fun x => kt_lookup ks x⟩, hEE, hF6⟩, ⟨.inl rfl, gd, e6, i6, d6⟩, hfo⟩
  walk_at "ab"
  refine c_follow_rows (by lia) ok G6 hT6 ho6 fun fw hJ adw hfw Y4 hFw => ?_
  walk_at "ab"
  have hwg : fw ≠ gd := fun e => by rw [e, d6] at hfw; cases hfw
  refine r_setA2 (Y4.get i6) (Y4.get d6) (by simp [attrs]) (hasK_cons (by decide +kernel) (hasK_cons (by decide +kernel) (hasK_cons (by decide +kernel) (hasK_cons (by decide +kernel) (hasK_cons (by decide +kernel) hasK_nil))))) fun e7 => ?_
  rw [show attrs st o tb em fd [] ++ [(("follows" : Str), V.ref fw)] = attrs st o tb em fd [(("follows" : Str), V.ref fw)] from rfl]
  obtain ⟨X7, i7, d7⟩ := own (ep' := e7) (X6.trans Y4) (Y4.get i6) (Y4.get d6) (attrs st o tb em fd [(("follows" : Str), V.ref fw)])
  have U7 : Ext (fun x => x = gd) hJ (hJ.set gd (.dict e7 (attrs st o tb em fd [(("follows" : Str), V.ref fw)]))) := Ext.upd rfl (by rw [Y4.get d6]; rfl)
  refine i_nil ⟨rfl, ?_⟩
  have hT7 := (hT6.ext Y4).extM U7 htg
  have he7 := U7.keep _ _ (Y4.get he6) hme
  have hwad : ∀ x ∈ nsOf rs, adw x ≠ gd := fun x hx e => by
    obtain ⟨ks', ep', hk, _⟩ := hFw.each x hx
    rw [e, Y4.get d6] at hk
    have : attrs st o tb em fd [] = kt ks' := by
      have := Option.some.inj hk
      injection this
    cases ks' with
    | nil => cases this
    | cons k ks' =>
      have h0 := congrArg (fun l => l.head?.map Prod.snd) this
      simp [attrs, kt] at h0
  refine h gr _ o tb em fd fw ks.contains ad F adw hgr0 X7 ⟨⟨let ⟨a, b, c, d, _⟩ := hT7.ex; ⟨a, b, c, d⟩, ⟨epe, kt ks, he7, fun x => kt_lookup ks x⟩, hEE, (hF6.ext Y4 id fun _ _ => id).ext U7 hfg hag⟩, ⟨.inr ⟨_, rfl⟩, gd, e7, i7, d7⟩, hfo⟩ ⟨epe, ks, he7, hks⟩ hT7 (U7.keep _ _ (Y4.get ho6) hog) (hFw.ext U7 hwg hwad)
end
end
section
/-! ## a set of texts, in order -/
open Classical in
noncomputable def canon (P : Str → Prop) : List Str := (srt univ).filter fun x => decide (P x)
open Classical in
theorem mem_canon {P : Str → Prop} {x : Str} : x ∈ canon P ↔ x ∈ univ ∧ P x := by
  unfold canon
  rw [List.mem_filter, mem_srt]
  exact and_congr Iff.rfl ⟨of_decide_eq_true, decide_eq_true⟩
theorem univ_nd : univ.Nodup := by decide +kernel
theorem canon_pair (P : Str → Prop) : (canon P).Pairwise fun a b => leS a b = true := (srt_pair univ).filter _
theorem canon_nd (P : Str → Prop) : (canon P).Nodup := ((srt_perm univ).nodup_iff.mpr univ_nd).filter _
theorem canon_eq {l : List Str} {P : Str → Prop} (h : l.Pairwise fun a b => leS a b = true) (hn : l.Nodup) (hm : ∀ x, x ∈ l ↔ P x) (hu : ∀ x ∈ l, x ∈ univ) : l = canon P := by
  have e : ∀ x, x ∈ l ↔ x ∈ canon P := fun x => by rw [mem_canon, hm]; exact ⟨fun p => ⟨hu x ((hm x).mpr p), p⟩, (·.2)⟩
  exact (uniq_unique h hn e).trans (uniq_unique (canon_pair P) (canon_nd P) fun _ => Iff.rfl).symm
theorem canon_congr {P P' : Str → Prop} (h : ∀ x, P x ↔ P' x) : canon P = canon P' := by rw [show P = P' from funext fun x => propext (h x)]
theorem canon_len (P : Str → Prop) : (canon P).length ≤ 9 := sub_len (canon_nd P) fun x h => (mem_canon.mp h).1
theorem uniq_canon {l : List Str} (h : ∀ x ∈ l, x ∈ univ) : uniq l = canon (· ∈ l) := canon_eq (uniq_pair l) (uniq_nodup l) (fun x => mem_uniq) fun x hx => h x (mem_uniq.mp hx)

section
variable {hp : Hp} {ρ : Loc} {P : List V → Hp → Prop} {i : Nat} {cond : BV} {ef : EV}
theorem r_compD {x ep es} (hx : hp x = some (.dict ep es)) (hl : es.length ≤ 1000000) (h : compL i cond ef (fun h => h x = some (.dict ep es)) (es.map fun p => V.str p.1) [] ρ hp P) : compV i cond ef ρ P (.ref x) hp := by
  unfold compV; simp only [hx, srcOf]; exact ⟨by rw [List.length_map]; exact hl, h⟩
theorem r_compL {x vs} (hx : hp x = some (.list vs)) (hl : vs.length ≤ 1000000) (h : compL i cond ef (fun h => h x = some (.list vs)) vs [] ρ hp P) : compV i cond ef ρ P (.ref x) hp := by
  unfold compV; simp only [hx, srcOf]; exact ⟨hl, h⟩
theorem r_compT {x vs} (hx : hp x = some (.tup vs)) (hl : vs.length ≤ 1000000) (h : compL i cond ef (fun h => h x = some (.tup vs)) vs [] ρ hp P) : compV i cond ef ρ P (.ref x) hp := by
  unfold compV; simp only [hx, srcOf]; exact ⟨hl, h⟩
theorem l_nil {chk : Hp → Prop} {acc} (hc : chk hp) (h : P acc hp) : compL i cond ef chk [] acc ρ hp P := ⟨hc, h⟩
theorem l_cons {chk : Hp → Prop} {acc v vs} (hc : chk hp) (h : cond (ρ.set i (some v)) hp fun b hp₁ => if b = true then ef (ρ.set i (some v)) hp₁ fun y hp₂ => compL i cond ef chk vs (acc ++ [y]) ρ hp₂ P else compL i cond ef chk vs acc ρ hp₁ P) : compL i cond ef chk (v :: vs) acc ρ hp P := ⟨hc, h⟩
end
theorem r_sortedL {hp : Hp} {Q : V → Hp → Prop} {x : Addr} {ss : List Str} (hx : hp x = some (.list (ss.map V.str))) (hl : ss.length < 64) (h : ∀ D, hp D = none → Q (.ref D) (hp.set D (.list ((srt ss).map V.str)))) : opSorted [.ref x] hp Q := by
  unfold opSorted; exact .inl ⟨ss, hx, hl, h⟩
theorem r_sortedD {hp : Hp} {Q : V → Hp → Prop} {x ep : Nat} {es : List (Str × V)} (hx : hp x = some (.dict ep es)) (hl : es.length < 64) (h : ∀ D, hp D = none → Q (.ref D) (hp.set D (.list ((srt (es.map (·.1))).map V.str)))) : opSorted [.ref x] hp Q := by
  unfold opSorted; exact .inr ⟨ep, es, hx, hl, h⟩
theorem r_gt {hp : Hp} {Qb : Bool → Prop} {x y : Int} (h : Qb (decide (y < x))) : opCmp .Gt (.int x) (.int y) hp Qb := h

section
variable {g : Gl} {rs : Rules}
theorem shared_loop {hp : Hp} {f s : Addr} {o : Option V} {epf eps : Nat} {ks ks' : List Str} {P : List V → Hp → Prop} (hf : hp f = some (.dict epf (kt ks))) (hs : hp s = some (.dict eps (kt ks'))) : ∀ (l : List Str) (acc : List V), P (acc ++ (l.filter ks'.contains).map V.str) hp →
    compL 2 (bCmp .In (cV 2) (cV 1)) (cV 2) (fun h => h f = some (.dict epf (kt ks))) (l.map V.str) acc [some (.ref f), some (.ref s), o] hp P
  | [], acc, h => l_nil hf (by simpa using h)
  | x :: l, acc, h => by
    refine l_cons hf ?_
    walk_at "ab"
    refine r_inD hs ?_
    rw [kt_lookup]
    rw [List.filter_cons] at h
    cases e : ks'.contains x with
    | true =>
      rw [e, if_pos rfl] at h
      walk_at "ab"
      refine shared_loop hf hs l _ ?_
      rw [List.append_assoc]; exact h
    | false =>
      rw [e, if_neg (by decide)] at h
      walk_at "ab"
      exact shared_loop hf hs l _ h
theorem c_shared {n : Nat} (hn : 1 ≤ n) {hp : Hp} {f s : Addr} {S S' : Str → Prop} {Q : V → Hp → Prop} (h1 : DS hp f S) (h2 : DS hp s S')
    (h : ∀ D hp', hp D = none → Ext No hp hp' → hp' D = some (.list ((canon fun y => S y ∧ S' y).map V.str)) → Q (.ref D) hp') : callD g n .shared [.ref f, .ref s] hp Q := by
  obtain ⟨m, rfl⟩ : ∃ m, n = m + 1 := ⟨n - 1, by lia⟩
  obtain ⟨ks, epf, hf, hnd, hu, hm⟩ := h1
  obtain ⟨ks', eps, hs, hnd', hu', hm'⟩ := h2
  have h9 := sub_len hnd hu
  refine u_shared ?_
  unfold b_shared
  walk_at "ab"
  refine r_compD hf (by rw [kt_len]; lia) ?_
  rw [show ((kt ks).map fun p => V.str p.1) = ks.map V.str by unfold kt; rw [List.map_map]; rfl]
  refine shared_loop hf hs ks [] ?_
  rw [List.nil_append]
  intro D0 hD0
  walk_at "ab"
  refine r_sortedL (Hp.set_same ..) (by have := List.length_filter_le ks'.contains ks; lia) fun D hD => ?_
  have X0 : Ext No hp (hp.set D0 (.list ((ks.filter ks'.contains).map V.str))) := Ext.alloc hD0
  refine h D _ (X0.new hD) (X0.trans (Ext.alloc hD)) ?_
  rw [Hp.set_same, ← canon_eq (l := srt (ks.filter ks'.contains)) (srt_pair _) ((srt_perm _).nodup_iff.mpr (hnd.filter _)) (fun x => ?_) fun x hx => hu x (List.mem_filter.mp (mem_srt.mp hx)).1]
  rw [mem_srt, List.mem_filter, hm x, ← hm' x]
  simp

/-! ## the conflicts as they are meant -/
noncomputable abbrev Conf := Str × Str × List Str
open Classical in
noncomputable def cm (nm kind : Str) (P : Str → Prop) : List Conf := if canon P = [] then [] else [(nm, kind, canon P)]
open Classical in
noncomputable def qs (rs : Rules) (nm : Str) : T → (Str → Prop) → List Conf
  | .text _, _ => []
  | .name _, _ => []
  | .eps, _ => []
  | .opt a, S => ((if Nul rs a then [(nm, "empty", [])] else []) : List Conf) ++ (cm nm "option" (fun y => Fst rs a y ∧ S y) ++ qs rs nm a S)
  | .rep a, S => ((if Nul rs a then [(nm, "empty", [])] else []) : List Conf) ++ (cm nm "repetition" (fun y => Fst rs a y ∧ S y) ++ qs rs nm a (prd rs (.rep a) S))
  | .alt a b, S => cm nm "alternatives" (fun y => prd rs a S y ∧ prd rs b S y) ++ (qs rs nm a S ++ qs rs nm b S)
  | .seq a b, S => qs rs nm a (prd rs b S) ++ qs rs nm b S
theorem cm_len {nm kind P} : (cm nm kind P).length ≤ 1 := by unfold cm; split <;> simp
theorem qs_len (rs : Rules) (nm : Str) : ∀ (t : T) (S : Str → Prop), (qs rs nm t S).length ≤ 4 ^ ht t
  | .text _, _ => Nat.zero_le _
  | .name _, _ => Nat.zero_le _
  | .eps, _ => Nat.zero_le _
  | .opt a, S => by
    have ih := qs_len rs nm a S
    have hc := @cm_len nm "option" (fun y => Fst rs a y ∧ S y)
    have h1 : 1 ≤ 4 ^ ht a := Nat.pow_pos (by decide)
    unfold qs
    rw [List.length_append, List.length_append, show ht (.opt a) = ht a + 1 from rfl, Nat.pow_succ]
    split <;> simp <;> lia
  | .rep a, S => by
    have ih := qs_len rs nm a (prd rs (.rep a) S)
    have hc := @cm_len nm "repetition" (fun y => Fst rs a y ∧ S y)
    have h1 : 1 ≤ 4 ^ ht a := Nat.pow_pos (by decide)
    unfold qs
    rw [List.length_append, List.length_append, show ht (.rep a) = ht a + 1 from rfl, Nat.pow_succ]
    split <;> simp <;> lia
  | .alt a b, S => by
    have ih := qs_len rs nm a S
    have ih2 := qs_len rs nm b S
    have hc := @cm_len nm "alternatives" (fun y => prd rs a S y ∧ prd rs b S y)
    have h1 : 4 ^ ht a ≤ 4 ^ max (ht a) (ht b) := Nat.pow_le_pow_right (by decide) (Nat.le_max_left _ _)
    have h2 : 4 ^ ht b ≤ 4 ^ max (ht a) (ht b) := Nat.pow_le_pow_right (by decide) (Nat.le_max_right _ _)
    have h3 : 1 ≤ 4 ^ ht a := Nat.pow_pos (by decide)
    unfold qs
    rw [List.length_append, List.length_append, show ht (.alt a b) = max (ht a) (ht b) + 1 from rfl, Nat.pow_succ]
    lia
  | .seq a b, S => by
    have ih := qs_len rs nm a (prd rs b S)
    have ih2 := qs_len rs nm b S
    have h1 : 4 ^ ht a ≤ 4 ^ max (ht a) (ht b) := Nat.pow_le_pow_right (by decide) (Nat.le_max_left _ _)
    have h2 : 4 ^ ht b ≤ 4 ^ max (ht a) (ht b) := Nat.pow_le_pow_right (by decide) (Nat.le_max_right _ _)
    unfold qs
    rw [List.length_append, show ht (.seq a b) = max (ht a) (ht b) + 1 from rfl, Nat.pow_succ]
    lia

/-! ## the list of conflicts in a heap -/
noncomputable def ConfV (hp : Hp) (fnd : Addr) (v : V) (c : Conf) : Prop := ∃ d e, v = .ref d ∧ hp d = some (.tup [.str c.1, .str c.2.1, .ref e]) ∧ hp e = some (.list (c.2.2.map V.str)) ∧ e ≠ fnd
noncomputable def ConfA (hp : Hp) (fnd : Addr) : List V → List Conf → Prop
  | [], [] => True
  | v :: vs, c :: cs => ConfV hp fnd v c ∧ ConfA hp fnd vs cs
  | _, _ => False
theorem ConfV.ext {hp hp' : Hp} {fnd v c} (X : Ext (· = fnd) hp hp') (h : ConfV hp fnd v c) : ConfV hp' fnd v c := let ⟨d, e, a, b, c', n⟩ := h; ⟨d, e, a, X.tup _ _ b, X.keep _ _ c' n, n⟩
theorem ConfA.ext {hp hp' : Hp} {fnd} (X : Ext (· = fnd) hp hp') : ∀ {vs cs}, ConfA hp fnd vs cs → ConfA hp' fnd vs cs
  | [], [], _ => trivial
  | v :: vs, c :: cs, h => ⟨h.1.ext X, ConfA.ext X h.2⟩
  | [], _ :: _, h => h.elim
  | _ :: _, [], h => h.elim
theorem ConfA.snoc {hp : Hp} {fnd} : ∀ {vs cs v c}, ConfA hp fnd vs cs → ConfV hp fnd v c → ConfA hp fnd (vs ++ [v]) (cs ++ [c])
  | [], [], _, _, _, h => ⟨h, trivial⟩
  | v :: vs, c :: cs, _, _, h, h' => ⟨h.1, ConfA.snoc h.2 h'⟩
  | [], _ :: _, _, _, h, _ => h.elim
  | _ :: _, [], _, _, h, _ => h.elim
theorem ConfA.len {hp : Hp} {fnd} : ∀ {vs cs}, ConfA hp fnd vs cs → vs.length = cs.length
  | [], [], _ => rfl
  | v :: vs, c :: cs, h => by simp [ConfA.len h.2]
  | [], _ :: _, h => h.elim
  | _ :: _, [], h => h.elim
noncomputable def FL (hp : Hp) (fnd : Addr) (cs : List Conf) : Prop := ∃ vs, hp fnd = some (.list vs) ∧ ConfA hp fnd vs cs
theorem FL.ext {hp hp' : Hp} {fnd cs} (X : Ext No hp hp') (h : FL hp fnd cs) : FL hp' fnd cs := let ⟨vs, a, b⟩ := h; ⟨vs, X.get a, b.ext X.no⟩
theorem FL.notTup {hp : Hp} {fnd cs} (h : FL hp fnd cs) : isTup (hp fnd) = false := by obtain ⟨vs, a, _⟩ := h; rw [a]; rfl
theorem FL.live {hp : Hp} {fnd cs} (h : FL hp fnd cs) : hp fnd ≠ none := let ⟨vs, a, _⟩ := h; ne_none a
/-- one more -/
theorem FL.add {hp : Hp} {fnd : Addr} {cs : List Conf} {nm kind : Str} {ks : List Str} {e D : Addr} {Q : V → Hp → Prop} (F : FL hp fnd cs) (hl : cs.length ≤ 999999) (he : hp e = some (.list (ks.map V.str))) (hef : e ≠ fnd) (hD : hp D = none)
    (h : ∀ hp', Ext (· = fnd) hp hp' → FL hp' fnd (cs ++ [(nm, kind, ks)]) → Q .none hp') : mApp (.ref fnd) [.ref D] (hp.set D (.tup [.str nm, .str kind, .ref e])) Q := by
  obtain ⟨vs, a, b⟩ := F
  have hfD : fnd ≠ D := fun q => by rw [q, hD] at a; cases a
  have heD : e ≠ D := fun q => by rw [q, hD] at he; cases he
  have X1 : Ext No hp (hp.set D (.tup [.str nm, .str kind, .ref e])) := Ext.alloc hD
  refine r_app (X1.get a) (by rw [b.len]; lia) ?_
  have X2 : Ext (· = fnd) hp ((hp.set D (.tup [.str nm, .str kind, .ref e])).set fnd (.list (vs ++ [.ref D]))) := X1.no.trans (Ext.upd rfl (by rw [X1.get a]; rfl))
  exact h _ X2 ⟨_, Hp.set_same .., (b.ext X2).snoc ⟨D, e, rfl, by rw [Hp.set_ne _ _ (Ne.symm hfD), Hp.set_same], X2.keep _ _ he hef, hef⟩⟩
end
end
section
theorem r_rng {t body ρ N R} {hp : Hp} {vs ws : List V} {a c : Int} {k : Nat} (hr : rangeOf vs = some (a, c, k)) (hw : ranged a c k = ws) (h : forL t body (fun _ => True) ws ρ hp N R) : rngK t body ρ N R vs hp := by
  unfold rngK; rw [hr]; subst hw; exact h
theorem rangeOf_up {b : Int} (h : -10 ≤ b) (h' : b < 100000) : rangeOf [.int b] = some (0, 1, b.toNat) := if_pos ⟨h, h'⟩
theorem rangeOf_down {a b : Int} (h1 : -10 ≤ a) (h2 : a < 100000) (h3 : -10 ≤ b) (h4 : b < 100000) : rangeOf [.int a, .int b, .int (-1)] = some (a, -1, (a - b).toNat) := if_pos ⟨rfl, h1, h2, h3, h4⟩
theorem DS.neFL {hp : Hp} {af fnd S cs} (h : DS hp af S) (F : FL hp fnd cs) : af ≠ fnd := fun e => by
  obtain ⟨ks, ep, a, _⟩ := h
  obtain ⟨vs, b, _⟩ := F
  rw [e, b] at a; cases a
section
variable {g : Gl} {rs : Rules} {tb em fd : Addr} {E : Str → Bool} {ad' : Str → Addr} {Fs : Str → Str → Prop} {gr : Addr} {st : Str} {od : Addr} {extra : List (Str × V)} {hB : Hp} {fnd : Addr} {nm : Str}
theorem c_alts (G : GX hB rs gr st od tb em fd extra E ad' Fs) (hf : hB fnd = none) {a b : T} {n : Nat} {hp : Hp} {v : V} {af : Addr} {S : Str → Prop} {cs : List Conf} {Q : V → Hp → Prop} (hn : ht (.alt a b) + 4 ≤ n) (hw : Wf (.alt a b)) (hT : IsT hp (.alt a b) v) (X : Ext No hB hp) (hA : DS hp af S) (F : FL hp fnd cs) (hlen : cs.length ≤ 999999)
    (h : ∀ w hp', Ext (· = fnd) hp hp' → FL hp' fnd (cs ++ cm nm "alternatives" (fun y => prd rs a S y ∧ prd rs b S y)) → Q w hp') : callD g n .add_alternatives [.ref gr, .str nm, v, .ref af, .ref fnd] hp Q := by
  simp only [ht] at hn
  obtain ⟨m, rfl⟩ : ∃ m, n = m + 1 := ⟨n - 1, by lia⟩
  obtain ⟨d, e, va, vb, rfl, hd, hee, ha, hb⟩ := hT
  refine u_add_alternatives ?_
  unfold b_add_alternatives
  walk_at "ab"
  refine r_compT hee (by simp) ?_
  refine l_cons hee ?_
  walk_at "ab"
  refine ⟨r_isI (G.ob.ext X) (by decide +kernel), ?_⟩
  walk_at "ab"
  refine c_g_predict (G.ext X) (by lia) hw.1 ha hA fun d1 hp1 hd1 X1 D1 => ?_
  have X01 := X.trans X1
  refine l_cons (X1.get hee) ?_
  walk_at "ab"
  refine ⟨r_isI (G.ob.ext X01) (by decide +kernel), ?_⟩
  walk_at "ab"
  refine c_g_predict (G.ext X01) (by lia) hw.2 (hb.ext X1) (hA.ext X1 id) fun d2 hp2 hd2 X2 D2 => ?_
  have X12 := X1.trans X2
  refine l_nil (X12.get hee) ?_
  intro D hD
  have X3 : Ext No hp (hp2.set D (.list [.ref d1, .ref d2])) := X12.trans (Ext.alloc hD)
  have hD3 : (hp2.set D (.list [.ref d1, .ref d2])) D = some (.list [.ref d1, .ref d2]) := Hp.set_same ..
  have D13 : DS (hp2.set D (.list [.ref d1, .ref d2])) d1 (prd rs a S) := (D1.ext X2 id).ext (Ext.alloc (M := No) hD) id
  have D23 : DS (hp2.set D (.list [.ref d1, .ref d2])) d2 (prd rs b S) := D2.ext (Ext.alloc (M := No) hD) id
  have F3 := F.ext X3
  rw [show ([] ++ [V.ref d1] ++ [V.ref d2]) = [V.ref d1, V.ref d2] from rfl]
  generalize hp2.set D (.list [.ref d1, .ref d2]) = hp3 at X3 hD3 D13 D23 F3 ⊢
  walk_at "ab"
  refine r_lenL hD3 (by simp) ?_
  walk_at "ab"
  have hr2 : rangeOf [.int 2] = some (0, 1, 2) := rangeOf_up (by decide) (by decide)
  have hr1 : rangeOf [.int 1] = some (0, 1, 1) := rangeOf_up (by decide) (by decide)
  have hr0 : rangeOf [.int 0] = some (0, 1, 0) := rangeOf_up (by decide) (by decide)
  rw [show (([V.ref d1, V.ref d2] : List V).length : Int) = 2 from rfl]
  refine r_rng hr2 (ws := [.int 0, .int 1]) (by decide) ?_
  refine f_cons trivial ?_
  walk_at "ab"
  refine r_rng hr0 (ws := []) (by decide) ?_
  refine f_nil trivial ?_
  walk_at "ab"
  refine f_cons trivial ?_
  walk_at "ab"
  refine r_rng hr1 (ws := [.int 0]) (by decide) ?_
  refine f_cons trivial ?_
  walk_at "ab"
  refine r_subL hD3 (by decide) (by decide) (v := .ref d1) rfl ?_
  walk_at "ab"
  refine r_subL hD3 (by decide) (by decide) (v := .ref d2) rfl ?_
  walk_at "ab"
  refine c_shared (by lia) D13 D23 fun L hp4 hL X4 hL4 => ?_
  have F4 := F3.ext X4
  have hLf : L ≠ fnd := fun q => F3.live (q ▸ hL)
  have X34 := X3.trans X4
  walk_at "ab"
  have hcl := canon_len (fun y => prd rs a S y ∧ prd rs b S y)
  refine r_lenL hL4 (by rw [List.length_map]; lia) ?_
  walk_at "ab"
  refine r_gt ?_
  by_cases hc : canon (fun y => prd rs a S y ∧ prd rs b S y) = []
  · have hcm : cm nm "alternatives" (fun y => prd rs a S y ∧ prd rs b S y) = [] := by unfold cm; rw [if_pos hc]
    rw [hc]
    refine if_f ?_
    refine i_nil (i_nil ?_)
    refine f_nil trivial (i_nil (f_nil trivial (i_nil ?_)))
    refine h _ hp4 X34.no ?_
    rw [hcm, List.append_nil]; exact F4
  · have hcm : cm nm "alternatives" (fun y => prd rs a S y ∧ prd rs b S y) = [((nm, "alternatives", canon fun y => prd rs a S y ∧ prd rs b S y) : Conf)] := by unfold cm; rw [if_neg hc]
    have hpos : 0 < (canon fun y => prd rs a S y ∧ prd rs b S y).length := List.length_pos_iff.mpr hc
    rw [show decide ((0 : Int) < (((canon fun y => prd rs a S y ∧ prd rs b S y).map V.str).length : Int)) = true from decide_eq_true (by rw [List.length_map]; lia)]
    walk_at "ab"
    refine ⟨by obtain ⟨vs, q, _⟩ := F4; exact r_isL q, ?_⟩
    walk_at "ab"
    intro T0 hT0
    walk_at "ab"
    refine FL.add F4 hlen hL4 hLf hT0 fun hp5 X5 F5 => ?_
    walk_at "ab"
    refine f_nil trivial (i_nil (f_nil trivial (i_nil ?_)))
    refine h _ hp5 (X34.no.trans X5) ?_
    rw [hcm]; exact F5

/-- the two that an option and a repetition share: the text behind the second test -/
theorem c_find (G : GX hB rs gr st od tb em fd extra E ad' Fs) (hf : hB fnd = none) : ∀ (t : T) (n : Nat) (hp : Hp) (v : V) (af : Addr) (S : Str → Prop) (cs : List Conf) (Q : V → Hp → Prop), ht t + 5 ≤ n → Wf t → IsT hp t v → Ext No hB hp → DS hp af S → FL hp fnd cs → cs.length + 4 ^ ht t ≤ 900000 →
    (∀ w hp', Ext (· = fnd) hp hp' → FL hp' fnd (cs ++ qs rs nm t S) → Q w hp') → callD g n .find_conflicts [.ref gr, .str nm, v, .ref af, .ref fnd] hp Q := by
  have hMb : ∀ x, x = fnd → hB x = none := fun x e => e ▸ hf
  intro t
  induction t with
  | text x =>
    intro n hp v af S cs Q hn hw hT X hA F hl h
    obtain ⟨m, rfl⟩ : ∃ m, n = m + 1 := ⟨n - 1, by lia⟩
    obtain ⟨d, rfl, hd⟩ := hT
    refine u_find_conflicts ?_
    unfold b_find_conflicts
    walk_at "ab"
    exact h _ hp (Ext.refl _) (by rw [show qs rs nm (.text x) S = [] from rfl, List.append_nil]; exact F)
  | name x =>
    intro n hp v af S cs Q hn hw hT X hA F hl h
    obtain ⟨m, rfl⟩ : ∃ m, n = m + 1 := ⟨n - 1, by lia⟩
    obtain ⟨d, rfl, hd⟩ := hT
    refine u_find_conflicts ?_
    unfold b_find_conflicts
    walk_at "ab"
    exact h _ hp (Ext.refl _) (by rw [show qs rs nm (.name x) S = [] from rfl, List.append_nil]; exact F)
  | eps =>
    intro n hp v af S cs Q hn hw hT X hA F hl h
    obtain ⟨m, rfl⟩ : ∃ m, n = m + 1 := ⟨n - 1, by lia⟩
    have hT' := hT
    obtain ⟨d, e, rfl, hd, hee⟩ := hT
    refine u_find_conflicts ?_
    unfold b_find_conflicts
    walk_at "ab"
    refine c_parts_eps (by lia) hT' fun l hp0 hl0 X0 hl1 => ?_
    refine r_forL hl1 ?_
    walk_at "ab"
    exact h _ hp0 X0.no (by rw [show qs rs nm .eps S = [] from rfl, List.append_nil]; exact F.ext X0)
  | seq a b iha ihb =>
    intro n hp v af S cs Q hn hw hT X hA F hl h
    simp only [ht] at hn
    obtain ⟨m, rfl⟩ : ∃ m, n = m + 1 := ⟨n - 1, by lia⟩
    have hT' := hT
    obtain ⟨d, e, va, vb, rfl, hd, hee, ha, hb⟩ := hT
    refine u_find_conflicts ?_
    unfold b_find_conflicts
    walk_at "ab"
    refine c_parts_seq (by simp only [ht]; lia) hw (G.ext X) hT' hA fun l va vb p1 p2 d1 hp0 hl0 X0 hl1 hp1 hp2 hd1 D1 ha hb => ?_
    have hlf : l ≠ fnd := fun q => F.live (q ▸ hl0)
    have F0 := F.ext X0
    have h4a : 4 ^ ht a ≤ 4 ^ max (ht a) (ht b) := Nat.pow_le_pow_right (by decide) (Nat.le_max_left _ _)
    have h4b : 4 ^ ht b ≤ 4 ^ max (ht a) (ht b) := Nat.pow_le_pow_right (by decide) (Nat.le_max_right _ _)
    rw [show ht (.seq a b) = max (ht a) (ht b) + 1 from rfl, Nat.pow_succ] at hl
    have hq := qs_len rs nm a (prd rs b S)
    refine r_forL hl1 ?_
    walk_at "ab"
    refine iha m hp0 va d1 (prd rs b S) cs _ (by lia) hw.1 (ha.ext X0) (X.trans X0) D1 F0 (by lia) fun w1 hq1 Y1 F1 => ?_
    have hl2 := Y1.keep l _ hl1 hlf
    have hp21 := Y1.tup _ _ hp2
    have hA0 := hA.ext X0 id
    walk_at "ab"
    refine ihb m hq1 vb af S _ _ (by lia) hw.2 ((hb.ext X0).ext Y1) ((X.trans X0).base Y1 hMb) (hA0.ext Y1 (hA0.neFL F0)) F1 (by rw [List.length_append]; lia) fun w2 hq2 Y2 F2 => ?_
    have hl3 := Y2.keep l _ hl2 hlf
    walk_at "ab"
    refine h _ hq2 ((X0.no.trans Y1).trans Y2) ?_
    rw [List.append_assoc] at F2
    exact F2
  | alt a b iha ihb =>
    intro n hp v af S cs Q hn hw hT X hA F hl h
    simp only [ht] at hn
    obtain ⟨m, rfl⟩ : ∃ m, n = m + 1 := ⟨n - 1, by lia⟩
    have hT' := hT
    obtain ⟨d, e, va, vb, rfl, hd, hee, ha, hb⟩ := hT
    have h4a : 4 ^ ht a ≤ 4 ^ max (ht a) (ht b) := Nat.pow_le_pow_right (by decide) (Nat.le_max_left _ _)
    have h4b : 4 ^ ht b ≤ 4 ^ max (ht a) (ht b) := Nat.pow_le_pow_right (by decide) (Nat.le_max_right _ _)
    have h41 : 1 ≤ 4 ^ ht a := Nat.pow_pos (by decide)
    rw [show ht (.alt a b) = max (ht a) (ht b) + 1 from rfl, Nat.pow_succ] at hl
    have hq := qs_len rs nm a S
    have hcml := @cm_len nm "alternatives" (fun y => prd rs a S y ∧ prd rs b S y)
    refine u_find_conflicts ?_
    unfold b_find_conflicts
    walk_at "ab"
    refine c_alts G hf (by simp only [ht]; lia) hw hT' X hA F (by lia) fun w0 hpa Ya Fa => ?_
    have Xa := X.base Ya hMb
    have hTa := hT'.ext Ya
    have hAa := hA.ext Ya (hA.neFL F)
    have hda := Ya.tup _ _ hd
    walk_at "ab"
    refine c_parts_alt (by lia) hTa fun l va vb p1 p2 hp0 hl0 X0 hl1 hp1 hp2 ha hb => ?_
    have hlf : l ≠ fnd := fun q => Fa.live (q ▸ hl0)
    have F0 := Fa.ext X0
    have hA0 := hAa.ext X0 id
    refine r_forL hl1 ?_
    walk_at "ab"
    refine iha m hp0 va af S _ _ (by lia) hw.1 (ha.ext X0) (Xa.trans X0) hA0 F0 (by rw [List.length_append]; lia) fun w1 hq1 Y1 F1 => ?_
    have hl2 := Y1.keep l _ hl1 hlf
    have hp21 := Y1.tup _ _ hp2
    walk_at "ab"
    refine ihb m hq1 vb af S _ _ (by lia) hw.2 ((hb.ext X0).ext Y1) ((Xa.trans X0).base Y1 hMb) (hA0.ext Y1 (hA0.neFL F0)) F1 (by rw [List.length_append, List.length_append]; lia) fun w2 hq2 Y2 F2 => ?_
    have hl3 := Y2.keep l _ hl2 hlf
    walk_at "ab"
    refine h _ hq2 (((Ya.trans X0.no).trans Y1).trans Y2) ?_
    rw [List.append_assoc, List.append_assoc] at F2
    exact F2
  | opt a ih =>
    intro n hp v af S cs Q hn hw hT X hA F hl h
    simp only [ht] at hn
    obtain ⟨m, rfl⟩ : ∃ m, n = m + 1 := ⟨n - 1, by lia⟩
    have hT' := hT
    obtain ⟨d, va, rfl, hd, ha⟩ := hT
    have h41 : 1 ≤ 4 ^ ht a := Nat.pow_pos (by decide)
    rw [show ht (.opt a) = ht a + 1 from rfl, Nat.pow_succ] at hl
    have hcml := @cm_len nm "option" (fun y => Fst rs a y ∧ S y)
    have hcl := canon_len (fun y => Fst rs a y ∧ S y)
    refine u_find_conflicts ?_
    unfold b_find_conflicts
    walk_at "ab"
    refine ⟨r_isI (G.ob.ext X) (by decide +kernel), ?_⟩
    walk_at "ab"
    refine c_g_nullable (G.ext X) (by lia) ha fun b0 hb0 => ?_
    -- behind the first
    have k1 : ∀ hp1 cs1, Ext (· = fnd) hp hp1 → FL hp1 fnd cs1 → cs1.length ≤ cs.length + 1 → cs1 = cs ++ (open Classical in ((if Nul rs a then [(nm, "empty", [])] else []) : List Conf)) → sSeq (t_find_conflicts_9 (callD g m)) [some (.ref gr), some (.str nm), some (.ref d), some (.ref af), some (.ref fnd), some (.str "opt"), some va, some (.str "option"), none, none, none] hp1 (fun ρ' hp' => sSeq (t_find_conflicts_16 (callD g m)) ρ' hp' (fun _ hp' => Q .none hp') Q) Q := by
      intro hp1 cs1 Y1 F1 hl1 hcs
      have X1 := X.base Y1 hMb
      have hA1 := hA.ext Y1 (hA.neFL F)
      have hd1 := Y1.tup _ _ hd
      walk_at "ab"
      refine ⟨r_isI (G.ob.ext X1) (by decide +kernel), ?_⟩
      walk_at "ab"
      refine c_g_first (G.ext X1) (t := a) (by lia) hw (ha.ext Y1) fun d2 hp2 X2 D2 => ?_
      walk_at "ab"
      refine c_shared (by lia) D2 (hA1.ext X2 id) fun L hp3 hL X3 hL3 => ?_
      have F2 := F1.ext X2
      have F3 := F2.ext X3
      have hLf : L ≠ fnd := fun q => F2.live (q ▸ hL)
      have X13 := X2.trans X3
      walk_at "ab"
      refine r_lenL hL3 (by rw [List.length_map]; lia) ?_
      walk_at "ab"
      refine r_gt ?_
      -- behind the second
      have k2 : ∀ hp4, Ext (· = fnd) hp1 hp4 → FL hp4 fnd (cs1 ++ cm nm "option" (fun y => Fst rs a y ∧ S y)) → sSeq (t_find_conflicts_7 (callD g m)) [some (.ref gr), some (.str nm), some (.ref d), some (.ref af), some (.ref fnd), some (.str "opt"), some va, some (.str "option"), some (.ref L), none, none] hp4 (fun ρ' hp' => sSeq (t_find_conflicts_16 (callD g m)) ρ' hp' (fun _ hp' => Q .none hp') Q) Q := by
        intro hp4 Y4 F4
        walk_at "ab"
        refine ih m hp4 va af S _ _ (by lia) hw ((ha.ext Y1).ext Y4) (X1.base Y4 hMb) (hA1.ext Y4 (hA1.neFL F1)) F4 (by rw [List.length_append]; lia) fun w5 hp5 Y5 F5 => ?_
        walk_at "ab"
        refine h _ hp5 ((Y1.trans Y4).trans Y5) ?_
        rw [hcs] at F5
        rw [List.append_assoc, List.append_assoc] at F5
        exact F5
      by_cases hc : canon (fun y => Fst rs a y ∧ S y) = []
      · have hcm : cm nm "option" (fun y => Fst rs a y ∧ S y) = [] := by unfold cm; rw [if_pos hc]
        rw [hc]
        refine if_f (i_nil ?_)
        exact k2 hp3 X13.no (by rw [hcm, List.append_nil]; exact F3)
      · have hcm : cm nm "option" (fun y => Fst rs a y ∧ S y) = [((nm, "option", canon fun y => Fst rs a y ∧ S y) : Conf)] := by unfold cm; rw [if_neg hc]
        have hpos : 0 < (canon fun y => Fst rs a y ∧ S y).length := List.length_pos_iff.mpr hc
        rw [show decide ((0 : Int) < (((canon fun y => Fst rs a y ∧ S y).map V.str).length : Int)) = true from decide_eq_true (by rw [List.length_map]; lia)]
        refine if_t (i_seq (i_exp (e_lm ?_)))
        walk_at "ab"
        refine ⟨by obtain ⟨vs, q, _⟩ := F3; exact r_isL q, ?_⟩
        walk_at "ab"
        intro T0 hT0
        walk_at "ab"
        refine FL.add F3 (by lia) hL3 hLf hT0 fun hp5 X5 F5 => ?_
        refine i_nil (k2 hp5 (X13.no.trans X5) ?_)
        rw [hcm]; exact F5
    cases b0 with
    | false =>
      have hna : ¬ Nul rs a := fun q => by have := hb0.mpr q; cases this
      refine b_bool (if_f (i_nil ?_))
      exact k1 hp cs (Ext.refl _) F (by lia) (by rw [if_neg hna, List.append_nil])
    | true =>
      refine b_bool (if_t (i_seq (i_exp (e_lm ?_))))
      walk_at "ab"
      refine ⟨by obtain ⟨vs, q, _⟩ := F; exact r_isL q, ?_⟩
      walk_at "ab"
      intro L0 hL0
      have Xl : Ext No hp (hp.set L0 (.list [])) := Ext.alloc hL0
      have hLf : L0 ≠ fnd := fun q => F.live (q ▸ hL0)
      walk_at "ab"
      intro T0 hT0
      walk_at "ab"
      refine FL.add (ks := []) (F.ext Xl) (by lia) (Hp.set_same ..) hLf hT0 fun hp5 X5 F5 => ?_
      refine i_nil (k1 hp5 _ (Xl.no.trans X5) F5 (by simp) ?_)
      rw [if_pos (hb0.mp rfl)]
  | rep a ih =>
    intro n hp v af S cs Q hn hw hT X hA F hl h
    simp only [ht] at hn
    obtain ⟨m, rfl⟩ : ∃ m, n = m + 1 := ⟨n - 1, by lia⟩
    have hT' := hT
    obtain ⟨d, va, rfl, hd, ha⟩ := hT
    have h41 : 1 ≤ 4 ^ ht a := Nat.pow_pos (by decide)
    rw [show ht (.rep a) = ht a + 1 from rfl, Nat.pow_succ] at hl
    have hcml := @cm_len nm "repetition" (fun y => Fst rs a y ∧ S y)
    have hcl := canon_len (fun y => Fst rs a y ∧ S y)
    refine u_find_conflicts ?_
    unfold b_find_conflicts
    walk_at "ab"
    refine ⟨r_isI (G.ob.ext X) (by decide +kernel), ?_⟩
    walk_at "ab"
    refine c_g_nullable (G.ext X) (by lia) ha fun b0 hb0 => ?_
    -- behind the first
    have k1 : ∀ hp1 cs1, Ext (· = fnd) hp hp1 → FL hp1 fnd cs1 → cs1.length ≤ cs.length + 1 → cs1 = cs ++ (open Classical in ((if Nul rs a then [(nm, "empty", [])] else []) : List Conf)) → sSeq (t_find_conflicts_9 (callD g m)) [some (.ref gr), some (.str nm), some (.ref d), some (.ref af), some (.ref fnd), some (.str "rep"), some va, some (.str "repetition"), none, none, none] hp1 (fun ρ' hp' => sSeq (t_find_conflicts_16 (callD g m)) ρ' hp' (fun _ hp' => Q .none hp') Q) Q := by
      intro hp1 cs1 Y1 F1 hl1 hcs
      have X1 := X.base Y1 hMb
      have hA1 := hA.ext Y1 (hA.neFL F)
      have hd1 := Y1.tup _ _ hd
      have hT1 := hT'.ext Y1
      walk_at "ab"
      refine ⟨r_isI (G.ob.ext X1) (by decide +kernel), ?_⟩
      walk_at "ab"
      refine c_g_first (G.ext X1) (t := a) (by lia) hw (ha.ext Y1) fun d2 hp2 X2 D2 => ?_
      walk_at "ab"
      refine c_shared (by lia) D2 (hA1.ext X2 id) fun L hp3 hL X3 hL3 => ?_
      have F2 := F1.ext X2
      have F3 := F2.ext X3
      have hLf : L ≠ fnd := fun q => F2.live (q ▸ hL)
      have X13 := X2.trans X3
      walk_at "ab"
      refine r_lenL hL3 (by rw [List.length_map]; lia) ?_
      walk_at "ab"
      refine r_gt ?_
      -- behind the second
      have k2 : ∀ hp4, Ext (· = fnd) hp1 hp4 → FL hp4 fnd (cs1 ++ cm nm "repetition" (fun y => Fst rs a y ∧ S y)) → sSeq (t_find_conflicts_7 (callD g m)) [some (.ref gr), some (.str nm), some (.ref d), some (.ref af), some (.ref fnd), some (.str "rep"), some va, some (.str "repetition"), some (.ref L), none, none] hp4 (fun ρ' hp' => sSeq (t_find_conflicts_16 (callD g m)) ρ' hp' (fun _ hp' => Q .none hp') Q) Q := by
        intro hp4 Y4 F4
        have X4 := X1.base Y4 hMb
        walk_at "ab"
        refine ⟨r_isI (G.ob.ext X4) (by decide +kernel), ?_⟩
        walk_at "ab"
        refine c_g_predict (G.ext X4) (t := .rep a) (by simp only [ht]; lia) hw (hT1.ext Y4) (hA1.ext Y4 (hA1.neFL F1)) fun d6 hp6 hd6 X6 D6 => ?_
        walk_at "ab"
        refine ih m hp6 va d6 (prd rs (.rep a) S) _ _ (by lia) hw (((ha.ext Y1).ext Y4).ext X6) (X4.trans X6) D6 (F4.ext X6) (by rw [List.length_append]; lia) fun w5 hp5 Y5 F5 => ?_
        walk_at "ab"
        refine h _ hp5 (((Y1.trans Y4).trans X6.no).trans Y5) ?_
        rw [hcs] at F5
        rw [List.append_assoc, List.append_assoc] at F5
        exact F5
      by_cases hc : canon (fun y => Fst rs a y ∧ S y) = []
      · have hcm : cm nm "repetition" (fun y => Fst rs a y ∧ S y) = [] := by unfold cm; rw [if_pos hc]
        rw [hc]
        refine if_f (i_nil ?_)
        exact k2 hp3 X13.no (by rw [hcm, List.append_nil]; exact F3)
      · have hcm : cm nm "repetition" (fun y => Fst rs a y ∧ S y) = [((nm, "repetition", canon fun y => Fst rs a y ∧ S y) : Conf)] := by unfold cm; rw [if_neg hc]
        have hpos : 0 < (canon fun y => Fst rs a y ∧ S y).length := List.length_pos_iff.mpr hc
        rw [show decide ((0 : Int) < (((canon fun y => Fst rs a y ∧ S y).map V.str).length : Int)) = true from decide_eq_true (by rw [List.length_map]; lia)]
        refine if_t (i_seq (i_exp (e_lm ?_)))
        walk_at "ab"
        refine ⟨by obtain ⟨vs, q, _⟩ := F3; exact r_isL q, ?_⟩
        walk_at "ab"
        intro T0 hT0
        walk_at "ab"
        refine FL.add F3 (by lia) hL3 hLf hT0 fun hp5 X5 F5 => ?_
        refine i_nil (k2 hp5 (X13.no.trans X5) ?_)
        rw [hcm]; exact F5
    cases b0 with
    | false =>
      have hna : ¬ Nul rs a := fun q => by have := hb0.mpr q; cases this
      refine b_bool (if_f (i_nil ?_))
      exact k1 hp cs (Ext.refl _) F (by lia) (by rw [if_neg hna, List.append_nil])
    | true =>
      refine b_bool (if_t (i_seq (i_exp (e_lm ?_))))
      walk_at "ab"
      refine ⟨by obtain ⟨vs, q, _⟩ := F; exact r_isL q, ?_⟩
      walk_at "ab"
      intro L0 hL0
      have Xl : Ext No hp (hp.set L0 (.list [])) := Ext.alloc hL0
      have hLf : L0 ≠ fnd := fun q => F.live (q ▸ hL0)
      walk_at "ab"
      intro T0 hT0
      walk_at "ab"
      refine FL.add (ks := []) (F.ext Xl) (by lia) (Hp.set_same ..) hLf hT0 fun hp5 X5 F5 => ?_
      refine i_nil (k1 hp5 _ (Xl.no.trans X5) F5 (by simp) ?_)
      rw [if_pos (hb0.mp rfl)]
end
end
section
section
variable {g : Gl} {rs : Rules}
/-! ## conflicts -/
noncomputable def allq (rs : Rules) (st : Str) (l : Rules) : List Conf := l.flatMap fun r => qs rs r.1 r.2 (Fol rs st r.1)
theorem lookup_mem' : ∀ {rs : Rules}, (nsOf rs).Nodup → ∀ {x t}, (x, t) ∈ rs → rs.lookup x = some t
  | (y, u) :: rs, hn, x, t, h => by
    rw [List.lookup_cons]
    rcases List.mem_cons.mp h with h | h
    · cases h; rw [beq_self_eq_true]
    · have hn' : y ∉ nsOf rs ∧ (nsOf rs).Nodup := List.nodup_cons.mp hn
      have : x ∈ nsOf rs := List.mem_map.mpr ⟨(x, t), h, rfl⟩
      rw [beq_false_of_ne fun (e : x = y) => hn'.1 (e ▸ this)]
      exact lookup_mem' hn'.2 h
variable {tb em fd fw : Addr} {E : Str → Bool} {ad' adw : Str → Addr} {Fs : Str → Str → Prop} {gr : Addr} {st : Str} {od : Addr} {extra : List (Str × V)}
theorem cf_loop {n : Nat} (hn : 10 ≤ n) (ok : RsOk rs) {hB : Hp} {fnd : Addr} (G : GX hB rs gr st od tb em fd [(("follows" : Str), V.ref fw)] E ad' Fs) (hT : TabT hB tb rs) (hO : OrdL hB od rs) (hW : Fam hB fw (nsOf rs) adw (Fol rs st)) (hf : hB fnd = none) {N : Loc → Hp → Prop} {R : V → Hp → Prop} :
    ∀ (l : Rules) (hp : Hp) (cs : List Conf) (o : Option V), (∀ r ∈ l, r ∈ rs) → Ext No hB hp → FL hp fnd cs → cs.length + 256 * l.length ≤ 100000 → (∀ hp' o', Ext No hB hp' → FL hp' fnd (cs ++ allq rs st l) → N [some (.ref gr), some (.ref fnd), o'] hp') →
      forL (tName 2) (sSeq (t_conflicts_1 (callD g n))) (fun h => h od = some (.list ((nsOf rs).map V.str))) ((nsOf l).map V.str) [some (.ref gr), some (.ref fnd), o] hp N R
  | [], hp, cs, o, hl, X, F, hc, q => f_nil (X.get hO) (q hp o X (by rw [show allq rs st [] = [] from rfl, List.append_nil]; exact F))
  | (x, t) :: l, hp, cs, o, hl, X, F, hc, q => by
    have hxt := lookup_mem' ok.nd (hl _ (.head _))
    have hxn : x ∈ nsOf rs := lookup_ns.mpr ⟨t, hxt⟩
    obtain ⟨hwf, hht⟩ := ok.wf x t hxt
    obtain ⟨ept, est, htb, hK, hv⟩ := (hT.ext X).ex
    obtain ⟨v, hv1, hv2⟩ := hv x t hxt
    obtain ⟨epw, hfw⟩ := hW.at_
    obtain ⟨hx1, gd, epg, hg1, hg2⟩ := G.ob.ext X
    have hA := (hW.each x hxn).ext X id
    have h4 : 4 ^ ht t ≤ 256 := Nat.le_trans (Nat.pow_le_pow_right (by decide) hht) (by decide)
    rw [List.length_cons] at hc
    refine f_cons (X.get hO) ?_
    walk_at "ab"
    refine r_attr hg1 hg2 at_table ?_
    walk_at "ab"
    refine r_subD htb hv1 ?_
    walk_at "ab"
    refine r_attr hg1 hg2 at_follows ?_
    walk_at "ab"
    refine r_subD (X.get hfw) (famE_lookup hxn) ?_
    walk_at "ab"
    refine c_find G hf t n hp v (adw x) _ cs _ (by lia) hwf hv2 X hA F (by lia) fun w hp1 Y1 F1 => ?_
    walk_at "ab"
    have hq := qs_len rs x t (Fol rs st x)
    refine cf_loop hn ok G hT hO hW hf l hp1 _ _ (fun r hr => hl r (.tail _ hr)) (X.base Y1 fun y e => e ▸ hf) F1 (by rw [List.length_append]; lia) fun hp' o' a1 a2 => q hp' o' a1 ?_
    rw [List.append_assoc] at a2
    exact a2
theorem c_conflicts {n : Nat} (hn : 11 ≤ n) (ok : RsOk rs) {hp : Hp} {Q : V → Hp → Prop} (G : GX hp rs gr st od tb em fd [(("follows" : Str), V.ref fw)] E ad' Fs) (hT : TabT hp tb rs) (hO : OrdL hp od rs) (hW : Fam hp fw (nsOf rs) adw (Fol rs st))
    (h : ∀ D hp', hp D = none → Ext No hp hp' → FL hp' D (allq rs st rs) → Q (.ref D) hp') : callD g n .conflicts [.ref gr] hp Q := by
  obtain ⟨m, rfl⟩ : ∃ m, n = m + 1 := ⟨n - 1, by lia⟩
  obtain ⟨hx1, gd, epg, hg1, hg2⟩ := G.ob
  have hl := ok.len
  refine u_conflicts ?_
  unfold b_conflicts
  walk_at "ab"
  intro D hD
  have X0 : Ext No hp (hp.set D (.list [])) := Ext.alloc hD
  walk_at "ab"
  refine r_attr (X0.get hg1) (X0.get hg2) at_order ?_
  refine r_forL (X0.get hO) ?_
  refine cf_loop (by lia) ok G hT hO hW hD rs _ [] none (fun _ h => h) X0 ⟨[], Hp.set_same .., trivial⟩ (by simp; lia) fun hp' o' a1 a2 => ?_
  walk_at "ab"
  exact h D hp' hD a1 a2

/-! ## data -/
theorem rd_strs {hp : Hp} : ∀ ks : List Str, RdAll hp (ks.map V.str) (ks.map PyData.str)
  | [] => .nil
  | k :: ks => .cons (.str k) (rd_strs ks)
theorem rd_bools {hp : Hp} : ∀ ks : List Bool, RdAll hp (ks.map V.bool) (ks.map PyData.bool)
  | [] => .nil
  | k :: ks => .cons (.bool k) (rd_bools ks)
theorem rd_ints {hp : Hp} : ∀ ks : List Int, RdAll hp (ks.map V.int) (ks.map PyData.int)
  | [] => .nil
  | k :: ks => .cons (.int k) (rd_ints ks)
theorem eqvS : ∀ ks ls : List Str, PyData.eqvAll (ks.map .str) (ls.map .str) = decide (ks = ls)
  | [], [] => rfl
  | [], _ :: _ => rfl
  | _ :: _, [] => rfl
  | k :: ks, l :: ls => by
    show (PyData.eqv (.str k) (.str l) && PyData.eqvAll (ks.map .str) (ls.map .str)) = _
    rw [eqvS ks ls, show PyData.eqv (.str k) (.str l) = (k == l) from rfl]
    by_cases e : k = l
    · subst e; simp
    · rw [beq_false_of_ne e, Bool.false_and]; exact (decide_eq_false fun q => e (List.cons.inj q).1).symm
theorem univ_ok : ∀ x ∈ univ, PyData.strOk x = true := by decide +kernel
theorem cl0S : ∀ {ks : List Str}, (∀ x ∈ ks, x ∈ univ) → PyData.canLayAll0 (ks.map .str) = true
  | [], _ => rfl
  | k :: ks, h => by
    show (PyData.canLay0 (.str k) && PyData.canLayAll0 (ks.map .str)) = true
    rw [cl0S fun x hx => h x (.tail _ hx), show PyData.canLay0 (.str k) = PyData.strOk k from rfl, univ_ok k (h k (.head _))]; rfl
theorem dpS : ∀ ks : List Str, PyData.depthAll (ks.map .str) = 0
  | [] => rfl
  | k :: ks => by show max (PyData.depth (.str k)) (PyData.depthAll (ks.map .str)) = 0; rw [dpS ks]; rfl
theorem cl0B : ∀ ks : List Bool, PyData.canLayAll0 (ks.map .bool) = true
  | [] => rfl
  | k :: ks => by show (true && PyData.canLayAll0 (ks.map .bool)) = true; rw [cl0B ks]; rfl
theorem cl0I : ∀ ks : List Int, PyData.canLayAll0 (ks.map .int) = true
  | [] => rfl
  | k :: ks => by show (true && PyData.canLayAll0 (ks.map .int)) = true; rw [cl0I ks]; rfl
theorem dpI : ∀ ks : List Int, PyData.depthAll (ks.map .int) = 0
  | [] => rfl
  | k :: ks => by show max 0 (PyData.depthAll (ks.map .int)) = 0; rw [dpI ks]; rfl
theorem shaped_list {ds : List PyData} (h : PyData.canLayAll0 ds = true) (hd : PyData.depthAll ds ≤ 60) : SeqAt.shaped (.list ds) = true := by
  unfold SeqAt.shaped
  rw [Bool.and_eq_true]
  exact ⟨h, decide_eq_true (by show PyData.depthAll ds + 1 ≤ 64; lia)⟩
theorem shaped_str {x : Str} (h : PyData.strOk x = true) : SeqAt.shaped (.str x) = true := by
  unfold SeqAt.shaped
  rw [Bool.and_eq_true]
  exact ⟨h, rfl⟩

section
variable {hp : Hp} {Qb : Bool → Prop}
theorem notDict {x : Addr} {vs} (hx : hp x = some (.list vs)) : ∀ ep es, hp x ≠ some (.dict ep es) := fun ep es e => by rw [hx] at e; cases e
theorem r_ninB {D : Addr} {bs : List Bool} (hx : hp D = some (.list (bs.map V.bool))) (h : Qb (!(bs.any fun y => y == false))) : opCmp .NotIn (.bool false) (.ref D) hp Qb := by
  unfold opCmp cmpIn
  simp only [hx]
  refine ⟨.bool false, bs.map .bool, .bool _, .inl (.list hx (rd_bools bs)), cl0B bs, rfl, ?_⟩
  rw [Bool.true_xor, List.any_map]
  exact h
theorem r_inB {D : Addr} {bs : List Bool} (hx : hp D = some (.list (bs.map V.bool))) (h : Qb (bs.any fun y => y == true)) : opCmp .In (.bool true) (.ref D) hp Qb := by
  unfold opCmp cmpIn
  simp only [hx]
  refine ⟨.bool true, bs.map .bool, .bool _, .inl (.list hx (rd_bools bs)), cl0B bs, rfl, ?_⟩
  rw [Bool.false_xor, List.any_map]
  exact h
theorem any_strs (ks : List Str) (k : Str) : ((ks.map PyData.str).any fun y => PyData.eqv y (.str k)) = ks.contains k := by
  induction ks with
  | nil => rfl
  | cons a ks ih =>
    rw [List.map_cons, List.any_cons, ih, List.contains_cons, show PyData.eqv (.str a) (.str k) = (a == k) from rfl]
    congr 1
    by_cases e : a = k
    · rw [e]
    · rw [beq_false_of_ne e, beq_false_of_ne (Ne.symm e)]
theorem r_inLS {D : Addr} {ks : List Str} {k : Str} (hx : hp D = some (.list (ks.map V.str))) (hu : ∀ x ∈ ks, x ∈ univ) (hk : k ∈ univ) (h : Qb (ks.contains k)) : opCmp .In (.str k) (.ref D) hp Qb := by
  unfold opCmp cmpIn
  simp only [hx]
  refine ⟨.str k, ks.map .str, .str _, .inl (.list hx (rd_strs ks)), cl0S hu, shaped_str (univ_ok k hk), ?_⟩
  rw [Bool.false_xor, any_strs]
  exact h
theorem r_inT2 {D : Addr} {a b k : Str} {r : Bool} (hx : hp D = some (.tup [.str a, .str b])) (hok : (PyData.strOk a && PyData.strOk b && PyData.strOk k) = true) (hr : (([a, b] : List Str).contains k) = r) (h : Qb r) : opCmp .In (.str k) (.ref D) hp Qb := by
  simp only [Bool.and_eq_true] at hok
  unfold opCmp cmpIn
  simp only [hx]
  refine ⟨.str k, ([a, b] : List Str).map .str, .str _, .inr (.tup hx (rd_strs [a, b])), ?_, shaped_str hok.2, ?_⟩
  · show (PyData.canLay0 (.str a) && (PyData.canLay0 (.str b) && true)) = true
    rw [show PyData.canLay0 (.str a) = PyData.strOk a from rfl, show PyData.canLay0 (.str b) = PyData.strOk b from rfl, hok.1.1, hok.1.2]; rfl
  · rw [Bool.false_xor, any_strs, hr]
    exact h
theorem r_neNil {x y : Addr} {vs : List V} {ds : List PyData} (hx : hp x = some (.list vs)) (hy : hp y = some (.list [])) (hr : RdAll hp vs ds) (hc : PyData.canLayAll0 ds = true) (hd : PyData.depthAll ds ≤ 60) (h : Qb (!ds.isEmpty)) : opCmp .NotEq (.ref x) (.ref y) hp Qb := by
  refine ⟨.list ds, .list [], .list hx hr, .list hy .nil, shaped_list hc hd, shaped_list rfl (Nat.zero_le _), ?_⟩
  cases ds with
  | nil => exact h
  | cons d ds => exact h
theorem r_neS {x y : Addr} {ks ls : List Str} (hx : hp x = some (.list (ks.map V.str))) (hy : hp y = some (.list (ls.map V.str))) (hk : ∀ z ∈ ks, z ∈ univ) (hl : ∀ z ∈ ls, z ∈ univ) (h : Qb (!decide (ks = ls))) : opCmp .NotEq (.ref x) (.ref y) hp Qb := by
  refine ⟨.list (ks.map .str), .list (ls.map .str), .list hx (rd_strs ks), .list hy (rd_strs ls), shaped_list (cl0S hk) (by rw [dpS]; exact Nat.zero_le _), shaped_list (cl0S hl) (by rw [dpS]; exact Nat.zero_le _), ?_⟩
  rw [show PyData.eqv (.list (ks.map .str)) (.list (ls.map .str)) = PyData.eqvAll (ks.map .str) (ls.map .str) from rfl, eqvS]
  exact h
end
end
end
section
/-- k in (a, b) -/
theorem b_in2 {hp : Hp} {k a b : Str} {r : Bool} {Qb : Addr → Bool → Prop} (hok : (PyData.strOk a && PyData.strOk b && PyData.strOk k) = true) (hr : (([a, b] : List Str).contains k) = r) (h : ∀ D, hp D = none → Ext No hp (hp.set D (.tup [.str a, .str b])) → Qb D r) :
    ∀ D, hp D = none → opCmp .In (.str k) (.ref D) (hp.set D (.tup [.str a, .str b])) (Qb D) := fun D hD => r_inT2 (Hp.set_same ..) hok hr (h D hD (Ext.alloc hD))
/-! ## the law's tables -/
noncomputable def HolD (hp : Hp) (hd : Addr) (rs : Rules) : Prop := ∃ ep es, hp hd = some (.dict ep es) ∧ (∀ x, rs.lookup x = none → es.lookup x = none) ∧ ∀ x t, rs.lookup x = some t → ∃ b, es.lookup x = some (.bool b) ∧ (b = true ↔ Nul rs (.name x))
noncomputable def LS (hp : Hp) (l : Addr) (S : Str → Prop) : Prop := hp l = some (.list ((canon S).map V.str))
noncomputable def HedD (hp : Hp) (ed : Addr) (rs : Rules) : Prop := ∃ ep es, hp ed = some (.dict ep es) ∧ ∀ x t, rs.lookup x = some t → ∃ l, es.lookup x = some (.ref l) ∧ LS hp l (Fst rs (.name x))
noncomputable def Fcts (hp : Hp) (fa rd hd ed : Addr) (rs : Rules) : Prop := hp fa = some (.tup [.ref rd, .ref hd, .ref ed]) ∧ TabT hp rd rs ∧ HolD hp hd rs ∧ HedD hp ed rs
theorem HolD.ext {hp hp' hd rs} (X : Ext No hp hp') (h : HolD hp hd rs) : HolD hp' hd rs := let ⟨ep, es, a, b⟩ := h; ⟨ep, es, X.get a, b⟩
theorem HedD.ext {hp hp' hd rs} (X : Ext No hp hp') (h : HedD hp hd rs) : HedD hp' hd rs := let ⟨ep, es, a, b⟩ := h; ⟨ep, es, X.get a, fun x t e => let ⟨l, p, q⟩ := b x t e; ⟨l, p, X.get q⟩⟩
theorem Fcts.ext {hp hp' fa rd hd ed rs} (X : Ext No hp hp') (h : Fcts hp fa rd hd ed rs) : Fcts hp' fa rd hd ed rs := ⟨X.get h.1, h.2.1.ext X, h.2.2.1.ext X, h.2.2.2.ext X⟩

section
variable {g : Gl} {rs : Rules}
theorem nin2 (a b : Bool) : (!(([a, b] : List Bool).any fun y => y == false)) = (a && b) := by cases a <;> cases b <;> rfl
theorem in2 (a b : Bool) : (([a, b] : List Bool).any fun y => y == true) = (a || b) := by cases a <;> cases b <;> rfl
/-! ## _law_hollow -/
theorem c_hollow_at (ok : RsOk rs) {rd : Addr} (d : Nat) (ihd : ∀ e, d = e + 1 → ∀ (t : T) (n : Nat) (hp : Hp) (v : V) (Q : V → Hp → Prop), 8 * e + ht t ≤ n → IsT hp t v → TabT hp rd rs → (∀ hp', Ext No hp hp' → Q (.bool (mbe (El rs e) t)) hp') → callD g n .l_hollow [v, .ref rd, .int e] hp Q) :
    ∀ (t : T) (n : Nat) (hp : Hp) (v : V) (Q : V → Hp → Prop), 8 * d + ht t ≤ n → IsT hp t v → TabT hp rd rs → (∀ hp', Ext No hp hp' → Q (.bool (mbe (El rs d) t)) hp') → callD g n .l_hollow [v, .ref rd, .int d] hp Q := by
  intro t
  induction t with
  | text x =>
    intro n hp v Q hn hT hR h
    obtain ⟨m, rfl⟩ : ∃ m, n = m + 1 := ⟨n - 1, by simp only [ht] at hn; lia⟩
    obtain ⟨dd, rfl, hd⟩ := hT
    refine u_l_hollow ?_
    unfold b_l_hollow
    walk_at "ab"
    refine b_in2 (by decide +kernel) (r := false) (by decide +kernel) fun D hD X1 => ?_
    generalize hp.set D _ = h1 at X1 ⊢
    walk_at "ab"
    exact h h1 X1
  | eps =>
    intro n hp v Q hn hT hR h
    obtain ⟨m, rfl⟩ : ∃ m, n = m + 1 := ⟨n - 1, by simp only [ht] at hn; lia⟩
    obtain ⟨dd, e, rfl, hd, hee⟩ := hT
    refine u_l_hollow ?_
    unfold b_l_hollow
    walk_at "ab"
    refine b_in2 (by decide +kernel) (r := false) (by decide +kernel) fun D hD X1 => ?_
    generalize hp.set D _ = h1 at X1 ⊢
    walk_at "ab"
    refine r_compT (X1.get hee) (by simp) ?_
    refine l_nil (X1.get hee) fun D hD => ?_
    walk_at "ab"
    exact r_ninB (bs := []) (Hp.set_same ..) (h _ (X1.trans (Ext.alloc hD)))
  | opt a ih =>
    intro n hp v Q hn hT hR h
    obtain ⟨m, rfl⟩ : ∃ m, n = m + 1 := ⟨n - 1, by simp only [ht] at hn; lia⟩
    obtain ⟨dd, va, rfl, hd, ha⟩ := hT
    refine u_l_hollow ?_
    unfold b_l_hollow
    walk_at "ab"
    refine b_in2 (by decide +kernel) (r := true) (by decide +kernel) fun D hD X1 => ?_
    generalize hp.set D _ = h1 at X1 ⊢
    walk_at "ab"
    exact h h1 X1
  | rep a ih =>
    intro n hp v Q hn hT hR h
    obtain ⟨m, rfl⟩ : ∃ m, n = m + 1 := ⟨n - 1, by simp only [ht] at hn; lia⟩
    obtain ⟨dd, va, rfl, hd, ha⟩ := hT
    refine u_l_hollow ?_
    unfold b_l_hollow
    walk_at "ab"
    refine b_in2 (by decide +kernel) (r := true) (by decide +kernel) fun D hD X1 => ?_
    generalize hp.set D _ = h1 at X1 ⊢
    walk_at "ab"
    exact h h1 X1
  | seq a b iha ihb =>
    intro n hp v Q hn hT hR h
    simp only [ht] at hn
    obtain ⟨m, rfl⟩ : ∃ m, n = m + 1 := ⟨n - 1, by lia⟩
    obtain ⟨dd, e, va, vb, rfl, hd, hee, ha, hb⟩ := hT
    refine u_l_hollow ?_
    unfold b_l_hollow
    walk_at "ab"
    refine b_in2 (by decide +kernel) (r := false) (by decide +kernel) fun D hD X1 => ?_
    generalize hp.set D _ = h1 at X1 ⊢
    walk_at "ab"
    refine r_compT (X1.get hee) (by simp) ?_
    refine l_cons (X1.get hee) ?_
    walk_at "ab"
    refine iha m h1 va _ (by lia) (ha.ext X1) (hR.ext X1) fun h2 X2 => ?_
    have X02 := X1.trans X2
    refine l_cons (X02.get hee) ?_
    walk_at "ab"
    refine ihb m h2 vb _ (by lia) (hb.ext X02) (hR.ext X02) fun h3 X3 => ?_
    have X03 := X02.trans X3
    refine l_nil (X03.get hee) fun D hD => ?_
    walk_at "ab"
    refine r_ninB (bs := [mbe (El rs d) a, mbe (El rs d) b]) (Hp.set_same ..) ?_
    rw [nin2]
    exact h _ (X03.trans (Ext.alloc hD))
  | alt a b iha ihb =>
    intro n hp v Q hn hT hR h
    simp only [ht] at hn
    obtain ⟨m, rfl⟩ : ∃ m, n = m + 1 := ⟨n - 1, by lia⟩
    obtain ⟨dd, e, va, vb, rfl, hd, hee, ha, hb⟩ := hT
    refine u_l_hollow ?_
    unfold b_l_hollow
    walk_at "ab"
    refine b_in2 (by decide +kernel) (r := false) (by decide +kernel) fun D hD X1 => ?_
    generalize hp.set D _ = h1 at X1 ⊢
    walk_at "ab"
    refine r_compT (X1.get hee) (by simp) ?_
    refine l_cons (X1.get hee) ?_
    walk_at "ab"
    refine iha m h1 va _ (by lia) (ha.ext X1) (hR.ext X1) fun h2 X2 => ?_
    have X02 := X1.trans X2
    refine l_cons (X02.get hee) ?_
    walk_at "ab"
    refine ihb m h2 vb _ (by lia) (hb.ext X02) (hR.ext X02) fun h3 X3 => ?_
    have X03 := X02.trans X3
    refine l_nil (X03.get hee) fun D hD => ?_
    walk_at "ab"
    refine r_inB (bs := [mbe (El rs d) a, mbe (El rs d) b]) (Hp.set_same ..) ?_
    rw [in2]
    exact h _ (X03.trans (Ext.alloc hD))
  | name x =>
    intro n hp v Q hn hT hR h
    obtain ⟨m, rfl⟩ : ∃ m, n = m + 1 := ⟨n - 1, by simp only [ht] at hn; lia⟩
    obtain ⟨dd, rfl, hd⟩ := hT
    obtain ⟨ep, es, hr, hK, hv⟩ := hR.ex
    refine u_l_hollow ?_
    unfold b_l_hollow
    walk_at "ab"
    refine b_in2 (by decide +kernel) (r := false) (by decide +kernel) fun D hD X1 => ?_
    generalize hp.set D _ = h1 at X1 ⊢
    walk_at "ab"
    refine r_inD (X1.get hr) ?_
    rw [hK.eq]
    cases q : rs.lookup x with
    | none =>
      walk_at "ab"
      have hh := h h1 X1
      cases d with
      | zero => exact hh
      | succ d => unfold mbe El at hh; rw [q] at hh; exact hh
    | some u =>
      obtain ⟨w, hw1, hw2⟩ := hv x u q
      walk_at "ab"
      refine r_gt ?_
      cases d with
      | zero => exact h h1 X1
      | succ d =>
        rw [show decide ((0 : Int) < ((d + 1 : Nat) : Int)) = true from decide_eq_true (by lia)]
        walk_at "ab"
        refine r_subD (X1.get hr) hw1 ?_
        walk_at "ab"
        show callD g m .l_hollow [w, .ref rd, .int (((d + 1 : Nat) : Int) - 1)] h1 _
        rw [Int.natCast_succ, Int.add_sub_cancel]
        have hu := (ok.wf x u q).2
        simp only [ht] at hn
        refine ihd d rfl u m h1 w _ (by lia) (hw2.ext X1) (hR.ext X1) fun h2 X2 => ?_
        have hh := h h2 (X1.trans X2)
        unfold mbe El at hh
        rw [q] at hh
        exact hh
theorem c_hollow (ok : RsOk rs) {rd : Addr} : ∀ (d : Nat) (t : T) (n : Nat) (hp : Hp) (v : V) (Q : V → Hp → Prop), 8 * d + ht t ≤ n → IsT hp t v → TabT hp rd rs → (∀ hp', Ext No hp hp' → Q (.bool (mbe (El rs d) t)) hp') →
    callD g n .l_hollow [v, .ref rd, .int d] hp Q
  | 0 => c_hollow_at ok 0 fun e he => by cases he
  | d + 1 => c_hollow_at ok (d + 1) fun e he => by cases he; exact c_hollow ok d
end
end
section
theorem r_iaddS {hp : Hp} {Q : V → Hp → Prop} {x y : Addr} {ks ls : List Str} (hx : hp x = some (.list (ks.map V.str))) (hy : hp y = some (.list (ls.map V.str))) (hl : ks.length + ls.length ≤ 1000000) (h : Q (.ref x) (hp.set x (.list ((ks ++ ls).map V.str)))) : opIAdd (.ref x) (.ref y) hp Q := by
  unfold opIAdd; simp only [hx, hy]; rw [List.length_map, List.length_map, ← List.map_append]; exact ⟨hl, h⟩
theorem r_addS {hp : Hp} {Q : V → Hp → Prop} {x y : Addr} {ks ls : List Str} (hx : hp x = some (.list (ks.map V.str))) (hy : hp y = some (.list (ls.map V.str))) (hl : ks.length + ls.length ≤ 1000000) (h : ∀ D, hp D = none → Q (.ref D) (hp.set D (.list ((ks ++ ls).map V.str)))) : opBin .Add (.ref x) (.ref y) hp Q := by
  unfold opBin; simp only [hx, hy]; rw [List.length_map, List.length_map, ← List.map_append]; exact ⟨True.intro, hl, h⟩
theorem nul_seq {rs : Rules} {a b : T} : Nul rs (.seq a b) ↔ Nul rs a ∧ Nul rs b := ⟨fun h => by cases h with | seq p q => exact ⟨p, q⟩, fun h => .seq h.1 h.2⟩
theorem nul_alt {rs : Rules} {a b : T} : Nul rs (.alt a b) ↔ Nul rs a ∨ Nul rs b := ⟨fun h => by cases h with | altl p => exact .inl p | altr p => exact .inr p, fun h => h.elim .altl .altr⟩
theorem fo_name {rs : Rules} {F : Str → Str → Prop} {x y : Str} {u : T} (q : rs.lookup x = some u) : fo rs F (.name x) y = F x y := by unfold fo; rw [q]
theorem Hl_succ {rs : Rules} {d : Nat} {x y : Str} {u : T} (q : rs.lookup x = some u) : Hl rs (d + 1) x y = fo rs (Hl rs d) u y := by
  show (match rs.lookup x with | some t => fo rs (Hl rs d) t y | none => False) = _
  rw [q]
theorem nul_text {rs : Rules} {x : Str} : ¬ Nul rs (.text x) := fun h => by cases h
section
variable {g : Gl} {rs : Rules}
/-! ## _law_none -/
theorem c_lnone {hd : Addr} : ∀ (t : T) (n : Nat) (hp : Hp) (v : V) (Q : V → Hp → Prop), ht t ≤ n → IsT hp t v → HolD hp hd rs → (∀ b hp', Ext No hp hp' → (b = true ↔ Nul rs t) → Q (.bool b) hp') →
    callD g n .l_none [v, .ref hd] hp Q := by
  intro t
  induction t with
  | text x =>
    intro n hp v Q hn hT hH h
    obtain ⟨m, rfl⟩ : ∃ m, n = m + 1 := ⟨n - 1, by simp only [ht] at hn; lia⟩
    obtain ⟨dd, rfl, hd⟩ := hT
    refine u_l_none ?_
    unfold b_l_none
    walk_at "ab"
    refine b_in2 (by decide +kernel) (r := false) (by decide +kernel) fun D hD X1 => ?_
    generalize hp.set D _ = h1 at X1 ⊢
    walk_at "ab"
    refine b_in2 (by decide +kernel) (r := false) (by decide +kernel) fun D hD X2 => ?_
    walk_at "ab"
    exact h false _ (X1.trans X2) ⟨(fun e => by cases e), fun e => (nul_text e).elim⟩
  | eps =>
    intro n hp v Q hn hT hH h
    obtain ⟨m, rfl⟩ : ∃ m, n = m + 1 := ⟨n - 1, by simp only [ht] at hn; lia⟩
    obtain ⟨dd, e, rfl, hd, hee⟩ := hT
    refine u_l_none ?_
    unfold b_l_none
    walk_at "ab"
    refine b_in2 (by decide +kernel) (r := false) (by decide +kernel) fun D hD X1 => ?_
    generalize hp.set D _ = h1 at X1 ⊢
    walk_at "ab"
    refine b_in2 (by decide +kernel) (r := true) (by decide +kernel) fun D hD X2 => ?_
    have X12 := X1.trans X2
    generalize h1.set D _ = h2 at X12 ⊢
    walk_at "ab"
    refine r_compT (X12.get hee) (by simp) ?_
    refine l_nil (X12.get hee) fun D hD => ?_
    walk_at "ab"
    exact r_ninB (bs := []) (Hp.set_same ..) (h true _ (X12.trans (Ext.alloc hD)) ⟨fun _ => .eps, fun _ => rfl⟩)
  | opt a ih =>
    intro n hp v Q hn hT hH h
    obtain ⟨m, rfl⟩ : ∃ m, n = m + 1 := ⟨n - 1, by simp only [ht] at hn; lia⟩
    obtain ⟨dd, va, rfl, hd, ha⟩ := hT
    refine u_l_none ?_
    unfold b_l_none
    walk_at "ab"
    refine b_in2 (by decide +kernel) (r := true) (by decide +kernel) fun D hD X1 => ?_
    walk_at "ab"
    exact h true _ X1 ⟨fun _ => .opt, fun _ => rfl⟩
  | rep a ih =>
    intro n hp v Q hn hT hH h
    obtain ⟨m, rfl⟩ : ∃ m, n = m + 1 := ⟨n - 1, by simp only [ht] at hn; lia⟩
    obtain ⟨dd, va, rfl, hd, ha⟩ := hT
    refine u_l_none ?_
    unfold b_l_none
    walk_at "ab"
    refine b_in2 (by decide +kernel) (r := true) (by decide +kernel) fun D hD X1 => ?_
    walk_at "ab"
    exact h true _ X1 ⟨fun _ => .rep, fun _ => rfl⟩
  | seq a b iha ihb =>
    intro n hp v Q hn hT hH h
    simp only [ht] at hn
    obtain ⟨m, rfl⟩ : ∃ m, n = m + 1 := ⟨n - 1, by lia⟩
    obtain ⟨dd, e, va, vb, rfl, hd, hee, ha, hb⟩ := hT
    refine u_l_none ?_
    unfold b_l_none
    walk_at "ab"
    refine b_in2 (by decide +kernel) (r := false) (by decide +kernel) fun D hD X1 => ?_
    generalize hp.set D _ = h1 at X1 ⊢
    walk_at "ab"
    refine b_in2 (by decide +kernel) (r := true) (by decide +kernel) fun D hD X2 => ?_
    have X12 := X1.trans X2
    generalize h1.set D _ = h2 at X12 ⊢
    walk_at "ab"
    refine r_compT (X12.get hee) (by simp) ?_
    refine l_cons (X12.get hee) ?_
    walk_at "ab"
    refine iha m h2 va _ (by lia) (ha.ext X12) (hH.ext X12) fun b1 h3 X3 e1 => ?_
    have X13 := X12.trans X3
    refine l_cons (X13.get hee) ?_
    walk_at "ab"
    refine ihb m h3 vb _ (by lia) (hb.ext X13) (hH.ext X13) fun b2 h4 X4 e2 => ?_
    have X14 := X13.trans X4
    refine l_nil (X14.get hee) fun D hD => ?_
    walk_at "ab"
    refine r_ninB (bs := [b1, b2]) (Hp.set_same ..) ?_
    rw [nin2]
    exact h _ _ (X14.trans (Ext.alloc hD)) (by rw [Bool.and_eq_true, e1, e2, nul_seq])
  | alt a b iha ihb =>
    intro n hp v Q hn hT hH h
    simp only [ht] at hn
    obtain ⟨m, rfl⟩ : ∃ m, n = m + 1 := ⟨n - 1, by lia⟩
    obtain ⟨dd, e, va, vb, rfl, hd, hee, ha, hb⟩ := hT
    refine u_l_none ?_
    unfold b_l_none
    walk_at "ab"
    refine b_in2 (by decide +kernel) (r := false) (by decide +kernel) fun D hD X1 => ?_
    generalize hp.set D _ = h1 at X1 ⊢
    walk_at "ab"
    refine b_in2 (by decide +kernel) (r := true) (by decide +kernel) fun D hD X2 => ?_
    have X12 := X1.trans X2
    generalize h1.set D _ = h2 at X12 ⊢
    walk_at "ab"
    refine r_compT (X12.get hee) (by simp) ?_
    refine l_cons (X12.get hee) ?_
    walk_at "ab"
    refine iha m h2 va _ (by lia) (ha.ext X12) (hH.ext X12) fun b1 h3 X3 e1 => ?_
    have X13 := X12.trans X3
    refine l_cons (X13.get hee) ?_
    walk_at "ab"
    refine ihb m h3 vb _ (by lia) (hb.ext X13) (hH.ext X13) fun b2 h4 X4 e2 => ?_
    have X14 := X13.trans X4
    refine l_nil (X14.get hee) fun D hD => ?_
    walk_at "ab"
    refine r_inB (bs := [b1, b2]) (Hp.set_same ..) ?_
    rw [in2]
    exact h _ _ (X14.trans (Ext.alloc hD)) (by rw [Bool.or_eq_true, e1, e2, nul_alt])
  | name x =>
    intro n hp v Q hn hT hH h
    obtain ⟨m, rfl⟩ : ∃ m, n = m + 1 := ⟨n - 1, by simp only [ht] at hn; lia⟩
    obtain ⟨dd, rfl, hd⟩ := hT
    obtain ⟨ep, es, hr, hno, hsm⟩ := hH
    refine u_l_none ?_
    unfold b_l_none
    walk_at "ab"
    refine b_in2 (by decide +kernel) (r := false) (by decide +kernel) fun D hD X1 => ?_
    generalize hp.set D _ = h1 at X1 ⊢
    walk_at "ab"
    refine b_in2 (by decide +kernel) (r := false) (by decide +kernel) fun D hD X2 => ?_
    have X12 := X1.trans X2
    generalize h1.set D _ = h2 at X12 ⊢
    walk_at "ab"
    refine r_inD (X12.get hr) ?_
    cases q : rs.lookup x with
    | none =>
      rw [hno x q]
      walk_at "ab"
      exact h false _ X12 ⟨(fun e => by cases e), fun e => by obtain ⟨t, e1, _⟩ := nul_name.mp e; rw [q] at e1; cases e1⟩
    | some t =>
      obtain ⟨b, hb1, hb2⟩ := hsm x t q
      rw [hb1]
      walk_at "ab"
      refine r_subD (X12.get hr) hb1 ?_
      exact h b _ X12 hb2

/-! ## _law_heads -/
theorem c_heads_at (ok : RsOk rs) {rd hd : Addr} (d : Nat) (ihd : ∀ e, d = e + 1 → ∀ (t : T) (n : Nat) (hp : Hp) (v : V) (Q : V → Hp → Prop), 8 * e + ht t + 1 ≤ n → 4 * e + ht t ≤ 16 → Wf t → IsT hp t v → TabT hp rd rs → HolD hp hd rs →
      (∀ D hp' (ks : List Str), Ext No hp hp' → hp' D = some (.list (ks.map V.str)) → (∀ y, y ∈ ks ↔ fo rs (Hl rs e) t y) → (∀ y ∈ ks, y ∈ univ) → ks.length ≤ 2 ^ (4 * e + ht t) → Q (.ref D) hp') → callD g n .l_heads [v, .ref rd, .ref hd, .int e] hp Q) :
    ∀ (t : T) (n : Nat) (hp : Hp) (v : V) (Q : V → Hp → Prop), 8 * d + ht t + 1 ≤ n → 4 * d + ht t ≤ 16 → Wf t → IsT hp t v → TabT hp rd rs → HolD hp hd rs →
      (∀ D hp' (ks : List Str), Ext No hp hp' → hp' D = some (.list (ks.map V.str)) → (∀ y, y ∈ ks ↔ fo rs (Hl rs d) t y) → (∀ y ∈ ks, y ∈ univ) → ks.length ≤ 2 ^ (4 * d + ht t) → Q (.ref D) hp') → callD g n .l_heads [v, .ref rd, .ref hd, .int d] hp Q := by
  intro t
  induction t with
  | text x =>
    intro n hp v Q hn h16 hw hT hR hH h
    obtain ⟨m, rfl⟩ : ∃ m, n = m + 1 := ⟨n - 1, by simp only [ht] at hn; lia⟩
    obtain ⟨dd, rfl, hd⟩ := hT
    refine u_l_heads ?_
    unfold b_l_heads
    walk_at "ab"
    intro D hD
    exact h D _ [x] (Ext.alloc hD) (Hp.set_same ..) (fun y => List.mem_singleton) (fun y hy => by rw [List.mem_singleton] at hy; rw [hy]; exact hw) (Nat.pow_pos (by decide))
  | eps =>
    intro n hp v Q hn h16 hw hT hR hH h
    obtain ⟨m, rfl⟩ : ∃ m, n = m + 1 := ⟨n - 1, by simp only [ht] at hn; lia⟩
    obtain ⟨dd, e, rfl, hd, hee⟩ := hT
    refine u_l_heads ?_
    unfold b_l_heads
    walk_at "ab"
    refine b_in2 (by decide +kernel) (r := false) (by decide +kernel) fun D hD X1 => ?_
    generalize hp.set D _ = h1 at X1 ⊢
    walk_at "ab"
    intro D hD
    have X2 : Ext No hp (h1.set D (.list [])) := X1.trans (Ext.alloc hD)
    have hee2 := X2.get hee
    walk_at "ab"
    exact h D _ [] X2 (Hp.set_same ..) (fun y => by simp [fo]) (fun y hy => by cases hy) (Nat.zero_le _)
  | opt a ih =>
    intro n hp v Q hn h16 hw hT hR hH h
    simp only [ht] at hn h16
    obtain ⟨m, rfl⟩ : ∃ m, n = m + 1 := ⟨n - 1, by lia⟩
    obtain ⟨dd, va, rfl, hd, ha⟩ := hT
    refine u_l_heads ?_
    unfold b_l_heads
    walk_at "ab"
    refine b_in2 (by decide +kernel) (r := true) (by decide +kernel) fun D hD X1 => ?_
    generalize hp.set D _ = h1 at X1 ⊢
    walk_at "ab"
    exact ih m h1 va _ (by lia) (by lia) hw (ha.ext X1) (hR.ext X1) (hH.ext X1) fun D h2 ks X2 a1 a2 a3 a4 => h D h2 ks (X1.trans X2) a1 a2 a3 (Nat.le_trans a4 (Nat.pow_le_pow_right (by decide) (Nat.le_succ _)))
  | rep a ih =>
    intro n hp v Q hn h16 hw hT hR hH h
    simp only [ht] at hn h16
    obtain ⟨m, rfl⟩ : ∃ m, n = m + 1 := ⟨n - 1, by lia⟩
    obtain ⟨dd, va, rfl, hd, ha⟩ := hT
    refine u_l_heads ?_
    unfold b_l_heads
    walk_at "ab"
    refine b_in2 (by decide +kernel) (r := true) (by decide +kernel) fun D hD X1 => ?_
    generalize hp.set D _ = h1 at X1 ⊢
    walk_at "ab"
    exact ih m h1 va _ (by lia) (by lia) hw (ha.ext X1) (hR.ext X1) (hH.ext X1) fun D h2 ks X2 a1 a2 a3 a4 => h D h2 ks (X1.trans X2) a1 a2 a3 (Nat.le_trans a4 (Nat.pow_le_pow_right (by decide) (Nat.le_succ _)))
  | seq a b iha ihb =>
    intro n hp v Q hn h16 hw hT hR hH h
    simp only [ht] at hn h16
    obtain ⟨m, rfl⟩ : ∃ m, n = m + 1 := ⟨n - 1, by lia⟩
    obtain ⟨dd, e, va, vb, rfl, hd, hee, ha, hb⟩ := hT
    have la : 2 ^ (4 * d + ht a) ≤ 2 ^ (4 * d + max (ht a) (ht b)) := Nat.pow_le_pow_right (by decide) (by lia)
    have lb : 2 ^ (4 * d + ht b) ≤ 2 ^ (4 * d + max (ht a) (ht b)) := Nat.pow_le_pow_right (by decide) (by lia)
    have lm : 2 ^ (4 * d + max (ht a) (ht b)) ≤ 2 ^ 16 := Nat.pow_le_pow_right (by decide) (by lia)
    have lt2 : 2 ^ (4 * d + ht (.seq a b)) = 2 ^ (4 * d + max (ht a) (ht b)) * 2 := Nat.pow_succ ..
    refine u_l_heads ?_
    unfold b_l_heads
    walk_at "ab"
    refine b_in2 (by decide +kernel) (r := false) (by decide +kernel) fun D hD X1 => ?_
    generalize hp.set D _ = h1 at X1 ⊢
    walk_at "ab"
    intro D hD
    have X2 : Ext No hp (h1.set D (.list [])) := X1.trans (Ext.alloc hD)
    have hee2 := X2.get hee
    have hD2 : (h1.set D (.list [])) D = some (.list (([] : List Str).map V.str)) := Hp.set_same ..
    have hD0 := X1.new hD
    generalize (h1.set D (.list [])) = h2 at X2 hee2 hD2 ⊢
    walk_at "ab"
    refine iha m h2 va _ (by lia) (by lia) hw.1 (ha.ext X2) (hR.ext X2) (hH.ext X2) fun D3 h3 ks X3 a1 a2 a3 a4 => ?_
    have X03 := X2.trans X3
    refine r_iaddS (X3.get hD2) a1 (by simp only [List.length_nil]; lia) ?_
    rw [List.nil_append]
    have X4 := X03.own (o := .list (ks.map V.str)) hD0
    have hD4 : (h3.set D (.list (ks.map V.str))) D = some (.list (ks.map V.str)) := Hp.set_same ..
    generalize (h3.set D (.list (ks.map V.str))) = h4 at X4 hD4 ⊢
    walk_at "ab"
    refine c_lnone a m h4 va _ (by lia) (ha.ext X4) (hH.ext X4) fun b1 h5 X5 e1 => ?_
    have X05 := X4.trans X5
    have hee5 := X05.get hee
    cases b1 with
    | false =>
      walk_at "ab"
      refine h D h5 ks X05 (X5.get hD4) (fun y => (a2 y).trans ?_) a3 (by lia)
      have hna : ¬ Nul rs a := fun q => by have := e1.mpr q; cases this
      exact ⟨.inl, fun q => q.elim id fun q => absurd q.1 hna⟩
    | true =>
      walk_at "ab"
      refine ihb m h5 vb _ (by lia) (by lia) hw.2 (hb.ext X05) (hR.ext X05) (hH.ext X05) fun D6 h6 ks' X6 c1 c2 c3 c4 => ?_
      refine r_iaddS (X6.get (X5.get hD4)) c1 (by lia) ?_
      have X7 := (X05.trans X6).own (o := .list ((ks ++ ks').map V.str)) hD0
      have hD7 : (h6.set D (.list ((ks ++ ks').map V.str))) D = some (.list ((ks ++ ks').map V.str)) := Hp.set_same ..
      generalize (h6.set D (.list ((ks ++ ks').map V.str))) = h7 at X7 hD7 ⊢
      walk_at "ab"
      refine c_lnone b m h7 vb _ (by lia) (hb.ext X7) (hH.ext X7) fun b2 h8 X8 e2 => ?_
      have X08 := X7.trans X8
      have hee8 := X08.get hee
      have fin : Q (.ref D) h8 := h D h8 (ks ++ ks') X08 (X8.get hD7) (fun y => by
        rw [List.mem_append, a2, c2]
        exact ⟨fun q => q.imp id fun q => ⟨e1.mp rfl, q⟩, fun q => q.imp id (·.2)⟩) (fun y hy => (List.mem_append.mp hy).elim (a3 y) (c3 y)) (by rw [List.length_append]; lia)
      cases b2 with
      | false => walk_at "ab"; exact fin
      | true => walk_at "ab"; exact fin
  | alt a b iha ihb =>
    intro n hp v Q hn h16 hw hT hR hH h
    simp only [ht] at hn h16
    obtain ⟨m, rfl⟩ : ∃ m, n = m + 1 := ⟨n - 1, by lia⟩
    obtain ⟨dd, e, va, vb, rfl, hd, hee, ha, hb⟩ := hT
    have la : 2 ^ (4 * d + ht a) ≤ 2 ^ (4 * d + max (ht a) (ht b)) := Nat.pow_le_pow_right (by decide) (by lia)
    have lb : 2 ^ (4 * d + ht b) ≤ 2 ^ (4 * d + max (ht a) (ht b)) := Nat.pow_le_pow_right (by decide) (by lia)
    have lm : 2 ^ (4 * d + max (ht a) (ht b)) ≤ 2 ^ 16 := Nat.pow_le_pow_right (by decide) (by lia)
    have lt2 : 2 ^ (4 * d + ht (.alt a b)) = 2 ^ (4 * d + max (ht a) (ht b)) * 2 := Nat.pow_succ ..
    refine u_l_heads ?_
    unfold b_l_heads
    walk_at "ab"
    refine b_in2 (by decide +kernel) (r := false) (by decide +kernel) fun D hD X1 => ?_
    generalize hp.set D _ = h1 at X1 ⊢
    walk_at "ab"
    intro D hD
    have X2 : Ext No hp (h1.set D (.list [])) := X1.trans (Ext.alloc hD)
    have hee2 := X2.get hee
    have hD2 : (h1.set D (.list [])) D = some (.list (([] : List Str).map V.str)) := Hp.set_same ..
    have hD0 := X1.new hD
    generalize (h1.set D (.list [])) = h2 at X2 hee2 hD2 ⊢
    walk_at "ab"
    refine iha m h2 va _ (by lia) (by lia) hw.1 (ha.ext X2) (hR.ext X2) (hH.ext X2) fun D3 h3 ks X3 a1 a2 a3 a4 => ?_
    have X03 := X2.trans X3
    refine r_iaddS (X3.get hD2) a1 (by simp only [List.length_nil]; lia) ?_
    rw [List.nil_append]
    have X4 := X03.own (o := .list (ks.map V.str)) hD0
    have hee4 := X4.get hee
    have hD4 : (h3.set D (.list (ks.map V.str))) D = some (.list (ks.map V.str)) := Hp.set_same ..
    generalize (h3.set D (.list (ks.map V.str))) = h4 at X4 hD4 hee4 ⊢
    walk_at "ab"
    refine ihb m h4 vb _ (by lia) (by lia) hw.2 (hb.ext X4) (hR.ext X4) (hH.ext X4) fun D6 h6 ks' X6 c1 c2 c3 c4 => ?_
    refine r_iaddS (X6.get hD4) c1 (by lia) ?_
    have X7 := (X4.trans X6).own (o := .list ((ks ++ ks').map V.str)) hD0
    have hee7 := X7.get hee
    walk_at "ab"
    exact h D _ (ks ++ ks') X7 (Hp.set_same ..) (fun y => by rw [List.mem_append, a2, c2]; exact Iff.rfl) (fun y hy => (List.mem_append.mp hy).elim (a3 y) (c3 y)) (by rw [List.length_append]; lia)
  | name x =>
    intro n hp v Q hn h16 hw hT hR hH h
    simp only [ht] at hn h16
    obtain ⟨m, rfl⟩ : ∃ m, n = m + 1 := ⟨n - 1, by lia⟩
    obtain ⟨dd, rfl, hd0⟩ := hT
    obtain ⟨ep, es, hr, hK, hv⟩ := hR.ex
    refine u_l_heads ?_
    unfold b_l_heads
    walk_at "ab"
    refine r_ninD hr ?_
    rw [hK.eq]
    cases q : rs.lookup x with
    | none =>
      walk_at "ab"
      intro D hD
      exact h D _ [x] (Ext.alloc hD) (Hp.set_same ..) (fun y => by unfold fo; rw [q]; exact List.mem_singleton) (fun y hy => by rw [List.mem_singleton] at hy; rw [hy]; exact hw) (Nat.pow_pos (by decide))
    | some u =>
      obtain ⟨w, hw1, hw2⟩ := hv x u q
      obtain ⟨hwf, hu⟩ := ok.wf x u q
      walk_at "ab"
      refine r_gt ?_
      cases d with
      | zero =>
        rw [show decide ((0 : Int) < ((0 : Nat) : Int)) = false from rfl]
        walk_at "ab"
        intro D hD
        exact h D _ [] (Ext.alloc hD) (Hp.set_same ..) (fun y => by unfold fo; rw [q]; simp [Hl]) (fun y hy => by cases hy) (Nat.zero_le _)
      | succ d =>
        rw [show decide ((0 : Int) < ((d + 1 : Nat) : Int)) = true from decide_eq_true (by lia)]
        walk_at "ab"
        refine r_subD hr hw1 ?_
        walk_at "ab"
        show callD g m .l_heads [w, .ref rd, .ref hd, .int (((d + 1 : Nat) : Int) - 1)] hp _
        rw [Int.natCast_succ, Int.add_sub_cancel]
        refine ihd d rfl u m hp w _ (by lia) (by lia) hwf hw2 hR hH fun D h2 ks X2 a1 a2 a3 a4 => h D h2 ks X2 a1 (fun y => (a2 y).trans ?_) a3 (Nat.le_trans a4 (Nat.pow_le_pow_right (by decide) (by simp only [ht]; lia)))
        rw [fo_name q, Hl_succ q]
theorem c_heads (ok : RsOk rs) {rd hd : Addr} : ∀ (d : Nat) (t : T) (n : Nat) (hp : Hp) (v : V) (Q : V → Hp → Prop), 8 * d + ht t + 1 ≤ n → 4 * d + ht t ≤ 16 → Wf t → IsT hp t v → TabT hp rd rs → HolD hp hd rs →
      (∀ D hp' (ks : List Str), Ext No hp hp' → hp' D = some (.list (ks.map V.str)) → (∀ y, y ∈ ks ↔ fo rs (Hl rs d) t y) → (∀ y ∈ ks, y ∈ univ) → ks.length ≤ 2 ^ (4 * d + ht t) → Q (.ref D) hp') → callD g n .l_heads [v, .ref rd, .ref hd, .int d] hp Q
  | 0 => c_heads_at ok 0 fun e he => by cases he
  | d + 1 => c_heads_at ok (d + 1) fun e he => by cases he; exact c_heads ok d
end
end
section
theorem canon_congrU {P P' : Str → Prop} (h : ∀ x ∈ univ, P x ↔ P' x) : canon P = canon P' := by
  unfold canon
  exact List.filter_congr fun x hx => by
    have := h x (mem_srt.mp hx)
    exact decide_eq_decide.mpr this
theorem canon_one {k : Str} {P : Str → Prop} (hk : k ∈ univ) (h : ∀ y, P y ↔ y = k) : [k] = canon P := canon_eq (List.pairwise_singleton _ _) (List.nodup_cons.mpr ⟨(fun h => by cases h), List.nodup_nil⟩) (fun x => by rw [List.mem_singleton, h]) (fun x hx => by rw [List.mem_singleton] at hx; rw [hx]; exact hk)
theorem canon_in {P : Str → Prop} : ∀ x ∈ canon P, x ∈ univ := fun x h => (mem_canon.mp h).1
noncomputable def Mu (M : Addr → Prop) (hB hp : Hp) : Prop := ∀ x, M x → hB x = none ∧ hp x ≠ none
theorem Mu.ext {M M' : Addr → Prop} {hB hp hp'} (X : Ext M' hp hp') (h : Mu M hB hp) : Mu M hB hp' := fun x hx => ⟨(h x hx).1, X.live x (h x hx).2⟩
theorem Mu.nw {M : Addr → Prop} {hB hp} (h : Mu M hB hp) {D} (hD : hp D = none) : ¬ M D := fun m => (h D m).2 hD
theorem Mu.old {M : Addr → Prop} {hB hp} (h : Mu M hB hp) {D o} (hD : hB D = some o) : ¬ M D := fun m => by rw [(h D m).1] at hD; cases hD
theorem r_sset {hp : Hp} {Q : V → Hp → Prop} {x : Addr} {ss : List Str} {P : Str → Prop} (hx : hp x = some (.list (ss.map V.str))) (hu : ∀ y ∈ ss, y ∈ univ) (hP : ∀ y ∈ univ, y ∈ ss ↔ P y) (h : ∀ D, hp D = none → Q (.ref D) (hp.set D (.list ((canon P).map V.str)))) : ssetK Q [.ref x] hp :=
  ⟨ss, univ, hx, hu, by decide, fun D hD => by rw [uniq_canon hu, canon_congrU hP]; exact h D hD⟩
theorem fst_text {rs : Rules} {x y : Str} : Fst rs (.text x) y ↔ y = x := ⟨(fun h => by cases h; rfl), fun h => h ▸ .text⟩
theorem fst_tok {rs : Rules} {x y : Str} (q : rs.lookup x = none) : Fst rs (.name x) y ↔ y = x := by
  refine ⟨fun h => ?_, fun h => by subst h; exact .tok q⟩
  cases h with
  | tok _ => rfl
  | name e _ => rw [q] at e; cases e
theorem fst_eps {rs : Rules} {y : Str} : ¬ Fst rs .eps y := fun h => by cases h
theorem fst_seq {rs : Rules} {a b : T} {y : Str} : Fst rs (.seq a b) y ↔ Fst rs a y ∨ (Nul rs a ∧ Fst rs b y) := by
  refine ⟨fun h => ?_, fun h => h.elim .seql fun h => .seqr h.1 h.2⟩
  cases h with
  | seql h => exact .inl h
  | seqr n h => exact .inr ⟨n, h⟩
theorem fst_alt {rs : Rules} {a b : T} {y : Str} : Fst rs (.alt a b) y ↔ Fst rs a y ∨ Fst rs b y := by
  refine ⟨fun h => ?_, fun h => h.elim .altl .altr⟩
  cases h with
  | altl h => exact .inl h
  | altr h => exact .inr h
theorem fst_opt {rs : Rules} {a : T} {y : Str} : Fst rs (.opt a) y ↔ Fst rs a y := ⟨(fun h => by cases h; assumption), .opt⟩
theorem fst_rep {rs : Rules} {a : T} {y : Str} : Fst rs (.rep a) y ↔ Fst rs a y := ⟨(fun h => by cases h; assumption), .rep⟩
section
variable {g : Gl} {rs : Rules} {hB : Hp} {fa rd hd ed : Addr} {M : Addr → Prop}
/-! ## _law_front -/
theorem c_front (FB : Fcts hB fa rd hd ed rs) : ∀ (t : T) (n : Nat) (hp : Hp) (v : V) (Q : V → Hp → Prop), ht t + 1 ≤ n → Wf t → IsT hp t v → Ext No hB hp → Mu M hB hp → (∀ l hp', Ext No hp hp' → LS hp' l (Fst rs t) → ¬ M l → Q (.ref l) hp') →
    callD g n .l_front [v, .ref fa] hp Q := by
  intro t
  induction t with
  | text x =>
    intro n hp v Q hn hw hT X U h
    obtain ⟨m, rfl⟩ : ∃ m, n = m + 1 := ⟨n - 1, by lia⟩
    obtain ⟨dd, rfl, hd0⟩ := hT
    have hfa := X.get FB.1
    refine u_l_front ?_
    unfold b_l_front
    walk_at "ab"
    intro D hD
    exact h D _ (Ext.alloc hD) (by unfold LS; rw [Hp.set_same, ← canon_one (k := x) hw fun y => fst_text]; rfl) (U.nw hD)
  | name x =>
    intro n hp v Q hn hw hT X U h
    obtain ⟨m, rfl⟩ : ∃ m, n = m + 1 := ⟨n - 1, by lia⟩
    obtain ⟨dd, rfl, hd0⟩ := hT
    have hfa := X.get FB.1
    obtain ⟨ep, es, hr, hK, hv⟩ := FB.2.1.ex
    refine u_l_front ?_
    unfold b_l_front
    walk_at "ab"
    refine r_ninD (X.get hr) ?_
    rw [hK.eq]
    cases q : rs.lookup x with
    | none =>
      walk_at "ab"
      intro D hD
      exact h D _ (Ext.alloc hD) (by unfold LS; rw [Hp.set_same, ← canon_one (k := x) hw fun y => fst_tok q]; rfl) (U.nw hD)
    | some u =>
      obtain ⟨epe, ese, he, hes⟩ := FB.2.2.2
      obtain ⟨l, hl1, hl2⟩ := hes x u q
      walk_at "ab"
      refine r_subD (X.get he) hl1 ?_
      exact h l hp (Ext.refl _) (X.get hl2) (U.old hl2)
  | eps =>
    intro n hp v Q hn hw hT X U h
    obtain ⟨m, rfl⟩ : ∃ m, n = m + 1 := ⟨n - 1, by lia⟩
    obtain ⟨dd, e, rfl, hd0, hee⟩ := hT
    have hfa := X.get FB.1
    refine u_l_front ?_
    unfold b_l_front
    walk_at "ab"
    refine b_in2 (by decide +kernel) (r := false) (by decide +kernel) fun D hD X1 => ?_
    generalize hp.set D _ = h1 at X1 ⊢
    walk_at "ab"
    intro D hD
    have X2 : Ext No hp (h1.set D (.list [])) := X1.trans (Ext.alloc hD)
    have hee2 := X2.get hee
    walk_at "ab"
    refine r_sset (ss := []) (P := Fst rs .eps) (Hp.set_same ..) (fun y hy => by cases hy) (fun y _ => ⟨(fun hy => by cases hy), fun e => (fst_eps e).elim⟩) fun D2 hD2 => ?_
    exact h D2 _ (X2.trans (Ext.alloc hD2)) (Hp.set_same ..) ((U.ext X2).nw hD2)
  | opt a ih =>
    intro n hp v Q hn hw hT X U h
    simp only [ht] at hn
    obtain ⟨m, rfl⟩ : ∃ m, n = m + 1 := ⟨n - 1, by lia⟩
    obtain ⟨dd, va, rfl, hd0, ha⟩ := hT
    have hfa := X.get FB.1
    refine u_l_front ?_
    unfold b_l_front
    walk_at "ab"
    refine b_in2 (by decide +kernel) (r := true) (by decide +kernel) fun D hD X1 => ?_
    generalize hp.set D _ = h1 at X1 ⊢
    walk_at "ab"
    refine ih m h1 va _ (by lia) hw (ha.ext X1) (X.trans X1) (U.ext X1) fun l h2 X2 a1 a2 => h l h2 (X1.trans X2) ?_ a2
    unfold LS at a1 ⊢
    rw [canon_congr fun x => fst_opt]; exact a1
  | rep a ih =>
    intro n hp v Q hn hw hT X U h
    simp only [ht] at hn
    obtain ⟨m, rfl⟩ : ∃ m, n = m + 1 := ⟨n - 1, by lia⟩
    obtain ⟨dd, va, rfl, hd0, ha⟩ := hT
    have hfa := X.get FB.1
    refine u_l_front ?_
    unfold b_l_front
    walk_at "ab"
    refine b_in2 (by decide +kernel) (r := true) (by decide +kernel) fun D hD X1 => ?_
    generalize hp.set D _ = h1 at X1 ⊢
    walk_at "ab"
    refine ih m h1 va _ (by lia) hw (ha.ext X1) (X.trans X1) (U.ext X1) fun l h2 X2 a1 a2 => h l h2 (X1.trans X2) ?_ a2
    unfold LS at a1 ⊢
    rw [canon_congr fun x => fst_rep]; exact a1
  | seq a b iha ihb =>
    intro n hp v Q hn hw hT X U h
    simp only [ht] at hn
    obtain ⟨m, rfl⟩ : ∃ m, n = m + 1 := ⟨n - 1, by lia⟩
    obtain ⟨dd, e, va, vb, rfl, hd0, hee, ha, hb⟩ := hT
    have hfa := X.get FB.1
    have l9 := canon_len (Fst rs a)
    have l9' := canon_len (Fst rs b)
    refine u_l_front ?_
    unfold b_l_front
    walk_at "ab"
    refine b_in2 (by decide +kernel) (r := false) (by decide +kernel) fun D hD X1 => ?_
    generalize hp.set D _ = h1 at X1 ⊢
    walk_at "ab"
    intro D hD
    have X2 : Ext No hp (h1.set D (.list [])) := X1.trans (Ext.alloc hD)
    have hee2 := X2.get hee
    have hD2 : (h1.set D (.list [])) D = some (.list (([] : List Str).map V.str)) := Hp.set_same ..
    generalize (h1.set D (.list [])) = h2 at X2 hee2 hD2 ⊢
    walk_at "ab"
    refine iha m h2 va _ (by lia) hw.1 (ha.ext X2) (X.trans X2) (U.ext X2) fun l3 h3 X3 a1 a2 => ?_
    refine r_addS (X3.get hD2) a1 (by simp only [List.length_nil]; lia) fun D4 hD4 => ?_
    rw [List.nil_append]
    have X4 := (X2.trans X3).trans (Ext.alloc hD4 (o := .list ((canon (Fst rs a)).map V.str)))
    have hD4' : (h3.set D4 (.list ((canon (Fst rs a)).map V.str))) D4 = some (.list ((canon (Fst rs a)).map V.str)) := Hp.set_same ..
    generalize (h3.set D4 (.list ((canon (Fst rs a)).map V.str))) = h4 at X4 hD4' ⊢
    walk_at "ab"
    refine c_lnone a m h4 va _ (by lia) (ha.ext X4) (FB.2.2.1.ext (X.trans X4)) fun b1 h5 X5 e1 => ?_
    have X05 := X4.trans X5
    have hee5 := X05.get hee
    cases b1 with
    | false =>
      walk_at "ab"
      refine r_sset (P := Fst rs (.seq a b)) (X5.get hD4') canon_in (fun y hy => ?_) fun D2 hD2 => ?_
      · rw [mem_canon, fst_seq]
        have hna : ¬ Nul rs a := fun q => by have := e1.mpr q; cases this
        exact ⟨fun q => .inl q.2, fun q => q.elim (fun q => ⟨hy, q⟩) fun q => absurd q.1 hna⟩
      · exact h D2 _ (X05.trans (Ext.alloc hD2)) (Hp.set_same ..) ((U.ext X05).nw hD2)
    | true =>
      walk_at "ab"
      refine ihb m h5 vb _ (by lia) hw.2 (hb.ext X05) (X.trans X05) (U.ext X05) fun l6 h6 X6 c1 c2 => ?_
      refine r_addS (X6.get (X5.get hD4')) c1 (by lia) fun D7 hD7 => ?_
      have X7 := (X05.trans X6).trans (Ext.alloc hD7 (o := .list ((canon (Fst rs a) ++ canon (Fst rs b)).map V.str)))
      have hD7' : (h6.set D7 (.list ((canon (Fst rs a) ++ canon (Fst rs b)).map V.str))) D7 = some (.list ((canon (Fst rs a) ++ canon (Fst rs b)).map V.str)) := Hp.set_same ..
      generalize (h6.set D7 (.list ((canon (Fst rs a) ++ canon (Fst rs b)).map V.str))) = h7 at X7 hD7' ⊢
      walk_at "ab"
      refine c_lnone b m h7 vb _ (by lia) (hb.ext X7) (FB.2.2.1.ext (X.trans X7)) fun b2 h8 X8 e2 => ?_
      have X08 := X7.trans X8
      have hee8 := X08.get hee
      have fin : ssetK Q [.ref D7] h8 := by
        refine r_sset (P := Fst rs (.seq a b)) (X8.get hD7') (fun y hy => (List.mem_append.mp hy).elim (canon_in y) (canon_in y)) (fun y hy => ?_) fun D2 hD2 => ?_
        · rw [List.mem_append, mem_canon, mem_canon, fst_seq]
          exact ⟨fun q => q.imp (·.2) fun q => ⟨e1.mp rfl, q.2⟩, fun q => q.imp (fun q => ⟨hy, q⟩) fun q => ⟨hy, q.2⟩⟩
        · exact h D2 _ (X08.trans (Ext.alloc hD2)) (Hp.set_same ..) ((U.ext X08).nw hD2)
      cases b2 with
      | false => walk_at "ab"; exact fin
      | true => walk_at "ab"; exact fin
  | alt a b iha ihb =>
    intro n hp v Q hn hw hT X U h
    simp only [ht] at hn
    obtain ⟨m, rfl⟩ : ∃ m, n = m + 1 := ⟨n - 1, by lia⟩
    obtain ⟨dd, e, va, vb, rfl, hd0, hee, ha, hb⟩ := hT
    have hfa := X.get FB.1
    have l9 := canon_len (Fst rs a)
    have l9' := canon_len (Fst rs b)
    refine u_l_front ?_
    unfold b_l_front
    walk_at "ab"
    refine b_in2 (by decide +kernel) (r := false) (by decide +kernel) fun D hD X1 => ?_
    generalize hp.set D _ = h1 at X1 ⊢
    walk_at "ab"
    intro D hD
    have X2 : Ext No hp (h1.set D (.list [])) := X1.trans (Ext.alloc hD)
    have hee2 := X2.get hee
    have hD2 : (h1.set D (.list [])) D = some (.list (([] : List Str).map V.str)) := Hp.set_same ..
    generalize (h1.set D (.list [])) = h2 at X2 hee2 hD2 ⊢
    walk_at "ab"
    refine iha m h2 va _ (by lia) hw.1 (ha.ext X2) (X.trans X2) (U.ext X2) fun l3 h3 X3 a1 a2 => ?_
    refine r_addS (X3.get hD2) a1 (by simp only [List.length_nil]; lia) fun D4 hD4 => ?_
    rw [List.nil_append]
    have X4 := (X2.trans X3).trans (Ext.alloc hD4 (o := .list ((canon (Fst rs a)).map V.str)))
    have hee4 := X4.get hee
    have hD4' : (h3.set D4 (.list ((canon (Fst rs a)).map V.str))) D4 = some (.list ((canon (Fst rs a)).map V.str)) := Hp.set_same ..
    generalize (h3.set D4 (.list ((canon (Fst rs a)).map V.str))) = h4 at X4 hD4' hee4 ⊢
    walk_at "ab"
    refine ihb m h4 vb _ (by lia) hw.2 (hb.ext X4) (X.trans X4) (U.ext X4) fun l6 h6 X6 c1 c2 => ?_
    refine r_addS (X6.get hD4') c1 (by lia) fun D7 hD7 => ?_
    have X7 := (X4.trans X6).trans (Ext.alloc hD7 (o := .list ((canon (Fst rs a) ++ canon (Fst rs b)).map V.str)))
    have hee7 := X7.get hee
    have hD7' : (h6.set D7 (.list ((canon (Fst rs a) ++ canon (Fst rs b)).map V.str))) D7 = some (.list ((canon (Fst rs a) ++ canon (Fst rs b)).map V.str)) := Hp.set_same ..
    generalize (h6.set D7 (.list ((canon (Fst rs a) ++ canon (Fst rs b)).map V.str))) = h7 at X7 hD7' hee7 ⊢
    walk_at "ab"
    refine r_sset (P := Fst rs (.alt a b)) hD7' (fun y hy => (List.mem_append.mp hy).elim (canon_in y) (canon_in y)) (fun y hy => ?_) fun D2 hD2 => ?_
    · rw [List.mem_append, mem_canon, mem_canon, fst_alt]
      exact ⟨fun q => q.imp (·.2) (·.2), fun q => q.imp (fun q => ⟨hy, q⟩) fun q => ⟨hy, q⟩⟩
    · exact h D2 _ (X7.trans (Ext.alloc hD2)) (Hp.set_same ..) ((U.ext X7).nw hD2)

/-! ## _law_ahead -/
theorem c_ahead (FB : Fcts hB fa rd hd ed rs) {t : T} {n : Nat} {hp : Hp} {v : V} {bh : Addr} {S : Str → Prop} {Q : V → Hp → Prop} (hn : ht t + 2 ≤ n) (hw : Wf t) (hT : IsT hp t v) (X : Ext No hB hp) (U : Mu M hB hp) (hS : LS hp bh S)
    (h : ∀ l hp', Ext No hp hp' → LS hp' l (prd rs t S) → ¬ M l → Q (.ref l) hp') : callD g n .l_ahead [v, .ref fa, .ref bh] hp Q := by
  obtain ⟨m, rfl⟩ : ∃ m, n = m + 1 := ⟨n - 1, by lia⟩
  have l9 := canon_len (Fst rs t)
  have l9' := canon_len S
  refine u_l_ahead ?_
  unfold b_l_ahead
  walk_at "ab"
  refine c_front FB t m hp v _ (by lia) hw hT X U fun l h1 X1 a1 a2 => ?_
  have hfa1 := (X.trans X1).get FB.1
  walk_at "ab"
  refine c_lnone t m h1 v _ (by lia) (hT.ext X1) (FB.2.2.1.ext (X.trans X1)) fun b h2 X2 e => ?_
  have X02 := X1.trans X2
  cases b with
  | false =>
    walk_at "ab"
    refine h l h2 X02 ?_ a2
    have := X2.get a1
    unfold LS
    rw [this, canon_congr fun y => (?_ : prd rs t S y ↔ Fst rs t y)]
    exact ⟨fun q => q.elim id (fun q => by have := e.mpr q.1; cases this), .inl⟩
  | true =>
    walk_at "ab"
    refine r_addS (X2.get a1) (X02.get hS) (by lia) fun D hD => ?_
    have X3 := X02.trans (Ext.alloc hD (o := .list ((canon (Fst rs t) ++ canon S).map V.str)))
    walk_at "ab"
    refine r_sset (P := prd rs t S) (Hp.set_same ..) (fun y hy => (List.mem_append.mp hy).elim (canon_in y) (canon_in y)) (fun y hy => ?_) fun D2 hD2 => ?_
    · rw [List.mem_append, mem_canon, mem_canon]
      exact ⟨fun q => q.imp (·.2) fun q => ⟨e.mp rfl, q.2⟩, fun q => q.imp (fun q => ⟨hy, q⟩) fun q => ⟨hy, q.2⟩⟩
    · exact h D2 _ (X3.trans (Ext.alloc hD2)) (Hp.set_same ..) ((U.ext X3).nw hD2)
end
end
section
theorem e_negC {k : Int} {ρ : Loc} {hp : Hp} {Q : V → Hp → Prop} (h : Q (.int (-k)) hp) : cNeg (cC (.int k)) ρ hp Q := h
theorem r_bsub {x y : Int} {hp : Hp} {Q : V → Hp → Prop} (h : Q (.int (x - y)) hp) : opBin .Sub (.int x) (.int y) hp Q := h
theorem r_badd {x y : Int} {hp : Hp} {Q : V → Hp → Prop} (h : Q (.int (x + y)) hp) : opBin .Add (.int x) (.int y) hp Q := h
theorem rg10 : rangeOf [.int 1, .int (-1), .int (-1)] = some (1, -1, 2) := rangeOf_down (by decide) (by decide) (by decide) (by decide)
theorem rg0 : rangeOf [.int (-1), .int (-1), .int (-1)] = some (-1, -1, 0) := rangeOf_down (by decide) (by decide) (by decide) (by decide)
end
local macro_rules | `(tactic| walk_at "abp") => `(tactic| first | with_reducible refine e_negC ?_ | with_reducible refine r_bsub ?_ | with_reducible refine r_badd ?_)
section
/-! ## pairs of a name and what is behind it -/
noncomputable abbrev Pr := Str × List Str
noncomputable def PairV (M : Addr → Prop) (hp : Hp) (v : V) (p : Pr) : Prop := ∃ d e, v = .ref d ∧ hp d = some (.tup [.str p.1, .ref e]) ∧ hp e = some (.list (p.2.map V.str)) ∧ ¬ M e
noncomputable def PairA (M : Addr → Prop) (hp : Hp) : List V → List Pr → Prop
  | [], [] => True
  | v :: vs, p :: ps => PairV M hp v p ∧ PairA M hp vs ps
  | _, _ => False
theorem PairV.ext {M M' : Addr → Prop} {hp hp' v p} (X : Ext M' hp hp') (hM : ∀ x, M' x → M x) (h : PairV M hp v p) : PairV M hp' v p := let ⟨d, e, a, b, c, n⟩ := h; ⟨d, e, a, X.tup _ _ b, X.keep _ _ c fun m => n (hM _ m), n⟩
theorem PairA.ext {M M' : Addr → Prop} {hp hp'} (X : Ext M' hp hp') (hM : ∀ x, M' x → M x) : ∀ {vs ps}, PairA M hp vs ps → PairA M hp' vs ps
  | [], [], _ => trivial
  | v :: vs, c :: cs, h => ⟨h.1.ext X hM, PairA.ext X hM h.2⟩
  | [], _ :: _, h => h.elim
  | _ :: _, [], h => h.elim
theorem PairA.snoc {M : Addr → Prop} {hp : Hp} : ∀ {vs ps v p}, PairA M hp vs ps → PairV M hp v p → PairA M hp (vs ++ [v]) (ps ++ [p])
  | [], [], _, _, _, h => ⟨h, trivial⟩
  | v :: vs, c :: cs, _, _, h, h' => ⟨h.1, PairA.snoc h.2 h'⟩
  | [], _ :: _, _, _, h, _ => h.elim
  | _ :: _, [], _, _, h, _ => h.elim
theorem PairA.len {M : Addr → Prop} {hp : Hp} : ∀ {vs ps}, PairA M hp vs ps → vs.length = ps.length
  | [], [], _ => rfl
  | v :: vs, c :: cs, h => by simp [PairA.len h.2]
  | [], _ :: _, h => h.elim
  | _ :: _, [], h => h.elim
noncomputable def PL (M : Addr → Prop) (hp : Hp) (cl : Addr) (ps : List Pr) : Prop := ∃ vs, hp cl = some (.list vs) ∧ PairA M hp vs ps
theorem PL.ext {M M' : Addr → Prop} {hp hp' cl ps} (X : Ext M' hp hp') (hM : ∀ x, M' x → M x) (n : ¬ M' cl) (h : PL M hp cl ps) : PL M hp' cl ps := let ⟨vs, a, b⟩ := h; ⟨vs, X.keep _ _ a n, b.ext X hM⟩
theorem PL.live {M : Addr → Prop} {hp cl ps} (h : PL M hp cl ps) : hp cl ≠ none := let ⟨vs, a, _⟩ := h; ne_none a
/-- one more -/
theorem PL.add {M : Addr → Prop} {hp : Hp} {cl : Addr} {ps : List Pr} {nm : Str} {ks : List Str} {e D : Addr} {Q : V → Hp → Prop} (hcl : M cl) (F : PL M hp cl ps) (hl : ps.length ≤ 999999) (he : hp e = some (.list (ks.map V.str))) (hef : ¬ M e) (hD : hp D = none)
    (h : ∀ hp', Ext (· = cl) hp hp' → PL M hp' cl (ps ++ [(nm, ks)]) → Q .none hp') : mApp (.ref cl) [.ref D] (hp.set D (.tup [.str nm, .ref e])) Q := by
  obtain ⟨vs, a, b⟩ := F
  have hfD : cl ≠ D := fun q => by rw [q, hD] at a; cases a
  have X1 : Ext No hp (hp.set D (.tup [.str nm, .ref e])) := Ext.alloc hD
  refine r_app (X1.get a) (by rw [b.len]; lia) ?_
  have X2 : Ext (· = cl) hp ((hp.set D (.tup [.str nm, .ref e])).set cl (.list (vs ++ [.ref D]))) := X1.no.trans (Ext.upd rfl (by rw [X1.get a]; rfl))
  exact h _ X2 ⟨_, Hp.set_same .., (b.ext X2 fun x hx => hx ▸ hcl).snoc ⟨D, e, rfl, by rw [Hp.set_ne _ _ (Ne.symm hfD), Hp.set_same], X2.keep _ _ he fun q => hef (q ▸ hcl), hef⟩⟩

/-! ## what a walk tells -/
noncomputable def wk (rs : Rules) : T → (Str → Prop) → List Pr
  | .text _, _ => []
  | .name x, S => if (rs.lookup x).isSome then [(x, canon S)] else []
  | .eps, _ => []
  | .opt a, S => wk rs a S
  | .rep a, S => wk rs a (prd rs (.rep a) S)
  | .alt a b, S => wk rs a S ++ wk rs b S
  | .seq a b, S => wk rs b S ++ wk rs a (prd rs b S)
theorem wk_len (rs : Rules) : ∀ (t : T) (S : Str → Prop), (wk rs t S).length ≤ 2 ^ ht t
  | .text _, _ => Nat.zero_le _
  | .name _, _ => by unfold wk; split <;> simp [ht]
  | .eps, _ => Nat.zero_le _
  | .opt a, S => Nat.le_trans (wk_len rs a S) (Nat.pow_le_pow_right (by decide) (Nat.le_succ _))
  | .rep a, S => Nat.le_trans (wk_len rs a _) (Nat.pow_le_pow_right (by decide) (Nat.le_succ _))
  | .alt a b, S => by
    have h1 := wk_len rs a S
    have h2 := wk_len rs b S
    have la : 2 ^ ht a ≤ 2 ^ max (ht a) (ht b) := Nat.pow_le_pow_right (by decide) (Nat.le_max_left _ _)
    have lb : 2 ^ ht b ≤ 2 ^ max (ht a) (ht b) := Nat.pow_le_pow_right (by decide) (Nat.le_max_right _ _)
    unfold wk
    rw [List.length_append, show ht (.alt a b) = max (ht a) (ht b) + 1 from rfl, Nat.pow_succ]
    lia
  | .seq a b, S => by
    have h1 := wk_len rs a (prd rs b S)
    have h2 := wk_len rs b S
    have la : 2 ^ ht a ≤ 2 ^ max (ht a) (ht b) := Nat.pow_le_pow_right (by decide) (Nat.le_max_left _ _)
    have lb : 2 ^ ht b ≤ 2 ^ max (ht a) (ht b) := Nat.pow_le_pow_right (by decide) (Nat.le_max_right _ _)
    unfold wk
    rw [List.length_append, show ht (.seq a b) = max (ht a) (ht b) + 1 from rfl, Nat.pow_succ]
    lia
theorem wk_occ (rs : Rules) {m y : Str} (hy : y ∈ univ) : ∀ (t : T) (S : Str → Prop), Occ rs t S m y ↔ ∃ ks, (m, ks) ∈ wk rs t S ∧ y ∈ ks
  | .text _, _ => by simp [Occ, wk]
  | .eps, _ => by simp [Occ, wk]
  | .name x, S => by
    unfold wk Occ
    cases q : rs.lookup x with
    | none => simp
    | some t =>
      simp only [Option.isSome_some, if_true, List.mem_singleton, Prod.mk.injEq]
      refine ⟨fun ⟨h1, _, h3⟩ => ⟨canon S, ⟨h1, rfl⟩, mem_canon.mpr ⟨hy, h3⟩⟩, fun ⟨ks, ⟨h1, h2⟩, h3⟩ => ⟨h1, ⟨t, rfl⟩, ?_⟩⟩
      subst h2
      exact (mem_canon.mp h3).2
  | .opt a, S => wk_occ rs hy a S
  | .rep a, S => wk_occ rs hy a _
  | .alt a b, S => by
    unfold wk Occ
    rw [wk_occ rs hy a S, wk_occ rs hy b S]
    simp only [List.mem_append]
    exact ⟨fun h => h.elim (fun ⟨k, a, b⟩ => ⟨k, .inl a, b⟩) fun ⟨k, a, b⟩ => ⟨k, .inr a, b⟩, fun ⟨k, a, b⟩ => a.elim (fun a => .inl ⟨k, a, b⟩) fun a => .inr ⟨k, a, b⟩⟩
  | .seq a b, S => by
    unfold wk Occ
    rw [wk_occ rs hy a _, wk_occ rs hy b S]
    simp only [List.mem_append]
    exact ⟨fun h => h.elim (fun ⟨k, a, b⟩ => ⟨k, .inr a, b⟩) fun ⟨k, a, b⟩ => ⟨k, .inl a, b⟩, fun ⟨k, a, b⟩ => a.elim (fun a => .inr ⟨k, a, b⟩) fun a => .inl ⟨k, a, b⟩⟩
theorem wk_shape (rs : Rules) {p : Pr} : ∀ (t : T) (S : Str → Prop), p ∈ wk rs t S → p.1 ∈ nsOf rs ∧ ∃ S', p.2 = canon S'
  | .text _, _, h => by cases h
  | .eps, _, h => by cases h
  | .name x, S, h => by
    unfold wk at h
    cases q : rs.lookup x with
    | none => rw [q] at h; simp at h
    | some t =>
      rw [q] at h
      simp only [Option.isSome_some, if_true, List.mem_singleton] at h
      subst h
      exact ⟨lookup_ns.mpr ⟨t, q⟩, S, rfl⟩
  | .opt a, S, h => wk_shape rs a S h
  | .rep a, S, h => wk_shape rs a _ h
  | .alt a b, S, h => (List.mem_append.mp h).elim (wk_shape rs a S) (wk_shape rs b S)
  | .seq a b, S, h => (List.mem_append.mp h).elim (wk_shape rs b S) (wk_shape rs a _)

section
variable {g : Gl} {rs : Rules} {hB : Hp} {fa rd hd ed : Addr} {M : Addr → Prop} {cl : Addr}
/-! ## _law_walk -/
theorem c_walk (FB : Fcts hB fa rd hd ed rs) (hcl : M cl) : ∀ (t : T) (n : Nat) (hp : Hp) (v : V) (bh : Addr) (S : Str → Prop) (ps : List Pr) (Q : V → Hp → Prop), ht t + 3 ≤ n → Wf t → IsT hp t v → Ext No hB hp → Mu M hB hp → LS hp bh S → ¬ M bh → PL M hp cl ps → ps.length + 2 ^ ht t ≤ 900000 →
      (∀ hp', Ext (· = cl) hp hp' → PL M hp' cl (ps ++ wk rs t S) → Q .none hp') →
    callD g n .l_walk [v, .ref fa, .ref bh, .ref cl] hp Q := by
  have base : ∀ {hp hp' : Hp}, Mu M hB hp → Ext No hB hp → Ext (· = cl) hp hp' → Ext No hB hp' := fun U X Y => X.base Y fun x e => e ▸ (U cl hcl).1
  intro t
  induction t with
  | text x =>
    intro n hp v bh S ps Q hn hw hT X U hS hnb F hl h
    obtain ⟨m, rfl⟩ : ∃ m, n = m + 1 := ⟨n - 1, by lia⟩
    obtain ⟨dd, rfl, hd0⟩ := hT
    refine u_l_walk ?_
    unfold b_l_walk
    walk_at "ab"
    exact h hp (Ext.refl _) (by rw [show wk rs (.text x) S = [] from rfl, List.append_nil]; exact F)
  | name x =>
    intro n hp v bh S ps Q hn hw hT X U hS hnb F hl h
    obtain ⟨m, rfl⟩ : ∃ m, n = m + 1 := ⟨n - 1, by lia⟩
    obtain ⟨dd, rfl, hd0⟩ := hT
    have hfa := X.get FB.1
    obtain ⟨ep, es, hr, hK, hv⟩ := FB.2.1.ex
    have h1 : 1 ≤ 2 ^ ht (.name x) := Nat.pow_pos (by decide)
    refine u_l_walk ?_
    unfold b_l_walk
    walk_at "ab"
    refine r_inD (X.get hr) ?_
    rw [hK.eq]
    cases q : rs.lookup x with
    | none =>
      walk_at "ab"
      exact h hp (Ext.refl _) (by rw [show wk rs (.name x) S = [] by unfold wk; rw [q]; rfl, List.append_nil]; exact F)
    | some u =>
      walk_at "ab"
      refine ⟨by obtain ⟨vs, a, _⟩ := F; exact r_isL a, ?_⟩
      walk_at "ab"
      intro D hD
      walk_at "ab"
      refine F.add hcl (by lia) hS hnb hD fun hp' Y F' => ?_
      walk_at "ab"
      exact h hp' Y (by rw [show wk rs (.name x) S = [(x, canon S)] by unfold wk; rw [q]; rfl]; exact F')
  | eps =>
    intro n hp v bh S ps Q hn hw hT X U hS hnb F hl h
    obtain ⟨m, rfl⟩ : ∃ m, n = m + 1 := ⟨n - 1, by lia⟩
    obtain ⟨dd, e, rfl, hd0, hee⟩ := hT
    refine u_l_walk ?_
    unfold b_l_walk
    walk_at "ab"
    refine r_lenT hee (by simp) ?_
    walk_at "ab"
    refine r_rng rg0 (ws := []) rfl ?_
    refine f_nil trivial ?_
    walk_at "ab"
    exact h hp (Ext.refl _) (by rw [show wk rs .eps S = [] from rfl, List.append_nil]; exact F)
  | opt a ih =>
    intro n hp v bh S ps Q hn hw hT X U hS hnb F hl h
    simp only [ht] at hn hl
    obtain ⟨m, rfl⟩ : ∃ m, n = m + 1 := ⟨n - 1, by lia⟩
    obtain ⟨dd, va, rfl, hd0, ha⟩ := hT
    rw [Nat.pow_succ] at hl
    refine u_l_walk ?_
    unfold b_l_walk
    walk_at "ab"
    refine ih m hp va bh S ps _ (by lia) hw ha X U hS hnb F (by lia) fun hp' Y F' => ?_
    walk_at "ab"
    exact h hp' Y F'
  | rep a ih =>
    intro n hp v bh S ps Q hn hw hT X U hS hnb F hl h
    have hT0 := hT
    simp only [ht] at hn hl
    obtain ⟨m, rfl⟩ : ∃ m, n = m + 1 := ⟨n - 1, by lia⟩
    obtain ⟨dd, va, rfl, hd0, ha⟩ := hT
    rw [Nat.pow_succ] at hl
    refine u_l_walk ?_
    unfold b_l_walk
    walk_at "ab"
    refine c_ahead FB (t := .rep a) (by simp only [ht]; lia) hw hT0 X U hS fun l h1 X1 a1 a2 => ?_
    walk_at "ab"
    refine ih m h1 va l _ ps _ (by lia) hw (ha.ext X1) (X.trans X1) (U.ext X1) a1 a2 (F.ext X1 (fun _ h => h.elim) id) (by lia) fun hp' Y F' => ?_
    walk_at "ab"
    exact h hp' (X1.no.trans Y) F'
  | alt a b iha ihb =>
    intro n hp v bh S ps Q hn hw hT X U hS hnb F hl h
    simp only [ht] at hn hl
    obtain ⟨m, rfl⟩ : ∃ m, n = m + 1 := ⟨n - 1, by lia⟩
    obtain ⟨dd, e, va, vb, rfl, hd0, hee, ha, hb⟩ := hT
    have la : 2 ^ ht a ≤ 2 ^ max (ht a) (ht b) := Nat.pow_le_pow_right (by decide) (Nat.le_max_left _ _)
    have lb : 2 ^ ht b ≤ 2 ^ max (ht a) (ht b) := Nat.pow_le_pow_right (by decide) (Nat.le_max_right _ _)
    have wl := wk_len rs a S
    rw [Nat.pow_succ] at hl
    refine u_l_walk ?_
    unfold b_l_walk
    walk_at "ab"
    refine iha m hp va bh S ps _ (by lia) hw.1 ha X U hS hnb F (by lia) fun h1 Y1 F1 => ?_
    have hee1 := Y1.tup _ _ hee
    walk_at "ab"
    refine ihb m h1 vb bh S _ _ (by lia) hw.2 (hb.ext Y1) (base U X Y1) (U.ext Y1) (Y1.keep _ _ hS fun q => hnb (q ▸ hcl)) hnb F1 (by rw [List.length_append]; lia) fun h2 Y2 F2 => ?_
    have hee2 := Y2.tup _ _ hee1
    walk_at "ab"
    exact h h2 (Y1.trans Y2) (by rw [List.append_assoc] at F2; exact F2)
  | seq a b iha ihb =>
    intro n hp v bh S ps Q hn hw hT X U hS hnb F hl h
    simp only [ht] at hn hl
    obtain ⟨m, rfl⟩ : ∃ m, n = m + 1 := ⟨n - 1, by lia⟩
    obtain ⟨dd, e, va, vb, rfl, hd0, hee, ha, hb⟩ := hT
    have la : 2 ^ ht a ≤ 2 ^ max (ht a) (ht b) := Nat.pow_le_pow_right (by decide) (Nat.le_max_left _ _)
    have lb : 2 ^ ht b ≤ 2 ^ max (ht a) (ht b) := Nat.pow_le_pow_right (by decide) (Nat.le_max_right _ _)
    have wl := wk_len rs b S
    rw [Nat.pow_succ] at hl
    refine u_l_walk ?_
    unfold b_l_walk
    walk_at "ab"
    refine r_lenT hee (by simp) ?_
    walk_at "ab"
    rw [show (([va, vb] : List V).length : Int) - 1 = 1 from rfl]
    refine r_rng rg10 (ws := [.int 1, .int 0]) rfl ?_
    refine f_cons trivial ?_
    walk_at "ab"
    refine ihb m hp vb bh S ps _ (by lia) hw.2 hb X U hS hnb F (by lia) fun h1 Y1 F1 => ?_
    have hee1 := Y1.tup _ _ hee
    have X1 := base U X Y1
    have S1 : LS h1 bh S := Y1.keep _ _ hS fun q => hnb (q ▸ hcl)
    walk_at "ab"
    refine c_ahead FB (t := b) (by lia) hw.2 (hb.ext Y1) X1 (U.ext Y1) S1 fun l h2 X2 a1 a2 => ?_
    have hee2 := X2.get hee1
    walk_at "ab"
    refine f_cons trivial ?_
    walk_at "ab"
    refine iha m h2 va l _ _ _ (by lia) hw.1 ((ha.ext Y1).ext X2) (X1.trans X2) ((U.ext Y1).ext X2) a1 a2 (F1.ext X2 (fun _ h => h.elim) id) (by rw [List.length_append]; lia) fun h3 Y3 F3 => ?_
    have hee3 := Y3.tup _ _ hee2
    walk_at "ab"
    have X3 := base ((U.ext Y1).ext X2) (X1.trans X2) Y3
    refine c_ahead FB (t := a) (by lia) hw.1 (((ha.ext Y1).ext X2).ext Y3) X3 (((U.ext Y1).ext X2).ext Y3) (Y3.keep _ _ a1 fun q => a2 (q ▸ hcl)) fun l' h4 X4 c1 c2 => ?_
    walk_at "ab"
    refine f_nil trivial ?_
    walk_at "ab"
    exact h h4 (((Y1.trans X2.no).trans Y3).trans X4.no) (by rw [List.append_assoc] at F3; exact F3.ext X4 (fun _ h => h.elim) id)
end
end
section
theorem mem_filter_canon {P : Str → Prop} {f : Str → Bool} {x : Str} : x ∈ (canon P).filter f ↔ x ∈ univ ∧ P x ∧ f x = true := by rw [List.mem_filter, mem_canon, and_assoc]
theorem canon_and {P S : Str → Prop} : (canon P).filter (canon S).contains = canon fun y => P y ∧ S y := by
  refine (canon_eq (P := fun x => x ∈ univ ∧ P x ∧ S x) ((canon_pair P).filter _) ((canon_nd P).filter _) (fun x => ?_) (fun x hx => (mem_filter_canon.mp hx).1)).trans (canon_congrU fun x hx => ?_)
  · rw [mem_filter_canon, List.contains_iff_mem, mem_canon]; exact ⟨fun h => ⟨h.1, h.2.1, h.2.2.2⟩, fun h => ⟨h.1, h.2.1, h.1, h.2.2⟩⟩
  · exact ⟨(·.2), fun h => ⟨hx, h⟩⟩
open Classical in
noncomputable def em0 (rs : Rules) (nm : Str) (a : T) : List Conf := if Nul rs a then [(nm, "empty", [])] else []
theorem em0_pos {rs : Rules} {nm : Str} {a : T} (h : Nul rs a) : em0 rs nm a = [(nm, (("empty" : Str)), [])] := by unfold em0; exact if_pos h
theorem em0_neg {rs : Rules} {nm : Str} {a : T} (h : ¬ Nul rs a) : em0 rs nm a = [] := by unfold em0; exact if_neg h
theorem em0_len {rs : Rules} {nm : Str} {a : T} : (em0 rs nm a).length ≤ 1 := by unfold em0; split <;> simp
theorem ifT {c : Bool} {P P' : Prop} (h : c = true) (p : P) : if c = true then P else P' := by rw [h]; exact p
theorem ifF {c : Bool} {P P' : Prop} (h : c = false) (p : P') : if c = true then P else P' := by rw [h]; exact p
theorem mid_if {b : Bool} {f₁ f₂ : ST} {ρ : Loc} {hp : Hp} {N : Loc → Hp → Prop} {R : V → Hp → Prop} (K : Hp → Prop) (h : ∀ N' : Loc → Hp → Prop, (∀ h3, K h3 → N' ρ h3) → if b = true then f₁ ρ hp N' R else f₂ ρ hp N' R) (hN : ∀ h3, K h3 → N ρ h3) : if b = true then f₁ ρ hp N R else f₂ ρ hp N R := h N hN
theorem rgU0 : rangeOf [.int 0] = some (0, 1, 0) := rangeOf_up (by decide) (by decide)
theorem rgU2 : rangeOf [.int 2] = some (0, 1, 2) := rangeOf_up (by decide) (by decide)
theorem rgD1 : rangeOf [.int 1, .int 0, .int (-1)] = some (1, -1, 1) := rangeOf_down (by decide) (by decide) (by decide) (by decide)
theorem rgD0 : rangeOf [.int 1, .int 1, .int (-1)] = some (1, -1, 0) := rangeOf_down (by decide) (by decide) (by decide) (by decide)
section
variable {g : Gl} {rs : Rules} {hB : Hp} {fa rd hd ed : Addr} {fnd : Addr} {nm : Str}
theorem qr_loop {hp : Hp} {l b : Addr} {W : Loc} {ks bs : List Str} {P : List V → Hp → Prop} {f : EV} (hf : ∀ v (Q : V → Hp → Prop), Q (.ref b) hp → f (W.set 13 (some v)) hp Q) (hw : ∀ v, look (W.set 13 (some v)) 13 = some v) (hl : hp l = some (.list (ks.map V.str))) (hb : hp b = some (.list (bs.map V.str))) (hbu : ∀ x ∈ bs, x ∈ univ) :
    ∀ (m : List Str) (acc : List V), (∀ x ∈ m, x ∈ univ) → P (acc ++ (m.filter bs.contains).map V.str) hp →
    compL 13 (bCmp .In (cV 13) f) (cV 13) (fun h => h l = some (.list (ks.map V.str))) (m.map V.str) acc W hp P
  | [], acc, hm, h => l_nil hl (by simpa using h)
  | x :: m, acc, hm, h => by
    refine l_cons hl (b_cmp' (e_V (hw _) (hf _ _ ?_)))
    refine r_inLS hb hbu (hm _ (.head _)) ?_
    rw [List.filter_cons] at h
    cases e : bs.contains x with
    | true =>
      rw [e, if_pos rfl] at h
      rw [if_pos rfl]
      refine e_V (hw _) (qr_loop hf hw hl hb hbu m _ (fun y hy => hm y (.tail _ hy)) ?_)
      rw [List.append_assoc]; exact h
    | false =>
      rw [e, if_neg (by decide)] at h
      rw [if_neg (by decide)]
      exact qr_loop hf hw hl hb hbu m _ (fun y hy => hm y (.tail _ hy)) h
theorem ne_list {hp : Hp} {x y : Addr} {ks : List Str} {Qb : Bool → Prop} (hx : hp x = some (.list (ks.map V.str))) (hy : hp y = some (.list [])) (hu : ∀ z ∈ ks, z ∈ univ) (h : Qb (!ks.isEmpty)) : opCmp .NotEq (.ref x) (.ref y) hp Qb := by
  refine r_neNil hx hy (rd_strs ks) (cl0S hu) (by rw [dpS]; exact Nat.zero_le _) ?_
  rw [List.isEmpty_map]; exact h
theorem cm_pos {kind : Str} {P : Str → Prop} (h : (canon P).isEmpty = false) : cm nm kind P = [(nm, kind, canon P)] := by
  unfold cm
  rw [if_neg fun e => by rw [e] at h; cases h]
theorem cm_neg {kind : Str} {P : Str → Prop} (h : (canon P).isEmpty = true) : cm nm kind P = [] := by
  unfold cm
  rw [if_pos (List.isEmpty_iff.mp h)]

/-! ## _law_quarrels -/
theorem c_quar (FB : Fcts hB fa rd hd ed rs) : ∀ (t : T) (n : Nat) (hp : Hp) (v : V) (bh : Addr) (S : Str → Prop) (cs : List Conf) (Q : V → Hp → Prop), ht t + 4 ≤ n → Wf t → IsT hp t v → Ext No hB hp → Mu (· = fnd) hB hp → LS hp bh S → bh ≠ fnd → FL hp fnd cs → cs.length + 4 ^ ht t ≤ 900000 →
      (∀ hp', Ext (· = fnd) hp hp' → FL hp' fnd (cs ++ qs rs nm t S) → Q .none hp') →
    callD g n .l_quarrels [v, .ref fa, .ref bh, .str nm, .ref fnd] hp Q := by
  have base : ∀ {hp hp' : Hp}, Mu (· = fnd) hB hp → Ext No hB hp → Ext (· = fnd) hp hp' → Ext No hB hp' := fun U X Y => X.base Y fun x e => e ▸ (U fnd rfl).1
  intro t
  induction t with
  | text x =>
    intro n hp v bh S cs Q hn hw hT X U hS hnb F hl h
    obtain ⟨m, rfl⟩ : ∃ m, n = m + 1 := ⟨n - 1, by lia⟩
    obtain ⟨dd, rfl, hd0⟩ := hT
    refine u_l_quarrels ?_
    unfold b_l_quarrels
    walk_at "ab"
    refine b_in2 (by decide +kernel) (r := false) (by decide +kernel) fun D hD X1 => ?_
    walk_at "ab"
    exact h _ X1.no (by rw [show qs rs nm (.text x) S = [] from rfl, List.append_nil]; exact F.ext X1)
  | name x =>
    intro n hp v bh S cs Q hn hw hT X U hS hnb F hl h
    obtain ⟨m, rfl⟩ : ∃ m, n = m + 1 := ⟨n - 1, by lia⟩
    obtain ⟨dd, rfl, hd0⟩ := hT
    refine u_l_quarrels ?_
    unfold b_l_quarrels
    walk_at "ab"
    refine b_in2 (by decide +kernel) (r := false) (by decide +kernel) fun D hD X1 => ?_
    walk_at "ab"
    exact h _ X1.no (by rw [show qs rs nm (.name x) S = [] from rfl, List.append_nil]; exact F.ext X1)
  | eps =>
    intro n hp v bh S cs Q hn hw hT X U hS hnb F hl h
    obtain ⟨m, rfl⟩ : ∃ m, n = m + 1 := ⟨n - 1, by lia⟩
    obtain ⟨dd, e, rfl, hd0, hee⟩ := hT
    refine u_l_quarrels ?_
    unfold b_l_quarrels
    walk_at "ab"
    refine b_in2 (by decide +kernel) (r := false) (by decide +kernel) fun D hD X1 => ?_
    have hee1 := X1.get hee
    have F1 := F.ext X1
    generalize hp.set D _ = h1 at X1 hee1 F1 ⊢
    walk_at "ab"
    refine r_lenT hee1 (by simp) ?_
    walk_at "ab"
    refine r_rng rgU0 (ws := []) rfl ?_
    refine f_nil trivial ?_
    walk_at "ab"
    exact h _ X1.no (by rw [show qs rs nm .eps S = [] from rfl, List.append_nil]; exact F1)
  | opt a ih =>
    intro n hp v bh S cs Q hn hw hT X U hS hnb F hl h
    simp only [ht] at hn hl
    obtain ⟨m, rfl⟩ : ∃ m, n = m + 1 := ⟨n - 1, by lia⟩
    obtain ⟨dd, va, rfl, hd0, ha⟩ := hT
    have p4 : 1 ≤ 4 ^ ht a := Nat.pow_pos (by decide)
    rw [Nat.pow_succ] at hl
    refine u_l_quarrels ?_
    unfold b_l_quarrels
    walk_at "ab"
    refine b_in2 (by decide +kernel) (r := true) (by decide +kernel) fun D hD X1 => ?_
    generalize hp.set D _ = h1 at X1 ⊢
    have hfa1 := (X.trans X1).get FB.1
    walk_at "ab"
    refine c_lnone a m h1 va _ (by lia) (ha.ext X1) (FB.2.2.1.ext (X.trans X1)) fun b h2 X2 e1 => ?_
    have X02 := X1.trans X2
    have F2 := F.ext X02
    walk_at "ab"
    refine mid_if (fun h3 => Ext (· = fnd) hp h3 ∧ FL h3 fnd (cs ++ em0 rs nm a)) (fun N' hN' => ?_) fun h3 K3 => ?_
    · cases b with
      | false =>
        refine ifF rfl (i_nil (hN' h2 ⟨X02.no, ?_⟩))
        rw [em0_neg (fun q => by have := e1.mpr q; cases this), List.append_nil]; exact F2
      | true =>
        refine ifT rfl ?_
        walk_at "ab"
        refine ⟨by obtain ⟨vs, p, _⟩ := F2; exact r_isL p, ?_⟩
        walk_at "ab"
        intro De hDe
        have Xe : Ext No hp (h2.set De (.list (([] : List Str).map V.str))) := X02.trans (Ext.alloc hDe)
        walk_at "ab"
        intro Dt hDt
        walk_at "ab"
        refine FL.add (F.ext Xe) (by lia) (ks := []) (e := De) (Hp.set_same ..) (fun q => F2.live (q ▸ hDe)) hDt fun hp' Y F' => ?_
        walk_at "ab"
        refine hN' hp' ⟨Xe.no.trans Y, ?_⟩
        rw [em0_pos (e1.mp rfl)]; exact F'
    · obtain ⟨Y3, F3⟩ := K3
      have l3 : (cs ++ em0 rs nm a).length ≤ cs.length + 1 := by rw [List.length_append]; have := @em0_len rs nm a; lia
      have Z3 := base U X Y3
      have U3 := U.ext Y3
      have hS3 := Y3.keep _ _ hS hnb
      walk_at "ab"
      refine c_front FB a m h3 va _ (by lia) hw (ha.ext Y3) Z3 U3 fun l h4 X4 a1 a2 => ?_
      have l9 := canon_len (Fst rs a)
      refine r_compL a1 (by rw [List.length_map]; lia) ?_
      refine qr_loop (b := bh) (bs := canon S) (fun v Q q => e_V rfl q) (fun _ => rfl) a1 (X4.get hS3) canon_in _ [] canon_in ?_
      rw [canon_and, List.nil_append]
      intro D5 hD5
      have X5 := X4.trans (Ext.alloc hD5 (o := .list ((canon fun y => Fst rs a y ∧ S y).map V.str)))
      have hD5' : (h4.set D5 (.list ((canon fun y => Fst rs a y ∧ S y).map V.str))) D5 = some (.list ((canon fun y => Fst rs a y ∧ S y).map V.str)) := Hp.set_same ..
      have nD5 : D5 ≠ fnd := fun q => F3.live (q ▸ (X4.new hD5))
      generalize (h4.set D5 (.list ((canon fun y => Fst rs a y ∧ S y).map V.str))) = h5 at X5 hD5' ⊢
      walk_at "ab"
      intro D6 hD6
      have X6 := X5.trans (Ext.alloc hD6 (o := .list []))
      have hD6' := (Ext.alloc (M := No) hD6 (o := .list [])).get hD5'
      have F6 := F3.ext X6
      refine ne_list hD6' (Hp.set_same ..) canon_in ?_
      generalize (h5.set D6 (.list [])) = h6 at X6 hD6' F6 ⊢
      refine mid_if (fun h7 => Ext (· = fnd) hp h7 ∧ FL h7 fnd (cs ++ em0 rs nm a ++ cm nm "option" fun y => Fst rs a y ∧ S y)) (fun N' hN' => ?_) fun h7 K7 => ?_
      · cases q : (canon fun y => Fst rs a y ∧ S y).isEmpty with
        | true =>
          refine ifF rfl (i_nil (hN' h6 ⟨Y3.trans X6.no, ?_⟩))
          rw [cm_neg q, List.append_nil]; exact F6
        | false =>
          refine ifT rfl ?_
          walk_at "ab"
          refine ⟨by obtain ⟨vs, p, _⟩ := F6; exact r_isL p, ?_⟩
          walk_at "ab"
          intro Dt hDt
          walk_at "ab"
          refine FL.add F6 (by lia) hD6' nD5 hDt fun hp' Y F' => ?_
          walk_at "ab"
          refine hN' hp' ⟨(Y3.trans X6.no).trans Y, ?_⟩
          rw [cm_pos q]; exact F'
      · obtain ⟨Y7, F7⟩ := K7
        have l7 := @cm_len nm "option" (fun y => Fst rs a y ∧ S y)
        have Z7 := base U X Y7
        have U7 := U.ext Y7
        walk_at "ab"
        refine ih m h7 va bh S _ _ (by lia) hw (ha.ext Y7) Z7 U7 (Y7.keep _ _ hS hnb) hnb F7 (by rw [List.length_append]; lia) fun h8 Y8 F8 => ?_
        walk_at "ab"
        refine h h8 (Y7.trans Y8) ?_
        rw [List.append_assoc, List.append_assoc] at F8
        exact F8
  | rep a ih =>
    intro n hp v bh S cs Q hn hw hT X U hS hnb F hl h
    have hT0 := hT
    simp only [ht] at hn hl
    obtain ⟨m, rfl⟩ : ∃ m, n = m + 1 := ⟨n - 1, by lia⟩
    obtain ⟨dd, va, rfl, hd0, ha⟩ := hT
    have p4 : 1 ≤ 4 ^ ht a := Nat.pow_pos (by decide)
    rw [Nat.pow_succ] at hl
    refine u_l_quarrels ?_
    unfold b_l_quarrels
    walk_at "ab"
    refine b_in2 (by decide +kernel) (r := true) (by decide +kernel) fun D hD X1 => ?_
    generalize hp.set D _ = h1 at X1 ⊢
    have hfa1 := (X.trans X1).get FB.1
    walk_at "ab"
    refine c_lnone a m h1 va _ (by lia) (ha.ext X1) (FB.2.2.1.ext (X.trans X1)) fun b h2 X2 e1 => ?_
    have X02 := X1.trans X2
    have F2 := F.ext X02
    walk_at "ab"
    refine mid_if (fun h3 => Ext (· = fnd) hp h3 ∧ FL h3 fnd (cs ++ em0 rs nm a)) (fun N' hN' => ?_) fun h3 K3 => ?_
    · cases b with
      | false =>
        refine ifF rfl (i_nil (hN' h2 ⟨X02.no, ?_⟩))
        rw [em0_neg (fun q => by have := e1.mpr q; cases this), List.append_nil]; exact F2
      | true =>
        refine ifT rfl ?_
        walk_at "ab"
        refine ⟨by obtain ⟨vs, p, _⟩ := F2; exact r_isL p, ?_⟩
        walk_at "ab"
        intro De hDe
        have Xe : Ext No hp (h2.set De (.list (([] : List Str).map V.str))) := X02.trans (Ext.alloc hDe)
        walk_at "ab"
        intro Dt hDt
        walk_at "ab"
        refine FL.add (F.ext Xe) (by lia) (ks := []) (e := De) (Hp.set_same ..) (fun q => F2.live (q ▸ hDe)) hDt fun hp' Y F' => ?_
        walk_at "ab"
        refine hN' hp' ⟨Xe.no.trans Y, ?_⟩
        rw [em0_pos (e1.mp rfl)]; exact F'
    · obtain ⟨Y3, F3⟩ := K3
      have l3 : (cs ++ em0 rs nm a).length ≤ cs.length + 1 := by rw [List.length_append]; have := @em0_len rs nm a; lia
      have Z3 := base U X Y3
      have U3 := U.ext Y3
      have hS3 := Y3.keep _ _ hS hnb
      walk_at "ab"
      refine c_front FB a m h3 va _ (by lia) hw (ha.ext Y3) Z3 U3 fun l h4 X4 a1 a2 => ?_
      have l9 := canon_len (Fst rs a)
      refine r_compL a1 (by rw [List.length_map]; lia) ?_
      refine qr_loop (b := bh) (bs := canon S) (fun v Q q => e_V rfl q) (fun _ => rfl) a1 (X4.get hS3) canon_in _ [] canon_in ?_
      rw [canon_and, List.nil_append]
      intro D5 hD5
      have X5 := X4.trans (Ext.alloc hD5 (o := .list ((canon fun y => Fst rs a y ∧ S y).map V.str)))
      have hD5' : (h4.set D5 (.list ((canon fun y => Fst rs a y ∧ S y).map V.str))) D5 = some (.list ((canon fun y => Fst rs a y ∧ S y).map V.str)) := Hp.set_same ..
      have nD5 : D5 ≠ fnd := fun q => F3.live (q ▸ (X4.new hD5))
      generalize (h4.set D5 (.list ((canon fun y => Fst rs a y ∧ S y).map V.str))) = h5 at X5 hD5' ⊢
      walk_at "ab"
      intro D6 hD6
      have X6 := X5.trans (Ext.alloc hD6 (o := .list []))
      have hD6' := (Ext.alloc (M := No) hD6 (o := .list [])).get hD5'
      have F6 := F3.ext X6
      refine ne_list hD6' (Hp.set_same ..) canon_in ?_
      generalize (h5.set D6 (.list [])) = h6 at X6 hD6' F6 ⊢
      refine mid_if (fun h7 => Ext (· = fnd) hp h7 ∧ FL h7 fnd (cs ++ em0 rs nm a ++ cm nm "repetition" fun y => Fst rs a y ∧ S y)) (fun N' hN' => ?_) fun h7 K7 => ?_
      · cases q : (canon fun y => Fst rs a y ∧ S y).isEmpty with
        | true =>
          refine ifF rfl (i_nil (hN' h6 ⟨Y3.trans X6.no, ?_⟩))
          rw [cm_neg q, List.append_nil]; exact F6
        | false =>
          refine ifT rfl ?_
          walk_at "ab"
          refine ⟨by obtain ⟨vs, p, _⟩ := F6; exact r_isL p, ?_⟩
          walk_at "ab"
          intro Dt hDt
          walk_at "ab"
          refine FL.add F6 (by lia) hD6' nD5 hDt fun hp' Y F' => ?_
          walk_at "ab"
          refine hN' hp' ⟨(Y3.trans X6.no).trans Y, ?_⟩
          rw [cm_pos q]; exact F'
      · obtain ⟨Y7, F7⟩ := K7
        have l7 := @cm_len nm "repetition" (fun y => Fst rs a y ∧ S y)
        have Z7 := base U X Y7
        have U7 := U.ext Y7
        walk_at "ab"
        refine c_ahead FB (t := .rep a) (by simp only [ht]; lia) hw (hT0.ext Y7) Z7 U7 (Y7.keep _ _ hS hnb) fun l8 h8 X8 c1 c2 => ?_
        walk_at "ab"
        refine ih m h8 va l8 _ _ _ (by lia) hw ((ha.ext Y7).ext X8) (Z7.trans X8) (U7.ext X8) c1 c2 (F7.ext X8) (by rw [List.length_append]; lia) fun h9 Y9 F9 => ?_
        walk_at "ab"
        refine h h9 ((Y7.trans X8.no).trans Y9) ?_
        rw [List.append_assoc, List.append_assoc] at F9
        exact F9
  | alt a b iha ihb =>
    intro n hp v bh S cs Q hn hw hT X U hS hnb F hl h
    simp only [ht] at hn hl
    obtain ⟨m, rfl⟩ : ∃ m, n = m + 1 := ⟨n - 1, by lia⟩
    obtain ⟨dd, e, va, vb, rfl, hd0, hee, ha, hb⟩ := hT
    have la : 4 ^ ht a ≤ 4 ^ max (ht a) (ht b) := Nat.pow_le_pow_right (by decide) (Nat.le_max_left _ _)
    have lb : 4 ^ ht b ≤ 4 ^ max (ht a) (ht b) := Nat.pow_le_pow_right (by decide) (Nat.le_max_right _ _)
    have pa : 1 ≤ 4 ^ ht a := Nat.pow_pos (by decide)
    rw [Nat.pow_succ] at hl
    have qa := qs_len rs nm a S
    refine u_l_quarrels ?_
    unfold b_l_quarrels
    walk_at "ab"
    refine b_in2 (by decide +kernel) (r := false) (by decide +kernel) fun D hD X1 => ?_
    generalize hp.set D _ = h1 at X1 ⊢
    walk_at "ab"
    refine r_compT (X1.get hee) (by simp) ?_
    refine l_cons (X1.get hee) ?_
    walk_at "ab"
    refine c_ahead FB (t := a) (by lia) hw.1 (ha.ext X1) (X.trans X1) (U.ext X1) (X1.get hS) fun l2 h2 X2 a1 a2 => ?_
    have X02 := X1.trans X2
    refine l_cons (X02.get hee) ?_
    walk_at "ab"
    refine c_ahead FB (t := b) (by lia) hw.2 (hb.ext X02) (X.trans X02) (U.ext X02) (X02.get hS) fun l3 h3 X3 c1 c2 => ?_
    have X03 := X02.trans X3
    refine l_nil (X03.get hee) fun D4 hD4 => ?_
    rw [show ([] ++ [V.ref l2] ++ [V.ref l3]) = [V.ref l2, V.ref l3] from rfl]
    have X4 := X03.trans (Ext.alloc hD4 (o := .list [.ref l2, .ref l3]))
    have hD4' : (h3.set D4 (.list [.ref l2, .ref l3])) D4 = some (.list [.ref l2, .ref l3]) := Hp.set_same ..
    have g2 : LS (h3.set D4 (.list [.ref l2, .ref l3])) l2 (prd rs a S) := (X3.trans (Ext.alloc hD4)).get a1
    have g3 : LS (h3.set D4 (.list [.ref l2, .ref l3])) l3 (prd rs b S) := (Ext.alloc (M := No) hD4).get c1
    generalize (h3.set D4 (.list [.ref l2, .ref l3])) = h4 at X4 hD4' g2 g3 ⊢
    have l9 := canon_len (prd rs a S)
    walk_at "ab"
    refine r_subL hD4' (by decide) (by decide) rfl ?_
    refine r_compL g2 (by rw [List.length_map]; lia) ?_
    refine qr_loop (b := l3) (bs := canon (prd rs b S)) (fun v Q q => e_sub (e_V rfl (e_C (r_subL hD4' (by decide) (by decide) rfl q)))) (fun _ => rfl) g2 g3 canon_in _ [] canon_in ?_
    rw [canon_and, List.nil_append]
    intro D5 hD5
    have X5 := X4.trans (Ext.alloc hD5 (o := .list ((canon fun y => prd rs a S y ∧ prd rs b S y).map V.str)))
    have hD5' : (h4.set D5 (.list ((canon fun y => prd rs a S y ∧ prd rs b S y).map V.str))) D5 = some (.list ((canon fun y => prd rs a S y ∧ prd rs b S y).map V.str)) := Hp.set_same ..
    have nD5 : D5 ≠ fnd := fun q => F.live (q ▸ (X4.new hD5))
    generalize (h4.set D5 (.list ((canon fun y => prd rs a S y ∧ prd rs b S y).map V.str))) = h5 at X5 hD5' ⊢
    walk_at "ab"
    intro D6 hD6
    have X6 := X5.trans (Ext.alloc hD6 (o := .list []))
    have hD6' := (Ext.alloc (M := No) hD6 (o := .list [])).get hD5'
    have F6 := F.ext X6
    refine ne_list hD6' (Hp.set_same ..) canon_in ?_
    generalize (h5.set D6 (.list [])) = h6 at X6 hD6' F6 ⊢
    refine mid_if (fun h7 => Ext (· = fnd) hp h7 ∧ FL h7 fnd (cs ++ cm nm "alternatives" fun y => prd rs a S y ∧ prd rs b S y)) (fun N' hN' => ?_) fun h7 K7 => ?_
    · cases q : (canon fun y => prd rs a S y ∧ prd rs b S y).isEmpty with
      | true =>
        refine ifF rfl (i_nil (hN' h6 ⟨X6.no, ?_⟩))
        rw [cm_neg q, List.append_nil]; exact F6
      | false =>
        refine ifT rfl ?_
        walk_at "ab"
        refine ⟨by obtain ⟨vs, p, _⟩ := F6; exact r_isL p, ?_⟩
        walk_at "ab"
        intro Dt hDt
        walk_at "ab"
        refine FL.add F6 (by lia) hD6' nD5 hDt fun hp' Y F' => ?_
        walk_at "ab"
        refine hN' hp' ⟨X6.no.trans Y, ?_⟩
        rw [cm_pos q]; exact F'
    · obtain ⟨Y7, F7⟩ := K7
      have l7 := @cm_len nm "alternatives" (fun y => prd rs a S y ∧ prd rs b S y)
      have Z7 := base U X Y7
      have U7 := U.ext Y7
      have hee7 := Y7.tup _ _ hee
      walk_at "ab"
      refine iha m h7 va bh S _ _ (by lia) hw.1 (ha.ext Y7) Z7 U7 (Y7.keep _ _ hS hnb) hnb F7 (by rw [List.length_append]; lia) fun h8 Y8 F8 => ?_
      have Y08 := Y7.trans Y8
      have hee8 := Y8.tup _ _ hee7
      walk_at "ab"
      refine ihb m h8 vb bh S _ _ (by lia) hw.2 (hb.ext Y08) (base U X Y08) (U.ext Y08) (Y08.keep _ _ hS hnb) hnb F8 (by rw [List.length_append, List.length_append]; lia) fun h9 Y9 F9 => ?_
      have hee9 := Y9.tup _ _ hee8
      walk_at "ab"
      refine h h9 (Y08.trans Y9) ?_
      rw [List.append_assoc, List.append_assoc] at F9
      exact F9
  | seq a b iha ihb =>
    intro n hp v bh S cs Q hn hw hT X U hS hnb F hl h
    simp only [ht] at hn hl
    obtain ⟨m, rfl⟩ : ∃ m, n = m + 1 := ⟨n - 1, by lia⟩
    obtain ⟨dd, e, va, vb, rfl, hd0, hee, ha, hb⟩ := hT
    have la : 4 ^ ht a ≤ 4 ^ max (ht a) (ht b) := Nat.pow_le_pow_right (by decide) (Nat.le_max_left _ _)
    have lb : 4 ^ ht b ≤ 4 ^ max (ht a) (ht b) := Nat.pow_le_pow_right (by decide) (Nat.le_max_right _ _)
    rw [Nat.pow_succ] at hl
    have qa := qs_len rs nm a (prd rs b S)
    refine u_l_quarrels ?_
    unfold b_l_quarrels
    walk_at "ab"
    refine b_in2 (by decide +kernel) (r := false) (by decide +kernel) fun D hD X1 => ?_
    have hee1 := X1.get hee
    generalize hp.set D _ = h1 at X1 hee1 ⊢
    walk_at "ab"
    refine r_lenT hee1 (by simp) ?_
    walk_at "ab"
    rw [show (([va, vb] : List V).length : Int) = 2 from rfl]
    refine r_rng rgU2 (ws := [.int 0, .int 1]) rfl ?_
    refine f_cons trivial ?_
    walk_at "ab"
    refine r_lenT hee1 (by simp) ?_
    walk_at "ab"
    rw [show (([va, vb] : List V).length : Int) - 1 = 1 from rfl]
    refine r_rng rgD1 (ws := [.int 1]) rfl ?_
    refine f_cons trivial ?_
    walk_at "ab"
    refine c_ahead FB (t := b) (by lia) hw.2 (hb.ext X1) (X.trans X1) (U.ext X1) (X1.get hS) fun l2 h2 X2 a1 a2 => ?_
    have X02 := X1.trans X2
    have hee2 := X2.get hee1
    walk_at "ab"
    refine f_nil trivial ?_
    walk_at "ab"
    refine iha m h2 va l2 _ cs _ (by lia) hw.1 (ha.ext X02) (X.trans X02) (U.ext X02) a1 a2 (F.ext X02) (by lia) fun h3 Y3 F3 => ?_
    have Y03 := X02.no.trans Y3
    have hee3 := Y3.tup _ _ hee2
    walk_at "ab"
    refine f_cons trivial ?_
    walk_at "ab"
    refine r_lenT hee3 (by simp) ?_
    walk_at "ab"
    rw [show (([va, vb] : List V).length : Int) - 1 = 1 from rfl]
    refine r_rng rgD0 (ws := []) rfl ?_
    refine f_nil trivial ?_
    walk_at "ab"
    refine ihb m h3 vb bh S _ _ (by lia) hw.2 (hb.ext Y03) (base U X Y03) (U.ext Y03) (Y03.keep _ _ hS hnb) hnb F3 (by rw [List.length_append]; lia) fun h4 Y4 F4 => ?_
    walk_at "ab"
    refine f_nil trivial ?_
    walk_at "ab"
    refine h h4 (Y03.trans Y4) ?_
    rw [List.append_assoc] at F4
    exact F4
end
end
section
/-! ## pairs as data -/
noncomputable def pd (p : Pr) : PyData := .tuple [.str p.1, .list (p.2.map .str)]
noncomputable def pOk (p : Pr) : Prop := p.1 ∈ univ ∧ ∀ x ∈ p.2, x ∈ univ
theorem PairV.rd {M : Addr → Prop} {hp v p} (h : PairV M hp v p) : Rd hp v (pd p) := let ⟨d, e, a, b, c, _⟩ := h; a ▸ .tup b (.cons (.str _) (.cons (.list c (rd_strs _)) .nil))
theorem PairA.rd {M : Addr → Prop} {hp} : ∀ {vs ps}, PairA M hp vs ps → RdAll hp vs (ps.map pd)
  | [], [], _ => .nil
  | v :: vs, c :: cs, h => .cons h.1.rd (PairA.rd h.2)
  | [], _ :: _, h => h.elim
  | _ :: _, [], h => h.elim
theorem pd_eq (p q : Pr) : PyData.eqv (pd p) (pd q) = decide (p = q) := by
  show (PyData.eqv (.str p.1) (.str q.1) && (PyData.eqvAll (p.2.map .str) (q.2.map .str) && true)) = _
  rw [eqvS, Bool.and_true, show PyData.eqv (.str p.1) (.str q.1) = (p.1 == q.1) from rfl]
  by_cases e : p.1 = q.1
  · rw [e, beq_self_eq_true, Bool.true_and]
    exact decide_eq_decide.mpr ⟨fun h => Prod.ext e h, fun h => congrArg Prod.snd h⟩
  · rw [beq_false_of_ne e, Bool.false_and]
    exact (decide_eq_false fun h => e (congrArg Prod.fst h)).symm
theorem pd_lay {p : Pr} (h : pOk p) : PyData.canLay0 (pd p) = true := by
  show (PyData.canLay0 (.str p.1) && (PyData.canLay0 (.list (p.2.map .str)) && true)) = true
  rw [show PyData.canLay0 (.str p.1) = PyData.strOk p.1 from rfl, univ_ok _ h.1, show PyData.canLay0 (.list (p.2.map .str)) = PyData.canLayAll0 (p.2.map .str) from rfl, cl0S h.2]; rfl
theorem pd_depth (p : Pr) : PyData.depth (pd p) = 2 := by
  show max 0 (max (PyData.depthAll (p.2.map .str) + 1) 0) + 1 = 2
  rw [dpS]; rfl
theorem pds_lay : ∀ {ps : List Pr}, (∀ p ∈ ps, pOk p) → PyData.canLayAll0 (ps.map pd) = true
  | [], _ => rfl
  | p :: ps, h => by
    show (PyData.canLay0 (pd p) && PyData.canLayAll0 (ps.map pd)) = true
    rw [pd_lay (h _ (.head _)), pds_lay fun q hq => h q (.tail _ hq)]; rfl
theorem pds_depth : ∀ ps : List Pr, PyData.depthAll (ps.map pd) ≤ 2
  | [] => Nat.zero_le _
  | p :: ps => by
    show max (PyData.depth (pd p)) (PyData.depthAll (ps.map pd)) ≤ 2
    rw [pd_depth]
    exact Nat.max_le.mpr ⟨Nat.le_refl _, pds_depth ps⟩
theorem any_pd (ps : List Pr) (p : Pr) : ((ps.map pd).any fun y => PyData.eqv y (pd p)) = decide (p ∈ ps) := by
  rw [Bool.eq_iff_iff, List.any_eq_true, decide_eq_true_iff]
  constructor
  · rintro ⟨d, h1, h2⟩
    obtain ⟨q, h3, rfl⟩ := List.mem_map.mp h1
    rw [pd_eq, decide_eq_true_iff] at h2
    exact h2 ▸ h3
  · exact fun h => ⟨pd p, List.mem_map.mpr ⟨p, h, rfl⟩, by rw [pd_eq]; exact decide_eq_true rfl⟩
theorem r_ninP {M : Addr → Prop} {hp : Hp} {D sn : Addr} {ss : List Pr} {p : Pr} {Qb : Bool → Prop} (h1 : PairV M hp (.ref D) p) (h2 : PL M hp sn ss) (o1 : pOk p) (o2 : ∀ q ∈ ss, pOk q) (h : Qb (!decide (p ∈ ss))) : opCmp .NotIn (.ref D) (.ref sn) hp Qb := by
  obtain ⟨vs, a, b⟩ := h2
  unfold opCmp cmpIn
  simp only [a]
  refine ⟨pd p, ss.map pd, h1.rd, .inl (.list a b.rd), pds_lay o2, ?_, ?_⟩
  · unfold SeqAt.shaped
    rw [Bool.and_eq_true]
    exact ⟨pd_lay o1, decide_eq_true (by rw [pd_depth]; decide)⟩
  · rw [any_pd, Bool.true_xor]; exact h
theorem r_neP {M : Addr → Prop} {hp : Hp} {cl D : Addr} {ps : List Pr} {Qb : Bool → Prop} (h2 : PL M hp cl ps) (o2 : ∀ q ∈ ps, pOk q) (hD : hp D = some (.list [])) (h : Qb (!ps.isEmpty)) : opCmp .NotEq (.ref cl) (.ref D) hp Qb := by
  obtain ⟨vs, a, b⟩ := h2
  refine r_neNil a hD b.rd (pds_lay o2) (Nat.le_trans (pds_depth ps) (by decide)) ?_
  rw [List.isEmpty_map]; exact h
theorem PairA.split {M : Addr → Prop} {hp : Hp} : ∀ {vs ps p}, PairA M hp vs (ps ++ [p]) → ∃ vs' v, vs = vs' ++ [v] ∧ PairA M hp vs' ps ∧ PairV M hp v p
  | [], [], _, h => h.elim
  | [], _ :: _, _, h => h.elim
  | [v], [], p, h => ⟨[], v, rfl, trivial, h.1⟩
  | v :: w :: vs, [], p, h => h.2.elim
  | v :: vs, q :: ps, p, h => by
    obtain ⟨vs', w, rfl, h1, h2⟩ := PairA.split (vs := vs) (ps := ps) h.2
    exact ⟨v :: vs', w, rfl, ⟨h.1, h1⟩, h2⟩
theorem PL.pop {M : Addr → Prop} {hp : Hp} {cl : Addr} {ps : List Pr} {p : Pr} {Q : V → Hp → Prop} (hcl : M cl) (F : PL M hp cl (ps ++ [p])) (hl : (ps ++ [p]).length ≤ 1000000)
    (h : ∀ d hp', Ext (· = cl) hp hp' → PL M hp' cl ps → PairV M hp' (.ref d) p → Q (.ref d) hp') : mPop (.ref cl) [] hp Q := by
  obtain ⟨vs, a, b⟩ := F
  obtain ⟨vs', v, rfl, h1, h2⟩ := b.split
  have X : Ext (· = cl) hp (hp.set cl (.list vs')) := Ext.upd rfl (by rw [a]; rfl)
  have hv := h2.ext X fun x hx => hx ▸ hcl
  refine r_pop a (by rw [b.len]; exact hl) (v := v) (by simp) ?_
  rw [List.dropLast_concat]
  obtain ⟨d, e, rfl, _⟩ := id h2
  exact h d _ X ⟨vs', Hp.set_same .., h1.ext X fun x hx => hx ▸ hcl⟩ hv

/-! ## the work list, in plain terms -/
noncomputable def subs : List Str → List (List Str)
  | [] => [[]]
  | a :: l => subs l ++ (subs l).map (a :: ·)
theorem subs_len : ∀ l, (subs l).length = 2 ^ l.length
  | [] => rfl
  | a :: l => by rw [subs, List.length_append, List.length_map, subs_len l, List.length_cons, Nat.pow_succ]; lia
theorem mem_subs (f : Str → Bool) : ∀ l, l.filter f ∈ subs l
  | [] => .head _
  | a :: l => by
    rw [List.filter_cons, subs, List.mem_append]
    split
    · exact .inr (List.mem_map.mpr ⟨_, mem_subs f l, rfl⟩)
    · exact .inl (mem_subs f l)
noncomputable def UU (ns : List Str) : List Pr := ns.flatMap fun x => (subs (srt univ)).map fun k => (x, k)
theorem UU_len : ∀ ns, (UU ns).length = 512 * ns.length
  | [] => rfl
  | x :: ns => by
    have ih := UU_len ns
    unfold UU at ih ⊢
    rw [List.flatMap_cons, List.length_append, List.length_map, ih, subs_len, (srt_perm univ).length_eq, List.length_cons, show univ.length = 9 from rfl]
    lia
theorem mem_UU {ns : List Str} {p : Pr} (h1 : p.1 ∈ ns) {S : Str → Prop} (h2 : p.2 = canon S) : p ∈ UU ns := by
  refine List.mem_flatMap.mpr ⟨p.1, h1, List.mem_map.mpr ⟨p.2, ?_, rfl⟩⟩
  rw [h2]
  exact mem_subs _ _
theorem nodup_subG {α : Type} [BEq α] [LawfulBEq α] : ∀ {l m : List α}, l.Nodup → (∀ x ∈ l, x ∈ m) → l.length ≤ m.length
  | [], _, _, _ => Nat.zero_le _
  | x :: l, m, hn, h => by
    have hn' := List.nodup_cons.mp hn
    have hx := h x (.head _)
    have h0 : 0 < m.length := List.length_pos_of_mem hx
    have := nodup_subG (m := m.erase x) hn'.2 fun y hy => (List.mem_erase_of_ne fun (e : y = x) => hn'.1 (e ▸ hy)).mpr (h y (.tail _ hy))
    rw [List.length_erase_of_mem hx] at this
    rw [List.length_cons]; lia
theorem Occ_pt {rs : Rules} : ∀ (t : T) {B B' : Str → Prop} {m y : Str}, (B y → B' y) → Occ rs t B m y → Occ rs t B' m y
  | .text _, _, _, _, _, _, e => e
  | .name x, _, _, _, _, h, e => ⟨e.1, e.2.1, h e.2.2⟩
  | .eps, _, _, _, _, _, e => e
  | .seq a b, _, _, _, _, h, e => e.imp (Occ_pt a fun q => q.imp id fun q => ⟨q.1, h q.2⟩) (Occ_pt b h)
  | .alt a b, _, _, _, _, h, e => e.imp (Occ_pt a h) (Occ_pt b h)
  | .opt a, _, _, _, _, h, e => Occ_pt a h e
  | .rep a, _, _, _, _, h, e => Occ_pt a (fun q => q.imp id fun q => ⟨q.1, h q.2⟩) e
theorem canon_self {ks : List Str} {S : Str → Prop} (h : ks = canon S) : canon (· ∈ ks) = ks := by
  rw [h]
  exact canon_congrU fun x hx => by rw [mem_canon]; exact ⟨(·.2), fun s => ⟨hx, s⟩⟩
noncomputable abbrev R0 : Str := "R0"
structure WInv (rs : Rules) (ps ss : List Pr) (F : Str → Str → Prop) : Prop where
  shape : ∀ p, p ∈ ps ∨ p ∈ ss → p.1 ∈ nsOf rs ∧ ∃ S, p.2 = canon S
  snd : ∀ p, p ∈ ps ∨ p ∈ ss → ∀ y ∈ p.2, Fol rs R0 p.1 y
  due : ∀ m, ∀ y ∈ univ, F m y ↔ ∃ ks, (m, ks) ∈ ss ∧ y ∈ ks
  step : ∀ n ks t, (n, ks) ∈ ss → rs.lookup n = some t → ∀ p ∈ wk rs t (· ∈ ks), p ∈ ps ∨ p ∈ ss
  st : (R0, [(("eof" : Str))]) ∈ ps ∨ (R0, [(("eof" : Str))]) ∈ ss
  ini : ∀ n ∈ nsOf rs, (n, []) ∈ ps ∨ (n, []) ∈ ss
  nd : ss.Nodup
  len : ps.length ≤ 10 + 16 * ss.length
theorem WInv.bound {rs ps ss F} (W : WInv rs ps ss F) : ss.length ≤ 512 * (nsOf rs).length := by
  rw [← UU_len]
  exact nodup_subG W.nd fun p hp => let ⟨a, S, b⟩ := W.shape p (.inr hp); mem_UU a b
theorem WInv.ok {rs ps ss F} (ok : RsOk rs) (W : WInv rs ps ss F) (p : Pr) (h : p ∈ ps ∨ p ∈ ss) : pOk p := by
  obtain ⟨a, S, b⟩ := W.shape p h
  exact ⟨ok.un _ a, fun x hx => by rw [b] at hx; exact canon_in x hx⟩
theorem WInv.old {rs ps p ss F} (W : WInv rs (ps ++ [p]) ss F) (h : p ∈ ss) : WInv rs ps ss F := by
  have up : ∀ q, q ∈ ps ∨ q ∈ ss → q ∈ ps ++ [p] ∨ q ∈ ss := fun q hq => hq.imp (List.mem_append_left _) id
  have dn : ∀ q, q ∈ ps ++ [p] ∨ q ∈ ss → q ∈ ps ∨ q ∈ ss := fun q hq => hq.elim (fun hq => (List.mem_append.mp hq).elim .inl fun hq => .inr (List.mem_singleton.mp hq ▸ h)) .inr
  refine ⟨fun q hq => W.shape q (up q hq), fun q hq => W.snd q (up q hq), W.due, fun n ks t a b q hq => dn q (W.step n ks t a b q hq), dn _ W.st, fun n hn => dn _ (W.ini n hn), W.nd, ?_⟩
  have := W.len
  rw [List.length_append, List.length_singleton] at this
  lia
theorem WInv.new {rs ps p ss F t} (ok : RsOk rs) (W : WInv rs (ps ++ [p]) ss F) (h : p ∉ ss) (ht' : rs.lookup p.1 = some t) : WInv rs (ps ++ wk rs t (· ∈ p.2)) (ss ++ [p]) (fun m y => (m = p.1 ∧ (F p.1 y ∨ y ∈ p.2)) ∨ (m ≠ p.1 ∧ F m y)) := by
  have hp : p ∈ ps ++ [p] := List.mem_append_right _ (.head _)
  have up : ∀ q, q ∈ ps ++ [p] ∨ q ∈ ss → q ∈ ps ++ wk rs t (· ∈ p.2) ∨ q ∈ ss ++ [p] := fun q hq => hq.elim (fun hq => (List.mem_append.mp hq).elim (fun hq => .inl (List.mem_append_left _ hq)) fun hq => .inr (List.mem_append_right _ hq)) fun hq => .inr (List.mem_append_left _ hq)
  have cs : ∀ q, q ∈ ps ++ wk rs t (· ∈ p.2) ∨ q ∈ ss ++ [p] → (q ∈ ps ++ [p] ∨ q ∈ ss) ∨ q ∈ wk rs t (· ∈ p.2) := fun q hq => by
    rcases hq with hq | hq <;> rcases List.mem_append.mp hq with hq | hq
    · exact .inl (.inl (List.mem_append_left _ hq))
    · exact .inr hq
    · exact .inl (.inr hq)
    · exact .inl (.inl (List.mem_append_right _ hq))
  refine ⟨fun q hq => (cs q hq).elim (W.shape q) (wk_shape rs t _), fun q hq y hy => ?_, fun m y hy => ?_, fun n ks u a b q hq => ?_, up _ W.st, fun n hn => up _ (W.ini n hn), ?_, ?_⟩
  · rcases cs q hq with hq | hq
    · exact W.snd q hq y hy
    · obtain ⟨_, S, e⟩ := wk_shape rs t _ hq
      have hyu : y ∈ univ := canon_in y (e ▸ hy)
      have o := (wk_occ rs hyu (m := q.1) t (· ∈ p.2)).mpr ⟨q.2, hq, hy⟩
      exact (Fol.closed rs R0).step p.1 t ht' q.1 y (Occ_mono t (fun z hz => W.snd p (.inl hp) z hz) _ _ o)
  · rw [show (∃ ks, (m, ks) ∈ ss ++ [p] ∧ y ∈ ks) ↔ (∃ ks, (m, ks) ∈ ss ∧ y ∈ ks) ∨ (m = p.1 ∧ y ∈ p.2) from ?_, ← W.due m y hy]
    · by_cases e : m = p.1
      · rw [← e]
        exact ⟨fun q => q.elim (fun q => q.2.imp id fun q => ⟨rfl, q⟩) fun q => absurd rfl q.1, fun q => .inl ⟨rfl, q.imp id (·.2)⟩⟩
      · exact ⟨fun q => q.elim (fun q => absurd q.1 e) fun q => .inl q.2, fun q => q.elim (fun q => .inr ⟨e, q⟩) fun q => absurd q.1 e⟩
    · constructor
      · rintro ⟨ks, a, b⟩
        rcases List.mem_append.mp a with a | a
        · exact .inl ⟨ks, a, b⟩
        · rw [List.mem_singleton] at a; subst a; exact .inr ⟨rfl, b⟩
      · rintro (⟨ks, a, b⟩ | ⟨a, b⟩)
        · exact ⟨ks, List.mem_append_left _ a, b⟩
        · exact ⟨p.2, List.mem_append_right _ (by subst a; exact .head _), b⟩
  · rcases List.mem_append.mp a with a | a
    · exact up _ (W.step n ks u a b q hq)
    · rw [List.mem_singleton] at a
      subst a
      rw [ht'] at b; cases b
      exact .inl (List.mem_append_right _ hq)
  · rw [List.nodup_append]
    exact ⟨W.nd, List.nodup_cons.mpr ⟨(fun h => by cases h), List.nodup_nil⟩, fun a ha b hb e => by rw [List.mem_singleton] at hb; exact h (hb ▸ e ▸ ha)⟩
  · have h1 := W.len
    have h2 := wk_len rs t (· ∈ p.2)
    have h3 : 2 ^ ht t ≤ 16 := Nat.le_trans (Nat.pow_le_pow_right (by decide) (ok.wf _ _ ht').2) (by decide)
    rw [List.length_append, List.length_singleton] at h1
    rw [List.length_append, List.length_append, List.length_singleton]
    lia
theorem WInv.done {rs ss F} (W : WInv rs [] ss F) : ∀ m, ∀ y ∈ univ, F m y ↔ Fol rs R0 m y := by
  intro m y hy
  rw [W.due m y hy]
  constructor
  · rintro ⟨ks, a, b⟩
    exact W.snd _ (.inr a) y b
  · intro h
    refine h (fun m y => y ∈ univ → ∃ ks, (m, ks) ∈ ss ∧ y ∈ ks) ⟨fun _ _ => ⟨_, W.st.resolve_left (fun q => by cases q), .head _⟩, fun n t e m y o hy => ?_⟩ hy
    have hn : n ∈ nsOf rs := lookup_ns.mpr ⟨t, e⟩
    have h0 : (n, []) ∈ ss := (W.ini n hn).resolve_left (fun q => by cases q)
    have o1 : Occ rs t (fun z => ∃ i : {ks : List Str // (n, ks) ∈ ss}, z ∈ i.1) m y := Occ_pt t (fun q => let ⟨ks, a, b⟩ := q hy; ⟨⟨ks, a⟩, b⟩) o
    obtain ⟨⟨ks, a⟩, o2⟩ := Occ_each (⟨[], h0⟩ : {ks : List Str // (n, ks) ∈ ss}) t o1
    obtain ⟨ks', b, c⟩ := (wk_occ rs hy t (· ∈ ks)).mp o2
    exact ⟨ks', (W.step n ks t a e _ b).resolve_left (fun q => by cases q), c⟩
end
section
noncomputable abbrev M2 (a b : Addr) : Addr → Prop := fun x => x = a ∨ x = b
noncomputable abbrev M3 (a b c : Addr) : Addr → Prop := fun x => x = a ∨ x = b ∨ x = c
theorem famE_put_old {ad : Str → Addr} {ns : List Str} {x : Str} {D : Addr} (h : x ∈ ns) : putV (famE ns ad) x (.ref D) = famE ns (fun y => if y = x then D else ad y) := by
  unfold putV
  rw [if_pos (by rw [famE_hasK]; simpa using h)]
  unfold famE
  rw [List.map_map]
  refine List.map_congr_left fun y _ => ?_
  show (if (y == x) = true then _ else _) = (y, V.ref (if y = x then D else ad y))
  by_cases e : y = x
  · rw [if_pos e, if_pos (by rw [e]; exact beq_self_eq_true x), e]
  · rw [if_neg e, if_neg (by rw [beq_false_of_ne e]; decide)]
noncomputable def DueD (M : Addr → Prop) (hp : Hp) (du : Addr) (ns : List Str) (F : Str → Str → Prop) : Prop := ∃ ep ad, hp du = some (.dict ep (famE ns ad)) ∧ ∀ x ∈ ns, LS hp (ad x) (F x) ∧ ¬ M (ad x)
theorem DueD.ext {M M' : Addr → Prop} {hp hp' du ns F} (X : Ext M' hp hp') (hM : ∀ x, M' x → M x) (n : ¬ M' du) (h : DueD M hp du ns F) : DueD M hp' du ns F := let ⟨ep, ad, a, b⟩ := h; ⟨ep, ad, X.keep _ _ a n, fun x hx => ⟨X.keep _ _ (b x hx).1 fun m => (b x hx).2 (hM _ m), (b x hx).2⟩⟩
theorem DueD.congr {M : Addr → Prop} {hp du ns} {F F' : Str → Str → Prop} (h : DueD M hp du ns F) (e : ∀ x, ∀ y ∈ univ, F x y ↔ F' x y) : DueD M hp du ns F' := let ⟨ep, ad, a, b⟩ := h; ⟨ep, ad, a, fun x hx => ⟨by have := (b x hx).1; unfold LS at this ⊢; rw [← canon_congrU (e x)]; exact this, (b x hx).2⟩⟩
theorem canon_nil : canon (fun _ => False) = [] := List.filter_eq_nil_iff.mpr fun x _ => by simp
/-- another name's row -/
theorem DueD.put {M : Addr → Prop} {hp : Hp} {du : Addr} {ns : List Str} {F : Str → Str → Prop} {x : Str} {D : Addr} {S : Str → Prop} {Q : Hp → Prop} (hdu : M du) (h : DueD M hp du ns F) (hx : x ∈ ns ∨ x ∉ ns) (hl : ns.length ≤ 100) (hD : LS hp D S) (hn : ¬ M D)
    (q : ∀ hp' ns', (x ∈ ns → ns' = ns) → (x ∉ ns → ns' = ns ++ [x]) → Ext (· = du) hp hp' → DueD M hp' du ns' (fun m y => (m = x ∧ S y) ∨ (m ≠ x ∧ F m y)) → Q hp') : opStore (.ref du) (.str x) (.ref D) hp Q := by
  obtain ⟨ep, ad, a, b⟩ := h
  refine r_storeD a (by rw [famE_len]; lia) ?_
  have key : ∀ o, Ext (· = du) hp (hp.set du o) := fun o => Ext.upd rfl (by rw [a]; rfl)
  have row : ∀ o m, (m = x ∨ m ∈ ns) → LS (hp.set du o) (if m = x then D else ad m) (fun y => (m = x ∧ S y) ∨ (m ≠ x ∧ F m y)) ∧ ¬ M (if m = x then D else ad m) := fun o m hm => by
    by_cases e : m = x
    · rw [if_pos e]
      refine ⟨?_, hn⟩
      unfold LS
      rw [← canon_congr fun y => (⟨fun s => .inl ⟨e, s⟩, fun s => s.elim (·.2) fun s => absurd e s.1⟩ : S y ↔ _)]
      exact (key o).keep _ _ hD fun (q : D = du) => hn (q ▸ hdu)
    · rw [if_neg e]
      have := b m (hm.resolve_left e)
      refine ⟨?_, this.2⟩
      unfold LS
      rw [← canon_congr fun y => (⟨fun s => .inr ⟨e, s⟩, fun s => s.elim (fun s => absurd s.1 e) (·.2)⟩ : F m y ↔ _)]
      exact (key o).keep _ _ this.1 fun (q : ad m = du) => this.2 (q ▸ hdu)
  rcases hx with hx | hx
  · rw [famE_put_old hx]
    exact q _ ns (fun _ => rfl) (fun e => absurd hx e) (key _) ⟨_, _, Hp.set_same .., fun m hm => row _ m (.inr hm)⟩
  · rw [famE_put hx]
    exact q _ (ns ++ [x]) (fun e => absurd e hx) (fun _ => rfl) (key _) ⟨_, _, Hp.set_same .., fun m hm => row _ m ((List.mem_append.mp hm).elim .inr fun h => .inl (List.mem_singleton.mp h))⟩
theorem PairV.weak {M M' : Addr → Prop} {hp v p} (h : PairV M hp v p) (w : ∀ e, hp e ≠ none → ¬ M e → ¬ M' e) : PairV M' hp v p := let ⟨d, e, a, b, c, n⟩ := h; ⟨d, e, a, b, c, w e (ne_none c) n⟩
theorem PairA.weak {M M' : Addr → Prop} {hp} (w : ∀ e, hp e ≠ none → ¬ M e → ¬ M' e) : ∀ {vs ps}, PairA M hp vs ps → PairA M' hp vs ps
  | [], [], _ => trivial
  | v :: vs, c :: cs, h => ⟨h.1.weak w, PairA.weak w h.2⟩
  | [], _ :: _, h => h.elim
  | _ :: _, [], h => h.elim

section
variable {g : Gl} {rs : Rules} {hB : Hp} {fa rd hd ed : Addr} {cl du od : Addr}
theorem af_loop {names : List V} (hcl : hB cl = none) (hdu : hB du = none) (hcd : cl ≠ du) (hod : od ≠ cl ∧ od ≠ du) {N : Loc → Hp → Prop} {R : V → Hp → Prop} : ∀ (l pre : List Str) (hp : Hp) (ps : List Pr) (o : Option V), (pre ++ l).Nodup → (pre ++ l).length ≤ 9 → ps.length + l.length ≤ 100 → Ext No hB hp → hp od = some (.list names) →
      DueD (M2 cl du) hp du pre (fun _ _ => False) → PL (M2 cl du) hp cl ps →
      (∀ hp' o', Ext No hB hp' → DueD (M2 cl du) hp' du (pre ++ l) (fun _ _ => False) → PL (M2 cl du) hp' cl (ps ++ l.map fun x => (x, [])) → N [some (.ref fa), some (.ref du), some (.ref cl), o', none, none] hp') →
      forL (tName 3) (sSeq t_l_after_2) (fun h => h od = some (.list names)) (l.map V.str) [some (.ref fa), some (.ref du), some (.ref cl), o, none, none] hp N R
  | [], pre, hp, ps, o, hnd, hlen, hps, X, hO, hd', hc', q => by
    refine f_nil hO (q hp o X ?_ ?_)
    · rw [List.append_nil]; exact hd'
    · rw [List.map_nil, List.append_nil]; exact hc'
  | x :: l, pre, hp, ps, o, hnd, hlen, hps, X, hO, hd', hc', q => by
    have hx : x ∉ pre := fun h => by
      rw [List.nodup_append] at hnd
      exact hnd.2.2 x h x (.head _) rfl
    have hpl : pre.length ≤ 9 := by rw [List.length_append] at hlen; lia
    have live : ∀ {h : Hp}, Ext (M2 cl du) hp h → ∀ {D}, h D = none → ¬ (D = cl ∨ D = du) := fun Y D hD e => by
      have h1 := Y.live cl hc'.live
      have h2 := Y.live du (by obtain ⟨ep, ad, a, _⟩ := hd'; exact ne_none a)
      rcases e with rfl | rfl
      · exact h1 hD
      · exact h2 hD
    refine f_cons hO ?_
    walk_at "ab"
    intro D hD
    have X1 : Ext No hp (hp.set D (.list [])) := Ext.alloc hD
    have LD : LS (hp.set D (.list [])) D (fun _ => False) := by unfold LS; rw [Hp.set_same, canon_nil]; rfl
    walk_at "ab"
    refine DueD.put (.inr rfl) (hd'.ext X1 (fun _ h => h.elim) id) (.inr hx) (by lia) LD (live (Ext.refl _) hD) fun h2 ns' _ e2 Y2 D2 => ?_
    rw [e2 hx] at D2
    have Y02 : Ext (M2 cl du) hp h2 := X1.no.trans (Y2.mono fun b e => .inr e)
    have hc2 : PL (M2 cl du) h2 cl ps := (hc'.ext X1 (fun _ h => h.elim) id).ext Y2 (fun _ e => .inr e) hcd
    walk_at "ab"
    refine ⟨by obtain ⟨vs, p, _⟩ := hc2; exact r_isL p, ?_⟩
    walk_at "ab"
    intro De hDe
    have X3 : Ext No h2 (h2.set De (.list (([] : List Str).map V.str))) := Ext.alloc hDe
    walk_at "ab"
    intro Dt hDt
    walk_at "ab"
    refine PL.add (.inl rfl) (hc2.ext X3 (fun _ h => h.elim) id) (by lia) (ks := []) (e := De) (Hp.set_same ..) (live Y02 hDe) hDt fun h4 Y4 F4 => ?_
    walk_at "ab"
    have D4 := ((D2.ext X3 (fun _ h => h.elim) id).ext Y4 (fun _ e => .inl e) fun e => hcd e.symm).congr (F' := fun _ _ => False) fun m y _ => ⟨fun q => q.elim (·.2) (·.2), fun q => q.elim⟩
    have Y04 : Ext (M2 cl du) hp h4 := (Y02.trans X3.no).trans (Y4.mono fun b e => .inl e)
    rw [List.length_cons] at hps
    refine af_loop hcl hdu hcd hod l (pre ++ [x]) h4 _ _ (by rwa [List.append_assoc]) (by rwa [List.append_assoc]) (by rw [List.length_append, List.length_singleton]; lia) (X.base Y04 fun y e => by rcases e with rfl | rfl <;> assumption) (Y04.keep _ _ hO fun e => e.elim hod.1 hod.2) D4 F4 fun hp' o' c1 c2 c3 => q hp' o' c1 (by rw [List.append_assoc] at c2; exact c2) (by rw [List.append_assoc] at c3; exact c3)

theorem c_after (ok : RsOk rs) (hst : R0 ∈ nsOf rs) {n : Nat} (hn : 9 ≤ n) {hp : Hp} {Q : V → Hp → Prop} (FB : Fcts hp fa rd hd ed rs) (hrd : ∃ ep es, hp rd = some (.dict ep es) ∧ srt (es.map (·.1)) = nsOf rs) 
    (h : ∀ D hp' (M : Addr → Prop), hp D = none → Ext No hp hp' → DueD M hp' D (nsOf rs) (Fol rs R0) → Q (.ref D) hp') : callD g n .l_after [.ref fa] hp Q := by
  obtain ⟨m, rfl⟩ : ∃ m, n = m + 1 := ⟨n - 1, by lia⟩
  obtain ⟨epr, esr, hr, hsr⟩ := hrd
  have hlen : (nsOf rs).length ≤ 9 := by have := ok.len; simpa using this
  have hesr : esr.length = (nsOf rs).length := by rw [← hsr, (srt_perm _).length_eq, List.length_map]
  have hfa := FB.1
  refine u_l_after ?_
  unfold b_l_after
  walk_at "ab"
  intro du hdu
  have X1 : Ext No hp (hp.set du (.dict 0 [])) := Ext.alloc hdu
  have g1 : (hp.set du (.dict 0 [])) du = some (.dict 0 (famE [] fun _ => 0)) := Hp.set_same ..
  generalize (hp.set du (.dict 0 [])) = h1 at X1 g1 ⊢
  walk_at "ab"
  intro De hDe
  have X2 := X1.trans (Ext.alloc hDe (o := .list [.str "eof"]))
  have g2 := (Ext.alloc (M := No) hDe (o := .list [.str "eof"])).get g1
  have e2 : (h1.set De (.list [.str "eof"])) De = some (.list (([(("eof" : Str))] : List Str).map V.str)) := Hp.set_same ..
  generalize (h1.set De (.list [.str "eof"])) = h2 at X2 g2 e2 ⊢
  walk_at "ab"
  intro Dt hDt
  have X3 := X2.trans (Ext.alloc hDt (o := .tup [.str "R0", .ref De]))
  have g3 := (Ext.alloc (M := No) hDt (o := .tup [.str "R0", .ref De])).get g2
  have e3 := (Ext.alloc (M := No) hDt (o := .tup [.str "R0", .ref De])).get e2
  have t3 : (h2.set Dt (.tup [.str "R0", .ref De])) Dt = some (.tup [.str "R0", .ref De]) := Hp.set_same ..
  generalize (h2.set Dt (.tup [.str "R0", .ref De])) = h3 at X3 g3 e3 t3 ⊢
  walk_at "ab"
  intro cl hcl
  have X4 := X3.trans (Ext.alloc hcl (o := .list [.ref Dt]))
  have g4 := (Ext.alloc (M := No) hcl (o := .list [.ref Dt])).get g3
  have e4 := (Ext.alloc (M := No) hcl (o := .list [.ref Dt])).get e3
  have t4 := (Ext.alloc (M := No) hcl (o := .list [.ref Dt])).get t3
  have c4 : (h3.set cl (.list [.ref Dt])) cl = some (.list [.ref Dt]) := Hp.set_same ..
  have hcd : cl ≠ du := fun e => by rw [e, g3] at hcl; cases hcl
  have hec : De ≠ cl := fun e => by rw [← e, e3] at hcl; cases hcl
  have hed' : De ≠ du := fun e => by rw [e, g1] at hDe; cases hDe
  have ncl := X3.new hcl
  generalize (h3.set cl (.list [.ref Dt])) = h4 at X4 g4 e4 t4 c4 ⊢
  have hfa4 := X4.get hfa
  walk_at "ab"
  refine r_sortedD (X4.get hr) (by lia) fun od hod => ?_
  rw [hsr]
  have X5 := X4.trans (Ext.alloc hod (o := .list ((nsOf rs).map V.str)))
  have g5 := (Ext.alloc (M := No) hod (o := .list ((nsOf rs).map V.str))).get g4
  have e5 := (Ext.alloc (M := No) hod (o := .list ((nsOf rs).map V.str))).get e4
  have t5 := (Ext.alloc (M := No) hod (o := .list ((nsOf rs).map V.str))).get t4
  have c5 := (Ext.alloc (M := No) hod (o := .list ((nsOf rs).map V.str))).get c4
  have o5 : (h4.set od (.list ((nsOf rs).map V.str))) od = some (.list ((nsOf rs).map V.str)) := Hp.set_same ..
  have hoc : od ≠ cl := fun e => by rw [e, c4] at hod; cases hod
  have hou : od ≠ du := fun e => by rw [e, g4] at hod; cases hod
  generalize (h4.set od (.list ((nsOf rs).map V.str))) = h5 at X5 g5 e5 t5 c5 o5 ⊢
  refine r_forL o5 ?_
  refine af_loop ncl hdu hcd ⟨hoc, hou⟩ (nsOf rs) [] h5 [(R0, [(("eof" : Str))])] none (by simpa using ok.nd) (by simpa using hlen) (by simp only [List.length_singleton]; lia) X5 o5 ⟨0, fun _ => 0, g5, fun x hx => by cases hx⟩ ⟨[.ref Dt], c5, ⟨Dt, De, rfl, t5, e5, fun e => e.elim hec hed'⟩, trivial⟩ fun h6 o6 X6 D6 P6 => ?_
  rw [List.nil_append] at D6
  walk_at "ab"
  intro sn hsn
  have ncl6 : h6 cl ≠ none := P6.live
  have ndu6 : h6 du ≠ none := by obtain ⟨ep, ad, a, _⟩ := D6; exact ne_none a
  have X7 := X6.trans (Ext.alloc hsn (o := .list []))
  have nsn := X6.new hsn
  have hsc : sn ≠ cl := fun e => ncl6 (e ▸ hsn)
  have hsd : sn ≠ du := fun e => ndu6 (e ▸ hsn)
  have wk0 : ∀ e, h6 e ≠ none → ¬ (e = cl ∨ e = du) → ¬ (e = cl ∨ e = du ∨ e = sn) := fun e h1 h2 h3 => h3.elim (fun q => h2 (.inl q)) fun q => q.elim (fun q => h2 (.inr q)) fun q => h1 (q ▸ hsn)
  have P7 : PL (M3 cl du sn) (h6.set sn (.list [])) cl ([(R0, [(("eof" : Str))])] ++ (nsOf rs).map fun x => (x, [])) := by
    obtain ⟨vs, a, b⟩ := P6
    exact PL.ext (M' := No) (Ext.alloc hsn) (fun _ h => h.elim) id ⟨vs, a, b.weak wk0⟩
  have D7 : DueD (M3 cl du sn) (h6.set sn (.list [])) du (nsOf rs) (fun _ _ => False) := by
    obtain ⟨ep, ad, a, b⟩ := D6
    exact DueD.ext (M' := No) (Ext.alloc hsn) (fun _ h => h.elim) id ⟨ep, ad, a, fun x hx => ⟨(b x hx).1, wk0 _ (ne_none (b x hx).1) (b x hx).2⟩⟩
  have S7 : PL (M3 cl du sn) (h6.set sn (.list [])) sn [] := ⟨[], Hp.set_same .., trivial⟩
  generalize (h6.set sn (.list [])) = h7 at X7 P7 D7 S7 ⊢
  walk_at "ab"
  have W0 : WInv rs ([(R0, [(("eof" : Str))])] ++ (nsOf rs).map fun x => (x, [])) [] (fun _ _ => False) := by
    refine ⟨fun p hp => ?_, fun p hp y hy => ?_, fun m y _ => ⟨fun q => q.elim, fun ⟨ks, a, _⟩ => by cases a⟩, (fun n ks t a => by cases a), .inl (.head _), fun n hn => .inl (List.mem_append_right _ (List.mem_map.mpr ⟨n, hn, rfl⟩)), List.nodup_nil, ?_⟩
    · rcases hp with hp | hp
      · rcases List.mem_append.mp hp with hp | hp
        · rw [List.mem_singleton] at hp; subst hp
          exact ⟨hst, fun y => y = ("eof" : Str), canon_one (by decide +kernel) fun y => Iff.rfl⟩
        · obtain ⟨x, hx, rfl⟩ := List.mem_map.mp hp
          exact ⟨hx, fun _ => False, canon_nil.symm⟩
      · cases hp
    · rcases hp with hp | hp
      · rcases List.mem_append.mp hp with hp | hp
        · rw [List.mem_singleton] at hp; subst hp
          rw [List.mem_singleton] at hy; subst hy
          exact (Fol.closed rs R0).start (lookup_ns.mp hst)
        · obtain ⟨x, hx, rfl⟩ := List.mem_map.mp hp
          cases hy
      · cases hp
    · rw [List.length_append, List.length_map, List.length_singleton]; lia
  refine i_while (fun k ρ h' => ∃ ps ss F o3 o5, ρ = [some (.ref fa), some (.ref du), some (.ref cl), o3, some (.ref sn), o5] ∧ Ext No hp h' ∧ PL (M3 cl du sn) h' cl ps ∧ PL (M3 cl du sn) h' sn ss ∧ DueD (M3 cl du sn) h' du (nsOf rs) F ∧ WInv rs ps ss F ∧ k = 17 * (5000 - ss.length) + ps.length) _ ⟨_, _, _, _, _, rfl, X7, P7, S7, D7, W0, rfl⟩ ?_
  rintro k ρ hw ⟨ps, ss, F, o3, o5, rfl, X, P, S, D, W, rfl⟩
  have hss := W.bound
  have hpsl := W.len
  have okp := W.ok ok
  have nw : ∀ {hp' : Hp} {E}, Ext (M3 cl du sn) hw hp' → hp' E = none → ¬ (E = cl ∨ E = du ∨ E = sn) := fun Y hE e => by
    have l1 := Y.live cl P.live
    have l2 := Y.live du (by obtain ⟨ep, ad, a, _⟩ := D; exact ne_none a)
    have l3 := Y.live sn S.live
    rcases e with rfl | rfl | rfl
    · exact l1 hE
    · exact l2 hE
    · exact l3 hE
  have bs : ∀ {hp' : Hp}, Ext (M3 cl du sn) hw hp' → Ext No hp hp' := fun Y => X.base Y fun y e => by rcases e with rfl | rfl | rfl <;> assumption
  walk_at "ab"
  intro D1 hD1
  have Y1 : Ext No hw (hw.set D1 (.list [])) := Ext.alloc hD1
  refine r_neP (P.ext Y1 (fun _ h => h.elim) id) (fun q hq => okp q (.inl hq)) (Hp.set_same ..) ?_
  have P1 := P.ext Y1 (fun _ h => h.elim) id
  have S1 := S.ext Y1 (fun _ h => h.elim) id
  have D1' := D.ext Y1 (fun _ h => h.elim) id
  generalize (hw.set D1 (.list [])) = h1' at Y1 P1 S1 D1' ⊢
  cases hps : ps.isEmpty with
  | true =>
    have := List.isEmpty_iff.mp hps
    subst this
    refine ifF rfl ?_
    walk_at "ab"
    exact h du h1' _ hdu (X.trans Y1) (D1'.congr fun x => W.done x)
  | false =>
    refine ifT rfl ?_
    obtain ⟨ps', p, rfl⟩ : ∃ ps' p, ps = ps' ++ [p] := ⟨ps.dropLast, ps.getLast (fun e => by rw [e] at hps; cases hps), (List.dropLast_concat_getLast _).symm⟩
    rw [List.length_append, List.length_singleton] at hpsl
    walk_at "ab"
    refine ⟨by obtain ⟨vs, q, _⟩ := P1; exact r_isL q, ?_⟩
    walk_at "ab"
    refine PL.pop (.inl rfl) P1 (by rw [List.length_append, List.length_singleton]; lia) fun d h2' Y2 P2 V2 => ?_
    obtain ⟨d0, e, he0, hd2, he2, ne2⟩ := V2
    cases he0
    have S2 := S1.ext Y2 (fun _ e => .inl e) hsc
    have D2 := D1'.ext Y2 (fun _ e => .inl e) (Ne.symm hcd)
    have Y02 : Ext (M3 cl du sn) hw h2' := Y1.no.trans (Y2.mono fun b e => .inl e)
    walk_at "ab"
    intro D3 hD3
    have Y3 : Ext No h2' (h2'.set D3 (.tup [.str p.1, .ref e])) := Ext.alloc hD3
    have V3 : PairV (M3 cl du sn) (h2'.set D3 (.tup [.str p.1, .ref e])) (.ref D3) p := ⟨D3, e, rfl, Hp.set_same .., Y3.get he2, ne2⟩
    have S3 := S2.ext Y3 (fun _ h => h.elim) id
    have P3 := P2.ext Y3 (fun _ h => h.elim) id
    have D3' := D2.ext Y3 (fun _ h => h.elim) id
    have he3 := Y3.get he2
    refine r_ninP V3 S3 (okp p (.inl (List.mem_append_right _ (.head _)))) (fun q hq => okp q (.inr hq)) ?_
    have Y03 := Y02.trans Y3.no
    generalize (h2'.set D3 (.tup [.str p.1, .ref e])) = h3' at Y03 S3 P3 D3' he3 ⊢
    by_cases hin : p ∈ ss
    · refine ifF (by rw [decide_eq_true hin]; rfl) ?_
      walk_at "ab"
      exact ⟨_, by rw [List.length_append, List.length_singleton]; lia, _, _, _, _, _, rfl, bs Y03, P3, S3, D3', W.old hin, rfl⟩
    · refine ifT (by rw [decide_eq_false hin]; rfl) ?_
      obtain ⟨hpn, S0, hp2⟩ := W.shape p (.inl (List.mem_append_right _ (.head _)))
      obtain ⟨t, hpt⟩ := lookup_ns.mp hpn
      obtain ⟨hwf, hht⟩ := ok.wf _ _ hpt
      have hcs := canon_self hp2
      walk_at "ab"
      refine ⟨by obtain ⟨vs, q, _⟩ := S3; exact r_isL q, ?_⟩
      walk_at "ab"
      intro D4 hD4
      walk_at "ab"
      refine PL.add (.inr (.inr rfl)) S3 (by lia) he3 ne2 hD4 fun h4' Y4 S4 => ?_
      have P4 := P3.ext Y4 (fun _ e => .inr (.inr e)) (Ne.symm hsc)
      have D4' := D3'.ext Y4 (fun _ e => .inr (.inr e)) (Ne.symm hsd)
      have he4 := Y4.keep _ _ he3 fun (q : e = sn) => ne2 (.inr (.inr q))
      have Y04 := Y03.trans (Y4.mono fun b e => .inr (.inr e))
      walk_at "ab"
      obtain ⟨epd, ad, ha1, ha2⟩ := id D4'
      obtain ⟨hl1, hl2⟩ := ha2 _ hpn
      have l9 := canon_len (F p.1)
      have l9' := canon_len S0
      refine r_subD ha1 (famE_lookup hpn) ?_
      walk_at "ab"
      refine r_addS hl1 he4 (by rw [hp2]; lia) fun D5 hD5 => ?_
      have Y5 : Ext No h4' (h4'.set D5 (.list ((canon (F p.1) ++ p.2).map V.str))) := Ext.alloc hD5
      walk_at "ab"
      refine r_sset (P := fun y => F p.1 y ∨ y ∈ p.2) (Hp.set_same ..) (fun y hy => (List.mem_append.mp hy).elim (canon_in y) fun hy => (okp p (.inl (List.mem_append_right _ (.head _)))).2 y hy) (fun y hy => ?_) fun D6 hD6 => ?_
      · rw [List.mem_append, mem_canon]
        exact ⟨fun q => q.imp (·.2) id, fun q => q.imp (fun q => ⟨hy, q⟩) id⟩
      have Y6 := Y5.trans (Ext.alloc hD6 (o := .list ((canon fun y => F p.1 y ∨ y ∈ p.2).map V.str)))
      have L6 : LS ((h4'.set D5 (.list ((canon (F p.1) ++ p.2).map V.str))).set D6 (.list ((canon fun y => F p.1 y ∨ y ∈ p.2).map V.str))) D6 (fun y => F p.1 y ∨ y ∈ p.2) := Hp.set_same ..
      have n6 := nw (Y04.trans Y5.no) hD6
      generalize ((h4'.set D5 (.list ((canon (F p.1) ++ p.2).map V.str))).set D6 (.list ((canon fun y => F p.1 y ∨ y ∈ p.2).map V.str))) = h6' at Y6 L6 ⊢
      walk_at "ab"
      refine DueD.put (.inr (.inl rfl)) (D4'.ext Y6 (fun _ h => h.elim) id) (.inl hpn) (by lia) L6 n6 fun h7' ns' e1 _ Y7 D7' => ?_
      rw [e1 hpn] at D7'
      have P7' := (P4.ext Y6 (fun _ h => h.elim) id).ext Y7 (fun _ e => .inr (.inl e)) hcd
      have S7' := (S4.ext Y6 (fun _ h => h.elim) id).ext Y7 (fun _ e => .inr (.inl e)) hsd
      have he7 := Y7.keep _ _ (Y6.get he4) fun (q : e = du) => ne2 (.inr (.inl q))
      have Y07 := (Y04.trans Y6.no).trans (Y7.mono fun b e => .inr (.inl e))
      have Z7 := bs Y07
      have hfa7 := Z7.get hfa
      obtain ⟨epx, esx, hrx, hKx, hvx⟩ := FB.2.1.ex
      obtain ⟨tv, ht1, ht2⟩ := hvx _ t hpt
      walk_at "ab"
      refine r_subD (Z7.get hrx) ht1 ?_
      walk_at "ab"
      have hS7 : LS h7' e (· ∈ p.2) := by unfold LS; rw [hcs]; exact he7
      have U7 : Mu (M3 cl du sn) hp h7' := fun x hx => ⟨by rcases hx with rfl | rfl | rfl <;> assumption, by
        rcases hx with rfl | rfl | rfl
        · exact P7'.live
        · obtain ⟨ep, ad, a, _⟩ := D7'; exact ne_none a
        · exact S7'.live⟩
      refine c_walk FB (M := fun x => x = cl ∨ x = du ∨ x = sn) (.inl rfl) t m h7' tv e _ ps' _ (by lia) hwf (ht2.ext Z7) Z7 U7 hS7 ne2 P7' ?_ fun h8' Y8 P8 => ?_
      · have : 2 ^ ht t ≤ 16 := Nat.le_trans (Nat.pow_le_pow_right (by decide) hht) (by decide)
        lia
      walk_at "ab"
      have h16 : (wk rs t (· ∈ p.2)).length ≤ 16 := Nat.le_trans (wk_len rs t _) (Nat.le_trans (Nat.pow_le_pow_right (by decide) hht) (by decide))
      refine ⟨_, ?_, _, _, _, _, _, rfl, bs (Y07.trans (Y8.mono fun b e => .inl e)), P8, S7'.ext Y8 (fun _ e => .inl e) hsc, D7'.ext Y8 (fun _ e => .inl e) (Ne.symm hcd), W.new ok hin hpt, rfl⟩
      rw [List.length_append, List.length_append, List.length_append, List.length_singleton]
      lia
end
end
section
theorem r_lt {hp : Hp} {Qb : Bool → Prop} {x y : Int} (h : Qb (decide (x < y))) : opCmp .Lt (.int x) (.int y) hp Qb := h
theorem r_ge {hp : Hp} {Qb : Bool → Prop} {x y : Int} (h : Qb (decide (y ≤ x))) : opCmp .GtE (.int x) (.int y) hp Qb := h
theorem r_eqI {hp : Hp} {Qb : Bool → Prop} {x y : Int} (h : Qb (x == y)) : opCmp .Eq (.int x) (.int y) hp Qb := h
theorem r_mod {x y : Int} {hp : Hp} {Q : V → Hp → Prop} (h0 : 0 < y) (h1 : y < 100000) (h : ∀ r, 0 ≤ r → r < y → Q (.int r) hp) : opBin .Mod (.int x) (.int y) hp Q := ⟨h0, h1, h _ (Int.fmod_nonneg_of_pos x h0) (Int.fmod_lt_of_pos x h0)⟩
theorem r_fdiv {x y : Int} {hp : Hp} {Q : V → Hp → Prop} (h0 : 0 < y) (h1 : y < 100000) (h : ∀ r, Q (.int r) hp) : opBin .FloorDiv (.int x) (.int y) hp Q := ⟨h0, h1, h _⟩
theorem r_mul {x y : Int} {hp : Hp} {Q : V → Hp → Prop} (h0 : x.natAbs < 1000000) (h1 : y.natAbs < 1000000) (h : Q (.int (x * y)) hp) : opBin .Mult (.int x) (.int y) hp Q := ⟨h0, h1, h⟩
theorem r_sum {hp : Hp} {x : Addr} {ns : List Int} {Q : V → Hp → Prop} (hx : hp x = some (.list (ns.map V.int))) (h : ∀ t, Q (.int t) hp) : opSum [.ref x] hp Q := ⟨ns, hx, h _⟩
theorem e_sl {g : Gl} {k : Nat} {ρ : Loc} {hp : Hp} {Q : V → Hp → Prop} {i : Nat} (hi : look ρ i = some (.ref g.scrA)) (hl : g.scrN.length ≤ 1000000) (h : ∀ D, hp D = none → Q (.ref D) (hp.set D (.list ((g.scrN.take k).map V.int)))) : cSl g k (cV i) ρ hp Q := e_V hi ⟨rfl, hl, h⟩
theorem r_max {x : Int} {hp : Hp} {Q : V → Hp → Prop} (hx : x < 1000) (h : ∀ t, 1 ≤ t → t < 1000 → Q (.int t) hp) : opMax [.int x, .int 1] hp Q := by
  show Q (.int (if (1 : Int) > x then 1 else x)) hp
  split
  · exact h 1 (by decide) (by decide)
  · exact h x (by lia) hx
end
section
noncomputable def Pool (hp : Hp) (P W : Addr) : Prop := ∃ (ns : List Int) (t : Int), hp P = some (.list [.ref W, .int t]) ∧ hp W = some (.list (ns.map V.int)) ∧ P ≠ W ∧ (∀ n ∈ ns, 0 ≤ n ∧ n < 1000) ∧ ns.length ≤ 400 ∧ 0 ≤ t ∧ t < 1000
theorem Pool.ext {M : Addr → Prop} {hp hp' P W} (X : Ext M hp hp') (h1 : ¬ M P) (h2 : ¬ M W) (h : Pool hp P W) : Pool hp' P W := let ⟨ns, t, a, b, c⟩ := h; ⟨ns, t, X.keep _ _ a h1, X.keep _ _ b h2, c⟩
section
variable {g : Gl}
/-! ## _law_stock -/
noncomputable def Wt (ns : List Int) : Prop := ∀ n ∈ ns, 0 ≤ n ∧ n < 1000
theorem Wt.add {ns : List Int} {r : Int} (h : Wt ns) (h0 : 0 ≤ r) (h1 : r < 1000) : Wt (ns ++ [r]) := fun n hn => by
  rcases List.mem_append.mp hn with hn | hn
  · exact h n hn
  · rw [List.mem_singleton] at hn; subst hn; exact ⟨h0, h1⟩
theorem r_appI {hp : Hp} {x : Addr} {ns : List Int} {r : Int} {Q : V → Hp → Prop} (hx : hp x = some (.list (ns.map V.int))) (hl : ns.length ≤ 1000000) (h : Q .none (hp.set x (.list ((ns ++ [r]).map V.int)))) : mApp (.ref x) [.int r] hp Q := by
  refine r_app hx (by rw [List.length_map]; exact hl) ?_
  rw [List.map_append] at h; exact h
theorem st_loop {hp₀ : Hp} {W L scr : Addr} {lst : List V} (hW : hp₀ W = none) (hLW : L ≠ W) {N : Loc → Hp → Prop} {R : V → Hp → Prop} : ∀ (l : List Int) (hp : Hp) (ns : List Int) (o2 o3 : Option V), Ext No hp₀ hp → hp L = some (.list lst) → hp W = some (.list (ns.map V.int)) → Wt ns → ns.length + l.length ≤ 350 → l.length ≤ 50 →
      (∀ hp' ns' o2' o3', Ext No hp₀ hp' → hp' W = some (.list (ns'.map V.int)) → Wt ns' → ns'.length ≤ 350 → N [some (.ref scr), some (.ref W), o2', o3', none] hp') →
      forL (tName 2) (sSeq t_l_stock_6) (fun h => h L = some (.list lst)) (l.map V.int) [some (.ref scr), some (.ref W), o2, o3, none] hp N R
  | [], hp, ns, o2, o3, X, hL, hw, ok, h1, h2, q => f_nil hL (q hp ns o2 o3 X hw ok (by simpa using h1))
  | c :: l, hp, ns, o2, o3, X, hL, hw, ok, h1, h2, q => by
    rw [List.length_cons] at h1 h2
    have body : ∀ rest : Int, sSeq t_l_stock_5 [some (.ref scr), some (.ref W), some (.int c), some (.int rest), none] hp (fun ρ'' hp'' => forL (tName 2) (sSeq t_l_stock_6) (fun h => h L = some (.list lst)) (l.map V.int) ρ'' hp'' N R) R := fun rest => by
      walk_at "ab"
      refine ⟨r_isL hw, ?_⟩
      walk_at "ab"
      refine r_mod (by decide) (by decide) fun r r0 r1 => ?_
      walk_at "ab"
      refine r_appI hw (by lia) ?_
      have X1 := X.own (o := .list ((ns ++ [r]).map V.int)) hW
      have hL1 : (hp.set W (.list ((ns ++ [r]).map V.int))) L = some (.list lst) := by rw [Hp.set_ne _ _ hLW]; exact hL
      have hw1 : (hp.set W (.list ((ns ++ [r]).map V.int))) W = some (.list ((ns ++ [r]).map V.int)) := Hp.set_same ..
      have ok1 := ok.add r0 r1
      have hl1 : (ns ++ [r]).length + l.length ≤ 350 := by rw [List.length_append, List.length_singleton]; lia
      generalize hp.set W (.list ((ns ++ [r]).map V.int)) = h1' at X1 hL1 hw1 ⊢
      generalize ns ++ [r] = ns1 at hw1 ok1 hl1 ⊢
      walk_at "ab"
      refine r_fdiv (by decide) (by decide) fun rest1 => ?_
      walk_at "ab"
      refine i_while (fun k ρ hp' => ∃ ns' rest', ρ = [some (.ref scr), some (.ref W), some (.int c), some (.int rest'), none] ∧ Ext No hp₀ hp' ∧ hp' L = some (.list lst) ∧ hp' W = some (.list (ns'.map V.int)) ∧ Wt ns' ∧ ns'.length + l.length ≤ 350 ∧ k = 300 - ns'.length) _ ⟨ns1, rest1, rfl, X1, hL1, hw1, ok1, hl1, rfl⟩ ?_
      rintro k ρ hq ⟨ns', rest', rfl, X', hL', hw', ok', hl', rfl⟩
      walk_at "ab"
      refine r_gt ?_
      by_cases c1 : (0 : Int) < rest'
      · rw [decide_eq_true c1]
        walk_at "ab"
        refine r_lenL hw' (by rw [List.length_map]; lia) ?_
        walk_at "ab"
        refine r_lt ?_
        by_cases c2 : ((ns'.map V.int).length : Int) < 300
        · rw [decide_eq_true c2]
          rw [List.length_map] at c2
          walk_at "ab"
          refine ⟨r_isL hw', ?_⟩
          walk_at "ab"
          refine r_mod (by decide) (by decide) fun r r0 r1 => ?_
          walk_at "ab"
          refine r_appI hw' (by lia) ?_
          walk_at "ab"
          refine r_fdiv (by decide) (by decide) fun rest2 => ?_
          walk_at "ab"
          refine ⟨300 - (ns' ++ [r]).length, by rw [List.length_append, List.length_singleton]; lia, ns' ++ [r], rest2, rfl, X'.own hW, by rw [Hp.set_ne _ _ hLW]; exact hL', Hp.set_same .., ok'.add r0 r1, by rw [List.length_append, List.length_singleton]; lia, rfl⟩
        · rw [decide_eq_false c2]
          walk_at "ab"
          exact st_loop hW hLW l hq ns' _ _ X' hL' hw' ok' hl' (by lia) q
      · rw [decide_eq_false c1]
        walk_at "ab"
        exact st_loop hW hLW l hq ns' _ _ X' hL' hw' ok' hl' (by lia) q
    refine f_cons hL (i_name (i_seq (i_asg (e_if (b_cmp' (e_V rfl (e_C (r_ge ?_))))))))
    by_cases hc : (0 : Int) ≤ c
    · rw [decide_eq_true hc]
      refine if_t (e_V rfl (i_name ?_))
      exact body c
    · rw [decide_eq_false hc]
      refine if_f (e_bin (e_C (e_V rfl (r_bsub (i_name ?_)))))
      exact body _
theorem c_stock (hg : g.scrN.length ≤ 1000000) {n : Nat} (hn : 1 ≤ n) {hp : Hp} {Q : V → Hp → Prop} (h : ∀ P W hp', hp P = none → hp W = none → Ext No hp hp' → Pool hp' P W → Q (.ref P) hp') : callD g n .l_stock [.ref g.scrA] hp Q := by
  obtain ⟨m, rfl⟩ : ∃ m, n = m + 1 := ⟨n - 1, by lia⟩
  refine u_l_stock ?_
  unfold b_l_stock
  walk_at "ab"
  intro W hW
  walk_at "ab"
  refine e_sl rfl hg fun L hL => ?_
  have X1 : Ext No hp ((hp.set W (.list [])).set L (.list ((g.scrN.take 50).map V.int))) := (Ext.alloc hW).trans (Ext.alloc hL)
  have hLW : L ≠ W := fun e => by rw [e, Hp.set_same] at hL; cases hL
  refine r_forL (Hp.set_same ..) ?_
  refine st_loop hW hLW (g.scrN.take 50) _ [] none none X1 (Hp.set_same ..) (by rw [Hp.set_ne _ _ (Ne.symm hLW), Hp.set_same]; rfl) (fun n hn => by cases hn) (by simp [List.length_take]; lia) (by simp [List.length_take]; lia) fun h2 ns o2 o3 X2 w2 ok2 l2 => ?_
  have fin : ∀ (t : Int) (ρ : Loc), look ρ 1 = some (.ref W) → look ρ 4 = some (.int t) → 0 ≤ t → t < 1000 → sSeq t_l_stock_9 ρ h2 (fun _ hp' => Q .none hp') Q := fun t ρ a b t0 t1 => by
    refine i_seq (i_exp (e_lm (e_V a ⟨r_isL w2, a_nil (r_rv w2 (by rw [List.length_map]; lia) ?_)⟩)))
    refine i_seq (i_ret (e_list (a_cons (e_V a (a_cons (e_V b (a_nil fun P hP => ?_)))))))
    have hPW : P ≠ W := fun e => by rw [e, Hp.set_same] at hP; cases hP
    have X3 := X2.own (o := .list (ns.map V.int).reverse) hW
    refine h P W _ (X3.new hP) hW (X3.trans (Ext.alloc hP)) ⟨ns.reverse, t, Hp.set_same .., by rw [Hp.set_ne _ _ (Ne.symm hPW), Hp.set_same, List.map_reverse], hPW, fun n hn => ok2 n (List.mem_reverse.mp hn), by rw [List.length_reverse]; lia, t0, t1⟩
  walk_at "ab"
  refine ⟨rfl, hg, ?_⟩
  walk_at "ab"
  refine r_gt ?_
  by_cases c : (2 : Int) < (g.scrN.length : Int)
  · rw [decide_eq_true c]
    walk_at "ab"
    refine r_sum w2 fun t => ?_
    walk_at "ab"
    refine r_mod (by decide) (by decide) fun r r0 r1 => ?_
    refine r_badd (i_name (i_nil ?_))
    exact fin _ _ rfl rfl (by lia) (by lia)
  · rw [decide_eq_false c]
    refine if_f (i_nil ?_)
    exact fin 0 _ rfl rfl (by decide) (by decide)

/-! ## _law_pick -/
theorem r_storeL {hp : Hp} {x : Addr} {vs : List V} {i : Int} {v : V} {Q : Hp → Prop} (hx : hp x = some (.list vs)) (h0 : 0 ≤ i) (h1 : i < BIG) (h2 : i < vs.length) (h : Q (hp.set x (.list (vs.set i.toNat v)))) : opStore (.ref x) (.int i) v hp Q := by
  unfold opStore; simp only [hx]; exact ⟨h0, h1, h2, h⟩
theorem depI (ns : List Int) : PyData.depthAll (ns.map PyData.int) ≤ 60 := by rw [dpI]; exact Nat.zero_le _
noncomputable abbrev PW (P W : Addr) : Addr → Prop := fun x => x = P ∨ x = W
theorem c_pick {n : Nat} (hn : 1 ≤ n) {hp : Hp} {P W : Addr} {w : Int} {Q : V → Hp → Prop} (h0 : 0 < w) (h1 : w < 100000) (F : Pool hp P W) (h : ∀ r hp', 0 ≤ r → r < w → Ext (PW P W) hp hp' → Pool hp' P W → Q (.int r) hp') : callD g n .l_pick [.ref P, .int w] hp Q := by
  obtain ⟨m, rfl⟩ : ∃ m, n = m + 1 := ⟨n - 1, by lia⟩
  obtain ⟨ns, t, hP, hw, hPW, ok, hl, t0, t1⟩ := F
  refine u_l_pick ?_
  unfold b_l_pick
  walk_at "ab"
  refine r_subL hP (by decide) (by decide) rfl ?_
  walk_at "ab"
  intro D hD
  have X1 : Ext No hp (hp.set D (.list [])) := Ext.alloc hD
  refine r_neNil (X1.get hw) (Hp.set_same ..) (rd_ints ns) (cl0I ns) (depI ns) ?_
  rw [List.isEmpty_map]
  have hP1 := X1.get hP
  have hw1 := X1.get hw
  generalize hp.set D (.list []) = h1' at X1 hP1 hw1 ⊢
  cases q : ns.isEmpty with
  | false =>
    refine ifT rfl ?_
    obtain ⟨ns', k, rfl⟩ : ∃ ns' k, ns = ns' ++ [k] := ⟨ns.dropLast, ns.getLast (fun e => by rw [e] at q; cases q), (List.dropLast_concat_getLast _).symm⟩
    walk_at "ab"
    refine r_subL hP1 (by decide) (by decide) rfl ?_
    refine ⟨r_isL hw1, ?_⟩
    walk_at "ab"
    refine r_pop hw1 (by rw [List.length_map]; lia) (v := .int k) (by simp) ?_
    walk_at "ab"
    refine r_mod h0 h1 fun r r0 r1 => h r _ r0 r1 (X1.no.trans (Ext.upd (.inr rfl) (by rw [hw1]; rfl))) ⟨ns', t, by rw [Hp.set_ne _ _ hPW]; exact hP1, by rw [Hp.set_same]; simp, hPW, fun n hn => ok n (List.mem_append_left _ hn), by rw [List.length_append] at hl; lia, t0, t1⟩
  | true =>
    have := List.isEmpty_iff.mp q
    subst this
    refine ifF rfl (i_nil ?_)
    walk_at "ab"
    refine r_subL hP1 (by decide) (by decide) rfl ?_
    walk_at "ab"
    refine r_gt ?_
    by_cases c : (0 : Int) < t
    · rw [decide_eq_true c]
      walk_at "ab"
      refine r_subL hP1 (by decide) (by decide) rfl ?_
      walk_at "ab"
      refine r_mul (by lia) (by decide) ?_
      walk_at "ab"
      refine r_mod (by decide) (by decide) fun r r0 r1 => ?_
      walk_at "ab"
      refine r_max (by lia) fun t' a b => ?_
      walk_at "ab"
      refine r_storeL hP1 (by decide) (by decide) (show (1 : Int) < 2 by decide) ?_
      have X2 : Ext (PW P W) hp (h1'.set P (.list [.ref W, .int t'])) := X1.no.trans (Ext.upd (.inl rfl) (by rw [hP1]; rfl))
      have hP2 : (h1'.set P (.list [.ref W, .int t'])) P = some (.list [.ref W, .int t']) := Hp.set_same ..
      have hw2 : (h1'.set P (.list [.ref W, .int t'])) W = some (.list (([] : List Int).map V.int)) := by rw [Hp.set_ne _ _ (Ne.symm hPW)]; exact hw1
      refine (show sSeq _ _ (h1'.set P (.list [.ref W, .int t'])) _ _ → _ from fun h => h) ?_
      generalize h1'.set P (.list [.ref W, .int t']) = h2' at X2 hP2 hw2 ⊢
      walk_at "ab"
      refine r_subL hP2 (by decide) (by decide) rfl ?_
      walk_at "ab"
      refine r_mod h0 h1 fun r r0 r1 => h r _ r0 r1 X2 ⟨[], t', hP2, hw2, hPW, (fun n hn => by cases hn), Nat.zero_le _, by lia, by lia⟩
    · rw [decide_eq_false c]
      refine if_f (i_nil ?_)
      walk_at "ab"
      refine r_subL hP1 (by decide) (by decide) rfl ?_
      walk_at "ab"
      refine r_mod h0 h1 fun r r0 r1 => h r _ r0 r1 X1.no ⟨[], t, hP1, hw1, hPW, ok, hl, t0, t1⟩
end
end
section
theorem i_isubL {i : Nat} {k : Int} {x : Addr} {ρ : Loc} {hp : Hp} {N : Loc → Hp → Prop} {R : V → Hp → Prop} (hi : look ρ i = some (.ref x)) (hx : hp x = some (.list [.int k])) (h : N ρ (hp.set x (.list [.int (k - 1)]))) : sISub (cV i) (cC (.int 0)) (cC (.int 1)) ρ hp N R :=
  e_V hi (e_C ⟨⟨x, _, rfl, hx⟩, r_subL hx (by decide) (by decide) rfl (r_storeL hx (by decide) (by decide) (show (0 : Int) < 1 by decide) h)⟩)
theorem four {r : Int} (h0 : 0 ≤ r) (h1 : r < 4) {P : Int → Prop} (a : P 0) (b : P 1) (c : P 2) (d : P 3) : P r := by
  have : r = 0 ∨ r = 1 ∨ r = 2 ∨ r = 3 := by lia
  rcases this with rfl | rfl | rfl | rfl <;> assumption
noncomputable def subSK (x : Str) (Q : V → Hp → Prop) : V → Hp → Prop := fun v hp₁ => match v with
  | .int i => 0 ≤ i ∧ i < BIG ∧ (match x.cps[i.toNat]? with | some c => Q (.str ⟨#[c]⟩) hp₁ | none => False)
  | _ => False
theorem e_subS {x : Str} {f : EV} {ρ : Loc} {hp : Hp} {Q : V → Hp → Prop} (h : f ρ hp (subSK x Q)) : cSubS x f ρ hp Q := h
theorem r_pqrs {r : Int} {hp : Hp} {Q : V → Hp → Prop} (h0 : 0 ≤ r) (h1 : r < 4) (h : ∀ x ∈ univ, Q (.str x) hp) : subSK "pqrs" Q (.int r) hp :=
  four (P := fun r => subSK "pqrs" Q (.int r) hp) h0 h1 ⟨by decide, by decide, h ⟨#[112]⟩ (by decide +kernel)⟩ ⟨by decide, by decide, h ⟨#[113]⟩ (by decide +kernel)⟩ ⟨by decide, by decide, h ⟨#[114]⟩ (by decide +kernel)⟩ ⟨by decide, by decide, h ⟨#[115]⟩ (by decide +kernel)⟩
theorem r_names {r : Int} {D : Addr} {hp : Hp} {Q : V → Hp → Prop} (hx : hp D = some (.list [.str "R0", .str "R1", .str "R2", .str "word"])) (h0 : 0 ≤ r) (h1 : r < 4) (h : ∀ x ∈ univ, Q (.str x) hp) : opSub (.ref D) (.int r) hp Q :=
  four (P := fun r => opSub (.ref D) (.int r) hp Q) h0 h1 (r_subL hx (by decide) (by decide) rfl (h "R0" (by decide +kernel))) (r_subL hx (by decide) (by decide) rfl (h "R1" (by decide +kernel))) (r_subL hx (by decide) (by decide) rfl (h "R2" (by decide +kernel))) (r_subL hx (by decide) (by decide) rfl (h "word" (by decide +kernel)))
section
variable {g : Gl} {P W Sp : Addr}
noncomputable abbrev PWS (P W Sp : Addr) : Addr → Prop := fun x => x = P ∨ x = W ∨ x = Sp
structure Sk (hp : Hp) (P W Sp : Addr) : Prop where
  pool : Pool hp P W
  sp : ∃ k, hp Sp = some (.list [.int k])
  ne : Sp ≠ P ∧ Sp ≠ W
theorem Sk.no {hp hp' : Hp} (X : Ext No hp hp') (h : Sk hp P W Sp) : Sk hp' P W Sp := ⟨h.pool.ext X id id, let ⟨k, a⟩ := h.sp; ⟨k, X.get a⟩, h.ne⟩
theorem Sk.pw {hp hp' : Hp} (h : Sk hp P W Sp) (X : Ext (PW P W) hp hp') (p : Pool hp' P W) : Sk hp' P W Sp := ⟨p, let ⟨k, a⟩ := h.sp; ⟨k, X.keep _ _ a fun e => e.elim h.ne.1 h.ne.2⟩, h.ne⟩
/-- what is done once the kind is known -/
noncomputable def b_tail (c : FT) : ST := (sSeq (t_l_tree_9 c))
theorem c_tail {m f : Nat} {deep : Int} {h2 : Hp} {r : Int} {Q : V → Hp → Prop} (h0 : 0 ≤ r) (h8 : r < 8) (hm : 1 ≤ m) (S : Sk h2 P W Sp)
    (rec : 4 ≤ r → 1 ≤ f ∧ ∀ hp (Q : V → Hp → Prop), Sk hp P W Sp → (∀ t v hp', Ext (PWS P W Sp) hp hp' → Sk hp' P W Sp → IsT hp' t v → Wf t → ht t ≤ f → Q v hp') → callD g m .l_tree [.ref P, .ref Sp, .int (deep + 1)] hp Q)
    (h : ∀ t v hp', Ext (PWS P W Sp) h2 hp' → Sk hp' P W Sp → IsT hp' t v → Wf t → ht t ≤ f + 1 → Q v hp') : b_tail (callD g m) [some (.ref P), some (.ref Sp), some (.int deep), some (.int r)] h2 (fun _ hp' => Q .none hp') Q := by
  have up : ∀ {hp hp' : Hp}, Ext (PW P W) hp hp' → Ext (PWS P W Sp) hp hp' := fun X => X.mono fun b e => e.elim .inl fun e => .inr (.inl e)
  unfold b_tail
  walk_at "ab"
  refine r_lt ?_
  by_cases c1 : r < 2
  · rw [decide_eq_true c1]
    walk_at "ab"
    refine e_subS ?_
    walk_at "ab"
    refine c_pick hm (by decide) (by decide) S.pool fun r3 h3 r0 r1 X3 p3 => ?_
    refine r_pqrs r0 r1 fun x hx => ?_
    walk_at "ab"
    intro D hD
    have X4 := (up X3).trans (Ext.alloc hD (o := .tup [.str "text", .str x]))
    exact h (.text x) _ _ X4 ((S.pw X3 p3).no (Ext.alloc hD)) ⟨D, rfl, Hp.set_same ..⟩ hx (by simp only [ht]; lia)
  rw [decide_eq_false c1]
  refine if_f (i_nil ?_)
  walk_at "ab"
  refine r_eqI ?_
  by_cases c2 : r = 2
  · subst c2
    refine ifT rfl ?_
    walk_at "ab"
    intro D hD
    have Xa : Ext No h2 (h2.set D (.list [.str "R0", .str "R1", .str "R2", .str "word"])) := Ext.alloc hD
    have hDa : (h2.set D (.list [.str "R0", .str "R1", .str "R2", .str "word"])) D = some (.list [.str "R0", .str "R1", .str "R2", .str "word"]) := Hp.set_same ..
    have nD : ¬ (PW P W) D := fun e => by
      obtain ⟨ns, t, a, b, _⟩ := S.pool
      rcases e with rfl | rfl
      · rw [a] at hD; cases hD
      · rw [b] at hD; cases hD
    have Sa := S.no Xa
    generalize (h2.set D (.list [.str "R0", .str "R1", .str "R2", .str "word"])) = ha at Xa hDa Sa ⊢
    walk_at "ab"
    refine c_pick hm (by decide) (by decide) Sa.pool fun r3 h3 r0 r1 X3 p3 => ?_
    refine r_names (X3.keep _ _ hDa nD) r0 r1 fun x hx => ?_
    walk_at "ab"
    intro D2 hD2
    have X4 := (Xa.no.trans (up X3)).trans (Ext.alloc hD2 (o := .tup [.str "name", .str x]))
    exact h (.name x) _ _ X4 ((Sa.pw X3 p3).no (Ext.alloc hD2)) ⟨D2, rfl, Hp.set_same ..⟩ hx (by simp only [ht]; lia)
  refine ifF (by rw [beq_eq_false_iff_ne]; exact c2) (i_nil ?_)
  walk_at "ab"
  refine r_eqI ?_
  by_cases c3 : r = 3
  · subst c3
    refine ifT rfl ?_
    walk_at "ab"
    intro De hDe
    walk_at "ab"
    intro D hD
    have Xa : Ext No h2 ((h2.set De (.tup [])).set D (.tup [.str "seq", .ref De])) := (Ext.alloc hDe).trans (Ext.alloc hD)
    exact h .eps _ _ Xa.no (S.no Xa) ⟨D, De, rfl, Hp.set_same .., (Ext.alloc (M := No) hD).get (Hp.set_same ..)⟩ trivial (by simp only [ht]; lia)
  refine ifF (by rw [beq_eq_false_iff_ne]; exact c3) (i_nil ?_)
  obtain ⟨hf, rc⟩ := rec (by lia)
  have two : ∀ (tag : Str) (cons : T → T → T), (∀ {hp d e va vb a b}, hp d = some (.tup [.str tag, .ref e]) → hp e = some (.tup [va, vb]) → IsT hp a va → IsT hp b vb → IsT hp (cons a b) (.ref d)) → (∀ a b, Wf a → Wf b → Wf (cons a b)) → (∀ a b, ht (cons a b) = max (ht a) (ht b) + 1) →
      ∀ {ρ : Loc} , look ρ 0 = some (.ref P) → look ρ 1 = some (.ref Sp) → look ρ 2 = some (.int deep) → cTup [(cOp (callD g m .l_tree) [(cV 0), (cV 1), (cBin .Add (cV 2) (cC (.int 1)))]), (cOp (callD g m .l_tree) [(cV 0), (cV 1), (cBin .Add (cV 2) (cC (.int 1)))])] ρ h2 (fun v hp₁ => cAll [] ρ hp₁ fun vs hp₂ => ∀ D, hp₂ D = none → Q (.ref D) (hp₂.set D (.tup (.str tag :: v :: vs)))) := fun tag cons i1 i2 i3 ρ l0 l1 l2 => by
    have st : ∀ {hp : Hp} {K : V → Hp → Prop}, callD g m .l_tree [.ref P, .ref Sp, .int (deep + 1)] hp K → cOp (callD g m .l_tree) [(cV 0), (cV 1), (cBin .Add (cV 2) (cC (.int 1)))] ρ hp K := fun q => e_op (a_cons (e_V l0 (a_cons (e_V l1 (a_cons (e_bin (e_V l2 (e_C (r_badd (a_nil q))))))))))
    refine e_tup (a_cons (st (rc _ _ S fun ta va ha Xa Sa ia wa la => ?_)))
    refine a_cons (st (rc _ _ Sa fun tb vb hb Xb Sb ib wb lb => ?_))
    refine a_nil fun De hDe => a_nil fun D hD => ?_
    have X4 : Ext No hb ((hb.set De (.tup [va, vb])).set D (.tup [.str tag, .ref De])) := (Ext.alloc hDe).trans (Ext.alloc hD)
    exact h (cons ta tb) _ _ ((Xa.trans Xb).trans X4.no) (Sb.no X4) (i1 (Hp.set_same ..) ((Ext.alloc (M := No) hD).get (Hp.set_same ..)) ((ia.ext Xb).ext X4) (ib.ext X4)) (i2 _ _ wa wb) (by rw [i3]; lia)
  have one : ∀ (tag : Str) (cons : T → T), (∀ {hp d va a}, hp d = some (.tup [.str tag, va]) → IsT hp a va → IsT hp (cons a) (.ref d)) → (∀ a, Wf a → Wf (cons a)) → (∀ a, ht (cons a) = ht a + 1) →
      ∀ {h3 : Hp}, Ext No h2 h3 → callD g m .l_tree [.ref P, .ref Sp, .int (deep + 1)] h3 (fun v hp₁ => ∀ D, hp₁ D = none → Q (.ref D) (hp₁.set D (.tup [.str tag, v]))) := fun tag cons i1 i2 i3 h3 X3 => by
    refine rc _ _ (S.no X3) fun ta va ha Xa Sa ia wa la => fun D hD => ?_
    exact h (cons ta) _ _ ((X3.no.trans Xa).trans (Ext.alloc hD)) (Sa.no (Ext.alloc hD)) (i1 (Hp.set_same ..) (ia.ext (Ext.alloc (M := No) hD))) (i2 _ wa) (by rw [i3]; lia)
  have c4 : r = 4 ∨ r = 5 ∨ r = 6 ∨ r = 7 := by lia
  rcases c4 with rfl | rfl | rfl | rfl
  · walk_at "ab"
    refine r_eqI (ifF rfl ?_)
    walk_at "ab"
    refine r_eqI (ifF rfl ?_)
    walk_at "ab"
    refine r_eqI (ifT rfl (e_C (a_cons ?_)))
    exact two "seq" .seq (fun a b c d => ⟨_, _, _, _, rfl, a, b, c, d⟩) (fun _ _ a b => ⟨a, b⟩) (fun _ _ => rfl) rfl rfl rfl
  · walk_at "ab"
    refine r_eqI (ifT rfl (ifT rfl ?_))
    walk_at "ab"
    intro D hD
    walk_at "ab"
    refine r_subL (Hp.set_same ..) (by decide) (by decide) rfl ?_
    walk_at "ab"
    exact one "rep" .rep (fun a b => ⟨_, _, rfl, a, b⟩) (fun _ a => a) (fun _ => rfl) (Ext.alloc hD)
  · walk_at "ab"
    refine r_eqI (ifF rfl ?_)
    walk_at "ab"
    refine r_eqI (ifT rfl (ifT rfl ?_))
    walk_at "ab"
    intro D hD
    walk_at "ab"
    refine r_subL (Hp.set_same ..) (by decide) (by decide) rfl ?_
    walk_at "ab"
    exact one "opt" .opt (fun a b => ⟨_, _, rfl, a, b⟩) (fun _ a => a) (fun _ => rfl) (Ext.alloc hD)
  · walk_at "ab"
    refine r_eqI (ifF rfl ?_)
    walk_at "ab"
    refine r_eqI (ifF rfl ?_)
    walk_at "ab"
    refine r_eqI (ifF rfl (e_C (a_cons ?_)))
    exact two "alt" .alt (fun a b c d => ⟨_, _, _, _, rfl, a, b, c, d⟩) (fun _ _ a b => ⟨a, b⟩) (fun _ _ => rfl) rfl rfl rfl
theorem c_tree : ∀ (f deep : Nat), deep + f = 3 → ∀ (n : Nat) (hp : Hp) (Q : V → Hp → Prop), f + 2 ≤ n → Sk hp P W Sp → (∀ t v hp', Ext (PWS P W Sp) hp hp' → Sk hp' P W Sp → IsT hp' t v → Wf t → ht t ≤ f + 1 → Q v hp') → callD g n .l_tree [.ref P, .ref Sp, .int deep] hp Q := by
  intro f
  induction f with
  | zero =>
    intro deep hdf n hp Q hn S h
    obtain ⟨m, rfl⟩ : ∃ m, n = m + 1 := ⟨n - 1, by lia⟩
    obtain ⟨k, hk⟩ := S.sp
    refine u_l_tree ?_
    unfold b_l_tree
    walk_at "ab"
    refine i_isubL rfl hk ?_
    have X1 : Ext (PWS P W Sp) hp (hp.set Sp (.list [.int (k - 1)])) := Ext.upd (.inr (.inr rfl)) (by rw [hk]; rfl)
    have S1 : Sk (hp.set Sp (.list [.int (k - 1)])) P W Sp := ⟨S.pool.ext (M := (· = Sp)) (Ext.upd rfl (by rw [hk]; rfl)) (Ne.symm S.ne.1) (Ne.symm S.ne.2), ⟨_, Hp.set_same ..⟩, S.ne⟩
    have hk1 : (hp.set Sp (.list [.int (k - 1)])) Sp = some (.list [.int (k - 1)]) := Hp.set_same ..
    generalize hp.set Sp (.list [.int (k - 1)]) = h1 at X1 S1 hk1 ⊢
    walk_at "ab"
    have up : ∀ {hp hp' : Hp}, Ext (PW P W) hp hp' → Ext (PWS P W Sp) hp hp' := fun X => X.mono fun b e => e.elim .inl fun e => .inr (.inl e)
    refine r_lt ?_
    refine ifF (decide_eq_false (by lia)) (ifF rfl ?_)
    walk_at "ab"
    refine c_pick (by lia) (by decide) (by decide) S1.pool fun r h2 r0 r1 X2 p2 => i_name ?_
    exact c_tail (f := 0) r0 (by lia) (by lia) (S1.pw X2 p2) (fun e => by lia) fun t v hp' X3 S3 a b c => h t v hp' ((X1.trans (up X2)).trans X3) S3 a b c
  | succ f ih =>
    intro deep hdf n hp Q hn S h
    obtain ⟨m, rfl⟩ : ∃ m, n = m + 1 := ⟨n - 1, by lia⟩
    obtain ⟨k, hk⟩ := S.sp
    refine u_l_tree ?_
    unfold b_l_tree
    walk_at "ab"
    refine i_isubL rfl hk ?_
    have X1 : Ext (PWS P W Sp) hp (hp.set Sp (.list [.int (k - 1)])) := Ext.upd (.inr (.inr rfl)) (by rw [hk]; rfl)
    have S1 : Sk (hp.set Sp (.list [.int (k - 1)])) P W Sp := ⟨S.pool.ext (M := (· = Sp)) (Ext.upd rfl (by rw [hk]; rfl)) (Ne.symm S.ne.1) (Ne.symm S.ne.2), ⟨_, Hp.set_same ..⟩, S.ne⟩
    have hk1 : (hp.set Sp (.list [.int (k - 1)])) Sp = some (.list [.int (k - 1)]) := Hp.set_same ..
    generalize hp.set Sp (.list [.int (k - 1)]) = h1 at X1 S1 hk1 ⊢
    walk_at "ab"
    have up : ∀ {hp hp' : Hp}, Ext (PW P W) hp hp' → Ext (PWS P W Sp) hp hp' := fun X => X.mono fun b e => e.elim .inl fun e => .inr (.inl e)
    have fin : ∀ (w r : Int) h2, 0 < w → r < w → w ≤ 8 → 0 ≤ r → Ext (PW P W) h1 h2 → Pool h2 P W → b_tail (callD g m) [some (.ref P), some (.ref Sp), some (.int deep), some (.int r)] h2 (fun _ hp' => Q .none hp') Q := fun w r h2 w0 r1 w8 r0 X2 p2 =>
      c_tail (f := f + 1) r0 (by lia) (by lia) (S1.pw X2 p2) (fun e => ⟨by lia, fun hp Q S' q => ih (deep + 1) (by lia) m hp Q (by lia) S' q⟩) fun t v hp' X3 S3 a b c => h t v hp' ((X1.trans (up X2)).trans X3) S3 a b c
    refine r_lt ?_
    refine ifT (decide_eq_true (by lia)) ?_
    walk_at "ab"
    refine r_subL hk1 (by decide) (by decide) rfl ?_
    walk_at "ab"
    refine r_gt ?_
    by_cases c : (0 : Int) < k - 1
    · refine ifT (decide_eq_true c) ?_
      walk_at "ab"
      refine c_pick (by lia) (by decide) (by decide) S1.pool fun r h2 r0 r1 X2 p2 => i_name ?_
      exact fin 8 r h2 (by decide) r1 (by decide) r0 X2 p2
    · refine ifF (decide_eq_false c) ?_
      walk_at "ab"
      refine c_pick (by lia) (by decide) (by decide) S1.pool fun r h2 r0 r1 X2 p2 => i_name ?_
      exact fin 4 r h2 (by decide) r1 (by decide) r0 X2 p2
end
end
section
theorem r_str {x : Int} {hp : Hp} {Q : V → Hp → Prop} (h1 : x.natAbs < 1000) (h : Q (.str (Str.ofString (toString x))) hp) : opStr [.int x] hp Q := ⟨h1, h⟩
theorem r_addT {x y z : Str} {hp : Hp} {Q : V → Hp → Prop} (h1 : x.length + y.length ≤ 1000000) (e : x ++ y = z) (h : Q (.str z) hp) : opBin .Add (.str x) (.str y) hp Q := by subst e; exact ⟨rfl, h1, h⟩
end
section
structure NmOk (p : Int × Str) : Prop where
  eq : (("R" : Str)) ++ Str.ofString (toString p.1) = p.2
  le : (("R" : Str)).length + (Str.ofString (toString p.1)).length ≤ 1000000
  sm : p.1.natAbs < 1000
theorem RowsA.snoc {hp : Hp} : ∀ {vs rs d v x t}, RowsA hp vs rs → hp d = some (.tup [.str x, v]) → IsT hp t v → RowsA hp (vs ++ [.ref d]) (rs ++ [(x, t)])
  | [], [], d, v, x, t, _, h1, h2 => ⟨⟨d, v, rfl, h1, h2⟩, trivial⟩
  | w :: vs, r :: rs, d, v, x, t, h, h1, h2 => ⟨h.1, RowsA.snoc h.2 h1 h2⟩
  | [], _ :: _, _, _, _, _, h, _, _ => h.elim
  | _ :: _, [], _, _, _, _, h, _, _ => h.elim
section
variable {g : Gl}
theorem lw_loop {P W rd rl scr : Addr} (hne : rd ≠ rl) (hrp : ¬ PW P W rd) (hlp : ¬ PW P W rl) {n : Nat} (hn : 5 ≤ n) {N : Loc → Hp → Prop} {R : V → Hp → Prop} : ∀ (l : List (Int × Str)) (rs : Rules) (hp : Hp) (vs : List V) (es : List (Str × V)) (ep : Nat) (o4 o5 : Option V),
      (∀ p ∈ l, NmOk p) → (nsOf rs ++ l.map (·.2)).Nodup → rs.length + l.length ≤ 9 → Pool hp P W → hp rd = some (.dict ep es) → TbA hp es rs → hp rl = some (.list vs) → RowsA hp vs rs → (∀ p ∈ rs, Wf p.2 ∧ ht p.2 ≤ 4) →
      (∀ hp' rs' vs' es' ep' o4' o5', nsOf rs' = nsOf rs ++ l.map (·.2) → hp' rd = some (.dict ep' es') → TbA hp' es' rs' → hp' rl = some (.list vs') → RowsA hp' vs' rs' → (∀ p ∈ rs', Wf p.2 ∧ ht p.2 ≤ 4) → N [some (.ref scr), some (.ref P), some (.ref rd), some (.ref rl), o4', o5', none, none, none, none, none, none, none, none] hp') →
      forL (tName 4) (sSeq (t_law_3 (callD g n))) (fun _ => True) (l.map fun p => V.int p.1) [some (.ref scr), some (.ref P), some (.ref rd), some (.ref rl), o4, o5, none, none, none, none, none, none, none, none] hp N R
  | [], rs, hp, vs, es, ep, o4, o5, hl, hnd, hlen, hP, hr, hT, hrl, hR, hw, q => f_nil trivial (q hp rs vs es ep o4 o5 (by simp) hr hT hrl hR hw)
  | (i, x) :: l, rs, hp, vs, es, ep, o4, o5, hl, hnd, hlen, hP, hr, hT, hrl, hR, hw, q => by
    obtain ⟨n1, n2, n3⟩ := hl _ (.head _)
    have hx : x ∉ nsOf rs := fun h => by
      rw [List.nodup_append] at hnd
      exact hnd.2.2 x h x (.head _) rfl
    refine f_cons trivial ?_
    walk_at "ab"
    intro Sp hSp
    have X1 : Ext No hp (hp.set Sp (.list [.int 5])) := Ext.alloc hSp
    have S1 : Sk (hp.set Sp (.list [.int 5])) P W Sp := ⟨hP.ext X1 id id, ⟨5, Hp.set_same ..⟩, ⟨(fun e => by obtain ⟨_, _, a, _⟩ := hP; rw [← e, hSp] at a; cases a), (fun e => by obtain ⟨_, _, _, a, _⟩ := hP; rw [← e, hSp] at a; cases a)⟩⟩
    have s1 : rd ≠ Sp := fun e => by rw [e, hSp] at hr; cases hr
    have s2 : rl ≠ Sp := fun e => by rw [e, hSp] at hrl; cases hrl
    generalize hp.set Sp (.list [.int 5]) = h1 at X1 S1 ⊢
    walk_at "ab"
    refine c_tree 3 0 rfl n h1 _ hn S1 fun t v h2 X2 S2 iT wT lT => ?_
    have m1 : ¬ PWS P W Sp rd := fun e => e.elim (fun e => hrp (.inl e)) fun e => e.elim (fun e => hrp (.inr e)) s1
    have m2 : ¬ PWS P W Sp rl := fun e => e.elim (fun e => hlp (.inl e)) fun e => e.elim (fun e => hlp (.inr e)) s2
    have X02 := X1.no.trans X2
    have hr2 := X02.keep _ _ hr m1
    have hrl2 := X02.keep _ _ hrl m2
    have hT2 := hT.ext X02
    have hR2 := hR.ext X02
    have hes : es.length ≤ 9 := by
      have e := congrArg List.length hT.names
      rw [List.length_map, List.length_map] at e
      lia
    walk_at "ab"
    refine r_str n3 ?_
    refine r_addT n2 n1 ?_
    refine r_storeD hr2 (by lia) ?_
    have hk : hasK es x = false := by rw [hasK_ns hT]; simpa using hx
    rw [putV_new hk]
    have X3 : Ext (· = rd) h2 (h2.set rd (.dict (if hasK es x = true then ep else ep + 1) (es ++ [(x, v)]))) := Ext.upd rfl (by rw [hr2]; rfl)
    have hr3 : (h2.set rd (.dict (if hasK es x = true then ep else ep + 1) (es ++ [(x, v)]))) rd = some (.dict (if hasK es x = true then ep else ep + 1) (es ++ [(x, v)])) := Hp.set_same ..
    have P3 := S2.pool.ext X3 (fun e => hrp (.inl e.symm)) (fun e => hrp (.inr e.symm))
    generalize (if hasK es x = true then ep else ep + 1) = ep3 at X3 hr3 P3 ⊢
    generalize (h2.set rd (.dict ep3 (es ++ [(x, v)]))) = h3 at X3 hr3 P3 ⊢
    have hrl3 := X3.keep _ _ hrl2 (Ne.symm hne)
    walk_at "ab"
    refine ⟨r_isL hrl3, ?_⟩
    walk_at "ab"
    refine r_str n3 ?_
    refine r_addT n2 n1 ?_
    walk_at "ab"
    intro D hD
    have X4 : Ext No h3 (h3.set D (.tup [.str x, v])) := Ext.alloc hD
    have hrl4 := X4.get hrl3
    have hr4 := X4.get hr3
    walk_at "ab"
    have hvl := hR.len
    refine r_app hrl4 (by lia) ?_
    have X5 : Ext (· = rl) (h3.set D (.tup [.str x, v])) ((h3.set D (.tup [.str x, v])).set rl (.list (vs ++ [.ref D]))) := Ext.upd rfl (by rw [hrl4]; rfl)
    have X35 : Ext (fun y => y = rd ∨ y = rl) h2 ((h3.set D (.tup [.str x, v])).set rl (.list (vs ++ [.ref D]))) := ((X3.mono fun _ => .inl).trans X4.no).trans (X5.mono fun _ => .inr)
    have hd5 : ((h3.set D (.tup [.str x, v])).set rl (.list (vs ++ [.ref D]))) D = some (.tup [.str x, v]) := X5.tup _ _ (Hp.set_same ..)
    walk_at "ab"
    have hlen' : (nsOf (rs ++ [(x, t)])) = nsOf rs ++ [x] := by unfold nsOf; rw [List.map_append]; rfl
    rw [List.length_cons] at hlen
    refine lw_loop hne hrp hlp hn l (rs ++ [(x, t)]) _ _ _ _ _ _ (fun p hp => hl p (.tail _ hp)) (by rw [hlen', List.append_assoc]; exact hnd) (by rw [List.length_append, List.length_singleton]; lia) ((P3.ext X4 id id).ext X5 (fun e => hlp (.inl e.symm)) (fun e => hlp (.inr e.symm))) (X5.keep _ _ hr4 hne) ((hT2.ext X35).snoc (iT.ext X35)) (Hp.set_same ..) ((hR2.ext X35).snoc hd5 (iT.ext X35)) (fun p hp => ?_) fun hp' rs' vs' es' ep' o4' o5' e1 e2 e3 e4 e5 e6 => q hp' rs' vs' es' ep' o4' o5' (by rw [e1, hlen', List.append_assoc]; rfl) e2 e3 e4 e5 e6
    rcases List.mem_append.mp hp with hp | hp
    · exact hw p hp
    · rw [List.mem_singleton] at hp; subst hp; exact ⟨wT, lT⟩

/-! ## what may be empty, what begins: the law's own rows -/
noncomputable def bf (rs : Rules) (x : Str) : Bool := match rs.lookup x with | some t => mbe (El rs rs.length) t | none => false
theorem bf_iff {rs : Rules} {x : Str} {t : T} (h : rs.lookup x = some t) : bf rs x = true ↔ Nul rs (.name x) := by
  unfold bf; rw [h]
  show mbe (El rs rs.length) t = true ↔ _
  rw [hollow_iff]
  exact ⟨fun n => .name h n, fun n => by cases n with | name e n => rw [h] at e; cases e; exact n⟩
noncomputable def bfE (rs : Rules) (ns : List Str) : List (Str × V) := ns.map fun x => (x, V.bool (bf rs x))
theorem bfE_lookup {rs : Rules} : ∀ {ns : List Str} {x : Str}, (bfE rs ns).lookup x = if ns.contains x then some (.bool (bf rs x)) else none
  | [], x => rfl
  | y :: ns, x => by
    show (((y, V.bool (bf rs y)) :: bfE rs ns).lookup x) = _
    rw [List.lookup_cons, List.contains_cons]
    cases e : x == y with
    | true => rw [eq_of_beq e]; rfl
    | false => rw [Bool.false_or]; exact bfE_lookup
theorem bfE_hasK {rs : Rules} : ∀ (ns : List Str) (x : Str), hasK (bfE rs ns) x = ns.contains x
  | [], x => rfl
  | y :: ns, x => by
    show ((y == x) || hasK (bfE rs ns) x) = _
    rw [bfE_hasK ns x, List.contains_cons]
    congr 1
    by_cases e : y = x
    · rw [e]
    · rw [beq_false_of_ne e, beq_false_of_ne (Ne.symm e)]
theorem ho_loop {rs : Rules} (ok : RsOk rs) (h3 : rs.length ≤ 3) {n : Nat} (hn : 28 ≤ n) {h0 : Hp} {rd od hd : Addr} {a b c d e f : Option V} {names : List V} (hT : TabT h0 rd rs) (hoh : od ≠ hd) (hH : h0 hd = none) {N : Loc → Hp → Prop} {R : V → Hp → Prop} : ∀ (l pre : List Str) (hp : Hp) (ep : Nat) (o : Option V), (pre ++ l).Nodup → (∀ x ∈ pre ++ l, x ∈ nsOf rs) → (pre ++ l).length ≤ 9 → Ext No h0 hp → hp od = some (.list names) → hp hd = some (.dict ep (bfE rs pre)) →
      (∀ hp' ep' o', Ext No h0 hp' → hp' hd = some (.dict ep' (bfE rs (pre ++ l))) → N [a, b, some (.ref rd), c, d, e, some (.int rs.length), some (.ref hd), o', f, none, none, none, none] hp') →
      forL (tName 8) (sSeq (t_law_4 (callD g n))) (fun h => h od = some (.list names)) (l.map V.str) [a, b, some (.ref rd), c, d, e, some (.int rs.length), some (.ref hd), o, f, none, none, none, none] hp N R
  | [], pre, hp, ep, o, hnd, hin, hlen, X, hO, hh, q => f_nil hO (q hp ep o X (by rw [List.append_nil]; exact hh))
  | x :: l, pre, hp, ep, o, hnd, hin, hlen, X, hO, hh, q => by
    have hx : x ∉ pre := fun h => by
      rw [List.nodup_append] at hnd
      exact hnd.2.2 x h x (.head _) rfl
    obtain ⟨t, hxt⟩ := lookup_ns.mp (hin x (List.mem_append_right _ (.head _)))
    obtain ⟨hwf, hht⟩ := ok.wf x t hxt
    obtain ⟨ept, est, htb, hK, hv⟩ := hT.ex
    obtain ⟨v, hv1, hv2⟩ := hv x t hxt
    refine f_cons hO ?_
    walk_at "ab"
    refine r_subD (X.get htb) hv1 ?_
    walk_at "ab"
    refine c_hollow ok rs.length t n hp v _ (by lia) (hv2.ext X) (hT.ext X) fun h1 X1 => ?_
    have X01 := X.trans X1
    walk_at "ab"
    refine r_storeD (X1.get hh) (by unfold bfE; rw [List.length_map]; rw [List.length_append] at hlen; lia) ?_
    have hk : hasK (bfE rs pre) x = false := by rw [bfE_hasK]; simpa using hx
    rw [putV_new hk]
    generalize (if hasK (bfE rs pre) x = true then ep else ep + 1) = ep1
    refine i_nil (ho_loop ok h3 hn hT hoh hH l (pre ++ [x]) _ ep1 _ (by rwa [List.append_assoc]) (by rwa [List.append_assoc]) (by rwa [List.append_assoc]) (X01.own hH) (by rw [Hp.set_ne _ _ hoh]; exact X1.get hO) ?_ fun hp' ep' o' c1 c2 => q hp' ep' o' c1 (by rwa [List.append_assoc] at c2))
    rw [Hp.set_same]
    unfold bfE
    rw [List.map_append]
    show _ = some (Ab.dict _ (_ ++ [(x, V.bool (bf rs x))]))
    rw [show bf rs x = mbe (El rs rs.length) t by unfold bf; rw [hxt]]
theorem hd_loop {rs : Rules} (ok : RsOk rs) (h3 : rs.length ≤ 3) {n : Nat} (hn : 29 ≤ n) {h0 : Hp} {rd od hd ed : Addr} {a b c d e : Option V} {names : List V} (hT : TabT h0 rd rs) (hoh : od ≠ ed) (hH : HolD h0 hd rs) (hE : h0 ed = none) {N : Loc → Hp → Prop} {R : V → Hp → Prop} : ∀ (l pre : List Str) (hp : Hp) (o : Option V), (pre ++ l).Nodup → (∀ x ∈ pre ++ l, x ∈ nsOf rs) → (pre ++ l).length ≤ 9 → Ext No h0 hp → hp od = some (.list names) → DueD (· = ed) hp ed pre (fun m => Fst rs (.name m)) →
      (∀ hp' o', Ext No h0 hp' → DueD (· = ed) hp' ed (pre ++ l) (fun m => Fst rs (.name m)) → N [a, b, some (.ref rd), c, d, e, some (.int rs.length), some (.ref hd), o', some (.ref ed), none, none, none, none] hp') →
      forL (tName 8) (sSeq (t_law_5 (callD g n))) (fun h => h od = some (.list names)) (l.map V.str) [a, b, some (.ref rd), c, d, e, some (.int rs.length), some (.ref hd), o, some (.ref ed), none, none, none, none] hp N R
  | [], pre, hp, o, hnd, hin, hlen, X, hO, hh, q => f_nil hO (q hp o X (by rw [List.append_nil]; exact hh))
  | x :: l, pre, hp, o, hnd, hin, hlen, X, hO, hh, q => by
    have hx : x ∉ pre := fun h => by
      rw [List.nodup_append] at hnd
      exact hnd.2.2 x h x (.head _) rfl
    obtain ⟨t, hxt⟩ := lookup_ns.mp (hin x (List.mem_append_right _ (.head _)))
    obtain ⟨hwf, hht⟩ := ok.wf x t hxt
    obtain ⟨ept, est, htb, hK, hv⟩ := hT.ex
    obtain ⟨v, hv1, hv2⟩ := hv x t hxt
    refine f_cons hO ?_
    walk_at "ab"
    refine r_subD (X.get htb) hv1 ?_
    walk_at "ab"
    refine c_heads ok rs.length t n hp v _ (by lia) (by lia) hwf (hv2.ext X) (hT.ext X) (hH.ext X) fun D h1 ks X1 a1 a2 a3 _ => ?_
    have X01 := X.trans X1
    walk_at "ab"
    refine r_sset (P := Fst rs t) a1 a3 (fun y _ => (a2 y).trans (heads_iff rs t y)) fun D2 hD2 => ?_
    have X2 : Ext No h1 (h1.set D2 (.list ((canon (Fst rs t)).map V.str))) := Ext.alloc hD2
    have L2 : LS (h1.set D2 (.list ((canon (Fst rs t)).map V.str))) D2 (Fst rs t) := Hp.set_same ..
    have n2 : D2 ≠ ed := fun e => by
      obtain ⟨ep, ad, p, _⟩ := hh
      rw [e, X1.get p] at hD2; cases hD2
    have H2 := (hh.ext X1 (fun _ h => h.elim) id).ext X2 (fun _ h => h.elim) id
    generalize (h1.set D2 (.list ((canon (Fst rs t)).map V.str))) = h2 at X2 L2 H2 ⊢
    walk_at "ab"
    refine DueD.put (M := (· = ed)) rfl H2 (.inr hx) (by rw [List.length_append] at hlen; lia) L2 n2 fun h3' ns' _ e2 Y3 D3 => ?_
    rw [e2 hx] at D3
    refine i_nil (hd_loop ok h3 hn hT hoh hH hE l (pre ++ [x]) _ _ (by rwa [List.append_assoc]) (by rwa [List.append_assoc]) (by rwa [List.append_assoc]) ((X01.trans X2).base Y3 fun y e => e ▸ hE) (Y3.keep _ _ (X2.get (X1.get hO)) hoh) (D3.congr fun m y _ => ?_) fun hp' o' c1 c2 => q hp' o' c1 (by rwa [List.append_assoc] at c2))
    have key : Fst rs (.name x) y ↔ Fst rs t y := ⟨fun f => by
      cases f with
      | tok e => rw [hxt] at e; cases e
      | name e f => rw [hxt] at e; cases e; exact f, fun f => .name hxt f⟩
    by_cases e : m = x
    · subst e
      exact ⟨fun q => q.elim (fun q => key.mpr q.2) (·.2), fun q => .inl ⟨rfl, key.mp q⟩⟩
    · exact ⟨fun q => q.elim (fun q => absurd q.1 e) (·.2), fun q => .inr ⟨e, q⟩⟩
end
end
section
/-! ## conflicts as data -/
noncomputable def cd (c : Conf) : PyData := .tuple [.str c.1, .str c.2.1, .list (c.2.2.map .str)]
noncomputable def cOk (c : Conf) : Prop := c.1 ∈ univ ∧ PyData.strOk c.2.1 = true ∧ ∀ x ∈ c.2.2, x ∈ univ
theorem ConfV.rd {hp : Hp} {fnd v c} (h : ConfV hp fnd v c) : Rd hp v (cd c) := let ⟨d, e, a, b, c', _⟩ := h; a ▸ .tup b (.cons (.str _) (.cons (.str _) (.cons (.list c' (rd_strs _)) .nil)))
theorem ConfA.rd {hp : Hp} {fnd} : ∀ {vs cs}, ConfA hp fnd vs cs → RdAll hp vs (cs.map cd)
  | [], [], _ => .nil
  | v :: vs, c :: cs, h => .cons h.1.rd (ConfA.rd h.2)
  | [], _ :: _, h => h.elim
  | _ :: _, [], h => h.elim
theorem cd_lay {c : Conf} (h : cOk c) : PyData.canLay0 (cd c) = true := by
  show (PyData.canLay0 (.str c.1) && (PyData.canLay0 (.str c.2.1) && (PyData.canLay0 (.list (c.2.2.map .str)) && true))) = true
  rw [show PyData.canLay0 (.str c.1) = PyData.strOk c.1 from rfl, univ_ok _ h.1, show PyData.canLay0 (.str c.2.1) = PyData.strOk c.2.1 from rfl, h.2.1, show PyData.canLay0 (.list (c.2.2.map .str)) = PyData.canLayAll0 (c.2.2.map .str) from rfl, cl0S h.2.2]; rfl
theorem cds_lay : ∀ {cs : List Conf}, (∀ c ∈ cs, cOk c) → PyData.canLayAll0 (cs.map cd) = true
  | [], _ => rfl
  | p :: ps, h => by
    show (PyData.canLay0 (cd p) && PyData.canLayAll0 (ps.map cd)) = true
    rw [cd_lay (h _ (.head _)), cds_lay fun q hq => h q (.tail _ hq)]; rfl
theorem cds_depth : ∀ cs : List Conf, PyData.depthAll (cs.map cd) ≤ 2
  | [] => Nat.zero_le _
  | p :: ps => by
    show max (max 0 (max 0 (max (PyData.depthAll (p.2.2.map .str) + 1) 0)) + 1) (PyData.depthAll (ps.map cd)) ≤ 2
    rw [dpS]
    exact Nat.max_le.mpr ⟨Nat.le_refl _, cds_depth ps⟩
theorem cd_eq (c : Conf) : PyData.eqv (cd c) (cd c) = true := by
  show ((c.1 == c.1) && ((c.2.1 == c.2.1) && (PyData.eqvAll (c.2.2.map .str) (c.2.2.map .str) && true))) = true
  rw [eqvS, decide_eq_true rfl, beq_self_eq_true, beq_self_eq_true]; rfl
theorem cds_eq : ∀ cs : List Conf, PyData.eqvAll (cs.map cd) (cs.map cd) = true
  | [] => rfl
  | p :: ps => by
    show (PyData.eqv (cd p) (cd p) && PyData.eqvAll (ps.map cd) (ps.map cd)) = true
    rw [cd_eq, cds_eq ps]; rfl
theorem r_eqFL {hp : Hp} {x y : Addr} {cs : List Conf} {Qb : Bool → Prop} (hx : FL hp x cs) (hy : FL hp y cs) (ok : ∀ c ∈ cs, cOk c) (h : Qb true) : opCmp .Eq (.ref x) (.ref y) hp Qb := by
  obtain ⟨vs, a, b⟩ := hx
  obtain ⟨ws, a', b'⟩ := hy
  have sh := shaped_list (cds_lay ok) (Nat.le_trans (cds_depth cs) (by decide))
  refine ⟨.list (cs.map cd), .list (cs.map cd), .list a b.rd, .list a' b'.rd, sh, sh, ?_⟩
  rw [show PyData.eqv (.list (cs.map cd)) (.list (cs.map cd)) = PyData.eqvAll (cs.map cd) (cs.map cd) from rfl, cds_eq]
  exact h
theorem cm_ok {nm kind : Str} {P : Str → Prop} (hn : nm ∈ univ) (hk : PyData.strOk kind = true) : ∀ c ∈ cm nm kind P, cOk c := fun c hc => by
  unfold cm at hc
  split at hc
  · cases hc
  · rw [List.mem_singleton] at hc; subst hc; exact ⟨hn, hk, canon_in⟩
theorem em_ok {rs : Rules} {nm : Str} {a : T} (hn : nm ∈ univ) : ∀ c ∈ em0 rs nm a, cOk c := fun c hc => by
  unfold em0 at hc
  split at hc
  · rw [List.mem_singleton] at hc; subst hc; exact ⟨hn, (show PyData.strOk (("empty" : Str)) = true by decide +kernel), fun x hx => by cases hx⟩
  · cases hc
theorem qs_ok (rs : Rules) {nm : Str} (hn : nm ∈ univ) : ∀ (t : T) (S : Str → Prop), ∀ c ∈ qs rs nm t S, cOk c
  | .text _, _, _, h => by cases h
  | .name _, _, _, h => by cases h
  | .eps, _, _, h => by cases h
  | .opt a, S, c, h => (List.mem_append.mp (show c ∈ em0 rs nm a ++ (cm nm "option" (fun y => Fst rs a y ∧ S y) ++ qs rs nm a S) from h)).elim (em_ok hn c) fun h => (List.mem_append.mp h).elim (cm_ok hn (by decide +kernel) c) (qs_ok rs hn a S c)
  | .rep a, S, c, h => (List.mem_append.mp (show c ∈ em0 rs nm a ++ (cm nm "repetition" (fun y => Fst rs a y ∧ S y) ++ qs rs nm a (prd rs (.rep a) S)) from h)).elim (em_ok hn c) fun h => (List.mem_append.mp h).elim (cm_ok hn (by decide +kernel) c) (qs_ok rs hn a _ c)
  | .alt a b, S, c, h => (List.mem_append.mp (show c ∈ cm nm "alternatives" (fun y => prd rs a S y ∧ prd rs b S y) ++ (qs rs nm a S ++ qs rs nm b S) from h)).elim (cm_ok hn (by decide +kernel) c) fun h => (List.mem_append.mp h).elim (qs_ok rs hn a S c) (qs_ok rs hn b S c)
  | .seq a b, S, c, h => (List.mem_append.mp (show c ∈ qs rs nm a (prd rs b S) ++ qs rs nm b S from h)).elim (qs_ok rs hn a _ c) (qs_ok rs hn b S c)
theorem allq_ok {rs : Rules} (ok : RsOk rs) {st : Str} (c : Conf) (h : c ∈ allq rs st rs) : cOk c := by
  obtain ⟨r, hr, hc⟩ := List.mem_flatMap.mp h
  exact qs_ok rs (ok.un _ (List.mem_map.mpr ⟨r, hr, rfl⟩)) r.2 _ c hc
theorem r_sortedS {hp : Hp} {Q : V → Hp → Prop} {x : Addr} {S S' : Str → Prop} (hx : DS hp x S) (e : ∀ y ∈ univ, S y ↔ S' y) (h : ∀ D, hp D = none → Q (.ref D) (hp.set D (.list ((canon S').map V.str)))) : opSorted [.ref x] hp Q := by
  obtain ⟨ks, ep, a, b, c, d⟩ := hx
  have h9 := sub_len b c
  refine r_sortedD a (by rw [kt_len]; lia) fun D hD => ?_
  rw [show (kt ks).map (·.1) = ks by unfold kt; rw [List.map_map]; simp [Function.comp_def]]
  rw [show srt ks = canon S' from (canon_eq (srt_pair ks) ((srt_perm ks).nodup_iff.mpr b) (fun x => mem_srt.trans (d x)) fun x hx => c x (mem_srt.mp hx)).trans (canon_congrU e)]
  exact h D hD
theorem r_neB {a b : Bool} {hp : Hp} {Qb : Bool → Prop} (h : Qb (a != b)) : opCmp .NotEq (.bool a) (.bool b) hp Qb := h

section
variable {g : Gl} {rs : Rules} {hB : Hp} {fa rd hd ed : Addr} {tb em fd fw o gr du fnd od : Addr} {E : Str → Bool} {ad adw : Str → Addr} {Fs : Str → Str → Prop} {M : Addr → Prop}
theorem fin_loop {n : Nat} (hn : 8 ≤ n) (ok : RsOk rs) (G : GX hB rs gr R0 o tb em fd [(("follows" : Str), V.ref fw)] E ad Fs) (hem : ∃ ep ks, hB em = some (.dict ep (kt ks)) ∧ ∀ y, ks.contains y = true ↔ Nul rs (.name y)) (hW : Fam hB fw (nsOf rs) adw (Fol rs R0)) (FB : Fcts hB fa rd hd ed rs) (hD : DueD M hB du (nsOf rs) (Fol rs R0)) (hf : hB fnd = none) (hof : od ≠ fnd)
    {names : List V} {a b c d e f : Option V} {N : Loc → Hp → Prop} {R : V → Hp → Prop} : ∀ (l : Rules) (hp : Hp) (cs : List Conf) (o8 : Option V), (∀ r ∈ l, r ∈ rs) → Ext No hB hp → hp od = some (.list names) → FL hp fnd cs → cs.length + 256 * l.length ≤ 100000 →
      (∀ hp' o8', Ext No hB hp' → FL hp' fnd (cs ++ allq rs R0 l) → N [a, b, some (.ref rd), c, d, e, f, some (.ref hd), o8', some (.ref ed), some (.ref fa), some (.ref gr), some (.ref du), some (.ref fnd)] hp') →
      forL (tName 8) (sSeq (t_law_8 (callD g n))) (fun h => h od = some (.list names)) ((nsOf l).map V.str) [a, b, some (.ref rd), c, d, e, f, some (.ref hd), o8, some (.ref ed), some (.ref fa), some (.ref gr), some (.ref du), some (.ref fnd)] hp N R
  | [], hp, cs, o8, hl, X, hO, F, hc, q => f_nil hO (q hp o8 X (by rw [show allq rs R0 [] = [] from rfl, List.append_nil]; exact F))
  | (x, t) :: l, hp, cs, o8, hl, X, hO, F, hc, q => by
    have hxt := lookup_mem' ok.nd (hl _ (.head _))
    have hxn : x ∈ nsOf rs := lookup_ns.mpr ⟨t, hxt⟩
    obtain ⟨hwf, hht⟩ := ok.wf x t hxt
    obtain ⟨hx1, gd, epg, hg1, hg2⟩ := G.ob
    obtain ⟨epm, ks, hm1, hm2⟩ := hem
    obtain ⟨eph, esh, hh1, _, hh2⟩ := FB.2.2.1
    obtain ⟨bb, hb1, hb2⟩ := hh2 x t hxt
    obtain ⟨epe, ese, he1, he2⟩ := FB.2.2.2
    obtain ⟨le, hle1, hle2⟩ := he2 x t hxt
    obtain ⟨ept, est, htb, hK, hv⟩ := FB.2.1.ex
    obtain ⟨v, hv1, hv2⟩ := hv x t hxt
    obtain ⟨epf, hfd⟩ := G.env.fam.at_
    obtain ⟨epw, hfw⟩ := hW.at_
    obtain ⟨epd, adu, hd1, hd2⟩ := hD
    obtain ⟨hl1, hl2⟩ := hd2 x hxn
    have h4 : 4 ^ ht t ≤ 256 := Nat.le_trans (Nat.pow_le_pow_right (by decide) hht) (by decide)
    rw [List.length_cons] at hc
    refine f_cons hO ?_
    walk_at "ab"
    refine r_attr (X.get hg1) (X.get hg2) at_empty ?_
    refine r_inD (X.get hm1) ?_
    rw [kt_lookup]
    walk_at "ab"
    refine r_subD (X.get hh1) hb1 ?_
    refine r_neB (ifF ?_ ?_)
    · rw [show ks.contains x = bb by rw [Bool.eq_iff_iff, hm2, hb2]]; cases bb <;> rfl
    walk_at "ab"
    refine r_attr (X.get hg1) (X.get hg2) at_firsts ?_
    walk_at "ab"
    refine r_subD (X.get hfd) (famE_lookup hxn) ?_
    walk_at "ab"
    refine r_sortedS ((G.env.fam.each x hxn).ext X id) (S' := Fst rs (.name x)) (fun y _ => by rw [← G.hF (.name x) y, fo_name hxt]) fun D1 hD1 => ?_
    have X1 : Ext No hp (hp.set D1 (.list ((canon (Fst rs (.name x))).map V.str))) := Ext.alloc hD1
    have hD1' : (hp.set D1 (.list ((canon (Fst rs (.name x))).map V.str))) D1 = some (.list ((canon (Fst rs (.name x))).map V.str)) := Hp.set_same ..
    generalize (hp.set D1 (.list ((canon (Fst rs (.name x))).map V.str))) = h1 at X1 hD1' ⊢
    have X01 := X.trans X1
    walk_at "ab"
    refine r_subD (X01.get he1) hle1 ?_
    refine r_neS hD1' (X01.get hle2) canon_in canon_in ?_
    rw [decide_eq_true rfl]
    walk_at "ab"
    refine r_attr (X01.get hg1) (X01.get hg2) at_follows ?_
    walk_at "ab"
    refine r_subD (X01.get hfw) (famE_lookup hxn) ?_
    walk_at "ab"
    refine r_sortedS ((hW.each x hxn).ext X01 id) (S' := Fol rs R0 x) (fun y _ => Iff.rfl) fun D2 hD2 => ?_
    have X2 : Ext No h1 (h1.set D2 (.list ((canon (Fol rs R0 x)).map V.str))) := Ext.alloc hD2
    have hD2' : (h1.set D2 (.list ((canon (Fol rs R0 x)).map V.str))) D2 = some (.list ((canon (Fol rs R0 x)).map V.str)) := Hp.set_same ..
    generalize (h1.set D2 (.list ((canon (Fol rs R0 x)).map V.str))) = h2 at X2 hD2' ⊢
    have X02 := X01.trans X2
    walk_at "ab"
    refine r_subD (X02.get hd1) (famE_lookup hxn) ?_
    refine r_neS hD2' (X02.get hl1) canon_in canon_in ?_
    rw [decide_eq_true rfl]
    walk_at "ab"
    refine r_subD (X02.get htb) hv1 ?_
    walk_at "ab"
    refine r_subD (X02.get hd1) (famE_lookup hxn) ?_
    walk_at "ab"
    have F2 := F.ext (X1.trans X2)
    have hq := qs_len rs x t (Fol rs R0 x)
    refine c_quar FB t n h2 v (adu x) (Fol rs R0 x) cs _ (by lia) hwf (hv2.ext X02) X02 (fun y e => ⟨e ▸ hf, e ▸ F2.live⟩) (X02.get hl1) (fun e => by rw [e] at hl1; unfold LS at hl1; rw [hf] at hl1; cases hl1) F2 (by lia) fun h3 Y3 F3 => ?_
    walk_at "ab"
    refine fin_loop hn ok G ⟨epm, ks, hm1, hm2⟩ hW FB ⟨epd, adu, hd1, hd2⟩ hf hof l h3 _ _ (fun r hr => hl r (.tail _ hr)) (X02.base Y3 fun y e => e ▸ hf) (Y3.keep _ _ ((X1.trans X2).get hO) hof) F3 (by rw [List.length_append]; lia) fun hp' o' a1 a2 => q hp' o' a1 ?_
    rw [List.append_assoc] at a2
    exact a2
end
end
section
structure Names (l : List (Int × Str)) (k : Nat) : Prop where
  rg : rangeOf [.int k] = some (0, 1, k)
  ws : ranged 0 1 k = l.map fun p => V.int p.1
  ok : ∀ p ∈ l, NmOk p
  nd : (l.map (·.2)).Nodup
  so : srt (l.map (·.2)) = l.map (·.2)
  st : R0 ∈ l.map (·.2)
  un : ∀ x ∈ l.map (·.2), x ∈ univ
  len : l.length ≤ 3
theorem nm0 : NmOk ((0 : Int), (("R0" : Str))) := ⟨by decide +kernel, by decide +kernel, by decide +kernel⟩
theorem nm1 : NmOk ((1 : Int), (("R1" : Str))) := ⟨by decide +kernel, by decide +kernel, by decide +kernel⟩
theorem nm2 : NmOk ((2 : Int), (("R2" : Str))) := ⟨by decide +kernel, by decide +kernel, by decide +kernel⟩
theorem names1 : Names [(0, "R0")] 1 := ⟨rangeOf_up (by decide) (by decide), rfl, (fun p hp => by simp only [List.mem_singleton] at hp; subst hp; exact nm0), by decide +kernel, (srt_unique (by decide +kernel) (List.Perm.refl _)).symm, by decide +kernel, by decide +kernel, by decide⟩
theorem names2 : Names [(0, "R0"), (1, "R1")] 2 := ⟨rangeOf_up (by decide) (by decide), rfl, (fun p hp => by
  rcases List.mem_cons.mp hp with rfl | hp
  · exact nm0
  · rw [List.mem_singleton] at hp; subst hp; exact nm1), by decide +kernel, (srt_unique (by decide +kernel) (List.Perm.refl _)).symm, by decide +kernel, by decide +kernel, by decide⟩
theorem names3 : Names [(0, "R0"), (1, "R1"), (2, "R2")] 3 := ⟨rangeOf_up (by decide) (by decide), rfl, (fun p hp => by
  rcases List.mem_cons.mp hp with rfl | hp
  · exact nm0
  · rcases List.mem_cons.mp hp with rfl | hp
    · exact nm1
    · rw [List.mem_singleton] at hp; subst hp; exact nm2), by decide +kernel, (srt_unique (by decide +kernel) (List.Perm.refl _)).symm, by decide +kernel, by decide +kernel, by decide⟩
theorem names {r : Int} (h0 : 0 ≤ r) (h1 : r < 3) : ∃ l k, ((1 : Int) + r) = (k : Nat) ∧ Names l k := by
  have : r = 0 ∨ r = 1 ∨ r = 2 := by lia
  rcases this with rfl | rfl | rfl
  · exact ⟨_, 1, rfl, names1⟩
  · exact ⟨_, 2, rfl, names2⟩
  · exact ⟨_, 3, rfl, names3⟩
theorem Pool.at {hp : Hp} {P W : Addr} (h : Pool hp P W) : hp P ≠ none ∧ hp W ≠ none := let ⟨_, _, a, b, _⟩ := h; ⟨ne_none a, ne_none b⟩
section
variable {g : Gl}
theorem c_law (hg : g.scrN.length ≤ 1000000) {n : Nat} (hn : 40 ≤ n) {N : Loc → Hp → Prop} {R : V → Hp → Prop} (h : ∀ hp', R (.bool true) hp') : b_law (callD g n) [some (.ref g.scrA), none, none, none, none, none, none, none, none, none, none, none, none, none] (fun _ => none) N R := by
  unfold b_law
  walk_at "ab"
  refine c_stock hg (by lia) fun P W h1 hP0 hW0 X1 p1 => ?_
  walk_at "ab"
  intro rd hrd
  have p2 := p1.ext (Ext.alloc (M := No) hrd (o := .dict 0 [])) id id
  have hrp : ¬ PW P W rd := fun e => e.elim (fun e => p1.at.1 (e ▸ hrd)) fun e => p1.at.2 (e ▸ hrd)
  have r2 : (h1.set rd (.dict 0 [])) rd = some (.dict 0 []) := Hp.set_same ..
  generalize (h1.set rd (.dict 0 [])) = h2 at p2 r2 ⊢
  walk_at "ab"
  intro rl hrl
  have p3 := p2.ext (Ext.alloc (M := No) hrl (o := .list [])) id id
  have hlp : ¬ PW P W rl := fun e => e.elim (fun e => p2.at.1 (e ▸ hrl)) fun e => p2.at.2 (e ▸ hrl)
  have hne : rd ≠ rl := fun e => by rw [← e, r2] at hrl; cases hrl
  have r3 := (Ext.alloc (M := No) hrl (o := .list [])).get r2
  have l3 : (h2.set rl (.list [])) rl = some (.list []) := Hp.set_same ..
  generalize (h2.set rl (.list [])) = h3 at p3 r3 l3 ⊢
  walk_at "ab"
  refine c_pick (by lia) (by decide) (by decide) p3 fun r h4 r0 r1 X4 p4 => ?_
  have r4 := X4.keep _ _ r3 hrp
  have l4 := X4.keep _ _ l3 hlp
  walk_at "ab"
  obtain ⟨l, k, ek, NM⟩ := names r0 r1
  rw [ek]
  have rg := NM.rg
  have ws := NM.ws
  unfold rngK
  rw [rg]
  dsimp only
  rw [ws]
  refine lw_loop hne hrp hlp (by lia) l [] h4 [] [] 0 none none NM.ok (by simpa using NM.nd) (by have := NM.len; simp; lia) p4 r4 trivial l4 trivial (fun p hp => by cases hp) fun h5 rs vs es ep o4 o5 e1 e2 e3 e4 e5 e6 => ?_
  rw [show nsOf [] = ([] : List Str) from rfl, List.nil_append] at e1
  have hlen : rs.length ≤ 3 := by
    have := congrArg List.length e1
    rw [List.length_map, List.length_map] at this
    have := NM.len
    lia
  have ok : RsOk rs := ⟨e1 ▸ NM.nd, e1 ▸ NM.un, fun x t hx => by
    have : (x, t) ∈ rs := by
      clear e1 e3 e5 hlen
      induction rs with
      | nil => cases hx
      | cons p rs ih =>
        obtain ⟨y, u⟩ := p
        rw [List.lookup_cons] at hx
        cases q : x == y with
        | true => rw [q] at hx; cases hx; rw [eq_of_beq q]; exact .head _
        | false => rw [q] at hx; exact .tail _ (ih (fun p hp => e6 p (.tail _ hp)) hx)
    exact e6 _ this⟩
  have hso : srt (nsOf rs) = nsOf rs := by rw [e1]; exact NM.so
  have hst : R0 ∈ nsOf rs := by rw [e1]; exact NM.st
  have hes : es.length = rs.length := by
    have e := congrArg List.length e3.names
    rwa [List.length_map, List.length_map] at e
  have hnl : (nsOf rs).length ≤ 9 := by rw [List.length_map]; lia
  have hT5 := TabT.of e2 e3
  walk_at "ab"
  refine r_len e2 (by lia) ?_
  rw [hes]
  walk_at "ab"
  intro hd hhd
  have X6 : Ext No h5 (h5.set hd (.dict 0 [])) := Ext.alloc hhd
  have d6 : (h5.set hd (.dict 0 [])) hd = some (.dict 0 (bfE rs [])) := Hp.set_same ..
  generalize (h5.set hd (.dict 0 [])) = h6 at X6 d6 ⊢
  walk_at "ab"
  refine r_sortedD (X6.get e2) (by lia) fun od hod => ?_
  rw [e3.names, hso]
  have X7 := X6.trans (Ext.alloc hod (o := .list ((nsOf rs).map V.str)))
  have d7 := (Ext.alloc (M := No) hod (o := .list ((nsOf rs).map V.str))).get d6
  have o7 : (h6.set od (.list ((nsOf rs).map V.str))) od = some (.list ((nsOf rs).map V.str)) := Hp.set_same ..
  have nod : od ≠ hd := fun e => by rw [e, d6] at hod; cases hod
  generalize (h6.set od (.list ((nsOf rs).map V.str))) = h7 at X7 d7 o7 ⊢
  refine r_forL o7 ?_
  refine ho_loop ok hlen (by lia) hT5 nod hhd (nsOf rs) [] h7 0 none (by simpa using ok.nd) (fun x hx => by simpa using hx) (by simpa using hnl) X7 o7 d7 fun h8 ep8 o8 X8 d8 => ?_
  rw [List.nil_append] at d8
  have H8a : ∀ x, rs.lookup x = none → (bfE rs (nsOf rs)).lookup x = none := fun x hx => by
    rw [bfE_lookup, if_neg]
    intro hc
    obtain ⟨t, ht'⟩ := lookup_ns.mp (List.contains_iff_mem.mp hc)
    rw [hx] at ht'; cases ht'
  have H8 : HolD h8 hd rs := ⟨ep8, _, d8, H8a, fun x t hx => ⟨bf rs x, by rw [bfE_lookup, if_pos (List.contains_iff_mem.mpr (lookup_ns.mpr ⟨t, hx⟩))], bf_iff hx⟩⟩
  walk_at "ab"
  intro ed hed
  have X9 : Ext No h8 (h8.set ed (.dict 0 [])) := Ext.alloc hed
  have d9 : (h8.set ed (.dict 0 [])) ed = some (.dict 0 (famE [] fun _ => 0)) := Hp.set_same ..
  generalize (h8.set ed (.dict 0 [])) = h9 at X9 d9 ⊢
  walk_at "ab"
  refine r_sortedD (X9.get (X8.get e2)) (by lia) fun od2 hod2 => ?_
  rw [e3.names, hso]
  have X10 := X9.trans (Ext.alloc hod2 (o := .list ((nsOf rs).map V.str)))
  have d10 := (Ext.alloc (M := No) hod2 (o := .list ((nsOf rs).map V.str))).get d9
  have o10 : (h9.set od2 (.list ((nsOf rs).map V.str))) od2 = some (.list ((nsOf rs).map V.str)) := Hp.set_same ..
  have nod2 : od2 ≠ ed := fun e => by rw [e, d9] at hod2; cases hod2
  generalize (h9.set od2 (.list ((nsOf rs).map V.str))) = h10 at X10 d10 o10 ⊢
  refine r_forL o10 ?_
  refine hd_loop ok hlen (by lia) (hT5.ext X8) nod2 H8 hed (nsOf rs) [] h10 _ (by simpa using ok.nd) (fun x hx => by simpa using hx) (by simpa using hnl) X10 o10 ⟨0, fun _ => 0, d10, fun x hx => by cases hx⟩ fun h11 o11 X11 D11 => ?_
  rw [List.nil_append] at D11
  have X511 := X8.trans X11
  have E11 : HedD h11 ed rs := by
    obtain ⟨epd, ad, a, b⟩ := D11
    exact ⟨epd, _, a, fun x t hx => ⟨ad x, famE_lookup (lookup_ns.mpr ⟨t, hx⟩), (b x (lookup_ns.mpr ⟨t, hx⟩)).1⟩⟩
  walk_at "ab"
  intro fa hfa
  have X12 : Ext No h11 (h11.set fa (.tup [.ref rd, .ref hd, .ref ed])) := Ext.alloc hfa
  have F12 : Fcts (h11.set fa (.tup [.ref rd, .ref hd, .ref ed])) fa rd hd ed rs := ⟨Hp.set_same .., hT5.ext (X511.trans X12), H8.ext (X11.trans X12), E11.ext X12⟩
  generalize (h11.set fa (.tup [.ref rd, .ref hd, .ref ed])) = h12 at X12 F12 ⊢
  have X512 := X511.trans X12
  walk_at "ab"
  refine c_g_new (by lia) ok (X512.get e4) (e5.ext X512) fun gr h13 o tb em fd fw E ad Fs adw _ X13 G13 hem13 T13 O13 W13 => ?_
  have F13 := F12.ext X13
  have X513 := X512.trans X13
  walk_at "ab"
  refine c_after ok hst (by lia) F13 ⟨_, _, X513.get e2, by rw [e3.names, hso]⟩ fun du h14 M _ X14 D14 => ?_
  have F14 := F13.ext X14
  have G14 := G13.ext X14
  have X514 := X513.trans X14
  have hem14 : ∃ ep ks, h14 em = some (.dict ep (kt ks)) ∧ ∀ y, ks.contains y = true ↔ Nul rs (.name y) := let ⟨ep, ks, a, b⟩ := hem13; ⟨ep, ks, X14.get a, b⟩
  have W14 := W13.ext X14 id fun _ _ => id
  walk_at "ab"
  intro fnd hfnd
  have X15 : Ext No h14 (h14.set fnd (.list [])) := Ext.alloc hfnd
  have L15 : FL (h14.set fnd (.list [])) fnd [] := ⟨[], Hp.set_same .., trivial⟩
  generalize (h14.set fnd (.list [])) = h15 at X15 L15 ⊢
  walk_at "ab"
  refine r_sortedD (X15.get (X514.get e2)) (by lia) fun od3 hod3 => ?_
  rw [e3.names, hso]
  have X16 := X15.trans (Ext.alloc hod3 (o := .list ((nsOf rs).map V.str)))
  have L16 := L15.ext (Ext.alloc hod3 (o := .list ((nsOf rs).map V.str)))
  have o16 : (h15.set od3 (.list ((nsOf rs).map V.str))) od3 = some (.list ((nsOf rs).map V.str)) := Hp.set_same ..
  have nod3 : od3 ≠ fnd := fun e => L15.live (e ▸ hod3)
  generalize (h15.set od3 (.list ((nsOf rs).map V.str))) = h16 at X16 L16 o16 ⊢
  refine r_forL o16 ?_
  refine fin_loop (by lia) ok G14 hem14 W14 F14 D14 hfnd nod3 rs h16 [] _ (fun _ h => h) X16 o16 L16 (by simp; lia) fun h17 o17 X17 L17 => ?_
  rw [List.nil_append] at L17
  walk_at "ab"
  refine c_conflicts (by lia) ok (G14.ext X17) ((T13.ext X14).ext X17) (X17.get (X14.get O13)) (W14.ext X17 id fun _ _ => id) fun D h18 _ X18 L18 => ?_
  walk_at "ab"
  exact r_eqFL L18 (L17.ext X18) (allq_ok ok) (h h18)
end
end
end Mine
set_option maxHeartbeats 8000000
namespace Mine
open PySem PySem.W PySem.Calls PyProof.Rows
theorem law_names : ∀ x ∈ nm_law, fd_law.scope.names.lookup x = some .local := by decide +kernel
theorem run_law {w : World} {s₀ : Shared} {s₁ : Shared} {mg mb : Str → Option Value} {fa : Addr} {cdv : Value} {scrA : Addr} {us : List Value} {ns : List Int} {h₁ : Heap} {tk : Nat} {m : Str → Option Value}
    (KX : (K w.params).In s₁.heap) (T : Top view (looseW view []) (ExcName.means s₀.heap) mg mb s₁.heap) (hL : s₁.heap.IsList scrA us.toArray) (hI : IntsAre us ns) (hlen : ns.length ≤ 63) (F : Fr s₁.heap s₁.heap.objs.size h₁ m) (hm : m (("script" : Str)) = some (.ref scrA))
    (E : Value → Shared → Prop) (P : Flow → Shared → Prop) (hP : ∀ s', s'.gens = s₁.gens → s'.os = s₁.os → (∀ b o, s₁.heap.get? b = some o → s'.heap.get? b = some o) → P (.ret (.bool true)) s') :
    wpAny (model rr.prog w) (callerA.deeper (envOf fd_law.name fd_law.scope s₁.heap.objs.size fa cdv)) (execs fd_law.body (envOf fd_law.name fd_law.scope s₁.heap.objs.size fa cdv)) P E { s₁ with heap := h₁, toks := tk } := by
  let g : Gl := { prog := rr.prog, w := w, K := K w.params, p := view, loose := looseW view [], mean := ExcName.means s₀.heap, mg := mg, mb := mb, cls := 73, scrA := scrA, scrN := ns }
  let a : Act := { A₀ := callerA, base := s₁.heap, h₀ := s₁.heap, outer := [], fenv := envOf fd_law.name fd_law.scope s₁.heap.objs.size fa cdv, L := s₁.heap.objs.size }
  have G : GOk g := ⟨rfl, rfl⟩
  have Ok : a.Ok g := ⟨below_caller _, KX, T, rfl, by rfl⟩
  have AO : AOk a 40 (callerA.deeper a.fenv) := ⟨rfl, rfl, (show callerA.depth + 1 + 40 < recursionLimit by decide +kernel), (show callerA.units + 3 + 8 * 40 + 80 < cLine by decide +kernel)⟩
  have FO : FOk a := ⟨rfl, fun x c e => by cases e⟩
  have V0 : EnvOk a.fenv fd_law.scope nm_law [some (.ref scrA), none, none, none, none, none, none, none, none, none, none, none, none, none] (fun _ => none) { s₁ with heap := h₁, toks := tk } := by
    refine ⟨rfl, by rfl, rfl, rfl, rfl, by decide +kernel, rfl, ⟨m, F.ns, fun i x v hi hl hx => ?_⟩, fun i x hi hx => ?_, fun x y c e => (by cases e), fun x c e => by cases e⟩
    · match i, hi, hl with
      | 0, hi, hl => cases hi; cases hl; exact ⟨_, hm, rfl⟩
      | 1, hi, hl => cases hl
      | 2, hi, hl => cases hl
      | 3, hi, hl => cases hl
      | 4, hi, hl => cases hl
      | 5, hi, hl => cases hl
      | 6, hi, hl => cases hl
      | 7, hi, hl => cases hl
      | 8, hi, hl => cases hl
      | 9, hi, hl => cases hl
      | 10, hi, hl => cases hl
      | 11, hi, hl => cases hl
      | 12, hi, hl => cases hl
      | 13, hi, hl => cases hl
      | n + 14, hi, hl => cases hl
    · rw [law_names x (List.mem_of_getElem? hi)] at hx; cases hx
  have R0 : HRep g a (fun _ => none) { s₁ with heap := h₁, toks := tk } := by
    refine ⟨fun x o e => (by cases e), ⟨m, F⟩, rfl, fun _ _ _ => rfl, ⟨us, ?_, hI⟩, rfl, fun b hb => absurd rfl hb⟩
    obtain ⟨ob, h1, h2⟩ := hL
    exact ⟨ob, F.keep _ _ h1, h2⟩
  have key := sd_law G (c := callD g 40) (n := 40) (fun f => (call_sound G 40).1 f) a (callerA.deeper a.fenv) [some (.ref scrA), none, none, none, none, none, none, none, none, none, none, none, none, none] (fun _ => none) { s₁ with heap := h₁, toks := tk } (fun _ _ => False) (fun v _ => v = .bool true) E Ok AO FO V0 R0 (c_law (g := g) (by show ns.length ≤ _; omega) (by decide) fun _ => rfl)
  refine wpAny_mono key (fun fl s' q => ?_) fun _ _ x => x
  cases fl with
  | ret val =>
    obtain ⟨v, hp', S, O, e, rfl⟩ := q
    obtain rfl := vOf_bool e
    refine hP s' S.gens S.os fun b o eb => S.keep b o (F.keep _ _ eb) rfl fun hb => ?_
    have hlt := Heap.lt_size eb
    rcases mem_own.mp hb with e | ⟨x, e⟩
    · exact Nat.lt_irrefl _ (e ▸ hlt)
    · cases e
  | next => obtain ⟨_, _, _, _, _, q⟩ := q; exact q.elim
  | _ => exact q.elim
theorem zz : Challenge.rw_pb0335_01.Holds := by
  refine holds_law said fun said => ?_
  refine holds_open (q := view) (loose := []) (Xt := fun s => xlAt view [] s && recOk (RowW.records rr.toRowW) s) (XP := XL view []) (Yf := HK.obs) (Ya := HK.val) (YP := HK.says) (d := fd_law) (kwd := []) (N := 2518) hl (HK.of) (HK.keeps) (fun s e => xl_of s (Bool.and_eq_true_iff.mp e).1) XL.keeps (by kernel_rfl) (by kernel_rfl) (by kernel_rfl) (fun s e => recFacts_of (Bool.and_eq_true_iff.mp e).2) (by rfl) said (by decide +kernel) ⟨rfl, rfl, rfl, rfl, rfl, by decide +kernel⟩ ?hw ?hc
  case hw => w_witness2
  case hc =>
    intro w s₀ s₁ mg mb G Y fa o pm cd doc dV kV ho hd hcd hD hmg hg args vals as hpre hlay hrd hwl hlo
    have KX := kIn_of Y
    have X0 := (Ground.X G).1
    have V0 := (Ground.X G).2
    refine Ground.open G ?_
    intro T0 B D TE0 TW0
    try (refine guard_noD D (by decide +kernel) ?_; clear D)
    obtain ⟨_, _, Mo⟩ := bmod_of_top T0
    have TA := at_of_top T0
    try (obtain ⟨_, _, he, B0⟩ := based_of_top T0 rfl hmg ho hd; have he' : cd = _ := he; subst he'; clear he)
    clear hmg
    wrow_args hpre hlay hrd hwl hlo
    first | refine callC_kw (enter_call ?_) | refine enter_call ?_ | refine callC_kw (enter_callW ?_) | refine enter_callW ?_
    w_top on
    try refine codeAny_mono ?_ (fun _ _ g => GoodW.toG g)
    have K0 := below_caller (Top.heap T0)
    w_call any ho hd hcd hD T0 F
    clear hd TA
    k_drop
    rename_i c9 c8 c7 c6 ns hs hlay0 hL1 hr1 hl2 c4 c3 scrA us c0 hL ra w1 r0 hI hr hc1 hc2 h₁ N0
    refine run_law KX T0 hL hI (by omega) F rfl _ _ fun s' g1 g2 g3 => ?_
    refine ⟨.inl ⟨.bool true, .bool true, [], rfl, raisesW_false ?_, .bool true, ?_, unshared_nil⟩, g3, g2, g1.trans hg⟩
    · wrow_none_raised
    · kc_post
end Mine
theorem PySem.Challenge.cw_pb0335_01_holds : PySem.Challenge.rw_pb0335_01.Holds := by
  exact Mine.zz
