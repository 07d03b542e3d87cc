import PyProof.Rows.All
import Wide.All
import OpenK.AllK
import Wide.FinOn
import KE.KRevIter
import KE.IntBitsLaws
import PySem.Challenge.RW_ov0001_01
open PySem PySem.W PyProof.Rows PySem.Calls
set_option Elab.async false
set_option maxRecDepth 100000
set_option maxHeartbeats 8000000
set_option linter.all false

namespace Mine

section

/-- pure immutable data -/
inductive T where
  | none
  | bool (b : Bool)
  | int (i : Int)
  | str (s : Str)
  | tup (l : List T)

/-- a plain tuple -/
noncomputable def PTup (h : Heap) (a : Addr) (vs : Array Value) : Prop := ∃ n, h.get? a = some { cls := .type "tuple", data := .seq vs n }
theorem PTup.is {h : Heap} {a : Addr} {vs : Array Value} (x : PTup h a vs) : IsTup h a vs := let ⟨n, e⟩ := x; ⟨_, e, rfl, n, rfl⟩
theorem PTup.push {h : Heap} {a : Addr} {vs : Array Value} (x : PTup h a vs) (o : Obj) : PTup (h.push o) a vs := let ⟨n, e⟩ := x; ⟨n, Heap.get?_push_of_some _ e⟩
theorem PTup.typeIs {s : Shared} {a : Addr} {vs : Array Value} (x : PTup s.heap a vs) : s.TypeIs (.ref a) "tuple" := x.is.typeIs

mutual
inductive Is (h : Heap) : Value → T → Prop
  | none : Is h .none .none
  | bool (b : Bool) : Is h (.bool b) (.bool b)
  | int (i : Int) (t : Tok) : Is h (.int i t) (.int i)
  | str (s : Str) (t : Tok) : Is h (.str s t) (.str s)
  | tup {a : Addr} {vs : List Value} {ts : List T} (ht : PTup h a vs.toArray) (hs : Are h vs ts) : Is h (.ref a) (.tup ts)
inductive Are (h : Heap) : List Value → List T → Prop
  | nil : Are h [] []
  | cons {v : Value} {t : T} {vs : List Value} {ts : List T} (hv : Is h v t) (hs : Are h vs ts) : Are h (v :: vs) (t :: ts)
end

/-- every object but lists stays -/
noncomputable def KeepNL (h h' : Heap) : Prop := ∀ b o, h.get? b = some o → o.cls ≠ .type "list" → h'.get? b = some o
theorem KeepNL.refl (h : Heap) : KeepNL h h := fun _ _ e _ => e
theorem KeepNL.trans {h h' h'' : Heap} (x : KeepNL h h') (y : KeepNL h' h'') : KeepNL h h'' := fun b o e n => y b o (x b o e n) n
theorem KeepNL.of_keep {h h' : Heap} (x : ∀ b o, h.get? b = some o → h'.get? b = some o) : KeepNL h h' := fun b o e _ => x b o e
theorem KeepNL.tup {h h' : Heap} (x : KeepNL h h') {a : Addr} {vs : Array Value} (ht : PTup h a vs) : PTup h' a vs := by
  obtain ⟨n, ho⟩ := ht
  exact ⟨n, x _ _ ho (show Value.type "tuple" ≠ Value.type "list" by decide)⟩
theorem KeepNL.ns {h h' : Heap} (x : ∀ b o es ep, h.get? b = some o → o.data = .dict es ep → h'.get? b = some o) {a : Addr} {m : Str → Option Value} (hn : h.Ns a m) : h'.Ns a m := by
  obtain ⟨o, es, ep, ho, hd, r⟩ := hn
  exact ⟨o, es, ep, x _ _ _ _ ho hd, hd, r⟩

mutual
theorem Is.mono {h h' : Heap} (k : ∀ a vs, PTup h a vs → PTup h' a vs) : ∀ {v : Value} {t : T}, Is h v t → Is h' v t
  | _, _, .none => .none
  | _, _, .bool b => .bool b
  | _, _, .int i t => .int i t
  | _, _, .str s t => .str s t
  | _, _, .tup ht hs => .tup (k _ _ ht) (Are.mono k hs)
theorem Are.mono {h h' : Heap} (k : ∀ a vs, PTup h a vs → PTup h' a vs) : ∀ {vs : List Value} {ts : List T}, Are h vs ts → Are h' vs ts
  | _, _, .nil => .nil
  | _, _, .cons hv hs => .cons (Is.mono k hv) (Are.mono k hs)
end

theorem Are.length {h : Heap} : ∀ {vs : List Value} {ts : List T}, Are h vs ts → vs.length = ts.length
  | _, _, .nil => rfl
  | _, _, .cons _ hs => by simp [Are.length hs]
theorem Are.append {h : Heap} : ∀ {vs ws : List Value} {ts us : List T}, Are h vs ts → Are h ws us → Are h (vs ++ ws) (ts ++ us)
  | _, _, _, _, .nil, y => y
  | _, _, _, _, .cons hv hs, y => .cons hv (Are.append hs y)
theorem Are.get {h : Heap} : ∀ {vs : List Value} {ts : List T}, Are h vs ts → ∀ {i : Nat} {t : T}, ts[i]? = some t → ∃ v, vs[i]? = some v ∧ Is h v t
  | _, _, .nil, i, t, e => by simp at e
  | _, _, .cons hv hs, 0, t, e => by simp at e; subst e; exact ⟨_, rfl, hv⟩
  | _, _, .cons hv hs, i+1, t, e => by simp at e; obtain ⟨v, hv', hi⟩ := Are.get hs e; exact ⟨v, by simpa using hv', hi⟩
theorem Are.get' {h : Heap} : ∀ {vs : List Value} {ts : List T}, Are h vs ts → ∀ {i : Nat} {v : Value}, vs[i]? = some v → ∃ t, ts[i]? = some t ∧ Is h v t
  | _, _, .nil, i, t, e => by simp at e
  | _, _, .cons hv hs, 0, t, e => by simp at e; subst e; exact ⟨_, rfl, hv⟩
  | _, _, .cons hv hs, i+1, t, e => by simp at e; obtain ⟨v, hv', hi⟩ := Are.get' hs e; exact ⟨v, by simpa using hv', hi⟩
theorem Are.drop {h : Heap} : ∀ {vs : List Value} {ts : List T}, Are h vs ts → ∀ n, Are h (vs.drop n) (ts.drop n)
  | _, _, x, 0 => x
  | _, _, .nil, n+1 => by simpa using Are.nil
  | _, _, .cons hv hs, n+1 => by simpa using Are.drop hs n
theorem Are.take {h : Heap} : ∀ {vs : List Value} {ts : List T}, Are h vs ts → ∀ n, Are h (vs.take n) (ts.take n)
  | _, _, x, 0 => by simpa using Are.nil
  | _, _, .nil, n+1 => by simpa using Are.nil
  | _, _, .cons hv hs, n+1 => by simpa using Are.cons hv (Are.take hs n)
theorem Are.reverse {h : Heap} : ∀ {vs : List Value} {ts : List T}, Are h vs ts → Are h vs.reverse ts.reverse
  | _, _, .nil => .nil
  | _, _, .cons hv hs => by simpa using Are.append (Are.reverse hs) (.cons hv .nil)

/-- what an expression may give -/
inductive PV where
  | t (t : T)
  | l (a : Addr)
  | ty (n : String)
  | ob (R : Heap → Value → Prop)

noncomputable def IsP (h : Heap) (v : Value) : PV → Prop
  | .t t => Is h v t
  | .l a => v = .ref a
  | .ty n => v = .type n
  | .ob R => ∀ h', KeepNL h h' → R h' v

noncomputable def PV.plain : PV → Prop
  | .ob _ => False
  | _ => True
theorem IsP.own {h h' : Heap} (k : ∀ a vs, PTup h a vs → PTup h' a vs) {v : Value} : ∀ {pv : PV}, pv.plain → IsP h v pv → IsP h' v pv
  | .t _, _, x => Is.mono k x
  | .l _, _, x => x
  | .ty _, _, x => x
theorem IsP.keep {h h' : Heap} (k : KeepNL h h') {v : Value} : ∀ {pv : PV}, IsP h v pv → IsP h' v pv
  | .t _, x => Is.mono (fun _ _ ht => k.tup ht) x
  | .l _, x => x
  | .ty _, x => x
  | .ob _, x => fun h'' k' => x h'' (k.trans k')

inductive IsPs (h : Heap) : List Value → List PV → Prop
  | nil : IsPs h [] []
  | cons {v : Value} {pv : PV} {vs : List Value} {pvs : List PV} (hv : IsP h v pv) (hs : IsPs h vs pvs) : IsPs h (v :: vs) (pv :: pvs)
theorem IsPs.keep {h h' : Heap} (k : KeepNL h h') {vs : List Value} {pvs : List PV} (x : IsPs h vs pvs) : IsPs h' vs pvs := by
  induction x with
  | nil => exact .nil
  | cons hv _ ih => exact .cons (hv.keep k) ih

noncomputable abbrev Mem := Addr → Option (List T)
noncomputable def upd (mem : Mem) (a : Addr) (l : List T) : Mem := fun b => if b = a then some l else mem b
theorem upd_same {mem : Mem} {a : Addr} {l : List T} : upd mem a l a = some l := by simp [upd]
theorem upd_ne {mem : Mem} {a b : Addr} {l : List T} (h : b ≠ a) : upd mem a l b = mem b := by simp [upd, h]
theorem upd_upd {mem : Mem} {a : Addr} {l l' : List T} : upd (upd mem a l) a l' = upd mem a l' := by
  funext b; simp only [upd]; split <;> rfl
theorem upd_comm {mem : Mem} {a b : Addr} {l l' : List T} (h : a ≠ b) : upd (upd mem a l) b l' = upd (upd mem b l') a l := by
  funext c; simp only [upd]
  by_cases h1 : c = a
  · subst h1; simp [h]
  · by_cases h2 : c = b
    · subst h2; simp [h1]
    · simp [h1, h2]
theorem upd_self {mem : Mem} {a : Addr} {l : List T} (h : mem a = some l) : upd mem a l = mem := by
  funext c; simp only [upd]; split
  · subst c; exact h.symm
  · rfl
noncomputable def Le (mem mem' : Mem) : Prop := ∀ a l, mem a = some l → mem' a = some l
theorem Le.refl (mem : Mem) : Le mem mem := fun _ _ e => e
theorem Le.trans {m m' m'' : Mem} (x : Le m m') (y : Le m' m'') : Le m m'' := fun a l e => y a l (x a l e)
theorem Le.upd {mem : Mem} {a : Addr} {l : List T} (h : mem a = none) : Le mem (upd mem a l) := fun b l' e => by
  rw [upd_ne]; exact e
  rintro rfl; rw [h] at e; cases e
theorem Le.upd_upd {m m' : Mem} {a : Addr} {l : List T} (x : Le m m') : Le (Mine.upd m a l) (Mine.upd m' a l) := fun b l' e => by
  simp only [Mine.upd] at e ⊢
  split
  · rename_i h; simpa [h] using e
  · rename_i h; simp [h] at e; exact x _ _ e

/-- the run's fixed part -/
structure Cx where
  prog : Program
  w : World
  h₀ : Heap
  p : Program
  loose : List Str
  mean : ExcName → Option Value
  mg : Str → Option Value
  mb : Str → Option Value
  top : Top p loose mean mg mb h₀

structure AOk (A : Around) (d : Nat) : Prop where
  hd : A.handled = none
  gd : A.guards = some []
  depth : A.depth + d ≤ 700
  units : A.units + 8 * d ≤ 9000

structure Ok (X : Cx) (mem : Mem) (h : Heap) : Prop where
  base : ∀ b o, X.h₀.get? b = some o → h.get? b = some o
  lst : ∀ a l, mem a = some l → X.h₀.get? a = none ∧ ∃ vs : List Value, h.PlainList a vs.toArray ∧ Are h vs l

structure Step (mem : Mem) (s : Shared) (mem' : Mem) (s' : Shared) : Prop where
  same : s' = { s with heap := s'.heap, toks := s'.toks }
  ext : ∀ b o, mem b = none → s.heap.get? b = some o → s'.heap.get? b = some o
  new : ∀ b, mem' b ≠ none → mem b ≠ none ∨ s.heap.get? b = none

theorem Step.refl (mem : Mem) (s : Shared) : Step mem s mem s := ⟨rfl, fun _ _ _ e => e, fun _ h => .inl h⟩
theorem Step.trans {m m1 m2 : Mem} {s s1 s2 : Shared} (x : Step m s m1 s1) (y : Step m1 s1 m2 s2) : Step m s m2 s2 := by
  have hm : ∀ b o, m b = none → s.heap.get? b = some o → m1 b = none := fun b o hb e => by
    cases h : m1 b with
    | none => rfl
    | some l =>
      rcases x.new b (by rw [h]; simp) with h1 | h1
      · exact absurd hb h1
      · rw [h1] at e; cases e
  refine ⟨?_, fun b o hb e => y.ext b o (hm b o hb e) (x.ext b o hb e), fun b hb => ?_⟩
  · rw [y.same, x.same]
  · rcases y.new b hb with h | h
    · exact x.new b h
    · cases hb' : m b with
      | some l => exact .inl (by simp)
      | none =>
        refine .inr ?_
        cases e : s.heap.get? b with
        | none => rfl
        | some o => rw [x.ext b o hb' e] at h; cases h

theorem Ok.notNL {X : Cx} {mem : Mem} {h : Heap} (k : Ok X mem h) {b : Addr} {o : Obj} (e : h.get? b = some o) (n : o.cls ≠ .type "list") : mem b = none := by
  cases hm : mem b with
  | none => rfl
  | some l =>
    obtain ⟨_, vs, ⟨ep, ho'⟩, _⟩ := k.lst b l hm
    rw [e] at ho'; cases ho'; exact absurd rfl n
theorem Step.keepNL {X : Cx} {m m1 : Mem} {s s1 : Shared} (x : Step m s m1 s1) (k : Ok X m s.heap) : KeepNL s.heap s1.heap :=
  fun b o e n => x.ext b o (k.notNL e n) e
theorem Step.weaken {m m1 m2 : Mem} {s s1 : Shared} (x : Step m s m1 s1) (h : Le m2 m1) : Step m s m2 s1 :=
  ⟨x.same, x.ext, fun b hb => x.new b (by
    cases e : m2 b with
    | none => exact absurd e hb
    | some l => rw [h _ _ e]; simp)⟩
theorem Ok.weaken {X : Cx} {m m2 : Mem} {h : Heap} (x : Ok X m h) (hl : Le m2 m) : Ok X m2 h := ⟨x.base, fun a l e => x.lst a l (hl a l e)⟩

/-- where a name is found -/
noncomputable def VarAt (env : Env) (h : Heap) (m : Str → Option Value) (x : Str) (v : Value) : Prop :=
  (env.kindOf x = some .local ∧ m x = some v) ∨
  ((env.kindOf x = some .cell ∨ env.kindOf x = some .free) ∧ ∃ c, env.cells.lookup x = some c ∧ h.IsCell c (some v))

noncomputable abbrev Vars := List (Str × PV)

structure Loc (X : Cx) (env : Env) (ρ : Vars) (h : Heap) : Prop where
  kind : env.scope.kind = .function
  globals : env.globals = mainGlobals
  builtins : env.builtins = builtinsNs
  own : X.h₀.get? env.locals = none
  cown : ∀ n c, env.cells.lookup n = some c → X.h₀.get? c = none ∧ ∃ ov, h.IsCell c ov
  apart : ∀ n n' c, env.cells.lookup n = some c → env.cells.lookup n' = some c → n = n'
  vars : ∃ m, h.Ns env.locals m ∧ ∀ x pv, ρ.lookup x = some pv → pv.plain ∧ ∃ v, IsP h v pv ∧ VarAt env h m x v

noncomputable def Own (env : Env) (b : Addr) : Prop := b = env.locals ∨ (env.func.isSome = true ∧ ∃ n, env.cells.lookup n = some b)

noncomputable def Post (X : Cx) (mem : Mem) (s : Shared) (K : PV → Mem → Prop) (v : Value) (s' : Shared) : Prop :=
  ∃ pv mem', IsP s'.heap v pv ∧ Ok X mem' s'.heap ∧ Step mem s mem' s' ∧ K pv mem'
noncomputable def PostB (X : Cx) (mem : Mem) (s : Shared) (K : Bool → Mem → Prop) (b : Bool) (s' : Shared) : Prop :=
  ∃ mem', Ok X mem' s'.heap ∧ Step mem s mem' s' ∧ K b mem'
noncomputable def PostL (X : Cx) (mem : Mem) (s : Shared) (K : List PV → Mem → Prop) (vs : List Value) (s' : Shared) : Prop :=
  ∃ pvs mem', IsPs s'.heap vs pvs ∧ Ok X mem' s'.heap ∧ Step mem s mem' s' ∧ K pvs mem'

noncomputable abbrev NoE : Value → Shared → Prop := fun _ _ => False

/-- an expression in a frame -/
structure WE (X : Cx) (d : Nat) (env : Env) (ρ : Vars) (mem : Mem) (e : Expr) (K : PV → Mem → Prop) : Prop where
  run : ∀ A s, AOk A d → Ok X mem s.heap → Loc X env ρ s.heap → wpAny (model X.prog X.w) A (eval e env) (Post X mem s K) NoE s
structure WT (X : Cx) (d : Nat) (env : Env) (ρ : Vars) (mem : Mem) (e : Expr) (K : Bool → Mem → Prop) : Prop where
  run : ∀ A s, AOk A d → Ok X mem s.heap → Loc X env ρ s.heap → wpAny (model X.prog X.w) A (isTrue e env (eval e env)) (PostB X mem s K) NoE s
structure WEs (X : Cx) (d : Nat) (env : Env) (ρ : Vars) (mem : Mem) (es : List Expr) (K : List PV → Mem → Prop) : Prop where
  run : ∀ A s pos, AOk A d → Ok X mem s.heap → Loc X env ρ s.heap → wpAny (model X.prog X.w) A (spliced (backTo pos (starEach es env))) (PostL X mem s K) NoE s
/-- an operation upon values -/
structure OP (X : Cx) (d : Nat) (t : List Value → Sem Value) (pvs : List PV) (mem : Mem) (K : PV → Mem → Prop) : Prop where
  run : ∀ A s vs, AOk A d → Ok X mem s.heap → IsPs s.heap vs pvs → wpAny (model X.prog X.w) A (t vs) (Post X mem s K) NoE s

theorem Post.of_step {X : Cx} {m m1 : Mem} {s s1 s2 : Shared} {K : PV → Mem → Prop} {v : Value} (x : Step m s m1 s1) (y : Post X m1 s1 K v s2) : Post X m s K v s2 :=
  let ⟨pv, m2, h1, h2, h3, h4⟩ := y; ⟨pv, m2, h1, h2, x.trans h3, h4⟩
theorem PostB.of_step {X : Cx} {m m1 : Mem} {s s1 s2 : Shared} {K : Bool → Mem → Prop} {v : Bool} (x : Step m s m1 s1) (y : PostB X m1 s1 K v s2) : PostB X m s K v s2 :=
  let ⟨m2, h2, h3, h4⟩ := y; ⟨m2, h2, x.trans h3, h4⟩
theorem PostL.of_step {X : Cx} {m m1 : Mem} {s s1 s2 : Shared} {K : List PV → Mem → Prop} {v : List Value} (x : Step m s m1 s1) (y : PostL X m1 s1 K v s2) : PostL X m s K v s2 :=
  let ⟨pv, m2, h1, h2, h3, h4⟩ := y; ⟨pv, m2, h1, h2, x.trans h3, h4⟩

theorem VarAt.keep {env : Env} {h h' : Heap} {m : Str → Option Value} {x : Str} {v : Value} (k : ∀ c ov, h.IsCell c ov → (∃ n, env.cells.lookup n = some c) → h'.IsCell c ov) (y : VarAt env h m x v) : VarAt env h' m x v := by
  rcases y with y | ⟨y, c, hc, hv⟩
  · exact .inl y
  · exact .inr ⟨y, c, hc, k _ _ hv ⟨_, hc⟩⟩

theorem KeepNL.cell {h h' : Heap} (x : ∀ b o v, h.get? b = some o → o.data = .cell v → h'.get? b = some o) {c : Addr} {ov : Option Value} (y : h.IsCell c ov) : h'.IsCell c ov :=
  let ⟨o, ho, hd⟩ := y; ⟨o, x _ _ _ ho hd, hd⟩

theorem Ok.notSeq {X : Cx} {mem : Mem} {h : Heap} (k : Ok X mem h) {b : Addr} {o : Obj} (e : h.get? b = some o) (n : ∀ xs ep, o.data ≠ .seq xs ep) : mem b = none := by
  cases hm : mem b with
  | none => rfl
  | some l =>
    obtain ⟨_, vs, ⟨ep, ho'⟩, _⟩ := k.lst b l hm
    rw [e] at ho'; cases ho'; exact absurd rfl (n _ _)

theorem Loc.step {X : Cx} {env : Env} {ρ : Vars} {m m1 : Mem} {s s1 : Shared} (F : Loc X env ρ s.heap) (k : Ok X m s.heap) (x : Step m s m1 s1) : Loc X env ρ s1.heap := by
  have hcell : ∀ c ov, s.heap.IsCell c ov → s1.heap.IsCell c ov := fun c ov y => by
    obtain ⟨o, ho, hd⟩ := y
    exact ⟨o, x.ext _ _ (k.notSeq ho (by rw [hd]; intro _ _ h; cases h)) ho, hd⟩
  refine ⟨F.kind, F.globals, F.builtins, F.own, fun n c hc => ?_, F.apart, ?_⟩
  · obtain ⟨h1, ov, h2⟩ := F.cown n c hc
    exact ⟨h1, ov, hcell _ _ h2⟩
  · obtain ⟨mm, hn, hv⟩ := F.vars
    refine ⟨mm, ?_, fun y pv e => ?_⟩
    · obtain ⟨o, es, ep, ho, hd, r⟩ := hn
      exact ⟨o, es, ep, x.ext _ _ (k.notSeq ho (by rw [hd]; intro _ _ h; cases h)) ho, hd, r⟩
    · obtain ⟨hp, v, h1, h2⟩ := hv y pv e
      exact ⟨hp, v, h1.keep (x.keepNL k), h2.keep fun c ov hc _ => hcell c ov hc⟩


end

section
theorem IsP.t {h : Heap} {v : Value} {t : T} (x : Is h v t) : IsP h v (.t t) := x
theorem IsP.ty {h : Heap} {n : String} : IsP h (.type n) (.ty n) := rfl
theorem IsP.l {h : Heap} {a : Addr} : IsP h (.ref a) (.l a) := rfl

variable {X : Cx} {d : Nat} {env : Env} {ρ : Vars} {mem : Mem}

theorem Step.tok (mem : Mem) (s : Shared) (n : Nat) : Step mem s mem { s with toks := n } := ⟨rfl, fun _ _ _ e => e, fun _ h => .inl h⟩
theorem Step.heap {mem : Mem} {s : Shared} {h' : Heap} {n : Nat} (k : ∀ b o, mem b = none → s.heap.get? b = some o → h'.get? b = some o) : Step mem s mem { s with heap := h', toks := n } :=
  ⟨rfl, k, fun _ h => .inl h⟩

theorem Post.val {s : Shared} {n : Nat} {K : PV → Mem → Prop} {v : Value} {pv : PV} (ok : Ok X mem s.heap) (h : IsP s.heap v pv) (k : K pv mem) : Post X mem s K v { s with toks := n } :=
  ⟨pv, mem, h, ok, Step.tok _ _ _, k⟩
theorem Post.val0 {s : Shared} {K : PV → Mem → Prop} {v : Value} {pv : PV} (ok : Ok X mem s.heap) (h : IsP s.heap v pv) (k : K pv mem) : Post X mem s K v s :=
  ⟨pv, mem, h, ok, Step.refl _ _, k⟩

/-! constants, names -/
theorem we_none {n : Nat} {pos : Pos} {K : PV → Mem → Prop} (k : K (.t .none) mem) : WE X d env ρ mem (.Constant .none n pos) K :=
  .mk fun A s _ ok _ => wpAny_pure (Post.val0 ok (IsP.t Is.none) k)
theorem we_bool {b : Bool} {n : Nat} {pos : Pos} {K : PV → Mem → Prop} (k : K (.t (.bool b)) mem) : WE X d env ρ mem (.Constant (.bool b) n pos) K :=
  .mk fun A s _ ok _ => wpAny_pure (Post.val0 ok (IsP.t (Is.bool b)) k)
theorem we_int {i : Int} {n : Nat} {pos : Pos} {K : PV → Mem → Prop} (k : K (.t (.int i)) mem) : WE X d env ρ mem (.Constant (.int i) n pos) K :=
  .mk fun A s _ ok _ => wpAny_Constant_int (Post.val ok (IsP.t (Is.int i _)) k)
theorem we_str {x : Str} {n : Nat} {pos : Pos} {K : PV → Mem → Prop} (k : K (.t (.str x)) mem) : WE X d env ρ mem (.Constant (.str x) n pos) K :=
  .mk fun A s _ ok _ => Constant_str (Post.val ok (IsP.t (Is.str x _)) k)

theorem we_name {x : Str} {pos : Pos} {pv : PV} {K : PV → Mem → Prop} (hx : ρ.lookup x = some pv) (k : K pv mem) (hd : (x == ("__debug__" : Str)) = false := by decide) (hn : (x == ("__classdict__" : Str)) = false := by decide) :
    WE X d env ρ mem (.Name x pos) K := .mk fun A s _ ok F => by
  obtain ⟨m, hns, hv⟩ := F.vars
  obtain ⟨_, v, h1, h2⟩ := hv x pv hx
  refine wpAny_Name ?_ hd
  rcases h2 with ⟨hl, hm⟩ | ⟨hl | hl, c, hc, hcell⟩
  · exact wpAny_loadName_local F.kind hl hns hm (Post.val0 ok h1 k)
  · exact wpAny_loadName_cell F.kind hl hc hcell (Post.val0 ok h1 k)
  · exact wpAny_loadName_free F.kind hl hc hcell (Post.val0 ok h1 k) hn

/-- a built-in's name that the text binds nowhere -/
noncomputable def Free (X : Cx) (x : Str) (v : Value) : Prop := X.mg x = none ∧ X.mb x = some v

theorem wp_builtin_name {x : Str} {pos : Pos} {v : Value} {A : Around} {s : Shared} {Q : Value → Shared → Prop} (hk : env.kindOf x = some .globalImplicit) (hf : Free X x v)
    (hd : (x == ("__debug__" : Str)) = false) (ok : Ok X mem s.heap) (F : Loc X env ρ s.heap) (h : Q v s) : wpAny (model X.prog X.w) A (eval (.Name x pos) env) Q NoE s :=
  Name_function_global F.kind hk (loadGlobal_builtin (by rw [F.globals]; exact X.top.g.keeps ok.base) hf.1 (by rw [F.builtins]; exact X.top.b.keeps ok.base) hf.2 h) hd
theorem wp_global_name {x : Str} {pos : Pos} {v : Value} {A : Around} {s : Shared} {Q : Value → Shared → Prop} (hk : env.kindOf x = some .globalImplicit) (hf : X.mg x = some v)
    (hd : (x == ("__debug__" : Str)) = false) (ok : Ok X mem s.heap) (F : Loc X env ρ s.heap) (h : Q v s) : wpAny (model X.prog X.w) A (eval (.Name x pos) env) Q NoE s :=
  Name_function_global F.kind hk (loadGlobal_global (by rw [F.globals]; exact X.top.g.keeps ok.base) hf h) hd

theorem we_type {x : Str} {pos : Pos} {n : String} {K : PV → Mem → Prop} (hf : Free X x (.type n)) (k : K (.ty n) mem) (hk : env.kindOf x = some .globalImplicit := by rfl) (hd : (x == ("__debug__" : Str)) = false := by decide) :
    WE X d env ρ mem (.Name x pos) K := .mk fun A s _ ok F => wp_builtin_name hk hf hd ok F (Post.val0 ok IsP.ty k)

/-! mono -/
theorem WE.mono {e : Expr} {K K' : PV → Mem → Prop} (h : WE X d env ρ mem e K) (k : ∀ pv m, K pv m → K' pv m) : WE X d env ρ mem e K' :=
  .mk fun A s hA ok F => wpAny_mono (h.run A s hA ok F) (fun v s' ⟨pv, m, h1, h2, h3, h4⟩ => ⟨pv, m, h1, h2, h3, k _ _ h4⟩) fun _ _ x => x
theorem WT.mono {e : Expr} {K K' : Bool → Mem → Prop} (h : WT X d env ρ mem e K) (k : ∀ pv m, K pv m → K' pv m) : WT X d env ρ mem e K' :=
  .mk fun A s hA ok F => wpAny_mono (h.run A s hA ok F) (fun v s' ⟨m, h2, h3, h4⟩ => ⟨m, h2, h3, k _ _ h4⟩) fun _ _ x => x
theorem OP.mono {t : List Value → Sem Value} {pvs : List PV} {K K' : PV → Mem → Prop} (h : OP X d t pvs mem K) (k : ∀ pv m, K pv m → K' pv m) : OP X d t pvs mem K' :=
  .mk fun A s vs hA ok F => wpAny_mono (h.run A s vs hA ok F) (fun v s' ⟨pv, m, h1, h2, h3, h4⟩ => ⟨pv, m, h1, h2, h3, k _ _ h4⟩) fun _ _ x => x
/-- what is no longer spoken of may be forgotten -/
theorem WE.drop {e : Expr} {K K' : PV → Mem → Prop} (h : WE X d env ρ mem e K) (k : ∀ pv m, K pv m → ∃ m', Le m' m ∧ K' pv m') : WE X d env ρ mem e K' :=
  .mk fun A s hA ok F => wpAny_mono (h.run A s hA ok F) (fun v s' ⟨pv, m, h1, h2, h3, h4⟩ => let ⟨m', hl, hk⟩ := k _ _ h4; ⟨pv, m', h1, h2.weaken hl, h3.weaken hl, hk⟩) fun _ _ x => x
theorem WT.drop {e : Expr} {K K' : Bool → Mem → Prop} (h : WT X d env ρ mem e K) (k : ∀ pv m, K pv m → ∃ m', Le m' m ∧ K' pv m') : WT X d env ρ mem e K' :=
  .mk fun A s hA ok F => wpAny_mono (h.run A s hA ok F) (fun v s' ⟨m, h2, h3, h4⟩ => let ⟨m', hl, hk⟩ := k _ _ h4; ⟨m', h2.weaken hl, h3.weaken hl, hk⟩) fun _ _ x => x
theorem OP.drop {t : List Value → Sem Value} {pvs : List PV} {K K' : PV → Mem → Prop} (h : OP X d t pvs mem K) (k : ∀ pv m, K pv m → ∃ m', Le m' m ∧ K' pv m') : OP X d t pvs mem K' :=
  .mk fun A s vs hA ok F => wpAny_mono (h.run A s vs hA ok F) (fun v s' ⟨pv, m, h1, h2, h3, h4⟩ => let ⟨m', hl, hk⟩ := k _ _ h4; ⟨pv, m', h1, h2.weaken hl, h3.weaken hl, hk⟩) fun _ _ x => x

/-- go on behind an expression -/
theorem WE.bind {A : Around} {s : Shared} {e : Expr} {K1 : PV → Mem → Prop} {Q : Value → Shared → Prop} (h : WE X d env ρ mem e K1) (hA : AOk A d) (ok : Ok X mem s.heap) (F : Loc X env ρ s.heap)
    (k : ∀ v pv m1 s1, IsP s1.heap v pv → Ok X m1 s1.heap → Loc X env ρ s1.heap → Step mem s m1 s1 → K1 pv m1 → Q v s1) :
    wpAny (model X.prog X.w) A (eval e env) Q NoE s :=
  wpAny_mono (h.run A s hA ok F) (fun v s1 ⟨pv, m1, h1, h2, h3, h4⟩ => k v pv m1 s1 h1 h2 (F.step ok h3) h3 h4) fun _ _ x => x

/-! operators -/
theorem we_bin {l r : Expr} {op : Operator} {pos : Pos} {K : PV → Mem → Prop}
    (h : WE X d env ρ mem l (fun a m1 => WE X d env ρ m1 r (fun b m2 => OP X d (fun vs => binaryOp op (vs.getD 0 .none) (vs.getD 1 .none)) [a, b] m2 K))) :
    WE X d env ρ mem (.BinOp l op r pos) K := .mk fun A s hA ok F =>
  wpAny_BinOp (h.bind hA ok F fun v a m1 s1 i1 ok1 F1 st1 h1 => h1.bind hA ok1 F1 fun v2 b m2 s2 i2 ok2 F2 st2 h2 =>
    wpAny_mono (h2.run A s2 [v, v2] hA ok2 (.cons (i1.keep (st2.keepNL ok1)) (.cons i2 .nil))) (fun _ _ p => p.of_step (st1.trans st2)) fun _ _ x => x)

theorem we_cmp {l r : Expr} {op : CmpOp} {pos : Pos} {K : PV → Mem → Prop}
    (h : WE X d env ρ mem l (fun a m1 => WE X d env ρ m1 r (fun b m2 => OP X d (fun vs => compareOp op (vs.getD 0 .none) (vs.getD 1 .none)) [a, b] m2 K)))
    (hm : behindInMarks op r = false := by with_unfolding_all rfl) :
    WE X d env ρ mem (.Compare l [op] [r] pos) K := .mk fun A s hA ok F =>
  wpAny_Compare1 (h.bind hA ok F fun v a m1 s1 i1 ok1 F1 st1 h1 => h1.bind hA ok1 F1 fun v2 b m2 s2 i2 ok2 F2 st2 h2 =>
    wpAny_mono (h2.run A s2 [v, v2] hA ok2 (.cons (i1.keep (st2.keepNL ok1)) (.cons i2 .nil))) (fun _ _ p => p.of_step (st1.trans st2)) fun _ _ x => x) hm

theorem wt_cmp {l r : Expr} {op : CmpOp} {pos : Pos} {K : Bool → Mem → Prop}
    (h : WE X d env ρ mem l (fun a m1 => WE X d env ρ m1 r (fun b m2 => OP X d (fun vs => compareOp op (vs.getD 0 .none) (vs.getD 1 .none)) [a, b] m2 (fun c m3 => ∃ q, c = .t (.bool q) ∧ K q m3))))
    (hm : behindInMarks op r = false := by with_unfolding_all rfl) :
    WT X d env ρ mem (.Compare l [op] [r] pos) K := .mk fun A s hA ok F =>
  wpAny_isTrue_Compare1 (h.bind hA ok F fun v a m1 s1 i1 ok1 F1 st1 h1 => h1.bind hA ok1 F1 fun v2 b m2 s2 i2 ok2 F2 st2 h2 =>
    wpAny_mono (h2.run A s2 [v, v2] hA ok2 (.cons (i1.keep (st2.keepNL ok1)) (.cons i2 .nil))) (fun c s3 p => by
      obtain ⟨pv, m3, i3, ok3, st3, q, rfl, hq⟩ := p
      cases i3
      exact wpAny_truthy_bool ⟨m3, ok3, (st1.trans st2).trans st3, hq⟩) fun _ _ x => x) hm

theorem wt_not {x : Expr} {pos : Pos} {K : Bool → Mem → Prop} (h : WT X d env ρ mem x (fun b m => K (!b) m)) : WT X d env ρ mem (.UnaryOp .Not x pos) K := .mk fun A s hA ok F => by
  show wpAny _ A (do return !(← isTrue x env (eval x env))) _ _ s
  exact wpAny_bind (wpAny_mono (h.run A s hA ok F) (fun b s' p => wpAny_pure p) fun _ _ x => x)

theorem we_if {test body orelse : Expr} {pos : Pos} {K : PV → Mem → Prop} (h : WT X d env ρ mem test (fun b m => if b then WE X d env ρ m body K else WE X d env ρ m orelse K)) :
    WE X d env ρ mem (.IfExp test body orelse pos) K := .mk fun A s hA ok F => by
  show wpAny _ A (do if ← isTrue test env (eval test env) then eval body env else eval orelse env) _ _ s
  refine wpAny_bind (wpAny_mono (h.run A s hA ok F) (fun b s' p => ?_) fun _ _ x => x)
  obtain ⟨m1, ok1, st1, h1⟩ := p
  cases b with
  | true => exact wpAny_mono (WE.run h1 A s' hA ok1 (F.step ok st1)) (fun _ _ q => q.of_step st1) fun _ _ x => x
  | false => exact wpAny_mono (WE.run h1 A s' hA ok1 (F.step ok st1)) (fun _ _ q => q.of_step st1) fun _ _ x => x

theorem wt_and1 {x : Expr} {pos : Pos} {K : Bool → Mem → Prop} (h : WT X d env ρ mem x K) : WT X d env ρ mem (.BoolOp .And [x] pos) K := .mk fun A s hA ok F => by
  show wpAny _ A (allTrue .And [x] env) _ _ s
  simp only [allTrue]
  refine wpAny_bind (wpAny_mono (h.run A s hA ok F) (fun b s' p => ?_) fun _ _ x => x)
  cases b <;> exact wpAny_pure p
theorem wt_and {x y : Expr} {r : List Expr} {pos : Pos} {K : Bool → Mem → Prop} (h : WT X d env ρ mem x (fun b m => if b then WT X d env ρ m (.BoolOp .And (y :: r) pos) K else K false m)) :
    WT X d env ρ mem (.BoolOp .And (x :: y :: r) pos) K := .mk fun A s hA ok F => by
  show wpAny _ A (allTrue .And (x :: y :: r) env) _ _ s
  rw [allTrue]
  refine wpAny_bind (wpAny_mono (h.run A s hA ok F) (fun b s' p => ?_) fun _ _ x => x)
  obtain ⟨m1, ok1, st1, h1⟩ := p
  cases b with
  | true => exact wpAny_mono (WT.run h1 A s' hA ok1 (F.step ok st1)) (fun _ _ q => q.of_step st1) fun _ _ x => x
  | false => exact wpAny_pure ⟨m1, ok1, st1, h1⟩
theorem wt_or1 {x : Expr} {pos : Pos} {K : Bool → Mem → Prop} (h : WT X d env ρ mem x K) : WT X d env ρ mem (.BoolOp .Or [x] pos) K := .mk fun A s hA ok F => by
  show wpAny _ A (allTrue .Or [x] env) _ _ s
  simp only [allTrue]
  refine wpAny_bind (wpAny_mono (h.run A s hA ok F) (fun b s' p => ?_) fun _ _ x => x)
  cases b <;> exact wpAny_pure p
theorem wt_or {x y : Expr} {r : List Expr} {pos : Pos} {K : Bool → Mem → Prop} (h : WT X d env ρ mem x (fun b m => if b then K true m else WT X d env ρ m (.BoolOp .Or (y :: r) pos) K)) :
    WT X d env ρ mem (.BoolOp .Or (x :: y :: r) pos) K := .mk fun A s hA ok F => by
  show wpAny _ A (allTrue .Or (x :: y :: r) env) _ _ s
  rw [allTrue]
  refine wpAny_bind (wpAny_mono (h.run A s hA ok F) (fun b s' p => ?_) fun _ _ x => x)
  obtain ⟨m1, ok1, st1, h1⟩ := p
  cases b with
  | false => exact wpAny_mono (WT.run h1 A s' hA ok1 (F.step ok st1)) (fun _ _ q => q.of_step st1) fun _ _ x => x
  | true => exact wpAny_pure ⟨m1, ok1, st1, h1⟩

/-- the test of a plain bool-valued expression (a call, a name) -/
theorem wt_bool {e : Expr} {K : Bool → Mem → Prop} (h : WE X d env ρ mem e (fun c m => ∃ q, c = .t (.bool q) ∧ K q m))
    (he : isTrue e env (eval e env) = (do let v ← eval e env; standAt e.pos; holding [v] (truthy v)) := by rfl) : WT X d env ρ mem e K := .mk fun A s hA ok F => by
  rw [he]
  refine wpAny_bind (h.bind hA ok F fun v pv m1 s1 i1 ok1 F1 st1 h1 => wpAny_bind (wpAny_standAt (wpAny_holding ?_)))
  obtain ⟨q, rfl, hq⟩ := h1
  cases i1
  exact wpAny_truthy_bool ⟨m1, ok1, st1, hq⟩

/-! boolean operators for their value: every part a bool -/
theorem we_boolop1 {x : Expr} {op : BoolOp} {pos : Pos} {K : PV → Mem → Prop} (h : WE X d env ρ mem x K) : WE X d env ρ mem (.BoolOp op [x] pos) K := .mk fun A s hA ok F => h.run A s hA ok F
theorem we_and {x y : Expr} {r : List Expr} {pos : Pos} {K : PV → Mem → Prop}
    (h : WE X d env ρ mem x (fun c m => ∃ q, c = .t (.bool q) ∧ if q then WE X d env ρ m (.BoolOp .And (y :: r) pos) K else K (.t (.bool false)) m)) :
    WE X d env ρ mem (.BoolOp .And (x :: y :: r) pos) K := .mk fun A s hA ok F => by
  show wpAny _ A (boolOp pos .And (eval x env :: eval y env :: evalEach r env)) _ _ s
  rw [boolOp]
  · refine wpAny_bind (h.bind hA ok F fun v pv m1 s1 i1 ok1 F1 st1 h1 => wpAny_bind (wpAny_standAt ?_))
    obtain ⟨q, rfl, hq⟩ := h1
    cases i1
    refine wpAny_bind (wpAny_holding (wpAny_truthy_bool ?_))
    cases q with
    | true => exact wpAny_mono (WE.run hq A s1 hA ok1 F1) (fun _ _ q => q.of_step st1) fun _ _ x => x
    | false => exact wpAny_pure ⟨_, m1, IsP.t (Is.bool _), ok1, st1, hq⟩
  · intro h; cases h

end

section

variable {X : Cx} {d : Nat} {env : Env} {ρ : Vars} {mem : Mem}

/-! several expressions -/
theorem wes_nil {K : List PV → Mem → Prop} (k : K [] mem) : WEs X d env ρ mem [] K :=
  .mk fun A s pos _ ok _ => spliced_none ⟨[], mem, .nil, ok, Step.refl _ _, k⟩
theorem wes_cons {e : Expr} {r : List Expr} {K : List PV → Mem → Prop}
    (h : WE X d env ρ mem e (fun a m1 => WEs X d env ρ m1 r (fun as m2 => K (a :: as) m2)))
    (he : starEach (e :: r) env = (false, eval e env) :: starEach r env := by rfl) : WEs X d env ρ mem (e :: r) K := .mk fun A s pos hA ok F =>
  spliced_more (h.bind hA ok F fun v pv m1 s1 i1 ok1 F1 st1 h1 => wpAny_mono (h1.run A s1 pos hA ok1 F1) (fun vs s2 ⟨pvs, m2, i2, ok2, st2, k2⟩ =>
    ⟨pv :: pvs, m2, .cons (i1.keep (st2.keepNL ok1)) i2, ok2, st1.trans st2, k2⟩) fun _ _ x => x) he

theorem WEs.bind {A : Around} {s : Shared} {es : List Expr} {pos : Pos} {K1 : List PV → Mem → Prop} {Q : List Value → Shared → Prop} (h : WEs X d env ρ mem es K1) (hA : AOk A d) (ok : Ok X mem s.heap) (F : Loc X env ρ s.heap)
    (k : ∀ vs pvs m1 s1, IsPs s1.heap vs pvs → Ok X m1 s1.heap → Loc X env ρ s1.heap → Step mem s m1 s1 → K1 pvs m1 → Q vs s1) :
    wpAny (model X.prog X.w) A (spliced (backTo pos (starEach es env))) Q NoE s :=
  wpAny_mono (h.run A s pos hA ok F) (fun v s1 ⟨pv, m1, h1, h2, h3, h4⟩ => k v pv m1 s1 h1 h2 (F.step ok h3) h3 h4) fun _ _ x => x

/-! new objects -/
theorem Step.push {s : Shared} {mem : Mem} {o : Obj} : Step mem s mem { s with heap := s.heap.push o } :=
  ⟨rfl, fun _ _ _ e => Heap.get?_push_of_some _ e, fun _ h => .inl h⟩
theorem Ok.push {h : Heap} {o : Obj} (ok : Ok X mem h) : Ok X mem (h.push o) :=
  ⟨fun b o' e => Heap.get?_push_of_some _ (ok.base b o' e), fun a l e => let ⟨h1, vs, ⟨n, ho⟩, h3⟩ := ok.lst a l e; ⟨h1, vs, ⟨n, Heap.get?_push_of_some _ ho⟩, Are.mono (fun _ _ t => t.push _) h3⟩⟩
theorem get_size_none (h : Heap) : h.get? h.objs.size = none := by
  cases e : h.get? h.objs.size with
  | none => rfl
  | some o => exact absurd (Heap.lt_size e) (Nat.lt_irrefl _)
theorem Ok.size_free {h : Heap} (ok : Ok X mem h) : mem h.objs.size = none ∧ X.h₀.get? h.objs.size = none := by
  constructor
  · cases e : mem h.objs.size with
    | none => rfl
    | some l =>
      obtain ⟨_, vs, ⟨_, ho⟩, _⟩ := ok.lst _ _ e
      rw [get_size_none] at ho; cases ho
  · cases e : X.h₀.get? h.objs.size with
    | none => rfl
    | some o => have := ok.base _ _ e; rw [get_size_none] at this; cases this

theorem KeepNL.push (h : Heap) (o : Obj) : KeepNL h (h.push o) := fun _ _ e _ => Heap.get?_push_of_some _ e
theorem Is.push {h : Heap} {o : Obj} {v : Value} {t : T} (x : Is h v t) : Is (h.push o) v t := Is.mono (fun _ _ t => t.push _) x
theorem Are.push {h : Heap} {o : Obj} {v : List Value} {t : List T} (x : Are h v t) : Are (h.push o) v t := Are.mono (fun _ _ t => t.push _) x
theorem Are.keep {h h' : Heap} (k : KeepNL h h') {v : List Value} {t : List T} (x : Are h v t) : Are h' v t := Are.mono (fun _ _ t => k.tup t) x

/-- a new tuple -/
theorem wp_newTuple {A : Around} {s : Shared} {vs : List Value} {ts : List T} {Q : Value → Shared → Prop} (ok : Ok X mem s.heap) (h : Are s.heap vs ts) (hsz : vs.length ≤ sizeLine)
    (k : ∀ s1, Is s1.heap (.ref s.heap.objs.size) (.tup ts) → Ok X mem s1.heap → Step mem s mem s1 → Q (.ref s.heap.objs.size) s1) : wpAny (model X.prog X.w) A (newTuple vs) Q NoE s :=
  wpAny_newObj_type (k _ (.tup ⟨0, Heap.get?_push_size _ rfl⟩ h.push) ok.push Step.push) (by show vs.toArray.size ≤ sizeLine; rw [List.size_toArray]; exact hsz)

theorem Ok.newList {h : Heap} {vs : List Value} {ts : List T} (ok : Ok X mem h) (ha : Are h vs ts) : Ok X (upd mem h.objs.size ts) (h.push { cls := .type "list", data := .seq vs.toArray }) := by
  have hf := ok.size_free
  refine ⟨ok.push.base, fun a l e => ?_⟩
  by_cases hx : a = h.objs.size
  · subst hx
    rw [upd_same] at e; cases e
    exact ⟨hf.2, vs, ⟨0, Heap.get?_push_size _ rfl⟩, ha.push⟩
  · rw [upd_ne hx] at e; exact ok.push.lst a l e
theorem wp_newList {A : Around} {s : Shared} {vs : List Value} {ts : List T} {Q : Value → Shared → Prop} (ok : Ok X mem s.heap) (h : Are s.heap vs ts) (hsz : vs.length ≤ sizeLine)
    (k : ∀ a s1, mem a = none → Ok X (upd mem a ts) s1.heap → Step mem s (upd mem a ts) s1 → Q (.ref a) s1) : wpAny (model X.prog X.w) A (newList vs) Q NoE s := by
  have hf := ok.size_free
  refine wpAny_newObj_type (k _ _ hf.1 (ok.newList h) ⟨rfl, fun _ _ _ e => Heap.get?_push_of_some _ e, fun b hb => ?_⟩) (by show vs.toArray.size ≤ sizeLine; rw [List.size_toArray]; exact hsz)
  by_cases hx : b = s.heap.objs.size
  · subst hx; exact .inr (get_size_none _)
  · rw [upd_ne hx] at hb; exact .inl hb

/-- all trees -/
noncomputable def Trees : List PV → Option (List T)
  | [] => some []
  | .t t :: r => (Trees r).map (t :: ·)
  | _ :: _ => none
theorem Trees.are {h : Heap} : ∀ {pvs : List PV} {vs : List Value} {ts : List T}, IsPs h vs pvs → Trees pvs = some ts → Are h vs ts
  | [], _, ts, .nil, e => by cases e; exact .nil
  | .t t :: r, _, ts, .cons hv hs, e => by
    simp only [Trees, Option.map_eq_some_iff] at e
    obtain ⟨us, e1, rfl⟩ := e
    exact .cons hv (Trees.are hs e1)
  | .l _ :: _, _, _, .cons _ _, e => by cases e
  | .ty _ :: _, _, _, .cons _ _, e => by cases e
  | .ob _ :: _, _, _, .cons _ _, e => by cases e
theorem IsPs.length {h : Heap} {vs : List Value} {pvs : List PV} (x : IsPs h vs pvs) : vs.length = pvs.length := by
  induction x with
  | nil => rfl
  | cons _ _ ih => simp [ih]
theorem Trees.length : ∀ {pvs : List PV} {ts : List T}, Trees pvs = some ts → ts.length = pvs.length
  | [], ts, e => by cases e; rfl
  | .t t :: r, ts, e => by
    simp only [Trees, Option.map_eq_some_iff] at e
    obtain ⟨us, e1, rfl⟩ := e
    simp [Trees.length e1]
  | .l _ :: _, _, e => by cases e
  | .ty _ :: _, _, e => by cases e
  | .ob _ :: _, _, e => by cases e

theorem we_tuple {es : List Expr} {n : Nat} {pos : Pos} {K : PV → Mem → Prop}
    (h : WEs X d env ρ mem es (fun pvs m => ∃ ts, Trees pvs = some ts ∧ ts.length ≤ sizeLine ∧ K (.t (.tup ts)) m)) : WE X d env ρ mem (.Tuple es n pos) K := .mk fun A s hA ok F => by
  refine Tuple_ (h.bind hA ok F fun vs pvs m1 s1 i1 ok1 F1 st1 ⟨ts, e1, hsz, k1⟩ => ?_)
  have ha := Trees.are i1 e1
  exact wp_newTuple ok1 ha (by rw [ha.length]; exact hsz) fun s2 i2 ok2 st2 => ⟨_, m1, IsP.t i2, ok2, st1.trans st2, k1⟩
theorem we_list {es : List Expr} {pos : Pos} {K : PV → Mem → Prop}
    (h : WEs X d env ρ mem es (fun pvs m => ∃ ts, Trees pvs = some ts ∧ ts.length ≤ sizeLine ∧ ∀ a, m a = none → K (.l a) (upd m a ts))) : WE X d env ρ mem (.List es pos) K := .mk fun A s hA ok F => by
  refine List_ (h.bind hA ok F fun vs pvs m1 s1 i1 ok1 F1 st1 ⟨ts, e1, hsz, k1⟩ => ?_)
  have ha := Trees.are i1 e1
  exact wp_newList ok1 ha (by rw [ha.length]; exact hsz) fun a s2 hm ok2 st2 => ⟨_, _, IsP.l, ok2, st1.trans st2, k1 a hm⟩

/-! subscripts -/
theorem we_sub {value slice : Expr} {pos : Pos} {K : PV → Mem → Prop}
    (h : WE X d env ρ mem value (fun a m1 => WE X d env ρ m1 slice (fun b m2 => OP X d (fun vs => subscriptTail value slice (vs.getD 0 .none) (vs.getD 1 .none)) [a, b] m2 K))) :
    WE X d env ρ mem (.Subscript value slice pos) K := .mk fun A s hA ok F =>
  Subscript_ (h.bind hA ok F fun v a m1 s1 i1 ok1 F1 st1 h1 => h1.bind hA ok1 F1 fun v2 b m2 s2 i2 ok2 F2 st2 h2 =>
    wpAny_mono (h2.run A s2 [v, v2] hA ok2 (.cons (i1.keep (st2.keepNL ok1)) (.cons i2 .nil))) (fun _ _ p => p.of_step (st1.trans st2)) fun _ _ x => x)

theorem subTail {prog : Program} {w : World} {A : Around} {E : Value → Shared → Prop} {s : Shared} {value slice : Expr} {o i : Value} {Tn id : String} {Q : Value → Shared → Prop} (hT : s.TypeIs o Tn)
    (hl : typeLookup (.type Tn) "__getitem__" = pure (some (.builtin id))) (h : wpAny (model prog w) A (getItem o i) Q E s)
    (hs : subscripted slice false o i = operate [o, i] (getItem o i) ∨ subscripted slice false o i = operate [i, o] (getItem o i)) :
    wpAny (model prog w) A (subscriptTail value slice o i) Q E s := by
  unfold subscriptTail
  refine wpAny_bind ?_
  rw [getitemInPython_of_ne hT.not_modules]
  refine wpAny_bind (wpAny_specialOf hT hl ?_)
  have fin : wpAny (model prog w) A (subscripted slice false o i) (fun r s₃ => wpAny (model prog w) A (letTemporaryGo value o r >>= fun _ => pure r) Q E s₃) E s := by
    rcases hs with hs | hs <;> rw [hs] <;>
    exact wpAny_operating (wpAny_mono h (fun r s₃ h₃ => wpAny_bind (wpAny_letTemporaryGo (wpAny_pure h₃))) fun _ _ x => x)
  first
    | exact wpAny_pure (wpAny_bind fin)
    | exact wpAny_bind (wpAny_pure (wpAny_bind fin))
    | exact wpAny_bind fin


end

section

variable {X : Cx} {d : Nat} {env : Env} {ρ : Vars} {mem : Mem}

theorem KeepNL.typ {h h' : Heap} (x : KeepNL h h') {b : Addr} {o : Obj} (e : h.get? b = some o) (n : o.cls = .type "slice") : h'.get? b = some o := x b o e (by rw [n]; decide)

/-- a slice object -/
noncomputable def IsSl (lo hi : Option Int) (h : Heap) (v : Value) : Prop := ∃ a vl vu, v = .ref a ∧ h.IsSliceOf a vl vu .none ∧ IsPart vl lo ∧ IsPart vu hi
theorem IsSl.ob {h : Heap} {v : Value} {lo hi : Option Int} (x : IsSl lo hi h v) : IsP h v (.ob (IsSl lo hi)) := fun h' k => by
  obtain ⟨a, vl, vu, rfl, ⟨o, ho, hc, hd⟩, p1, p2⟩ := x
  exact ⟨a, vl, vu, rfl, ⟨o, k.typ ho hc, hc, hd⟩, p1, p2⟩

/-- the parts of a slice: none, or an int -/
theorem we_slice_from {e : Expr} {pos : Pos} {K : PV → Mem → Prop} (h : WE X d env ρ mem e (fun a m => ∃ i, a = .t (.int i) ∧ K (.ob (IsSl (some i) none)) m)) :
    WE X d env ρ mem (.Slice (some e) none none pos) K := .mk fun A s hA ok F => by
  refine wpAny_Slice (h.bind hA ok F fun v a m1 s1 i1 ok1 F1 st1 ⟨i, e1, k1⟩ => wpAny_pure (wpAny_pure ?_))
  subst e1
  cases i1
  exact ⟨_, m1, IsSl.ob ⟨_, _, _, rfl, Heap.IsSliceOf.new .., .int _ _, .none⟩, ok1.push, st1.trans Step.push, k1⟩
theorem we_slice_upto {e : Expr} {pos : Pos} {K : PV → Mem → Prop} (h : WE X d env ρ mem e (fun a m => ∃ i, a = .t (.int i) ∧ K (.ob (IsSl none (some i))) m)) :
    WE X d env ρ mem (.Slice none (some e) none pos) K := .mk fun A s hA ok F => by
  refine wpAny_Slice (wpAny_pure (h.bind hA ok F fun v a m1 s1 i1 ok1 F1 st1 ⟨i, e1, k1⟩ => wpAny_pure ?_))
  subst e1
  cases i1
  exact ⟨_, m1, IsSl.ob ⟨_, _, _, rfl, Heap.IsSliceOf.new .., .none, .int _ _⟩, ok1.push, st1.trans Step.push, k1⟩

theorem seqIndex_nat {k : Int} {n : Nat} (h0 : 0 ≤ k) (h1 : k < n) : seqIndex? k n = some k.toNat := by
  unfold seqIndex?
  simp only
  split <;> (try split) <;> simp_all <;> omega

theorem op_sub_tup {value slice : Expr} {ts : List T} {k : Int} {t : T} {K : PV → Mem → Prop} (h0 : 0 ≤ k) (hx : ts[k.toNat]? = some t) (hfit : k < 2 ^ 63) (hk : K (.t t) mem)
    (hs : ∀ o i, subscripted slice false o i = operate [o, i] (getItem o i) ∨ subscripted slice false o i = operate [i, o] (getItem o i) := by intro _ _; first | exact .inl rfl | exact .inr rfl) :
    OP X d (fun vs => subscriptTail value slice (vs.getD 0 .none) (vs.getD 1 .none)) [.t (.tup ts), .t (.int k)] mem K := .mk fun A s vs hA ok hv => by
  obtain _ | @⟨v1, _, _, _, i1, _ | @⟨v2, _, _, _, i2, _ | _⟩⟩ := hv
  cases i1; cases i2
  rename_i a us ht hus u
  obtain ⟨x, hx', hi⟩ := hus.get hx
  have hlt : k.toNat < us.length := (List.getElem?_eq_some_iff.mp hx').1
  refine subTail ht.typeIs slot_tuple_getitem.lookup (getItem_tuple (j := k.toNat) (x := x) ht.is (by omega) hfit ?_ (by simpa using hx') (Post.val0 ok (IsP.t hi) hk)) (hs _ _)
  exact seqIndex_nat h0 (by simp; omega)

theorem op_sub_list {value slice : Expr} {ts : List T} {a : Addr} {k : Int} {t : T} {K : PV → Mem → Prop} (hm : mem a = some ts) (h0 : 0 ≤ k) (hx : ts[k.toNat]? = some t) (hfit : k < 2 ^ 63) (hk : K (.t t) mem)
    (hs : ∀ o i, subscripted slice false o i = operate [o, i] (getItem o i) ∨ subscripted slice false o i = operate [i, o] (getItem o i) := by intro _ _; first | exact .inl rfl | exact .inr rfl) :
    OP X d (fun vs => subscriptTail value slice (vs.getD 0 .none) (vs.getD 1 .none)) [.l a, .t (.int k)] mem K := .mk fun A s vs hA ok hv => by
  obtain _ | @⟨v1, _, _, _, i1, _ | @⟨v2, _, _, _, i2, _ | _⟩⟩ := hv
  cases i1; cases i2
  obtain ⟨_, us, hl, hus⟩ := ok.lst a ts hm
  obtain ⟨x, hx', hi⟩ := hus.get hx
  exact subTail hl.isList.typeIs slot_list_getitem.lookup (getItem_listL hl.isList h0 hfit hx' (Post.val0 ok (IsP.t hi) hk)) (hs _ _)

theorem op_sub_str {value slice : Expr} {x : Str} {k : Int} {c : Nat} {K : PV → Mem → Prop} (h0 : 0 ≤ k) (hx : x.cps[k.toNat]? = some c) (hfit : k < 2 ^ 63) (hk : K (.t (.str ⟨#[c]⟩)) mem)
    (hs : ∀ o i, subscripted slice false o i = operate [o, i] (getItem o i) ∨ subscripted slice false o i = operate [i, o] (getItem o i) := by intro _ _; first | exact .inl rfl | exact .inr rfl) :
    OP X d (fun vs => subscriptTail value slice (vs.getD 0 .none) (vs.getD 1 .none)) [.t (.str x), .t (.int k)] mem K := .mk fun A s vs hA ok hv => by
  obtain _ | @⟨v1, _, _, _, i1, _ | @⟨v2, _, _, _, i2, _ | _⟩⟩ := hv
  cases i1; cases i2
  have hlt : k.toNat < x.cps.size := (Array.getElem?_eq_some_iff.mp hx).1
  refine subTail (typeIs_str _ _ _) slot_str_getitem.lookup (getItem_str (c := c) ?_ ?_ (Post.val ok (IsP.t (Is.str _ _)) hk)) (hs _ _)
  · simp; omega
  · rw [show x.length = x.cps.size from rfl, seqIndex_nat h0 (by omega)]; simpa using hx

theorem Are.slicePick {h : Heap} {vs : List Value} {ts : List T} (x : Are h vs ts) (lo hi : Option Int) : Are h (slicePick vs.toArray lo hi none).toList ((ts.drop (kms_lo lo ts.length)).take (kms_hi hi ts.length - kms_lo lo ts.length)) := by
  rw [kms_pick_eq]
  simp only [kms_pick]
  rw [x.length]
  exact (x.drop _).take _

theorem op_sl_list {value slice : Expr} {ts us : List T} {a : Addr} {lo hi : Option Int} {K : PV → Mem → Prop} (hm : mem a = some ts) (hsz : ts.length ≤ sizeLine)
    (he : (ts.drop (kms_lo lo ts.length)).take (kms_hi hi ts.length - kms_lo lo ts.length) = us) (hk : ∀ b, mem b = none → K (.l b) (upd mem b us))
    (hs : ∀ o i, subscripted slice false o i = operate [o, i] (getItem o i) ∨ subscripted slice false o i = operate [i, o] (getItem o i) := by intro _ _; first | exact .inl rfl | exact .inr rfl) :
    OP X d (fun vs => subscriptTail value slice (vs.getD 0 .none) (vs.getD 1 .none)) [.l a, .ob (IsSl lo hi)] mem K := .mk fun A s vs hA ok hv => by
  obtain _ | @⟨v1, _, _, _, i1, _ | @⟨v2, _, _, _, i2, _ | _⟩⟩ := hv
  cases i1
  obtain ⟨b, vl, vu, rfl, hsl, p1, p2⟩ := i2 _ (KeepNL.refl _)
  obtain ⟨_, ws, hl, hws⟩ := ok.lst a ts hm
  have hp := hws.slicePick lo hi
  rw [he] at hp
  have hf := ok.size_free
  have hsz' : ws.toArray.size ≤ sizeLine := by rw [List.size_toArray, hws.length]; exact hsz
  refine subTail hl.isList.typeIs slot_list_getitem.lookup (wpAny_getItem_list_slice hl.isList hsl p1 p2 .none (by simp) ?_ hsz') (hs _ _)
  have e := ok.newList hp
  rw [Array.toArray_toList] at e
  refine ⟨_, _, IsP.l, e, ⟨rfl, fun _ _ _ e => Heap.get?_push_of_some _ e, fun b hb => ?_⟩, hk _ hf.1⟩
  by_cases hx : b = s.heap.objs.size
  · subst hx; exact .inr (get_size_none _)
  · rw [upd_ne hx] at hb; exact .inl hb

/-! slices of a tuple -/
theorem sliceApplied_gen {prog : Program} {w : World} {A : Around} {E : Value → Shared → Prop} {s : Shared} {sl : Addr} {vl vu : Value} {lo hi : Option Int} {n : Nat} {Q : Int × Int × Nat → Shared → Prop}
    (hs : s.heap.IsSliceOf sl vl vu .none) (p1 : IsPart vl lo) (p2 : IsPart vu hi)
    (h : Q ((Builtin.Slice.sliceAdjust lo hi 1 (n : Int)).1, 1, Builtin.Slice.slicePlaces (Builtin.Slice.sliceAdjust lo hi 1 (n : Int)).1 (Builtin.Slice.sliceAdjust lo hi 1 (n : Int)).2 1) s) :
    wpAny (model prog w) A (Builtin.Slice.sliceApplied (.ref sl) (pure (n : Int))) Q E s := by
  obtain ⟨os, hos, hcs, hds⟩ := id hs
  unfold Builtin.Slice.sliceApplied Builtin.Slice.sliceFields
  refine wpAny_bind (wpAny_bind (wpAny_field hos hds (x := vl) rfl (wpAny_bind (wpAny_field hos hds (x := vu) rfl (wpAny_bind (wpAny_field hos hds (x := .none) rfl (wpAny_pure ?_)))))))
  refine wpAny_bind (slicePart_none ?_)
  show wpAny _ _ (if ((1 : Int) == 0) = true then _ else _) _ _ s
  rw [if_neg (by decide)]
  have part : ∀ {v : Value} {o : Option Int} {Q' : Option Int → Shared → Prop}, IsPart v o → Q' o s → wpAny (model prog w) A (Builtin.Slice.slicePartIndex v) Q' E s := by
    intro v o Q' p hq
    cases p with
    | none => exact slicePart_none hq
    | int i t => exact slicePart_int hq
  refine wpAny_bind (part p1 (wpAny_bind (part p2 (wpAny_bind (wpAny_pure ?_)))))
  exact wpAny_pure h

theorem pick_gen (xs : List Value) (a n : Nat) : ((List.range n).filterMap fun (k : Nat) => xs.toArray[((a : Int) + (k : Int) * 1).toNat]?).toArray = ((xs.drop a).take n).toArray := by
  have e : (fun (k : Nat) => xs.toArray[((a : Int) + (k : Int) * 1).toNat]?) = fun k => xs.toArray[a + k]? := by
    funext k
    have : ((a : Int) + (k : Int) * 1).toNat = a + k := by omega
    rw [this]
  rw [e]
  have := pick_run xs.toArray a n
  rw [List.filterMap_map] at this
  have e2 : ((fun x => xs.toArray[x]?) ∘ fun x => a + x) = fun k => xs.toArray[a + k]? := rfl
  rw [e2] at this
  rw [this]

theorem op_sl_tup {value slice : Expr} {ts us : List T} {lo hi : Option Int} {a n : Nat} {K : PV → Mem → Prop} (hsz : ts.length ≤ sizeLine)
    (e1 : (Builtin.Slice.sliceAdjust lo hi 1 (ts.length : Int)).1 = a) (e2 : Builtin.Slice.slicePlaces (Builtin.Slice.sliceAdjust lo hi 1 (ts.length : Int)).1 (Builtin.Slice.sliceAdjust lo hi 1 (ts.length : Int)).2 1 = n)
    (he : (ts.drop a).take n = us) (hk : K (.t (.tup us)) mem)
    (hs : ∀ o i, subscripted slice false o i = operate [o, i] (getItem o i) ∨ subscripted slice false o i = operate [i, o] (getItem o i) := by intro _ _; first | exact .inl rfl | exact .inr rfl) :
    OP X d (fun vs => subscriptTail value slice (vs.getD 0 .none) (vs.getD 1 .none)) [.t (.tup ts), .ob (IsSl lo hi)] mem K := .mk fun A s vs hA ok hv => by
  obtain _ | @⟨v1, _, _, _, i1, _ | @⟨v2, _, _, _, i2, _ | _⟩⟩ := hv
  cases i1
  rename_i t ws ht hws
  obtain ⟨b, vl, vu, rfl, hsl, p1, p2⟩ := i2 _ (KeepNL.refl _)
  refine subTail ht.typeIs slot_tuple_getitem.lookup ?_ (hs _ _)
  obtain ⟨os, hos, hcs, hds⟩ := id hsl
  have hTs : s.TypeIs (.ref b) "slice" := ⟨os, hos, hcs⟩
  unfold getItem
  try with_reducible refine wpAny_holding ?_
  first | refine wpAny_bind (wpAny_pure ?_) | skip
  refine wpAny_bind (wpAny_sequenceKey ht.typeIs (by decide) ?_)
  refine wpAny_bind (wpAny_callSpecial?_slot (name := Str.ofString "__getitem__") ht.typeIs slot_tuple_getitem
    (wpAny_call_entry slot_tuple_getitem ht.typeIs entry_tuple_getitem ?_ (args_tuple_getitem _ _)))
  show wpAny _ _ (Builtin.Tuple.tupleItemsOf (.ref t) >>= _) _ _ s
  refine wpAny_bind (tupleItemsOf_ ht.is ?_)
  refine wpAny_bind (wpAny_typeOf hTs ?_)
  rw [if_pos (by decide)]
  have hsize : ws.toArray.size = ts.length := by rw [List.size_toArray, hws.length]
  refine wpAny_bind (sliceApplied_gen hsl p1 p2 ?_)
  rw [hsize, e1] 
  rw [e1] at e2
  rw [e2]
  dsimp only
  have hres : Are s.heap ((ws.drop a).take n) us := he ▸ (hws.drop a).take n
  split
  · rename_i hw
    simp only [Bool.and_eq_true, beq_iff_eq] at hw
    have h0 : a = 0 := by omega
    have hn : n = ts.length := by have := hw.2; simpa using this
    have heq : us = ts := by rw [← he, h0, hn]; simp
    subst heq
    unfold Builtin.Tuple.tupleIsExact
    refine wpAny_bind (wpAny_bind (wpAny_typeOf ht.typeIs (wpAny_pure ?_)))
    rw [if_pos (by decide)]
    refine wpAny_bind (wpAny_rule ?_)
    exact wpAny_bind (wpAny_pure (wpAny_pure ⟨_, rfl, wpAny_pure (Post.val0 ok (IsP.t (.tup ht hws)) hk)⟩))
  · rw [pick_gen ws a n]
    have hdrop : sizeOk (.seq ((ws.drop a).take n).toArray) := by
      show ((ws.drop a).take n).toArray.size ≤ sizeLine
      rw [List.size_toArray, List.length_take, List.length_drop]
      rw [List.size_toArray] at hsize
      omega
    have hfin : Post X mem s K (.ref s.heap.objs.size) { s with heap := s.heap.push { cls := .type "tuple", data := .seq ((ws.drop a).take n).toArray } } :=
      ⟨_, mem, IsP.t (.tup ⟨0, Heap.get?_push_size _ rfl⟩ hres.push), ok.push, Step.push, hk⟩
    first
    | exact wpAny_bind (m := Builtin.Tuple.tupleExact _) (wpAny_newObj_type (wpAny_pure ⟨_, rfl, wpAny_pure hfin⟩) hdrop)
    | exact wpAny_bind (m := Builtin.Tuple.tupleExact _) (wpAny_newObj_type (wpAny_bind (wpAny_pure (wpAny_pure ⟨_, rfl, wpAny_pure hfin⟩))) hdrop)
    | exact wpAny_bind (wpAny_bind (m := Builtin.Tuple.tupleExact _) (wpAny_newObj_type (wpAny_pure (wpAny_pure ⟨_, rfl, wpAny_pure hfin⟩)) hdrop))
    | exact wpAny_bind (wpAny_bind (m := Builtin.Tuple.tupleExact _) (wpAny_newObj_type (wpAny_pure ⟨_, rfl, wpAny_pure hfin⟩) hdrop))

/-- t[k:] for a written k, t[:k] -/
theorem op_from_tup {value slice : Expr} {ts : List T} {k : Nat} {K : PV → Mem → Prop} (hsz : ts.length ≤ sizeLine) (hk : K (.t (.tup (ts.drop k))) mem)
    (hs : ∀ o i, subscripted slice false o i = operate [o, i] (getItem o i) ∨ subscripted slice false o i = operate [i, o] (getItem o i) := by intro _ _; first | exact .inl rfl | exact .inr rfl) :
    OP X d (fun vs => subscriptTail value slice (vs.getD 0 .none) (vs.getD 1 .none)) [.t (.tup ts), .ob (IsSl (some (k : Int)) none)] mem K := by
  have e1 : Builtin.Slice.sliceAdjust (some (k : Int)) none 1 (ts.length : Int) = (((min k ts.length : Nat) : Int), (ts.length : Int)) := by
    unfold Builtin.Slice.sliceAdjust
    have h1 : ¬ ((1 : Int) < 0) := by omega
    have h2 : ¬ ((k : Int) < 0) := by omega
    simp only [h1, h2, if_false]
    congr 1
    omega
  refine op_sl_tup (a := min k ts.length) (n := ts.length - k) hsz (by rw [e1]) ?_ ?_ hk hs
  · rw [e1]; unfold Builtin.Slice.slicePlaces
    have h1 : (1 : Int) > 0 := by omega
    simp only [h1, if_true, Int.ediv_one]
    split <;> omega
  · rw [kmk_drop_min, List.take_of_length_le (by simp)]
theorem op_upto_tup {value slice : Expr} {ts : List T} {k : Nat} {K : PV → Mem → Prop} (hsz : ts.length ≤ sizeLine) (hk : K (.t (.tup (ts.take k))) mem)
    (hs : ∀ o i, subscripted slice false o i = operate [o, i] (getItem o i) ∨ subscripted slice false o i = operate [i, o] (getItem o i) := by intro _ _; first | exact .inl rfl | exact .inr rfl) :
    OP X d (fun vs => subscriptTail value slice (vs.getD 0 .none) (vs.getD 1 .none)) [.t (.tup ts), .ob (IsSl none (some (k : Int)))] mem K := by
  have e1 : Builtin.Slice.sliceAdjust none (some (k : Int)) 1 (ts.length : Int) = (0, ((min k ts.length : Nat) : Int)) := by
    unfold Builtin.Slice.sliceAdjust
    have h1 : ¬ ((1 : Int) < 0) := by omega
    have h2 : ¬ ((k : Int) < 0) := by omega
    simp only [h1, h2, if_false]
    congr 1
    omega
  refine op_sl_tup (a := 0) (n := min k ts.length) hsz (by rw [e1]; rfl) ?_ ?_ hk hs
  · rw [e1]; unfold Builtin.Slice.slicePlaces
    have h1 : (1 : Int) > 0 := by omega
    simp only [h1, if_true, Int.ediv_one]
    split <;> omega
  · rw [List.drop_zero, kmk_take_min]

end

section

variable {X : Cx} {d : Nat} {env : Env} {ρ : Vars} {mem : Mem}

noncomputable abbrev bin (op : Operator) : List Value → Sem Value := fun vs => binaryOp op (vs.getD 0 .none) (vs.getD 1 .none)
noncomputable abbrev cmp (op : CmpOp) : List Value → Sem Value := fun vs => compareOp op (vs.getD 0 .none) (vs.getD 1 .none)

theorem OP.two {t : List Value → Sem Value} {a b : PV} {K : PV → Mem → Prop}
    (h : ∀ A s u v, AOk A d → Ok X mem s.heap → IsP s.heap u a → IsP s.heap v b → wpAny (model X.prog X.w) A (t [u, v]) (Post X mem s K) NoE s) : OP X d t [a, b] mem K := .mk fun A s vs hA ok hv => by
  obtain _ | @⟨v1, _, _, _, i1, _ | @⟨v2, _, _, _, i2, _ | _⟩⟩ := hv
  exact h A s v1 v2 hA ok i1 i2
theorem OP.one {t : List Value → Sem Value} {a : PV} {K : PV → Mem → Prop}
    (h : ∀ A s u, AOk A d → Ok X mem s.heap → IsP s.heap u a → wpAny (model X.prog X.w) A (t [u]) (Post X mem s K) NoE s) : OP X d t [a] mem K := .mk fun A s vs hA ok hv => by
  obtain _ | @⟨v1, _, _, _, i1, _ | _⟩ := hv
  exact h A s v1 hA ok i1

theorem AOk.units_lt {A : Around} (h : AOk A d) : A.units < cLine := by
  have := h.units; rw [cLine_is]; omega
theorem AOk.units64 {A : Around} (h : AOk A d) : A.units + 64 < cLine := by
  have := h.units; rw [cLine_is]; omega
theorem AOk.room {A : Around} (h : AOk A d) : A.depth < recursionLimit := by
  have := h.depth; show A.depth < 1000; omega

theorem op_add_int {a b : Int} {K : PV → Mem → Prop} (hk : K (.t (.int (a + b))) mem) : OP X d (bin .Add) [.t (.int a), .t (.int b)] mem K :=
  .two fun A s u v hA ok i1 i2 => by cases i1; cases i2; exact PyProof.Rows.add_int (Post.val ok (IsP.t (Is.int _ _)) hk)
theorem op_sub_int {a b : Int} {K : PV → Mem → Prop} (hk : K (.t (.int (a - b))) mem) : OP X d (bin .Sub) [.t (.int a), .t (.int b)] mem K :=
  .two fun A s u v hA ok i1 i2 => by cases i1; cases i2; exact PyProof.Rows.sub_int (Post.val ok (IsP.t (Is.int _ _)) hk)
theorem op_mul_int {a b : Int} {K : PV → Mem → Prop} (hm : IntMulOk a b) (hk : K (.t (.int (a * b))) mem) : OP X d (bin .Mult) [.t (.int a), .t (.int b)] mem K :=
  .two fun A s u v hA ok i1 i2 => by cases i1; cases i2; exact PyProof.Rows.mul_int (Post.val ok (IsP.t (Is.int _ _)) hk) hm
theorem op_mod_int {a b : Int} {K : PV → Mem → Prop} (hb : b ≠ 0) (hk : K (.t (.int (a.fmod b))) mem) : OP X d (bin .Mod) [.t (.int a), .t (.int b)] mem K :=
  .two fun A s u v hA ok i1 i2 => by cases i1; cases i2; exact PyProof.Rows.mod_int' hb (Post.val ok (IsP.t (Is.int _ _)) hk)
theorem op_fdiv_int {a b : Int} {K : PV → Mem → Prop} (hb : b ≠ 0) (hp : Builtin.divisionGoesByPylong a b = false) (hk : K (.t (.int (a.fdiv b))) mem) : OP X d (bin .FloorDiv) [.t (.int a), .t (.int b)] mem K :=
  .two fun A s u v hA ok i1 i2 => by cases i1; cases i2; exact PyProof.Rows.floordiv_int hb (Post.val ok (IsP.t (Is.int _ _)) hk) (.inl hp)

theorem Post.newList {s : Shared} {K : PV → Mem → Prop} {vs : Array Value} {ts : List T} (ok : Ok X mem s.heap) (h : Are s.heap vs.toList ts) (k : ∀ a, mem a = none → K (.l a) (upd mem a ts)) :
    Post X mem s K (.ref s.heap.objs.size) { s with heap := s.heap.push { cls := .type "list", data := .seq vs } } := by
  have e := ok.newList h
  rw [Array.toArray_toList] at e
  have hf := ok.size_free
  refine ⟨_, _, IsP.l, e, ⟨rfl, fun _ _ _ e => Heap.get?_push_of_some _ e, fun b hb => ?_⟩, k _ hf.1⟩
  by_cases hx : b = s.heap.objs.size
  · subst hx; exact .inr (get_size_none _)
  · rw [upd_ne hx] at hb; exact .inl hb

theorem op_add_list {a b : Addr} {ts us : List T} {K : PV → Mem → Prop} (ha : mem a = some ts) (hb : mem b = some us) (hsz : ts.length + us.length ≤ sizeLine) (hk : ∀ c, mem c = none → K (.l c) (upd mem c (ts ++ us))) :
    OP X d (bin .Add) [.l a, .l b] mem K := .two fun A s u v hA ok i1 i2 => by
  cases i1; cases i2
  obtain ⟨_, vs, ⟨n, ho⟩, h1⟩ := ok.lst a ts ha
  obtain ⟨_, ws, ⟨n2, ho2⟩, h2⟩ := ok.lst b us hb
  refine PySem.P.add_list (n := n) (n2 := n2) ho ho2 (Post.newList ok (by simpa using h1.append h2) hk) ?_
  rw [List.size_toArray, List.size_toArray, h1.length, h2.length]; exact hsz

/-! comparisons -/
theorem op_eq_int {a b : Int} {K : PV → Mem → Prop} (hk : K (.t (.bool (a == b))) mem) : OP X d (cmp .Eq) [.t (.int a), .t (.int b)] mem K :=
  .two fun A s u v hA ok i1 i2 => by cases i1; cases i2; exact PyProof.Rows.eq_int (Post.val0 ok (IsP.t (Is.bool _)) hk)
theorem op_lt_int {a b : Int} {K : PV → Mem → Prop} (hk : K (.t (.bool (decide (a < b)))) mem) : OP X d (cmp .Lt) [.t (.int a), .t (.int b)] mem K :=
  .two fun A s u v hA ok i1 i2 => by cases i1; cases i2; exact PyProof.Rows.lt_int (Post.val0 ok (IsP.t (Is.bool _)) hk)
theorem op_gt_int {a b : Int} {K : PV → Mem → Prop} (hk : K (.t (.bool (decide (b < a)))) mem) : OP X d (cmp .Gt) [.t (.int a), .t (.int b)] mem K :=
  .two fun A s u v hA ok i1 i2 => by cases i1; cases i2; exact PyProof.Rows.gt_int (Post.val0 ok (IsP.t (Is.bool _)) hk)
theorem op_eq_str {a b : Str} {K : PV → Mem → Prop} (hk : K (.t (.bool (a == b))) mem) : OP X d (cmp .Eq) [.t (.str a), .t (.str b)] mem K :=
  .two fun A s u v hA ok i1 i2 => by cases i1; cases i2; exact PyProof.Rows.eq_str (Post.val0 ok (IsP.t (Is.bool _)) hk)
theorem op_ne_str {a b : Str} {K : PV → Mem → Prop} (hk : K (.t (.bool (a != b))) mem) : OP X d (cmp .NotEq) [.t (.str a), .t (.str b)] mem K :=
  .two fun A s u v hA ok i1 i2 => by cases i1; cases i2; exact PyProof.Rows.ne_str (Post.val0 ok (IsP.t (Is.bool _)) hk)
theorem op_ne_bool {a b : Bool} {K : PV → Mem → Prop} (hk : K (.t (.bool (a != b))) mem) : OP X d (cmp .NotEq) [.t (.bool a), .t (.bool b)] mem K :=
  .two fun A s u v hA ok i1 i2 => by cases i1; cases i2; exact PyProof.Rows.ne_bool (Post.val0 ok (IsP.t (Is.bool _)) hk)

noncomputable def T.isNone : T → Bool
  | .none => true
  | _ => false
theorem Is.beq_none {h : Heap} {v : Value} {t : T} (x : Is h v t) : (v == .none) = t.isNone := by
  cases x <;> rfl
theorem op_is_none {t : T} {K : PV → Mem → Prop} (hk : K (.t (.bool t.isNone)) mem) : OP X d (cmp .Is) [.t t, .t .none] mem K :=
  .two fun A s u v hA ok i1 i2 => by
    have e := Is.beq_none i1
    cases i2; refine is_none (Post.val0 ok ?_ hk)
    show IsP s.heap (.bool (u == Value.none)) _
    rw [e]; exact IsP.t (Is.bool _)
theorem op_isnot_none {t : T} {K : PV → Mem → Prop} (hk : K (.t (.bool (!t.isNone))) mem) : OP X d (cmp .IsNot) [.t t, .t .none] mem K :=
  .two fun A s u v hA ok i1 i2 => by
    have e := Is.beq_none i1
    cases i2; refine isNot_none (Post.val0 ok ?_ hk)
    show IsP s.heap (.bool (!(u == Value.none))) _
    rw [e]; exact IsP.t (Is.bool _)

/-- texts -/
theorem Are.strs {h : Heap} : ∀ {xs : List Str} {vs : List Value}, Are h vs (xs.map T.str) → StrsAre vs xs
  | [], _, .nil => .nil
  | x :: xs, _, .cons hv hs => by
    cases hv
    exact .cons _ _ (Are.strs hs)
theorem op_in_tup {x : Str} {xs : List Str} {K : PV → Mem → Prop} (hk : K (.t (.bool (xs.any (· == x)))) mem) : OP X d (cmp .In) [.t (.str x), .t (.tup (xs.map T.str))] mem K :=
  .two fun A s u v hA ok i1 i2 => by
    cases i1; cases i2; rename_i ht hs
    exact in_tuple_strs ht.is (by simpa using Are.strs hs) (Post.val0 ok (IsP.t (Is.bool _)) hk)
theorem op_notin_tup {x : Str} {xs : List Str} {K : PV → Mem → Prop} (hk : K (.t (.bool (!xs.any (· == x)))) mem) : OP X d (cmp .NotIn) [.t (.str x), .t (.tup (xs.map T.str))] mem K :=
  .two fun A s u v hA ok i1 i2 => by
    cases i1; cases i2; rename_i ht hs
    exact notin_tuple_strs ht.is (by simpa using Are.strs hs) (Post.val0 ok (IsP.t (Is.bool _)) hk)

theorem StrsAre.any_eq {x : Str} {vs : List Value} {xs : List Str} (h : StrsAre vs xs) : vs.any (fun v => match v with | .str y _ => y == x | _ => false) = xs.any (· == x) := by
  induction h with
  | nil => rfl
  | cons _ _ _ ih => simp [ih]
theorem op_notin_list {x : Str} {xs : List Str} {a : Addr} {K : PV → Mem → Prop} (ha : mem a = some (xs.map T.str)) (hk : K (.t (.bool (!xs.any (· == x)))) mem) : OP X d (cmp .NotIn) [.t (.str x), .l a] mem K :=
  .two fun A s u v hA ok i1 i2 => by
    cases i1; cases i2
    obtain ⟨_, vs, hl, hvs⟩ := ok.lst a _ ha
    have hs := Are.strs hvs
    refine SeqAt.notIn_listAt (fun v => match v with | .str y _ => y == x | _ => false) hl.isList (fun y hy => ?_) (Post.val0 ok (by rw [List.any_toArray, StrsAre.any_eq hs]; exact IsP.t (Is.bool _)) hk)
    have hy' : y ∈ vs := by simpa using hy
    have : ∀ {vs xs}, StrsAre vs xs → y ∈ vs → ∃ z t, y = .str z t := by
      intro vs xs h
      induction h with
      | nil => intro h; cases h
      | cons z t _ ih =>
        intro h
        rcases List.mem_cons.mp h with rfl | h
        · exact ⟨_, _, rfl⟩
        · exact ih h
    obtain ⟨z, t, rfl⟩ := this hs hy'
    exact SeqAt.EqAt.str_str _ _ _ _

theorem op_eq_tup_nil {ts : List T} {K : PV → Mem → Prop} (hk : K (.t (.bool ts.isEmpty)) mem) : OP X d (cmp .Eq) [.t (.tup ts), .t (.tup [])] mem K :=
  .two fun A s u v hA ok i1 i2 => by
    cases i1; rename_i a vs ht hs
    cases i2; rename_i b ws hb ht2
    cases ht2
    refine SeqAt.eq_tupleAt (e := fun _ => true) ht.is hb.is hA.units_lt (fun j h1 h2 => by simp at h2) (Post.val0 ok ?_ hk)
    have e : ((List.range (min vs.toArray.size (([] : List Value).toArray.size))).all (fun _ => true) && vs.toArray.size == ([] : List Value).toArray.size) = ts.isEmpty := by
      have hl := hs.length
      cases ts with
      | nil => cases vs <;> simp_all
      | cons t r => cases vs <;> simp_all
    rw [e]; exact IsP.t (Is.bool _)

end

section

variable {X : Cx} {d : Nat} {env : Env} {ρ : Vars} {mem : Mem}

theorem strs_getElem {vs : List Value} {xs : List Str} (h : StrsAre vs xs) : ∀ j (h1 : j < vs.length) (h2 : j < xs.length), ∃ t, vs[j] = .str xs[j] t := by
  induction h with
  | nil => intro j h1; simp at h1
  | cons y t _ ih =>
    intro j h1 h2
    cases j with
    | zero => exact ⟨t, rfl⟩
    | succ j => simpa using ih j (by simpa using h1) (by simpa using h2)
theorem strs_len {vs : List Value} {xs : List Str} (h : StrsAre vs xs) : vs.length = xs.length := by
  induction h with
  | nil => rfl
  | cons _ _ _ ih => simp [ih]

theorem all_range_eq (xs ys : List Str) (h : xs.length = ys.length) : (List.range xs.length).all (fun j => xs.getD j Str.empty == ys.getD j Str.empty) = decide (xs = ys) := by
  rw [Bool.eq_iff_iff]
  simp only [List.all_eq_true, List.mem_range, beq_iff_eq, decide_eq_true_eq]
  constructor
  · intro hh
    refine List.ext_getElem h fun j h1 h2 => ?_
    have := hh j h1
    simpa [List.getD_eq_getElem?_getD, List.getElem?_eq_getElem h1, List.getElem?_eq_getElem h2] using this
  · rintro rfl j _; rfl

theorem op_ne_strs {a b : Addr} {xs ys : List Str} {K : PV → Mem → Prop} (ha : mem a = some (xs.map T.str)) (hb : mem b = some (ys.map T.str)) (hk : K (.t (.bool (!decide (xs = ys)))) mem) :
    OP X d (cmp .NotEq) [.l a, .l b] mem K := .two fun A s u v hA ok i1 i2 => by
  cases i1; cases i2
  obtain ⟨_, vs, hl, h1⟩ := ok.lst a _ ha
  obtain ⟨_, ws, hl2, h2⟩ := ok.lst b _ hb
  have s1 := Are.strs h1
  have s2 := Are.strs h2
  have l1 := strs_len s1
  have l2 := strs_len s2
  by_cases hsz : vs.length = ws.length
  · refine SeqAt.RcNeAt.lists hl.isList hl2.isList (by simpa using hsz) hA.units_lt (e := fun j => xs.getD j Str.empty == ys.getD j Str.empty) (fun j h1 h2 => ?_) X.prog X.w _ _ (Post.val0 ok ?_ hk)
    · have j1 : j < vs.length := by simpa using h1
      have j2 : j < ws.length := by simpa using h2
      obtain ⟨t, e1⟩ := strs_getElem s1 j j1 (by omega)
      obtain ⟨t2, e2⟩ := strs_getElem s2 j j2 (by omega)
      have g1 : vs.toArray[j] = .str xs[j] t := by simpa using e1
      have g2 : ws.toArray[j] = .str ys[j] t2 := by simpa using e2
      rw [g1, g2, List.getD_eq_getElem?_getD, List.getD_eq_getElem?_getD, List.getElem?_eq_getElem (by omega), List.getElem?_eq_getElem (by omega)]
      exact SeqAt.EqAt.str_str _ _ _ _
    · rw [show vs.toArray.size = xs.length by simp [l1], all_range_eq xs ys (by omega)]
      exact IsP.t (Is.bool _)
  · refine SeqAt.RcNeAt.lists_lengths hl.isList hl2.isList (by simpa using hsz) hA.units_lt X.prog X.w _ _ (Post.val0 ok ?_ hk)
    have : ¬ xs = ys := fun e => hsz (by rw [l1, l2, e])
    simp only [this, decide_false, Bool.not_false]
    exact IsP.t (Is.bool _)

theorem op_ne_nil {a b : Addr} {ts : List T} {K : PV → Mem → Prop} (ha : mem a = some ts) (hb : mem b = some []) (hk : K (.t (.bool (!ts.isEmpty))) mem) :
    OP X d (cmp .NotEq) [.l a, .l b] mem K := .two fun A s u v hA ok i1 i2 => by
  cases i1; cases i2
  obtain ⟨_, vs, hl, h1⟩ := ok.lst a _ ha
  obtain ⟨_, ws, hl2, h2⟩ := ok.lst b _ hb
  cases h2
  have l1 := h1.length
  cases ts with
  | nil =>
    cases h1
    refine SeqAt.RcNeAt.lists hl.isList hl2.isList rfl hA.units_lt (e := fun j => true) (fun j h1 h2 => by simp at h1) X.prog X.w _ _ (Post.val0 ok (IsP.t (Is.bool _)) hk)
  | cons t r =>
    refine SeqAt.RcNeAt.lists_lengths hl.isList hl2.isList (by cases vs <;> simp_all) hA.units_lt X.prog X.w _ _ (Post.val0 ok (IsP.t (Is.bool _)) hk)
theorem op_eq_nil {a b : Addr} {ts : List T} {K : PV → Mem → Prop} (ha : mem a = some ts) (hb : mem b = some []) (hk : K (.t (.bool (ts.isEmpty))) mem) :
    OP X d (cmp .Eq) [.l a, .l b] mem K := .two fun A s u v hA ok i1 i2 => by
  cases i1; cases i2
  obtain ⟨_, vs, hl, h1⟩ := ok.lst a _ ha
  obtain ⟨_, ws, hl2, h2⟩ := ok.lst b _ hb
  cases h2
  have l1 := h1.length
  cases ts with
  | nil =>
    cases h1
    refine SeqAt.eq_listAt hl.isList hl2.isList rfl hA.units_lt (e := fun j => true) (fun j h1 h2 => by simp at h1) (Post.val0 ok (IsP.t (Is.bool _)) hk)
  | cons t r =>
    refine SeqAt.eq_list_lengthsAt hl.isList hl2.isList (by cases vs <;> simp_all) hA.units_lt (Post.val0 ok (IsP.t (Is.bool _)) hk)

/-! calls -/
noncomputable abbrev bcall (id : String) : List Value → Sem Value := fun vs => call (.builtin id) vs
noncomputable abbrev tcall (id : String) : List Value → Sem Value := fun vs => call (.type id) vs

theorem we_bcall {x : Str} {id : String} {px pos : Pos} {e : Expr} {r : List Expr} {K : PV → Mem → Prop} (hf : Free X x (.builtin id))
    (h : WEs X d env ρ mem (e :: r) (fun pvs m => OP X d (bcall id) pvs m K)) (hk : env.kindOf x = some .globalImplicit := by rfl) (hd : (x == ("__debug__" : Str)) = false := by decide)
    (he : starEach (e :: r) env = (false, eval e env) :: starEach r env := by rfl) (hplain : (backTo pos (starEach r env)).any (·.1) = false := by rfl) :
    WE X d env ρ mem (.Call (.Name x px) (e :: r) [] pos) K := .mk fun A s hA ok F =>
  Call_ (wp_builtin_name hk hf hd ok F (callWith_builtin1 (h.bind hA ok F fun vs pvs m1 s1 i1 ok1 F1 st1 h1 => wpAny_mono (h1.run A s1 vs hA ok1 i1) (fun _ _ p => p.of_step st1) fun _ _ x => x) he hplain))
theorem we_tcall {x : Str} {id : String} {px pos : Pos} {e : Expr} {r : List Expr} {K : PV → Mem → Prop} (hf : Free X x (.type id))
    (h : WEs X d env ρ mem (e :: r) (fun pvs m => OP X d (tcall id) pvs m K)) (hk : env.kindOf x = some .globalImplicit := by rfl) (hd : (x == ("__debug__" : Str)) = false := by decide)
    (he : starEach (e :: r) env = (false, eval e env) :: starEach r env := by rfl) (hplain : (backTo pos (starEach r env)).any (·.1) = false := by rfl) :
    WE X d env ρ mem (.Call (.Name x px) (e :: r) [] pos) K := .mk fun A s hA ok F =>
  Call_ (wp_builtin_name hk hf hd ok F (callWith_type1 (h.bind hA ok F fun vs pvs m1 s1 i1 ok1 F1 st1 h1 => wpAny_mono (h1.run A s1 vs hA ok1 i1) (fun _ _ p => p.of_step st1) fun _ _ x => x) he hplain))


end

section

variable {X : Cx} {d : Nat} {env : Env} {ρ : Vars} {mem : Mem}

theorem size_lt63 {n : Nat} (h : n ≤ sizeLine) : (n : Int) < 2 ^ 63 := by
  rw [sizeLine_eq] at h; omega

theorem op_len_tup {ts : List T} {K : PV → Mem → Prop} (hsz : ts.length ≤ sizeLine) (hk : K (.t (.int ts.length)) mem) : OP X d (bcall "len") [.t (.tup ts)] mem K := .one fun A s u hA ok i1 => by
  cases i1; rename_i a vs ht hs
  have e : vs.toArray.size = ts.length := by simp [hs.length]
  refine PyProof.Rows.len_tuple ht.is (by rw [e]; exact size_lt63 hsz) (Post.val ok ?_ hk)
  rw [e]; exact IsP.t (Is.int _ _)
theorem op_len_list {ts : List T} {a : Addr} {K : PV → Mem → Prop} (ha : mem a = some ts) (hsz : ts.length ≤ sizeLine) (hk : K (.t (.int ts.length)) mem) : OP X d (bcall "len") [.l a] mem K := .one fun A s u hA ok i1 => by
  cases i1
  obtain ⟨_, vs, hl, hs⟩ := ok.lst a _ ha
  have e : vs.toArray.size = ts.length := by simp [hs.length]
  refine PyProof.Rows.len_list hl.isList (by rw [e]; exact size_lt63 hsz) (Post.val ok ?_ hk)
  rw [e]; exact IsP.t (Is.int _ _)
theorem op_len_str {x : Str} {K : PV → Mem → Prop} (hsz : x.length ≤ sizeLine) (hk : K (.t (.int x.length)) mem) : OP X d (bcall "len") [.t (.str x)] mem K := .one fun A s u hA ok i1 => by
  cases i1
  exact PyProof.Rows.len_str (by have := size_lt63 hsz; omega) (Post.val ok (IsP.t (Is.int _ _)) hk)

noncomputable def T.isTup : T → Bool
  | .tup _ => true
  | _ => false
noncomputable def T.isStr : T → Bool
  | .str _ => true
  | _ => false
theorem op_isi_tuple {t : T} {K : PV → Mem → Prop} (hk : K (.t (.bool t.isTup)) mem) : OP X d (bcall "isinstance") [.t t, .ty "tuple"] mem K := .two fun A s u v hA ok i1 i2 => by
  cases i2
  cases i1 with
  | none => exact IsiPair.NoneType_tuple (Post.val ok (IsP.t (Is.bool _)) hk)
  | bool b => exact IsiPair.bool_tuple (Post.val ok (IsP.t (Is.bool _)) hk)
  | int i t => exact IsiPair.int_tuple (Post.val ok (IsP.t (Is.bool _)) hk)
  | str x t => exact IsiPair.str_tuple (Post.val ok (IsP.t (Is.bool _)) hk)
  | tup ht hs => exact IsiPair.isTuple_tuple ht.is (fun _ _ e => e) (Post.val0 ok (IsP.t (Is.bool _)) hk)
theorem op_isi_str {t : T} {K : PV → Mem → Prop} (hk : K (.t (.bool t.isStr)) mem) : OP X d (bcall "isinstance") [.t t, .ty "str"] mem K := .two fun A s u v hA ok i1 i2 => by
  cases i2
  cases i1 with
  | none => exact IsiPair.NoneType_str (Post.val ok (IsP.t (Is.bool _)) hk)
  | bool b => exact IsiPair.bool_str (Post.val ok (IsP.t (Is.bool _)) hk)
  | int i t => exact IsiPair.int_str (Post.val ok (IsP.t (Is.bool _)) hk)
  | str x t => exact IsiPair.str_str (Post.val0 ok (IsP.t (Is.bool _)) hk)
  | tup ht hs => exact IsiPair.isTuple_str ht.is (fun _ _ e => e) (Post.val ok (IsP.t (Is.bool _)) hk)

/-- a range from nought -/
noncomputable def IsRng (n : Int) (h : Heap) (v : Value) : Prop := ∃ r t u w, v = .ref r ∧ IsRange h r 0 n 1 t u w
theorem IsRng.ob {h : Heap} {v : Value} {n : Int} (x : IsRng n h v) : IsP h v (.ob (IsRng n)) := fun h' k => by
  obtain ⟨r, t, u, w, rfl, e⟩ := x
  exact ⟨r, t, u, w, rfl, k _ _ e (show Value.type "range" ≠ Value.type "list" by decide)⟩
theorem op_range {n : Int} {K : PV → Mem → Prop} (hk : K (.ob (IsRng n)) mem) : OP X d (tcall "range") [.t (.int n)] mem K := .one fun A s u hA ok i1 => by
  cases i1
  refine call_range_1 ⟨_, mem, IsRng.ob ⟨_, _, _, _, rfl, IsRange.new ..⟩, ok.push, ⟨rfl, fun _ _ _ e => Heap.get?_push_of_some _ e, fun _ h => .inl h⟩, hk⟩

theorem Ok.keep {h h' : Heap} (ok : Ok X mem h) (k : ∀ b o, h.get? b = some o → h'.get? b = some o) : Ok X mem h' :=
  ⟨fun b o e => k b o (ok.base b o e), fun a l e => let ⟨h1, vs, ⟨n, ho⟩, h3⟩ := ok.lst a l e; ⟨h1, vs, ⟨n, k _ _ ho⟩, h3.keep (KeepNL.of_keep k)⟩⟩

theorem Post.newList' {s : Shared} {h' : Heap} {n : Nat} {K : PV → Mem → Prop} {vs : List Value} {ts : List T} (ok : Ok X mem s.heap) (h : Are s.heap vs ts) (k : ∀ b o, s.heap.get? b = some o → h'.get? b = some o)
    (hD : h'.PlainList s.heap.objs.size vs.toArray) (hk : ∀ a, mem a = none → K (.l a) (upd mem a ts)) : Post X mem s K (.ref s.heap.objs.size) { s with heap := h', toks := n } := by
  have hf := ok.size_free
  refine ⟨_, upd mem s.heap.objs.size ts, IsP.l, ⟨fun b o e => k b o (ok.base b o e), fun a l e => ?_⟩, ⟨rfl, fun _ _ _ e => k _ _ e, fun b hb => ?_⟩, hk _ hf.1⟩
  · by_cases hx : a = s.heap.objs.size
    · subst hx
      rw [upd_same] at e; cases e
      exact ⟨hf.2, vs, hD, h.keep (KeepNL.of_keep k)⟩
    · rw [upd_ne hx] at e; exact (ok.keep k).lst a l e
  · by_cases hx : b = s.heap.objs.size
    · subst hx; exact .inr (get_size_none _)
    · rw [upd_ne hx] at hb; exact .inl hb

theorem op_list_tup {ts : List T} {K : PV → Mem → Prop} (hsz : ts.length ≤ sizeLine) (hk : ∀ a, mem a = none → K (.l a) (upd mem a ts)) : OP X d (tcall "list") [.t (.tup ts)] mem K := .one fun A s u hA ok i1 => by
  cases i1; rename_i a vs ht hs
  obtain ⟨n, ho⟩ := ht
  exact call_list_seq (hsz := by rw [List.size_toArray, hs.length]; exact hsz) a (.inr rfl) ho rfl rfl fun h' c' hk' hD => Post.newList' ok hs hk' ⟨c', hD⟩ hk

theorem op_tuple_list {ts : List T} {a : Addr} {K : PV → Mem → Prop} (ha : mem a = some ts) (hsz : ts.length ≤ sizeLine) (hk : K (.t (.tup ts)) mem) : OP X d (tcall "tuple") [.l a] mem K := .one fun A s u hA ok i1 => by
  cases i1
  obtain ⟨_, vs, hl, hs⟩ := ok.lst a _ ha
  refine call_tuple_list hl.isList (fun h' hk' => ?_) (by rw [List.size_toArray, hs.length]; exact hsz)
  exact ⟨_, mem, IsP.t (.tup ⟨0, Heap.get?_push_size _ rfl⟩ (hs.keep ((KeepNL.of_keep hk').trans (KeepNL.push _ _)))), (ok.keep hk').push, ⟨rfl, fun _ _ _ e => Heap.get?_push_of_some _ (hk' _ _ e), fun _ h => .inl h⟩, hk⟩

/-! a list of the call's turned -/
theorem Ok.turn {h h' : Heap} {a : Addr} {vs : List Value} {ts us : List T} (ok : Ok X mem h) (ha : mem a = some us) (hs : Heap.SameBut a h h') (hl : h'.PlainList a vs.toArray) (hv : Are h vs ts) : Ok X (upd mem a ts) h' ∧ KeepNL h h' := by
  obtain ⟨h0, ws, ⟨n, ho⟩, _⟩ := ok.lst a us ha
  have kn : KeepNL h h' := fun b o e hn => hs.extBut b o (by rintro rfl; rw [ho] at e; cases e; exact hn rfl) e
  refine ⟨⟨fun b o e => hs.extBut b o (by rintro rfl; rw [h0] at e; cases e) (ok.base b o e), fun b l e => ?_⟩, kn⟩
  by_cases hx : b = a
  · subst hx; rw [upd_same] at e; cases e
    exact ⟨h0, vs, hl, hv.keep kn⟩
  · rw [upd_ne hx] at e
    obtain ⟨h1, xs, hl1, hx1⟩ := ok.lst b l e
    exact ⟨h1, xs, hl1.extBut hs.extBut hx, hx1.keep kn⟩
theorem Step.turn {s : Shared} {h' : Heap} {n : Nat} {a : Addr} {ts us : List T} (ha : mem a = some us) (hs : Heap.SameBut a s.heap h') : Step mem s (upd mem a ts) { s with heap := h', toks := n } :=
  ⟨rfl, fun b o hb e => hs.extBut b o (by rintro rfl; rw [ha] at hb; cases hb) e, fun b hb => by
    by_cases hx : b = a
    · subst hx; exact .inl (by rw [ha]; simp)
    · rw [upd_ne hx] at hb; exact .inl hb⟩

theorem op_append {ts : List T} {t : T} {a : Addr} {K : PV → Mem → Prop} (ha : mem a = some ts) (hsz : ts.length ≤ sizeLine) (hk : K (.t .none) (upd mem a (ts ++ [t]))) : OP X d (bcall "list.append") [.l a, .t t] mem K := .two fun A s u v hA ok i1 i2 => by
  cases i1
  obtain ⟨_, vs, hl, hs⟩ := ok.lst a _ ha
  refine wpAny_list_append_plain hl (fun h' hl' hs' => ?_) (by rw [List.size_toArray, hs.length]; exact hsz)
  have hv : Are s.heap (vs ++ [v]) (ts ++ [t]) := hs.append (.cons i2 .nil)
  obtain ⟨ok', _⟩ := ok.turn ha hs' (vs := vs ++ [v]) (by simpa using hl') hv
  exact ⟨_, _, IsP.t Is.none, ok', Step.turn ha hs', hk⟩

theorem plain_update {h : Heap} {a : Addr} {n : Nat} {xs ys : Array Value} {f : Array Value → Array Value} (ho : h.get? a = some { cls := .type "list", data := .seq xs n }) (e : f xs = ys) : (h.update a (Obj.mapSeq f)).PlainList a ys := by
  have e1 := Heap.get?_update_self (Obj.mapSeq f) ho (by simp [Obj.mapSeq, Obj.isFreed])
  refine ⟨if ys.size == xs.size then n else n + 1, e1.trans ?_⟩
  simp only [Obj.mapSeq, e]

theorem op_extend_list {ts us : List T} {a b : Addr} {K : PV → Mem → Prop} (ha : mem a = some ts) (hb : mem b = some us) (hsz : ts.length + us.length ≤ sizeLine) (hk : K (.t .none) (upd mem a (ts ++ us))) : OP X d (bcall "list.extend") [.l a, .l b] mem K := .two fun A s u v hA ok i1 i2 => by
  cases i1; cases i2
  obtain ⟨_, vs, ⟨n, ho⟩, hs⟩ := ok.lst a _ ha
  obtain ⟨_, ws, ⟨n2, ho2⟩, hs2⟩ := ok.lst b _ hb
  have hdoor : ¬(!vs.toArray.isEmpty && Builtin.List.listTooLong (vs.toArray.size + ws.toArray.size)) = true := by
    have e : Builtin.List.listTooLong (vs.toArray.size + ws.toArray.size) = false := by
      rw [List.size_toArray, List.size_toArray, hs.length, hs2.length]
      unfold Builtin.List.listTooLong
      rw [decide_eq_false_iff_not]
      have := hsz
      have h2 := sizeLine_eq
      omega
    rw [e]; simp
  refine call_meets F.slot_list_extend ⟨_, ho, rfl⟩ F.entry_list_extend (F.args_list_extend_2 _ _) (AutoSeq1.list_extend_list_list_0 a vs.toArray n b ws.toArray n2 hdoor (by rw [List.size_toArray, hs.length]; omega) (by rw [List.size_toArray, List.size_toArray, hs.length, hs2.length]; omega)) ⟨ho, ho2, ?_⟩
  have hs' : Heap.SameBut a s.heap (s.heap.update a (Obj.mapSeq fun x => x ++ ws.toArray)) := Heap.SameBut.update ..
  obtain ⟨ok', _⟩ := ok.turn ha hs' (vs := vs ++ ws) (plain_update ho (by simp)) (hs.append hs2)
  exact ⟨_, _, IsP.t Is.none, ok', Step.turn ha hs', hk⟩
theorem op_extend_tup {ts us : List T} {a : Addr} {K : PV → Mem → Prop} (ha : mem a = some ts) (hsz : ts.length + us.length ≤ sizeLine) (hk : K (.t .none) (upd mem a (ts ++ us))) : OP X d (bcall "list.extend") [.l a, .t (.tup us)] mem K := .two fun A s u v hA ok i1 i2 => by
  cases i1; cases i2; rename_i b ws ht hs2
  obtain ⟨_, vs, ⟨n, ho⟩, hs⟩ := ok.lst a _ ha
  obtain ⟨n2, ho2⟩ := ht
  have hdoor : ¬(!vs.toArray.isEmpty && Builtin.List.listTooLong (vs.toArray.size + ws.toArray.size)) = true := by
    have e : Builtin.List.listTooLong (vs.toArray.size + ws.toArray.size) = false := by
      rw [List.size_toArray, List.size_toArray, hs.length, hs2.length]
      unfold Builtin.List.listTooLong
      rw [decide_eq_false_iff_not]
      have := hsz
      have h2 := sizeLine_eq
      omega
    rw [e]; simp
  refine call_meets F.slot_list_extend ⟨_, ho, rfl⟩ F.entry_list_extend (F.args_list_extend_2 _ _) (AutoSeq1.list_extend_list_tuple_0 a vs.toArray n b ws.toArray n2 hdoor (by rw [List.size_toArray, hs.length]; omega) (by rw [List.size_toArray, List.size_toArray, hs.length, hs2.length]; omega)) ⟨ho, ho2, ?_⟩
  have hs' : Heap.SameBut a s.heap (s.heap.update a (Obj.mapSeq fun x => x ++ ws.toArray)) := Heap.SameBut.update ..
  obtain ⟨ok', _⟩ := ok.turn ha hs' (vs := vs ++ ws) (plain_update ho (by simp)) (hs.append hs2)
  exact ⟨_, _, IsP.t Is.none, ok', Step.turn ha hs', hk⟩

theorem op_pop {ts : List T} {t : T} {a : Addr} {K : PV → Mem → Prop} (ha : mem a = some (ts ++ [t])) (hsz : ts.length < sizeLine) (hk : K (.t t) (upd mem a ts)) : OP X d (bcall "list.pop") [.l a] mem K := .one fun A s u hA ok i1 => by
  cases i1
  obtain ⟨_, vs, ⟨n, ho⟩, hs⟩ := ok.lst a _ ha
  have hlen := hs.length
  simp only [List.length_append, List.length_cons, List.length_nil] at hlen
  obtain ⟨x, hx, hi⟩ := hs.get (i := ts.length) (t := t) (by simp)
  have hx' : vs.toArray[vs.toArray.size - 1]? = some x := by rw [List.size_toArray, hlen]; simpa using hx
  refine call_meets F.slot_list_pop ⟨_, ho, rfl⟩ F.entry_list_pop (F.args_list_pop_1 _) (MeetsSeq.list_pop_last a vs.toArray n x hx' (by rw [List.size_toArray, hlen]; omega)) ⟨ho, ?_⟩
  have hs' : Heap.SameBut a s.heap (s.heap.update a (Obj.mapSeq fun xs => xs.eraseIdxIfInBounds (vs.toArray.size - 1))) := Heap.SameBut.update ..
  have hv : Are s.heap (vs.take ts.length) ts := by have := hs.take ts.length; simpa using this
  have he : vs.toArray.eraseIdxIfInBounds (vs.toArray.size - 1) = (vs.take ts.length).toArray := by
    have hlen' : vs.length = ts.length + 1 := by omega
    have e2 : vs.toArray.size - 1 = ts.length := by rw [List.size_toArray, hlen']; omega
    rw [e2]
    have hlt : ts.length < vs.toArray.size := by rw [List.size_toArray, hlen']; omega
    simp only [Array.eraseIdxIfInBounds, dif_pos hlt]
    apply Array.toList_inj.mp
    rw [Array.toList_eraseIdx]
    simp only [List.toList_toArray]
    rw [List.eraseIdx_eq_take_drop_succ, List.drop_of_length_le (by omega), List.append_nil]
  obtain ⟨ok', kn⟩ := ok.turn ha hs' (vs := vs.take ts.length) (plain_update ho he) hv
  exact ⟨_, _, IsP.t (Is.mono (fun _ _ p => kn.tup p) hi), ok', Step.turn ha hs', hk⟩

end

section

variable {X : Cx} {d : Nat} {env : Env} {ρ : Vars} {mem : Mem}

/-- a method of a list, with one argument | none -/
theorem we_meth1 {o e : Expr} {name : Str} {id : String} {apos pos : Pos} {pl : Sem Bool} {K : PV → Mem → Prop} (slot : Slot "list" name id) (hty : typeOf (.builtin id) = pure (.type "method_descriptor"))
    (h : WE X d env ρ mem o (fun a m1 => ∃ l ts, a = .l l ∧ m1 l = some ts ∧ WEs X d env ρ m1 [e] (fun pvs m2 => OP X d (bcall id) (.l l :: pvs) m2 K)))
    (he : starEach [e] env = [(false, eval e env)] := by rfl)
    (hc : eval (.Call (.Attribute o name apos) [e] [] pos) env = (do
      let ov ← eval o env
      standAt apos.atName
      let (f, first) ← holding [ov] (getMethod ov name pl)
      callWith pos f first (backTo pos (starEach [e] env)) []) := by rfl) :
    WE X d env ρ mem (.Call (.Attribute o name apos) [e] [] pos) K := .mk fun A s hA ok F => by
  refine MethodCall_ (h.bind hA ok F fun v a m1 s1 i1 ok1 F1 st1 ⟨l, ts, e1, hm, h1⟩ => ?_) hc
  subst e1
  cases i1
  obtain ⟨_, vs, ⟨n, ho⟩, _⟩ := ok1.lst l ts hm
  refine getMethod_builtin (T := "list") ⟨_, ho, rfl⟩ PySem.F.plainAttrs_list slot hty (fun a ea => by cases ea; exact ⟨_, ho, rfl⟩) ?_
  dsimp only
  refine callWith_builtin (by rw [he]; rfl) ?_
  rw [he]
  refine evalArgs_plain ?_
  have := h1.bind (pos := pos) (Q := fun vs s' => wpAny (model X.prog X.w) A (call (.builtin id) ([.ref l] ++ vs)) (Post X mem s K) NoE s') hA ok1 F1 (fun vs pvs m2 s2 i2 ok2 F2 st2 h2 =>
    wpAny_mono (h2.run A s2 (.ref l :: vs) hA ok2 (.cons IsP.l i2)) (fun _ _ p => p.of_step (st1.trans st2)) fun _ _ x => x)
  rw [he] at this
  exact this

theorem we_meth0 {o : Expr} {name : Str} {id : String} {apos pos : Pos} {pl : Sem Bool} {K : PV → Mem → Prop} (slot : Slot "list" name id) (hty : typeOf (.builtin id) = pure (.type "method_descriptor"))
    (h : WE X d env ρ mem o (fun a m1 => ∃ l ts, a = .l l ∧ m1 l = some ts ∧ OP X d (bcall id) [.l l] m1 K))
    (hc : eval (.Call (.Attribute o name apos) [] [] pos) env = (do
      let ov ← eval o env
      standAt apos.atName
      let (f, first) ← holding [ov] (getMethod ov name pl)
      callWith pos f first (backTo pos (starEach [] env)) []) := by rfl) :
    WE X d env ρ mem (.Call (.Attribute o name apos) [] [] pos) K := .mk fun A s hA ok F => by
  refine MethodCall_ (h.bind hA ok F fun v a m1 s1 i1 ok1 F1 st1 ⟨l, ts, e1, hm, h1⟩ => ?_) hc
  subst e1
  cases i1
  obtain ⟨_, vs, ⟨n, ho⟩, _⟩ := ok1.lst l ts hm
  refine getMethod_builtin (T := "list") ⟨_, ho, rfl⟩ PySem.F.plainAttrs_list slot hty (fun a ea => by cases ea; exact ⟨_, ho, rfl⟩) ?_
  dsimp only
  refine callWith_builtin rfl (evalArgs_empty ?_)
  exact wpAny_mono (h1.run A s1 [.ref l] hA ok1 (.cons IsP.l .nil)) (fun _ _ p => p.of_step st1) fun _ _ x => x

/-! the text's own defs -/
/-- a call of the def at f -/
noncomputable abbrev fcall (f : Addr) : List Value → Sem Value := fun vs => call (.ref f) vs

/-- the def of that name -/
structure Def (X : Cx) (x : Str) (f : Addr) (params : Arguments) (body : List Stmt) (scope : Scope) : Prop where
  name : X.mg x = some (.ref f)
  at_ : ∃ o pm code doc, X.h₀.get? f = some o ∧ o.data = .func (docDef x params body scope pm code doc) ∧ X.h₀.CodeRec code x

theorem we_call {x : Str} {f : Addr} {params : Arguments} {body : List Stmt} {scope : Scope} {px pos : Pos} {e : Expr} {r : List Expr} {K : PV → Mem → Prop} (D : Def X x f params body scope)
    (h : WEs X d env ρ mem (e :: r) (fun pvs m => OP X d (fcall f) pvs m K)) (hk : env.kindOf x = some .globalImplicit := by rfl) (hd : (x == ("__debug__" : Str)) = false := by decide)
    (he : starEach (e :: r) env = (false, eval e env) :: starEach r env := by rfl) :
    WE X d env ρ mem (.Call (.Name x px) (e :: r) [] pos) K := .mk fun A s hA ok F => by
  obtain ⟨o, pm, code, doc, ho, hd', hcr⟩ := D.at_
  refine Call_ (wp_global_name hk D.name hd ok F (callWith_def hd' (h.bind hA ok F fun vs pvs m1 s1 i1 ok1 F1 st1 h1 => ⟨ok1.base _ _ ho, wpAny_mono (h1.run A s1 vs hA ok1 i1) (fun _ _ p => p.of_step st1) fun _ _ x => x⟩) he))
theorem we_call0 {x : Str} {f : Addr} {params : Arguments} {body : List Stmt} {scope : Scope} {px pos : Pos} {K : PV → Mem → Prop} (D : Def X x f params body scope)
    (h : OP X d (fcall f) [] mem K) (hk : env.kindOf x = some .globalImplicit := by rfl) (hd : (x == ("__debug__" : Str)) = false := by decide) :
    WE X d env ρ mem (.Call (.Name x px) [] [] pos) K := .mk fun A s hA ok F => by
  obtain ⟨o, pm, code, doc, ho, hd', hcr⟩ := D.at_
  refine Call_ (wp_global_name hk D.name hd ok F ?_)
  refine callWith_function (o := o) (fd := docDef x params body scope pm code doc) ?_
  refine evalArgs_empty ⟨⟨ok.base _ _ ho, hd'⟩, ?_⟩
  exact h.run A s [] hA ok .nil

/-! statements -/
inductive FV where
  | next | brk | cont
  | ret (pv : PV)
noncomputable def FlowIs (h : Heap) : Flow → FV → Prop
  | .next, .next => True
  | .brk, .brk => True
  | .cont, .cont => True
  | .ret v, .ret pv => IsP h v pv
  | _, _ => False

structure StepG (own : Addr → Prop) (mem : Mem) (s : Shared) (mem' : Mem) (s' : Shared) : Prop where
  same : s' = { s with heap := s'.heap, toks := s'.toks }
  ext : ∀ b o, ¬ own b → mem b = none → s.heap.get? b = some o → s'.heap.get? b = some o
  new : ∀ b, mem' b ≠ none → mem b ≠ none ∨ s.heap.get? b = none
noncomputable abbrev StepX (env : Env) := StepG (Own env)
theorem Step.toX {own : Addr → Prop} {m m1 : Mem} {s s1 : Shared} (x : Step m s m1 s1) : StepG own m s m1 s1 := ⟨x.same, fun b o _ => x.ext b o, x.new⟩
theorem StepG.weaken {own : Addr → Prop} {m m1 m2 : Mem} {s s1 : Shared} (x : StepG own m s m1 s1) (h : Le m2 m1) : StepG own m s m2 s1 :=
  ⟨x.same, x.ext, fun b hb => x.new b (by
    cases e : m2 b with
    | none => exact absurd e hb
    | some l => rw [h _ _ e]; simp)⟩
theorem StepG.more {own own' : Addr → Prop} {m m1 : Mem} {s s1 : Shared} (x : StepG own m s m1 s1) (h : ∀ b, own b → own' b) : StepG own' m s m1 s1 := ⟨x.same, fun b o hn => x.ext b o fun hb => hn (h b hb), x.new⟩

theorem StepG.trans {own : Addr → Prop} {m m1 m2 : Mem} {s s1 s2 : Shared} (hm : ∀ b, own b → m1 b = none) (x : StepG own m s m1 s1) (y : StepG own m1 s1 m2 s2) (hm2 : ∀ b, own b → m2 b = none) : StepG own m s m2 s2 := by
  have hm' : ∀ b o, m b = none → s.heap.get? b = some o → m1 b = none := fun b o hb e => by
    cases h : m1 b with
    | none => rfl
    | some l =>
      rcases x.new b (by rw [h]; simp) with h1 | h1
      · exact absurd hb h1
      · rw [h1] at e; cases e
  refine ⟨?_, fun b o hn hb e => y.ext b o hn (hm' b o hb e) (x.ext b o hn hb e), fun b hb => ?_⟩
  · rw [y.same, x.same]
  · rcases y.new b hb with h | h
    · exact x.new b h
    · cases hb' : m b with
      | some l => exact .inl (by simp)
      | none =>
        refine .inr ?_
        cases e : s.heap.get? b with
        | none => rfl
        | some o =>
          by_cases hn : own b
          · exact absurd (hm2 b hn) hb
          · rw [x.ext b o hn hb' e] at h; cases h

noncomputable def PostS (X : Cx) (env : Env) (mem : Mem) (s : Shared) (K : FV → Vars → Mem → Prop) (fl : Flow) (s' : Shared) : Prop :=
  ∃ fv ρ' mem', FlowIs s'.heap fl fv ∧ Ok X mem' s'.heap ∧ Loc X env ρ' s'.heap ∧ StepX env mem s mem' s' ∧ K fv ρ' mem'
structure WS (X : Cx) (d : Nat) (env : Env) (ρ : Vars) (mem : Mem) (st : Stmt) (K : FV → Vars → Mem → Prop) : Prop where
  run : ∀ A s, AOk A d → Ok X mem s.heap → Loc X env ρ s.heap → wpAny (model X.prog X.w) A (exec st env) (PostS X env mem s K) NoE s
structure WSs (X : Cx) (d : Nat) (env : Env) (ρ : Vars) (mem : Mem) (st : List Stmt) (K : FV → Vars → Mem → Prop) : Prop where
  run : ∀ A s, AOk A d → Ok X mem s.heap → Loc X env ρ s.heap → wpAny (model X.prog X.w) A (execs st env) (PostS X env mem s K) NoE s

theorem Loc.mem_own {ρ : Vars} {h : Heap} (F : Loc X env ρ h) (ok : Ok X mem h) : ∀ b, Own env b → mem b = none := by
  rintro b (rfl | ⟨_, n, hn⟩)
  · obtain ⟨m, ⟨o, es, ep, ho, hd, _⟩, _⟩ := F.vars
    exact ok.notSeq ho (by rw [hd]; intro _ _ h; cases h)
  · obtain ⟨_, ov, o, ho, hd⟩ := F.cown n b hn
    exact ok.notSeq ho (by rw [hd]; intro _ _ h; cases h)

theorem PostS.of_step {m m1 : Mem} {s s1 s2 : Shared} {ρ1 : Vars} {K : FV → Vars → Mem → Prop} {fl : Flow} (x : StepX env m s m1 s1) (ok1 : Ok X m1 s1.heap) (F1 : Loc X env ρ1 s1.heap) (y : PostS X env m1 s1 K fl s2) : PostS X env m s K fl s2 :=
  let ⟨fv, ρ', m2, h1, h2, h3, h4, h5⟩ := y; ⟨fv, ρ', m2, h1, h2, h3, StepG.trans (F1.mem_own ok1) x h4 (h3.mem_own h2), h5⟩

theorem wss_nil {K : FV → Vars → Mem → Prop} (k : K .next ρ mem) : WSs X d env ρ mem [] K :=
  .mk fun A s hA ok F => wpAny_execs_nil ⟨.next, ρ, mem, trivial, ok, F, (Step.refl _ _).toX, k⟩
theorem wss_cons {st : Stmt} {r : List Stmt} {K : FV → Vars → Mem → Prop} (h : WS X d env ρ mem st (fun fv ρ1 m1 => match fv with | .next => WSs X d env ρ1 m1 r K | f => K f ρ1 m1)) : WSs X d env ρ mem (st :: r) K := .mk fun A s hA ok F => by
  refine wpAny_execs_cons (wpAny_mono (h.run A s hA ok F) (fun fl s1 p => ?_) fun _ _ x => x)
  obtain ⟨fv, ρ1, m1, hf, ok1, F1, st1, h1⟩ := p
  cases fl <;> cases fv <;> try exact hf.elim
  · exact wpAny_mono (h1.run A s1 hA ok1 F1) (fun _ _ q => q.of_step st1 ok1 F1) fun _ _ x => x
  · exact ⟨_, ρ1, m1, hf, ok1, F1, st1, h1⟩
  · exact ⟨_, ρ1, m1, hf, ok1, F1, st1, h1⟩
  · exact ⟨_, ρ1, m1, hf, ok1, F1, st1, h1⟩

theorem ws_return {e : Expr} {pos : Pos} {K : FV → Vars → Mem → Prop} (h : WE X d env ρ mem e (fun pv m => K (.ret pv) ρ m)) : WS X d env ρ mem (.Return (some e) pos) K := .mk fun A s hA ok F =>
  wpAny_Return_some (h.bind hA ok F fun v pv m1 s1 i1 ok1 F1 st1 k1 => ⟨.ret pv, ρ, m1, i1, ok1, F1, st1.toX, k1⟩)
theorem ws_if {test : Expr} {body orelse : List Stmt} {pos : Pos} {K : FV → Vars → Mem → Prop} (h : WT X d env ρ mem test (fun b m => if b then WSs X d env ρ m body K else WSs X d env ρ m orelse K)) :
    WS X d env ρ mem (.If test body orelse pos) K := .mk fun A s hA ok F => by
  refine wpAny_If (wpAny_mono (h.run A s hA ok F) (fun b s1 p => ?_) fun _ _ x => x)
  obtain ⟨m1, ok1, st1, h1⟩ := p
  have F1 := F.step ok st1
  cases b with
  | true => exact wpAny_mono (WSs.run h1 A s1 hA ok1 F1) (fun _ _ q => q.of_step st1.toX ok1 F1) fun _ _ x => x
  | false => exact wpAny_mono (WSs.run h1 A s1 hA ok1 F1) (fun _ _ q => q.of_step st1.toX ok1 F1) fun _ _ x => x
theorem ws_continue {pos : Pos} {K : FV → Vars → Mem → Prop} (k : K .cont ρ mem) : WS X d env ρ mem (.Continue pos) K := .mk fun A s hA ok F =>
  wpAny_Continue ⟨.cont, ρ, mem, trivial, ok, F, (Step.refl _ _).toX, k⟩
/-- a call for its effect -/
theorem ws_expr {e : Expr} {pos : Pos} {K : FV → Vars → Mem → Prop} (h : WE X d env ρ mem e (fun pv m => pv = .t .none ∧ K .next ρ m)) (hi : interactive env = false := by rfl) (hs : swapsWith e none pos.line env = pure false := by rfl) :
    WS X d env ρ mem (.Expr e pos) K := .mk fun A s hA ok F =>
  wpAny_Expr (h.bind hA ok F fun v pv m1 s1 i1 ok1 F1 st1 ⟨e1, k1⟩ => by subst e1; cases i1; exact ⟨.next, ρ, m1, trivial, ok1, F1, st1.toX, k1⟩) hi hs

theorem tup_other {h : Heap} {a b : Addr} {vs : Array Value} {es : Array DictEntry} {ep : Nat} {o : Obj} (ht : PTup h a vs) (ho : h.get? b = some o) (hd : o.data = .dict es ep) : a ≠ b := by
  rintro rfl
  obtain ⟨n, e⟩ := ht
  rw [e] at ho; cases ho; cases hd
theorem tup_other' {h : Heap} {a b : Addr} {vs : Array Value} {ov : Option Value} (ht : PTup h a vs) (ho : h.IsCell b ov) : a ≠ b := by
  rintro rfl
  obtain ⟨n, e⟩ := ht
  obtain ⟨o, ho, hd⟩ := ho
  rw [e] at ho; cases ho; cases hd

/-- the one object b, no list of the call's and none of the base's, is turned -/
theorem Ok.own {h h' : Heap} {b : Addr} (ok : Ok X mem h) (hb : mem b = none) (hb0 : X.h₀.get? b = none) (hs : Heap.SameBut b h h') (kt : ∀ a vs, PTup h a vs → a ≠ b) : Ok X mem h' :=
  ⟨fun c o e => hs.extBut c o (by rintro rfl; rw [hb0] at e; cases e) (ok.base c o e), fun a l e =>
    let ⟨h1, vs, hl, hv⟩ := ok.lst a l e
    ⟨h1, vs, hl.extBut hs.extBut (by rintro rfl; rw [hb] at e; cases e), Are.mono (fun a vs ⟨n, p⟩ => ⟨n, hs.extBut _ _ (kt a vs ⟨n, p⟩) p⟩) hv⟩⟩
theorem StepX.own {s : Shared} {h' : Heap} {n : Nat} {b : Addr} (hb : Own env b) (hs : Heap.SameBut b s.heap h') : StepX env mem s mem { s with heap := h', toks := n } :=
  ⟨rfl, fun c o hn _ e => hs.extBut c o (by rintro rfl; exact hn hb) e, fun _ h => .inl h⟩

noncomputable def Stores (env : Env) (x : Str) : Prop := env.kindOf x = some .local ∨ (env.kindOf x = some .cell ∧ env.func.isSome = true ∧ ∃ c, env.cells.lookup x = some c)

theorem wp_store {A : Around} {s : Shared} {x : Str} {v : Value} {pv : PV} {Q : Unit → Shared → Prop} (hx : Stores env x) (hp : pv.plain) (hv : IsP s.heap v pv) (ok : Ok X mem s.heap) (F : Loc X env ρ s.heap)
    (h : ∀ s', Ok X mem s'.heap → Loc X env ((x, pv) :: ρ) s'.heap → StepX env mem s mem s' → (∀ u pu, PV.plain pu → IsP s.heap u pu → IsP s'.heap u pu) → Q () s') : wpAny (model X.prog X.w) A (storeName env x v) Q NoE s := by
  obtain ⟨m, hn, hvars⟩ := F.vars
  rcases hx with hl | ⟨hl, hfu, c, hc⟩
  · refine wpAny_storeName_local hl hn (fun h' hn' hs' => ?_) (by rw [F.kind]; rfl)
    have hn2 := hn
    obtain ⟨o, es, ep, ho, hd, _⟩ := hn2
    have hL : mem env.locals = none := ok.notSeq ho (by rw [hd]; intro _ _ h; cases h)
    have kt : ∀ a vs, PTup s.heap a vs → a ≠ env.locals := fun a vs p => tup_other p ho hd
    have kt' : ∀ a vs, PTup s.heap a vs → PTup h' a vs := fun a vs p => let ⟨n, e⟩ := p; ⟨n, hs'.extBut _ _ (kt a vs p) e⟩
    have kc : ∀ c ov, s.heap.IsCell c ov → h'.IsCell c ov := fun c ov ⟨oc, hoc, hdc⟩ => ⟨oc, hs'.extBut _ _ (by rintro rfl; rw [ho] at hoc; cases hoc; rw [hd] at hdc; cases hdc) hoc, hdc⟩
    refine h _ (ok.own hL F.own hs' kt) ⟨F.kind, F.globals, F.builtins, F.own, fun n c hc => ?_, F.apart, _, hn', fun y pw e => ?_⟩ (StepX.own (.inl rfl) hs') (fun u pu hpu hu => hu.own kt' hpu)
    · obtain ⟨h1, ov, h2⟩ := F.cown n c hc
      exact ⟨h1, ov, kc _ _ h2⟩
    · rw [List.lookup_cons] at e
      by_cases hy : y = x
      · subst hy
        simp only [beq_self_eq_true, Option.some.injEq] at e
        subst e
        exact ⟨hp, v, hv.own kt' hp, .inl ⟨hl, by simp⟩⟩
      · have hb : (y == x) = false := beq_eq_false_iff_ne.mpr hy
        rw [hb] at e
        obtain ⟨hpw, u, h1, h2⟩ := hvars y pw e
        refine ⟨hpw, u, h1.own kt' hpw, ?_⟩
        rcases h2 with ⟨h2, h3⟩ | ⟨h2, c, hc, h3⟩
        · exact .inl ⟨h2, by simpa [hy] using h3⟩
        · exact .inr ⟨h2, c, hc, kc _ _ h3⟩
  · obtain ⟨hc0, ov, hcell⟩ := F.cown x c hc
    refine wpAny_storeName_cell F.kind hl hc hcell (fun h' hc' hs' => ?_)
    have hC : mem c = none := by
      obtain ⟨o, ho, hd⟩ := hcell
      exact ok.notSeq ho (by rw [hd]; intro _ _ h; cases h)
    have kt : ∀ a vs, PTup s.heap a vs → a ≠ c := fun a vs p => tup_other' p hcell
    have kt' : ∀ a vs, PTup s.heap a vs → PTup h' a vs := fun a vs p => let ⟨n, e⟩ := p; ⟨n, hs'.extBut _ _ (kt a vs p) e⟩
    have hLc : env.locals ≠ c := by
      rintro e
      obtain ⟨o, es, ep, ho, hd, _⟩ := hn
      obtain ⟨o', ho', hd'⟩ := hcell
      rw [e, ho'] at ho; cases ho; rw [hd'] at hd; cases hd
    refine h _ (ok.own hC hc0 hs' kt) ⟨F.kind, F.globals, F.builtins, F.own, fun n c2 hc2 => ?_, F.apart, m, hn.sameBut hs' hLc, fun y pw e => ?_⟩ (StepX.own (.inr ⟨hfu, x, hc⟩) hs') (fun u pu hpu hu => hu.own kt' hpu)
    · obtain ⟨h1, ov2, h2⟩ := F.cown n c2 hc2
      by_cases hcc : c2 = c
      · subst hcc; exact ⟨h1, _, hc'⟩
      · exact ⟨h1, ov2, h2.sameBut hs' hcc⟩
    · rw [List.lookup_cons] at e
      by_cases hy : y = x
      · subst hy
        simp only [beq_self_eq_true, Option.some.injEq] at e
        subst e
        exact ⟨hp, v, hv.own kt' hp, .inr ⟨.inl hl, c, hc, hc'⟩⟩
      · have hb : (y == x) = false := beq_eq_false_iff_ne.mpr hy
        rw [hb] at e
        obtain ⟨hpw, u, h1, h2⟩ := hvars y pw e
        refine ⟨hpw, u, h1.own kt' hpw, ?_⟩
        rcases h2 with ⟨h2, h3⟩ | ⟨h2, c2, hc2, h3⟩
        · exact .inl ⟨h2, h3⟩
        · exact .inr ⟨h2, c2, hc2, h3.sameBut hs' (by rintro rfl; exact hy (F.apart _ _ _ hc2 hc))⟩

theorem ws_assign {x : Str} {px pos : Pos} {e : Expr} {K : FV → Vars → Mem → Prop} (h : WE X d env ρ mem e (fun pv m => pv.plain ∧ K .next ((x, pv) :: ρ) m)) (hx : Stores env x)
    (hs : swapsWith e (some (.Name x px)) pos.line env = pure false := by rfl) : WS X d env ρ mem (.Assign [.Name x px] e pos) K := .mk fun A s hA ok F =>
  wpAny_Assign_Name (h.bind hA ok F fun v pv m1 s1 i1 ok1 F1 st1 ⟨hp, k1⟩ => wp_store hx hp i1 ok1 F1 fun s2 ok2 F2 st2 _ => ⟨.next, _, m1, trivial, ok2, F2, StepG.trans (F1.mem_own ok1) st1.toX st2 (F2.mem_own ok2), k1⟩) hs

end

section

variable {X : Cx} {d : Nat} {env : Env} {ρ : Vars} {mem : Mem}

/-! targets -/
structure AS (X : Cx) (d : Nat) (env : Env) (ρ : Vars) (mem : Mem) (target : Expr) (t : T) (K : Vars → Prop) : Prop where
  run : ∀ A s v, AOk A d → Ok X mem s.heap → Loc X env ρ s.heap → Is s.heap v t →
    wpAny (model X.prog X.w) A (assign target env v) (fun _ s' => ∃ ρ', Ok X mem s'.heap ∧ Loc X env ρ' s'.heap ∧ StepX env mem s mem s' ∧ K ρ') NoE s

theorem as_name {x : Str} {pos : Pos} {t : T} {K : Vars → Prop} (hx : Stores env x) (k : K ((x, .t t) :: ρ)) : AS X d env ρ mem (.Name x pos) t K := .mk fun A s v hA ok F hv =>
  wpAny_assign_Name (wp_store (pv := .t t) hx trivial hv ok F fun s' ok' F' st' _ => ⟨_, ok', F', st', k⟩)

noncomputable def binds : List Str → List T → Vars → Vars
  | x :: xs, t :: ts, ρ => binds xs ts ((x, .t t) :: ρ)
  | _, _, ρ => ρ

theorem wp_inOrder {A : Around} (f : Str × Pos → Value → Sem Unit) (hf : ∀ (x : Str × Pos) (v : Value) (s : Shared) (Q : Unit → Shared → Prop), wpAny (model X.prog X.w) A (storeName env x.1 v) Q NoE s → wpAny (model X.prog X.w) A (f x v) Q NoE s) :
    ∀ (xs : List (Str × Pos)) (vs : List Value) (ts : List T) (ρ : Vars) (s : Shared) (Q : Unit → Shared → Prop), (∀ x ∈ xs, Stores env x.1) → Are s.heap vs ts → Ok X mem s.heap → Loc X env ρ s.heap →
      (∀ s', Ok X mem s'.heap → Loc X env (binds (xs.map (·.1)) ts ρ) s'.heap → StepX env mem s mem s' → Q () s') → wpAny (model X.prog X.w) A (assignInOrder (xs.map f) vs) Q NoE s := by
  intro xs
  induction xs with
  | nil => intro vs ts ρ s Q _ _ ok F h; exact wpAny_pure (h s ok (by cases ts <;> exact F) (Step.refl _ _).toX)
  | cons x xs ih =>
    intro vs ts ρ s Q hst ha ok F h
    cases ha with
    | nil => exact wpAny_pure (h s ok F (Step.refl _ _).toX)
    | cons hv hs =>
      rename_i v t vs ts
      show wpAny _ A (do holding vs (f x v); assignInOrder (xs.map f) vs) Q _ s
      refine wpAny_bind (wpAny_holding (hf _ _ _ _ (wp_store (pv := .t t) (hst x List.mem_cons_self) trivial hv ok F fun s1 ok1 F1 st1 keep => ?_)))
      have hs1 : Are s1.heap vs ts := by
        have : ∀ {vs ts}, Are s.heap vs ts → Are s1.heap vs ts := by
          intro vs ts a
          induction vs generalizing ts with
          | nil => cases a; exact .nil
          | cons v vs ihv => cases a with | cons hv hs => exact .cons (keep _ (.t _) trivial hv) (ihv hs)
        exact this hs
      exact ih vs ts _ s1 Q (fun y hy => hst y (List.mem_cons_of_mem _ hy)) hs1 ok1 F1 fun s2 ok2 F2 st2 => h s2 ok2 F2 (StepG.trans (F1.mem_own ok1) st1 st2 (F2.mem_own ok2))

theorem Ok.extBut {h h' : Heap} {b : Addr} (ok : Ok X mem h) (hb : mem b = none) (hb0 : X.h₀.get? b = none) (hs : Heap.ExtBut b h h') (kt : ∀ a vs, PTup h a vs → a ≠ b) : Ok X mem h' :=
  ⟨fun c o e => hs c o (by rintro rfl; rw [hb0] at e; cases e) (ok.base c o e), fun a l e =>
    let ⟨h1, vs, hl, hv⟩ := ok.lst a l e
    ⟨h1, vs, hl.extBut hs (by rintro rfl; rw [hb] at e; cases e), Are.mono (fun a vs ⟨n, p⟩ => ⟨n, hs _ _ (kt a vs ⟨n, p⟩) p⟩) hv⟩⟩

/-- everything of h stays -/
theorem Loc.keep {h h' : Heap} (F : Loc X env ρ h) (k : ∀ b o, h.get? b = some o → (∀ vs, o.data ≠ .fields vs) → h'.get? b = some o) : Loc X env ρ h' := by
  have kt : ∀ a vs, PTup h a vs → PTup h' a vs := fun a vs ⟨n, e⟩ => ⟨n, k _ _ e (fun vs h => by cases h)⟩
  have kc : ∀ c ov, h.IsCell c ov → h'.IsCell c ov := fun c ov ⟨o, ho, hd⟩ => ⟨o, k _ _ ho (fun vs h => by rw [hd] at h; cases h), hd⟩
  refine ⟨F.kind, F.globals, F.builtins, F.own, fun n c hc => ?_, F.apart, ?_⟩
  · obtain ⟨h1, ov, h2⟩ := F.cown n c hc; exact ⟨h1, ov, kc _ _ h2⟩
  · obtain ⟨m, ⟨o, es, ep, ho, hd, r⟩, hv⟩ := F.vars
    refine ⟨m, ⟨o, es, ep, k _ _ ho (fun vs h => by rw [hd] at h; cases h), hd, r⟩, fun y pv e => ?_⟩
    obtain ⟨hp, v, h1, h2⟩ := hv y pv e
    exact ⟨hp, v, h1.own kt hp, h2.keep fun c ov hc _ => kc c ov hc⟩

theorem letGo_fields {prog : Program} {w : World} {A : Around} {E : Value → Shared → Prop} {target : Expr} {I : Addr} {v : Value} {Q : Unit → Shared → Prop} {s : Shared} {o : Obj} {n : String} (ho : s.heap.get? I = some o) (hc : o.cls = .type n)
    (hn : ["enumerate", "zip", "dict_itemiterator", "dict_reverseitemiterator", "odict_iterator", "itertools.zip_longest", "itertools.pairwise"].contains n = false) (h : Q () s) : wpAny (model prog w) A (letOwnedTupleGo target (.ref I) v) Q E s := by
  unfold letOwnedTupleGo
  cases target <;> first
    | exact wpAny_pure h
    | (cases v <;> first
        | exact wpAny_pure h
        | (refine wpAny_bind (wpAny_load ho ?_)
           rw [hc]
           split
           · rename_i n' vs e1 e2
             cases e1
             rw [hn]
             exact wpAny_pure h
           · exact wpAny_pure h))

/-- what a loop walks over: an iterator at I, behind the first i of the items -/
structure Src (X : Cx) (A : Around) (I : Addr) (fp : List Addr) (ts : List T) (P : Nat → Value → Prop) (St : Nat → Heap → Prop) (R : Heap → Prop) : Prop where
  W : Walks X.prog X.w A I fp [I] ts.length P St
  it : ∀ i h, St i h → ∃ o n vs, h.get? I = some o ∧ o.cls = .type n ∧ o.data = .fields vs ∧ ["enumerate", "zip", "dict_itemiterator", "dict_reverseitemiterator", "odict_iterator", "itertools.zip_longest", "itertools.pairwise"].contains n = false
  stb : ∀ h h', R h → (∀ a vs, PTup h a vs → PTup h' a vs) → R h'
  val : ∀ h i v, R h → P i v → i < ts.length → ∃ t, ts[i]? = some t ∧ Is h v t

/-- the loop over these items -/
noncomputable def FOR (X : Cx) (d : Nat) (env : Env) (target : Expr) (body : List Stmt) : List T → Vars → Mem → (FV → Vars → Mem → Prop) → Prop
  | [], ρ, mem, K => K .next ρ mem
  | t :: ts, ρ, mem, K => AS X d env ρ mem target t fun ρ1 => WSs X d env ρ1 mem body fun fv ρ2 m2 => match fv with
    | .next | .cont => FOR X d env target body ts ρ2 m2 K
    | .brk => K .next ρ2 m2
    | .ret pv => K (.ret pv) ρ2 m2

noncomputable def OwnI (env : Env) (I : Addr) (b : Addr) : Prop := Own env b ∨ b = I
noncomputable def PostG (X : Cx) (own : Addr → Prop) (env : Env) (mem : Mem) (s : Shared) (K : FV → Vars → Mem → Prop) (fl : Flow) (s' : Shared) : Prop :=
  ∃ fv ρ' mem', FlowIs s'.heap fl fv ∧ Ok X mem' s'.heap ∧ Loc X env ρ' s'.heap ∧ StepG own mem s mem' s' ∧ K fv ρ' mem'

theorem Loc.tup_own {h : Heap} (F : Loc X env ρ h) {a : Addr} {vs : Array Value} (p : PTup h a vs) : ¬ Own env a := by
  obtain ⟨n, e⟩ := p
  rintro (rfl | ⟨_, x, hx⟩)
  · obtain ⟨m, ⟨o, es, ep, ho, hd, _⟩, _⟩ := F.vars
    rw [e] at ho; cases ho; cases hd
  · obtain ⟨_, ov, o, ho, hd⟩ := F.cown x a hx
    rw [e] at ho; cases ho; cases hd
theorem StepX.tup {m1 m2 : Mem} {s1 s2 : Shared} (st : StepX env m1 s1 m2 s2) (ok : Ok X m1 s1.heap) (F : Loc X env ρ s1.heap) {a : Addr} {vs : Array Value} (p : PTup s1.heap a vs) : PTup s2.heap a vs :=
  have q := p
  let ⟨n, e⟩ := p
  ⟨n, st.ext _ _ (F.tup_own q) (ok.notNL e (show Value.type "tuple" ≠ Value.type "list" by decide)) e⟩

theorem wp_for {A : Around} {s : Shared} {target : Expr} {body : List Stmt} {I : Addr} {fp : List Addr} {ts : List T} {P : Nat → Value → Prop} {St : Nat → Heap → Prop} {R : Heap → Prop} {K : FV → Vars → Mem → Prop}
    (S : Src X A I fp ts P St R) (hA : AOk A d) (ok : Ok X mem s.heap) (F : Loc X env ρ s.heap) (hst : St 0 s.heap) (hR : R s.heap) (hI0 : X.h₀.get? I = none) (hfp : ∀ b ∈ fp, mem b = none ∧ ¬ Own env b ∧ ∃ o, s.heap.get? b = some o)
    (h : FOR X d env target body ts ρ mem K) {E : Value → Shared → Prop} :
    codeAny (model X.prog X.w) A (.forLoop target (.ref I) body [] env) (fun r s' => match r with | .ok f => PostG X (OwnI env I) env mem s K f s' | .error e => E e s') s := by
  refine codeAny_forLoop_any (fun n s' => ∃ done rest ρ' m', ts = done ++ rest ∧ n = rest.length ∧ St done.length s'.heap ∧ R s'.heap ∧ Ok X m' s'.heap ∧ Loc X env ρ' s'.heap ∧ StepG (OwnI env I) mem s m' s' ∧ FOR X d env target body rest ρ' m' K) ?_ ts.length
    ⟨[], ts, ρ, mem, rfl, rfl, hst, hR, ok, F, (Step.refl _ _).toX, h⟩
  rintro n s1 ⟨done, rest, ρ1, m1, hts, rfl, hst1, hR1, ok1, F1, st1, h1⟩
  have hIfp : I ∈ fp := S.W.sub I (by simp)
  have mfp : ∀ {m2 : Mem} {s2 : Shared}, StepG (OwnI env I) mem s m2 s2 → ∀ b ∈ fp, m2 b = none := fun {m2 s2} st b hb => by
    obtain ⟨e1, _, o, e2⟩ := hfp b hb
    cases hm : m2 b with
    | none => rfl
    | some l =>
      rcases st.new b (by rw [hm]; simp) with x | x
      · exact absurd e1 x
      · rw [e2] at x; cases x
  have mown : ∀ {m2 : Mem} {s2 : Shared} {ρ2 : Vars}, StepG (OwnI env I) mem s m2 s2 → Ok X m2 s2.heap → Loc X env ρ2 s2.heap → ∀ b, OwnI env I b → m2 b = none := fun st ok F b hb => by
    rcases hb with hb | rfl
    · exact F.mem_own ok b hb
    · exact mfp st _ hIfp
  obtain ⟨oI, nI, vI, hoI, hcI, hdI, hnI⟩ := S.it _ _ hst1
  have after : ∀ {h' : Heap} {tk : Nat}, (∀ b o, b ∉ [I] → s1.heap.get? b = some o → h'.get? b = some o) → Ok X m1 h' ∧ Loc X env ρ1 h' ∧ StepG (OwnI env I) m1 s1 m1 { s1 with heap := h', toks := tk } ∧ R h' := by
    intro h' tk hk
    have hx : Heap.ExtBut I s1.heap h' := fun b o hb e => hk b o (by simpa using hb) e
    have hkt : ∀ a vs, PTup s1.heap a vs → a ≠ I := by
      rintro a vs ⟨n, e⟩ rfl
      rw [e] at hoI; cases hoI; cases hdI
    refine ⟨ok1.extBut (mfp st1 I hIfp) hI0 hx hkt, F1.keep fun b o e hf => hx b o (by rintro rfl; rw [e] at hoI; cases hoI; exact hf _ hdI) e, ⟨rfl, fun b o hn hb e => hx b o (by rintro rfl; exact hn (.inr rfl)) e, fun _ h => .inl h⟩, S.stb _ _ hR1 fun a vs p => let ⟨n, e⟩ := p; ⟨n, hx _ _ (hkt a vs p) e⟩⟩
  cases rest with
  | nil =>
    have hlen : done.length = ts.length := by rw [hts]; simp
    refine S.W.done s1 _ _ (hlen ▸ hst1) fun h' tk hk => ?_
    obtain ⟨ok2, F2, st2, _⟩ := after (tk := tk) hk
    have st := StepG.trans (mown st1 ok1 F1) st1 st2 (fun b hb => mown st1 ok1 F1 b hb)
    exact wpAny_execs_nil ⟨.next, ρ1, m1, trivial, ok2, F2, st, h1⟩
  | cons t rest =>
    have hlt : done.length < ts.length := by rw [hts]; simp
    refine S.W.item done.length s1 _ _ hlt hst1 fun v h' tk hPv hst2 hk => ?_
    obtain ⟨ok2, F2, st2, hR2⟩ := after (tk := tk) hk
    have st12 := StepG.trans (mown st1 ok1 F1) st1 st2 (fun b hb => mown st1 ok1 F1 b hb)
    obtain ⟨t', ht', hv⟩ := S.val _ _ _ hR2 hPv hlt
    have : t' = t := by rw [hts] at ht'; simpa using ht'.symm
    subst this
    obtain ⟨o2, n2, v2, ho2, hc2, hd2, hn2⟩ := S.it _ _ hst2
    refine letGo_fields ho2 hc2 hn2 ?_
    refine wpAny_mono (AS.run h1 A { s1 with heap := h', toks := tk } v hA ok2 F2 hv) (fun _ s3 p => ?_) (fun _ _ f => f.elim)
    obtain ⟨ρ3, ok3, F3, st3, h3⟩ := p
    have st13 := StepG.trans (mown st12 ok2 F2) st12 (st3.more fun b hb => .inl hb) (mown st1 ok1 F1)
    refine wpAny_mono (WSs.run h3 A s3 hA ok3 F3) (fun fl s4 p => ?_) (fun _ _ f => f.elim)
    obtain ⟨fv, ρ4, m4, hf, ok4, F4, st4, h4⟩ := p
    have st34 : StepG (OwnI env I) m1 s3 m4 s4 := st4.more fun b hb => .inl hb
    have hI3 : s3.heap.get? I = some o2 := st3.ext I o2 (hfp I hIfp).2.1 (mfp st1 I hIfp) ho2
    have mI4 : m4 I = none := by
      cases hm : m4 I with
      | none => rfl
      | some l =>
        rcases st4.new I (by rw [hm]; simp) with x | x
        · exact absurd (mfp st1 I hIfp) x
        · rw [hI3] at x; cases x
    have st14 : StepG (OwnI env I) mem s m4 s4 := StepG.trans (mown st13 ok3 F3) st13 st34 (fun b hb => by
      rcases hb with hb | rfl
      · exact F4.mem_own ok4 b hb
      · exact mI4)
    have hst4 : St (done ++ [t']).length s4.heap := by
      rw [List.length_append, List.length_singleton]
      exact S.W.frame _ _ _ hst2 fun b hb o e => st4.ext b o (hfp b hb).2.1 (mfp st13 b hb) (st3.ext b o (hfp b hb).2.1 (mfp st1 b hb) e)
    have hR4 : R s4.heap := S.stb _ _ hR2 fun a vs p => StepX.tup st4 ok3 F3 (StepX.tup st3 ok2 F2 p)
    cases fl <;> cases fv <;> try exact hf.elim
    · exact ⟨rest.length, by simp, done ++ [t'], rest, ρ4, m4, by simp [hts], rfl, hst4, hR4, ok4, F4, st14, h4⟩
    · exact ⟨.next, ρ4, m4, trivial, ok4, F4, st14, h4⟩
    · exact ⟨rest.length, by simp, done ++ [t'], rest, ρ4, m4, by simp [hts], rfl, hst4, hR4, ok4, F4, st14, h4⟩
    · exact ⟨.ret _, ρ4, m4, hf, ok4, F4, st14, h4⟩

/-- the sources of a loop, each as the iterator it gives -/
theorem src_tup {A : Around} (hh : A.handled = none) {I a : Addr} (hne : a ≠ I) {vs : List Value} {ts : List T} (hl : vs.length = ts.length) :
    Src X A I [I, a] ts (fun i v => vs.toArray[i]? = some v) (fun i h => h.IsTupleIter I a i ∧ h.IsTuple a vs.toArray) (fun h => Are h vs ts) where
  W := by
    have := Walks.tuple (prog := X.prog) (w := X.w) hh I a hne vs.toArray
    rw [List.size_toArray, hl] at this
    exact this
  it := fun i h st => by
    obtain ⟨⟨o, ho, hc, hd⟩, _⟩ := st
    exact ⟨o, _, _, ho, hc, hd, by decide⟩
  stb := fun h h' R k => Are.mono k R
  val := fun h i v R hP hi => R.get' (by simpa using hP)
theorem src_list {A : Around} (hh : A.handled = none) {I a : Addr} (hne : a ≠ I) {vs : List Value} {ts : List T} (hl : vs.length = ts.length) :
    Src X A I [I, a] ts (fun i v => vs.toArray[i]? = some v) (fun i h => h.IsListIter I a i ∧ h.IsList a vs.toArray) (fun h => Are h vs ts) where
  W := by
    have := Walks.list (prog := X.prog) (w := X.w) hh I a hne vs.toArray
    rw [List.size_toArray, hl] at this
    exact this
  it := fun i h st => by
    obtain ⟨⟨o, ho, hc, hd⟩, _⟩ := st
    exact ⟨o, _, _, ho, hc, hd, by decide⟩
  stb := fun h h' R k => Are.mono k R
  val := fun h i v R hP hi => R.get' (by simpa using hP)
noncomputable def rng (n : Nat) : List T := (List.range n).map fun i : Nat => T.int (i : Int)
theorem src_range {A : Around} (hh : A.handled = none) {I : Addr} {n : Nat} :
    Src X A I [I] (rng n) (fun i v => ∃ t, v = .int (0 + (i : Nat) * 1) t) (fun i h => IsRangeIter h I (0 + (i : Nat) * 1) ((n : Int) - (i : Nat)) 1) (fun h => True) where
  W := by
    have := Walks.range (prog := X.prog) (w := X.w) hh I 0 1 n
    simpa [rng] using this
  it := fun i h st => ⟨_, _, _, st, rfl, rfl, by decide⟩
  stb := fun h h' R k => trivial
  val := fun h i v R ⟨t, hP⟩ hi => by
    subst hP
    have hi' : i < n := by simpa [rng] using hi
    exact ⟨.int i, by simp [rng, hi'], by simpa using Is.int (h := h) (i : Int) t⟩

inductive Items (mem : Mem) : PV → List T → Mem → Prop
  | tup {ts : List T} : Items mem (.t (.tup ts)) ts mem
  | list {a : Addr} {ts : List T} {mem0 : Mem} (ha : mem a = some ts) (h0 : mem0 a = none) (hl : Le mem0 mem) : Items mem (.l a) ts mem0
  | rng {n : Nat} (hn : n < 2 ^ 62) : Items mem (.ob (IsRng n)) (rng n) mem

theorem wp_iter {A : Around} {s : Shared} {v : Value} {pv : PV} {ts : List T} {mem0 : Mem} {Q : Value → Shared → Prop} (hA : AOk A d) (ok : Ok X mem s.heap) (F : Loc X env ρ s.heap) (hv : IsP s.heap v pv) (hi : Items mem pv ts mem0)
    (k : ∀ I fp P St R s2, Src X A I fp ts P St R → St 0 s2.heap → R s2.heap → s.heap.get? I = none → X.h₀.get? I = none → (∀ b ∈ fp, mem0 b = none ∧ ¬ Own env b ∧ ∃ o, s2.heap.get? b = some o) → (∀ b ∈ fp, b = I ∨ (∃ vs, PTup s.heap b vs) ∨ mem b ≠ none) → Ok X mem0 s2.heap → Step mem s mem0 s2 → Q (.ref I) s2) :
    wpAny (model X.prog X.w) A (pyIter v) Q NoE s := by
  have hf := ok.size_free
  have hIown : ¬ Own env s.heap.objs.size := by
    rintro (e | ⟨_, x, hx⟩)
    · obtain ⟨m, ⟨o, es, ep, ho, _⟩, _⟩ := F.vars
      rw [← e, get_size_none] at ho; cases ho
    · obtain ⟨_, ov, o, ho, _⟩ := F.cown x _ hx
      rw [get_size_none] at ho; cases ho
  cases hi with
  | tup =>
    cases hv; rename_i a vs ht hs
    have hne : a ≠ s.heap.objs.size := by
      obtain ⟨n, e⟩ := ht
      exact Nat.ne_of_lt (Heap.lt_size e)
    refine wpAny_pyIter_tuple ht.is ?_
    refine k _ _ _ _ _ _ (src_tup hA.hd hne hs.length) ⟨⟨_, Heap.get?_push_size _ rfl, rfl, rfl⟩, (ht.push _).is⟩ hs.push (get_size_none _) hf.2 ?_ (by intro b hb; simp only [List.mem_cons, List.not_mem_nil, or_false] at hb; exact hb.imp id fun e => .inl ⟨_, e ▸ ht⟩) ok.push Step.push
    intro b hb
    simp only [List.mem_cons, List.not_mem_nil, or_false] at hb
    rcases hb with rfl | rfl
    · exact ⟨hf.1, hIown, _, Heap.get?_push_size _ rfl⟩
    · obtain ⟨n, e⟩ := id ht
      exact ⟨ok.notNL e (show Value.type "tuple" ≠ Value.type "list" by decide), F.tup_own ht, _, Heap.get?_push_of_some _ e⟩
  | list ha h0 hl =>
    rename_i a
    cases hv
    obtain ⟨hb0, vs, hpl, hs⟩ := ok.lst a ts ha
    obtain ⟨n, e⟩ := id hpl
    have hne : a ≠ s.heap.objs.size := Nat.ne_of_lt (Heap.lt_size e)
    refine wpAny_pyIter_list hpl.isList ?_
    refine k _ _ _ _ _ _ (src_list hA.hd hne hs.length) ⟨⟨_, Heap.get?_push_size _ rfl, rfl, rfl⟩, ⟨_, Heap.get?_push_of_some _ e, rfl, n, rfl⟩⟩ hs.push (get_size_none _) hf.2 ?_ (by intro b hb; simp only [List.mem_cons, List.not_mem_nil, or_false] at hb; exact hb.imp id fun e => .inr (by rw [e, ha]; simp)) (ok.push.weaken hl) (Step.push.weaken hl)
    intro b hb
    simp only [List.mem_cons, List.not_mem_nil, or_false] at hb
    rcases hb with rfl | rfl
    · refine ⟨?_, hIown, _, Heap.get?_push_size _ rfl⟩
      cases hm : mem0 s.heap.objs.size with
      | none => rfl
      | some l => rw [hl _ _ hm] at hf; exact absurd hf.1 (by simp)
    · refine ⟨h0, ?_, _, Heap.get?_push_of_some _ e⟩
      intro ho
      rw [F.mem_own ok _ ho] at ha; cases ha
  | rng hn =>
    rename_i n
    obtain ⟨r, t, u, w, rfl, hr⟩ := hv _ (KeepNL.refl _)
    refine wpAny_pyIter_range hr (small_one (by decide) (by decide) (by omega) (by omega)) ?_
    have hsz : Builtin.Range.rangeSize 0 (n : Int) 1 = (n : Int) := by rw [rangeSize_one]; split <;> omega
    refine k _ _ _ _ _ _ (src_range hA.hd) ?_ trivial (get_size_none _) hf.2 ?_ (by intro b hb; simp only [List.mem_cons, List.not_mem_nil, or_false] at hb; exact .inl hb) ok.push Step.push
    · have e1 : (0 + ((0 : Nat) : Int) * 1) = 0 := by simp
      have e2 : ((n : Int) - ((0 : Nat) : Int)) = Builtin.Range.rangeSize 0 (n : Int) 1 := by rw [hsz]; simp
      show IsRangeIter _ _ (0 + ((0 : Nat) : Int) * 1) ((n : Int) - ((0 : Nat) : Int)) 1
      rw [e1, e2]
      exact Heap.get?_push_size _ rfl
    · intro b hb
      simp only [List.mem_cons, List.not_mem_nil, or_false] at hb
      subst hb
      exact ⟨hf.1, hIown, _, Heap.get?_push_size _ rfl⟩

theorem PostG.out {s s2 : Shared} {mem0 : Mem} {I : Addr} {K : FV → Vars → Mem → Prop} {fl : Flow} {s' : Shared} (hI : s.heap.get? I = none) (st : Step mem s mem0 s2) (ok : Ok X mem0 s2.heap) (F : Loc X env ρ s2.heap) (p : PostG X (OwnI env I) env mem0 s2 K fl s') : PostS X env mem s K fl s' := by
  obtain ⟨fv, ρ', m', h1, h2, h3, h4, h5⟩ := p
  refine ⟨fv, ρ', m', h1, h2, h3, ⟨by rw [h4.same, st.same], fun b o hn hb e => ?_, fun b hb => ?_⟩, h5⟩
  · have hbI : b ≠ I := by rintro rfl; rw [hI] at e; cases e
    have h0 : mem0 b = none := by
      cases hm : mem0 b with
      | none => rfl
      | some l =>
        rcases st.new b (by rw [hm]; simp) with x | x
        · exact absurd hb x
        · rw [e] at x; cases x
    exact h4.ext b o (fun x => x.elim hn hbI) h0 (st.ext b o hb e)
  · rcases h4.new b hb with x | x
    · exact st.new b x
    · cases hm : mem b with
      | some l => exact .inl (by simp)
      | none =>
        refine .inr ?_
        cases e : s.heap.get? b with
        | none => rfl
        | some o => rw [st.ext b o hm e] at x; cases x

theorem ws_for {target iter : Expr} {body : List Stmt} {pos : Pos} {K : FV → Vars → Mem → Prop}
    (h : WE X d env ρ mem iter (fun pv m => ∃ ts m0, Items m pv ts m0 ∧ FOR X d env target body ts ρ m0 K))
    (hs : ∀ x, foldedSetIterable iter env x = pure x := by intro _; rfl) : WS X d env ρ mem (.For target iter body [] pos) K := .mk fun A s hA ok F => by
  refine wpAny_For (h.bind hA ok F fun v pv m1 s1 i1 ok1 F1 st1 ⟨ts, m0, hi, h1⟩ => wp_iter hA ok1 F1 i1 hi fun I fp P St R s2 S hst hR hI hI0 hfp _ ok2 st2 => ?_) hs
  have F2 := F1.step ok1 st2
  refine codeAny_mono (wp_for S hA ok2 F2 hst hR hI0 hfp h1 (E := fun _ _ => False)) (fun r s' hr => ?_)
  cases r with
  | ok f => exact (PostG.out hI st2 ok2 F2 hr).of_step st1.toX ok1 F1
  | error e => exact hr.elim

/-- forgetting at a statement's end -/
noncomputable def Sub (ρ' ρ : Vars) : Prop := ∀ x pv, ρ'.lookup x = some pv → ρ.lookup x = some pv
theorem Loc.sub {ρ' : Vars} {h : Heap} (F : Loc X env ρ h) (hs : Sub ρ' ρ) : Loc X env ρ' h :=
  ⟨F.kind, F.globals, F.builtins, F.own, F.cown, F.apart, let ⟨m, hn, hv⟩ := F.vars; ⟨m, hn, fun x pv e => hv x pv (hs x pv e)⟩⟩
theorem WSs.drop {st : List Stmt} {K K' : FV → Vars → Mem → Prop} (h : WSs X d env ρ mem st K) (k : ∀ fv ρ m, K fv ρ m → ∃ ρ' m', Sub ρ' ρ ∧ Le m' m ∧ K' fv ρ' m') : WSs X d env ρ mem st K' :=
  .mk fun A s hA ok F => wpAny_mono (h.run A s hA ok F) (fun v s' ⟨fv, ρ1, m, h1, h2, h3, h4, h5⟩ => let ⟨ρ', m', hs, hl, hk⟩ := k _ _ _ h5; ⟨fv, ρ', m', h1, h2.weaken hl, h3.sub hs, h4.weaken hl, hk⟩) fun _ _ x => x
theorem WS.drop {st : Stmt} {K K' : FV → Vars → Mem → Prop} (h : WS X d env ρ mem st K) (k : ∀ fv ρ m, K fv ρ m → ∃ ρ' m', Sub ρ' ρ ∧ Le m' m ∧ K' fv ρ' m') : WS X d env ρ mem st K' :=
  .mk fun A s hA ok F => wpAny_mono (h.run A s hA ok F) (fun v s' ⟨fv, ρ1, m, h1, h2, h3, h4, h5⟩ => let ⟨ρ', m', hs, hl, hk⟩ := k _ _ _ h5; ⟨fv, ρ', m', h1, h2.weaken hl, h3.sub hs, h4.weaken hl, hk⟩) fun _ _ x => x

theorem ws_while {test : Expr} {body : List Stmt} {pos : Pos} {K : FV → Vars → Mem → Prop} (I : Nat → Vars → Mem → Prop)
    (turn : ∀ n ρ m, I n ρ m → WT X d env ρ m test (fun b m1 => if b then WSs X d env ρ m1 body (fun fv ρ2 m2 => match fv with
      | .next | .cont => ∃ k ρ3 m3, k < n ∧ Sub ρ3 ρ2 ∧ Le m3 m2 ∧ I k ρ3 m3
      | .brk => K .next ρ2 m2
      | .ret pv => K (.ret pv) ρ2 m2) else K .next ρ m1)) (n : Nat) (h : I n ρ mem) : WS X d env ρ mem (.While test body [] pos) K := .mk fun A s hA ok F => by
  refine wpAny_While ?_
  refine codeAny_whileLoop (fun n s' => ∃ ρ' m', Ok X m' s'.heap ∧ Loc X env ρ' s'.heap ∧ StepX env mem s m' s' ∧ I n ρ' m') ?_ n ⟨ρ, mem, ok, F, (Step.refl _ _).toX, h⟩
  rintro n s1 ⟨ρ1, m1, ok1, F1, st1, h1⟩
  refine wpAny_mono ((turn n ρ1 m1 h1).run A s1 hA ok1 F1) (fun b s2 p => ?_) (fun _ _ f => f.elim)
  obtain ⟨m2, ok2, st2, h2⟩ := p
  have F2 := F1.step ok1 st2
  have st12 := StepG.trans (F1.mem_own ok1) st1 st2.toX (F2.mem_own ok2)
  cases b with
  | false => exact wpAny_execs_nil ⟨.next, ρ1, m2, trivial, ok2, F2, st12, h2⟩
  | true =>
    refine wpAny_mono (WSs.run h2 A s2 hA ok2 F2) (fun fl s3 p => ?_) (fun _ _ f => f.elim)
    obtain ⟨fv, ρ3, m3, hf, ok3, F3, st3, h3⟩ := p
    have st13 := StepG.trans (F2.mem_own ok2) st12 st3 (F3.mem_own ok3)
    cases fl <;> cases fv <;> try exact hf.elim
    · obtain ⟨k, ρ4, m4, hk, hs, hl, hi⟩ := h3
      exact ⟨k, hk, ρ4, m4, ok3.weaken hl, F3.sub hs, st13.weaken hl, hi⟩
    · exact ⟨.next, ρ3, m3, trivial, ok3, F3, st13, h3⟩
    · obtain ⟨k, ρ4, m4, hk, hs, hl, hi⟩ := h3
      exact ⟨k, hk, ρ4, m4, ok3.weaken hl, F3.sub hs, st13.weaken hl, hi⟩
    · exact ⟨.ret _, ρ3, m3, hf, ok3, F3, st13, h3⟩

end

section

variable {X : Cx} {d : Nat} {env : Env} {ρ : Vars} {mem : Mem}

theorem keep_of_ext {h h' : Heap} (x : Heap.ExtBut h.objs.size h h') : ∀ b o, h.get? b = some o → h'.get? b = some o := fun b o e => x b o (Nat.ne_of_lt (Heap.lt_size e)) e
theorem Step.keep {s : Shared} {h' : Heap} {n : Nat} (k : ∀ b o, s.heap.get? b = some o → h'.get? b = some o) : Step mem s mem { s with heap := h', toks := n } := ⟨rfl, fun b o _ e => k b o e, fun _ h => .inl h⟩

theorem as_tuple {elts : List Expr} {x1 : Nat} {pos : Pos} {xs : List (Str × Pos)} {ts : List T} {K : Vars → Prop} (he : (assignEach elts env).map (·.2) = xs.map fun x v => assign (.Name x.1 x.2) env v)
    (hl : (assignEach elts env).length = ts.length) (hstar : (assignEach elts env).findIdx? (·.1) = none) (hx : ∀ x ∈ xs, Stores env x.1) (k : K (binds (xs.map (·.1)) ts ρ)) : AS X d env ρ mem (.Tuple elts x1 pos) (.tup ts) K := .mk fun A s v hA ok F hv => by
  cases hv; rename_i a vs ht hs
  refine assign_Tuple_tuple hA.hd ht.is (by rw [hl, List.size_toArray, hs.length]) hstar fun h' hx' => ?_
  have kp := keep_of_ext hx'
  have st1 : Step mem s mem { s with heap := h' } := Step.keep kp
  rw [he]
  refine wp_inOrder (fun x v => assign (.Name x.1 x.2) env v) (fun x v s Q h => wpAny_assign_Name h) xs vs ts ρ _ _ hx (hs.keep (KeepNL.of_keep kp)) (ok.keep kp) (F.step ok st1) fun s2 ok2 F2 st2 => ?_
  exact ⟨_, ok2, F2, StepG.trans (F2.mem_own ok2) st1.toX st2 (F2.mem_own ok2), k⟩

theorem as_tuple2 {a b : Str} {pa pb pos : Pos} {x1 : Nat} {t u : T} {K : Vars → Prop} (ha : Stores env a) (hb : Stores env b) (k : K ((b, .t u) :: (a, .t t) :: ρ)) : AS X d env ρ mem (.Tuple [.Name a pa, .Name b pb] x1 pos) (.tup [t, u]) K :=
  as_tuple (xs := [(a, pa), (b, pb)]) rfl rfl rfl (by intro x hx; simp at hx; rcases hx with rfl | rfl <;> assumption) k

theorem ws_assign3 {a b c : Str} {pa pb pc tpos pos : Pos} {x1 : Nat} {value : Expr} {K : FV → Vars → Mem → Prop}
    (h : WE X d env ρ mem value (fun pv m => ∃ t u v, pv = .t (.tup [t, u, v]) ∧ K .next ((c, .t v) :: (b, .t u) :: (a, .t t) :: ρ) m)) (ha : Stores env a) (hb : Stores env b) (hc : Stores env c)
    (hs : swapsWithSole [.Tuple [.Name a pa, .Name b pb, .Name c pc] x1 tpos] value pos.line env = pure false := by rfl)
    (hw : swappedStores [.Tuple [.Name a pa, .Name b pb, .Name c pc] x1 tpos] value env = pure none := by rfl) :
    WS X d env ρ mem (.Assign [.Tuple [.Name a pa, .Name b pb, .Name c pc] x1 tpos] value pos) K := .mk fun A s hA ok F =>
  Assign_Tuple (h.bind hA ok F fun v pv m1 s1 i1 ok1 F1 st1 ⟨t, u, w, e1, k1⟩ => by
    subst e1
    refine wpAny_mono ((as_tuple (X := X) (d := d) (mem := m1) (ρ := ρ) (K := fun ρ' => K .next ρ' m1) (xs := [(a, pa), (b, pb), (c, pc)]) (ts := [t, u, w]) rfl rfl rfl (by intro x hx; simp at hx; rcases hx with rfl | rfl | rfl <;> assumption) k1).run A s1 v hA ok1 F1 i1) (fun _ s2 p => ?_) fun _ _ x => x
    obtain ⟨ρ', ok2, F2, st2, k2⟩ := p
    exact ⟨.next, ρ', m1, trivial, ok2, F2, StepG.trans (F1.mem_own ok1) st1.toX st2 (F2.mem_own ok2), k2⟩) hs hw

/-- a, b = (..): the second is stored first -/
theorem ws_swap2 {a b : Str} {pa pb tpos pos : Pos} {x1 : Nat} {value : Expr} {K : FV → Vars → Mem → Prop}
    (h : WE X d env ρ mem value (fun pv m => ∃ t u, pv = .t (.tup [t, u]) ∧ K .next ((a, .t t) :: (b, .t u) :: ρ) m)) (ha : Stores env a) (hb : Stores env b)
    (hs : swapsWithSole [.Tuple [.Name a pa, .Name b pb] x1 tpos] value pos.line env = pure false := by rfl)
    (hw : swappedStores [.Tuple [.Name a pa, .Name b pb] x1 tpos] value env = pure (some [a, b]) := by rfl) :
    WS X d env ρ mem (.Assign [.Tuple [.Name a pa, .Name b pb] x1 tpos] value pos) K := .mk fun A s hA ok F =>
  Assign_Tuple_swapped (names := [a, b]) (h.bind hA ok F fun v pv m1 s1 i1 ok1 F1 st1 ⟨t, u, e1, k1⟩ => by
    subst e1
    cases i1; rename_i l vs ht hvs
    have hlen : vs.toArray.size = 2 := by rw [List.size_toArray, hvs.length]; rfl
    have key := unpackItems_tuple (prog := X.prog) (w := X.w) (A := A) (E := NoE) (s := s1) (items := vs.toArray) (Q := fun items s₂ => wpAny (model X.prog X.w) A (assignInOrder ([a, b].reverse.map fun n => bindName env n) items.reverse) (fun _ => PostS X env mem s K .next) NoE s₂) hA.hd ht.is (fun h' hx => ?_)
    · rw [hlen] at key; exact key
    have kp := keep_of_ext hx
    have st2 : Step m1 s1 m1 { s1 with heap := h' } := Step.keep kp
    refine wp_inOrder (fun x v => bindName env x.1 v) (fun x v s Q h => bindName_ h) [(b, pb), (a, pa)] _ [u, t] ρ _ _ (by intro x hx; simp at hx; rcases hx with rfl | rfl <;> assumption) ?_ (ok1.keep kp) (F1.step ok1 st2) fun s3 ok3 F3 st3 => ?_
    · have : Are s1.heap vs.reverse [u, t] := hvs.reverse
      simpa using this.keep (KeepNL.of_keep kp)
    · exact ⟨.next, _, m1, trivial, ok3, F3, StepG.trans (F1.mem_own ok1) (st1.trans st2).toX st3 (F3.mem_own ok3), k1⟩) hs hw

/-- xs[k] = v for a list of the call's -/
theorem ws_setitem {value o i : Expr} {pos' pos : Pos} {K : FV → Vars → Mem → Prop}
    (h : WE X d env ρ mem value (fun pv m => ∃ t, pv = .t t ∧ WE X d env ρ m o (fun a m1 => WE X d env ρ m1 i (fun b m2 => ∃ l ts k, a = .l l ∧ m2 l = some ts ∧ b = .t (.int k) ∧ 0 ≤ k ∧ k < ts.length ∧ k < 2 ^ 63 ∧ K .next ρ (upd m2 l (ts.set k.toNat t))))))
    (hs : swapsWith value (some (.Subscript o i pos')) pos.line env = pure false := by rfl) : WS X d env ρ mem (.Assign [.Subscript o i pos'] value pos) K := .mk fun A s hA ok F =>
  wpAny_Assign_Subscript (h.bind hA ok F fun v pv m1 s1 i1 ok1 F1 st1 ⟨t, e1, h1⟩ => h1.bind hA ok1 F1 fun v2 a m2 s2 i2 ok2 F2 st2 h2 => h2.bind hA ok2 F2 fun v3 b m3 s3 i3 ok3 F3 st3 ⟨l, ts, k, e2, hm, e3, h0, hlt, hfit, hk⟩ => by
    subst e1 e2 e3
    cases i2; cases i3
    have hv : Is s3.heap v t := (IsP.keep ((st2.keepNL ok1).trans (st3.keepNL ok2)) (pv := .t t) i1)
    obtain ⟨_, vs, ⟨n, ho⟩, hvs⟩ := ok3.lst l ts hm
    refine ki_setAt ho h0 hfit (by simp [hvs.length]; exact hlt) ?_
    have hs' : Heap.SameBut l s3.heap (s3.heap.update l (Obj.mapSeq (·.setIfInBounds k.toNat v))) := Heap.SameBut.update ..
    have hset : ∀ {vs : List Value} {ts : List T} (j : Nat), Are s3.heap vs ts → Are s3.heap (vs.set j v) (ts.set j t) := by
      intro vs
      induction vs with
      | nil => intro ts j h; cases h; exact .nil
      | cons x r ih =>
        intro ts j h
        cases h with
        | cons hx hr =>
          cases j with
          | zero => exact .cons hv hr
          | succ j => exact .cons hx (ih j hr)
    obtain ⟨ok4, kn⟩ := ok3.turn hm hs' (vs := vs.set k.toNat v) (plain_update ho (by simp)) (hset k.toNat hvs)
    have st4 : Step m3 s3 (upd m3 l (ts.set k.toNat t)) { s3 with heap := s3.heap.update l (Obj.mapSeq (·.setIfInBounds k.toNat v)), toks := s3.toks } := Step.turn hm hs'
    exact ⟨.next, ρ, _, trivial, ok4, F3.step ok3 st4, (((st1.trans st2).trans st3).trans st4).toX, hk⟩) hs

/-! entering a def -/
theorem bindL_not {kindOf : Str → Option NameKind} {x : Str} : ∀ (binds : List (Str × Value)) (m : Str → Option Value), (∀ y ∈ binds, y.1 ≠ x) → bindL kindOf binds m x = m x
  | [], m, _ => rfl
  | (n, v) :: r, m, h => by
    unfold bindL
    rw [bindL_not r _ fun y hy => h y (List.mem_cons_of_mem _ hy)]
    have hn : x ≠ n := fun e => h (n, v) List.mem_cons_self e.symm
    split
    · simp [hn]
    · rfl
theorem bindC_not {kindOf : Str → Option NameKind} {x : Str} : ∀ (binds : List (Str × Value)) (m : Str → Option Value), (∀ y ∈ binds, y.1 ≠ x) → bindC kindOf binds m x = m x
  | [], m, _ => rfl
  | (n, v) :: r, m, h => by
    unfold bindC
    rw [bindC_not r _ fun y hy => h y (List.mem_cons_of_mem _ hy)]
    have hn : x ≠ n := fun e => h (n, v) List.mem_cons_self e.symm
    split
    · rfl
    · simp [hn]
theorem bindL_at {kindOf : Str → Option NameKind} {x : Str} {v : Value} (hk : kindOf x = some .local) : ∀ (binds : List (Str × Value)) (m : Str → Option Value), (binds.map (·.1)).Nodup → binds.lookup x = some v → bindL kindOf binds m x = some v
  | [], m, _, h => by cases h
  | (n, w) :: r, m, hd, h => by
    rw [List.map_cons, List.nodup_cons] at hd
    unfold bindL
    rw [List.lookup_cons] at h
    by_cases hx : x = n
    · subst hx
      simp only [beq_self_eq_true, Option.some.injEq] at h
      subst h
      rw [bindL_not r _ (fun y hy e => hd.1 (List.mem_map.mpr ⟨y, hy, e⟩)), if_pos hk]
      simp
    · have hb : (x == n) = false := beq_eq_false_iff_ne.mpr hx
      rw [hb] at h
      exact bindL_at hk r _ hd.2 h
theorem bindC_at {kindOf : Str → Option NameKind} {x : Str} {v : Value} (hk : kindOf x ≠ some .local) : ∀ (binds : List (Str × Value)) (m : Str → Option Value), (binds.map (·.1)).Nodup → binds.lookup x = some v → bindC kindOf binds m x = some v
  | [], m, _, h => by cases h
  | (n, w) :: r, m, hd, h => by
    rw [List.map_cons, List.nodup_cons] at hd
    unfold bindC
    rw [List.lookup_cons] at h
    by_cases hx : x = n
    · subst hx
      simp only [beq_self_eq_true, Option.some.injEq] at h
      subst h
      rw [bindC_not r _ (fun y hy e => hd.1 (List.mem_map.mpr ⟨y, hy, e⟩)), if_neg hk]
      simp
    · have hb : (x == n) = false := beq_eq_false_iff_ne.mpr hx
      rw [hb] at h
      exact bindC_at hk r _ hd.2 h

theorem zip_lookup {h : Heap} : ∀ {ns : List Str} {vs : List Value} {pvs : List PV} {x : Str} {pv : PV}, IsPs h vs pvs → (ns.zip pvs).lookup x = some pv → ∃ v, (ns.zip vs).lookup x = some v ∧ IsP h v pv
  | [], vs, pvs, x, pv, _, e => by simp at e
  | n :: ns, _, _, x, pv, .nil, e => by simp at e
  | n :: ns, _, _, x, pv, .cons hv hs, e => by
    simp only [List.zip_cons_cons, List.lookup_cons] at e ⊢
    split
    · rename_i hb
      rw [hb] at e
      simp only [Option.some.injEq] at e
      subst e
      exact ⟨_, rfl, hv⟩
    · rename_i hb
      rw [hb] at e
      exact zip_lookup hs e

theorem zip_nodup : ∀ {ns : List Str} {vs : List Value}, ns.Nodup → ((ns.zip vs).map (·.1)).Nodup
  | [], _, _ => by simp
  | n :: ns, [], _ => by simp
  | n :: ns, v :: vs, h => by
    rw [List.nodup_cons] at h
    simp only [List.zip_cons_cons, List.map_cons, List.nodup_cons]
    refine ⟨fun hm => ?_, zip_nodup h.2⟩
    obtain ⟨⟨a, b⟩, hy, e⟩ := List.mem_map.mp hm
    simp only at e
    subst e
    exact h.1 (List.of_mem_zip hy).1

theorem AOk.deeper {A : Around} (h : AOk A (d + 1)) (env : Env) : AOk (A.deeper env) d :=
  ⟨h.hd, h.gd, by have := h.depth; show A.depth + 1 + d ≤ 700; omega, by have := h.units; show A.units + 3 + 8 * d ≤ 9000; omega⟩

noncomputable abbrev fenv (x : Str) (params : Arguments) (body : List Stmt) (scope : Scope) (pm code doc : Value) (L f : Addr) : Env := callEnvC (docDef x params body scope pm code doc) L f

theorem fn_enter {x : Str} {f : Addr} {params : Arguments} {body : List Stmt} {scope : Scope} {ns : List Str} {pvs : List PV} {K : PV → Mem → Prop} (D : Def X x f params body scope)
    (hbind : ∀ pm code doc, ∀ vs : List Value, vs.length = pvs.length → bindArgs (docDef x params body scope pm code doc) ⟨vs, []⟩ = pure (ns.zip vs))
    (hkind : ∀ n, ∀ y ∈ ns, scope.names.lookup y = some .local ∨ (scope.names.lookup y = some .cell ∧ ((cellsFrom n scope.names []).lookup y).isSome = true)) (hnd : ns.Nodup) (hp : ∀ pv ∈ pvs, pv.plain)
    (h : ∀ pm code doc L, WSs X d (fenv x params body scope pm code doc L f) (ns.zip pvs) mem body (fun fv ρ m => ∃ m', Le m' m ∧ match fv with | .ret pv => K pv m' | .next => K (.t .none) m' | _ => False))
    (hco : scope.isCoroutine = false := by rfl) (hgen : scope.isGenerator = false := by rfl) (hk : scope.kind = .function := by rfl) : OP X (d + 1) (fcall f) pvs mem K := .mk fun A s vs hA ok hv => by
  obtain ⟨o, pm, code, doc, ho, hdat, hcr⟩ := D.at_
  refine wpAny_call (codeAny_call_cells hA.room (ok.base _ _ ho) hdat (X.top.nolimit.keeps ok.base) (hcr.keeps ok.base) rfl (hbind pm code doc vs hv.length) rfl ?_ (fun s1 x1 => ?_) hco hgen hk)
  · rintro ⟨y, w⟩ hy
    exact hkind _ y (List.of_mem_zip hy).1
  · have keep := x1.toInCall.keep
    obtain ⟨h1, tk, e1⟩ := x1.toInCall.same
    have k1 : KeepNL s.heap s1.heap := KeepNL.of_keep keep
    have above : ∀ c, s.heap.objs.size ≤ c → s.heap.get? c = none := fun c hc => by
      cases e : s.heap.get? c with
      | none => rfl
      | some o' => exact absurd (Heap.lt_size e) (Nat.not_lt.mpr hc)
    have base0 : ∀ c, s.heap.get? c = none → X.h₀.get? c = none := fun c hc => by
      cases e : X.h₀.get? c with
      | none => rfl
      | some o' => rw [ok.base _ _ e] at hc; cases hc
    have hfresh : ∀ c, (fenv x params body scope pm code doc s.heap.objs.size f).locals ≤ c → s.heap.get? c = none := fun c hc => above c hc
    have ok1 : Ok X mem s1.heap := ok.keep keep
    have F1 : Loc X (fenv x params body scope pm code doc s.heap.objs.size f) (ns.zip pvs) s1.heap := by
      refine ⟨hk, rfl, rfl, base0 _ (hfresh _ (Nat.le_refl _)), fun n c hc => ⟨base0 _ (hfresh c (Nat.le_of_lt (x1.above n c (mem_of_lookup hc)))), _, x1.cell n c hc⟩, fun n n' c hc hc' => name_of_addr x1.apart (mem_of_lookup hc) (mem_of_lookup hc'), _, x1.toInCall.ns, fun y pv e => ?_⟩
      have hmem : pv ∈ pvs := (List.of_mem_zip (mem_of_lookup e)).2
      obtain ⟨v, hl, hi⟩ := zip_lookup hv e
      refine ⟨hp pv hmem, v, hi.keep k1, ?_⟩
      have hy : y ∈ ns := (List.of_mem_zip (mem_of_lookup e)).1
      have hnd' : ((ns.zip vs).map (·.1)).Nodup := zip_nodup hnd
      rcases hkind (s.heap.objs.size + 1) y hy with hkl | ⟨hkc, hcs⟩
      · exact .inl ⟨hkl, bindL_at hkl _ _ hnd' hl⟩
      · obtain ⟨c, hc⟩ := Option.isSome_iff_exists.mp hcs
        have hnl : (fenv x params body scope pm code doc s.heap.objs.size f).kindOf y ≠ some .local := by
          show scope.names.lookup y ≠ some .local
          rw [hkc]; decide
        refine .inr ⟨.inl hkc, c, hc, ?_⟩
        have := x1.cell y c hc
        rw [bindC_at hnl _ _ hnd' hl] at this
        exact this
    refine wpAny_mono ((h pm code doc s.heap.objs.size).run _ s1 (hA.deeper _) ok1 F1) (fun fl s2 p => ?_) (fun _ _ f => f.elim)
    obtain ⟨fv, ρ2, m2, hf, ok2, F2, st2, m3, hle, hK⟩ := p
    have hstep : Step mem s m3 s2 := by
      refine ⟨by rw [st2.same, e1], fun b o' hb e => st2.ext b o' (fun hown => ?_) hb (keep b o' e), fun b hb => ?_⟩
      · have : s.heap.get? b = none := by
          rcases hown with rfl | ⟨_, n, hn⟩
          · exact hfresh _ (Nat.le_refl _)
          · exact hfresh b (Nat.le_of_lt (x1.above n b (mem_of_lookup hn)))
        rw [this] at e; cases e
      · have hb2 : m2 b ≠ none := by
          cases e : m3 b with
          | none => exact absurd e hb
          | some l => rw [hle _ _ e]; simp
        rcases st2.new b hb2 with h1 | h1
        · exact .inl h1
        · refine .inr ?_
          cases e : s.heap.get? b with
          | none => rfl
          | some o' => rw [keep b o' e] at h1; cases h1
    cases fl <;> cases fv <;> try exact hf.elim
    · exact ⟨_, m3, IsP.t Is.none, ok2.weaken hle, hstep, hK⟩
    · exact hK.elim
    · exact hK.elim
    · exact ⟨_, m3, hf, ok2.weaken hle, hstep, hK⟩

end

section

section
variable {prog : Program} {w : World} {A : Around} {R : Result → Shared → Prop} {s : Shared} {E : Value → Shared → Prop}

theorem compStart_at {elt : Expr} {gens : List Comprehension} {k : Nat} {target iter : Expr} {ifs : List Expr} {scope : Scope} {pos : Pos} {it acc : Value} {env : Env} (hg : gens[k]? = some ⟨target, iter, ifs, 0⟩)
    (h : wpAny (model prog w) A (pyIter it) (fun it' s' => codeAny (model prog w) A (.compLoop (.ListComp elt gens scope pos) k it' acc env) R s') (fun _ _ => False) s)
    (h0 : codeAny (model prog w) A (.compLoop (.ListComp elt gens scope pos) k it acc env) R s) :
    codeAny (model prog w) A (.compStart (.ListComp elt gens scope pos) k it acc env) R s := by
  refine codeAny_of_tree ?_
  show wpAny _ A ((compStart (.ListComp elt gens scope pos) k it acc env).onRaise (fun x => do noteFrame x env; standAt theWindowsPlace)) _ _ s
  refine wpAny_notedAt ?_
  unfold compStart
  simp only [clausesOf, hg]
  show wpAny _ _ (ask >>= _) _ _ s
  refine wpAny_bind (wpAny_askSetting (wpAny_ite ?_))
  split
  · first
      | exact wpAny_bind (wpAny_pure (wpAny_pure (And.intro rfl h0)))
      | exact wpAny_pure (And.intro rfl h0)
  · refine wpAny_bind (wpAny_rule ?_)
    refine wpAny_bind (wpAny_standAt (wpAny_bind (wpAny_mono h (fun it' s' h' => wpAny_pure (And.intro rfl h')) fun _ _ x => x.elim)))

/-- the tests of a clause -/
noncomputable def TestsW (prog : Program) (w : World) (A : Around) (env : Env) (Q : Bool → Shared → Prop) (E : Value → Shared → Prop) : List Expr → Shared → Prop
  | [], s => Q true s
  | c :: r, s => wpAny (model prog w) A (isTrue c env (eval c env)) (fun b s' => if b then TestsW prog w A env Q E r s' else Q false s') E s

theorem forIn_false (env : Env) : ∀ (ifs : List Expr), (forIn ifs false fun c r => if r = true then do let ok ← isTrue c env (eval c env); pure (ForInStep.yield ok) else pure (ForInStep.yield r) : Sem Bool) = pure false
  | [] => by rw [List.forIn_nil]
  | c :: r => by
    rw [List.forIn_cons]
    simp only [Bool.false_eq_true, if_false, pure_bind]
    exact forIn_false env r
theorem wp_tests (env : Env) {Q : Bool → Shared → Prop} : ∀ (ifs : List Expr) (s : Shared), TestsW prog w A env Q E ifs s →
    wpAny (model prog w) A (forIn ifs true fun c r => if r = true then do let ok ← isTrue c env (eval c env); pure (ForInStep.yield ok) else pure (ForInStep.yield r)) Q E s
  | [], s, h => by rw [List.forIn_nil]; exact wpAny_pure h
  | c :: r, s, h => by
    rw [List.forIn_cons]
    simp only [if_true]
    simp only [TestsW] at h
    refine wpAny_bind (wpAny_bind (wpAny_mono h (fun b s' p => ?_) fun _ _ x => x))
    refine wpAny_pure ?_
    cases b with
    | true => exact wp_tests env r s' p
    | false =>
      show wpAny _ _ (forIn r false _) _ _ _
      rw [forIn_false]
      exact wpAny_pure p

theorem compLoop_last {elt : Expr} {gens : List Comprehension} {k : Nat} {target iter : Expr} {ifs : List Expr} {scope : Scope} {pos : Pos} {it acc : Value} {env : Env} (hg : gens[k]? = some ⟨target, iter, ifs, 0⟩)
    (hn : gens[k + 1]? = none)
    (I : Nat → Shared → Prop)
    (turn : ∀ n s, I n s → wpAny (model prog w) A (pyNext it) (fun r s₁ => match r with
      | none => R (.ok .next) s₁
      | some v => wpAny (model prog w) A (letOwnedTupleGo target it v) (fun _ s₂ => wpAny (model prog w) A (assign target env v) (fun _ s₃ =>
          TestsW prog w A env (fun b s₄ => if b then
            wpAny (model prog w) A (eval elt env) (fun x s₅ => wpAny (model prog w) A (call (.builtin "list.append") [acc, x]) (fun _ s₆ => ∃ m, m < n ∧ I m s₆) (fun _ _ => False) s₅) (fun _ _ => False) s₄
            else ∃ m, m < n ∧ I m s₄) (fun _ _ => False) ifs s₃) (fun _ _ => False) s₂) (fun _ _ => False) s₁) (fun _ _ => False) s)
    (n : Nat) (h : I n s) :
    codeAny (model prog w) A (.compLoop (.ListComp elt gens scope pos) k it acc env) R s := by
  refine codeAny_loop rfl I (fun n s hI => ?_) n h
  show wpAny _ A ((compTurn (.ListComp elt gens scope pos) k it acc env).onRaise (fun x => do noteFrame x env; theTreesLotGoes x)) _ _ s
  refine wpAny_noted ?_
  unfold compTurn
  dsimp only
  rw [hg]
  dsimp only
  rw [hn]
  refine wpAny_bind (wpAny_standAt ?_)
  refine wpAny_bind (wpAny_mono (turn n s hI) (fun r s₁ h₁ => ?_) fun _ _ x => x.elim)
  cases r with
  | none => exact wpAny_pure h₁
  | some v =>
    refine wpAny_bind (wpAny_mono h₁ (fun _ s₂ h₂ => ?_) fun _ _ x => x.elim)
    refine wpAny_bind (wpAny_mono h₂ (fun _ s₃ h₃ => ?_) fun _ _ x => x.elim)
    refine wpAny_bind (wpAny_mono (wp_tests env ifs s₃ h₃) (fun b s₄ h₄ => ?_) fun _ _ x => x.elim)
    cases b with
    | false => exact wpAny_pure ⟨rfl, h₄⟩
    | true =>
      exact wpAny_bind (wpAny_bind (wpAny_mono h₄ (fun x s₅ h₅ => wpAny_bind (wpAny_mono h₅ (fun _ s₆ h₆ => wpAny_pure (wpAny_pure ⟨rfl, h₆⟩)) fun _ _ x => x.elim)) fun _ _ x => x.elim))

theorem compLoop_more {elt : Expr} {gens : List Comprehension} {k : Nat} {target iter : Expr} {ifs : List Expr} {scope : Scope} {pos : Pos} {it acc : Value} {env : Env} {target' iter' : Expr} {ifs' : List Expr} (hg : gens[k]? = some ⟨target, iter, ifs, 0⟩)
    (hn : gens[k + 1]? = some ⟨target', iter', ifs', 0⟩) (hs : ∀ x, foldedSetIterable iter' env x = pure x)
    (I : Nat → Shared → Prop)
    (turn : ∀ n s, I n s → wpAny (model prog w) A (pyNext it) (fun r s₁ => match r with
      | none => R (.ok .next) s₁
      | some v => wpAny (model prog w) A (letOwnedTupleGo target it v) (fun _ s₂ => wpAny (model prog w) A (assign target env v) (fun _ s₃ =>
          TestsW prog w A env (fun b s₄ => if b then
            wpAny (model prog w) A (eval iter' env) (fun x s₅ => wpAny (model prog w) A (pyIter x) (fun it' s₆ => codeAny (model prog w) A (.compStart (.ListComp elt gens scope pos) (k + 1) it' acc env) (fun r s₇ => match r with | .ok _ => ∃ m, m < n ∧ I m s₇ | .error _ => False) s₆) (fun _ _ => False) s₅) (fun _ _ => False) s₄
            else ∃ m, m < n ∧ I m s₄) (fun _ _ => False) ifs s₃) (fun _ _ => False) s₂) (fun _ _ => False) s₁) (fun _ _ => False) s)
    (n : Nat) (h : I n s) :
    codeAny (model prog w) A (.compLoop (.ListComp elt gens scope pos) k it acc env) R s := by
  refine codeAny_loop rfl I (fun n s hI => ?_) n h
  show wpAny _ A ((compTurn (.ListComp elt gens scope pos) k it acc env).onRaise (fun x => do noteFrame x env; theTreesLotGoes x)) _ _ s
  refine wpAny_noted ?_
  unfold compTurn
  dsimp only
  rw [hg]
  dsimp only
  rw [hn]
  refine wpAny_bind (wpAny_standAt ?_)
  refine wpAny_bind (wpAny_mono (turn n s hI) (fun r s₁ h₁ => ?_) fun _ _ x => x.elim)
  cases r with
  | none => exact wpAny_pure h₁
  | some v =>
    refine wpAny_bind (wpAny_mono h₁ (fun _ s₂ h₂ => ?_) fun _ _ x => x.elim)
    refine wpAny_bind (wpAny_mono h₂ (fun _ s₃ h₃ => ?_) fun _ _ x => x.elim)
    refine wpAny_bind (wpAny_mono (wp_tests env ifs s₃ h₃) (fun b s₄ h₄ => ?_) fun _ _ x => x.elim)
    cases b with
    | false => exact wpAny_pure ⟨rfl, h₄⟩
    | true =>
      refine wpAny_bind (wpAny_mono h₄ (fun x s₅ h₅ => ?_) fun _ _ x => x.elim)
      refine wpAny_bind (wpAny_standAt ?_)
      refine wpAny_bind (wpAny_of_eq (hs x) ?_)
      refine wpAny_bind (wpAny_holding (wpAny_mono h₅ (fun it' s₆ h₆ => ?_) fun _ _ x => x.elim))
      refine wpAny_bind (wpAny_runOwn (codeAny_mono h₆ fun r s₇ h₇ => ?_))
      cases r with
      | ok f => exact wpAny_pure ⟨rfl, h₇⟩
      | error e => exact h₇.elim
end

end

section

variable {X : Cx} {d : Nat} {env : Env} {ρ : Vars} {mem : Mem}

noncomputable def CT (X : Cx) (d : Nat) (env : Env) : List Expr → Vars → Mem → (Bool → Mem → Prop) → Prop
  | [], ρ, mem, K => K true mem
  | c :: r, ρ, mem, K => WT X d env ρ mem c fun b m => if b then CT X d env r ρ m K else K false m
noncomputable def CI (X : Cx) (d : Nat) (env : Env) (body : Vars → Mem → List T → (Vars → Mem → List T → Prop) → Prop) (target : Expr) (ifs : List Expr) : List T → Vars → Mem → List T → (Vars → Mem → List T → Prop) → Prop
  | [], ρ, mem, acc, K => K ρ mem acc
  | t :: ts, ρ, mem, acc, K => AS X d env ρ mem target t fun ρ1 => CT X d env ifs ρ1 mem fun b m1 =>
      if b then body ρ1 m1 acc (fun ρ2 m2 acc2 => CI X d env body target ifs ts ρ2 m2 acc2 K) else CI X d env body target ifs ts ρ1 m1 acc K
noncomputable def CG (X : Cx) (d : Nat) (env : Env) (elt : Expr) : List Comprehension → Vars → Mem → List T → (Vars → Mem → List T → Prop) → Prop
  | [], ρ, mem, acc, K => WE X d env ρ mem elt fun pv m => ∃ t, pv = .t t ∧ acc.length ≤ sizeLine ∧ K ρ m (acc ++ [t])
  | g :: gs, ρ, mem, acc, K => WE X d env ρ mem g.iter fun pv m => ∃ ts m0, Items m pv ts m0 ∧ CI X d env (CG X d env elt gs) g.target g.ifs ts ρ m0 acc K

theorem Loc.keep3 {h h' : Heap} (F : Loc X env ρ h) (kd : ∀ b o es ep, h.get? b = some o → o.data = .dict es ep → h'.get? b = some o) (kc : ∀ c ov, h.IsCell c ov → h'.IsCell c ov) (kt : ∀ a vs, PTup h a vs → PTup h' a vs) : Loc X env ρ h' := by
  refine ⟨F.kind, F.globals, F.builtins, F.own, fun n c hc => ?_, F.apart, ?_⟩
  · obtain ⟨h1, ov, h2⟩ := F.cown n c hc; exact ⟨h1, ov, kc _ _ h2⟩
  · obtain ⟨m, ⟨o, es, ep, ho, hd, r⟩, hv⟩ := F.vars
    refine ⟨m, ⟨o, es, ep, kd _ _ _ _ ho hd, hd, r⟩, fun y pv e => ?_⟩
    obtain ⟨hp, v, h1, h2⟩ := hv y pv e
    exact ⟨hp, v, h1.own kt hp, h2.keep fun c ov hc _ => kc c ov hc⟩

theorem StepG.out {own : Addr → Prop} {s s2 s' : Shared} {mem0 m' : Mem} {I : Addr} (hI : s.heap.get? I = none) (st : Step mem s mem0 s2) (h4 : StepG (fun b => own b ∨ b = I) mem0 s2 m' s') : StepG own mem s m' s' := by
  refine ⟨by rw [h4.same, st.same], fun b o hn hb e => ?_, fun b hb => ?_⟩
  · have hbI : b ≠ I := by rintro rfl; rw [hI] at e; cases e
    have h0 : mem0 b = none := by
      cases hm : mem0 b with
      | none => rfl
      | some l =>
        rcases st.new b (by rw [hm]; simp) with x | x
        · exact absurd hb x
        · rw [e] at x; cases x
    exact h4.ext b o (fun x => x.elim hn hbI) h0 (st.ext b o hb e)
  · rcases h4.new b hb with x | x
    · exact st.new b x
    · cases hm : mem b with
      | some l => exact .inl (by simp)
      | none =>
        refine .inr ?_
        cases e : s.heap.get? b with
        | none => rfl
        | some o => rw [st.ext b o hm e] at x; cases x

/-- the list that the comprehension fills -/
structure Acc (X : Cx) (env : Env) (D : Addr) (mem : Mem) (h : Heap) (acc : List T) : Prop where
  free : mem D = none
  base : X.h₀.get? D = none
  own : ¬ Own env D
  at_ : ∃ vs : List Value, h.PlainList D vs.toArray ∧ Are h vs acc

theorem Acc.stepX {D : Addr} {acc : List T} {m1 m2 : Mem} {s1 s2 : Shared} (a : Acc X env D m1 s1.heap acc) (ok : Ok X m1 s1.heap) (F : Loc X env ρ s1.heap) (st : StepX env m1 s1 m2 s2) : Acc X env D m2 s2.heap acc := by
  obtain ⟨vs, ⟨n, hl⟩, hv⟩ := a.at_
  refine ⟨?_, a.base, a.own, vs, ⟨n, st.ext D _ a.own a.free hl⟩, Are.mono (fun _ _ p => StepX.tup st ok F p) hv⟩
  cases hm : m2 D with
  | none => rfl
  | some l =>
    rcases st.new D (by rw [hm]; simp) with x | x
    · exact absurd a.free x
    · rw [hl] at x; cases x
theorem Acc.step {D : Addr} {acc : List T} {m1 m2 : Mem} {s1 s2 : Shared} (a : Acc X env D m1 s1.heap acc) (ok : Ok X m1 s1.heap) (F : Loc X env ρ s1.heap) (st : Step m1 s1 m2 s2) : Acc X env D m2 s2.heap acc := a.stepX ok F st.toX

/-- the item laid onto the list -/
theorem Acc.push {A : Around} {D : Addr} {acc : List T} {s : Shared} {v : Value} {t : T} {Q : Value → Shared → Prop} {E : Value → Shared → Prop} (a : Acc X env D mem s.heap acc) (hsz : acc.length ≤ sizeLine) (ok : Ok X mem s.heap) (F : Loc X env ρ s.heap) (hv : Is s.heap v t)
    (k : ∀ h', Ok X mem h' → Loc X env ρ h' → Acc X env D mem h' (acc ++ [t]) → Heap.SameBut D s.heap h' → (∀ a vs, PTup s.heap a vs → PTup h' a vs) → Q .none { s with heap := h' }) : wpAny (model X.prog X.w) A (call (.builtin "list.append") [.ref D, v]) Q E s := by
  obtain ⟨vs, hl, hvs⟩ := a.at_
  refine wpAny_list_append_plain hl (fun h' hl' hs' => ?_) (by rw [List.size_toArray, hvs.length]; exact hsz)
  obtain ⟨n, hD⟩ := id hl
  have kt0 : ∀ b ws, PTup s.heap b ws → b ≠ D := by
    rintro b ws ⟨m, e⟩ rfl
    rw [hD] at e; simp at e
  have kt : ∀ b ws, PTup s.heap b ws → PTup h' b ws := fun b ws p => let ⟨m, e⟩ := p; ⟨m, hs'.extBut _ _ (kt0 b ws p) e⟩
  refine k h' (ok.extBut a.free a.base hs'.extBut kt0) (F.keep3 (fun b o es ep e hd => hs'.extBut b o (by rintro rfl; rw [hD] at e; cases e; cases hd) e) (fun c ov ⟨o, ho, hd⟩ => ⟨o, hs'.extBut c o (by rintro rfl; rw [hD] at ho; cases ho; cases hd) ho, hd⟩) kt)
    ⟨a.free, a.base, a.own, vs ++ [v], by simpa using hl', (Are.mono kt hvs).append (.cons (Is.mono kt hv) .nil)⟩ hs' kt

noncomputable def PostC (X : Cx) (env : Env) (own : Addr → Prop) (D : Addr) (mem : Mem) (s : Shared) (K : Vars → Mem → List T → Prop) (s' : Shared) : Prop :=
  ∃ ρ' m' acc', Ok X m' s'.heap ∧ Loc X env ρ' s'.heap ∧ Acc X env D m' s'.heap acc' ∧ StepG own mem s m' s' ∧ K ρ' m' acc'

theorem wp_CT {A : Around} (hA : AOk A d) {Q : Bool → Shared → Prop} : ∀ (ifs : List Expr) (mem : Mem) (s : Shared) (K : Bool → Mem → Prop), Ok X mem s.heap → Loc X env ρ s.heap → CT X d env ifs ρ mem K →
    (∀ b m1 s1, Ok X m1 s1.heap → Loc X env ρ s1.heap → Step mem s m1 s1 → K b m1 → Q b s1) → TestsW X.prog X.w A env Q (fun _ _ => False) ifs s
  | [], mem, s, K, ok, F, h, k => k true mem s ok F (Step.refl _ _) h
  | c :: r, mem, s, K, ok, F, h, k => by
    simp only [TestsW]
    refine wpAny_mono (WT.run h A s hA ok F) (fun b s1 p => ?_) fun _ _ x => x
    obtain ⟨m1, ok1, st1, h1⟩ := p
    cases b with
    | true => exact wp_CT hA r m1 s1 K ok1 (F.step ok st1) h1 fun b m2 s2 ok2 F2 st2 k2 => k b m2 s2 ok2 F2 (st1.trans st2) k2
    | false => exact k false m1 s1 ok1 (F.step ok st1) st1 h1


structure Clauses (env : Env) (gs : List Comprehension) : Prop where
  sync : ∀ g ∈ gs, g.is_async = 0
  fold : ∀ g ∈ gs, ∀ x, foldedSetIterable g.iter env x = pure x

theorem get_of_drop {gens gs : List Comprehension} {g : Comprehension} {k : Nat} (h : gens.drop k = g :: gs) : gens[k]? = some g ∧ gens.drop (k + 1) = gs := by
  constructor
  · have := congrArg (·[0]?) h
    simpa using this
  · have := congrArg (·.drop 1) h
    simpa [Nat.add_comm] using this
theorem none_of_drop {gens : List Comprehension} {k : Nat} (h : gens.drop k = []) : gens[k]? = none := by
  have := congrArg (·[0]?) h
  simpa using this

noncomputable def OwnD (env : Env) (D : Addr) (b : Addr) : Prop := Own env b ∨ b = D
noncomputable def OwnDI (env : Env) (D I : Addr) (b : Addr) : Prop := OwnD env D b ∨ b = I

noncomputable def CInv (X : Cx) (d : Nat) (env : Env) (body : Vars → Mem → List T → (Vars → Mem → List T → Prop) → Prop) (target : Expr) (ifs : List Expr) (D I : Addr) (ts : List T) (St : Nat → Heap → Prop) (R : Heap → Prop) (mem : Mem) (s : Shared)
    (K : Vars → Mem → List T → Prop) (n : Nat) (s' : Shared) : Prop :=
  ∃ done rest ρ' m' acc', ts = done ++ rest ∧ n = rest.length ∧ St done.length s'.heap ∧ R s'.heap ∧ Ok X m' s'.heap ∧ Loc X env ρ' s'.heap ∧ Acc X env D m' s'.heap acc' ∧ StepG (OwnDI env D I) mem s m' s' ∧ CI X d env body target ifs rest ρ' m' acc' K

theorem comp_turn {A : Around} {body : Vars → Mem → List T → (Vars → Mem → List T → Prop) → Prop} {target : Expr} {ifs : List Expr} {D I : Addr} {fp : List Addr} {ts : List T} {P : Nat → Value → Prop} {St : Nat → Heap → Prop} {R : Heap → Prop} {s : Shared}
    {K : Vars → Mem → List T → Prop} (S : Src X A I fp ts P St R) (hA : AOk A d) (hI0 : X.h₀.get? I = none) (hfp : ∀ b ∈ fp, mem b = none ∧ ¬ Own env b ∧ ∃ o, s.heap.get? b = some o) (hDfp : D ∉ fp)
    (InnerW : (Shared → Prop) → Shared → Prop)
    (hin : ∀ (ρ : Vars) (m : Mem) (s4 : Shared) (acc : List T) (K4 : Vars → Mem → List T → Prop) (J : Shared → Prop), Ok X m s4.heap → Loc X env ρ s4.heap → Acc X env D m s4.heap acc → body ρ m acc K4 → (∀ s', PostC X env (OwnD env D) D m s4 K4 s' → J s') → InnerW J s4)
    (RR : Shared → Prop) (hRR : ∀ s', PostC X env (OwnDI env D I) D mem s K s' → RR s') :
    ∀ n s1, CInv X d env body target ifs D I ts St R mem s K n s1 → wpAny (model X.prog X.w) A (pyNext (.ref I)) (fun r s₁ => match r with
      | none => RR s₁
      | some v => wpAny (model X.prog X.w) A (letOwnedTupleGo target (.ref I) v) (fun _ s₂ => wpAny (model X.prog X.w) A (assign target env v) (fun _ s₃ =>
          TestsW X.prog X.w A env (fun b s₄ => if b then InnerW (fun s₅ => ∃ m, m < n ∧ CInv X d env body target ifs D I ts St R mem s K m s₅) s₄
            else ∃ m, m < n ∧ CInv X d env body target ifs D I ts St R mem s K m s₄) (fun _ _ => False) ifs s₃) (fun _ _ => False) s₂) (fun _ _ => False) s₁) (fun _ _ => False) s1 := by
  rintro n s1 ⟨done, rest, ρ1, m1, acc1, hts, rfl, hst1, hR1, ok1, F1, a1, st1, h1⟩
  have hIfp : I ∈ fp := S.W.sub I (by simp)
  have hDI : D ≠ I := fun e => hDfp (e ▸ hIfp)
  have mfp : ∀ {m2 : Mem} {s2 : Shared}, StepG (OwnDI env D I) mem s m2 s2 → ∀ b ∈ fp, m2 b = none := fun {m2 s2} st b hb => by
    obtain ⟨e1, _, o, e2⟩ := hfp b hb
    cases hm : m2 b with
    | none => rfl
    | some l =>
      rcases st.new b (by rw [hm]; simp) with x | x
      · exact absurd e1 x
      · rw [e2] at x; cases x
  have mown : ∀ {m2 : Mem} {s2 : Shared} {ρ2 : Vars} {acc2 : List T}, (m2 I = none) → Ok X m2 s2.heap → Loc X env ρ2 s2.heap → Acc X env D m2 s2.heap acc2 → ∀ b, OwnDI env D I b → m2 b = none := fun hi ok F a b hb => by
    rcases hb with (hb | rfl) | rfl
    · exact F.mem_own ok b hb
    · exact a.free
    · exact hi
  obtain ⟨oI, nI, vI, hoI, hcI, hdI, hnI⟩ := S.it _ _ hst1
  have mI1 := mfp st1 I hIfp
  have after : ∀ {h' : Heap} {tk : Nat}, (∀ b o, b ∉ [I] → s1.heap.get? b = some o → h'.get? b = some o) → Ok X m1 h' ∧ Loc X env ρ1 h' ∧ Acc X env D m1 h' acc1 ∧ StepG (OwnDI env D I) m1 s1 m1 { s1 with heap := h', toks := tk } ∧ R h' := by
    intro h' tk hk
    have hx : Heap.ExtBut I s1.heap h' := fun b o hb e => hk b o (by simpa using hb) e
    have hkt : ∀ a vs, PTup s1.heap a vs → a ≠ I := by
      rintro a vs ⟨n, e⟩ rfl
      rw [e] at hoI; cases hoI; cases hdI
    have kt : ∀ a vs, PTup s1.heap a vs → PTup h' a vs := fun a vs p => let ⟨n, e⟩ := p; ⟨n, hx _ _ (hkt a vs p) e⟩
    obtain ⟨vs, hl, hv⟩ := a1.at_
    refine ⟨ok1.extBut mI1 hI0 hx hkt, F1.keep fun b o e hf => hx b o (by rintro rfl; rw [e] at hoI; cases hoI; exact hf _ hdI) e, ⟨a1.free, a1.base, a1.own, vs, hl.extBut hx hDI, Are.mono kt hv⟩, ⟨rfl, fun b o hn hb e => hx b o (by rintro rfl; exact hn (.inr rfl)) e, fun _ h => .inl h⟩, S.stb _ _ hR1 kt⟩
  cases rest with
  | nil =>
    have hlen : done.length = ts.length := by rw [hts]; simp
    refine S.W.done s1 _ _ (hlen ▸ hst1) fun h' tk hk => ?_
    obtain ⟨ok2, F2, a2, st2, _⟩ := after (tk := tk) hk
    exact hRR _ ⟨ρ1, m1, acc1, ok2, F2, a2, StepG.trans (mown mI1 ok1 F1 a1) st1 st2 (mown mI1 ok1 F1 a1), h1⟩
  | cons t rest =>
    have hlt : done.length < ts.length := by rw [hts]; simp
    refine S.W.item done.length s1 _ _ hlt hst1 fun v h' tk hPv hst2 hk => ?_
    obtain ⟨ok2, F2, a2, st2, hR2⟩ := after (tk := tk) hk
    have st12 := StepG.trans (mown mI1 ok1 F1 a1) st1 st2 (mown mI1 ok1 F1 a1)
    obtain ⟨t', ht', hv⟩ := S.val _ _ _ hR2 hPv hlt
    have : t' = t := by rw [hts] at ht'; simpa using ht'.symm
    subst this
    obtain ⟨o2, n2, v2, ho2, hc2, hd2, hn2⟩ := S.it _ _ hst2
    refine letGo_fields ho2 hc2 hn2 ?_
    refine wpAny_mono (AS.run h1 A { s1 with heap := h', toks := tk } v hA ok2 F2 hv) (fun _ s3 p => ?_) (fun _ _ f => f.elim)
    obtain ⟨ρ3, ok3, F3, st3, h3⟩ := p
    have a3 : Acc X env D m1 s3.heap acc1 := a2.stepX ok2 F2 st3
    have st3' : StepG (OwnDI env D I) m1 { s1 with heap := h', toks := tk } m1 s3 := st3.more fun b hb => .inl (.inl hb)
    have st13 := StepG.trans (mown (s2 := { s1 with heap := h', toks := tk }) mI1 ok2 F2 a2) st12 st3' (mown mI1 ok3 F3 a3)
    have hI3 : s3.heap.get? I = some o2 := st3.ext I o2 (hfp I hIfp).2.1 mI1 ho2
    -- what holds of any state behind the item
    have fin : ∀ {ρ5 : Vars} {m5 : Mem} {acc5 : List T} {s5 : Shared}, Ok X m5 s5.heap → Loc X env ρ5 s5.heap → Acc X env D m5 s5.heap acc5 → StepG (OwnD env D) m1 s3 m5 s5 → (∀ a vs, PTup s3.heap a vs → PTup s5.heap a vs) →
        CI X d env body target ifs rest ρ5 m5 acc5 K → ∃ m, m < (t' :: rest).length ∧ CInv X d env body target ifs D I ts St R mem s K m s5 := by
      intro ρ5 m5 acc5 s5 ok5 F5 a5 st35 kt5 h5
      have mI5 : m5 I = none := by
        cases hm : m5 I with
        | none => rfl
        | some l =>
          rcases st35.new I (by rw [hm]; simp) with x | x
          · exact absurd mI1 x
          · rw [hI3] at x; cases x
      have st15 := StepG.trans (mown mI1 ok3 F3 a3) st13 (st35.more fun b hb => .inl hb) (mown mI5 ok5 F5 a5)
      refine ⟨rest.length, by simp, done ++ [t'], rest, ρ5, m5, acc5, by simp [hts], rfl, ?_, ?_, ok5, F5, a5, st15, h5⟩
      · rw [List.length_append, List.length_singleton]
        exact S.W.frame _ _ _ hst2 fun b hb o e => st35.ext b o (fun x => x.elim (hfp b hb).2.1 (fun e => hDfp (e ▸ hb))) (mfp st12 b hb) (st3.ext b o (hfp b hb).2.1 (mfp st12 b hb) e)
      · exact S.stb _ _ hR2 fun a vs p => kt5 a vs (StepX.tup st3 ok2 F2 p)
    refine wp_CT hA ifs m1 s3 _ ok3 F3 h3 fun b m4 s4 ok4 F4 st4 h4 => ?_
    have a4 : Acc X env D m4 s4.heap acc1 := a3.step ok3 F3 st4
    have kt34 : ∀ a vs, PTup s3.heap a vs → PTup s4.heap a vs := fun a vs p => (st4.keepNL ok3).tup p
    cases b with
    | false => exact fin ok4 F4 a4 st4.toX kt34 h4
    | true =>
      refine hin ρ3 m4 s4 acc1 _ _ ok4 F4 a4 h4 fun s5 p => ?_
      obtain ⟨ρ5, m5, acc5, ok5, F5, a5, st45, h5⟩ := p
      have mD : ∀ b, OwnD env D b → m4 b = none := fun b hb => by
        rcases hb with hb | rfl
        · exact F4.mem_own ok4 b hb
        · exact a4.free
      have mD5 : ∀ b, OwnD env D b → m5 b = none := fun b hb => by
        rcases hb with hb | rfl
        · exact F5.mem_own ok5 b hb
        · exact a5.free
      have kt45 : ∀ a vs, PTup s4.heap a vs → PTup s5.heap a vs := fun a vs p => by
        have q := p
        obtain ⟨n, e⟩ := p
        refine ⟨n, st45.ext _ _ (fun x => ?_) (ok4.notNL e (show Value.type "tuple" ≠ Value.type "list" by decide)) e⟩
        rcases x with x | rfl
        · exact F4.tup_own q x
        · obtain ⟨vs', ⟨n', hl⟩, _⟩ := a4.at_
          rw [e] at hl; simp at hl
      exact fin ok5 F5 a5 (StepG.trans mD st4.toX st45 mD5) (fun a vs p => kt45 a vs (kt34 a vs p)) h5

theorem wp_compLoop {elt : Expr} {gens : List Comprehension} {scope : Scope} {pos : Pos} {D : Addr} : ∀ (gs : List Comprehension) (g : Comprehension) (k : Nat), gens.drop k = g :: gs → Clauses env (g :: gs) →
    ∀ (A : Around) (s : Shared) (ρ : Vars) (mem : Mem) (acc : List T) (K : Vars → Mem → List T → Prop) (I : Addr) (fp : List Addr) (ts : List T) (P : Nat → Value → Prop) (St : Nat → Heap → Prop) (R : Heap → Prop),
      Src X A I fp ts P St R → AOk A d → Ok X mem s.heap → Loc X env ρ s.heap → St 0 s.heap → R s.heap → X.h₀.get? I = none → (∀ b ∈ fp, mem b = none ∧ ¬ Own env b ∧ ∃ o, s.heap.get? b = some o) → D ∉ fp → Acc X env D mem s.heap acc →
      CI X d env (CG X d env elt gs) g.target g.ifs ts ρ mem acc K →
      codeAny (model X.prog X.w) A (.compLoop (.ListComp elt gens scope pos) k (.ref I) (.ref D) env) (fun r s' => match r with | .ok _ => PostC X env (OwnDI env D I) D mem s K s' | .error _ => False) s := by
  intro gs
  induction gs with
  | nil =>
    intro g k hd hcl A s ρ mem acc K I fp ts P St R S hA ok F hst hR hI0 hfp hDfp hacc h
    obtain ⟨hg, hd1⟩ := get_of_drop hd
    obtain ⟨target, iter, ifs, as⟩ := g
    have has : as = 0 := hcl.sync _ List.mem_cons_self
    subst has
    refine compLoop_last hg (none_of_drop hd1) (CInv X d env (CG X d env elt []) target ifs D I ts St R mem s K)
      (comp_turn S hA hI0 hfp hDfp (fun J s4 => wpAny (model X.prog X.w) A (eval elt env) (fun x s₅ => wpAny (model X.prog X.w) A (call (.builtin "list.append") [.ref D, x]) (fun _ s₆ => J s₆) (fun _ _ => False) s₅) (fun _ _ => False) s4) ?_ _ fun s' p => p) ts.length
      ⟨[], ts, ρ, mem, acc, rfl, rfl, hst, hR, ok, F, hacc, (Step.refl _ _).toX, h⟩
    intro ρ4 m4 s4 acc4 K4 J ok4 F4 a4 h4 hJ
    refine h4.bind hA ok4 F4 fun v pv m5 s5 i5 ok5 F5 st5 ⟨t, e, hsz, k5⟩ => ?_
    subst e
    have a5 := a4.step ok4 F4 st5
    refine a5.push hsz ok5 F5 i5 fun h' ok6 F6 a6 hs' kt => hJ _ ⟨ρ4, m5, _, ok6, F6, a6, ?_, k5⟩
    refine StepG.trans (own := OwnD env D) (fun b hb => ?_) st5.toX (s2 := { s5 with heap := h' }) ⟨rfl, fun b o hn hb e => hs'.extBut b o (fun e => hn (.inr e)) e, fun _ h => .inl h⟩ (fun b hb => ?_) <;>
    · rcases hb with hb | rfl
      · exact F5.mem_own ok5 b hb
      · exact a5.free
  | cons g' gs ih =>
    intro g k hd hcl A s ρ mem acc K I fp ts P St R S hA ok F hst hR hI0 hfp hDfp hacc h
    obtain ⟨hg, hd1⟩ := get_of_drop hd
    obtain ⟨hg', _⟩ := get_of_drop hd1
    obtain ⟨target, iter, ifs, as⟩ := g
    have has : as = 0 := hcl.sync _ List.mem_cons_self
    subst has
    obtain ⟨target', iter', ifs', as'⟩ := g'
    have has' : as' = 0 := hcl.sync _ (List.mem_cons_of_mem _ List.mem_cons_self)
    subst has'
    have hcl' : Clauses env (⟨target', iter', ifs', 0⟩ :: gs) := ⟨fun g hg => hcl.sync g (List.mem_cons_of_mem _ hg), fun g hg => hcl.fold g (List.mem_cons_of_mem _ hg)⟩
    refine compLoop_more hg hg' (hcl'.fold _ List.mem_cons_self) (CInv X d env (CG X d env elt (⟨target', iter', ifs', 0⟩ :: gs)) target ifs D I ts St R mem s K)
      (comp_turn S hA hI0 hfp hDfp (fun J s4 => wpAny (model X.prog X.w) A (eval iter' env) (fun x s₅ => wpAny (model X.prog X.w) A (pyIter x) (fun it' s₆ => codeAny (model X.prog X.w) A (.compStart (.ListComp elt gens scope pos) (k + 1) it' (.ref D) env) (fun r s₇ => match r with | .ok _ => J s₇ | .error _ => False) s₆) (fun _ _ => False) s₅) (fun _ _ => False) s4) ?_ _ fun s' p => p) ts.length
      ⟨[], ts, ρ, mem, acc, rfl, rfl, hst, hR, ok, F, hacc, (Step.refl _ _).toX, h⟩
    intro ρ4 m4 s4 acc4 K4 J ok4 F4 a4 h4 hJ
    refine h4.bind hA ok4 F4 fun v pv m5 s5 i5 ok5 F5 st5 ⟨ts', m0, hit, k5⟩ => ?_
    have a5 := a4.step ok4 F4 st5
    refine wp_iter hA ok5 F5 i5 hit fun I' fp' P' St' R' s6 S' hst' hR' hI' hI0' hfp' hin' ok6 st6 => ?_
    have F6 := F5.step ok5 st6
    have a6 := a5.step ok5 F5 st6
    have hD' : D ∉ fp' := fun hm => by
      obtain ⟨vs, ⟨n, hl⟩, _⟩ := a5.at_
      rcases hin' D hm with e | ⟨ws, m, e⟩ | e
      · rw [e, hI'] at hl; cases hl
      · rw [e] at hl; simp at hl
      · exact e a5.free
    have loop := ih ⟨target', iter', ifs', 0⟩ (k + 1) hd1 hcl' A s6 ρ4 m0 acc4 K4 I' fp' ts' P' St' R' S' hA ok6 F6 hst' hR' hI0' hfp' hD' a6 k5
    have fin : codeAny (model X.prog X.w) A (.compLoop (.ListComp elt gens scope pos) (k + 1) (.ref I') (.ref D) env) (fun r s₇ => match r with | .ok _ => J s₇ | .error _ => False) s6 := by
      refine codeAny_mono loop fun r s7 hr => ?_
      cases r with
      | error e => exact hr.elim
      | ok f =>
        obtain ⟨ρ7, m7, acc7, ok7, F7, a7, st7, k7⟩ := hr
        refine hJ _ ⟨ρ7, m7, acc7, ok7, F7, a7, ?_, k7⟩
        refine StepG.trans (own := OwnD env D) (fun b hb => ?_) st5.toX (StepG.out hI' st6 st7) (fun b hb => ?_)
        · rcases hb with hb | rfl
          · exact F5.mem_own ok5 b hb
          · exact a5.free
        · rcases hb with hb | rfl
          · exact F7.mem_own ok7 b hb
          · exact a7.free
    exact compStart_at hg' (S'.W.self 0 _ _ _ hst' fin) fin

end

section

variable {X : Cx} {d : Nat} {env : Env} {ρ : Vars} {mem : Mem}

/-- what a comprehension's block sees of the block around it -/
structure Inner (env : Env) (scope : Scope) (cl : List (Str × Addr)) (ρ ρc : Vars) : Prop where
  clos : closureFor scope env = pure cl
  cell : ∀ y ∈ scope.names, y.2 ≠ .cell
  kind : scope.kind = .function
  names : ∀ x ∈ scope.names, x.2 = .local → scope.names.lookup x.1 = some .local
  sub : ∀ n c, cl.lookup n = some c → env.cells.lookup n = some c
  vars : ∀ x pv, ρc.lookup x = some pv → ρ.lookup x = some pv ∧ env.kindOf x = some .cell ∧ cl.lookup x = env.cells.lookup x ∧ ((relabel scope env).names.lookup x = some .cell ∨ (relabel scope env).names.lookup x = some .free)

theorem we_comp {elt : Expr} {g : Comprehension} {gs : List Comprehension} {scope : Scope} {pos : Pos} {cl : List (Str × Addr)} {ρc : Vars} {K : PV → Mem → Prop} (N : Inner env scope cl ρ ρc)
    (hcl : ∀ C, Clauses (compEnvC scope cl C env) (g :: gs)) (hs : ∀ x, foldedSetIterable g.iter env x = pure x)
    (h : WE X d env ρ mem g.iter (fun pv m => ∃ ts m0, Items m pv ts m0 ∧ ∀ C, CI X d (compEnvC scope cl C env) (CG X d (compEnvC scope cl C env) elt gs) g.target g.ifs ts ρc m0 [] (fun _ m1 acc => ∃ m2, Le m2 m1 ∧ ∀ a, m2 a = none → K (.l a) (upd m2 a acc)))) :
    WE X d env ρ mem (.ListComp elt (g :: gs) scope pos) K := .mk fun A s hA ok F => by
  obtain ⟨target, iter, ifs, as⟩ := g
  have has : as = 0 := (hcl 0).sync _ List.mem_cons_self
  subst has
  rw [eval_ListComp]
  refine wpAny_comprehension_free (g := ⟨target, iter, ifs, 0⟩) (gs := gs) (cl := cl) rfl hs N.clos N.kind N.names ?_
  show wpAny _ A (eval iter env) _ _ s
  refine h.bind hA ok F fun v pv m1 s1 i1 ok1 F1 st1 ⟨ts, m0, hit, hK⟩ => ?_
  refine wp_iter hA ok1 F1 i1 hit fun I fp P St R s2 S hst hR hI hI0 hfp hin ok2 st2 => ?_
  have F2 := F1.step ok1 st2
  have hf2 := ok2.size_free
  refine wpAny_newObj_type (wpAny_newFunctionEnv N.cell (by intro y hy; simp at hy) (fun h₁ hns₁ hsb₁ => ?_) N.kind)
  dsimp only at hns₁ hsb₁ ⊢
  generalize hH2 : s2.heap.push { cls := .type "list", dict := none, data := .seq ([] : List Value).toArray } = H2 at hns₁ hsb₁ ⊢
  have hC : H2.objs.size = s2.heap.objs.size + 1 := by rw [← hH2, Heap.size_push]
  have hDC : s2.heap.objs.size ≠ H2.objs.size := by rw [hC]; exact Nat.ne_of_lt (Nat.lt_succ_self _)
  have below : ∀ b, b < s2.heap.objs.size → b ≠ H2.objs.size ∧ b ≠ s2.heap.objs.size := fun b hb => ⟨by rw [hC]; exact Nat.ne_of_lt (Nat.lt_succ_of_lt hb), Nat.ne_of_lt hb⟩
  have old : ∀ b o, s2.heap.get? b = some o → h₁.get? b = some o := fun b o e => hsb₁.extBut b o (below b (Heap.lt_size e)).1 (Heap.get?_push_of_some _ (hH2 ▸ Heap.get?_push_of_some _ e))
  have hD1 : h₁.PlainList s2.heap.objs.size ([] : List Value).toArray := ⟨_, hsb₁.extBut _ _ hDC (Heap.get?_push_of_some _ (hH2 ▸ Heap.get?_push_size _ rfl))⟩
  have fresh : ∀ a, s2.heap.objs.size ≤ a → s2.heap.get? a = none := fun a ha => by
    cases e : s2.heap.get? a with
    | none => rfl
    | some o' => exact absurd (Heap.lt_size e) (Nat.not_lt.mpr ha)
  have hC2 : s2.heap.get? H2.objs.size = none := fresh _ (by rw [hC]; exact Nat.le_succ _)
  have base0 : ∀ c, s2.heap.get? c = none → X.h₀.get? c = none := fun c hc => by
    cases e : X.h₀.get? c with
    | none => rfl
    | some o' => rw [ok2.base _ _ e] at hc; cases hc
  have mem0n : ∀ c, s2.heap.get? c = none → m0 c = none := fun c hc => by
    cases e : m0 c with
    | none => rfl
    | some l => obtain ⟨_, vs, ⟨n, ho⟩, _⟩ := ok2.lst c l e; rw [ho] at hc; cases hc
  have st3 : Step m0 s2 m0 { s2 with heap := h₁, toks := s2.toks + 0 } := Step.keep old
  have ok3 : Ok X m0 h₁ := ok2.keep old
  have hcells : ∀ n c, cl.lookup n = some c → ∃ o, s2.heap.get? c = some o := fun n c hc => by
    obtain ⟨_, ov, o, ho, _⟩ := F2.cown n c (N.sub n c hc)
    exact ⟨o, ho⟩
  have Fc : Loc X (compEnvC scope cl H2.objs.size env) ρc h₁ := by
    refine ⟨N.kind, F.globals, F.builtins, base0 _ hC2, fun n c hc => ?_, fun n n' c hc hc' => F.apart n n' c (N.sub _ _ hc) (N.sub _ _ hc'), _, hns₁, fun x pv e => ?_⟩
    · obtain ⟨e1, ov, o, ho, hd⟩ := F2.cown n c (N.sub n c hc)
      exact ⟨e1, ov, o, old _ _ ho, hd⟩
    · obtain ⟨e1, e2, e3, e4⟩ := N.vars x pv e
      obtain ⟨m, _, hv⟩ := F2.vars
      obtain ⟨hp, v, i, va⟩ := hv x pv e1
      refine ⟨hp, v, i.keep (KeepNL.of_keep old), ?_⟩
      rcases va with ⟨va, _⟩ | ⟨_, c, hc, o, ho, hd⟩
      · rw [e2] at va; cases va
      · exact .inr ⟨e4, c, by rw [← hc]; exact e3, o, old _ _ ho, hd⟩
  have hownC : ∀ b, Own (compEnvC scope cl H2.objs.size env) b → b = H2.objs.size := fun b hb => by
    rcases hb with hb | ⟨hf, _⟩
    · exact hb
    · cases hf
  have hfpC : ∀ b ∈ fp, m0 b = none ∧ ¬ Own (compEnvC scope cl H2.objs.size env) b ∧ ∃ o, h₁.get? b = some o := fun b hb => by
    obtain ⟨e1, e2, o, e3⟩ := hfp b hb
    refine ⟨e1, fun hx => ?_, o, old _ _ e3⟩
    rw [hownC b hx, hC2] at e3; cases e3
  have hDfp : s2.heap.objs.size ∉ fp := fun hm => by
    obtain ⟨_, _, o, e⟩ := hfp _ hm
    rw [get_size_none] at e; cases e
  have aC : Acc X (compEnvC scope cl H2.objs.size env) s2.heap.objs.size m0 h₁ [] := by
    exact ⟨hf2.1, hf2.2, fun hx => hDC (hownC _ hx), [], hD1, .nil⟩
  have loop := wp_compLoop (elt := elt) (gens := ⟨target, iter, ifs, 0⟩ :: gs) (scope := scope) (pos := pos) gs ⟨target, iter, ifs, 0⟩ 0 rfl (hcl _) A { s2 with heap := h₁, toks := s2.toks + 0 } ρc m0 [] _ I fp ts P St R S hA ok3 Fc
    (S.W.frame _ _ _ hst fun b _ o e => old b o e) (S.stb _ _ hR fun a vs p => let ⟨n, e⟩ := p; ⟨n, old _ _ e⟩) hI0 hfpC hDfp aC (hK H2.objs.size)
  have fin : codeAny (model X.prog X.w) A (.compLoop (.ListComp elt (⟨target, iter, ifs, 0⟩ :: gs) scope pos) 0 (.ref I) (.ref s2.heap.objs.size) (compEnvC scope cl H2.objs.size env))
      (compPost (model X.prog X.w) A NoE none (Post X mem s K) (.ref s2.heap.objs.size) H2.objs.size) { s2 with heap := h₁, toks := s2.toks + 0 } := by
    refine codeAny_mono loop fun r s4 hr => ?_
    cases r with
    | error e => exact hr.elim
    | ok f =>
      obtain ⟨ρ4, m4, acc4, ok4, F4, a4, st4, m5, hle, k5⟩ := hr
      obtain ⟨mm, hns4, _⟩ := F4.vars
      refine ⟨mm, hns4, fun h'' hs'' => ?_⟩
      have hns4' := hns4
      obtain ⟨oc, es, ep, hoc, hdc, _⟩ := hns4'
      have hCown : Own (compEnvC scope cl H2.objs.size env) H2.objs.size := .inl rfl
      have kt0 : ∀ b ws, PTup s4.heap b ws → b ≠ H2.objs.size := fun b ws p => tup_other p hoc hdc
      have kt : ∀ b ws, PTup s4.heap b ws → PTup h'' b ws := fun b ws p => let ⟨n, e⟩ := p; ⟨n, hs''.extBut _ _ (kt0 b ws p) e⟩
      have mC4 : m4 H2.objs.size = none := F4.mem_own ok4 _ hCown
      have ok5 : Ok X m4 h'' := ok4.extBut mC4 F4.own hs''.extBut kt0
      obtain ⟨vs, hl, hv⟩ := a4.at_
      have hl'' : h''.PlainList s2.heap.objs.size vs.toArray := hl.extBut hs''.extBut hDC
      have ok5' := ok5.weaken hle
      have mD5 : m5 s2.heap.objs.size = none := by
        cases e : m5 s2.heap.objs.size with
        | none => rfl
        | some l => have := a4.free; rw [hle _ _ e] at this; cases this
      have ok6 : Ok X (upd m5 s2.heap.objs.size acc4) h'' := by
        refine ⟨ok5.base, fun a l e => ?_⟩
        by_cases hx : a = s2.heap.objs.size
        · subst hx; rw [upd_same] at e; cases e
          exact ⟨a4.base, vs, hl'', Are.mono kt hv⟩
        · rw [upd_ne hx] at e; exact ok5'.lst a l e
      have st12 := st1.trans st2
      have st123 : Step mem s m0 { s2 with heap := h₁, toks := s2.toks + 0 } := st12.trans st3
      refine ⟨_, _, IsP.l, ok6, ⟨?_, fun b o hb e => ?_, fun b hb => ?_⟩, k5 _ mD5⟩
      · show ({ s4 with heap := h'' } : Shared) = { s with heap := h'', toks := s4.toks }
        have := st4.same
        rw [st123.same] at this
        rw [this]
      · have e2 : s2.heap.get? b = some o := st12.ext b o hb e
        have h0 : m0 b = none := by
          cases hm : m0 b with
          | none => rfl
          | some l =>
            rcases st12.new b (by rw [hm]; simp) with x | x
            · exact absurd hb x
            · rw [e] at x; cases x
        have hbC : b ≠ H2.objs.size := by rintro rfl; rw [hC2] at e2; cases e2
        have hbD : b ≠ s2.heap.objs.size := by rintro rfl; rw [get_size_none] at e2; cases e2
        have e1 : s1.heap.get? b = some o := st1.ext b o hb e
        have hbI : b ≠ I := by rintro rfl; rw [hI] at e1; cases e1
        refine hs''.extBut b o hbC (st4.ext b o (fun hx => ?_) h0 (old b o e2))
        rcases hx with (hx | hx) | hx
        · exact hbC (hownC b hx)
        · exact hbD hx
        · exact hbI hx
      · by_cases hx : b = s2.heap.objs.size
        · subst hx
          cases hm : mem s2.heap.objs.size with
          | some l => exact .inl (by simp)
          | none =>
            refine .inr ?_
            cases e : s.heap.get? s2.heap.objs.size with
            | none => rfl
            | some o => have := st12.ext _ o hm e; rw [get_size_none] at this; cases this
        · rw [upd_ne hx] at hb
          have hb4 : m4 b ≠ none := by
            cases e : m5 b with
            | none => exact absurd e hb
            | some l => rw [hle _ _ e]; simp
          rcases st4.new b hb4 with x | x
          · exact st12.new b x
          · cases hm : mem b with
            | some l => exact .inl (by simp)
            | none =>
              refine .inr ?_
              cases e : s.heap.get? b with
              | none => rfl
              | some o => have := old b o (st12.ext b o hm e); rw [this] at x; cases x
  exact compStart_at (target := target) (iter := iter) (ifs := ifs) rfl (S.W.self 0 _ _ _ (S.W.frame _ _ _ hst fun b _ o e => old b o e) fin) fin

/-- the last statement of a block -/
theorem wss_one {st : Stmt} {K : FV → Vars → Mem → Prop} (h : WS X d env ρ mem st K) : WSs X d env ρ mem [st] K :=
  wss_cons (h.drop fun fv ρ m k => ⟨ρ, m, fun _ _ e => e, Le.refl m, by
    cases fv with
    | next => exact wss_nil k
    | _ => exact k⟩)

end

section
variable {X : Cx} {d : Nat} {env : Env} {ρ : Vars} {mem : Mem}

/-! plain expressions (names, written constants, tuples of such), read off at once -/
noncomputable def pvC : Const → Option PV
  | .str x => some (.t (.str x))
  | .int i => some (.t (.int i))
  | .bool b => some (.t (.bool b))
  | .none => some (.t .none)
  | _ => none
noncomputable def tr2 (t : T) : Option (List T) → Option (List T)
  | some ts => some (t :: ts)
  | none => none
noncomputable def trees : List PV → Option (List T)
  | [] => some []
  | .t t :: r => tr2 t (trees r)
  | _ :: _ => none
noncomputable def pvT : Option (List T) → Option PV
  | some ts => bif Nat.ble ts.length 100 then some (.t (.tup ts)) else none
  | none => none
noncomputable def pvU : Option (List PV) → Option (List T)
  | some ps => trees ps
  | none => none
noncomputable def pv2 : Option PV → Option (List PV) → Option (List PV)
  | some p, some ps => some (p :: ps)
  | _, _ => none
noncomputable def pvM (f : Expr → Option PV) : List Expr → Option (List PV)
  | [] => some []
  | e :: r => pv2 (f e) (pvM f r)
noncomputable def pvN (ρ : Vars) (x : Str) : Option PV := bif (x == ("__debug__" : Str)) || (x == ("__classdict__" : Str)) then none else ρ.lookup x
noncomputable def pvE (ρ : Vars) (f : Expr → Option PV) : Expr → Option PV
  | .Name x _ => pvN ρ x
  | .Constant c _ _ => pvC c
  | .Tuple es _ _ => pvT (pvU (pvM f es))
  | _ => none
noncomputable def pv1 (ρ : Vars) (n : Nat) : Expr → Option PV := Nat.rec (fun _ => none) (fun _ f => pvE ρ f) n

theorem no_some {α : Type} {x : α} (h : (none : Option α) = some x) : False := Option.noConfusion rfl (heq_of_eq h)
theorem trees_eq : ∀ {ps : List PV} {ts : List T}, trees ps = some ts → Trees ps = some ts
  | [], _, h => h
  | .t t :: r, ts, h => by
    unfold trees tr2 at h
    split at h
    · rename_i us e
      cases h
      rw [Trees, trees_eq e]; rfl
    · cases h
  | .l _ :: _, _, h => by cases h
  | .ty _ :: _, _, h => by cases h
  | .ob _ :: _, _, h => by cases h

theorem wes_pvM {f : Expr → Option PV} (hf : ∀ (e : Expr) (pv : PV), f e = some pv → (∀ K : PV → Mem → Prop, K pv mem → WE X d env ρ mem e K) ∧ ∀ r, starEach (e :: r) env = (false, eval e env) :: starEach r env) :
    ∀ {es : List Expr} {pvs : List PV} {K : List PV → Mem → Prop}, pvM f es = some pvs → K pvs mem → WEs X d env ρ mem es K
  | [], _, K, h, k => by cases h; exact wes_nil k
  | e :: r, pvs, K, h, k => by
    unfold pvM pv2 at h
    split at h
    · rename_i p ps h1 h2
      cases h
      exact wes_cons ((hf e p h1).1 _ (wes_pvM hf h2 k)) ((hf e p h1).2 r)
    · cases h

noncomputable abbrev Plain (X : Cx) (d : Nat) (env : Env) (ρ : Vars) (mem : Mem) (e : Expr) (pv : PV) : Prop := (∀ K : PV → Mem → Prop, K pv mem → WE X d env ρ mem e K) ∧ ∀ r, starEach (e :: r) env = (false, eval e env) :: starEach r env
theorem we_pvC {c : Const} {n : Nat} {p : Pos} {pv : PV} (h : pvC c = some pv) : Plain X d env ρ mem (.Constant c n p) pv := by
  refine ⟨fun K k => ?_, fun _ => rfl⟩
  cases c with
  | str x => cases h; exact we_str k
  | int i => cases h; exact we_int k
  | bool b => cases h; exact we_bool k
  | none => cases h; exact we_none k
  | _ => exact (no_some h).elim
theorem we_pvN {x : Str} {p : Pos} {pv : PV} (h : pvN ρ x = some pv) : Plain X d env ρ mem (.Name x p) pv := by
  refine ⟨fun K k => ?_, fun _ => rfl⟩
  unfold pvN at h
  cases hx : ((x == ("__debug__" : Str)) || (x == ("__classdict__" : Str))) with
  | true => rw [hx] at h; exact (no_some h).elim
  | false =>
    rw [hx] at h
    obtain ⟨h1, h2⟩ := Bool.or_eq_false_iff.mp hx
    exact we_name h k h1 h2
theorem we_pvT {f : Expr → Option PV} (hf : ∀ (e : Expr) (pv : PV), f e = some pv → Plain X d env ρ mem e pv) {es : List Expr} {n : Nat} {p : Pos} {pv : PV} (h : pvT (pvU (pvM f es)) = some pv) : Plain X d env ρ mem (.Tuple es n p) pv := by
  refine ⟨fun K k => we_tuple ?_, fun _ => rfl⟩
  cases hm : pvM f es with
  | none => rw [hm] at h; exact (no_some h).elim
  | some ps =>
    rw [hm] at h
    refine wes_pvM hf hm ?_
    cases ht : trees ps with
    | none => rw [show pvU (some ps) = none from ht] at h; exact (no_some h).elim
    | some ts =>
      rw [show pvU (some ps) = some ts from ht] at h
      replace h : (bif Nat.ble ts.length 100 then some (PV.t (.tup ts)) else none) = some pv := h
      cases hb : Nat.ble ts.length 100 with
      | false => rw [hb] at h; exact (no_some h).elim
      | true =>
        rw [hb] at h
        cases h
        exact ⟨ts, trees_eq ht, Nat.le_trans (Nat.le_of_ble_eq_true hb) (Nat.le_of_ble_eq_true rfl), k⟩
theorem we_pv1 (n : Nat) : ∀ (e : Expr) (pv : PV), pv1 ρ n e = some pv → Plain X d env ρ mem e pv := by
  induction n with
  | zero => intro e pv h; exact (no_some h).elim
  | succ n ih =>
    intro e pv h
    replace h : pvE ρ (pv1 ρ n) e = some pv := h
    cases e with
    | Name x p => exact we_pvN h
    | Constant c q p => exact we_pvC h
    | Tuple es q p => exact we_pvT ih h
    | _ => exact (no_some h).elim

/-- plain arguments at once -/
theorem wes_pv {es : List Expr} {pvs : List PV} {K : List PV → Mem → Prop} (h : pvM (pv1 ρ 9) es = some pvs) (k : K pvs mem) : WEs X d env ρ mem es K := wes_pvM (we_pv1 9) h k
/-- a plain tuple at once -/
theorem we_tupV {es : List Expr} {n : Nat} {pos : Pos} {pv : PV} {K : PV → Mem → Prop} (h : pv1 ρ 9 (.Tuple es n pos) = some pv) (k : K pv mem) : WE X d env ρ mem (.Tuple es n pos) K := (we_pv1 9 _ _ h).1 K k
/-- a display of plain trees at once -/
theorem we_listV {es : List Expr} {pos : Pos} {ts : List T} {K : PV → Mem → Prop} (h : pvU (pvM (pv1 ρ 9) es) = some ts) (hl : Nat.ble ts.length 100 = true) (k : ∀ a, mem a = none → K (.l a) (upd mem a ts)) : WE X d env ρ mem (.List es pos) K := by
  cases hm : pvM (pv1 ρ 9) es with
  | none => rw [hm] at h; cases h
  | some ps =>
    rw [hm] at h
    exact we_list (wes_pv hm ⟨ts, trees_eq h, Nat.le_trans (Nat.le_of_ble_eq_true hl) (Nat.le_of_ble_eq_true rfl), k⟩)

/-- an iterable that is no set display is handed on as it is -/
noncomputable def notSet : Expr → Bool
  | .Set _ _ _ => false
  | _ => true
theorem folded_of {e : Expr} {env : Env} (h : notSet e = true) (x : Value) : foldedSetIterable e env x = pure x := by
  cases e <;> first | rfl | cases h
theorem folded_all {gs : List Comprehension} {E : Addr → Env} (h : gs.all (fun g => notSet g.iter) = true) (C : Addr) : ∀ g' ∈ gs, ∀ x, foldedSetIterable g'.iter (E C) x = pure x :=
  fun g hg x => folded_of (List.all_eq_true.mp h g hg) x

end

section

/-! dict displays of written texts -/
section
variable {prog : Program} {w : World} {A : Around} {E : Value → Shared → Prop}

/-- a tree that gives that text -/
noncomputable def CP (prog : Program) (w : World) (A : Around) (k : Sem Value) (x : Str) : Prop :=
  ∀ (s : Shared) (Q : Value → Shared → Prop) (E : Value → Shared → Prop), (∀ t n, Q (.str x t) { s with toks := n }) → wpAny (model prog w) A k Q E s
inductive CPs (prog : Program) (w : World) (A : Around) : List (Sem Value × Sem Value) → List (Str × Str) → Prop
  | nil : CPs prog w A [] []
  | cons {k v : Sem Value} {x y : Str} {ps : List (Sem Value × Sem Value)} {xs : List (Str × Str)} (hk : CP prog w A k x) (hv : CP prog w A v y) (hs : CPs prog w A ps xs) : CPs prog w A ((k, v) :: ps) ((x, y) :: xs)
theorem CPs.length {ps : List (Sem Value × Sem Value)} {xs : List (Str × Str)} (h : CPs prog w A ps xs) : ps.length = xs.length := by
  induction h with
  | nil => rfl
  | cons _ _ _ ih => simp [ih]
theorem CPs.append {ps qs : List (Sem Value × Sem Value)} {xs ys : List (Str × Str)} (h : CPs prog w A ps xs) (h2 : CPs prog w A qs ys) : CPs prog w A (ps ++ qs) (xs ++ ys) := by
  induction h with
  | nil => exact h2
  | cons hk hv _ ih => exact .cons hk hv ih

/-- the values of a table of texts -/
inductive KVs : List (Str × Value) → List (Str × Str) → Prop
  | nil : KVs [] []
  | cons {x y : Str} {t : Tok} {kvs : List (Str × Value)} {xs : List (Str × Str)} (hs : KVs kvs xs) : KVs ((x, .str y t) :: kvs) ((x, y) :: xs)
theorem KVs.keys {kvs : List (Str × Value)} {xs : List (Str × Str)} (h : KVs kvs xs) : kvs.map (·.1) = xs.map (·.1) := by
  induction h with
  | nil => rfl
  | cons _ ih => simp [ih]
theorem KVs.length {kvs : List (Str × Value)} {xs : List (Str × Str)} (h : KVs kvs xs) : kvs.length = xs.length := by
  have := congrArg List.length h.keys; simpa using this
theorem KVs.append {kvs kvs2 : List (Str × Value)} {xs ys : List (Str × Str)} (h : KVs kvs xs) (h2 : KVs kvs2 ys) : KVs (kvs ++ kvs2) (xs ++ ys) := by
  induction h with
  | nil => exact h2
  | cons _ ih => exact .cons ih
theorem KVs.snoc {kvs : List (Str × Value)} {xs : List (Str × Str)} (h : KVs kvs xs) (x y : Str) (t : Tok) : KVs (kvs ++ [(x, .str y t)]) (xs ++ [(x, y)]) := h.append (.cons .nil)

theorem stored_fresh {kvs : List (Str × Value)} {k : Str} {v : Value} (h : k ∉ kvs.map (·.1)) : stored kvs k v = kvs ++ [(k, v)] := by
  have hany : ¬ (kvs.any fun kv => decide (kv.1 = k)) = true := by
    rw [List.any_eq_true]; rintro ⟨kv, hkv, he⟩
    exact h (List.mem_map.mpr ⟨kv, hkv, of_decide_eq_true he⟩)
  unfold stored; rw [if_neg hany]

/-- a dict at d that holds those texts -/
noncomputable def DAt (prog : Program) (w : World) (h : Heap) (d : Addr) (xs : List (Str × Str)) : Prop := ∃ kvs, h.DictOf (strKind prog w) d kvs ∧ KVs kvs xs

theorem wp_put1 {d : Addr} {xs : List (Str × Str)} {x y : Str} {t u : Tok} {s : Shared} {Q : Unit → Shared → Prop} (hd : DAt prog w s.heap d xs) (hn : x ∉ xs.map (·.1)) (hsz : xs.length ≤ sizeLine)
    (k : ∀ h' n, DAt prog w h' d (xs ++ [(x, y)]) → Heap.SameBut d s.heap h' → Q () { s with heap := h', toks := n }) : wpAny (model prog w) A (dictSet d (.str x t) (.str y u)) Q E s := by
  obtain ⟨kvs, hk, hv⟩ := hd
  refine wpAny_dictSet_pairs (strKind_is _ _ _ _) hk (fun h' hk' hs' => k h' _ ⟨_, ?_, hv.snoc x y u⟩ hs') (by rw [hv.length]; exact hsz)
  rw [stored_fresh (by rw [hv.keys]; exact hn)] at hk'
  exact hk'

theorem nodup_mid {xs ys : List (Str × Str)} {x y : Str} (h : ((xs ++ (x, y) :: ys).map (·.1)).Nodup) : x ∉ xs.map (·.1) ∧ (((xs ++ [(x, y)]) ++ ys).map (·.1)).Nodup := by
  constructor
  · intro hm
    simp only [List.map_append, List.map_cons] at h
    exact (List.nodup_append.mp h).2.2 x hm x List.mem_cons_self rfl
  · simpa using h

theorem wp_putLong {d : Addr} : ∀ {ps : List (Sem Value × Sem Value)} {ys : List (Str × Str)}, CPs prog w A ps ys → ∀ (xs : List (Str × Str)) (s : Shared) (Q : PUnit → Shared → Prop), DAt prog w s.heap d xs → ((xs ++ ys).map (·.1)).Nodup → xs.length + ys.length ≤ sizeLine →
    (∀ h' n, DAt prog w h' d (xs ++ ys) → Heap.SameBut d s.heap h' → Q PUnit.unit { s with heap := h', toks := n }) →
    wpAny (model prog w) A (forIn ps PUnit.unit fun (x : Sem Value × Sem Value) (_ : PUnit) => (do let kv ← x.1; let vv ← holding [kv] x.2; holding [kv, vv] (dictSet d kv vv); pure (ForInStep.yield PUnit.unit) : Sem (ForInStep PUnit))) Q E s := by
  intro ps ys hc
  induction hc with
  | nil => intro xs s Q hd hn hsz k; rw [List.forIn_nil]; exact wpAny_pure (k s.heap s.toks (by simpa using hd) (Heap.SameBut.refl _ _))
  | @cons kt vt x y ps ys hk hv hs ih =>
    intro xs s Q hd hn hsz k
    rw [List.length_cons] at hsz
    rw [List.forIn_cons]
    obtain ⟨h1, h2⟩ := nodup_mid hn
    refine wpAny_bind (wpAny_bind (hk _ _ _ fun t n => wpAny_bind (wpAny_holding (hv _ _ _ fun u n2 => wpAny_bind (wpAny_holding (wp_put1 (s := { s with toks := n2 }) hd h1 (by omega) fun h' n3 hd' hs' => wpAny_pure ?_))))))
    refine ih (xs ++ [(x, y)]) _ _ hd' h2 (by rw [List.length_append, List.length_singleton]; omega) fun h'' n4 hd'' hs'' => ?_
    exact k h'' n4 (by simpa using hd'') (hs'.trans hs'')

theorem wp_evalPairs : ∀ {ps : List (Sem Value × Sem Value)} {ys : List (Str × Str)}, CPs prog w A ps ys → ∀ (s : Shared) (Q : List (Value × Value) → Shared → Prop),
    (∀ vs n, (∃ ts : List (Tok × Tok), ts.length = ys.length ∧ vs = (ys.zip ts).map fun p => (Value.str p.1.1 p.2.1, Value.str p.1.2 p.2.2)) → Q vs { s with toks := n }) → wpAny (model prog w) A (evalPairs ps) Q E s := by
  intro ps ys hc
  induction hc with
  | nil => intro s Q k; exact evalPairs_nil (k [] s.toks ⟨[], rfl, rfl⟩)
  | @cons kt vt x y ps ys hk hv hs ih =>
    intro s Q k
    refine evalPairs_cons (hk _ _ _ fun t n => hv _ _ _ fun u n2 => ih _ _ fun vs n3 hvs => ?_)
    obtain ⟨ts, hl, rfl⟩ := hvs
    exact k _ n3 ⟨(t, u) :: ts, by simp [hl], by simp⟩

theorem wp_putShort {d : Addr} : ∀ (ys : List (Str × Str)) (ts : List (Tok × Tok)), ts.length = ys.length → ∀ (xs : List (Str × Str)) (s : Shared) (Q : PUnit → Shared → Prop), DAt prog w s.heap d xs → ((xs ++ ys).map (·.1)).Nodup → xs.length + ys.length ≤ sizeLine →
    (∀ h' n, DAt prog w h' d (xs ++ ys) → Heap.SameBut d s.heap h' → Q PUnit.unit { s with heap := h', toks := n }) →
    wpAny (model prog w) A (forIn ((ys.zip ts).map fun p => (Value.str p.1.1 p.2.1, Value.str p.1.2 p.2.2)) PUnit.unit fun (x : Value × Value) (_ : PUnit) => (do dictSet d x.1 x.2; pure (ForInStep.yield PUnit.unit) : Sem (ForInStep PUnit))) Q E s
  | [], [], _, xs, s, Q, hd, hn, hsz, k => by
    simp only [List.zip_nil_left, List.map_nil]
    rw [List.forIn_nil]; exact wpAny_pure (k s.heap s.toks (by simpa using hd) (Heap.SameBut.refl _ _))
  | (x, y) :: ys, (t, u) :: ts, hl, xs, s, Q, hd, hn, hsz, k => by
    rw [List.length_cons] at hsz
    simp only [List.zip_cons_cons, List.map_cons]
    rw [List.forIn_cons]
    obtain ⟨h1, h2⟩ := nodup_mid hn
    refine wpAny_bind (wpAny_bind (wp_put1 hd h1 (by omega) fun h' n3 hd' hs' => wpAny_pure ?_))
    refine wp_putShort ys ts (by simpa using hl) (xs ++ [(x, y)]) _ _ hd' h2 (by rw [List.length_append, List.length_singleton]; omega) fun h'' n4 hd'' hs'' => ?_
    exact k h'' n4 (by simpa using hd'') (hs'.trans hs'')

theorem DAt.nil (h : Heap) : DAt prog w (h.push { cls := .type "dict", data := .dict #[] }) h.objs.size [] :=
  ⟨[], ⟨_, #[], 0, Heap.get?_push_size _ rfl, ⟨rfl, rfl, rfl⟩, rfl, (by intro e he; simp at he), .nil, by simp⟩, .nil⟩

theorem wp_subDict {ps : List (Sem Value × Sem Value)} {ys : List (Str × Str)} (hc : CPs prog w A ps ys) (hn : (ys.map (·.1)).Nodup) (hsz : ys.length ≤ sizeLine) {s : Shared} {Q : Addr → Shared → Prop}
    (k : ∀ h' n, DAt prog w h' s.heap.objs.size ys → (∀ b o, s.heap.get? b = some o → h'.get? b = some o) → Q s.heap.objs.size { s with heap := h', toks := n }) : wpAny (model prog w) A (subDict ps) Q E s := by
  have keep : ∀ {h' : Heap}, Heap.SameBut s.heap.objs.size (s.heap.push { cls := .type "dict", data := .dict #[] }) h' → ∀ b o, s.heap.get? b = some o → h'.get? b = some o := fun hs b o e =>
    hs.extBut b o (Nat.ne_of_lt (Heap.lt_size e)) (Heap.get?_push_of_some _ e)
  unfold subDict
  refine wpAny_bind (wpAny_alloc ?_)
  refine wpAny_bind (wpAny_holding ?_)
  split
  · refine wpAny_bind (wp_evalPairs hc _ _ fun vs n hvs => ?_)
    obtain ⟨ts, hl, rfl⟩ := hvs
    refine wpAny_holding (wpAny_bind (wp_putShort ys ts hl [] _ _ (DAt.nil s.heap) (by simpa using hn) (by simpa using hsz) fun h' n hd' hs' => wpAny_pure (wpAny_pure (k h' n (by simpa using hd') (keep hs')))))
  · refine wpAny_bind (wpAny_rule ?_)
    refine wpAny_bind (wp_putLong hc [] _ _ (DAt.nil s.heap) (by simpa using hn) (by simpa using hsz) fun h' n hd' hs' => wpAny_pure (wpAny_pure (k h' n (by simpa using hd') (keep hs'))))

theorem wp_dictPut {d : Addr} {kvs : List (Str × Value)} {x : Str} {key v : Value} {s : Shared} {Q : Unit → Shared → Prop} (hkey : (strKind prog w).is x key = true) (hm : s.heap.DictOf (strKind prog w) d kvs) (hn : x ∉ kvs.map (·.1)) (hsz : kvs.length ≤ sizeLine)
    (k : ∀ h', h'.DictOf (strKind prog w) d (kvs ++ [(x, v)]) → Heap.SameBut d s.heap h' → Q () { s with heap := h' }) : wpAny (model prog w) A (dictPut d ((strKind prog w).hash x) key v) Q E s := by
  obtain ⟨o, es, ep, ho, hc, hd, hk, hp, hnd⟩ := hm
  have hes : es.size ≤ sizeLine := by have e1 := hp.length; have e2 : es.toList.length = es.size := by simp
                                      omega
  have hidx : (es.findIdx? fun e => (strKind prog w).is x e.key) = kvs.findIdx? fun kv => decide (kv.1 = x) := by
    rw [← hp.findIdx x]; obtain ⟨l⟩ := es; simp
  have hnone : (es.findIdx? fun e => (strKind prog w).is x e.key) = none := by
    rw [hidx, List.findIdx?_eq_none_iff]
    intro kv hkv
    simp only [decide_eq_false_iff_not]
    intro e; exact hn (List.mem_map.mpr ⟨kv, hkv, e⟩)
  unfold dictPut
  refine wpAny_bind (wpAny_dictFind_of hkey ho hd hk ?_)
  rw [hnone]
  refine wpAny_updateDictKeys (hz := hes) ho hd (k _ ⟨_, _, ep + 1, Heap.get?_update_self _ ho (Obj.isFreed_of_dict (Obj.data_mapDictKeys hd _)),
      hc.mapDictKeys _, Obj.data_mapDictKeys hd _, hk.push hkey _, ?_, ?_⟩ (Heap.SameBut.update ..))
  · have := hp.append hkey ((strKind prog w).hash x) v
    obtain ⟨l⟩ := es
    simpa using this
  · rw [List.map_append, List.nodup_append]
    refine ⟨hnd, by simp, ?_⟩
    intro a ha b hb
    simp only [List.map_cons, List.map_nil, List.mem_singleton] at hb
    subst hb
    exact fun e => hn (e ▸ ha)

theorem KVs.get {kvs : List (Str × Value)} {xs : List (Str × Str)} (h : KVs kvs xs) : ∀ {i : Nat} {x y : Str}, xs[i]? = some (x, y) → ∃ t, kvs[i]? = some (x, .str y t) := by
  induction h with
  | nil => intro i x y e; simp at e
  | cons _ ih =>
    intro i x y e
    cases i with
    | zero => simp at e; obtain ⟨rfl, rfl⟩ := e; exact ⟨_, rfl⟩
    | succ i => simpa using ih (by simpa using e)

theorem wp_merge {d a : Addr} {xs ys : List (Str × Str)} {s : Shared} {Q : Unit → Shared → Prop} (hda : d ≠ a) (haS : (a == sysModules) = false) (hd : DAt prog w s.heap d xs) (ha : DAt prog w s.heap a ys) (hne : xs ≠ []) (hn : ((xs ++ ys).map (·.1)).Nodup) (hsz : xs.length + ys.length ≤ sizeLine)
    (k : ∀ h', DAt prog w h' d (xs ++ ys) → Heap.SameBut d s.heap h' → Q () { s with heap := h' }) : wpAny (model prog w) A (mergeMapping d (.ref a) false) Q E s := by
  obtain ⟨ka, ha1, ha2⟩ := ha
  obtain ⟨kd, hd1, hd2⟩ := hd
  obtain ⟨oa, esa, epa, hoa, hca, hda', hka, hpa, hna⟩ := id ha1
  obtain ⟨od, esd, epd, hod, hcd, hdd, hkd, hpd, hnd⟩ := id hd1
  have hT : s.TypeIs (.ref a) "dict" := ⟨oa, hoa, hca.1⟩
  have hlen : ys.length = esa.size := by rw [← ha2.length, ← hpa.length]; simp
  unfold mergeMapping
  refine wpAny_bind (m := isInstance (.ref a) (.type "dict")) (wpAny_isInstance hT PySem.F.sub_dict_dict ?_)
  rw [if_pos rfl]
  refine wpAny_bind (m := specialOf (.ref a) (Str.ofString "__iter__")) (wpAny_specialOf (name := Str.ofString "__iter__") hT PySem.F.slot_dict_iter.lookup ?_)
  refine wpAny_bind (wpAny_pure ?_)
  rw [show (some (Value.builtin "dict.__iter__") == some (Value.builtin "dict.__iter__")) = true by decide]
  dsimp only
  rw [haS]
  simp only [Bool.false_eq_true, if_false]
  refine wpAny_bind (wpAny_dictEntries hod hdd ?_)
  have hemp : esd.isEmpty = false := by
    have e1 := hpd.length
    have e2 := hd2.length
    cases hx : esd.isEmpty with
    | false => rfl
    | true =>
      have h0 : esd = #[] := Array.isEmpty_iff.mp hx
      rw [h0] at e1
      exact absurd (List.length_eq_zero_iff.mp (by rw [← e2, ← e1]; rfl)) hne
  rw [hemp]
  simp only [Bool.false_eq_true, if_false]
  refine wpAny_bind (wpAny_dictEntries hoa hda' ?_)
  refine wpAny_bind (wpAny_dictEpoch hoa hda' ?_)
  refine wpAny_bind ?_
  refine wpAny_forIn_list _
    (fun rest _ s' => ∃ h' i, s' = { s with heap := h' } ∧ rest = List.range' i (esa.size - i) ∧ i ≤ esa.size ∧ (∃ kv, h'.DictOf (strKind prog w) d kv ∧ KVs kv (xs ++ ys.take i)) ∧ h'.get? a = some oa ∧ Heap.SameBut d s.heap h')
    _ ?_ ?_ _ _ ⟨s.heap, 0, rfl, by simp [List.range_eq_range'], Nat.zero_le _, ⟨kd, hd1, by simpa using hd2⟩, hoa, Heap.SameBut.refl _ _⟩
  · rintro i rest b s' ⟨h', i', rfl, hr, hi, ⟨kv, hkv, hkvs⟩, hoa', hs'⟩
    have hlt : i' < esa.size := by
      rcases Nat.lt_or_ge i' esa.size with h | h
      · exact h
      · rw [Nat.sub_eq_zero_of_le h] at hr; simp at hr
    obtain ⟨rfl, hrest⟩ : i = i' ∧ rest = List.range' (i' + 1) (esa.size - (i' + 1)) := by
      have e : esa.size - i' = (esa.size - (i' + 1)) + 1 := by omega
      rw [e, List.range'_succ] at hr
      injection hr with h1 h2
      exact ⟨h1, h2⟩
    refine wpAny_bind (wpAny_dictEntries hoa' hda' ?_)
    rw [Array.getElem?_eq_getElem hlt]
    have hly : i < ys.length := by omega
    obtain ⟨⟨x, y⟩, hxy⟩ : ∃ p, ys[i]'hly = p := ⟨_, rfl⟩
    have hget : ys[i]? = some (x, y) := by rw [List.getElem?_eq_getElem hly, hxy]
    obtain ⟨t, ht⟩ := ha2.get hget
    obtain ⟨hkey, hval⟩ := hpa.get? (e := esa[i]) (by simp [hlt]) ht
    obtain ⟨k', hkey', hhash⟩ := hka esa[i] (Array.getElem_mem hlt)
    obtain rfl : k' = x := (strKind prog w).inj _ _ _ hkey' hkey
    show wpAny _ _ (holding [esa[i].key, esa[i].val] (dictPut d esa[i].hash esa[i].key esa[i].val) >>= _) _ _ _
    rw [hhash, hval]
    have htk : ys.take (i + 1) = ys.take i ++ [(k', y)] := by rw [List.take_succ, hget]; rfl
    have hnot : k' ∉ kv.map (·.1) := by
      rw [hkvs.keys]
      have e1 : xs ++ ys = (xs ++ ys.take i) ++ (k', y) :: ys.drop (i + 1) := by
        rw [List.append_assoc]
        congr 1
        have e2 := List.take_append_drop i ys
        rw [List.drop_eq_getElem_cons hly, hxy] at e2
        exact e2.symm
      rw [e1] at hn
      exact (nodup_mid hn).1
    refine wpAny_bind (wpAny_holding (wp_dictPut hkey hkv hnot (by rw [hkvs.length, List.length_append, List.length_take]; omega) fun h'' hd'' hs'' => ?_))
    have hoa'' : h''.get? a = some oa := (hs''.2 a (Ne.symm hda)).trans hoa'
    refine wpAny_bind (wpAny_dictEpoch hoa'' hda' ?_)
    rw [if_neg (by simp)]
    refine wpAny_pure ⟨h'', i + 1, rfl, hrest, hlt, ⟨_, hd'', ?_⟩, hoa'', hs'.trans hs''⟩
    rw [htk, ← List.append_assoc]
    exact hkvs.snoc _ _ _
  · rintro b s' ⟨h', i, rfl, hr, hi, ⟨kv, hkv, hkvs⟩, hoa', hs'⟩
    have hin : i = esa.size := by
      rcases Nat.lt_or_ge i esa.size with h | h
      · have e : esa.size - i = (esa.size - (i + 1)) + 1 := by omega
        rw [e, List.range'_succ] at hr; exact nomatch hr
      · exact Nat.le_antisymm hi h
    refine wpAny_pure (k h' ⟨kv, hkv, ?_⟩ hs')
    rw [hin, ← hlen, List.take_length] at hkvs; exact hkvs
end

end

section
section
variable {prog : Program} {w : World} {A : Around} {E : Value → Shared → Prop}

theorem lt_size_ne {s : Shared} (hs : sysModules < s.heap.objs.size) : (s.heap.objs.size == sysModules) = false := by
  rw [beq_eq_false_iff_ne]; exact Nat.ne_of_gt hs

theorem size_le_of_keep {h h' : Heap} (hk : ∀ b o, h.get? b = some o → h'.get? b = some o) {a : Addr} {o : Obj} (e : h.get? a = some o) : a < h'.objs.size := Heap.lt_size (hk _ _ e)

theorem wp_sub_merge {d : Addr} {run : List (Sem Value × Sem Value)} {xs ys : List (Str × Str)} {s : Shared} {f : Addr → Value → Sem Unit} {Q : Option Addr → Shared → Prop} (hc : CPs prog w A run ys) (hd : DAt prog w s.heap d xs) (hne : xs ≠ []) (hn : ((xs ++ ys).map (·.1)).Nodup) (hsz : xs.length + ys.length ≤ sizeLine)
    (hS : sysModules < s.heap.objs.size)
    (k : ∀ h' n, DAt prog w h' d (xs ++ ys) → (∀ b o, b ≠ d → s.heap.get? b = some o → h'.get? b = some o) → Q (some d) { s with heap := h', toks := n }) :
    wpAny (model prog w) A (do let sub ← holding [.ref d] (subDict run); (holding [.ref d, .ref sub] (mergeMapping d (.ref sub) false)).onRaise (f sub); pure (some d)) Q E s := by
  have hn2 : (ys.map (·.1)).Nodup := by rw [List.map_append] at hn; exact (List.nodup_append.mp hn).2.1
  refine wpAny_bind (wpAny_holding (wp_subDict hc hn2 (by omega) fun h' n ha hk => ?_))
  have hd' : DAt prog w h' d xs := by
    obtain ⟨kv, ⟨o, es, ep, ho, r⟩, h2⟩ := hd
    exact ⟨kv, ⟨o, es, ep, hk _ _ ho, r⟩, h2⟩
  have hda : d ≠ s.heap.objs.size := by
    obtain ⟨kv, ⟨o, es, ep, ho, r⟩, h2⟩ := hd
    exact Nat.ne_of_lt (Heap.lt_size ho)
  refine wpAny_bind (wpAny_onRaise (wpAny_holding (wp_merge hda (lt_size_ne hS) hd' ha hne hn hsz fun h'' hd'' hs'' => wpAny_pure (k h'' n hd'' fun b o hb e => ?_))))
  exact hs''.extBut b o hb (hk b o e)

theorem wp_dictDisplay {ps : List (Sem Value × Sem Value)} {ys : List (Str × Str)} (hc : CPs prog w A ps ys) (hne : ys ≠ []) (hn : (ys.map (·.1)).Nodup) (hsz : ys.length ≤ sizeLine) {s : Shared} {Q : Value → Shared → Prop}
    (hS : ∃ a o, sysModules < a ∧ s.heap.get? a = some o)
    (k : ∀ a h' n, DAt prog w h' a ys → (∀ b o, s.heap.get? b = some o → h'.get? b = some o) → Q (.ref a) { s with heap := h', toks := n }) : wpAny (model prog w) A (dictDisplay (ps.map fun p => (some p.1, p.2))) Q E s := by
  obtain ⟨a0, o0, ha0, ho0⟩ := hS
  unfold dictDisplay
  refine wpAny_bind ?_
  refine wpAny_forIn_list _
    (fun rest st s' => ∃ zs rs ws rps h' n, s' = { s with heap := h', toks := n } ∧ rest = rps.map (fun p => (some p.1, p.2)) ∧ CPs prog w A rps ws ∧ CPs prog w A st.2 rs ∧ ys = zs ++ rs ++ ws ∧
      (∀ b o, s.heap.get? b = some o → h'.get? b = some o) ∧ (match st.1 with | none => zs = [] | some a => zs ≠ [] ∧ DAt prog w h' a zs ∧ s.heap.get? a = none))
    _ ?_ ?_ _ _ ⟨[], [], ys, ps, s.heap, s.toks, rfl, rfl, hc, .nil, by simp, fun _ _ e => e, rfl⟩
  · rintro x rest ⟨main, run⟩ s' ⟨zs, rs, ws, rps, h', n, rfl, hr, hws, hrs, hy, hk, hm⟩
    cases hws with
    | nil => simp at hr
    | @cons kt vt x' y' rps ws hkt hvt hws =>
      simp only [List.map_cons, List.cons.injEq] at hr
      obtain ⟨rfl, rfl⟩ := hr
      dsimp only at hrs hm ⊢
      have hrun : CPs prog w A (run ++ [(kt, vt)]) (rs ++ [(x', y')]) := hrs.append (.cons hkt hvt .nil)
      have hy2 : ys = zs ++ (rs ++ [(x', y')]) ++ ws := by rw [hy]; simp
      have hnr : ((zs ++ (rs ++ [(x', y')])).map (·.1)).Nodup := by
        rw [hy2, List.map_append] at hn; exact (List.nodup_append.mp hn).1
      have hlr : zs.length + (rs ++ [(x', y')]).length ≤ sizeLine := by
        have := congrArg List.length hy2
        rw [List.length_append, List.length_append] at this; omega
      split
      · rw [if_neg (by simp)]
        cases main with
        | none =>
          dsimp only at hm ⊢
          subst hm
          refine wpAny_bind (wpAny_bind (wp_subDict hrun (by simpa using hnr) (by simpa using hlr) fun h'' n'' hd'' hk'' => wpAny_pure ?_))
          refine wpAny_pure ⟨rs ++ [(x', y')], [], ws, rps, h'', n'', rfl, rfl, hws, .nil, by simpa using hy2, fun b o e => hk'' b o (hk b o e), by simp, hd'', ?_⟩
          cases e : s.heap.get? h'.objs.size with
          | none => rfl
          | some o => have := hk _ _ e; rw [get_size_none] at this; cases this
        | some a =>
          dsimp only at hm ⊢
          obtain ⟨hz, hda, hfa⟩ := hm
          refine wpAny_bind (wp_sub_merge (s := { s with heap := h', toks := n }) hrun hda hz hnr hlr (Nat.lt_trans ha0 (Heap.lt_size (hk _ _ ho0))) fun h'' n'' hd'' hk'' => ?_)
          refine wpAny_pure ⟨zs ++ (rs ++ [(x', y')]), [], ws, rps, h'', n'', rfl, rfl, hws, .nil, by simpa using hy2, fun b o e => hk'' b o (by rintro rfl; rw [hfa] at e; cases e) (hk b o e), by simp, hd'', hfa⟩
      · exact wpAny_pure ⟨zs, rs ++ [(x', y')], ws, rps, h', n, rfl, rfl, hws, hrun, hy2, hk, hm⟩
  · rintro ⟨main, run⟩ s' ⟨zs, rs, ws, rps, h', n, rfl, hr, hws, hrs, hy, hk, hm⟩
    dsimp only at hrs hm ⊢
    obtain rfl : ws = [] := by
      cases hws with
      | nil => rfl
      | cons _ _ _ => simp at hr
    rw [List.append_nil] at hy
    cases hrs with
    | nil =>
      rw [if_pos (by simp)]
      cases main with
      | none => dsimp only at hm; subst hm; exact absurd hy hne
      | some a =>
        dsimp only at hm
        rw [List.append_nil] at hy; subst hy
        exact wpAny_bind (wpAny_pure (wpAny_pure (k a h' n hm.2.1 hk)))
    | @cons kt vt x' y' run rs hkt hvt hrs =>
      rw [if_neg (by simp)]
      cases main with
      | none =>
        dsimp only at hm; subst hm
        rw [List.nil_append] at hy; subst hy
        refine wpAny_bind (wpAny_bind (wp_subDict (.cons hkt hvt hrs) hn hsz fun h'' n'' hd'' hk'' => wpAny_pure ?_))
        exact wpAny_pure (k _ h'' n'' hd'' fun b o e => hk'' b o (hk b o e))
      | some a =>
        dsimp only at hm
        obtain ⟨hz, hda, hfa⟩ := hm
        subst hy
        refine wpAny_bind (wp_sub_merge (s := { s with heap := h', toks := n }) (.cons hkt hvt hrs) hda hz hn (by rw [List.length_append] at hsz; exact hsz) (Nat.lt_trans ha0 (Heap.lt_size (hk _ _ ho0))) fun h'' n'' hd'' hk'' => ?_)
        exact wpAny_pure (k _ h'' n'' hd'' fun b o e => hk'' b o (by rintro rfl; rw [hfa] at e; cases e) (hk b o e))
end

/-- what a display of written texts says -/
noncomputable def txt1 (e : Expr) : Option Str := match e with
  | .Constant (.str x) _ _ => some x
  | _ => none
noncomputable def txtO (e : Option Expr) : Option Str := match e with
  | some e => txt1 e
  | none => none
noncomputable def two (x y : Option Str) : Option (Str × Str) := x.bind fun x => y.map fun y => (x, y)
noncomputable def ckv : List (Option Expr) → List Expr → Option (List (Str × Str))
  | [], [] => some []
  | k :: ks, v :: vs => (two (txtO k) (txt1 v)).bind fun p => (ckv ks vs).map (p :: ·)
  | _, _ => none
theorem txt1_eq {e : Expr} {x : Str} (h : txt1 e = some x) : ∃ n p, e = .Constant (.str x) n p := by
  unfold txt1 at h
  split at h
  · cases h; exact ⟨_, _, rfl⟩
  · cases h
theorem txtO_eq {e : Option Expr} {x : Str} (h : txtO e = some x) : ∃ n p, e = some (.Constant (.str x) n p) := by
  cases e with
  | none => cases h
  | some e => obtain ⟨n, p, rfl⟩ := txt1_eq h; exact ⟨n, p, rfl⟩

theorem CP_str {prog : Program} {w : World} {A : Around} {env : Env} {x : Str} {n : Nat} {pos : Pos} : CP prog w A (eval (.Constant (.str x) n pos) env) x := fun s Q E k => Constant_str (k _ _)
theorem CP_str2 {prog : Program} {w : World} {A : Around} {env : Env} {x : Str} {n : Nat} {pos pos2 : Pos} : CP prog w A (do let v ← eval (.Constant (.str x) n pos) env; standAt pos2; pure v) x :=
  fun s Q E k => wpAny_bind (Constant_str (wpAny_bind (wpAny_standAt (wpAny_pure (k _ _)))))

theorem ckv_ok {prog : Program} {w : World} {A : Around} {env : Env} {pos : Pos} : ∀ {keys : List (Option Expr)} {values : List Expr} {ys : List (Str × Str)}, ckv keys values = some ys →
    ∃ ps, (evalEachOpt keys env).zip ((evalEach values env).map fun v => do let x ← v; standAt pos; pure x) = ps.map (fun p => (some p.1, p.2)) ∧ CPs prog w A ps ys
  | [], [], ys, h => by cases h; exact ⟨[], rfl, .nil⟩
  | [], _ :: _, _, h => by cases h
  | _ :: _, [], _, h => by cases h
  | k :: ks, v :: vs, ys, h => by
    obtain ⟨q, h0, h'⟩ := Option.bind_eq_some_iff.mp h
    obtain ⟨zs, hz, rfl⟩ := Option.map_eq_some_iff.mp h'
    obtain ⟨x, hx, h0⟩ := Option.bind_eq_some_iff.mp h0
    obtain ⟨y, hy, rfl⟩ := Option.map_eq_some_iff.mp h0
    obtain ⟨n, p, rfl⟩ := txtO_eq hx
    obtain ⟨n2, p2, rfl⟩ := txt1_eq hy
    obtain ⟨ps, h1, h2⟩ := ckv_ok (env := env) (pos := pos) hz
    refine ⟨(eval (.Constant (.str x) n p) env, do let v ← eval (.Constant (.str y) n2 p2) env; standAt pos; pure v) :: ps, ?_, .cons CP_str CP_str2 h2⟩
    show _ :: (evalEachOpt ks env).zip ((evalEach vs env).map fun v => do let x ← v; standAt pos; pure x) = _
    rw [h1]; rfl

noncomputable def IsDct (X : Cx) (ys : List (Str × Str)) (h : Heap) (v : Value) : Prop := ∃ a, v = .ref a ∧ DAt X.prog X.w h a ys

variable {X : Cx} {d : Nat} {env : Env} {ρ : Vars} {mem : Mem}

theorem DAt.keep {h h' : Heap} {a : Addr} {ys : List (Str × Str)} (hd : DAt X.prog X.w h a ys) (k : KeepNL h h') : DAt X.prog X.w h' a ys := by
  obtain ⟨kv, ⟨o, es, ep, ho, hc, r⟩, h2⟩ := hd
  refine ⟨kv, ⟨o, es, ep, k _ _ ho ?_, hc, r⟩, h2⟩
  rw [hc.1]; decide

theorem we_dict {keys : List (Option Expr)} {values : List Expr} {pos : Pos} {ys : List (Str × Str)} {K : PV → Mem → Prop} (h : ckv keys values = some ys) (hne : ys ≠ []) (hn : (ys.map (·.1)).Nodup) (hsz : ys.length ≤ sizeLine) (k : K (.ob (IsDct X ys)) mem) :
    WE X d env ρ mem (.Dict keys values pos) K := .mk fun A s hA ok F => by
  obtain ⟨ps, h1, h2⟩ := ckv_ok (prog := X.prog) (w := X.w) (A := A) (env := env) (pos := pos) h
  rw [arm_eval_Dict, h1]
  refine wpAny_bind (wpAny_standAt (wp_dictDisplay h2 hne hn hsz ?_ fun a h' n hd hk => ?_))
  · obtain ⟨o, _, _, ho, _⟩ := X.top.g
    exact ⟨mainGlobals, o, by decide, ok.base _ _ ho⟩
  · have st : Step mem s mem { s with heap := h', toks := n } := ⟨rfl, fun b o _ e => hk b o e, fun b hb => .inl hb⟩
    refine ⟨_, mem, ?_, ⟨fun b o e => hk _ _ (ok.base b o e), fun a l e => ?_⟩, st, k⟩
    · exact fun h'' k'' => ⟨a, rfl, hd.keep k''⟩
    · obtain ⟨h3, vs, ⟨ep, h4⟩, h5⟩ := ok.lst a l e
      exact ⟨h3, vs, ⟨ep, hk _ _ h4⟩, h5.keep (KeepNL.of_keep hk)⟩

theorem op_sub_dict {value slice : Expr} {ys : List (Str × Str)} {x y : Str} {K : PV → Mem → Prop} (hx : (x, y) ∈ ys) (hk : K (.t (.str y)) mem)
    (hs : ∀ o i, subscripted slice false o i = operate [o, i] (getItem o i) ∨ subscripted slice false o i = operate [i, o] (getItem o i) := by intro _ _; first | exact .inl rfl | exact .inr rfl) :
    OP X d (fun vs => subscriptTail value slice (vs.getD 0 .none) (vs.getD 1 .none)) [.ob (IsDct X ys), .t (.str x)] mem K := .mk fun A s vs hA ok hv => by
  obtain _ | @⟨v1, _, _, _, i1, _ | @⟨v2, _, _, _, i2, _ | _⟩⟩ := hv
  obtain ⟨a, rfl, kv, hd, hkv⟩ := i1 s.heap (KeepNL.refl _)
  cases i2
  rename_i tk
  have hex : ∃ t, valueAt kv x = some (.str y t) := by
    have hnd : (kv.map (·.1)).Nodup := by obtain ⟨_, _, _, _, _, _, _, _, h⟩ := hd; exact h
    clear hd i1
    induction hkv with
    | nil => simp at hx
    | @cons x' y' t kvs xs hs ih =>
      rw [List.map_cons, List.nodup_cons] at hnd
      rcases List.mem_cons.mp hx with e | e
      · obtain ⟨rfl, rfl⟩ := Prod.mk.inj e
        exact ⟨t, by simp [valueAt]⟩
      · obtain ⟨t', ht'⟩ := ih e hnd.2
        refine ⟨t', ?_⟩
        have hne : x' ≠ x := by
          rintro rfl
          apply hnd.1
          rw [hs.keys]
          exact List.mem_map.mpr ⟨_, e, rfl⟩
        simpa [valueAt, hne] using ht'
  obtain ⟨t, ht⟩ := hex
  exact subTail hd.typeIs slot_dict_getitem.lookup (wpAny_getItem_of (strKind_is _ _ _ _) hd.mapOf ht (Post.val ok (IsP.t (Is.str y _)) hk)) (hs _ _)

end

section
namespace F
theorem mro_reversed : mroOf (.type "reversed") = pure [.type "reversed", .type "object"] := by rw [mroOf_type]; kernel_rfl
theorem slot_reversed_init : Slot "reversed" "__init__" "object.__init__" :=
  .of (owner := "object") (n := "__init__") (by rw [typeLookup_type, builtinLookup_eq_fast]; kernel_rfl) (by decide +kernel) (by decide +kernel) (by decide +kernel)
    (by first | exact .inl (by decide +kernel) | exact .inr (by decide +kernel)) (by rw [isSubtype_type]; kernel_rfl)
theorem called_reversed : TypeCalled "reversed" "reversed.__new__" "object.__init__" :=
  ⟨by decide +kernel, by decide +kernel, ⟨_, _, PySem.F.mro_reversed⟩, madeBy_type PySem.F.mro_reversed PySem.F.lookup_reversed_new (by decide +kernel), by decide +kernel, by rw [isSubtype_type]; kernel_rfl, slot_reversed_init⟩
theorem slot_reversed_next : Slot "reversed" "__next__" "reversed.__next__" :=
  .of (owner := "reversed") (n := "__next__") (by rw [typeLookup_type, builtinLookup_eq_fast]; kernel_rfl) (by decide +kernel) (by decide +kernel) (by decide +kernel)
    (by first | exact .inl (by decide +kernel) | exact .inr (by decide +kernel)) (by rw [isSubtype_type]; kernel_rfl)
theorem entry_reversed_next : entryFor table "reversed.__next__" = some Builtin.«reversed.__next__» := entryFor_of_tree (by kernel_rfl)
theorem owner_rev : Manifest.owners.lookup (String.ofList ['d', 'e', 's', 'r', 'e', 'v', 'e', 'r'].reverse) = some Manifest.sig_reversed := by kernel_rfl
theorem args_reversed_next_1 (a : Value) : argsOk "reversed.__next__" ⟨[a], []⟩ := by
  unfold argsOk; rw [signature?_of (id := "reversed.__next__") (n := ['_', '_', 't', 'x', 'e', 'n', '_', '_']) (o := ['d', 'e', 's', 'r', 'e', 'v', 'e', 'r']) (by kernel_rfl) owner_rev]; kernel_rfl
theorem slot_reversed_iter : Slot "reversed" "__iter__" "reversed.__iter__" :=
  .of (owner := "reversed") (n := "__iter__") (by rw [typeLookup_type, builtinLookup_eq_fast]; kernel_rfl) (by decide +kernel) (by decide +kernel) (by decide +kernel)
    (by first | exact .inl (by decide +kernel) | exact .inr (by decide +kernel)) (by rw [isSubtype_type]; kernel_rfl)
theorem args_reversed_iter_1 (a : Value) : argsOk "reversed.__iter__" ⟨[a], []⟩ := by
  unfold argsOk; rw [signature?_of (id := "reversed.__iter__") (n := ['_', '_', 'r', 'e', 't', 'i', '_', '_']) (o := ['d', 'e', 's', 'r', 'e', 'v', 'e', 'r']) (by kernel_rfl) owner_rev]; kernel_rfl
theorem entry_reversed_iter : entryFor table "reversed.__iter__" = some Builtin.«dict_keyiterator.__iter__» :=
  entryFor_alias (id' := "dict_keyiterator.__iter__") (by kernel_rfl) (by first | rfl | decide +kernel | (unfold String.splitOn; simp +decide [String.splitOnAux])) (by decide +kernel) (by kernel_rfl)
theorem slot_reversed_hint : Slot "reversed" "__length_hint__" "reversed.__length_hint__" :=
  .of (owner := "reversed") (n := "__length_hint__") (by rw [typeLookup_type, builtinLookup_eq_fast]; kernel_rfl) (by decide +kernel) (by decide +kernel) (by decide +kernel)
    (by first | exact .inl (by decide +kernel) | exact .inr (by decide +kernel)) (by rw [isSubtype_type]; kernel_rfl)
theorem entry_reversed_hint : entryFor table "reversed.__length_hint__" = some Builtin.«reversed.__length_hint__» := entryFor_of_tree (by kernel_rfl)
theorem args_reversed_hint_1 (a : Value) : argsOk "reversed.__length_hint__" ⟨[a], []⟩ := by
  unfold argsOk; rw [signature?_of (id := "reversed.__length_hint__") (n := ['_', '_', 't', 'n', 'i', 'h', '_', 'h', 't', 'g', 'n', 'e', 'l', '_', '_']) (o := ['d', 'e', 's', 'r', 'e', 'v', 'e', 'r']) (by kernel_rfl) owner_rev]; kernel_rfl
theorem nolen_reversed : typeLookup (.type "reversed") "__len__" = pure none := by rw [typeLookup_type, builtinLookup_eq_fast]; kernel_rfl
theorem nolen_lri : typeLookup (.type "list_reverseiterator") "__len__" = pure none := by rw [typeLookup_type, builtinLookup_eq_fast]; kernel_rfl
theorem hint_lri : typeLookup (.type "list_reverseiterator") "__length_hint__" = pure (some (.builtin "list_reverseiterator.__length_hint__")) := by rw [typeLookup_type, builtinLookup_eq_fast]; kernel_rfl
theorem norev_tuple : typeLookup (.type "tuple") "__reversed__" = pure none := by rw [typeLookup_type, builtinLookup_eq_fast]; kernel_rfl
end F

section
variable {prog : Program} {w : World} {A : Around} {E : Value → Shared → Prop} {s : Shared}

noncomputable def IsRevT (h : Heap) (a t : Addr) (i : Int) : Prop := ∃ o, h.get? a = some o ∧ o.cls = .type "reversed" ∧ o.data = .fields #[.ref t, rawInt i]
theorem IsRevT.typeIs {a t : Addr} {i : Int} (x : IsRevT s.heap a t i) : s.TypeIs (.ref a) "reversed" := let ⟨o, ho, hc, _⟩ := x; ⟨o, ho, hc⟩
theorem IsRevT.at {h h' : Heap} {a t : Addr} {i : Int} (x : IsRevT h a t i) (e : ∀ o, h.get? a = some o → h'.get? a = some o) : IsRevT h' a t i := let ⟨o, ho, r⟩ := x; ⟨o, e _ ho, r⟩

theorem newClass_reversed (a : Value) : Builtin.SmallTypes.newClass "reversed" ⟨[.type "reversed", a], []⟩ = pure (.type "reversed", [a]) := PySem.newClass_reversed a

theorem meets_reversed_tup (t : Addr) :
    MeetsIn prog w (Builtin.«reversed.__new__» ⟨[.type "reversed", .ref t], []⟩) (fun A R s => ∃ vs : Array Value, IsTup s.heap t vs ∧ vs.size < 2 ^ 63 ∧
      ∀ tk, R (.ok (.ret (.ref s.heap.objs.size))) { s with heap := s.heap.push { cls := .type "reversed", data := .fields #[.ref t, rawInt ((vs.size : Int) - 1)] }, toks := tk }) :=
  .of_wp fun A R s ⟨vs, ht, hsz, h⟩ => by
    unfold Builtin.«reversed.__new__»
    refine wpAny_bind (wpAny_of_eq (newClass_reversed _) ?_)
    try dsimp only
    refine wpAny_bind (wpAny_of_eq (a := ()) (by first | rfl | kernel_rfl) ?_)
    refine wpAny_bind (wpAny_of_eq (a := ()) (by first | rfl | kernel_rfl) ?_)
    try dsimp only
    refine wpAny_bind (wpAny_specialOf ht.typeIs F.norev_tuple ?_)
    try dsimp only
    refine wpAny_bind ?_
    refine wpAny_bind (wpAny_isInstance (b := false) ht.typeIs (by rw [isSubtype_type]; kernel_rfl) ?_)
    refine wpAny_bind (wpAny_specialOf ht.typeIs PySem.F.slot_tuple_getitem.lookup ?_)
    dsimp only
    rw [if_pos (by decide)]
    refine wpAny_pure ?_
    rw [if_neg (by simp)]
    refine wpAny_bind (PyProof.Rows.len_tuple ht (by omega) ?_)
    refine wpAny_bind (wpAny_of_eq (a := some (vs.size : Int)) rfl ?_)
    dsimp only
    refine wpAny_bind ?_
    unfold Builtin.SmallTypes.newRecord
    dsimp only
    exact wpAny_newObj_type (wpAny_pure ⟨_, rfl, h _⟩)

theorem call_reversed_tup {t : Addr} {vs : Array Value} {Q : Value → Shared → Prop} (ht : IsTup s.heap t vs) (hsz : vs.size < 2 ^ 63)
    (h : ∀ tk, Q (.ref s.heap.objs.size) { s with heap := s.heap.push { cls := .type "reversed", data := .fields #[.ref t, rawInt ((vs.size : Int) - 1)] }, toks := tk }) : wpAny (model prog w) A (call (.type "reversed") [.ref t]) Q E s :=
  callType_newIn F.called_reversed (by decide) (PySem.F.typeCall_reversed_1 _) (PySem.F.newCall_reversed_1 _) (fun obj => PySem.F.args_object_init_2 obj _) PySem.F.entry_reversed_new
    (meets_reversed_tup t) ⟨vs, ht, hsz, fun tk => ⟨⟨_, Heap.get?_push_size _ rfl, rfl⟩, h tk⟩⟩

theorem pyNext_revT_item {it t : Addr} {i : Nat} {items : Array Value} {x : Value} {Q : Option Value → Shared → Prop} (hne : t ≠ it) (hit : IsRevT s.heap it t (i : Int)) (hl : IsTup s.heap t items) (hx : items[i]? = some x) (hsz : items.size < 2 ^ 63)
    (hQ : ∀ h' tk, IsRevT h' it t ((i : Int) - 1) → Heap.SameBut it s.heap h' → Q (some x) { s with heap := h', toks := tk }) : wpAny (model prog w) A (pyNext (.ref it)) Q E s := by
  obtain ⟨o, ho, hc, hd⟩ := id hit
  have hlt : i < items.size := (Array.getElem?_eq_some_iff.mp hx).1
  unfold pyNext
  refine wpAny_bind (wpAny_attempt (wpAny_callSpecial?_slot (name := Str.ofString "__next__") hit.typeIs F.slot_reversed_next
    (wpAny_call_entry F.slot_reversed_next hit.typeIs F.entry_reversed_next ?_ (F.args_reversed_next_1 _))))
  unfold Builtin.«reversed.__next__»
  refine wpAny_bind (wpAny_of_eq (a := (Value.ref it, [])) rfl ?_)
  try dsimp only
  refine wpAny_bind (wpAny_field ho hd (x := .ref t) rfl ?_)
  refine wpAny_bind (wpAny_field ho hd (x := rawInt (i : Int)) rfl ?_)
  show wpAny _ _ (if (i : Int) < 0 then _ else _) _ _ s
  rw [if_neg (by omega)]
  refine wpAny_bind (wpAny_specialOf hl.typeIs PySem.F.slot_tuple_getitem.lookup ?_)
  rw [if_neg (by decide)]
  refine wpAny_bind (wpAny_mkInt ?_)
  refine wpAny_bind (wpAny_attempt (getItem_tuple (j := i) (x := x) hl (by omega) (by omega) ?_ (by simpa using hx) ?_))
  · exact seqIndex_nat (by omega) (by simpa using hlt)
  dsimp only
  refine wpAny_bind (wpAny_field ho hd (x := rawInt (i : Int)) rfl ?_)
  show wpAny _ _ (setField (Value.ref it) 1 (rawInt ((i : Int) - 1)) >>= _) _ _ _
  refine wpAny_bind (wpAny_setField ho hd (by simp) ?_)
  refine wpAny_pure ⟨x, rfl, wpAny_pure (hQ _ _ ?_ (Heap.SameBut.update ..))⟩
  exact ⟨_, Heap.get?_update_self _ ho (Obj.isFreed_of_fields (Obj.data_mapFields hd _)), (Obj.cls_mapFields ..).trans hc, by
    rw [Obj.data_mapFields hd]; simp⟩

theorem pyNext_revT_end {it t : Addr} {Q : Option Value → Shared → Prop} (hh : A.handled = none) (hit : IsRevT s.heap it t (-1))
    (hQ : ∀ h', Heap.ExtBut it s.heap h' → Q none { s with heap := h' }) : wpAny (model prog w) A (pyNext (.ref it)) Q E s := by
  obtain ⟨o, ho, hc, hd⟩ := id hit
  unfold pyNext
  refine wpAny_bind (wpAny_attempt (wpAny_callSpecial?_slot (name := Str.ofString "__next__") hit.typeIs F.slot_reversed_next
    (wpAny_call_entry F.slot_reversed_next hit.typeIs F.entry_reversed_next ?_ (F.args_reversed_next_1 _))))
  unfold Builtin.«reversed.__next__»
  refine wpAny_bind (wpAny_of_eq (a := (Value.ref it, [])) rfl ?_)
  try dsimp only
  refine wpAny_bind (wpAny_field ho hd (x := .ref t) rfl ?_)
  refine wpAny_bind (wpAny_field ho hd (x := rawInt (-1)) rfl ?_)
  show wpAny _ _ (if (-1 : Int) < 0 then _ else _) _ _ s
  rw [if_pos (by decide)]
  refine wpAny_bind (wpAny_rule ?_)
  show wpAny _ _ ((setField (Value.ref it) 1 (rawInt (-1)) >>= fun _ => setField (Value.ref it) 0 .none) >>= _) _ _ _
  refine wpAny_bind (wpAny_bind (wpAny_setField ho hd (by simp) ?_))
  have ho2 := Heap.get?_update_self (Obj.mapFields (·.setIfInBounds 1 (rawInt (-1)))) ho (Obj.isFreed_of_fields (Obj.data_mapFields hd _))
  refine wpAny_setField ho2 (Obj.data_mapFields hd _) (by simp) ?_
  refine wpAny_bind ?_
  first
  | show wpAny _ _ (newExc (.type "StopIteration") [] >>= _) _ _ _
  | (refine wpAny_bind ?_; show wpAny _ _ (newExc (.type "StopIteration") [] >>= _) _ _ _)
  refine wpAny_bind ?_
  simp only [newExc, newTuple]
  refine wpAny_bind (wpAny_newObj_type ?_ (by size_fits))
  refine wpAny_bind (m := firstArgMember _ _) (wpAny_of_eq (a := Value.none) (by first | rfl | (simp only [firstArgMember]; rfl)) ?_)
  refine wpAny_newObj_type ?_ (by size_fits)
  simp only [raiseNew]
  refine wpAny_bind (wpAny_handled ?_)
  first | rw [show A.in1.handled = none from hh] | rw [hh]
  refine wpAny_bind (wpAny_pure (wpAny_throw ?_))
  refine wpAny_bind (wpAny_isInstance (T := "StopIteration") (b := true) ⟨_, Heap.get?_push_size _ rfl, rfl⟩ isSubtype_stop ?_)
  refine wpAny_pure (hQ _ ?_)
  exact ((((Heap.SameBut.update ..).trans (Heap.SameBut.update ..)).extBut).push _).push _

theorem pyIter_revT {it t : Addr} {i : Int} {Q : Value → Shared → Prop} (hit : IsRevT s.heap it t i) (h : Q (.ref it) s) : wpAny (model prog w) A (pyIter (.ref it)) Q E s := by
  refine wpAny_pyIter_slot hit.typeIs F.slot_reversed_iter (wpAny_call_entry F.slot_reversed_iter hit.typeIs F.entry_reversed_iter ?_ (F.args_reversed_iter_1 _))
  show wpAny _ _ (ret (.ref it)) _ _ s
  exact wpAny_pure ⟨_, rfl, "reversed", _, hit.typeIs, F.slot_reversed_next.lookup, h⟩

theorem call_hint_revT {it t : Addr} {vs : Array Value} {i : Int} {Q : Value → Shared → Prop} (hit : IsRevT s.heap it t i) (ht : IsTup s.heap t vs) (hsz : vs.size < 2 ^ 63) (hi : i < vs.size)
    (h : ∀ u tk, Q (.int (i + 1) u) { s with toks := tk }) : wpAny (model prog w) A (call (.builtin "reversed.__length_hint__") [.ref it]) Q E s := by
  obtain ⟨o, ho, hc, hd⟩ := id hit
  refine wpAny_call_entry F.slot_reversed_hint hit.typeIs F.entry_reversed_hint ?_ (F.args_reversed_hint_1 _)
  unfold Builtin.«reversed.__length_hint__»
  refine wpAny_bind (wpAny_of_eq (a := Value.ref it) rfl ?_)
  refine wpAny_bind (wpAny_field ho hd (x := .ref t) rfl ?_)
  rw [if_neg (by rw [show (Value.ref t == Value.none) = false from rfl]; exact Bool.false_ne_true)]
  refine wpAny_bind (PyProof.Rows.len_tuple ht (by omega) ?_)
  refine wpAny_bind (wpAny_of_eq (a := some (vs.size : Int)) rfl ?_)
  dsimp only
  refine wpAny_bind (wpAny_field ho hd (x := rawInt i) rfl ?_)
  show wpAny _ _ (if (vs.size : Int) < i + 1 then _ else _) _ _ _
  rw [if_neg (by omega)]
  unfold retInt
  first
  | exact wpAny_bind (wpAny_mkInt (wpAny_pure ⟨_, rfl, h _ _⟩))
  | exact wpAny_mkInt (wpAny_pure ⟨_, rfl, h _ _⟩)
end

end

section

section
variable {prog : Program} {w : World} {A : Around} {E : Value → Shared → Prop} {s : Shared}

theorem walks_revT (hh : A.handled = none) (I t : Addr) (hne : t ≠ I) (items : Array Value) (hsz : items.size < 2 ^ 63) :
    Walks prog w A I [I, t] [I] items.size (fun i v => items[items.size - 1 - i]? = some v) (fun i h => i ≤ items.size ∧ IsRevT h I t ((items.size : Int) - 1 - (i : Int)) ∧ IsTup h t items) where
  sub := fun b hb => by simp at hb; simp [hb]
  frame := fun _ _ _ x hk => ⟨x.1, x.2.1.at fun o e => hk I (by simp) o e, by obtain ⟨o, ho, r⟩ := x.2.2; exact ⟨o, hk t (by simp) o ho, r⟩⟩
  item := fun i s Q E hi x hQ => by
    have e : (items.size : Int) - 1 - (i : Int) = ((items.size - 1 - i : Nat) : Int) := by omega
    have hit := x.2.1
    rw [e] at hit
    have hx : items[items.size - 1 - i]? = some (items[items.size - 1 - i]'(by omega)) := Array.getElem?_eq_getElem (by omega)
    refine pyNext_revT_item hne hit x.2.2 hx hsz fun h' tk hit' hs' => ?_
    have e2 : ((items.size - 1 - i : Nat) : Int) - 1 = (items.size : Int) - 1 - ((i + 1 : Nat) : Int) := by omega
    rw [e2] at hit'
    exact hQ _ h' tk hx ⟨hi, hit', by obtain ⟨o, ho, r⟩ := x.2.2; exact ⟨o, (hs'.2 t hne).trans ho, r⟩⟩ fun b o hb eo => hs'.extBut b o (fun h => hb (by simp [h])) eo
  done := fun s Q E x hQ => by
    have e : (items.size : Int) - 1 - (items.size : Int) = -1 := by omega
    have hit := x.2.1
    rw [e] at hit
    exact pyNext_revT_end hh hit fun h' he' => hQ h' s.toks fun b o hb eo => he' b o (fun h => hb (by simp [h])) eo
  self := fun _ _ _ _ x hQ => pyIter_revT x.2.1 hQ

theorem code_extend_loop {I : Addr} {fp wr : List Addr} {n : Nat} {P : Nat → Value → Prop} {St : Nat → Heap → Prop} {R : Result → Shared → Prop} (W : Walks prog w A.in1 I fp wr n P St) {vs xs : List Value} (hn : n = xs.length) (hP : ∀ i v, i < n → P i v → xs[i]? = some v) (hsz : vs.length + xs.length ≤ sizeLine) (S : Addr) (hSf : S ∉ fp) (res : Value) :
    ∀ (k i : Nat) (s : Shared) (acc : Array Value) (c : Nat), n - i = k → i ≤ n → St i s.heap → s.heap.get? S = some { cls := .type "list", data := .seq acc c } → acc = (vs ++ xs.take i).toArray →
    (∀ h' tk c', (∀ b o, b ≠ S → b ∉ wr → s.heap.get? b = some o → h'.get? b = some o) → h'.get? S = some { cls := .type "list", data := .seq (vs ++ xs).toArray c' } → R (.ok (.ret res)) { s with heap := h', toks := tk }) →
    codeAny (model prog w) A (.builtin "list.extend.loop" ⟨[.ref S, .ref I, res], []⟩) R s := by
  have hSw : S ∉ wr := fun h => hSf (W.sub _ h)
  intro k
  induction k with
  | zero =>
    intro i s acc c hk hi hst hS hacc hR
    have hin : i = n := by omega
    subst hin
    refine codeAny_builtin PySem.F.entry_extend_loop ?_
    rw [Around.under_plainId PySem.F.plain_extend_loop _]
    show wpAny _ A.in1 (pyNext (.ref I) >>= _) _ _ s
    refine wpAny_bind (W.done s _ _ hst fun h' tk hm => ?_)
    refine wpAny_pure (hR h' tk c (fun b o _ hb e => hm b o hb e) ?_)
    rw [hacc, hn, List.take_length] at hS
    exact hm S _ hSw hS
  | succ k ih =>
    intro i s acc c hk hi hst hS hacc hR
    have hlt : i < n := by omega
    refine codeAny_builtin PySem.F.entry_extend_loop ?_
    rw [Around.under_plainId PySem.F.plain_extend_loop _]
    show wpAny _ A.in1 (pyNext (.ref I) >>= _) _ _ s
    refine wpAny_bind (W.item i s _ _ hlt hst fun v h' tk hPv hst' hm => ?_)
    have hx := hP i v hlt hPv
    have hS' := hm S _ hSw hS
    have hsz' : acc.size ≤ sizeLine := by rw [hacc, List.size_toArray, List.length_append, List.length_take]; omega
    have htk : acc.push v = (vs ++ xs.take (i + 1)).toArray := by
      rw [hacc, List.take_add_one, hx]; simp
    show wpAny _ A.in1 (updateSeq S (·.push v) >>= _) _ _ _
    refine wpAny_bind ?_
    refine wpAny_updateSeq hS' rfl (wpAny_pure ⟨plainId_quiet PySem.F.plain_extend_loop _, ih (i + 1) _ (acc.push v) _ (by omega) hlt (W.frame _ h' _ hst' fun b hb o e => ?_) (Heap.get?_update_self _ hS' rfl) htk fun h'' tk'' c' hm'' hS'' => ?_⟩)
      hsz' (by show (acc.push v).size ≤ sizeLine + 1; rw [Array.size_push]; omega)
    · exact (Heap.get?_update_other _ _ (fun h : S = b => hSf (by rw [h]; exact hb))).trans e
    · refine hR h'' tk'' c' (fun b o hb1 hb2 e => hm'' b o hb1 hb2 ?_) hS''
      exact (Heap.get?_update_other _ _ (Ne.symm hb1)).trans (hm b o hb2 e)

theorem wp_extendWith {Tn : String} {I S : Addr} {fp wr : List Addr} {n : Nat} {P : Nat → Value → Prop} {St : Nat → Heap → Prop} {R : Result → Shared → Prop} (hh : Tn = "list_reverseiterator" ∨ Tn = "reversed") (hT : s.TypeIs (.ref I) Tn)
    (W : Walks prog w A.in1 I fp wr n P St) {vs xs : List Value} (hn : n = xs.length) (hP : ∀ i v, i < n → P i v → xs[i]? = some v) (hsz : vs.length + xs.length ≤ sizeLine) (hv : vs.length < sizeLine) (hSf : S ∉ fp) (hI : I ∈ fp) (hst : St 0 s.heap) {c : Nat}
    (hS : s.heap.get? S = some { cls := .type "list", data := .seq vs.toArray c })
    (hint : ∀ (Q' : Bool → Shared → Prop) (E' : Value → Shared → Prop), (∀ b tk, Q' b { s with toks := tk }) → wpAny (model prog w) A.in1 (Builtin.List.listLengthHint (.ref I)) Q' E' s)
    (hR : ∀ h' tk c', (∀ b o, b ≠ S → b ∉ wr → s.heap.get? b = some o → h'.get? b = some o) → h'.get? S = some { cls := .type "list", data := .seq (vs ++ xs).toArray c' } → R (.ok (.ret .none)) { s with heap := h', toks := tk }) :
    wpAny (model prog w) A.in1 (Builtin.List.listExtendWith (.ref S) (.ref I) .none)
      (fun fin s' => match fin with | .done f => R (.ok f) s' | .again c' => c'.quiet = true ∧ codeAny (model prog w) A c' R s') (fun e s' => R (.error e) s') s := by
  have hSI : S ≠ I := fun e => hSf (e ▸ hI)
  have h1 : Builtin.List.listSameRef (.ref S) (.ref I) = false := by simp [Builtin.List.listSameRef, hSI]
  have h2 : (Value.type Tn == Value.type "list") = false := by rcases hh with rfl | rfl <;> decide
  have h3 : (Value.type Tn == Value.type "tuple") = false := by rcases hh with rfl | rfl <;> decide
  unfold Builtin.List.listExtendWith
  refine wpAny_bind (wpAny_typeOf hT ?_)
  rw [if_neg (by rw [h1, h2, h3]; decide)]
  refine wpAny_bind (W.self 0 _ _ _ hst ?_)
  refine wpAny_bind (wpAny_holding (hint _ _ fun b tk => ?_))
  have go : ∀ (s1 : Shared) (c1 : Nat), s1.heap.get? S = some { cls := .type "list", data := .seq vs.toArray c1 } → (∀ b o, b ≠ S → s.heap.get? b = some o → s1.heap.get? b = some o) → s1 = { s with heap := s1.heap, toks := s1.toks } →
      wpAny (model prog w) A.in1 (again (.builtin "list.extend.loop" ⟨[.ref S, .ref I, .none], []⟩)) (fun fin s' => match fin with | .done f => R (.ok f) s' | .again c' => c'.quiet = true ∧ codeAny (model prog w) A c' R s') (fun e s' => R (.error e) s') s1 := by
    intro s1 c1 hS1 ho hs1
    refine wpAny_pure ⟨plainId_quiet PySem.F.plain_extend_loop _, code_extend_loop W hn hP hsz S hSf .none n 0 s1 _ c1 rfl (Nat.zero_le _) (W.frame 0 _ _ hst fun b hb o e => ho b o (fun h => hSf (h ▸ hb)) e) hS1 (by simp) fun h' tk' c' hk hl => ?_⟩
    have e : ({ s1 with heap := h', toks := tk' } : Shared) = { s with heap := h', toks := tk' } := by rw [hs1]
    rw [e]
    exact hR h' tk' c' (fun b o hb1 hb2 e => hk b o hb1 hb2 (ho b o hb1 e)) hl
  have h4 : ((["set", "frozenset", "dict", "dict_keys", "dict_values", "dict_items"] : List String).any (Value.type Tn == .type ·)) = false := by rcases hh with rfl | rfl <;> decide
  have e5 : (b || ((["set", "frozenset", "dict", "dict_keys", "dict_values", "dict_items"] : List String).any (Value.type Tn == .type ·))) = b := by rw [h4, Bool.or_false]
  cases b with
  | false =>
    rw [if_neg (by intro hx; have := e5.symm.trans hx; exact absurd this (by decide))]
    exact go _ c hS (fun _ _ _ e => e) rfl
  | true =>
    rw [if_pos (by exact e5)]
    refine wpAny_bind (wpAny_rule ?_)
    refine wpAny_bind ?_
    show wpAny _ A.in1 (updateSeq S (·.push .none) >>= fun _ => updateSeq S (·.pop)) _ _ _
    refine wpAny_bind (wpAny_updateSeq hS rfl ?_ (by rw [List.size_toArray]; omega) (by rw [Array.size_push, List.size_toArray]; omega))
    have hS₂ := Heap.get?_update_self (Obj.mapSeq (·.push Value.none)) hS rfl
    refine wpAny_updateSeq hS₂ rfl ?_ (by rw [Array.size_push, List.size_toArray]; omega) (by rw [Array.size_pop, Array.size_push, List.size_toArray]; omega)
    have hS₃ := Heap.get?_update_self (Obj.mapSeq (·.pop)) hS₂ rfl
    refine go _ (c + 1 + 1) (hS₃.trans ?_) (fun b o hb e => ?_) rfl
    · simp [Obj.mapSeq]
    · exact (Heap.get?_update_other _ _ (Ne.symm hb)).trans ((Heap.get?_update_other _ _ (Ne.symm hb)).trans e)

/-- extend by a reversed list -/
theorem wp_extend_rev {S I l : Addr} {vs items : List Value} {Q : Value → Shared → Prop} (hh : A.handled = none) (hS : s.heap.PlainList S vs.toArray) (hit : s.heap.IsRevIter I l ((items.length : Int) - 1)) (hl : s.heap.IsList l items.toArray)
    (h1 : S ≠ I) (h2 : S ≠ l) (h3 : l ≠ I) (hsz : vs.length + items.length ≤ sizeLine) (hv : vs.length < sizeLine)
    (k : ∀ h' tk, h'.PlainList S (vs ++ items.reverse).toArray → (∀ b o, b ≠ S → b ≠ I → s.heap.get? b = some o → h'.get? b = some o) → Q .none { s with heap := h', toks := tk }) :
    wpAny (model prog w) A (call (.builtin "list.extend") [.ref S, .ref I]) Q E s := by
  obtain ⟨c, hS⟩ := hS
  have hT : s.TypeIs (.ref S) "list" := ⟨_, hS, rfl⟩
  have W := Walks.listRev (prog := prog) (w := w) (A := A.in1) hh I l h3 items.toArray
  refine wpAny_call (codeAny_call_builtin PySem.F.slot_list_extend.plain PySem.F.entry_list_extend (PySem.F.slot_list_extend.check _ _ _ _ _ _ _ _ hT (PySem.F.args_list_extend_2 _ _) ?_))
  show wpAny _ A.in1 (Builtin.List.listExtendWith (.ref S) (.ref I) .none) _ _ _
  refine wp_extendWith (Tn := "list_reverseiterator") (R := wants Q E) (.inl rfl) hit.typeIs W (vs := vs) (xs := items.reverse) (by simp) (fun i v hi h => ?_) (by simpa using hsz) hv (by simp [h1, h2]) (by simp) ⟨Nat.zero_le _, by simpa using hit, hl⟩ hS (fun Q' E' k' => ?_) fun h' tk c' hk hp => ?_
  · have hi' : i < items.length := by simpa using hi
    rw [List.getElem?_reverse hi']
    simpa using h
  · unfold Builtin.List.listLengthHint
    refine wpAny_bind (wpAny_specialOf hit.typeIs F.nolen_lri ?_)
    show wpAny _ A.in1 (specialOf (Value.ref I) (Str.ofString "__length_hint__") >>= _) _ _ _
    refine wpAny_bind (wpAny_specialOf hit.typeIs F.hint_lri ?_)
    (generalize hid : ("list_reverseiterator.__length_hint__" : String) = id0; (fail_if_success (clear hid id0)); wp_delta; rw [show splitId id0 = some ("list_reverseiterator", "__length_hint__") from by subst hid; decide +kernel]; subst hid)
    refine wpAny_bind (wpAny_isInstance (b := true) hit.typeIs (by rw [isSubtype_type]; kernel_rfl) ?_)
    exact wpAny_pure (k' false s.toks)
  · exact k h' tk ⟨_, hp⟩ fun b o hb1 hb2 e => hk b o hb1 (by simpa using hb2) e

/-- a list of a reversed tuple -/
theorem wp_list_revT {I t : Addr} {items : List Value} {Q : Value → Shared → Prop} (hh : A.handled = none) (hit : IsRevT s.heap I t ((items.length : Int) - 1)) (ht : IsTup s.heap t items.toArray) (hne : t ≠ I) (hsz : items.length < sizeLine)
    (k : ∀ h' tk, h'.PlainList s.heap.objs.size items.reverse.toArray → (∀ b o, b ≠ I → s.heap.get? b = some o → h'.get? b = some o) → Q (.ref s.heap.objs.size) { s with heap := h', toks := tk }) :
    wpAny (model prog w) A (call (.type "list") [.ref I]) Q E s := by
  have h63 := sizeLine_eq
  have hI : I ≠ s.heap.objs.size := by obtain ⟨o, ho, _⟩ := hit; exact Nat.ne_of_lt (Heap.lt_size ho)
  have htS : t ≠ s.heap.objs.size := by obtain ⟨o, ho, _⟩ := ht; exact Nat.ne_of_lt (Heap.lt_size ho)
  refine callType_codes (Q₁ := fun obj s₁ => obj = .ref s.heap.objs.size ∧ s₁ = { s with heap := s.heap.push { cls := .type "list", data := .seq #[] } }) PySem.F.called_list (PySem.F.typeCall_list_1 _) PySem.F.entry_list_init
    (code_list_new _ ⟨rfl, rfl⟩) fun obj s₁ h₁ => ?_
  obtain ⟨rfl, rfl⟩ := h₁
  have hS : (s.heap.push { cls := .type "list", data := .seq #[] }).get? s.heap.objs.size = some { cls := .type "list", data := .seq #[] } := Heap.get?_push_size _ rfl
  refine ⟨⟨_, hS, rfl⟩, PySem.F.args_list_init_2 _ _, ?_⟩
  show wpAny _ A.in1.in1 (do let old ← Builtin.List.listItems (.ref s.heap.objs.size); Builtin.List.listUpdate (.ref s.heap.objs.size) (fun _ => #[]); letGo old.toList.reverse; Builtin.List.listExtendWith (.ref s.heap.objs.size) (.ref I) .none) _ _ _
  refine wpAny_bind ?_
  unfold Builtin.List.listItems
  refine wpAny_bind (wpAny_seqItems hS rfl (wpAny_pure ?_))
  show wpAny _ A.in1.in1 (updateSeq s.heap.objs.size (fun _ => #[]) >>= fun _ => letGo (#[] : Array Value).toList.reverse >>= fun _ => Builtin.List.listExtendWith (.ref s.heap.objs.size) (.ref I) .none) _ _ _
  refine wpAny_bind (wpAny_updateSeq hS rfl ?_)
  have hS₂ := Heap.get?_update_self (Obj.mapSeq (fun _ => (#[] : Array Value))) hS rfl
  refine wpAny_bind (wpAny_letGo ?_)
  have oth : ∀ b o, s.heap.get? b = some o → ((s.heap.push { cls := .type "list", data := .seq #[] }).update s.heap.objs.size (Obj.mapSeq (fun _ => (#[] : Array Value)))).get? b = some o :=
    fun b o e => (Heap.get?_update_other _ _ (Ne.symm (Nat.ne_of_lt (Heap.lt_size e)))).trans (Heap.get?_push_of_some _ e)
  have hit2 := hit.at (h' := ((s.heap.push { cls := .type "list", data := .seq #[] }).update s.heap.objs.size (Obj.mapSeq (fun _ => (#[] : Array Value))))) (oth _)
  have ht2 : IsTup ((s.heap.push { cls := .type "list", data := .seq #[] }).update s.heap.objs.size (Obj.mapSeq (fun _ => (#[] : Array Value)))) t items.toArray := by obtain ⟨o, ho, r⟩ := ht; exact ⟨o, oth _ _ ho, r⟩
  have W := walks_revT (prog := prog) (w := w) (A := A.in1.in1) hh I t hne items.toArray (by simp; omega)
  refine wp_extendWith (Tn := "reversed") (A := A.in1) (s := { s with heap := _ }) (.inr rfl) hit2.typeIs W (vs := []) (xs := items.reverse) (by simp) (fun i v hi h => ?_) (by simp; omega) (by simp; omega) (by simp [Ne.symm hI, Ne.symm htS]) (by simp) ⟨Nat.zero_le _, by simpa using hit2, ht2⟩ (c := 0) (hS₂.trans (by simp [Obj.mapSeq])) (fun Q' E' k' => ?_) fun h' tk c' hk hp => ?_
  · have hi' : i < items.length := by simpa using hi
    rw [List.getElem?_reverse hi']
    simpa using h
  · unfold Builtin.List.listLengthHint
    refine wpAny_bind (wpAny_specialOf hit2.typeIs F.nolen_reversed ?_)
    show wpAny _ A.in1.in1 (specialOf (Value.ref I) (Str.ofString "__length_hint__") >>= _) _ _ _
    refine wpAny_bind (wpAny_specialOf hit2.typeIs F.slot_reversed_hint.lookup ?_)
    (generalize hid : ("reversed.__length_hint__" : String) = id0; (fail_if_success (clear hid id0)); wp_delta; rw [show splitId id0 = some ("reversed", "__length_hint__") from by subst hid; decide +kernel]; subst hid)
    refine wpAny_bind (wpAny_isInstance (b := true) hit2.typeIs (by rw [isSubtype_type]; kernel_rfl) ?_)
    rw [if_neg (by decide)]
    dsimp only
    rw [if_neg (by decide +kernel)]
    refine wpAny_bind (wpAny_rule ?_)
    refine wpAny_bind (wpAny_of_eq (F.slot_reversed_hint.bind _) ?_)
    dsimp only
    refine wpAny_bind (wpAny_attempt (call_hint_revT hit2 ht2 (by simp; omega) (by simp; omega) fun u tk => ?_))
    dsimp only
    refine wpAny_bind (wpAny_of_eq (a := some ((items.length : Int) - 1 + 1)) rfl ?_)
    dsimp only
    have f1 : Builtin.List.listFitsIndex ((items.length : Int) - 1 + 1) = true := by
      unfold Builtin.List.listFitsIndex; simp; omega
    have f2 : Builtin.List.listTooLong ((items.length : Int) - 1 + 1).toNat = false := by
      unfold Builtin.List.listTooLong; rw [decide_eq_false_iff_not]; omega
    rw [if_neg (by rw [f1]; decide), if_neg (by omega), if_neg (by rw [f2]; decide)]
    exact wpAny_pure (k' _ tk)
  · refine ⟨rfl, k h' tk ⟨_, hp⟩ fun b o hb e => hk b o (Nat.ne_of_lt (Heap.lt_size e)) (by simpa using hb) (oth _ _ e)⟩
end

variable {X : Cx} {d : Nat} {env : Env} {ρ : Vars} {mem : Mem}

/-- a.extend(reversed(e)), e a list -/
theorem we_extend_rev {o e : Expr} {apos pos p1 p2 : Pos} {pl : Sem Bool} {K : PV → Mem → Prop} (hf : Free X "reversed" (.type "reversed"))
    (h : WE X d env ρ mem o (fun a m1 => ∃ l ts, a = .l l ∧ m1 l = some ts ∧ WE X d env ρ m1 e (fun b m2 => ∃ lb us ts', b = .l lb ∧ m2 lb = some us ∧ m2 l = some ts' ∧ l ≠ lb ∧ ts'.length + us.length < sizeLine ∧ K (.t .none) (upd m2 l (ts' ++ us.reverse)))))
    (hk : env.kindOf "reversed" = some .globalImplicit := by rfl)
    (he : starEach [.Call (.Name "reversed" p1) [e] [] p2] env = [(false, eval (.Call (.Name "reversed" p1) [e] [] p2) env)] := by rfl) (he2 : starEach [e] env = [(false, eval e env)] := by rfl)
    (hc : eval (.Call (.Attribute o "extend" apos) [.Call (.Name "reversed" p1) [e] [] p2] [] pos) env = (do
      let ov ← eval o env
      standAt apos.atName
      let (f, first) ← holding [ov] (getMethod ov "extend" pl)
      callWith pos f first (backTo pos (starEach [.Call (.Name "reversed" p1) [e] [] p2] env)) []) := by rfl) :
    WE X d env ρ mem (.Call (.Attribute o "extend" apos) [.Call (.Name "reversed" p1) [e] [] p2] [] pos) K := .mk fun A s hA ok F => by
  refine MethodCall_ (h.bind hA ok F fun v a m1 s1 i1 ok1 F1 st1 ⟨l, ts, e1, hm, h1⟩ => ?_) hc
  subst e1
  cases i1
  obtain ⟨_, vs, ⟨n, ho⟩, _⟩ := ok1.lst l ts hm
  refine getMethod_builtin (T := "list") ⟨_, ho, rfl⟩ PySem.F.plainAttrs_list PySem.F.slot_list_extend PySem.F.type_list_extend (fun a ea => by cases ea; exact ⟨_, ho, rfl⟩) ?_
  dsimp only
  refine callWith_builtin (by rw [he]; rfl) ?_
  rw [he]
  refine evalArgs_plain ?_
  refine Calls.spliced_cons ?_
  refine Call_ (wp_builtin_name hk hf (by decide) ok1 F1 (callWith_type1 ?_ he2 rfl))
  rw [he2]
  refine Calls.spliced_cons (h1.bind hA ok1 F1 fun v b m2 s2 i2 ok2 F2 st2 ⟨lb, us, ts', e2, hm2, hml, hne, hsz, hK⟩ => ?_)
  subst e2
  cases i2
  obtain ⟨hb0, ws, hlb, hws⟩ := ok2.lst lb us hm2
  refine spliced_none (env := env) ?_
  refine call_reversed_list hlb.isList ?_
  refine spliced_none (env := env) ?_
  obtain ⟨hl0, vs', hl', hvs'⟩ := ok2.lst l ts' hml
  have hlI : l ≠ s2.heap.objs.size := by obtain ⟨n, h⟩ := hl'; exact Nat.ne_of_lt (Heap.lt_size h)
  have hbI : lb ≠ s2.heap.objs.size := by obtain ⟨n, h⟩ := hlb; exact Nat.ne_of_lt (Heap.lt_size h)
  have e1 : vs'.length = ts'.length := hvs'.length
  have e2 : ws.length = us.length := hws.length
  obtain ⟨n1, hl1⟩ := hl'
  obtain ⟨n2, hl2⟩ := hlb
  refine wp_extend_rev (l := lb) (items := ws) (vs := vs') hA.hd ⟨n1, Heap.get?_push_of_some _ hl1⟩ ⟨_, Heap.get?_push_size _ rfl, rfl, by simp [revObj]⟩ ⟨_, Heap.get?_push_of_some _ hl2, rfl, n2, rfl⟩ hlI hne hbI (by omega) (by omega) fun h' tk hp hk' => ?_
  have hold : ∀ b o, b ≠ l → s2.heap.get? b = some o → h'.get? b = some o := fun b o hb e => hk' b o hb (Nat.ne_of_lt (Heap.lt_size e)) (Heap.get?_push_of_some _ e)
  have kt : ∀ a vs, PTup s2.heap a vs → PTup h' a vs := fun a vs ⟨n, e⟩ => ⟨n, hold _ _ (by rintro rfl; rw [hl1] at e; simp at e) e⟩
  have ok3 : Ok X (upd m2 l (ts' ++ us.reverse)) h' := by
    refine ⟨fun b o e => hold b o (by rintro rfl; rw [hl0] at e; cases e) (ok2.base b o e), fun a l' e => ?_⟩
    by_cases hx : a = l
    · subst hx; rw [upd_same] at e; cases e
      exact ⟨hl0, _, hp, (hvs'.append hws.reverse).mono kt⟩
    · rw [upd_ne hx] at e
      obtain ⟨h1, us', ⟨n, h2⟩, h3⟩ := ok2.lst a l' e
      exact ⟨h1, us', ⟨n, hold _ _ hx h2⟩, h3.mono kt⟩
  refine ⟨_, _, IsP.t Is.none, ok3, (st1.trans st2).trans ⟨rfl, fun b o hb e => hold b o (by rintro rfl; rw [hml] at hb; cases hb) e, fun b hb => ?_⟩, hK⟩
  by_cases hx : b = l
  · subst hx; exact .inl (by rw [hml]; simp)
  · rw [upd_ne hx] at hb; exact .inl hb

/-- list(reversed(e)), e a tuple -/
theorem we_list_rev {e : Expr} {pos p0 p1 p2 : Pos} {K : PV → Mem → Prop} (hl : Free X "list" (.type "list")) (hf : Free X "reversed" (.type "reversed"))
    (h : WE X d env ρ mem e (fun b m2 => ∃ us, b = .t (.tup us) ∧ us.length < sizeLine ∧ ∀ a, m2 a = none → K (.l a) (upd m2 a us.reverse)))
    (hkl : env.kindOf "list" = some .globalImplicit := by rfl) (hk : env.kindOf "reversed" = some .globalImplicit := by rfl)
    (he : starEach [.Call (.Name "reversed" p1) [e] [] p2] env = [(false, eval (.Call (.Name "reversed" p1) [e] [] p2) env)] := by rfl) (he2 : starEach [e] env = [(false, eval e env)] := by rfl) :
    WE X d env ρ mem (.Call (.Name "list" p0) [.Call (.Name "reversed" p1) [e] [] p2] [] pos) K := .mk fun A s hA ok F => by
  refine Call_ (wp_builtin_name hkl hl (by decide) ok F (callWith_type1 ?_ he rfl))
  rw [he]
  refine Calls.spliced_cons ?_
  refine Call_ (wp_builtin_name hk hf (by decide) ok F (callWith_type1 ?_ he2 rfl))
  rw [he2]
  refine Calls.spliced_cons (h.bind hA ok F fun v b m2 s2 i2 ok2 F2 st2 ⟨us, e2, hsz, hK⟩ => ?_)
  subst e2
  cases i2
  rename_i t vs ht hvs
  have e2 : vs.length = us.length := hvs.length
  have h63 := sizeLine_eq
  refine spliced_none (env := env) ?_
  refine call_reversed_tup ht.is (by rw [List.size_toArray]; omega) fun tk0 => ?_
  refine spliced_none (env := env) ?_
  obtain ⟨n1, ht1⟩ := ht
  have htI : t ≠ s2.heap.objs.size := Nat.ne_of_lt (Heap.lt_size ht1)
  refine wp_list_revT (t := t) (items := vs) hA.hd ⟨_, Heap.get?_push_size _ rfl, rfl, by simp⟩ (PTup.is ⟨n1, Heap.get?_push_of_some _ ht1⟩) htI (by omega) fun h' tk hp hk' => ?_
  rw [Heap.size_push] at hp ⊢
  have hold : ∀ b o, s2.heap.get? b = some o → h'.get? b = some o := fun b o e => hk' b o (Nat.ne_of_lt (Heap.lt_size e)) (Heap.get?_push_of_some _ e)
  have kt : ∀ a vs, PTup s2.heap a vs → PTup h' a vs := fun a vs ⟨n, e⟩ => ⟨n, hold _ _ e⟩
  have hnone : ∀ b, s2.heap.objs.size ≤ b → s2.heap.get? b = none := fun b hb => by
    cases e : s2.heap.get? b with
    | none => rfl
    | some o => exact absurd (Heap.lt_size e) (Nat.not_lt.mpr hb)
  have hm0 : m2 (s2.heap.objs.size + 1) = none := by
    cases e : m2 (s2.heap.objs.size + 1) with
    | none => rfl
    | some l => obtain ⟨_, _, ⟨_, h3⟩, _⟩ := ok2.lst _ _ e; rw [hnone _ (Nat.le_succ _)] at h3; cases h3
  have ok3 : Ok X (upd m2 (s2.heap.objs.size + 1) us.reverse) h' := by
    refine ⟨fun b o e => hold b o (ok2.base b o e), fun a l' e => ?_⟩
    by_cases hx : a = s2.heap.objs.size + 1
    · subst hx; rw [upd_same] at e; cases e
      refine ⟨?_, _, hp, hvs.reverse.mono kt⟩
      cases e : X.h₀.get? (s2.heap.objs.size + 1) with
      | none => rfl
      | some o => have := ok2.base _ _ e; rw [hnone _ (Nat.le_succ _)] at this; cases this
    · rw [upd_ne hx] at e
      obtain ⟨h1, us', ⟨n, h2⟩, h3⟩ := ok2.lst a l' e
      exact ⟨h1, us', ⟨n, hold _ _ h2⟩, h3.mono kt⟩
  refine ⟨_, _, IsP.l, ok3, st2.trans ⟨rfl, fun b o hb e => hold b o e, fun b hb => ?_⟩, hK _ hm0⟩
  by_cases hx : b = s2.heap.objs.size + 1
  · subst hx; exact .inr (hnone _ (Nat.le_succ _))
  · rw [upd_ne hx] at hb; exact .inl hb

end

section

mutual
/-- weight of a tree -/
noncomputable def T.wt : T → Nat
  | .tup l => 1 + wts l
  | .str x => 1 + x.cps.size
  | _ => 1
noncomputable def wts : List T → Nat
  | [] => 0
  | t :: r => t.wt + wts r
end
mutual
/-- height of a tree -/
noncomputable def T.ht : T → Nat
  | .tup l => 1 + hts l
  | _ => 0
noncomputable def hts : List T → Nat
  | [] => 0
  | t :: r => max t.ht (hts r)
end
mutual
/-- only short ints and plain letters within -/
noncomputable def T.nice : T → Bool
  | .tup l => nices l
  | .str x => x.cps.toList.all fun c => decide (c < 128)
  | .int i => decide (0 ≤ i) && decide (i < 10)
  | _ => true
noncomputable def nices : List T → Bool
  | [] => true
  | t :: r => t.nice && nices r
end
theorem T.wt_pos (t : T) : 1 ≤ t.wt := by cases t <;> simp [T.wt]
theorem wts_len : ∀ l : List T, l.length ≤ wts l
  | [] => by simp [wts]
  | t :: r => by have := wts_len r; have := t.wt_pos; simp [wts]; omega
theorem wts_append : ∀ l r : List T, wts (l ++ r) = wts l + wts r
  | [], r => by simp [wts]
  | t :: l, r => by simp [wts, wts_append l r]; omega
theorem wts_mem : ∀ {l : List T} {t : T}, t ∈ l → t.wt ≤ wts l
  | x :: r, t, h => by
    rcases List.mem_cons.mp h with rfl | h
    · simp [wts]
    · have := wts_mem h; simp [wts]; omega
theorem wts_reverse : ∀ l : List T, wts l.reverse = wts l
  | [] => rfl
  | t :: r => by simp [wts, wts_append, wts_reverse r]; omega
theorem hts_append : ∀ l r : List T, hts (l ++ r) = max (hts l) (hts r)
  | [], r => by simp [hts]
  | t :: l, r => by simp [hts, hts_append l r, Nat.max_assoc]
theorem hts_mem : ∀ {l : List T} {t : T}, t ∈ l → t.ht ≤ hts l
  | x :: r, t, h => by
    rcases List.mem_cons.mp h with rfl | h
    · simp only [hts]; omega
    · have := hts_mem h; simp [hts]; omega
theorem nices_append : ∀ l r : List T, nices (l ++ r) = (nices l && nices r)
  | [], r => by simp [nices]
  | t :: l, r => by simp [nices, nices_append l r, Bool.and_assoc]
theorem nices_mem : ∀ {l : List T}, nices l = true → ∀ {t : T}, t ∈ l → t.nice = true
  | x :: r, h, t, hm => by
    simp [nices] at h
    rcases List.mem_cons.mp hm with rfl | hm
    · exact h.1
    · exact nices_mem h.2 hm

mutual
noncomputable def T.data : T → PyData
  | .none => .none
  | .bool b => .bool b
  | .int i => .int i
  | .str x => .str x
  | .tup l => .tuple (datas l)
noncomputable def datas : List T → List PyData
  | [] => []
  | t :: r => t.data :: datas r
end

mutual
theorem Is.reads {h : Heap} : ∀ {v : Value} {t : T}, Is h v t → ∃ as, Reads h v t.data as
  | _, _, .none => ⟨_, .none⟩
  | _, _, .bool b => ⟨_, .bool b⟩
  | _, _, .int i t => ⟨_, .int i t⟩
  | _, _, .str x t => ⟨_, .str x t⟩
  | _, _, .tup ht hs => by
    obtain ⟨as, r⟩ := Are.reads hs
    obtain ⟨n, ho⟩ := ht
    exact ⟨as, .tuple ho rfl rfl r⟩
theorem Are.reads {h : Heap} : ∀ {vs : List Value} {ts : List T}, Are h vs ts → ∃ as, ReadsAll h vs (datas ts) as
  | _, _, .nil => ⟨_, .nil⟩
  | _, _, .cons hv hs => by
    obtain ⟨as, r⟩ := Is.reads hv
    obtain ⟨bs, q⟩ := Are.reads hs
    exact ⟨_, .cons r q⟩
end

open PyData in
mutual
theorem T.data_depth : ∀ t : T, t.data.depth = t.ht
  | .none | .bool _ | .int _ | .str _ => by simp [T.data, T.ht, PyData.depth]
  | .tup l => by simp [T.data, T.ht, PyData.depth, datas_depth l]; omega
theorem datas_depth : ∀ l : List T, PyData.depthAll (datas l) = hts l
  | [] => by simp [datas, hts, PyData.depthAll]
  | t :: r => by simp [datas, hts, PyData.depthAll, T.data_depth t, datas_depth r]
end
mutual
theorem T.data_weight : ∀ t : T, t.nice = true → t.data.weight + 1 ≤ 6 * t.wt
  | .none, _ | .bool _, _ => by simp [T.data, T.wt, PyData.weight]
  | .int i, h => by
    simp [T.nice] at h
    have key : ∀ n : Nat, n < 10 → ((n : Int) = 0 ∨ (n : Int) = 1 ∨ (n : Int) = 2 ∨ (n : Int) = 3 ∨ (n : Int) = 4 ∨ (n : Int) = 5 ∨ (n : Int) = 6 ∨ (n : Int) = 7 ∨ (n : Int) = 8 ∨ (n : Int) = 9) := by decide
    have : i = 0 ∨ i = 1 ∨ i = 2 ∨ i = 3 ∨ i = 4 ∨ i = 5 ∨ i = 6 ∨ i = 7 ∨ i = 8 ∨ i = 9 := by
      have := key i.toNat (by omega)
      rwa [Int.toNat_of_nonneg h.1] at this
    rcases this with rfl | rfl | rfl | rfl | rfl | rfl | rfl | rfl | rfl | rfl <;> (simp only [T.data, T.wt, PyData.weight]; decide)
  | .str x, _ => by simp [T.data, T.wt, PyData.weight]; omega
  | .tup l, h => by
    have := datas_weight l (by simpa [T.nice] using h)
    simp [T.data, T.wt, PyData.weight]; omega
theorem datas_weight : ∀ l : List T, nices l = true → PyData.weightAll (datas l) ≤ 6 * wts l
  | [], _ => by simp [datas, wts, PyData.weightAll]
  | t :: r, h => by
    simp [nices] at h
    have := T.data_weight t h.1
    have := datas_weight r h.2
    simp [datas, wts, PyData.weightAll]; omega
end
mutual
theorem T.data_nodict : ∀ t : T, t.data.hasDict = false
  | .none | .bool _ | .int _ | .str _ => by simp [T.data, PyData.hasDict]
  | .tup l => by simp [T.data, PyData.hasDict, datas_nodict l]
theorem datas_nodict : ∀ l : List T, PyData.hasDictAll (datas l) = false
  | [] => by simp [datas, PyData.hasDictAll]
  | t :: r => by simp [datas, PyData.hasDictAll, T.data_nodict t, datas_nodict r]
end
mutual
theorem T.data_show : ∀ t : T, t.nice = true → t.data.showable = true
  | .none, _ | .bool _, _ | .str _, _ => by simp [T.data, PyData.showable]
  | .int i, h => by
    simp [T.nice] at h
    have key : ∀ n : Nat, n < 10 → ((n : Int) = 0 ∨ (n : Int) = 1 ∨ (n : Int) = 2 ∨ (n : Int) = 3 ∨ (n : Int) = 4 ∨ (n : Int) = 5 ∨ (n : Int) = 6 ∨ (n : Int) = 7 ∨ (n : Int) = 8 ∨ (n : Int) = 9) := by decide
    have : i = 0 ∨ i = 1 ∨ i = 2 ∨ i = 3 ∨ i = 4 ∨ i = 5 ∨ i = 6 ∨ i = 7 ∨ i = 8 ∨ i = 9 := by
      have := key i.toNat (by omega)
      rwa [Int.toNat_of_nonneg h.1] at this
    rcases this with rfl | rfl | rfl | rfl | rfl | rfl | rfl | rfl | rfl | rfl <;> (simp only [T.data, PyData.showable]; decide)
  | .tup l, h => by
    have := datas_show l (by simpa [T.nice] using h)
    simp [T.data, PyData.showable, this]
theorem datas_show : ∀ l : List T, nices l = true → PyData.showableAll (datas l) = true
  | [], _ => by simp [datas, PyData.showableAll]
  | t :: r, h => by
    simp [nices] at h
    simp [datas, PyData.showableAll, T.data_show t h.1, datas_show r h.2]
end
mutual
theorem T.data_short : ∀ t : T, t.nice = true → t.data.leavesShort 13 = true
  | .none, _ | .bool _, _ => by simp [T.data, PyData.leavesShort]
  | .str x, h => by
    simp only [T.nice, List.all_eq_true, decide_eq_true_eq] at h
    simp only [T.data, PyData.leavesShort, List.all_eq_true, decide_eq_true_eq]
    exact fun c hc => Nat.lt_of_lt_of_le (h c hc) (by decide)
  | .int i, h => by
    simp [T.nice] at h
    simp only [T.data, PyData.leavesShort, decide_eq_true_eq]
    exact PyData.shown_int_le (by omega)
  | .tup l, h => by
    have := datas_short l (by simpa [T.nice] using h)
    simp [T.data, PyData.leavesShort, this]
theorem datas_short : ∀ l : List T, nices l = true → PyData.leavesShortAll 13 (datas l) = true
  | [], _ => by simp [datas, PyData.leavesShortAll]
  | t :: r, h => by
    simp [nices] at h
    simp [datas, PyData.leavesShortAll, T.data_short t h.1, datas_short r h.2]
end

variable {X : Cx} {d : Nat} {mem : Mem}

/-- the text of a list of trees -/
noncomputable def shownL (ts : List T) : Str := (PyData.list (datas ts)).shown

theorem op_repr {a : Addr} {ts : List T} {K : PV → Mem → Prop} (ha : mem a = some ts) (hn : nices ts = true) (hw : wts ts ≤ 100000) (hh : hts ts ≤ 800) (k : K (.t (.str (shownL ts))) mem) : OP X d (bcall "repr") [.l a] mem K := .one fun A s u hA ok i1 => by
  cases i1
  obtain ⟨_, vs, hl, hs⟩ := ok.lst a _ ha
  obtain ⟨n, ho⟩ := hl
  obtain ⟨as, r⟩ := hs.reads
  have R : Reads s.heap (.ref a) (.list (datas ts)) (a :: as) := .list ho rfl rfl r
  have hd : (PyData.list (datas ts)).depth = hts ts + 1 := by simp [PyData.depth, datas_depth]
  have hc : cLine = 9900 := rfl
  have hu := hA.units
  refine repr_of_reads' R (by simp [PyData.showable, datas_show ts hn]) (PyData.noDict_hsm (by simp [PyData.hasDict, datas_nodict])) hA.gd (by rw [hd, hc]; omega) (fun _ _ e => e) (fun h' u tk hk => ?_) ?_
  · have st : Step mem s mem { s with heap := h', toks := tk } := ⟨rfl, fun b o _ e => hk b o e, fun b hb => .inl hb⟩
    refine ⟨_, mem, IsP.t (Is.str _ _), ⟨fun b o e => hk _ _ (ok.base b o e), fun a l e => ?_⟩, st, k⟩
    obtain ⟨h3, vs, ⟨ep, h4⟩, h5⟩ := ok.lst a l e
    exact ⟨h3, vs, ⟨ep, hk _ _ h4⟩, h5.keep (KeepNL.of_keep hk)⟩
  · refine PyData.shown_fits (B := 13) (by decide) (by decide) ?_ ?_
    · simp [PyData.leavesShort, datas_short ts hn]
    · have := datas_weight ts hn
      have e : (2 : Nat) ^ 20 = 1048576 := by decide
      simp only [PyData.weight]; omega

end

section
variable {X : Cx} {d : Nat} {env : Env} {ρ : Vars} {mem : Mem}

theorem AS.mono {target : Expr} {t : T} {K K' : Vars → Prop} (h : AS X d env ρ mem target t K) (k : ∀ ρ, K ρ → K' ρ) : AS X d env ρ mem target t K' := .mk fun A s v hA ok F hv =>
  wpAny_mono (h.run A s v hA ok F hv) (fun _ s' ⟨ρ', h1, h2, h3, h4⟩ => ⟨ρ', h1, h2, h3, k _ h4⟩) fun _ _ x => x

theorem AOk.less {A : Around} {d1 d2 : Nat} (h : AOk A d2) (hd : d1 ≤ d2) : AOk A d1 := ⟨h.hd, h.gd, by have := h.depth; omega, by have := h.units; omega⟩
theorem OP.deep {t : List Value → Sem Value} {pvs : List PV} {K : PV → Mem → Prop} {d1 d2 : Nat} (h : OP X d1 t pvs mem K) (hd : d1 ≤ d2) : OP X d2 t pvs mem K := .mk fun A s vs hA => h.run A s vs (hA.less hd)

theorem ifP {c : Bool} {P Q : Prop} (h : c = true) (p : P) : if c = true then P else Q := by rw [if_pos h]; exact p
theorem ifN {c : Bool} {P Q : Prop} (h : c = false) (q : Q) : if c = true then P else Q := by rw [if_neg (by rw [h]; decide)]; exact q

theorem Sub.refl (ρ : Vars) : Sub ρ ρ := fun _ _ e => e

theorem Sub.skip {ρ' ρ : Vars} {x : Str} {pv : PV} (s : Sub ρ' ρ) (h : ρ'.lookup x = none := by rfl) : Sub ρ' ((x, pv) :: ρ) := fun y qv e => by
  have hne : y ≠ x := by rintro rfl; rw [h] at e; cases e
  rw [List.lookup_cons]
  have : (y == x) = false := by simpa using hne
  rw [this]; exact s y qv e

/-- a for loop by an invariant over what is left -/
theorem for_inv {target : Expr} {body : List Stmt} {K : FV → Vars → Mem → Prop} (I : List T → Vars → Mem → Prop)
    (turn : ∀ t ts ρ m, I (t :: ts) ρ m → AS X d env ρ m target t fun ρ1 => WSs X d env ρ1 m body fun fv ρ2 m2 => match fv with
      | .next | .cont => ∃ ρ3 m3, Sub ρ3 ρ2 ∧ Le m3 m2 ∧ I ts ρ3 m3
      | .brk => K .next ρ2 m2
      | .ret pv => K (.ret pv) ρ2 m2) (fin : ∀ ρ m, I [] ρ m → K .next ρ m) : ∀ (ts : List T) (ρ : Vars) (m : Mem), I ts ρ m → FOR X d env target body ts ρ m K
  | [], ρ, m, h => fin ρ m h
  | t :: ts, ρ, m, h => (turn t ts ρ m h).mono fun ρ1 h1 => h1.drop fun fv ρ2 m2 h2 => by
      cases fv with
      | next => obtain ⟨ρ3, m3, hs, hl, hi⟩ := h2; exact ⟨ρ3, m3, hs, hl, for_inv I turn fin ts ρ3 m3 hi⟩
      | cont => obtain ⟨ρ3, m3, hs, hl, hi⟩ := h2; exact ⟨ρ3, m3, hs, hl, for_inv I turn fin ts ρ3 m3 hi⟩
      | brk => exact ⟨ρ2, m2, Sub.refl _, Le.refl _, h2⟩
      | ret pv => exact ⟨ρ2, m2, Sub.refl _, Le.refl _, h2⟩

/-- the same, with the turn's end under a name -/
theorem for_inv' {target : Expr} {body : List Stmt} {K : FV → Vars → Mem → Prop} (I : List T → Vars → Mem → Prop)
    (turn : ∀ t ts ρ m, I (t :: ts) ρ m → ∀ K' : FV → Vars → Mem → Prop, (∀ ρ2 m2 ρ3 m3, Sub ρ3 ρ2 → Le m3 m2 → I ts ρ3 m3 → K' .next ρ2 m2 ∧ K' .cont ρ2 m2) → (∀ pv ρ2 m2, K (.ret pv) ρ2 m2 → K' (.ret pv) ρ2 m2) →
      AS X d env ρ m target t fun ρ1 => WSs X d env ρ1 m body K') (fin : ∀ ρ m, I [] ρ m → K .next ρ m) (ts : List T) (ρ : Vars) (m : Mem) (h : I ts ρ m) : FOR X d env target body ts ρ m K :=
  for_inv I (fun t ts ρ m h => turn t ts ρ m h _ (fun _ _ ρ3 m3 a b c => ⟨⟨ρ3, m3, a, b, c⟩, ⟨ρ3, m3, a, b, c⟩⟩) fun _ _ _ h => h) fin ts ρ m h

/-- a comprehension's one-clause loop: the item from each value (its tests true or false) -/
theorem ci_inv {elt : Expr} {target : Expr} {ifs : List Expr} {K : Vars → Mem → List T → Prop} (I : List T → Vars → Mem → List T → Prop)
    (turn : ∀ t ts ρ m acc, I (t :: ts) ρ m acc → AS X d env ρ m target t fun ρ1 => CT X d env ifs ρ1 m fun b m1 =>
      if b then WE X d env ρ1 m1 elt fun pv m2 => ∃ u m3, pv = .t u ∧ acc.length ≤ sizeLine ∧ Le m3 m2 ∧ I ts ρ1 m3 (acc ++ [u]) else I ts ρ1 m1 acc) (fin : ∀ ρ m acc, I [] ρ m acc → K ρ m acc) :
    ∀ (ts : List T) (ρ : Vars) (m : Mem) (acc : List T), I ts ρ m acc → CI X d env (CG X d env elt []) target ifs ts ρ m acc K
  | [], ρ, m, acc, h => fin ρ m acc h
  | t :: ts, ρ, m, acc, h => (turn t ts ρ m acc h).mono fun ρ1 h1 => by
      have mono : ∀ (ifs : List Expr) (m : Mem) (K1 K2 : Bool → Mem → Prop), CT X d env ifs ρ1 m K1 → (∀ b m, K1 b m → K2 b m) → CT X d env ifs ρ1 m K2 := by
        intro ifs
        induction ifs with
        | nil => intro m K1 K2 h k; exact k _ _ h
        | cons c r ih =>
          intro m K1 K2 h k
          refine WT.mono (K := fun b m => if b = true then CT X d env r ρ1 m K1 else K1 false m) h fun b m h => ?_
          cases b with
          | true => exact ih _ _ _ h k
          | false => exact k _ _ h
      refine mono ifs m _ _ h1 fun b m1 h2 => ?_
      cases b with
      | true =>
        refine WE.drop (K := fun pv m2 => ∃ u m3, pv = .t u ∧ acc.length ≤ sizeLine ∧ Le m3 m2 ∧ I ts ρ1 m3 (acc ++ [u])) h2 fun pv m2 ⟨u, m3, e, hs, hl, hi⟩ => ?_
        exact ⟨m3, hl, u, e, hs, ci_inv I turn fin ts ρ1 m3 _ hi⟩
      | false => exact ci_inv I turn fin ts ρ1 m1 _ h2

/-- a comprehension without tests, with the item's end under a name -/
theorem ci_inv' {elt : Expr} {target : Expr} {K : Vars → Mem → List T → Prop} (I : List T → Vars → Mem → List T → Prop)
    (turn : ∀ t ts ρ m acc, I (t :: ts) ρ m acc → AS X d env ρ m target t fun ρ1 => ∀ K' : PV → Mem → Prop, (∀ u m2 m3, acc.length ≤ sizeLine → Le m3 m2 → I ts ρ1 m3 (acc ++ [u]) → K' (.t u) m2) → WE X d env ρ1 m elt K')
    (fin : ∀ ρ m acc, I [] ρ m acc → K ρ m acc) (ts : List T) (ρ : Vars) (m : Mem) (acc : List T) (h : I ts ρ m acc) : CI X d env (CG X d env elt []) target [] ts ρ m acc K :=
  ci_inv I (fun t ts ρ m acc h => (turn t ts ρ m acc h).mono fun ρ1 h1 => by
    show WE X d env ρ1 m elt _
    exact h1 _ fun u m2 m3 a b c => ⟨u, m3, rfl, a, b, c⟩) fin ts ρ m acc h

/-- a while loop, with its ends under names -/
theorem ws_while' {test : Expr} {body : List Stmt} {pos : Pos} {K : FV → Vars → Mem → Prop} (I : Nat → Vars → Mem → Prop)
    (turn : ∀ n ρ m, I n ρ m → ∀ (K' : FV → Vars → Mem → Prop) (KE : Vars → Mem → Prop), (∀ ρ2 m2 k ρ3 m3, k < n → Sub ρ3 ρ2 → Le m3 m2 → I k ρ3 m3 → K' .next ρ2 m2 ∧ K' .cont ρ2 m2) → (∀ pv ρ2 m2, K (.ret pv) ρ2 m2 → K' (.ret pv) ρ2 m2) →
      (∀ ρ m, K .next ρ m → KE ρ m) → WT X d env ρ m test (fun b m1 => if b then WSs X d env ρ m1 body K' else KE ρ m1)) (n : Nat) (h : I n ρ mem) : WS X d env ρ mem (.While test body [] pos) K :=
  ws_while I (fun n ρ m h => turn n ρ m h _ _ (fun _ _ k ρ3 m3 a b c e => ⟨⟨k, ρ3, m3, a, b, c, e⟩, ⟨k, ρ3, m3, a, b, c, e⟩⟩) (fun _ _ _ h => h) fun _ _ h => h) n h

/-- a call's walk, with its ends under a name -/
theorem fn_enter' {x : Str} {f : Addr} {params : Arguments} {body : List Stmt} {scope : Scope} {ns : List Str} {pvs : List PV} {K : PV → Mem → Prop} (D : Def X x f params body scope)
    (hbind : ∀ pm code doc, ∀ vs : List Value, vs.length = pvs.length → bindArgs (docDef x params body scope pm code doc) ⟨vs, []⟩ = pure (ns.zip vs))
    (hkind : ∀ n, ∀ y ∈ ns, scope.names.lookup y = some .local ∨ (scope.names.lookup y = some .cell ∧ ((cellsFrom n scope.names []).lookup y).isSome = true)) (hnd : ns.Nodup) (hp : ∀ pv ∈ pvs, pv.plain)
    (h : ∀ pm code doc L, ∀ K' : FV → Vars → Mem → Prop, (∀ pv ρ m m', Le m' m → K pv m' → K' (.ret pv) ρ m) → (∀ ρ m m', Le m' m → K (.t .none) m' → K' .next ρ m) → WSs X d (fenv x params body scope pm code doc L f) (ns.zip pvs) mem body K')
    (hco : scope.isCoroutine = false := by rfl) (hgen : scope.isGenerator = false := by rfl) (hk : scope.kind = .function := by rfl) : OP X (d + 1) (fcall f) pvs mem K :=
  fn_enter D hbind hkind hnd hp (fun pm code doc L => h pm code doc L _ (fun _ _ _ m' a b => ⟨m', a, b⟩) fun _ _ m' a b => ⟨m', a, b⟩) hco hgen hk

end

section
variable {X : Cx} {d : Nat} {env : Env} {ρ : Vars} {mem : Mem}

/-- a comprehension that sees nothing of the block around it -/
theorem we_comp0 {elt : Expr} {g : Comprehension} {gs : List Comprehension} {scope : Scope} {pos : Pos} {K : PV → Mem → Prop}
    (h : WE X d env ρ mem g.iter (fun pv m => ∃ ts m0, Items m pv ts m0 ∧ ∀ C, CI X d (compEnvC scope [] C env) (CG X d (compEnvC scope [] C env) elt gs) g.target g.ifs ts [] m0 [] (fun _ m1 acc => ∃ m2, Le m2 m1 ∧ ∀ a, m2 a = none → K (.l a) (upd m2 a acc))))
    (clos : closureFor scope env = pure [] := by rfl) (cell : scope.names.all (fun y => y.2 != .cell) = true := by rfl) (kind : scope.kind = .function := by rfl)
    (names : scope.names.all (fun x => if x.2 == .local then (scope.names.lookup x.1 == some .local) else true) = true := by rfl)
    (sync : (g :: gs).all (fun g => g.is_async == 0) = true := by rfl) (fold : (g :: gs).all (fun g => notSet g.iter) = true := by rfl)
    (hs : ∀ x, foldedSetIterable g.iter env x = pure x := by intro _; rfl) :
    WE X d env ρ mem (.ListComp elt (g :: gs) scope pos) K := by
  refine we_comp (cl := []) (ρc := []) ⟨clos, fun y hy => ?_, kind, fun x hx hl => ?_, fun n c h => (by cases h), fun x pv h => (by cases h)⟩ (fun C => ⟨fun g' hg => ?_, folded_all (E := fun C => compEnvC scope [] C env) fold C⟩) hs h
  · have := List.all_eq_true.mp cell y hy
    simpa using this
  · have := List.all_eq_true.mp names x hx
    simpa [hl] using this
  · have := List.all_eq_true.mp sync g' hg
    simpa using this

theorem CT.mono' : ∀ (ifs : List Expr) (m : Mem) (K1 K2 : Bool → Mem → Prop), CT X d env ifs ρ m K1 → (∀ b m, K1 b m → K2 b m) → CT X d env ifs ρ m K2 := by
  intro ifs
  induction ifs with
  | nil => intro m K1 K2 h k; exact k _ _ h
  | cons c r ih =>
    intro m K1 K2 h k
    refine WT.mono (K := fun b m => if b = true then CT X d env r ρ m K1 else K1 false m) h fun b m h => ?_
    cases b with
    | true => exact ih _ _ _ h k
    | false => exact k _ _ h

theorem CI.mono' {elt target : Expr} {ifs : List Expr} {K1 K2 : Vars → Mem → List T → Prop} (k : ∀ ρ m acc, K1 ρ m acc → K2 ρ m acc) :
    ∀ (ts : List T) (ρ : Vars) (m : Mem) (acc : List T), CI X d env (CG X d env elt []) target ifs ts ρ m acc K1 → CI X d env (CG X d env elt []) target ifs ts ρ m acc K2
  | [], ρ, m, acc, h => k _ _ _ h
  | t :: ts, ρ, m, acc, h => AS.mono (K := fun ρ1 => CT X d env ifs ρ1 m fun b m1 => if b then CG X d env elt [] ρ1 m1 acc (fun ρ2 m2 acc2 => CI X d env (CG X d env elt []) target ifs ts ρ2 m2 acc2 K1) else CI X d env (CG X d env elt []) target ifs ts ρ1 m1 acc K1) h fun ρ1 h1 => by
      refine CT.mono' ifs m _ _ h1 fun b m1 h2 => ?_
      cases b with
      | true =>
        refine WE.mono (K := fun pv m => ∃ t, pv = .t t ∧ acc.length ≤ sizeLine ∧ CI X d env (CG X d env elt []) target ifs ts ρ1 m (acc ++ [t]) K1) h2 fun pv m ⟨t, e, hs, hc⟩ => ?_
        exact ⟨t, e, hs, CI.mono' k ts _ _ _ hc⟩
      | false => exact CI.mono' k ts _ _ _ h2

/-- two clauses without tests: the second one's loop for each value of the first -/
theorem ci_inv2 {elt : Expr} {target : Expr} {g2 : Comprehension} {K : Vars → Mem → List T → Prop} (I : List T → Vars → Mem → List T → Prop)
    (turn : ∀ t ts ρ m acc, I (t :: ts) ρ m acc → AS X d env ρ m target t fun ρ1 => WE X d env ρ1 m g2.iter fun pv m1 => ∃ ts2 m0, Items m1 pv ts2 m0 ∧ CI X d env (CG X d env elt []) g2.target g2.ifs ts2 ρ1 m0 acc (I ts))
    (fin : ∀ ρ m acc, I [] ρ m acc → K ρ m acc) :
    ∀ (ts : List T) (ρ : Vars) (m : Mem) (acc : List T), I ts ρ m acc → CI X d env (CG X d env elt [g2]) target [] ts ρ m acc K
  | [], ρ, m, acc, h => fin ρ m acc h
  | t :: ts, ρ, m, acc, h => (turn t ts ρ m acc h).mono fun ρ1 h1 => by
      show WE X d env ρ1 m g2.iter fun pv m => ∃ ts2 m0, Items m pv ts2 m0 ∧ CI X d env (CG X d env elt []) g2.target g2.ifs ts2 ρ1 m0 acc (fun ρ2 m2 acc2 => CI X d env (CG X d env elt [g2]) target [] ts ρ2 m2 acc2 K)
      refine h1.mono fun pv m1 ⟨ts2, m0, hi, hc⟩ => ⟨ts2, m0, hi, CI.mono' (fun ρ m acc h => ci_inv2 I turn fin ts ρ m acc h) ts2 _ _ _ hc⟩

end

section
variable {X : Cx} {d : Nat} {env : Env} {ρ : Vars} {mem : Mem}

theorem lookup_all {β : Type} {P : Str → β → Prop} : ∀ {l : List (Str × β)}, (∀ p ∈ l, P p.1 p.2) → ∀ {x : Str} {y : β}, l.lookup x = some y → P x y
  | [], _, x, y, h => by cases h
  | (a, b) :: r, hl, x, y, h => by
    rw [List.lookup_cons] at h
    split at h
    · rename_i he; cases h; rw [beq_iff_eq] at he; subst he; exact hl _ List.mem_cons_self
    · exact lookup_all (fun p hp => hl p (List.mem_cons_of_mem _ hp)) h

/-- a comprehension that sees cells of the block around it -/
theorem we_compC {elt : Expr} {g : Comprehension} {gs : List Comprehension} {scope : Scope} {pos : Pos} {cl : List (Str × Addr)} {K : PV → Mem → Prop} (ρc : Vars)
    (clos : closureFor scope env = pure cl) (hsub : ∀ p ∈ cl, env.cells.lookup p.1 = some p.2)
    (hvars : ∀ p ∈ ρc, ρ.lookup p.1 = some p.2 ∧ env.kindOf p.1 = some .cell ∧ cl.lookup p.1 = env.cells.lookup p.1 ∧ ((relabel scope env).names.lookup p.1 = some .cell ∨ (relabel scope env).names.lookup p.1 = some .free))
    (h : WE X d env ρ mem g.iter (fun pv m => ∃ ts m0, Items m pv ts m0 ∧ ∀ C, CI X d (compEnvC scope cl C env) (CG X d (compEnvC scope cl C env) elt gs) g.target g.ifs ts ρc m0 [] (fun _ m1 acc => ∃ m2, Le m2 m1 ∧ ∀ a, m2 a = none → K (.l a) (upd m2 a acc))))
    (cell : scope.names.all (fun y => y.2 != .cell) = true := by rfl) (kind : scope.kind = .function := by rfl)
    (names : scope.names.all (fun x => if x.2 == .local then (scope.names.lookup x.1 == some .local) else true) = true := by rfl)
    (sync : (g :: gs).all (fun g => g.is_async == 0) = true := by rfl) (fold : (g :: gs).all (fun g => notSet g.iter) = true := by rfl)
    (hs : ∀ x, foldedSetIterable g.iter env x = pure x := by intro _; rfl) :
    WE X d env ρ mem (.ListComp elt (g :: gs) scope pos) K := by
  refine we_comp (cl := cl) (ρc := ρc) ⟨clos, fun y hy => ?_, kind, fun x hx hl => ?_, fun n c h => lookup_all (P := fun n c => env.cells.lookup n = some c) hsub h, fun x pv h => lookup_all (P := fun x pv => ρ.lookup x = some pv ∧ env.kindOf x = some .cell ∧ cl.lookup x = env.cells.lookup x ∧ ((relabel scope env).names.lookup x = some .cell ∨ (relabel scope env).names.lookup x = some .free)) hvars h⟩ (fun C => ⟨fun g' hg => ?_, folded_all (E := fun C => compEnvC scope cl C env) fold C⟩) hs h
  · have := List.all_eq_true.mp cell y hy
    simpa using this
  · have := List.all_eq_true.mp names x hx
    simpa [hl] using this
  · have := List.all_eq_true.mp sync g' hg
    simpa using this

end

local macro_rules | `(tactic| walk_at "mine w0") => `(tactic| (first | refine wes_nil ?_ | refine wes_pv rfl ?_ | refine we_tupV rfl ?_ | refine wes_cons ?_ | refine we_name rfl ?_ | refine we_str ?_ | refine we_int ?_ | refine we_none ?_ | refine we_bool ?_ | refine wt_cmp ?_ | refine we_cmp ?_ | refine we_bin ?_ | refine we_sub ?_ | refine we_tuple ?_ | refine we_list ?_ | refine wt_not ?_ | refine wt_and1 ?_ | refine wt_and ?_ | refine wt_or1 ?_ | refine wt_or ?_ | refine we_and ?_ | refine we_boolop1 ?_ | refine we_if ?_ | refine we_slice_from ?_ | refine we_slice_upto ?_ | refine wss_one ?_ | refine wss_cons ?_ | refine wss_nil ?_ | refine ws_return ?_ | refine ws_if ?_ | refine ws_continue ?_))

local macro_rules | `(tactic| walk_at "mine w1") => `(tactic| (first | walk_at "mine w0" | skip))

local macro_rules | `(tactic| walk_at "mine o1") => `(tactic| (first | refine op_eq_str ?_ | refine op_ne_str ?_ | refine op_eq_int ?_ | refine op_lt_int ?_ | refine op_gt_int ?_ | refine op_ne_bool ?_ | refine op_is_none ?_ | refine op_isnot_none ?_ | refine op_isi_tuple ?_ | refine op_isi_str ?_ | refine op_add_int ?_ | refine op_sub_int ?_))

local macro_rules | `(tactic| walk_at "mine wn") => `(tactic| (repeat (refine wss_nil ?_)))

local macro_rules | `(tactic| walk_at "mine subs") => `(tactic| (repeat (first | exact Sub.refl _ | refine Sub.skip ?_)))

local macro_rules | `(tactic| walk_at "mine lit6") => `(tactic| (conv => arg 6; whnf))

local macro_rules | `(tactic| walk_at "mine t0") => `(tactic| (refine ⟨_, rfl, Nat.le_trans (m := 100) (Nat.le_of_ble_eq_true rfl) (by decide), ?_⟩))

local macro_rules | `(tactic| walk_at "mine tp") => `(tactic| (try walk_at "mine t0"))

local macro_rules | `(tactic| walk_at "mine binds_tac") => `(tactic| ((intro pm code doc vs h; simp only [List.length_cons, List.length_nil] at h; (rcases vs with _ | ⟨v0, _ | ⟨v1, _ | ⟨v2, _ | ⟨v3, _ | ⟨v4, _ | _⟩⟩⟩⟩⟩ <;> first | rfl | simp at h))))

local macro_rules | `(tactic| walk_at "mine kinds_tac") => `(tactic| ((intro n y hy; simp only [List.mem_cons, List.not_mem_nil, or_false] at hy; (repeat' (first | subst hy | (rcases hy with hy | hy))) <;> first | exact .inl rfl | exact .inr ⟨rfl, rfl⟩)))

local macro_rules | `(tactic| walk_at "mine plains_tac") => `(tactic| ((intro pv h; simp only [List.mem_cons, List.not_mem_nil, or_false] at h; (repeat' (first | subst h | (rcases h with h | h))) <;> trivial)))

local macro_rules | `(tactic| walk_at "mine csub") => `(tactic| ((intro p hp; simp only [List.mem_cons, List.not_mem_nil, or_false] at hp; (repeat' (first | subst hp | (rcases hp with hp | hp))) <;> rfl)))

local macro_rules | `(tactic| walk_at "mine cvars") => `(tactic| ((intro p hp; simp only [List.mem_cons, List.not_mem_nil, or_false] at hp; (repeat' (first | subst hp | (rcases hp with hp | hp))) <;> exact ⟨rfl, rfl, rfl, by first | exact .inl rfl | exact .inr rfl⟩)))

local macro_rules | `(tactic| walk_at "mine ww") => `(tactic| (repeat (first | refine we_listV rfl rfl ?_ | walk_at "mine w0")))

section
set_option maxHeartbeats 8000000

noncomputable abbrev pw := PySem.Challenge.pw_ov0001_01
noncomputable def stAt (i : Nat) : Option Stmt := pw.main.body[i]?
noncomputable def nmAt (i : Nat) : Str := match stAt i with | some (.FunctionDef n _ _ _ _ _ _ _ _ _) => n | _ => Str.empty
noncomputable def prAt (i : Nat) : Arguments := match stAt i with | some (.FunctionDef _ p _ _ _ _ _ _ _ _) => p | _ => { posonlyargs := [], args := [], vararg := none, kwonlyargs := [], kw_defaults := [], kwarg := none, defaults := [] }
noncomputable def bdAt (i : Nat) : List Stmt := match stAt i with | some (.FunctionDef _ _ b _ _ _ _ _ _ _) => b | _ => []
noncomputable def scAt (i : Nat) : Scope := match stAt i with | some (.FunctionDef _ _ _ _ _ _ s _ _ _) => s | _ => { kind := .function, names := [], isGenerator := false, isCoroutine := false, more := [] }

/-- the i-th statement of the text is a def, at that address -/
noncomputable abbrev DefAt (X : Cx) (i : Nat) (f : Addr) : Prop := Def X (nmAt i) f (prAt i) (bdAt i) (scAt i)

/-- the built-in names that the text uses -/
structure Blt (X : Cx) : Prop where
  len : Free X "len" (.builtin "len")
  isi : Free X "isinstance" (.builtin "isinstance")
  rpr : Free X "repr" (.builtin "repr")
  tup : Free X "tuple" (.type "tuple")
  str : Free X "str" (.type "str")
  lst : Free X "list" (.type "list")
  rge : Free X "range" (.type "range")
  rev : Free X "reversed" (.type "reversed")

/-- the defs of the text, and the built-in names -/
structure Fns (X : Cx) (a : Nat → Addr) : Prop where
  B : Blt X
  D : ∀ i, ((1 ≤ i ∧ i ≤ 9) ∨ (11 ≤ i ∧ i ≤ 25)) → DefAt X i (a i)




end

section
set_option maxHeartbeats 8000000

noncomputable def isPair : T → Bool
  | .tup [_, .tup _] => true
  | _ => false

/-- the table that the first def's body writes -/
noncomputable def dictOf : List Stmt → List (Str × Str)
  | [.Return (some (.Dict ks vs _)) _] => (ckv ks vs).getD []
  | _ => []
noncomputable def partRules : List (Str × Str) := dictOf (bdAt 1)

noncomputable def constRule : List T → Option Str
  | [] => none
  | p :: r => if isPair p then none else some (if r.length = 2 then "--e" else "-")
noncomputable def ruleOf : T → Option Str
  | .tup (.str k :: r) =>
    if k = ("if" : Str) then some (if r.length = 2 then "bs" else "eee")
    else if k = ("prop" : Str) then some (if r.length = 4 then "---e" else "ee-")
    else if k = ("static" : Str) then none
    else if k = ("const" : Str) then constRule r
    else partRules.lookup k
  | _ => none

noncomputable def entryRule (c : Nat) : Option Str :=
  if c = 107 then some "ee" else if c = 97 then some "e" else if c = 109 then some "se" else if c = 98 then some "es" else if c = 99 then some "--s" else if c = 118 then some "-e" else none

noncomputable def partE : T → Option (List T)
  | .tup (.str k :: r) => if k = ("name" : Str) then some [] else some [.tup (.str k :: r)]
  | _ => none
noncomputable def partS : T → Option (List T)
  | .tup l => some l
  | _ => none
noncomputable def entries (sub : List T → Option (List T)) : List T → Option (List T)
  | [] => some []
  | .none :: r => entries sub r
  | .tup l :: r => match sub l, entries sub r with
    | some a, some b => some (a ++ b)
    | _, _ => none
  | _ :: _ => none
noncomputable def partOf (sub : List Nat → List T → Option (List T)) (c : Nat) (p : T) : Option (List T) :=
  if p.isNone || c == 45 then some []
  else if c = 101 then partE p
  else if c = 115 then partS p
  else if c = 118 then none
  else match entryRule c, p with
    | some r, .tup l => entries (sub r.cps.toList) l
    | _, _ => none
noncomputable def partsBy (sub : List Nat → List T → Option (List T)) : List Nat → List T → Option (List T)
  | [], _ => some []
  | c :: cs, p :: ps => match partOf sub c p, partsBy sub cs ps with
    | some a, some b => some (a ++ b)
    | _, _ => none
  | _ :: _, [] => none
/-- what put_parts lays, nested at most so often -/
noncomputable def parts : Nat → List Nat → List T → Option (List T)
  | 0 => fun _ _ => none
  | n + 1 => partsBy (parts n)

noncomputable def kids : T → Option (List T)
  | .tup (h :: ps) => match ruleOf (.tup (h :: ps)) with
    | some r => parts 2 r.cps.toList ps
    | none => none
  | _ => none


end

section
set_option maxHeartbeats 8000000
variable {X : Cx} {d : Nat} {mem : Mem}

theorem fn_is_pair {a : Nat → Addr} (F : Fns X a) {t : T} (hw : t.wt ≤ sizeLine) {K : PV → Mem → Prop} (k : K (.t (.bool (isPair t))) mem) : OP X (d + 1) (fcall (a 3)) [.t t] mem K := by
  have B := F.B
  refine fn_enter (ns := ["piece"]) (F.D 3 (by decide)) (by walk_at "mine binds_tac") (by walk_at "mine kinds_tac") (by decide) (by walk_at "mine plains_tac") (fun pm code doc L => ?_)
  walk_at "mine lit6"
  walk_at "mine w1"; walk_at "mine w1"; walk_at "mine w1"
  refine we_bcall B.isi ?_
  walk_at "mine w1"; walk_at "mine w1"; walk_at "mine w1"
  refine we_type B.tup ?_
  walk_at "mine w1"; walk_at "mine o1"
  refine ⟨_, rfl, ?_⟩
  cases t with
  | tup l =>
    rw [if_pos (by rfl)]
    have hl : l.length ≤ sizeLine := by have := wts_len l; simp [T.wt] at hw; omega
    walk_at "mine w1"; walk_at "mine w1"
    refine we_bcall B.len ?_
    walk_at "mine w1"; walk_at "mine w1"; walk_at "mine w1"
    refine op_len_tup hl ?_
    walk_at "mine w1"; walk_at "mine o1"
    refine ⟨_, rfl, ?_⟩
    by_cases h2 : l.length = 2
    · rw [if_pos (by simp [h2])]
      obtain ⟨x, y, rfl⟩ : ∃ x y, l = [x, y] := by
        rcases l with _ | ⟨x, _ | ⟨y, _ | _⟩⟩ <;> simp at h2
        exact ⟨_, _, rfl⟩
      walk_at "mine w1"
      refine we_bcall B.isi ?_
      walk_at "mine w1"; walk_at "mine w1"; walk_at "mine w1"; walk_at "mine w1"
      refine op_sub_tup (t := y) (by decide) rfl (by decide) ?_
      walk_at "mine w1"
      refine we_type B.tup ?_
      walk_at "mine w1"; walk_at "mine o1"
      refine ⟨mem, Le.refl _, ?_⟩
      cases y <;> exact k
    · rw [if_neg (by simp; omega)]
      refine ⟨mem, Le.refl _, ?_⟩
      have e : isPair (.tup l) = false := by
        rcases l with _ | ⟨x, _ | ⟨y, _ | _⟩⟩ <;> first | exact absurd rfl h2 | rfl | (cases y <;> rfl)
      rw [e] at k; exact k
  | _ => exact ⟨mem, Le.refl _, k⟩

theorem fn_part_rules {a : Nat → Addr} (F : Fns X a) {K : PV → Mem → Prop} (k : K (.ob (IsDct X partRules)) mem) : OP X (d + 1) (fcall (a 1)) [] mem K := by
  refine fn_enter (ns := []) (F.D 1 (by decide)) (by walk_at "mine binds_tac") (by intro n y hy; simp at hy) (by decide) (by intro pv h; simp at h) (fun pm code doc L => ?_)
  walk_at "mine lit6"
  walk_at "mine w1"; walk_at "mine w1"
  refine we_dict (ys := partRules) (by kernel_rfl) (by decide +kernel) (by decide +kernel) (by decide +kernel) ?_
  exact ⟨mem, Le.refl _, k⟩

theorem fn_entry_rule {a : Nat → Addr} (F : Fns X a) {c : Nat} {r : Str} (hr : entryRule c = some r) {K : PV → Mem → Prop} (k : K (.t (.str r)) mem) : OP X (d + 1) (fcall (a 4)) [.t (.str ⟨#[c]⟩)] mem K := by
  refine fn_enter (ns := ["sign"]) (F.D 4 (by decide)) (by walk_at "mine binds_tac") (by walk_at "mine kinds_tac") (by decide) (by walk_at "mine plains_tac") (fun pm code doc L => ?_)
  walk_at "mine lit6"
  walk_at "mine w1"; walk_at "mine w1"; walk_at "mine w1"
  refine we_dict (ys := [("k", "ee"), ("a", "e"), ("m", "se"), ("b", "es"), ("c", "--s"), ("v", "-e")]) (by rfl) (by decide) (by decide) (by decide) ?_
  walk_at "mine w1"
  refine op_sub_dict (y := r) ?_ ⟨mem, Le.refl _, k⟩
  unfold entryRule at hr
  split at hr
  · subst c; cases hr; decide
  split at hr
  · subst c; cases hr; decide
  split at hr
  · subst c; cases hr; decide
  split at hr
  · subst c; cases hr; decide
  split at hr
  · subst c; cases hr; decide
  split at hr
  · subst c; cases hr; decide
  · cases hr

end

section
set_option maxHeartbeats 8000000
variable {X : Cx} {d : Nat} {mem : Mem}

theorem lookup_mem {x y : Str} : ∀ {l : List (Str × Str)}, l.lookup x = some y → (x, y) ∈ l
  | [], h => by cases h
  | (a, b) :: r, h => by
    rw [List.lookup_cons] at h
    split at h
    · rename_i he; cases h; rw [beq_iff_eq] at he; subst he; exact List.mem_cons_self
    · exact List.mem_cons_of_mem _ (lookup_mem h)

theorem fn_rule_of {a : Nat → Addr} (F : Fns X a) {t : T} {r : Str} (hr : ruleOf t = some r) (hw : t.wt ≤ sizeLine) {K : PV → Mem → Prop} (k : K (.t (.str r)) mem) : OP X (d + 2) (fcall (a 2)) [.t t] mem K := by
  have B := F.B
  obtain ⟨kd, l, rfl⟩ : ∃ kd l, t = .tup (.str kd :: l) := by
    unfold ruleOf at hr
    split at hr
    · exact ⟨_, _, rfl⟩
    · cases hr
  have hl : (T.str kd :: l).length ≤ sizeLine := by have := wts_len (T.str kd :: l); simp only [T.wt] at hw; omega
  unfold ruleOf at hr
  dsimp only at hr
  refine fn_enter (ns := ["node"]) (F.D 2 (by decide)) (by walk_at "mine binds_tac") (by walk_at "mine kinds_tac") (by decide) (by walk_at "mine plains_tac") (fun pm code doc L => ?_)
  walk_at "mine lit6"
  walk_at "mine w1"
  refine ws_assign ?_ (.inl rfl)
  walk_at "mine w1"; walk_at "mine w1"; walk_at "mine w1"
  refine op_sub_tup (t := .str kd) (by decide) rfl (by decide) ⟨trivial, ?_⟩
  walk_at "mine w1"; walk_at "mine w1"; walk_at "mine w1"; walk_at "mine w1"; walk_at "mine w1"; walk_at "mine o1"
  refine ⟨_, rfl, ?_⟩
  by_cases h1 : kd = ("if" : Str)
  · rw [if_pos h1] at hr
    rw [if_pos (by simpa using h1)]
    walk_at "mine w1"; walk_at "mine w1"; walk_at "mine w1"; walk_at "mine w1"
    refine we_bcall B.len ?_
    walk_at "mine w1"; walk_at "mine w1"; walk_at "mine w1"
    refine op_len_tup hl ?_
    walk_at "mine w1"; walk_at "mine o1"
    refine ⟨_, rfl, ?_⟩
    by_cases h2 : l.length = 2
    · rw [if_pos h2] at hr; cases hr
      rw [if_pos (by simp [h2])]
      walk_at "mine w1"
      exact ⟨mem, Le.refl _, k⟩
    · rw [if_neg h2] at hr; cases hr
      rw [if_neg (by simp; omega)]
      walk_at "mine w1"
      exact ⟨mem, Le.refl _, k⟩
  rw [if_neg h1] at hr
  rw [if_neg (by simpa using h1)]
  walk_at "mine w1"; walk_at "mine w1"; walk_at "mine w1"; walk_at "mine w1"; walk_at "mine w1"; walk_at "mine w1"; walk_at "mine o1"
  refine ⟨_, rfl, ?_⟩
  by_cases h2 : kd = ("prop" : Str)
  · rw [if_pos h2] at hr
    rw [if_pos (by simpa using h2)]
    walk_at "mine w1"; walk_at "mine w1"; walk_at "mine w1"; walk_at "mine w1"
    refine we_bcall B.len ?_
    walk_at "mine w1"; walk_at "mine w1"; walk_at "mine w1"
    refine op_len_tup hl ?_
    walk_at "mine w1"; walk_at "mine o1"
    refine ⟨_, rfl, ?_⟩
    by_cases h2 : l.length = 4
    · rw [if_pos h2] at hr; cases hr
      rw [if_pos (by simp [h2])]
      walk_at "mine w1"
      exact ⟨mem, Le.refl _, k⟩
    · rw [if_neg h2] at hr; cases hr
      rw [if_neg (by simp; omega)]
      walk_at "mine w1"
      exact ⟨mem, Le.refl _, k⟩
  rw [if_neg h2] at hr
  rw [if_neg (by simpa using h2)]
  by_cases h3 : kd = ("static" : Str)
  · rw [if_pos h3] at hr; cases hr
  rw [if_neg h3] at hr
  walk_at "mine w1"; walk_at "mine w1"; walk_at "mine w1"; walk_at "mine w1"; walk_at "mine w1"; walk_at "mine w1"; walk_at "mine w1"; walk_at "mine o1"
  refine ⟨_, rfl, ?_⟩
  rw [if_neg (by simpa using h3)]
  walk_at "mine w1"; walk_at "mine w1"; walk_at "mine w1"; walk_at "mine w1"; walk_at "mine w1"; walk_at "mine o1"
  refine ⟨_, rfl, ?_⟩
  by_cases h4 : kd = ("const" : Str)
  · rw [if_pos h4] at hr
    rw [if_pos (by simpa using h4)]
    rcases l with _ | ⟨p, l⟩
    · cases hr
    unfold constRule at hr
    dsimp only at hr
    have hp : isPair p = false := by
      cases h : isPair p with
      | false => rfl
      | true => rw [h] at hr; cases hr
    rw [hp] at hr
    walk_at "mine w1"
    refine wt_bool ?_
    refine we_call (F.D 3 (by decide)) ?_
    walk_at "mine w1"; walk_at "mine w1"; walk_at "mine w1"; walk_at "mine w1"
    refine op_sub_tup (t := p) (by decide) rfl (by decide) ?_
    walk_at "mine w1"
    refine fn_is_pair F (by have := wts_mem (l := T.str kd :: p :: l) (t := p) (by simp); simp only [T.wt] at hw; omega) ?_
    refine ⟨_, rfl, ?_⟩
    rw [hp, if_neg (by decide)]
    walk_at "mine w1"; walk_at "mine w1"; walk_at "mine w1"; walk_at "mine w1"; walk_at "mine w1"; walk_at "mine w1"; walk_at "mine o1"
    refine ⟨_, rfl, ?_⟩
    rw [if_pos (by simpa using h4)]
    walk_at "mine w1"; walk_at "mine w1"; walk_at "mine w1"; walk_at "mine w1"
    refine we_bcall B.len ?_
    walk_at "mine w1"; walk_at "mine w1"; walk_at "mine w1"
    refine op_len_tup hl ?_
    walk_at "mine w1"; walk_at "mine o1"
    refine ⟨_, rfl, ?_⟩
    by_cases h2 : l.length = 2
    · rw [if_neg (by decide), if_pos h2] at hr; cases hr
      rw [if_pos (by simp [h2])]
      walk_at "mine w1"
      exact ⟨mem, Le.refl _, k⟩
    · rw [if_neg (by decide), if_neg h2] at hr; cases hr
      rw [if_neg (by simp; omega)]
      walk_at "mine w1"
      exact ⟨mem, Le.refl _, k⟩
  rw [if_neg h4] at hr
  rw [if_neg (by simpa using h4), if_neg (by decide)]
  walk_at "mine w1"; walk_at "mine w1"; walk_at "mine w1"; walk_at "mine w1"; walk_at "mine w1"; walk_at "mine w1"; walk_at "mine o1"
  refine ⟨_, rfl, ?_⟩
  rw [if_neg (by simpa using h4)]
  walk_at "mine w1"; walk_at "mine w1"; walk_at "mine w1"; walk_at "mine w1"
  refine we_call0 (F.D 1 (by decide)) (fn_part_rules F ?_)
  walk_at "mine w1"
  exact op_sub_dict (lookup_mem hr) ⟨mem, Le.refl _, k⟩

end

section
set_option maxHeartbeats 8000000
variable {X : Cx} {d : Nat} {mem : Mem}

theorem partE_wt {p : T} {o : List T} (h : partE p = some o) : wts o ≤ p.wt := by
  unfold partE at h
  split at h
  · split at h <;> cases h <;> simp [wts]
  · cases h
theorem partS_wt {p : T} {o : List T} (h : partS p = some o) : wts o ≤ p.wt := by
  unfold partS at h
  split at h
  · cases h; simp [T.wt]
  · cases h
theorem entries_wt {sub : List T → Option (List T)} (hs : ∀ l o, sub l = some o → wts o ≤ wts l) : ∀ {l : List T} {o : List T}, entries sub l = some o → wts o ≤ wts l
  | [], o, h => by simp [entries] at h; subst h; simp [wts]
  | .none :: r, o, h => by
    simp only [entries] at h
    have := entries_wt hs h; simp [wts]; omega
  | .tup l :: r, o, h => by
    simp only [entries] at h
    split at h
    · rename_i a b h1 h2
      cases h
      have := hs _ _ h1
      have := entries_wt hs h2
      simp [wts, wts_append, T.wt]; omega
    · cases h
  | .bool _ :: r, o, h => by simp [entries] at h
  | .int _ :: r, o, h => by simp [entries] at h
  | .str _ :: r, o, h => by simp [entries] at h
theorem partOf_wt {sub : List Nat → List T → Option (List T)} (hs : ∀ c l o, sub c l = some o → wts o ≤ wts l) {c : Nat} {p : T} {o : List T} (h : partOf sub c p = some o) : wts o ≤ p.wt := by
  unfold partOf at h
  split at h
  · cases h; simp [wts]
  split at h
  · exact partE_wt h
  split at h
  · exact partS_wt h
  split at h
  · cases h
  split at h
  · have := entries_wt (hs _) h; simp [T.wt]; omega
  · cases h
theorem partsBy_wt {sub : List Nat → List T → Option (List T)} (hs : ∀ c l o, sub c l = some o → wts o ≤ wts l) : ∀ {cs : List Nat} {ps : List T} {o : List T}, partsBy sub cs ps = some o → wts o ≤ wts ps
  | [], ps, o, h => by simp [partsBy] at h; subst h; simp [wts]
  | c :: cs, p :: ps, o, h => by
    simp only [partsBy] at h
    split at h
    · rename_i a b h1 h2
      cases h
      have := partOf_wt hs h1
      have := partsBy_wt hs h2
      simp [wts, wts_append]; omega
    · cases h
  | _ :: _, [], o, h => by simp [partsBy] at h
theorem parts_wt : ∀ {n : Nat} {cs : List Nat} {ps : List T} {o : List T}, parts n cs ps = some o → wts o ≤ wts ps
  | 0, _, _, _, h => by cases h
  | n + 1, _, _, _, h => partsBy_wt (fun _ _ _ h => parts_wt h) h

theorem partsBy_len {sub : List Nat → List T → Option (List T)} : ∀ {cs : List Nat} {ps : List T} {o : List T}, partsBy sub cs ps = some o → cs.length ≤ ps.length
  | [], ps, o, h => by simp
  | c :: cs, p :: ps, o, h => by
    simp only [partsBy] at h
    split at h
    · rename_i a b h1 h2; have := partsBy_len h2; simp; omega
    · cases h
  | _ :: _, [], o, h => by simp [partsBy] at h

theorem partsBy_drop {sub : List Nat → List T → Option (List T)} {c : Nat} {cs : List Nat} {ps : List T} {o : List T} (h : partsBy sub (c :: cs) ps = some o) : ∃ p q o1 o2, ps = p :: q ∧ partOf sub c p = some o1 ∧ partsBy sub cs q = some o2 ∧ o = o1 ++ o2 := by
  cases ps with
  | nil => simp [partsBy] at h
  | cons p q =>
    simp only [partsBy] at h
    split at h
    · rename_i a b h1 h2; cases h; exact ⟨p, q, a, b, rfl, h1, h2, rfl⟩
    · cases h

noncomputable abbrev ppv (r : Str) (ps : List T) (b : Addr) : Vars := [("rule", .t (.str r)), ("parts", .t (.tup ps)), ("found", .l b)]

theorem chr_beq (c k : Nat) : ((⟨#[c]⟩ : Str) == ⟨#[k]⟩) = (c == k) := by
  rw [Bool.eq_iff_iff, beq_iff_eq, beq_iff_eq]
  constructor
  · intro h; injection h with h; simpa using h
  · rintro rfl; rfl

theorem entries_cons {sub : List T → Option (List T)} {t : T} {ts : List T} {o : List T} (h : entries sub (t :: ts) = some o) : (t = .none ∧ entries sub ts = some o) ∨ ∃ l a b, t = .tup l ∧ sub l = some a ∧ entries sub ts = some b ∧ o = a ++ b := by
  cases t with
  | none => exact .inl ⟨rfl, by simpa [entries] using h⟩
  | tup l =>
    simp only [entries] at h
    split at h
    · rename_i a b h1 h2; cases h; exact .inr ⟨l, a, b, rfl, h1, h2, rfl⟩
    · cases h
  | _ => simp [entries] at h

theorem fn_put_parts {a : Nat → Addr} (F : Fns X a) : ∀ (n : Nat) {r : Str} {ps out acc : List T} {b : Addr} {d : Nat} {mem : Mem} {K : PV → Mem → Prop}, 2 * n + 1 ≤ d → parts n r.cps.toList ps = some out → mem b = some acc → acc.length + wts ps ≤ 1000000 → r.length ≤ 1000 → K (.t .none) (upd mem b (acc ++ out)) →
    OP X d (fcall (a 5)) [.t (.str r), .t (.tup ps), .l b] mem K
  | 0, r, ps, out, acc, b, d, mem, K, _, h, _, _, _, _ => by cases h
  | n + 1, r, ps, out, acc, b, d + 1, mem, K, hD, h, hb, hsz, hrl, k => by
    have B := F.B
    have hs0 := sizeLine_eq
    refine fn_enter (ns := ["rule", "parts", "found"]) (F.D 5 (by decide)) (by walk_at "mine binds_tac") (by walk_at "mine kinds_tac") (by decide) (by walk_at "mine plains_tac") (fun pm code doc L => ?_)
    walk_at "mine lit6"
    walk_at "mine w1"
    refine ws_for ?_
    refine we_tcall B.rge ?_
    walk_at "mine w1"
    refine we_bcall B.len ?_
    walk_at "mine w1"; walk_at "mine w1"; walk_at "mine w1"
    refine op_len_str (by omega) ?_
    walk_at "mine w1"
    refine op_range ?_
    refine ⟨rng r.length, mem, Items.rng (by omega), ?_⟩
    refine for_inv' (fun ts ρ m => ∃ i acc' o2, ts = (List.range' i (r.length - i)).map (fun j : Nat => T.int (j : Int)) ∧ i ≤ r.length ∧ partsBy (parts n) (r.cps.toList.drop i) (ps.drop i) = some o2 ∧ acc ++ out = acc' ++ o2 ∧ acc'.length + wts (ps.drop i) ≤ 1000000 ∧ m = upd mem b acc' ∧
      ρ = ppv r ps b) ?_ ?_ _ _ _ ⟨0, acc, out, by simp [rng, List.range_eq_range'], Nat.zero_le _, h, rfl, hsz, (upd_self hb).symm, rfl⟩
    · rintro t ts ρ m ⟨i, acc', o2, hts, hi, hp, ho, hsA, rfl, rfl⟩ K' hK' -
      have hlt : i < r.length := by
        rcases Nat.lt_or_ge i r.length with hlt | hge
        · exact hlt
        · rw [Nat.sub_eq_zero_of_le hge] at hts; simp at hts
      have e1 : r.length - i = (r.length - (i + 1)) + 1 := by omega
      rw [e1, List.range'_succ, List.map_cons] at hts
      injection hts with ht hts
      subst ht
      have hlt' : i < r.cps.toList.length := by rw [Array.length_toList]; exact hlt
      have hcs := List.drop_eq_getElem_cons hlt'
      rw [hcs] at hp
      obtain ⟨p, q, o1, o3, hps, hp1, hp2, rfl⟩ := partsBy_drop hp
      have hlp : i < ps.length := by
        rcases Nat.lt_or_ge i ps.length with h | h
        · exact h
        · rw [List.drop_eq_nil_of_le h] at hps; cases hps
      rw [List.drop_eq_getElem_cons hlp] at hps
      injection hps with hpe hq
      subst hq
      have hpi : ps[i]? = some p := by rw [List.getElem?_eq_getElem hlp, hpe]
      generalize hc : r.cps.toList[i] = c at hp1 hcs
      have hci : r.cps[i]? = some c := by
        have : r.cps.toList[i]? = some c := by rw [List.getElem?_eq_getElem hlt', hc]
        simpa using this
      have hlt'' : i < r.cps.size := hlt
      have hi60 : (i : Int) < 2 ^ 63 := by omega
      have hw1 := partOf_wt (fun _ _ _ h => parts_wt h) hp1
      have hpw : p.wt ≤ wts ps := wts_mem (List.mem_of_getElem? hpi)
      have hdw : wts (ps.drop i) = p.wt + wts (ps.drop (i + 1)) := by rw [List.drop_eq_getElem_cons hlp, hpe]; rfl
      have hacc : acc'.length + p.wt ≤ 1000000 := by omega
      have ho1l := wts_len o1
      have hsN : (acc' ++ o1).length + wts (ps.drop (i + 1)) ≤ 1000000 := by rw [List.length_append]; omega
      have next : ∀ ρ2, Sub (ppv r ps b) ρ2 → K' .next ρ2 (upd mem b (acc' ++ o1)) ∧ K' .cont ρ2 (upd mem b (acc' ++ o1)) := fun ρ2 hsub =>
        hK' _ _ _ _ hsub (Le.refl _) ⟨i + 1, acc' ++ o1, o3, hts, hlt, hp2, by rw [ho, List.append_assoc], hsN, rfl, rfl⟩
      clear hK'
      refine as_name (.inl rfl) ?_
      walk_at "mine w1"
      refine ws_swap2 ?_ (.inl rfl) (.inl rfl)
      walk_at "mine w1"; walk_at "mine w1"; walk_at "mine w1"; walk_at "mine w1"; walk_at "mine w1"
      refine op_sub_str (Int.natCast_nonneg i) (by simpa only [Int.toNat_natCast] using hci) hi60 ?_
      walk_at "mine w1"; walk_at "mine w1"; walk_at "mine w1"; walk_at "mine w1"
      refine op_sub_tup (t := p) (Int.natCast_nonneg i) (by simpa using hpi) hi60 ?_
      walk_at "mine w1"
      try refine ⟨_, rfl, (show 2 ≤ sizeLine by decide), ?_⟩
      refine ⟨_, _, rfl, ?_⟩
      walk_at "mine w1"; walk_at "mine w1"; walk_at "mine w1"; walk_at "mine w1"; walk_at "mine w1"; walk_at "mine w1"; walk_at "mine o1"
      refine ⟨_, rfl, ?_⟩
      cases hpn : p.isNone with
      | true =>
        rw [if_pos rfl, if_pos rfl]
        have ho1 : o1 = [] := by simp [partOf, hpn] at hp1; exact hp1
        subst ho1
        rw [List.append_nil] at next
        walk_at "mine w1"; walk_at "mine w1"
        first | exact (next _ (by walk_at "mine subs")).1 | exact (next _ (by walk_at "mine subs")).2
      | false =>
        rw [if_neg (by decide)]
        walk_at "mine w1"; walk_at "mine w1"; walk_at "mine w1"; walk_at "mine w1"; walk_at "mine o1"
        refine ⟨_, rfl, ?_⟩
        rw [show ((⟨#[c]⟩ : Str) == ("-" : Str)) = (c == 45) from chr_beq c 45]
        by_cases h45 : c = 45
        · rw [if_pos (by simp [h45])]
          have ho1 : o1 = [] := by simp [partOf, h45] at hp1; exact hp1
          subst ho1
          rw [List.append_nil] at next
          walk_at "mine w1"; walk_at "mine w1"
          first | exact (next _ (by walk_at "mine subs")).1 | exact (next _ (by walk_at "mine subs")).2
        rw [if_neg (by simp [h45])]
        unfold partOf at hp1
        rw [if_neg (by simp [hpn, h45])] at hp1
        walk_at "mine w1"; walk_at "mine w1"; walk_at "mine w1"; walk_at "mine w1"; walk_at "mine w1"; walk_at "mine w1"; walk_at "mine o1"
        refine ⟨_, rfl, ?_⟩
        rw [show ((⟨#[c]⟩ : Str) == ("e" : Str)) = (c == 101) from chr_beq c 101]
        by_cases h101 : c = 101
        · rw [if_pos (by simp [h101])]
          rw [if_pos h101] at hp1
          unfold partE at hp1
          split at hp1
          · rename_i k r'
            walk_at "mine w1"; walk_at "mine w1"; walk_at "mine w1"; walk_at "mine w1"; walk_at "mine w1"; walk_at "mine w1"
            refine op_sub_tup (t := .str k) (by decide) rfl (by decide) ?_
            walk_at "mine w1"; walk_at "mine o1"
            refine ⟨_, rfl, ?_⟩
            by_cases hk : k = ("name" : Str)
            · rw [if_pos hk] at hp1; cases hp1
              rw [List.append_nil] at next
              rw [if_neg (by simp [hk])]
              walk_at "mine w1"; walk_at "mine w1"; walk_at "mine w1"
              first | exact (next _ (by walk_at "mine subs")).1 | exact (next _ (by walk_at "mine subs")).2
            · rw [if_neg hk] at hp1; cases hp1
              rw [if_pos (by simpa using hk)]
              walk_at "mine w1"
              refine ws_expr ?_
              refine we_meth1 PySem.F.slot_list_append PySem.F.type_list_append ?_
              walk_at "mine w1"
              refine ⟨b, acc', rfl, upd_same, ?_⟩
              walk_at "mine w1"; walk_at "mine w1"; walk_at "mine w1"
              refine op_append upd_same (by omega) ?_
              refine ⟨rfl, ?_⟩
              rw [upd_upd]
              walk_at "mine w1"; walk_at "mine w1"; walk_at "mine w1"
              first | exact (next _ (by walk_at "mine subs")).1 | exact (next _ (by walk_at "mine subs")).2
          · cases hp1
        rw [if_neg (by simp [h101])]
        rw [if_neg h101] at hp1
        walk_at "mine w1"; walk_at "mine w1"; walk_at "mine w1"; walk_at "mine w1"; walk_at "mine w1"; walk_at "mine o1"
        refine ⟨_, rfl, ?_⟩
        rw [show ((⟨#[c]⟩ : Str) == ("s" : Str)) = (c == 115) from chr_beq c 115]
        by_cases h115 : c = 115
        · rw [if_pos (by simp [h115])]
          rw [if_pos h115] at hp1
          unfold partS at hp1
          split at hp1
          · rename_i l
            cases hp1
            walk_at "mine w1"
            refine ws_expr ?_
            refine we_meth1 PySem.F.slot_list_extend PySem.F.type_list_extend ?_
            walk_at "mine w1"
            refine ⟨b, acc', rfl, upd_same, ?_⟩
            walk_at "mine w1"; walk_at "mine w1"; walk_at "mine w1"
            refine op_extend_tup upd_same (by omega) ?_
            refine ⟨rfl, ?_⟩
            rw [upd_upd]
            walk_at "mine w1"; walk_at "mine w1"; walk_at "mine w1"
            first | exact (next _ (by walk_at "mine subs")).1 | exact (next _ (by walk_at "mine subs")).2
          · cases hp1
        rw [if_neg (by simp [h115])]
        rw [if_neg h115] at hp1
        walk_at "mine w1"; walk_at "mine w1"; walk_at "mine w1"; walk_at "mine w1"; walk_at "mine w1"; walk_at "mine o1"
        refine ⟨_, rfl, ?_⟩
        rw [show ((⟨#[c]⟩ : Str) == ("v" : Str)) = (c == 118) from chr_beq c 118]
        by_cases h118 : c = 118
        · rw [if_pos h118] at hp1; cases hp1
        rw [if_neg (by simp [h118])]
        rw [if_neg h118] at hp1
        split at hp1
        · rename_i r2 l her
          walk_at "mine w1"
          refine ws_for ?_
          walk_at "mine w1"
          refine ⟨l, upd mem b acc', Items.tup, ?_⟩
          refine for_inv' (fun ts ρ m => ∃ done o2, entries (parts n r2.cps.toList) ts = some o2 ∧ o1 = done ++ o2 ∧ done.length + wts ts ≤ wts l ∧ m = upd mem b (acc' ++ done) ∧
            ρ = (("sign", .t (.str ⟨#[c]⟩)) :: ("piece", .t (.tup l)) :: ("place", .t (.int (i : Int))) :: ppv r ps b : Vars)) ?_ ?_ _ _ _ ⟨[], o1, hp1, rfl, by simp, by rw [List.append_nil], rfl⟩
          · rintro t ts2 ρ m ⟨done, o2, he, ho1, hwl, rfl, rfl⟩ K2 hK2 -
            have hwt : done.length + (t.wt + wts ts2) ≤ wts l := hwl
            refine as_name (.inl rfl) ?_
            walk_at "mine w1"; walk_at "mine w1"; walk_at "mine w1"; walk_at "mine w1"; walk_at "mine w1"; walk_at "mine o1"
            refine ⟨_, rfl, ?_⟩
            rcases entries_cons he with ⟨rfl, he2⟩ | ⟨q, a1, b1, rfl, hq, he2, rfl⟩
            · rw [if_neg (by decide)]
              walk_at "mine w1"; walk_at "mine w1"
              exact (hK2 _ _ _ _ (by walk_at "mine subs") (Le.refl _) ⟨done, o2, he2, ho1, by omega, rfl, rfl⟩).1
            · rw [if_pos (show (!(T.tup q).isNone) = true from rfl)]
              walk_at "mine w1"
              refine ws_expr ?_
              refine we_call (F.D 5 (by decide)) ?_
              walk_at "mine w1"
              refine we_call (F.D 4 (by decide)) ?_
              walk_at "mine w1"; walk_at "mine w1"; walk_at "mine w1"
              refine (fn_entry_rule (d := 0) F her ?_).deep (by omega)
              walk_at "mine w1"; walk_at "mine w1"; walk_at "mine w1"; walk_at "mine w1"; walk_at "mine w1"
              have hr2 : r2.length ≤ 3 := by
                unfold entryRule at her
                repeat' (split at her)
                all_goals first | (cases her; decide) | cases her
              have hpl : T.wt (.tup l) = 1 + wts l := rfl
              have hwq : T.wt (.tup q) = 1 + wts q := rfl
              have ha1 := wts_len a1
              have ha2 := parts_wt hq
              refine fn_put_parts F n (by omega) hq upd_same (by rw [List.length_append]; omega) (by omega) ?_
              refine ⟨rfl, ?_⟩
              rw [upd_upd, List.append_assoc]
              walk_at "mine w1"; walk_at "mine w1"
              exact (hK2 _ _ _ _ (by walk_at "mine subs") (Le.refl _) ⟨done ++ a1, b1, he2, by rw [ho1, List.append_assoc], by rw [List.length_append]; omega, rfl, rfl⟩).1
          · rintro ρ m ⟨done, o2, he, ho1, hwl, rfl, rfl⟩
            have : o2 = [] := by simpa [entries] using he.symm
            subst this
            rw [List.append_nil] at ho1
            subst ho1
            walk_at "mine w1"; walk_at "mine w1"; walk_at "mine w1"; walk_at "mine w1"
            first | exact (next _ (by walk_at "mine subs")).1 | exact (next _ (by walk_at "mine subs")).2
        · cases hp1
    · rintro ρ m ⟨i, acc', o2, hts, hi, hp, ho, hsA, rfl, rfl⟩
      have hir : i = r.length := by
        rcases Nat.lt_or_ge i r.length with hlt | hge
        · have e : r.length - i = (r.length - i - 1) + 1 := by omega
          rw [e, List.range'_succ] at hts; simp at hts
        · omega
      have : o2 = [] := by
        rw [List.drop_eq_nil_of_le (by rw [hir]; show r.cps.toList.length ≤ r.cps.size; simp)] at hp
        simpa [partsBy] using hp.symm
      subst this
      rw [List.append_nil] at ho
      subst ho
      walk_at "mine w1"
      exact ⟨_, Le.refl _, k⟩

end

section
set_option maxHeartbeats 8000000
variable {X : Cx} {d : Nat} {mem : Mem}

theorem ruleOf_len {t : T} {r : Str} (h : ruleOf t = some r) : r.length ≤ 1000 := by
  unfold ruleOf at h
  split at h
  · split at h
    · cases h; split <;> decide
    split at h
    · cases h; split <;> decide
    split at h
    · cases h
    split at h
    · unfold constRule at h
      split at h
      · cases h
      · split at h
        · cases h
        · cases h; split <;> decide
    · have := lookup_mem h
      have hall : ∀ p ∈ partRules, p.2.length ≤ 1000 := by decide +kernel
      exact hall _ this
  · cases h

theorem fn_children {a : Nat → Addr} (F : Fns X a) {t : T} {ks : List T} {d : Nat} (hd : 8 ≤ d) (hk : kids t = some ks) (hw : t.wt ≤ 900000) {K : PV → Mem → Prop} (k : ∀ b, mem b = none → K (.l b) (upd mem b ks)) : OP X d (fcall (a 6)) [.t t] mem K := by
  obtain ⟨d, rfl⟩ : ∃ e, d = e + 8 := ⟨d - 8, by omega⟩
  have B := F.B
  have hs0 := sizeLine_eq
  obtain ⟨hh, ps, rfl⟩ : ∃ hh ps, t = .tup (hh :: ps) := by
    unfold kids at hk
    split at hk
    · exact ⟨_, _, rfl⟩
    · cases hk
  have hwt : T.wt (.tup (hh :: ps)) = 1 + (hh.wt + wts ps) := rfl
  have hl : (hh :: ps).length ≤ sizeLine := by have := wts_len (hh :: ps); simp only [wts] at this; omega
  obtain ⟨r, hr, hp⟩ : ∃ r, ruleOf (.tup (hh :: ps)) = some r ∧ parts 2 r.cps.toList ps = some ks := by
    simp only [kids] at hk
    split at hk
    · rename_i r h; exact ⟨r, h, hk⟩
    · cases hk
  refine fn_enter (d := d + 7) (ns := ["node"]) (F.D 6 (by decide)) (by walk_at "mine binds_tac") (by walk_at "mine kinds_tac") (by decide) (by walk_at "mine plains_tac") (fun pm code doc L => ?_)
  walk_at "mine lit6"
  walk_at "mine w1"
  refine ws_assign ?_ (.inl rfl)
  walk_at "mine w1"; walk_at "mine w1"
  refine ⟨[], rfl, by decide, fun b hb => ⟨trivial, ?_⟩⟩
  walk_at "mine w1"
  refine ws_expr ?_
  refine we_call (F.D 5 (by decide)) ?_
  walk_at "mine w1"
  refine we_call (F.D 2 (by decide)) ?_
  walk_at "mine w1"; walk_at "mine w1"; walk_at "mine w1"
  refine (fn_rule_of (d := 0) F hr (by omega) ?_).deep (by omega)
  walk_at "mine w1"; walk_at "mine w1"; walk_at "mine w1"; walk_at "mine w1"; walk_at "mine w1"
  refine ⟨_, rfl, ?_⟩
  refine op_from_tup (k := 1) hl ?_
  walk_at "mine w1"; walk_at "mine w1"; walk_at "mine w1"
  refine fn_put_parts F 2 (by omega) hp (acc := []) upd_same (by simp; omega) (ruleOf_len hr) ?_
  refine ⟨rfl, ?_⟩
  rw [upd_upd, List.nil_append]
  walk_at "mine w1"; walk_at "mine w1"; walk_at "mine w1"
  exact ⟨_, Le.refl _, k b hb⟩

/-! yields -/
noncomputable def kind : T → Str
  | .tup (.str k :: _) => k
  | _ => Str.empty
noncomputable def isY (t : T) : Bool := kind t == ("yield" : Str) || kind t == ("yieldfrom" : Str)
noncomputable def isFD (t : T) : Bool := kind t == ("func" : Str) || kind t == ("decl" : Str)
noncomputable def kidsD (t : T) : List T := (kids t).getD []
noncomputable def yieldN : Nat → T → Bool
  | 0, _ => false
  | n + 1, t => isY t || (!isFD t && (kidsD t).any (yieldN n))

/-- a node whose parts are known, all the way down -/
inductive Kn : T → Prop
  | mk {k : Str} {r ks : List T} (hk : kids (.tup (.str k :: r)) = some ks) (hs : ∀ x ∈ ks, Kn x) : Kn (.tup (.str k :: r))

theorem kids_wt {t : T} {ks : List T} (h : kids t = some ks) : wts ks + 2 ≤ t.wt := by
  cases t with
  | tup l =>
    cases l with
    | nil => cases h
    | cons hh ps =>
      simp only [kids] at h
      split at h
      · have := parts_wt h; have := hh.wt_pos; simp only [T.wt, wts]; omega
      · cases h
  | _ => cases h

theorem any_congr' {α : Type} {p q : α → Bool} : ∀ {l : List α}, (∀ x ∈ l, p x = q x) → l.any p = l.any q
  | [], _ => rfl
  | x :: r, h => by simp only [List.any_cons, h x List.mem_cons_self, any_congr' fun y hy => h y (List.mem_cons_of_mem _ hy)]

theorem yieldN_more : ∀ (n : Nat) (t : T), Kn t → t.wt ≤ n → ∀ m, n ≤ m → yieldN m t = yieldN n t
  | 0, t, _, h, _, _ => by have := t.wt_pos; omega
  | n + 1, _, .mk (k := k) (r := r) (ks := ks) hk hs, h, m, hm => by
    obtain ⟨m, rfl⟩ : ∃ m', m = m' + 1 := ⟨m - 1, by omega⟩
    have hkd : kidsD (.tup (.str k :: r)) = ks := by rw [kidsD, hk]; rfl
    have := kids_wt hk
    simp only [yieldN, hkd]
    congr 2
    exact any_congr' fun x hx => yieldN_more n x (hs x hx) (by have := wts_mem hx; omega) m (by omega)

end

section
set_option maxHeartbeats 8000000
variable {X : Cx} {d : Nat} {mem : Mem}

theorem Kn.head {t : T} (h : Kn t) : ∃ k r ks, t = .tup (.str k :: r) ∧ kids t = some ks ∧ ∀ x ∈ ks, Kn x := by
  cases h with
  | mk hk hs => exact ⟨_, _, _, rfl, hk, hs⟩

theorem yieldN_step {t : T} {ks : List T} {N : Nat} (h : Kn t) (hk : kids t = some ks) (hN : t.wt ≤ N) : yieldN N t = (isY t || (!isFD t && ks.any (yieldN N))) := by
  obtain ⟨k, r, ks', rfl, hk', hs⟩ := h.head
  rw [hk] at hk'; cases hk'
  have hkw := kids_wt hk
  obtain ⟨N, rfl⟩ : ∃ m, N = m + 1 := ⟨N - 1, by omega⟩
  have hkd : kidsD (.tup (.str k :: r)) = ks := by rw [kidsD, hk]; rfl
  rw [yieldN, hkd]
  congr 2
  exact any_congr' fun x hx => ((yieldN_more N x (hs x hx) (by have := wts_mem hx; omega) (N + 1) (by omega))).symm

theorem any2 (a b k : Str) : ([a, b].any (· == k)) = (k == a || k == b) := by
  have c : ∀ x y : Str, (x == y) = (y == x) := fun x y => by rw [Bool.eq_iff_iff, beq_iff_eq, beq_iff_eq]; exact eq_comm
  show (a == k || (b == k || false)) = _
  rw [Bool.or_false, c a, c b]

theorem upd_extend {mem : Mem} {b c : Addr} {Q ks P : List T} (hc : (upd mem b Q) c = none) : Le (upd mem b P) (upd (upd (upd mem b Q) c ks) b P) := by
  have hcb : c ≠ b := by rintro rfl; rw [upd_same] at hc; cases hc
  rw [← upd_comm (Ne.symm hcb), upd_upd]
  refine Le.upd ?_
  rw [upd_ne hcb] at hc ⊢
  exact hc

theorem concat_of_ne {l : List T} (h : l ≠ []) : ∃ q t, l = q ++ [t] := by
  rcases List.eq_nil_or_concat l with e | ⟨q, t, e⟩
  · exact absurd e h
  · exact ⟨q, t, by simpa using e⟩

noncomputable abbrev hyv (b : Addr) (l : List T) : Vars := [("pending", .l b), ("body", .t (.tup l))]

theorem fn_has_yield {a : Nat → Addr} (F : Fns X a) {l : List T} {N d : Nat} (hd : 10 ≤ d) (hk : ∀ x ∈ l, Kn x) (hw : wts l ≤ 800000) (hN : wts l ≤ N) {K : PV → Mem → Prop} (k : K (.t (.bool (l.any (yieldN N)))) mem) : OP X d (fcall (a 7)) [.t (.tup l)] mem K := by
  obtain ⟨d, rfl⟩ : ∃ e, d = e + 10 := ⟨d - 10, by omega⟩
  have B := F.B
  have hs0 := sizeLine_eq
  have hll := wts_len l
  refine fn_enter (d := d + 9) (ns := ["body"]) (F.D 7 (by decide)) (by walk_at "mine binds_tac") (by walk_at "mine kinds_tac") (by decide) (by walk_at "mine plains_tac") (fun pm code doc L => ?_)
  walk_at "mine lit6"
  walk_at "mine w1"
  refine ws_assign ?_ (.inl rfl)
  refine we_tcall B.lst ?_
  walk_at "mine w1"; walk_at "mine w1"; walk_at "mine w1"
  refine op_list_tup (by omega) fun b hb => ⟨trivial, ?_⟩
  walk_at "mine w1"
  refine ws_while' (fun n ρ m => ∃ P, m = upd mem b P ∧ ρ = hyv b l ∧ (∀ x ∈ P, Kn x) ∧ wts P = n ∧ wts P ≤ wts l ∧ P.any (yieldN N) = l.any (yieldN N)) ?_ (wts l) ⟨l, rfl, rfl, hk, rfl, Nat.le_refl _, rfl⟩
  rintro n ρ m ⟨P, rfl, rfl, hP, rfl, hPl, hany⟩ K' KE hK' hR hE
  have hPlen := wts_len P
  walk_at "mine w1"
  refine we_bcall B.len ?_
  walk_at "mine w1"; walk_at "mine w1"; walk_at "mine w1"
  refine op_len_list upd_same (by omega) ?_
  walk_at "mine w1"; walk_at "mine o1"
  refine ⟨_, rfl, ?_⟩
  by_cases hP0 : P = []
  · subst hP0
    rw [if_neg (by simp)]
    refine hE _ _ ?_
    walk_at "mine w1"; walk_at "mine w1"; walk_at "mine w1"
    rw [← hany] at k
    exact ⟨mem, Le.upd hb, k⟩
  clear hE
  obtain ⟨Q, t, rfl⟩ := concat_of_ne hP0
  rw [if_pos (by simp)]
  have hQt : wts (Q ++ [t]) = wts Q + t.wt := by rw [wts_append]; simp [wts]
  obtain ⟨kd, r, ks, rfl, hkk, hkc⟩ := (hP t (by simp)).head
  have hkw := kids_wt hkk
  have hst := yieldN_step (N := N) (hP _ (by simp)) hkk (by omega)
  rw [List.any_append, List.any_cons, List.any_nil, Bool.or_false, hst] at hany
  walk_at "mine w1"
  refine ws_assign ?_ (.inl rfl)
  refine we_meth0 PySem.F.slot_list_pop PySem.F.type_list_pop ?_
  walk_at "mine w1"
  refine ⟨b, _, rfl, upd_same, ?_⟩
  refine op_pop upd_same (by simp at hPlen; omega) ⟨trivial, ?_⟩
  rw [upd_upd]
  walk_at "mine w1"; walk_at "mine w1"; walk_at "mine w1"; walk_at "mine w1"; walk_at "mine w1"; walk_at "mine w1"
  refine op_sub_tup (t := .str kd) (by decide) rfl (by decide) ?_
  walk_at "mine w1"; walk_at "mine w1"; walk_at "mine w1"; walk_at "mine w1"; walk_at "mine w1"; walk_at "mine w1"
  try refine ⟨_, rfl, (show 2 ≤ sizeLine by decide), ?_⟩
  refine op_in_tup (xs := ["yield", "yieldfrom"]) ?_
  refine ⟨_, rfl, ?_⟩
  rw [any2]
  have hY : isY (.tup (.str kd :: r)) = (kd == ("yield" : Str) || kd == ("yieldfrom" : Str)) := rfl
  rw [← hY]
  cases hy : isY (.tup (.str kd :: r)) with
  | true =>
    rw [if_pos rfl]
    walk_at "mine w1"; walk_at "mine w1"; walk_at "mine w1"
    rw [hy, Bool.true_or, Bool.or_true] at hany
    rw [← hany] at k
    exact hR _ _ _ ⟨mem, Le.upd hb, k⟩
  | false =>
    clear hR k
    rw [hy, Bool.false_or] at hany
    rw [if_neg (by decide)]
    walk_at "mine w1"; walk_at "mine w1"; walk_at "mine w1"; walk_at "mine w1"; walk_at "mine w1"; walk_at "mine w1"; walk_at "mine w1"
    refine op_sub_tup (t := .str kd) (by decide) rfl (by decide) ?_
    walk_at "mine w1"; walk_at "mine w1"; walk_at "mine w1"; walk_at "mine w1"; walk_at "mine w1"; walk_at "mine w1"
    try refine ⟨_, rfl, (show 2 ≤ sizeLine by decide), ?_⟩
    refine op_notin_tup (xs := ["func", "decl"]) ?_
    refine ⟨_, rfl, ?_⟩
    rw [any2]
    have hFD : isFD (.tup (.str kd :: r)) = (kd == ("func" : Str) || kd == ("decl" : Str)) := rfl
    rw [← hFD]
    cases hfd : isFD (.tup (.str kd :: r)) with
    | true =>
      rw [hfd] at hany
      rw [if_neg (by decide)]
      walk_at "mine wn"
      refine (hK' _ _ (wts Q) _ _ (by omega) (by walk_at "mine subs") (Le.refl _) ⟨Q, rfl, rfl, fun x hx => hP x (by simp [hx]), rfl, by omega, ?_⟩).1
      simpa using hany
    | false =>
      rw [hfd] at hany
      rw [if_pos (by decide)]
      walk_at "mine w1"
      refine ws_expr ?_
      refine we_meth1 PySem.F.slot_list_extend PySem.F.type_list_extend ?_
      walk_at "mine w1"
      refine ⟨b, _, rfl, upd_same, ?_⟩
      walk_at "mine w1"
      refine we_call (F.D 6 (by decide)) ?_
      walk_at "mine w1"; walk_at "mine w1"; walk_at "mine w1"
      refine fn_children F (by omega) hkk (by omega) fun c hc => ?_
      have hcb : c ≠ b := by rintro rfl; rw [upd_same] at hc; cases hc
      walk_at "mine w1"
      have hksl := wts_len ks
      have hQl := wts_len Q
      refine op_extend_list (by rw [upd_ne (Ne.symm hcb), upd_same]) upd_same (by omega) ?_
      refine ⟨rfl, ?_⟩
      walk_at "mine wn"
      refine (hK' _ _ (wts (Q ++ ks)) _ _ (by rw [wts_append]; omega) (by walk_at "mine subs") (upd_extend hc) ⟨Q ++ ks, rfl, rfl, fun x hx => ?_, rfl, by rw [wts_append]; omega, ?_⟩).1
      · rcases List.mem_append.mp hx with h | h
        · exact hP x (by simp [h])
        · exact hkc x h
      · rw [List.any_append, ← hany]; simp

end

section
set_option maxHeartbeats 8000000

/-! the law's own reading of the tree -/
noncomputable def lawKinds : List Str := [("lit" : Str), ("template" : Str), ("const" : Str), ("var" : Str), ("varvar" : Str), ("array" : Str), ("list" : Str), ("dim" : Str), ("prop" : Str), ("sprop" : Str), ("cconst" : Str), ("assign" : Str), ("assignref" : Str), ("assignop" : Str), ("incdec" : Str), ("bin" : Str), ("and" : Str), ("or" : Str), ("coalesce" : Str), ("if" : Str), ("isset" : Str), ("instanceof" : Str), ("match" : Str), ("yield" : Str), ("yieldfrom" : Str), ("call" : Str), ("new" : Str), ("mcall" : Str), ("closure" : Str), ("arrow" : Str), ("func" : Str), ("decl" : Str), ("echo" : Str), ("return" : Str)]
noncomputable def isKind : T → Bool
  | .str k => lawKinds.any (· == k)
  | _ => false
mutual
noncomputable def lawNodes : T → List T
  | .tup [] => []
  | .tup (x :: r) => if isKind x then [.tup (x :: r)] else lawNodes x ++ lawNodesL r
  | _ => []
noncomputable def lawNodesL : List T → List T
  | [] => []
  | t :: r => lawNodes t ++ lawNodesL r
end

noncomputable def optL : T → List T
  | .none => []
  | t => [t]
noncomputable def isPublic : T → Bool
  | .str s => s == ("public" : Str)
  | _ => false
noncomputable def member (k : Str) (r : List T) : Option Bool :=
  if k = ("method" : Str) ∨ k = ("case" : Str) then some true
  else if k = ("prop" : Str) ∨ k = ("const" : Str) then match r with
    | [] => none
    | .tup [] :: rest => if 2 ≤ rest.length then none else some false
    | .tup (h :: _) :: rest => some (decide (2 ≤ rest.length) && isPublic h)
    | _ => some false
  else some false
noncomputable def lawInner : T → Option (List T)
  | .tup (.str k :: r) =>
    if k = ("func" : Str) then (match r with | _ :: .tup ps :: _ :: .tup b :: _ => some (ps ++ b) | _ => none)
    else if k = ("param" : Str) then (match r with | _ :: _ :: d :: _ => some (optL d) | _ => none)
    else if k = ("decl" : Str) then (match r with | _ :: _ :: _ :: _ :: _ :: _ :: .tup ms :: _ => some ms | _ => none)
    else match member k r with
      | none => none
      | some true => (match r.getLast? with | some x => some (optL x) | none => none)
      | some false => if k = ("use" : Str) ∨ k = ("lit" : Str) then some [] else some (lawNodes (.tup r))
  | _ => none

/-! names -/
noncomputable def strOf : T → Str
  | .str x => x
  | _ => Str.empty
noncomputable def fld : T → Nat → T
  | .tup l, i => l.getD i .none
  | _, _ => .none
noncomputable def items : T → List T
  | .tup l => l
  | _ => []
noncomputable def dedup (inside : List Str) : List Str → List Str → List Str
  | [], found => found
  | x :: xs, found => dedup inside xs (if (!inside.any (· == x)) && (!found.any (· == x)) then found ++ [x] else found)
noncomputable def paramNames (f : T) : List Str := (items (fld f 2)).map fun p => strOf (fld p 1)
noncomputable def freeOf (nm : T → List Str) (f : T) : List Str := dedup (("this" : Str) :: paramNames f) ((items (fld f 4)).flatMap nm) []
noncomputable def namesN : Nat → T → List Str
  | 0, _ => []
  | n + 1, t =>
    if kind t = ("var" : Str) then [strOf (fld t 1)]
    else if kind t = ("closure" : Str) then (items (fld t 2)).map fun u => strOf (fld u 0)
    else if kind t = ("arrow" : Str) then freeOf (namesN n) (fld t 1)
    else if isFD t then [] else (kidsD t).flatMap (namesN n)
/-- what a node itself uses -/
noncomputable def usedN (n : Nat) (t : T) : List Str :=
    if kind t = ("var" : Str) then [strOf (fld t 1)]
    else if kind t = ("closure" : Str) then (items (fld t 2)).map fun u => strOf (fld u 0)
    else if kind t = ("arrow" : Str) then freeOf (namesN n) (fld t 1)
    else []

noncomputable def Param (p : T) : Prop := ∃ h n r, p = .tup (h :: .str n :: r)
noncomputable def Func (f : T) : Prop := ∃ nm ps e body b1 b2, f = .tup [.str "func", nm, .tup ps, e, .tup body, b1, b2] ∧ ∀ p ∈ ps, Param p

/-- a node that both readings take apart alike, all the way down -/
inductive Wf : T → Prop
  | mk {k : Str} {r ks : List T} (hk : kids (.tup (.str k :: r)) = some ks) (hi : lawInner (.tup (.str k :: r)) = some ks) (hs : ∀ x ∈ ks, Wf x)
      (hv : k = ("var" : Str) → ∃ x, r = [.str x]) (hc : k = ("closure" : Str) → ∃ f us b, r = [f, .tup us, b] ∧ Func f ∧ ∀ u ∈ us, ∃ n y, u = .tup [.str n, y])
      (ha : k = ("arrow" : Str) → ∃ f b, r = [f, b] ∧ Func f) : Wf (.tup (.str k :: r))

theorem Wf.kn {t : T} (h : Wf t) : Kn t := by
  induction h with
  | mk hk _ _ _ _ _ ih => exact .mk hk ih

theorem kids_of {k rule : Str} {r : List T} (hl : partRules.lookup k = some rule) (h1 : k ≠ ("if" : Str) := by decide) (h2 : k ≠ ("prop" : Str) := by decide) (h3 : k ≠ ("static" : Str) := by decide) (h4 : k ≠ ("const" : Str) := by decide) :
    kids (.tup (.str k :: r)) = parts 2 rule.cps.toList r := by
  have : ruleOf (.tup (.str k :: r)) = some rule := by
    simp only [ruleOf, if_neg h1, if_neg h2, if_neg h3, if_neg h4, hl]
  simp only [kids, this]

theorem kids_var {x : Str} : kids (.tup [.str "var", .str x]) = some [] := by
  rw [kids_of (rule := "-") (by decide +kernel)]
  rfl
theorem kids_closure {k : Str} {f r : List T} {u b : T} (hk : k ≠ ("name" : Str)) : kids (.tup [.str "closure", .tup (.str k :: f), u, b]) = some [.tup (.str k :: f)] := by
  rw [kids_of (rule := "e--") (by decide +kernel)]
  show partsBy (parts 1) [101, 45, 45] [.tup (.str k :: f), u, b] = _
  simp [partsBy, partOf, T.isNone, partE, hk]
theorem kids_arrow {k : Str} {f : List T} {b : T} (hk : k ≠ ("name" : Str)) : kids (.tup [.str "arrow", .tup (.str k :: f), b]) = some [.tup (.str k :: f)] := by
  rw [kids_of (rule := "e-") (by decide +kernel)]
  show partsBy (parts 1) [101, 45] [.tup (.str k :: f), b] = _
  simp [partsBy, partOf, T.isNone, partE, hk]
theorem kids_func {nm e b1 b2 : T} {ps body : List T} : kids (.tup [.str "func", nm, .tup ps, e, .tup body, b1, b2]) = some (ps ++ body) := by
  rw [kids_of (rule := "-s-s--") (by decide +kernel)]
  show partsBy (parts 1) [45, 115, 45, 115, 45, 45] [nm, .tup ps, e, .tup body, b1, b2] = _
  simp [partsBy, partOf, T.isNone, partS]

theorem Func.kids {f : T} (h : Func f) : ∃ nm ps e body b1 b2, f = .tup [.str "func", nm, .tup ps, e, .tup body, b1, b2] ∧ (∀ p ∈ ps, Param p) ∧ Mine.kids f = some (ps ++ body) := by
  obtain ⟨nm, ps, e, body, b1, b2, rfl, hp⟩ := h
  exact ⟨nm, ps, e, body, b1, b2, rfl, hp, kids_func⟩

end

section
set_option maxHeartbeats 8000000

theorem dedup_len (ins : List Str) : ∀ (xs found : List Str), (dedup ins xs found).length ≤ found.length + xs.length
  | [], found => by simp [dedup]
  | x :: xs, found => by
    rw [dedup]
    have := dedup_len ins xs (if (!ins.any (· == x)) && (!found.any (· == x)) then found ++ [x] else found)
    split at this
    · rw [if_pos (by assumption)]; simp at this ⊢; omega
    · rw [if_neg (by assumption)]; simp at this ⊢; omega
theorem dedup_append (ins : List Str) : ∀ (xs ys found : List Str), dedup ins (xs ++ ys) found = dedup ins ys (dedup ins xs found)
  | [], ys, found => rfl
  | x :: xs, ys, found => by rw [List.cons_append, dedup, dedup, dedup_append ins xs ys]

theorem fld_wt (t : T) (i : Nat) : (fld t i).wt ≤ t.wt := by
  cases t with
  | tup l =>
    simp only [fld, T.wt, List.getD_eq_getElem?_getD]
    cases h : l[i]? with
    | none => simp [T.wt]
    | some x => have := wts_mem (List.mem_of_getElem? h); simp; omega
  | _ => simp [fld, T.wt]
theorem items_wt (t : T) : wts (items t) ≤ t.wt := by
  cases t <;> simp [items, wts, T.wt]
theorem flat_len {nm : T → List Str} : ∀ {l : List T}, (∀ x ∈ l, (nm x).length ≤ x.wt) → (l.flatMap nm).length ≤ wts l
  | [], _ => by simp [wts]
  | x :: r, h => by
    have h1 := h x List.mem_cons_self
    have h2 := flat_len fun y hy => h y (List.mem_cons_of_mem _ hy)
    simp only [List.flatMap_cons, List.length_append, wts]; omega
theorem kidsD_wt (t : T) : wts (kidsD t) ≤ t.wt := by
  unfold kidsD
  cases h : kids t with
  | none => simp [wts]
  | some ks => have := kids_wt h; simp; omega
theorem freeOf_len {nm : T → List Str} {f : T} (h : ∀ x, (nm x).length ≤ x.wt) : (freeOf nm f).length ≤ f.wt := by
  unfold freeOf
  have h1 := dedup_len (("this" : Str) :: paramNames f) ((items (fld f 4)).flatMap nm) []
  have h2 := flat_len (nm := nm) (l := items (fld f 4)) fun x _ => h x
  have h3 := items_wt (fld f 4)
  have h4 := fld_wt f 4
  rw [List.length_nil, Nat.zero_add] at h1; omega
theorem namesN_len : ∀ (n : Nat) (t : T), (namesN n t).length ≤ t.wt
  | 0, t => by simp [namesN]
  | n + 1, t => by
    have h1 := t.wt_pos
    rw [namesN]
    split
    · simpa using h1
    split
    · have h2 := wts_len (items (fld t 2)); have h3 := items_wt (fld t 2); have h4 := fld_wt t 2
      simp; omega
    split
    · have h2 := freeOf_len (f := fld t 1) (namesN_len n); have h4 := fld_wt t 1; omega
    split
    · simp
    · have h2 := flat_len (nm := namesN n) (l := kidsD t) fun x _ => namesN_len n x
      have h3 := kidsD_wt t; omega

theorem Wf.kids_eq {t : T} (h : Wf t) : ∃ ks, kids t = some ks ∧ lawInner t = some ks ∧ kidsD t = ks ∧ ∀ x ∈ ks, Wf x := by
  cases h with
  | mk hk hi hs _ _ _ => exact ⟨_, hk, hi, by rw [kidsD, hk]; rfl, hs⟩

theorem kind_tup {k : Str} {r : List T} : kind (.tup (.str k :: r)) = k := rfl

theorem Wf.closure {t : T} (h : Wf t) (hk : kind t = ("closure" : Str)) : ∃ f us b, t = .tup [.str "closure", f, .tup us, b] ∧ Func f ∧ Wf f ∧ (∀ u ∈ us, ∃ n y, u = .tup [.str n, y]) ∧ kids t = some [f] := by
  cases h with
  | @mk k r ks hk' hi hs hv hc ha =>
    rw [kind_tup] at hk
    subst hk
    obtain ⟨f, us, b, rfl, hf, hu⟩ := hc rfl
    have hkid : kids (.tup [.str "closure", f, .tup us, b]) = some [f] := by
      obtain ⟨nm, ps, e, body, b1, b2, rfl, _⟩ := hf
      exact kids_closure (r := []) (by decide)
    rw [hkid] at hk'; cases hk'
    exact ⟨f, us, b, rfl, hf, hs f (by simp), hu, hkid⟩
theorem Wf.arrow {t : T} (h : Wf t) (hk : kind t = ("arrow" : Str)) : ∃ f b, t = .tup [.str "arrow", f, b] ∧ Func f ∧ Wf f ∧ kids t = some [f] := by
  cases h with
  | @mk k r ks hk' hi hs hv hc ha =>
    rw [kind_tup] at hk
    subst hk
    obtain ⟨f, b, rfl, hf⟩ := ha rfl
    have hkid : kids (.tup [.str "arrow", f, b]) = some [f] := by
      obtain ⟨nm, ps, e, body, b1, b2, rfl, _⟩ := hf
      exact kids_arrow (by decide)
    rw [hkid] at hk'; cases hk'
    exact ⟨f, b, rfl, hf, hs f (by simp), hkid⟩
theorem Wf.var {t : T} (h : Wf t) (hk : kind t = ("var" : Str)) : ∃ x, t = .tup [.str "var", .str x] := by
  cases h with
  | @mk k r ks hk' hi hs hv hc ha =>
    rw [kind_tup] at hk
    subst hk
    obtain ⟨x, rfl⟩ := hv rfl
    exact ⟨x, rfl⟩
theorem Wf.func_body {nm e b1 b2 : T} {ps body : List T} (h : Wf (.tup [.str "func", nm, .tup ps, e, .tup body, b1, b2])) : ∀ x ∈ ps ++ body, Wf x := by
  obtain ⟨ks, h1, _, _, h2⟩ := h.kids_eq
  rw [kids_func] at h1; cases h1; exact h2

theorem flat_congr {nm nm' : T → List Str} : ∀ {l : List T}, (∀ x ∈ l, nm x = nm' x) → l.flatMap nm = l.flatMap nm'
  | [], _ => rfl
  | x :: r, h => by rw [List.flatMap_cons, List.flatMap_cons, h x List.mem_cons_self, flat_congr fun y hy => h y (List.mem_cons_of_mem _ hy)]

theorem freeOf_congr {nm nm' : T → List Str} {f : T} (hf : Func f) (hw : Wf f) (h : ∀ x, Wf x → x.wt < f.wt → nm x = nm' x) : freeOf nm f = freeOf nm' f := by
  obtain ⟨nm0, ps, e, body, b1, b2, rfl, _⟩ := hf
  unfold freeOf
  have : items (fld (.tup [.str "func", nm0, .tup ps, e, .tup body, b1, b2]) 4) = body := rfl
  rw [this]
  congr 1
  refine flat_congr fun x hx => h x (hw.func_body x (by simp [hx])) ?_
  have := wts_mem hx
  simp only [T.wt, wts]; omega

theorem namesN_more : ∀ (n : Nat) (t : T), Wf t → t.wt ≤ n → ∀ m, n ≤ m → namesN m t = namesN n t
  | 0, t, _, h, _, _ => by have := t.wt_pos; omega
  | n + 1, t, hw, h, m, hm => by
    obtain ⟨m, rfl⟩ : ∃ m', m = m' + 1 := ⟨m - 1, by omega⟩
    rw [namesN, namesN]
    by_cases h1 : kind t = ("var" : Str)
    · rw [if_pos h1, if_pos h1]
    rw [if_neg h1, if_neg h1]
    by_cases h2 : kind t = ("closure" : Str)
    · rw [if_pos h2, if_pos h2]
    rw [if_neg h2, if_neg h2]
    by_cases h3 : kind t = ("arrow" : Str)
    · rw [if_pos h3, if_pos h3]
      obtain ⟨f, b, rfl, hf, hwf, _⟩ := hw.arrow h3
      show freeOf (namesN m) f = freeOf (namesN n) f
      refine freeOf_congr hf hwf fun x hx hlt => namesN_more n x hx ?_ m (by omega)
      simp only [T.wt, wts] at h hlt; omega
    rw [if_neg h3, if_neg h3]
    split
    · rfl
    · obtain ⟨ks, hk, _, hkd, hs⟩ := hw.kids_eq
      rw [hkd]
      have := kids_wt hk
      exact flat_congr fun x hx => namesN_more n x (hs x hx) (by have := wts_mem hx; omega) m (by omega)

theorem isFD_func {t : T} (h : Func t) : isFD t = true := by
  obtain ⟨nm0, ps, e, body, b1, b2, rfl, _⟩ := h
  rfl
theorem namesN_func {n : Nat} {t : T} (h : Func t) : namesN n t = [] := by
  cases n with
  | zero => rfl
  | succ n =>
    obtain ⟨nm0, ps, e, body, b1, b2, rfl, _⟩ := h
    rfl

/-- what a node uses itself, then its parts -/
theorem namesN_step {t : T} {ks : List T} {N : Nat} (h : Wf t) (hk : kids t = some ks) (hN : t.wt ≤ N) : namesN N t = usedN N t ++ (if isFD t then [] else ks.flatMap (namesN N)) := by
  obtain ⟨ks', hk', _, hkd, hs⟩ := h.kids_eq
  rw [hk] at hk'; cases hk'
  have hkw := kids_wt hk
  obtain ⟨M, rfl⟩ : ∃ m, N = m + 1 := ⟨N - 1, by omega⟩
  rw [show namesN (M + 1) t = (if kind t = ("var" : Str) then [strOf (fld t 1)]
    else if kind t = ("closure" : Str) then (items (fld t 2)).map fun u => strOf (fld u 0)
    else if kind t = ("arrow" : Str) then freeOf (namesN M) (fld t 1)
    else if isFD t then [] else (kidsD t).flatMap (namesN M)) from rfl]
  unfold usedN
  by_cases h1 : kind t = ("var" : Str)
  · obtain ⟨x, rfl⟩ := h.var h1
    rw [kids_var] at hk; cases hk
    rw [if_pos h1, if_pos h1]
    simp
  rw [if_neg h1, if_neg h1]
  by_cases h2 : kind t = ("closure" : Str)
  · obtain ⟨f, us, b, rfl, hf, hwf, hu, hk2⟩ := h.closure h2
    rw [hk] at hk2; cases hk2
    rw [if_pos h2, if_pos h2]
    simp [namesN_func hf]
  rw [if_neg h2, if_neg h2]
  by_cases h3 : kind t = ("arrow" : Str)
  · obtain ⟨f, b, rfl, hf, hwf, hk2⟩ := h.arrow h3
    rw [hk] at hk2; cases hk2
    rw [if_pos h3, if_pos h3]
    have e : freeOf (namesN M) f = freeOf (namesN (M + 1)) f := freeOf_congr hf hwf fun x hx hlt => (namesN_more M x hx (by simp only [T.wt, wts] at hN hlt; omega) (M + 1) (by omega)).symm
    show freeOf (namesN M) f = freeOf (namesN (M + 1)) f ++ _
    rw [e]
    simp [namesN_func hf]
  rw [if_neg h3, if_neg h3, List.nil_append, hkd]
  split
  · rfl
  · exact flat_congr fun x hx => (namesN_more M x (hs x hx) (by have := wts_mem hx; omega) (M + 1) (by omega)).symm

end

section
set_option maxHeartbeats 8000000

/-! heights of parts -/
theorem partE_ht {p : T} {o : List T} (h : partE p = some o) : hts o ≤ p.ht := by
  unfold partE at h
  split at h
  · split at h <;> cases h <;> simp [hts]
  · cases h
theorem partS_ht {p : T} {o : List T} (h : partS p = some o) : hts o ≤ p.ht := by
  unfold partS at h
  split at h
  · cases h; simp [T.ht]
  · cases h
theorem entries_ht {sub : List T → Option (List T)} (hs : ∀ l o, sub l = some o → hts o ≤ hts l) : ∀ {l : List T} {o : List T}, entries sub l = some o → hts o ≤ hts l
  | [], o, h => by simp [entries] at h; subst h; simp [hts]
  | t :: r, o, h => by
    rcases entries_cons h with ⟨rfl, h2⟩ | ⟨l, a, b, rfl, h1, h2, rfl⟩
    · have := entries_ht hs h2; simp only [hts]; omega
    · have := hs _ _ h1
      have := entries_ht hs h2
      simp only [hts, hts_append, T.ht]; omega
theorem partOf_ht {sub : List Nat → List T → Option (List T)} (hs : ∀ c l o, sub c l = some o → hts o ≤ hts l) {c : Nat} {p : T} {o : List T} (h : partOf sub c p = some o) : hts o ≤ p.ht := by
  unfold partOf at h
  split at h
  · cases h; simp [hts]
  split at h
  · exact partE_ht h
  split at h
  · exact partS_ht h
  split at h
  · cases h
  split at h
  · have := entries_ht (hs _) h; simp only [T.ht]; omega
  · cases h
theorem partsBy_ht {sub : List Nat → List T → Option (List T)} (hs : ∀ c l o, sub c l = some o → hts o ≤ hts l) : ∀ {cs : List Nat} {ps : List T} {o : List T}, partsBy sub cs ps = some o → hts o ≤ hts ps
  | [], ps, o, h => by simp [partsBy] at h; subst h; simp [hts]
  | c :: cs, ps, o, h => by
    obtain ⟨p, q, o1, o2, rfl, h1, h2, rfl⟩ := partsBy_drop h
    have := partOf_ht hs h1
    have := partsBy_ht hs h2
    simp only [hts, hts_append]; omega
theorem parts_ht : ∀ {n : Nat} {cs : List Nat} {ps : List T} {o : List T}, parts n cs ps = some o → hts o ≤ hts ps
  | 0, _, _, _, h => by cases h
  | n + 1, _, _, _, h => partsBy_ht (fun _ _ _ h => parts_ht h) h
theorem kids_ht {t : T} {ks : List T} (h : kids t = some ks) : hts ks + 1 ≤ t.ht := by
  cases t with
  | tup l =>
    cases l with
    | nil => cases h
    | cons hh ps =>
      simp only [kids] at h
      split at h
      · have := parts_ht h; simp only [T.ht, hts]; omega
      · cases h
  | _ => cases h

variable {X : Cx} {d : Nat} {mem : Mem}

/-- the contract of free_names up to a height -/
noncomputable def FR (X : Cx) (a : Nat → Addr) (n : Nat) : Prop := ∀ {f : T} {N d : Nat} {mem : Mem} {K : PV → Mem → Prop}, Func f → Wf f → f.ht ≤ n → f.wt ≤ 800000 → f.wt ≤ N → 12 + 2 * f.ht ≤ d →
  (∀ e, mem e = none → K (.l e) (upd mem e ((freeOf (namesN N) f).map T.str))) → OP X d (fcall (a 9)) [.t f] mem K
noncomputable def US (X : Cx) (a : Nat → Addr) (n : Nat) : Prop := ∀ {t : T} {N d : Nat} {mem : Mem} {K : PV → Mem → Prop}, Wf t → t.ht ≤ n → t.wt ≤ 800000 → t.wt ≤ N → 11 + 2 * t.ht ≤ d →
  (∀ e, mem e = none → K (.l e) (upd mem e ((usedN N t).map T.str))) → OP X d (fcall (a 8)) [.t t] mem K

theorem Wf.head {t : T} (h : Wf t) : ∃ k r, t = .tup (.str k :: r) := by
  cases h with
  | mk => exact ⟨_, _, rfl⟩

theorem us_of {a : Nat → Addr} (F : Fns X a) {n : Nat} (ih : ∀ m, m < n → FR X a m) : US X a n := by
  intro t N d mem K hw hh hwt hN hd k
  have B := F.B
  have hs0 := sizeLine_eq
  obtain ⟨d, rfl⟩ : ∃ e, d = e + 1 := ⟨d - 1, by omega⟩
  obtain ⟨kd, r, rfl⟩ := hw.head
  have hl : (T.str kd :: r).length ≤ sizeLine := by have := wts_len (T.str kd :: r); simp only [T.wt] at hwt; omega
  have hkind : kind (.tup (.str kd :: r)) = kd := rfl
  unfold usedN at k
  rw [hkind] at k
  refine fn_enter (ns := ["node"]) (F.D 8 (by decide)) (by walk_at "mine binds_tac") (by walk_at "mine kinds_tac") (by decide) (by walk_at "mine plains_tac") (fun pm code doc L => ?_)
  walk_at "mine lit6"
  walk_at "mine w1"; walk_at "mine w1"; walk_at "mine w1"; walk_at "mine w1"; walk_at "mine w1"; walk_at "mine w1"
  refine op_sub_tup (t := .str kd) (by decide) rfl (by decide) ?_
  walk_at "mine w1"; walk_at "mine o1"
  refine ⟨_, rfl, ?_⟩
  by_cases h1 : kd = ("var" : Str)
  · obtain ⟨x, hx⟩ := hw.var h1
    injection hx with hx
    injection hx with hx1 hx2
    subst hx2
    rw [if_pos h1] at k
    rw [if_pos (by simpa using h1)]
    walk_at "mine w1"; walk_at "mine w1"; walk_at "mine w1"; walk_at "mine w1"; walk_at "mine w1"; walk_at "mine w1"; walk_at "mine w1"
    refine op_sub_tup (t := .str x) (by decide) rfl (by decide) ?_
    walk_at "mine w1"
    refine ⟨_, rfl, (show 1 ≤ sizeLine by decide), fun e he => ?_⟩
    exact ⟨_, Le.refl _, k e he⟩
  rw [if_neg h1] at k
  rw [if_neg (by simpa using h1)]
  walk_at "mine w1"; walk_at "mine w1"; walk_at "mine w1"; walk_at "mine w1"; walk_at "mine w1"; walk_at "mine w1"; walk_at "mine w1"
  refine op_sub_tup (t := .str kd) (by decide) rfl (by decide) ?_
  walk_at "mine w1"; walk_at "mine o1"
  refine ⟨_, rfl, ?_⟩
  by_cases h2 : kd = ("closure" : Str)
  · obtain ⟨f, us, b, hx, hf, hwf, hu, _⟩ := hw.closure h2
    injection hx with hx
    injection hx with hx1 hx2
    subst hx2
    rw [if_pos h2] at k
    rw [if_pos (by simpa using h2)]
    have husl : us.length ≤ 800000 := by have := wts_len us; simp only [T.wt, wts] at hwt; omega
    walk_at "mine w1"; walk_at "mine w1"
    refine we_comp0 ?_
    walk_at "mine w1"; walk_at "mine w1"; walk_at "mine w1"
    refine op_sub_tup (t := .tup us) (by decide) rfl (by decide) ?_
    refine ⟨us, mem, Items.tup, fun C => ?_⟩
    refine ci_inv (fun ts ρ m acc => ∃ done, us = done ++ ts ∧ m = mem ∧ acc = done.map (fun u => T.str (strOf (fld u 0)))) ?_ ?_ _ _ _ _ ⟨[], rfl, rfl, rfl⟩
    · rintro t ts ρ m acc ⟨done, hus, rfl, rfl⟩
      obtain ⟨nm, y, rfl⟩ := hu t (by simp [hus])
      refine as_tuple2 (.inl rfl) (.inl rfl) ?_
      show WE _ _ _ _ _ _ _
      walk_at "mine w1"
      have hdl : done.length ≤ us.length := by rw [hus]; simp
      refine ⟨_, _, rfl, by rw [List.length_map]; omega, Le.refl _, done ++ [.tup [.str nm, y]], by simp [hus], rfl, by simp [fld, strOf]⟩
    · rintro ρ m acc ⟨done, hus, rfl, rfl⟩
      rw [List.append_nil] at hus
      subst hus
      refine ⟨_, Le.refl _, fun e he => ?_⟩
      have e1 : ((items (fld (.tup (.str kd :: [f, .tup us, b])) 2)).map fun u => strOf (fld u 0)).map T.str = us.map (fun u => T.str (strOf (fld u 0))) := by
        rw [List.map_map]; rfl
      have := k e he
      rw [e1] at this
      exact ⟨_, Le.refl _, this⟩
  rw [if_neg h2] at k
  rw [if_neg (by simpa using h2)]
  walk_at "mine w1"; walk_at "mine w1"; walk_at "mine w1"; walk_at "mine w1"; walk_at "mine w1"; walk_at "mine w1"; walk_at "mine w1"
  refine op_sub_tup (t := .str kd) (by decide) rfl (by decide) ?_
  walk_at "mine w1"; walk_at "mine o1"
  refine ⟨_, rfl, ?_⟩
  by_cases h3 : kd = ("arrow" : Str)
  · obtain ⟨f, b, hx, hf, hwf, _⟩ := hw.arrow h3
    injection hx with hx
    injection hx with hx1 hx2
    subst hx2
    rw [if_pos h3] at k
    rw [if_pos (by simpa using h3)]
    have hfh : f.ht + 1 ≤ T.ht (.tup (.str kd :: [f, b])) := by simp only [T.ht, hts]; omega
    have hfw : f.wt + 1 ≤ T.wt (.tup (.str kd :: [f, b])) := by simp only [T.wt, wts]; omega
    walk_at "mine w1"; walk_at "mine w1"
    refine we_call (F.D 9 (by decide)) ?_
    walk_at "mine w1"; walk_at "mine w1"; walk_at "mine w1"; walk_at "mine w1"
    refine op_sub_tup (t := f) (by decide) rfl (by decide) ?_
    walk_at "mine w1"
    exact ih (n - 1) (by omega) hf hwf (by omega) (by omega) (by omega) (by omega) fun e he => ⟨_, Le.refl _, k e he⟩
  rw [if_neg h3] at k
  rw [if_neg (by simpa using h3)]
  walk_at "mine w1"; walk_at "mine w1"; walk_at "mine w1"; walk_at "mine w1"; walk_at "mine w1"
  exact ⟨[], rfl, by decide, fun e he => ⟨_, Le.refl _, k e he⟩⟩

end

section
set_option maxHeartbeats 8000000
variable {X : Cx} {d : Nat} {mem : Mem}

theorem hts_reverse : ∀ l : List T, hts l.reverse = hts l
  | [] => rfl
  | x :: r => by rw [List.reverse_cons, hts_append, hts_reverse r]; show max (hts r) (max x.ht 0) = max x.ht (hts r); rw [Nat.max_zero, Nat.max_comm]

/-- the three lists that free_names holds -/
noncomputable abbrev M3 (mem : Mem) (c b p : Addr) (ins fd : List Str) (P : List T) : Mem := upd (upd (upd mem c (ins.map T.str)) b (fd.map T.str)) p P
theorem le_M3 {mem mem1 : Mem} {c b p : Addr} {ins R : List Str} {P : List T} (h : Le mem mem1) (hc : mem1 c = none) (hb : mem1 b = none) (hp : mem1 p = none) (hcb : c ≠ b) (hbp : b ≠ p) : Le (upd mem b (R.map T.str)) (M3 mem1 c b p ins R P) := by
  intro a l e
  by_cases ha : a = b
  · subst ha; rw [upd_same] at e; cases e
    show upd _ p P a = _
    rw [upd_ne hbp, upd_same]
  · rw [upd_ne ha] at e
    have e1 := h a l e
    have hap : a ≠ p := by rintro rfl; rw [hp] at e1; cases e1
    have hac : a ≠ c := by rintro rfl; rw [hc] at e1; cases e1
    show upd _ p P a = _
    rw [upd_ne hap, upd_ne ha, upd_ne hac]; exact e1

theorem m3_c {mem : Mem} {c b p : Addr} {ins fd : List Str} {P : List T} (hcb : c ≠ b) (hcp : c ≠ p) : M3 mem c b p ins fd P c = some (ins.map T.str) := by
  show upd _ p P c = _
  rw [upd_ne hcp, upd_ne hcb, upd_same]
theorem m3_b {mem : Mem} {c b p : Addr} {ins fd : List Str} {P : List T} (hbp : b ≠ p) : M3 mem c b p ins fd P b = some (fd.map T.str) := by
  show upd _ p P b = _
  rw [upd_ne hbp, upd_same]
theorem m3_set {mem : Mem} {c b p : Addr} {ins fd : List Str} {P : List T} {x : Str} (hbp : b ≠ p) : upd (M3 mem c b p ins fd P) b (fd.map T.str ++ [.str x]) = M3 mem c b p ins (fd ++ [x]) P := by
  show upd (upd _ p P) b _ = _
  rw [upd_comm (Ne.symm hbp), upd_upd]
  simp [M3]

noncomputable abbrev fnv (c b p : Addr) (f : T) : Vars := [("pending", .l p), ("found", .l b), ("inside", .l c), ("func", .t f)]

theorem fr_of {a : Nat → Addr} (F : Fns X a) {n : Nat} (ih : ∀ m, m < n → US X a m) : FR X a n := by
  intro f N d mem K hf hw hh hwt hN hd k
  have B := F.B
  have hs0 := sizeLine_eq
  obtain ⟨d, rfl⟩ : ∃ e, d = e + 1 := ⟨d - 1, by omega⟩
  obtain ⟨nm, ps, e0, body, b1, b2, rfl, hps⟩ := hf
  have hbody := hw.func_body
  have hwts : wts ps + wts body + 6 ≤ T.wt (.tup [.str "func", nm, .tup ps, e0, .tup body, b1, b2]) := by
    have := e0.wt_pos; have := nm.wt_pos; have := b1.wt_pos; have := b2.wt_pos
    simp only [T.wt, wts]; omega
  have hhts : hts body + 2 ≤ T.ht (.tup [.str "func", nm, .tup ps, e0, .tup body, b1, b2]) := by
    have h2 : T.ht (.tup body) ≤ hts [.str "func", nm, .tup ps, e0, .tup body, b1, b2] := hts_mem (by simp)
    have h3 : T.ht (.tup body) = 1 + hts body := rfl
    show _ ≤ 1 + hts _
    omega
  have hpsl := wts_len ps
  have hbol := wts_len body
  generalize hins : (("this" : Str) :: paramNames (.tup [.str "func", nm, .tup ps, e0, .tup body, b1, b2])) = ins at *
  have hfree : freeOf (namesN N) (.tup [.str "func", nm, .tup ps, e0, .tup body, b1, b2]) = dedup ins (body.flatMap (namesN N)) [] := by
    rw [← hins]; rfl
  rw [hfree] at k
  have hpn : paramNames (.tup [.str "func", nm, .tup ps, e0, .tup body, b1, b2]) = ps.map fun p => strOf (fld p 1) := rfl
  refine fn_enter (ns := ["func"]) (F.D 9 (by decide)) (by walk_at "mine binds_tac") (by walk_at "mine kinds_tac") (by decide) (by walk_at "mine plains_tac") (fun pm code doc L => ?_)
  walk_at "mine lit6"
  walk_at "mine w1"
  refine ws_assign ?_ (.inl rfl)
  walk_at "mine w1"; walk_at "mine w1"; walk_at "mine w1"; walk_at "mine w1"; walk_at "mine w1"
  refine ⟨_, rfl, (show 1 ≤ sizeLine by decide), fun i1 hi1 => ?_⟩
  refine we_comp0 ?_
  walk_at "mine w1"; walk_at "mine w1"; walk_at "mine w1"
  refine op_sub_tup (t := .tup ps) (by decide) rfl (by decide) ?_
  refine ⟨ps, _, Items.tup, fun C => ?_⟩
  refine ci_inv' (fun ts ρ m acc => ∃ done, ps = done ++ ts ∧ m = upd mem i1 [.str "this"] ∧ acc = done.map (fun u => T.str (strOf (fld u 1)))) ?_ ?_ _ _ _ _ ⟨[], rfl, rfl, rfl⟩
  · rintro t ts ρ m acc ⟨done, hus, rfl, rfl⟩
    obtain ⟨h, x, r, rfl⟩ := hps t (by simp [hus])
    have hdl : done.length ≤ ps.length := by rw [hus]; simp
    refine as_name (.inl rfl) fun K2 hK2 => ?_
    replace hK2 := hK2 (.str x) _ _ (by rw [List.length_map]; omega) (Le.refl _) ⟨done ++ [.tup (h :: .str x :: r)], by simp [hus], rfl, by simp [fld, strOf]⟩
    walk_at "mine w1"; walk_at "mine w1"; walk_at "mine w1"
    exact op_sub_tup (t := .str x) (by decide) rfl (by decide) hK2
  rintro ρ m acc ⟨done, hus, rfl, rfl⟩
  rw [List.append_nil] at hus
  subst hus
  refine ⟨_, Le.refl _, fun i2 hi2 => ?_⟩
  have hi12 : i2 ≠ i1 := by rintro rfl; rw [upd_same] at hi2; cases hi2
  refine op_add_list (by rw [upd_ne (Ne.symm hi12), upd_same]) upd_same (by simp; omega) fun c hc => ⟨trivial, ?_⟩
  have eins : ([T.str "this"] : List T) ++ ps.map (fun u => T.str (strOf (fld u 1))) = ins.map T.str := by
    rw [← hins, hpn, List.map_cons, List.map_map]; rfl
  rw [eins]
  generalize hm1 : upd (upd mem i1 [T.str "this"]) i2 (ps.map (fun u => T.str (strOf (fld u 1)))) = mem1 at *
  have hle : Le mem mem1 := by
    rw [← hm1]; exact (Le.upd hi1).trans (Le.upd hi2)
  walk_at "mine w1"
  refine ws_assign ?_ (.inl rfl)
  walk_at "mine w1"; walk_at "mine w1"
  refine ⟨[], rfl, by decide, fun b hb => ⟨trivial, ?_⟩⟩
  have hcb : c ≠ b := by rintro rfl; rw [upd_same] at hb; cases hb
  have hb1 : mem1 b = none := by rw [upd_ne (Ne.symm hcb)] at hb; exact hb
  walk_at "mine w1"
  refine ws_assign ?_ (.inl rfl)
  refine we_list_rev B.lst B.rev ?_
  walk_at "mine w1"; walk_at "mine w1"; walk_at "mine w1"
  refine op_sub_tup (t := .tup body) (by decide) rfl (by decide) ?_
  refine ⟨body, rfl, by omega, fun p hp => ⟨trivial, ?_⟩⟩
  have hbp : b ≠ p := by rintro rfl; rw [upd_same] at hp; cases hp
  have hcp : c ≠ p := by rintro rfl; rw [upd_ne hcb, upd_same] at hp; cases hp
  have hp1 : mem1 p = none := by rw [upd_ne (Ne.symm hbp), upd_ne (Ne.symm hcp)] at hp; exact hp
  generalize hR : dedup ins (body.flatMap (namesN N)) [] = R at k
  generalize (T.tup [.str "func", nm, .tup ps, e0, .tup body, b1, b2]) = fT
  walk_at "mine w1"
  refine ws_while' (fun n ρ m => ∃ P fd, m = M3 mem1 c b p ins fd P ∧ ρ = fnv c b p fT ∧ (∀ x ∈ P, Wf x) ∧ wts P = n ∧ wts P ≤ wts body ∧ hts P ≤ hts body ∧
    fd.length + (P.reverse.flatMap (namesN N)).length ≤ 800000 ∧ dedup ins (P.reverse.flatMap (namesN N)) fd = R) ?_ (wts body)
    ⟨body.reverse, [], rfl, rfl, fun x hx => hbody x (by simp at hx; simp [hx]), wts_reverse _, by rw [wts_reverse]; exact Nat.le_refl _, ?_, ?_, by rw [List.reverse_reverse]; exact hR⟩
  rotate_left
  · rw [hts_reverse]; exact Nat.le_refl _
  · rw [List.reverse_reverse]
    have := flat_len (nm := namesN N) (l := body) fun x _ => namesN_len N x
    rw [List.length_nil, Nat.zero_add]; omega
  rintro n' ρ m ⟨P, fd, rfl, rfl, hP, rfl, hPw, hPh, hfl, hded⟩ K' KE hK' - hE
  have hPlen := wts_len P
  walk_at "mine w1"
  refine we_bcall B.len ?_
  walk_at "mine w1"; walk_at "mine w1"; walk_at "mine w1"
  refine op_len_list upd_same (by omega) ?_
  walk_at "mine w1"; walk_at "mine o1"
  refine ⟨_, rfl, ?_⟩
  by_cases hP0 : P = []
  · subst hP0
    rw [if_neg (by simp)]
    refine hE _ _ ?_
    walk_at "mine w1"; walk_at "mine w1"; walk_at "mine w1"
    have hRfd : fd = R := hded
    subst hRfd
    exact ⟨_, le_M3 hle hc hb1 hp1 hcb hbp, k b (by
      cases e : mem b with
      | none => rfl
      | some l => have := hle b l e; rw [hb1] at this; cases this)⟩
  clear hE k
  obtain ⟨Q, t, rfl⟩ := concat_of_ne hP0
  rw [if_pos (by simp)]
  have hQt : wts (Q ++ [t]) = wts Q + t.wt := by rw [wts_append]; simp [wts]
  have hQh : hts (Q ++ [t]) = max (hts Q) t.ht := by rw [hts_append]; simp [hts]
  have hwt' : Wf t := hP t (by simp)
  obtain ⟨ks, hkk, _, _, hkc⟩ := hwt'.kids_eq
  have hkw := kids_wt hkk
  have hkh := kids_ht hkk
  have hst := namesN_step (N := N) hwt' hkk (by omega)
  rw [List.reverse_append, List.reverse_singleton, List.singleton_append, List.flatMap_cons, hst] at hded hfl
  obtain ⟨kd, r, rfl⟩ := hwt'.head
  walk_at "mine w1"
  refine ws_assign ?_ (.inl rfl)
  refine we_meth0 PySem.F.slot_list_pop PySem.F.type_list_pop ?_
  walk_at "mine w1"
  refine ⟨p, _, rfl, upd_same, ?_⟩
  refine op_pop upd_same (by simp at hPlen; omega) ⟨trivial, ?_⟩
  rw [upd_upd]
  walk_at "mine w1"
  refine ws_for ?_
  refine we_call (F.D 8 (by decide)) ?_
  walk_at "mine w1"; walk_at "mine w1"; walk_at "mine w1"
  refine ih (n - 1) (by omega) hwt' (N := N) (by omega) (by omega) (by omega) (by omega) fun e he => ?_
  refine ⟨_, _, Items.list upd_same he (Le.upd he), ?_⟩
  generalize hrest : (if isFD (.tup (.str kd :: r)) then [] else ks.flatMap (namesN N)) = rest at hded hfl
  refine for_inv' (fun ts ρ m => ∃ xs fd', ts = xs.map T.str ∧ m = M3 mem1 c b p ins fd' Q ∧ ρ = (("node", .t (.tup (.str kd :: r))) :: fnv c b p fT : Vars) ∧
    dedup ins ((xs ++ rest) ++ Q.reverse.flatMap (namesN N)) fd' = R ∧ fd'.length + ((xs ++ rest) ++ Q.reverse.flatMap (namesN N)).length ≤ 800000) ?_ ?_ _ _ _ ⟨_, fd, rfl, rfl, rfl, hded, by simpa using hfl⟩
  · rintro t2 ts ρ m ⟨xs, fd', hts, rfl, rfl, hd2, hf2⟩ K2 hK2 -
    obtain ⟨x, xs, rfl, rfl, rfl⟩ : ∃ x xs', xs = x :: xs' ∧ t2 = .str x ∧ ts = xs'.map T.str := by
      cases xs with
      | nil => cases hts
      | cons x xs' => simp only [List.map_cons, List.cons.injEq] at hts; exact ⟨x, xs', rfl, hts.1, hts.2⟩
    rw [List.cons_append, List.cons_append, dedup] at hd2
    refine as_name (.inl rfl) ?_
    walk_at "mine w1"; walk_at "mine w1"; walk_at "mine w1"; walk_at "mine w1"; walk_at "mine w1"; walk_at "mine w1"
    refine op_notin_list (xs := ins) (m3_c hcb hcp) ?_
    refine ⟨_, rfl, ?_⟩
    cases hin : ins.any (· == x) with
    | true =>
      rw [hin] at hd2
      rw [if_neg (by decide)]
      rw [if_neg (by decide)]
      walk_at "mine wn"
      exact (hK2 _ _ _ _ (by walk_at "mine subs") (Le.refl _) ⟨xs, fd', rfl, rfl, rfl, by simpa using hd2, by simp at hf2 ⊢; omega⟩).1
    | false =>
      rw [hin] at hd2
      rw [if_pos (by decide)]
      walk_at "mine w1"; walk_at "mine w1"; walk_at "mine w1"; walk_at "mine w1"
      refine op_notin_list (xs := fd') (m3_b hbp) ?_
      refine ⟨_, rfl, ?_⟩
      cases hfd : fd'.any (· == x) with
      | true =>
        rw [hfd] at hd2
        rw [if_neg (by decide)]
        walk_at "mine wn"
        exact (hK2 _ _ _ _ (by walk_at "mine subs") (Le.refl _) ⟨xs, fd', rfl, rfl, rfl, by simpa using hd2, by simp at hf2 ⊢; omega⟩).1
      | false =>
        rw [hfd] at hd2
        rw [if_pos (by decide)]
        walk_at "mine w1"
        refine ws_expr ?_
        refine we_meth1 PySem.F.slot_list_append PySem.F.type_list_append ?_
        walk_at "mine w1"
        refine ⟨b, _, rfl, m3_b hbp, ?_⟩
        walk_at "mine w1"; walk_at "mine w1"; walk_at "mine w1"
        refine op_append (m3_b hbp) (by rw [List.length_map]; omega) ?_
        refine ⟨rfl, ?_⟩
        rw [m3_set hbp]
        walk_at "mine wn"
        exact (hK2 _ _ _ _ (by walk_at "mine subs") (Le.refl _) ⟨xs, fd' ++ [x], rfl, rfl, rfl, by simpa using hd2, by simp at hf2 ⊢; omega⟩).1
  · rintro ρ m ⟨xs, fd', hts, rfl, rfl, hd2, hf2⟩
    obtain rfl : xs = [] := by simpa using hts.symm
    rw [List.nil_append] at hd2 hf2
    walk_at "mine w1"; walk_at "mine w1"; walk_at "mine w1"; walk_at "mine w1"; walk_at "mine w1"; walk_at "mine w1"
    refine op_sub_tup (t := .str kd) (by decide) rfl (by decide) ?_
    walk_at "mine w1"; walk_at "mine w1"; walk_at "mine w1"; walk_at "mine w1"; walk_at "mine w1"; walk_at "mine w1"
    try refine ⟨_, rfl, (show 2 ≤ sizeLine by decide), ?_⟩
    refine op_notin_tup (xs := ["func", "decl"]) ?_
    refine ⟨_, rfl, ?_⟩
    rw [any2]
    have hFD : isFD (.tup (.str kd :: r)) = (kd == ("func" : Str) || kd == ("decl" : Str)) := rfl
    rw [← hFD]
    cases hfd : isFD (.tup (.str kd :: r)) with
    | true =>
      rw [hfd, if_pos rfl] at hrest
      subst hrest
      rw [List.nil_append] at hd2 hf2
      rw [if_neg (by decide)]
      walk_at "mine wn"
      exact (hK' _ _ (wts Q) _ _ (by omega) (by walk_at "mine subs") (Le.refl _) ⟨Q, fd', rfl, rfl, fun x hx => hP x (by simp [hx]), rfl, by omega, by omega, hf2, hd2⟩).1
    | false =>
      rw [hfd, if_neg (by decide)] at hrest
      subst hrest
      rw [if_pos (by decide)]
      have hksl := wts_len ks
      have hQl := wts_len Q
      walk_at "mine w1"
      refine ws_expr ?_
      refine we_extend_rev B.rev ?_
      walk_at "mine w1"
      refine ⟨p, _, rfl, upd_same, ?_⟩
      refine we_call (F.D 6 (by decide)) ?_
      walk_at "mine w1"; walk_at "mine w1"; walk_at "mine w1"
      refine fn_children F (by omega) hkk (by omega) fun q hq => ?_
      have hqp : q ≠ p := by rintro rfl; have e9 := upd_same.symm.trans hq; cases e9
      refine ⟨q, ks, Q, rfl, upd_same, (upd_ne (Ne.symm hqp)).trans upd_same, Ne.symm hqp, by omega, ?_⟩
      refine ⟨rfl, ?_⟩
      walk_at "mine wn"
      have hrk := hts_reverse ks
      have hflat : (Q ++ ks.reverse).reverse.flatMap (namesN N) = ks.flatMap (namesN N) ++ Q.reverse.flatMap (namesN N) := by
        rw [List.reverse_append, List.reverse_reverse, List.flatMap_append]
      refine (hK' _ _ (wts (Q ++ ks.reverse)) _ _ (by rw [wts_append, wts_reverse]; omega) (by walk_at "mine subs") (upd_extend hq) ⟨Q ++ ks.reverse, fd', rfl, rfl, fun x hx => ?_, rfl, by rw [wts_append, wts_reverse]; omega, by rw [hts_append, hrk]; omega, by rw [hflat]; exact hf2, by rw [hflat]; exact hd2⟩).1
      rcases List.mem_append.mp hx with h | h
      · exact hP x (by simp [h])
      · exact hkc x (by simpa using h)

theorem fr_us {a : Nat → Addr} (F : Fns X a) : ∀ n, FR X a n ∧ US X a n := by
  intro n
  induction n using Nat.strongRecOn with
  | ind n ih => exact ⟨fr_of F fun m hm => (ih m hm).2, us_of F fun m hm => (ih m hm).1⟩
theorem fn_free_names {a : Nat → Addr} (F : Fns X a) {f : T} {N d : Nat} {mem : Mem} {K : PV → Mem → Prop} (hf : Func f) (hw : Wf f) (hwt : f.wt ≤ 800000) (hN : f.wt ≤ N) (hd : 12 + 2 * f.ht ≤ d)
    (k : ∀ e, mem e = none → K (.l e) (upd mem e ((freeOf (namesN N) f).map T.str))) : OP X d (fcall (a 9)) [.t f] mem K := (fr_us F f.ht).1 hf hw (Nat.le_refl _) hwt hN hd k

end

section
set_option maxHeartbeats 8000000
mutual
theorem lawNodes_wt : ∀ t : T, wts (lawNodes t) ≤ t.wt
  | .tup [] => by simp [lawNodes, wts]
  | .tup (x :: r) => by
    have h1 := lawNodes_wt x
    have h2 := lawNodesL_wt r
    rw [lawNodes]
    split
    · simp only [wts, T.wt]; omega
    · simp only [wts, T.wt, wts_append]; omega
  | .none | .bool _ | .int _ | .str _ => by simp [lawNodes, wts]
theorem lawNodesL_wt : ∀ l : List T, wts (lawNodesL l) ≤ wts l
  | [] => by simp [lawNodesL, wts]
  | t :: r => by
    have h1 := lawNodes_wt t
    have h2 := lawNodesL_wt r
    simp only [lawNodesL, wts, wts_append]; omega
end
theorem lawNodesL_append : ∀ l r : List T, lawNodesL (l ++ r) = lawNodesL l ++ lawNodesL r
  | [], r => rfl
  | t :: l, r => by simp [lawNodesL, lawNodesL_append l r]

variable {X : Cx} {d : Nat} {mem : Mem}

theorem fn_law_kinds {a : Nat → Addr} (F : Fns X a) {d : Nat} (hd : 1 ≤ d) {K : PV → Mem → Prop} (k : K (.t (.tup (lawKinds.map T.str))) mem) : OP X d (fcall (a 17)) [] mem K := by
  obtain ⟨d, rfl⟩ : ∃ e, d = e + 1 := ⟨d - 1, by omega⟩
  refine fn_enter (ns := []) (F.D 17 (by decide)) (by walk_at "mine binds_tac") (by intro n y hy; simp at hy) (by decide) (by intro pv h; simp at h) (fun pm code doc L => ?_)
  walk_at "mine lit6"
  walk_at "mine w1"; walk_at "mine w1"; walk_at "mine w1"
  exact ⟨mem, Le.refl _, k⟩

theorem fn_law_nodes {a : Nat → Addr} (F : Fns X a) : ∀ (n : Nat) {t : T} {d : Nat} {mem : Mem} {K : PV → Mem → Prop}, t.ht ≤ n → t.wt ≤ 800000 → 6 + t.ht ≤ d →
    (∀ e, mem e = none → K (.l e) (upd mem e (lawNodes t))) → OP X d (fcall (a 18)) [.t t] mem K := by
  intro n
  induction n using Nat.strongRecOn with
  | ind n ih =>
  intro t d mem K hn hwt hd k
  have B := F.B
  have hs0 := sizeLine_eq
  obtain ⟨d, rfl⟩ : ∃ e, d = e + 1 := ⟨d - 1, by omega⟩
  refine fn_enter (ns := ["part"]) (F.D 18 (by decide)) (by walk_at "mine binds_tac") (by walk_at "mine kinds_tac") (by decide) (by walk_at "mine plains_tac") (fun pm code doc L => ?_)
  walk_at "mine lit6"
  walk_at "mine w1"; walk_at "mine w1"; walk_at "mine w1"; walk_at "mine w1"
  refine wt_bool ?_
  refine we_bcall B.isi ?_
  walk_at "mine w1"; walk_at "mine w1"; walk_at "mine w1"
  refine we_type B.tup ?_
  walk_at "mine w1"; walk_at "mine o1"
  refine ⟨_, rfl, ?_⟩
  cases t with
  | tup l =>
    refine ifN rfl ?_
    walk_at "mine w1"; walk_at "mine w1"; walk_at "mine w1"; walk_at "mine w1"; walk_at "mine w1"
    try refine ⟨[], rfl, by decide, ?_⟩
    refine op_eq_tup_nil ?_
    refine ⟨_, rfl, ?_⟩
    cases l with
    | nil =>
      refine ifP rfl ?_
      walk_at "mine w1"; walk_at "mine w1"; walk_at "mine w1"; walk_at "mine w1"
      exact ⟨[], rfl, by decide, fun e he => ⟨_, Le.refl _, k e he⟩⟩
    | cons x r =>
      refine ifN rfl ?_
      have hl : (x :: r).length ≤ sizeLine := by have := wts_len (x :: r); simp only [T.wt] at hwt; omega
      have hnot : isKind x = false → lawNodes (.tup (x :: r)) = lawNodesL (x :: r) := fun h => by rw [lawNodes, h, if_neg (by decide)]; rfl
      walk_at "mine w1"; walk_at "mine w1"; walk_at "mine w1"; walk_at "mine w1"
      refine wt_bool ?_
      refine we_bcall B.isi ?_
      walk_at "mine w1"; walk_at "mine w1"; walk_at "mine w1"; walk_at "mine w1"
      refine op_sub_tup (t := x) (by decide) rfl (by decide) ?_
      walk_at "mine w1"
      refine we_type B.str ?_
      walk_at "mine w1"; walk_at "mine o1"
      refine ⟨_, rfl, ?_⟩
      cases hk : isKind x with
      | true =>
        obtain ⟨kd, rfl⟩ : ∃ kd, x = .str kd := by cases x <;> simp [isKind] at hk; exact ⟨_, rfl⟩
        refine ifP rfl ?_
        walk_at "mine w1"; walk_at "mine w1"; walk_at "mine w1"; walk_at "mine w1"; walk_at "mine w1"
        refine op_sub_tup (t := .str kd) (by decide) rfl (by decide) ?_
        refine we_call0 (F.D 17 (by decide)) (fn_law_kinds F (by omega) ?_)
        refine op_in_tup (xs := lawKinds) ?_
        refine ⟨_, rfl, ?_⟩
        refine ifP hk ?_
        walk_at "mine w1"; walk_at "mine w1"; walk_at "mine w1"; walk_at "mine w1"; walk_at "mine w1"; walk_at "mine w1"
        refine ⟨_, rfl, (show 1 ≤ sizeLine by decide), fun e he => ⟨_, Le.refl _, ?_⟩⟩
        have := k e he
        rw [lawNodes, hk, if_pos rfl] at this
        exact this
      | false =>
        have fin : WSs X d (fenv (nmAt 18) (prAt 18) (bdAt 18) (scAt 18) pm code doc L (a 18)) [("part", .t (.tup (x :: r)))] mem ((bdAt 18).drop 2) (fun fv ρ m => ∃ m', Le m' m ∧ match fv with | .ret pv => K pv m' | .next => K (.t .none) m' | _ => False) := by
          rw [hnot hk] at k
          walk_at "mine lit6"
          walk_at "mine w1"; walk_at "mine w1"
          refine we_comp0 ?_
          walk_at "mine w1"
          refine ⟨x :: r, mem, Items.tup, fun C => ?_⟩
          refine ci_inv2 (fun ts ρ m acc => ∃ done, x :: r = done ++ ts ∧ m = mem ∧ acc = lawNodesL done ∧ (ts ≠ [] ∨ True)) ?_ ?_ _ _ _ _ ⟨[], rfl, rfl, rfl, .inr trivial⟩
          · rintro t ts ρ m acc ⟨done, hxr, rfl, rfl, _⟩
            have hmem : t ∈ x :: r := by rw [hxr]; simp
            have h1 := hts_mem hmem
            have h2 := wts_mem hmem
            have h3 := lawNodesL_wt (x :: r)
            have h4 := wts_len (lawNodesL (x :: r))
            have h5 : T.wt (.tup (x :: r)) = 1 + wts (x :: r) := rfl
            have h6 : T.ht (.tup (x :: r)) = 1 + hts (x :: r) := rfl
            have h7 : (lawNodesL (x :: r)).length = (lawNodesL done).length + (lawNodes t).length + (lawNodesL ts).length := by
              rw [hxr, lawNodesL_append]; simp [lawNodesL]; omega
            refine as_name (.inl rfl) ?_
            refine we_call (F.D 18 (by decide)) ?_
            walk_at "mine w1"; walk_at "mine w1"; walk_at "mine w1"
            refine ih (n - 1) (by omega) (by omega) (by omega) (by omega) fun e he => ?_
            refine ⟨lawNodes t, m, Items.list upd_same he (Le.upd he), ?_⟩
            refine ci_inv' (fun ts' ρ m' acc => ∃ dn, lawNodes t = dn ++ ts' ∧ m' = m ∧ acc = lawNodesL done ++ dn) ?_ ?_ _ _ _ _ ⟨[], rfl, rfl, by simp⟩
            · rintro u ts' ρ m' acc ⟨dn, hdn, rfl, rfl⟩
              have h8 : (lawNodes t).length = dn.length + (ts'.length + 1) := by rw [hdn]; simp
              refine as_name (.inl rfl) fun K2 hK2 => ?_
              walk_at "mine w1"
              exact hK2 u _ _ (by rw [List.length_append]; omega) (Le.refl _) ⟨dn ++ [u], by simp [hdn], rfl, by simp⟩
            · rintro ρ m' acc ⟨dn, hdn, rfl, rfl⟩
              rw [List.append_nil] at hdn
              subst hdn
              exact ⟨done ++ [t], by simp [hxr], rfl, by rw [lawNodesL_append]; simp [lawNodesL], .inr trivial⟩
          · rintro ρ m acc ⟨done, hxr, rfl, rfl, _⟩
            rw [List.append_nil] at hxr
            subst hxr
            exact ⟨_, Le.refl _, fun e he => ⟨_, Le.refl _, k e he⟩⟩
        cases hx : x.isStr with
        | false =>
          refine ifN rfl ?_
          refine ifN rfl ?_
          walk_at "mine w1"
          exact fin
        | true =>
          obtain ⟨kd, rfl⟩ : ∃ kd, x = .str kd := by cases x <;> simp [T.isStr] at hx; exact ⟨_, rfl⟩
          refine ifP rfl ?_
          walk_at "mine w1"; walk_at "mine w1"; walk_at "mine w1"; walk_at "mine w1"; walk_at "mine w1"
          refine op_sub_tup (t := .str kd) (by decide) rfl (by decide) ?_
          refine we_call0 (F.D 17 (by decide)) (fn_law_kinds F (by omega) ?_)
          refine op_in_tup (xs := lawKinds) ?_
          refine ⟨_, rfl, ?_⟩
          have hk' : (lawKinds.any (· == kd)) = false := hk
          refine ifN hk' ?_
          walk_at "mine w1"
          exact fin
  | _ =>
    refine ifP rfl ?_
    walk_at "mine w1"; walk_at "mine w1"; walk_at "mine w1"; walk_at "mine w1"
    exact ⟨[], rfl, by decide, fun e he => ⟨_, Le.refl _, k e he⟩⟩

end

section
set_option maxHeartbeats 8000000
variable {X : Cx} {d : Nat} {mem : Mem}

theorem last_at {h x : T} {r : List T} (hr : r.getLast? = some x) : (h :: r)[r.length]? = some x := by
  rw [List.getLast?_eq_getElem?] at hr
  cases r with
  | nil => simp at hr
  | cons y r => simpa using hr

noncomputable def ifBody (l : List Stmt) (i : Nat) : List Stmt := match l[i]? with
  | some (.If _ b _ _) => b
  | _ => []

/-- [] if x is None else [x] -/
theorem we_opt {env : Env} {ρ : Vars} {x : T} {K : PV → Mem → Prop} {e1 e2 : Expr} {p0 p1 p2 p3 p4 : Pos} {n0 : Nat}
    (h1 : ∀ K', K' (.t x) mem → WE X d env ρ mem e1 K') (h2 : ∀ K', K' (.t x) mem → WE X d env ρ mem e2 K')
    (k : ∀ e, mem e = none → K (.l e) (upd mem e (optL x))) (hst : starEach [e2] env = [(false, eval e2 env)] := by rfl) :
    WE X d env ρ mem (.IfExp (.Compare e1 [.Is] [.Constant .none n0 p0] p1) (.List [] p2) (.List [e2] p3) p4) K := by
  walk_at "mine w1"; walk_at "mine w1"
  refine h1 _ ?_
  walk_at "mine w1"; walk_at "mine o1"
  refine ⟨_, rfl, ?_⟩
  cases x with
  | none =>
    refine ifP rfl ?_
    walk_at "mine w1"; walk_at "mine w1"
    exact ⟨[], rfl, by decide, k⟩
  | _ =>
    refine ifN rfl ?_
    walk_at "mine w1"
    refine wes_cons ?_ hst
    refine h2 _ ?_
    walk_at "mine w1"
    exact ⟨_, rfl, (show 1 ≤ sizeLine by decide), k⟩

theorem fn_law_inner {a : Nat → Addr} (F : Fns X a) {t : T} {ks : List T} {d : Nat} {mem : Mem} {K : PV → Mem → Prop} (hi : lawInner t = some ks) (hwt : t.wt ≤ 700000) (hd : 8 + t.ht ≤ d)
    (k : ∀ e, mem e = none → K (.l e) (upd mem e ks)) : OP X d (fcall (a 19)) [.t t] mem K := by
  have B := F.B
  have hs0 := sizeLine_eq
  obtain ⟨d, rfl⟩ : ∃ e, d = e + 1 := ⟨d - 1, by omega⟩
  obtain ⟨kd, r, rfl⟩ : ∃ kd r, t = .tup (.str kd :: r) := by
    unfold lawInner at hi
    split at hi
    · exact ⟨_, _, rfl⟩
    · cases hi
  have hT : T.wt (.tup (.str kd :: r)) = 1 + (T.wt (.str kd) + wts r) := rfl
  have hTh : T.ht (.tup (.str kd :: r)) = 1 + max 0 (hts r) := rfl
  have hrl := wts_len r
  have hl : (T.str kd :: r).length ≤ sizeLine := by rw [List.length_cons]; omega
  simp only [lawInner] at hi
  have k' : ∀ m e, Le mem m → m e = none → ∃ m', Le m' (upd m e ks) ∧ K (.l e) m' := fun m e hle he =>
    ⟨_, Le.upd_upd hle, k e (by cases e0 : mem e with
      | none => rfl
      | some l => rw [hle e l e0] at he; cases he)⟩
  refine fn_enter' (ns := ["node"]) (F.D 19 (by decide)) (by walk_at "mine binds_tac") (by walk_at "mine kinds_tac") (by decide) (by walk_at "mine plains_tac") (fun pm code doc L K' hR _ => ?_)
  have kr : ∀ {m e ρ}, Le mem m → m e = none → K' (.ret (.l e)) ρ (upd m e ks) := fun hle he => let ⟨m', a, b⟩ := k' _ _ hle he; hR _ _ _ m' a b
  clear hR k' k
  walk_at "mine lit6"
  walk_at "mine w1"; walk_at "mine w1"; walk_at "mine w1"; walk_at "mine w1"; walk_at "mine w1"; walk_at "mine w1"
  refine op_sub_tup (t := .str kd) (by decide) rfl (by decide) ?_
  walk_at "mine w1"; walk_at "mine o1"
  refine ⟨_, rfl, ?_⟩
  by_cases h1 : kd = ("func" : Str)
  · rw [if_pos h1] at hi
    refine ifP (by simpa using h1) ?_
    split at hi
    · rename_i nm ps e0 b rr
      cases hi
      simp only [wts, T.wt] at hT hwt
      have hpl := wts_len ps
      have hbl := wts_len b
      walk_at "mine w1"; walk_at "mine w1"; walk_at "mine w1"
      refine we_tcall B.lst ?_
      walk_at "mine w1"; walk_at "mine w1"; walk_at "mine w1"; walk_at "mine w1"
      refine op_sub_tup (t := .tup ps) (by decide) rfl (by decide) ?_
      walk_at "mine w1"
      refine op_list_tup (by omega) fun i1 hi1 => ?_
      refine we_tcall B.lst ?_
      walk_at "mine w1"; walk_at "mine w1"; walk_at "mine w1"; walk_at "mine w1"
      refine op_sub_tup (t := .tup b) (by decide) rfl (by decide) ?_
      walk_at "mine w1"
      refine op_list_tup (by omega) fun i2 hi2 => ?_
      have hi12 : i2 ≠ i1 := by rintro rfl; rw [upd_same] at hi2; cases hi2
      refine op_add_list (by rw [upd_ne (Ne.symm hi12), upd_same]) upd_same (by omega) fun c hc => ?_
      exact kr ((Le.upd hi1).trans (Le.upd hi2)) hc
    · cases hi
  rw [if_neg h1] at hi
  refine ifN (by simpa using h1) ?_
  walk_at "mine w1"; walk_at "mine w1"; walk_at "mine w1"; walk_at "mine w1"; walk_at "mine w1"; walk_at "mine w1"; walk_at "mine w1"
  refine op_sub_tup (t := .str kd) (by decide) rfl (by decide) ?_
  walk_at "mine w1"; walk_at "mine o1"
  refine ⟨_, rfl, ?_⟩
  by_cases h2 : kd = ("param" : Str)
  · rw [if_pos h2] at hi
    refine ifP (by simpa using h2) ?_
    split at hi
    · rename_i x1 x2 dd rr
      cases hi
      walk_at "mine w1"; walk_at "mine w1"
      refine we_opt (x := dd) (fun K' h => ?_) (fun K' h => ?_) fun e he => kr (Le.refl _) he
      · walk_at "mine w1"; walk_at "mine w1"; walk_at "mine w1"
        exact op_sub_tup (t := dd) (by decide) rfl (by decide) h
      · walk_at "mine w1"; walk_at "mine w1"; walk_at "mine w1"
        exact op_sub_tup (t := dd) (by decide) rfl (by decide) h
    · cases hi
  rw [if_neg h2] at hi
  refine ifN (by simpa using h2) ?_
  walk_at "mine w1"; walk_at "mine w1"; walk_at "mine w1"; walk_at "mine w1"; walk_at "mine w1"; walk_at "mine w1"; walk_at "mine w1"
  refine op_sub_tup (t := .str kd) (by decide) rfl (by decide) ?_
  walk_at "mine w1"; walk_at "mine o1"
  refine ⟨_, rfl, ?_⟩
  by_cases h3 : kd = ("decl" : Str)
  · rw [if_pos h3] at hi
    refine ifP (by simpa using h3) ?_
    obtain ⟨x1, x2, x3, x4, x5, x6, ms, rr, rfl, rfl⟩ : ∃ x1 x2 x3 x4 x5 x6 ms rr, r = x1 :: x2 :: x3 :: x4 :: x5 :: x6 :: T.tup ms :: rr ∧ ks = ms := by
      split at hi
      · cases hi; exact ⟨_, _, _, _, _, _, _, _, rfl, rfl⟩
      · cases hi
    simp only [wts, T.wt] at hT hwt
    have hml := wts_len ks
    walk_at "mine w1"; walk_at "mine w1"
    refine we_tcall B.lst ?_
    walk_at "mine w1"; walk_at "mine w1"; walk_at "mine w1"; walk_at "mine w1"
    refine op_sub_tup (t := .tup ks) (by decide) rfl (by decide) ?_
    walk_at "mine w1"
    exact op_list_tup (by omega) fun e he => kr (Le.refl _) he
  rw [if_neg h3] at hi
  refine ifN (by simpa using h3) ?_
  -- the last element or nothing
  have rest : member kd r = some false → WSs X d (fenv (nmAt 19) (prAt 19) (bdAt 19) (scAt 19) pm code doc L (a 19)) [("node", .t (.tup (.str kd :: r)))] mem ((bdAt 19).drop 4) K' := fun hm => by
    rw [hm] at hi
    dsimp only at hi
    walk_at "mine lit6"
    walk_at "mine w1"; walk_at "mine w1"; walk_at "mine w1"; walk_at "mine w1"; walk_at "mine w1"; walk_at "mine w1"; walk_at "mine w1"
    refine op_sub_tup (t := .str kd) (by decide) rfl (by decide) ?_
    walk_at "mine w1"; walk_at "mine w1"; walk_at "mine w1"; walk_at "mine w1"; walk_at "mine w1"; walk_at "mine w1"
    try refine ⟨_, rfl, (show 2 ≤ sizeLine by decide), ?_⟩
    refine op_in_tup (xs := ["use", "lit"]) ?_
    refine ⟨_, rfl, ?_⟩
    rw [any2]
    by_cases hu : kd = ("use" : Str) ∨ kd = ("lit" : Str)
    · rw [if_pos hu] at hi; cases hi
      refine ifP (by simpa using hu) ?_
      walk_at "mine w1"; walk_at "mine w1"
      exact ⟨[], rfl, by decide, fun e he => kr (Le.refl _) he⟩
    · rw [if_neg hu] at hi; cases hi
      refine ifN (by simpa using hu) ?_
      refine we_call (F.D 18 (by decide)) ?_
      walk_at "mine w1"; walk_at "mine w1"; walk_at "mine w1"; walk_at "mine w1"; walk_at "mine w1"
      refine ⟨_, rfl, ?_⟩
      refine op_from_tup (k := 1) hl ?_
      walk_at "mine w1"
      have e1 : T.wt (.tup r) = 1 + wts r := rfl
      have e2 : T.ht (.tup r) = 1 + hts r := rfl
      have e3 := T.wt_pos (.str kd)
      exact fn_law_nodes F _ (Nat.le_refl _) (by show T.wt (.tup r) ≤ _; omega) (by show 6 + T.ht (.tup r) ≤ _; omega) fun e he => kr (Le.refl _) he
  have yes : member kd r = some true → ∀ (K2 : FV → Vars → Mem → Prop), (∀ pv ρ m, K' (.ret pv) ρ m → K2 (.ret pv) ρ m) → WSs X d (fenv (nmAt 19) (prAt 19) (bdAt 19) (scAt 19) pm code doc L (a 19)) [("node", .t (.tup (.str kd :: r)))] mem (ifBody (bdAt 19) 3) K2 := fun hm K2 hK2 => by
    rw [hm] at hi
    dsimp only at hi
    split at hi
    · rename_i x hx
      cases hi
      walk_at "mine lit6"
      have hix := last_at (h := .str kd) hx
      have hidx : ((((T.str kd :: r).length : Nat) : Int) - 1).toNat = r.length := by rw [List.length_cons]; omega
      have hlen63 : (((T.str kd :: r).length : Nat) : Int) - 1 < 2 ^ 63 := by rw [List.length_cons]; omega
      have hlen0 : 0 ≤ (((T.str kd :: r).length : Nat) : Int) - 1 := by rw [List.length_cons]; omega
      walk_at "mine w1"; walk_at "mine w1"
      refine we_opt (x := x) (fun K' h => ?_) (fun K' h => ?_) fun e he => hK2 _ _ _ (kr (Le.refl _) he)
      · walk_at "mine w1"; walk_at "mine w1"; walk_at "mine w1"
        refine we_bcall B.len ?_
        walk_at "mine w1"; walk_at "mine w1"; walk_at "mine w1"
        refine op_len_tup hl ?_
        walk_at "mine w1"; walk_at "mine o1"
        exact op_sub_tup (t := x) hlen0 (by rw [hidx]; exact hix) hlen63 h
      · walk_at "mine w1"; walk_at "mine w1"; walk_at "mine w1"
        refine we_bcall B.len ?_
        walk_at "mine w1"; walk_at "mine w1"; walk_at "mine w1"
        refine op_len_tup hl ?_
        walk_at "mine w1"; walk_at "mine o1"
        exact op_sub_tup (t := x) hlen0 (by rw [hidx]; exact hix) hlen63 h
    · cases hi
  walk_at "mine w1"; walk_at "mine w1"; walk_at "mine w1"; walk_at "mine w1"; walk_at "mine w1"; walk_at "mine w1"; walk_at "mine w1"; walk_at "mine w1"
  refine op_sub_tup (t := .str kd) (by decide) rfl (by decide) ?_
  walk_at "mine w1"; walk_at "mine w1"; walk_at "mine w1"; walk_at "mine w1"; walk_at "mine w1"; walk_at "mine w1"
  try refine ⟨_, rfl, (show 2 ≤ sizeLine by decide), ?_⟩
  refine op_in_tup (xs := ["method", "case"]) ?_
  refine ⟨_, rfl, ?_⟩
  rw [any2]
  by_cases h4 : kd = ("method" : Str) ∨ kd = ("case" : Str)
  · have hm : member kd r = some true := by unfold member; rw [if_pos h4]
    refine ifP (by simpa using h4) ?_
    refine ifP rfl ?_
    refine yes hm _ ?_
    exact fun pv ρ m h => h
  refine ifN (by simpa using h4) ?_
  walk_at "mine w1"; walk_at "mine w1"; walk_at "mine w1"; walk_at "mine w1"; walk_at "mine w1"; walk_at "mine w1"
  refine op_sub_tup (t := .str kd) (by decide) rfl (by decide) ?_
  walk_at "mine w1"; walk_at "mine w1"; walk_at "mine w1"; walk_at "mine w1"; walk_at "mine w1"; walk_at "mine w1"
  try refine ⟨_, rfl, (show 2 ≤ sizeLine by decide), ?_⟩
  refine op_in_tup (xs := ["prop", "const"]) ?_
  refine ⟨_, rfl, ?_⟩
  rw [any2]
  by_cases h5 : kd = ("prop" : Str) ∨ kd = ("const" : Str)
  rotate_left
  · have hm : member kd r = some false := by unfold member; rw [if_neg h4, if_neg h5]
    refine ifN (by simpa using h5) ?_
    refine ifN rfl ?_
    walk_at "mine w1"
    exact rest hm
  refine ifP (by simpa using h5) ?_
  cases r with
  | nil =>
    have hm : member kd [] = none := by unfold member; rw [if_neg h4, if_pos h5]
    rw [hm] at hi; cases hi
  | cons y rr =>
  walk_at "mine w1"
  refine wt_bool ?_
  refine we_bcall B.isi ?_
  walk_at "mine w1"; walk_at "mine w1"; walk_at "mine w1"; walk_at "mine w1"
  refine op_sub_tup (t := y) (by decide) rfl (by decide) ?_
  walk_at "mine w1"
  refine we_type B.tup ?_
  walk_at "mine w1"; walk_at "mine o1"
  refine ⟨_, rfl, ?_⟩
  cases hy : y.isTup with
  | false =>
    have hm : member kd (y :: rr) = some false := by
      unfold member; rw [if_neg h4, if_pos h5]
      cases y <;> first | rfl | simp [T.isTup] at hy
    refine ifN rfl ?_
    refine ifN rfl ?_
    walk_at "mine w1"
    exact rest hm
  | true =>
    obtain ⟨l, rfl⟩ : ∃ l, y = .tup l := by cases y <;> simp [T.isTup] at hy; exact ⟨_, rfl⟩
    refine ifP rfl ?_
    walk_at "mine w1"; walk_at "mine w1"
    refine we_bcall B.len ?_
    walk_at "mine w1"; walk_at "mine w1"; walk_at "mine w1"
    refine op_len_tup hl ?_
    walk_at "mine w1"; walk_at "mine o1"
    refine ⟨_, rfl, ?_⟩
    by_cases h6 : 2 ≤ rr.length
    rotate_left
    · have hm : member kd (.tup l :: rr) = some false := by
        unfold member; rw [if_neg h4, if_pos h5]
        cases l with
        | nil => dsimp only; rw [if_neg h6]
        | cons h tl => dsimp only; rw [show decide (2 ≤ rr.length) = false by simpa using h6]; rfl
      refine ifN (by simp; omega) ?_
      refine ifN rfl ?_
      walk_at "mine w1"
      exact rest hm
    refine ifP (by simp; omega) ?_
    cases l with
    | nil =>
      have hm : member kd (.tup [] :: rr) = none := by unfold member; rw [if_neg h4, if_pos h5]; dsimp only; rw [if_pos h6]
      rw [hm] at hi; cases hi
    | cons h tl =>
    have hm0 : member kd (.tup (h :: tl) :: rr) = some (isPublic h) := by
      unfold member; rw [if_neg h4, if_pos h5]; dsimp only; rw [show decide (2 ≤ rr.length) = true by simpa using h6]; rfl
    walk_at "mine w1"
    refine wt_bool ?_
    refine we_bcall B.isi ?_
    walk_at "mine w1"; walk_at "mine w1"; walk_at "mine w1"; walk_at "mine w1"; walk_at "mine w1"
    refine op_sub_tup (t := .tup (h :: tl)) (by decide) rfl (by decide) ?_
    walk_at "mine w1"
    refine op_sub_tup (t := h) (by decide) rfl (by decide) ?_
    walk_at "mine w1"
    refine we_type B.str ?_
    walk_at "mine w1"; walk_at "mine o1"
    refine ⟨_, rfl, ?_⟩
    cases hh : h.isStr with
    | false =>
      have hm : member kd (.tup (h :: tl) :: rr) = some false := by
        rw [hm0]; cases h <;> first | rfl | simp [T.isStr] at hh
      refine ifN rfl ?_
      refine ifN rfl ?_
      walk_at "mine w1"
      exact rest hm
    | true =>
      obtain ⟨s, rfl⟩ : ∃ s, h = .str s := by cases h <;> simp [T.isStr] at hh; exact ⟨_, rfl⟩
      refine ifP rfl ?_
      walk_at "mine w1"; walk_at "mine w1"; walk_at "mine w1"; walk_at "mine w1"; walk_at "mine w1"; walk_at "mine w1"
      refine op_sub_tup (t := .tup (.str s :: tl)) (by decide) rfl (by decide) ?_
      walk_at "mine w1"
      refine op_sub_tup (t := .str s) (by decide) rfl (by decide) ?_
      walk_at "mine w1"; walk_at "mine o1"
      refine ⟨_, rfl, ?_⟩
      have hp : isPublic (.str s) = (s == ("public" : Str)) := rfl
      rw [← hp]
      cases hpb : isPublic (.str s) with
      | true =>
        refine ifP rfl ?_
        refine yes (hm0.trans (by rw [hpb])) _ ?_
        exact fun pv ρ m h => h
      | false =>
        refine ifN rfl ?_
        walk_at "mine w1"
        exact rest (hm0.trans (by rw [hpb]))

end

section
set_option maxHeartbeats 8000000
variable {X : Cx} {d : Nat} {mem : Mem}

noncomputable def LF (X : Cx) (a : Nat → Addr) (n : Nat) : Prop := ∀ {f : T} {N d : Nat} {mem : Mem} {K : PV → Mem → Prop}, Func f → Wf f → f.ht ≤ n → f.wt ≤ 700000 → f.wt ≤ N → 12 + f.ht ≤ d →
  (∀ e, mem e = none → K (.l e) (upd mem e ((freeOf (namesN N) f).map T.str))) → OP X d (fcall (a 21)) [.t f] mem K
noncomputable def LN (X : Cx) (a : Nat → Addr) (n : Nat) : Prop := ∀ {t : T} {N d : Nat} {mem : Mem} {K : PV → Mem → Prop}, Wf t → t.ht ≤ n → t.wt ≤ 700000 → t.wt ≤ N → 12 + t.ht ≤ d →
  (∀ e, mem e = none → K (.l e) (upd mem e ((namesN N t).map T.str))) → OP X d (fcall (a 20)) [.t t] mem K

theorem flatMap_str (N : Nat) (l : List T) : (l.flatMap (namesN N)).map T.str = l.flatMap (fun t => (namesN N t).map T.str) := by
  rw [List.map_flatMap]

theorem lf_of {a : Nat → Addr} (F : Fns X a) {n : Nat} (ih : ∀ m, m < n → LN X a m) : LF X a n := by
  intro f N d mem K hf hw hh hwt hN hd k
  have B := F.B
  have hs0 := sizeLine_eq
  obtain ⟨d, rfl⟩ : ∃ e, d = e + 1 := ⟨d - 1, by omega⟩
  obtain ⟨nm, ps, e0, body, b1, b2, rfl, hps⟩ := hf
  have hbody := hw.func_body
  have hwts : wts ps + wts body + 6 ≤ T.wt (.tup [.str "func", nm, .tup ps, e0, .tup body, b1, b2]) := by
    have := e0.wt_pos; have := nm.wt_pos; have := b1.wt_pos; have := b2.wt_pos
    simp only [T.wt, wts]; omega
  have hhts : hts body + 2 ≤ T.ht (.tup [.str "func", nm, .tup ps, e0, .tup body, b1, b2]) := by
    have h2 : T.ht (.tup body) ≤ hts [.str "func", nm, .tup ps, e0, .tup body, b1, b2] := hts_mem (by simp)
    have h3 : T.ht (.tup body) = 1 + hts body := rfl
    show _ ≤ 1 + hts _
    omega
  have hpsl := wts_len ps
  have hbol := wts_len body
  have hfree : freeOf (namesN N) (.tup [.str "func", nm, .tup ps, e0, .tup body, b1, b2]) = dedup (("this" : Str) :: ps.map fun p => strOf (fld p 1)) (body.flatMap (namesN N)) [] := rfl
  rw [hfree] at k
  generalize hR : dedup (("this" : Str) :: ps.map fun p => strOf (fld p 1)) (body.flatMap (namesN N)) [] = R at k
  have hflat := flat_len (nm := namesN N) (l := body) fun x _ => namesN_len N x
  refine fn_enter (ns := ["func"]) (F.D 21 (by decide)) (by walk_at "mine binds_tac") (by walk_at "mine kinds_tac") (by decide) (by walk_at "mine plains_tac") (fun pm code doc L => ?_)
  walk_at "mine lit6"
  walk_at "mine w1"
  refine ws_assign ?_ (.inl rfl)
  walk_at "mine w1"; walk_at "mine w1"
  refine ⟨[], rfl, by decide, fun b hb => ⟨trivial, ?_⟩⟩
  walk_at "mine w1"
  refine ws_for ?_
  refine we_comp0 ?_
  walk_at "mine w1"; walk_at "mine w1"; walk_at "mine w1"
  refine op_sub_tup (t := .tup body) (by decide) rfl (by decide) ?_
  refine ⟨body, _, Items.tup, fun C => ?_⟩
  refine ci_inv2 (fun ts ρ m acc => ∃ done, body = done ++ ts ∧ m = upd mem b [] ∧ acc = (done.flatMap (namesN N)).map T.str) ?_ ?_ _ _ _ _ ⟨[], rfl, rfl, rfl⟩
  · rintro t ts ρ m acc ⟨done, hbd, rfl, rfl⟩
    have hmem : t ∈ body := by rw [hbd]; simp
    have h1 := hts_mem hmem
    have h2 := wts_mem hmem
    have h7 : (body.flatMap (namesN N)).length = (done.flatMap (namesN N)).length + ((namesN N t).length + (ts.flatMap (namesN N)).length) := by
      rw [hbd, List.flatMap_append, List.flatMap_cons, List.length_append, List.length_append]
    refine as_name (.inl rfl) ?_
    refine we_call (F.D 20 (by decide)) ?_
    walk_at "mine w1"; walk_at "mine w1"; walk_at "mine w1"
    refine ih (n - 1) (by omega) (hbody t (by simp [hmem])) (N := N) (by omega) (by omega) (by omega) (by omega) fun e he => ?_
    refine ⟨_, _, Items.list upd_same he (Le.upd he), ?_⟩
    refine ci_inv' (fun ts' ρ m' acc => ∃ dn, (namesN N t).map T.str = dn ++ ts' ∧ m' = upd mem b [] ∧ acc = (done.flatMap (namesN N)).map T.str ++ dn) ?_ ?_ _ _ _ _ ⟨[], rfl, rfl, by simp⟩
    · rintro u ts' ρ m' acc ⟨dn, hdn, rfl, rfl⟩
      have h8 : (namesN N t).length = dn.length + (ts'.length + 1) := by have := congrArg List.length hdn; simpa using this
      refine as_name (.inl rfl) fun K2 hK2 => ?_
      walk_at "mine w1"
      exact hK2 u _ _ (by rw [List.length_append, List.length_map]; omega) (Le.refl _) ⟨dn ++ [u], by simp [hdn], rfl, by simp⟩
    · rintro ρ m' acc ⟨dn, hdn, rfl, rfl⟩
      rw [List.append_nil] at hdn
      subst hdn
      exact ⟨done ++ [t], by simp [hbd], rfl, by simp⟩
  rintro ρ m acc ⟨done, hbd, rfl, rfl⟩
  rw [List.append_nil] at hbd
  subst hbd
  refine ⟨_, Le.refl _, fun e he => ?_⟩
  refine ⟨_, _, Items.list upd_same he (Le.upd he), ?_⟩
  refine for_inv' (fun ts ρ m => ∃ xs fd, ts = xs.map T.str ∧ m = upd mem b (fd.map T.str) ∧ ρ = ([("found", .l b), ("func", .t (.tup [.str "func", nm, .tup ps, e0, .tup body, b1, b2]))] : Vars) ∧ dedup (("this" : Str) :: ps.map fun p => strOf (fld p 1)) xs fd = R ∧ fd.length + xs.length ≤ 700000) ?_ ?_ _ _ _
    ⟨_, [], rfl, rfl, rfl, hR, by rw [List.length_nil]; omega⟩
  · rintro t2 ts ρ m ⟨xs, fd, hts, rfl, rfl, hd2, hf2⟩ K2 hK2 -
    obtain ⟨x, xs, rfl, rfl, rfl⟩ : ∃ x xs', xs = x :: xs' ∧ t2 = .str x ∧ ts = xs'.map T.str := by
      cases xs with
      | nil => cases hts
      | cons x xs' => simp only [List.map_cons, List.cons.injEq] at hts; exact ⟨x, xs', rfl, hts.1, hts.2⟩
    rw [dedup, List.any_cons] at hd2
    rw [List.length_cons] at hf2
    have skip : ∀ ρ2 m2, Sub ([("found", .l b), ("func", .t (.tup [.str "func", nm, .tup ps, e0, .tup body, b1, b2]))] : Vars) ρ2 → Le (upd mem b (fd.map T.str)) m2 → dedup (("this" : Str) :: ps.map fun p => strOf (fld p 1)) xs fd = R →
        K2 .next ρ2 m2 :=
      fun ρ2 m2 h1 h2 h3 => (hK2 _ _ _ _ h1 h2 ⟨xs, fd, rfl, rfl, rfl, h3, by omega⟩).1
    refine as_name (.inl rfl) ?_
    walk_at "mine w1"; walk_at "mine w1"; walk_at "mine w1"; walk_at "mine w1"; walk_at "mine w1"; walk_at "mine w1"; walk_at "mine o1"
    refine ⟨_, rfl, ?_⟩
    cases hth : (x != ("this" : Str)) with
    | false =>
      have hx : x = ("this" : Str) := by simpa using hth
      refine ifN rfl ?_
      refine ifN rfl ?_
      walk_at "mine wn"
      refine skip _ _ (by walk_at "mine subs") (Le.refl _) ?_
      rw [if_neg (by rw [hx]; simp)] at hd2
      exact hd2
    | true =>
      have hx : (("this" : Str) == x) = false := by
        have : x ≠ ("this" : Str) := by simpa using hth
        rw [beq_eq_false_iff_ne]; exact Ne.symm this
      rw [hx, Bool.false_or] at hd2
      refine ifP rfl ?_
      walk_at "mine w1"; walk_at "mine w1"; walk_at "mine w1"
      refine we_comp0 ?_
      walk_at "mine w1"; walk_at "mine w1"; walk_at "mine w1"
      refine op_sub_tup (t := .tup ps) (by decide) rfl (by decide) ?_
      refine ⟨ps, _, Items.tup, fun C => ?_⟩
      refine ci_inv' (fun ts ρ m acc => ∃ done, ps = done ++ ts ∧ m = upd mem b (fd.map T.str) ∧ acc = (done.map (fun u => strOf (fld u 1))).map T.str) ?_ ?_ _ _ _ _ ⟨[], rfl, rfl, rfl⟩
      · rintro t ts ρ m acc ⟨done, hus, rfl, rfl⟩
        obtain ⟨h, y, r, rfl⟩ := hps t (by simp [hus])
        have hdl : done.length ≤ ps.length := by rw [hus]; simp
        refine as_name (.inl rfl) fun K3 hK3 => ?_
        replace hK3 := hK3 (.str y) _ _ (by rw [List.length_map, List.length_map]; omega) (Le.refl _) ⟨done ++ [.tup (h :: .str y :: r)], by simp [hus], rfl, by simp [fld, strOf]⟩
        walk_at "mine w1"; walk_at "mine w1"; walk_at "mine w1"
        exact op_sub_tup (t := .str y) (by decide) rfl (by decide) hK3
      rintro ρ m acc ⟨done, hus, rfl, rfl⟩
      rw [List.append_nil] at hus
      subst hus
      refine ⟨_, Le.refl _, fun c hc => ?_⟩
      have hcb : c ≠ b := by rintro rfl; rw [upd_same] at hc; cases hc
      refine op_notin_list (xs := ps.map fun p => strOf (fld p 1)) upd_same ?_
      refine ⟨_, rfl, ?_⟩
      cases hp : (ps.map fun p => strOf (fld p 1)).any (· == x) with
      | true =>
        rw [hp] at hd2
        refine ifN rfl ?_
        refine ifN rfl ?_
        walk_at "mine wn"
        exact skip _ _ (by walk_at "mine subs") (Le.upd hc) (by simpa using hd2)
      | false =>
        rw [hp] at hd2
        refine ifP rfl ?_
        walk_at "mine w1"; walk_at "mine w1"; walk_at "mine w1"; walk_at "mine w1"
        refine op_notin_list (xs := fd) (by rw [upd_ne (Ne.symm hcb), upd_same]) ?_
        refine ⟨_, rfl, ?_⟩
        cases hfd : fd.any (· == x) with
        | true =>
          rw [hfd] at hd2
          refine ifN rfl ?_
          walk_at "mine wn"
          exact skip _ _ (by walk_at "mine subs") (Le.upd hc) (by simpa using hd2)
        | false =>
          rw [hfd] at hd2
          refine ifP rfl ?_
          walk_at "mine w1"
          refine ws_expr ?_
          refine we_meth1 PySem.F.slot_list_append PySem.F.type_list_append ?_
          walk_at "mine w1"
          refine ⟨b, _, rfl, by rw [upd_ne (Ne.symm hcb), upd_same], ?_⟩
          walk_at "mine w1"; walk_at "mine w1"; walk_at "mine w1"
          refine op_append (by rw [upd_ne (Ne.symm hcb), upd_same]) (by rw [List.length_map]; omega) ?_
          refine ⟨rfl, ?_⟩
          walk_at "mine wn"
          exact (hK2 _ _ _ _ (by walk_at "mine subs") (upd_extend hc) ⟨xs, fd ++ [x], rfl, by simp, rfl, by simpa using hd2, by rw [List.length_append]; simp; omega⟩).1
  · rintro ρ m ⟨xs, fd, hts, rfl, rfl, hd2, hf2⟩
    obtain rfl : xs = [] := by simpa using hts.symm
    have hRfd : fd = R := hd2
    subst hRfd
    walk_at "mine w1"; walk_at "mine w1"; walk_at "mine w1"
    exact ⟨_, Le.refl _, k b hb⟩

end

section
set_option maxHeartbeats 8000000
variable {X : Cx} {d : Nat} {mem : Mem}

theorem ln_of {a : Nat → Addr} (F : Fns X a) {n : Nat} (ih : ∀ m, m < n → LF X a m ∧ LN X a m) : LN X a n := by
  intro t N d mem K hw hh hwt hN hd k
  have B := F.B
  have hs0 := sizeLine_eq
  obtain ⟨d, rfl⟩ : ∃ e, d = e + 1 := ⟨d - 1, by omega⟩
  obtain ⟨ks, hkk, hin, _, hkc⟩ := hw.kids_eq
  have hst := namesN_step (N := N) hw hkk hN
  have hkw := kids_wt hkk
  have hkh := kids_ht hkk
  obtain ⟨kd, r, rfl⟩ := hw.head
  have hl : (T.str kd :: r).length ≤ sizeLine := by have := wts_len (T.str kd :: r); simp only [T.wt] at hwt; omega
  have hkind : kind (.tup (.str kd :: r)) = kd := rfl
  have hlen := namesN_len N (.tup (.str kd :: r))
  rw [hst] at k hlen
  unfold usedN at k hlen
  rw [hkind] at k hlen
  have hFD : isFD (.tup (.str kd :: r)) = (kd == ("func" : Str) || kd == ("decl" : Str)) := rfl
  refine fn_enter' (ns := ["node"]) (F.D 20 (by decide)) (by walk_at "mine binds_tac") (by walk_at "mine kinds_tac") (by decide) (by walk_at "mine plains_tac") (fun pm code doc L K' hR _ => ?_)
  walk_at "mine lit6"
  walk_at "mine w1"; walk_at "mine w1"; walk_at "mine w1"; walk_at "mine w1"; walk_at "mine w1"; walk_at "mine w1"
  refine op_sub_tup (t := .str kd) (by decide) rfl (by decide) ?_
  walk_at "mine w1"; walk_at "mine o1"
  refine ⟨_, rfl, ?_⟩
  by_cases h1 : kd = ("var" : Str)
  · obtain ⟨x, hx⟩ := hw.var h1
    injection hx with hx
    injection hx with hx1 hx2
    subst hx2
    rw [if_pos h1] at k
    have hks : ks = [] := by
      rw [h1, kids_var] at hkk; cases hkk; rfl
    subst hks
    refine ifP (by simpa using h1) ?_
    walk_at "mine w1"; walk_at "mine w1"; walk_at "mine w1"; walk_at "mine w1"; walk_at "mine w1"; walk_at "mine w1"; walk_at "mine w1"
    refine op_sub_tup (t := .str x) (by decide) rfl (by decide) ?_
    walk_at "mine w1"
    refine ⟨_, rfl, (show 1 ≤ sizeLine by decide), fun e he => ?_⟩
    have := k e he
    simp only [List.flatMap_nil, ite_self, List.append_nil] at this
    exact hR _ _ _ _ (Le.refl _) this
  rw [if_neg h1] at k hlen
  refine ifN (by simpa using h1) ?_
  walk_at "mine w1"; walk_at "mine w1"; walk_at "mine w1"; walk_at "mine w1"; walk_at "mine w1"; walk_at "mine w1"; walk_at "mine w1"
  refine op_sub_tup (t := .str kd) (by decide) rfl (by decide) ?_
  walk_at "mine w1"; walk_at "mine o1"
  refine ⟨_, rfl, ?_⟩
  by_cases h2 : kd = ("closure" : Str)
  · obtain ⟨f, us, b, hx, hf, hwf, hu, hk2⟩ := hw.closure h2
    rw [hkk] at hk2
    cases hk2
    injection hx with hx
    injection hx with hx1 hx2
    subst hx2
    rw [if_pos h2] at k
    refine ifP (by simpa using h2) ?_
    have husl : us.length ≤ 800000 := by have := wts_len us; simp only [T.wt, wts] at hwt; omega
    have hz : (if isFD (T.tup (.str kd :: [f, .tup us, b])) = true then [] else [f].flatMap (namesN N)) = [] := by
      simp [namesN_func hf]
    rw [hz, List.append_nil] at k
    walk_at "mine w1"; walk_at "mine w1"
    refine we_comp0 ?_
    walk_at "mine w1"; walk_at "mine w1"; walk_at "mine w1"
    refine op_sub_tup (t := .tup us) (by decide) rfl (by decide) ?_
    refine ⟨us, mem, Items.tup, fun C => ?_⟩
    refine ci_inv' (fun ts ρ m acc => ∃ done, us = done ++ ts ∧ m = mem ∧ acc = done.map (fun u => T.str (strOf (fld u 0)))) ?_ ?_ _ _ _ _ ⟨[], rfl, rfl, rfl⟩
    · rintro t ts ρ m acc ⟨done, hus, rfl, rfl⟩
      obtain ⟨nm, y, rfl⟩ := hu t (by simp [hus])
      have hdl : done.length ≤ us.length := by rw [hus]; simp
      refine as_tuple2 (.inl rfl) (.inl rfl) fun K2 hK2 => ?_
      replace hK2 := hK2 (.str nm) _ _ (by rw [List.length_map]; omega) (Le.refl _) ⟨done ++ [.tup [.str nm, y]], by simp [hus], rfl, by simp [fld, strOf]⟩
      walk_at "mine w1"
      exact hK2
    · rintro ρ m acc ⟨done, hus, rfl, rfl⟩
      rw [List.append_nil] at hus
      subst hus
      refine ⟨_, Le.refl _, fun e he => ?_⟩
      have e1 : ((items (fld (.tup (.str kd :: [f, .tup us, b])) 2)).map fun u => strOf (fld u 0)).map T.str = us.map (fun u => T.str (strOf (fld u 0))) := by
        rw [List.map_map]; rfl
      have := k e he
      rw [e1] at this
      exact hR _ _ _ _ (Le.refl _) this
  rw [if_neg h2] at k hlen
  refine ifN (by simpa using h2) ?_
  have ret_nil : ∀ {ρ : Vars} {env : Env} {p : Pos} {KK : PV → Mem → Prop}, (∀ e, mem e = none → KK (.l e) (upd mem e [])) → WE X d env ρ mem (.List [] p) KK := fun h => by
    walk_at "mine w1"; walk_at "mine w1"
    exact ⟨[], rfl, by decide, h⟩
  -- func or decl
  have fd : isFD (.tup (.str kd :: r)) = true → ∀ e, mem e = none → K (.l e) (upd mem e []) := fun h e he => by
    have hk3 : kd ≠ ("arrow" : Str) := by rintro rfl; cases h
    rw [if_neg hk3, h, if_pos rfl] at k
    exact k e he
  have cont : isFD (.tup (.str kd :: r)) = false → WSs X d (fenv (nmAt 20) (prAt 20) (bdAt 20) (scAt 20) pm code doc L (a 20)) [("node", .t (.tup (.str kd :: r)))] mem ((bdAt 20).drop 3) K' := fun hfd => by
    walk_at "mine lit6"
    walk_at "mine w1"; walk_at "mine w1"; walk_at "mine w1"; walk_at "mine w1"; walk_at "mine w1"; walk_at "mine w1"
    refine op_sub_tup (t := .str kd) (by decide) rfl (by decide) ?_
    walk_at "mine w1"; walk_at "mine o1"
    refine ⟨_, rfl, ?_⟩
    by_cases h3 : kd = ("arrow" : Str)
    · obtain ⟨f, b, hx, hf, hwf, hk2⟩ := hw.arrow h3
      rw [hkk] at hk2; cases hk2
      injection hx with hx
      injection hx with hx1 hx2
      subst hx2
      rw [if_pos h3] at k
      refine ifP (by simpa using h3) ?_
      have hfh : f.ht + 1 ≤ T.ht (.tup (.str kd :: [f, b])) := by simp only [T.ht, hts]; omega
      have hfw : f.wt + 1 ≤ T.wt (.tup (.str kd :: [f, b])) := by simp only [T.wt, wts]; omega
      have hz : (if isFD (T.tup (.str kd :: [f, b])) = true then [] else [f].flatMap (namesN N)) = [] := by
        simp [namesN_func hf]
      rw [hz, List.append_nil] at k
      walk_at "mine w1"; walk_at "mine w1"
      refine we_call (F.D 21 (by decide)) ?_
      walk_at "mine w1"; walk_at "mine w1"; walk_at "mine w1"; walk_at "mine w1"
      refine op_sub_tup (t := f) (by decide) rfl (by decide) ?_
      walk_at "mine w1"
      exact (ih (n - 1) (by omega)).1 hf hwf (by omega) (by omega) (by omega) (by omega) fun e he => hR _ _ _ _ (Le.refl _) (k e he)
    rw [if_neg h3, hfd, if_neg (by decide), List.nil_append] at k hlen
    refine ifN (by simpa using h3) ?_
    walk_at "mine w1"; walk_at "mine w1"; walk_at "mine w1"
    refine we_comp0 ?_
    refine we_call (F.D 19 (by decide)) ?_
    walk_at "mine w1"; walk_at "mine w1"; walk_at "mine w1"
    refine fn_law_inner F hin (by omega) (by omega) fun c hc => ?_
    refine ⟨ks, mem, Items.list upd_same hc (Le.upd hc), fun C => ?_⟩
    refine ci_inv2 (fun ts ρ m acc => ∃ done, ks = done ++ ts ∧ m = mem ∧ acc = (done.flatMap (namesN N)).map T.str) ?_ ?_ _ _ _ _ ⟨[], rfl, rfl, rfl⟩
    · rintro t ts ρ m acc ⟨done, hbd, rfl, rfl⟩
      have hmem : t ∈ ks := by rw [hbd]; simp
      have h1 := hts_mem hmem
      have h2 := wts_mem hmem
      have h7 : (ks.flatMap (namesN N)).length = (done.flatMap (namesN N)).length + ((namesN N t).length + (ts.flatMap (namesN N)).length) := by
        rw [hbd, List.flatMap_append, List.flatMap_cons, List.length_append, List.length_append]
      refine as_name (.inl rfl) ?_
      refine we_call (F.D 20 (by decide)) ?_
      walk_at "mine w1"; walk_at "mine w1"; walk_at "mine w1"
      refine (ih (n - 1) (by omega)).2 (hkc t hmem) (N := N) (by omega) (by omega) (by omega) (by omega) fun e he => ?_
      refine ⟨_, _, Items.list upd_same he (Le.upd he), ?_⟩
      refine ci_inv' (fun ts' ρ m' acc => ∃ dn, (namesN N t).map T.str = dn ++ ts' ∧ m' = m ∧ acc = (done.flatMap (namesN N)).map T.str ++ dn) ?_ ?_ _ _ _ _ ⟨[], rfl, rfl, by simp⟩
      · rintro u ts' ρ m' acc ⟨dn, hdn, rfl, rfl⟩
        have h8 : (namesN N t).length = dn.length + (ts'.length + 1) := by have := congrArg List.length hdn; simpa using this
        refine as_name (.inl rfl) fun K2 hK2 => ?_
        walk_at "mine w1"
        exact hK2 u _ _ (by rw [List.length_append, List.length_map]; omega) (Le.refl _) ⟨dn ++ [u], by simp [hdn], rfl, by simp⟩
      · rintro ρ m' acc ⟨dn, hdn, rfl, rfl⟩
        rw [List.append_nil] at hdn
        subst hdn
        exact ⟨done ++ [t], by simp [hbd], rfl, by simp⟩
    · rintro ρ m acc ⟨done, hbd, rfl, rfl⟩
      rw [List.append_nil] at hbd
      subst hbd
      exact ⟨_, Le.refl _, fun e he => hR _ _ _ _ (Le.refl _) (k e he)⟩
  walk_at "mine w1"; walk_at "mine w1"; walk_at "mine w1"; walk_at "mine w1"; walk_at "mine w1"; walk_at "mine w1"; walk_at "mine w1"; walk_at "mine w1"
  refine op_sub_tup (t := .str kd) (by decide) rfl (by decide) ?_
  walk_at "mine w1"; walk_at "mine o1"
  refine ⟨_, rfl, ?_⟩
  by_cases h4 : kd = ("func" : Str)
  · refine ifP (by simpa using h4) ?_
    refine ifP rfl ?_
    walk_at "mine w1"; walk_at "mine w1"
    exact ret_nil fun e he => hR _ _ _ _ (Le.refl _) (fd (by rw [hFD, h4]; rfl) e he)
  refine ifN (by simpa using h4) ?_
  walk_at "mine w1"; walk_at "mine w1"; walk_at "mine w1"; walk_at "mine w1"; walk_at "mine w1"
  refine op_sub_tup (t := .str kd) (by decide) rfl (by decide) ?_
  walk_at "mine w1"; walk_at "mine o1"
  refine ⟨_, rfl, ?_⟩
  by_cases h5 : kd = ("decl" : Str)
  · refine ifP (by simpa using h5) ?_
    walk_at "mine w1"; walk_at "mine w1"
    exact ret_nil fun e he => hR _ _ _ _ (Le.refl _) (fd (by rw [hFD, h5]; rfl) e he)
  refine ifN (by simpa using h5) ?_
  walk_at "mine w1"
  exact cont (by rw [hFD]; simp [h4, h5])

theorem lf_ln {a : Nat → Addr} (F : Fns X a) : ∀ n, LF X a n ∧ LN X a n := by
  intro n
  induction n using Nat.strongRecOn with
  | ind n ih => exact ⟨lf_of F fun m hm => (ih m hm).2, ln_of F ih⟩
theorem fn_law_free {a : Nat → Addr} (F : Fns X a) {f : T} {N d : Nat} {mem : Mem} {K : PV → Mem → Prop} (hf : Func f) (hw : Wf f) (hwt : f.wt ≤ 700000) (hN : f.wt ≤ N) (hd : 12 + f.ht ≤ d)
    (k : ∀ e, mem e = none → K (.l e) (upd mem e ((freeOf (namesN N) f).map T.str))) : OP X d (fcall (a 21)) [.t f] mem K := (lf_ln F f.ht).1 hf hw (Nat.le_refl _) hwt hN hd k

end

section
set_option maxHeartbeats 8000000

/-! parts of nice trees are nice -/
theorem partE_nice {p : T} {o : List T} (hp : p.nice = true) (h : partE p = some o) : nices o = true := by
  unfold partE at h
  split at h
  · split at h <;> cases h
    · rfl
    · simp [nices]; exact hp
  · cases h
theorem partS_nice {p : T} {o : List T} (hp : p.nice = true) (h : partS p = some o) : nices o = true := by
  unfold partS at h
  split at h
  · cases h; simpa [T.nice] using hp
  · cases h
theorem entries_nice {sub : List T → Option (List T)} (hs : ∀ l o, nices l = true → sub l = some o → nices o = true) : ∀ {l : List T} {o : List T}, nices l = true → entries sub l = some o → nices o = true
  | [], o, _, h => by simp [entries] at h; subst h; rfl
  | t :: r, o, hn, h => by
    simp only [nices, Bool.and_eq_true] at hn
    rcases entries_cons h with ⟨rfl, h2⟩ | ⟨l, a, b, rfl, h1, h2, rfl⟩
    · exact entries_nice hs hn.2 h2
    · rw [nices_append, hs _ _ (by simpa [T.nice] using hn.1) h1, entries_nice hs hn.2 h2]; rfl
theorem partOf_nice {sub : List Nat → List T → Option (List T)} (hs : ∀ c l o, nices l = true → sub c l = some o → nices o = true) {c : Nat} {p : T} {o : List T} (hp : p.nice = true) (h : partOf sub c p = some o) : nices o = true := by
  unfold partOf at h
  split at h
  · cases h; rfl
  split at h
  · exact partE_nice hp h
  split at h
  · exact partS_nice hp h
  split at h
  · cases h
  split at h
  · exact entries_nice (hs _) (by simpa [T.nice] using hp) h
  · cases h
theorem partsBy_nice {sub : List Nat → List T → Option (List T)} (hs : ∀ c l o, nices l = true → sub c l = some o → nices o = true) : ∀ {cs : List Nat} {ps : List T} {o : List T}, nices ps = true → partsBy sub cs ps = some o → nices o = true
  | [], ps, o, _, h => by simp [partsBy] at h; subst h; rfl
  | c :: cs, ps, o, hn, h => by
    obtain ⟨p, q, o1, o2, rfl, h1, h2, rfl⟩ := partsBy_drop h
    simp only [nices, Bool.and_eq_true] at hn
    rw [nices_append, partOf_nice hs hn.1 h1, partsBy_nice hs hn.2 h2]; rfl
theorem parts_nice : ∀ {n : Nat} {cs : List Nat} {ps : List T} {o : List T}, nices ps = true → parts n cs ps = some o → nices o = true
  | 0, _, _, _, _, h => by cases h
  | n + 1, _, _, _, hn, h => partsBy_nice (fun _ _ _ hl h => parts_nice hl h) hn h
theorem kids_nice {t : T} {ks : List T} (hn : t.nice = true) (h : kids t = some ks) : nices ks = true := by
  cases t with
  | tup l =>
    cases l with
    | nil => cases h
    | cons hh ps =>
      simp only [kids] at h
      simp only [T.nice, nices, Bool.and_eq_true] at hn
      split at h
      · exact parts_nice hn.2 h
      · cases h
  | _ => cases h

variable {X : Cx} {d : Nat} {mem : Mem}

theorem filter_any {p : T → Bool} (l : List T) : (!(l.filter p).isEmpty) = l.any p := by
  induction l with
  | nil => rfl
  | cons x r ih =>
    rw [List.filter_cons, List.any_cons, ← ih]
    cases p x <;> simp

theorem fn_law_yields {a : Nat → Addr} (F : Fns X a) : ∀ (n : Nat) {t : T} {N d : Nat} {mem : Mem} {K : PV → Mem → Prop}, Wf t → t.ht ≤ n → t.wt ≤ 700000 → t.wt ≤ N → 10 + t.ht ≤ d →
    K (.t (.bool (yieldN N t))) mem → OP X d (fcall (a 22)) [.t t] mem K := by
  intro n
  induction n using Nat.strongRecOn with
  | ind n ih =>
  intro t N d mem K hw hh hwt hN hd k
  have B := F.B
  have hs0 := sizeLine_eq
  obtain ⟨d, rfl⟩ : ∃ e, d = e + 1 := ⟨d - 1, by omega⟩
  obtain ⟨ks, hkk, hin, _, hkc⟩ := hw.kids_eq
  have hst := yieldN_step (N := N) hw.kn hkk hN
  have hkw := kids_wt hkk
  have hkh := kids_ht hkk
  have hksl := wts_len ks
  obtain ⟨kd, r, rfl⟩ := hw.head
  rw [hst] at k
  have hFD : isFD (.tup (.str kd :: r)) = (kd == ("func" : Str) || kd == ("decl" : Str)) := rfl
  have hY : isY (.tup (.str kd :: r)) = (kd == ("yield" : Str) || kd == ("yieldfrom" : Str)) := rfl
  refine fn_enter (ns := ["node"]) (F.D 22 (by decide)) (by walk_at "mine binds_tac") (by walk_at "mine kinds_tac") (by decide) (by walk_at "mine plains_tac") (fun pm code doc L => ?_)
  walk_at "mine lit6"
  walk_at "mine w1"; walk_at "mine w1"; walk_at "mine w1"; walk_at "mine w1"; walk_at "mine w1"; walk_at "mine w1"
  refine op_sub_tup (t := .str kd) (by decide) rfl (by decide) ?_
  walk_at "mine w1"; walk_at "mine w1"; walk_at "mine w1"; walk_at "mine w1"; walk_at "mine w1"; walk_at "mine w1"
  try refine ⟨_, rfl, (show 2 ≤ sizeLine by decide), ?_⟩
  refine op_in_tup (xs := ["yield", "yieldfrom"]) ?_
  refine ⟨_, rfl, ?_⟩
  rw [any2, ← hY]
  cases hy : isY (.tup (.str kd :: r)) with
  | true =>
    rw [hy, Bool.true_or] at k
    refine ifP rfl ?_
    walk_at "mine w1"; walk_at "mine w1"; walk_at "mine w1"
    exact ⟨_, Le.refl _, k⟩
  | false =>
    rw [hy, Bool.false_or] at k
    refine ifN rfl ?_
    walk_at "mine w1"; walk_at "mine w1"; walk_at "mine w1"; walk_at "mine w1"; walk_at "mine w1"; walk_at "mine w1"; walk_at "mine w1"; walk_at "mine w1"
    refine op_sub_tup (t := .str kd) (by decide) rfl (by decide) ?_
    walk_at "mine w1"; walk_at "mine w1"; walk_at "mine w1"; walk_at "mine w1"; walk_at "mine w1"; walk_at "mine w1"
    try refine ⟨_, rfl, (show 2 ≤ sizeLine by decide), ?_⟩
    refine op_notin_tup (xs := ["func", "decl"]) ?_
    refine ⟨_, rfl, ?_⟩
    rw [any2, ← hFD]
    cases hfd : isFD (.tup (.str kd :: r)) with
    | true =>
      rw [hfd] at k
      refine ifN rfl ?_
      exact ⟨_, Le.refl _, k⟩
    | false =>
      rw [hfd] at k
      refine ifP rfl ?_
      walk_at "mine w1"; walk_at "mine w1"
      refine we_comp0 ?_
      refine we_call (F.D 19 (by decide)) ?_
      walk_at "mine w1"; walk_at "mine w1"; walk_at "mine w1"
      refine fn_law_inner F hin (by omega) (by omega) fun c hc => ?_
      refine ⟨ks, mem, Items.list upd_same hc (Le.upd hc), fun C => ?_⟩
      refine ci_inv (fun ts ρ m acc => ∃ done, ks = done ++ ts ∧ m = mem ∧ acc = done.filter (yieldN N)) ?_ ?_ _ _ _ _ ⟨[], rfl, rfl, rfl⟩
      · rintro t ts ρ m acc ⟨done, hus, rfl, rfl⟩
        have hmem : t ∈ ks := by rw [hus]; simp
        have h1 := hts_mem hmem
        have h2 := wts_mem hmem
        have h3 : done.length ≤ ks.length := by rw [hus]; simp
        have h4 := List.length_filter_le (yieldN N) done
        refine as_name (.inl rfl) ?_
        show WT _ _ _ _ _ _ _
        refine wt_bool ?_
        refine we_call (F.D 22 (by decide)) ?_
        walk_at "mine w1"; walk_at "mine w1"; walk_at "mine w1"
        refine ih (n - 1) (by omega) (hkc t hmem) (N := N) (by omega) (by omega) (by omega) (by omega) ?_
        refine ⟨_, rfl, ?_⟩
        cases hyt : yieldN N t with
        | true =>
          refine ifP rfl ?_
          show WE _ _ _ _ _ _ _
          walk_at "mine w1"
          exact ⟨t, _, rfl, by omega, Le.refl _, done ++ [t], by simp [hus], rfl, by simp [hyt]⟩
        | false =>
          refine ifN rfl ?_
          exact ⟨done ++ [t], by simp [hus], rfl, by simp [hyt]⟩
      · rintro ρ m acc ⟨done, hbd, rfl, rfl⟩
        rw [List.append_nil] at hbd
        subst hbd
        refine ⟨_, Le.refl _, fun e he => ?_⟩
        walk_at "mine w1"; walk_at "mine w1"
        refine ⟨[], rfl, by decide, fun e2 he2 => ?_⟩
        have hne : e2 ≠ e := by rintro rfl; rw [upd_same] at he2; cases he2
        refine op_ne_nil (by rw [upd_ne (Ne.symm hne), upd_same]) upd_same ?_
        refine ⟨m, (Le.upd he).trans (Le.upd he2), ?_⟩
        rw [filter_any]
        simpa using k

theorem fn_all_right {a : Nat → Addr} (F : Fns X a) : ∀ (n : Nat) {t : T} {d : Nat} {mem : Mem} {K : PV → Mem → Prop}, Wf t → t.nice = true → t.ht ≤ n → t.wt ≤ 100000 → 12 + t.ht ≤ d → d ≤ 700 →
    K (.t (.bool true)) mem → OP X d (fcall (a 23)) [.t t] mem K := by
  intro n
  induction n using Nat.strongRecOn with
  | ind n ih =>
  intro t d mem K hw hnice hh hwt hd hd7 k
  have B := F.B
  have hs0 := sizeLine_eq
  obtain ⟨d, rfl⟩ : ∃ e, d = e + 1 := ⟨d - 1, by omega⟩
  obtain ⟨ks, hkk, hin, _, hkc⟩ := hw.kids_eq
  have hkw := kids_wt hkk
  have hkh := kids_ht hkk
  have hksl := wts_len ks
  have hkn := kids_nice hnice hkk
  refine fn_enter (ns := ["node"]) (F.D 23 (by decide)) (by walk_at "mine binds_tac") (by walk_at "mine kinds_tac") (by decide) (by walk_at "mine plains_tac") (fun pm code doc L => ?_)
  walk_at "mine lit6"
  walk_at "mine w1"; walk_at "mine w1"; walk_at "mine w1"
  refine we_bcall B.rpr ?_
  walk_at "mine w1"
  refine we_call (F.D 6 (by decide)) ?_
  walk_at "mine w1"; walk_at "mine w1"; walk_at "mine w1"
  refine fn_children F (by omega) hkk (by omega) fun c1 hc1 => ?_
  walk_at "mine w1"
  refine op_repr upd_same hkn (by omega) (by omega) ?_
  refine we_bcall B.rpr ?_
  walk_at "mine w1"
  refine we_call (F.D 19 (by decide)) ?_
  walk_at "mine w1"; walk_at "mine w1"; walk_at "mine w1"
  refine fn_law_inner F hin (by omega) (by omega) fun c2 hc2 => ?_
  walk_at "mine w1"
  refine op_repr upd_same hkn (by omega) (by omega) ?_
  walk_at "mine o1"
  refine ⟨_, rfl, ?_⟩
  refine ifN (by simp) ?_
  walk_at "mine w1"; walk_at "mine w1"; walk_at "mine w1"; walk_at "mine w1"
  refine we_comp0 ?_
  refine we_call (F.D 19 (by decide)) ?_
  walk_at "mine w1"; walk_at "mine w1"; walk_at "mine w1"
  refine fn_law_inner F hin (by omega) (by omega) fun c3 hc3 => ?_
  refine ⟨ks, _, Items.list upd_same hc3 (Le.upd hc3), fun C => ?_⟩
  refine ci_inv (fun ts ρ m acc => ∃ done, ks = done ++ ts ∧ m = upd (upd mem c1 ks) c2 ks ∧ acc = []) ?_ ?_ _ _ _ _ ⟨[], rfl, rfl, rfl⟩
  · rintro t ts ρ m acc ⟨done, hus, rfl, rfl⟩
    have hmem : t ∈ ks := by rw [hus]; simp
    have h1 := hts_mem hmem
    have h2 := wts_mem hmem
    refine as_name (.inl rfl) ?_
    show WT _ _ _ _ _ _ _
    refine wt_not ?_
    refine wt_bool ?_
    refine we_call (F.D 23 (by decide)) ?_
    walk_at "mine w1"; walk_at "mine w1"; walk_at "mine w1"
    refine ih (n - 1) (by omega) (hkc t hmem) (nices_mem hkn hmem) (by omega) (by omega) (by omega) (by omega) ?_
    refine ⟨_, rfl, ?_⟩
    refine ifN rfl ?_
    exact ⟨done ++ [t], by simp [hus], rfl, rfl⟩
  · rintro ρ m acc ⟨done, hbd, rfl, rfl⟩
    refine ⟨_, Le.refl _, fun e he => ?_⟩
    walk_at "mine w1"; walk_at "mine w1"
    refine ⟨[], rfl, by decide, fun e2 he2 => ?_⟩
    have hne : e2 ≠ e := by rintro rfl; rw [upd_same] at he2; cases he2
    refine op_eq_nil (by rw [upd_ne (Ne.symm hne), upd_same]) upd_same ?_
    exact ⟨mem, ((Le.upd hc1).trans (Le.upd hc2)).trans ((Le.upd he).trans (Le.upd he2)), k⟩

theorem fn_func_right {a : Nat → Addr} (F : Fns X a) {nm e0 b1 b2 x : T} {ps : List T} {f : T} (hfe : f = .tup [.str "func", nm, .tup ps, e0, .tup [x], b1, b2]) (hp : ∀ p ∈ ps, Param p) (hw : Wf f) (hnice : f.nice = true) (hwt : f.wt ≤ 100000) {d : Nat} (hd : 14 + 2 * f.ht ≤ d) (hd7 : d ≤ 700) {K : PV → Mem → Prop}
    (k : K (.t (.bool true)) mem) : OP X d (fcall (a 24)) [.t f] mem K := by
  have B := F.B
  have hs0 := sizeLine_eq
  obtain ⟨d, rfl⟩ : ∃ e, d = e + 1 := ⟨d - 1, by omega⟩
  have hf : Func f := ⟨nm, ps, e0, [x], b1, b2, hfe, hp⟩
  have hx : Wf x := by rw [hfe] at hw; exact hw.func_body x (by simp)
  have hxh : x.ht + 2 ≤ f.ht := by
    have h1 : x.ht ≤ hts [x] := hts_mem List.mem_cons_self
    have h2 : T.ht (.tup [x]) ≤ hts [.str "func", nm, .tup ps, e0, .tup [x], b1, b2] := hts_mem (by simp)
    rw [hfe]
    show x.ht + 2 ≤ 1 + hts _
    have h3 : T.ht (.tup [x]) = 1 + hts [x] := rfl
    omega
  have hxw : x.wt + 2 ≤ f.wt := by rw [hfe]; simp only [T.wt, wts]; omega
  subst hfe
  refine fn_enter (ns := ["func"]) (F.D 24 (by decide)) (by walk_at "mine binds_tac") (by walk_at "mine kinds_tac") (by decide) (by walk_at "mine plains_tac") (fun pm code doc L => ?_)
  walk_at "mine lit6"
  walk_at "mine w1"; walk_at "mine w1"; walk_at "mine w1"
  refine we_call (F.D 9 (by decide)) ?_
  walk_at "mine w1"; walk_at "mine w1"; walk_at "mine w1"
  refine fn_free_names F hf hw (by omega) (Nat.le_refl _) (by omega) fun c1 hc1 => ?_
  refine we_call (F.D 21 (by decide)) ?_
  walk_at "mine w1"; walk_at "mine w1"; walk_at "mine w1"
  refine fn_law_free F hf hw (by omega) (Nat.le_refl _) (by omega) fun c2 hc2 => ?_
  have hne : c2 ≠ c1 := by rintro rfl; rw [upd_same] at hc2; cases hc2
  refine op_ne_strs (by rw [upd_ne (Ne.symm hne), upd_same]) upd_same ?_
  refine ⟨_, rfl, ?_⟩
  refine ifN (by simp) ?_
  walk_at "mine w1"; walk_at "mine w1"; walk_at "mine w1"; walk_at "mine w1"
  refine we_call (F.D 7 (by decide)) ?_
  walk_at "mine w1"; walk_at "mine w1"; walk_at "mine w1"; walk_at "mine w1"
  refine op_sub_tup (t := .tup [x]) (by decide) rfl (by decide) ?_
  walk_at "mine w1"
  refine fn_has_yield F (N := x.wt) (by omega) (fun y hy => by simp at hy; subst hy; exact hx.kn) (by simp only [wts]; omega) (by simp [wts]) ?_
  refine we_call (F.D 22 (by decide)) ?_
  walk_at "mine w1"; walk_at "mine w1"; walk_at "mine w1"; walk_at "mine w1"; walk_at "mine w1"
  refine op_sub_tup (t := .tup [x]) (by decide) rfl (by decide) ?_
  walk_at "mine w1"
  refine op_sub_tup (t := x) (by decide) rfl (by decide) ?_
  walk_at "mine w1"
  refine fn_law_yields F _ hx (Nat.le_refl _) (N := x.wt) (by omega) (Nat.le_refl _) (by omega) ?_
  walk_at "mine o1"
  refine ⟨_, rfl, ?_⟩
  refine ifN (by simp) ?_
  walk_at "mine w1"; walk_at "mine w1"; walk_at "mine w1"
  refine we_call (F.D 23 (by decide)) ?_
  walk_at "mine w1"; walk_at "mine w1"; walk_at "mine w1"
  refine fn_all_right F _ hw hnice (Nat.le_refl _) (by omega) (by omega) (by omega) ?_
  exact ⟨mem, (Le.upd hc1).trans (Le.upd hc2), k⟩

end

section
set_option maxHeartbeats 8000000
variable {X : Cx} {d : Nat} {mem : Mem}

/-- the script and the counter -/
structure Drw (mem : Mem) (sc at_ : Addr) (p : Nat) : Prop where
  ne : sc ≠ at_
  scr : ∃ ns : List Int, ns.length ≤ 63 ∧ mem sc = some (ns.map T.int)
  at_ : mem at_ = some [.int (p : Int)]

theorem bits_small {p : Nat} (hp : p ≤ 1000000) : Builtin.Int.intBits (p : Int) ≤ 64 := by
  exact intBits_cast_le (by rw [sizeLine_eq]; omega)

theorem fn_draw {a : Nat → Addr} (F : Fns X a) {sc at_ : Addr} {p : Nat} {m : Int} (D : Drw mem sc at_ p) (hp : p ≤ 1000000) (hm : 0 < m) {d : Nat} (hd : 1 ≤ d) {K : PV → Mem → Prop}
    (k : ∀ v, 0 ≤ v → v < m → K (.t (.int v)) (upd mem at_ [.int ((p + 1 : Nat) : Int)])) : OP X d (fcall (a 11)) [.l sc, .l at_, .t (.int m)] mem K := by
  have B := F.B
  have hs0 := sizeLine_eq
  obtain ⟨d, rfl⟩ : ∃ e, d = e + 1 := ⟨d - 1, by omega⟩
  obtain ⟨hne, ⟨ns, hns, hsc⟩, hat⟩ := D
  refine fn_enter (ns := ["script", "at", "many"]) (F.D 11 (by decide)) (by walk_at "mine binds_tac") (by walk_at "mine kinds_tac") (by decide) (by walk_at "mine plains_tac") (fun pm code doc L => ?_)
  walk_at "mine lit6"
  walk_at "mine w1"
  refine ws_assign ?_ (.inl rfl)
  walk_at "mine w1"; walk_at "mine w1"; walk_at "mine w1"
  refine op_sub_list (t := .int (p : Int)) hat (by decide) rfl (by decide) ⟨trivial, ?_⟩
  walk_at "mine w1"
  refine ws_setitem ?_
  walk_at "mine w1"; walk_at "mine w1"; walk_at "mine w1"; walk_at "mine o1"
  refine ⟨_, rfl, ?_⟩
  walk_at "mine w1"; walk_at "mine w1"
  refine ⟨at_, _, 0, rfl, hat, rfl, by decide, by simp, by decide, ?_⟩
  have e1 : ([T.int (p : Int)] : List T).set (0 : Int).toNat (T.int ((p : Int) + 1)) = [.int ((p + 1 : Nat) : Int)] := by simp
  rw [e1]
  have hsc2 : (upd mem at_ [T.int ((p + 1 : Nat) : Int)]) sc = some (ns.map T.int) := by rw [upd_ne hne]; exact hsc
  walk_at "mine w1"
  refine ws_assign ?_ (.inl rfl)
  walk_at "mine w1"; walk_at "mine w1"; walk_at "mine w1"
  refine we_bcall B.len ?_
  walk_at "mine w1"; walk_at "mine w1"; walk_at "mine w1"
  refine op_len_list hsc2 (by rw [List.length_map]; omega) ?_
  walk_at "mine o1"
  refine ⟨_, rfl, ?_⟩
  rw [List.length_map]
  by_cases hlt : p < ns.length
  · refine ifP (by simpa using hlt) ?_
    walk_at "mine w1"; walk_at "mine w1"; walk_at "mine w1"
    refine op_sub_list (t := .int ns[p]) hsc2 (by omega) (by simp [List.getElem?_eq_getElem hlt]) (by omega) ⟨trivial, ?_⟩
    walk_at "mine w1"; walk_at "mine w1"; walk_at "mine w1"; walk_at "mine w1"; walk_at "mine w1"
    refine op_mod_int (by omega) ?_
    exact ⟨_, Le.refl _, k _ (Int.fmod_nonneg_of_pos _ hm) (Int.fmod_lt_of_pos _ hm)⟩
  · refine ifN (by simpa using hlt) ?_
    walk_at "mine w1"; walk_at "mine w1"; walk_at "mine w1"; walk_at "mine w1"; walk_at "mine w1"
    refine op_mul_int ?_ ?_
    rotate_left
    walk_at "mine w1"; walk_at "mine w1"; walk_at "mine w1"; walk_at "mine w1"
    refine op_mul_int ?_ ?_
    rotate_left
    walk_at "mine w1"
    refine op_fdiv_int (by decide) ?_ ?_
    rotate_left
    walk_at "mine o1"
    walk_at "mine w1"; walk_at "mine w1"; walk_at "mine w1"; walk_at "mine w1"; walk_at "mine w1"
    refine op_fdiv_int (by decide) ?_ ?_
    rotate_left
    refine op_mul_int ?_ ?_
    rotate_left
    walk_at "mine o1"
    refine ⟨trivial, ?_⟩
    walk_at "mine w1"; walk_at "mine w1"; walk_at "mine w1"; walk_at "mine w1"; walk_at "mine w1"
    refine op_mod_int (by omega) ?_
    exact ⟨_, Le.refl _, k _ (Int.fmod_nonneg_of_pos _ hm) (Int.fmod_lt_of_pos _ hm)⟩
    · exact IntMulOk.of_left (bits_small hp)
    · exact IntMulOk.of_left (by decide)
    · rfl
    · rfl
    · exact IntMulOk.of_left (by decide)

end

section
set_option maxHeartbeats 8000000

/-- a node that stands among the law's kinds -/
noncomputable def Nd (t : T) : Prop := ∃ k r, t = .tup (.str k :: r) ∧ k ≠ ("name" : Str) ∧ k ≠ ("public" : Str) ∧ lawKinds.any (· == k) = true
theorem Nd.of {k : Str} {r : List T} (h : lawKinds.any (· == k) = true := by decide +kernel) (h1 : k ≠ ("name" : Str) := by decide) (h2 : k ≠ ("public" : Str) := by decide) : Nd (.tup (.str k :: r)) := ⟨k, r, rfl, h1, h2, h⟩
theorem Nd.partE {t : T} (h : Nd t) : Mine.partE t = some [t] := by
  obtain ⟨k, r, rfl, h1, _, _⟩ := h
  simp only [Mine.partE, if_neg h1]
theorem Nd.isNone {t : T} (h : Nd t) : t.isNone = false := by
  obtain ⟨k, r, rfl, _⟩ := h; rfl
theorem Nd.nodes {t : T} (h : Nd t) : lawNodes t = [t] := by
  obtain ⟨k, r, rfl, _, _, h3⟩ := h
  rw [lawNodes, show isKind (.str k) = true from h3, if_pos rfl]
theorem Nd.notKind {t : T} (h : Nd t) : isKind t = false := by
  obtain ⟨k, r, rfl, _⟩ := h; rfl
theorem Nd.optL {t : T} (h : Nd t) : Mine.optL t = [t] := by
  obtain ⟨k, r, rfl, _⟩ := h; rfl
theorem Nd.member {t : T} (h : Nd t) {k : Str} {r : List T} (hk : k = ("prop" : Str)) : member k (t :: r) = some false := by
  obtain ⟨k', l, rfl, _, h2, _⟩ := h
  subst hk
  have : isPublic (.str k') = false := by
    show (k' == ("public" : Str)) = false
    rw [beq_eq_false_iff_ne]; exact h2
  unfold Mine.member
  rw [if_neg (by decide), if_pos (.inl rfl)]
  dsimp only
  rw [this, Bool.and_false]

theorem wf_mk {k : Str} {r ks : List T} (hk : kids (.tup (.str k :: r)) = some ks) (hi : lawInner (.tup (.str k :: r)) = some ks) (hs : ∀ x ∈ ks, Wf x) (h1 : k ≠ ("var" : Str) := by decide) (h2 : k ≠ ("closure" : Str) := by decide) (h3 : k ≠ ("arrow" : Str) := by decide) : Wf (.tup (.str k :: r)) :=
  .mk hk hi hs (fun h => absurd h h1) (fun h => absurd h h2) (fun h => absurd h h3)

theorem kids_by {k rule : Str} {r : List T} {ks : List T} (hl : ruleOf (.tup (.str k :: r)) = some rule) (h : parts 2 rule.cps.toList r = some ks) : kids (.tup (.str k :: r)) = some ks := by
  simp only [kids, hl, h]
theorem ruleOf_tab {k rule : Str} {r : List T} (hl : partRules.lookup k = some rule) (h1 : k ≠ ("if" : Str) := by decide) (h2 : k ≠ ("prop" : Str) := by decide) (h3 : k ≠ ("static" : Str) := by decide) (h4 : k ≠ ("const" : Str) := by decide) : ruleOf (.tup (.str k :: r)) = some rule := by
  simp only [ruleOf, if_neg h1, if_neg h2, if_neg h3, if_neg h4, hl]

theorem inner_by {k : Str} {r ks : List T} (hn : lawNodes (.tup r) = ks) (hm : member k r = some false) (h1 : k ≠ ("func" : Str) := by decide) (h2 : k ≠ ("param" : Str) := by decide) (h3 : k ≠ ("decl" : Str) := by decide) (h4 : ¬ (k = ("use" : Str) ∨ k = ("lit" : Str)) := by decide) : lawInner (.tup (.str k :: r)) = some ks := by
  simp only [lawInner, if_neg h1, if_neg h2, if_neg h3, hm, if_neg h4, hn]
theorem member_no {k : Str} {r : List T} (h1 : ¬ (k = ("method" : Str) ∨ k = ("case" : Str)) := by decide) (h2 : ¬ (k = ("prop" : Str) ∨ k = ("const" : Str)) := by decide) : member k r = some false := by
  unfold member; rw [if_neg h1, if_neg h2]

theorem partE_name {x : T} {r : List T} : partE (.tup (.str "name" :: r)) = some [] := by
  simp [partE]
theorem nodes_name {x : Str} : lawNodes (.tup [.str "name", .str x]) = [] := by
  rw [lawNodes, show isKind (.str "name") = false by decide +kernel, if_neg (by decide)]
  rfl
theorem isKind_none : isKind .none = false := rfl
theorem isKind_tup {l : List T} : isKind (.tup l) = false := rfl

/-- an expression within bounds -/
structure Ex (w h : Nat) (t : T) : Prop where
  wf : Wf t
  nd : Nd t
  nice : t.nice = true
  wt : t.wt ≤ w
  ht : t.ht ≤ h
theorem Ex.le {w h w' h' : Nat} {t : T} (x : Ex w h t) (hw : w ≤ w') (hh : h ≤ h') : Ex w' h' t := ⟨x.wf, x.nd, x.nice, Nat.le_trans x.wt hw, Nat.le_trans x.ht hh⟩

end

section
set_option maxHeartbeats 8000000
theorem inner_lit {r : List T} : lawInner (.tup (.str "lit" :: r)) = some [] := by
  simp only [lawInner, if_neg (show ("lit" : Str) ≠ ("func" : Str) by decide), if_neg (show ("lit" : Str) ≠ ("param" : Str) by decide), if_neg (show ("lit" : Str) ≠ ("decl" : Str) by decide)]
  rw [show member ("lit" : Str) r = some false from member_no]
  simp
theorem isKind_bool {b : Bool} : isKind (.bool b) = false := rfl
theorem isKind_int {i : Int} : isKind (.int i) = false := rfl
theorem zt_tup {l : List T} : T.wt (.tup l) = 1 + wts l := rfl
theorem zt_none : T.wt .none = 1 := rfl
theorem zt_bool {b : Bool} : T.wt (.bool b) = 1 := rfl
theorem zt_int {i : Int} : T.wt (.int i) = 1 := rfl
theorem ht_tup {l : List T} : T.ht (.tup l) = 1 + hts l := rfl
theorem ht_none : T.ht .none = 0 := rfl
theorem ht_bool {b : Bool} : T.ht (.bool b) = 0 := rfl
theorem ht_int {i : Int} : T.ht (.int i) = 0 := rfl
theorem ht_str {x : Str} : T.ht (.str x) = 0 := rfl
theorem nice_tup {l : List T} : T.nice (.tup l) = nices l := rfl
theorem nice_none : T.nice .none = true := rfl
theorem nice_bool {b : Bool} : T.nice (.bool b) = true := rfl
theorem nice_one : T.nice (.int 1) = true := rfl
theorem er_k : entryRule 107 = some "ee" := rfl
theorem er_a : entryRule 97 = some "e" := rfl
theorem er_m : entryRule 109 = some "se" := rfl
theorem cps_ee : ("ee" : Str).cps.toList = [101, 101] := rfl
theorem cps_e : ("e" : Str).cps.toList = [101] := rfl
theorem cps_se : ("se" : Str).cps.toList = [115, 101] := rfl
theorem parts_1 : parts 1 = partsBy (parts 0) := rfl
theorem none_isNone : T.isNone .none = true := rfl
theorem tup_isNone {l : List T} : T.isNone (.tup l) = false := rfl
theorem str_isNone {l : Str} : T.isNone (.str l) = false := rfl
theorem bool_isNone {l : Bool} : T.isNone (.bool l) = false := rfl
theorem int_isNone {l : Int} : T.isNone (.int l) = false := rfl
theorem partE_of {k : Str} {r : List T} (h : k ≠ ("name" : Str)) : partE (.tup (.str k :: r)) = some [.tup (.str k :: r)] := by simp only [partE, if_neg h]
theorem pe_name {r : List T} : partE (.tup (.str "name" :: r)) = some [] := by simp [partE]
theorem pe_lit {r : List T} : partE (.tup (.str "lit" :: r)) = some [.tup (.str "lit" :: r)] := partE_of (by decide)
theorem pe_dim {r : List T} : partE (.tup (.str "dim" :: r)) = some [.tup (.str "dim" :: r)] := partE_of (by decide)

theorem hts_nil_le {h : Nat} : hts [] ≤ h := Nat.zero_le h
theorem hts_cons_le {h : Nat} {x : T} {r : List T} (a : x.ht ≤ h) (b : hts r ≤ h) : hts (x :: r) ≤ h := Nat.max_le.mpr ⟨a, b⟩
theorem ht_tup_le {h : Nat} {l : List T} (a : hts l ≤ h) : T.ht (.tup l) ≤ h + 1 := by rw [ht_tup, Nat.add_comm]; exact Nat.succ_le_succ a
theorem ht_str_le {h : Nat} {x : Str} : T.ht (.str x) ≤ h := Nat.zero_le h
theorem ht_bool_le {h : Nat} {x : Bool} : T.ht (.bool x) ≤ h := Nat.zero_le h
theorem ht_int_le {h : Nat} {x : Int} : T.ht (.int x) ≤ h := Nat.zero_le h
theorem ht_none_le {h : Nat} : T.ht .none ≤ h := Nat.zero_le h
theorem nices_nil : nices [] = true := rfl
theorem nices_cons {t : T} {r : List T} (a : t.nice = true) (b : nices r = true) : nices (t :: r) = true := by unfold nices; rw [a, b]; rfl
theorem nice_tup_of {l : List T} (a : nices l = true) : T.nice (.tup l) = true := a
theorem wts_nil_le : wts [] ≤ 0 := Nat.le_refl 0
theorem wts_cons_le {m n : Nat} {t : T} {r : List T} (a : t.wt ≤ m) (b : wts r ≤ n) : wts (t :: r) ≤ m + n := Nat.add_le_add a b
theorem wt_tup_le {n : Nat} {l : List T} (a : wts l ≤ n) : T.wt (.tup l) ≤ 1 + n := Nat.add_le_add_left a 1
theorem wt_none_le : T.wt .none ≤ 1 := Nat.le_refl 1
theorem wt_bool_le {b : Bool} : T.wt (.bool b) ≤ 1 := Nat.le_refl 1
theorem wt_int_le {b : Int} : T.wt (.int b) ≤ 1 := Nat.le_refl 1
local macro_rules | `(tactic| walk_at "mine nctac") => `(tactic| (repeat' (first | assumption | exact nices_nil | exact nice_none | exact nice_bool | exact nice_one | refine nices_cons ?_ ?_ | refine nice_tup_of ?_)))
local macro_rules | `(tactic| walk_at "mine wttac") => `(tactic| ((refine' Nat.le_trans (wt_tup_le ?wa) ?wb; (case wa => repeat' (first | exact wts_nil_le | apply wts_cons_le | assumption | exact Nat.le_of_eq (by assumption) | exact wt_none_le | exact wt_bool_le | exact wt_int_le | apply wt_tup_le)); (case wb => omega))))
local macro_rules | `(tactic| walk_at "mine httac") => `(tactic| (repeat' (first | exact hts_nil_le | exact ht_str_le | exact ht_bool_le | exact ht_none_le | exact ht_int_le | refine hts_cons_le ?_ ?_ | refine ht_tup_le ?_ | exact Nat.le_add_right_of_le (by assumption))))

theorem ex_lits {w h : Nat}   : Ex (4 * w + 60) (h + 4) (T.tup [(T.str (Str.ofString "lit")), (T.str (Str.ofString "var"))]) := by
  have k0 : isKind (.str (Str.ofString "var")) = true := by decide +kernel
  have s0 : T.wt (.str (Str.ofString "lit")) = 4 := by decide
  have n0 : T.nice (.str (Str.ofString "lit")) = true := by decide
  have s1 : T.wt (.str (Str.ofString "var")) = 4 := by decide
  have n1 : T.nice (.str (Str.ofString "var")) = true := by decide
  refine ⟨wf_mk (ks := []) (kids_by (rule := "-") (ruleOf_tab (by decide +kernel)) ?_) inner_lit ?_, Nd.of, ?_, ?_, ?_⟩
  · show partsBy (parts 1) [45] [(T.str (Str.ofString "var"))] = _
    simp [partsBy, partOf, entries, er_k, er_a, er_m, cps_ee, cps_e, cps_se, parts_1, partS, pe_name, pe_lit, pe_dim, none_isNone, tup_isNone, str_isNone, bool_isNone, int_isNone, ]
  · intro x hx
    exact absurd hx List.not_mem_nil
  · walk_at "mine nctac"
  · walk_at "mine wttac"
  · walk_at "mine httac"

theorem ex_litn {w h : Nat}   : Ex (4 * w + 60) (h + 4) (T.tup [(T.str (Str.ofString "lit")), T.none]) := by
  have s0 : T.wt (.str (Str.ofString "lit")) = 4 := by decide
  have n0 : T.nice (.str (Str.ofString "lit")) = true := by decide
  refine ⟨wf_mk (ks := []) (kids_by (rule := "-") (ruleOf_tab (by decide +kernel)) ?_) inner_lit ?_, Nd.of, ?_, ?_, ?_⟩
  · show partsBy (parts 1) [45] [T.none] = _
    simp [partsBy, partOf, entries, er_k, er_a, er_m, cps_ee, cps_e, cps_se, parts_1, partS, pe_name, pe_lit, pe_dim, none_isNone, tup_isNone, str_isNone, bool_isNone, int_isNone, ]
  · intro x hx
    exact absurd hx List.not_mem_nil
  · walk_at "mine nctac"
  · walk_at "mine wttac"
  · walk_at "mine httac"

theorem ex_liti {w h : Nat}   : Ex (4 * w + 60) (h + 4) (T.tup [(T.str (Str.ofString "lit")), (T.int 1)]) := by
  have s0 : T.wt (.str (Str.ofString "lit")) = 4 := by decide
  have n0 : T.nice (.str (Str.ofString "lit")) = true := by decide
  refine ⟨wf_mk (ks := []) (kids_by (rule := "-") (ruleOf_tab (by decide +kernel)) ?_) inner_lit ?_, Nd.of, ?_, ?_, ?_⟩
  · show partsBy (parts 1) [45] [(T.int 1)] = _
    simp [partsBy, partOf, entries, er_k, er_a, er_m, cps_ee, cps_e, cps_se, parts_1, partS, pe_name, pe_lit, pe_dim, none_isNone, tup_isNone, str_isNone, bool_isNone, int_isNone, ]
  · intro x hx
    exact absurd hx List.not_mem_nil
  · walk_at "mine nctac"
  · walk_at "mine wttac"
  · walk_at "mine httac"

theorem ex_litm {w h : Nat}   : Ex (4 * w + 60) (h + 4) (T.tup [(T.str (Str.ofString "lit")), (T.str (Str.ofString "m"))]) := by
  have k0 : isKind (.str (Str.ofString "m")) = false := by decide +kernel
  have s0 : T.wt (.str (Str.ofString "lit")) = 4 := by decide
  have n0 : T.nice (.str (Str.ofString "lit")) = true := by decide
  have s1 : T.wt (.str (Str.ofString "m")) = 2 := by decide
  have n1 : T.nice (.str (Str.ofString "m")) = true := by decide
  refine ⟨wf_mk (ks := []) (kids_by (rule := "-") (ruleOf_tab (by decide +kernel)) ?_) inner_lit ?_, Nd.of, ?_, ?_, ?_⟩
  · show partsBy (parts 1) [45] [(T.str (Str.ofString "m"))] = _
    simp [partsBy, partOf, entries, er_k, er_a, er_m, cps_ee, cps_e, cps_se, parts_1, partS, pe_name, pe_lit, pe_dim, none_isNone, tup_isNone, str_isNone, bool_isNone, int_isNone, ]
  · intro x hx
    exact absurd hx List.not_mem_nil
  · walk_at "mine nctac"
  · walk_at "mine wttac"
  · walk_at "mine httac"

theorem ex_bin {w h : Nat} {a : T} (ha : Ex w h a) {b : T} (hb : Ex w h b)  : Ex (4 * w + 60) (h + 4) (T.tup [(T.str (Str.ofString "bin")), (T.str (Str.ofString ".")), a, b]) := by
  have k0 : isKind (.str (Str.ofString ".")) = false := by decide +kernel
  have s0 : T.wt (.str (Str.ofString "bin")) = 4 := by decide
  have n0 : T.nice (.str (Str.ofString "bin")) = true := by decide
  have s1 : T.wt (.str (Str.ofString ".")) = 2 := by decide
  have n1 : T.nice (.str (Str.ofString ".")) = true := by decide
  have wa := ha.wt
  have ta := ha.ht
  have wb := hb.wt
  have tb := hb.ht
  refine ⟨wf_mk (ks := [a, b]) (kids_by (rule := "-ee") (ruleOf_tab (by decide +kernel)) ?_) (inner_by ?_ member_no) ?_, Nd.of, ?_, ?_, ?_⟩
  · show partsBy (parts 1) [45, 101, 101] [(T.str (Str.ofString ".")), a, b] = _
    simp [partsBy, partOf, entries, er_k, er_a, er_m, cps_ee, cps_e, cps_se, parts_1, partS, pe_name, pe_lit, pe_dim, none_isNone, tup_isNone, str_isNone, bool_isNone, int_isNone, ha.nd.partE, ha.nd.isNone, ha.nd.nodes, ha.nd.notKind, ha.nd.optL, hb.nd.partE, hb.nd.isNone, hb.nd.nodes, hb.nd.notKind, hb.nd.optL]
  · simp [lawNodes, lawNodesL, isKind_none, isKind_tup, isKind_bool, isKind_int, k0, ha.nd.partE, ha.nd.isNone, ha.nd.nodes, ha.nd.notKind, ha.nd.optL, hb.nd.partE, hb.nd.isNone, hb.nd.nodes, hb.nd.notKind, hb.nd.optL]
  · intro x hx; simp only [List.mem_cons, List.not_mem_nil, or_false] at hx
    rcases hx with rfl | rfl
    · exact ha.wf
    · exact hb.wf
  · have nha := ha.nice; have nhb := hb.nice; walk_at "mine nctac"
  · walk_at "mine wttac"
  · walk_at "mine httac"

theorem ex_binp {w h : Nat} {a : T} (ha : Ex w h a) {b : T} (hb : Ex w h b)  : Ex (4 * w + 60) (h + 4) (T.tup [(T.str (Str.ofString "bin")), (T.str (Str.ofString "+")), a, b]) := by
  have k0 : isKind (.str (Str.ofString "+")) = false := by decide +kernel
  have s0 : T.wt (.str (Str.ofString "bin")) = 4 := by decide
  have n0 : T.nice (.str (Str.ofString "bin")) = true := by decide
  have s1 : T.wt (.str (Str.ofString "+")) = 2 := by decide
  have n1 : T.nice (.str (Str.ofString "+")) = true := by decide
  have wa := ha.wt
  have ta := ha.ht
  have wb := hb.wt
  have tb := hb.ht
  refine ⟨wf_mk (ks := [a, b]) (kids_by (rule := "-ee") (ruleOf_tab (by decide +kernel)) ?_) (inner_by ?_ member_no) ?_, Nd.of, ?_, ?_, ?_⟩
  · show partsBy (parts 1) [45, 101, 101] [(T.str (Str.ofString "+")), a, b] = _
    simp [partsBy, partOf, entries, er_k, er_a, er_m, cps_ee, cps_e, cps_se, parts_1, partS, pe_name, pe_lit, pe_dim, none_isNone, tup_isNone, str_isNone, bool_isNone, int_isNone, ha.nd.partE, ha.nd.isNone, ha.nd.nodes, ha.nd.notKind, ha.nd.optL, hb.nd.partE, hb.nd.isNone, hb.nd.nodes, hb.nd.notKind, hb.nd.optL]
  · simp [lawNodes, lawNodesL, isKind_none, isKind_tup, isKind_bool, isKind_int, k0, ha.nd.partE, ha.nd.isNone, ha.nd.nodes, ha.nd.notKind, ha.nd.optL, hb.nd.partE, hb.nd.isNone, hb.nd.nodes, hb.nd.notKind, hb.nd.optL]
  · intro x hx; simp only [List.mem_cons, List.not_mem_nil, or_false] at hx
    rcases hx with rfl | rfl
    · exact ha.wf
    · exact hb.wf
  · have nha := ha.nice; have nhb := hb.nice; walk_at "mine nctac"
  · walk_at "mine wttac"
  · walk_at "mine httac"

theorem ex_and {w h : Nat} {a : T} (ha : Ex w h a) {b : T} (hb : Ex w h b)  : Ex (4 * w + 60) (h + 4) (T.tup [(T.str (Str.ofString "and")), a, b]) := by
  have s0 : T.wt (.str (Str.ofString "and")) = 4 := by decide
  have n0 : T.nice (.str (Str.ofString "and")) = true := by decide
  have wa := ha.wt
  have ta := ha.ht
  have wb := hb.wt
  have tb := hb.ht
  refine ⟨wf_mk (ks := [a, b]) (kids_by (rule := "ee") (ruleOf_tab (by decide +kernel)) ?_) (inner_by ?_ member_no) ?_, Nd.of, ?_, ?_, ?_⟩
  · show partsBy (parts 1) [101, 101] [a, b] = _
    simp [partsBy, partOf, entries, er_k, er_a, er_m, cps_ee, cps_e, cps_se, parts_1, partS, pe_name, pe_lit, pe_dim, none_isNone, tup_isNone, str_isNone, bool_isNone, int_isNone, ha.nd.partE, ha.nd.isNone, ha.nd.nodes, ha.nd.notKind, ha.nd.optL, hb.nd.partE, hb.nd.isNone, hb.nd.nodes, hb.nd.notKind, hb.nd.optL]
  · simp [lawNodes, lawNodesL, isKind_none, isKind_tup, isKind_bool, isKind_int, ha.nd.partE, ha.nd.isNone, ha.nd.nodes, ha.nd.notKind, ha.nd.optL, hb.nd.partE, hb.nd.isNone, hb.nd.nodes, hb.nd.notKind, hb.nd.optL]
  · intro x hx; simp only [List.mem_cons, List.not_mem_nil, or_false] at hx
    rcases hx with rfl | rfl
    · exact ha.wf
    · exact hb.wf
  · have nha := ha.nice; have nhb := hb.nice; walk_at "mine nctac"
  · walk_at "mine wttac"
  · walk_at "mine httac"

theorem ex_or {w h : Nat} {a : T} (ha : Ex w h a) {b : T} (hb : Ex w h b)  : Ex (4 * w + 60) (h + 4) (T.tup [(T.str (Str.ofString "or")), b, a]) := by
  have s0 : T.wt (.str (Str.ofString "or")) = 3 := by decide
  have n0 : T.nice (.str (Str.ofString "or")) = true := by decide
  have wa := ha.wt
  have ta := ha.ht
  have wb := hb.wt
  have tb := hb.ht
  refine ⟨wf_mk (ks := [b, a]) (kids_by (rule := "ee") (ruleOf_tab (by decide +kernel)) ?_) (inner_by ?_ member_no) ?_, Nd.of, ?_, ?_, ?_⟩
  · show partsBy (parts 1) [101, 101] [b, a] = _
    simp [partsBy, partOf, entries, er_k, er_a, er_m, cps_ee, cps_e, cps_se, parts_1, partS, pe_name, pe_lit, pe_dim, none_isNone, tup_isNone, str_isNone, bool_isNone, int_isNone, ha.nd.partE, ha.nd.isNone, ha.nd.nodes, ha.nd.notKind, ha.nd.optL, hb.nd.partE, hb.nd.isNone, hb.nd.nodes, hb.nd.notKind, hb.nd.optL]
  · simp [lawNodes, lawNodesL, isKind_none, isKind_tup, isKind_bool, isKind_int, ha.nd.partE, ha.nd.isNone, ha.nd.nodes, ha.nd.notKind, ha.nd.optL, hb.nd.partE, hb.nd.isNone, hb.nd.nodes, hb.nd.notKind, hb.nd.optL]
  · intro x hx; simp only [List.mem_cons, List.not_mem_nil, or_false] at hx
    rcases hx with rfl | rfl
    · exact hb.wf
    · exact ha.wf
  · have nha := ha.nice; have nhb := hb.nice; walk_at "mine nctac"
  · walk_at "mine wttac"
  · walk_at "mine httac"

theorem ex_coalesce {w h : Nat} {a : T} (ha : Ex w h a) {b : T} (hb : Ex w h b)  : Ex (4 * w + 60) (h + 4) (T.tup [(T.str (Str.ofString "coalesce")), a, b]) := by
  have s0 : T.wt (.str (Str.ofString "coalesce")) = 9 := by decide
  have n0 : T.nice (.str (Str.ofString "coalesce")) = true := by decide
  have wa := ha.wt
  have ta := ha.ht
  have wb := hb.wt
  have tb := hb.ht
  refine ⟨wf_mk (ks := [a, b]) (kids_by (rule := "ee") (ruleOf_tab (by decide +kernel)) ?_) (inner_by ?_ member_no) ?_, Nd.of, ?_, ?_, ?_⟩
  · show partsBy (parts 1) [101, 101] [a, b] = _
    simp [partsBy, partOf, entries, er_k, er_a, er_m, cps_ee, cps_e, cps_se, parts_1, partS, pe_name, pe_lit, pe_dim, none_isNone, tup_isNone, str_isNone, bool_isNone, int_isNone, ha.nd.partE, ha.nd.isNone, ha.nd.nodes, ha.nd.notKind, ha.nd.optL, hb.nd.partE, hb.nd.isNone, hb.nd.nodes, hb.nd.notKind, hb.nd.optL]
  · simp [lawNodes, lawNodesL, isKind_none, isKind_tup, isKind_bool, isKind_int, ha.nd.partE, ha.nd.isNone, ha.nd.nodes, ha.nd.notKind, ha.nd.optL, hb.nd.partE, hb.nd.isNone, hb.nd.nodes, hb.nd.notKind, hb.nd.optL]
  · intro x hx; simp only [List.mem_cons, List.not_mem_nil, or_false] at hx
    rcases hx with rfl | rfl
    · exact ha.wf
    · exact hb.wf
  · have nha := ha.nice; have nhb := hb.nice; walk_at "mine nctac"
  · walk_at "mine wttac"
  · walk_at "mine httac"

theorem ex_ifn {w h : Nat} {a : T} (ha : Ex w h a) {b : T} (hb : Ex w h b)  : Ex (4 * w + 60) (h + 4) (T.tup [(T.str (Str.ofString "if")), a, T.none, b]) := by
  have s0 : T.wt (.str (Str.ofString "if")) = 3 := by decide
  have n0 : T.nice (.str (Str.ofString "if")) = true := by decide
  have wa := ha.wt
  have ta := ha.ht
  have wb := hb.wt
  have tb := hb.ht
  refine ⟨wf_mk (ks := [a, b]) (kids_by (rule := "eee") rfl ?_) (inner_by ?_ member_no) ?_, Nd.of, ?_, ?_, ?_⟩
  · show partsBy (parts 1) [101, 101, 101] [a, T.none, b] = _
    simp [partsBy, partOf, entries, er_k, er_a, er_m, cps_ee, cps_e, cps_se, parts_1, partS, pe_name, pe_lit, pe_dim, none_isNone, tup_isNone, str_isNone, bool_isNone, int_isNone, ha.nd.partE, ha.nd.isNone, ha.nd.nodes, ha.nd.notKind, ha.nd.optL, hb.nd.partE, hb.nd.isNone, hb.nd.nodes, hb.nd.notKind, hb.nd.optL]
  · simp [lawNodes, lawNodesL, isKind_none, isKind_tup, isKind_bool, isKind_int, ha.nd.partE, ha.nd.isNone, ha.nd.nodes, ha.nd.notKind, ha.nd.optL, hb.nd.partE, hb.nd.isNone, hb.nd.nodes, hb.nd.notKind, hb.nd.optL]
  · intro x hx; simp only [List.mem_cons, List.not_mem_nil, or_false] at hx
    rcases hx with rfl | rfl
    · exact ha.wf
    · exact hb.wf
  · have nha := ha.nice; have nhb := hb.nice; walk_at "mine nctac"
  · walk_at "mine wttac"
  · walk_at "mine httac"

theorem ex_if {w h : Nat} {a : T} (ha : Ex w h a) {b : T} (hb : Ex w h b)  : Ex (4 * w + 60) (h + 4) (T.tup [(T.str (Str.ofString "if")), a, b, a]) := by
  have s0 : T.wt (.str (Str.ofString "if")) = 3 := by decide
  have n0 : T.nice (.str (Str.ofString "if")) = true := by decide
  have wa := ha.wt
  have ta := ha.ht
  have wb := hb.wt
  have tb := hb.ht
  refine ⟨wf_mk (ks := [a, b, a]) (kids_by (rule := "eee") rfl ?_) (inner_by ?_ member_no) ?_, Nd.of, ?_, ?_, ?_⟩
  · show partsBy (parts 1) [101, 101, 101] [a, b, a] = _
    simp [partsBy, partOf, entries, er_k, er_a, er_m, cps_ee, cps_e, cps_se, parts_1, partS, pe_name, pe_lit, pe_dim, none_isNone, tup_isNone, str_isNone, bool_isNone, int_isNone, ha.nd.partE, ha.nd.isNone, ha.nd.nodes, ha.nd.notKind, ha.nd.optL, hb.nd.partE, hb.nd.isNone, hb.nd.nodes, hb.nd.notKind, hb.nd.optL]
  · simp [lawNodes, lawNodesL, isKind_none, isKind_tup, isKind_bool, isKind_int, ha.nd.partE, ha.nd.isNone, ha.nd.nodes, ha.nd.notKind, ha.nd.optL, hb.nd.partE, hb.nd.isNone, hb.nd.nodes, hb.nd.notKind, hb.nd.optL]
  · intro x hx; simp only [List.mem_cons, List.not_mem_nil, or_false] at hx
    rcases hx with rfl | rfl | rfl
    · exact ha.wf
    · exact hb.wf
    · exact ha.wf
  · have nha := ha.nice; have nhb := hb.nice; walk_at "mine nctac"
  · walk_at "mine wttac"
  · walk_at "mine httac"

theorem ex_dim {w h : Nat} {a : T} (ha : Ex w h a) {b : T} (hb : Ex w h b)  : Ex (4 * w + 60) (h + 4) (T.tup [(T.str (Str.ofString "dim")), a, b]) := by
  have s0 : T.wt (.str (Str.ofString "dim")) = 4 := by decide
  have n0 : T.nice (.str (Str.ofString "dim")) = true := by decide
  have wa := ha.wt
  have ta := ha.ht
  have wb := hb.wt
  have tb := hb.ht
  refine ⟨wf_mk (ks := [a, b]) (kids_by (rule := "ee") (ruleOf_tab (by decide +kernel)) ?_) (inner_by ?_ member_no) ?_, Nd.of, ?_, ?_, ?_⟩
  · show partsBy (parts 1) [101, 101] [a, b] = _
    simp [partsBy, partOf, entries, er_k, er_a, er_m, cps_ee, cps_e, cps_se, parts_1, partS, pe_name, pe_lit, pe_dim, none_isNone, tup_isNone, str_isNone, bool_isNone, int_isNone, ha.nd.partE, ha.nd.isNone, ha.nd.nodes, ha.nd.notKind, ha.nd.optL, hb.nd.partE, hb.nd.isNone, hb.nd.nodes, hb.nd.notKind, hb.nd.optL]
  · simp [lawNodes, lawNodesL, isKind_none, isKind_tup, isKind_bool, isKind_int, ha.nd.partE, ha.nd.isNone, ha.nd.nodes, ha.nd.notKind, ha.nd.optL, hb.nd.partE, hb.nd.isNone, hb.nd.nodes, hb.nd.notKind, hb.nd.optL]
  · intro x hx; simp only [List.mem_cons, List.not_mem_nil, or_false] at hx
    rcases hx with rfl | rfl
    · exact ha.wf
    · exact hb.wf
  · have nha := ha.nice; have nhb := hb.nice; walk_at "mine nctac"
  · walk_at "mine wttac"
  · walk_at "mine httac"

theorem ex_dimn {w h : Nat} {a : T} (ha : Ex w h a)  : Ex (4 * w + 60) (h + 4) (T.tup [(T.str (Str.ofString "dim")), a, T.none]) := by
  have s0 : T.wt (.str (Str.ofString "dim")) = 4 := by decide
  have n0 : T.nice (.str (Str.ofString "dim")) = true := by decide
  have wa := ha.wt
  have ta := ha.ht
  refine ⟨wf_mk (ks := [a]) (kids_by (rule := "ee") (ruleOf_tab (by decide +kernel)) ?_) (inner_by ?_ member_no) ?_, Nd.of, ?_, ?_, ?_⟩
  · show partsBy (parts 1) [101, 101] [a, T.none] = _
    simp [partsBy, partOf, entries, er_k, er_a, er_m, cps_ee, cps_e, cps_se, parts_1, partS, pe_name, pe_lit, pe_dim, none_isNone, tup_isNone, str_isNone, bool_isNone, int_isNone, ha.nd.partE, ha.nd.isNone, ha.nd.nodes, ha.nd.notKind, ha.nd.optL]
  · simp [lawNodes, lawNodesL, isKind_none, isKind_tup, isKind_bool, isKind_int, ha.nd.partE, ha.nd.isNone, ha.nd.nodes, ha.nd.notKind, ha.nd.optL]
  · intro x hx; simp only [List.mem_cons, List.not_mem_nil, or_false] at hx
    subst hx; exact ha.wf
  · have nha := ha.nice; walk_at "mine nctac"
  · walk_at "mine wttac"
  · walk_at "mine httac"

theorem ex_prop {w h : Nat} {a : T} (ha : Ex w h a) {b : T} (hb : Ex w h b)  : Ex (4 * w + 60) (h + 4) (T.tup [(T.str (Str.ofString "prop")), a, b, (T.bool true)]) := by
  have s0 : T.wt (.str (Str.ofString "prop")) = 5 := by decide
  have n0 : T.nice (.str (Str.ofString "prop")) = true := by decide
  have wa := ha.wt
  have ta := ha.ht
  have wb := hb.wt
  have tb := hb.ht
  refine ⟨wf_mk (ks := [a, b]) (kids_by (rule := "ee-") rfl ?_) (inner_by ?_ (ha.nd.member rfl)) ?_, Nd.of, ?_, ?_, ?_⟩
  · show partsBy (parts 1) [101, 101, 45] [a, b, (T.bool true)] = _
    simp [partsBy, partOf, entries, er_k, er_a, er_m, cps_ee, cps_e, cps_se, parts_1, partS, pe_name, pe_lit, pe_dim, none_isNone, tup_isNone, str_isNone, bool_isNone, int_isNone, ha.nd.partE, ha.nd.isNone, ha.nd.nodes, ha.nd.notKind, ha.nd.optL, hb.nd.partE, hb.nd.isNone, hb.nd.nodes, hb.nd.notKind, hb.nd.optL]
  · simp [lawNodes, lawNodesL, isKind_none, isKind_tup, isKind_bool, isKind_int, ha.nd.partE, ha.nd.isNone, ha.nd.nodes, ha.nd.notKind, ha.nd.optL, hb.nd.partE, hb.nd.isNone, hb.nd.nodes, hb.nd.notKind, hb.nd.optL]
  · intro x hx; simp only [List.mem_cons, List.not_mem_nil, or_false] at hx
    rcases hx with rfl | rfl
    · exact ha.wf
    · exact hb.wf
  · have nha := ha.nice; have nhb := hb.nice; walk_at "mine nctac"
  · walk_at "mine wttac"
  · walk_at "mine httac"

theorem ex_spropn {w h : Nat} {b : T} (hb : Ex w h b)  : Ex (4 * w + 60) (h + 4) (T.tup [(T.str (Str.ofString "sprop")), (T.tup [(T.str (Str.ofString "name")), (T.str (Str.ofString "A"))]), b]) := by
  have k0 : isKind (.str (Str.ofString "name")) = false := by decide +kernel
  have s0 : T.wt (.str (Str.ofString "sprop")) = 6 := by decide
  have n0 : T.nice (.str (Str.ofString "sprop")) = true := by decide
  have s1 : T.wt (.str (Str.ofString "name")) = 5 := by decide
  have n1 : T.nice (.str (Str.ofString "name")) = true := by decide
  have s2 : T.wt (.str (Str.ofString "A")) = 2 := by decide
  have n2 : T.nice (.str (Str.ofString "A")) = true := by decide
  have wb := hb.wt
  have tb := hb.ht
  refine ⟨wf_mk (ks := [b]) (kids_by (rule := "ee") (ruleOf_tab (by decide +kernel)) ?_) (inner_by ?_ member_no) ?_, Nd.of, ?_, ?_, ?_⟩
  · show partsBy (parts 1) [101, 101] [(T.tup [(T.str (Str.ofString "name")), (T.str (Str.ofString "A"))]), b] = _
    simp [partsBy, partOf, entries, er_k, er_a, er_m, cps_ee, cps_e, cps_se, parts_1, partS, pe_name, pe_lit, pe_dim, none_isNone, tup_isNone, str_isNone, bool_isNone, int_isNone, hb.nd.partE, hb.nd.isNone, hb.nd.nodes, hb.nd.notKind, hb.nd.optL]
  · simp [lawNodes, lawNodesL, isKind_none, isKind_tup, isKind_bool, isKind_int, k0, hb.nd.partE, hb.nd.isNone, hb.nd.nodes, hb.nd.notKind, hb.nd.optL]
  · intro x hx; simp only [List.mem_cons, List.not_mem_nil, or_false] at hx
    subst hx; exact hb.wf
  · have nhb := hb.nice; walk_at "mine nctac"
  · walk_at "mine wttac"
  · walk_at "mine httac"

theorem ex_sprop {w h : Nat} {a : T} (ha : Ex w h a) {b : T} (hb : Ex w h b)  : Ex (4 * w + 60) (h + 4) (T.tup [(T.str (Str.ofString "sprop")), a, b]) := by
  have s0 : T.wt (.str (Str.ofString "sprop")) = 6 := by decide
  have n0 : T.nice (.str (Str.ofString "sprop")) = true := by decide
  have wa := ha.wt
  have ta := ha.ht
  have wb := hb.wt
  have tb := hb.ht
  refine ⟨wf_mk (ks := [a, b]) (kids_by (rule := "ee") (ruleOf_tab (by decide +kernel)) ?_) (inner_by ?_ member_no) ?_, Nd.of, ?_, ?_, ?_⟩
  · show partsBy (parts 1) [101, 101] [a, b] = _
    simp [partsBy, partOf, entries, er_k, er_a, er_m, cps_ee, cps_e, cps_se, parts_1, partS, pe_name, pe_lit, pe_dim, none_isNone, tup_isNone, str_isNone, bool_isNone, int_isNone, ha.nd.partE, ha.nd.isNone, ha.nd.nodes, ha.nd.notKind, ha.nd.optL, hb.nd.partE, hb.nd.isNone, hb.nd.nodes, hb.nd.notKind, hb.nd.optL]
  · simp [lawNodes, lawNodesL, isKind_none, isKind_tup, isKind_bool, isKind_int, ha.nd.partE, ha.nd.isNone, ha.nd.nodes, ha.nd.notKind, ha.nd.optL, hb.nd.partE, hb.nd.isNone, hb.nd.nodes, hb.nd.notKind, hb.nd.optL]
  · intro x hx; simp only [List.mem_cons, List.not_mem_nil, or_false] at hx
    rcases hx with rfl | rfl
    · exact ha.wf
    · exact hb.wf
  · have nha := ha.nice; have nhb := hb.nice; walk_at "mine nctac"
  · walk_at "mine wttac"
  · walk_at "mine httac"

theorem ex_cconst {w h : Nat} {a : T} (ha : Ex w h a)  : Ex (4 * w + 60) (h + 4) (T.tup [(T.str (Str.ofString "cconst")), a, (T.str (Str.ofString "X"))]) := by
  have s0 : T.wt (.str (Str.ofString "cconst")) = 7 := by decide
  have n0 : T.nice (.str (Str.ofString "cconst")) = true := by decide
  have s1 : T.wt (.str (Str.ofString "X")) = 2 := by decide
  have n1 : T.nice (.str (Str.ofString "X")) = true := by decide
  have wa := ha.wt
  have ta := ha.ht
  refine ⟨wf_mk (ks := [a]) (kids_by (rule := "e-") (ruleOf_tab (by decide +kernel)) ?_) (inner_by ?_ member_no) ?_, Nd.of, ?_, ?_, ?_⟩
  · show partsBy (parts 1) [101, 45] [a, (T.str (Str.ofString "X"))] = _
    simp [partsBy, partOf, entries, er_k, er_a, er_m, cps_ee, cps_e, cps_se, parts_1, partS, pe_name, pe_lit, pe_dim, none_isNone, tup_isNone, str_isNone, bool_isNone, int_isNone, ha.nd.partE, ha.nd.isNone, ha.nd.nodes, ha.nd.notKind, ha.nd.optL]
  · simp [lawNodes, lawNodesL, isKind_none, isKind_tup, isKind_bool, isKind_int, ha.nd.partE, ha.nd.isNone, ha.nd.nodes, ha.nd.notKind, ha.nd.optL]
  · intro x hx; simp only [List.mem_cons, List.not_mem_nil, or_false] at hx
    subst hx; exact ha.wf
  · have nha := ha.nice; walk_at "mine nctac"
  · walk_at "mine wttac"
  · walk_at "mine httac"

theorem ex_assign {w h : Nat} {a : T} (ha : Ex w h a) {b : T} (hb : Ex w h b)  : Ex (4 * w + 60) (h + 4) (T.tup [(T.str (Str.ofString "assign")), a, b]) := by
  have s0 : T.wt (.str (Str.ofString "assign")) = 7 := by decide
  have n0 : T.nice (.str (Str.ofString "assign")) = true := by decide
  have wa := ha.wt
  have ta := ha.ht
  have wb := hb.wt
  have tb := hb.ht
  refine ⟨wf_mk (ks := [a, b]) (kids_by (rule := "ee") (ruleOf_tab (by decide +kernel)) ?_) (inner_by ?_ member_no) ?_, Nd.of, ?_, ?_, ?_⟩
  · show partsBy (parts 1) [101, 101] [a, b] = _
    simp [partsBy, partOf, entries, er_k, er_a, er_m, cps_ee, cps_e, cps_se, parts_1, partS, pe_name, pe_lit, pe_dim, none_isNone, tup_isNone, str_isNone, bool_isNone, int_isNone, ha.nd.partE, ha.nd.isNone, ha.nd.nodes, ha.nd.notKind, ha.nd.optL, hb.nd.partE, hb.nd.isNone, hb.nd.nodes, hb.nd.notKind, hb.nd.optL]
  · simp [lawNodes, lawNodesL, isKind_none, isKind_tup, isKind_bool, isKind_int, ha.nd.partE, ha.nd.isNone, ha.nd.nodes, ha.nd.notKind, ha.nd.optL, hb.nd.partE, hb.nd.isNone, hb.nd.nodes, hb.nd.notKind, hb.nd.optL]
  · intro x hx; simp only [List.mem_cons, List.not_mem_nil, or_false] at hx
    rcases hx with rfl | rfl
    · exact ha.wf
    · exact hb.wf
  · have nha := ha.nice; have nhb := hb.nice; walk_at "mine nctac"
  · walk_at "mine wttac"
  · walk_at "mine httac"

theorem ex_assignd {w h : Nat} {a : T} (ha : Ex w h a) {b : T} (hb : Ex w h b)  : Ex (4 * w + 60) (h + 4) (T.tup [(T.str (Str.ofString "assign")), (T.tup [(T.str (Str.ofString "dim")), b, a]), a]) := by
  have k0 : isKind (.str (Str.ofString "dim")) = true := by decide +kernel
  have s0 : T.wt (.str (Str.ofString "assign")) = 7 := by decide
  have n0 : T.nice (.str (Str.ofString "assign")) = true := by decide
  have s1 : T.wt (.str (Str.ofString "dim")) = 4 := by decide
  have n1 : T.nice (.str (Str.ofString "dim")) = true := by decide
  have wa := ha.wt
  have ta := ha.ht
  have wb := hb.wt
  have tb := hb.ht
  refine ⟨wf_mk (ks := [(T.tup [(T.str (Str.ofString "dim")), b, a]), a]) (kids_by (rule := "ee") (ruleOf_tab (by decide +kernel)) ?_) (inner_by ?_ member_no) ?_, Nd.of, ?_, ?_, ?_⟩
  · show partsBy (parts 1) [101, 101] [(T.tup [(T.str (Str.ofString "dim")), b, a]), a] = _
    simp [partsBy, partOf, entries, er_k, er_a, er_m, cps_ee, cps_e, cps_se, parts_1, partS, pe_name, pe_lit, pe_dim, none_isNone, tup_isNone, str_isNone, bool_isNone, int_isNone, ha.nd.partE, ha.nd.isNone, ha.nd.nodes, ha.nd.notKind, ha.nd.optL, hb.nd.partE, hb.nd.isNone, hb.nd.nodes, hb.nd.notKind, hb.nd.optL]
  · simp [lawNodes, lawNodesL, isKind_none, isKind_tup, isKind_bool, isKind_int, k0, ha.nd.partE, ha.nd.isNone, ha.nd.nodes, ha.nd.notKind, ha.nd.optL, hb.nd.partE, hb.nd.isNone, hb.nd.nodes, hb.nd.notKind, hb.nd.optL]
  · intro x hx; simp only [List.mem_cons, List.not_mem_nil, or_false] at hx
    rcases hx with rfl | rfl
    · exact (ex_dim hb ha).wf
    · exact ha.wf
  · have nha := ha.nice; have nhb := hb.nice; walk_at "mine nctac"
  · walk_at "mine wttac"
  · walk_at "mine httac"

theorem ex_assignop {w h : Nat} {a : T} (ha : Ex w h a) {b : T} (hb : Ex w h b)  : Ex (4 * w + 60) (h + 4) (T.tup [(T.str (Str.ofString "assignop")), (T.str (Str.ofString "+")), a, b]) := by
  have k0 : isKind (.str (Str.ofString "+")) = false := by decide +kernel
  have s0 : T.wt (.str (Str.ofString "assignop")) = 9 := by decide
  have n0 : T.nice (.str (Str.ofString "assignop")) = true := by decide
  have s1 : T.wt (.str (Str.ofString "+")) = 2 := by decide
  have n1 : T.nice (.str (Str.ofString "+")) = true := by decide
  have wa := ha.wt
  have ta := ha.ht
  have wb := hb.wt
  have tb := hb.ht
  refine ⟨wf_mk (ks := [a, b]) (kids_by (rule := "-ee") (ruleOf_tab (by decide +kernel)) ?_) (inner_by ?_ member_no) ?_, Nd.of, ?_, ?_, ?_⟩
  · show partsBy (parts 1) [45, 101, 101] [(T.str (Str.ofString "+")), a, b] = _
    simp [partsBy, partOf, entries, er_k, er_a, er_m, cps_ee, cps_e, cps_se, parts_1, partS, pe_name, pe_lit, pe_dim, none_isNone, tup_isNone, str_isNone, bool_isNone, int_isNone, ha.nd.partE, ha.nd.isNone, ha.nd.nodes, ha.nd.notKind, ha.nd.optL, hb.nd.partE, hb.nd.isNone, hb.nd.nodes, hb.nd.notKind, hb.nd.optL]
  · simp [lawNodes, lawNodesL, isKind_none, isKind_tup, isKind_bool, isKind_int, k0, ha.nd.partE, ha.nd.isNone, ha.nd.nodes, ha.nd.notKind, ha.nd.optL, hb.nd.partE, hb.nd.isNone, hb.nd.nodes, hb.nd.notKind, hb.nd.optL]
  · intro x hx; simp only [List.mem_cons, List.not_mem_nil, or_false] at hx
    rcases hx with rfl | rfl
    · exact ha.wf
    · exact hb.wf
  · have nha := ha.nice; have nhb := hb.nice; walk_at "mine nctac"
  · walk_at "mine wttac"
  · walk_at "mine httac"

theorem ex_assignref {w h : Nat} {a : T} (ha : Ex w h a) {b : T} (hb : Ex w h b)  : Ex (4 * w + 60) (h + 4) (T.tup [(T.str (Str.ofString "assignref")), a, b]) := by
  have s0 : T.wt (.str (Str.ofString "assignref")) = 10 := by decide
  have n0 : T.nice (.str (Str.ofString "assignref")) = true := by decide
  have wa := ha.wt
  have ta := ha.ht
  have wb := hb.wt
  have tb := hb.ht
  refine ⟨wf_mk (ks := [a, b]) (kids_by (rule := "ee") (ruleOf_tab (by decide +kernel)) ?_) (inner_by ?_ member_no) ?_, Nd.of, ?_, ?_, ?_⟩
  · show partsBy (parts 1) [101, 101] [a, b] = _
    simp [partsBy, partOf, entries, er_k, er_a, er_m, cps_ee, cps_e, cps_se, parts_1, partS, pe_name, pe_lit, pe_dim, none_isNone, tup_isNone, str_isNone, bool_isNone, int_isNone, ha.nd.partE, ha.nd.isNone, ha.nd.nodes, ha.nd.notKind, ha.nd.optL, hb.nd.partE, hb.nd.isNone, hb.nd.nodes, hb.nd.notKind, hb.nd.optL]
  · simp [lawNodes, lawNodesL, isKind_none, isKind_tup, isKind_bool, isKind_int, ha.nd.partE, ha.nd.isNone, ha.nd.nodes, ha.nd.notKind, ha.nd.optL, hb.nd.partE, hb.nd.isNone, hb.nd.nodes, hb.nd.notKind, hb.nd.optL]
  · intro x hx; simp only [List.mem_cons, List.not_mem_nil, or_false] at hx
    rcases hx with rfl | rfl
    · exact ha.wf
    · exact hb.wf
  · have nha := ha.nice; have nhb := hb.nice; walk_at "mine nctac"
  · walk_at "mine wttac"
  · walk_at "mine httac"

theorem ex_incdec {w h : Nat} {a : T} (ha : Ex w h a)  : Ex (4 * w + 60) (h + 4) (T.tup [(T.str (Str.ofString "incdec")), (T.str (Str.ofString "++")), (T.bool true), a]) := by
  have k0 : isKind (.str (Str.ofString "++")) = false := by decide +kernel
  have s0 : T.wt (.str (Str.ofString "incdec")) = 7 := by decide
  have n0 : T.nice (.str (Str.ofString "incdec")) = true := by decide
  have s1 : T.wt (.str (Str.ofString "++")) = 3 := by decide
  have n1 : T.nice (.str (Str.ofString "++")) = true := by decide
  have wa := ha.wt
  have ta := ha.ht
  refine ⟨wf_mk (ks := [a]) (kids_by (rule := "--e") (ruleOf_tab (by decide +kernel)) ?_) (inner_by ?_ member_no) ?_, Nd.of, ?_, ?_, ?_⟩
  · show partsBy (parts 1) [45, 45, 101] [(T.str (Str.ofString "++")), (T.bool true), a] = _
    simp [partsBy, partOf, entries, er_k, er_a, er_m, cps_ee, cps_e, cps_se, parts_1, partS, pe_name, pe_lit, pe_dim, none_isNone, tup_isNone, str_isNone, bool_isNone, int_isNone, ha.nd.partE, ha.nd.isNone, ha.nd.nodes, ha.nd.notKind, ha.nd.optL]
  · simp [lawNodes, lawNodesL, isKind_none, isKind_tup, isKind_bool, isKind_int, k0, ha.nd.partE, ha.nd.isNone, ha.nd.nodes, ha.nd.notKind, ha.nd.optL]
  · intro x hx; simp only [List.mem_cons, List.not_mem_nil, or_false] at hx
    subst hx; exact ha.wf
  · have nha := ha.nice; walk_at "mine nctac"
  · walk_at "mine wttac"
  · walk_at "mine httac"

theorem ex_match {w h : Nat} {a : T} (ha : Ex w h a) {b : T} (hb : Ex w h b)  : Ex (6 * w + 60) (h + 6) (T.tup [(T.str (Str.ofString "match")), a, (T.tup [(T.tup [(T.tup [a, b]), b]), (T.tup [T.none, a])])]) := by
  have s0 : T.wt (.str (Str.ofString "match")) = 6 := by decide
  have n0 : T.nice (.str (Str.ofString "match")) = true := by decide
  have wa := ha.wt
  have ta := ha.ht
  have wb := hb.wt
  have tb := hb.ht
  refine ⟨wf_mk (ks := [a, a, b, b, a]) (kids_by (rule := "em") (ruleOf_tab (by decide +kernel)) ?_) (inner_by ?_ member_no) ?_, Nd.of, ?_, ?_, ?_⟩
  · show partsBy (parts 1) [101, 109] [a, (T.tup [(T.tup [(T.tup [a, b]), b]), (T.tup [T.none, a])])] = _
    simp [partsBy, partOf, entries, er_k, er_a, er_m, cps_ee, cps_e, cps_se, parts_1, partS, pe_name, pe_lit, pe_dim, none_isNone, tup_isNone, str_isNone, bool_isNone, int_isNone, ha.nd.partE, ha.nd.isNone, ha.nd.nodes, ha.nd.notKind, ha.nd.optL, hb.nd.partE, hb.nd.isNone, hb.nd.nodes, hb.nd.notKind, hb.nd.optL]
  · simp [lawNodes, lawNodesL, isKind_none, isKind_tup, isKind_bool, isKind_int, ha.nd.partE, ha.nd.isNone, ha.nd.nodes, ha.nd.notKind, ha.nd.optL, hb.nd.partE, hb.nd.isNone, hb.nd.nodes, hb.nd.notKind, hb.nd.optL]
  · intro x hx; simp only [List.mem_cons, List.not_mem_nil, or_false] at hx
    rcases hx with rfl | rfl | rfl | rfl | rfl
    · exact ha.wf
    · exact ha.wf
    · exact hb.wf
    · exact hb.wf
    · exact ha.wf
  · have nha := ha.nice; have nhb := hb.nice; walk_at "mine nctac"
  · walk_at "mine wttac"
  · walk_at "mine httac"

theorem ex_array {w h : Nat} {a : T} (ha : Ex w h a) {b : T} (hb : Ex w h b)  : Ex (4 * w + 60) (h + 4) (T.tup [(T.str (Str.ofString "array")), (T.tup [(T.tup [a, b, (T.bool false), (T.bool false)]), (T.tup [T.none, a, (T.bool true), (T.bool false)])])]) := by
  have s0 : T.wt (.str (Str.ofString "array")) = 6 := by decide
  have n0 : T.nice (.str (Str.ofString "array")) = true := by decide
  have wa := ha.wt
  have ta := ha.ht
  have wb := hb.wt
  have tb := hb.ht
  refine ⟨wf_mk (ks := [a, b, a]) (kids_by (rule := "k") (ruleOf_tab (by decide +kernel)) ?_) (inner_by ?_ member_no) ?_, Nd.of, ?_, ?_, ?_⟩
  · show partsBy (parts 1) [107] [(T.tup [(T.tup [a, b, (T.bool false), (T.bool false)]), (T.tup [T.none, a, (T.bool true), (T.bool false)])])] = _
    simp [partsBy, partOf, entries, er_k, er_a, er_m, cps_ee, cps_e, cps_se, parts_1, partS, pe_name, pe_lit, pe_dim, none_isNone, tup_isNone, str_isNone, bool_isNone, int_isNone, ha.nd.partE, ha.nd.isNone, ha.nd.nodes, ha.nd.notKind, ha.nd.optL, hb.nd.partE, hb.nd.isNone, hb.nd.nodes, hb.nd.notKind, hb.nd.optL]
  · simp [lawNodes, lawNodesL, isKind_none, isKind_tup, isKind_bool, isKind_int, ha.nd.partE, ha.nd.isNone, ha.nd.nodes, ha.nd.notKind, ha.nd.optL, hb.nd.partE, hb.nd.isNone, hb.nd.nodes, hb.nd.notKind, hb.nd.optL]
  · intro x hx; simp only [List.mem_cons, List.not_mem_nil, or_false] at hx
    rcases hx with rfl | rfl | rfl
    · exact ha.wf
    · exact hb.wf
    · exact ha.wf
  · have nha := ha.nice; have nhb := hb.nice; walk_at "mine nctac"
  · walk_at "mine wttac"
  · walk_at "mine httac"

theorem ex_template {w h : Nat} {a : T} (ha : Ex w h a) {b : T} (hb : Ex w h b)  : Ex (4 * w + 60) (h + 4) (T.tup [(T.str (Str.ofString "template")), (T.tup [(T.tup [(T.str (Str.ofString "lit")), (T.str (Str.ofString "var"))]), a, b])]) := by
  have k0 : isKind (.str (Str.ofString "lit")) = true := by decide +kernel
  have s0 : T.wt (.str (Str.ofString "template")) = 9 := by decide
  have n0 : T.nice (.str (Str.ofString "template")) = true := by decide
  have s1 : T.wt (.str (Str.ofString "lit")) = 4 := by decide
  have n1 : T.nice (.str (Str.ofString "lit")) = true := by decide
  have s2 : T.wt (.str (Str.ofString "var")) = 4 := by decide
  have n2 : T.nice (.str (Str.ofString "var")) = true := by decide
  have wa := ha.wt
  have ta := ha.ht
  have wb := hb.wt
  have tb := hb.ht
  refine ⟨wf_mk (ks := [(T.tup [(T.str (Str.ofString "lit")), (T.str (Str.ofString "var"))]), a, b]) (kids_by (rule := "s") (ruleOf_tab (by decide +kernel)) ?_) (inner_by ?_ member_no) ?_, Nd.of, ?_, ?_, ?_⟩
  · show partsBy (parts 1) [115] [(T.tup [(T.tup [(T.str (Str.ofString "lit")), (T.str (Str.ofString "var"))]), a, b])] = _
    simp [partsBy, partOf, entries, er_k, er_a, er_m, cps_ee, cps_e, cps_se, parts_1, partS, pe_name, pe_lit, pe_dim, none_isNone, tup_isNone, str_isNone, bool_isNone, int_isNone, ha.nd.partE, ha.nd.isNone, ha.nd.nodes, ha.nd.notKind, ha.nd.optL, hb.nd.partE, hb.nd.isNone, hb.nd.nodes, hb.nd.notKind, hb.nd.optL]
  · simp [lawNodes, lawNodesL, isKind_none, isKind_tup, isKind_bool, isKind_int, k0, ha.nd.partE, ha.nd.isNone, ha.nd.nodes, ha.nd.notKind, ha.nd.optL, hb.nd.partE, hb.nd.isNone, hb.nd.nodes, hb.nd.notKind, hb.nd.optL]
  · intro x hx; simp only [List.mem_cons, List.not_mem_nil, or_false] at hx
    rcases hx with rfl | rfl | rfl
    · exact ex_lits (w := 0) (h := 0).wf
    · exact ha.wf
    · exact hb.wf
  · have nha := ha.nice; have nhb := hb.nice; walk_at "mine nctac"
  · walk_at "mine wttac"
  · walk_at "mine httac"

theorem ex_isset {w h : Nat} {a : T} (ha : Ex w h a) {b : T} (hb : Ex w h b)  : Ex (4 * w + 60) (h + 4) (T.tup [(T.str (Str.ofString "isset")), (T.tup [a, b])]) := by
  have s0 : T.wt (.str (Str.ofString "isset")) = 6 := by decide
  have n0 : T.nice (.str (Str.ofString "isset")) = true := by decide
  have wa := ha.wt
  have ta := ha.ht
  have wb := hb.wt
  have tb := hb.ht
  refine ⟨wf_mk (ks := [a, b]) (kids_by (rule := "s") (ruleOf_tab (by decide +kernel)) ?_) (inner_by ?_ member_no) ?_, Nd.of, ?_, ?_, ?_⟩
  · show partsBy (parts 1) [115] [(T.tup [a, b])] = _
    simp [partsBy, partOf, entries, er_k, er_a, er_m, cps_ee, cps_e, cps_se, parts_1, partS, pe_name, pe_lit, pe_dim, none_isNone, tup_isNone, str_isNone, bool_isNone, int_isNone, ha.nd.partE, ha.nd.isNone, ha.nd.nodes, ha.nd.notKind, ha.nd.optL, hb.nd.partE, hb.nd.isNone, hb.nd.nodes, hb.nd.notKind, hb.nd.optL]
  · simp [lawNodes, lawNodesL, isKind_none, isKind_tup, isKind_bool, isKind_int, ha.nd.partE, ha.nd.isNone, ha.nd.nodes, ha.nd.notKind, ha.nd.optL, hb.nd.partE, hb.nd.isNone, hb.nd.nodes, hb.nd.notKind, hb.nd.optL]
  · intro x hx; simp only [List.mem_cons, List.not_mem_nil, or_false] at hx
    rcases hx with rfl | rfl
    · exact ha.wf
    · exact hb.wf
  · have nha := ha.nice; have nhb := hb.nice; walk_at "mine nctac"
  · walk_at "mine wttac"
  · walk_at "mine httac"

theorem ex_instanceof {w h : Nat} {a : T} (ha : Ex w h a)  : Ex (4 * w + 60) (h + 4) (T.tup [(T.str (Str.ofString "instanceof")), a, (T.tup [(T.str (Str.ofString "name")), (T.str (Str.ofString "A"))])]) := by
  have k0 : isKind (.str (Str.ofString "name")) = false := by decide +kernel
  have s0 : T.wt (.str (Str.ofString "instanceof")) = 11 := by decide
  have n0 : T.nice (.str (Str.ofString "instanceof")) = true := by decide
  have s1 : T.wt (.str (Str.ofString "name")) = 5 := by decide
  have n1 : T.nice (.str (Str.ofString "name")) = true := by decide
  have s2 : T.wt (.str (Str.ofString "A")) = 2 := by decide
  have n2 : T.nice (.str (Str.ofString "A")) = true := by decide
  have wa := ha.wt
  have ta := ha.ht
  refine ⟨wf_mk (ks := [a]) (kids_by (rule := "ee") (ruleOf_tab (by decide +kernel)) ?_) (inner_by ?_ member_no) ?_, Nd.of, ?_, ?_, ?_⟩
  · show partsBy (parts 1) [101, 101] [a, (T.tup [(T.str (Str.ofString "name")), (T.str (Str.ofString "A"))])] = _
    simp [partsBy, partOf, entries, er_k, er_a, er_m, cps_ee, cps_e, cps_se, parts_1, partS, pe_name, pe_lit, pe_dim, none_isNone, tup_isNone, str_isNone, bool_isNone, int_isNone, ha.nd.partE, ha.nd.isNone, ha.nd.nodes, ha.nd.notKind, ha.nd.optL]
  · simp [lawNodes, lawNodesL, isKind_none, isKind_tup, isKind_bool, isKind_int, k0, ha.nd.partE, ha.nd.isNone, ha.nd.nodes, ha.nd.notKind, ha.nd.optL]
  · intro x hx; simp only [List.mem_cons, List.not_mem_nil, or_false] at hx
    subst hx; exact ha.wf
  · have nha := ha.nice; walk_at "mine nctac"
  · walk_at "mine wttac"
  · walk_at "mine httac"

theorem ex_varvar {w h : Nat} {a : T} (ha : Ex w h a)  : Ex (4 * w + 60) (h + 4) (T.tup [(T.str (Str.ofString "varvar")), a]) := by
  have s0 : T.wt (.str (Str.ofString "varvar")) = 7 := by decide
  have n0 : T.nice (.str (Str.ofString "varvar")) = true := by decide
  have wa := ha.wt
  have ta := ha.ht
  refine ⟨wf_mk (ks := [a]) (kids_by (rule := "e") (ruleOf_tab (by decide +kernel)) ?_) (inner_by ?_ member_no) ?_, Nd.of, ?_, ?_, ?_⟩
  · show partsBy (parts 1) [101] [a] = _
    simp [partsBy, partOf, entries, er_k, er_a, er_m, cps_ee, cps_e, cps_se, parts_1, partS, pe_name, pe_lit, pe_dim, none_isNone, tup_isNone, str_isNone, bool_isNone, int_isNone, ha.nd.partE, ha.nd.isNone, ha.nd.nodes, ha.nd.notKind, ha.nd.optL]
  · simp [lawNodes, lawNodesL, isKind_none, isKind_tup, isKind_bool, isKind_int, ha.nd.partE, ha.nd.isNone, ha.nd.nodes, ha.nd.notKind, ha.nd.optL]
  · intro x hx; simp only [List.mem_cons, List.not_mem_nil, or_false] at hx
    subst hx; exact ha.wf
  · have nha := ha.nice; walk_at "mine nctac"
  · walk_at "mine wttac"
  · walk_at "mine httac"

theorem ex_yield {w h : Nat} {a : T} (ha : Ex w h a)  : Ex (4 * w + 60) (h + 4) (T.tup [(T.str (Str.ofString "yield")), T.none, a]) := by
  have s0 : T.wt (.str (Str.ofString "yield")) = 6 := by decide
  have n0 : T.nice (.str (Str.ofString "yield")) = true := by decide
  have wa := ha.wt
  have ta := ha.ht
  refine ⟨wf_mk (ks := [a]) (kids_by (rule := "ee") (ruleOf_tab (by decide +kernel)) ?_) (inner_by ?_ member_no) ?_, Nd.of, ?_, ?_, ?_⟩
  · show partsBy (parts 1) [101, 101] [T.none, a] = _
    simp [partsBy, partOf, entries, er_k, er_a, er_m, cps_ee, cps_e, cps_se, parts_1, partS, pe_name, pe_lit, pe_dim, none_isNone, tup_isNone, str_isNone, bool_isNone, int_isNone, ha.nd.partE, ha.nd.isNone, ha.nd.nodes, ha.nd.notKind, ha.nd.optL]
  · simp [lawNodes, lawNodesL, isKind_none, isKind_tup, isKind_bool, isKind_int, ha.nd.partE, ha.nd.isNone, ha.nd.nodes, ha.nd.notKind, ha.nd.optL]
  · intro x hx; simp only [List.mem_cons, List.not_mem_nil, or_false] at hx
    subst hx; exact ha.wf
  · have nha := ha.nice; walk_at "mine nctac"
  · walk_at "mine wttac"
  · walk_at "mine httac"

theorem ex_yieldfrom {w h : Nat} {a : T} (ha : Ex w h a)  : Ex (4 * w + 60) (h + 4) (T.tup [(T.str (Str.ofString "yieldfrom")), a]) := by
  have s0 : T.wt (.str (Str.ofString "yieldfrom")) = 10 := by decide
  have n0 : T.nice (.str (Str.ofString "yieldfrom")) = true := by decide
  have wa := ha.wt
  have ta := ha.ht
  refine ⟨wf_mk (ks := [a]) (kids_by (rule := "e") (ruleOf_tab (by decide +kernel)) ?_) (inner_by ?_ member_no) ?_, Nd.of, ?_, ?_, ?_⟩
  · show partsBy (parts 1) [101] [a] = _
    simp [partsBy, partOf, entries, er_k, er_a, er_m, cps_ee, cps_e, cps_se, parts_1, partS, pe_name, pe_lit, pe_dim, none_isNone, tup_isNone, str_isNone, bool_isNone, int_isNone, ha.nd.partE, ha.nd.isNone, ha.nd.nodes, ha.nd.notKind, ha.nd.optL]
  · simp [lawNodes, lawNodesL, isKind_none, isKind_tup, isKind_bool, isKind_int, ha.nd.partE, ha.nd.isNone, ha.nd.nodes, ha.nd.notKind, ha.nd.optL]
  · intro x hx; simp only [List.mem_cons, List.not_mem_nil, or_false] at hx
    subst hx; exact ha.wf
  · have nha := ha.nice; walk_at "mine nctac"
  · walk_at "mine wttac"
  · walk_at "mine httac"

theorem ex_mcall {w h : Nat} {a : T} (ha : Ex w h a)  : Ex (4 * w + 60) (h + 4) (T.tup [(T.str (Str.ofString "mcall")), a, (T.tup [(T.str (Str.ofString "lit")), (T.str (Str.ofString "m"))]), T.none, (T.bool false)]) := by
  have k0 : isKind (.str (Str.ofString "lit")) = true := by decide +kernel
  have s0 : T.wt (.str (Str.ofString "mcall")) = 6 := by decide
  have n0 : T.nice (.str (Str.ofString "mcall")) = true := by decide
  have s1 : T.wt (.str (Str.ofString "lit")) = 4 := by decide
  have n1 : T.nice (.str (Str.ofString "lit")) = true := by decide
  have s2 : T.wt (.str (Str.ofString "m")) = 2 := by decide
  have n2 : T.nice (.str (Str.ofString "m")) = true := by decide
  have wa := ha.wt
  have ta := ha.ht
  refine ⟨wf_mk (ks := [a, (T.tup [(T.str (Str.ofString "lit")), (T.str (Str.ofString "m"))])]) (kids_by (rule := "eea-") (ruleOf_tab (by decide +kernel)) ?_) (inner_by ?_ member_no) ?_, Nd.of, ?_, ?_, ?_⟩
  · show partsBy (parts 1) [101, 101, 97, 45] [a, (T.tup [(T.str (Str.ofString "lit")), (T.str (Str.ofString "m"))]), T.none, (T.bool false)] = _
    simp [partsBy, partOf, entries, er_k, er_a, er_m, cps_ee, cps_e, cps_se, parts_1, partS, pe_name, pe_lit, pe_dim, none_isNone, tup_isNone, str_isNone, bool_isNone, int_isNone, ha.nd.partE, ha.nd.isNone, ha.nd.nodes, ha.nd.notKind, ha.nd.optL]
  · simp [lawNodes, lawNodesL, isKind_none, isKind_tup, isKind_bool, isKind_int, k0, ha.nd.partE, ha.nd.isNone, ha.nd.nodes, ha.nd.notKind, ha.nd.optL]
  · intro x hx; simp only [List.mem_cons, List.not_mem_nil, or_false] at hx
    rcases hx with rfl | rfl
    · exact ha.wf
    · exact (ex_litm (w := 0) (h := 0)).wf
  · have nha := ha.nice; walk_at "mine nctac"
  · walk_at "mine wttac"
  · walk_at "mine httac"

theorem ex_constD {w h : Nat}   : Ex (4 * w + 60) (h + 4) (T.tup [(T.str (Str.ofString "const")), (T.str (Str.ofString "D"))]) := by
  have k0 : isKind (.str (Str.ofString "D")) = false := by decide +kernel
  have s0 : T.wt (.str (Str.ofString "const")) = 6 := by decide
  have n0 : T.nice (.str (Str.ofString "const")) = true := by decide
  have s1 : T.wt (.str (Str.ofString "D")) = 2 := by decide
  have n1 : T.nice (.str (Str.ofString "D")) = true := by decide
  refine ⟨wf_mk (ks := []) (kids_by (rule := "-") rfl ?_) (inner_by ?_ rfl) ?_, Nd.of, ?_, ?_, ?_⟩
  · show partsBy (parts 1) [45] [(T.str (Str.ofString "D"))] = _
    simp [partsBy, partOf, entries, er_k, er_a, er_m, cps_ee, cps_e, cps_se, parts_1, partS, pe_name, pe_lit, pe_dim, none_isNone, tup_isNone, str_isNone, bool_isNone, int_isNone, ]
  · simp [lawNodes, lawNodesL, isKind_none, isKind_tup, isKind_bool, isKind_int, k0]
  · intro x hx
    exact absurd hx List.not_mem_nil
  · walk_at "mine nctac"
  · walk_at "mine wttac"
  · walk_at "mine httac"

theorem ex_echo {w h : Nat} {a : T} (ha : Ex w h a)  : Ex (4 * w + 60) (h + 4) (T.tup [(T.str (Str.ofString "echo")), (T.tup [a])]) := by
  have s0 : T.wt (.str (Str.ofString "echo")) = 5 := by decide
  have n0 : T.nice (.str (Str.ofString "echo")) = true := by decide
  have wa := ha.wt
  have ta := ha.ht
  refine ⟨wf_mk (ks := [a]) (kids_by (rule := "s") (ruleOf_tab (by decide +kernel)) ?_) (inner_by ?_ member_no) ?_, Nd.of, ?_, ?_, ?_⟩
  · show partsBy (parts 1) [115] [(T.tup [a])] = _
    simp [partsBy, partOf, entries, er_k, er_a, er_m, cps_ee, cps_e, cps_se, parts_1, partS, pe_name, pe_lit, pe_dim, none_isNone, tup_isNone, str_isNone, bool_isNone, int_isNone, ha.nd.partE, ha.nd.isNone, ha.nd.nodes, ha.nd.notKind, ha.nd.optL]
  · simp [lawNodes, lawNodesL, isKind_none, isKind_tup, isKind_bool, isKind_int, ha.nd.partE, ha.nd.isNone, ha.nd.nodes, ha.nd.notKind, ha.nd.optL]
  · intro x hx; simp only [List.mem_cons, List.not_mem_nil, or_false] at hx
    subst hx; exact ha.wf
  · have nha := ha.nice; walk_at "mine nctac"
  · walk_at "mine wttac"
  · walk_at "mine httac"

theorem ex_return {w h : Nat} {a : T} (ha : Ex w h a)  : Ex (4 * w + 60) (h + 4) (T.tup [(T.str (Str.ofString "return")), a]) := by
  have s0 : T.wt (.str (Str.ofString "return")) = 7 := by decide
  have n0 : T.nice (.str (Str.ofString "return")) = true := by decide
  have wa := ha.wt
  have ta := ha.ht
  refine ⟨wf_mk (ks := [a]) (kids_by (rule := "e") (ruleOf_tab (by decide +kernel)) ?_) (inner_by ?_ member_no) ?_, Nd.of, ?_, ?_, ?_⟩
  · show partsBy (parts 1) [101] [a] = _
    simp [partsBy, partOf, entries, er_k, er_a, er_m, cps_ee, cps_e, cps_se, parts_1, partS, pe_name, pe_lit, pe_dim, none_isNone, tup_isNone, str_isNone, bool_isNone, int_isNone, ha.nd.partE, ha.nd.isNone, ha.nd.nodes, ha.nd.notKind, ha.nd.optL]
  · simp [lawNodes, lawNodesL, isKind_none, isKind_tup, isKind_bool, isKind_int, ha.nd.partE, ha.nd.isNone, ha.nd.nodes, ha.nd.notKind, ha.nd.optL]
  · intro x hx; simp only [List.mem_cons, List.not_mem_nil, or_false] at hx
    subst hx; exact ha.wf
  · have nha := ha.nice; walk_at "mine nctac"
  · walk_at "mine wttac"
  · walk_at "mine httac"

theorem ex_returnn {w h : Nat}   : Ex (4 * w + 60) (h + 4) (T.tup [(T.str (Str.ofString "return")), T.none]) := by
  have s0 : T.wt (.str (Str.ofString "return")) = 7 := by decide
  have n0 : T.nice (.str (Str.ofString "return")) = true := by decide
  refine ⟨wf_mk (ks := []) (kids_by (rule := "e") (ruleOf_tab (by decide +kernel)) ?_) (inner_by ?_ member_no) ?_, Nd.of, ?_, ?_, ?_⟩
  · show partsBy (parts 1) [101] [T.none] = _
    simp [partsBy, partOf, entries, er_k, er_a, er_m, cps_ee, cps_e, cps_se, parts_1, partS, pe_name, pe_lit, pe_dim, none_isNone, tup_isNone, str_isNone, bool_isNone, int_isNone, ]
  · simp [lawNodes, lawNodesL, isKind_none, isKind_tup, isKind_bool, isKind_int]
  · intro x hx
    exact absurd hx List.not_mem_nil
  · walk_at "mine nctac"
  · walk_at "mine wttac"
  · walk_at "mine httac"

theorem ex_list1 {w h : Nat} {a : T} (ha : Ex w h a)  : Ex (4 * w + 60) (h + 4) (T.tup [(T.str (Str.ofString "list")), (T.tup [(T.tup [T.none, a, (T.bool true)])])]) := by
  have s0 : T.wt (.str (Str.ofString "list")) = 5 := by decide
  have n0 : T.nice (.str (Str.ofString "list")) = true := by decide
  have wa := ha.wt
  have ta := ha.ht
  refine ⟨wf_mk (ks := [a]) (kids_by (rule := "k") (ruleOf_tab (by decide +kernel)) ?_) (inner_by ?_ member_no) ?_, Nd.of, ?_, ?_, ?_⟩
  · show partsBy (parts 1) [107] [(T.tup [(T.tup [T.none, a, (T.bool true)])])] = _
    simp [partsBy, partOf, entries, er_k, er_a, er_m, cps_ee, cps_e, cps_se, parts_1, partS, pe_name, pe_lit, pe_dim, none_isNone, tup_isNone, str_isNone, bool_isNone, int_isNone, ha.nd.partE, ha.nd.isNone, ha.nd.nodes, ha.nd.notKind, ha.nd.optL]
  · simp [lawNodes, lawNodesL, isKind_none, isKind_tup, isKind_bool, isKind_int, ha.nd.partE, ha.nd.isNone, ha.nd.nodes, ha.nd.notKind, ha.nd.optL]
  · intro x hx; simp only [List.mem_cons, List.not_mem_nil, or_false] at hx
    subst hx; exact ha.wf
  · have nha := ha.nice; walk_at "mine nctac"
  · walk_at "mine wttac"
  · walk_at "mine httac"

theorem ex_list3 {w h : Nat} {a : T} (ha : Ex w h a) {b : T} (hb : Ex w h b) {c : T} (hc : Ex w h c)  : Ex (4 * w + 60) (h + 4) (T.tup [(T.str (Str.ofString "list")), (T.tup [(T.tup [a, b, (T.bool false)]), T.none, (T.tup [T.none, c, (T.bool false)])])]) := by
  have s0 : T.wt (.str (Str.ofString "list")) = 5 := by decide
  have n0 : T.nice (.str (Str.ofString "list")) = true := by decide
  have wa := ha.wt
  have ta := ha.ht
  have wb := hb.wt
  have tb := hb.ht
  have wc := hc.wt
  have tc := hc.ht
  refine ⟨wf_mk (ks := [a, b, c]) (kids_by (rule := "k") (ruleOf_tab (by decide +kernel)) ?_) (inner_by ?_ member_no) ?_, Nd.of, ?_, ?_, ?_⟩
  · show partsBy (parts 1) [107] [(T.tup [(T.tup [a, b, (T.bool false)]), T.none, (T.tup [T.none, c, (T.bool false)])])] = _
    simp [partsBy, partOf, entries, er_k, er_a, er_m, cps_ee, cps_e, cps_se, parts_1, partS, pe_name, pe_lit, pe_dim, none_isNone, tup_isNone, str_isNone, bool_isNone, int_isNone, ha.nd.partE, ha.nd.isNone, ha.nd.nodes, ha.nd.notKind, ha.nd.optL, hb.nd.partE, hb.nd.isNone, hb.nd.nodes, hb.nd.notKind, hb.nd.optL, hc.nd.partE, hc.nd.isNone, hc.nd.nodes, hc.nd.notKind, hc.nd.optL]
  · simp [lawNodes, lawNodesL, isKind_none, isKind_tup, isKind_bool, isKind_int, ha.nd.partE, ha.nd.isNone, ha.nd.nodes, ha.nd.notKind, ha.nd.optL, hb.nd.partE, hb.nd.isNone, hb.nd.nodes, hb.nd.notKind, hb.nd.optL, hc.nd.partE, hc.nd.isNone, hc.nd.nodes, hc.nd.notKind, hc.nd.optL]
  · intro x hx; simp only [List.mem_cons, List.not_mem_nil, or_false] at hx
    rcases hx with rfl | rfl | rfl
    · exact ha.wf
    · exact hb.wf
    · exact hc.wf
  · have nha := ha.nice; have nhb := hb.nice; have nhc := hc.nice; walk_at "mine nctac"
  · walk_at "mine wttac"
  · walk_at "mine httac"


end

section
set_option maxHeartbeats 8000000

theorem nodes_tup : ∀ {l : List T}, (∀ x r, l = x :: r → isKind x = false) → lawNodes (.tup l) = lawNodesL l
  | [], _ => rfl
  | x :: r, h => by rw [lawNodes, h x r rfl, if_neg (by decide)]; rfl

/-- ('var', x) -/
theorem ex_var {x : Str} (hn : T.nice (.str x) = true) (hl : x.cps.size ≤ 10) (hk : isKind (.str x) = false) : Ex 20 1 (.tup [.str "var", .str x]) := by
  refine ⟨.mk (ks := []) kids_var (inner_by ?_ member_no) (fun x hx => absurd hx List.not_mem_nil) (fun _ => ⟨_, rfl⟩) (fun h => absurd h (by decide)) (fun h => absurd h (by decide)), Nd.of, ?_, ?_, ?_⟩
  · rw [nodes_tup (by rintro y r ⟨⟩; exact hk)]; rfl
  · rw [nice_tup, nices, nices, nices, hn]; decide
  · have s0 : T.wt (.str "var") = 4 := by decide
    simp only [zt_tup, wts, s0]
    simp only [T.wt]; omega
  · simp only [ht_tup, hts, ht_str]; omega
theorem ex_vx : Ex 20 1 (.tup [.str "var", .str "x"]) := ex_var (by decide) (by decide) (by decide +kernel)
theorem ex_vy : Ex 20 1 (.tup [.str "var", .str "y"]) := ex_var (by decide) (by decide) (by decide +kernel)
theorem ex_vz : Ex 20 1 (.tup [.str "var", .str "z"]) := ex_var (by decide) (by decide) (by decide +kernel)
theorem ex_vw : Ex 20 1 (.tup [.str "var", .str "w"]) := ex_var (by decide) (by decide) (by decide +kernel)
theorem ex_vthis : Ex 20 1 (.tup [.str "var", .str "this"]) := ex_var (by decide) (by decide) (by decide +kernel)

noncomputable abbrev mkFunc (ps body : List T) : T := .tup [.str "func", .str "{closure}", .tup ps, .tup [.str "array"], .tup body, .bool false, .bool false]
noncomputable abbrev mkParam (n d : T) (r v : Bool) : T := .tup [.str "param", n, .tup [.str "static"], d, .bool r, .bool v, .str "", .bool false]

theorem wf_func {ps body : List T} (hp : ∀ p ∈ ps, Wf p) (hb : ∀ x ∈ body, Wf x) : Wf (mkFunc ps body) :=
  wf_mk (ks := ps ++ body) kids_func rfl (fun x hx => by rcases List.mem_append.mp hx with h | h; exact hp x h; exact hb x h)
theorem nd_func {ps body : List T} : Nd (mkFunc ps body) := Nd.of
theorem func_func {ps body : List T} (hp : ∀ p ∈ ps, Param p) : Func (mkFunc ps body) := ⟨_, _, _, _, _, _, rfl, hp⟩
theorem wt_func {ps body : List T} : T.wt (mkFunc ps body) = 27 + wts ps + wts body := by
  have s0 : T.wt (.str "func") = 5 := by decide
  have s1 : T.wt (.str "{closure}") = 10 := by decide
  have s2 : T.wt (.str "array") = 6 := by decide
  simp only [zt_tup, wts, s0, s1, s2, zt_bool]; omega
theorem ht_func_le {h : Nat} {ps body : List T} (a : hts ps ≤ h) (b : hts body ≤ h) : T.ht (mkFunc ps body) ≤ h + 2 :=
  ht_tup_le (hts_cons_le ht_str_le (hts_cons_le ht_str_le (hts_cons_le (ht_tup_le a) (hts_cons_le (ht_tup_le (hts_cons_le ht_str_le hts_nil_le)) (hts_cons_le (ht_tup_le b) (hts_cons_le ht_bool_le (hts_cons_le ht_bool_le hts_nil_le)))))))
theorem nice_func {ps body : List T} (h1 : nices ps = true) (h2 : nices body = true) : T.nice (mkFunc ps body) = true := by
  have s0 : T.nice (.str "func") = true := by decide
  have s1 : T.nice (.str "{closure}") = true := by decide
  have s2 : T.nice (.str "array") = true := by decide
  simp only [nice_tup, nices, s0, s1, s2, nice_bool, h1, h2, Bool.and_self]

theorem wf_param {n d : T} {r v : Bool} (hd : d = .none ∨ (Wf d ∧ Nd d)) : Wf (mkParam n d r v) := by
  have hk : kids (mkParam n d r v) = some (optL d) := by
    refine kids_by (rule := "--e----") (ruleOf_tab (by decide +kernel)) ?_
    show partsBy (parts 1) [45, 45, 101, 45, 45, 45, 45] [n, .tup [.str "static"], d, .bool r, .bool v, .str "", .bool false] = _
    rcases hd with rfl | ⟨_, h⟩
    · simp [partsBy, partOf, none_isNone, optL]
    · simp [partsBy, partOf, h.partE, h.isNone, h.optL]
  have hi : lawInner (mkParam n d r v) = some (optL d) := rfl
  refine wf_mk (ks := optL d) hk hi fun x hx => ?_
  rcases hd with rfl | ⟨h1, h⟩
  · exact absurd hx List.not_mem_nil
  · rw [h.optL] at hx; simp at hx; subst hx; exact h1
theorem param_param {n : Str} {d : T} {r v : Bool} : Param (mkParam (.str n) d r v) := ⟨_, _, _, rfl⟩
theorem wt_param {n d : T} {r v : Bool} : T.wt (mkParam n d r v) = 19 + n.wt + d.wt := by
  have s0 : T.wt (.str "param") = 6 := by decide
  have s1 : T.wt (.str "static") = 7 := by decide
  have s2 : T.wt (.str "") = 1 := by decide
  simp only [zt_tup, wts, s0, s1, s2, zt_bool]; omega
theorem ht_param {n d : T} {r v : Bool} : T.ht (mkParam n d r v) = 1 + max n.ht (max 1 d.ht) := by
  simp only [ht_tup, hts, ht_str, ht_bool, Nat.max_zero, Nat.zero_max, Nat.max_self, Nat.add_zero]
theorem ht_param_le {h : Nat} {n d : T} {r v : Bool} (a : n.ht ≤ h + 1) (b : d.ht ≤ h + 1) : T.ht (mkParam n d r v) ≤ h + 2 :=
  ht_tup_le (hts_cons_le ht_str_le (hts_cons_le a (hts_cons_le (ht_tup_le (hts_cons_le ht_str_le hts_nil_le)) (hts_cons_le b (hts_cons_le ht_bool_le (hts_cons_le ht_bool_le (hts_cons_le ht_str_le (hts_cons_le ht_bool_le hts_nil_le))))))))
theorem nice_param {n d : T} {r v : Bool} (h1 : n.nice = true) (h2 : d.nice = true) : T.nice (mkParam n d r v) = true := by
  have s0 : T.nice (.str "param") = true := by decide
  have s1 : T.nice (.str "static") = true := by decide
  have s2 : T.nice (.str "") = true := by decide
  simp only [nice_tup, nices, s0, s1, s2, nice_bool, h1, h2, Bool.and_self]

/-- the names drawn -/
noncomputable def isXyz (x : Str) : Prop := x = ("x" : Str) ∨ x = ("y" : Str) ∨ x = ("z" : Str)
theorem xyz_wt {x : Str} (h : isXyz x) : T.wt (.str x) = 2 := by rcases h with rfl | rfl | rfl <;> decide
theorem xyz_nice {x : Str} (h : isXyz x) : T.nice (.str x) = true := by rcases h with rfl | rfl | rfl <;> decide
theorem xyz_kind {x : Str} (h : isXyz x) : isKind (.str x) = false := by rcases h with rfl | rfl | rfl <;> decide +kernel

theorem ex_constD0 : Ex 60 4 (.tup [.str "const", .str "D"]) := (ex_constD (w := 0) (h := 0)).le (by omega) (by omega)

/-- what a drawn parameter is -/
noncomputable def IsPar (p : T) : Prop := ∃ x d r v, p = mkParam (.str x) d r v ∧ isXyz x ∧ (d = .none ∨ d = .tup [.str "const", .str "D"])
theorem IsPar.all {p : T} (h : IsPar p) : Wf p ∧ Param p ∧ p.nice = true ∧ p.wt ≤ 90 ∧ p.ht ≤ 5 := by
  obtain ⟨x, d, r, v, rfl, hx, hd⟩ := h
  have hc := ex_constD0
  have h1 := xyz_wt hx
  have h0 : T.ht (.str x) = 0 := rfl
  refine ⟨wf_param ?_, param_param, nice_param (xyz_nice hx) ?_, ?_, ?_⟩
  · rcases hd with rfl | rfl
    · exact .inl rfl
    · exact .inr ⟨hc.wf, hc.nd⟩
  · rcases hd with rfl | rfl
    · rfl
    · exact hc.nice
  · rw [wt_param, h1]
    rcases hd with rfl | rfl
    · rw [zt_none]; omega
    · have := hc.wt; omega
  · rw [ht_param, h0]
    rcases hd with rfl | rfl
    · rw [ht_none]; omega
    · have := hc.ht; omega
theorem pars_all : ∀ {ps : List T}, (∀ p ∈ ps, IsPar p) → (∀ p ∈ ps, Wf p) ∧ (∀ p ∈ ps, Param p) ∧ nices ps = true ∧ wts ps ≤ 90 * ps.length ∧ hts ps ≤ 5
  | [], _ => ⟨by simp, by simp, rfl, by simp [wts], by simp [hts]⟩
  | p :: r, h => by
    obtain ⟨h1, h2, h3, h4, h5⟩ := pars_all fun q hq => h q (List.mem_cons_of_mem _ hq)
    obtain ⟨g1, g2, g3, g4, g5⟩ := (h p List.mem_cons_self).all
    refine ⟨fun q hq => ?_, fun q hq => ?_, ?_, ?_, ?_⟩
    · rcases List.mem_cons.mp hq with rfl | hq
      · exact g1
      · exact h1 q hq
    · rcases List.mem_cons.mp hq with rfl | hq
      · exact g2
      · exact h2 q hq
    · rw [nices, g3, h3]; rfl
    · simp only [wts, List.length_cons]; omega
    · exact hts_cons_le g5 h5

/-- a func with one statement -/
theorem func1 {w h : Nat} {ps : List T} {x : T} (hp : ∀ p ∈ ps, IsPar p) (hl : ps.length ≤ 3) (hx : Ex w h x) : Ex (w + 300) (h + 8) (mkFunc ps [x]) := by
  obtain ⟨h1, h2, h3, h4, h5⟩ := pars_all hp
  refine ⟨wf_func h1 (fun y hy => by simp at hy; subst hy; exact hx.wf), nd_func, nice_func h3 (by simp only [nices, hx.nice, Bool.and_self]), ?_, ?_⟩
  · have := hx.wt; rw [wt_func]; simp only [wts]; omega
  · exact ht_func_le (h := h + 6) (Nat.le_trans h5 (by omega)) (hts_cons_le (Nat.le_add_right_of_le hx.ht) hts_nil_le)

/-- ('arrow', func, b) -/
theorem ex_arrow {w h : Nat} {ps : List T} {x : T} {b : Bool} (hp : ∀ p ∈ ps, IsPar p) (hl : ps.length ≤ 3) (hx : Ex w h x) : Ex (w + 320) (h + 9) (.tup [.str "arrow", mkFunc ps [x], .bool b]) := by
  have hf := func1 hp hl hx
  have hpp := (pars_all hp).2.1
  refine ⟨.mk (ks := [mkFunc ps [x]]) (kids_arrow (by decide)) (inner_by ?_ member_no) (fun y hy => by simp at hy; subst hy; exact hf.wf) (fun h => absurd h (by decide)) (fun h => absurd h (by decide)) (fun _ => ⟨_, _, rfl, func_func hpp⟩), Nd.of, ?_, ?_, ?_⟩
  · rw [nodes_tup (by rintro y r ⟨⟩; rfl), lawNodesL, nd_func.nodes]
    simp [lawNodesL, lawNodes]
  · have s0 : T.nice (.str "arrow") = true := by decide
    rw [nice_tup]; simp only [nices, s0, hf.nice, nice_bool, Bool.and_self]
  · have s0 : T.wt (.str "arrow") = 6 := by decide
    have := hf.wt
    rw [zt_tup]; simp only [wts, s0, zt_bool]; omega
  · exact ht_tup_le (hts_cons_le ht_str_le (hts_cons_le hf.ht (hts_cons_le ht_bool_le hts_nil_le)))

/-- the uses of a closure -/
noncomputable def IsUse (u : T) : Prop := ∃ x b, u = .tup [.str x, .bool b] ∧ isXyz x
theorem IsUse.nodes {u : T} (h : IsUse u) : lawNodes u = [] := by
  obtain ⟨x, b, rfl, hx⟩ := h
  rw [nodes_tup (by rintro y r ⟨⟩; exact xyz_kind hx)]; rfl
theorem uses_all : ∀ {us : List T}, (∀ u ∈ us, IsUse u) → lawNodesL us = [] ∧ nices us = true ∧ wts us = 4 * us.length ∧ hts us ≤ 1 ∧ (∀ u ∈ us, ∃ n y, u = .tup [.str n, y])
  | [], _ => ⟨rfl, rfl, rfl, by simp [hts], by simp⟩
  | u :: r, h => by
    obtain ⟨h1, h2, h3, h4, h5⟩ := uses_all fun q hq => h q (List.mem_cons_of_mem _ hq)
    have hu := h u List.mem_cons_self
    have hn := hu.nodes
    obtain ⟨x, b, rfl, hx⟩ := hu
    have e1 := xyz_nice hx
    have e2 := xyz_wt hx
    refine ⟨by rw [lawNodesL, hn, h1]; rfl, ?_, ?_, ?_, fun q hq => ?_⟩
    · rw [nices, nice_tup, nices, nices, e1, h2]; rfl
    · simp only [wts, zt_tup, e2, zt_bool, List.length_cons]; omega
    · exact hts_cons_le (ht_tup_le (hts_cons_le ht_str_le (hts_cons_le ht_bool_le hts_nil_le))) h4
    · rcases List.mem_cons.mp hq with rfl | hq
      · exact ⟨_, _, rfl⟩
      · exact h5 q hq
theorem nodes_uses {us : List T} (h : ∀ u ∈ us, IsUse u) : lawNodes (.tup us) = [] := by
  rw [nodes_tup ?_, (uses_all h).1]
  rintro y r rfl
  obtain ⟨x, b, rfl, _⟩ := h y List.mem_cons_self
  rfl

/-- ('closure', func, uses, False) -/
theorem ex_closure {w h : Nat} {us body : List T} (hu : ∀ u ∈ us, IsUse u) (hl : us.length ≤ 3) (hb : ∀ x ∈ body, Wf x) (hn : nices body = true) (hw : wts body ≤ w) (hh : hts body ≤ h) : Ex (w + 100) (h + 5) (.tup [.str "closure", mkFunc [] body, .tup us, .bool false]) := by
  obtain ⟨h1, h2, h3, h4, h5⟩ := uses_all hu
  have hf : Func (mkFunc [] body) := func_func (by simp)
  have hwf : Wf (mkFunc [] body) := wf_func (by simp) hb
  refine ⟨.mk (ks := [mkFunc [] body]) (kids_closure (r := []) (by decide)) (inner_by ?_ member_no) (fun y hy => by simp at hy; subst hy; exact hwf) (fun h => absurd h (by decide)) (fun _ => ⟨_, _, _, rfl, hf, h5⟩) (fun h => absurd h (by decide)), Nd.of, ?_, ?_, ?_⟩
  · rw [nodes_tup (by rintro y r ⟨⟩; rfl), lawNodesL, nd_func.nodes, lawNodesL, nodes_uses hu]
    simp [lawNodesL, lawNodes]
  · have s0 : T.nice (.str "closure") = true := by decide
    have := nice_func (ps := []) rfl hn
    rw [nice_tup]; simp only [nices, s0, this, nice_tup, h2, nice_bool, Bool.and_self]
  · have s0 : T.wt (.str "closure") = 8 := by decide
    show 1 + (T.wt (.str "closure") + (T.wt (mkFunc [] body) + (T.wt (.tup us) + (T.wt (.bool false) + 0)))) ≤ _
    rw [s0, wt_func, zt_tup, h3, zt_bool]; simp only [wts]; omega
  · exact ht_tup_le (hts_cons_le ht_str_le (hts_cons_le (ht_func_le (h := h + 2) hts_nil_le (Nat.le_add_right_of_le hh)) (hts_cons_le (ht_tup_le (Nat.le_trans h4 (by omega))) (hts_cons_le ht_bool_le hts_nil_le))))

/-- the arguments of a call -/
noncomputable def IsArg (w h : Nat) (e : T) : Prop := ∃ x b y, e = .tup [x, .bool b, y] ∧ Ex w h x ∧ (y = .none ∨ y = .str "y")
theorem IsArg.all {w h : Nat} {e : T} (x : IsArg w h e) : Ex w h (fld e 0) ∧ lawNodes e = [fld e 0] ∧ parts 1 [101] (items e) = some [fld e 0] ∧ e.nice = true ∧ e.wt ≤ w + 4 ∧ e.ht ≤ h + 1 ∧ e = .tup (items e) ∧ isKind e = false := by
  obtain ⟨x, b, y, rfl, hx, hy⟩ := x
  have w1 := hx.wt
  have t1 := hx.ht
  have hy2 : lawNodes y = [] ∧ y.nice = true ∧ y.wt ≤ 2 ∧ y.ht = 0 := by
    rcases hy with rfl | rfl
    · exact ⟨rfl, rfl, by decide, rfl⟩
    · exact ⟨rfl, by decide, by decide, rfl⟩
  refine ⟨hx, ?_, ?_, ?_, ?_, ?_, rfl, rfl⟩
  · rw [nodes_tup (by rintro y r ⟨⟩; exact hx.nd.notKind), lawNodesL, hx.nd.nodes]
    simp [lawNodesL, lawNodes, hy2.1, fld]
  · show partsBy (parts 0) [101] [x, .bool b, y] = _
    simp [partsBy, partOf, hx.nd.partE, hx.nd.isNone, fld]
  · rw [nice_tup]; simp only [nices, hx.nice, nice_bool, hy2.2.1, Bool.and_self]
  · rw [zt_tup]; simp only [wts, zt_bool]; omega
  · exact ht_tup_le (hts_cons_le t1 (hts_cons_le ht_bool_le (hts_cons_le (Nat.le_trans (Nat.le_of_eq hy2.2.2.2) (Nat.zero_le _)) hts_nil_le)))
theorem args_all {w h : Nat} : ∀ {l : List T}, (∀ e ∈ l, IsArg w h e) → entries (parts 1 [101]) l = some (l.map (fld · 0)) ∧ lawNodesL l = l.map (fld · 0) ∧ nices l = true ∧ wts l ≤ (w + 4) * l.length ∧ hts l ≤ h + 1 ∧ (∀ x ∈ l.map (fld · 0), Wf x)
  | [], _ => ⟨rfl, rfl, rfl, by simp [wts], by simp [hts], by simp⟩
  | e :: r, h => by
    obtain ⟨h1, h2, h3, h4, h5, h6⟩ := args_all fun q hq => h q (List.mem_cons_of_mem _ hq)
    obtain ⟨g1, g2, g3, g4, g5, g6, g7, g8⟩ := (h e List.mem_cons_self).all
    refine ⟨?_, by rw [lawNodesL, g2, h2]; rfl, by rw [nices, g4, h3]; rfl, ?_, ?_, fun x hx => ?_⟩
    · rw [g7]
      simp only [entries, g3, h1]
      simp only [List.map_cons, ← g7]; rfl
    · simp only [wts, List.length_cons, Nat.mul_succ]; omega
    · exact hts_cons_le g6 h5
    · simp only [List.map_cons, List.mem_cons] at hx
      rcases hx with rfl | hx
      · exact g1.wf
      · exact h6 x hx
theorem nodes_args {w h : Nat} {l : List T} (hl : ∀ e ∈ l, IsArg w h e) : lawNodes (.tup l) = l.map (fld · 0) := by
  rw [nodes_tup ?_, (args_all hl).2.1]
  rintro y r rfl
  exact (hl y List.mem_cons_self).all.2.2.2.2.2.2.2

/-- ('call' or 'new', who, args) -/
theorem ex_call {w h w2 h2 : Nat} {k : Str} {who : T} {l : List T} {hd : List T} (hk : k = ("call" : Str) ∨ k = ("new" : Str)) (hp : partE who = some hd) (hno : who.isNone = false) (hnd : lawNodes who = hd) (hwk : isKind who = false) (hwf : ∀ x ∈ hd, Wf x) (hni : who.nice = true) (hw : who.wt ≤ w2) (hh : who.ht ≤ h2)
    (hl : ∀ e ∈ l, IsArg w h e) (hlen : l.length ≤ 3) : Ex (w2 + 3 * w + 40) (max h h2 + 4) (.tup [.str k, who, .tup l]) := by
  obtain ⟨h1, h3, h4, h5, h6, h7⟩ := args_all hl
  have hparts : parts 2 ("ea" : Str).cps.toList [who, .tup l] = some (hd ++ l.map (fld · 0)) := by
    show partsBy (parts 1) [101, 97] [who, .tup l] = _
    have e2 : entries (parts 1 [101]) l = _ := h1
    simp [partsBy, partOf, hp, hno, tup_isNone, er_a, cps_e, e2]
  have hnodes : lawNodes (.tup [who, .tup l]) = hd ++ l.map (fld · 0) := by
    rw [nodes_tup (by rintro y r ⟨⟩; exact hwk), lawNodesL, hnd, lawNodesL, nodes_args hl]; simp [lawNodesL]
  have hall : ∀ x ∈ hd ++ l.map (fld · 0), Wf x := fun x hx => by
    rcases List.mem_append.mp hx with h | h
    · exact hwf x h
    · exact h7 x h
  have hwl : wts l ≤ 3 * w + 12 := Nat.le_trans h5 (by
    have : (w + 4) * l.length ≤ (w + 4) * 3 := Nat.mul_le_mul_left _ hlen
    omega)
  have hw3 : who.ht ≤ max h h2 + 3 := Nat.le_trans hh (Nat.le_add_right_of_le (Nat.le_max_right h h2))
  have hl3 : hts l ≤ max h h2 + 2 := Nat.le_trans h6 (Nat.add_le_add (Nat.le_max_left h h2) (by decide))
  rcases hk with rfl | rfl
  · refine ⟨wf_mk (kids_by (ruleOf_tab (by decide +kernel)) hparts) (inner_by hnodes member_no) hall, Nd.of, ?_, ?_, ?_⟩
    · have s0 : T.nice (.str "call") = true := by decide
      rw [nice_tup]; simp only [nices, s0, hni, nice_tup, h4, Bool.and_self]
    · have s0 : T.wt (.str "call") = 5 := by decide
      rw [zt_tup]; simp only [wts, s0, zt_tup]; omega
    · exact ht_tup_le (hts_cons_le ht_str_le (hts_cons_le hw3 (hts_cons_le (ht_tup_le hl3) hts_nil_le)))
  · refine ⟨wf_mk (kids_by (ruleOf_tab (by decide +kernel)) hparts) (inner_by hnodes member_no) hall, Nd.of, ?_, ?_, ?_⟩
    · have s0 : T.nice (.str "new") = true := by decide
      rw [nice_tup]; simp only [nices, s0, hni, nice_tup, h4, Bool.and_self]
    · have s0 : T.wt (.str "new") = 4 := by decide
      rw [zt_tup]; simp only [wts, s0, zt_tup]; omega
    · exact ht_tup_le (hts_cons_le ht_str_le (hts_cons_le hw3 (hts_cons_le (ht_tup_le hl3) hts_nil_le)))

end

section
set_option maxHeartbeats 8000000

theorem inner_last {k : Str} {r : List T} {x : T} (hm : member k r = some true) (hx : r.getLast? = some x) (h1 : k ≠ ("func" : Str) := by decide) (h2 : k ≠ ("param" : Str) := by decide) (h3 : k ≠ ("decl" : Str) := by decide) : lawInner (.tup (.str k :: r)) = some (optL x) := by
  simp only [lawInner, if_neg h1, if_neg h2, if_neg h3, hm, hx]
theorem member_pub {k : Str} {r : List T} (hk : k = ("prop" : Str) ∨ k = ("const" : Str)) (hr : 2 ≤ r.length) (h4 : ¬ (k = ("method" : Str) ∨ k = ("case" : Str)) := by decide) : member k (.tup [.str "public"] :: r) = some true := by
  unfold member
  rw [if_neg h4, if_pos hk]
  dsimp only
  rw [show decide (2 ≤ r.length) = true by simpa using hr]
  rfl

noncomputable abbrev tVarY : T := .tup [.str "var", .str "y"]
noncomputable abbrev mHeld : T := .tup [.str "const", .tup [.str "public"], .str "C", tVarY]
noncomputable abbrev mProp (a : T) : T := .tup [.str "prop", .tup [.str "public"], .tup [.str "array"], .str "q", a]
noncomputable abbrev mMeth (a : T) : T := .tup [.str "method", .tup [.str "public", .str "static"], mkFunc [mkParam (.str "p") a false false] [.tup [.str "return", a]]]
noncomputable abbrev mUse : T := .tup [.str "use", .tup [.str "T"], .tup []]
noncomputable abbrev mCase : T := .tup [.str "case", .str "D", .none]
noncomputable abbrev mDecl (a : T) : T := .tup [.str "decl", .str "class", .str "class@anonymous", .tup [], .none, .tup [], .none, .tup [mHeld, mProp a, mMeth a, mUse, mCase]]

theorem wf_held : Wf mHeld := by
  refine wf_mk (ks := [tVarY]) (kids_by (rule := "--e") rfl ?_) (inner_last (member_pub (.inr rfl) (by decide)) rfl) fun x hx => ?_
  · show partsBy (parts 1) [45, 45, 101] [.tup [.str "public"], .str "C", tVarY] = _
    simp [partsBy, partOf, entries, er_k, er_a, er_m, cps_ee, cps_e, cps_se, parts_1, partS, pe_name, pe_lit, pe_dim, none_isNone, tup_isNone, str_isNone, bool_isNone, int_isNone, ex_vy.nd.partE, ex_vy.nd.isNone]
  · simp at hx; subst hx; exact ex_vy.wf
theorem wf_prop {w h : Nat} {a : T} (ha : Ex w h a) : Wf (mProp a) := by
  refine wf_mk (ks := [a]) (kids_by (rule := "---e") rfl ?_) ((inner_last (x := a) (member_pub (.inl rfl) (by simp)) rfl).trans (by rw [ha.nd.optL])) fun x hx => ?_
  · show partsBy (parts 1) [45, 45, 45, 101] [.tup [.str "public"], .tup [.str "array"], .str "q", a] = _
    simp [partsBy, partOf, entries, er_k, er_a, er_m, cps_ee, cps_e, cps_se, parts_1, partS, pe_name, pe_lit, pe_dim, none_isNone, tup_isNone, str_isNone, bool_isNone, int_isNone, ha.nd.partE, ha.nd.isNone]
  · simp at hx; subst hx; exact ha.wf
theorem wf_mfunc {w h : Nat} {a : T} (ha : Ex w h a) : Wf (mkFunc [mkParam (.str "p") a false false] [.tup [.str "return", a]]) :=
  wf_func (fun p hp => by simp at hp; subst hp; exact wf_param (.inr ⟨ha.wf, ha.nd⟩)) (fun x hx => by simp at hx; subst hx; exact (ex_return ha).wf)
theorem wf_meth {w h : Nat} {a : T} (ha : Ex w h a) : Wf (mMeth a) := by
  refine wf_mk (ks := [mkFunc [mkParam (.str "p") a false false] [.tup [.str "return", a]]]) (kids_by (rule := "-e") (ruleOf_tab (by decide +kernel)) ?_) (inner_last (x := mkFunc [mkParam (.str "p") a false false] [.tup [.str "return", a]]) (by unfold member; rw [if_pos (.inl rfl)]) rfl) fun x hx => ?_
  · show partsBy (parts 1) [45, 101] [.tup [.str "public", .str "static"], mkFunc [mkParam (.str "p") a false false] [.tup [.str "return", a]]] = _
    have := (nd_func (ps := [mkParam (.str "p") a false false]) (body := [.tup [.str "return", a]])).partE
    simp [partsBy, partOf, tup_isNone, this]
  · simp at hx; subst hx; exact wf_mfunc ha
theorem wf_use : Wf mUse := by
  refine wf_mk (ks := []) (kids_by (rule := "--") (ruleOf_tab (by decide +kernel)) rfl) ?_ fun x hx => absurd hx List.not_mem_nil
  simp only [lawInner, if_neg (show ("use" : Str) ≠ ("func" : Str) by decide), if_neg (show ("use" : Str) ≠ ("param" : Str) by decide), if_neg (show ("use" : Str) ≠ ("decl" : Str) by decide)]
  rw [show member ("use" : Str) [.tup [.str "T"], .tup []] = some false from member_no]
  simp
theorem wf_case : Wf mCase := by
  refine wf_mk (ks := []) (kids_by (rule := "-e") (ruleOf_tab (by decide +kernel)) ?_) (inner_last (x := .none) (by unfold member; rw [if_pos (.inr rfl)]) rfl) fun x hx => absurd hx List.not_mem_nil
  show partsBy (parts 1) [45, 101] [.str "D", .none] = _
  simp [partsBy, partOf, none_isNone]

theorem num_held : T.wt mHeld = 24 ∧ T.ht mHeld ≤ 3 ∧ T.nice mHeld = true := by refine ⟨by decide, by decide, by decide⟩
theorem num_use : T.wt mUse = 9 ∧ T.ht mUse ≤ 3 ∧ T.nice mUse = true := by refine ⟨by decide, by decide, by decide⟩
theorem num_case : T.wt mCase = 9 ∧ T.ht mCase ≤ 3 ∧ T.nice mCase = true := by refine ⟨by decide, by decide, by decide⟩
theorem num_prop {w h : Nat} {a : T} (ha : Ex w h a) : T.wt (mProp a) = 23 + a.wt ∧ T.ht (mProp a) ≤ h + 2 ∧ T.nice (mProp a) = true := by
  have h1 : T.wt (.str "prop") = 5 := by decide
  have h2 : T.wt (.tup [.str "public"]) = 8 := by decide
  have h3 : T.wt (.tup [.str "array"]) = 7 := by decide
  have h4 : T.wt (.str "q") = 2 := by decide
  have n1 : T.nice (.str "prop") = true := by decide
  have n2 : T.nice (.tup [.str "public"]) = true := by decide
  have n3 : T.nice (.tup [.str "array"]) = true := by decide
  have n4 : T.nice (.str "q") = true := by decide
  have := ha.ht
  refine ⟨?_, ?_, ?_⟩
  · show 1 + (T.wt (.str "prop") + (T.wt (.tup [.str "public"]) + (T.wt (.tup [.str "array"]) + (T.wt (.str "q") + (a.wt + 0))))) = _
    rw [h1, h2, h3, h4]; omega
  · exact ht_tup_le (hts_cons_le ht_str_le (hts_cons_le (ht_tup_le (hts_cons_le ht_str_le hts_nil_le)) (hts_cons_le (ht_tup_le (hts_cons_le ht_str_le hts_nil_le)) (hts_cons_le ht_str_le (hts_cons_le (Nat.le_add_right_of_le this) hts_nil_le)))))
  · show (T.nice (.str "prop") && (T.nice (.tup [.str "public"]) && (T.nice (.tup [.str "array"]) && (T.nice (.str "q") && (a.nice && true))))) = true
    rw [n1, n2, n3, n4, ha.nice]; rfl
theorem num_meth {w h : Nat} {a : T} (ha : Ex w h a) : T.wt (mMeth a) = 79 + a.wt + a.wt ∧ T.ht (mMeth a) ≤ h + 6 ∧ T.nice (mMeth a) = true := by
  have h1 : T.wt (.str "method") = 7 := by decide
  have h2 : T.wt (.tup [.str "public", .str "static"]) = 15 := by decide
  have h3 : T.wt (.str "p") = 2 := by decide
  have h4 : T.wt (.tup [.str "return", a]) = 8 + a.wt := by
    have : T.wt (.str "return") = 7 := by decide
    simp only [zt_tup, wts, this]; omega
  have n1 : T.nice (.str "method") = true := by decide
  have n2 : T.nice (.tup [.str "public", .str "static"]) = true := by decide
  have n3 : T.nice (.str "p") = true := by decide
  have n4 : T.nice (.tup [.str "return", a]) = true := by
    have : T.nice (.str "return") = true := by decide
    simp only [nice_tup, nices, this, ha.nice, Bool.and_self]
  have := ha.ht
  have hf := wt_func (ps := [mkParam (.str "p") a false false]) (body := [.tup [.str "return", a]])
  have hfn := nice_func (ps := [mkParam (.str "p") a false false]) (body := [.tup [.str "return", a]]) (by
    show (T.nice (mkParam (.str "p") a false false) && true) = true
    rw [nice_param n3 ha.nice]; rfl) (by
    show (T.nice (.tup [.str "return", a]) && true) = true
    rw [n4]; rfl)
  refine ⟨?_, ?_, ?_⟩
  · show 1 + (T.wt (.str "method") + (T.wt (.tup [.str "public", .str "static"]) + (T.wt (mkFunc [mkParam (.str "p") a false false] [.tup [.str "return", a]]) + 0))) = _
    rw [hf, h1, h2]
    show 1 + (7 + (15 + (27 + (T.wt (mkParam (.str "p") a false false) + 0) + (T.wt (.tup [.str "return", a]) + 0) + 0))) = _
    rw [wt_param, h3, h4]; omega
  · exact ht_tup_le (hts_cons_le ht_str_le (hts_cons_le (ht_tup_le (hts_cons_le ht_str_le (hts_cons_le ht_str_le hts_nil_le))) (hts_cons_le (ht_func_le (h := h + 3) (hts_cons_le (ht_param_le (h := h + 1) ht_str_le (Nat.le_trans this (Nat.le_add_right h 2))) hts_nil_le) (hts_cons_le (ht_tup_le (hts_cons_le ht_str_le (hts_cons_le (Nat.le_add_right_of_le this) hts_nil_le))) hts_nil_le)) hts_nil_le)))
  · show (T.nice (.str "method") && (T.nice (.tup [.str "public", .str "static"]) && (T.nice (mkFunc [mkParam (.str "p") a false false] [.tup [.str "return", a]]) && true))) = true
    rw [n1, n2, hfn]; rfl

theorem ex_decl {w h : Nat} {a : T} (ha : Ex w h a) : Ex (3 * w + 300) (h + 8) (mDecl a) := by
  have hw := ha.wt
  obtain ⟨w1, t1, n1⟩ := num_held
  obtain ⟨w2, t2, n2⟩ := num_use
  obtain ⟨w3, t3, n3⟩ := num_case
  obtain ⟨w4, t4, n4⟩ := num_prop ha
  obtain ⟨w5, t5, n5⟩ := num_meth ha
  refine ⟨wf_mk (ks := [mHeld, mProp a, mMeth a, mUse, mCase]) (kids_by (rule := "------s") (ruleOf_tab (by decide +kernel)) ?_) rfl ?_, Nd.of, ?_, ?_, ?_⟩
  · show partsBy (parts 1) [45, 45, 45, 45, 45, 45, 115] [.str "class", .str "class@anonymous", .tup [], .none, .tup [], .none, .tup [mHeld, mProp a, mMeth a, mUse, mCase]] = _
    simp [partsBy, partOf, tup_isNone, partS]
  · intro x hx
    simp only [List.mem_cons, List.not_mem_nil, or_false] at hx
    rcases hx with rfl | rfl | rfl | rfl | rfl
    · exact wf_held
    · exact wf_prop ha
    · exact wf_meth ha
    · exact wf_use
    · exact wf_case
  · have e1 : T.nice (.str "decl") = true := by decide
    have e2 : T.nice (.str "class") = true := by decide
    have e3 : T.nice (.str "class@anonymous") = true := by decide
    show (T.nice (.str "decl") && (T.nice (.str "class") && (T.nice (.str "class@anonymous") && (true && (true && (true && (true && ((T.nice mHeld && (T.nice (mProp a) && (T.nice (mMeth a) && (T.nice mUse && (T.nice mCase && true))))) && true)))))))) = true
    rw [e1, e2, e3, n1, n2, n3, n4, n5]; rfl
  · have e1 : T.wt (.str "decl") = 5 := by decide
    have e2 : T.wt (.str "class") = 6 := by decide
    have e3 : T.wt (.str "class@anonymous") = 16 := by decide
    show 1 + (T.wt (.str "decl") + (T.wt (.str "class") + (T.wt (.str "class@anonymous") + ((1 + 0) + (1 + ((1 + 0) + (1 + ((1 + (T.wt mHeld + (T.wt (mProp a) + (T.wt (mMeth a) + (T.wt mUse + (T.wt mCase + 0)))))) + 0)))))))) ≤ _
    rw [e1, e2, e3, w1, w2, w3, w4, w5]; omega
  · have g : ∀ {n : Nat}, n ≤ 3 → n ≤ h + 6 := fun x => Nat.le_trans x (by omega)
    exact ht_tup_le (hts_cons_le ht_str_le (hts_cons_le ht_str_le (hts_cons_le ht_str_le (hts_cons_le (ht_tup_le hts_nil_le) (hts_cons_le ht_none_le (hts_cons_le (ht_tup_le hts_nil_le) (hts_cons_le ht_none_le (hts_cons_le (ht_tup_le (hts_cons_le (g t1) (hts_cons_le (Nat.le_trans t4 (by omega)) (hts_cons_le t5 (hts_cons_le (g t2) (hts_cons_le (g t3) hts_nil_le)))))) hts_nil_le))))))))

theorem ex_new {w h : Nat} {a : T} (ha : Ex w h a) : Ex (6 * w + 400) (h + 13) (.tup [.str "new", mDecl a, .tup [.tup [a, .bool false, .none]]]) := by
  have hd := ex_decl ha
  refine (ex_call (hd := [mDecl a]) (l := [.tup [a, .bool false, .none]]) (.inr rfl) hd.nd.partE rfl hd.nd.nodes rfl (fun x hx => by simp at hx; subst hx; exact hd.wf) hd.nice hd.wt hd.ht (w := w) (h := h) (fun e he => ?_) (by simp)).le (by omega) (by omega)
  simp at he; subst he
  exact ⟨a, false, .none, rfl, ha, .inl rfl⟩

/-- the calls drawn -/
theorem ex_callN {w h : Nat} {l : List T} (hl : ∀ e ∈ l, IsArg w h e) (hlen : l.length ≤ 3) : Ex (3 * w + 100) (h + 8) (.tup [.str "call", .tup [.str "name", .str "f"], .tup l]) :=
  (ex_call (hd := []) (w2 := 20) (h2 := 1) (.inl rfl) pe_name rfl nodes_name rfl (fun x hx => absurd hx List.not_mem_nil) (by decide) (by decide) (by decide) hl hlen).le (by omega) (by omega)
theorem ex_callV {w h : Nat} {l : List T} (hl : ∀ e ∈ l, IsArg w h e) (hlen : l.length ≤ 3) : Ex (3 * w + 100) (h + 8) (.tup [.str "call", .tup [.str "var", .str "z"], .tup l]) :=
  (ex_call (hd := [.tup [.str "var", .str "z"]]) (.inl rfl) ex_vz.nd.partE rfl ex_vz.nd.nodes rfl (fun x hx => by simp at hx; subst hx; exact ex_vz.wf) ex_vz.nice ex_vz.wt ex_vz.ht hl hlen).le (by omega) (by omega)

end

section
set_option maxHeartbeats 8000000
variable {X : Cx} {d : Nat} {mem : Mem}


theorem fn_mk_func {a : Nat → Addr} (F : Fns X a) {ps body : T} {d : Nat} (hd : 1 ≤ d) {K : PV → Mem → Prop} (k : K (.t (.tup [.str "func", .str "{closure}", ps, .tup [.str "array"], body, .bool false, .bool false])) mem) : OP X d (fcall (a 12)) [.t ps, .t body] mem K := by
  obtain ⟨d, rfl⟩ : ∃ e, d = e + 1 := ⟨d - 1, by omega⟩
  refine fn_enter (ns := ["params", "body"]) (F.D 12 (by decide)) (by walk_at "mine binds_tac") (by walk_at "mine kinds_tac") (by decide) (by walk_at "mine plains_tac") (fun pm code doc L => ?_)
  walk_at "mine lit6"
  walk_at "mine ww"; walk_at "mine tp"; walk_at "mine ww"; walk_at "mine tp"
  exact ⟨mem, Le.refl _, k⟩

theorem fn_mk_param {a : Nat → Addr} (F : Fns X a) {n dd r v : T} {d : Nat} (hd : 1 ≤ d) {K : PV → Mem → Prop} (k : K (.t (.tup [.str "param", n, .tup [.str "static"], dd, r, v, .str "", .bool false])) mem) : OP X d (fcall (a 13)) [.t n, .t dd, .t r, .t v] mem K := by
  obtain ⟨d, rfl⟩ : ∃ e, d = e + 1 := ⟨d - 1, by omega⟩
  refine fn_enter (ns := ["name", "default", "is_ref", "is_variadic"]) (F.D 13 (by decide)) (by walk_at "mine binds_tac") (by walk_at "mine kinds_tac") (by decide) (by walk_at "mine plains_tac") (fun pm code doc L => ?_)
  walk_at "mine lit6"
  walk_at "mine ww"; walk_at "mine tp"; walk_at "mine ww"; walk_at "mine tp"
  exact ⟨mem, Le.refl _, k⟩

theorem Drw.le {mem mem' : Mem} {sc at_ : Addr} {p : Nat} (D : Drw mem sc at_ p) (h : Le mem mem') : Drw mem' sc at_ p :=
  ⟨D.ne, let ⟨ns, h1, h2⟩ := D.scr; ⟨ns, h1, h _ _ h2⟩, h _ _ D.at_⟩
theorem Drw.next {mem : Mem} {sc at_ : Addr} {p q : Nat} (D : Drw mem sc at_ p) : Drw (upd mem at_ [.int (q : Int)]) sc at_ q :=
  ⟨D.ne, let ⟨ns, h1, h2⟩ := D.scr; ⟨ns, h1, by rw [upd_ne D.ne]; exact h2⟩, upd_same⟩

/-- draws, heights and weights by depth -/
noncomputable def cN : Nat → Nat
  | 0 => 2
  | n + 1 => 2 * cN n + 14
noncomputable def wN : Nat → Nat
  | 0 => 40
  | n + 1 => 6 * wN n + 400
noncomputable def hN : Nat → Nat
  | 0 => 2
  | n + 1 => hN n + 13
theorem cN_le : ∀ {m n : Nat}, m ≤ n → cN m ≤ cN n := by
  intro m n h
  induction h with
  | refl => exact Nat.le_refl _
  | step _ ih => simp only [cN]; omega
theorem wN_le : ∀ {m n : Nat}, m ≤ n → wN m ≤ wN n := by
  intro m n h
  induction h with
  | refl => exact Nat.le_refl _
  | step _ ih => simp only [wN]; omega
theorem hN_le : ∀ {m n : Nat}, m ≤ n → hN m ≤ hN n := by
  intro m n h
  induction h with
  | refl => exact Nat.le_refl _
  | step _ ih => simp only [hN]; omega

/-- the contract of _law_expr at a depth -/
noncomputable def CE (X : Cx) (a : Nat → Addr) (n : Nat) : Prop := ∀ {sc at_ : Addr} {p d : Nat} {mem : Mem} {K : PV → Mem → Prop}, Drw mem sc at_ p → p + cN n ≤ 900000 → 10 + 2 * n ≤ d →
  (∀ t q, p ≤ q → q ≤ p + cN n → Ex (wN n) (hN n) t → K (.t t) (upd mem at_ [.int (q : Int)])) → OP X d (fcall (a 15)) [.l sc, .l at_, .t (.int (n : Int))] mem K
/-- the contract of _law_scope -/
noncomputable def CS (X : Cx) (a : Nat → Addr) (n : Nat) : Prop := ∀ {sc at_ : Addr} {p d : Nat} {i : Int} {mem : Mem} {K : PV → Mem → Prop}, Drw mem sc at_ p → p + (cN n + 9) ≤ 900000 → 11 + 2 * n ≤ d → 0 ≤ i → i ≤ 5 →
  (∀ t q, p ≤ q → q ≤ p + (cN n + 9) → Ex (6 * wN n + 400) (hN n + 13) t → K (.t t) (upd mem at_ [.int (q : Int)])) → OP X d (fcall (a 16)) [.l sc, .l at_, .t (.int i), .t (.int (n : Int))] mem K

end

section
set_option maxHeartbeats 8000000
variable {X : Cx} {d : Nat} {mem : Mem}


theorem xyz_get {v : Int} (h0 : 0 ≤ v) (h3 : v < 3) : ∃ x, ([T.str "x", T.str "y", T.str "z"] : List T)[v.toNat]? = some (.str x) ∧ isXyz x := by
  have : v = 0 ∨ v = 1 ∨ v = 2 := by omega
  rcases this with rfl | rfl | rfl
  · exact ⟨_, rfl, .inl rfl⟩
  · exact ⟨_, rfl, .inr (.inl rfl)⟩
  · exact ⟨_, rfl, .inr (.inr rfl)⟩
theorem rng_len (n : Nat) : (rng n).length = n := by simp [rng]
theorem rng_mem {n : Nat} {t : T} (h : t ∈ rng n) : ∃ j : Nat, t = .int (j : Int) := by
  simp only [rng, List.mem_map] at h
  obtain ⟨j, _, rfl⟩ := h
  exact ⟨j, rfl⟩

theorem wN_ge : ∀ n, 40 ≤ wN n
  | 0 => by decide
  | n + 1 => by have := wN_ge n; simp only [wN]; omega
theorem hN_ge : ∀ n, 2 ≤ hN n
  | 0 => by decide
  | n + 1 => by have := hN_ge n; simp only [hN]; omega

theorem cs_of {a : Nat → Addr} (F : Fns X a) {n : Nat} (he : CE X a n) : CS X a n := by
  intro sc at_ p d i mem K D hp hd h0 h5 k
  have B := F.B
  have hs0 := sizeLine_eq
  obtain ⟨d, rfl⟩ : ∃ e, d = e + 1 := ⟨d - 1, by omega⟩
  refine fn_enter' (ns := ["script", "at", "sort", "deep"]) (F.D 16 (by decide)) (by walk_at "mine binds_tac") (by walk_at "mine kinds_tac") (by decide) (by walk_at "mine plains_tac") (fun pm code doc L K' hR _ => ?_)
  walk_at "mine lit6"
  walk_at "mine w1"
  refine ws_assign ?_ (.inl rfl)
  refine we_call (F.D 15 (by decide)) ?_
  walk_at "mine ww"
  refine he D (by omega) (by omega) fun t q hq1 hq2 ex => ⟨trivial, ?_⟩
  walk_at "mine w1"
  refine ws_assign ?_ (.inr ⟨rfl, rfl, ⟨_, rfl⟩⟩)
  walk_at "mine ww"; walk_at "mine tp"
  intro nm hnm
  refine ⟨trivial, ?_⟩
  have D1 : Drw (upd mem at_ [.int (q : Int)]) sc at_ q := D.next
  have hna : nm ≠ at_ := by rintro rfl; rw [upd_same] at hnm; cases hnm
  have hnm0 : mem nm = none := by rw [upd_ne hna] at hnm; exact hnm
  generalize hm2 : upd (upd mem at_ [T.int (q : Int)]) nm [T.str "x", T.str "y", T.str "z"] = mem2
  have hM : ∀ r : Int, Le (upd mem at_ [.int r]) (upd mem2 at_ [.int r]) := fun r => by rw [← hm2]; exact upd_extend hnm
  have D2 : ∀ r : Nat, Drw (upd mem2 at_ [.int (r : Int)]) sc at_ r := fun r => (D.next (q := r)).le (hM r)
  have hself : upd mem2 at_ [.int (q : Int)] = mem2 := upd_self (by rw [← hm2, upd_ne (Ne.symm hna), upd_same])
  have hnm2 : ∀ r : Int, (upd mem2 at_ [.int r]) nm = some [T.str "x", T.str "y", T.str "z"] := fun r => by rw [upd_ne hna, ← hm2, upd_same]
  rw [← hself]
  have fin : ∀ (t' : T) (r : Nat) (m : Mem), p ≤ r → r ≤ p + (cN n + 9) → Ex (6 * wN n + 400) (hN n + 13) t' → Le (upd mem2 at_ [.int (r : Int)]) m → ∀ {ρ}, K' (.ret (.t t')) ρ m := fun t' r m h1 h2 h3 h4 _ => hR _ _ _ _ ((hM r).trans h4) (k t' r h1 h2 h3)
  clear k hR
  walk_at "mine ww"; walk_at "mine o1"
  refine ⟨_, rfl, ?_⟩
  by_cases hi0 : i = 0
  · subst hi0
    refine ifP rfl ?_
    walk_at "mine w1"
    refine ws_assign ?_ (.inl rfl)
    refine we_tcall B.tup ?_
    walk_at "mine w1"
    refine we_compC [("names", .l nm), ("script", .l sc), ("at", .l at_)] rfl (by walk_at "mine csub") (by walk_at "mine cvars") ?_
    refine we_tcall B.rge ?_
    walk_at "mine w1"
    refine we_call (F.D 11 (by decide)) ?_
    walk_at "mine ww"
    refine fn_draw F (D2 q) (by omega) (by decide) (by omega) fun v hv0 hv3 => ?_
    obtain ⟨v, rfl⟩ : ∃ k : Nat, v = (k : Int) := ⟨v.toNat, by omega⟩
    rw [upd_upd]
    walk_at "mine w1"
    refine op_range ?_
    refine ⟨_, _, Items.rng (by omega), fun C => ?_⟩
    refine ci_inv' (fun ts ρ m acc => ∃ r : Nat, acc.length + ts.length = v ∧ (∀ t ∈ ts, ∃ j : Nat, t = .int (j : Int)) ∧ (∀ u ∈ acc, IsUse u) ∧ q ≤ r ∧ r ≤ q + 1 + acc.length ∧ m = upd mem2 at_ [.int (r : Int)] ∧
      ρ.lookup ("names" : Str) = some (.l nm) ∧ ρ.lookup ("script" : Str) = some (.l sc) ∧ ρ.lookup ("at" : Str) = some (.l at_)) ?_ ?_ _ _ _ _
      ⟨q + 1, by rw [rng_len]; simp, fun t ht => rng_mem ht, by simp, by omega, by simp, rfl, rfl, rfl, rfl⟩
    · rintro t0 ts ρ m acc ⟨r, hlen, hts, hacc, hr1, hr2, rfl, l1, l2, l3⟩
      rw [List.length_cons] at hlen
      obtain ⟨j, rfl⟩ := hts t0 List.mem_cons_self
      refine as_name (.inl rfl) fun KE hKE => ?_
      walk_at "mine w1"; walk_at "mine w1"; walk_at "mine w1"
      refine we_name (show List.lookup _ _ = _ from l1) ?_
      refine we_call (F.D 11 (by decide)) ?_
      walk_at "mine w1"
      refine we_name (show List.lookup _ _ = _ from l2) ?_
      walk_at "mine w1"
      refine we_name (show List.lookup _ _ = _ from l3) ?_
      walk_at "mine ww"
      refine fn_draw F (D2 r) (by omega) (by decide) (by omega) fun v' hv'0 hv'3 => ?_
      rw [upd_upd]
      obtain ⟨x, hx1, hx2⟩ := xyz_get hv'0 hv'3
      refine op_sub_list (hnm2 _) hv'0 hx1 (by omega) ?_
      walk_at "mine ww"; walk_at "mine o1"; walk_at "mine ww"; walk_at "mine tp"
      refine hKE _ _ _ (by omega) (Le.refl _) ⟨r + 1, by rw [List.length_append]; simp; omega, fun t ht => hts t (List.mem_cons_of_mem _ ht), fun u hu => ?_, by omega, by rw [List.length_append]; simp; omega, rfl, l1, l2, l3⟩
      rcases List.mem_append.mp hu with h | h
      · exact hacc u h
      · simp at h; subst h; exact ⟨x, _, rfl, hx2⟩
    · rintro ρ m acc ⟨r, hlen, hts, hacc, hr1, hr2, rfl, l1, l2, l3⟩
      rw [List.length_nil, Nat.add_zero] at hlen
      refine ⟨_, Le.refl _, fun c hc => ?_⟩
      walk_at "mine w1"
      refine op_tuple_list upd_same (by omega) ⟨trivial, ?_⟩
      walk_at "mine ww"
      refine we_call (F.D 12 (by decide)) ?_
      walk_at "mine ww"; walk_at "mine tp"; walk_at "mine ww"; walk_at "mine tp"; walk_at "mine ww"; walk_at "mine tp"; walk_at "mine ww"; walk_at "mine tp"; walk_at "mine ww"; walk_at "mine tp"; walk_at "mine ww"
      refine fn_mk_func F (by omega) ?_
      walk_at "mine ww"; walk_at "mine tp"
      have hecho := ex_echo ex
      have hret := ex_returnn (w := 0) (h := 0)
      refine fin _ r _ (by omega) (by omega) ?_ (Le.upd hc)
      refine (ex_closure (w := 4 * wN n + 60 + 60) (h := hN n + 4) hacc (by omega) (body := [.tup [.str "echo", .tup [t]], .tup [.str "return", .none]]) (fun x hx => ?_) ?_ ?_ ?_).le (by omega) (by omega)
      · simp only [List.mem_cons, List.not_mem_nil, or_false] at hx
        rcases hx with rfl | rfl
        · exact hecho.wf
        · exact hret.wf
      · show (T.nice (.tup [.str "echo", .tup [t]]) && (T.nice (.tup [.str "return", .none]) && true)) = true
        rw [hecho.nice, hret.nice]; rfl
      · have := hecho.wt; have := hret.wt; simp only [wts]; omega
      · have := hecho.ht; have := hret.ht; simp only [Mine.hts]; omega
  have yes12 : (i = 1 ∨ i = 2) → ∀ (K2 : FV → Vars → Mem → Prop), (∀ pv ρ m, K' (.ret pv) ρ m → K2 (.ret pv) ρ m) → WSs X d (fenv (nmAt 16) (prAt 16) (bdAt 16) (scAt 16) pm code doc L (a 16))
      [("names", .l nm), ("a", .t t), ("script", .l sc), ("at", .l at_), ("sort", .t (.int i)), ("deep", .t (.int (n : Int)))] (upd mem2 at_ [.int (q : Int)]) (ifBody (bdAt 16) 3) K2 := fun hi K2 hK2 => by
    walk_at "mine lit6"
    walk_at "mine w1"
    refine ws_assign ?_ (.inl rfl)
    walk_at "mine ww"; walk_at "mine tp"
    intro pl hpl
    refine ⟨trivial, ?_⟩
    have hpa : pl ≠ at_ := by rintro rfl; rw [upd_same] at hpl; cases hpl
    have hpl2 : mem2 pl = none := by rw [upd_ne hpa] at hpl; exact hpl
    have hDr : ∀ (r : Nat) (P : List T), Drw (upd (upd mem2 at_ [.int (r : Int)]) pl P) sc at_ r := fun r P => (D2 r).le (Le.upd (by rw [upd_ne hpa]; exact hpl2))
    have hup : ∀ (r r' : Int) (P : List T), upd (upd (upd mem2 at_ [.int r]) pl P) at_ [.int r'] = upd (upd mem2 at_ [.int r']) pl P := fun r r' P => by rw [upd_comm hpa, upd_upd]
    have hnp : nm ≠ pl := by rintro rfl; have e9 := (hnm2 q).symm.trans hpl; cases e9
    have hnmP : ∀ (r : Int) (P : List T), (upd (upd mem2 at_ [.int r]) pl P) nm = some [T.str "x", T.str "y", T.str "z"] := fun r P => by rw [upd_ne hnp]; exact hnm2 r
    walk_at "mine w1"
    refine ws_for ?_
    refine we_tcall B.rge ?_
    walk_at "mine w1"
    refine we_call (F.D 11 (by decide)) ?_
    walk_at "mine ww"
    refine fn_draw F (hDr q []) (by omega) (by decide) (by omega) fun v hv0 hv3 => ?_
    obtain ⟨v, rfl⟩ : ∃ k : Nat, v = (k : Int) := ⟨v.toNat, by omega⟩
    rw [hup]
    walk_at "mine w1"
    refine op_range ?_
    refine ⟨_, _, Items.rng (by omega), ?_⟩
    refine for_inv' (fun ts ρ m => ∃ (r : Nat) (P : List T), P.length + ts.length = v ∧ (∀ t ∈ ts, ∃ j : Nat, t = .int (j : Int)) ∧ (∀ p ∈ P, IsPar p) ∧ q ≤ r ∧ r ≤ q + 1 + 2 * P.length ∧ m = upd (upd mem2 at_ [.int (r : Int)]) pl P ∧
      ρ = ([("params", .l pl), ("names", .l nm), ("a", .t t), ("script", .l sc), ("at", .l at_), ("sort", .t (.int i)), ("deep", .t (.int (n : Int)))] : Vars)) ?_ ?_ _ _ _
      ⟨q + 1, [], by rw [rng_len]; simp, fun t ht => rng_mem ht, by simp, by omega, by simp, rfl, rfl⟩
    · rintro t0 ts ρ m ⟨r, P, hlen, hts, hP, hr1, hr2, rfl, rfl⟩ K3 hK3 -
      rw [List.length_cons] at hlen
      obtain ⟨j, rfl⟩ := hts t0 List.mem_cons_self
      refine as_name (.inl rfl) ?_
      walk_at "mine w1"
      refine ws_assign ?_ (.inl rfl)
      walk_at "mine w1"; walk_at "mine w1"
      refine we_call (F.D 11 (by decide)) ?_
      walk_at "mine ww"
      refine fn_draw F (hDr r P) (by omega) (by decide) (by omega) fun v' hv'0 hv'2 => ?_
      rw [hup]
      walk_at "mine ww"; walk_at "mine o1"
      refine ⟨_, rfl, ?_⟩
      have go : ∀ (dd : T), (dd = .none ∨ dd = .tup [.str "const", .str "D"]) → WSs X d (fenv (nmAt 16) (prAt 16) (bdAt 16) (scAt 16) pm code doc L (a 16))
          [("default", .t dd), ("k", .t (.int (j : Int))), ("params", .l pl), ("names", .l nm), ("a", .t t), ("script", .l sc), ("at", .l at_), ("sort", .t (.int i)), ("deep", .t (.int (n : Int)))] (upd (upd mem2 at_ [.int ((r + 1 : Nat) : Int)]) pl P) ((match (ifBody (bdAt 16) 3)[1]? with | some (Stmt.For _ _ b _ _) => b | _ => []).drop 1)
          K3 := fun dd hdd => by
        walk_at "mine lit6"
        walk_at "mine w1"
        refine ws_expr ?_
        refine we_meth1 PySem.F.slot_list_append PySem.F.type_list_append ?_
        walk_at "mine w1"
        refine ⟨pl, _, rfl, upd_same, ?_⟩
        walk_at "mine w1"
        refine we_call (F.D 13 (by decide)) ?_
        walk_at "mine ww"
        refine we_call (F.D 11 (by decide)) ?_
        walk_at "mine ww"
        refine fn_draw F (hDr (r + 1) P) (by omega) (by decide) (by omega) fun v'' hv''0 hv''3 => ?_
        rw [hup]
        obtain ⟨x, hx1, hx2⟩ := xyz_get hv''0 hv''3
        refine op_sub_list (hnmP _ _) hv''0 hx1 (by omega) ?_
        walk_at "mine ww"; walk_at "mine o1"; walk_at "mine ww"; walk_at "mine o1"; walk_at "mine ww"
        refine fn_mk_param F (by omega) ?_
        walk_at "mine w1"
        refine op_append upd_same (by omega) ?_
        refine ⟨rfl, ?_⟩
        rw [upd_upd]
        walk_at "mine wn"
        refine (hK3 _ _ _ _ (by walk_at "mine subs") (Le.refl _) ⟨r + 1 + 1, P ++ [_], by rw [List.length_append]; simp; omega, fun t ht => hts t (List.mem_cons_of_mem _ ht), fun u hu => ?_, by omega, by rw [List.length_append]; simp; omega, rfl, rfl⟩).1
        rcases List.mem_append.mp hu with h | h
        · exact hP u h
        · simp only [List.mem_singleton] at h; subst h; exact ⟨x, dd, _, _, rfl, hx2, hdd⟩
      by_cases hv1 : v' = 1
      · subst hv1
        refine ifP rfl ?_
        walk_at "mine ww"; walk_at "mine tp"
        refine ⟨trivial, ?_⟩
        exact go _ (.inr rfl)
      · refine ifN (by simpa using hv1) ?_
        walk_at "mine w1"
        refine ⟨trivial, ?_⟩
        exact go _ (.inl rfl)
    · rintro ρ m ⟨r, P, hlen, hts, hP, hr1, hr2, rfl, rfl⟩
      rw [List.length_nil, Nat.add_zero] at hlen
      walk_at "mine ww"
      refine we_call (F.D 12 (by decide)) ?_
      walk_at "mine w1"
      refine we_tcall B.tup ?_
      walk_at "mine ww"
      refine op_tuple_list upd_same (by omega) ?_
      walk_at "mine ww"; walk_at "mine tp"; walk_at "mine ww"; walk_at "mine tp"; walk_at "mine ww"
      refine fn_mk_func F (by omega) ?_
      walk_at "mine ww"; walk_at "mine o1"; walk_at "mine ww"; walk_at "mine tp"
      refine hK2 _ _ _ (fin _ r _ (by omega) (by omega) ?_ (Le.upd (by rw [upd_ne hpa]; exact hpl2)))
      exact (ex_arrow hP (by omega) (ex_return ex)).le (by omega) (by omega)
  refine ifN (by simpa using hi0) ?_
  walk_at "mine ww"; walk_at "mine o1"
  refine ⟨_, rfl, ?_⟩
  by_cases hi1 : i = 1
  · refine ifP (by simpa using hi1) ?_
    refine ifP rfl ?_
    refine yes12 (.inl hi1) _ ?_
    exact fun pv ρ m h => h
  refine ifN (by simpa using hi1) ?_
  walk_at "mine ww"; walk_at "mine o1"
  refine ⟨_, rfl, ?_⟩
  by_cases hi2 : i = 2
  · refine ifP (by simpa using hi2) ?_
    refine yes12 (.inr hi2) _ ?_
    exact fun pv ρ m h => h
  refine ifN (by simpa using hi2) ?_
  have hwg := wN_ge n
  have hhg := hN_ge n
  walk_at "mine ww"; walk_at "mine o1"
  refine ⟨_, rfl, ?_⟩
  by_cases hi3 : i = 3
  · refine ifP (by simpa using hi3) ?_
    walk_at "mine w1"
    refine ws_assign ?_ (.inl rfl)
    walk_at "mine ww"; walk_at "mine tp"; walk_at "mine ww"; walk_at "mine tp"; walk_at "mine ww"; walk_at "mine tp"; walk_at "mine ww"; walk_at "mine tp"; walk_at "mine ww"; walk_at "mine tp"
    refine ⟨trivial, ?_⟩
    walk_at "mine w1"
    refine ws_assign ?_ (.inl rfl)
    walk_at "mine ww"; walk_at "mine tp"; walk_at "mine ww"; walk_at "mine tp"; walk_at "mine ww"; walk_at "mine tp"
    intro e he
    have hea : e ≠ at_ := by rintro rfl; rw [upd_same] at he; cases he
    refine we_call (F.D 11 (by decide)) ?_
    walk_at "mine ww"
    refine fn_draw F ((D2 q).le (Le.upd he)) (by omega) (by decide) (by omega) fun v hv0 hv2 => ?_
    have hlist : (upd (upd (upd mem2 at_ [T.int (q : Int)]) e [T.tup [T.str "name", T.str "f"], T.tup [T.str "var", T.str "z"]]) at_ [T.int ((q + 1 : Nat) : Int)]) e = some [T.tup [T.str "name", T.str "f"], T.tup [T.str "var", T.str "z"]] := by
      rw [upd_ne hea, upd_same]
    have hargs : ∀ k : Nat, ∀ x ∈ ([T.tup [t, .bool false, .none], .tup [.tup [.str "var", .str "x"], .bool true, .none], .tup [t, .bool false, .str "y"]] : List T).take k, IsArg (wN n) (hN n) x := fun k x hx => by
      have hx := List.mem_of_mem_take hx
      simp only [List.mem_cons, List.not_mem_nil, or_false] at hx
      rcases hx with rfl | rfl | rfl
      · exact ⟨_, _, _, rfl, ex, .inl rfl⟩
      · exact ⟨_, _, _, rfl, ex_vx.le (by omega) (by omega), .inl rfl⟩
      · exact ⟨_, _, _, rfl, ex, .inr rfl⟩
    have go : ∀ (who : T), (∀ l : List T, (∀ x ∈ l, IsArg (wN n) (hN n) x) → l.length ≤ 3 → Ex (3 * wN n + 100) (hN n + 8) (.tup [.str "call", who, .tup l])) →
        WSs X d (fenv (nmAt 16) (prAt 16) (bdAt 16) (scAt 16) pm code doc L (a 16))
          [("holder", .t who), ("args", .t (.tup [T.tup [t, .bool false, .none], .tup [.tup [.str "var", .str "x"], .bool true, .none], .tup [t, .bool false, .str "y"]])), ("names", .l nm), ("a", .t t), ("script", .l sc), ("at", .l at_), ("sort", .t (.int i)), ("deep", .t (.int (n : Int)))]
          (upd (upd (upd mem2 at_ [T.int (q : Int)]) e [T.tup [T.str "name", T.str "f"], T.tup [T.str "var", T.str "z"]]) at_ [T.int ((q + 1 : Nat) : Int)]) ((ifBody (bdAt 16) 4).drop 2)
          (fun fv ρ m => match fv with | .next => False | f => K' f ρ m) := fun who hwho => by
      walk_at "mine lit6"
      walk_at "mine ww"
      refine we_call (F.D 11 (by decide)) ?_
      walk_at "mine ww"
      refine fn_draw F (((D2 q).le (Le.upd he)).next) (by omega) (by decide) (by omega) fun v hv0 hv4 => ?_
      obtain ⟨v, rfl⟩ : ∃ k : Nat, v = (k : Int) := ⟨v.toNat, by omega⟩
      rw [upd_upd]
      refine ⟨_, rfl, ?_⟩
      refine op_upto_tup (k := v) (show 3 ≤ sizeLine by decide) ?_
      walk_at "mine ww"; walk_at "mine tp"
      refine fin _ (q + 1 + 1) _ (by omega) (by omega) ?_ (upd_extend he)
      refine (hwho _ (hargs v) ?_).le (by omega) (by omega)
      rw [List.length_take]; simp; omega
    have conv : ∀ {env : Env} {ρ : Vars} {m : Mem} {st : List Stmt} {K1 K2 : FV → Vars → Mem → Prop}, WSs X d env ρ m st K1 → (∀ fv ρ m, K1 fv ρ m → K2 fv ρ m) → WSs X d env ρ m st K2 := fun h k => h.drop fun fv ρ m h => ⟨ρ, m, Sub.refl _, Le.refl _, k fv ρ m h⟩
    have hv : v = 0 ∨ v = 1 := by omega
    rcases hv with rfl | rfl
    · refine op_sub_list (t := T.tup [T.str "name", T.str "f"]) hlist (by decide) rfl (by decide) ⟨trivial, ?_⟩
      refine conv (go _ fun l h1 h2 => ex_callN h1 h2) fun fv ρ m h => ?_
      cases fv with
      | next => exact h.elim
      | _ => exact h
    · refine op_sub_list (t := T.tup [T.str "var", T.str "z"]) hlist (by decide) rfl (by decide) ⟨trivial, ?_⟩
      refine conv (go _ fun l h1 h2 => ex_callV h1 h2) fun fv ρ m h => ?_
      cases fv with
      | next => exact h.elim
      | _ => exact h
  refine ifN (by simpa using hi3) ?_
  walk_at "mine ww"; walk_at "mine o1"
  refine ⟨_, rfl, ?_⟩
  by_cases hi4 : i = 4
  · refine ifP (by simpa using hi4) ?_
    walk_at "mine w1"
    refine ws_assign ?_ (.inl rfl)
    walk_at "mine ww"; walk_at "mine tp"; walk_at "mine ww"; walk_at "mine tp"; walk_at "mine ww"; walk_at "mine tp"
    refine ⟨trivial, ?_⟩
    walk_at "mine w1"
    refine ws_assign ?_ (.inl rfl)
    walk_at "mine ww"; walk_at "mine tp"; walk_at "mine ww"
    refine we_call (F.D 12 (by decide)) ?_
    walk_at "mine ww"
    refine we_call (F.D 13 (by decide)) ?_
    walk_at "mine ww"
    refine fn_mk_param F (by omega) ?_
    walk_at "mine ww"; walk_at "mine tp"; walk_at "mine ww"; walk_at "mine tp"; walk_at "mine ww"; walk_at "mine tp"; walk_at "mine ww"
    refine fn_mk_func F (by omega) ?_
    walk_at "mine ww"; walk_at "mine tp"
    refine ⟨trivial, ?_⟩
    walk_at "mine w1"
    refine ws_assign ?_ (.inl rfl)
    walk_at "mine ww"; walk_at "mine tp"; walk_at "mine ww"; walk_at "mine tp"; walk_at "mine ww"; walk_at "mine tp"; walk_at "mine ww"; walk_at "mine tp"; walk_at "mine ww"; walk_at "mine tp"; walk_at "mine ww"; walk_at "mine tp"; walk_at "mine ww"; walk_at "mine tp"; walk_at "mine ww"; walk_at "mine tp"
    refine ⟨trivial, ?_⟩
    walk_at "mine ww"; walk_at "mine tp"; walk_at "mine ww"; walk_at "mine tp"; walk_at "mine ww"; walk_at "mine tp"; walk_at "mine ww"; walk_at "mine tp"; walk_at "mine ww"; walk_at "mine tp"; walk_at "mine ww"; walk_at "mine tp"
    refine fin _ q _ (by omega) (by omega) ?_ (Le.refl _)
    exact ex_new ex
  refine ifN (by simpa using hi4) ?_
  walk_at "mine ww"; walk_at "mine tp"; walk_at "mine ww"; walk_at "mine tp"; walk_at "mine ww"; walk_at "mine tp"; walk_at "mine ww"; walk_at "mine tp"; walk_at "mine ww"; walk_at "mine tp"
  intro e he
  have hea : e ≠ at_ := by rintro rfl; have e9 := upd_same.symm.trans he; cases e9
  refine we_call (F.D 11 (by decide)) ?_
  walk_at "mine ww"
  refine fn_draw F ((D2 q).le (Le.upd he)) (by omega) (by decide) (by omega) fun v hv0 hv3 => ?_
  have hv : v = 0 ∨ v = 1 ∨ v = 2 := by omega
  rcases hv with rfl | rfl | rfl
  · refine op_sub_list ((upd_ne hea).trans upd_same) (by decide) rfl (by decide) ?_
    exact fin _ (q + 1) _ (by omega) (by omega) ((ex_yield ex).le (by omega) (by omega)) (upd_extend he)
  · refine op_sub_list ((upd_ne hea).trans upd_same) (by decide) rfl (by decide) ?_
    exact fin _ (q + 1) _ (by omega) (by omega) ((ex_yieldfrom ex).le (by omega) (by omega)) (upd_extend he)
  · refine op_sub_list ((upd_ne hea).trans upd_same) (by decide) rfl (by decide) ?_
    exact fin _ (q + 1) _ (by omega) (by omega) ((ex_mcall ex).le (by omega) (by omega)) (upd_extend he)

end

section
set_option maxHeartbeats 8000000

noncomputable abbrev rowsL (a b : T) : List T := [.tup [.str "bin", .str ".", a, b], .tup [.str "and", a, b], .tup [.str "or", b, a], .tup [.str "coalesce", a, b], .tup [.str "if", a, .none, b], .tup [.str "if", a, b, a], .tup [.str "dim", a, b], .tup [.str "dim", a, .none],
  .tup [.str "prop", a, b, .bool true], .tup [.str "sprop", .tup [.str "name", .str "A"], b], .tup [.str "sprop", a, b], .tup [.str "cconst", a, .str "X"], .tup [.str "assign", .tup [.str "dim", b, a], a], .tup [.str "assignop", .str "+", a, b], .tup [.str "assignref", a, b],
  .tup [.str "incdec", .str "++", .bool true, a], .tup [.str "match", a, .tup [.tup [.tup [a, b], b], .tup [.none, a]]], .tup [.str "array", .tup [.tup [a, b, .bool false, .bool false], .tup [.none, a, .bool true, .bool false]]],
  .tup [.str "template", .tup [.tup [.str "lit", .str "var"], a, b]], .tup [.str "isset", .tup [a, b]], .tup [.str "instanceof", a, .tup [.str "name", .str "A"]], .tup [.str "varvar", a]]

theorem Ex.up {w h : Nat} {t : T} (x : Ex (4 * w + 60) (h + 4) t) : Ex (6 * w + 60) (h + 6) t := x.le (by omega) (by omega)
theorem allX_cons {P : T → Prop} {x : T} {r : List T} (a : P x) (b : ∀ t ∈ r, P t) : ∀ t ∈ x :: r, P t := List.forall_mem_cons.mpr ⟨a, b⟩
theorem rows_all {w h : Nat} {a b : T} (ha : Ex w h a) (hb : Ex w h b) : ∀ t ∈ rowsL a b, Ex (6 * w + 60) (h + 6) t := by
  refine allX_cons (ex_bin ha hb).up <| allX_cons (ex_and ha hb).up <| allX_cons (ex_or ha hb).up <| allX_cons (ex_coalesce ha hb).up <| allX_cons (ex_ifn ha hb).up <| allX_cons (ex_if ha hb).up <| allX_cons (ex_dim ha hb).up <| allX_cons (ex_dimn ha).up <| allX_cons (ex_prop ha hb).up <| allX_cons (ex_spropn hb).up <| allX_cons (ex_sprop ha hb).up <| allX_cons (ex_cconst ha).up <| allX_cons ((ex_assignd ha hb).le ?_ ?_) <| allX_cons (ex_assignop ha hb).up <| allX_cons (ex_assignref ha hb).up <| allX_cons (ex_incdec ha).up <| allX_cons ((ex_match ha hb).le ?_ ?_) <| allX_cons (ex_array ha hb).up <| allX_cons (ex_template ha hb).up <| allX_cons (ex_isset ha hb).up <| allX_cons (ex_instanceof ha).up <| allX_cons (ex_varvar ha).up fun _ h => absurd h List.not_mem_nil
  all_goals omega
theorem rows_ex {w h : Nat} {a b : T} (ha : Ex w h a) (hb : Ex w h b) {v : Int} (h0 : 0 ≤ v) (h1 : v < 22) : ∃ t, (rowsL a b)[v.toNat]? = some t ∧ Ex (6 * w + 60) (h + 6) t := by
  have hl : v.toNat < (rowsL a b).length := show v.toNat < 22 by omega
  exact ⟨_, List.getElem?_eq_getElem hl, rows_all ha hb _ (List.getElem_mem hl)⟩

variable {X : Cx} {d : Nat} {mem : Mem}

theorem var_get {v : Int} (h0 : 0 ≤ v) (h5 : v < 5) : ∃ x, ([T.str "x", T.str "y", T.str "z", T.str "w", T.str "this"] : List T)[v.toNat]? = some (.str x) ∧ Ex 20 1 (.tup [.str "var", .str x]) := by
  have : v = 0 ∨ v = 1 ∨ v = 2 ∨ v = 3 ∨ v = 4 := by omega
  rcases this with rfl | rfl | rfl | rfl | rfl
  · exact ⟨_, rfl, ex_vx⟩
  · exact ⟨_, rfl, ex_vy⟩
  · exact ⟨_, rfl, ex_vz⟩
  · exact ⟨_, rfl, ex_vw⟩
  · exact ⟨_, rfl, ex_vthis⟩
theorem lit_get {v : Int} (h0 : 0 ≤ v) (h5 : v < 3) : ∃ x, ([T.str "var", .none, .int 1] : List T)[v.toNat]? = some x ∧ Ex 60 4 (.tup [.str "lit", x]) := by
  have : v = 0 ∨ v = 1 ∨ v = 2 := by omega
  rcases this with rfl | rfl | rfl
  · exact ⟨_, rfl, (ex_lits (w := 0) (h := 0)).le (by omega) (by omega)⟩
  · exact ⟨_, rfl, (ex_litn (w := 0) (h := 0)).le (by omega) (by omega)⟩
  · exact ⟨_, rfl, (ex_liti (w := 0) (h := 0)).le (by omega) (by omega)⟩

theorem ce_of {a : Nat → Addr} (F : Fns X a) : ∀ n, CE X a n := by
  intro n
  induction n using Nat.strongRecOn with
  | ind n ih =>
  intro sc at_ p d mem K D hp hd k
  have B := F.B
  have hs0 := sizeLine_eq
  have hwg := wN_ge n
  have hhg := hN_ge n
  have hc2 : 2 ≤ cN n := by cases n <;> simp only [cN] <;> omega
  obtain ⟨d, rfl⟩ : ∃ e, d = e + 1 := ⟨d - 1, by omega⟩
  refine fn_enter' (ns := ["script", "at", "deep"]) (F.D 15 (by decide)) (by walk_at "mine binds_tac") (by walk_at "mine kinds_tac") (by decide) (by walk_at "mine plains_tac") (fun pm code doc L K' hR _ => ?_)
  walk_at "mine lit6"
  walk_at "mine w1"
  refine ws_assign ?_ (.inl rfl)
  refine we_call (F.D 11 (by decide)) ?_
  walk_at "mine ww"
  refine fn_draw F D (by omega) (by decide) (by omega) fun s hs0' hs1 => ⟨trivial, ?_⟩
  have D1 : Drw (upd mem at_ [.int ((p + 1 : Nat) : Int)]) sc at_ (p + 1) := D.next
  have fin : ∀ (t' : T) (r : Nat) (m : Mem), p ≤ r → r ≤ p + cN n → Ex (wN n) (hN n) t' → Le (upd mem at_ [.int (r : Int)]) m → ∀ {ρ}, K' (.ret (.t t')) ρ m := fun t' r m h1 h2 h3 h4 _ => hR _ _ _ _ h4 (k t' r h1 h2 h3)
  clear k hR
  have yesV : ∀ (K2 : FV → Vars → Mem → Prop), (∀ pv ρ m, K' (.ret pv) ρ m → K2 (.ret pv) ρ m) → WSs X d (fenv (nmAt 15) (prAt 15) (bdAt 15) (scAt 15) pm code doc L (a 15))
      [("sort", .t (.int s)), ("script", .l sc), ("at", .l at_), ("deep", .t (.int (n : Int)))] (upd mem at_ [.int ((p + 1 : Nat) : Int)]) (ifBody (bdAt 15) 1) K2 := fun K2 hK2 => by
    walk_at "mine lit6"
    walk_at "mine ww"; walk_at "mine tp"
    intro e he
    have hea : e ≠ at_ := by rintro rfl; have e9 := upd_same.symm.trans he; cases e9
    refine we_call (F.D 11 (by decide)) ?_
    walk_at "mine ww"
    refine fn_draw F (D1.le (Le.upd he)) (by omega) (by decide) (by omega) fun v hv0 hv5 => ?_
    obtain ⟨x, hx1, hx2⟩ := var_get hv0 hv5
    refine op_sub_list ((upd_ne hea).trans upd_same) hv0 hx1 (by omega) ?_
    walk_at "mine ww"; walk_at "mine tp"
    exact hK2 _ _ _ (fin _ (p + 1 + 1) _ (by omega) (by omega) (hx2.le (by omega) (by omega)) (upd_extend he))
  walk_at "mine ww"; walk_at "mine o1"
  refine ⟨_, rfl, ?_⟩
  cases n with
  | zero =>
    refine ifP rfl ?_
    refine ifP rfl ?_
    refine yesV _ ?_
    exact fun pv ρ m h => h
  | succ n =>
  refine ifN (by rw [beq_eq_false_iff_ne]; omega) ?_
  walk_at "mine ww"; walk_at "mine o1"
  refine ⟨_, rfl, ?_⟩
  by_cases h29 : 29 < s
  · refine ifP (by simpa using h29) ?_
    refine yesV _ ?_
    exact fun pv ρ m h => h
  refine ifN (by simpa using h29) ?_
  walk_at "mine ww"; walk_at "mine o1"
  refine ⟨_, rfl, ?_⟩
  have hw1 : wN (n + 1) = 6 * wN n + 400 := rfl
  have hh1 : hN (n + 1) = hN n + 13 := rfl
  have hc1 : cN (n + 1) = 2 * cN n + 14 := rfl
  by_cases h27 : 27 < s
  · refine ifP (by simpa using h27) ?_
    walk_at "mine ww"; walk_at "mine tp"
    intro e he
    have hea : e ≠ at_ := by rintro rfl; have e9 := upd_same.symm.trans he; cases e9
    refine we_call (F.D 11 (by decide)) ?_
    walk_at "mine ww"
    refine fn_draw F (D1.le (Le.upd he)) (by omega) (by decide) (by omega) fun v hv0 hv5 => ?_
    obtain ⟨x, hx1, hx2⟩ := lit_get hv0 hv5
    refine op_sub_list ((upd_ne hea).trans upd_same) hv0 hx1 (by omega) ?_
    walk_at "mine ww"; walk_at "mine tp"
    exact fin _ (p + 1 + 1) _ (by omega) (by omega) (hx2.le (by omega) (by omega)) (upd_extend he)
  refine ifN (by simpa using h27) ?_
  walk_at "mine ww"; walk_at "mine o1"
  refine ⟨_, rfl, ?_⟩
  by_cases h21 : 21 < s
  · refine ifP (by simpa using h21) ?_
    walk_at "mine w1"; walk_at "mine w1"
    refine we_call (F.D 16 (by decide)) ?_
    walk_at "mine ww"; walk_at "mine o1"; walk_at "mine ww"; walk_at "mine o1"; walk_at "mine ww"
    rw [show ((n + 1 : Nat) : Int) - 1 = (n : Int) by omega]
    refine cs_of F (ih n (by omega)) D1 (by omega) (by omega) (by omega) (by omega) fun t q hq1 hq2 ex => ?_
    rw [upd_upd]
    exact fin _ q _ (by omega) (by omega) ex (Le.refl _)
  refine ifN (by simpa using h21) ?_
  walk_at "mine w1"; walk_at "mine w1"
  refine ws_assign ?_ (.inl rfl)
  refine we_call (F.D 15 (by decide)) ?_
  walk_at "mine ww"; walk_at "mine o1"; walk_at "mine ww"
  rw [show ((n + 1 : Nat) : Int) - 1 = (n : Int) by omega]
  refine ih n (by omega) D1 (by omega) (by omega) fun ta qa hqa1 hqa2 exa => ⟨trivial, ?_⟩
  rw [upd_upd]
  have D2 : Drw (upd mem at_ [.int (qa : Int)]) sc at_ qa := D.next
  have tail : ∀ (tb : T) (qb : Nat), qa ≤ qb → qb ≤ qa + cN n → Ex (wN n) (hN n) tb → WSs X d (fenv (nmAt 15) (prAt 15) (bdAt 15) (scAt 15) pm code doc L (a 15))
      [("b", .t tb), ("a", .t ta), ("sort", .t (.int s)), ("script", .l sc), ("at", .l at_), ("deep", .t (.int ((n + 1 : Nat) : Int)))] (upd mem at_ [.int (qb : Int)]) ((bdAt 15).drop 6) K' := fun tb qb h1 h2 exb => by
    walk_at "mine lit6"
    walk_at "mine w1"
    refine ws_assign ?_ (.inl rfl)
    walk_at "mine ww"; walk_at "mine tp"
    refine ⟨trivial, ?_⟩
    walk_at "mine w1"
    refine ws_assign ?_ (.inl rfl)
    repeat (first | walk_at "mine w0" | walk_at "mine t0")
    intro e he
    refine ⟨trivial, ?_⟩
    obtain ⟨t, ht1, ht2⟩ := rows_ex exa exb hs0' (by omega)
    walk_at "mine ww"
    refine op_sub_list (ts := rowsL ta tb) upd_same hs0' ht1 (by omega) ?_
    exact fin _ qb _ (by omega) (by omega) (ht2.le (by omega) (by omega)) (Le.upd he)
  walk_at "mine w1"
  refine ws_assign ?_ (.inl rfl)
  refine we_call (F.D 15 (by decide)) ?_
  walk_at "mine ww"; walk_at "mine o1"
  refine ⟨_, rfl, ?_⟩
  by_cases h2 : 2 ≤ n
  · refine ifP (by rw [decide_eq_true_eq]; omega) ?_
    walk_at "mine ww"; walk_at "mine o1"; walk_at "mine ww"
    obtain ⟨m, rfl⟩ : ∃ m, n = m + 1 := ⟨n - 1, by omega⟩
    rw [show ((m + 1 + 1 : Nat) : Int) - 2 = (m : Int) by omega]
    have e1 := cN_le (show m ≤ m + 1 by omega)
    have e2 := wN_le (show m ≤ m + 1 by omega)
    have e3 := hN_le (show m ≤ m + 1 by omega)
    refine ih m (by omega) D2 (by omega) (by omega) fun tb qb hqb1 hqb2 exb => ⟨trivial, ?_⟩
    rw [upd_upd]
    exact tail tb qb hqb1 (by omega) (exb.le e2 e3)
  · refine ifN (by rw [decide_eq_false_iff_not]; omega) ?_
    walk_at "mine ww"
    have e1 := cN_le (Nat.zero_le n)
    have e2 := wN_le (Nat.zero_le n)
    have e3 := hN_le (Nat.zero_le n)
    refine ih 0 (by omega) D2 (by omega) (by omega) fun tb qb hqb1 hqb2 exb => ⟨trivial, ?_⟩
    rw [upd_upd]
    exact tail tb qb hqb1 (by omega) (exb.le e2 e3)

end

section
set_option maxHeartbeats 8000000

noncomputable abbrev toldInner : T := .tup [.str "arrow", mkFunc [mkParam (.str "x") .none false false] [.tup [.str "return", .tup [.str "bin", .str "+", .tup [.str "var", .str "x"], .tup [.str "var", .str "y"]]]], .bool false]
noncomputable abbrev toldClosure : T := .tup [.str "closure", mkFunc [] [.tup [.str "return", .tup [.str "var", .str "w"]]], .tup [.tup [.str "z", .bool true], .tup [.str "x", .bool false]], .bool false]
noncomputable abbrev toldFirst : T := .tup [.str "call", .tup [.str "name", .str "f"], .tup [.tup [toldInner, .bool false, .none], .tup [toldClosure, .bool true, .none], .tup [.tup [.str "var", .str "this"], .bool false, .str "y"]]]
noncomputable abbrev toldSecond : T := .tup [.str "assign", .tup [.str "list", .tup [.tup [.tup [.str "var", .str "y"], .tup [.str "dim", .tup [.str "var", .str "z"], .tup [.str "var", .str "x"]], .bool false], .none, .tup [.none, .tup [.str "list", .tup [.tup [.none, .tup [.str "var", .str "y"], .bool true]]], .bool false]]], toldFirst]

theorem ex_first : Ex 3000 30 toldFirst := by
  have h1 : Ex 940 30 toldInner := (ex_arrow (fun p hp => by simp at hp; subst hp; exact ⟨_, _, _, _, rfl, .inl rfl, .inl rfl⟩) (by simp) (ex_return (ex_binp ex_vx ex_vy))).le (by omega) (by omega)
  have hr := ex_return ex_vw
  have h2 : Ex 940 30 toldClosure := (ex_closure (w := 4 * 20 + 60) (h := 5) (fun u hu => by
    simp only [List.mem_cons, List.not_mem_nil, or_false] at hu
    rcases hu with rfl | rfl
    · exact ⟨_, _, rfl, .inr (.inr rfl)⟩
    · exact ⟨_, _, rfl, .inl rfl⟩) (by simp) (fun x hx => by simp at hx; subst hx; exact hr.wf) (by
    show (T.nice _ && true) = true
    rw [hr.nice]; rfl) (by have := hr.wt; simp only [wts]; omega) (by have := hr.ht; simp only [hts]; omega)).le (by omega) (by omega)
  have e1 := h1.ht
  have h1' : Ex 940 20 toldInner := (ex_arrow (fun p hp => by simp at hp; subst hp; exact ⟨_, _, _, _, rfl, .inl rfl, .inl rfl⟩) (by simp) (ex_return (ex_binp ex_vx ex_vy))).le (by omega) (by omega)
  have h2' : Ex 940 20 toldClosure := ⟨h2.wf, h2.nd, h2.nice, h2.wt, by
    have := hr.ht
    show 1 + max 0 (max (T.ht (mkFunc [] [.tup [.str "return", .tup [.str "var", .str "w"]]])) _) ≤ 20
    decide⟩
  refine (ex_callN (w := 940) (h := 20) (fun e he => ?_) (by simp)).le (by omega) (by omega)
  simp only [List.mem_cons, List.not_mem_nil, or_false] at he
  rcases he with rfl | rfl | rfl
  · exact ⟨_, _, _, rfl, h1', .inl rfl⟩
  · exact ⟨_, _, _, rfl, h2', .inl rfl⟩
  · exact ⟨_, _, _, rfl, ex_vthis.le (by omega) (by omega), .inr rfl⟩
theorem ex_second : Ex 13000 40 toldSecond := by
  have h1 := ex_list3 (ex_vy.le (w' := 140) (h' := 5) (by omega) (by omega)) ((ex_dim ex_vz ex_vx).le (w' := 140) (h' := 5) (by omega) (by omega)) ((ex_list1 ex_vy).le (w' := 140) (h' := 5) (by omega) (by omega))
  exact (ex_assign (h1.le (w' := 3000) (h' := 30) (by omega) (by omega)) ex_first).le (by omega) (by omega)

/-- what the law's loop takes: names and a body -/
noncomputable def IsItem (t : T) : Prop := ∃ (ns : List Str) (body : T), t = .tup [.tup (ns.map T.str), body] ∧ (∀ x ∈ ns, isXyz x) ∧ ns.length ≤ 3 ∧ Ex 60000 60 body
noncomputable abbrev toldL : List T := [.tup [.tup [], toldFirst], .tup [.tup [.str "z"], .tup [.str "varvar", toldSecond]]]
theorem told_items : ∀ t ∈ toldL, IsItem t := by
  intro t ht
  simp only [List.mem_cons, List.not_mem_nil, or_false] at ht
  rcases ht with rfl | rfl
  · exact ⟨[], _, rfl, by simp, by simp, ex_first.le (by omega) (by omega)⟩
  · exact ⟨[("z" : Str)], _, rfl, by intro x hx; simp at hx; subst hx; exact .inr (.inr rfl), by simp, (ex_varvar ex_second).le (by omega) (by omega)⟩

variable {X : Cx} {d : Nat} {mem : Mem}

theorem fn_told {a : Nat → Addr} (F : Fns X a) {d : Nat} (hd : 3 ≤ d) {K : PV → Mem → Prop} (k : ∀ e, mem e = none → K (.l e) (upd mem e toldL)) : OP X d (fcall (a 14)) [] mem K := by
  obtain ⟨d, rfl⟩ : ∃ e, d = e + 1 := ⟨d - 1, by omega⟩
  refine fn_enter (ns := []) (F.D 14 (by decide)) (by walk_at "mine binds_tac") (by intro n y hy; simp at hy) (by decide) (by intro pv h; simp at h) (fun pm code doc L => ?_)
  walk_at "mine lit6"
  walk_at "mine w1"
  refine ws_assign3 ?_ (.inl rfl) (.inl rfl) (.inl rfl)
  repeat (first | walk_at "mine w0" | walk_at "mine t0")
  refine ⟨_, _, _, rfl, ?_⟩
  walk_at "mine w1"
  refine ws_assign ?_ (.inl rfl)
  walk_at "mine ww"
  refine we_call (F.D 12 (by decide)) ?_
  walk_at "mine ww"
  refine we_call (F.D 13 (by decide)) ?_
  walk_at "mine ww"
  refine fn_mk_param F (by omega) ?_
  repeat (first | walk_at "mine w0" | walk_at "mine t0")
  refine fn_mk_func F (by omega) ?_
  repeat (first | walk_at "mine w0" | walk_at "mine t0")
  refine ⟨trivial, ?_⟩
  walk_at "mine w1"
  refine ws_assign ?_ (.inl rfl)
  repeat (first | walk_at "mine w0" | walk_at "mine t0")
  refine ⟨trivial, ?_⟩
  walk_at "mine w1"
  refine ws_assign ?_ (.inl rfl)
  walk_at "mine ww"
  refine we_call (F.D 12 (by decide)) ?_
  repeat (first | walk_at "mine w0" | walk_at "mine t0")
  refine fn_mk_func F (by omega) ?_
  repeat (first | walk_at "mine w0" | walk_at "mine t0")
  refine ⟨trivial, ?_⟩
  walk_at "mine w1"
  refine ws_assign ?_ (.inl rfl)
  repeat (first | walk_at "mine w0" | walk_at "mine t0")
  refine ⟨trivial, ?_⟩
  walk_at "mine w1"
  refine ws_assign ?_ (.inl rfl)
  repeat (first | walk_at "mine w0" | walk_at "mine t0")
  refine ⟨trivial, ?_⟩
  repeat (first | walk_at "mine w0" | walk_at "mine t0")
  intro e he
  exact ⟨_, Le.refl _, k e he⟩

end

section
set_option maxHeartbeats 8000000
variable {X : Cx} {d : Nat} {mem : Mem}

theorem op_sl_base {value slice : Expr} {ts us : List T} {a : Addr} {lo hi : Option Int} {K : PV → Mem → Prop} {ws : List Value} (hl0 : X.h₀.IsList a ws.toArray) (hws0 : Are X.h₀ ws ts) (hsz : ts.length ≤ sizeLine)
    (he : (ts.drop (kms_lo lo ts.length)).take (kms_hi hi ts.length - kms_lo lo ts.length) = us) (hk : ∀ b, mem b = none → K (.l b) (upd mem b us))
    (hs : ∀ o i, subscripted slice false o i = operate [o, i] (getItem o i) ∨ subscripted slice false o i = operate [i, o] (getItem o i) := by intro _ _; first | exact .inl rfl | exact .inr rfl) :
    OP X d (fun vs => subscriptTail value slice (vs.getD 0 .none) (vs.getD 1 .none)) [.l a, .ob (IsSl lo hi)] mem K := .mk fun A s vs hA ok hv => by
  obtain _ | @⟨v1, _, _, _, i1, _ | @⟨v2, _, _, _, i2, _ | _⟩⟩ := hv
  cases i1
  obtain ⟨b, vl, vu, rfl, hsl, p1, p2⟩ := i2 _ (KeepNL.refl _)
  have hl : s.heap.IsList a ws.toArray := by obtain ⟨o, ho, r⟩ := hl0; exact ⟨o, ok.base _ _ ho, r⟩
  have hws : Are s.heap ws ts := hws0.mono fun a vs ⟨n, p⟩ => ⟨n, ok.base _ _ p⟩
  have hp := hws.slicePick lo hi
  rw [he] at hp
  have hf := ok.size_free
  have hsz' : ws.toArray.size ≤ sizeLine := by rw [List.size_toArray, hws.length]; exact hsz
  refine subTail hl.typeIs slot_list_getitem.lookup (wpAny_getItem_list_slice hl hsl p1 p2 .none (by simp) ?_ hsz') (hs _ _)
  have e := ok.newList hp
  rw [Array.toArray_toList] at e
  refine ⟨_, _, IsP.l, e, ⟨rfl, fun _ _ _ e => Heap.get?_push_of_some _ e, fun b hb => ?_⟩, hk _ hf.1⟩
  by_cases hx : b = s.heap.objs.size
  · subst hx; exact .inr (get_size_none _)
  · rw [upd_ne hx] at hb; exact .inl hb

theorem le_law {memB : Mem} {dr at_ c : Addr} {P P' acc v w : List T} (hda : dr ≠ at_) (hc : (upd (upd memB dr P) at_ v) c = none) : Le (upd (upd memB dr P') at_ w) (upd (upd (upd (upd (upd memB dr P) at_ v) c acc) at_ w) dr P') := by
  intro a l e
  have hca : c ≠ at_ := by rintro rfl; rw [upd_same] at hc; cases hc
  have hcd : c ≠ dr := by rintro rfl; rw [upd_ne hca, upd_same] at hc; cases hc
  by_cases h1 : a = dr
  · subst h1; rw [upd_ne hda, upd_same] at e; cases e; rw [upd_same]
  rw [upd_ne h1]
  by_cases h2 : a = at_
  · subst h2; rw [upd_same] at e; cases e; rw [upd_same]
  rw [upd_ne h2, upd_ne h1] at e
  rw [upd_ne h2]
  have h3 : a ≠ c := by rintro rfl; rw [upd_ne hca, upd_ne hcd, e] at hc; cases hc
  rw [upd_ne h3, upd_ne h2, upd_ne h1]; exact e

theorem ex_ret {w h : Nat} {a : T} (ha : Ex w h a) : Ex (w + 10) (h + 2) (.tup [.str "return", a]) := by
  have hr := ex_return ha
  have hw := ha.wt
  have hh := ha.ht
  refine ⟨hr.wf, hr.nd, hr.nice, ?_, ?_⟩
  · have s0 : T.wt (.str "return") = 7 := by decide
    simp only [zt_tup, wts, s0]; omega
  · simp only [ht_tup, hts, ht_str]; omega


noncomputable abbrev lwv (dr at_ b sc0 : Addr) : Vars := [("drawn", .l dr), ("at", .l at_), ("script", .l b), ("script", .l sc0)]

theorem fn_law {a : Nat → Addr} (F : Fns X a) {sc0 : Addr} {ns : List Int} {ws : List Value} (hl0 : X.h₀.IsList sc0 ws.toArray) (hws0 : Are X.h₀ ws (ns.map T.int)) (hns : ns.length ≤ 63) {d : Nat} (hd : 330 ≤ d) (hd7 : d ≤ 690) {K : PV → Mem → Prop} (k : K (.t (.bool true)) mem) : OP X d (fcall (a 25)) [.l sc0] mem K := by
  have B := F.B
  have hs0 := sizeLine_eq
  obtain ⟨d, rfl⟩ : ∃ e, d = e + 1 := ⟨d - 1, by omega⟩
  refine fn_enter' (ns := ["script"]) (F.D 25 (by decide)) (by walk_at "mine binds_tac") (by walk_at "mine kinds_tac") (by decide) (by walk_at "mine plains_tac") (fun pm code doc L KF hKF _ => ?_)
  replace k : ∀ {ρ m}, Le mem m → KF (.ret (.t (.bool true))) ρ m := fun h => hKF _ _ _ _ h k
  clear hKF
  walk_at "mine lit6"
  walk_at "mine w1"
  refine ws_assign ?_ (.inr ⟨rfl, rfl, ⟨_, rfl⟩⟩)
  walk_at "mine ww"
  refine ⟨_, rfl, ?_⟩
  obtain ⟨us, hus, ns', hns', husn⟩ : ∃ us, ((ns.map T.int).drop (kms_lo none (ns.map T.int).length)).take (kms_hi (some 63) (ns.map T.int).length - kms_lo none (ns.map T.int).length) = us ∧ ∃ ns' : List Int, ns'.length ≤ 63 ∧ us = ns'.map T.int := by
    refine ⟨_, rfl, (ns.drop (kms_lo none (ns.map T.int).length)).take (kms_hi (some 63) (ns.map T.int).length - kms_lo none (ns.map T.int).length), ?_, ?_⟩
    · rw [List.length_take, List.length_drop]; omega
    · rw [List.map_take, List.map_drop]
  refine op_sl_base hl0 hws0 (by rw [List.length_map]; omega) hus fun b hb => ⟨trivial, ?_⟩
  walk_at "mine w1"
  refine ws_assign ?_ (.inr ⟨rfl, rfl, ⟨_, rfl⟩⟩)
  walk_at "mine ww"; walk_at "mine tp"
  intro at_ hat
  have hba : b ≠ at_ := by rintro rfl; rw [upd_same] at hat; cases hat
  refine ⟨trivial, ?_⟩
  walk_at "mine w1"
  refine ws_assign ?_ (.inl rfl)
  walk_at "mine ww"; walk_at "mine tp"
  intro dr hdr
  have hda : dr ≠ at_ := by rintro rfl; have e9 := upd_same.symm.trans hdr; cases e9
  have hdr1 : (upd mem b us) dr = none := by have := hdr; rw [upd_ne hda] at this; exact this
  have hbd : b ≠ dr := by rintro rfl; rw [upd_same] at hdr1; cases hdr1
  refine ⟨trivial, ?_⟩
  have hM0 : ∀ z : T, upd (upd (upd mem b us) at_ [z]) dr [] = upd (upd (upd mem b us) dr []) at_ [z] := fun z => upd_comm (Ne.symm hda)
  dsimp only
  rw [hM0 (T.int 0)]
  have hleB : Le mem (upd mem b us) := Le.upd hb
  have hatB : (upd mem b us) at_ = none := hat
  generalize hmB : upd mem b us = memB at *
  have hbB : memB b = some (ns'.map T.int) := by rw [← hmB, upd_same, husn]
  have hDr : ∀ (r : Nat) (P : List T), Drw (upd (upd memB dr P) at_ [.int (r : Int)]) b at_ r := fun r P => ⟨hba, ⟨ns', hns', by rw [upd_ne hba, upd_ne hbd]; exact hbB⟩, upd_same⟩
  walk_at "mine w1"
  refine ws_for ?_
  refine we_tcall B.rge ?_
  walk_at "mine ww"
  refine op_range ?_
  refine ⟨_, _, Items.rng (n := 7) (by decide), ?_⟩
  refine for_inv' (fun ts ρ m => ∃ (r : Nat) (P : List T), P.length + ts.length = 7 ∧ (∀ t ∈ ts, ∃ j : Nat, t = .int (j : Int)) ∧ (∀ p ∈ P, IsItem p) ∧ r ≤ 200 * P.length ∧ m = upd (upd memB dr P) at_ [.int (r : Int)] ∧ ρ = lwv dr at_ b sc0) ?_ ?_ _ _ _
    ⟨0, [], rfl, fun t ht => rng_mem ht, by simp, by simp, rfl, rfl⟩
  · rintro t0 ts ρ m ⟨r, P, hlen, hts, hP, hr, rfl, rfl⟩ K3 hK3 -
    rw [List.length_cons] at hlen
    obtain ⟨j, rfl⟩ := hts t0 List.mem_cons_self
    refine as_name (.inl rfl) ?_
    walk_at "mine w1"
    refine ws_assign ?_ (.inl rfl)
    refine we_tcall B.tup ?_
    walk_at "mine w1"
    refine we_compC [("script", .l b), ("at", .l at_)] rfl (by walk_at "mine csub") (by walk_at "mine cvars") ?_
    refine we_tcall B.rge ?_
    walk_at "mine w1"
    refine we_call (F.D 11 (by decide)) ?_
    walk_at "mine ww"
    refine fn_draw F (hDr r P) (by omega) (by decide) (by omega) fun v hv0 hv3 => ?_
    obtain ⟨v, rfl⟩ : ∃ k : Nat, v = (k : Int) := ⟨v.toNat, by omega⟩
    rw [upd_upd]
    walk_at "mine w1"
    refine op_range ?_
    refine ⟨_, _, Items.rng (by omega), fun C => ?_⟩
    refine ci_inv' (fun ts ρ m acc => ∃ (r' : Nat) (xs : List Str), acc = xs.map T.str ∧ acc.length + ts.length = v ∧ (∀ t ∈ ts, ∃ j : Nat, t = .int (j : Int)) ∧ (∀ x ∈ xs, isXyz x) ∧ r' ≤ r + 1 + acc.length ∧ m = upd (upd memB dr P) at_ [.int (r' : Int)] ∧
      ρ.lookup ("script" : Str) = some (.l b) ∧ ρ.lookup ("at" : Str) = some (.l at_)) ?_ ?_ _ _ _ _
      ⟨r + 1, [], rfl, by rw [rng_len]; simp, fun t ht => rng_mem ht, by simp, by simp, rfl, rfl, rfl⟩
    · rintro t0 ts' ρ m acc ⟨r', xs, rfl, hlen', hts', hxs, hr', rfl, l2, l3⟩
      rw [List.length_cons] at hlen'
      have hxl : (xs.map T.str).length = xs.length := List.length_map ..
      obtain ⟨j', rfl⟩ := hts' t0 List.mem_cons_self
      refine as_name (.inl rfl) fun K4 hK4 => ?_
      walk_at "mine ww"; walk_at "mine tp"
      intro e he
      have hea : e ≠ at_ := by rintro rfl; have e9 := upd_same.symm.trans he; cases e9
      refine we_call (F.D 11 (by decide)) ?_
      walk_at "mine w1"
      refine we_name (show List.lookup _ _ = _ from l2) ?_
      walk_at "mine w1"
      refine we_name (show List.lookup _ _ = _ from l3) ?_
      walk_at "mine ww"
      refine fn_draw F ((hDr r' P).le (Le.upd he)) (by omega) (by decide) (by omega) fun v' hv'0 hv'3 => ?_
      obtain ⟨x, hx1, hx2⟩ := xyz_get hv'0 hv'3
      refine op_sub_list ((upd_ne hea).trans upd_same) hv'0 hx1 (by omega) ?_
      refine hK4 _ _ _ (by omega) (upd_extend he) ⟨r' + 1, xs ++ [x], by simp, by rw [List.length_append]; simp; omega, fun t ht => hts' t (List.mem_cons_of_mem _ ht), fun u hu => ?_, by rw [List.length_append]; simp; omega, rfl, l2, l3⟩
      rcases List.mem_append.mp hu with h | h
      · exact hxs u h
      · simp at h; subst h; exact hx2
    · rintro ρ m acc ⟨r', xs, rfl, hlen', hts', hxs, hr', rfl, l2, l3⟩
      rw [List.length_nil, Nat.add_zero] at hlen'
      have hxl : (xs.map T.str).length = xs.length := List.length_map ..
      refine ⟨_, Le.refl _, fun c hc => ?_⟩
      have hca : c ≠ at_ := by rintro rfl; have e9 := upd_same.symm.trans hc; cases e9
      have hcd : c ≠ dr := by rintro rfl; rw [upd_ne hca, upd_same] at hc; cases hc
      walk_at "mine w1"
      refine op_tuple_list upd_same (by omega) ⟨trivial, ?_⟩
      walk_at "mine w1"
      refine ws_expr ?_
      refine we_meth1 PySem.F.slot_list_append PySem.F.type_list_append ?_
      walk_at "mine w1"
      refine ⟨dr, P, rfl, by rw [upd_ne (Ne.symm hcd), upd_ne hda, upd_same], ?_⟩
      walk_at "mine ww"
      refine we_call (F.D 15 (by decide)) ?_
      walk_at "mine ww"
      have c3 : cN 3 = 114 := rfl
      have w3 : wN 3 = 25840 := by decide
      have h3 : hN 3 = 41 := rfl
      refine ce_of F 3 ((hDr r' P).le (Le.upd hc)) (by omega) (by omega) fun t q hq1 hq2 ex => ?_
      walk_at "mine ww"; walk_at "mine tp"; walk_at "mine ww"
      refine op_append (ts := P) (by rw [upd_ne hda, upd_ne (Ne.symm hcd), upd_ne hda, upd_same]) (by omega) ?_
      refine ⟨rfl, ?_⟩
      walk_at "mine wn"
      refine (hK3 _ _ _ _ (by walk_at "mine subs") (le_law hda hc) ⟨q, P ++ [_], by rw [List.length_append]; simp; omega, fun t ht => hts t (List.mem_cons_of_mem _ ht), fun u hu => ?_, by rw [List.length_append]; simp; omega, rfl, rfl⟩).1
      rcases List.mem_append.mp hu with h | h
      · exact hP u h
      · simp only [List.mem_singleton] at h; subst h; exact ⟨xs, t, rfl, hxs, by omega, ex.le (by omega) (by omega)⟩
  · rintro ρ m ⟨r, P, hlen, hts, hP, hr, rfl, rfl⟩
    rw [List.length_nil, Nat.add_zero] at hlen
    have hPr : (upd (upd memB dr P) at_ [T.int (r : Int)]) dr = some P := by rw [upd_ne hda, upd_same]
    have hleM : Le mem (upd (upd memB dr P) at_ [T.int (r : Int)]) := by
      intro x l e
      have e1 := hleB x l e
      have hxa : x ≠ at_ := by rintro rfl; rw [hatB] at e1; cases e1
      have hxd : x ≠ dr := by rintro rfl; rw [hdr1] at e1; cases e1
      rw [upd_ne hxa, upd_ne hxd]; exact e1
    generalize upd (upd memB dr P) at_ [T.int (r : Int)] = memM at *
    walk_at "mine w1"
    refine ws_for ?_
    walk_at "mine w1"
    refine we_call0 (F.D 14 (by decide)) (fn_told F (by omega) fun e1 he1 => ?_)
    have h1d : e1 ≠ dr := by rintro rfl; rw [hPr] at he1; cases he1
    walk_at "mine w1"
    refine op_add_list upd_same (by rw [upd_ne (Ne.symm h1d)]; exact hPr) (by simp; omega) fun c hc => ?_
    refine ⟨_, _, Items.list upd_same hc (Le.upd hc), ?_⟩
    have hleE : Le mem (upd memM e1 toldL) := hleM.trans (Le.upd he1)
    refine for_inv' (fun ts ρ m => (∀ t ∈ ts, IsItem t) ∧ m = upd memM e1 toldL) ?_ ?_ _ _ _ ⟨fun t ht => ?_, rfl⟩
    · rintro t ts ρ m ⟨hit, rfl⟩ K3 hK3 -
      obtain ⟨xs, body, rfl, hxs, hxl, exb⟩ := hit t List.mem_cons_self
      refine as_tuple2 (.inl rfl) (.inl rfl) ?_
      walk_at "mine w1"
      refine ws_assign ?_ (.inl rfl)
      refine we_call (F.D 12 (by decide)) ?_
      walk_at "mine w1"
      refine we_tcall B.tup ?_
      walk_at "mine w1"
      refine we_comp0 ?_
      walk_at "mine w1"
      refine ⟨xs.map T.str, _, Items.tup, fun C => ?_⟩
      refine ci_inv' (fun ts' ρ m acc => ∃ done, xs.map T.str = done ++ ts' ∧ m = upd memM e1 toldL ∧ acc = done.map (fun n => mkParam n .none false false)) ?_ ?_ _ _ _ _ ⟨[], rfl, rfl, rfl⟩
      · rintro t0 ts' ρ m acc ⟨done, hdn, rfl, rfl⟩
        have hdl : done.length ≤ 3 := by have := congrArg List.length hdn; rw [List.length_map, List.length_append] at this; omega
        refine as_name (.inl rfl) fun K4 hK4 => ?_
        replace hK4 := hK4 (mkParam t0 .none false false) _ _ (by rw [List.length_map]; omega) (Le.refl _) ⟨done ++ [t0], by simp [hdn], rfl, by simp⟩
        refine we_call (F.D 13 (by decide)) ?_
        walk_at "mine ww"
        exact fn_mk_param F (by omega) hK4
      · rintro ρ m acc ⟨done, hdn, rfl, rfl⟩
        rw [List.append_nil] at hdn
        subst hdn
        refine ⟨_, Le.refl _, fun c2 hc2 => ?_⟩
        walk_at "mine w1"
        refine op_tuple_list upd_same (by rw [List.length_map, List.length_map]; omega) ?_
        repeat (first | walk_at "mine w0" | walk_at "mine t0")
        refine fn_mk_func F (by omega) ?_
        refine ⟨trivial, ?_⟩
        have hpar : ∀ p ∈ (xs.map T.str).map (fun n => mkParam n .none false false), IsPar p := fun p hp => by
          simp only [List.map_map, List.mem_map] at hp
          obtain ⟨x, hx, rfl⟩ := hp
          exact ⟨x, .none, false, false, rfl, hxs x hx, .inl rfl⟩
        have hex : Ex 61000 80 (mkFunc ((xs.map T.str).map (fun n => mkParam n .none false false)) [.tup [.str "return", body]]) :=
          (func1 hpar (by rw [List.length_map, List.length_map]; exact hxl) (ex_ret exb)).le (by omega) (by omega)
        have hw := hex.wt
        have hh := hex.ht
        walk_at "mine w1"; walk_at "mine w1"; walk_at "mine w1"
        refine wt_bool ?_
        refine we_call (F.D 24 (by decide)) ?_
        walk_at "mine ww"
        refine fn_func_right F rfl (pars_all hpar).2.1 hex.wf hex.nice (Nat.le_trans hw (by omega)) (Nat.le_trans (Nat.add_le_add_left (Nat.mul_le_mul_left 2 hh) 14) (by omega)) (by omega) ?_
        refine ⟨_, rfl, ?_⟩
        refine ifN rfl ?_
        walk_at "mine wn"
        exact (hK3 _ _ _ _ (Sub.refl _) (Le.upd hc2) ⟨fun t ht => hit t (List.mem_cons_of_mem _ ht), rfl⟩).1
    · rintro ρ m ⟨_, rfl⟩
      walk_at "mine ww"
      exact k hleE
    · rcases List.mem_append.mp ht with h | h
      · exact told_items t h
      · exact hP t h

end

section
set_option maxHeartbeats 8000000
noncomputable def pv : Program := { PySem.Challenge.pw_ov0001_01 with main := { PySem.Challenge.pw_ov0001_01.main with body := (PySem.Challenge.pw_ov0001_01.main.body.zipIdx.filter (fun x => x.2 != 0 && x.2 != 10)).map (·.1) } }
theorem saidRow : PySem.Challenge.rw_ov0001_01.row.wellSaid = true := by
  unfold OpenRow.wellSaid OpenRow.partSaid looksOpen
  repeat' (with_reducible refine look_both ?_ ?_)
  all_goals as_aux_lemma => kernel_rfl
theorem said : PySem.Challenge.rw_ov0001_01.wellSaid = true := by
  unfold OpenLaw.wellSaid
  repeat' (with_reducible refine look_both ?_ ?_)
  · exact saidRow
  all_goals as_aux_lemma => kernel_rfl
theorem left : LeftO PySem.Challenge.rw_ov0001_01.row.prog pv [] (fun s => xlAt pv [] s && recOk [] s) Hook.none.obs Hook.none.val 1560 := by intro w; kernel_rfl
theorem dk : ∃ x : DefRec × List (Str × Expr), defOf pv PySem.Challenge.rw_ov0001_01.row.name = some x := by
  have h : (defOf pv PySem.Challenge.rw_ov0001_01.row.name).isSome = true := by kernel_rfl
  exact Option.isSome_iff_exists.mp h
theorem dk_is : (defOf pv PySem.Challenge.rw_ov0001_01.row.name).map (fun x => some (x.1.params, x.1.body, x.1.scope)) = some (PySem.Challenge.rw_ov0001_01.row.prog.theDef PySem.Challenge.rw_ov0001_01.row.name) := by kernel_rfl
theorem dk_kw : (defOf pv PySem.Challenge.rw_ov0001_01.row.name).map (fun x => kwWritten? x.1.params.kwonlyargs x.1.params.kw_defaults) = (defOf pv PySem.Challenge.rw_ov0001_01.row.name).map (fun x => some x.2) := by kernel_rfl
theorem oks : (chainsOk pv && opensWell PySem.Challenge.rw_ov0001_01.row.prog && (frees PySem.Challenge.rw_ov0001_01.row.toRowW && PySem.Challenge.rw_ov0001_01.row.within.isEmpty)) = true := by kernel_rfl
theorem hold (walk : ∀ d kwd, defOf pv PySem.Challenge.rw_ov0001_01.row.name = some (d, kwd) → WalkO pv [] (XL pv []) Hook.none.says PySem.Challenge.rw_ov0001_01.row.toRowW d kwd fun f vs => PySem.call f vs) : PySem.Challenge.rw_ov0001_01.Holds := by
  obtain ⟨⟨d, kwd⟩, h⟩ := dk
  have h1 := dk_is
  rw [h, Option.map_some, Option.some.injEq] at h1
  have h2 := dk_kw
  rw [h, Option.map_some, Option.map_some, Option.some.injEq] at h2
  refine holds_law said fun _ => holds_open (q := pv) (loose := []) (Xt := fun s => xlAt pv [] s && recOk [] s) (XP := XL pv []) (Yf := Hook.none.obs) (Ya := Hook.none.val) (YP := Hook.none.says) (N := 1560) left (Hook.of Hook.none) (Hook.keeps Hook.none) (fun s e => xl_of s (Bool.and_eq_true_iff.mp e).1) XL.keeps h h1.symm h2 (fun s e => recFacts_of (Bool.and_eq_true_iff.mp e).2) rfl saidRow oks ⟨rfl, rfl, rfl, rfl, rfl, by decide +kernel⟩ ?_ (walk d kwd h)
  w_witness2

end
section


theorem ints_are {h : Heap} {vs : List Value} {ns : List Int} (x : IntsAre vs ns) : Are h vs (ns.map T.int) := by
  induction x with
  | nil => exact .nil
  | cons n t _ ih => exact .cons (.int n t) ih

theorem free_of {X : Cx} (hp : X.p = pv) (hl : X.loose = (looseW pv [])) {x : Str} {v : Value} (h1 : x ∉ startupNames := by decide +kernel) (h2 : x ∉ (looseW pv []) := by decide +kernel) (h3 : x ∉ (recsOf pv).map (·.name) := by decide +kernel) (h4 : x ∉ (litsOf pv).map (·.1) := by decide +kernel)
    (h5 : x ∉ (clssOf pv (looseW pv [])).map (·.name) := by decide +kernel) (hn : x ≠ ("__name__" : Str) := by decide) (hb : bootBuiltins x = some v := by kernel_rfl) : Free X x v :=
  ⟨X.top.free x h1 (by rw [hl]; exact h2) (by rw [hp]; exact h3) (by rw [hp]; exact h4) (by rw [hp, hl]; exact h5), (X.top.builtins x hn).trans hb⟩

theorem blt_of {X : Cx} (hp : X.p = pv) (hl : X.loose = (looseW pv [])) : Blt X :=
  ⟨free_of hp hl, free_of hp hl, free_of hp hl, free_of hp hl, free_of hp hl, free_of hp hl, free_of hp hl, free_of hp hl⟩

noncomputable def posOf (i : Nat) : Nat := if i ≤ 9 then i - 1 else i - 2
noncomputable def idxs : List Nat := [1, 2, 3, 4, 5, 6, 7, 8, 9, 11, 12, 13, 14, 15, 16, 17, 18, 19, 20, 21, 22, 23, 24, 25]
theorem rec_all : (idxs.map fun i => ((recsOf pv)[posOf i]?).map (fun d => (d.name, d.params, d.body, d.scope))) = idxs.map fun i => some (nmAt i, prAt i, bdAt i, scAt i) := by kernel_rfl
theorem rec_at (i : Nat) (hi : (1 ≤ i ∧ i ≤ 9) ∨ (11 ≤ i ∧ i ≤ 25)) : ((recsOf pv)[posOf i]?).map (fun d => (d.name, d.params, d.body, d.scope)) = some (nmAt i, prAt i, bdAt i, scAt i) := by
  have hm : ∀ i, i < 26 → ((1 ≤ i ∧ i ≤ 9) ∨ (11 ≤ i ∧ i ≤ 25)) → i ∈ idxs := by decide
  exact List.map_inj_left.mp rec_all i (hm i (by omega) hi)

theorem dname : (defOf pv PySem.Challenge.rw_ov0001_01.row.name).map (fun x => x.1.name) = some (nmAt 25) := by kernel_rfl

theorem def_of {X : Cx} (hp : X.p = pv) {i : Nat} (hi : (1 ≤ i ∧ i ≤ 9) ∨ (11 ≤ i ∧ i ≤ 25)) : ∃ f, DefAt X i f := by
  have e := rec_at i hi
  rw [Option.map_eq_some_iff] at e
  obtain ⟨d, h1, h2⟩ := e
  have hm : d ∈ recsOf X.p := by rw [hp]; exact List.mem_of_getElem? h1
  obtain ⟨f, o, pm, code, doc, g1, g2, g3, g4⟩ := X.top.fn d hm
  simp only [Prod.mk.injEq] at h2
  obtain ⟨e1, e2, e3, e4⟩ := h2
  rw [e1] at g1
  rw [e1, e2, e3, e4] at g3
  rw [e1] at g4
  exact ⟨f, g1, o, pm, code, doc, g2, g3, g4⟩

noncomputable def adr (X : Cx) (i : Nat) : Addr := by
  classical
  exact if h : ∃ f, DefAt X i f then h.choose else 0
theorem fns_of {X : Cx} (hp : X.p = pv) (hl : X.loose = (looseW pv [])) : Fns X (adr X) := by
  refine ⟨blt_of hp hl, fun i hi => ?_⟩
  have h := def_of hp hi
  have : adr X i = h.choose := by unfold adr; rw [dif_pos h]
  rw [this]; exact h.choose_spec

theorem post_true (args : List WData) : PySem.Challenge.rw_ov0001_01.row.claim.post args (.bool true) args = true := by
  refine postW_of (r := PySem.Challenge.rw_ov0001_01.row.toRowW) (X := true) ?_ ?_ rfl
  · first | rfl | decide | simp [OpenLaw.row, WShape.has]
  · show (WTm.eq .res (.lit (.bool true))).value [] _ = _
    simp [WTm.value]
    first | rfl | decide | simp [PySem.W.same]

theorem finish {w : World} {s₀ s₁ : Shared} {mg mb : Str → Option Value} {fa l : Addr} {vs : List Value} {ns : List Int} {args : List WData} (T : Top pv (looseW pv []) (ExcName.means s₀.heap) mg mb s₁.heap) (hg : s₁.gens = #[]) (hmg : mg (nmAt 25) = some (.ref fa)) (hL : s₁.heap.IsList l vs.toArray) (hI : IntsAre vs ns)
    (hlen : ¬ ((63 : Nat) : Int) < (ns.length : Int)) :
    wpAny (model PySem.Challenge.rw_ov0001_01.row.prog w) callerA (call (.ref fa) [.ref l])
      (fun v s' => GoodWG PySem.Challenge.rw_ov0001_01.row.claim (classAt s₀.heap) (ExcName.means s₀.heap) args s₁ (.ok (.ret v)) s')
      (fun e s' => GoodWG PySem.Challenge.rw_ov0001_01.row.claim (classAt s₀.heap) (ExcName.means s₀.heap) args s₁ (.error e) s') s₁ := by
  let X : Cx := { prog := PySem.Challenge.rw_ov0001_01.row.prog, w := w, h₀ := s₁.heap, p := pv, loose := (looseW pv []), mean := ExcName.means s₀.heap, mg := mg, mb := mb, top := T }
  have F : Fns X (adr X) := fns_of rfl rfl
  have hfa : adr X 25 = fa := by
    have h1 : mg (nmAt 25) = some (.ref (adr X 25)) := (F.D 25 (by decide)).name
    rw [hmg] at h1
    injection h1 with h1; injection h1 with h1; exact h1.symm
  have ok : Ok X (fun _ => none) s₁.heap := ⟨fun _ _ e => e, fun a l e => by cases e⟩
  have hA : AOk callerA 390 := ⟨rfl, rfl, by decide, by decide⟩
  have go := fn_law (X := X) (mem := fun _ => none) F (sc0 := l) (ns := ns) (ws := vs) hL (ints_are hI) (by omega) (d := 390) (by omega) (by omega) (K := fun pv _ => pv = .t (.bool true)) rfl
  rw [hfa] at go
  refine wpAny_mono (go.run callerA s₁ [.ref l] hA ok (.cons rfl .nil)) (fun v s' p => ?_) (fun _ _ h => h.elim)
  obtain ⟨pv, m', hv, ok', st, rfl⟩ := p
  cases hv
  refine GoodW.toG ⟨.inl ⟨_, .bool true, [], rfl, fun cls => rfl, ReadsW.bool true, post_true args, fun _ => ⟨List.nodup_nil, by simp⟩⟩, fun b o e => st.ext b o rfl e, ?_, ?_⟩
  · rw [st.same]
  · rw [st.same]; exact hg
theorem walk_law : ∀ d kwd, defOf pv PySem.Challenge.rw_ov0001_01.row.name = some (d, kwd) → WalkO pv [] (XL pv []) Hook.none.says PySem.Challenge.rw_ov0001_01.row.toRowW d kwd fun f vs => PySem.call f vs := by
  intro d kwd hdef w s₀ s₁ mg mb G Y fa o pm cd doc dV kV ho hd hcd hD hmg hg args vals as hpre hlay hrd hwl hlo
  have hn := dname
  rw [hdef, Option.map_some, Option.some.injEq] at hn
  have hmg' : mg (nmAt 25) = some (.ref fa) := hn ▸ hmg
  clear hmg hn hdef
  refine Ground.open G ?_
  intro T B D TE TW
  clear D TE TW B Y
  clear hd hcd hD ho
  wrow_args hpre hlay hrd hwl hlo
  rename_i hL ra w1 r0 hI hr hlen hcond
  exact finish T hg hmg' hL hI hlen

end
end Mine


theorem PySem.Challenge.cw_ov0001_01_holds : PySem.Challenge.rw_ov0001_01.Holds :=
  Mine.hold Mine.walk_law
