import PyProof.Rows.All
import Wide.All
import OpenK.AllK
import Wide.FinOn
import PySem.Challenge.RW_nn0214_01
open PySem PySem.W PyProof.Rows
set_option Elab.async false
set_option linter.unusedVariables false
namespace Mine
/-- the written part of the top, as the head lays it -/
def Marker (K : Params → Frag) : Prop := K = K ∧ False
def mkK {X : Prop} (K : Params → Frag) (_ : Marker K → X) : Params → Frag := K
theorem Marker.out {X : Prop} (K : Params → Frag) (f : Marker K) : X := f.2.elim
local macro_rules | `(tactic| o_head (kHook $K:term $A:term $E:term)) => `(tactic| exact Marker.out $K (by assumption))
set_option maxRecDepth 100000 in
set_option maxHeartbeats 8000000 in
noncomputable def K : Params → Frag := by
  refine' mkK (X := PySem.Challenge.rw_nn0214_01.row.Holds) _ ?_
  rotate_left
  intro f
  k_head
end Mine
open PySem.Calls
set_option maxRecDepth 100000
namespace Mine

/-- the logic's word, shut -/
@[irreducible] def W {α : Type} (Mo : Model) (A : Around) (t : Sem α) (Q : α → Shared → Prop) (E : Value → Shared → Prop) (s : Shared) : Prop := wpAny Mo A t Q E s
theorem W_eq : @W = @wpAny := by funext α Mo A t Q E s; unfold W; rfl
theorem W.un {α : Type} {Mo : Model} {A : Around} {t : Sem α} {Q : α → Shared → Prop} {E : Value → Shared → Prop} {s : Shared} (h : W Mo A t Q E s) : wpAny Mo A t Q E s := by rwa [W_eq] at h
theorem W.of {α : Type} {Mo : Model} {A : Around} {t : Sem α} {Q : α → Shared → Prop} {E : Value → Shared → Prop} {s : Shared} (h : wpAny Mo A t Q E s) : W Mo A t Q E s := by rwa [W_eq]
theorem W.mono {α : Type} {Mo : Model} {A : Around} {t : Sem α} {Q Q' : α → Shared → Prop} {E E' : Value → Shared → Prop} {s : Shared} (h : W Mo A t Q E s) (hQ : ∀ a s, Q a s → Q' a s) (hE : ∀ e s, E e s → E' e s) : W Mo A t Q' E' s := .of (wpAny_mono h.un hQ hE)

/-- a part of the heap that stays as it is -/
abbrev Fz := Addr → Option Obj
def Fle (T T' : Fz) : Prop := ∀ b o, T b = some o → T' b = some o
theorem Fle.refl (T : Fz) : Fle T T := fun _ _ e => e
theorem Fle.trans {T T' T'' : Fz} (x : Fle T T') (y : Fle T' T'') : Fle T T'' := fun b o e => y b o (x b o e)

/-- what stands through the whole call -/
structure Cx where
  p : Program
  w : World
  B : Heap
  mg : Str → Option Value
  mb : Str → Option Value
  g : Array GenState
  os : OsState
noncomputable def Cx.K (c : Cx) : Frag := K.heap_1 c.w.params
structure Cx.Ok (c : Cx) : Prop where
  K : c.K.In c.B
  gN : c.B.Ns mainGlobals c.mg
  bN : c.B.Ns builtinsNs c.mb
  lim : c.B.NoLimit
  bi : ∀ x : Str, x ≠ "__name__" → c.mb x = bootBuiltins x

abbrev NoE : Value → Shared → Prop := fun _ _ => False

structure In (c : Cx) (T : Fz) (s : Shared) : Prop where
  ok : c.Ok
  gens : s.gens = c.g
  os : s.os = c.os
  bT : ∀ b o, c.B.get? b = some o → T b = some o
  sub : ∀ b o, T b = some o → s.heap.get? b = some o

structure OutX (X : List Addr) (T : Fz) (s : Shared) (T' : Fz) (s' : Shared) : Prop where
  gens : s'.gens = s.gens
  os : s'.os = s.os
  le : Fle T T'
  low : ∀ b, b < s.heap.objs.size → T' b = T b
  sub : ∀ b o, T' b = some o → s'.heap.get? b = some o
  keep : ∀ b o, b ∉ X → s.heap.get? b = some o → s'.heap.get? b = some o
  size : s.heap.objs.size ≤ s'.heap.objs.size
abbrev Out := OutX []

/-- the locals, by their names' order -/
def Al : List Str → List (Option Value) → (Str → Option Value) → Prop
  | k :: ks, v :: vs, m => (∀ x, v = some x → m k = some x) ∧ Al ks vs m
  | _, _, _ => True
inductive Has : List Str → List (Option Value) → Str → Value → Prop
  | head {k ks v vs} : Has (k :: ks) (some v :: vs) k v
  | tail {k ks o vs x v} : Has ks vs x v → Has (k :: ks) (o :: vs) x v
inductive Put : List Str → List (Option Value) → Str → Value → List (Option Value) → Prop
  | head {k ks o v vs} : Put (k :: ks) (o :: vs) k v (some v :: vs)
  | tail {k ks o vs x v vs'} : Put ks vs x v vs' → Put (k :: ks) (o :: vs) x v (o :: vs')
theorem Al.has {ks vs m x v} (h : Has ks vs x v) (a : Al ks vs m) : m x = some v ∧ x ∈ ks := by
  induction h with
  | head => exact ⟨a.1 _ rfl, .head _⟩
  | tail _ ih => exact ⟨(ih a.2).1, .tail _ (ih a.2).2⟩
theorem Al.other {x : Str} {v : Value} : ∀ {ks vs m}, x ∉ ks → Al ks vs m → Al ks vs (fun y => if y = x then some v else m y)
  | [], _, _, _, _ => trivial
  | _ :: _, [], _, _, _ => trivial
  | k :: ks, o :: vs, m, hn, a => ⟨fun y e => by
      have : k ≠ x := fun q => hn (q ▸ .head _)
      show (if k = x then some v else m k) = _
      rw [if_neg this]; exact a.1 y e, Al.other (fun h => hn (.tail _ h)) a.2⟩
theorem Put.mem {ks vs x v vs'} (h : Put ks vs x v vs') : x ∈ ks := by
  induction h with
  | head => exact .head _
  | tail _ ih => exact .tail _ ih
theorem Al.put {ks vs m x v vs'} (h : Put ks vs x v vs') (nd : ks.Nodup) (a : Al ks vs m) : Al ks vs' (fun y => if y = x then some v else m y) := by
  induction h with
  | head =>
    refine ⟨fun y e => ?_, Al.other (List.nodup_cons.mp nd).1 a.2⟩
    show (if _ = _ then _ else _) = _
    rw [if_pos rfl]; exact e
  | @tail k ks o vs x v vs' hp ih =>
    refine ⟨fun y e => ?_, ih (List.nodup_cons.mp nd).2 a.2⟩
    have : k ≠ x := fun q => (List.nodup_cons.mp nd).1 (q ▸ hp.mem)
    show (if k = x then some v else m k) = _
    rw [if_neg this]; exact a.1 y e
theorem Al.of_map {m : Str → Option Value} : ∀ {ks : List Str} {vs : List (Option Value)}, ks.map m = vs → Al ks vs m
  | [], _, _ => trivial
  | k :: ks, [], h => trivial
  | k :: ks, v :: vs, h => by
    rw [List.map_cons] at h
    injection h with h1 h2
    exact ⟨fun x e => h1.trans e, Al.of_map h2⟩

/-- a frame's names -/
structure Fn (env : Env) (L : Addr) (ks gs : List Str) : Prop where
  loc : env.locals = L
  kind : env.scope.kind = .function
  nd : ks.Nodup
  lk : ∀ k ∈ ks, env.kindOf k = some .local ∧ (k == ("__debug__" : Str)) = false
  gk : ∀ k ∈ gs, env.kindOf k = some .globalImplicit ∧ (k == ("__debug__" : Str)) = false
  glob : env.globals = mainGlobals
  bins : env.builtins = builtinsNs

structure Ent where
  N : Addr
  T : Fz
  G : Fz

structure St (c : Cx) (P : Ent) (T : Fz) (L : Addr) (ks : List Str) (vs : List (Option Value)) (M : List (Addr × Obj)) (s : Shared) : Prop where
  ok : c.Ok
  gens : s.gens = c.g
  os : s.os = c.os
  bT : ∀ b o, c.B.get? b = some o → T b = some o
  sub : ∀ b o, T b = some o → s.heap.get? b = some o
  le : Fle P.T T
  low : ∀ b, b < P.N → T b = P.T b
  keep : ∀ b o, P.G b = some o → s.heap.get? b = some o
  nl : P.N ≤ L
  ns : ∃ m, s.heap.Ns L m ∧ Al ks vs m
  tL : T L = none
  gL : P.G L = none
  led : ∀ p ∈ M, s.heap.get? p.1 = some p.2 ∧ T p.1 = none ∧ p.1 ≠ L ∧ P.G p.1 = none
  nd : (M.map (·.1)).Nodup

variable {c : Cx} {P : Ent} {T : Fz} {L : Addr} {ks gs : List Str} {vs : List (Option Value)} {M : List (Addr × Obj)} {s : Shared} {env : Env} {A : Around}

theorem St.toIn (S : St c P T L ks vs M s) : In c T s := ⟨S.ok, S.gens, S.os, S.bT, S.sub⟩
theorem St.K (S : St c P T L ks vs M s) : c.K.In s.heap := S.ok.K.keeps fun b o e => S.sub b o (S.bT b o e)
theorem In.K (S : In c T s) : c.K.In s.heap := S.ok.K.keeps fun b o e => S.sub b o (S.bT b o e)
theorem St.size (S : St c P T L ks vs M s) : P.N ≤ s.heap.objs.size := by
  obtain ⟨m, hn, _⟩ := S.ns
  exact Nat.le_of_lt (Nat.lt_of_le_of_lt S.nl hn.lt)
theorem St.bh (S : St c P T L ks vs M s) : ∀ b o, c.B.get? b = some o → s.heap.get? b = some o := fun b o e => S.sub b o (S.bT b o e)
theorem In.bh (S : In c T s) : ∀ b o, c.B.get? b = some o → s.heap.get? b = some o := fun b o e => S.sub b o (S.bT b o e)
theorem St.tok (S : St c P T L ks vs M s) (t : Nat) : St c P T L ks vs M { s with toks := t } := ⟨S.ok, S.gens, S.os, S.bT, S.sub, S.le, S.low, S.keep, S.nl, S.ns, S.tL, S.gL, S.led, S.nd⟩

/-- the heap at one of the frame's own addresses turned -/
theorem St.store {x : Str} {v : Value} {vs' : List (Option Value)} {h' : Heap} {m : Str → Option Value} (S : St c P T L ks vs M s) (hm : Al ks vs m) (hn : h'.Ns L (fun y => if y = x then some v else m y)) (hs : Heap.SameBut L s.heap h') (hp : Put ks vs x v vs') (nd : ks.Nodup) (t : Nat) :
    St c P T L ks vs' M { s with heap := h', toks := t } where
  ok := S.ok
  gens := S.gens
  os := S.os
  bT := S.bT
  sub := fun b o e => (hs.2 b (fun q => by rw [q, S.tL] at e; cases e)).trans (S.sub b o e)
  le := S.le
  low := S.low
  keep := fun b o e => (hs.2 b (fun q => by rw [q, S.gL] at e; cases e)).trans (S.keep b o e)
  nl := S.nl
  ns := ⟨_, hn, hm.put hp nd⟩
  tL := S.tL
  gL := S.gL
  led := fun p hp => ⟨(hs.2 _ (S.led p hp).2.2.1).trans (S.led p hp).1, (S.led p hp).2⟩
  nd := S.nd

/-- a heap that only grew -/
theorem St.grow {h' : Heap} (S : St c P T L ks vs M s) (hk : ∀ b o, s.heap.get? b = some o → h'.get? b = some o) (t : Nat) :
    St c P T L ks vs M { s with heap := h', toks := t } where
  ok := S.ok
  gens := S.gens
  os := S.os
  bT := S.bT
  sub := fun b o e => hk b o (S.sub b o e)
  le := S.le
  low := S.low
  keep := fun b o e => hk b o (S.keep b o e)
  nl := S.nl
  ns := let ⟨m, hn, a⟩ := S.ns; ⟨m, hn.keeps hk, a⟩
  tL := S.tL
  gL := S.gL
  led := fun p hp => ⟨hk _ _ (S.led p hp).1, (S.led p hp).2⟩
  nd := S.nd
theorem St.push (S : St c P T L ks vs M s) (o : Obj) (t : Nat) : St c P T L ks vs M { s with heap := s.heap.push o, toks := t } :=
  S.grow (fun _ _ e => Heap.get?_push_of_some _ e) t

/-- a new object is laid by for the call -/
theorem St.own {a : Addr} {o : Obj} (S : St c P T L ks vs M s) (ha : s.heap.get? a = some o) (hT : T a = none) (hL : a ≠ L) (hG : P.G a = none) (hM : a ∉ M.map (·.1)) : St c P T L ks vs ((a, o) :: M) s :=
  ⟨S.ok, S.gens, S.os, S.bT, S.sub, S.le, S.low, S.keep, S.nl, S.ns, S.tL, S.gL, fun p hp => by
    rcases List.mem_cons.mp hp with rfl | hp
    · exact ⟨ha, hT, hL, hG⟩
    · exact S.led p hp, List.nodup_cons.mpr ⟨hM, S.nd⟩⟩
theorem get_size (h : Heap) : h.get? h.objs.size = none := by
  cases e : h.get? h.objs.size with
  | none => rfl
  | some o => exact absurd (Heap.lt_size e) (Nat.lt_irrefl _)
theorem St.newM {o : Obj} (S : St c P T L ks vs M s) (hf : o.isFreed = false) (t : Nat) : St c P T L ks vs ((s.heap.objs.size, o) :: M) { s with heap := s.heap.push o, toks := t } := by
  refine (S.push o t).own (Heap.get?_push_size _ hf) ?_ ?_ ?_ ?_
  · cases e : T s.heap.objs.size with
    | none => rfl
    | some o' => have := S.sub _ _ e; rw [get_size] at this; cases this
  · intro e
    obtain ⟨m, hn, _⟩ := S.ns
    exact absurd (e ▸ hn.lt) (Nat.lt_irrefl _)
  · cases e : P.G s.heap.objs.size with
    | none => rfl
    | some o' => have := S.keep _ _ e; rw [get_size] at this; cases this
  · intro hm
    obtain ⟨p, hp, e⟩ := List.mem_map.mp hm
    have := (S.led p hp).1
    rw [show p.1 = s.heap.objs.size from e, get_size] at this
    cases this

inductive MD (a : Addr) (o : Obj) : List (Addr × Obj) → List (Addr × Obj) → Prop
  | head {r} : MD a o ((a, o) :: r) r
  | tail {p r r'} : MD a o r r' → MD a o (p :: r) (p :: r')
inductive MU (a : Addr) (o o' : Obj) : List (Addr × Obj) → List (Addr × Obj) → Prop
  | head {r} : MU a o o' ((a, o) :: r) ((a, o') :: r)
  | tail {p r r'} : MU a o o' r r' → MU a o o' (p :: r) (p :: r')
theorem MD.mem {a o M M'} (h : MD a o M M') : (a, o) ∈ M := by
  induction h with
  | head => exact .head _
  | tail _ ih => exact .tail _ ih
theorem MD.sub {a o M M'} (h : MD a o M M') : ∀ p ∈ M', p ∈ M := by
  induction h with
  | head => exact fun p hp => .tail _ hp
  | tail _ ih =>
    intro p hp
    rcases List.mem_cons.mp hp with rfl | hp
    · exact .head _
    · exact .tail _ (ih p hp)
theorem MD.nd {a o M M'} (h : MD a o M M') (n : (M.map (·.1)).Nodup) : (M'.map (·.1)).Nodup ∧ a ∉ M'.map (·.1) := by
  induction h with
  | head => rw [List.map_cons] at n; exact ⟨(List.nodup_cons.mp n).2, (List.nodup_cons.mp n).1⟩
  | @tail p r r' hd ih =>
    rw [List.map_cons] at n
    obtain ⟨n1, n2⟩ := List.nodup_cons.mp n
    refine ⟨?_, ?_⟩
    · rw [List.map_cons]
      refine List.nodup_cons.mpr ⟨fun hm => n1 ?_, (ih n2).1⟩
      obtain ⟨q, hq, e⟩ := List.mem_map.mp hm
      exact e ▸ List.mem_map_of_mem (hd.sub q hq)
    · rw [List.map_cons]
      intro hm
      rcases List.mem_cons.mp hm with e | hm
      · exact n1 (e ▸ List.mem_map_of_mem hd.mem)
      · exact (ih n2).2 hm
theorem MU.mem {a o o' M M'} (h : MU a o o' M M') : (a, o) ∈ M := by
  induction h with
  | head => exact .head _
  | tail _ ih => exact .tail _ ih
theorem MU.keys {a o o' M M'} (h : MU a o o' M M') : M'.map (·.1) = M.map (·.1) := by
  induction h with
  | head => rfl
  | tail _ ih => rw [List.map_cons, List.map_cons, ih]
theorem MU.led {a o o' M M'} (h : MU a o o' M M') (n : (M.map (·.1)).Nodup) : ∀ p ∈ M', p = (a, o') ∨ (p ∈ M ∧ p.1 ≠ a) := by
  induction h with
  | head =>
    intro p hp
    rw [List.map_cons] at n
    rcases List.mem_cons.mp hp with rfl | hp
    · exact .inl rfl
    · exact .inr ⟨.tail _ hp, fun e => (List.nodup_cons.mp n).1 (List.mem_map.mpr ⟨p, hp, e⟩)⟩
  | @tail q r r' hd ih =>
    intro p hp
    rw [List.map_cons] at n
    rcases List.mem_cons.mp hp with rfl | hp
    · exact .inr ⟨.head _, fun e => (List.nodup_cons.mp n).1 (e ▸ List.mem_map_of_mem hd.mem)⟩
    · exact (ih (List.nodup_cons.mp n).2 p hp).imp id fun x => ⟨.tail _ x.1, x.2⟩

theorem St.setM {a : Addr} {o o' : Obj} {M' : List (Addr × Obj)} {h' : Heap} (S : St c P T L ks vs M s) (U : MU a o o' M M') (hs : Heap.SameBut a s.heap h') (ho : h'.get? a = some o') (t : Nat) :
    St c P T L ks vs M' { s with heap := h', toks := t } where
  ok := S.ok
  gens := S.gens
  os := S.os
  bT := S.bT
  sub := fun b ob e => (hs.2 b (fun q => by rw [q, (S.led _ U.mem).2.1] at e; cases e)).trans (S.sub b ob e)
  le := S.le
  low := S.low
  keep := fun b ob e => (hs.2 b (fun q => by rw [q, (S.led _ U.mem).2.2.2] at e; cases e)).trans (S.keep b ob e)
  nl := S.nl
  ns := let ⟨m, hn, al⟩ := S.ns; ⟨m, hn.sameBut hs (Ne.symm (S.led _ U.mem).2.2.1), al⟩
  tL := S.tL
  gL := S.gL
  led := fun p hp => by
    rcases U.led S.nd p hp with rfl | ⟨hm, ne⟩
    · exact ⟨ho, (S.led _ U.mem).2⟩
    · exact ⟨(hs.2 _ ne).trans (S.led p hm).1, (S.led p hm).2⟩
  nd := by rw [U.keys]; exact S.nd

/-- an object is given up to what stays -/
theorem St.freeze {a : Addr} {o : Obj} {M' : List (Addr × Obj)} (S : St c P T L ks vs M s) (D : MD a o M M') (hN : P.N ≤ a) :
    ∃ T', Fle T T' ∧ T' a = some o ∧ St c P T' L ks vs M' s := by
  obtain ⟨h1, h2, h3, h4⟩ := S.led _ D.mem
  have le : Fle T (fun b => if b = a then some o else T b) := fun b ob e => by
    show (if b = a then some o else T b) = _
    rw [if_neg (fun q => by rw [q, h2] at e; cases e)]; exact e
  refine ⟨_, le, if_pos rfl, ⟨S.ok, S.gens, S.os, fun b ob e => le b ob (S.bT b ob e), fun b ob e => ?_, S.le.trans le, fun b hb => ?_, S.keep, S.nl, S.ns, ?_, S.gL, fun p hp => ?_, (D.nd S.nd).1⟩⟩
  · split at e
    · rename_i q; cases e; subst q; exact h1
    · exact S.sub b ob e
  · show (if b = a then some o else T b) = _
    rw [if_neg (Nat.ne_of_lt (Nat.lt_of_lt_of_le hb hN))]; exact S.low b hb
  · show (if L = a then some o else T L) = _
    rw [if_neg (Ne.symm h3)]; exact S.tL
  · obtain ⟨g1, g2, g3, g4⟩ := S.led p (D.sub p hp)
    refine ⟨g1, ?_, g3, g4⟩
    show (if p.1 = a then some o else T p.1) = _
    rw [if_neg (fun q => (D.nd S.nd).2 (List.mem_map.mpr ⟨p, hp, q⟩))]; exact g2

theorem St.newT {o : Obj} (S : St c P T L ks vs M s) (hf : o.isFreed = false) (t : Nat) :
    ∃ T', Fle T T' ∧ T' s.heap.objs.size = some o ∧ St c P T' L ks vs M { s with heap := s.heap.push o, toks := t } :=
  (S.newM hf t).freeze .head S.size

theorem St.out {T' : Fz} {s' : Shared} (S : St c P T L ks vs M s) (O : Out T s T' s') : St c P T' L ks vs M s' where
  ok := S.ok
  gens := O.gens.trans S.gens
  os := O.os.trans S.os
  bT := fun b o e => O.le b o (S.bT b o e)
  sub := O.sub
  le := S.le.trans O.le
  low := fun b hb => (O.low b (Nat.lt_of_lt_of_le hb S.size)).trans (S.low b hb)
  keep := fun b o e => O.keep b o (List.not_mem_nil) (S.keep b o e)
  nl := S.nl
  ns := let ⟨m, hn, a⟩ := S.ns; ⟨m, hn.keeps fun b o e => O.keep b o (List.not_mem_nil) e, a⟩
  tL := by obtain ⟨m, hn, _⟩ := S.ns; rw [O.low L hn.lt]; exact S.tL
  gL := S.gL
  led := fun p hp => by
    obtain ⟨h1, h2, h3, h4⟩ := S.led p hp
    exact ⟨O.keep _ _ (List.not_mem_nil) h1, by rw [O.low _ (Heap.lt_size h1)]; exact h2, h3, h4⟩
  nd := S.nd

/-- back from the call -/
theorem St.back {s₀ : Shared} {T₀ : Fz} (S : St c ⟨s₀.heap.objs.size, T₀, s₀.heap.get?⟩ T L ks vs M s) (I : In c T₀ s₀) : Out T₀ s₀ T s :=
  ⟨S.gens.trans I.gens.symm, S.os.trans I.os.symm, S.le, S.low, S.sub, fun b o _ e => S.keep b o e, S.size⟩
end Mine
namespace Mine

structure Rm (A : Around) (n : Nat) : Prop where
  hd : A.handled = none
  dep : A.depth + n < recursionLimit
  un : A.units + 8 * n + 200 < cLine

section
variable {c : Cx} {P : Ent} {T : Fz} {L : Addr} {ks gs : List Str} {vs : List (Option Value)} {M : List (Addr × Obj)} {s : Shared} {env : Env} {A : Around} {Mo : Model} {E : Value → Shared → Prop}

theorem Rm.le {n m : Nat} (h : Rm A n) (e : m ≤ n) : Rm A m := ⟨h.hd, by have := h.dep; omega, by have := h.un; omega⟩
theorem Rm.deeper {n : Nat} (h : Rm A (n + 1)) : Rm (A.deeper env) n := ⟨h.hd, by have := h.dep; show A.depth + 1 + n < _; omega, by have := h.un; show A.units + 3 + 8 * n + 200 < _; omega⟩
theorem Rm.in1 {n : Nat} (h : Rm A (n + 1)) : Rm A.in1 n := ⟨h.hd, by have := h.dep; show A.depth + n < _; omega, by have := h.un; show A.units + 1 + 8 * n + 200 < _; omega⟩
theorem Rm.room {n : Nat} (h : Rm A n) : A.depth < recursionLimit := by have := h.dep; omega
theorem Rm.units {n : Nat} (h : Rm A n) : A.units < cLine := by have := h.un; omega

/-- names -/
theorem rd {x : Str} {pos : Pos} {v : Value} {Q : Value → Shared → Prop} (F : Fn env L ks gs) (S : St c P T L ks vs M s) (h : Has ks vs x v) (k : Q v s) : W Mo A (eval (.Name x pos) env) Q E s := by
  simp only [W_eq] at *
  obtain ⟨m, hn, a⟩ := S.ns
  obtain ⟨e, hm⟩ := a.has h
  obtain ⟨k1, k2⟩ := F.lk x hm
  exact wpAny_Name (wpAny_loadName_local F.kind k1 (F.loc ▸ hn) e k) k2
theorem wr {x : Str} {v : Value} {vs' : List (Option Value)} {Q : Unit → Shared → Prop} (F : Fn env L ks gs) (S : St c P T L ks vs M s) (h : Put ks vs x v vs') (k : ∀ s', St c P T L ks vs' M s' → Q () s') : W Mo A (storeName env x v) Q E s := by
  simp only [W_eq] at *
  obtain ⟨m, hn, a⟩ := S.ns
  obtain ⟨k1, k2⟩ := F.lk x h.mem
  have hl := F.loc
  subst hl
  exact wpAny_storeName_local k1 hn (fun h' hn' hs => k _ (S.store a hn' hs h F.nd _)) (by rw [F.kind]; rfl)
theorem rdG {x : Str} {pos : Pos} {v : Value} {Q : Value → Shared → Prop} (F : Fn env L ks gs) (S : In c T s) (h : x ∈ gs) (e : nsIn c.K mainGlobals x = some (some v)) (k : Q v s) : W Mo A (eval (.Name x pos) env) Q E s := by
  simp only [W_eq] at *
  obtain ⟨k1, k2⟩ := F.gk x h
  exact Name_function_global F.kind k1 (loadGlobal_global (F.glob ▸ S.ok.gN.keeps S.bh) (mg_of S.ok.K S.ok.gN e) k) k2
theorem rdB {x : Str} {pos : Pos} {v : Value} {Q : Value → Shared → Prop} (F : Fn env L ks gs) (S : In c T s) (h : x ∈ gs) (e : nsIn c.K mainGlobals x = some none) (hv : bootBuiltins x = some v) (hn : x ≠ "__name__") (k : Q v s) : W Mo A (eval (.Name x pos) env) Q E s := by
  simp only [W_eq] at *
  obtain ⟨k1, k2⟩ := F.gk x h
  exact Name_function_global F.kind k1 (loadGlobal_builtin (F.glob ▸ S.ok.gN.keeps S.bh) (mg_none_of S.ok.K S.ok.gN e) (F.bins ▸ S.ok.bN.keeps S.bh) ((S.ok.bi x hn).trans hv) k) k2

/-- statements -/
def thn (Mo : Model) (A : Around) (env : Env) (rest : List Stmt) (Q : Flow → Shared → Prop) (E : Value → Shared → Prop) : Flow → Shared → Prop
  | .next, s => W Mo A (execs rest env) Q E s
  | f, s => Q f s
theorem thn_next {rest : List Stmt} {Q : Flow → Shared → Prop} {A' : Around} (h : W Mo A (execs rest env) Q E s) : W Mo A' (execs [] env) (thn Mo A env rest Q E) E s := .of (wpAny_execs_nil h)
theorem thn_ret {rest : List Stmt} {v : Value} {Q : Flow → Shared → Prop} (h : Q (.ret v) s) : thn Mo A env rest Q E (.ret v) s := h
def rq (R : Value → Shared → Prop) : Flow → Shared → Prop
  | .ret v, s => R v s
  | _, s => R .none s
theorem rq_ret {R : Value → Shared → Prop} {v : Value} (h : R v s) : rq R (.ret v) s := h
theorem rq_nil {R : Value → Shared → Prop} (h : R .none s) : W Mo A (execs [] env) (rq R) E s := by simp only [W_eq] at *; exact wpAny_execs_nil h
theorem seqA {st : Stmt} {rest : List Stmt} {Q : Flow → Shared → Prop} (h : wpAny Mo A (exec st env) (thn Mo A env rest Q E) E s) : wpAny Mo A (execs (st :: rest) env) Q E s :=
  wpAny_execs_cons (wpAny_mono h (fun f s' h' => by cases f <;> first | exact h' | exact W.un h') fun _ _ x => x)
theorem seq {st : Stmt} {rest : List Stmt} {Q : Flow → Shared → Prop} (h : W Mo A (exec st env) (thn Mo A env rest Q E) E s) : W Mo A (execs (st :: rest) env) Q E s := by
  simp only [W_eq] at *
  exact seqA h
theorem asg {x : Str} {p' pos : Pos} {value : Expr} {rest : List Stmt} {Q : Flow → Shared → Prop}
    (h : W Mo A (eval value env) (fun v s₁ => W Mo A (storeName env x v) (fun _ s₂ => W Mo A (execs rest env) Q E s₂) E s₁) E s)
    (hs : swapsWith value (some (.Name x p')) pos.line env = pure false := by kernel_rfl) : W Mo A (execs (.Assign [.Name x p'] value pos :: rest) env) Q E s := by
  simp only [W_eq] at *
  exact seqA (wpAny_Assign_Name (Q := thn Mo A env rest Q E) (wpAny_mono h (fun _ _ y => wpAny_mono y (fun _ _ z => .of z) fun _ _ x => x) fun _ _ x => x) hs)
theorem ret {e : Expr} {pos : Pos} {rest : List Stmt} {Q : Flow → Shared → Prop} (h : W Mo A (eval e env) (fun v => Q (.ret v)) E s) : W Mo A (execs (.Return (some e) pos :: rest) env) Q E s := by
  simp only [W_eq] at *
  exact seqA (wpAny_Return_some (wpAny_mono h (fun _ _ x => x) fun _ _ x => x))
theorem iff_ {test : Expr} {body orelse rest : List Stmt} {pos : Pos} {Q : Flow → Shared → Prop}
    (h : W Mo A (isTrue test env (eval test env)) (fun b s₂ => (b = true → W Mo A (execs body env) (thn Mo A env rest Q E) E s₂) ∧ (b = false → W Mo A (execs orelse env) (thn Mo A env rest Q E) E s₂)) E s) :
    W Mo A (execs (.If test body orelse pos :: rest) env) Q E s := by
  simp only [W_eq] at *
  exact seqA (wpAny_If (wpAny_mono h (fun b s' h' => by cases b with | true => exact h'.1 rfl | false => exact h'.2 rfl) fun _ _ x => x))

/-- a call -/
def fnChk (fd : FuncData) (ks gs : List Str) : Bool :=
  fd.scope.kind == .function && (decide ks.Nodup && (ks.all (fun k => fd.scope.names.lookup k == some .local && !(k == ("__debug__" : Str))) && (gs.all (fun k => fd.scope.names.lookup k == some .globalImplicit && !(k == ("__debug__" : Str))) &&
    (fd.scope.names.all (fun x => !(x.2 == .cell)) && (fd.globals == mainGlobals && (fd.builtins == builtinsNs && (!fd.scope.isCoroutine && !fd.scope.isGenerator)))))))
theorem fn_of {fd : FuncData} {a : Addr} (h : fnChk fd ks gs = true) : Fn (callEnv fd L a) L ks gs ∧ fd.scope.isCoroutine = false ∧ fd.scope.isGenerator = false ∧ fd.scope.kind = .function ∧ ∀ x ∈ fd.scope.names, x.2 ≠ .cell := by
  unfold fnChk at h
  obtain ⟨h1, h⟩ := Bool.and_eq_true_iff.mp h
  obtain ⟨h2, h⟩ := Bool.and_eq_true_iff.mp h
  obtain ⟨h3, h⟩ := Bool.and_eq_true_iff.mp h
  obtain ⟨h4, h⟩ := Bool.and_eq_true_iff.mp h
  obtain ⟨h5, h⟩ := Bool.and_eq_true_iff.mp h
  obtain ⟨h6, h⟩ := Bool.and_eq_true_iff.mp h
  obtain ⟨h7, h⟩ := Bool.and_eq_true_iff.mp h
  obtain ⟨h8, h9⟩ := Bool.and_eq_true_iff.mp h
  refine ⟨⟨rfl, eq_of_beq h1, of_decide_eq_true h2, fun k hk => ?_, fun k hk => ?_, eq_of_beq h6, eq_of_beq h7⟩, by simpa using h8, by simpa using h9, eq_of_beq h1, fun x hx => ?_⟩
  · obtain ⟨q1, q2⟩ := Bool.and_eq_true_iff.mp (List.all_eq_true.mp h3 k hk)
    exact ⟨eq_of_beq q1, by simpa using q2⟩
  · obtain ⟨q1, q2⟩ := Bool.and_eq_true_iff.mp (List.all_eq_true.mp h4 k hk)
    exact ⟨eq_of_beq q1, by simpa using q2⟩
  · have := List.all_eq_true.mp h5 x hx
    simpa using this


/-- St without its frame: what stands as a def is entered -/
structure Pr (c : Cx) (P : Ent) (T : Fz) (M : List (Addr × Obj)) (s : Shared) : Prop where
  ok : c.Ok
  gens : s.gens = c.g
  os : s.os = c.os
  bT : ∀ b o, c.B.get? b = some o → T b = some o
  sub : ∀ b o, T b = some o → s.heap.get? b = some o
  le : Fle P.T T
  low : ∀ b, b < P.N → T b = P.T b
  keep : ∀ b o, P.G b = some o → s.heap.get? b = some o
  nz : P.N ≤ s.heap.objs.size
  led : ∀ p ∈ M, s.heap.get? p.1 = some p.2 ∧ T p.1 = none ∧ P.G p.1 = none
  nd : (M.map (·.1)).Nodup
theorem In.pr (I : In c T s) : Pr c ⟨s.heap.objs.size, T, s.heap.get?⟩ T [] s :=
  ⟨I.ok, I.gens, I.os, I.bT, I.sub, fun _ _ e => e, fun _ _ => rfl, fun _ _ e => e, Nat.le_refl _, (fun p hp => nomatch hp), List.nodup_nil⟩
theorem Pr.K (S : Pr c P T M s) : c.K.In s.heap := S.ok.K.keeps fun b o e => S.sub b o (S.bT b o e)
theorem Pr.bh (S : Pr c P T M s) : ∀ b o, c.B.get? b = some o → s.heap.get? b = some o := fun b o e => S.sub b o (S.bT b o e)

theorem enterC {f : Addr} {fd : FuncData} {body : List Stmt} {args : List Value} {binds : List (Str × Value)} {oc : Value} {od : Option Addr} {osl : Array (Option Value)} {R : Result → Shared → Prop} {n : Nat}
    (ks gs : List Str) (vs : List (Option Value))
    (I : Pr c P T M s) (hA : Rm A (n + 1)) (ho : c.K.lookup f = some ⟨oc, od, .func fd, osl⟩) (hbody : fd.body = .stmts body) (hcd : codeIn c.K fd.code fd.qualname = true)
    (hb : BindsTo s fd ⟨args, []⟩ binds) (hc : fnChk fd ks gs = true) (hv : ks.map (fun k => binds.reverse.lookup k) = vs)
    (hl : (binds.all fun x => decide (fd.scope.names.lookup x.1 = some .local)) = true)
    (h : ∀ env L s', Fn env L ks gs → St c P T L ks vs M s' → ∀ A', Rm A' n → W (model c.p c.w) A' (execs body env) (rq fun v s'' => R (.ok (.ret v)) s'') NoE s') :
    codeAny (model c.p c.w) A (.call (.ref f) ⟨args, []⟩) R s := by
  obtain ⟨F, f1, f2, f3, f4⟩ := fn_of (L := s.heap.objs.size) (a := f) hc
  refine codeAny_call_def (binds := binds) hA.room (I.K _ _ ho) rfl (I.ok.lim.keeps I.bh) (codeRec_of I.K hcd) hbody hb f4 (locs hl) (fun h₁ hn hk => ?_) f1 f2 f3
  have S' : St c P T s.heap.objs.size ks vs M { s with heap := h₁, toks := s.toks + binds.length } := {
    ok := I.ok
    gens := I.gens
    os := I.os
    bT := I.bT
    sub := fun b o e => hk b o (I.sub b o e)
    le := I.le
    low := I.low
    keep := fun b o e => hk b o (I.keep b o e)
    nl := I.nz
    ns := ⟨_, hn, Al.of_map hv⟩
    tL := by
      cases e : T s.heap.objs.size with
      | none => rfl
      | some o => have := I.sub _ _ e; rw [get_size] at this; cases this
    gL := by
      cases e : P.G s.heap.objs.size with
      | none => rfl
      | some o => have := I.keep _ _ e; rw [get_size] at this; cases this
    led := fun p hp => ⟨hk _ _ (I.led p hp).1, (I.led p hp).2.1, Nat.ne_of_lt (Heap.lt_size (I.led p hp).1), (I.led p hp).2.2⟩
    nd := I.nd }
  refine wpAny_mono (W.un (h _ s.heap.objs.size _ F S' _ hA.deeper)) (fun fl s' hq => ?_) (fun _ _ (x : False) => x.elim)
  cases fl <;> exact hq
theorem enter {f : Addr} {fd : FuncData} {body : List Stmt} {args : List Value} {binds : List (Str × Value)} {oc : Value} {od : Option Addr} {osl : Array (Option Value)} {Q : Value → Shared → Prop} {n : Nat}
    (ks gs : List Str) (vs : List (Option Value))
    (I : In c T s) (hA : Rm A (n + 1)) (ho : c.K.lookup f = some ⟨oc, od, .func fd, osl⟩) (hbody : fd.body = .stmts body) (hcd : codeIn c.K fd.code fd.qualname = true)
    (hb : BindsTo s fd ⟨args, []⟩ binds) (hc : fnChk fd ks gs = true) (hv : ks.map (fun k => binds.reverse.lookup k) = vs)
    (hl : (binds.all fun x => decide (fd.scope.names.lookup x.1 = some .local)) = true)
    (h : ∀ env L s', Fn env L ks gs → St c ⟨s.heap.objs.size, T, s.heap.get?⟩ T L ks vs [] s' → ∀ A', Rm A' n → W (model c.p c.w) A' (execs body env) (rq Q) NoE s') :
    W (model c.p c.w) A (call (.ref f) args) Q E s :=
  .of (wpAny_call (enterC ks gs vs I.pr hA ho hbody hcd hb hc hv hl h))

/-- an instance is made -/
theorem makeI {C f : Addr} {fd : FuncData} {body : List Stmt} {args : List Value} {binds : Addr → List (Str × Value)} {oc : Value} {od : Option Addr} {osl : Array (Option Value)} {Q : Value → Shared → Prop} {n : Nat}
    (ks gs : List Str) (vs : Addr → List (Option Value))
    (I : In c T s) (hA : Rm A (n + 2)) (hm : makesIn c.K C = true) (hi : findIn c.K (.ref C) "__init__" = some (some (.ref f))) (hf : typeIn c.K (.ref f) = some (.type "function"))
    (ho : c.K.lookup f = some ⟨oc, od, .func fd, osl⟩) (hbody : fd.body = .stmts body) (hcd : codeIn c.K fd.code fd.qualname = true)
    (hb : ∀ x (s' : Shared), (∀ b o, c.B.get? b = some o → s'.heap.get? b = some o) → BindsTo s' fd ⟨.ref x :: args, []⟩ (binds x)) (hc : fnChk fd ks gs = true) (hv : ∀ x, ks.map (fun k => (binds x).reverse.lookup k) = vs x)
    (hl : ∀ x, ((binds x).all fun x => decide (fd.scope.names.lookup x.1 = some .local)) = true)
    (h : ∀ x dx T' env L s', Fle T T' → T' x = some (instObj C dx) → s.heap.objs.size ≤ dx → Fn env L ks gs → St c ⟨s.heap.objs.size, T, s.heap.get?⟩ T' L ks (vs x) [(dx, W.dictOf [] 0)] s' → ∀ A', Rm A' n →
      W (model c.p c.w) A' (execs body env) (rq fun v s'' => v = .none ∧ Q (.ref x) s'') NoE s') :
    W (model c.p c.w) A (call (.ref C) args) Q E s := by
  refine .of ?_
  obtain ⟨hh, g, d, t, os⟩ := s
  have e1 : (hh.push emptyDict).get? hh.objs.size = some emptyDict := Heap.get?_push_size _ rfl
  have sz : (hh.push emptyDict).objs.size = hh.objs.size + 1 := Heap.size_push ..
  have e2 : ((hh.push emptyDict).push (instObj C hh.objs.size)).get? (hh.objs.size + 1) = some (instObj C hh.objs.size) := by rw [← sz]; exact Heap.get?_push_size _ rfl
  have k2 : ∀ b o, hh.get? b = some o → ((hh.push emptyDict).push (instObj C hh.objs.size)).get? b = some o := fun b o e => Heap.get?_push_of_some _ (Heap.get?_push_of_some _ e)
  have tn : ∀ b, hh.objs.size ≤ b → T b = none := fun b hb => by
    cases e : T b with
    | none => rfl
    | some o => exact absurd (Heap.lt_size (I.sub _ _ e)) (Nat.not_lt.mpr hb)
  have gn : ∀ b, hh.objs.size ≤ b → hh.get? b = none := fun b hb => by
    cases e : hh.get? b with
    | none => rfl
    | some o => exact absurd (Heap.lt_size e) (Nat.not_lt.mpr hb)
  have le : Fle T (fun b => if b = hh.objs.size + 1 then some (instObj C hh.objs.size) else T b) := fun b o e => by
    show (if b = _ then _ else T b) = _
    rw [if_neg (fun q => by rw [q, tn _ (Nat.le_succ _)] at e; cases e)]; exact e
  have pr : Pr c ⟨hh.objs.size, T, hh.get?⟩ (fun b => if b = hh.objs.size + 1 then some (instObj C hh.objs.size) else T b) [(hh.objs.size, W.dictOf [] 0)] ⟨(hh.push emptyDict).push (instObj C hh.objs.size), g, d, t, os⟩ := {
    ok := I.ok
    gens := I.gens
    os := I.os
    bT := fun b o e => le b o (I.bT b o e)
    sub := fun b o e => by
      split at e
      · rename_i q; cases e; subst q; exact e2
      · exact k2 b o (I.sub b o e)
    le := le
    low := fun b hb => if_neg (Nat.ne_of_lt (Nat.lt_succ_of_lt hb))
    keep := k2
    nz := by show hh.objs.size ≤ ((hh.push emptyDict).push _).objs.size; rw [Heap.size_push, sz]; omega
    led := fun p hp => by
      rcases List.mem_cons.mp hp with rfl | hp
      · exact ⟨Heap.get?_push_of_some _ e1, by show (if _ = _ then _ else _) = _; rw [if_neg (Nat.ne_of_lt (Nat.lt_succ_self _))]; exact tn _ (Nat.le_refl _), gn _ (Nat.le_refl _)⟩
      · cases hp
    nd := List.nodup_cons.mpr ⟨(fun h => nomatch h), List.nodup_nil⟩ }
  have hA' : Rm (A.under (.builtin "type.__call__" ⟨.ref C :: args, []⟩)) (n + 1) := ⟨hA.hd, by rw [depth_under_make]; have := hA.dep; omega, by rw [units_under_make]; have := hA.un; omega⟩
  refine wpAny_call (make_core (makes_of I.K hm) (looks_findIn I.K hi) (fun self => bind_fn I.K self hf) (.inl rfl) (enterC ks gs (vs _) pr hA' ho hbody hcd (hb _ _ fun b o e => k2 b o (I.bh b o e)) hc (hv _) (hl _) fun env L s' F S A' hA'' => ?_))
  exact (h _ _ _ env L s' le (if_pos rfl) (Nat.le_refl _) F S A' hA'').mono (fun fl s'' q => by cases fl <;> exact q) fun _ _ x => x
end
end Mine
namespace Mine
section
variable {c : Cx} {P : Ent} {T : Fz} {L : Addr} {ks gs : List Str} {vs : List (Option Value)} {M : List (Addr × Obj)} {s : Shared} {env : Env} {A : Around} {Mo : Model} {E : Value → Shared → Prop}

inductive Mm : Str → List Str → Prop
  | head {x l} : Mm x (x :: l)
  | tail {x y l} : Mm x l → Mm x (y :: l)
theorem Mm.mem {x : Str} {l : List Str} (h : Mm x l) : x ∈ l := by
  induction h with
  | head => exact .head _
  | tail _ ih => exact .tail _ ih
/-- constants -/
theorem cI {i : Int} {k : Nat} {pos : Pos} {Q : Value → Shared → Prop} (S : St c P T L ks vs M s) (h : ∀ t s', St c P T L ks vs M s' → Q (.int i t) s') : W Mo A (eval (.Constant (.int i) k pos) env) Q E s := by simp only [W_eq] at *; exact wpAny_Constant_int (h _ _ (S.tok _))
theorem cS {x : Str} {k : Nat} {pos : Pos} {Q : Value → Shared → Prop} (S : St c P T L ks vs M s) (h : ∀ t s', St c P T L ks vs M s' → Q (.str x t) s') : W Mo A (eval (.Constant (.str x) k pos) env) Q E s := by simp only [W_eq] at *; exact Constant_str (h _ _ (S.tok _))
theorem cB {b : Bool} {k : Nat} {pos : Pos} {Q : Value → Shared → Prop} (h : Q (.bool b) s) : W Mo A (eval (.Constant (.bool b) k pos) env) Q E s := by simp only [W_eq] at *; exact fun _ _ _ => h
theorem cN {k : Nat} {pos : Pos} {Q : Value → Shared → Prop} (h : Q .none s) : W Mo A (eval (.Constant .none k pos) env) Q E s := by simp only [W_eq] at *; exact fun _ _ _ => h

section
variable {p : Program} {w : World} {a b : Int} {t u : Tok} {Q : Value → Shared → Prop}
theorem iadd (S : St c P T L ks vs M s) (h : ∀ t s', St c P T L ks vs M s' → Q (.int (a + b) t) s') : W (model p w) A (binaryOp .Add (.int a t) (.int b u)) Q E s := by simp only [W_eq] at *; exact add_int (h _ _ (S.tok _))
theorem isub (S : St c P T L ks vs M s) (h : ∀ t s', St c P T L ks vs M s' → Q (.int (a - b) t) s') : W (model p w) A (binaryOp .Sub (.int a t) (.int b u)) Q E s := by simp only [W_eq] at *; exact sub_int (h _ _ (S.tok _))
def Sm (a : Int) : Prop := -(2 ^ 64) < a ∧ a < 2 ^ 64
theorem imulL (hb : Sm a) (S : St c P T L ks vs M s) (h : ∀ t s', St c P T L ks vs M s' → Q (.int (a * b) t) s') : W (model p w) A (binaryOp .Mult (.int a t) (.int b u)) Q E s := by simp only [W_eq] at *; exact mul_int (h _ _ (S.tok _)) (IntMulOk.of_left (PySem.intBits_le_64 hb.1 hb.2))
theorem imulR (hb : Sm b) (S : St c P T L ks vs M s) (h : ∀ t s', St c P T L ks vs M s' → Q (.int (a * b) t) s') : W (model p w) A (binaryOp .Mult (.int a t) (.int b u)) Q E s := by simp only [W_eq] at *; exact mul_int (h _ _ (S.tok _)) (IntMulOk.of_right (PySem.intBits_le_64 hb.1 hb.2))
theorem imod (hb : 0 < b) (S : St c P T L ks vs M s) (h : ∀ t s', St c P T L ks vs M s' → Q (.int (a % b) t) s') : W (model p w) A (binaryOp .Mod (.int a t) (.int b u)) Q E s := by
  simp only [W_eq] at *
  exact mod_int' (Int.ne_of_gt hb) (by rw [Int.fmod_eq_emod_of_nonneg _ (Int.le_of_lt hb)]; exact h _ _ (S.tok _))
theorem idiv (hb : 0 < b) (hp : b < 1073741824) (S : St c P T L ks vs M s) (h : ∀ t s', St c P T L ks vs M s' → Q (.int (a / b) t) s') : W (model p w) A (binaryOp .FloorDiv (.int a t) (.int b u)) Q E s := by
  simp only [W_eq] at *
  exact floordiv_int (Int.ne_of_gt hb) (by rw [Int.fdiv_eq_ediv_of_nonneg _ (Int.le_of_lt hb)]; exact h _ _ (S.tok _)) (.inl (PyProof.noPylong_small (by omega)))
theorem ipow (h0 : 0 ≤ b) (h1 : b ≤ 1000000) (ha : a.natAbs < 2 ^ 64) (S : St c P T L ks vs M s) (h : ∀ t s', St c P T L ks vs M s' → Q (.int (a ^ b.toNat) t) s') : W (model p w) A (binaryOp .Pow (.int a t) (.int b u)) Q E s := by
  simp only [W_eq] at *
  exact pow_int_small h0 h1 ha (h _ _ (S.tok _))
theorem ineg (S : St c P T L ks vs M s) (h : ∀ t s', St c P T L ks vs M s' → Q (.int (-a) t) s') : W (model p w) A (unaryOp .USub (.int a t)) Q E s := by simp only [W_eq] at *; exact neg_int (h _ _ (S.tok _))
theorem imax (hA : A.handled = none) (S : St c P T L ks vs M s) (h : ∀ t s', St c P T L ks vs M s' → Q (.int (max a b) t) s') : W (model p w) A (call (.builtin "max") [.int a t, .int b u]) Q E s := by
  simp only [W_eq] at *
  exact max_two_ints hA fun h' tk hk => by
    have := fun t => h t _ (S.grow hk tk)
    split
    · rename_i q; rw [show max a b = b by omega] at this; exact this _
    · rename_i q; rw [show max a b = a by omega] at this; exact this _
theorem imax3 {d : Int} {x : Tok} (hA : A.handled = none) (S : St c P T L ks vs M s) (h : ∀ t s', St c P T L ks vs M s' → Q (.int (max (max a b) d) t) s') : W (model p w) A (call (.builtin "max") [.int a t, .int b u, .int d x]) Q E s := by
  simp only [W_eq] at *
  exact max_three_ints hA fun h' tk hk => by
    have := fun t => h t _ (S.grow hk tk)
    split
    · split
      · rw [show max (max a b) d = d by omega] at this; exact this _
      · rw [show max (max a b) d = b by omega] at this; exact this _
    · split
      · rw [show max (max a b) d = d by omega] at this; exact this _
      · rw [show max (max a b) d = a by omega] at this; exact this _
end

/-- tests -/
theorem ifx {test body orelse : Expr} {pos : Pos} {Q : Value → Shared → Prop}
    (h : W Mo A (isTrue test env (eval test env)) (fun b s₂ => (b = true → W Mo A (eval body env) Q E s₂) ∧ (b = false → W Mo A (eval orelse env) Q E s₂)) E s) :
    W Mo A (eval (.IfExp test body orelse pos) env) Q E s := by
  simp only [W_eq] at *
  exact IfExp_ (wpAny_mono h (fun b s' h' => by cases b with | true => exact h'.1 rfl | false => exact h'.2 rfl) fun _ _ x => x)
theorem andT {x : Expr} {rest : List Expr} {pos : Pos} {whole : Sem Value} {Q : Bool → Shared → Prop}
    (h : W Mo A (isTrue x env (eval x env)) (fun b s₂ => (b = true → W Mo A (isTrue (.BoolOp .And rest pos) env whole) Q E s₂) ∧ (b = false → Q false s₂)) E s) : W Mo A (isTrue (.BoolOp .And (x :: rest) pos) env whole) Q E s := by
  simp only [W_eq] at *
  exact isTrue_and (wpAny_mono h (fun b s' h' => by cases b with | true => exact h'.1 rfl | false => exact h'.2 rfl) fun _ _ x => x)
theorem orT {x : Expr} {rest : List Expr} {pos : Pos} {whole : Sem Value} {Q : Bool → Shared → Prop}
    (h : W Mo A (isTrue x env (eval x env)) (fun b s₂ => (b = true → Q true s₂) ∧ (b = false → W Mo A (isTrue (.BoolOp .Or rest pos) env whole) Q E s₂)) E s) : W Mo A (isTrue (.BoolOp .Or (x :: rest) pos) env whole) Q E s := by
  simp only [W_eq] at *
  exact isTrue_or (wpAny_mono h (fun b s' h' => by cases b with | true => exact h'.1 rfl | false => exact h'.2 rfl) fun _ _ x => x)
theorem andN {pos : Pos} {whole : Sem Value} {Q : Bool → Shared → Prop} (h : Q true s) : W Mo A (isTrue (.BoolOp .And [] pos) env whole) Q E s := .of (isTrue_and_nil h)
theorem orN {pos : Pos} {whole : Sem Value} {Q : Bool → Shared → Prop} (h : Q false s) : W Mo A (isTrue (.BoolOp .Or [] pos) env whole) Q E s := .of (isTrue_or_nil h)
theorem cmpT {l r : Expr} {op : CmpOp} {pos : Pos} {whole : Sem Value} {Q : Bool → Shared → Prop}
    (h : W Mo A (eval l env) (fun a s₁ => W Mo A (eval r env) (fun b s₂ => W Mo A (compareOp op a b) (fun v s₃ => ∃ b, v = .bool b ∧ Q b s₃) E s₂) E s₁) E s)
    (hm : behindInMarks op r = false := by kernel_rfl) : W Mo A (isTrue (.Compare l [op] [r] pos) env whole) Q E s := by
  simp only [W_eq] at *
  exact wpAny_isTrue_Compare1 (wpAny_mono h (fun a s₁ h₁ => wpAny_mono h₁ (fun b s₂ h₂ => wpAny_mono h₂ (fun v s₃ h₃ => by obtain ⟨b, rfl, q⟩ := h₃; exact wpAny_truthy_bool q) fun _ _ x => x) fun _ _ x => x) fun _ _ x => x) hm
theorem toB {b : Bool} {R : Bool → Prop} (h : R b) : ∃ b', (Value.bool b) = .bool b' ∧ R b' := ⟨b, rfl, h⟩

section
variable {p : Program} {w : World} {a b : Int} {t u : Tok} {Q : Value → Shared → Prop}
theorem ieq (h : Q (.bool (a == b)) s) : W (model p w) A (compareOp .Eq (.int a t) (.int b u)) Q E s := .of (eq_int h)
theorem ine (h : Q (.bool (a != b)) s) : W (model p w) A (compareOp .NotEq (.int a t) (.int b u)) Q E s := .of (ne_int h)
theorem ilt (h : Q (.bool (decide (a < b))) s) : W (model p w) A (compareOp .Lt (.int a t) (.int b u)) Q E s := .of (lt_int h)
theorem igt (h : Q (.bool (decide (b < a))) s) : W (model p w) A (compareOp .Gt (.int a t) (.int b u)) Q E s := .of (gt_int h)
theorem ile (h : Q (.bool (decide (a ≤ b))) s) : W (model p w) A (compareOp .LtE (.int a t) (.int b u)) Q E s := .of (le_int h)
theorem ige (h : Q (.bool (decide (b ≤ a))) s) : W (model p w) A (compareOp .GtE (.int a t) (.int b u)) Q E s := .of (ge_int h)
theorem seq_ {x y : Str} (h : Q (.bool (x == y)) s) : W (model p w) A (compareOp .Eq (.str x t) (.str y u)) Q E s := .of (eq_str h)
theorem sne_ {x y : Str} (h : Q (.bool (x != y)) s) : W (model p w) A (compareOp .NotEq (.str x t) (.str y u)) Q E s := .of (ne_str h)
theorem bne_ {x y : Bool} (h : Q (.bool (x != y)) s) : W (model p w) A (compareOp .NotEq (.bool x) (.bool y)) Q E s := .of (ne_bool h)
end
theorem unE {op : UnaryOp} {x : Expr} {pos : Pos} {Q : Value → Shared → Prop} (h : W Mo A (eval x env) (fun v s₁ => W Mo A (unaryOp op v) Q E s₁) E s) : W Mo A (eval (.UnaryOp op x pos) env) Q E s := by simp only [W_eq] at *; exact UnaryOp_ h
theorem binE {l r : Expr} {op : Operator} {pos : Pos} {Q : Value → Shared → Prop} (h : W Mo A (eval l env) (fun a s₁ => W Mo A (eval r env) (fun b s₂ => W Mo A (binaryOp op a b) Q E s₂) E s₁) E s) : W Mo A (eval (.BinOp l op r pos) env) Q E s := by simp only [W_eq] at *; exact wpAny_BinOp h
theorem cmpE {l r : Expr} {op : CmpOp} {pos : Pos} {Q : Value → Shared → Prop} (h : W Mo A (eval l env) (fun a s₁ => W Mo A (eval r env) (fun b s₂ => W Mo A (compareOp op a b) Q E s₂) E s₁) E s) (hm : behindInMarks op r = false := by kernel_rfl) : W Mo A (eval (.Compare l [op] [r] pos) env) Q E s := by simp only [W_eq] at *; exact wpAny_Compare1 h hm
theorem attrE {value : Expr} {at_ : Str} {pos : Pos} {p : Program} {w : World} {Q : Value → Shared → Prop} (h : W (model p w) A (eval value env) (fun o s₁ => W (model p w) A (getAttr o at_ true) Q E s₁) E s)
    (he : eval (.Attribute value at_ pos) env = (do
      let o ← eval value env
      standAt pos.atName
      let r ← holding [o] (getAttr o at_ true)
      letTemporaryGo value o r
      pure r) := by kernel_rfl) : W (model p w) A (eval (.Attribute value at_ pos) env) Q E s := by
  simp only [W_eq] at *
  exact Attribute_any_ h he
theorem subE {value slice : Expr} {pos : Pos} {Q : Value → Shared → Prop} (h : W Mo A (eval value env) (fun o s₁ => W Mo A (eval slice env) (fun i s₂ => W Mo A (subscriptTail value slice o i) Q E s₂) E s₁) E s) : W Mo A (eval (.Subscript value slice pos) env) Q E s := by simp only [W_eq] at *; exact Subscript_ h

/-- calls by a name of the text -/
def GF (c : Cx) (x : Str) (f : Addr) : Prop := nsIn c.K mainGlobals x = some (some (.ref f)) ∧ keepIn c.K (.ref f) = true
theorem callF {x : Str} {f : Addr} {np pos : Pos} {a : Expr} {rest : List Expr} {Q : Value → Shared → Prop} (F : Fn env L ks gs) (S : St c P T L ks vs M s) (hx : Mm x gs) (g : GF c x f)
    (h : W Mo A (spliced (backTo pos (starEach (a :: rest) env))) (fun vs s₁ => c.K.In s₁.heap ∧ W Mo A (call (.ref f) vs) Q E s₁) E s)
    (he : eval (.Call (.Name x np) (a :: rest) [] pos) env = (do callWith pos (← eval (.Name x np) env) [] (backTo pos (starEach (a :: rest) env)) (backToKw pos (keywordEach [] env))) := by kernel_rfl)
    (h1 : starEach (a :: rest) env = (false, eval a env) :: starEach rest env := by kernel_rfl) (h2 : (backTo pos (starEach rest env)).any (·.1) = false := by kernel_rfl) :
    W Mo A (eval (.Call (.Name x np) (a :: rest) [] pos) env) Q E s := by
  simp only [W_eq] at *
  refine Call_ (W.un (rdG F S.toIn hx.mem g.1 ?_)) he
  exact callWith_K S.K g.2 h h1 h2
theorem callF0 {x : Str} {f : Addr} {np pos : Pos} {Q : Value → Shared → Prop} (F : Fn env L ks gs) (S : St c P T L ks vs M s) (hx : Mm x gs) (g : GF c x f)
    (h : W Mo A (call (.ref f) []) Q E s)
    (he : eval (.Call (.Name x np) [] [] pos) env = (do callWith pos (← eval (.Name x np) env) [] (backTo pos (starEach [] env)) (backToKw pos (keywordEach [] env))) := by kernel_rfl) :
    W Mo A (eval (.Call (.Name x np) [] [] pos) env) Q E s := by
  simp only [W_eq] at *
  refine Call_ (W.un (rdG F S.toIn hx.mem g.1 ?_)) he
  exact callWith_K0 S.K g.2 h
def BF (c : Cx) (x : Str) (v : Value) : Prop := nsIn c.K mainGlobals x = some none ∧ bootBuiltins x = some v ∧ x ≠ "__name__"
theorem rdBF {x : Str} {pos : Pos} {v : Value} {Q : Value → Shared → Prop} (F : Fn env L ks gs) (S : St c P T L ks vs M s) (h : Mm x gs) (b : BF c x v) (k : Q v s) : W Mo A (eval (.Name x pos) env) Q E s := rdB F S.toIn h.mem b.1 b.2.1 b.2.2 k
theorem rdGF {x : Str} {pos : Pos} {f : Addr} {Q : Value → Shared → Prop} (F : Fn env L ks gs) (S : St c P T L ks vs M s) (h : Mm x gs) (g : GF c x f) (k : Q (.ref f) s) : W Mo A (eval (.Name x pos) env) Q E s := rdG F S.toIn h.mem g.1 k
theorem callBi {x : Str} {id : String} {np pos : Pos} {a : Expr} {rest : List Expr} {Q : Value → Shared → Prop} (F : Fn env L ks gs) (S : St c P T L ks vs M s) (hx : Mm x gs) (b : BF c x (.builtin id))
    (h : W Mo A (spliced (backTo pos (starEach (a :: rest) env))) (fun vs s₁ => W Mo A (call (.builtin id) vs) Q E s₁) E s)
    (he : eval (.Call (.Name x np) (a :: rest) [] pos) env = (do callWith pos (← eval (.Name x np) env) [] (backTo pos (starEach (a :: rest) env)) (backToKw pos (keywordEach [] env))) := by kernel_rfl)
    (h1 : starEach (a :: rest) env = (false, eval a env) :: starEach rest env := by kernel_rfl) (h2 : (backTo pos (starEach rest env)).any (·.1) = false := by kernel_rfl) :
    W Mo A (eval (.Call (.Name x np) (a :: rest) [] pos) env) Q E s := by
  simp only [W_eq] at *
  refine Call_ (W.un (rdBF F S hx b ?_)) he
  exact PyProof.Rows.callWith_builtin1 h h1 h2
theorem callTy {x : Str} {id : String} {np pos : Pos} {a : Expr} {rest : List Expr} {Q : Value → Shared → Prop} (F : Fn env L ks gs) (S : St c P T L ks vs M s) (hx : Mm x gs) (b : BF c x (.type id))
    (h : W Mo A (spliced (backTo pos (starEach (a :: rest) env))) (fun vs s₁ => W Mo A (call (.type id) vs) Q E s₁) E s)
    (he : eval (.Call (.Name x np) (a :: rest) [] pos) env = (do callWith pos (← eval (.Name x np) env) [] (backTo pos (starEach (a :: rest) env)) (backToKw pos (keywordEach [] env))) := by kernel_rfl)
    (h1 : starEach (a :: rest) env = (false, eval a env) :: starEach rest env := by kernel_rfl) (h2 : (backTo pos (starEach rest env)).any (·.1) = false := by kernel_rfl) :
    W Mo A (eval (.Call (.Name x np) (a :: rest) [] pos) env) Q E s := by
  simp only [W_eq] at *
  refine Call_ (W.un (rdBF F S hx b ?_)) he
  exact PyProof.Rows.callWith_type1 h h1 h2
/-- arguments -/
theorem arg {e : Expr} {rest : List Expr} {pos : Pos} {Q : List Value → Shared → Prop}
    (h : W Mo A (eval e env) (fun v s₁ => W Mo A (spliced (backTo pos (starEach rest env))) (fun vs s₂ => Q (v :: vs) s₂) E s₁) E s)
    (he : starEach (e :: rest) env = (false, eval e env) :: starEach rest env := by kernel_rfl) : W Mo A (spliced (backTo pos (starEach (e :: rest) env))) Q E s := by simp only [W_eq] at *; exact args_cons h he
theorem arg0 {pos : Pos} {Q : List Value → Shared → Prop} (h : Q [] s) : W Mo A (spliced (backTo pos (starEach [] env))) Q E s := by simp only [W_eq] at *; exact args_nil h

/-- tuples and lists -/
def TupT (T : Fz) (a : Addr) (l : List Value) : Prop := ∃ o, T a = some o ∧ o.cls = .type "tuple" ∧ ∃ n, o.data = .seq l.toArray n
def LstT (T : Fz) (a : Addr) (l : List Value) : Prop := ∃ o, T a = some o ∧ o.cls = .type "list" ∧ ∃ n, o.data = .seq l.toArray n
theorem TupT.mono {T T' : Fz} {a : Addr} {l : List Value} (h : TupT T a l) (e : Fle T T') : TupT T' a l := let ⟨o, x, r⟩ := h; ⟨o, e _ _ x, r⟩
theorem LstT.mono {T T' : Fz} {a : Addr} {l : List Value} (h : LstT T a l) (e : Fle T T') : LstT T' a l := let ⟨o, x, r⟩ := h; ⟨o, e _ _ x, r⟩
theorem TupT.at {a : Addr} {l : List Value} (h : TupT T a l) (S : In c T s) : IsTup s.heap a l.toArray := let ⟨o, x, r⟩ := h; ⟨o, S.sub _ _ x, r⟩
theorem LstT.at {a : Addr} {l : List Value} (h : LstT T a l) (S : In c T s) : s.heap.IsList a l.toArray := let ⟨o, x, r⟩ := h; ⟨o, S.sub _ _ x, r⟩
theorem newTup {l : List Value} {Q : Value → Shared → Prop} (S : St c P T L ks vs M s) (h : ∀ a T' s', Fle T T' → TupT T' a l → St c P T' L ks vs M s' → Q (.ref a) s') (hz : l.length ≤ sizeLine := by rw [sizeLine_eq]; first | decide | (simp only [List.length_cons, List.length_nil]; omega)) : W Mo A (newTuple l) Q E s := by
  simp only [W_eq] at *
  refine wpAny_newObj_type ?_ (by show l.toArray.size ≤ sizeLine; rw [List.size_toArray]; exact hz)
  obtain ⟨T', le, e, S'⟩ := S.newT (o := { cls := .type "tuple", dict := none, data := .seq l.toArray }) rfl s.toks
  exact h _ T' _ le ⟨_, e, rfl, 0, rfl⟩ S'
abbrev lstO (l : List Value) (n : Nat) : Obj := { cls := .type "list", data := .seq l.toArray n }
theorem newLst {l : List Value} {Q : Value → Shared → Prop} (S : St c P T L ks vs M s) (h : ∀ a s', P.N ≤ a → St c P T L ks vs ((a, lstO l 0) :: M) s' → Q (.ref a) s') (hz : l.length ≤ sizeLine := by rw [sizeLine_eq]; first | decide | (simp only [List.length_cons, List.length_nil]; omega)) : W Mo A (newList l) Q E s := by
  simp only [W_eq] at *
  refine wpAny_newObj_type ?_ (by show l.toArray.size ≤ sizeLine; rw [List.size_toArray]; exact hz)
  exact h _ _ S.size (S.newM (o := lstO l 0) rfl s.toks)
theorem tupE {elts : List Expr} {k : Nat} {pos : Pos} {Q : Value → Shared → Prop} (h : W Mo A (spliced (backTo pos (starEach elts env))) (fun vs s₁ => W Mo A (newTuple vs) Q E s₁) E s) : W Mo A (eval (.Tuple elts k pos) env) Q E s := by simp only [W_eq] at *; exact Tuple_ h
theorem lstE {elts : List Expr} {pos : Pos} {Q : Value → Shared → Prop} (h : W Mo A (spliced (backTo pos (starEach elts env))) (fun vs s₁ => W Mo A (newList vs) Q E s₁) E s) : W Mo A (eval (.List elts pos) env) Q E s := by simp only [W_eq] at *; exact List_ h
theorem itT {p : Program} {w : World} {value slice : Expr} {t : Addr} {l : List Value} {k : Int} {u : Tok} {x : Value} {Q : Value → Shared → Prop} (S : St c P T L ks vs M s) (H : TupT T t l) (j : Nat) (hj : seqIndex? k l.length = some j) (hx : l[j]? = some x) (h : Q x s)
    (hlo : -2 ^ 63 ≤ k := by decide) (hhi : k < 2 ^ 63 := by decide)
    (hs : subscripted slice false (.ref t) (.int k u) = operate [.ref t, .int k u] (getItem (.ref t) (.int k u)) := by kernel_rfl) : W (model p w) A (subscriptTail value slice (.ref t) (.int k u)) Q E s := by
  simp only [W_eq] at *
  exact item_tupleT (H.at S.toIn) hlo hhi hj hx h hs
theorem getL_ {p : Program} {w : World} {t : Addr} {l : List Value} {k : Int} {u : Tok} {x : Value} {Q : Value → Shared → Prop} (H : s.heap.IsList t l.toArray) (j : Nat) (hj : (k = j ∨ k = (j : Int) - l.length) ∧ j < l.length) (hx : l[j]? = some x) (hz : l.length ≤ 2 ^ 62) (h : Q x s) : W (model p w) A (getItem (.ref t) (.int k u)) Q E s := by
  simp only [W_eq] at *
  obtain ⟨hj, hl⟩ := hj
  rcases hj with rfl | rfl
  · exact wpAny_getItem_list H (by omega) (by omega) (by simpa using hx) h
  · refine wpAny_getItem_list_neg H (by omega) (by rw [List.size_toArray]; omega) (by omega) ?_ h
    rw [List.size_toArray, show ((j : Int) - l.length + l.length).toNat = j by omega]
    simpa using hx
theorem itL {p : Program} {w : World} {value slice : Expr} {t : Addr} {l : List Value} {k : Int} {u : Tok} {x : Value} {Q : Value → Shared → Prop} (H : s.heap.IsList t l.toArray) (j : Nat) (hj : (k = j ∨ k = (j : Int) - l.length) ∧ j < l.length) (hx : l[j]? = some x) (hz : l.length ≤ 2 ^ 62) (h : Q x s)
    (hs : subscripted slice false (.ref t) (.int k u) = operate [.ref t, .int k u] (getItem (.ref t) (.int k u)) := by kernel_rfl) : W (model p w) A (subscriptTail value slice (.ref t) (.int k u)) Q E s := by
  simp only [W_eq] at *
  exact tail_any H.typeIs slot_list_getitem.lookup (W.un (getL_ H j hj hx hz h)) hs

/-- an own object's values -/
def ObjT (T : Fz) (C : Addr) (a : Addr) (es : List DictEntry) : Prop := ∃ dx n, T a = some (instObj C dx) ∧ T dx = some (W.dictOf es n)
theorem ObjT.mono {T T' : Fz} {C a : Addr} {es : List DictEntry} (h : ObjT T C a es) (e : Fle T T') : ObjT T' C a es := let ⟨dx, n, x, y⟩ := h; ⟨dx, n, e _ _ x, e _ _ y⟩
theorem ObjT.inst {C a : Addr} {es : List DictEntry} (h : ObjT T C a es) (S : In c T s) : ∃ dx n, W.InstAt s.heap a (instObj C dx) C (some (W.dictOf es n)) := let ⟨dx, n, x, y⟩ := h; ⟨dx, n, S.sub _ _ x, rfl, rfl, S.sub _ _ y⟩
theorem attr {C a : Addr} {es : List DictEntry} {name : Str} {v : Value} {at_ : Option Value} {Q : Value → Shared → Prop} (S : St c P T L ks vs M s) (H : ObjT T C a es) (hg : plainGet c.K C name = true) (hh : hasDictIn c.K C = true)
    (ha : findIn c.K (.ref C) name = some at_) (hn : noGet c.K at_ = true) (hl : getL name es = some (some v)) (hv : handedIn v = true) (h : ∀ s', St c P T L ks vs M s' → Q v s') : W (model c.p c.w) A (getAttr (.ref a) name true) Q E s := by
  simp only [W_eq] at *
  obtain ⟨dx, n, I⟩ := H.inst S.toIn
  exact get_value S.K I (plainGet_of hg).1 (findObj_own hh ha hn hl) hv (h _ (S.tok _))
theorem meth {C a f : Addr} {es : List DictEntry} {name : Str} {pl : Sem Bool} {Q : Value × List Value → Shared → Prop} (S : St c P T L ks vs M s) (H : ObjT T C a es) (hg : plainGet c.K C name = true)
    (hf : findIn c.K (.ref C) name = some (some (.ref f))) (ht : isFn c.K (.ref f) = true) (hl : getL name es = some none) (h : Q (.ref f, [.ref a]) s) : W (model c.p c.w) A (getMethod (.ref a) name pl) Q E s := by
  simp only [W_eq] at *
  obtain ⟨dx, n, I⟩ := H.inst S.toIn
  exact method_fn S.K I (plainGet_of hg).1 (plainGet_of hg).2 hf (beq_iff_eq.mp ht) (by show (lookIn name (W.dictOf es n)).map _ = _; rw [lookIn_dict, hl]; rfl) h
end
end Mine
namespace Mine
section
variable {c : Cx} {P : Ent} {T : Fz} {L : Addr} {ks gs : List Str} {vs : List (Option Value)} {M : List (Addr × Obj)} {s : Shared} {env : Env} {A : Around} {Mo : Model} {E : Value → Shared → Prop}

/-- all that stands beside a frame and one object -/
def others (h : Heap) (L dx : Addr) : List (Addr × Obj) := (List.range h.objs.size).filterMap fun b => if b = L ∨ b = dx then none else (h.get? b).map fun o => (b, o)
theorem mem_others {h : Heap} {L dx b : Addr} {o : Obj} (h1 : b ≠ L) (h2 : b ≠ dx) (e : h.get? b = some o) : (b, o) ∈ others h L dx :=
  List.mem_filterMap.mpr ⟨b, List.mem_range.mpr (Heap.lt_size e), by rw [if_neg (by simp [h1, h2]), e]; rfl⟩
theorem of_others {h : Heap} {L dx : Addr} {p : Addr × Obj} (hp : p ∈ others h L dx) : h.get? p.1 = some p.2 ∧ p.1 ≠ L ∧ p.1 ≠ dx := by
  obtain ⟨b, _, e⟩ := List.mem_filterMap.mp hp
  split at e
  · cases e
  · rename_i q
    obtain ⟨o, ho, rfl⟩ := Option.map_eq_some_iff.mp e
    exact ⟨ho, fun x => q (.inl x), fun x => q (.inr x)⟩
def Heap0 : Heap := {}
theorem heap0_get (b : Addr) : Heap0.get? b = none := rfl

theorem St.turn {a : Addr} {o o' : Obj} {M' : List (Addr × Obj)} {h' : Heap} {m : Str → Option Value} (S : St c P T L ks vs M s) (hn : h'.Ns L m) (al : Al ks vs m) (U : MU a o o' M M')
    (hk : ∀ b ob, b ≠ L → b ≠ a → s.heap.get? b = some ob → h'.get? b = some ob) (ho : h'.get? a = some o') (t : Nat) : St c P T L ks vs M' { s with heap := h', toks := t } where
  ok := S.ok
  gens := S.gens
  os := S.os
  bT := S.bT
  sub := fun b ob e => hk b ob (fun q => by rw [q, S.tL] at e; cases e) (fun q => by rw [q, (S.led _ U.mem).2.1] at e; cases e) (S.sub b ob e)
  le := S.le
  low := S.low
  keep := fun b ob e => hk b ob (fun q => by rw [q, S.gL] at e; cases e) (fun q => by rw [q, (S.led _ U.mem).2.2.2] at e; cases e) (S.keep b ob e)
  nl := S.nl
  ns := ⟨m, hn, al⟩
  tL := S.tL
  gL := S.gL
  led := fun p hp => by
    rcases U.led S.nd p hp with rfl | ⟨hm, ne⟩
    · exact ⟨ho, (S.led _ U.mem).2⟩
    · exact ⟨hk _ _ (S.led p hm).2.2.1 ne (S.led p hm).1, (S.led p hm).2⟩
  nd := by rw [U.keys]; exact S.nd

/-- a field is stored -/
theorem setA {x dx C : Addr} {es : List DictEntry} {n : Nat} {name : Str} {v : Value} {M' : Obj → List (Addr × Obj)} {Q : Unit → Shared → Prop} (S : St c P T L ks vs M s) (hx : T x = some (instObj C dx)) (U : ∀ o', MU dx (W.dictOf es n) o' M (M' o'))
    (hs : findIn c.K (.ref C) "__setattr__" = some (some (.builtin "object.__setattr__"))) (hp : plainOver c.K C = true) (ht : takerIn c.K C name = some none) (hh : hasDictIn c.K C = true) (hl : (getL name es).isSome = true) (hz : es.length ≤ 900)
    (h : ∀ hsh tk s', St c P T L ks vs (M' (W.dictOf (putL name hsh (.str name tk) v es) (putN name es n))) s' → Q () s') : W (model c.p c.w) A (setAttr (.ref x) name v) Q E s := by
  refine .of ?_
  obtain ⟨m, hn, al⟩ := S.ns
  have od := S.led _ (U (W.dictOf es n)).mem
  have I : W.InstAt s.heap x (instObj C dx) C (some (W.dictOf es n)) := ⟨S.sub _ _ hx, rfl, rfl, od.1⟩
  have F : Fr Heap0 L s.heap m := ⟨hn, (fun b o e => nomatch (heap0_get b).symm.trans e), Nat.zero_le _⟩
  have N : News Heap0 L s.heap ([] ++ (dx, W.dictOf es n) :: others s.heap L dx) := fun p hp => by
    rcases List.mem_cons.mp hp with rfl | hp
    · exact ⟨od.1, od.2.2.1, heap0_get _⟩
    · obtain ⟨h1, h2, _⟩ := of_others hp
      exact ⟨h1, h2, heap0_get _⟩
  refine set_plain S.K I hs (osa_dict (s := { s with toks := s.toks + 1 }) F N S.K I rfl hp ht hh hl (fun p hp => nomatch hp) (fun p hp => (of_others hp).2.2) (putName_dict ..) rfl ?_ fun h' F' N' => ?_)
  · have : ∀ l : List DictEntry, (putL name (PyData.keyHash c.w.params name) (.str name (s.toks + 1)) v l).length ≤ l.length + 1 := fun l => by
      induction l with
      | nil => exact Nat.le_refl _
      | cons e r ih =>
        unfold putL
        split
        · simp
        · simp only [List.length_cons]; omega
    have := this es
    show (putL name (PyData.keyHash c.w.params name) (.str name (s.toks + 1)) v es).length ≤ 1000
    omega
  · refine h (PyData.keyHash c.w.params name) (s.toks + 1) _ (S.turn F'.ns al (U _) (fun b ob n1 n2 e => ?_) ?_ _)
    · exact (N' (b, ob) (.tail _ (mem_others n1 n2 e))).1
    · exact (N' (dx, _) (.head _)).1
theorem asgA {o value : Expr} {at_ : Str} {p' pos : Pos} {rest : List Stmt} {Q : Flow → Shared → Prop}
    (h : W Mo A (eval value env) (fun v s₁ => W Mo A (eval o env) (fun ov s₂ => W Mo A (setAttr ov at_ v) (fun _ s₃ => W Mo A (execs rest env) Q E s₃) E s₂) E s₁) E s)
    (hs : swapsWith value (some (.Attribute o at_ p')) pos.line env = pure false := by kernel_rfl) : W Mo A (execs (.Assign [.Attribute o at_ p'] value pos :: rest) env) Q E s := by
  refine seq (.of (plainObj_wpAny_Assign_Attribute ?_ hs))
  exact wpAny_mono h.un (fun v s₁ h₁ => wpAny_mono h₁.un (fun ov s₂ h₂ => wpAny_mono h₂.un (fun _ s₃ h₃ => h₃) fun _ _ x => x) fun _ _ x => x) fun _ _ x => x

theorem testS {t : Sem Bool} {Q : Bool → Shared → Prop} (S : St c P T L ks vs M s) (φ : Prop) (h : W Mo A t (fun b s₂ => St c P T L ks vs M s₂ ∧ (b = true → φ)) E s) (k : ∀ b s₂, St c P T L ks vs M s₂ → (b = true → φ) → Q b s₂) : W Mo A t Q E s :=
  h.mono (fun b s q => k b s q.1 q.2) fun _ _ x => x
/-- a while that neither leaves nor raises -/
theorem whileR {test : Expr} {body rest : List Stmt} {pos : Pos} {p : Program} {w : World} {Q : Flow → Shared → Prop} (I : Nat → Shared → Prop) (n : Nat) (h : I n s)
    (turn : ∀ n s, I n s → W (model p w) A (isTrue test env (eval test env)) (fun b s₂ => (b = true → W (model p w) A (execs body env) (fun f s₃ => f = .next ∧ ∃ m, m < n ∧ I m s₃) NoE s₂) ∧ (b = false → W (model p w) A (execs rest env) Q NoE s₂)) NoE s) :
    W (model p w) A (execs (.While test body [] pos :: rest) env) Q NoE s := by
  refine seq (.of (wpAny_While (codeAny_whileLoop I (fun n s hI => ?_) n h)))
  refine wpAny_noRaise (wpAny_mono (turn n s hI).un (fun b s₂ h₂ => ?_) fun _ _ x => x)
  cases b with
  | true => exact wpAny_noRaise (wpAny_mono (h₂.1 rfl).un (fun f s₃ h₃ => by obtain ⟨rfl, q⟩ := h₃; exact q) fun _ _ x => x)
  | false => exact wpAny_execs_nil (h₂.2 rfl)
end
end Mine
namespace Mine
section
variable {c : Cx} {P : Ent} {T : Fz} {L : Addr} {ks gs : List Str} {vs : List (Option Value)} {M : List (Addr × Obj)} {s : Shared} {env : Env} {A : Around} {Mo : Model} {E : Value → Shared → Prop}

theorem isI {n : Int} {t : Tok} {cv : Value} {b : Bool} {Q : Value → Shared → Prop} (S : St c P T L ks vs M s) (e : kitOne c.K (.type "int") cv = some b) (h : ∀ s', St c P T L ks vs M s' → Q (.bool b) s') : W (model c.p c.w) A (call (.builtin "isinstance") [.int n t, cv]) Q E s :=
  .of (kia_one kitx_int S.K trivial e (fun x => nomatch x) fun tk => h _ (S.tok tk))
theorem isO {C a : Addr} {es : List DictEntry} {C' : Addr} {Q : Value → Shared → Prop} (S : St c P T L ks vs M s) (H : ObjT T C a es) (e : isIn c.K (.ref C) C' = true) (h : Q (.bool true) s) : W (model c.p c.w) A (call (.builtin "isinstance") [.ref a, .ref C']) Q E s := by
  obtain ⟨dx, n, I⟩ := H.inst S.toIn
  exact .of (isi_call S.K (fun M => I.type) e (fun x => nomatch x) h)
/-- a test that is a plain value -/
theorem plainT {e : Expr} {whole : Sem Value} {Q : Bool → Shared → Prop} (h : W Mo A whole (fun v s₁ => ∃ b, v = .bool b ∧ Q b s₁) E s)
    (he : isTrue e env whole = (do let v ← whole; standAt e.pos; holding [v] (truthy v)) := by kernel_rfl) : W Mo A (isTrue e env whole) Q E s :=
  .of (isTrue_plain (wpAny_mono h.un (fun v s₁ q => by obtain ⟨b, rfl, q⟩ := q; exact wpAny_truthy_bool q) fun _ _ x => x) he)
theorem notT {x : Expr} {pos : Pos} {whole : Sem Value} {Q : Bool → Shared → Prop} (h : W Mo A (isTrue x env (eval x env)) (fun b s' => Q (!b) s') E s) : W Mo A (isTrue (.UnaryOp .Not x pos) env whole) Q E s := .of (isTrue_not h.un)

/-- several names at once -/
theorem asgT {elts : List Expr} {k : Nat} {tp pos : Pos} {value : Expr} {rest : List Stmt} {Q : Flow → Shared → Prop}
    (h : W Mo A (eval value env) (fun v s₁ => W Mo A (assign (.Tuple elts k tp) env v) (fun _ s₂ => W Mo A (execs rest env) Q E s₂) E s₁) E s)
    (hs : swapsWithSole [.Tuple elts k tp] value pos.line env = pure false := by kernel_rfl) (hw : swappedStores [.Tuple elts k tp] value env = pure none := by kernel_rfl) :
    W Mo A (execs (.Assign [.Tuple elts k tp] value pos :: rest) env) Q E s :=
  seq (.of (Assign_Tuple (wpAny_mono h.un (fun v s₁ h₁ => wpAny_mono h₁.un (fun _ s₂ h₂ => h₂) fun _ _ x => x) fun _ _ x => x) hs hw))
theorem unpT {elts : List Expr} {k : Nat} {pos : Pos} {a : Addr} {l : List Value} {p : Program} {w : World} {Q : Unit → Shared → Prop} (S : St c P T L ks vs M s) (hh : A.handled = none) (H : TupT T a l)
    (h : ∀ s', St c P T L ks vs M s' → W (model p w) A (assignInOrder ((assignEach elts env).map (·.2)) l) Q E s')
    (hn : (assignEach elts env).length = l.length := by kernel_rfl) (hstar : (assignEach elts env).findIdx? (·.1) = none := by kernel_rfl) : W (model p w) A (assign (.Tuple elts k pos) env (.ref a)) Q E s :=
  .of (assign_Tuple_tuple hh (H.at S.toIn) (by rw [List.size_toArray]; exact hn) hstar fun h' he => (h _ (S.grow (fun b o e => he b o (Nat.ne_of_lt (Heap.lt_size e)) e) s.toks)).un)
theorem inN {x : Str} {np : Pos} {rest : List Expr} {v : Value} {xs : List Value} {Q : Unit → Shared → Prop}
    (h : W Mo A (storeName env x v) (fun _ s₁ => W Mo A (assignInOrder ((assignEach rest env).map (·.2)) xs) Q E s₁) E s)
    (he : assignEach (.Name x np :: rest) env = (false, assign (.Name x np) env) :: assignEach rest env := by kernel_rfl) : W Mo A (assignInOrder ((assignEach (.Name x np :: rest) env).map (·.2)) (v :: xs)) Q E s := by
  rw [he]
  exact .of (assignInOrder_cons (wpAny_assign_Name (wpAny_mono h.un (fun _ _ q => q.un) fun _ _ x => x)))
theorem in0 {Q : Unit → Shared → Prop} (h : Q () s) (he : assignEach [] env = [] := by kernel_rfl) : W Mo A (assignInOrder ((assignEach [] env).map (·.2)) []) Q E s := by
  rw [he]
  exact .of (assignInOrder_nil h)
/-- a method's call -/
theorem callM {o : Expr} {name : Str} {ap pos : Pos} {a : Expr} {rest : List Expr} {f : Addr} {self : List Value} {Q : Value → Shared → Prop}
    (h : W Mo A (eval o env) (fun ov s₁ => ∀ pl, W Mo A (getMethod ov name pl) (fun fx s₂ => W Mo A (callWith pos fx.1 fx.2 (backTo pos (starEach (a :: rest) env)) []) Q E s₂) E s₁) E s)
    (pl : Sem Bool)
    (he : eval (.Call (.Attribute o name ap) (a :: rest) [] pos) env = (do
      let ov ← eval o env
      standAt ap.atName
      let (f, first) ← holding [ov] (getMethod ov name pl)
      callWith pos f first (backTo pos (starEach (a :: rest) env)) []) := by kernel_rfl) :
    W Mo A (eval (.Call (.Attribute o name ap) (a :: rest) [] pos) env) Q E s :=
  .of (MethodCall_ (pl := pl) (wpAny_mono h.un (fun ov s₁ q => wpAny_mono (q pl).un (fun _ _ x => x.un) fun _ _ x => x) fun _ _ x => x) he)
end
end Mine
namespace Mine
section
variable {c : Cx}
theorem g_sign_of : GF c "sign_of" 166 := ⟨by kernel_rfl, by kernel_rfl⟩
theorem g_decimal_of : GF c "decimal_of" 173 := ⟨by kernel_rfl, by kernel_rfl⟩
theorem g_at_one_scale : GF c "at_one_scale" 180 := ⟨by kernel_rfl, by kernel_rfl⟩
theorem g_pair_of : GF c "pair_of" 225 := ⟨by kernel_rfl, by kernel_rfl⟩
theorem g_is_shut : GF c "is_shut" 232 := ⟨by kernel_rfl, by kernel_rfl⟩
theorem g_current_point : GF c "current_point" 239 := ⟨by kernel_rfl, by kernel_rfl⟩
theorem g_move_to : GF c "move_to" 246 := ⟨by kernel_rfl, by kernel_rfl⟩
theorem g_path_with : GF c "path_with" 253 := ⟨by kernel_rfl, by kernel_rfl⟩
theorem g_line_to : GF c "line_to" 260 := ⟨by kernel_rfl, by kernel_rfl⟩
theorem g_close_path : GF c "close_path" 267 := ⟨by kernel_rfl, by kernel_rfl⟩
theorem g_curve_points : GF c "curve_points" 288 := ⟨by kernel_rfl, by kernel_rfl⟩
theorem g_flat_part : GF c "flat_part" 295 := ⟨by kernel_rfl, by kernel_rfl⟩
theorem g_flattened : GF c "flattened" 301 := ⟨by kernel_rfl, by kernel_rfl⟩
theorem g_lines_of : GF c "lines_of" 307 := ⟨by kernel_rfl, by kernel_rfl⟩
theorem g_places_of : GF c "places_of" 315 := ⟨by kernel_rfl, by kernel_rfl⟩
theorem g_at_places : GF c "at_places" 322 := ⟨by kernel_rfl, by kernel_rfl⟩
theorem g_whole_edges : GF c "whole_edges" 327 := ⟨by kernel_rfl, by kernel_rfl⟩
theorem g_crossing : GF c "crossing" 334 := ⟨by kernel_rfl, by kernel_rfl⟩
theorem g_winding_number : GF c "winding_number" 341 := ⟨by kernel_rfl, by kernel_rfl⟩
theorem g_winding : GF c "winding" 348 := ⟨by kernel_rfl, by kernel_rfl⟩
theorem g_is_filled : GF c "is_filled" 355 := ⟨by kernel_rfl, by kernel_rfl⟩
theorem g_is_inside : GF c "is_inside" 363 := ⟨by kernel_rfl, by kernel_rfl⟩
theorem g_doubled_area : GF c "doubled_area" 370 := ⟨by kernel_rfl, by kernel_rfl⟩
theorem g_law_box : GF c "_law_box" 375 := ⟨by kernel_rfl, by kernel_rfl⟩
theorem g_law_draw : GF c "_law_draw" 382 := ⟨by kernel_rfl, by kernel_rfl⟩
theorem g_law_path : GF c "_law_path" 403 := ⟨by kernel_rfl, by kernel_rfl⟩
theorem g_law_round : GF c "_law_round" 410 := ⟨by kernel_rfl, by kernel_rfl⟩
theorem g_law_area : GF c "_law_area" 417 := ⟨by kernel_rfl, by kernel_rfl⟩
theorem g_law_refused : GF c "_law_refused" 424 := ⟨by kernel_rfl, by kernel_rfl⟩
theorem g_law : GF c "law" 429 := ⟨by kernel_rfl, by kernel_rfl⟩
theorem g_PaperError : GF c "PaperError" 46 := ⟨by kernel_rfl, by kernel_rfl⟩
theorem g_PaintFault : GF c "PaintFault" 59 := ⟨by kernel_rfl, by kernel_rfl⟩
theorem g_Decimal : GF c "Decimal" 155 := ⟨by kernel_rfl, by kernel_rfl⟩
theorem g_Path : GF c "Path" 214 := ⟨by kernel_rfl, by kernel_rfl⟩
theorem b_len : BF c "len" (.builtin "len") := ⟨by kernel_rfl, by kernel_rfl, by decide⟩
theorem b_range : BF c "range" (.type "range") := ⟨by kernel_rfl, by kernel_rfl, by decide⟩
theorem b_isinstance : BF c "isinstance" (.builtin "isinstance") := ⟨by kernel_rfl, by kernel_rfl, by decide⟩
theorem b_max : BF c "max" (.builtin "max") := ⟨by kernel_rfl, by kernel_rfl, by decide⟩
theorem b_tuple : BF c "tuple" (.type "tuple") := ⟨by kernel_rfl, by kernel_rfl, by decide⟩
theorem b_list : BF c "list" (.type "list") := ⟨by kernel_rfl, by kernel_rfl, by decide⟩
theorem b_reversed : BF c "reversed" (.type "reversed") := ⟨by kernel_rfl, by kernel_rfl, by decide⟩
theorem b_abs : BF c "abs" (.builtin "abs") := ⟨by kernel_rfl, by kernel_rfl, by decide⟩
theorem b_int : BF c "int" (.type "int") := ⟨by kernel_rfl, by kernel_rfl, by decide⟩
theorem b_str : BF c "str" (.type "str") := ⟨by kernel_rfl, by kernel_rfl, by decide⟩
theorem b_bool : BF c "bool" (.type "bool") := ⟨by kernel_rfl, by kernel_rfl, by decide⟩
end
end Mine
namespace Mine
section
variable {c : Cx} {P : Ent} {T : Fz} {L : Addr} {ks gs : List Str} {vs : List (Option Value)} {M : List (Addr × Obj)} {s : Shared} {env : Env} {A : Around} {E : Value → Shared → Prop}

/-- back from a call, to the caller's state -/
theorem St.ret {s₀ : Shared} {T' : Fz} {L' : Addr} {ks' : List Str} {vs' : List (Option Value)} {M' : List (Addr × Obj)} (S : St c P T L ks vs M s₀) (S' : St c ⟨s₀.heap.objs.size, T, s₀.heap.get?⟩ T' L' ks' vs' M' s) : St c P T' L ks vs M s :=
  S.out (S'.back S.toIn)
/-- an entry of the ledger is let go -/
theorem St.drop {p : Addr × Obj} (S : St c P T L ks vs (p :: M) s) : St c P T L ks vs M s :=
  ⟨S.ok, S.gens, S.os, S.bT, S.sub, S.le, S.low, S.keep, S.nl, S.ns, S.tL, S.gL, fun q hq => S.led q (.tail _ hq), (List.nodup_cons.mp S.nd).2⟩
/-- a call that turns the first object of the ledger -/
theorem St.outX {T' : Fz} {s' : Shared} {a : Addr} {o o' : Obj} (S : St c P T L ks vs ((a, o) :: M) s) (O : OutX [a] T s T' s') (ho : s'.heap.get? a = some o') : St c P T' L ks vs ((a, o') :: M) s' where
  ok := S.ok
  gens := O.gens.trans S.gens
  os := O.os.trans S.os
  bT := fun b o e => O.le b o (S.bT b o e)
  sub := O.sub
  le := S.le.trans O.le
  low := fun b hb => (O.low b (Nat.lt_of_lt_of_le hb S.size)).trans (S.low b hb)
  keep := fun b ob e => O.keep b ob (fun q => by rw [List.mem_singleton.mp q, (S.led _ (.head _)).2.2.2] at e; cases e) (S.keep b ob e)
  nl := S.nl
  ns := let ⟨m, hn, al⟩ := S.ns; ⟨m, hn.at' fun ob e => O.keep L ob (fun q => (S.led _ (.head _)).2.2.1 (List.mem_singleton.mp q).symm) e, al⟩
  tL := by obtain ⟨m, hn, _⟩ := S.ns; rw [O.low L hn.lt]; exact S.tL
  gL := S.gL
  led := fun p hp => by
    rcases List.mem_cons.mp hp with rfl | hp
    · obtain ⟨h1, h2, h3, h4⟩ := S.led _ (.head _)
      exact ⟨ho, by rw [O.low _ (Heap.lt_size h1)]; exact h2, h3, h4⟩
    · obtain ⟨h1, h2, h3, h4⟩ := S.led p (.tail _ hp)
      have nd := S.nd
      rw [List.map_cons] at nd
      exact ⟨O.keep _ _ (fun q => (List.nodup_cons.mp nd).1 (List.mem_map.mpr ⟨p, hp, List.mem_singleton.mp q⟩)) h1, by rw [O.low _ (Heap.lt_size h1)]; exact h2, h3, h4⟩
  nd := by have := S.nd; rw [List.map_cons] at this ⊢; exact this

/-- the ledger's order -/
theorem St.perm {M' : List (Addr × Obj)} (S : St c P T L ks vs M s) (h : M.Perm M') : St c P T L ks vs M' s :=
  ⟨S.ok, S.gens, S.os, S.bT, S.sub, S.le, S.low, S.keep, S.nl, S.ns, S.tL, S.gL, fun q hq => S.led q (h.mem_iff.mpr hq), (h.map _).nodup_iff.mp S.nd⟩

/-- a heap kept but at one object of the ledger -/
theorem St.move {a : Addr} {o o' : Obj} {h' : Heap} (S : St c P T L ks vs ((a, o) :: M) s) (hk : ∀ b ob, b ≠ a → s.heap.get? b = some ob → h'.get? b = some ob) (ho : h'.get? a = some o') (t : Nat) :
    St c P T L ks vs ((a, o') :: M) { s with heap := h', toks := t } :=
  let ⟨m, hn, al⟩ := S.ns
  S.turn (hn.at' fun ob e => hk L ob (Ne.symm (S.led _ (.head _)).2.2.1) e) al .head (fun b ob _ hb e => hk b ob hb e) ho t

/-- loops -/
def Lp (c : Cx) (A : Around) (env : Env) (target : Expr) (body : List Stmt) (Q : Flow → Shared → Prop) (x : Value) (s : Shared) : Prop :=
  wpAny (model c.p c.w) A (pyIter x) (fun it s₂ => codeAny (model c.p c.w) A (.forLoop target it body [] env) (fun r s' => match r with | .ok f => Q f s' | .error _ => False) s₂) NoE s
theorem forS {target iter : Expr} {body rest : List Stmt} {pos : Pos} {Q : Flow → Shared → Prop}
    (h : W (model c.p c.w) A (eval iter env) (Lp c A env target body (thn (model c.p c.w) A env rest Q NoE)) NoE s) (hs : ∀ x, foldedSetIterable iter env x = pure x := by intro _; rfl) :
    W (model c.p c.w) A (execs (.For target iter body [] pos :: rest) env) Q NoE s := by
  refine seq (.of (wpAny_For (wpAny_mono h.un (fun x s₁ h₁ => wpAny_mono h₁ (fun it s₂ h₂ => codeAny_mono h₂ fun r s' q => ?_) fun _ _ x => x) fun _ _ x => x) hs))
  cases r with
  | ok f => exact q
  | error e => exact q.elim

theorem loopG {target : Expr} {body : List Stmt} {Q : Flow → Shared → Prop} {I : Addr} {o : Obj} {fp : List Addr} {n : Nat} {Pv : Nat → Value → Prop} {Sti : Nat → Heap → Prop}
    (Wk : Walks c.p c.w A I fp [I] n Pv Sti) (hio : ∀ i h, Sti i h → ∃ o, h.get? I = some o) (hfp : ∀ b ∈ fp, b = I ∨ ∃ o, T b = some o)
    (hgo : ∀ i v (s : Shared) (Q : Unit → Shared → Prop), Pv i v → Sti (i + 1) s.heap → Q () s → wpAny (model c.p c.w) A (letOwnedTupleGo target (.ref I) v) Q NoE s)
    (S : St c P T L ks vs ((I, o) :: M) s) (h0 : Sti 0 s.heap) (J : Nat → Fz → List (Option Value) → List (Addr × Obj) → Prop) (j0 : J 0 T vs M)
    (step : ∀ i v T' vs' M' o s, i < n → Pv i v → Fle T T' → J i T' vs' M' → St c P T' L ks vs' ((I, o) :: M') s →
      W (model c.p c.w) A (assign target env v) (fun _ s₂ => W (model c.p c.w) A (execs body env) (fun f s₃ => (f = .next ∨ f = .cont) ∧ ∃ T'' vs'' M'', Fle T' T'' ∧ J (i + 1) T'' vs'' M'' ∧ St c P T'' L ks vs'' ((I, o) :: M'') s₃) NoE s₂) NoE s)
    (fin : ∀ T' vs' M' s, Fle T T' → J n T' vs' M' → St c P T' L ks vs' M' s → Q .next s) :
    codeAny (model c.p c.w) A (.forLoop target (.ref I) body [] env) (fun r s' => match r with | .ok f => Q f s' | .error _ => False) s := by
  refine codeAny_forLoop_any (fun k s' => ∃ i T' vs' M' o, i ≤ n ∧ k = n - i ∧ Fle T T' ∧ J i T' vs' M' ∧ St c P T' L ks vs' ((I, o) :: M') s' ∧ Sti i s'.heap) ?_ (n - 0) ⟨0, T, vs, M, o, Nat.zero_le _, rfl, Fle.refl _, j0, S, h0⟩
  rintro k s' ⟨i, T', vs', M', o, hi, rfl, le, hJ, S', hst⟩
  refine wpAny_noRaise ?_
  by_cases hlt : i < n
  · refine Wk.item i s' _ _ hlt hst fun v h₁ tk hv hst₁ hk => ?_
    dsimp only
    refine wpAny_noRaise (hgo i v _ _ hv hst₁ ?_)
    obtain ⟨o₁, ho₁⟩ := hio _ _ hst₁
    have S₁ : St c P T' L ks vs' ((I, o₁) :: M') { s' with heap := h₁, toks := tk } := S'.move (fun b ob hb e => hk b ob (fun q => hb (List.mem_singleton.mp q)) e) ho₁ tk
    refine wpAny_noRaise (wpAny_mono (step i v T' vs' M' o₁ _ hlt hv le hJ S₁).un (fun _ s₂ h₂ => wpAny_noRaise (wpAny_mono h₂.un (fun f s₃ h₃ => ?_) fun _ _ x => x)) fun _ _ x => x)
    obtain ⟨hf, T'', vs'', M'', le', hJ', S''⟩ := h₃
    have key : ∃ m, m < n - i ∧ ∃ i T' vs' M' o, i ≤ n ∧ m = n - i ∧ Fle T T' ∧ J i T' vs' M' ∧ St c P T' L ks vs' ((I, o) :: M') s₃ ∧ Sti i s₃.heap := by
      refine ⟨n - (i + 1), by omega, i + 1, T'', vs'', M'', o₁, hlt, rfl, le.trans le', hJ', S'', Wk.frame _ _ _ hst₁ fun b hb ob e => ?_⟩
      rcases hfp b hb with rfl | ⟨ob', eb⟩
      · have e' : h₁.get? b = some ob := e
        rw [ho₁] at e'
        cases e'
        exact (S''.led _ (.head _)).1
      · have e1 := S₁.sub b ob' (le b ob' eb)
        have e' : h₁.get? b = some ob := e
        have e1' : h₁.get? b = some ob' := e1
        rw [e'] at e1'
        cases e1'
        exact S''.sub b ob (le' b ob (le b ob eb))
    rcases hf with rfl | rfl
    · exact key
    · exact key
  · have : i = n := by omega
    subst this
    refine Wk.done s' _ _ hst fun h₁ tk hk => ?_
    dsimp only
    refine wpAny_execs_nil (fin T' vs' M' _ le hJ ?_)
    have S₀ := S'.drop
    obtain ⟨m, hn, al⟩ := S'.ns
    have kp : ∀ b ob, b ≠ I → s'.heap.get? b = some ob → h₁.get? b = some ob := fun b ob hb e => hk b ob (fun q => hb (List.mem_singleton.mp q)) e
    have hI := S'.led _ (.head _)
    have nd := S'.nd
    rw [List.map_cons] at nd
    exact { ok := S'.ok, gens := S'.gens, os := S'.os, bT := S'.bT, sub := fun b ob e => kp b ob (fun q => by rw [q, hI.2.1] at e; cases e) (S'.sub b ob e), le := S'.le, low := S'.low,
            keep := fun b ob e => kp b ob (fun q => by rw [q, hI.2.2.2] at e; cases e) (S'.keep b ob e), nl := S'.nl, ns := ⟨m, hn.at' fun ob e => kp L ob (Ne.symm hI.2.2.1) e, al⟩, tL := S'.tL, gL := S'.gL,
            led := fun p hp => ⟨kp _ _ (fun q => (List.nodup_cons.mp nd).1 (List.mem_map.mpr ⟨p, hp, q⟩)) (S'.led p (.tail _ hp)).1, (S'.led p (.tail _ hp)).2⟩, nd := (List.nodup_cons.mp nd).2 }

end
end Mine
namespace Mine
section
variable {c : Cx} {P : Ent} {T : Fz} {L : Addr} {ks gs : List Str} {vs : List (Option Value)} {M : List (Addr × Obj)} {s : Shared} {env : Env} {A : Around} {E : Value → Shared → Prop}

/-- the targets that a loop over a list may have -/
def tgt : Expr → Bool
  | .Name .. => true
  | .Tuple .. => true
  | _ => false
theorem go_list {target : Expr} {I l : Addr} {i : Nat} {v : Value} {Q : Unit → Shared → Prop} (ht : tgt target = true) (hit : s.heap.IsListIter I l i) (hv : (∃ x p, target = .Name x p) ∨ ∃ a, v = .ref a) (h : Q () s) :
    wpAny (model c.p c.w) A (letOwnedTupleGo target (.ref I) v) Q NoE s := by
  cases target <;> first | (cases ht; done) | skip
  · show wpAny _ _ (pure ()) _ _ _
    exact wpAny_pure h
  · rcases hv with ⟨x, p, e⟩ | ⟨a, rfl⟩
    · cases e
    · exact wpAny_letOwnedTupleGo_listiter hit h

section
variable {target : Expr} {body : List Stmt} {Q : Flow → Shared → Prop} {t : Addr} {l : List Value}
theorem loopL (hh : A.handled = none) (H : LstT T t l) (S : St c P T L ks vs M s) (J : Nat → Fz → List (Option Value) → List (Addr × Obj) → Prop) (j0 : J 0 T vs M)
    (step : ∀ i v T' vs' M' I o s, l[i]? = some v → i < l.length → Fle T T' → J i T' vs' M' → St c P T' L ks vs' ((I, o) :: M') s →
      W (model c.p c.w) A (assign target env v) (fun _ s₂ => W (model c.p c.w) A (execs body env) (fun f s₃ => (f = .next ∨ f = .cont) ∧ ∃ T'' vs'' M'', Fle T' T'' ∧ J (i + 1) T'' vs'' M'' ∧ St c P T'' L ks vs'' ((I, o) :: M'') s₃) NoE s₂) NoE s)
    (fin : ∀ T' vs' M' s, Fle T T' → J l.length T' vs' M' → St c P T' L ks vs' M' s → Q .next s)
    (hv : (∃ x p, target = .Name x p) ∨ ∀ v ∈ l, ∃ a, v = .ref a) (ht : tgt target = true := by rfl) :
    Lp c A env target body Q (.ref t) s := by
  refine wpAny_pyIter_list (H.at S.toIn) ?_
  have S₁ := S.newM (o := { cls := .type "list_iterator", data := .fields #[.ref t, .int 0 0] }) rfl s.toks
  obtain ⟨o, hT, _⟩ := id H
  have hne : t ≠ s.heap.objs.size := fun q => by have := S.sub _ _ hT; rw [q, get_size] at this; cases this
  have Wk := Walks.list (prog := c.p) (w := c.w) hh s.heap.objs.size t hne l.toArray
  have e : l.toArray.size = l.length := by simp
  rw [e] at Wk
  refine loopG Wk (fun i h st => let ⟨o, e, _⟩ := st.1; ⟨o, e⟩) (fun b hb => ?_) (fun i v s Q hv' st h => go_list ht st.1 ?_ h) S₁ ⟨⟨_, (S₁.led _ (.head _)).1, rfl, rfl⟩, H.at S₁.toIn⟩ J j0 (fun i v T' vs' M' o s hi hv' le hJ S => step i v T' vs' M' _ o s (by simpa using hv') hi le hJ S) fin
  · rcases List.mem_cons.mp hb with rfl | hb
    · exact .inl rfl
    · rw [List.mem_singleton.mp hb]; exact .inr ⟨o, hT⟩
  · refine hv.imp id fun q => q v ?_
    have : l[i]? = some v := by simpa using hv'
    exact List.mem_of_getElem? this
theorem loopT (hh : A.handled = none) (H : TupT T t l) (S : St c P T L ks vs M s) (J : Nat → Fz → List (Option Value) → List (Addr × Obj) → Prop) (j0 : J 0 T vs M)
    (step : ∀ i v T' vs' M' I o s, l[i]? = some v → i < l.length → Fle T T' → J i T' vs' M' → St c P T' L ks vs' ((I, o) :: M') s →
      W (model c.p c.w) A (assign target env v) (fun _ s₂ => W (model c.p c.w) A (execs body env) (fun f s₃ => (f = .next ∨ f = .cont) ∧ ∃ T'' vs'' M'', Fle T' T'' ∧ J (i + 1) T'' vs'' M'' ∧ St c P T'' L ks vs'' ((I, o) :: M'') s₃) NoE s₂) NoE s)
    (fin : ∀ T' vs' M' s, Fle T T' → J l.length T' vs' M' → St c P T' L ks vs' M' s → Q .next s)
    (ht : ∀ it v, letOwnedTupleGo target it v = pure () := by intro _ _; rfl) :
    Lp c A env target body Q (.ref t) s := by
  refine wpAny_pyIter_tuple (H.at S.toIn) ?_
  have S₁ := S.newM (o := { cls := .type "tuple_iterator", data := .fields #[.ref t, .int 0 0] }) rfl s.toks
  obtain ⟨o, hT, _⟩ := id H
  have hne : t ≠ s.heap.objs.size := fun q => by have := S.sub _ _ hT; rw [q, get_size] at this; cases this
  have Wk := Walks.tuple (prog := c.p) (w := c.w) hh s.heap.objs.size t hne l.toArray
  have e : l.toArray.size = l.length := by simp
  rw [e] at Wk
  refine loopG Wk (fun i h st => let ⟨o, e, _⟩ := st.1; ⟨o, e⟩) (fun b hb => ?_) (fun i v s Q hv' st h => wpAny_of_eq (ht _ v) h) S₁ ⟨⟨_, (S₁.led _ (.head _)).1, rfl, rfl⟩, H.at S₁.toIn⟩ J j0 (fun i v T' vs' M' o s hi hv' le hJ S => step i v T' vs' M' _ o s (by simpa using hv') hi le hJ S) fin
  rcases List.mem_cons.mp hb with rfl | hb
  · exact .inl rfl
  · rw [List.mem_singleton.mp hb]; exact .inr ⟨o, hT⟩
/-- a range of n ints from a, the newest of the ledger -/
def RgO (o : Obj) (a : Int) (n : Nat) : Prop := ∃ b t u v, o = { cls := .type "range", data := .fields #[.int a t, .int b u, .int 1 v] } ∧ -(2 ^ 62) ≤ a ∧ a < 2 ^ 62 ∧ -(2 ^ 62) ≤ b ∧ b < 2 ^ 62 ∧ n = (b - a).toNat
theorem mkRg1 {b : Int} {t : Tok} {Q : Value → Shared → Prop} (S : St c P T L ks vs M s) (h1 : -(2 ^ 62) ≤ b) (h2 : b < 2 ^ 62) (h : ∀ r o s', RgO o 0 b.toNat → St c P T L ks vs ((r, o) :: M) s' → Q (.ref r) s') :
    W (model c.p c.w) A (call (.type "range") [.int b t]) Q E s :=
  .of (call_range_1 (h _ _ _ ⟨b, _, _, _, rfl, by omega, by omega, h1, h2, by simp⟩ (S.newM rfl _)))
theorem mkRg2 {a b : Int} {t u : Tok} {Q : Value → Shared → Prop} (S : St c P T L ks vs M s) (h1 : -(2 ^ 62) ≤ b) (h2 : b < 2 ^ 62) (h3 : -(2 ^ 62) ≤ a) (h4 : a < 2 ^ 62) (h : ∀ r o s', RgO o a (b - a).toNat → St c P T L ks vs ((r, o) :: M) s' → Q (.ref r) s') :
    W (model c.p c.w) A (call (.type "range") [.int a t, .int b u]) Q E s :=
  .of (call_range_2 (h _ _ _ ⟨b, _, _, _, rfl, h3, h4, h1, h2, rfl⟩ (S.newM rfl _)))
theorem loopRg {r : Addr} {o : Obj} {a : Int} {n : Nat} (hh : A.handled = none) (H : RgO o a n) (S : St c P T L ks vs ((r, o) :: M) s) (J : Nat → Fz → List (Option Value) → List (Addr × Obj) → Prop) (j0 : J 0 T vs M)
    (step : ∀ i t T' vs' M' I o s, i < n → Fle T T' → J i T' vs' M' → St c P T' L ks vs' ((I, o) :: M') s →
      W (model c.p c.w) A (assign target env (.int (a + i) t)) (fun _ s₂ => W (model c.p c.w) A (execs body env) (fun f s₃ => (f = .next ∨ f = .cont) ∧ ∃ T'' vs'' M'', Fle T' T'' ∧ J (i + 1) T'' vs'' M'' ∧ St c P T'' L ks vs'' ((I, o) :: M'') s₃) NoE s₂) NoE s)
    (fin : ∀ T' vs' M' s, Fle T T' → J n T' vs' M' → St c P T' L ks vs' M' s → Q .next s)
    (ht : ∀ it v, letOwnedTupleGo target it v = pure () := by intro _ _; rfl) :
    Lp c A env target body Q (.ref r) s := by
  obtain ⟨b, t, u, v, rfl, h3, h4, h1, h2, rfl⟩ := H
  have hR : IsRange s.heap r a b 1 t u v := (S.led _ (.head _)).1
  refine wpAny_pyIter_range hR (small_one h3 h4 h1 h2) ?_
  have hsz : Builtin.Range.rangeSize a b 1 = ((b - a).toNat : Int) := by rw [rangeSize_one]; split <;> omega
  have S₁ := S.drop.newM (o := { cls := .type "range_iterator", data := .fields #[rawInt a, rawInt (Builtin.Range.rangeSize a b 1), rawInt 1] }) rfl s.toks
  refine loopG (LCg.range_walks hh a (b - a).toNat) (fun i h st => ⟨_, st⟩) (fun b hb => .inl (List.mem_singleton.mp hb)) (fun i v s Q hv' st h => wpAny_of_eq (ht _ v) h) S₁ ?_ J j0
    (fun i v T' vs' M' o s hi hv le hJ S => by obtain ⟨t, rfl⟩ := hv; exact step i t T' vs' M' _ o s hi le hJ S) fin
  have := (S₁.led _ (.head _)).1
  rw [hsz] at this
  show IsRangeIter _ _ _ _ _
  simpa [hsz] using this
end
end
end Mine
namespace Mine
section
variable {c : Cx} {P : Ent} {T : Fz} {L : Addr} {ks gs : List Str} {vs : List (Option Value)} {M : List (Addr × Obj)} {s : Shared} {env : Env} {A : Around} {E : Value → Shared → Prop}

theorem St.gone {p : Addr × Obj} {h' : Heap} (S : St c P T L ks vs (p :: M) s) (hk : ∀ b ob, b ≠ p.1 → s.heap.get? b = some ob → h'.get? b = some ob) (t : Nat) : St c P T L ks vs M { s with heap := h', toks := t } :=
  let ⟨m, hn, al⟩ := S.ns
  have hI := S.led _ (.head _)
  have nd : ((p :: M).map (·.1)).Nodup := S.nd
  { ok := S.ok, gens := S.gens, os := S.os, bT := S.bT, sub := fun b ob e => hk b ob (fun q => by rw [q, hI.2.1] at e; cases e) (S.sub b ob e), le := S.le, low := S.low,
    keep := fun b ob e => hk b ob (fun q => by rw [q, hI.2.2.2] at e; cases e) (S.keep b ob e), nl := S.nl, ns := ⟨m, hn.at' fun ob e => hk L ob (Ne.symm hI.2.2.1) e, al⟩, tL := S.tL, gL := S.gL,
    led := fun q hq => ⟨hk _ _ (fun e => by rw [List.map_cons] at nd; exact (List.nodup_cons.mp nd).1 (List.mem_map.mpr ⟨q, hq, e⟩)) (S.led q (.tail _ hq)).1, (S.led q (.tail _ hq)).2⟩, nd := by rw [List.map_cons] at nd; exact (List.nodup_cons.mp nd).2 }

theorem al_none {m : Str → Option Value} : ∀ {ks : List Str}, Al ks (ks.map fun _ => none) m
  | [] => trivial
  | k :: ks => ⟨fun x e => (nomatch e), al_none⟩
theorem St.forget (S : St c P T L ks vs M s) : St c P T L ks (ks.map fun _ => none) M s :=
  { S with ns := let ⟨m, hn, _⟩ := S.ns; ⟨m, hn, al_none⟩ }

abbrev lsO (l : List Value) : Obj := { cls := .type "list", data := .seq l.toArray l.length }

/-- the entry to a block of a comprehension -/
def blkG (s : Shared) (I : Addr) (Mx : List (Addr × Obj)) : Fz := fun b => if b ∈ I :: Mx.map (·.1) then none else s.heap.get? b
theorem blkG_sub {I : Addr} {Mx : List (Addr × Obj)} {b : Addr} {o : Obj} (h : blkG s I Mx b = some o) : s.heap.get? b = some o ∧ b ≠ I ∧ b ∉ Mx.map (·.1) := by
  unfold blkG at h
  split at h
  · cases h
  · rename_i q
    exact ⟨h, fun e => q (e ▸ .head _), fun e => q (.tail _ e)⟩
theorem blkG_of {I : Addr} {Mx : List (Addr × Obj)} {b : Addr} {o : Obj} (h : s.heap.get? b = some o) (h1 : b ≠ I) (h2 : b ∉ Mx.map (·.1)) : blkG s I Mx b = some o := by
  unfold blkG
  rw [if_neg]
  · exact h
  · intro q
    rcases List.mem_cons.mp q with q | q
    · exact h1 q
    · exact h2 q

theorem St.block {I : Addr} {o : Obj} {Mx M₀ : List (Addr × Obj)} {h₁ : Heap} {ks' : List Str} {t : Nat} (S : St c P T L ks vs ((I, o) :: (Mx ++ M₀)) s)
    (hn : h₁.Ns (s.heap.push (lsO [])).objs.size (fun x => ([] : List (Str × Value)).reverse.lookup x)) (hs : Heap.SameBut (s.heap.push (lsO [])).objs.size ((s.heap.push (lsO [])).push { cls := .type "dict", data := .dict #[] }) h₁) :
    St c ⟨s.heap.objs.size, T, blkG s I Mx⟩ T (s.heap.push (lsO [])).objs.size ks' (ks'.map fun _ => none) ((s.heap.objs.size, lsO []) :: (I, o) :: Mx) { s with heap := h₁, toks := t } := by
  have sz : (s.heap.push (lsO [])).objs.size = s.heap.objs.size + 1 := Heap.size_push ..
  have kp : ∀ b ob, s.heap.get? b = some ob → h₁.get? b = some ob := fun b ob e => hs.extBut b ob (by rw [sz]; exact Nat.ne_of_lt (Nat.lt_succ_of_lt (Heap.lt_size e))) (Heap.get?_push_of_some _ (Heap.get?_push_of_some _ e))
  have e0 : h₁.get? s.heap.objs.size = some (lsO []) := hs.extBut _ _ (by rw [sz]; exact Nat.ne_of_lt (Nat.lt_succ_self _)) (Heap.get?_push_of_some _ (Heap.get?_push_size _ rfl))
  have tn : ∀ b, s.heap.objs.size ≤ b → T b = none := fun b hb => by
    cases e : T b with
    | none => rfl
    | some o => exact absurd (Heap.lt_size (S.sub _ _ e)) (Nat.not_lt.mpr hb)
  have gn : ∀ b, s.heap.objs.size ≤ b → blkG s I Mx b = none := fun b hb => by
    cases e : blkG s I Mx b with
    | none => rfl
    | some o => exact absurd (Heap.lt_size (blkG_sub e).1) (Nat.not_lt.mpr hb)
  have lt : ∀ p ∈ (I, o) :: Mx, p ∈ (I, o) :: (Mx ++ M₀) := fun p hp => by
    rcases List.mem_cons.mp hp with rfl | hp
    · exact .head _
    · exact .tail _ (List.mem_append_left _ hp)
  refine { ok := S.ok, gens := S.gens, os := S.os, bT := S.bT, sub := fun b ob e => kp b ob (S.sub b ob e), le := Fle.refl _, low := fun _ _ => rfl, keep := fun b ob e => kp b ob (blkG_sub e).1, nl := by show s.heap.objs.size ≤ _; rw [sz]; exact Nat.le_succ _,
           ns := ⟨_, hn, al_none⟩, tL := tn _ (by rw [sz]; exact Nat.le_succ _), gL := gn _ (by rw [sz]; exact Nat.le_succ _), led := fun p hp => ?_, nd := ?_ }
  · rcases List.mem_cons.mp hp with rfl | hp
    · exact ⟨e0, tn _ (Nat.le_refl _), by rw [sz]; exact Nat.ne_of_lt (Nat.lt_succ_self _), gn _ (Nat.le_refl _)⟩
    · obtain ⟨g1, g2, g3, g4⟩ := S.led p (lt p hp)
      refine ⟨kp _ _ g1, g2, by rw [sz]; exact Nat.ne_of_lt (Nat.lt_succ_of_lt (Heap.lt_size g1)), ?_⟩
      show blkG s I Mx p.1 = none
      unfold blkG
      rw [if_pos]
      rcases List.mem_cons.mp hp with rfl | hp
      · exact .head _
      · exact .tail _ (List.mem_map_of_mem hp)
  · have nd := S.nd
    rw [List.map_cons, List.map_append] at nd
    have : ((I, o) :: Mx).map (·.1) = I :: Mx.map (·.1) := rfl
    rw [List.map_cons, this]
    have nd2 : (I :: Mx.map (·.1)).Nodup := by
      rw [← List.cons_append] at nd
      exact (List.nodup_append.mp nd).1
    refine List.nodup_cons.mpr ⟨fun hm => ?_, nd2⟩
    have : s.heap.objs.size ∈ ((I, o) :: Mx).map (·.1) := hm
    obtain ⟨p, hp, e⟩ := List.mem_map.mp this
    have := (S.led p (lt p hp)).1
    rw [show p.1 = s.heap.objs.size from e, get_size] at this
    cases this

theorem St.join {I C D : Addr} {o oI oD : Obj} {Mx Mx' M₀ : List (Addr × Obj)} {ks' : List Str} {vs' : List (Option Value)} {T' : Fz} {s' : Shared} (S : St c P T L ks vs ((I, o) :: (Mx ++ M₀)) s)
    (S' : St c ⟨s.heap.objs.size, T, blkG s I Mx⟩ T' C ks' vs' ((D, oD) :: (I, oI) :: Mx') s') (hx : Mx'.map (·.1) = Mx.map (·.1)) (hD : s.heap.objs.size ≤ D) :
    ∃ oC m, LCg.NsObj oC m ∧ St c P T' L ks vs ((C, oC) :: (D, oD) :: (Mx' ++ M₀)) s' := by
  obtain ⟨m', hn', _⟩ := S'.ns
  obtain ⟨oC, hoC, nso⟩ := LCg.ns_obj hn'
  obtain ⟨m, hn, al⟩ := S.ns
  have ndS := S.nd
  rw [List.map_cons, List.map_append] at ndS
  obtain ⟨nI, ndS⟩ := List.nodup_cons.mp ndS
  obtain ⟨nd1, nd2, nd3⟩ := List.nodup_append.mp ndS
  have keep : ∀ b ob, b ≠ I → b ∉ Mx.map (·.1) → s.heap.get? b = some ob → s'.heap.get? b = some ob := fun b ob h1 h2 e => S'.keep b ob (blkG_of e h1 h2)
  have ledI := S.led (I, o) (.head _)
  have ledX : ∀ p ∈ Mx, _ := fun p hp => S.led p (.tail _ (List.mem_append_left _ hp))
  have led0 : ∀ p ∈ M₀, _ := fun p hp => S.led p (.tail _ (List.mem_append_right _ hp))
  have notX : ∀ b, (∀ p ∈ Mx, p.1 ≠ b) → b ∉ Mx.map (·.1) := fun b h hm => by
    obtain ⟨p, hp, e⟩ := List.mem_map.mp hm
    exact h p hp e
  have ltL : L < s.heap.objs.size := hn.lt
  have low : ∀ b, b < s.heap.objs.size → T' b = T b := S'.low
  have gn : ∀ b, s.heap.objs.size ≤ b → P.G b = none := fun b hb => by
    cases e : P.G b with
    | none => rfl
    | some o => exact absurd (Heap.lt_size (S.keep _ _ e)) (Nat.not_lt.mpr hb)
  have xk : ∀ p ∈ Mx', ∃ q ∈ Mx, q.1 = p.1 := fun p hp => by
    have : p.1 ∈ Mx'.map (·.1) := List.mem_map_of_mem hp
    rw [hx] at this
    exact List.mem_map.mp this
  have hC : s.heap.objs.size ≤ C := S'.nl
  refine ⟨oC, m', nso, ?_⟩
  refine { ok := S.ok, gens := S'.gens, os := S'.os, bT := S'.bT, sub := S'.sub, le := S.le.trans S'.le, low := fun b hb => (low b (Nat.lt_of_lt_of_le hb S.size)).trans (S.low b hb),
           keep := fun b ob e => keep b ob (fun q => by rw [q, ledI.2.2.2] at e; cases e) (notX b fun p hp q => by rw [← q, (ledX p hp).2.2.2] at e; cases e) (S.keep b ob e), nl := S.nl,
           ns := ⟨m, hn.at' fun ob e => keep L ob (Ne.symm ledI.2.2.1) (notX L fun p hp => (ledX p hp).2.2.1) e, al⟩, tL := by rw [low L ltL]; exact S.tL, gL := S.gL, led := fun p hp => ?_, nd := ?_ }
  · rcases List.mem_cons.mp hp with rfl | hp
    · exact ⟨hoC, S'.tL, Nat.ne_of_gt (Nat.lt_of_lt_of_le ltL hC), gn _ hC⟩
    · rcases List.mem_cons.mp hp with rfl | hp
      · exact ⟨(S'.led _ (.head _)).1, (S'.led _ (.head _)).2.1, Nat.ne_of_gt (Nat.lt_of_lt_of_le ltL hD), gn _ hD⟩
      · rcases List.mem_append.mp hp with hp | hp
        · obtain ⟨q, hq, e⟩ := xk p hp
          have g := S'.led p (.tail _ (.tail _ hp))
          exact ⟨g.1, g.2.1, e ▸ (ledX q hq).2.2.1, e ▸ (ledX q hq).2.2.2⟩
        · have g := led0 p hp
          refine ⟨keep _ _ (fun q => nI (List.mem_append_right _ (List.mem_map.mpr ⟨p, hp, q⟩))) (fun hm => nd3 _ hm _ (List.mem_map_of_mem hp) rfl) g.1, ?_, g.2.2.1, g.2.2.2⟩
          rw [low _ (Heap.lt_size g.1)]; exact g.2.1
  · have l1 : ∀ b ∈ Mx.map (·.1) ++ M₀.map (·.1), b < s.heap.objs.size := fun b hb => by
      rcases List.mem_append.mp hb with hb | hb
      · obtain ⟨p, hp, rfl⟩ := List.mem_map.mp hb; exact Heap.lt_size (ledX p hp).1
      · obtain ⟨p, hp, rfl⟩ := List.mem_map.mp hb; exact Heap.lt_size (led0 p hp).1
    show (C :: D :: (Mx' ++ M₀).map (·.1)).Nodup
    rw [List.map_append, hx]
    refine List.nodup_cons.mpr ⟨fun hm => ?_, List.nodup_cons.mpr ⟨fun hm => Nat.lt_irrefl _ (Nat.lt_of_lt_of_le (l1 _ hm) hD), ndS⟩⟩
    rcases List.mem_cons.mp hm with e | hm
    · exact (S'.led _ (.head _)).2.2.1 e.symm
    · exact Nat.lt_irrefl _ (Nat.lt_of_lt_of_le (l1 _ hm) hC)
end
end Mine
namespace Mine
section
variable {c : Cx} {P : Ent} {T : Fz} {L : Addr} {ks gs : List Str} {vs : List (Option Value)} {M : List (Addr × Obj)} {s : Shared} {env : Env} {A : Around} {E : Value → Shared → Prop}

theorem lk_other {env : Env} {k : NameKind} (hk : k ≠ .free) : ∀ {names : List (Str × NameKind)} {x : Str}, names.lookup x = some k →
    (names.map fun (n, k) => if (k == NameKind.free && env.scope.kind == .function && env.kindOf n == some .cell) then (n, NameKind.cell) else (n, k)).lookup x = some k
  | [], _, h => by simp at h
  | (n, q) :: r, x, h => by
    have ih := @lk_other env k hk r x
    show List.lookup x ((if (q == NameKind.free && env.scope.kind == .function && env.kindOf n == some .cell) = true then (n, NameKind.cell) else (n, q)) :: _) = _
    cases hx : x == n with
    | true =>
      simp only [List.lookup_cons, hx] at h
      cases h
      have : (k == NameKind.free) = false := by simpa using hk
      simp [List.lookup_cons, hx, this]
    | false =>
      simp only [List.lookup_cons, hx] at h
      split
      · simp only [List.lookup_cons, hx]; exact ih h
      · simp only [List.lookup_cons, hx]; exact ih h
theorem lk_free {env : Env} (hk : env.scope.kind = .function) : ∀ {names : List (Str × NameKind)} {x : Str}, env.kindOf x = some .cell → names.lookup x = some .free →
    (names.map fun (n, k) => if (k == NameKind.free && env.scope.kind == .function && env.kindOf n == some .cell) then (n, NameKind.cell) else (n, k)).lookup x = some .cell
  | [], _, _, h => by simp at h
  | (n, q) :: r, x, hc, h => by
    have ih := @lk_free env hk r x hc
    show List.lookup x ((if (q == NameKind.free && env.scope.kind == .function && env.kindOf n == some .cell) = true then (n, NameKind.cell) else (n, q)) :: _) = _
    cases hx : x == n with
    | true =>
      simp only [List.lookup_cons, hx] at h
      cases h
      have e : x = n := eq_of_beq hx
      subst e
      simp [hk, hc]
    | false =>
      simp only [List.lookup_cons, hx] at h
      split
      · simp only [List.lookup_cons, hx]; exact ih h
      · simp only [List.lookup_cons, hx]; exact ih h

def cpChk (sc : Scope) (ks gs fs : List Str) : Bool :=
  sc.kind == .function && (decide ks.Nodup && (ks.all (fun k => sc.names.lookup k == some .local && !(k == ("__debug__" : Str))) && (gs.all (fun k => sc.names.lookup k == some .globalImplicit && !(k == ("__debug__" : Str))) &&
    (fs.all (fun k => sc.names.lookup k == some .free && !(k == ("__debug__" : Str))) && (sc.names.all (fun x => !(x.2 == .cell)) && sc.names.all (fun x => !(x.2 == .local) || sc.names.lookup x.1 == some .local))))))
theorem cp_of {sc : Scope} {fs : List Str} {cl : List (Str × Addr)} {C : Addr} (h : cpChk sc ks gs fs = true) (hg : env.globals = mainGlobals) (hb : env.builtins = builtinsNs) :
    Fn (compEnvC sc cl C env) C ks gs ∧ sc.kind = .function ∧ (∀ x ∈ sc.names, x.2 ≠ .cell) ∧ (∀ x ∈ sc.names, x.2 = .local → sc.names.lookup x.1 = some .local) := by
  unfold cpChk at h
  obtain ⟨h1, h⟩ := Bool.and_eq_true_iff.mp h
  obtain ⟨h2, h⟩ := Bool.and_eq_true_iff.mp h
  obtain ⟨h3, h⟩ := Bool.and_eq_true_iff.mp h
  obtain ⟨h4, h⟩ := Bool.and_eq_true_iff.mp h
  obtain ⟨h5, h⟩ := Bool.and_eq_true_iff.mp h
  obtain ⟨h6, h7⟩ := Bool.and_eq_true_iff.mp h
  refine ⟨⟨rfl, eq_of_beq h1, of_decide_eq_true h2, fun k hk => ?_, fun k hk => ?_, hg, hb⟩, eq_of_beq h1, fun x hx => ?_, fun x hx e => ?_⟩
  · obtain ⟨q1, q2⟩ := Bool.and_eq_true_iff.mp (List.all_eq_true.mp h3 k hk)
    exact ⟨lk_other (by decide) (eq_of_beq q1), by simpa using q2⟩
  · obtain ⟨q1, q2⟩ := Bool.and_eq_true_iff.mp (List.all_eq_true.mp h4 k hk)
    exact ⟨lk_other (by decide) (eq_of_beq q1), by simpa using q2⟩
  · have := List.all_eq_true.mp h6 x hx
    simpa using this
  · have := List.all_eq_true.mp h7 x hx
    simpa [e] using this

/-- a name that stands in a cell -/
structure Cl (env : Env) (x : Str) (a : Addr) : Prop where
  kind : env.scope.kind = .function
  here : env.kindOf x = some .cell
  cell : env.cells.lookup x = some a
  nod : (x == ("__debug__" : Str)) = false
theorem rdC {x : Str} {a : Addr} {pos : Pos} {v : Value} {Q : Value → Shared → Prop} {Mo : Model} (Z : Cl env x a) (h : s.heap.IsCell a (some v)) (k : Q v s) : W Mo A (eval (.Name x pos) env) Q E s :=
  .of (wpAny_Name (wpAny_loadName_cell Z.kind Z.here Z.cell h k) Z.nod)
theorem Cl.inner {sc : Scope} {x : Str} {a C : Addr} {cl : List (Str × Addr)} {fs : List Str} (Z : Cl env x a) (h : cpChk sc ks gs fs = true) (hx : x ∈ fs) (hc : cl.lookup x = some a) : Cl (compEnvC sc cl C env) x a := by
  unfold cpChk at h
  obtain ⟨h1, h⟩ := Bool.and_eq_true_iff.mp h
  obtain ⟨h2, h⟩ := Bool.and_eq_true_iff.mp h
  obtain ⟨h3, h⟩ := Bool.and_eq_true_iff.mp h
  obtain ⟨h4, h⟩ := Bool.and_eq_true_iff.mp h
  obtain ⟨h5, h⟩ := Bool.and_eq_true_iff.mp h
  obtain ⟨q1, q2⟩ := Bool.and_eq_true_iff.mp (List.all_eq_true.mp h5 x hx)
  exact ⟨eq_of_beq h1, lk_free Z.kind Z.here (eq_of_beq q1), hc, by simpa using q2⟩

/-- the tests of a clause -/
def tsts (Mo : Model) (A : Around) (env : Env) : List Expr → (Bool → Shared → Prop) → Shared → Prop
  | [], Q, s => Q true s
  | [t], Q, s => W Mo A (isTrue t env (eval t env)) Q NoE s
  | _, _, _ => False

def Cp (c : Cx) (A : Around) (env : Env) (elt target iter : Expr) (ifs : List Expr) (scope : Scope) (pos : Pos) (cl : List (Str × Addr)) (use : Option (Value → Sem Unit)) (Q : Value → Shared → Prop) (x : Value) (s : Shared) : Prop :=
  wpAny (model c.p c.w) A (pyIter x) (fun it s₂ => wpAny (model c.p c.w) A (newList []) (fun acc s₃ => wpAny (model c.p c.w) A (newFunctionEnv scope env.globals cl [] env.qual none .none (some env)) (fun cenv s₄ =>
    codeAny (model c.p c.w) A (.compStart (.ListComp elt [⟨target, iter, ifs, 0⟩] scope pos) 0 it acc { cenv with scope := relabel scope env }) (compPost (model c.p c.w) A NoE use Q acc cenv.locals) s₄) NoE s₃) NoE s₂) NoE s

theorem compE {elt target iter : Expr} {ifs : List Expr} {scope : Scope} {pos : Pos} {Q : Value → Shared → Prop} (ks' gs' fs' : List Str) (cl : List (Str × Addr))
    (h : W (model c.p c.w) A (eval iter env) (Cp c A env elt target iter ifs scope pos cl none Q) NoE s) (F : Fn env L ks gs) (hclos : closureFor scope env = pure cl)
    (hc : cpChk scope ks' gs' fs' = true := by kernel_rfl) (hs : ∀ x, foldedSetIterable iter env x = pure x := by intro _; rfl) :
    W (model c.p c.w) A (eval (.ListComp elt [⟨target, iter, ifs, 0⟩] scope pos) env) Q NoE s := by
  obtain ⟨_, h1, h2, h3⟩ := cp_of (env := env) (cl := cl) (C := 0) hc F.glob F.bins
  refine .of ?_
  rw [eval_ListComp]
  exact wpAny_comprehension_free (use := none) rfl hs hclos h1 h3 h.un
theorem compA {elt target iter : Expr} {ifs : List Expr} {scope : Scope} {pos spos py : Pos} {y : Str} {rest : List Stmt} {Q : Flow → Shared → Prop} (ks' gs' fs' : List Str) (cl : List (Str × Addr))
    (h : W (model c.p c.w) A (eval iter env) (Cp c A env elt target iter ifs scope pos cl (some (assign (.Name y py) env)) (fun _ s' => W (model c.p c.w) A (execs rest env) Q NoE s')) NoE s) (F : Fn env L ks gs) (hclos : closureFor scope env = pure cl)
    (hc : cpChk scope ks' gs' fs' = true := by kernel_rfl) (hs : ∀ x, foldedSetIterable iter env x = pure x := by intro _; rfl)
    (hsw : swapsWith (.ListComp elt [⟨target, iter, ifs, 0⟩] scope pos) (some (.Name y py)) spos.line env = pure true := by kernel_rfl) :
    W (model c.p c.w) A (execs (.Assign [.Name y py] (.ListComp elt [⟨target, iter, ifs, 0⟩] scope pos) spos :: rest) env) Q NoE s := by
  obtain ⟨_, h1, h2, h3⟩ := cp_of (env := env) (cl := cl) (C := 0) hc F.glob F.bins
  refine seq (.of ?_)
  rw [exec_Assign_Name_used _ _ _ _ hsw]
  refine wpAny_bind (wpAny_standAt (wpAny_bind ?_))
  show wpAny _ A (do let _ ← comprehension (.ListComp elt [⟨target, iter, ifs, 0⟩] scope pos) scope env _ (newList []) false (eval iter env) (some (assign (.Name y py) env))) _ _ s
  exact wpAny_bind (wpAny_mono (wpAny_comprehension_free (use := some (assign (.Name y py) env)) rfl hs hclos h1 h3 h.un) (fun _ s' hq => wpAny_pure (wpAny_pure hq)) fun _ _ e => e)

theorem finE {C : Addr} {oC : Obj} {m : Str → Option Value} {acc : Value} {f : Flow} {Q : Value → Shared → Prop} (no : LCg.NsObj oC m) (S : St c P T L ks vs ((C, oC) :: M) s) (h : ∀ s', St c P T L ks vs M s' → Q acc s') :
    compPost (model c.p c.w) A NoE none Q acc C (.ok f) s :=
  ⟨m, no.ns (S.led _ (.head _)).1, fun h' hs => h _ (S.gone (fun b ob hb e => hs.extBut b ob hb e) s.toks)⟩
theorem finA {C : Addr} {oC : Obj} {m : Str → Option Value} {acc : Value} {f : Flow} {y : Str} {py : Pos} {vs' : List (Option Value)} {Q : Value → Shared → Prop} (F : Fn env L ks gs) (hp : Put ks vs y acc vs') (no : LCg.NsObj oC m) (S : St c P T L ks vs ((C, oC) :: M) s)
    (h : ∀ v s', St c P T L ks vs' M s' → Q v s') : compPost (model c.p c.w) A NoE (some (assign (.Name y py) env)) Q acc C (.ok f) s := by
  show wpAny _ _ (assign (.Name y py) env acc) _ _ _
  refine wpAny_assign_Name (wpAny_mono (wr (E := NoE) (Mo := model c.p c.w) (A := A) (Q := fun _ s' => St c P T L ks vs' ((C, oC) :: M) s') F S hp fun s' S' => S').un (fun _ s' S' => ?_) fun _ _ x => x)
  exact ⟨m, no.ns (St.led S' _ (.head _)).1, fun h' hs => h _ _ (St.gone S' (fun b ob hb e => hs.extBut b ob hb e) s'.toks)⟩
end
end Mine
namespace Mine
section
variable {c : Cx} {P : Ent} {T : Fz} {L : Addr} {ks gs : List Str} {vs : List (Option Value)} {M : List (Addr × Obj)} {s : Shared} {env : Env} {A : Around} {E : Value → Shared → Prop}

theorem tsts_run {ifs : List Expr} {Q : Bool → Shared → Prop} (h : tsts (model c.p c.w) A env ifs Q s) :
    wpAny (model c.p c.w) A (forIn ifs true fun t r => if r = true then do let ok ← isTrue t env (eval t env); pure (ForInStep.yield ok) else pure (ForInStep.yield r)) Q NoE s := by
  match ifs, h with
  | [], h => exact wpAny_tests_nil h
  | [t], h => exact wpAny_tests_one (W.un h)

theorem compLoop_own {elt target iter : Expr} {ifs : List Expr} {scope : Scope} {pos : Pos} {it acc : Value} {cenv : Env} {R : Result → Shared → Prop} (I : Nat → Shared → Prop)
    (turn : ∀ n s, I n s → wpAny (model c.p c.w) A (pyNext it) (fun r s₁ => match r with
      | none => R (.ok .next) s₁
      | some v => wpAny (model c.p c.w) A (letOwnedTupleGo target it v) (fun _ s₁' => wpAny (model c.p c.w) A (assign target cenv v) (fun _ s₂ =>
          tsts (model c.p c.w) A cenv ifs (fun ok s₃ => if ok = true then wpAny (model c.p c.w) A (eval elt cenv) (fun x s₄ =>
              wpAny (model c.p c.w) A (call (.builtin "list.append") [acc, x]) (fun _ s₅ => ∃ m, m < n ∧ I m s₅) NoE s₄) NoE s₃
            else ∃ m, m < n ∧ I m s₃) s₂) NoE s₁') NoE s₁) NoE s)
    (n : Nat) (h : I n s) : codeAny (model c.p c.w) A (.compLoop (.ListComp elt [⟨target, iter, ifs, 0⟩] scope pos) 0 it acc cenv) R s := by
  refine codeAny_loop rfl I (fun n s hI => ?_) n h
  show wpAny _ A ((compTurn (.ListComp elt [⟨target, iter, ifs, 0⟩] scope pos) 0 it acc cenv).onRaise (fun x => do noteFrame x cenv; theTreesLotGoes x)) _ _ s
  refine wpAny_noted ?_
  rw [compTurn_list]
  refine wpAny_bind (wpAny_standAt (wpAny_bind (wpAny_noRaise (wpAny_mono (turn n s hI) (fun r s₁ h₁ => ?_) fun _ _ h' => h'))))
  cases r with
  | none => exact wpAny_pure h₁
  | some v =>
    refine wpAny_bind (wpAny_noRaise (wpAny_mono h₁ (fun _ s₁' h₁' => ?_) fun _ _ h' => h'))
    refine wpAny_bind (wpAny_noRaise (wpAny_mono h₁' (fun _ s₂ h₂ => wpAny_bind (wpAny_noRaise (wpAny_mono (tsts_run h₂) (fun ok s₃ h₃ => ?_) fun _ _ h' => h'))) fun _ _ h' => h'))
    cases ok with
    | false => exact wpAny_pure ⟨rfl, h₃⟩
    | true =>
      exact wpAny_bind (wpAny_bind (wpAny_noRaise (wpAny_mono h₃ (fun x s₄ h₄ => wpAny_bind (wpAny_noRaise (wpAny_mono h₄ (fun _ s₅ h₅ => wpAny_pure (wpAny_pure ⟨rfl, h₅⟩)) fun _ _ h' => h'))) fun _ _ h' => h')))

theorem St.app {D : Addr} {ys : List Value} {y : Value} {Q : Value → Shared → Prop} {Mo : Model} (S : St c P T L ks vs ((D, lsO ys) :: M) s) (hz : ys.length ≤ sizeLine) (h : ∀ s', St c P T L ks vs ((D, lsO (ys ++ [y])) :: M) s' → Q .none s') :
    wpAny (model c.p c.w) A (call (.builtin "list.append") [.ref D, y]) Q E s := by
  refine append_at (hsz := by show ys.toArray.size ≤ sizeLine; rw [List.size_toArray]; exact hz) (S.led _ (.head _)).1 fun h' hs hD => ?_
  refine h _ (S.setM .head hs (hD.trans (congrArg some (LCg.lst_snoc ys y))) s.toks)

theorem compG {elt target iter : Expr} {ifs : List Expr} {scope : Scope} {pos : Pos} {cl : List (Str × Addr)} {I : Addr} {o : Obj} {Mx M₀ : List (Addr × Obj)} {fp : List Addr} {n : Nat} {Pv : Nat → Value → Prop} {Sti : Nat → Heap → Prop} {use : Option (Value → Sem Unit)} {Q : Value → Shared → Prop}
    (ks' gs' fs' : List Str) (hc : cpChk scope ks' gs' fs' = true) (F : Fn env L ks gs)
    (Wk : Walks c.p c.w A I fp [I] n Pv Sti) (hio : ∀ i h, Sti i h → ∃ o, h.get? I = some o) (hfp : ∀ b ∈ fp, b = I ∨ ∃ o, T b = some o)
    (hgo : ∀ i v (s : Shared) (Q : Unit → Shared → Prop), Pv i v → Sti (i + 1) s.heap → Q () s → wpAny (model c.p c.w) A (letOwnedTupleGo target (.ref I) v) Q NoE s)
    (S : St c P T L ks vs ((I, o) :: (Mx ++ M₀)) s) (h0 : Sti 0 s.heap) (hz : n ≤ sizeLine) (J : Nat → Fz → List Value → List (Addr × Obj) → Prop) (j0 : J 0 T [] Mx)
    (hJ : ∀ i T' ys Mx', J i T' ys Mx' → Mx'.map (·.1) = Mx.map (·.1) ∧ ys.length ≤ i)
    (step : ∀ P₁ C D i v T' ys Mx' o s, (∀ p ∈ M₀, P₁.G p.1 = some p.2) → i < n → Pv i v → Fle T T' → J i T' ys Mx' → Fn (compEnvC scope cl C env) C ks' gs' → St c P₁ T' C ks' (ks'.map fun _ => none) ((D, lsO ys) :: (I, o) :: Mx') s →
      W (model c.p c.w) A (assign target (compEnvC scope cl C env) v) (fun _ s₂ => tsts (model c.p c.w) A (compEnvC scope cl C env) ifs (fun ok s₃ =>
        (ok = true → W (model c.p c.w) A (eval elt (compEnvC scope cl C env)) (fun y s₄ => ∃ T'' vs'' Mx'', Fle T' T'' ∧ J (i + 1) T'' (ys ++ [y]) Mx'' ∧ St c P₁ T'' C ks' vs'' ((D, lsO ys) :: (I, o) :: Mx'') s₄) NoE s₃) ∧
        (ok = false → ∃ T'' vs'' Mx'', Fle T' T'' ∧ J (i + 1) T'' ys Mx'' ∧ St c P₁ T'' C ks' vs'' ((D, lsO ys) :: (I, o) :: Mx'') s₃)) s₂) NoE s)
    (fin : ∀ T' ys Mx' C D oC m s', Fle T T' → J n T' ys Mx' → P.N ≤ D → LCg.NsObj oC m → St c P T' L ks vs ((C, oC) :: (D, lsO ys) :: (Mx' ++ M₀)) s' → compPost (model c.p c.w) A NoE use Q (.ref D) C (.ok .next) s') :
    wpAny (model c.p c.w) A (newList []) (fun acc s₃ => wpAny (model c.p c.w) A (newFunctionEnv scope env.globals cl [] env.qual none .none (some env)) (fun cenv s₄ =>
      codeAny (model c.p c.w) A (.compStart (.ListComp elt [⟨target, iter, ifs, 0⟩] scope pos) 0 (.ref I) acc { cenv with scope := relabel scope env }) (compPost (model c.p c.w) A NoE use Q acc cenv.locals) s₄) NoE s₃) NoE s := by
  obtain ⟨_, hkind, hcell, hnames⟩ := cp_of (env := env) (cl := cl) (C := 0) hc F.glob F.bins
  refine wpAny_newObj_type (wpAny_newFunctionEnv hcell (by intro y hy; simp at hy) (fun h₁ hns₁ hsb₁ => ?_) hkind)
  dsimp only at hns₁ hsb₁ ⊢
  have B := St.block (ks' := ks') (t := s.toks + ([] : List (Str × Value)).length) S hns₁ hsb₁
  have hFn : Fn (compEnvC scope cl (s.heap.push (lsO [])).objs.size env) (s.heap.push (lsO [])).objs.size ks' gs' := (cp_of hc F.glob F.bins).1
  have hst₁ : Sti 0 h₁ := Wk.frame _ _ _ h0 fun b hb ob e => by
    rcases hfp b hb with rfl | ⟨ob', eb⟩
    · have e1 := (S.led _ (.head _)).1
      have e2 := (B.led _ (.tail _ (.head _))).1
      have e1' : s.heap.get? b = some o := e1
      rw [e1'] at e; cases e
      exact e2
    · have e1 := S.sub _ _ eb
      rw [e1] at e; cases e
      exact B.sub _ _ eb
  have hfr : ∀ p ∈ M₀, blkG s I Mx p.1 = some p.2 := fun p hp => by
    have nd := S.nd
    rw [List.map_cons, List.map_append] at nd
    obtain ⟨nI, nd⟩ := List.nodup_cons.mp nd
    obtain ⟨_, _, nd3⟩ := List.nodup_append.mp nd
    exact blkG_of (S.led p (.tail _ (List.mem_append_right _ hp))).1 (fun q => nI (List.mem_append_right _ (List.mem_map.mpr ⟨p, hp, q⟩))) (fun hm => nd3 _ hm _ (List.mem_map_of_mem hp) rfl)
  have loop : ∀ s₃ : Shared, s₃ = { s with heap := h₁, toks := s.toks + ([] : List (Str × Value)).length } →
      codeAny (model c.p c.w) A (.compLoop (.ListComp elt [⟨target, iter, ifs, 0⟩] scope pos) 0 (.ref I) (.ref s.heap.objs.size) (compEnvC scope cl (s.heap.push (lsO [])).objs.size env))
        (compPost (model c.p c.w) A NoE use Q (.ref s.heap.objs.size) (s.heap.push (lsO [])).objs.size) s₃ := by
    rintro s₃ rfl
    refine compLoop_own (fun k s' => ∃ i T' ys Mx' vs' o, i ≤ n ∧ k = n - i ∧ Fle T T' ∧ J i T' ys Mx' ∧ St c ⟨s.heap.objs.size, T, blkG s I Mx⟩ T' (s.heap.push (lsO [])).objs.size ks' vs' ((s.heap.objs.size, lsO ys) :: (I, o) :: Mx') s' ∧ Sti i s'.heap) ?_ (n - 0)
      ⟨0, T, [], Mx, _, o, Nat.zero_le _, rfl, Fle.refl _, j0, B, hst₁⟩
    rintro k s' ⟨i, T', ys, Mx', vs', o, hi, rfl, le, hJi, S', hst⟩
    have hys := (hJ _ _ _ _ hJi).2
    by_cases hlt : i < n
    · refine Wk.item i s' _ _ hlt hst fun v h₁ tk hv hst₁ hk => ?_
      dsimp only
      refine wpAny_noRaise (hgo i v _ _ hv hst₁ ?_)
      obtain ⟨o₁, ho₁⟩ := hio _ _ hst₁
      have S₁ := (((S'.perm (.swap _ _ _)).move (h' := h₁) (fun b ob hb e => hk b ob (fun q => hb (List.mem_singleton.mp q)) e) ho₁ tk).perm (.swap _ _ _)).forget
      have hIT : ∀ {T'' vs'' Mx''} {s₃ : Shared} {ys'}, Fle T' T'' → St c ⟨s.heap.objs.size, T, blkG s I Mx⟩ T'' (s.heap.push (lsO [])).objs.size ks' vs'' ((s.heap.objs.size, lsO ys') :: (I, o₁) :: Mx'') s₃ → Sti (i + 1) s₃.heap := fun le' S'' =>
        Wk.frame _ _ _ hst₁ fun b hb ob e => by
          rcases hfp b hb with rfl | ⟨ob', eb⟩
          · have e' : h₁.get? b = some ob := e
            rw [ho₁] at e'
            cases e'
            exact (S''.led _ (.tail _ (.head _))).1
          · have e1 : h₁.get? b = some ob' := S₁.sub b ob' (le b ob' eb)
            have e' : h₁.get? b = some ob := e
            rw [e'] at e1
            cases e1
            exact S''.sub b ob (le' b ob (le b ob eb))
      refine wpAny_mono (step _ _ _ i v T' ys Mx' o₁ _ hfr hlt hv le hJi hFn S₁).un (fun _ s₂ h₂ => ?_) fun _ _ x => x
      have go : ∀ (ok : Bool) (s₃ : Shared), ((ok = true → W (model c.p c.w) A (eval elt (compEnvC scope cl (s.heap.push (lsO [])).objs.size env)) (fun y s₄ => ∃ T'' vs'' Mx'', Fle T' T'' ∧ J (i + 1) T'' (ys ++ [y]) Mx'' ∧ St c ⟨s.heap.objs.size, T, blkG s I Mx⟩ T'' (s.heap.push (lsO [])).objs.size ks' vs'' ((s.heap.objs.size, lsO ys) :: (I, o₁) :: Mx'') s₄) NoE s₃) ∧
        (ok = false → ∃ T'' vs'' Mx'', Fle T' T'' ∧ J (i + 1) T'' ys Mx'' ∧ St c ⟨s.heap.objs.size, T, blkG s I Mx⟩ T'' (s.heap.push (lsO [])).objs.size ks' vs'' ((s.heap.objs.size, lsO ys) :: (I, o₁) :: Mx'') s₃)) →
        (if ok = true then wpAny (model c.p c.w) A (eval elt (compEnvC scope cl (s.heap.push (lsO [])).objs.size env)) (fun x s₄ => wpAny (model c.p c.w) A (call (.builtin "list.append") [.ref s.heap.objs.size, x]) (fun _ s₅ => ∃ m, m < n - i ∧
          (∃ i T' ys Mx' vs' o, i ≤ n ∧ m = n - i ∧ Fle T T' ∧ J i T' ys Mx' ∧ St c ⟨s.heap.objs.size, T, blkG s I Mx⟩ T' (s.heap.push (lsO [])).objs.size ks' vs' ((s.heap.objs.size, lsO ys) :: (I, o) :: Mx') s₅ ∧ Sti i s₅.heap)) NoE s₄) NoE s₃
        else ∃ m, m < n - i ∧ (∃ i T' ys Mx' vs' o, i ≤ n ∧ m = n - i ∧ Fle T T' ∧ J i T' ys Mx' ∧ St c ⟨s.heap.objs.size, T, blkG s I Mx⟩ T' (s.heap.push (lsO [])).objs.size ks' vs' ((s.heap.objs.size, lsO ys) :: (I, o) :: Mx') s₃ ∧ Sti i s₃.heap)) := by
        intro ok s₃ hq
        cases ok with
        | false =>
          rw [if_neg (by decide)]
          obtain ⟨T'', vs'', Mx'', le', hJ', S''⟩ := hq.2 rfl
          exact ⟨n - (i + 1), by omega, i + 1, T'', ys, Mx'', vs'', o₁, hlt, rfl, le.trans le', hJ', S'', hIT le' S''⟩
        | true =>
          rw [if_pos rfl]
          refine wpAny_mono (hq.1 rfl).un (fun y s₄ h₄ => ?_) fun _ _ x => x
          obtain ⟨T'', vs'', Mx'', le', hJ', S''⟩ := h₄
          refine St.app (Mo := model c.p c.w) S'' (by omega) fun s₅ S₅ => ?_
          exact ⟨n - (i + 1), by omega, i + 1, T'', ys ++ [y], Mx'', vs'', o₁, hlt, rfl, le.trans le', hJ', S₅, hIT le' S₅⟩
      match ifs, h₂ with
      | [], h₂ => exact go true s₂ h₂
      | [t], h₂ => exact W.mono h₂ (fun ok s₃ hq => go ok s₃ hq) fun _ _ x => x
    · have : i = n := by omega
      subst this
      refine Wk.done s' _ _ hst fun h₁ tk hk => ?_
      dsimp only
      have hIe := (S'.led _ (.tail _ (.head _))).1
      have hx := (hJ _ _ _ _ hJi).1
      obtain ⟨oC, m, nso, S''⟩ := St.join (M₀ := M₀) S S' hx (Nat.le_refl _)
      have h3 : St c P T' L ks vs (((s.heap.push (lsO [])).objs.size, oC) :: (s.heap.objs.size, lsO ys) :: (Mx' ++ M₀)) { s' with heap := h₁, toks := tk } := by
        have hI : ∀ p ∈ ((s.heap.push (lsO [])).objs.size, oC) :: (s.heap.objs.size, lsO ys) :: (Mx' ++ M₀), p.1 ≠ I := by
          intro p hp
          have nd := S.nd
          rw [List.map_cons] at nd
          have nI := (List.nodup_cons.mp nd).1
          have hIlt := Heap.lt_size (S.led _ (.head _)).1
          rcases List.mem_cons.mp hp with rfl | hp
          · exact fun e => (S'.led _ (.tail _ (.head _))).2.2.1 e.symm
          · rcases List.mem_cons.mp hp with rfl | hp
            · exact Nat.ne_of_gt hIlt
            · refine fun e => nI ?_
              rw [List.map_append]
              rcases List.mem_append.mp hp with hp | hp
              · exact List.mem_append_left _ (hx ▸ List.mem_map.mpr ⟨p, hp, e⟩)
              · exact List.mem_append_right _ (List.mem_map.mpr ⟨p, hp, e⟩)
        have hS := S.led _ (.head _)
        have hTI : T' I = none := (S'.led _ (.tail _ (.head _))).2.1
        obtain ⟨m', hn, al⟩ := S''.ns
        have kp : ∀ b ob, b ≠ I → s'.heap.get? b = some ob → h₁.get? b = some ob := fun b ob hb e => hk b ob (fun q => hb (List.mem_singleton.mp q)) e
        exact { ok := S''.ok, gens := S''.gens, os := S''.os, bT := S''.bT, sub := fun b ob e => kp b ob (fun q => by rw [q, hTI] at e; cases e) (S''.sub b ob e), le := S''.le, low := S''.low,
                keep := fun b ob e => kp b ob (fun q => by rw [q, hS.2.2.2] at e; cases e) (S''.keep b ob e), nl := S''.nl, ns := ⟨m', hn.at' fun ob e => kp L ob (Ne.symm hS.2.2.1) e, al⟩, tL := S''.tL, gL := S''.gL,
                led := fun p hp => ⟨kp _ _ (hI p hp) (S''.led p hp).1, (S''.led p hp).2⟩, nd := S''.nd }
      exact fin T' ys Mx' _ _ oC m _ le hJi S.size nso h3
  exact codeAny_compStart_list (loop _ rfl) (Wk.self 0 _ _ _ hst₁ (loop _ rfl))
end
end Mine
namespace Mine
section
variable {c : Cx} {P : Ent} {T : Fz} {L : Addr} {ks gs : List Str} {vs : List (Option Value)} {M : List (Addr × Obj)} {s : Shared} {env : Env} {A : Around} {E : Value → Shared → Prop}
variable {elt target iter : Expr} {ifs : List Expr} {scope : Scope} {pos : Pos} {cl : List (Str × Addr)} {Mx M₀ : List (Addr × Obj)} {use : Option (Value → Sem Unit)} {Q : Value → Shared → Prop} {t : Addr} {l : List Value}

theorem cpL (ks' gs' fs' : List Str) (hh : A.handled = none) (F : Fn env L ks gs) (H : LstT T t l) (S : St c P T L ks vs (Mx ++ M₀) s) (hz : l.length ≤ sizeLine) (J : Nat → Fz → List Value → List (Addr × Obj) → Prop) (j0 : J 0 T [] Mx)
    (hJ : ∀ i T' ys Mx', J i T' ys Mx' → Mx'.map (·.1) = Mx.map (·.1) ∧ ys.length ≤ i)
    (step : ∀ P₁ C D I i v T' ys Mx' o s, (∀ p ∈ M₀, P₁.G p.1 = some p.2) → i < l.length → l[i]? = some v → Fle T T' → J i T' ys Mx' → Fn (compEnvC scope cl C env) C ks' gs' → St c P₁ T' C ks' (ks'.map fun _ => none) ((D, lsO ys) :: (I, o) :: Mx') s →
      W (model c.p c.w) A (assign target (compEnvC scope cl C env) v) (fun _ s₂ => tsts (model c.p c.w) A (compEnvC scope cl C env) ifs (fun ok s₃ =>
        (ok = true → W (model c.p c.w) A (eval elt (compEnvC scope cl C env)) (fun y s₄ => ∃ T'' vs'' Mx'', Fle T' T'' ∧ J (i + 1) T'' (ys ++ [y]) Mx'' ∧ St c P₁ T'' C ks' vs'' ((D, lsO ys) :: (I, o) :: Mx'') s₄) NoE s₃) ∧
        (ok = false → ∃ T'' vs'' Mx'', Fle T' T'' ∧ J (i + 1) T'' ys Mx'' ∧ St c P₁ T'' C ks' vs'' ((D, lsO ys) :: (I, o) :: Mx'') s₃)) s₂) NoE s)
    (fin : ∀ T' ys Mx' C D oC m s', Fle T T' → J l.length T' ys Mx' → P.N ≤ D → LCg.NsObj oC m → St c P T' L ks vs ((C, oC) :: (D, lsO ys) :: (Mx' ++ M₀)) s' → compPost (model c.p c.w) A NoE use Q (.ref D) C (.ok .next) s')
    (hv : (∃ x p, target = .Name x p) ∨ ∀ v ∈ l, ∃ a, v = .ref a) (ht : tgt target = true := by rfl) (hc : cpChk scope ks' gs' fs' = true := by kernel_rfl) :
    Cp c A env elt target iter ifs scope pos cl use Q (.ref t) s := by
  refine wpAny_pyIter_list (H.at S.toIn) ?_
  have S₁ := S.newM (o := { cls := .type "list_iterator", data := .fields #[.ref t, .int 0 0] }) rfl s.toks
  obtain ⟨o, hT, _⟩ := id H
  have hne : t ≠ s.heap.objs.size := fun q => by have := S.sub _ _ hT; rw [q, get_size] at this; cases this
  have Wk := Walks.list (prog := c.p) (w := c.w) hh s.heap.objs.size t hne l.toArray
  have e : l.toArray.size = l.length := by simp
  rw [e] at Wk
  refine compG ks' gs' fs' hc F Wk (fun i h st => let ⟨o, e, _⟩ := st.1; ⟨o, e⟩) (fun b hb => ?_) (fun i v s Q hv' st h => go_list ht st.1 ?_ h) S₁ ⟨⟨_, (S₁.led _ (.head _)).1, rfl, rfl⟩, H.at S₁.toIn⟩ hz J j0 hJ
    (fun P₁ C D i v T' ys Mx' o s hG hi hv' le hJ F S => step P₁ C D _ i v T' ys Mx' o s hG hi (by simpa using hv') le hJ F S) fin
  · rcases List.mem_cons.mp hb with rfl | hb
    · exact .inl rfl
    · rw [List.mem_singleton.mp hb]; exact .inr ⟨o, hT⟩
  · refine hv.imp id fun q => q v ?_
    have : l[i]? = some v := by simpa using hv'
    exact List.mem_of_getElem? this
theorem cpT (ks' gs' fs' : List Str) (hh : A.handled = none) (F : Fn env L ks gs) (H : TupT T t l) (S : St c P T L ks vs (Mx ++ M₀) s) (hz : l.length ≤ sizeLine) (J : Nat → Fz → List Value → List (Addr × Obj) → Prop) (j0 : J 0 T [] Mx)
    (hJ : ∀ i T' ys Mx', J i T' ys Mx' → Mx'.map (·.1) = Mx.map (·.1) ∧ ys.length ≤ i)
    (step : ∀ P₁ C D I i v T' ys Mx' o s, (∀ p ∈ M₀, P₁.G p.1 = some p.2) → i < l.length → l[i]? = some v → Fle T T' → J i T' ys Mx' → Fn (compEnvC scope cl C env) C ks' gs' → St c P₁ T' C ks' (ks'.map fun _ => none) ((D, lsO ys) :: (I, o) :: Mx') s →
      W (model c.p c.w) A (assign target (compEnvC scope cl C env) v) (fun _ s₂ => tsts (model c.p c.w) A (compEnvC scope cl C env) ifs (fun ok s₃ =>
        (ok = true → W (model c.p c.w) A (eval elt (compEnvC scope cl C env)) (fun y s₄ => ∃ T'' vs'' Mx'', Fle T' T'' ∧ J (i + 1) T'' (ys ++ [y]) Mx'' ∧ St c P₁ T'' C ks' vs'' ((D, lsO ys) :: (I, o) :: Mx'') s₄) NoE s₃) ∧
        (ok = false → ∃ T'' vs'' Mx'', Fle T' T'' ∧ J (i + 1) T'' ys Mx'' ∧ St c P₁ T'' C ks' vs'' ((D, lsO ys) :: (I, o) :: Mx'') s₃)) s₂) NoE s)
    (fin : ∀ T' ys Mx' C D oC m s', Fle T T' → J l.length T' ys Mx' → P.N ≤ D → LCg.NsObj oC m → St c P T' L ks vs ((C, oC) :: (D, lsO ys) :: (Mx' ++ M₀)) s' → compPost (model c.p c.w) A NoE use Q (.ref D) C (.ok .next) s')
    (ht : ∀ it v, letOwnedTupleGo target it v = pure () := by intro _ _; rfl) (hc : cpChk scope ks' gs' fs' = true := by kernel_rfl) :
    Cp c A env elt target iter ifs scope pos cl use Q (.ref t) s := by
  refine wpAny_pyIter_tuple (H.at S.toIn) ?_
  have S₁ := S.newM (o := { cls := .type "tuple_iterator", data := .fields #[.ref t, .int 0 0] }) rfl s.toks
  obtain ⟨o, hT, _⟩ := id H
  have hne : t ≠ s.heap.objs.size := fun q => by have := S.sub _ _ hT; rw [q, get_size] at this; cases this
  have Wk := Walks.tuple (prog := c.p) (w := c.w) hh s.heap.objs.size t hne l.toArray
  have e : l.toArray.size = l.length := by simp
  rw [e] at Wk
  refine compG ks' gs' fs' hc F Wk (fun i h st => let ⟨o, e, _⟩ := st.1; ⟨o, e⟩) (fun b hb => ?_) (fun i v s Q hv' st h => wpAny_of_eq (ht _ v) h) S₁ ⟨⟨_, (S₁.led _ (.head _)).1, rfl, rfl⟩, H.at S₁.toIn⟩ hz J j0 hJ
    (fun P₁ C D i v T' ys Mx' o s hG hi hv' le hJ F S => step P₁ C D _ i v T' ys Mx' o s hG hi (by simpa using hv') le hJ F S) fin
  rcases List.mem_cons.mp hb with rfl | hb
  · exact .inl rfl
  · rw [List.mem_singleton.mp hb]; exact .inr ⟨o, hT⟩
theorem cpRg {r : Addr} {o : Obj} {a : Int} {n : Nat} (ks' gs' fs' : List Str) (hh : A.handled = none) (F : Fn env L ks gs) (H : RgO o a n) (S : St c P T L ks vs ((r, o) :: (Mx ++ M₀)) s) (hz : n ≤ sizeLine) (J : Nat → Fz → List Value → List (Addr × Obj) → Prop) (j0 : J 0 T [] Mx)
    (hJ : ∀ i T' ys Mx', J i T' ys Mx' → Mx'.map (·.1) = Mx.map (·.1) ∧ ys.length ≤ i)
    (step : ∀ P₁ C D I i t T' ys Mx' o s, (∀ p ∈ M₀, P₁.G p.1 = some p.2) → i < n → Fle T T' → J i T' ys Mx' → Fn (compEnvC scope cl C env) C ks' gs' → St c P₁ T' C ks' (ks'.map fun _ => none) ((D, lsO ys) :: (I, o) :: Mx') s →
      W (model c.p c.w) A (assign target (compEnvC scope cl C env) (.int (a + i) t)) (fun _ s₂ => tsts (model c.p c.w) A (compEnvC scope cl C env) ifs (fun ok s₃ =>
        (ok = true → W (model c.p c.w) A (eval elt (compEnvC scope cl C env)) (fun y s₄ => ∃ T'' vs'' Mx'', Fle T' T'' ∧ J (i + 1) T'' (ys ++ [y]) Mx'' ∧ St c P₁ T'' C ks' vs'' ((D, lsO ys) :: (I, o) :: Mx'') s₄) NoE s₃) ∧
        (ok = false → ∃ T'' vs'' Mx'', Fle T' T'' ∧ J (i + 1) T'' ys Mx'' ∧ St c P₁ T'' C ks' vs'' ((D, lsO ys) :: (I, o) :: Mx'') s₃)) s₂) NoE s)
    (fin : ∀ T' ys Mx' C D oC m s', Fle T T' → J n T' ys Mx' → P.N ≤ D → LCg.NsObj oC m → St c P T' L ks vs ((C, oC) :: (D, lsO ys) :: (Mx' ++ M₀)) s' → compPost (model c.p c.w) A NoE use Q (.ref D) C (.ok .next) s')
    (ht : ∀ it v, letOwnedTupleGo target it v = pure () := by intro _ _; rfl) (hc : cpChk scope ks' gs' fs' = true := by kernel_rfl) :
    Cp c A env elt target iter ifs scope pos cl use Q (.ref r) s := by
  obtain ⟨b, t, u, v, rfl, h3, h4, h1, h2, rfl⟩ := H
  have hR : IsRange s.heap r a b 1 t u v := (S.led _ (.head _)).1
  refine wpAny_pyIter_range hR (small_one h3 h4 h1 h2) ?_
  have hsz : Builtin.Range.rangeSize a b 1 = ((b - a).toNat : Int) := by rw [rangeSize_one]; split <;> omega
  have S₁ := S.drop.newM (o := { cls := .type "range_iterator", data := .fields #[rawInt a, rawInt (Builtin.Range.rangeSize a b 1), rawInt 1] }) rfl s.toks
  refine compG ks' gs' fs' hc F (LCg.range_walks hh a (b - a).toNat) (fun i h st => ⟨_, st⟩) (fun b hb => .inl (List.mem_singleton.mp hb)) (fun i v s Q hv' st h => wpAny_of_eq (ht _ v) h) S₁ ?_ hz J j0 hJ
    (fun P₁ C D i v T' ys Mx' o s hG hi hv le hJ F S => by obtain ⟨t, rfl⟩ := hv; exact step P₁ C D _ i t T' ys Mx' o s hG hi le hJ F S) fin
  have := (S₁.led _ (.head _)).1
  rw [hsz] at this
  show IsRangeIter _ _ _ _ _
  simpa [hsz] using this

/-- a def whose names stand in part in cells -/
theorem nf_lookup : ∀ {cl : List (Str × Addr)} {n : Str} {a : Addr}, cl.lookup n = some a → (n, a) ∈ cl := mem_of_lookup
theorem enterCellsC {f : Addr} {fd : FuncData} {body : List Stmt} {args : List Value} {binds : List (Str × Value)} {oc : Value} {od : Option Addr} {osl : Array (Option Value)} {R : Result → Shared → Prop} {n : Nat}
    (ks gs : List Str) (cl : Addr → List (Str × Addr)) (vs cvs : List (Option Value))
    (I : Pr c P T M s) (hA : Rm A (n + 1)) (ho : c.K.lookup f = some ⟨oc, od, .func fd, osl⟩) (hbody : fd.body = .stmts body) (hcd : codeIn c.K fd.code fd.qualname = true)
    (hb : BindsTo s fd ⟨args, []⟩ binds) (hclo : fd.closure = [])
    (hc : (fd.scope.kind == .function && (decide ks.Nodup && (ks.all (fun k => fd.scope.names.lookup k == some .local && !(k == ("__debug__" : Str))) && (gs.all (fun k => fd.scope.names.lookup k == some .globalImplicit && !(k == ("__debug__" : Str))) &&
      (fd.globals == mainGlobals && (fd.builtins == builtinsNs && (!fd.scope.isCoroutine && !fd.scope.isGenerator))))))) = true)
    (hcl : ∀ a, cellsFrom (a + 1) fd.scope.names [] = cl a) (hnc : ∀ a, (cl a).all (fun x => fd.scope.names.lookup x.1 == some .cell && !(x.1 == ("__debug__" : Str))) = true) (hnd : ∀ a, ((cl a).map (·.1)).Nodup)
    (hkind : ∀ a, ∀ x ∈ binds, fd.scope.names.lookup x.1 = some .local ∨ (fd.scope.names.lookup x.1 = some .cell ∧ ((cl a).lookup x.1).isSome = true))
    (hv : ks.map (bindL (fun x => fd.scope.names.lookup x) binds fun _ => none) = vs) (hcv : ∀ a, (cl a).map (fun x => bindC (fun x => fd.scope.names.lookup x) binds (fun _ => none) x.1) = cvs)
    (h : ∀ env L s' (os : List Obj), Fn env L ks gs → (∀ x ∈ cl L, Cl env x.1 x.2) → os.length = (cl L).length → os.map (fun o => o.data) = cvs.map Data.cell →
      St c P T L ks vs (((cl L).map (·.2)).zip os ++ M) s' → ∀ A', Rm A' n → W (model c.p c.w) A' (execs body env) (rq fun v s'' => R (.ok (.ret v)) s'') NoE s') :
    codeAny (model c.p c.w) A (.call (.ref f) ⟨args, []⟩) R s := by
  obtain ⟨h1, hc⟩ := Bool.and_eq_true_iff.mp hc
  obtain ⟨h2, hc⟩ := Bool.and_eq_true_iff.mp hc
  obtain ⟨h3, hc⟩ := Bool.and_eq_true_iff.mp hc
  obtain ⟨h4, hc⟩ := Bool.and_eq_true_iff.mp hc
  obtain ⟨h5, hc⟩ := Bool.and_eq_true_iff.mp hc
  obtain ⟨h6, hc⟩ := Bool.and_eq_true_iff.mp hc
  obtain ⟨h7, h8⟩ := Bool.and_eq_true_iff.mp hc
  have hk : fd.scope.kind = .function := eq_of_beq h1
  refine codeAny_call_function hA.room (I.K _ _ ho) rfl (by simpa using h7) (by simpa using h8) hbody (codeRec_of I.K hcd) (hb _ _ _ _ ?_)
  rw [hclo]
  refine wpAny_newFunctionEnv_cells hk (fun x hx => by rw [hcl]; exact hkind _ x hx) fun env' he s₁ X => ?_
  subst he
  refine ⟨(I.ok.lim.keeps I.bh).keeps X.toInCall.keep, codeAny_func ?_⟩
  have X : InCallC s (callEnvC fd s.heap.objs.size f).locals (bindL (callEnvC fd s.heap.objs.size f).kindOf binds fun _ => none) (callEnvC fd s.heap.objs.size f).cells (bindC (callEnvC fd s.heap.objs.size f).kindOf binds fun _ => none) s₁ := X
  show wpAny _ (A.deeper (callEnvC fd s.heap.objs.size f)) (execs body (callEnvC fd s.heap.objs.size f)) _ _ _
  obtain ⟨X0, X1, X2, X3⟩ := X
  obtain ⟨⟨h₁, tk, rfl⟩, xn, xk, xf⟩ := X0
  have ecl : (callEnvC fd s.heap.objs.size f).cells = cl s.heap.objs.size := hcl _
  rw [ecl] at X1 X2 X3
  have look : ∀ x ∈ cl s.heap.objs.size, (cl s.heap.objs.size).lookup x.1 = some x.2 := by
    have nd := hnd s.heap.objs.size
    revert nd
    generalize cl s.heap.objs.size = l
    intro nd
    induction l with
    | nil => intro x hx; cases hx
    | cons y r ih =>
      intro x hx
      rw [List.map_cons] at nd
      obtain ⟨n1, n2⟩ := List.nodup_cons.mp nd
      rcases List.mem_cons.mp hx with rfl | hx
      · show List.lookup x.1 ((x.1, x.2) :: r) = _
        rw [List.lookup_cons, beq_self_eq_true]
      · have hne : (x.1 == y.1) = false := by
          rw [beq_eq_false_iff_ne]
          exact fun e => n1 (e ▸ List.mem_map_of_mem hx)
        show List.lookup x.1 ((y.1, y.2) :: r) = _
        rw [List.lookup_cons, hne]
        exact ih n2 x hx
  have fnE : Fn (callEnvC fd s.heap.objs.size f) s.heap.objs.size ks gs := ⟨rfl, hk, of_decide_eq_true h2, fun k hk' => by
      obtain ⟨q1, q2⟩ := Bool.and_eq_true_iff.mp (List.all_eq_true.mp h3 k hk')
      exact ⟨eq_of_beq q1, by simpa using q2⟩, fun k hk' => by
      obtain ⟨q1, q2⟩ := Bool.and_eq_true_iff.mp (List.all_eq_true.mp h4 k hk')
      exact ⟨eq_of_beq q1, by simpa using q2⟩, eq_of_beq h5, eq_of_beq h6⟩
  have clE : ∀ x ∈ cl s.heap.objs.size, Cl (callEnvC fd s.heap.objs.size f) x.1 x.2 := fun x hx => by
    obtain ⟨q1, q2⟩ := Bool.and_eq_true_iff.mp (List.all_eq_true.mp (hnc s.heap.objs.size) x hx)
    exact ⟨hk, eq_of_beq q1, by rw [ecl]; exact look x hx, by simpa using q2⟩
  let g : Str × Addr → Obj := fun x => (h₁.get? x.2).getD default
  have hg : ∀ x ∈ cl s.heap.objs.size, h₁.get? x.2 = some (g x) ∧ (g x).data = .cell (bindC (fun x => fd.scope.names.lookup x) binds (fun _ => none) x.1) := fun x hx => by
    obtain ⟨o, e, hd⟩ := X1 x.1 x.2 (look x hx)
    have e' : h₁.get? x.2 = some o := e
    have : g x = o := by show (h₁.get? x.2).getD default = o; rw [e']; rfl
    rw [this]
    exact ⟨e', hd⟩
  have tn : ∀ b, s.heap.objs.size ≤ b → T b = none := fun b hb => by
    cases e : T b with
    | none => rfl
    | some o => exact absurd (Heap.lt_size (I.sub _ _ e)) (Nat.not_lt.mpr hb)
  have gn : ∀ b, s.heap.objs.size ≤ b → P.G b = none := fun b hb => by
    cases e : P.G b with
    | none => rfl
    | some o => exact absurd (Heap.lt_size (I.keep _ _ e)) (Nat.not_lt.mpr hb)
  have hlow : ∀ x ∈ cl s.heap.objs.size, s.heap.objs.size + 1 ≤ x.2 := by
    intro x hx
    have : ∀ (names : List (Str × NameKind)) (n : Nat) (acc : List (Str × Addr)) (lo : Nat), lo ≤ n → (∀ y ∈ acc, lo ≤ y.2) → ∀ y ∈ cellsFrom n names acc, lo ≤ y.2 := by
      intro names
      induction names with
      | nil => intro n acc lo _ ha y hy; exact ha y hy
      | cons p r ih =>
        intro n acc lo hn ha y hy
        unfold cellsFrom at hy
        split at hy
        · refine ih (n + 1) _ lo (Nat.le_succ_of_le hn) (fun z hz => ?_) y hy
          rcases List.mem_cons.mp hz with rfl | hz
          · exact hn
          · exact ha z hz
        · exact ih n acc lo hn ha y hy
    exact this fd.scope.names (s.heap.objs.size + 1) [] _ (Nat.le_refl _) (fun y hy => nomatch hy) x (by rw [hcl]; exact hx)
  have zipm : ((cl s.heap.objs.size).map (·.2)).zip ((cl s.heap.objs.size).map g) = (cl s.heap.objs.size).map fun x => (x.2, g x) := by
    generalize cl s.heap.objs.size = l
    induction l with
    | nil => rfl
    | cons y r ih => simp only [List.map_cons, List.zip_cons_cons, ih]
  have S' : St c P T s.heap.objs.size ks vs (((cl s.heap.objs.size).map (·.2)).zip ((cl s.heap.objs.size).map g) ++ M) { s with heap := h₁, toks := tk } := by
    rw [zipm]
    refine { ok := I.ok, gens := I.gens, os := I.os, bT := I.bT, sub := fun b o e => xk b o (I.sub b o e), le := I.le, low := I.low, keep := fun b o e => xk b o (I.keep b o e), nl := I.nz,
             ns := ⟨_, xn, Al.of_map hv⟩, tL := tn _ (Nat.le_refl _), gL := gn _ (Nat.le_refl _), led := fun p hp => ?_, nd := ?_ }
    · rcases List.mem_append.mp hp with hp | hp
      · obtain ⟨x, hx, rfl⟩ := List.mem_map.mp hp
        have := hlow x hx
        exact ⟨(hg x hx).1, tn _ (Nat.le_of_succ_le this), Nat.ne_of_gt this, gn _ (Nat.le_of_succ_le this)⟩
      · exact ⟨xk _ _ (I.led p hp).1, (I.led p hp).2.1, Nat.ne_of_lt (Heap.lt_size (I.led p hp).1), (I.led p hp).2.2⟩
    · rw [List.map_append, List.map_map]
      refine List.nodup_append.mpr ⟨?_, I.nd, fun a ha b hb e => ?_⟩
      · have ap := X2
        exact List.pairwise_map.mpr ap
      · obtain ⟨x, hx, rfl⟩ := List.mem_map.mp ha
        obtain ⟨p, hp, rfl⟩ := List.mem_map.mp hb
        have h1 := hlow x hx
        have h2 := Heap.lt_size (I.led p hp).1
        have e' : x.2 = p.1 := e
        rw [e'] at h1
        exact Nat.lt_irrefl _ (Nat.lt_of_succ_le (Nat.le_trans h1 (Nat.le_of_lt h2)))
  refine wpAny_mono (W.un (h _ s.heap.objs.size _ ((cl s.heap.objs.size).map g) fnE clE (by simp) ?_ S' _ hA.deeper)) (fun fl s' hq => ?_) (fun _ _ (x : False) => x.elim)
  · rw [← hcv s.heap.objs.size, List.map_map, List.map_map]
    exact List.map_congr_left fun x hx => (hg x hx).2
  · cases fl <;> exact hq
end
end Mine
namespace Mine
section
variable {prog : Program} {w : World} {A : Around} {E : Value → Shared → Prop} {s : Shared}
theorem adj_init (n : Nat) (hn : 1 ≤ n) : Builtin.Slice.sliceAdjust none (some (-1)) 1 (n : Int) = (0, (n : Int) - 1) := by
  unfold Builtin.Slice.sliceAdjust
  have h1 : ¬ ((1 : Int) < 0) := by omega
  have h2 : ((-1 : Int) < 0) := by omega
  simp only [h1, h2, if_false, if_true]
  congr 1
  omega
theorem places_init (n : Nat) (hn : 1 ≤ n) : Builtin.Slice.slicePlaces 0 ((n : Int) - 1) 1 = n - 1 := by
  unfold Builtin.Slice.slicePlaces
  have h1 : (1 : Int) > 0 := by omega
  simp only [h1, if_true, Int.ediv_one]
  split <;> omega
theorem applied_init {sl : Addr} {n : Nat} {u : Tok} {Q : Int × Int × Nat → Shared → Prop} (hs : s.heap.IsSliceOf sl .none (.int (-1) u) .none) (hn : 1 ≤ n) (h : Q (0, 1, n - 1) s) :
    wpAny (model prog w) A (Builtin.Slice.sliceApplied (.ref sl) (pure (n : Int))) Q E s := by
  obtain ⟨os, hos, hcs, hds⟩ := id hs
  unfold Builtin.Slice.sliceApplied Builtin.Slice.sliceFields
  refine wpAny_bind (wpAny_bind (wpAny_field hos hds (x := .none) rfl (wpAny_bind (wpAny_field hos hds (x := .int (-1) u) rfl (wpAny_bind (wpAny_field hos hds (x := .none) rfl (wpAny_pure ?_)))))))
  refine wpAny_bind (slicePart_none ?_)
  show wpAny _ _ (if ((1 : Int) == 0) = true then _ else _) _ _ s
  rw [if_neg (by decide)]
  refine wpAny_bind (slicePart_none (wpAny_bind (slicePart_int (wpAny_bind (wpAny_pure ?_)))))
  show wpAny _ _ (match Builtin.Slice.sliceAdjust none (some (-1)) 1 (n : Int) with | (lo, hi) => pure (lo, (1 : Int), Builtin.Slice.slicePlaces lo hi 1)) _ _ s
  rw [adj_init n hn]
  show wpAny _ _ (pure ((0 : Int), (1 : Int), Builtin.Slice.slicePlaces 0 ((n : Int) - 1) 1)) _ _ s
  rw [places_init n hn]
  exact wpAny_pure h
theorem pick_init (xs : Array Value) : ((List.range (xs.size - 1)).filterMap fun (k : Nat) => xs[((0 : Int) + (k : Int) * 1).toNat]?).toArray = (xs.toList.take (xs.size - 1)).toArray := by
  have e : (fun (k : Nat) => xs[((0 : Int) + (k : Int) * 1).toNat]?) = fun k => xs[0 + k]? := by
    funext k
    have : ((0 : Int) + (k : Int) * 1).toNat = 0 + k := by omega
    rw [this]
  rw [e]
  have := pick_run xs 0 (xs.size - 1)
  rw [List.filterMap_map] at this
  have e2 : ((fun x => xs[x]?) ∘ fun x => 0 + x) = fun k => xs[0 + k]? := rfl
  rw [e2] at this
  rw [this, List.drop_zero]
theorem getT_init {t sl : Addr} {items : Array Value} {u : Tok} {Q : Value → Shared → Prop} (ht : IsTup s.heap t items) (hs : s.heap.IsSliceOf sl .none (.int (-1) u) .none) (hn : 1 ≤ items.size)
    (h : Q (.ref s.heap.objs.size) { s with heap := s.heap.push { cls := .type "tuple", data := .seq (items.toList.take (items.size - 1)).toArray } })
    (hsz : items.size ≤ sizeLine) : wpAny (model prog w) A (getItem (.ref t) (.ref sl)) Q E s := by
  have hdrop : sizeOk (.seq (items.toList.take (items.size - 1)).toArray) := by
    show (items.toList.take (items.size - 1)).toArray.size ≤ sizeLine
    rw [List.size_toArray, List.length_take, Array.length_toList]
    omega
  obtain ⟨os, hos, hcs, hds⟩ := id hs
  have hTs : s.TypeIs (.ref sl) "slice" := ⟨os, hos, hcs⟩
  unfold getItem
  try with_reducible refine wpAny_holding ?_
  first | refine wpAny_bind (wpAny_pure ?_) | skip
  refine wpAny_bind (wpAny_sequenceKey ht.typeIs (by decide) ?_)
  refine wpAny_bind (wpAny_callSpecial?_slot (name := Str.ofString "__getitem__") ht.typeIs slot_tuple_getitem
    (wpAny_call_entry slot_tuple_getitem ht.typeIs entry_tuple_getitem ?_ (args_tuple_getitem _ _)))
  show wpAny _ _ (Builtin.Tuple.tupleItemsOf (.ref t) >>= _) _ _ s
  refine wpAny_bind (tupleItemsOf_ ht ?_)
  refine wpAny_bind (wpAny_typeOf hTs ?_)
  rw [if_pos (by decide)]
  refine wpAny_bind (applied_init hs hn ?_)
  have hno : ¬ (((0 : Int) == 0 && (1 : Int) == 1 && (items.size - 1) == items.size) = true) := by
    have : ((items.size - 1) == items.size) = false := by rw [beq_eq_false_iff_ne]; omega
    rw [this]; simp
  show wpAny _ _ (if ((0 : Int) == 0 && (1 : Int) == 1 && (items.size - 1) == items.size) = true then _ else _) _ _ s
  rw [if_neg hno, pick_init items]
  first
    | exact wpAny_bind (m := Builtin.Tuple.tupleExact _) (wpAny_newObj_type (wpAny_pure ⟨_, rfl, wpAny_pure h⟩) hdrop)
    | exact wpAny_bind (m := Builtin.Tuple.tupleExact _) (wpAny_newObj_type (wpAny_bind (wpAny_pure (wpAny_pure ⟨_, rfl, wpAny_pure h⟩))) hdrop)
    | exact wpAny_bind (wpAny_bind (m := Builtin.Tuple.tupleExact _) (wpAny_newObj_type (wpAny_pure (wpAny_pure ⟨_, rfl, wpAny_pure h⟩)) hdrop))
    | exact wpAny_bind (wpAny_bind (m := Builtin.Tuple.tupleExact _) (wpAny_newObj_type (wpAny_pure ⟨_, rfl, wpAny_pure h⟩) hdrop))
end
section
variable {c : Cx} {P : Ent} {T : Fz} {L : Addr} {ks gs : List Str} {vs : List (Option Value)} {M : List (Addr × Obj)} {s : Shared} {env : Env} {A : Around} {Mo : Model} {E : Value → Shared → Prop}

/-- slices -/
abbrev slO (l u : Value) : Obj := { cls := .type "slice", data := .fields #[l, u, .none] }
theorem slcE {p : Program} {w : World} {value : Expr} {lower upper : Option Expr} {sp pos : Pos} {Q : Value → Shared → Prop}
    (h : W (model p w) A (eval value env) (fun o s₁ => W (model p w) A (eval (.Slice lower upper none sp) env) (fun i s₂ => PySem.ItemOn (model p w) A E o i Q s₂) E s₁) E s) : W (model p w) A (eval (.Subscript value (.Slice lower upper none sp) pos) env) Q E s := by
  refine .of ?_
  rw [eval_Subscript]
  refine wpAny_bind (wpAny_mono h.un (fun o s₁ h₁ => wpAny_bind (wpAny_holding (wpAny_mono h₁.un (fun i s₂ h₂ => wpAny_bind (wpAny_standAt ?_)) fun _ _ x => x)))
    fun _ _ x => x)
  obtain ⟨Ty, id, hl, hT, hg⟩ := h₂
  first
    | (refine wpAny_bind ?_; rw [getitemInPython_of_ne hT.not_modules]; refine wpAny_bind (wpAny_specialOf hT hl ?_))
    | refine wpAny_bind (wpAny_specialOf hT hl ?_)
  have fin : wpAny (model p w) A (operate [i, o] (getItem o i)) (fun r s₃ => wpAny (model p w) A (letTemporaryGo value o r >>= fun _ => pure r) Q E s₃) E s₂ :=
    wpAny_operating (wpAny_mono hg (fun r s₃ h₃ => wpAny_bind (wpAny_letTemporaryGo (wpAny_pure h₃))) fun _ _ x => x)
  first
    | exact wpAny_pure (wpAny_bind fin)
    | exact wpAny_bind (wpAny_pure (wpAny_bind fin))
    | exact wpAny_bind fin
theorem slFrom {e : Expr} {p : Pos} {Q : Value → Shared → Prop} (h : W Mo A (eval e env) (fun l s₁ => Q (.ref s₁.heap.objs.size) { s₁ with heap := s₁.heap.push (slO l .none) }) E s) : W Mo A (eval (.Slice (some e) none none p) env) Q E s :=
  .of (wpAny_Slice (evalPart_some_step (wpAny_mono h.un (fun l s₁ h₁ => evalPart_none_step (evalPart_none_step h₁)) fun _ _ x => x)))
theorem slUpto {e : Expr} {p : Pos} {Q : Value → Shared → Prop} (h : W Mo A (eval e env) (fun l s₁ => Q (.ref s₁.heap.objs.size) { s₁ with heap := s₁.heap.push (slO .none l) }) E s) : W Mo A (eval (.Slice none (some e) none p) env) Q E s :=
  .of (wpAny_Slice (evalPart_none_step (evalPart_some_step (wpAny_mono h.un (fun l s₁ h₁ => evalPart_none_step h₁) fun _ _ x => x))))
theorem gsFrom {t : Addr} {l : List Value} {a : Nat} {u : Tok} {Q : Value → Shared → Prop} (S : St c P T L ks vs M s) (H : LstT T t l) (hz : l.length ≤ sizeLine)
    (h : ∀ T' D s', Fle T T' → LstT T' D (l.drop a) → St c P T' L ks vs M s' → Q (.ref D) s') :
    PySem.ItemOn (model c.p c.w) A E (.ref t) (.ref s.heap.objs.size) Q { s with heap := s.heap.push (slO (.int a u) .none) } := by
  have S₁ := S.push (slO (.int a u) .none) s.toks
  have H₁ := H.at S₁.toIn
  refine ⟨_, _, list_getitem_lookup, H₁.typeIs, wpAny_getItem_list_slice H₁ (Heap.IsSliceOf.new ..) (.int _ _) .none .none (by simp) ?_ (by rw [List.size_toArray]; exact hz)⟩
  rw [slicePick_from']
  obtain ⟨T', le, e, S'⟩ := S₁.newT (o := { cls := .type "list", data := .seq (l.toArray.toList.drop a).toArray }) rfl s.toks
  exact h T' _ _ le ⟨_, e, rfl, 0, by simp⟩ S'
theorem gsUpto {t : Addr} {l : List Value} {a : Nat} {u : Tok} {Q : Value → Shared → Prop} (S : St c P T L ks vs M s) (H : LstT T t l) (hz : l.length ≤ sizeLine)
    (h : ∀ T' D s', Fle T T' → LstT T' D (l.take a) → St c P T' L ks vs M s' → Q (.ref D) s') :
    PySem.ItemOn (model c.p c.w) A E (.ref t) (.ref s.heap.objs.size) Q { s with heap := s.heap.push (slO .none (.int a u)) } := by
  have S₁ := S.push (slO .none (.int a u)) s.toks
  have H₁ := H.at S₁.toIn
  refine ⟨_, _, list_getitem_lookup, H₁.typeIs, wpAny_getItem_list_slice H₁ (Heap.IsSliceOf.new ..) .none (.int _ _) .none (by simp) ?_ (by rw [List.size_toArray]; exact hz)⟩
  rw [slicePick_upto']
  obtain ⟨T', le, e, S'⟩ := S₁.newT (o := { cls := .type "list", data := .seq (l.toArray.toList.take a).toArray }) rfl s.toks
  exact h T' _ _ le ⟨_, e, rfl, 0, by simp⟩ S'
theorem gsInit {t : Addr} {l : List Value} {u : Tok} {Q : Value → Shared → Prop} (S : St c P T L ks vs M s) (H : TupT T t l) (h1 : l ≠ []) (hz : l.length ≤ sizeLine)
    (h : ∀ T' D s', Fle T T' → TupT T' D l.dropLast → St c P T' L ks vs M s' → Q (.ref D) s') :
    PySem.ItemOn (model c.p c.w) A E (.ref t) (.ref s.heap.objs.size) Q { s with heap := s.heap.push (slO .none (.int (-1) u)) } := by
  have S₁ := S.push (slO .none (.int (-1) u)) s.toks
  have H₁ := H.at S₁.toIn
  have hl : 1 ≤ l.length := by cases l with | nil => exact absurd rfl h1 | cons _ _ => simp
  refine ⟨_, _, slot_tuple_getitem.lookup, H₁.typeIs, getT_init H₁ (Heap.IsSliceOf.new ..) (by rw [List.size_toArray]; exact hl) ?_ (by rw [List.size_toArray]; exact hz)⟩
  obtain ⟨T', le, e, S'⟩ := S₁.newT (o := { cls := .type "tuple", data := .seq (l.toArray.toList.take (l.toArray.size - 1)).toArray }) rfl s.toks
  exact h T' _ _ le ⟨_, e, rfl, 0, by simp [List.dropLast_eq_take]⟩ S'

/-- + of tuples; a bridge to the library's rules with a ledger -/
theorem St.fr (S : St c P T L ks vs M s) : ∃ m, s.heap.Ns L m ∧ Al ks vs m ∧ Fr Heap0 L s.heap m := by
  obtain ⟨m, hn, al⟩ := S.ns
  exact ⟨m, hn, al, hn, (fun b o e => nomatch (heap0_get b).symm.trans e), Nat.zero_le _⟩
theorem addT {a b : Addr} {l r : List Value} {Q : Value → Shared → Prop} (S : St c P T L ks vs M s) (Ha : TupT T a l) (Hb : TupT T b r) (hz : l.length + r.length ≤ sizeLine)
    (h : ∀ T' D s', Fle T T' → TupT T' D (l ++ r) → St c P T' L ks vs M s' → Q (.ref D) s') : W (model c.p c.w) A (binaryOp .Add (.ref a) (.ref b)) Q E s := by
  refine .of ?_
  have Ia := Ha.at S.toIn
  have Ib := Hb.at S.toIn
  obtain ⟨⟨cls, dd, data, sl⟩, ho, hc, n, hd⟩ := id Ia
  obtain ⟨⟨cls2, dd2, data2, sl2⟩, ho2, hc2, n2, hd2⟩ := id Ib
  simp only at hc hd hc2 hd2
  subst hc hd hc2 hd2
  have e : l.toArray ++ r.toArray = (l ++ r).toArray := by simp
  by_cases hv : l = []
  · subst hv
    exact concat_meets ⟨_, ho, rfl⟩ ⟨_, ho2, rfl⟩ noFill_tuple_add seq_tuple_add PySem.F.slot_tuple_add PySem.F.entry_tuple_add (PySem.F.args_tuple_add_2 _ _)
      (tuple_addW0 a b ([] : List Value).toArray r.toArray n n2 dd dd2 sl sl2 (by simp)) ⟨ho, ho2, h T b s (Fle.refl _) Hb S⟩
  · by_cases hw : r = []
    · subst hw
      exact concat_meets ⟨_, ho, rfl⟩ ⟨_, ho2, rfl⟩ noFill_tuple_add seq_tuple_add PySem.F.slot_tuple_add PySem.F.entry_tuple_add (PySem.F.args_tuple_add_2 _ _)
        (tuple_addW1 a b l.toArray ([] : List Value).toArray n n2 dd dd2 sl sl2 (by simpa using hv) (by simp)) ⟨ho, ho2, h T a s (Fle.refl _) (by rw [List.append_nil]; exact Ha) S⟩
    · refine concat_meets ⟨_, ho, rfl⟩ ⟨_, ho2, rfl⟩ noFill_tuple_add seq_tuple_add PySem.F.slot_tuple_add PySem.F.entry_tuple_add (PySem.F.args_tuple_add_2 _ _)
        (tuple_addW2 a b l.toArray r.toArray n n2 dd dd2 sl sl2 (by simpa using hv) (by simpa using hw) (by rw [List.size_toArray, List.size_toArray]; exact hz)) ⟨ho, ho2, ?_⟩
      rw [e]
      obtain ⟨T', le, e', S'⟩ := S.newT (o := { cls := .type "tuple", data := .seq (l ++ r).toArray }) rfl s.toks
      exact h T' _ _ le ⟨_, e', rfl, 0, rfl⟩ S'

/-- tuple(list), len(list), reversed -/
theorem tupL {a : Addr} {l : List Value} {Q : Value → Shared → Prop} (S : St c P T L ks vs M s) (Ha : s.heap.IsList a l.toArray) (hz : l.length ≤ sizeLine)
    (h : ∀ T' D s', Fle T T' → TupT T' D l → St c P T' L ks vs M s' → Q (.ref D) s') : W (model c.p c.w) A (call (.type "tuple") [.ref a]) Q E s := by
  refine .of (call_tuple_list Ha (fun h' hk => ?_) (by rw [List.size_toArray]; exact hz))
  obtain ⟨T', le, e', S'⟩ := (S.grow hk s.toks).newT (o := { cls := .type "tuple", data := .seq l.toArray }) rfl s.toks
  exact h T' _ _ le ⟨_, e', rfl, 0, rfl⟩ S'
theorem lenL {a : Addr} {l : List Value} {Q : Value → Shared → Prop} (S : St c P T L ks vs M s) (Ha : s.heap.IsList a l.toArray) (hz : l.length ≤ sizeLine)
    (h : ∀ t s', St c P T L ks vs M s' → Q (.int l.length t) s') : W (model c.p c.w) A (call (.builtin "len") [.ref a]) Q E s := by
  have hz' : l.length < 2 ^ 62 := by rw [sizeLine_eq] at hz; omega
  refine .of (len_list Ha (by rw [List.size_toArray]; omega) ?_)
  rw [List.size_toArray]
  exact h _ _ (S.tok _)
theorem lenT {a : Addr} {l : List Value} {Q : Value → Shared → Prop} (S : St c P T L ks vs M s) (Ha : TupT T a l) (hz : l.length ≤ sizeLine)
    (h : ∀ t s', St c P T L ks vs M s' → Q (.int l.length t) s') : W (model c.p c.w) A (call (.builtin "len") [.ref a]) Q E s := by
  have hz' : l.length < 2 ^ 62 := by rw [sizeLine_eq] at hz; omega
  have H := Ha.at S.toIn
  refine .of (len_tuple H (by rw [List.size_toArray]; omega) ?_)
  rw [List.size_toArray]
  exact h _ _ (S.tok _)
end
end Mine
namespace Mine
section
variable {prog : Program} {w : World} {A : Around} {E : Value → Shared → Prop} {s : Shared}
theorem rv_nolen : typeLookup (.type "list_reverseiterator") "__len__" = pure none := by rw [typeLookup_type, builtinLookup_eq_fast]; kernel_rfl
theorem rv_hint : typeLookup (.type "list_reverseiterator") "__length_hint__" = pure (some (.builtin "list_reverseiterator.__length_hint__")) := by rw [typeLookup_type, builtinLookup_eq_fast]; kernel_rfl
theorem rv_extend {R : Result → Shared → Prop} {I l : Addr} {items : Array Value} (hh : A.handled = none) (hit : s.heap.IsRevIter I l ((items.size : Int) - 1)) (hl : s.heap.IsList l items) (hz : items.size ≤ sizeLine) (S : Addr) (res : Value) (c₀ : Nat)
    (hS : s.heap.get? S = some { cls := .type "list", data := .seq #[] c₀ }) (hSI : S ≠ I) (hSl : S ≠ l) (hlI : l ≠ I)
    (hR : ∀ h' tk acc' c', (∀ b o, b ≠ S → b ≠ I → s.heap.get? b = some o → h'.get? b = some o) → h'.get? S = some { cls := .type "list", dict := none, data := .seq acc' c', slots := #[] } →
      ItemsOf (fun i v => items[items.size - 1 - i]? = some v) acc' items.size → R (.ok (.ret res)) { s with heap := h', toks := tk }) :
    wpAny (model prog w) A.in1 (Builtin.List.listExtendWith (.ref S) (.ref I) res)
      (fun fin s' => match fin with | .done f => R (.ok f) s' | .again c' => c'.quiet = true ∧ codeAny (model prog w) A c' R s') (fun e s' => R (.error e) s') s := by
  have W := (Walks.listRev (prog := prog) (w := w) (A := A.in1) hh I l hlI items).toS
  have hSf : S ∉ [I, l] := by simp [hSI, hSl]
  have h1 : Builtin.List.listSameRef (.ref S) (.ref I) = false := by simp [Builtin.List.listSameRef, hSI]
  unfold Builtin.List.listExtendWith
  refine wpAny_bind (wpAny_typeOf hit.typeIs ?_)
  rw [if_neg (by rw [h1]; decide)]
  refine wpAny_bind (wpAny_pyIter_revIter hit ?_)
  refine wpAny_bind (wpAny_holding ?_)
  unfold Builtin.List.listLengthHint
  refine wpAny_bind (wpAny_specialOf hit.typeIs rv_nolen ?_)
  show wpAny _ A.in1 (specialOf (Value.ref I) (Str.ofString "__length_hint__") >>= _) _ _ _
  refine wpAny_bind (wpAny_specialOf hit.typeIs rv_hint ?_)
  generalize hid : ("list_reverseiterator.__length_hint__" : String) = id0
  (fail_if_success (clear hid id0)); wp_delta; rw [show splitId id0 = some ("list_reverseiterator", "__length_hint__") from by subst hid; decide +kernel]; subst hid
  refine wpAny_bind (wpAny_isInstance (b := true) hit.typeIs (by rw [isSubtype_type]; kernel_rfl) ?_)
  refine wpAny_pure ?_
  rw [if_neg (by decide)]
  refine wpAny_pure ⟨plainId_quiet F.plain_extend_loop _, codeAny_extend_loopS W hz _ hSf _ items.size 0 _ _ _ rfl (Nat.zero_le _) ⟨Nat.zero_le _, by simpa using hit, hl⟩ hS (ItemsOf.nil _) fun s' acc' c' hm hS' hacc => ?_⟩
  rw [Moved.eq_with hm]
  exact hR s'.heap s'.toks acc' c' (fun b o hb hbI e => hm.heap b o (by simp [hb, hbI]) e) hS' hacc

theorem call_list_rev {Q : Value → Shared → Prop} {I l : Addr} {items : Array Value} (hh : A.handled = none) (hit : s.heap.IsRevIter I l ((items.size : Int) - 1)) (hl : s.heap.IsList l items) (hlI : l ≠ I) (hz : items.size ≤ sizeLine)
    (hQ : ∀ h' tk acc' c', (∀ b o, b ≠ I → s.heap.get? b = some o → h'.get? b = some o) →
      h'.get? s.heap.objs.size = some { cls := .type "list", dict := none, data := .seq acc' c', slots := #[] } → ItemsOf (fun i v => items[items.size - 1 - i]? = some v) acc' items.size → Q (.ref s.heap.objs.size) { s with heap := h', toks := tk }) :
    wpAny (model prog w) A (call (.type "list") [.ref I]) Q E s := by
  have hIlt : I < s.heap.objs.size := by obtain ⟨o, e, _⟩ := hit; exact Heap.lt_size e
  have hllt : l < s.heap.objs.size := by obtain ⟨o, e, _⟩ := hl; exact Heap.lt_size e
  refine callType_codes (Q₁ := fun obj s₁ => obj = .ref s.heap.objs.size ∧ s₁ = { s with heap := s.heap.push { cls := .type "list", data := .seq #[] } }) F.called_list (F.typeCall_list_1 _) F.entry_list_init
    (code_list_new _ ⟨rfl, rfl⟩) fun obj s₁ h₁ => ?_
  obtain ⟨rfl, rfl⟩ := h₁
  have hS : (s.heap.push { cls := .type "list", data := .seq #[] }).get? s.heap.objs.size = some { cls := .type "list", data := .seq #[] } := Heap.get?_push_size _ rfl
  refine ⟨⟨_, hS, rfl⟩, F.args_list_init_2 _ _, ?_⟩
  show wpAny _ _ (do let old ← Builtin.List.listItems (.ref s.heap.objs.size); Builtin.List.listUpdate (.ref s.heap.objs.size) (fun _ => #[]); letGo old.toList.reverse; Builtin.List.listExtendWith (.ref s.heap.objs.size) (.ref I) .none) _ _ _
  refine wpAny_bind ?_
  unfold Builtin.List.listItems
  refine wpAny_bind (wpAny_seqItems hS rfl (wpAny_pure ?_))
  show wpAny _ _ (updateSeq s.heap.objs.size (fun _ => #[]) >>= fun _ => letGo (#[] : Array Value).toList.reverse >>= fun _ => Builtin.List.listExtendWith (.ref s.heap.objs.size) (.ref I) .none) _ _ _
  refine wpAny_bind (wpAny_updateSeq hS rfl ?_)
  have hS₂ := Heap.get?_update_self (Obj.mapSeq (fun _ => (#[] : Array Value))) hS rfl
  have oth : ∀ b o, b ≠ s.heap.objs.size → s.heap.get? b = some o → ((s.heap.push { cls := .type "list", data := .seq #[] }).update s.heap.objs.size (Obj.mapSeq (fun _ => (#[] : Array Value)))).get? b = some o :=
    fun b o hb e => (Heap.get?_update_other _ _ (Ne.symm hb)).trans (Heap.get?_push_of_some _ e)
  refine wpAny_bind (wpAny_letGo ?_)
  refine rv_extend (A := A.in1) (items := items) hh (hit.at fun o e => oth I o (Nat.ne_of_lt hIlt) e) (hl.at fun o e => oth l o (Nat.ne_of_lt hllt) e) hz _ .none _ hS₂ (Nat.ne_of_gt hIlt) (Nat.ne_of_gt hllt) hlI fun h' tk acc' c' hk hS' hacc => ?_
  exact ⟨rfl, hQ h' tk acc' c' (fun b o hb e => hk b o (Nat.ne_of_lt (Heap.lt_size e)) hb (oth b o (Nat.ne_of_lt (Heap.lt_size e)) e)) hS' hacc⟩
theorem itemsOf_rev {l : List Value} {acc : Array Value} (h : ItemsOf (fun i v => l.toArray[l.toArray.size - 1 - i]? = some v) acc l.toArray.size) : acc = l.reverse.toArray := by
  obtain ⟨h1, h2⟩ := h
  apply Array.ext
  · rw [h1]; simp
  · intro i hi hi'
    have h3 := h2 i acc[i] (Array.getElem?_eq_getElem hi)
    have hsz : i < l.length := by rw [h1] at hi; simpa using hi
    simp only [List.size_toArray, List.getElem?_toArray] at h3
    have h4 : l.reverse[i]? = some acc[i] := by
      rw [List.getElem?_reverse hsz]; exact h3
    simp only [List.getElem_toArray]
    exact (List.getElem?_eq_some_iff.mp h4).2.symm
end
section
variable {c : Cx} {P : Ent} {T : Fz} {L : Addr} {ks gs : List Str} {vs : List (Option Value)} {M : List (Addr × Obj)} {s : Shared} {env : Env} {A : Around} {Mo : Model} {E : Value → Shared → Prop}
theorem rvO {a : Addr} {l : List Value} {Q : Value → Shared → Prop} (S : St c P T L ks vs M s) (H : LstT T a l)
    (h : ∀ I s', St c P T L ks vs ((I, revObj a ((l.length : Int) - 1)) :: M) s' → Q (.ref I) s') : W (model c.p c.w) A (call (.type "reversed") [.ref a]) Q E s := by
  refine .of (call_reversed_list (H.at S.toIn) ?_)
  rw [List.size_toArray]
  exact h _ _ (S.newM rfl s.toks)
theorem rvL {a I : Addr} {l : List Value} {Q : Value → Shared → Prop} (hh : A.handled = none) (S : St c P T L ks vs ((I, revObj a ((l.length : Int) - 1)) :: M) s) (H : LstT T a l) (hz : l.length ≤ sizeLine)
    (h : ∀ T' D s', Fle T T' → LstT T' D l.reverse → St c P T' L ks vs M s' → Q (.ref D) s') : W (model c.p c.w) A (call (.type "list") [.ref I]) Q E s := by
  have hI := S.led _ (.head _)
  obtain ⟨o, hT, _⟩ := id H
  refine .of (call_list_rev (items := l.toArray) hh ⟨_, hI.1, rfl, by rw [List.size_toArray]; rfl⟩ (H.at S.toIn) (fun e => by rw [e] at hT; have := hI.2.1; rw [show T I = _ from hT] at this; cases this) (by rw [List.size_toArray]; exact hz) fun h' tk acc' c' hk hD hacc => ?_)
  rw [itemsOf_rev hacc] at hD
  have S' : St c P T L ks vs M { s with heap := h', toks := tk } := S.gone hk tk
  have tn : T s.heap.objs.size = none := by
    cases e : T s.heap.objs.size with
    | none => rfl
    | some o => exact absurd (Heap.lt_size (S.sub _ _ e)) (Nat.lt_irrefl _)
  have gn : P.G s.heap.objs.size = none := by
    cases e : P.G s.heap.objs.size with
    | none => rfl
    | some o => exact absurd (Heap.lt_size (S.keep _ _ e)) (Nat.lt_irrefl _)
  have S₂ := S'.own hD tn (by obtain ⟨m, hn, _⟩ := S.ns; exact Nat.ne_of_gt hn.lt) gn (fun hm => by
    obtain ⟨p, hp, e⟩ := List.mem_map.mp hm
    have := (S.led p (.tail _ hp)).1
    rw [show p.1 = s.heap.objs.size from e, get_size] at this
    cases this)
  obtain ⟨T', le, e, S₃⟩ := S₂.freeze .head S.size
  exact h T' _ _ le ⟨_, e, rfl, _, rfl⟩ S₃

/-- == and != with the empty tuple -/
theorem eqT0 {a b : Addr} {l : List Value} {Q : Value → Shared → Prop} (S : St c P T L ks vs M s) (Ha : TupT T a l) (Hb : TupT T b []) (hu : A.units < cLine) (h : Q (.bool l.isEmpty) s) : W (model c.p c.w) A (compareOp .Eq (.ref a) (.ref b)) Q E s := by
  refine .of (PySem.SeqAt.eq_tupleAt (e := fun _ => true) (Ha.at S.toIn) (Hb.at S.toIn) hu (fun j _ h2 => absurd h2 (by simp)) ?_)
  have : ((List.range (min l.toArray.size ([] : List Value).toArray.size)).all (fun _ => true) && l.toArray.size == ([] : List Value).toArray.size) = l.isEmpty := by cases l <;> simp
  rw [this]; exact h
theorem neT0 {a b : Addr} {l : List Value} {Q : Value → Shared → Prop} (S : St c P T L ks vs M s) (Ha : TupT T a l) (Hb : TupT T b []) (hu : A.units < cLine) (h : Q (.bool (!l.isEmpty)) s) : W (model c.p c.w) A (compareOp .NotEq (.ref a) (.ref b)) Q E s := by
  have := PySem.SeqAt.RcNeAt.tuples (A := A) (e := fun _ => true) (Ha.at S.toIn) (Hb.at S.toIn) hu (fun j _ h2 => absurd h2 (by simp))
  refine .of (this c.p c.w E Q ?_)
  have e : (!((List.range (min l.toArray.size ([] : List Value).toArray.size)).all (fun _ => true) && l.toArray.size == ([] : List Value).toArray.size)) = !l.isEmpty := by cases l <;> simp
  rw [e]; exact h
theorem isN {a : Addr} {Q : Value → Shared → Prop} (h : Q (.bool false) s) : W Mo A (compareOp .Is (.ref a) .none) Q E s := .of (wpAny_is_other rfl (fun e => nomatch e) h)
theorem notinT {a : Addr} {l : List Value} {ys : List Str} {x : Str} {u : Tok} {Q : Value → Shared → Prop} (S : St c P T L ks vs M s) (H : TupT T a l) (hi : StrsAre l ys) (h : Q (.bool (!(ys.any (· == x)))) s) : W (model c.p c.w) A (compareOp .NotIn (.str x u) (.ref a)) Q E s :=
  .of (notin_tuple_strs (H.at S.toIn) (by simpa using hi) h)

/-- a test with three sides -/
theorem chT {l r₁ r₂ : Expr} {o₁ o₂ : CmpOp} {pos : Pos} {whole : Sem Value} {Q : Bool → Shared → Prop}
    (h : W Mo A (eval l env) (fun a s₁ => W Mo A (eval r₁ env) (fun b s₂ => W Mo A (compareOp o₁ a b) (fun v s₃ => ∃ b', v = .bool b' ∧ ((b' = true → W Mo A (eval r₂ env) (fun d s₄ => W Mo A (compareOp o₂ b d) (fun v s₅ => ∃ b', v = .bool b' ∧ Q b' s₅) E s₄) E s₃) ∧ (b' = false → Q false s₃))) E s₂) E s₁) E s)
    (hm : lastMarks [o₁, o₂] [r₁, r₂] = false := by with_unfolding_all rfl) : W Mo A (isTrue (.Compare l [o₁, o₂] [r₁, r₂] pos) env whole) Q E s := by
  refine .of (isTrue_chain (wpAny_mono h.un (fun a s₁ h₁ => ?_) fun _ _ x => x) hm)
  show wpAny Mo A (testChain pos a [o₁, o₂] [eval r₁ env, eval r₂ env]) Q E s₁
  unfold testChain
  refine wpAny_bind (wpAny_holding (wpAny_mono h₁.un (fun b s₂ h₂ => wpAny_bind (wpAny_standAt (wpAny_bind (wpAny_holding (wpAny_mono h₂.un (fun v s₃ h₃ => ?_) fun _ _ x => x)))) ) fun _ _ x => x))
  obtain ⟨b', rfl, h4, h5⟩ := h₃
  refine wpAny_bind (wpAny_release (wpAny_bind (wpAny_holding (wpAny_truthy_bool ?_))))
  cases b' with
  | false => exact wpAny_pure (h5 rfl)
  | true =>
    show wpAny Mo A (testChain pos b [o₂] [eval r₂ env]) Q E s₃
    unfold testChain
    refine wpAny_bind (wpAny_holding (wpAny_mono (h4 rfl).un (fun d s₄ h₄ => wpAny_bind (wpAny_standAt (wpAny_bind (wpAny_operating (wpAny_mono h₄.un (fun v s₅ h₅ => ?_) fun _ _ x => x)))) ) fun _ _ x => x))
    obtain ⟨b', rfl, q⟩ := h₅
    exact wpAny_holding (wpAny_truthy_bool q)
end
end Mine
namespace Mine
section
variable {c : Cx} {T : Fz} {s : Shared} {A : Around} {E : Value → Shared → Prop}
def sgn (i : Int) : Int := if i = 0 then 0 else if 0 < i then 1 else -1
theorem sign_of_ok {i : Int} {t : Tok} {Q : Value → Shared → Prop} (I : In c T s) (hA : Rm A 1) (h : ∀ t' T' s', Out T s T' s' → Q (.int (sgn i) t') s') :
    W (model c.p c.w) A (call (.ref 166) [.int i t]) Q E s := by
  refine enter [Str.ofString "number"] [] [some (.int i t)] I hA rfl rfl (by kernel_rfl) (BindsTo.of_eq rfl) (by kernel_rfl) (by kernel_rfl) (by kernel_rfl) fun env L s' F S A' hA' => ?_
  refine iff_ ?_
  refine cmpT ?_
  refine rd F S .head ?_
  refine cI S fun t s S => ?_
  refine ieq ?_
  refine toB ?_
  refine ⟨fun e => ?_, fun e => ?_⟩
  · refine ret ?_
    refine cI S fun t s S => ?_
    refine thn_ret ?_
    refine rq_ret ?_
    have := h t _ _ (S.back I)
    rwa [show sgn i = 0 from if_pos (by simpa using e)] at this
  · refine thn_next ?_
    refine ret ?_
    refine ifx ?_
    refine cmpT ?_
    refine rd F S .head ?_
    refine cI S fun t s S => ?_
    refine igt ?_
    refine toB ?_
    refine ⟨fun e' => ?_, fun e' => ?_⟩
    · refine cI S fun t s S => ?_
      refine rq_ret ?_
      have := h t _ _ (S.back I)
      have e1 : i ≠ 0 := by simpa using e
      have e2 : 0 < i := by simpa using e'
      rwa [show sgn i = 1 by unfold sgn; rw [if_neg e1, if_pos e2]] at this
    · refine unE ?_
      refine cI S fun t s S => ?_
      refine ineg S fun t s S => ?_
      refine rq_ret ?_
      have := h t _ _ (S.back I)
      have e1 : i ≠ 0 := by simpa using e
      have e2 : ¬ 0 < i := by simpa using e'
      rwa [show sgn i = -1 by unfold sgn; rw [if_neg e1, if_neg e2]] at this

def DecT (T : Fz) (v : Value) (top : Int) (pl : Nat) : Prop :=
  ∃ a h1 h2 k1 k2 t1 t2, v = .ref a ∧ ObjT T 155 a [⟨h1, .str "top" k1, .int top t1⟩, ⟨h2, .str "places" k2, .int pl t2⟩]
theorem DecT.mono {T T' : Fz} {v : Value} {top : Int} {pl : Nat} (h : DecT T v top pl) (e : Fle T T') : DecT T' v top pl :=
  let ⟨a, h1, h2, k1, k2, t1, t2, x, y⟩ := h; ⟨a, h1, h2, k1, k2, t1, t2, x, y.mono e⟩

theorem dec_ok {top : Int} {pl : Nat} {t1 t2 : Tok} {Q : Value → Shared → Prop} (I : In c T s) (hA : Rm A 2)
    (h : ∀ v T' s' t' p', Out T s T' s' → DecT T' v t' p' → p' ≤ pl → top = t' * 10 ^ (pl - p') → Q v s') :
    W (model c.p c.w) A (call (.ref 155) [.int top t1, .int pl t2]) Q E s := by
  refine makeI (f := 75) [Str.ofString "self", Str.ofString "top", Str.ofString "places"] [] (fun x => [some (.ref x), some (.int top t1), some (.int pl t2)]) I hA (by kernel_rfl) (by kernel_rfl) (by kernel_rfl) rfl rfl (by kernel_rfl)
    (binds := fun x => [(Str.ofString "self", .ref x), (Str.ofString "top", .int top t1), (Str.ofString "places", .int pl t2)]) (fun x s' _ => BindsTo.of_eq rfl) (by kernel_rfl) (fun x => by kernel_rfl) (fun x => by kernel_rfl) fun x dx T' env L s' hT hx hN F S A' hA' => ?_
  refine whileR (fun n s => ∃ t' k1 k2, n ≤ pl ∧ top = t' * 10 ^ (pl - n) ∧ St c _ T' L _ [some (.ref x), some (.int t' k1), some (.int n k2)] _ s) pl ⟨top, t1, t2, Nat.le_refl _, by simp, S⟩ ?_
  rintro n s ⟨t', k1, k2, hn, ht, S⟩
  refine testS S (0 < n ∧ t' % 10 = 0) ?_ (fun b s S q => ⟨fun e => ?_, fun e => ?_⟩)
  · refine andT ?_
    refine cmpT ?_
    refine rd F S (.tail (.tail .head)) ?_
    refine cI S fun t s S => ?_
    refine igt ?_
    refine toB ?_
    refine ⟨fun e => ?_, fun e => ⟨S, fun q => nomatch q⟩⟩
    refine andT ?_
    refine cmpT ?_
    refine binE ?_
    refine rd F S (.tail .head) ?_
    refine cI S fun t s S => ?_
    refine imod (by decide) S fun t s S => ?_
    refine cI S fun t s S => ?_
    refine ieq ?_
    refine toB ?_
    refine ⟨fun e' => ?_, fun e => ⟨S, fun q => nomatch q⟩⟩
    refine andN ?_
    exact ⟨S, fun _ => ⟨by simpa using e, by simpa using e'⟩⟩
  · obtain ⟨q1, q2⟩ := q e
    refine asg ?_
    refine binE ?_
    refine rd F S (.tail .head) ?_
    refine cI S fun t s S => ?_
    refine idiv (by decide) (by decide) S fun t s S => ?_
    refine wr F S (.tail .head) fun s S => ?_
    refine asg ?_
    refine binE ?_
    refine rd F S (.tail (.tail .head)) ?_
    refine cI S fun t s S => ?_
    refine isub S fun t s S => ?_
    refine wr F S (.tail (.tail .head)) fun s S => ?_
    rw [show (n : Int) - 1 = ((n - 1 : Nat) : Int) by omega] at S
    refine W.of (wpAny_execs_nil ⟨rfl, n - 1, by omega, t' / 10, _, _, by omega, ?_, S⟩)
    rw [ht, show pl - (n - 1) = (pl - n) + 1 by omega, Int.pow_succ, Int.mul_comm _ 10, ← Int.mul_assoc, show t' / 10 * 10 = t' by omega]
  · refine asgA ?_
    refine rd F S (.tail .head) ?_
    refine rd F S .head ?_
    refine setA S hx (fun _ => .head) (by kernel_rfl) (by kernel_rfl) (by kernel_rfl) (by kernel_rfl) (by kernel_rfl) (Nat.le_of_ble_eq_true rfl) fun h1 u1 s S => ?_
    refine asgA ?_
    refine rd F S (.tail (.tail .head)) ?_
    refine rd F S .head ?_
    refine setA S hx (fun _ => .head) (by kernel_rfl) (by kernel_rfl) (by kernel_rfl) (by kernel_rfl) (by kernel_rfl) (Nat.le_of_ble_eq_true rfl) fun h2 u2 s S => ?_
    refine rq_nil ⟨rfl, ?_⟩
    obtain ⟨T'', hT', e, S⟩ := S.freeze .head hN
    refine h _ T'' _ t' n ⟨S.gens.trans I.gens.symm, S.os.trans I.os.symm, S.le, S.low, S.sub, fun b o _ e => S.keep b o e, S.size⟩ ⟨x, h1, h2, u1, u2, k1, k2, rfl, dx, _, hT' _ _ hx, e⟩ hn ht
end
end Mine
namespace Mine
section
variable {c : Cx} {P : Ent} {T : Fz} {L : Addr} {ks gs : List Str} {vs : List (Option Value)} {M : List (Addr × Obj)} {s : Shared} {env : Env} {A : Around} {Mo : Model} {E : Value → Shared → Prop}
/-- branches that are known -/
theorem brT {X Y : Prop} (h : X) : (true = true → X) ∧ (true = false → Y) := ⟨fun _ => h, fun e => nomatch e⟩
theorem brF {X Y : Prop} (h : Y) : (false = true → X) ∧ (false = false → Y) := ⟨fun e => (nomatch e), fun _ => h⟩
theorem brNT {X Y : Prop} (h : Y) : ((!true) = true → X) ∧ ((!true) = false → Y) := ⟨fun e => (nomatch e), fun _ => h⟩
theorem brNF {X Y : Prop} (h : X) : ((!false) = true → X) ∧ ((!false) = false → Y) := ⟨fun _ => h, fun e => nomatch e⟩
theorem brP {b : Bool} {X Y : Prop} (hb : b = true) (h : X) : (b = true → X) ∧ (b = false → Y) := ⟨fun _ => h, fun e => by rw [hb] at e; cases e⟩
theorem brQ {b : Bool} {X Y : Prop} (hb : b = false) (h : Y) : (b = true → X) ∧ (b = false → Y) := ⟨fun e => (by rw [hb] at e; cases e), fun _ => h⟩

theorem asN {x : Str} {np : Pos} {v : Value} {Q : Unit → Shared → Prop} (h : W Mo A (storeName env x v) Q E s) : W Mo A (assign (.Name x np) env v) Q E s := .of (wpAny_assign_Name h.un)
theorem seqI_last (n m : Nat) (h : m = n + 1) : seqIndex? (-1) m = some n := by
  subst h
  unfold seqIndex?
  have e : (-1 : Int) + ((n + 1 : Nat) : Int) = (n : Int) := by omega
  have h0 : ((-1 : Int) < 0) := by decide
  simp only [if_pos h0, e]
  have h1 : (decide ((0 : Int) ≤ (n : Int)) && decide ((n : Int) < ((n + 1 : Nat) : Int))) = true := by
    rw [Bool.and_eq_true_iff]
    exact ⟨decide_eq_true (by omega), decide_eq_true (by omega)⟩
  rw [if_pos h1]
  rfl
theorem itLast {value slice : Expr} {t : Addr} {l : List Value} {x : Value} {u : Tok} {Q : Value → Shared → Prop} (S : St c P T L ks vs M s) (H : TupT T t (l ++ [x])) (h : Q x s)
    (hs : subscripted slice false (.ref t) (.int (-1) u) = operate [.ref t, .int (-1) u] (getItem (.ref t) (.int (-1) u)) := by kernel_rfl) : W (model c.p c.w) A (subscriptTail value slice (.ref t) (.int (-1) u)) Q E s :=
  itT S H l.length (seqI_last l.length _ (by simp)) (by simp) h (by decide) (by decide) hs
theorem seqI_at (n m : Nat) (h : n < m) : seqIndex? (n : Int) m = some n := by
  unfold seqIndex?
  have h0 : ¬ ((n : Int) < 0) := by omega
  simp only [if_neg h0]
  have h1 : (decide ((0 : Int) ≤ (n : Int)) && decide ((n : Int) < (m : Int))) = true := by
    rw [Bool.and_eq_true_iff]
    exact ⟨decide_eq_true (by omega), decide_eq_true (by omega)⟩
  rw [if_pos h1]
  rfl
theorem it0 {value slice : Expr} {t : Addr} {r : List Value} {x : Value} {u : Tok} {Q : Value → Shared → Prop} (S : St c P T L ks vs M s) (H : TupT T t (x :: r)) (h : Q x s)
    (hs : subscripted slice false (.ref t) (.int 0 u) = operate [.ref t, .int 0 u] (getItem (.ref t) (.int 0 u)) := by kernel_rfl) : W (model c.p c.w) A (subscriptTail value slice (.ref t) (.int 0 u)) Q E s :=
  itT S H 0 (seqI_at 0 _ (by simp only [List.length_cons]; omega)) rfl h (by decide) (by decide) hs
theorem it1 {value slice : Expr} {t : Addr} {r : List Value} {x y₀ : Value} {u : Tok} {Q : Value → Shared → Prop} (S : St c P T L ks vs M s) (H : TupT T t (y₀ :: x :: r)) (h : Q x s)
    (hs : subscripted slice false (.ref t) (.int 1 u) = operate [.ref t, .int 1 u] (getItem (.ref t) (.int 1 u)) := by kernel_rfl) : W (model c.p c.w) A (subscriptTail value slice (.ref t) (.int 1 u)) Q E s :=
  itT S H 1 (seqI_at 1 _ (by simp only [List.length_cons]; omega)) rfl h (by decide) (by decide) hs
theorem it2 {value slice : Expr} {t : Addr} {r : List Value} {x y₀ y₁ : Value} {u : Tok} {Q : Value → Shared → Prop} (S : St c P T L ks vs M s) (H : TupT T t (y₀ :: y₁ :: x :: r)) (h : Q x s)
    (hs : subscripted slice false (.ref t) (.int 2 u) = operate [.ref t, .int 2 u] (getItem (.ref t) (.int 2 u)) := by kernel_rfl) : W (model c.p c.w) A (subscriptTail value slice (.ref t) (.int 2 u)) Q E s :=
  itT S H 2 (seqI_at 2 _ (by simp only [List.length_cons]; omega)) rfl h (by decide) (by decide) hs
theorem it3 {value slice : Expr} {t : Addr} {r : List Value} {x y₀ y₁ y₂ : Value} {u : Tok} {Q : Value → Shared → Prop} (S : St c P T L ks vs M s) (H : TupT T t (y₀ :: y₁ :: y₂ :: x :: r)) (h : Q x s)
    (hs : subscripted slice false (.ref t) (.int 3 u) = operate [.ref t, .int 3 u] (getItem (.ref t) (.int 3 u)) := by kernel_rfl) : W (model c.p c.w) A (subscriptTail value slice (.ref t) (.int 3 u)) Q E s :=
  itT S H 3 (seqI_at 3 _ (by simp only [List.length_cons]; omega)) rfl h (by decide) (by decide) hs
/-- a method's call -/
theorem callMt {o : Expr} {name : Str} {ap pos : Pos} {a : Expr} {rest : List Expr} {pl : Sem Bool} {Q : Value → Shared → Prop}
    (h : W Mo A (eval o env) (fun ov s₁ => W Mo A (getMethod ov name pl) (fun fx s₂ => W Mo A (callWith pos fx.1 fx.2 (backTo pos (starEach (a :: rest) env)) []) Q E s₂) E s₁) E s)
    (he : eval (.Call (.Attribute o name ap) (a :: rest) [] pos) env = (do
      let ov ← eval o env
      standAt ap.atName
      let (f, first) ← holding [ov] (getMethod ov name pl)
      callWith pos f first (backTo pos (starEach (a :: rest) env)) []) := by with_unfolding_all rfl) :
    W Mo A (eval (.Call (.Attribute o name ap) (a :: rest) [] pos) env) Q E s :=
  .of (MethodCall_ (pl := pl) (wpAny_mono h.un (fun ov s₁ q => wpAny_mono q.un (fun _ _ x => x.un) fun _ _ x => x) fun _ _ x => x) he)
def KF (c : Cx) (f : Addr) : Prop := keepIn c.K (.ref f) = true
theorem callW {f : Addr} {first : List Value} {pos : Pos} {a : Expr} {rest : List Expr} {Q : Value → Shared → Prop} (S : St c P T L ks vs M s) (hk : KF c f)
    (h : W Mo A (spliced (backTo pos (starEach (a :: rest) env))) (fun vs s₁ => c.K.In s₁.heap ∧ W Mo A (call (.ref f) (first ++ vs)) Q E s₁) E s)
    (h1 : starEach (a :: rest) env = (false, eval a env) :: starEach rest env := by kernel_rfl) (h2 : (backTo pos (starEach rest env)).any (·.1) = false := by kernel_rfl) :
    W Mo A (callWith pos (.ref f) first (backTo pos (starEach (a :: rest) env)) []) Q E s :=
  .of (callWith_K S.K hk (wpAny_mono h.un (fun vs s₁ q => ⟨q.1, q.2.un⟩) fun _ _ x => x) h1 h2)
theorem kF_plus : KF c 82 := by show keepIn _ _ = _; kernel_rfl
theorem kF_minus : KF c 89 := by show keepIn _ _ = _; kernel_rfl
theorem kF_times : KF c 96 := by show keepIn _ _ = _; kernel_rfl
theorem kF_compared : KF c 110 := by show keepIn _ _ = _; kernel_rfl

theorem topD {v : Value} {t : Int} {p : Nat} {Q : Value → Shared → Prop} (S : St c P T L ks vs M s) (H : DecT T v t p) (h : ∀ k s', St c P T L ks vs M s' → Q (.int t k) s') : W (model c.p c.w) A (getAttr v (Str.ofString "top") true) Q E s := by
  obtain ⟨a, h1, h2, k1, k2, t1, t2, rfl, O⟩ := H
  exact attr S O (at_ := none) (by kernel_rfl) (by kernel_rfl) (by kernel_rfl) (by kernel_rfl) (by rfl) (by rfl) fun s' S' => h _ _ S'
theorem plD {v : Value} {t : Int} {p : Nat} {Q : Value → Shared → Prop} (S : St c P T L ks vs M s) (H : DecT T v t p) (h : ∀ k s', St c P T L ks vs M s' → Q (.int p k) s') : W (model c.p c.w) A (getAttr v (Str.ofString "places") true) Q E s := by
  obtain ⟨a, h1, h2, k1, k2, t1, t2, rfl, O⟩ := H
  exact attr S O (at_ := none) (by kernel_rfl) (by kernel_rfl) (by kernel_rfl) (by kernel_rfl) (by rfl) (by rfl) fun s' S' => h _ _ S'
/-- the methods of a Decimal -/
theorem mD (name : Str) (f : Addr) {v : Value} {t : Int} {p : Nat} {pl : Sem Bool} {Q : Value × List Value → Shared → Prop} (hg : plainGet c.K 155 name = true) (hf : findIn c.K (.ref 155) name = some (some (.ref f))) (ht : isFn c.K (.ref f) = true)
    (hl : ∀ h1 h2 k1 k2 (x y : Value), getL name [⟨h1, .str "top" k1, x⟩, ⟨h2, .str "places" k2, y⟩] = some none)
    (S : St c P T L ks vs M s) (H : DecT T v t p) (h : Q (.ref f, [v]) s) : W (model c.p c.w) A (getMethod v name pl) Q E s := by
  obtain ⟨a, h1, h2, k1, k2, t1, t2, rfl, O⟩ := H
  exact meth S O hg hf ht (hl _ _ _ _ _ _) h
theorem m_plus {v : Value} {t : Int} {p : Nat} {pl : Sem Bool} {Q : Value × List Value → Shared → Prop} (S : St c P T L ks vs M s) (H : DecT T v t p) (h : Q (.ref 82, [v]) s) : W (model c.p c.w) A (getMethod v (Str.ofString "plus") pl) Q E s :=
  mD "plus" 82 (by kernel_rfl) (by kernel_rfl) (by kernel_rfl) (fun _ _ _ _ _ _ => rfl) S H h
theorem m_minus {v : Value} {t : Int} {p : Nat} {pl : Sem Bool} {Q : Value × List Value → Shared → Prop} (S : St c P T L ks vs M s) (H : DecT T v t p) (h : Q (.ref 89, [v]) s) : W (model c.p c.w) A (getMethod v (Str.ofString "minus") pl) Q E s :=
  mD "minus" 89 (by kernel_rfl) (by kernel_rfl) (by kernel_rfl) (fun _ _ _ _ _ _ => rfl) S H h
theorem m_times {v : Value} {t : Int} {p : Nat} {pl : Sem Bool} {Q : Value × List Value → Shared → Prop} (S : St c P T L ks vs M s) (H : DecT T v t p) (h : Q (.ref 96, [v]) s) : W (model c.p c.w) A (getMethod v (Str.ofString "times") pl) Q E s :=
  mD "times" 96 (by kernel_rfl) (by kernel_rfl) (by kernel_rfl) (fun _ _ _ _ _ _ => rfl) S H h
theorem m_compared {v : Value} {t : Int} {p : Nat} {pl : Sem Bool} {Q : Value × List Value → Shared → Prop} (S : St c P T L ks vs M s) (H : DecT T v t p) (h : Q (.ref 110, [v]) s) : W (model c.p c.w) A (getMethod v (Str.ofString "compared") pl) Q E s :=
  mD "compared" 110 (by kernel_rfl) (by kernel_rfl) (by kernel_rfl) (fun _ _ _ _ _ _ => rfl) S H h
end
section
variable {c : Cx} {T : Fz}
/-- a Decimal that is n in units of 10 ^ -P -/
def Dv (T : Fz) (v : Value) (n : Int) (P : Nat) : Prop := ∃ t p, DecT T v t p ∧ p ≤ P ∧ n = t * 10 ^ (P - p)
def Nv (T : Fz) (v : Value) (n : Int) (P : Nat) : Prop := Dv T v n P ∨ ∃ i k, v = .int i k ∧ n = i * 10 ^ P
theorem Dv.mono {T T' : Fz} {v : Value} {n : Int} {P : Nat} (h : Dv T v n P) (e : Fle T T') : Dv T' v n P := let ⟨t, p, x, y⟩ := h; ⟨t, p, x.mono e, y⟩
theorem Nv.mono {T T' : Fz} {v : Value} {n : Int} {P : Nat} (h : Nv T v n P) (e : Fle T T') : Nv T' v n P := h.imp (fun x => x.mono e) id
theorem Dv.up {v : Value} {n : Int} {P : Nat} (h : Dv T v n P) (k : Nat) : Dv T v (n * 10 ^ k) (P + k) := by
  obtain ⟨t, p, x, y, rfl⟩ := h
  refine ⟨t, p, x, by omega, ?_⟩
  rw [Int.mul_assoc, ← Int.pow_add, show P - p + k = P + k - p by omega]
end
end Mine
namespace Mine
section
variable {c : Cx} {P : Ent} {T : Fz} {L : Addr} {ks gs : List Str} {vs : List (Option Value)} {M M' : List (Addr × Obj)} {s : Shared} {env : Env} {A : Around} {Mo : Model} {E : Value → Shared → Prop}
/-- values that are plain where they are stored -/
def notComp : Expr → Bool
  | .ListComp .. => false
  | .SetComp .. => false
  | .DictComp .. => false
  | .Tuple .. => false
  | _ => true
def notCompT : Expr → Bool
  | .ListComp .. => false
  | .SetComp .. => false
  | .DictComp .. => false
  | _ => true
theorem swaps_false {value : Expr} {t : Option Expr} {n : Nat} (h : notCompT value = true) : swapsWith value t n env = pure false := by
  cases value <;> first | rfl | (cases h; done)
theorem notC {value : Expr} (h : notComp value = true) : notCompT value = true := by cases value <;> first | rfl | (cases h; done)
theorem asgN {x : Str} {p' pos : Pos} {value : Expr} {rest : List Stmt} {Q : Flow → Shared → Prop}
    (h : W Mo A (eval value env) (fun v s₁ => W Mo A (storeName env x v) (fun _ s₂ => W Mo A (execs rest env) Q E s₂) E s₁) E s)
    (hs : notCompT value = true := by with_unfolding_all rfl) : W Mo A (execs (.Assign [.Name x p'] value pos :: rest) env) Q E s := asg h (swaps_false hs)
theorem asgTN {elts : List Expr} {k : Nat} {tp pos : Pos} {value : Expr} {rest : List Stmt} {Q : Flow → Shared → Prop}
    (h : W Mo A (eval value env) (fun v s₁ => W Mo A (assign (.Tuple elts k tp) env v) (fun _ s₂ => W Mo A (execs rest env) Q E s₂) E s₁) E s)
    (hs : notComp value = true := by with_unfolding_all rfl) : W Mo A (execs (.Assign [.Tuple elts k tp] value pos :: rest) env) Q E s :=
  asgT h (by unfold swapsWithSole; exact swaps_false (notC hs)) (by cases value <;> first | rfl | (cases hs; done))
theorem asgAN {o value : Expr} {at_ : Str} {p' pos : Pos} {rest : List Stmt} {Q : Flow → Shared → Prop}
    (h : W Mo A (eval value env) (fun v s₁ => W Mo A (eval o env) (fun ov s₂ => W Mo A (setAttr ov at_ v) (fun _ s₃ => W Mo A (execs rest env) Q E s₃) E s₂) E s₁) E s)
    (hs : notCompT value = true := by with_unfolding_all rfl) : W Mo A (execs (.Assign [.Attribute o at_ p'] value pos :: rest) env) Q E s := asgA h (swaps_false hs)
theorem exS {p : Program} {w : World} {e : Expr} {pos : Pos} {rest : List Stmt} {Q : Flow → Shared → Prop} (F : Fn env L ks gs) (h : W (model p w) A (eval e env) (fun _ s => W (model p w) A (execs rest env) Q E s) E s)
    (hs : notCompT e = true := by with_unfolding_all rfl) : W (model p w) A (execs (.Expr e pos :: rest) env) Q E s :=
  seq (.of (wpAny_Expr_any (wpAny_mono h.un (fun _ _ x => x) fun _ _ x => x) (by unfold interactive; rw [F.kind]; rfl) (swaps_false hs)))
def prv (n i : Nat) : Nat := if i = 0 then n - 1 else i - 1
theorem prv_lt {n i : Nat} (h : i < n) : prv n i < n := by unfold prv; split <;> omega
theorem itAt {p : Program} {w : World} {value slice : Expr} {a : Addr} {l : List Value} {x : Value} {u : Tok} {Q : Value → Shared → Prop} (S : St c P T L ks vs M s) (H : LstT T a l) (i : Nat) (hx : l[i]? = some x) (hz : l.length ≤ 10000) (h : Q x s)
    (hs : subscripted slice false (.ref a) (.int (i : Int) u) = operate [.ref a, .int (i : Int) u] (getItem (.ref a) (.int (i : Int) u)) := by kernel_rfl) : W (model p w) A (subscriptTail value slice (.ref a) (.int (i : Int) u)) Q E s :=
  itL (H.at S.toIn) i ⟨.inl rfl, (List.getElem?_eq_some_iff.mp hx).1⟩ hx (by omega) h hs
theorem itPrev {p : Program} {w : World} {value slice : Expr} {a : Addr} {l : List Value} {x : Value} {u : Tok} {Q : Value → Shared → Prop} (S : St c P T L ks vs M s) (H : LstT T a l) (i : Nat) (hi : i < l.length) (hx : l[prv l.length i]? = some x) (hz : l.length ≤ 10000) (h : Q x s)
    (hs : subscripted slice false (.ref a) (.int ((i : Int) - 1) u) = operate [.ref a, .int ((i : Int) - 1) u] (getItem (.ref a) (.int ((i : Int) - 1) u)) := by kernel_rfl) : W (model p w) A (subscriptTail value slice (.ref a) (.int ((i : Int) - 1) u)) Q E s :=
  itL (H.at S.toIn) (prv l.length i) ⟨by unfold prv; split <;> omega, (List.getElem?_eq_some_iff.mp hx).1⟩ hx (by omega) h hs
theorem nilX {Q : Flow → Shared → Prop} (h : Q .next s) : W Mo A (execs [] env) Q E s := .of (wpAny_execs_nil h)
theorem thnN {rest : List Stmt} {Q : Flow → Shared → Prop} (h : W Mo A (execs rest env) Q E s) : thn Mo A env rest Q E .next s := h
def CelT (T : Fz) (a : Addr) (v : Value) : Prop := ∃ o, T a = some o ∧ o.data = .cell (some v)
theorem CelT.mono {T T' : Fz} {a : Addr} {v : Value} (h : CelT T a v) (e : Fle T T') : CelT T' a v := let ⟨o, x, y⟩ := h; ⟨o, e _ _ x, y⟩
theorem rdCT {x : Str} {a : Addr} {pos : Pos} {v : Value} {Q : Value → Shared → Prop} (Z : Cl env x a) (S : St c P T L ks vs M s) (H : CelT T a v) (k : Q v s) : W Mo A (eval (.Name x pos) env) Q E s :=
  let ⟨o, e, hd⟩ := H
  rdC Z ⟨o, S.sub _ _ e, hd⟩ k
theorem ts0 {Q : Bool → Shared → Prop} (h : Q true s) : tsts Mo A env [] Q s := h
theorem ts1 {t : Expr} {Q : Bool → Shared → Prop} (h : W Mo A (isTrue t env (eval t env)) Q NoE s) : tsts Mo A env [t] Q s := h
/-- a number of the top -/
theorem rdGI {x : Str} {pos : Pos} {i : Int} {k : Tok} {Q : Value → Shared → Prop} (F : Fn env L ks gs) (S : St c P T L ks vs M s) (h : Mm x gs) (e : nsIn c.K mainGlobals x = some (some (.int i k))) (q : Q (.int i k) s) : W Mo A (eval (.Name x pos) env) Q E s := rdG F S.toIn h.mem e q
theorem mApp {D : Addr} {l : List Value} {o' : Obj} {pl : Sem Bool} {Q : Value × List Value → Shared → Prop} (S : St c P T L ks vs M s) (U : MU D (lsO l) o' M M') (h : Q (.builtin "list.append", [.ref D]) s) : W Mo A (getMethod (.ref D) (Str.ofString "append") pl) Q E s :=
  .of (getMethod_list_append (S.led _ U.mem).1 rfl rfl h)
theorem cwB {id : String} {first : List Value} {pos : Pos} {a : Expr} {rest : List Expr} {Q : Value → Shared → Prop}
    (h : W Mo A (spliced (backTo pos (starEach (a :: rest) env))) (fun vs s₁ => W Mo A (call (.builtin id) (first ++ vs)) Q E s₁) E s)
    (h1 : starEach (a :: rest) env = (false, eval a env) :: starEach rest env := by kernel_rfl) (h2 : (backTo pos (starEach rest env)).any (·.1) = false := by kernel_rfl) :
    W Mo A (callWith pos (.builtin id) first (backTo pos (starEach (a :: rest) env)) []) Q E s :=
  .of (callWith_method1 (wpAny_mono h.un (fun vs s₁ q => q.un) fun _ _ x => x) h1 h2)
theorem appM {D : Addr} {l : List Value} {y : Value} {Q : Value → Shared → Prop} (S : St c P T L ks vs M s) (U : MU D (lsO l) (lsO (l ++ [y])) M M') (hz : l.length ≤ 10000) (h : ∀ s', St c P T L ks vs M' s' → Q .none s') :
    W (model c.p c.w) A (call (.builtin "list.append") [.ref D, y]) Q E s := by
  refine .of (append_at (hsz := by show l.toArray.size ≤ sizeLine; rw [List.size_toArray, sizeLine_eq]; omega) (S.led _ U.mem).1 fun h' hs hD => ?_)
  exact h _ (S.setM U hs (hD.trans (congrArg some (LCg.lst_snoc l y))) s.toks)
theorem newL0 {Q : Value → Shared → Prop} (S : St c P T L ks vs M s) (h : ∀ a s', P.N ≤ a → St c P T L ks vs ((a, lsO []) :: M) s' → Q (.ref a) s') : W Mo A (newList []) Q E s :=
  newLst S fun a s' hN S' => h a s' hN S'
theorem ls_list {D : Addr} {l : List Value} (S : St c P T L ks vs M s) (h : (D, lsO l) ∈ M) : s.heap.IsList D l.toArray := ⟨_, (S.led _ h).1, rfl, _, rfl⟩
theorem freezeL {D : Addr} {l : List Value} (S : St c P T L ks vs M s) (h : MD D (lsO l) M M') (hN : P.N ≤ D) : ∃ T', Fle T T' ∧ LstT T' D l ∧ St c P T' L ks vs M' s := by
  obtain ⟨T', le, e, S'⟩ := S.freeze h hN
  exact ⟨T', le, ⟨_, e, rfl, _, rfl⟩, S'⟩

theorem cmpA {elt target iter : Expr} {ifs : List Expr} {scope : Scope} {pos spos py : Pos} {y : Str} {rest : List Stmt} {Q : Flow → Shared → Prop} (ks' gs' fs' : List Str) (cl : List (Str × Addr))
    (h : W (model c.p c.w) A (eval iter env) (Cp c A env elt target iter ifs scope pos cl (some (assign (.Name y py) env)) (fun _ s' => W (model c.p c.w) A (execs rest env) Q NoE s')) NoE s) (F : Fn env L ks gs) (hy : y ∈ ks) (hclos : closureFor scope env = pure cl)
    (hc : cpChk scope ks' gs' fs' = true := by kernel_rfl) (hs : ∀ x, foldedSetIterable iter env x = pure x := by intro _; rfl)
    (hq : (py.line == (Expr.ListComp elt [⟨target, iter, ifs, 0⟩] scope pos).pos.line && !(scope.names.any fun (n, k) => n == y && (k == .local || k == .cell))) = true := by kernel_rfl) :
    W (model c.p c.w) A (execs (.Assign [.Name y py] (.ListComp elt [⟨target, iter, ifs, 0⟩] scope pos) spos :: rest) env) Q NoE s := by
  refine compA ks' gs' fs' cl h F hclos hc hs ?_
  show (pure (env.blockKind == .function && env.kindOf y == some .local && py.line == (Expr.ListComp elt [⟨target, iter, ifs, 0⟩] scope pos).pos.line && !(scope.names.any fun (n, k) => n == y && (k == .local || k == .cell))) : Sem Bool) = pure true
  have e1 : env.blockKind = .function := by unfold Env.blockKind; rw [F.kind]; rfl
  rw [e1, (F.lk y hy).1, Bool.and_assoc, hq]
  rfl
theorem cmpE0 {elt target iter : Expr} {ifs : List Expr} {scope : Scope} {pos : Pos} {Q : Value → Shared → Prop} (ks' gs' : List Str)
    (h : W (model c.p c.w) A (eval iter env) (Cp c A env elt target iter ifs scope pos [] none Q) NoE s) (F : Fn env L ks gs) (hf : (scope.names.all fun x => !(x.2 == .free)) = true := by kernel_rfl)
    (hc : cpChk scope ks' gs' [] = true := by kernel_rfl) (hs : ∀ x, foldedSetIterable iter env x = pure x := by intro _; rfl) :
    W (model c.p c.w) A (eval (.ListComp elt [⟨target, iter, ifs, 0⟩] scope pos) env) Q NoE s :=
  compE ks' gs' [] [] h F (closureFor_none fun x hx e => by have := List.all_eq_true.mp hf x hx; rw [e] at this; cases this) hc hs
theorem cmpA0 {elt target iter : Expr} {ifs : List Expr} {scope : Scope} {pos spos py : Pos} {y : Str} {rest : List Stmt} {Q : Flow → Shared → Prop} (ks' gs' : List Str)
    (h : W (model c.p c.w) A (eval iter env) (Cp c A env elt target iter ifs scope pos [] (some (assign (.Name y py) env)) (fun _ s' => W (model c.p c.w) A (execs rest env) Q NoE s')) NoE s) (F : Fn env L ks gs) (hy : y ∈ ks) (hf : (scope.names.all fun x => !(x.2 == .free)) = true := by kernel_rfl)
    (hc : cpChk scope ks' gs' [] = true := by kernel_rfl) (hs : ∀ x, foldedSetIterable iter env x = pure x := by intro _; rfl)
    (hq : (py.line == (Expr.ListComp elt [⟨target, iter, ifs, 0⟩] scope pos).pos.line && !(scope.names.any fun (n, k) => n == y && (k == .local || k == .cell))) = true := by kernel_rfl) :
    W (model c.p c.w) A (execs (.Assign [.Name y py] (.ListComp elt [⟨target, iter, ifs, 0⟩] scope pos) spos :: rest) env) Q NoE s :=
  cmpA ks' gs' [] [] h F hy (closureFor_none fun x hx e => by have := List.all_eq_true.mp hf x hx; rw [e] at this; cases this) hc hs hq
/-- one name in a cell -/
theorem clos1 {sc : Scope} {x : Str} {a : Addr} (Z : Cl env x a) (h : ∃ n₁ n₂, sc.names = n₁ ++ (x, .free) :: n₂ ∧ (n₁.all fun y => !(y.2 == .free)) = true ∧ (n₂.all fun y => !(y.2 == .free)) = true) : closureFor sc env = pure [(x, a)] := by
  obtain ⟨n₁, n₂, e, h1, h2⟩ := h
  have key : ∀ (l : List (Str × NameKind)) (acc : List (Str × Addr)), (l.all fun y => !(y.2 == .free)) = true →
      (forIn l acc fun (x : Str × NameKind) r => (match x with | (name, kind) => if (kind == NameKind.free) = true then do let a ← cellOf env name; pure (ForInStep.yield ((name, a) :: r)) else pure (ForInStep.yield r) : Sem (ForInStep (List (Str × Addr))))) = pure acc := by
    intro l
    induction l with
    | nil => intro acc _; rfl
    | cons y r ih =>
      intro acc h
      obtain ⟨n, k⟩ := y
      rw [List.all_cons, Bool.and_eq_true_iff] at h
      have hk : (k == NameKind.free) = false := by simpa using h.1
      rw [List.forIn_cons]
      simp only [hk, Bool.false_eq_true, if_false, pure_bind]
      exact ih acc h.2
  unfold closureFor
  rw [e]
  have hcell : cellOf env x = pure a := by unfold cellOf; rw [Z.cell]
  have go : ∀ (l : List (Str × NameKind)) (acc : List (Str × Addr)), (l.all fun y => !(y.2 == .free)) = true →
      (forIn (l ++ (x, NameKind.free) :: n₂) acc fun (x : Str × NameKind) r => (match x with | (name, kind) => if (kind == NameKind.free) = true then do let a ← cellOf env name; pure (ForInStep.yield ((name, a) :: r)) else pure (ForInStep.yield r) : Sem (ForInStep (List (Str × Addr))))) = pure ((x, a) :: acc) := by
    intro l
    induction l with
    | nil =>
      intro acc _
      rw [List.nil_append, List.forIn_cons]
      simp only [beq_self_eq_true, if_true, hcell, pure_bind]
      exact key n₂ _ h2
    | cons y r ih =>
      intro acc h
      obtain ⟨n, k⟩ := y
      rw [List.all_cons, Bool.and_eq_true_iff] at h
      have hk : (k == NameKind.free) = false := by simpa using h.1
      rw [List.cons_append, List.forIn_cons]
      simp only [hk, Bool.false_eq_true, if_false, pure_bind]
      exact ih acc h.2
  have := go n₁ [] h1
  show (forIn _ _ _ >>= _) = _
  first
    | (rw [show (forIn (n₁ ++ (x, NameKind.free) :: n₂) ([] : List (Str × Addr)) _ : Sem _) = _ from this]; rfl)
    | (simp only [bind_pure]; exact this)
end
end Mine
namespace Mine
section
variable {c : Cx} {P : Ent} {T : Fz} {L : Addr} {ks gs : List Str} {vs : List (Option Value)} {M : List (Addr × Obj)} {s : Shared} {env : Env} {A : Around} {Mo : Model} {E : Value → Shared → Prop}
def notName : Expr → Bool
  | .Name .. => false
  | _ => true
theorem plainTN {e : Expr} {whole : Sem Value} {Q : Bool → Shared → Prop} (h : W Mo A whole (fun v s₁ => ∃ b, v = .bool b ∧ Q b s₁) E s) (hn : notName e = true := by with_unfolding_all rfl)
    (he : isTrue e env whole = (do let v ← whole; standAt e.pos; holding [v] (truthy v)) := by kernel_rfl) : W Mo A (isTrue e env whole) Q E s := plainT h he
/-- a list's truth -/
theorem plainL {p : Program} {w : World} {e : Expr} {whole : Sem Value} {Q : Bool → Shared → Prop} (h : W (model p w) A whole (fun v s₁ => ∃ (a : Addr) (l : List Value), v = .ref a ∧ s₁.heap.IsList a l.toArray ∧ l.length ≤ 10000 ∧ ∀ t, Q (!l.isEmpty) { s₁ with toks := t }) E s)
    (he : isTrue e env whole = (do let v ← whole; standAt e.pos; holding [v] (truthy v)) := by kernel_rfl) : W (model p w) A (isTrue e env whole) Q E s :=
  .of (isTrue_plain (wpAny_mono h.un (fun v s₁ q => by
    obtain ⟨a, l, rfl, hl, hz, k⟩ := q
    refine wpAny_truthy_list hl (by rw [List.size_toArray]; omega) ?_
    have : l.toArray.isEmpty = l.isEmpty := by cases l <;> rfl
    rw [this]
    exact k _) fun _ _ x => x) he)
theorem St.retOwn {s₀ : Shared} {T' : Fz} {L' : Addr} {ks' : List Str} {vs' : List (Option Value)} {M' : List (Addr × Obj)} {D : Addr} {o : Obj} (S : St c P T L ks vs M s₀) (S' : St c ⟨s₀.heap.objs.size, T, s₀.heap.get?⟩ T' L' ks' vs' ((D, o) :: M') s) : St c P T' L ks vs ((D, o) :: M) s := by
  obtain ⟨h1, h2, h3, h4⟩ := S'.led _ (.head _)
  have h4 : s₀.heap.get? D = none := h4
  refine (S.ret S').own h1 h2 (fun e => ?_) ?_ fun hm => ?_
  · obtain ⟨m, ⟨o', _, _, e', _⟩, _⟩ := S.ns
    rw [← e, h4] at e'; cases e'
  · cases e : P.G D with
    | none => rfl
    | some o => have := S.keep _ _ e; rw [h4] at this; cases this
  · obtain ⟨p, hp, e⟩ := List.mem_map.mp hm
    have := (S.led p hp).1
    rw [show p.1 = D from e, h4] at this; cases this
theorem iabs {a : Int} {t : Tok} {Q : Value → Shared → Prop} (S : St c P T L ks vs M s) (h : ∀ b t s', 0 ≤ b → St c P T L ks vs M s' → Q (.int b t) s') : W (model c.p c.w) A (call (.builtin "abs") [.int a t]) Q E s :=
  .of (call_abs_int fun u tk => h _ _ _ (by split <;> omega) (S.tok tk))
theorem iint {p : Program} {w : World} {a : Int} {t : Tok} {Q : Value → Shared → Prop} (h : Q (.int a t) s) : W (model p w) A (call (.type "int") [.int a t]) Q E s := .of (call_int_int h)
theorem it0L {p : Program} {w : World} {value slice : Expr} {a : Addr} {l : List Value} {x : Value} {u : Tok} {Q : Value → Shared → Prop} (S : St c P T L ks vs M s) (H : LstT T a (x :: l)) (hz : l.length ≤ 10000) (h : Q x s)
    (hs : subscripted slice false (.ref a) (.int 0 u) = operate [.ref a, .int 0 u] (getItem (.ref a) (.int 0 u)) := by kernel_rfl) : W (model p w) A (subscriptTail value slice (.ref a) (.int 0 u)) Q E s :=
  itL (H.at S.toIn) 0 ⟨.inl rfl, by simp⟩ rfl (by rw [List.length_cons]; omega) h hs

/-- a list of four, turned in place -/
def L4 (o : Obj) (l : List Value) : Prop := o.cls = .type "list" ∧ ∃ n, o.data = .seq l.toArray n
theorem L4.at {D : Addr} {o : Obj} {l : List Value} (H : L4 o l) (S : St c P T L ks vs ((D, o) :: M) s) : s.heap.IsList D l.toArray := ⟨o, (S.led _ (.head _)).1, H.1, H.2⟩
theorem gM {p : Program} {w : World} {value slice : Expr} {D : Addr} {o : Obj} {l : List Value} {x : Value} {k : Nat} {u : Tok} {Q : Value → Shared → Prop} (S : St c P T L ks vs ((D, o) :: M) s) (H : L4 o l) (hx : l[k]? = some x) (hz : l.length ≤ 10000) (h : Q x s)
    (hs : subscripted slice false (.ref D) (.int (k : Int) u) = operate [.ref D, .int (k : Int) u] (getItem (.ref D) (.int (k : Int) u)) := by kernel_rfl) : W (model p w) A (subscriptTail value slice (.ref D) (.int (k : Int) u)) Q E s :=
  itL (H.at S) k ⟨.inl rfl, (List.getElem?_eq_some_iff.mp hx).1⟩ hx (by omega) h hs
theorem sM {D : Addr} {o : Obj} {l : List Value} {k : Nat} {u : Tok} {v : Value} {Q : Unit → Shared → Prop} (S : St c P T L ks vs ((D, o) :: M) s) (H : L4 o l) (hk : k < l.length) (hz : l.length ≤ 10000) (h : ∀ o' s', St c P T L ks vs ((D, o') :: M) s' → L4 o' (l.set k v) → Q () s') :
    W (model c.p c.w) A (setItem (.ref D) (.int (k : Int) u) v) Q E s := by
  refine .of (wpAny_setItem_list (H.at S) (by omega) (by omega) (by rw [List.size_toArray]; omega) fun h' hl hs => ?_)
  obtain ⟨o', ho, hc, n, hd⟩ := hl
  refine h o' _ (S.setM .head hs ho s.toks) ⟨hc, n, ?_⟩
  rw [hd]
  congr 1
  simp
theorem asgS {o i value : Expr} {p' pos : Pos} {rest : List Stmt} {Q : Flow → Shared → Prop}
    (h : W Mo A (eval value env) (fun v s₁ => W Mo A (eval o env) (fun ov s₂ => W Mo A (eval i env) (fun iv s₃ => W Mo A (setItem ov iv v) (fun _ s₄ => W Mo A (execs rest env) Q E s₄) E s₃) E s₂) E s₁) E s)
    (hs : notCompT value = true := by with_unfolding_all rfl) : W Mo A (execs (.Assign [.Subscript o i p'] value pos :: rest) env) Q E s :=
  seq (.of (wpAny_Assign_Subscript (wpAny_mono h.un (fun v s₁ h₁ => wpAny_mono h₁.un (fun ov s₂ h₂ => wpAny_mono h₂.un (fun iv s₃ h₃ => wpAny_mono h₃.un (fun _ _ x => x) fun _ _ x => x) fun _ _ x => x) fun _ _ x => x) fun _ _ x => x) (swaps_false hs)))
end
end Mine
namespace Mine
open Sem (wp)
section
variable {c : Cx} {A : Around} {E : Value → Shared → Prop} {h : Heap} {g : Array GenState} {d : Drawn} {t : Nat} {os : OsState}
abbrev pfObj : Obj := excClassObj (Str.ofString "PaintFault") (Str.ofString "PaintFault") 59 58 [.ref 46] [.ref 46, .type "Exception", .type "BaseException", .type "object"] true [] [] false none none (some (.ref 50)) none (some (.str (Str.ofString "PaintFault") 236)) (some (.str (Str.ofString "PaintFault") 244)) (some (.bool true)) "Exception.__new__"
theorem pf_cls (X : c.K.In h) : h.get? 59 = some pfObj := X _ _ rfl
theorem pf_hasT {x : Value} (e : (Value.ref 59 :: [.ref 46, .type "Exception", .type "BaseException", .type "object"]).contains x = true) : (Value.ref 59 :: [.ref 46, .type "Exception", .type "BaseException", .type "object"]).contains x = true := e
abbrev excF := PySem.F.excBase_Exception

theorem pf_check {rest : List Value} {Q : Unit → Shared → Prop} (X : c.K.In h) (hq : Q () ⟨h, g, d, t, os⟩) : wpAny (model c.p c.w) A (checkBuiltinCall "Exception.__new__" ⟨.ref 59 :: rest, []⟩) Q E ⟨h, g, d, t, os⟩ := by
  have hC := pf_cls X
  have hcont : (Value.ref 59 :: [.ref 46, .type "Exception", .type "BaseException", .type "object"]).contains (.type "Exception") = true := by decide
  have hstar := excF.noStar
  simp only [checkBuiltinCall, excF.newKind, excF.newSplit, excF.newRow]
  repeat (first | refine wpAny_loadPart_at hC ?_ | (refine wpAny_isSubtype_exc hC ?_; rw [hcont]) | refine wpAny_staticBase_exc hC ?_ | refine wpAny_madeBy_exc hC ?_ | simp only [bne_self_eq_false, Bool.false_eq_true, if_false] | wp_step)
  exact hq
abbrev tupO (l : List Value) : Obj := { cls := .type "tuple", data := .seq l.toArray }
abbrev exc0 (a : Addr) : Obj := { cls := .ref 59, data := .fields #[.ref a, .none, .none, .none, .bool false, .none] }
theorem pf_new {R : Result → Shared → Prop} {rest : List Value} (X : c.K.In h) (hrest : rest.length ≤ sizeLine)
    (hq : R (.ok (.ret (.ref (h.objs.size + 1)))) ⟨(h.push (tupO rest)).push (exc0 h.objs.size), g, d, t, os⟩) :
    codeAny (model c.p c.w) A (.builtin "Exception.__new__" ⟨.ref 59 :: rest, []⟩) R ⟨h, g, d, t, os⟩ := by
  have hC := pf_cls X
  have hends := excF.ends
  have hcB : (Value.ref 59 :: [.ref 46, .type "Exception", .type "BaseException", .type "object"]).contains (.type "Exception") = true := by decide
  have hcA : (Value.ref 59 :: [.ref 46, .type "Exception", .type "BaseException", .type "object"]).contains (.type "AttributeError") = false := by decide
  have hcN : (Value.ref 59 :: [.ref 46, .type "Exception", .type "BaseException", .type "object"]).contains (.type "NameError") = false := by decide
  refine codeAny_builtinAt excF.entry ?_
  unfold Builtin.«BaseException.__new__»
  refine PySem.wpAt_bind ?_
  show PySem.wpAt _ _ _ (stack >>= _) _ _ _
  refine PySem.wpAt_bind (PySem.wpAt_stack fun p below => PySem.wpAt_of_wpAny ?_)
  wp_walk
  refine PySem.wpAt_of_wpAny ?_
  rw [excF.owner]
  repeat (first | with_reducible refine wpAny_madeHere_exc excF.canon hC ?_ | with_reducible refine wpAny_loadPart_at hC ?_ | (with_reducible refine wpAny_isSubtype_exc hC ?_; first | rw [hcB] | rw [hcA] | rw [hcN]) | wp_step)
  show R _ _
  rw [Heap.size_push]
  exact hq
theorem pf_call {rest : List Value} {R : Result → Shared → Prop} (X : c.K.In h) (hrest : rest.length ≤ sizeLine)
    (hq : codeAny (model c.p c.w) (A.under (.builtin "type.__call__" ⟨.ref 59 :: rest, []⟩)) (.call (.ref 36) ⟨.ref (h.objs.size + 1) :: rest, []⟩) (InitBack (h.objs.size + 1) R) ⟨(h.push (tupO rest)).push (exc0 h.objs.size), g, d, t, os⟩) :
    codeAny (model c.p c.w) A (.call (.ref 59) ⟨rest, []⟩) R ⟨h, g, d, t, os⟩ := by
  have hC := pf_cls X
  have k : ∀ b o, h.get? b = some o → ((h.push (tupO rest)).push (exc0 h.objs.size)).get? b = some o := fun b o e => Heap.get?_push_of_some _ (Heap.get?_push_of_some _ e)
  have X₁ : c.K.In ((h.push (tupO rest)).push (exc0 h.objs.size)) := X.keeps k
  have call : Looks (model c.p c.w) h (specialOf (.ref 59) "__call__") (some (.builtin "type.__call__")) := looks_specialIn X (by rfl)
  have typ : Looks (model c.p c.w) h (isInstance (.ref 59) (.type "type")) true := looks_instIn X (by rfl)
  have hm : Looks (model c.p c.w) h (mroOf (.ref 59)) [.ref 59, .ref 46, .type "Exception", .type "BaseException", .type "object"] := ((Looks.ld (part := none) hC).andThen .now).andThen .now
  refine codeAny_of_tree ?_
  show wpAny _ _ (callAny (.ref 59) _) _ _ _
  refine nd_load hC ?_
  show wpAny _ _ (callAny.viaDunder (.ref 59) _) _ _ _
  unfold callAny.viaDunder
  refine wpAny_bind (call.at ?_)
  dsimp only
  rw [tc_bind]
  refine wpAny_bind (wpAny_pure (wpAny_bind (wpAny_pure ?_)))
  refine wpAny_pure (a := Fin.again (.call (.builtin "type.__call__") ⟨.ref 59 :: rest, []⟩)) (And.intro rfl ?_)
  refine codeAny_call_builtin_at (Code.quiet_builtin _ (by decide +kernel)) entry_typeCall (check_slot tc_kind tc_split typ (tc_args _ _ _) ?_)
  unfold Builtin.«type.__call__»
  repeat (first | with_reducible refine wpAny_loadPart_at hC ?_ | with_reducible refine wpAny_madeBy_exc hC ?_ | wp_step)
  refine codeAny_call_builtin_code (Code.quiet_builtin _ excF.quiet) (pf_check X ?_)
  refine pf_new X hrest ?_
  show wpAny _ _ _ _ _ _
  have hget : ((h.push (tupO rest)).push (exc0 h.objs.size)).get? (h.objs.size + 1) = some (exc0 h.objs.size) := by heap_get
  have t1 : Looks (model c.p c.w) ((h.push (tupO rest)).push (exc0 h.objs.size)) (typeOf (.ref (h.objs.size + 1))) (.ref 59) := (Looks.ld hget).andThen .now
  have s1 : Looks (model c.p c.w) ((h.push (tupO rest)).push (exc0 h.objs.size)) (isSubtype (.ref 59) (.ref 59)) true := looks_subIn X₁ (by rfl)
  have i1 : Looks (model c.p c.w) ((h.push (tupO rest)).push (exc0 h.objs.size)) (typeLookup (.ref 59) "__init__") (some (.ref 36)) := looks_findIn X₁ (by rfl)
  have b1 : Looks (model c.p c.w) ((h.push (tupO rest)).push (exc0 h.objs.size)) (bindSpecial (.ref 36) (.ref (h.objs.size + 1))) (.ref 36, [.ref (h.objs.size + 1)]) := bind_fn X₁ _ (by rfl)
  unfold isInstance callSpecial? specialOf
  repeat (first | with_reducible refine wpAny_call ?_ | lk)
  refine codeAny_mono hq fun r s' z => ?_
  rcases r with e | (v | _ | _ | _) <;> first | exact z | exact z.elim | skip
  obtain ⟨rfl, z⟩ := z
  exact wpAny_pure (wpAny_pure z)
end
end Mine
namespace Mine
open Sem (wp)
open Builtin Builtin.ObjectAttr
abbrev xO (dd : Option Addr) (a : Addr) : Obj := { cls := .ref 59, dict := dd, data := .fields #[.ref a, .none, .none, .none, .bool false, .none] }
section
variable {c : Cx} {A : Around} {E : Value → Shared → Prop} {h : Heap} {g : Array GenState} {d : Drawn} {t : Nat} {os : OsState} {x a : Addr} {dd : Option Addr} {mA : Str → Option Value} {name : Str} {v : Value}
theorem pf_mro (X : c.K.In h) : Looks (model c.p c.w) h (mroOf (.ref 59)) [.ref 59, .ref 46, .type "Exception", .type "BaseException", .type "object"] := by
  have hC := pf_cls X
  exact ((Looks.ld (part := none) hC).andThen .now).andThen .now
theorem xo_check {o : Obj} {rest : List Value} {Q : Unit → Shared → Prop} (X : c.K.In h) (he : h.get? x = some o) (hcls : o.cls = .ref 59) (hq : Q () ⟨h, g, d, t, os⟩) :
    wpAny (model c.p c.w) A (checkBuiltinCall "Exception.__init__" ⟨.ref x :: rest, []⟩) Q E ⟨h, g, d, t, os⟩ := by
  have hC := pf_cls X
  have hcB : (Value.ref 59 :: [.ref 46, .type "Exception", .type "BaseException", .type "object"]).contains (.type "Exception") = true := by decide
  have hshort := excF.noStar
  simp only [checkBuiltinCall, excF.initKind, excF.initSplit, excF.initRow]
  repeat (first | (with_reducible refine wpAny_loadPart_at he ?_; rw [hcls]) | with_reducible refine wpAny_loadPart_at hC ?_ | (with_reducible refine wpAny_isSubtype_exc hC ?_; rw [hcB]) | wp_step)
  refine wpAny_onRaise ?_
  rw [show ∀ (a b : String) (n : Nat), Bind.check ⟨.positional, "*", "Exception", .self, [⟨"args", .varPos, false⟩]⟩ a b n (List.map (fun x => x.fst) ({ pos := Value.ref x :: rest } : Args).kw) = pure () from
    fun a b n => check_star_args _ _ _ _ _ _]
  exact wpAny_pure hq
/-- Exception.__init__(self, what) -/
theorem xo_init {Q : Value → Shared → Prop} (X : c.K.In h) (hx : h.get? x = some (xO dd a))
    (hq : ∀ h' a', h'.get? x = some (xO dd a') → (∀ b o, b ≠ x → h.get? b = some o → h'.get? b = some o) → Q .none ⟨h', g, d, t, os⟩) :
    wpAny (model c.p c.w) A (call (.builtin "Exception.__init__") [.ref x, v]) Q E ⟨h, g, d, t, os⟩ := by
  refine wpAny_call (codeAny_call_builtin excF.init.plain excF.initEntry (xo_check X hx rfl ?_))
  have e1 : (h.push (tupO [v])).get? x = some (xO dd a) := Heap.get?_push_of_some _ hx
  wp_walk
  refine hq _ h.objs.size ?_ fun b o hb e => ?_
  · rw [Heap.get?_update_self _ e1 rfl]
    rfl
  · rw [Heap.get?_update_other _ _ (Ne.symm hb)]
    exact Heap.get?_push_of_some _ e
end
end Mine
namespace Mine
open Sem (wp)
open Builtin Builtin.ObjectAttr
section
variable {c : Cx} {A : Around} {E : Value → Shared → Prop} {h : Heap} {g : Array GenState} {d : Drawn} {t : Nat} {os : OsState} {x a dx : Addr} {dd : Option Addr} {mA : Str → Option Value} {name : Str} {v : Value}
abbrev stF := PySem.F.store_Exception
theorem xs_check {o : Obj} {nameV : Value} {Q : Unit → Shared → Prop} (X : c.K.In h) (hx : h.get? x = some o) (hc : o.cls = .ref 59) (hq : Q () ⟨h, g, d, t, os⟩) :
    wpAny (model c.p c.w) A (checkBuiltinCall "object.__setattr__" ⟨[.ref x, nameV, v], []⟩) Q E ⟨h, g, d, t, os⟩ := by
  have hT : Looks (model c.p c.w) h (typeOf (.ref x)) (.ref 59) := hc ▸ (Looks.ld hx).andThen .now
  have hsub : Looks (model c.p c.w) h (isSubtype (.ref 59) (.type "object")) true := looks_subIn X (by rfl)
  have hins : Looks (model c.p c.w) h (isInstance (.ref x) (.type "object")) true := hT.andThen hsub
  exact @check_slot (model c.p c.w) _ _ ⟨h, g, d, t, os⟩ "object.__setattr__" "object" "__setattr__" (.ref x) [nameV, v] [] _ stF.kind stF.split hins (stF.args _ _ _) hq
theorem xs_open {Q : Unit → Shared → Prop} (X : c.K.In h) (hx : h.get? x = some (xO dd a)) (hn : findIn c.K (.ref 59) name = some none)
    (hq : ∀ (Q' : Fin → Shared → Prop) A', (∀ s', Q () s' → Q' (.done (.ret .none)) s') → wpAny (model c.p c.w) A' (storeInOwnDict (.ref x) (.ref 59) (.str name t) name v false) Q' E ⟨h, g, d, t + 1, os⟩) :
    wpAny (model c.p c.w) A (setAttr (.ref x) name v) Q E ⟨h, g, d, t, os⟩ := by
  have f3 := stF.slot.bind (.ref x)
  have hT : Looks (model c.p c.w) h (typeOf (.ref x)) (.ref 59) := (Looks.ld hx).andThen .now
  have hs : Looks (model c.p c.w) h (typeLookup (.ref 59) "__setattr__") (some (.builtin "object.__setattr__")) := looks_findIn X (by rfl)
  have hl : Looks (model c.p c.w) h (typeLookup (.ref 59) name) none := looks_findIn X hn
  have hm := pf_mro (c := c) X
  have hpass := stF.passes (.ref x)
  unfold setAttr callSpecial? specialOf
  repeat (first | rw [f3] | with_reducible refine wpAny_call ?_ | lk)
  refine codeAny_call_builtin stF.slot.plain stF.entry (xs_check X hx rfl ?_)
  show wpAny _ _ (Builtin.«object.__setattr__» ⟨[.ref x, .str name t, v], []⟩) _ _ _
  rw [osa_eq, refuse_eq]
  refine wpAny_bind (wpAny_bind (hT.at (wpAny_bind (hm.at ?_))))
  rw [refuseLoop_ref, refuseLoop_ref, hpass]
  refine wpAny_pure (wpAny_bind (hT.at (wpAny_bind (hl.at (wpAny_bind (wpAny_pure ?_))))))
  refine wpAny_mono (hq _ _ fun s' q => ?_) (fun _ _ x => x) (fun _ _ x => x)
  exact wpAny_pure (wpAny_pure q)
theorem ns_cons {h : Heap} {dx : Addr} (hn : h.Ns1 dx (fun y => if y = name then some v else none)) : ∃ n, h.Ns1 dx n ∧ Within n [name] :=
  ⟨_, hn, fun y hy => by by_cases q : y = name <;> simp_all⟩
theorem xs_new {Q : Unit → Shared → Prop} (X : c.K.In h) (hx : h.get? x = some (xO none a)) (hn : findIn c.K (.ref 59) name = some none)
    (hq : ∀ h' tk dx, h'.get? x = some (xO (some dx) a) → dx ≠ x → h.get? dx = none → h'.Ns1 dx (fun y => if y = name then some v else none) → (∀ b o, b ≠ x → h.get? b = some o → h'.get? b = some o) → Q () ⟨h', g, d, tk, os⟩) :
    wpAny (model c.p c.w) A (setAttr (.ref x) name v) Q E ⟨h, g, d, t, os⟩ := by
  refine xs_open X hx hn fun Q' A' hQ => ?_
  have hC := pf_cls X
  have hxs : x ≠ h.objs.size := Nat.ne_of_lt (Heap.lt_size hx)
  have hcd : Looks (model c.p c.w) h (classData 59) _ := (Looks.ld (part := none) hC).andThen .now
  have hx₁ : (h.push { cls := .type "dict", data := .dict #[] }).get? x = some (xO none a) := Heap.get?_push_of_some _ hx
  refine wpAny_bind (wpAny_pure (wpAny_bind (wpAny_bind (wpAny_loadPart hx (wpAny_bind (hcd.at ?_))))))
  refine wpAny_bind (wpAny_alloc' ?_)
  refine wpAny_bind (wpAny_update' hx₁ ?_)
  refine wpAny_pure ?_
  have hgd : ((h.push { cls := .type "dict", data := .dict #[] }).update x fun o => { cls := o.cls, dict := some h.objs.size, data := o.data, slots := o.slots }).get? h.objs.size
      = some { cls := .type "dict", data := .dict #[] } :=
    (Heap.get?_update_ne _ _ _ _ hxs.symm).trans (Heap.get?_push_at rfl rfl)
  have hnd : ((h.push { cls := .type "dict", data := .dict #[] }).update x fun o => { cls := o.cls, dict := some h.objs.size, data := o.data, slots := o.slots }).Ns h.objs.size (fun _ => none) :=
    ⟨_, #[], _, hgd, rfl, fun e he => absurd he (by simp), fun _ => rfl⟩
  show wpAny _ _ (storeInDict h.objs.size (.str name _) name v) _ _ _
  unfold storeInDict newKeyGuard
  refine wpAny_bind (wpAny_pure (wpAny_bind (wpAny_nsSet1 (Heap.Ns1.of_empty hnd) fun h' hn' hs => ?_)))
  obtain ⟨oD, esD, epD, hoD, hdD, hcD⟩ := hn'.count (Within.cons name v Within.nil)
  refine wpAny_bind (wpAny_lookBehind hoD (by rw [hdD]; exact pastItsLine_dict (Nat.le_trans hcD (by rw [List.length_cons, List.length_nil, sizeLine_eq]; omega))) ?_)
  refine wpAny_pure (hQ _ (hq h' _ h.objs.size ((hs.2 x hxs).trans (Heap.get?_update_self _ hx₁ rfl)) hxs.symm (get_size h) hn' fun b o hb e => ?_))
  exact (hs.2 b (Nat.ne_of_lt (Heap.lt_size e))).trans ((Heap.get?_update_ne _ _ _ _ hb).trans (Heap.get?_push_of_some _ e))
theorem xs_old {Q : Unit → Shared → Prop} {ns : List Str} (X : c.K.In h) (hx : h.get? x = some (xO (some dx) a)) (hn : findIn c.K (.ref 59) name = some none) (hd : h.Ns1 dx mA) (hw : Within mA ns) (hz : ns.length ≤ 100)
    (hq : ∀ h' tk, (∀ b o, b ≠ dx → h.get? b = some o → h'.get? b = some o) → Q () ⟨h', g, d, tk, os⟩) :
    wpAny (model c.p c.w) A (setAttr (.ref x) name v) Q E ⟨h, g, d, t, os⟩ := by
  refine xs_open X hx hn fun Q' A' hQ => ?_
  have hC := pf_cls X
  have hcd : Looks (model c.p c.w) h (classData 59) _ := (Looks.ld (part := none) hC).andThen .now
  refine wpAny_bind (wpAny_pure (wpAny_bind (wpAny_bind (wpAny_loadPart hx (wpAny_bind (hcd.at (wpAny_pure ?_)))))))
  show wpAny _ _ (storeInDict dx (.str name _) name v) _ _ _
  unfold storeInDict newKeyGuard
  refine wpAny_bind (wpAny_pure (wpAny_bind (wpAny_nsSet1 hd fun h' hn' hs => ?_)))
  obtain ⟨oD, esD, epD, hoD, hdD, hcD⟩ := hn'.count (Within.cons name v hw)
  refine wpAny_bind (wpAny_lookBehind hoD (by rw [hdD]; exact pastItsLine_dict (Nat.le_trans hcD (by rw [List.length_cons, sizeLine_eq]; omega))) ?_)
  exact wpAny_pure (hQ _ (hq h' _ fun b o hb e => (hs.2 b hb).trans e))
end
end Mine
namespace Mine
local macro_rules | `(tactic| gn_look) => `(tactic| first | with_reducible exact Has.head | (with_reducible apply Has.tail); gn_look)
local macro_rules | `(tactic| gp_look) => `(tactic| first | with_reducible exact Put.head | (with_reducible apply Put.tail); gp_look)
local macro_rules | `(tactic| gn_other) => `(tactic| first | with_reducible exact Mm.head | (with_reducible apply Mm.tail); gn_other)
local macro_rules | `(tactic| k_acc1) => `(tactic| first | with_reducible exact MU.head | (with_reducible apply MU.tail); k_acc1)
local macro_rules | `(tactic| k_ownname) => `(tactic| with_reducible first | exact g_sign_of | exact g_decimal_of | exact g_at_one_scale | exact g_pair_of | exact g_is_shut | exact g_current_point | exact g_move_to | exact g_path_with | exact g_line_to | exact g_close_path | exact g_curve_points | exact g_flat_part | exact g_flattened | exact g_lines_of | exact g_places_of | exact g_at_places | exact g_whole_edges | exact g_crossing | exact g_winding_number | exact g_winding | exact g_is_filled | exact g_is_inside | exact g_doubled_area | exact g_law_box | exact g_law_draw | exact g_law_path | exact g_law_round | exact g_law_area | exact g_law_refused | exact g_law | exact g_PaperError | exact g_PaintFault | exact g_Decimal | exact g_Path)
local macro_rules | `(tactic| k_strName) => `(tactic| with_reducible first | exact b_len | exact b_range | exact b_isinstance | exact b_max | exact b_tuple | exact b_list | exact b_reversed | exact b_abs | exact b_int | exact b_str | exact b_bool)
local macro_rules | `(tactic| k_rangeUnr) => `(tactic| ((with_reducible show W _ _ (eval _ _) _ _ _); first
  | (with_reducible refine rd (by assumption) (by assumption) (by gn_look) ?_)
  | (with_reducible refine cI (by assumption) ?_); intro t s S
  | (with_reducible refine cS (by assumption) ?_); intro t s S
  | (with_reducible refine binE ?_)
  | (with_reducible refine attrE ?_)
  | (with_reducible refine slcE ?_)
  | (with_reducible refine subE ?_)
  | (with_reducible refine tupE ?_)
  | (with_reducible refine callMt ?_)
  | (with_reducible refine slUpto ?_)
  | (with_reducible refine slFrom ?_)
  | (with_reducible refine callF (by assumption) (by assumption) (by gn_other) (by k_ownname) ?_)
  | (with_reducible refine callBi (by assumption) (by assumption) (by gn_other) (by k_strName) ?_)
  | (with_reducible refine callTy (by assumption) (by assumption) (by gn_other) (by k_strName) ?_)
  | (with_reducible refine cmpE ?_)
  | (with_reducible refine ifx ?_)
  | (with_reducible refine unE ?_)
  | (with_reducible refine lstE ?_)
  | (with_reducible refine cB ?_)
  | (with_reducible refine cN ?_)
  | (with_reducible refine rdGF (by assumption) (by assumption) (by gn_other) (by k_ownname) ?_)
  | (with_reducible refine rdBF (by assumption) (by assumption) (by gn_other) (by k_strName) ?_)
  | (with_reducible refine rdCT (by assumption) (by assumption) (by assumption) ?_)))
local macro_rules | `(tactic| k_listUnr) => `(tactic| ((with_reducible show W _ _ (execs _ _) _ _ _); first
  | (with_reducible refine asgN ?_)
  | (with_reducible refine exS (by assumption) ?_)
  | (with_reducible refine iff_ ?_)
  | (with_reducible refine ret ?_)
  | (with_reducible refine asgTN ?_)
  | (with_reducible refine asgAN ?_)
  | (with_reducible refine asgS ?_)
  | (with_reducible refine thn_next ?_)
  | (with_reducible refine rq_nil ?_)
  | (with_reducible refine nilX ?_)))
local macro_rules | `(tactic| k_strUnr) => `(tactic| ((with_reducible show W _ _ (PySem.isTrue _ _ _) _ _ _); first
  | (with_reducible refine cmpT ?_)
  | (with_reducible refine chT ?_)
  | (with_reducible refine andT ?_)
  | (with_reducible refine orT ?_)
  | (with_reducible refine andN ?_)
  | (with_reducible refine orN ?_)
  | (with_reducible refine notT ?_)
  | (with_reducible refine plainTN ?_)))
local macro_rules | `(tactic| k_bytesUnr) => `(tactic| ((with_reducible show W _ _ (compareOp _ _ _) _ _ _); first
  | (with_reducible refine ieq ?_)
  | (with_reducible refine ine ?_)
  | (with_reducible refine ilt ?_)
  | (with_reducible refine ile ?_)
  | (with_reducible refine igt ?_)
  | (with_reducible refine ige ?_)
  | (with_reducible refine seq_ ?_)
  | (with_reducible refine sne_ ?_)
  | (with_reducible refine bne_ ?_)
  | (with_reducible refine isN ?_)))
local macro_rules | `(tactic| k_revUnr) => `(tactic| ((with_reducible show W _ _ (binaryOp _ _ _) _ _ _); first
  | (with_reducible refine iadd (by assumption) ?_); intro t s S
  | (with_reducible refine isub (by assumption) ?_); intro t s S))
local macro_rules | `(tactic| k_obj1) => `(tactic| ((with_reducible show W _ _ (unaryOp _ _) _ _ _); first
  | (with_reducible refine ineg (by assumption) ?_); intro t s S))
local macro_rules | `(tactic| k_one) => `(tactic| ((with_reducible show W _ _ (spliced _) _ _ _); first
  | (with_reducible refine arg0 ?_)
  | (with_reducible refine arg ?_)))
local macro_rules | `(tactic| k_put) => `(tactic| ((with_reducible show W _ _ (storeName _ _ _) _ _ _); first
  | (with_reducible refine wr (by assumption) (by assumption) (by gp_look) ?_); intro s S))
local macro_rules | `(tactic| k_inBlock) => `(tactic| ((with_reducible show W _ _ (assignInOrder _ _) _ _ _); first
  | (with_reducible refine inN ?_)
  | (with_reducible refine in0 ?_)))
local macro_rules | `(tactic| k_inElt) => `(tactic| ((with_reducible show W _ _ (assign _ _ _) _ _ _); first
  | (with_reducible refine asN ?_)
  | (with_reducible refine unpT (by assumption) (Rm.hd (by assumption)) (by assumption) ?_); intro s S))
local macro_rules | `(tactic| k_get) => `(tactic| ((with_reducible show W _ _ (getAttr _ _ _) _ _ _); first
  | (with_reducible refine partsO (by assumption) (by assumption) ?_); intro s S
  | (with_reducible refine topD (by assumption) (by assumption) ?_); intro k s S
  | (with_reducible refine plD (by assumption) (by assumption) ?_); intro k s S))
local macro_rules | `(tactic| k_slotget) => `(tactic| ((with_reducible show W _ _ (getMethod _ _ _) _ _ _); first
  | (with_reducible refine m_plus (by assumption) (by assumption) ?_)
  | (with_reducible refine m_minus (by assumption) (by assumption) ?_)
  | (with_reducible refine m_times (by assumption) (by assumption) ?_)
  | (with_reducible refine m_compared (by assumption) (by assumption) ?_)
  | (with_reducible refine mApp (o' := lsO []) (by assumption) (by k_acc1) ?_)))
local macro_rules | `(tactic| k_slotset) => `(tactic| ((with_reducible show W _ _ (callWith _ _ _ _ _) _ _ _); first
  | (with_reducible refine callW (by assumption) (by first | exact kF_plus | exact kF_minus | exact kF_times | exact kF_compared) ?_)
  | (with_reducible refine cwB ?_)))
local macro_rules | `(tactic| k_stores12) => `(tactic| ((with_reducible show W _ _ (subscriptTail _ _ _ _) _ _ _); first
  | (with_reducible refine itLast (by assumption) (by assumption) ?_)
  | (with_reducible refine it0 (by assumption) (by assumption) ?_)
  | (with_reducible refine it1 (by assumption) (by assumption) ?_)
  | (with_reducible refine it2 (by assumption) (by assumption) ?_)
  | (with_reducible refine it3 (by assumption) (by assumption) ?_)))
local macro_rules | `(tactic| k_few) => `(tactic| first
  | (with_reducible refine thn_ret ?_)
  | (with_reducible refine thnN ?_)
  | (with_reducible refine ts0 ?_)
  | (with_reducible refine ts1 ?_)
  | (with_reducible refine rq_ret ?_)
  | (with_reducible refine toB ?_)
  | (with_reducible refine brT ?_)
  | (with_reducible refine brF ?_)
  | (with_reducible refine brNT ?_)
  | (with_reducible refine brNF ?_)
  | (with_reducible refine And.intro (St.K (by assumption)) ?_))
local macro_rules | `(tactic| k_node) => `(tactic| first | k_rangeUnr | k_one | k_listUnr | k_put | k_get | k_strUnr | k_stores12 | k_revUnr | k_bytesUnr | k_slotset | k_slotget | k_inElt | k_inBlock | k_obj1 | k_few)
local macro_rules | `(tactic| k_spoken) => `(tactic| repeat k_node)
section
variable {c : Cx} {P : Ent} {T : Fz} {L : Addr} {ks gs : List Str} {vs : List (Option Value)} {M : List (Addr × Obj)} {s : Shared} {env : Env} {A : Around} {E : Value → Shared → Prop}
theorem decNew {t : Int} {p : Nat} {t1 t2 : Tok} {Q : Value → Shared → Prop} (S : St c P T L ks vs M s) (hA : Rm A 2)
    (h : ∀ v T' s', Fle T T' → St c P T' L ks vs M s' → Dv T' v t p → Q v s') : W (model c.p c.w) A (call (.ref 155) [.int t t1, .int p t2]) Q E s :=
  dec_ok S.toIn hA fun v T' s' t' p' O D hp ht => h v T' s' O.le (S.out O) ⟨t', p', D, hp, ht⟩
theorem signOf {i : Int} {t : Tok} {Q : Value → Shared → Prop} (S : St c P T L ks vs M s) (hA : Rm A 1) (h : ∀ t' T' s', Fle T T' → St c P T' L ks vs M s' → Q (.int (sgn i) t') s') :
    W (model c.p c.w) A (call (.ref 166) [.int i t]) Q E s := sign_of_ok S.toIn hA fun t' T' s' O => h t' T' s' O.le (S.out O)
theorem decimalOf {v : Value} {n : Int} {k : Nat} {Q : Value → Shared → Prop} (S₀ : St c P T L ks vs M s) (hA : Rm A 3) (H : Nv T v n k)
    (h : ∀ v' T' s', Fle T T' → St c P T' L ks vs M s' → Dv T' v' n k → Q v' s') : W (model c.p c.w) A (call (.ref 173) [v]) Q E s := by
  refine enter [Str.ofString "value"] [Str.ofString "isinstance", Str.ofString "Decimal", Str.ofString "bool", Str.ofString "int"] [some v] S₀.toIn hA rfl rfl (by kernel_rfl) (BindsTo.of_eq rfl) (by kernel_rfl) (by kernel_rfl) (by kernel_rfl) fun env L s' F S' A' hA' => ?_
  rcases H with H | ⟨i, u, rfl, rfl⟩
  · obtain ⟨t, p, ⟨a, h1, h2, k1, k2, t1, t2, rfl, O⟩, H⟩ := id H
    k_spoken
    refine isO (by assumption) O (by kernel_rfl) ?_
    k_spoken
    exact h _ _ _ (Fle.refl _) (S₀.ret ‹_›) ‹Dv T _ _ _›
  · k_spoken
    refine isI (b := false) (by assumption) (by kernel_rfl) fun s S => ?_
    k_spoken
    refine isI (b := false) (by assumption) (by kernel_rfl) fun s S => ?_
    k_spoken
    refine isI (b := true) (by assumption) (by kernel_rfl) fun s S => ?_
    k_spoken
    refine decNew (p := 0) (by assumption) (hA'.le (by omega)) fun v T' s' le S D => ?_
    k_spoken
    refine h _ _ _ le (S₀.ret S) ?_
    have := D.up k
    rwa [Nat.zero_add] at this
end
theorem pw_small {n : Nat} (h : n ≤ 8) : Sm ((10 : Int) ^ n) := by
  have : n = 0 ∨ n = 1 ∨ n = 2 ∨ n = 3 ∨ n = 4 ∨ n = 5 ∨ n = 6 ∨ n = 7 ∨ n = 8 := by omega
  unfold Sm
  rcases this with rfl | rfl | rfl | rfl | rfl | rfl | rfl | rfl | rfl <;> decide
theorem scale_eq {t n : Int} {p q k : Nat} (hn : n = t * 10 ^ (k - p)) (hp : p ≤ q) (hq : q ≤ k) (e : Nat) (he : e = q - p) : n = t * 10 ^ e * 10 ^ (k - q) := by
  rw [hn, Int.mul_assoc, ← Int.pow_add, show e + (k - q) = k - p by omega]
section
variable {c : Cx} {P : Ent} {T : Fz} {L : Addr} {ks gs : List Str} {vs : List (Option Value)} {M : List (Addr × Obj)} {s : Shared} {env : Env} {A : Around} {E : Value → Shared → Prop}
theorem atOne {v w : Value} {n m : Int} {k : Nat} {Q : Value → Shared → Prop} (S₀ : St c P T L ks vs M s) (hA : Rm A 4) (H : Nv T v n k) (H' : Nv T w m k) (hk : k ≤ 8)
    (h : ∀ D T' s' a b (pl : Nat) ta tb tp, Fle T T' → St c P T' L ks vs M s' → TupT T' D [.int a ta, .int b tb, .int pl tp] → pl ≤ k → n = a * 10 ^ (k - pl) → m = b * 10 ^ (k - pl) → Q (.ref D) s') :
    W (model c.p c.w) A (call (.ref 180) [v, w]) Q E s := by
  refine enter [Str.ofString "one", Str.ofString "other", Str.ofString "first", Str.ofString "second", Str.ofString "places"] [Str.ofString "decimal_of", Str.ofString "max"] [some v, some w, none, none, none] S₀.toIn hA rfl rfl (by kernel_rfl) (BindsTo.of_eq rfl) (by kernel_rfl) (by kernel_rfl) (by kernel_rfl) fun env L s' F S' A' hA' => ?_
  k_spoken
  refine decimalOf (by assumption) hA' H fun v₁ T₁ s₁ le₁ S₁ D₁ => ?_
  replace H' := H'.mono le₁
  k_spoken
  refine decimalOf (by assumption) hA' H' fun v₂ T₂ s₂ le₂ S₂ D₂ => ?_
  replace D₁ := D₁.mono le₂
  obtain ⟨t₁, p₁, E₁, hp₁, e₁⟩ := D₁
  obtain ⟨t₂, p₂, E₂, hp₂, e₂⟩ := D₂
  k_spoken
  refine imax hA'.hd (by assumption) fun t s S => ?_
  k_spoken
  refine ipow (by omega) (by omega) (by decide) (by assumption) fun t s S => ?_
  refine imulR (pw_small (by omega)) (by assumption) fun t s S => ?_
  k_spoken
  refine ipow (by omega) (by omega) (by decide) (by assumption) fun t s S => ?_
  refine imulR (pw_small (by omega)) (by assumption) fun t s S => ?_
  k_spoken
  refine newTup (by assumption) fun D T' s' le H S => ?_
  k_spoken
  rw [show max (p₁ : Int) (p₂ : Int) = ((max p₁ p₂ : Nat) : Int) by omega] at H
  exact h _ _ _ _ _ _ _ _ _ ((le₁.trans le₂).trans le) (S₀.ret S) H (by omega) (scale_eq e₁ (by omega) (by omega) _ (by omega)) (scale_eq e₂ (by omega) (by omega) _ (by omega))

theorem addD (neg : Bool) {f : Addr} {a b k : Nat} : True := trivial
theorem plusD {v w : Value} {n m : Int} {k : Nat} {Q : Value → Shared → Prop} (S₀ : St c P T L ks vs M s) (hA : Rm A 5) (H : Dv T v n k) (H' : Nv T w m k) (hk : k ≤ 8)
    (h : ∀ D T' s', Fle T T' → St c P T' L ks vs M s' → Dv T' D (n + m) k → Q D s') : W (model c.p c.w) A (call (.ref 82) [v, w]) Q E s := by
  refine enter [Str.ofString "self", Str.ofString "other", Str.ofString "one", Str.ofString "two", Str.ofString "places"] [Str.ofString "at_one_scale", Str.ofString "Decimal"] [some v, some w, none, none, none] S₀.toIn hA rfl rfl (by kernel_rfl) (BindsTo.of_eq rfl) (by kernel_rfl) (by kernel_rfl) (by kernel_rfl) fun env L s' F S' A' hA' => ?_
  k_spoken
  refine atOne (by assumption) hA' (.inl H) H' hk fun D T₁ s₁ x y pl tx ty tp le₁ S₁ HT hpl e₁ e₂ => ?_
  k_spoken
  refine decNew (by assumption) (hA'.le (by omega)) fun D T₂ s₂ le₂ S₂ HD => ?_
  k_spoken
  refine h _ _ _ (le₁.trans le₂) (S₀.ret S₂) ?_
  have := HD.up (k - pl)
  rwa [show pl + (k - pl) = k by omega, Int.add_mul, ← e₁, ← e₂] at this
theorem minusD {v w : Value} {n m : Int} {k : Nat} {Q : Value → Shared → Prop} (S₀ : St c P T L ks vs M s) (hA : Rm A 5) (H : Dv T v n k) (H' : Nv T w m k) (hk : k ≤ 8)
    (h : ∀ D T' s', Fle T T' → St c P T' L ks vs M s' → Dv T' D (n - m) k → Q D s') : W (model c.p c.w) A (call (.ref 89) [v, w]) Q E s := by
  refine enter [Str.ofString "self", Str.ofString "other", Str.ofString "one", Str.ofString "two", Str.ofString "places"] [Str.ofString "at_one_scale", Str.ofString "Decimal"] [some v, some w, none, none, none] S₀.toIn hA rfl rfl (by kernel_rfl) (BindsTo.of_eq rfl) (by kernel_rfl) (by kernel_rfl) (by kernel_rfl) fun env L s' F S' A' hA' => ?_
  k_spoken
  refine atOne (by assumption) hA' (.inl H) H' hk fun D T₁ s₁ x y pl tx ty tp le₁ S₁ HT hpl e₁ e₂ => ?_
  k_spoken
  refine decNew (by assumption) (hA'.le (by omega)) fun D T₂ s₂ le₂ S₂ HD => ?_
  k_spoken
  refine h _ _ _ (le₁.trans le₂) (S₀.ret S₂) ?_
  have := HD.up (k - pl)
  rwa [show pl + (k - pl) = k by omega, Int.sub_mul, ← e₁, ← e₂] at this
theorem small_of {t n : Int} {p k : Nat} (h : n = t * 10 ^ (k - p)) (hn : Sm n) : Sm t := by
  unfold Sm at *
  have h1 : (0 : Int) < 10 ^ (k - p) := Int.pow_pos (by decide)
  have h2 : (1 : Int) ≤ 10 ^ (k - p) := h1
  subst h
  constructor
  · by_cases hs : 0 ≤ t
    · omega
    · have : t * 10 ^ (k - p) ≤ t * 1 := Int.mul_le_mul_of_nonpos_left (by omega) h2
      omega
  · by_cases hs : 0 ≤ t
    · have : t * 1 ≤ t * 10 ^ (k - p) := Int.mul_le_mul_of_nonneg_left h2 hs
      omega
    · omega
theorem timesD {v w : Value} {n m : Int} {k l : Nat} {Q : Value → Shared → Prop} (S₀ : St c P T L ks vs M s) (hA : Rm A 4) (H : Dv T v n k) (H' : Nv T w m l) (hn : Sm n)
    (h : ∀ D T' s', Fle T T' → St c P T' L ks vs M s' → Dv T' D (n * m) (k + l) → Q D s') : W (model c.p c.w) A (call (.ref 96) [v, w]) Q E s := by
  refine enter [Str.ofString "self", Str.ofString "other", Str.ofString "factor"] [Str.ofString "decimal_of", Str.ofString "Decimal"] [some v, some w, none] S₀.toIn hA rfl rfl (by kernel_rfl) (BindsTo.of_eq rfl) (by kernel_rfl) (by kernel_rfl) (by kernel_rfl) fun env L s' F S' A' hA' => ?_
  k_spoken
  refine decimalOf (by assumption) hA' H' fun v₂ T₁ s₁ le₁ S₁ D₂ => ?_
  replace H := H.mono le₁
  obtain ⟨t₁, p₁, E₁, hp₁, e₁⟩ := H
  obtain ⟨t₂, p₂, E₂, hp₂, e₂⟩ := D₂
  k_spoken
  refine imulL (small_of e₁ hn) (by assumption) fun t s S => ?_
  k_spoken
  rw [show (p₁ : Int) + (p₂ : Int) = ((p₁ + p₂ : Nat) : Int) by omega]
  refine decNew (by assumption) (hA'.le (by omega)) fun D T₂ s₂ le₂ S₂ HD => ?_
  k_spoken
  refine h _ _ _ (le₁.trans le₂) (S₀.ret S₂) ?_
  have := HD.up (k - p₁ + (l - p₂))
  rwa [show p₁ + p₂ + (k - p₁ + (l - p₂)) = k + l by omega, Int.pow_add, show t₁ * t₂ * (10 ^ (k - p₁) * 10 ^ (l - p₂)) = (t₁ * 10 ^ (k - p₁)) * (t₂ * 10 ^ (l - p₂)) by ac_rfl, ← e₁, ← e₂] at this
theorem sgn_zero {x y : Int} {k : Nat} : sgn (x - y) = 0 ↔ x * 10 ^ k = y * 10 ^ k := by
  have h1 : (10 : Int) ^ k ≠ 0 := Int.ne_of_gt (Int.pow_pos (by decide))
  constructor
  · intro h
    unfold sgn at h
    split at h
    · rw [show x = y by omega]
    · split at h <;> cases h
  · intro h
    have := Int.eq_of_mul_eq_mul_right h1 h
    unfold sgn
    rw [if_pos (by omega)]
theorem comparedD {v w : Value} {n m : Int} {k : Nat} {Q : Value → Shared → Prop} (S₀ : St c P T L ks vs M s) (hA : Rm A 5) (H : Dv T v n k) (H' : Nv T w m k) (hk : k ≤ 8)
    (h : ∀ T' s' i t, Fle T T' → St c P T' L ks vs M s' → (i = 0 ↔ n = m) → Q (.int i t) s') : W (model c.p c.w) A (call (.ref 110) [v, w]) Q E s := by
  refine enter [Str.ofString "self", Str.ofString "other", Str.ofString "one", Str.ofString "two", Str.ofString "places"] [Str.ofString "at_one_scale", Str.ofString "sign_of"] [some v, some w, none, none, none] S₀.toIn hA rfl rfl (by kernel_rfl) (BindsTo.of_eq rfl) (by kernel_rfl) (by kernel_rfl) (by kernel_rfl) fun env L s' F S' A' hA' => ?_
  k_spoken
  refine atOne (by assumption) hA' (.inl H) H' hk fun D T₁ s₁ x y pl tx ty tp le₁ S₁ HT hpl e₁ e₂ => ?_
  k_spoken
  refine signOf (by assumption) (hA'.le (by omega)) fun t T₂ s₂ le₂ S₂ => ?_
  k_spoken
  refine h _ _ _ _ (le₁.trans le₂) (S₀.ret S₂) ?_
  rw [e₁, e₂]
  exact sgn_zero
end
section
variable {T T' : Fz}
theorem Paired.mono {α β : Type} {R R' : α → β → Prop} (h : ∀ a b, R a b → R' a b) : ∀ {l : List α} {r : List β}, PySem.Paired R l r → PySem.Paired R' l r
  | _, _, .nil => .nil
  | _, _, .cons x y => .cons (h _ _ x) (Paired.mono h y)
theorem Paired.get {α β : Type} {R : α → β → Prop} : ∀ {l : List α} {r : List β}, PySem.Paired R l r → ∀ {i : Nat} {a : α}, l[i]? = some a → ∃ b, r[i]? = some b ∧ R a b
  | _, _, .cons x y, 0, a, h => ⟨_, rfl, by simp at h; exact h ▸ x⟩
  | _, _, .cons x y, i + 1, a, h => by
    obtain ⟨b, hb, q⟩ := Paired.get y (i := i) (a := a) (by simpa using h)
    exact ⟨b, by simpa using hb, q⟩
theorem Paired.append {α β : Type} {R : α → β → Prop} : ∀ {l l' : List α} {r r' : List β}, PySem.Paired R l r → PySem.Paired R l' r' → PySem.Paired R (l ++ l') (r ++ r')
  | _, _, _, _, .nil, h => h
  | _, _, _, _, .cons x y, h => .cons x (Paired.append y h)
theorem Paired.dropLast {α β : Type} {R : α → β → Prop} : ∀ {l : List α} {r : List β}, PySem.Paired R l r → PySem.Paired R l.dropLast r.dropLast
  | _, _, .nil => .nil
  | _, _, .cons x .nil => .nil
  | _, _, .cons x (.cons y z) => .cons x (Paired.dropLast (.cons y z))
theorem Paired.split {α β : Type} {R : α → β → Prop} : ∀ {l : List α} {r : List β} {b : β}, PySem.Paired R l (r ++ [b]) → ∃ l' a, l = l' ++ [a] ∧ PySem.Paired R l' r ∧ R a b
  | _, [], b, .cons x .nil => ⟨[], _, rfl, .nil, x⟩
  | _, c :: r, b, .cons x y => by
    obtain ⟨l', a, rfl, h1, h2⟩ := Paired.split (r := r) y
    exact ⟨_ :: l', a, rfl, .cons x h1, h2⟩

abbrev Pt := Int × Int
/-- a place: its tenths -/
def PtT (T : Fz) (v : Value) (p : Pt) : Prop := ∃ a vx vy, v = .ref a ∧ TupT T a [vx, vy] ∧ Dv T vx p.1 1 ∧ Dv T vy p.2 1
theorem PtT.mono {v : Value} {p : Pt} (h : PtT T v p) (e : Fle T T') : PtT T' v p := let ⟨a, vx, vy, h1, h2, h3, h4⟩ := h; ⟨a, vx, vy, h1, h2.mono e, h3.mono e, h4.mono e⟩
def SegT (T : Fz) (v : Value) (p : Pt) : Prop := ∃ a k tk pv, v = .ref a ∧ TupT T a [.str k tk, pv] ∧ (k = Str.ofString "move" ∨ k = Str.ofString "line") ∧ PtT T pv p
theorem SegT.mono {v : Value} {p : Pt} (h : SegT T v p) (e : Fle T T') : SegT T' v p := let ⟨a, k, tk, pv, h1, h2, h3, h4⟩ := h; ⟨a, k, tk, pv, h1, h2.mono e, h3, h4.mono e⟩
def ClsT (T : Fz) (v : Value) : Prop := ∃ a tk, v = .ref a ∧ TupT T a [.str (Str.ofString "close") tk]
theorem ClsT.mono {v : Value} (h : ClsT T v) (e : Fle T T') : ClsT T' v := let ⟨a, tk, h1, h2⟩ := h; ⟨a, tk, h1, h2.mono e⟩
/-- a part: its places, and whether it is shut -/
abbrev Prt := List Pt × Bool
def PartT (T : Fz) (v : Value) (q : Prt) : Prop := ∃ a l, v = .ref a ∧ PySem.Paired (SegT T) l q.1 ∧ ((q.2 = false ∧ TupT T a l) ∨ (q.2 = true ∧ ∃ c, ClsT T c ∧ TupT T a (l ++ [c])))
theorem PartT.mono {v : Value} {q : Prt} (h : PartT T v q) (e : Fle T T') : PartT T' v q :=
  let ⟨a, l, h1, h2, h3⟩ := h
  ⟨a, l, h1, Paired.mono (fun _ _ x => x.mono e) h2, h3.imp (fun x => ⟨x.1, x.2.mono e⟩) fun ⟨x, c, y, z⟩ => ⟨x, c, y.mono e, z.mono e⟩⟩
def PartsT (T : Fz) (t : Addr) (ps : List Prt) : Prop := ∃ l, TupT T t l ∧ PySem.Paired (PartT T) l ps
theorem PartsT.mono {t : Addr} {ps : List Prt} (h : PartsT T t ps) (e : Fle T T') : PartsT T' t ps := let ⟨l, h1, h2⟩ := h; ⟨l, h1.mono e, Paired.mono (fun _ _ x => x.mono e) h2⟩
def PthT (T : Fz) (v : Value) (ps : List Prt) : Prop := ∃ a h k t, v = .ref a ∧ ObjT T 214 a [⟨h, .str "parts" k, .ref t⟩] ∧ PartsT T t ps
theorem PthT.mono {v : Value} {ps : List Prt} (h : PthT T v ps) (e : Fle T T') : PthT T' v ps := let ⟨a, x, k, t, h1, h2, h3⟩ := h; ⟨a, x, k, t, h1, h2.mono e, h3.mono e⟩
end
section
variable {c : Cx} {P : Ent} {T : Fz} {L : Addr} {ks gs : List Str} {vs : List (Option Value)} {M : List (Addr × Obj)} {s : Shared} {env : Env} {A : Around} {E : Value → Shared → Prop}
theorem St.atB {a : Addr} {o : Obj} (S : St c P T L ks vs M s) (h : c.K.lookup a = some o) : T a = some o := S.bT _ _ (S.ok.K _ _ h)
theorem parts_ {v : Value} {ps : List Prt} {Q : Value → Shared → Prop} (S : St c P T L ks vs M s) (H : PthT T v ps) (h : ∀ t s', PartsT T t ps → St c P T L ks vs M s' → Q (.ref t) s') : W (model c.p c.w) A (getAttr v (Str.ofString "parts") true) Q E s := by
  obtain ⟨a, x, k, t, rfl, O, Z⟩ := H
  exact attr S O (at_ := none) (by kernel_rfl) (by kernel_rfl) (by kernel_rfl) (by kernel_rfl) (by rfl) (by rfl) fun s' S' => h _ _ Z S'
theorem partsO {a t : Addr} {x : Int} {k : Tok} {Q : Value → Shared → Prop} (S : St c P T L ks vs M s) (O : ObjT T 214 a [⟨x, .str (Str.ofString "parts") k, .ref t⟩]) (h : ∀ s', St c P T L ks vs M s' → Q (.ref t) s') : W (model c.p c.w) A (getAttr (.ref a) (Str.ofString "parts") true) Q E s :=
  attr S O (at_ := none) (by kernel_rfl) (by kernel_rfl) (by kernel_rfl) (by kernel_rfl) (by rfl) (by rfl) fun s' S' => h _ S'
theorem pathNew {t : Addr} {ps : List Prt} {Q : Value → Shared → Prop} (S : St c P T L ks vs M s) (hA : Rm A 2) (H : PartsT T t ps) (h : ∀ v T' s', Fle T T' → St c P T' L ks vs M s' → PthT T' v ps → Q v s') :
    W (model c.p c.w) A (call (.ref 214) [.ref t]) Q E s := by
  refine makeI (f := 211) [Str.ofString "self", Str.ofString "parts"] [] (fun x => [some (.ref x), some (.ref t)]) S.toIn hA (by kernel_rfl) (by kernel_rfl) (by kernel_rfl) rfl rfl (by kernel_rfl)
    (binds := fun x => [(Str.ofString "self", .ref x), (Str.ofString "parts", .ref t)]) (fun x s' hB => BindsTo.of_defaults rfl (hB _ _ (S.ok.K 204 _ rfl)) rfl rfl rfl) (by kernel_rfl) (fun x => by kernel_rfl) (fun x => by kernel_rfl) fun x dx T' env L s' hT hx hN F S' A' hA' => ?_
  k_spoken
  refine setA (by assumption) hx (fun _ => .head) (by kernel_rfl) (by kernel_rfl) (by kernel_rfl) (by kernel_rfl) (by kernel_rfl) (Nat.le_of_ble_eq_true rfl) fun h1 u1 s S₁ => ?_
  refine rq_nil ⟨rfl, ?_⟩
  obtain ⟨T'', hT', e, S₂⟩ := S₁.freeze .head hN
  exact h _ T'' _ (hT.trans hT') (S.ret S₂) ⟨x, _, _, t, rfl, ⟨dx, _, hT' _ _ hx, e⟩, H.mono (hT.trans hT')⟩
theorem pathNew0 {Q : Value → Shared → Prop} (S : St c P T L ks vs M s) (hA : Rm A 2) (h : ∀ v T' s', Fle T T' → St c P T' L ks vs M s' → PthT T' v [] → Q v s') :
    W (model c.p c.w) A (call (.ref 214) []) Q E s := by
  refine makeI (f := 211) [Str.ofString "self", Str.ofString "parts"] [] (fun x => [some (.ref x), some (.ref 203)]) S.toIn hA (by kernel_rfl) (by kernel_rfl) (by kernel_rfl) rfl rfl (by kernel_rfl)
    (binds := fun x => [(Str.ofString "self", .ref x), (Str.ofString "parts", .ref 203)]) (fun x s' hB => BindsTo.of_defaults rfl (hB _ _ (S.ok.K 204 _ rfl)) rfl rfl rfl) (by kernel_rfl) (fun x => by kernel_rfl) (fun x => by kernel_rfl) fun x dx T' env L s' hT hx hN F S' A' hA' => ?_
  k_spoken
  refine setA (by assumption) hx (fun _ => .head) (by kernel_rfl) (by kernel_rfl) (by kernel_rfl) (by kernel_rfl) (by kernel_rfl) (Nat.le_of_ble_eq_true rfl) fun h1 u1 s S₁ => ?_
  refine rq_nil ⟨rfl, ?_⟩
  obtain ⟨T'', hT', e, S₂⟩ := S₁.freeze .head hN
  exact h _ T'' _ (hT.trans hT') (S.ret S₂) ⟨x, _, _, 203, rfl, ⟨dx, _, hT' _ _ hx, e⟩, [], ⟨_, S₂.atB (a := 203) rfl, rfl, 0, rfl⟩, .nil⟩

theorem pairOf {v w : Value} {x y : Int} {Q : Value → Shared → Prop} (S₀ : St c P T L ks vs M s) (hA : Rm A 4) (H : Nv T v x 1) (H' : Nv T w y 1) (h : ∀ D T' s', Fle T T' → St c P T' L ks vs M s' → PtT T' D (x, y) → Q D s') :
    W (model c.p c.w) A (call (.ref 225) [v, w]) Q E s := by
  refine enter [Str.ofString "x", Str.ofString "y"] [Str.ofString "decimal_of"] [some v, some w] S₀.toIn hA rfl rfl (by kernel_rfl) (BindsTo.of_eq rfl) (by kernel_rfl) (by kernel_rfl) (by kernel_rfl) fun env L s' F S' A' hA' => ?_
  k_spoken
  refine decimalOf (by assumption) hA' H fun v₁ T₁ s₁ le₁ S₁ D₁ => ?_
  replace H' := H'.mono le₁
  k_spoken
  refine decimalOf (by assumption) hA' H' fun v₂ T₂ s₂ le₂ S₂ D₂ => ?_
  replace D₁ := D₁.mono le₂
  k_spoken
  refine newTup (by assumption) fun D T' s' le H S => ?_
  k_spoken
  exact h _ _ _ ((le₁.trans le₂).trans le) (S₀.ret S) ⟨_, _, _, rfl, H, D₁.mono le, D₂.mono le⟩
end
local macro_rules | `(tactic| k_get) => `(tactic| ((with_reducible show W _ _ (getAttr _ _ _) _ _ _); first
  | (with_reducible refine partsO (by assumption) (by assumption) ?_); intro s S
  | (with_reducible refine topD (by assumption) (by assumption) ?_); intro k s S
  | (with_reducible refine plD (by assumption) (by assumption) ?_); intro k s S))
theorem st_move_close : (Str.ofString "move" == Str.ofString "close") = false := by decide
theorem st_line_close : (Str.ofString "line" == Str.ofString "close") = false := by decide
theorem st_close_close : (Str.ofString "close" == Str.ofString "close") = true := by decide
theorem st_move_curve : (Str.ofString "move" == Str.ofString "curve") = false := by decide
theorem st_line_curve : (Str.ofString "line" == Str.ofString "curve") = false := by decide
theorem st_close_curve : (Str.ofString "close" == Str.ofString "curve") = false := by decide
section
variable {c : Cx} {P : Ent} {T : Fz} {L : Addr} {ks gs : List Str} {vs : List (Option Value)} {M : List (Addr × Obj)} {s : Shared} {env : Env} {A : Around} {E : Value → Shared → Prop}
theorem isShut {v : Value} {ps : List Pt} {b : Bool} {Q : Value → Shared → Prop} (S₀ : St c P T L ks vs M s) (hA : Rm A 1) (H : PartT T v (ps, b)) (hn : ps ≠ [])
    (h : ∀ T' s', Fle T T' → St c P T' L ks vs M s' → Q (.bool b) s') : W (model c.p c.w) A (call (.ref 232) [v]) Q E s := by
  refine enter [Str.ofString "part"] [] [some v] S₀.toIn hA rfl rfl (by kernel_rfl) (BindsTo.of_eq rfl) (by kernel_rfl) (by kernel_rfl) (by kernel_rfl) fun env L s' F S' A' hA' => ?_
  obtain ⟨a, l, rfl, Z, ⟨e, H⟩ | ⟨e, cv, ⟨ca, tk, rfl, Hc⟩, H⟩⟩ := H
  · have e : b = false := e
    subst e
    obtain ⟨ps', p, rfl⟩ : ∃ ps' p, ps = ps' ++ [p] := ⟨_, _, (List.dropLast_concat_getLast hn).symm⟩
    obtain ⟨l', x, rfl, Z', ⟨xa, k, tk, pv, rfl, Hx, hk, Hp⟩⟩ := Paired.split Z
    k_spoken
    have e : (k == Str.ofString "close") = false := by rcases hk with rfl | rfl <;> decide
    rw [e]
    exact h _ _ (Fle.refl _) (S₀.ret (by assumption))
  · have e : b = true := e
    subst e
    k_spoken
    rw [st_close_close]
    exact h _ _ (Fle.refl _) (S₀.ret (by assumption))

theorem PartsT.last {t : Addr} {ps : List Prt} {q : Prt} (H : PartsT T t (ps ++ [q])) : ∃ l x, TupT T t (l ++ [x]) ∧ PySem.Paired (PartT T) l ps ∧ PartT T x q := by
  obtain ⟨l, H, Z⟩ := H
  obtain ⟨l', x, rfl, Z', hx⟩ := Paired.split Z
  exact ⟨l', x, H, Z', hx⟩

theorem PartsT.nz {t : Addr} {ps : List Prt} {l : List Value} (Z : PySem.Paired (PartT T) l ps) (h : ps ≠ []) : l.isEmpty = false := by
  cases Z with
  | nil => exact absurd rfl h
  | cons _ _ => rfl
theorem PartT.lastv {x : Value} {q : List Pt} {b : Bool} (H : PartT T x (q, b)) (hn : q ≠ []) : ∃ a l ya, x = .ref a ∧ TupT T a (l ++ [.ref ya]) ∧ (b = false → ∃ k tk za, TupT T ya [.str k tk, .ref za]) := by
  obtain ⟨a, l, rfl, Z, ⟨e, H⟩ | ⟨e, cv, ⟨ca, tk, rfl, Hc⟩, H⟩⟩ := H
  · obtain ⟨q', p, rfl⟩ : ∃ ps' p, q = ps' ++ [p] := ⟨_, _, (List.dropLast_concat_getLast hn).symm⟩
    obtain ⟨l', x, rfl, Z', ⟨xa, k, tk, pv, rfl, Hx, hk, ⟨pa, vx, vy, rfl, Hp, _, _⟩⟩⟩ := Paired.split Z
    exact ⟨a, l', xa, rfl, H, fun _ => ⟨k, tk, pa, Hx⟩⟩
  · exact ⟨a, l, ca, rfl, H, fun f => by rw [show b = true from e] at f; cases f⟩
theorem currentPoint {v : Value} {ps : List Prt} {q : List Pt} {Q : Value → Shared → Prop} (S₀ : St c P T L ks vs M s) (hA : Rm A 2) (H : PthT T v (ps ++ [(q, false)])) (hn : q ≠ [])
    (h : ∀ a T' s', Fle T T' → St c P T' L ks vs M s' → Q (.ref a) s') : W (model c.p c.w) A (call (.ref 239) [v]) Q E s := by
  refine enter [Str.ofString "path", Str.ofString "part"] [Str.ofString "is_shut"] [some v, none] S₀.toIn hA rfl rfl (by kernel_rfl) (BindsTo.of_eq rfl) (by kernel_rfl) (by kernel_rfl) (by kernel_rfl) fun env L s' F S' A' hA' => ?_
  obtain ⟨a, hh, kk, t, rfl, O, Z⟩ := H
  obtain ⟨l, x, Hl, Zl, Hx⟩ := Z.last
  k_spoken
  refine newTup (by assumption) fun D T₁ s₁ le₁ HD S₁ => ?_
  replace Hl := Hl.mono le₁
  replace Hx := Hx.mono le₁
  replace O := O.mono le₁
  refine eqT0 S₁ Hl HD hA'.units ?_
  k_spoken
  refine brQ (by simp) ?_
  k_spoken
  refine isShut (by assumption) hA' Hx hn fun T₂ s₂ le₂ S₂ => ?_
  replace Hx := Hx.mono le₂
  obtain ⟨xa, l', ya, rfl, Hy, hz⟩ := PartT.lastv Hx hn
  obtain ⟨k, tk, za, Hz⟩ := hz rfl
  k_spoken
  refine itLast (l := [.str k tk]) (by assumption) Hz ?_
  k_spoken
  exact h _ _ _ (le₁.trans le₂) (S₀.ret (by assumption))

theorem PartT.size {x : Value} {q : Prt} (H : PartT T x q) : ∃ a l, x = .ref a ∧ TupT T a l ∧ q.1.length ≤ l.length ∧ l.length ≤ q.1.length + 1 := by
  obtain ⟨a, l, rfl, Z, ⟨e, H⟩ | ⟨e, cv, ⟨ca, tk, rfl, Hc⟩, H⟩⟩ := H
  · exact ⟨a, l, rfl, H, by rw [Paired.length Z]; exact Nat.le_refl _, by rw [Paired.length Z]; exact Nat.le_succ _⟩
  · exact ⟨a, _, rfl, H, by rw [List.length_append, Paired.length Z]; exact Nat.le_succ _, by rw [List.length_append, Paired.length Z]; exact Nat.le_refl _⟩
theorem sz {n : Nat} (h : n ≤ 10000) : n ≤ sizeLine := by rw [sizeLine_eq]; omega
theorem PartsT.snoc {t : Addr} {l : List Value} {x : Value} {ps : List Prt} {q : Prt} (Z : PySem.Paired (PartT T) l ps) (hx : PartT T x q) (H : TupT T t (l ++ [x])) : PartsT T t (ps ++ [q]) :=
  ⟨_, H, Paired.snoc Z hx⟩

theorem moveTo {v x y : Value} {ps : List Prt} {p : Pt} {Q : Value → Shared → Prop} (S₀ : St c P T L ks vs M s) (hA : Rm A 5) (H : PthT T v ps) (hn : ∀ q ∈ ps, 2 ≤ q.1.length) (hz : ps.length ≤ 1000) (hm : ∀ q ∈ ps, q.1.length ≤ 1000)
    (Hx : Nv T x p.1 1) (Hy : Nv T y p.2 1) (h : ∀ D T' s', Fle T T' → St c P T' L ks vs M s' → PthT T' D (ps ++ [([p], false)]) → Q D s') :
    W (model c.p c.w) A (call (.ref 246) [v, x, y]) Q E s := by
  refine enter [Str.ofString "path", Str.ofString "x", Str.ofString "y", Str.ofString "parts"] [Str.ofString "len", Str.ofString "Path", Str.ofString "pair_of"] [some v, some x, some y, none] S₀.toIn hA rfl rfl (by kernel_rfl) (BindsTo.of_eq rfl) (by kernel_rfl) (by kernel_rfl) (by kernel_rfl) fun env L s' F S' A' hA' => ?_
  obtain ⟨a, hh, kk, t, rfl, O, l, Hl, Zl⟩ := H
  k_spoken
  refine newTup (by assumption) fun D T₁ s₁ le₁ HD S₁ => ?_
  replace Hl := Hl.mono le₁
  replace Zl := Paired.mono (fun _ _ x => PartT.mono x le₁) Zl
  replace Hx := Hx.mono le₁
  replace Hy := Hy.mono le₁
  have hll : l.length = ps.length := Paired.length Zl
  refine neT0 S₁ Hl HD hA'.units ?_
  k_spoken
  refine ⟨fun e => ?_, fun e => ?_⟩
  focus
    have hne : ps ≠ [] := by rintro rfl; cases Zl; simp at e
    obtain ⟨ps', q, rfl⟩ : ∃ ps' p, ps = ps' ++ [p] := ⟨_, _, (List.dropLast_concat_getLast hne).symm⟩
    obtain ⟨l', z, rfl, Z', hq⟩ := Paired.split Zl
    obtain ⟨za, zl, rfl, Hz, z1, z2⟩ := PartT.size hq
    have h2 := hn q (by simp)
    have h3 := hm q (by simp)
    k_spoken
    refine lenT (by assumption) Hz (sz (by omega)) fun t s S => ?_
    k_spoken
    refine brQ (by rw [beq_eq_false_iff_ne]; omega) ?_
  all_goals
    k_spoken
    refine pairOf (by assumption) hA' Hx Hy fun D₂ T₂ s₂ le₂ S₂ HP => ?_
    k_spoken
    refine newTup (by assumption) fun D₃ T₃ s₃ le₃ H₃ S₃ => ?_
    k_spoken
    refine newTup (by assumption) fun D₄ T₄ s₄ le₄ H₄ S₄ => ?_
    k_spoken
    refine newTup (by assumption) fun D₅ T₅ s₅ le₅ H₅ S₅ => ?_
    have le := (le₂.trans le₃).trans (le₄.trans le₅)
    refine addT S₅ (Hl.mono le) H₅ (sz (by rw [List.length_cons, List.length_nil]; omega)) fun T₆ D₆ s₆ le₆ H₆ S₆ => ?_
    k_spoken
    have le' := le.trans le₆
    refine pathNew S₆ (hA'.le (by omega)) (PartsT.snoc (q := ([p], false)) (Paired.mono (fun _ _ x => PartT.mono x le') Zl) ⟨D₄, _, rfl, .cons ⟨D₃, _, _, _, rfl, H₃.mono (le₄.trans (le₅.trans le₆)), .inl rfl, HP.mono (le₃.trans (le₄.trans (le₅.trans le₆)))⟩ .nil, .inl ⟨rfl, H₄.mono (le₅.trans le₆)⟩⟩ H₆) fun D₇ T₇ s₇ le₇ S₇ H₇ => ?_
    k_spoken
    exact h _ _ _ (le₁.trans (le'.trans le₇)) (S₀.ret S₇) H₇
theorem pathWith {v sv : Value} {ps : List Prt} {q : List Pt} {p : Pt} {Q : Value → Shared → Prop} (S₀ : St c P T L ks vs M s) (hA : Rm A 3) (H : PthT T v (ps ++ [(q, false)])) (hn : q ≠ []) (hz : ps.length ≤ 1000) (hm : q.length ≤ 1000)
    (Hs : SegT T sv p) (h : ∀ D T' s', Fle T T' → St c P T' L ks vs M s' → PthT T' D (ps ++ [(q ++ [p], false)]) → Q D s') :
    W (model c.p c.w) A (call (.ref 253) [v, sv]) Q E s := by
  refine enter [Str.ofString "path", Str.ofString "segment", Str.ofString "start", Str.ofString "part"] [Str.ofString "current_point", Str.ofString "is_shut", Str.ofString "Path", Str.ofString "PaintFault"] [some v, some sv, none, none] S₀.toIn hA rfl rfl (by kernel_rfl) (BindsTo.of_eq rfl) (by kernel_rfl) (by kernel_rfl) (by kernel_rfl) fun env L s' F S' A' hA' => ?_
  k_spoken
  refine currentPoint (by assumption) hA' H hn fun b T₁ s₁ le₁ S₁ => ?_
  replace H := H.mono le₁
  replace Hs := Hs.mono le₁
  obtain ⟨a, hh, kk, t, rfl, O, Z⟩ := H
  obtain ⟨l, x, Hl, Zl, Hx⟩ := Z.last
  k_spoken
  refine isShut (by assumption) (hA'.le (by omega)) Hx hn fun T₂ s₂ le₂ S₂ => ?_
  replace Hl := Hl.mono le₂
  replace Hx := Hx.mono le₂
  replace Zl := Paired.mono (fun _ _ x => PartT.mono x le₂) Zl
  replace O := O.mono le₂
  replace Hs := Hs.mono le₂
  obtain ⟨xa, xl, rfl, Zx, ⟨_, Hxx⟩ | ⟨e, _⟩⟩ := Hx
  case inr => cases e
  have h1 : l.length = ps.length := Paired.length Zl
  have h2 : xl.length = q.length := Paired.length Zx
  k_spoken
  refine gsInit (by assumption) Hl (by simp) (sz (by rw [List.length_append, List.length_cons, List.length_nil]; omega)) fun T₃ D₃ s₃ le₃ H₃ S₃ => ?_
  k_spoken
  refine newTup (by assumption) fun D₄ T₄ s₄ le₄ H₄ S₄ => ?_
  refine addT S₄ (Hxx.mono (le₃.trans le₄)) H₄ (sz (by rw [List.length_cons, List.length_nil]; omega)) fun T₅ D₅ s₅ le₅ H₅ S₅ => ?_
  k_spoken
  refine newTup (by assumption) fun D₆ T₆ s₆ le₆ H₆ S₆ => ?_
  refine addT S₆ (H₃.mono (le₄.trans (le₅.trans le₆))) H₆ (sz (by rw [List.dropLast_concat, List.length_cons, List.length_nil]; omega)) fun T₇ D₇ s₇ le₇ H₇ S₇ => ?_
  rw [List.dropLast_concat] at H₇
  k_spoken
  have le := le₃.trans (le₄.trans (le₅.trans (le₆.trans le₇)))
  refine pathNew S₇ (hA'.le (by omega)) (PartsT.snoc (q := (q ++ [p], false)) (Paired.mono (fun _ _ x => PartT.mono x le) Zl) ⟨D₅, _, rfl, Paired.snoc (Paired.mono (fun _ _ x => SegT.mono x le) Zx) (Hs.mono le), .inl ⟨rfl, H₅.mono (le₆.trans le₇)⟩⟩ H₇) fun D₈ T₈ s₈ le₈ S₈ H₈ => ?_
  k_spoken
  exact h _ _ _ ((le₁.trans le₂).trans (le.trans le₈)) (S₀.ret S₈) H₈

theorem lineTo {v x y : Value} {ps : List Prt} {q : List Pt} {p : Pt} {Q : Value → Shared → Prop} (S₀ : St c P T L ks vs M s) (hA : Rm A 5) (H : PthT T v (ps ++ [(q, false)])) (hn : q ≠ []) (hz : ps.length ≤ 1000) (hm : q.length ≤ 1000)
    (Hx : Nv T x p.1 1) (Hy : Nv T y p.2 1) (h : ∀ D T' s', Fle T T' → St c P T' L ks vs M s' → PthT T' D (ps ++ [(q ++ [p], false)]) → Q D s') :
    W (model c.p c.w) A (call (.ref 260) [v, x, y]) Q E s := by
  refine enter [Str.ofString "path", Str.ofString "x", Str.ofString "y"] [Str.ofString "path_with", Str.ofString "pair_of"] [some v, some x, some y] S₀.toIn hA rfl rfl (by kernel_rfl) (BindsTo.of_eq rfl) (by kernel_rfl) (by kernel_rfl) (by kernel_rfl) fun env L s' F S' A' hA' => ?_
  k_spoken
  refine pairOf (by assumption) hA' Hx Hy fun D₁ T₁ s₁ le₁ S₁ H₁ => ?_
  k_spoken
  refine newTup (by assumption) fun D₂ T₂ s₂ le₂ H₂ S₂ => ?_
  k_spoken
  refine pathWith S₂ (hA'.le (by omega)) (H.mono (le₁.trans le₂)) hn hz hm ⟨D₂, _, _, _, rfl, H₂, .inr rfl, H₁.mono le₂⟩ fun D₃ T₃ s₃ le₃ S₃ H₃ => ?_
  k_spoken
  exact h _ _ _ (le₁.trans (le₂.trans le₃)) (S₀.ret S₃) H₃

theorem closePath {v : Value} {ps : List Prt} {q : List Pt} {Q : Value → Shared → Prop} (S₀ : St c P T L ks vs M s) (hA : Rm A 3) (H : PthT T v (ps ++ [(q, false)])) (hn : q ≠ []) (hz : ps.length ≤ 1000) (hm : q.length ≤ 1000)
    (h : ∀ D T' s', Fle T T' → St c P T' L ks vs M s' → PthT T' D (ps ++ [(q, true)]) → Q D s') :
    W (model c.p c.w) A (call (.ref 267) [v]) Q E s := by
  refine enter [Str.ofString "path", Str.ofString "part"] [Str.ofString "is_shut", Str.ofString "Path", Str.ofString "PaintFault"] [some v, none] S₀.toIn hA rfl rfl (by kernel_rfl) (BindsTo.of_eq rfl) (by kernel_rfl) (by kernel_rfl) (by kernel_rfl) fun env L s' F S' A' hA' => ?_
  obtain ⟨a, hh, kk, t, rfl, O, Z⟩ := H
  obtain ⟨l, x, Hl, Zl, Hx⟩ := Z.last
  k_spoken
  refine newTup (by assumption) fun D T₁ s₁ le₁ HD S₁ => ?_
  replace Hl := Hl.mono le₁
  replace Hx := Hx.mono le₁
  replace O := O.mono le₁
  replace Zl := Paired.mono (fun _ _ x => PartT.mono x le₁) Zl
  refine eqT0 S₁ Hl HD hA'.units ?_
  k_spoken
  refine brQ (by simp) ?_
  k_spoken
  refine isShut (by assumption) (hA'.le (by omega)) Hx hn fun T₂ s₂ le₂ S₂ => ?_
  replace Hl := Hl.mono le₂
  replace Hx := Hx.mono le₂
  replace Zl := Paired.mono (fun _ _ x => PartT.mono x le₂) Zl
  replace O := O.mono le₂
  obtain ⟨xa, xl, rfl, Zx, ⟨_, Hxx⟩ | ⟨e, _⟩⟩ := Hx
  case inr => cases e
  have h1 : l.length = ps.length := Paired.length Zl
  have h2 : xl.length = q.length := Paired.length Zx
  k_spoken
  refine gsInit (by assumption) Hl (by simp) (sz (by rw [List.length_append, List.length_cons, List.length_nil]; omega)) fun T₃ D₃ s₃ le₃ H₃ S₃ => ?_
  k_spoken
  refine newTup (by assumption) fun D₀ T₀ s₀ le₀ H₀ S₀' => ?_
  k_spoken
  refine newTup (by assumption) fun D₄ T₄ s₄ le₄ H₄ S₄ => ?_
  refine addT S₄ (Hxx.mono (le₃.trans (le₀.trans le₄))) H₄ (sz (by rw [List.length_cons, List.length_nil]; omega)) fun T₅ D₅ s₅ le₅ H₅ S₅ => ?_
  k_spoken
  refine newTup (by assumption) fun D₆ T₆ s₆ le₆ H₆ S₆ => ?_
  refine addT S₆ (H₃.mono (le₀.trans (le₄.trans (le₅.trans le₆)))) H₆ (sz (by rw [List.dropLast_concat, List.length_cons, List.length_nil]; omega)) fun T₇ D₇ s₇ le₇ H₇ S₇ => ?_
  rw [List.dropLast_concat] at H₇
  k_spoken
  have le := le₃.trans (le₀.trans (le₄.trans (le₅.trans (le₆.trans le₇))))
  refine pathNew S₇ (hA'.le (by omega)) (PartsT.snoc (q := (q, true)) (Paired.mono (fun _ _ x => PartT.mono x le) Zl) ⟨D₅, _, rfl, Paired.mono (fun _ _ x => SegT.mono x le) Zx, .inr ⟨rfl, _, ⟨D₀, _, rfl, H₀.mono (le₄.trans (le₅.trans (le₆.trans le₇)))⟩, H₅.mono (le₆.trans le₇)⟩⟩ H₇) fun D₈ T₈ s₈ le₈ S₈ H₈ => ?_
  k_spoken
  exact h _ _ _ ((le₁.trans le₂).trans (le.trans le₈)) (S₀.ret S₈) H₈
end
section
variable {c : Cx} {P : Ent} {T : Fz} {L : Addr} {ks gs : List Str} {vs : List (Option Value)} {M : List (Addr × Obj)} {s : Shared} {env : Env} {A : Around} {E : Value → Shared → Prop}
theorem PartT.segs {v : Value} {q : Prt} (H : PartT T v q) : ∃ a l, v = .ref a ∧ TupT T a l ∧ (∀ x ∈ l, ∃ xa k tk r, x = .ref xa ∧ TupT T xa (.str k tk :: r) ∧ (k == Str.ofString "curve") = false) := by
  have key : ∀ {l : List Value} {ps : List Pt}, PySem.Paired (SegT T) l ps → ∀ x ∈ l, ∃ xa k tk r, x = .ref xa ∧ TupT T xa (.str k tk :: r) ∧ (k == Str.ofString "curve") = false := by
    intro l ps Z
    induction Z with
    | nil => intro x hx; cases hx
    | cons h _ ih =>
      intro x hx
      rcases List.mem_cons.mp hx with rfl | hx
      · obtain ⟨xa, k, tk, pv, rfl, Hx, hk, _⟩ := h
        exact ⟨xa, k, tk, _, rfl, Hx, by rcases hk with rfl | rfl <;> decide⟩
      · exact ih x hx
  obtain ⟨a, l, rfl, Z, ⟨e, H⟩ | ⟨e, cv, ⟨ca, tk, rfl, Hc⟩, H⟩⟩ := H
  · exact ⟨a, l, rfl, H, key Z⟩
  · refine ⟨a, _, rfl, H, fun x hx => ?_⟩
    rcases List.mem_append.mp hx with hx | hx
    · exact key Z x hx
    · rw [List.mem_singleton.mp hx]
      exact ⟨ca, _, tk, [], rfl, Hc, by decide⟩
/-- a part, told by its tuple alone -/
def PartL (T : Fz) (l : List Value) (q : Prt) : Prop := ∃ l', PySem.Paired (SegT T) l' q.1 ∧ ((q.2 = false ∧ l = l') ∨ (q.2 = true ∧ ∃ c, ClsT T c ∧ l = l' ++ [c]))
theorem PartT.open {v : Value} {q : Prt} (H : PartT T v q) : ∃ a l, v = .ref a ∧ TupT T a l ∧ PartL T l q := by
  obtain ⟨a, l, rfl, Z, ⟨e, H⟩ | ⟨e, cv, Hc, H⟩⟩ := H
  · exact ⟨a, l, rfl, H, l, Z, .inl ⟨e, rfl⟩⟩
  · exact ⟨a, _, rfl, H, l, Z, .inr ⟨e, cv, Hc, rfl⟩⟩
theorem PartL.shut {a : Addr} {l : List Value} {q : Prt} (H : PartL T l q) (h : TupT T a l) : PartT T (.ref a) q := by
  obtain ⟨l', Z, ⟨e, rfl⟩ | ⟨e, cv, Hc, rfl⟩⟩ := H
  · exact ⟨a, l, rfl, Z, .inl ⟨e, h⟩⟩
  · exact ⟨a, l', rfl, Z, .inr ⟨e, cv, Hc, h⟩⟩
theorem PartL.mono {T' : Fz} {l : List Value} {q : Prt} (H : PartL T l q) (e : Fle T T') : PartL T' l q :=
  let ⟨l', Z, h⟩ := H
  ⟨l', Paired.mono (fun _ _ x => SegT.mono x e) Z, h.imp id fun ⟨x, c, y, z⟩ => ⟨x, c, y.mono e, z⟩⟩
theorem PartL.length {l : List Value} {q : Prt} (H : PartL T l q) : q.1.length ≤ l.length ∧ l.length ≤ q.1.length + 1 := by
  obtain ⟨l', Z, ⟨e, rfl⟩ | ⟨e, cv, Hc, rfl⟩⟩ := H
  · rw [Paired.length Z]; exact ⟨Nat.le_refl _, Nat.le_succ _⟩
  · rw [List.length_append, Paired.length Z]; exact ⟨Nat.le_succ _, Nat.le_refl _⟩

theorem flatPart {v : Value} {q : Prt} {d : Int} {td : Tok} {Q : Value → Shared → Prop} (S₀ : St c P T L ks vs M s) (hA : Rm A 1) (H : PartT T v q) (hm : q.1.length ≤ 1000)
    (h : ∀ D T' s', Fle T T' → St c P T' L ks vs M s' → PartT T' D q → Q D s') :
    W (model c.p c.w) A (call (.ref 295) [v, .int d td]) Q E s := by
  refine enter [Str.ofString "part", Str.ofString "depth", Str.ofString "found", Str.ofString "segment", Str.ofString "start", Str.ofString "p"] [Str.ofString "curve_points", Str.ofString "tuple"] [some v, some (.int d td), none, none, none, none] S₀.toIn hA rfl rfl (by kernel_rfl) (BindsTo.of_eq rfl) (by kernel_rfl) (by kernel_rfl) (by kernel_rfl) fun env L s' F S' A' hA' => ?_
  have hs := H.segs
  obtain ⟨a, l, rfl, Hl, Hp⟩ := H.open
  have hl := Hp.length
  obtain ⟨a', l₂, e1, Hl', hs⟩ := hs
  cases e1
  have e2 : l₂ = l := by
    obtain ⟨o, e, h1, n, h2⟩ := Hl
    obtain ⟨o', e', h1', n', h2'⟩ := Hl'
    rw [e] at e'; cases e'
    rw [h2] at h2'
    injection h2' with h3
    have := congrArg Array.toList h3
    simpa using this.symm
  subst e2
  k_spoken
  refine newL0 (by assumption) fun D s hD S => ?_
  k_spoken
  refine forS ?_
  k_spoken
  refine loopT hA'.hd Hl (by assumption) (fun i T' vs' M' => (∃ x, vs' = [some (.ref a), some (.int d td), some (.ref D), x, none, none]) ∧ T' = T ∧ M' = [(D, lsO (l₂.take i))]) ⟨⟨_, rfl⟩, rfl, rfl⟩ ?_ ?_
  · rintro i v T' vs' M' I o s hv hi le ⟨⟨x, rfl⟩, rfl, rfl⟩ S
    obtain ⟨xa, k, tk, r, rfl, Hx, hk⟩ := hs v (List.mem_of_getElem? hv)
    k_spoken
    rw [hk]
    k_spoken
    refine appM (l := l₂.take i) (by assumption) (.tail .head) (by rw [List.length_take]; omega) fun s S => ?_
    k_spoken
    have e : l₂.take i ++ [Value.ref xa] = l₂.take (i + 1) := by rw [List.take_add_one, hv]; rfl
    rw [e] at S
    exact ⟨.inl rfl, T', _, _, Fle.refl _, ⟨⟨_, rfl⟩, rfl, rfl⟩, S.perm (.refl _)⟩
  · rintro T' vs' M' s le ⟨⟨x, rfl⟩, rfl, rfl⟩ S
    rw [List.take_length] at S
    k_spoken
    refine tupL (by assumption) (ls_list (by assumption) (.head _)) (sz (by omega)) fun T₂ D₂ s₂ le₂ H₂ S₂ => ?_
    k_spoken
    exact h _ _ _ le₂ (S₀.ret S₂) ((Hp.mono le₂).shut H₂)
end
theorem prd {α β : Type} {R : α → β → Prop} {l : List α} {r : List β} (h : PySem.Paired R l r) {i : Nat} {a : α} (hi : l[i]? = some a) : ∃ b, r[i]? = some b ∧ R a b := Paired.get h hi
theorem take1 {α : Type} {l : List α} {i : Nat} {a : α} (h : l[i]? = some a) : l.take (i + 1) = l.take i ++ [a] := by rw [List.take_add_one, h]; rfl
theorem one_of {α β : Type} {f : α → β} {os : List α} {x : β} (h : os.map f = [x]) : ∃ o, os = [o] ∧ f o = x := by
  cases os with
  | nil => cases h
  | cons o r => cases r with
    | nil => injection h with h1; exact ⟨o, rfl, h1⟩
    | cons _ _ => injection h with _ h2; cases h2
section
variable {c : Cx} {P : Ent} {T : Fz} {L : Addr} {ks gs : List Str} {vs : List (Option Value)} {M : List (Addr × Obj)} {s : Shared} {env : Env} {A : Around} {E : Value → Shared → Prop}
theorem flattened_ {v : Value} {ps : List Prt} {d : Int} {td : Tok} {Q : Value → Shared → Prop} (S₀ : St c P T L ks vs M s) (hA : Rm A 3) (H : PthT T v ps) (hd : 0 ≤ d ∧ d ≤ 8) (hz : ps.length ≤ 1000) (hm : ∀ q ∈ ps, q.1.length ≤ 1000)
    (h : ∀ D T' s', Fle T T' → St c P T' L ks vs M s' → PthT T' D ps → Q D s') :
    W (model c.p c.w) A (call (.ref 301) [v, .int d td]) Q E s := by
  refine .of (wpAny_call (enterCellsC (n := 2) [Str.ofString "path"] [Str.ofString "MOST_HALVINGS", Str.ofString "Path", Str.ofString "tuple", Str.ofString "PaintFault", Str.ofString "str"] (fun a => [(Str.ofString "depth", a + 1)]) [some v] [some (.int d td)] S₀.toIn.pr hA rfl rfl (by kernel_rfl) (binds := [(Str.ofString "path", v), (Str.ofString "depth", .int d td)]) (BindsTo.of_defaults rfl (S₀.K 296 _ rfl) rfl rfl rfl) rfl (by kernel_rfl) (fun a => by kernel_rfl) (fun a => by kernel_rfl) (fun a => by show ([Str.ofString "depth"] : List Str).Nodup; decide) (fun a => ?_) (by kernel_rfl) (fun a => by kernel_rfl) fun env L s' os F Z hos hod S' A' hA' => ?_))
  · intro x hx
    rcases List.mem_cons.mp hx with rfl | hx
    · exact .inl (by kernel_rfl)
    · rw [List.mem_singleton.mp hx]
      exact .inr ⟨by kernel_rfl, by kernel_rfl⟩
  · obtain ⟨o, rfl, ho⟩ := one_of (f := fun o : Obj => o.data) hod
    have Zc : Cl env (Str.ofString "depth") (L + 1) := Z _ (.head _)
    have S' : St c ⟨s.heap.objs.size, T, s.heap.get?⟩ T L [Str.ofString "path"] [some v] [(L + 1, o)] s' := S'
    obtain ⟨T₁, le₁, hcell, S₁⟩ := S'.freeze .head (Nat.le_succ_of_le S'.nl)
    have HC : CelT T₁ (L + 1) (.int d td) := ⟨o, hcell, ho⟩
    obtain ⟨a, hh, kk, t, rfl, O, l, Hl, Zl⟩ := H.mono le₁
    have hll : l.length = ps.length := Paired.length Zl
    clear S'
    k_spoken
    refine brQ (decide_eq_false (by omega)) ?_
    k_spoken
    refine rdGI (i := 8) (k := 419) F (by assumption) (.head) (by kernel_rfl) ?_
    k_spoken
    refine brQ (decide_eq_false (by omega)) ?_
    k_spoken
    refine compE [Str.ofString "part"] [Str.ofString "flat_part"] [Str.ofString "depth"] [(Str.ofString "depth", L + 1)] ?_ F (clos1 Zc ⟨[(Str.ofString ".0", .local), (Str.ofString "part", .local), (Str.ofString "flat_part", .globalImplicit)], [], rfl, by decide, by decide⟩)
    k_spoken
    refine cpT (Mx := []) [Str.ofString "part"] [Str.ofString "flat_part"] [Str.ofString "depth"] hA'.hd F Hl (by assumption) (sz (by omega)) (fun i T' ys Mx => Mx = [] ∧ Fle T₁ T' ∧ PySem.Paired (PartT T') ys (ps.take i)) ⟨rfl, Fle.refl _, .nil⟩
      (fun i T' ys Mx q => ⟨by rw [q.1], by rw [Paired.length q.2.2, List.length_take]; omega⟩) ?_ ?_
    · rintro P₁ C D I i v T' ys Mx o s hG hi hv le ⟨rfl, le', Zy⟩ F' S
      replace S : St c P₁ T' C [Str.ofString "part"] [none] [(D, lsO ys), (I, o)] s := S
      obtain ⟨q, hq, hp⟩ := prd Zl hv
      have Zd := Zc.inner (C := C) (cl := [(Str.ofString "depth", L + 1)]) (sc := { kind := .function, names := [(Str.ofString ".0", .local), (Str.ofString "part", .local), (Str.ofString "flat_part", .globalImplicit), (Str.ofString "depth", .free)], isGenerator := false, isCoroutine := false }) (ks := [Str.ofString "part"]) (gs := [Str.ofString "flat_part"]) (fs := [Str.ofString "depth"]) (by kernel_rfl) (.head _) (by kernel_rfl)
      have HC' := HC.mono le
      k_spoken
      refine flatPart (by assumption) (hA'.le (by omega)) (hp.mono le) (hm q (List.mem_of_getElem? hq)) fun D' T₂ s₂ le₂ S₂ H₂ => ?_
      refine ⟨T₂, _, [], le₂, ⟨rfl, le.trans le₂, ?_⟩, S₂⟩
      rw [take1 hq]
      exact Paired.snoc (Paired.mono (fun _ _ x => PartT.mono x le₂) Zy) H₂
    · rintro T' ys Mx C D oC m s le ⟨rfl, _, Zy⟩ hD no S
      refine finE no S fun s S => ?_
      rw [hll, List.take_length] at Zy
      k_spoken
      refine tupL (by assumption) (ls_list (by assumption) (.head _)) (sz (by rw [Paired.length Zy]; omega)) fun T₂ D₂ s₂ le₂ H₂ S₂ => ?_
      k_spoken
      refine pathNew S₂ (hA'.le (by omega)) ⟨ys, H₂, Paired.mono (fun _ _ x => PartT.mono x le₂) Zy⟩ fun v₃ T₃ s₃ le₃ S₃ H₃ => ?_
      k_spoken
      exact h _ _ _ ((le₁.trans le).trans (le₂.trans le₃)) (S₀.ret S₃) H₃
end
section
variable {T T' : Fz}
/-- lists of places, and lists of them -/
def PolT (T : Fz) (v : Value) (q : List Pt) : Prop := ∃ a l, v = .ref a ∧ LstT T a l ∧ PySem.Paired (PtT T) l q
theorem PolT.mono {v : Value} {q : List Pt} (h : PolT T v q) (e : Fle T T') : PolT T' v q := let ⟨a, l, h1, h2, h3⟩ := h; ⟨a, l, h1, h2.mono e, Paired.mono (fun _ _ x => x.mono e) h3⟩
def PlsT (T : Fz) (v : Value) (qs : List (List Pt)) : Prop := ∃ a l, v = .ref a ∧ LstT T a l ∧ PySem.Paired (PolT T) l qs
theorem PlsT.mono {v : Value} {q : List (List Pt)} (h : PlsT T v q) (e : Fle T T') : PlsT T' v q := let ⟨a, l, h1, h2, h3⟩ := h; ⟨a, l, h1, h2.mono e, Paired.mono (fun _ _ x => x.mono e) h3⟩
end
section
variable {c : Cx} {P : Ent} {T : Fz} {L : Addr} {ks gs : List Str} {vs : List (Option Value)} {M : List (Addr × Obj)} {s : Shared} {env : Env} {A : Around} {E : Value → Shared → Prop}
theorem linesBody {v : Value} {ps : List Prt} {d : Int} {td : Tok} {Q : Value → Shared → Prop} {args : List Value} (hargs : args = [v] ∧ d = 3 ∧ td = 421 ∨ args = [v, .int d td]) (S₀ : St c P T L ks vs M s) (hA : Rm A 4) (H : PthT T v ps) (hd : 0 ≤ d ∧ d ≤ 8) (hz : ps.length ≤ 1000) (hm : ∀ q ∈ ps, 2 ≤ q.1.length ∧ q.1.length ≤ 1000)
    (h : ∀ D T' s', Fle T T' → St c P T' L ks vs M s' → PlsT T' D (ps.map (·.1)) → Q D s') :
    W (model c.p c.w) A (call (.ref 307) args) Q E s := by
  refine enter [Str.ofString "path", Str.ofString "depth", Str.ofString "found", Str.ofString "part", Str.ofString "corners"] [Str.ofString "flattened", Str.ofString "len"] [some v, some (.int d td), none, none, none] S₀.toIn hA rfl rfl (by kernel_rfl)
    (binds := [(Str.ofString "path", v), (Str.ofString "depth", .int d td)])
    (by
      rcases hargs with ⟨rfl, rfl, rfl⟩ | rfl
      · exact BindsTo.of_defaults rfl (S₀.K 302 _ rfl) rfl rfl rfl
      · exact BindsTo.of_defaults rfl (S₀.K 302 _ rfl) rfl rfl rfl) (by kernel_rfl) (by kernel_rfl) (by kernel_rfl) fun env L s' F S' A' hA' => ?_
  k_spoken
  refine newL0 (by assumption) fun D s hD S => ?_
  k_spoken
  refine forS ?_
  k_spoken
  refine flattened_ (by assumption) hA' H hd hz (fun q hq => (hm q hq).2) fun v₁ T₁ s₁ le₁ S₁ H₁ => ?_
  obtain ⟨a, hh, kk, t, rfl, O, l, Hl, Zl⟩ := H₁
  have hll : l.length = ps.length := Paired.length Zl
  k_spoken
  refine loopT hA'.hd Hl (by assumption) (fun i T' vs' M' => ∃ x y ys, vs' = [some v, some (.int d td), some (.ref D), x, y] ∧ M' = [(D, lsO ys)] ∧ PySem.Paired (PolT T') ys ((ps.take i).map (·.1))) ⟨_, _, [], rfl, rfl, .nil⟩ ?_ ?_
  · rintro i v₂ T₂ vs' M' I o s hv hi le ⟨x, y, ys, rfl, rfl, Zy⟩ S
    obtain ⟨q, hq, hp⟩ := prd Zl hv
    have hmq := hm q (List.mem_of_getElem? hq)
    obtain ⟨pa, pl, rfl, Hp, hp⟩ := (hp.mono le).open
    have hpl := hp.length
    have hys : ys.length = i := by rw [Paired.length Zy, List.length_map, List.length_take]; omega
    k_spoken
    refine cmpA0 [Str.ofString "segment"] [] ?_ F (by simp)
    k_spoken
    refine cpT (Mx := []) [Str.ofString "segment"] [] [] hA'.hd F Hp (by assumption) (sz (by omega)) (fun i T' ys Mx => Mx = [] ∧ T' = T₂ ∧ PySem.Paired (PtT T₂) ys (q.1.take i)) ⟨rfl, rfl, .nil⟩
      (fun i T' ys Mx q => ⟨by rw [q.1], by rw [Paired.length q.2.2, List.length_take]; omega⟩) ?_ ?_
    · rintro P₁ C D' I' j v₃ T' zs Mx o' s hG hj hv₃ le ⟨rfl, rfl, Zz⟩ F' S
      replace S : St c P₁ T' C [Str.ofString "segment"] [none] [(D', lsO zs), (I', o')] s := S
      obtain ⟨pl', Zp, ⟨e, rfl⟩ | ⟨e, cv, ⟨ca, tk, rfl, Hc⟩, rfl⟩⟩ := hp
      · obtain ⟨p, hp, xa, k, tk, pv, rfl, Hx, hk, Hpv⟩ := prd Zp hv₃
        have hk' : (k != Str.ofString "close") = true := by rcases hk with rfl | rfl <;> decide
        k_spoken
        rw [hk']
        k_spoken
        refine ⟨T', _, [], Fle.refl _, ⟨rfl, rfl, ?_⟩, by assumption⟩
        rw [take1 hp]
        exact Paired.snoc Zz Hpv
      · have hpl' := Paired.length Zp
        by_cases hlt : j < pl'.length
        · have hv₃' : pl'[j]? = some v₃ := by rw [List.getElem?_append_left hlt] at hv₃; exact hv₃
          obtain ⟨p, hp, xa, k, tk, pv, rfl, Hx, hk, Hpv⟩ := prd Zp hv₃'
          have hk' : (k != Str.ofString "close") = true := by rcases hk with rfl | rfl <;> decide
          k_spoken
          rw [hk']
          k_spoken
          refine ⟨T', _, [], Fle.refl _, ⟨rfl, rfl, ?_⟩, by assumption⟩
          rw [take1 hp]
          exact Paired.snoc Zz Hpv
        · have hj' : j = pl'.length := by rw [List.length_append, List.length_cons, List.length_nil] at hj; omega
          subst hj'
          rw [List.getElem?_append_right (Nat.le_refl _), Nat.sub_self] at hv₃
          have hv₃ : Value.ref ca = v₃ := by simpa using hv₃
          subst hv₃
          have hk' : (Str.ofString "close" != Str.ofString "close") = false := by decide
          k_spoken
          rw [hk']
          k_spoken
          refine ⟨T', _, [], Fle.refl _, ⟨rfl, rfl, ?_⟩, by assumption⟩
          rw [hpl', List.take_length] at Zz
          rw [hpl', List.take_of_length_le (Nat.le_succ _)]
          exact Zz
    · rintro T' zs Mx C D' oC m s le' ⟨rfl, rfl, Zz⟩ hD' no S
      refine finA F (by gp_look) no S fun v s S => ?_
      rw [List.take_of_length_le hpl.1] at Zz
      have S : St c _ T' L _ _ ((D', lsO zs) :: (I, o) :: [(D, lsO ys)]) s := S
      obtain ⟨T₃, le₃, H₃, S₃⟩ := freezeL S .head hD'
      have hzs : zs.length = q.1.length := Paired.length Zz
      k_spoken
      refine lenL (by assumption) (H₃.at S₃.toIn) (sz (by omega)) fun t s S => ?_
      k_spoken
      refine brP (decide_eq_true (by omega)) ?_
      k_spoken
      refine appM (l := ys) (by assumption) (.tail .head) (by omega) fun s S => ?_
      k_spoken
      refine ⟨.inl rfl, T₃, _, _, le₃, ⟨_, _, _, rfl, rfl, ?_⟩, S⟩
      rw [take1 hq, List.map_append]
      exact Paired.snoc (Paired.mono (fun _ _ x => PolT.mono x le₃) Zy) ⟨D', zs, rfl, H₃, Paired.mono (fun _ _ x => PtT.mono x le₃) Zz⟩
  · rintro T' vs' M' s le ⟨x, y, ys, rfl, rfl, Zy⟩ S
    rw [hll, List.take_length] at Zy
    k_spoken
    obtain ⟨T₃, le₃, H₃, S₃⟩ := freezeL S .head hD
    exact h _ _ _ (le₁.trans (le.trans le₃)) (S₀.ret S₃) ⟨D, ys, rfl, H₃, Paired.mono (fun _ _ x => PolT.mono x le₃) Zy⟩
theorem linesOf {v : Value} {ps : List Prt} {Q : Value → Shared → Prop} (S₀ : St c P T L ks vs M s) (hA : Rm A 4) (H : PthT T v ps) (hz : ps.length ≤ 1000) (hm : ∀ q ∈ ps, 2 ≤ q.1.length ∧ q.1.length ≤ 1000)
    (h : ∀ D T' s', Fle T T' → St c P T' L ks vs M s' → PlsT T' D (ps.map (·.1)) → Q D s') : W (model c.p c.w) A (call (.ref 307) [v]) Q E s :=
  linesBody (d := 3) (td := 421) (.inl ⟨rfl, rfl, rfl⟩) S₀ hA H ⟨by decide, by decide⟩ hz hm h
theorem linesOf2 {v : Value} {ps : List Prt} {d : Int} {td : Tok} {Q : Value → Shared → Prop} (S₀ : St c P T L ks vs M s) (hA : Rm A 4) (H : PthT T v ps) (hd : 0 ≤ d ∧ d ≤ 8) (hz : ps.length ≤ 1000) (hm : ∀ q ∈ ps, 2 ≤ q.1.length ∧ q.1.length ≤ 1000)
    (h : ∀ D T' s', Fle T T' → St c P T' L ks vs M s' → PlsT T' D (ps.map (·.1)) → Q D s') : W (model c.p c.w) A (call (.ref 307) [v, .int d td]) Q E s :=
  linesBody (.inr rfl) S₀ hA H hd hz hm h
end
/-- a Decimal of at most m places -/
def Dm (T : Fz) (v : Value) (n : Int) (m : Nat) : Prop := ∃ t p, DecT T v t p ∧ p ≤ m ∧ p ≤ 1 ∧ n = t * 10 ^ (1 - p)
theorem Dm.mono {T T' : Fz} {v : Value} {n : Int} {m : Nat} (h : Dm T v n m) (e : Fle T T') : Dm T' v n m := let ⟨t, p, x, y⟩ := h; ⟨t, p, x.mono e, y⟩
theorem Dm.up {T : Fz} {v : Value} {n : Int} {m m' : Nat} (h : Dm T v n m) (e : m ≤ m') : Dm T v n m' := let ⟨t, p, x, y, z⟩ := h; ⟨t, p, x, Nat.le_trans y e, z⟩
def PtM (T : Fz) (m : Nat) (v : Value) (p : Pt) : Prop := ∃ a vx vy, v = .ref a ∧ TupT T a [vx, vy] ∧ Dm T vx p.1 m ∧ Dm T vy p.2 m
theorem PtM.mono {T T' : Fz} {v : Value} {p : Pt} {m : Nat} (h : PtM T m v p) (e : Fle T T') : PtM T' m v p := let ⟨a, vx, vy, h1, h2, h3, h4⟩ := h; ⟨a, vx, vy, h1, h2.mono e, h3.mono e, h4.mono e⟩
theorem PtM.up {T : Fz} {v : Value} {p : Pt} {m m' : Nat} (h : PtM T m v p) (e : m ≤ m') : PtM T m' v p := let ⟨a, vx, vy, h1, h2, h3, h4⟩ := h; ⟨a, vx, vy, h1, h2, h3.up e, h4.up e⟩
def PolM (T : Fz) (m : Nat) (v : Value) (q : List Pt) : Prop := ∃ a l, v = .ref a ∧ LstT T a l ∧ PySem.Paired (PtM T m) l q
theorem PolM.mono {T T' : Fz} {v : Value} {q : List Pt} {m : Nat} (h : PolM T m v q) (e : Fle T T') : PolM T' m v q := let ⟨a, l, h1, h2, h3⟩ := h; ⟨a, l, h1, h2.mono e, Paired.mono (fun _ _ x => x.mono e) h3⟩
theorem PolM.up {T : Fz} {v : Value} {q : List Pt} {m m' : Nat} (h : PolM T m v q) (e : m ≤ m') : PolM T m' v q := let ⟨a, l, h1, h2, h3⟩ := h; ⟨a, l, h1, h2, Paired.mono (fun _ _ x => x.up e) h3⟩
theorem take_all {α : Type} (l : List α) (n : Nat) (h : l.length ≤ n) : l.take n = l := List.take_of_length_le h
theorem Paired.take {α β : Type} {R : α → β → Prop} : ∀ {l : List α} {r : List β} (n : Nat), PySem.Paired R l r → PySem.Paired R (l.take n) (r.take n)
  | _, _, 0, _ => by simpa using PySem.Paired.nil
  | _, _, n + 1, .nil => by simpa using PySem.Paired.nil
  | _, _, n + 1, .cons x y => by simpa using PySem.Paired.cons x (Paired.take n y)
section
variable {c : Cx} {P : Ent} {T : Fz} {L : Addr} {ks gs : List Str} {vs : List (Option Value)} {M : List (Addr × Obj)} {s : Shared} {env : Env} {A : Around} {E : Value → Shared → Prop}
theorem placesOf {a : Addr} {l : List Value} {q : List Pt} {k : Nat} {tk : Tok} {args : List Value} {Q : Value → Shared → Prop} (hargs : args = [.ref a] ∧ k = 0 ∧ tk = 576 ∨ args = [.ref a, .int k tk]) (S₀ : St c P T L ks vs M s) (hA : Rm A 2) (Hl : LstT T a l) (Zl : PySem.Paired (PtT T) l q) (hk : k ≤ 1)
    (h : ∀ (m : Nat) tm T' s', Fle T T' → St c P T' L ks vs M s' → k ≤ m → m ≤ 1 → PySem.Paired (PtM T m) l q → Q (.int m tm) s') : W (model c.p c.w) A (call (.ref 315) args) Q E s := by
  refine enter [Str.ofString "points", Str.ofString "known", Str.ofString "most", Str.ofString "x", Str.ofString "y"] [Str.ofString "max"] [some (.ref a), some (.int k tk), none, none, none] S₀.toIn hA rfl rfl (by kernel_rfl)
    (binds := [(Str.ofString "points", .ref a), (Str.ofString "known", .int k tk)])
    (by
      rcases hargs with ⟨rfl, rfl, rfl⟩ | rfl
      · exact BindsTo.of_defaults rfl (S₀.K 308 _ rfl) rfl rfl rfl
      · exact BindsTo.of_defaults rfl (S₀.K 308 _ rfl) rfl rfl rfl) (by kernel_rfl) (by kernel_rfl) (by kernel_rfl) fun env L s' F S' A' hA' => ?_
  have hlq : l.length = q.length := Paired.length Zl
  k_spoken
  refine forS ?_
  k_spoken
  refine loopL hA'.hd Hl (by assumption) (fun i T' vs' M' => ∃ (m : Nat) (tm : Tok) (x y : Option Value), vs' = [some (.ref a), some (.int k tk), some (.int m tm), x, y] ∧ M' = [] ∧ T' = T ∧ k ≤ m ∧ m ≤ 1 ∧ PySem.Paired (PtM T m) (l.take i) (q.take i)) ⟨k, tk, _, _, rfl, rfl, rfl, Nat.le_refl _, hk, by simpa using PySem.Paired.nil⟩ ?_ ?_ (.inr fun v hv => ?_)
  · rintro i v T' vs' M' I o s hv hi le ⟨m, tm, x, y, rfl, rfl, rfl, hkm, hm, Z⟩ S
    obtain ⟨p, hp, pa, vx, vy, rfl, Hp, ⟨t₁, p₁, E₁, h₁, e₁⟩, ⟨t₂, p₂, E₂, h₂, e₂⟩⟩ := prd Zl hv
    k_spoken
    refine imax3 hA'.hd (by assumption) fun t s S => ?_
    rw [show max (max (m : Int) (p₁ : Int)) (p₂ : Int) = ((max (max m p₁) p₂ : Nat) : Int) by omega]
    k_spoken
    refine ⟨.inl rfl, T', _, [], Fle.refl _, ⟨max (max m p₁) p₂, _, _, _, rfl, rfl, rfl, by omega, by omega, ?_⟩, by assumption⟩
    rw [take1 hv, take1 hp]
    exact Paired.snoc (Paired.mono (fun _ _ x => PtM.up x (by omega)) Z) ⟨pa, vx, vy, rfl, Hp, ⟨t₁, p₁, E₁, by omega, h₁, e₁⟩, ⟨t₂, p₂, E₂, by omega, h₂, e₂⟩⟩
  · rintro T' vs' M' s le ⟨m, tm, x, y, rfl, rfl, rfl, hkm, hm, Z⟩ S
    rw [List.take_length, hlq, List.take_length] at Z
    k_spoken
    exact h _ _ _ _ le (S₀.ret (by assumption)) hkm hm Z
  · obtain ⟨i, hi⟩ := List.getElem?_of_mem hv
    obtain ⟨p, _, pa, _, _, e, _⟩ := prd Zl hi
    exact ⟨pa, e⟩

theorem atPlaces {v : Value} {n : Int} {m : Nat} {tm : Tok} {Q : Value → Shared → Prop} (S₀ : St c P T L ks vs M s) (hA : Rm A 1) (H : Dm T v n m) (hm : m ≤ 1)
    (h : ∀ x tx T' s', Fle T T' → St c P T' L ks vs M s' → n = x * 10 ^ (1 - m) → Q (.int x tx) s') : W (model c.p c.w) A (call (.ref 322) [v, .int m tm]) Q E s := by
  refine enter [Str.ofString "value", Str.ofString "places"] [] [some v, some (.int m tm)] S₀.toIn hA rfl rfl (by kernel_rfl) (BindsTo.of_eq rfl) (by kernel_rfl) (by kernel_rfl) (by kernel_rfl) fun env L s' F S' A' hA' => ?_
  obtain ⟨t, p, D, h1, h2, e⟩ := H
  k_spoken
  refine ipow (by omega) (by omega) (by decide) (by assumption) fun t s S => ?_
  refine imulR (pw_small (by omega)) (by assumption) fun t s S => ?_
  k_spoken
  exact h _ _ _ _ (Fle.refl _) (S₀.ret S) (scale_eq e h1 hm _ (by omega))
end
def crI (x0 y0 x1 y1 x y : Int) : Int :=
  if y0 ≤ y ∧ y < y1 then (if 0 < ((x1 - x0) * (y - y0) - (x - x0) * (y1 - y0)) * 1 then 1 else 0)
  else if y1 ≤ y ∧ y < y0 then (if 0 < ((x1 - x0) * (y - y0) - (x - x0) * (y1 - y0)) * (-1) then -1 else 0) else 0
def Bd (x : Int) : Prop := -10000 ≤ x ∧ x ≤ 10000
theorem Qint {Q : Value → Shared → Prop} {i j : Int} {t : Tok} {s : Shared} (e : j = i) (h : Q (.int j t) s) : Q (.int i t) s := e ▸ h
theorem Bd.sub {a b : Int} (h : Bd a) (h' : Bd b) : Sm (a - b) := by unfold Bd at *; unfold Sm; omega
section
variable {c : Cx} {P : Ent} {T : Fz} {L : Addr} {ks gs : List Str} {vs : List (Option Value)} {M : List (Addr × Obj)} {s : Shared} {env : Env} {A : Around} {E : Value → Shared → Prop}
theorem crossing_ {a : Addr} {x0 y0 x1 y1 x y : Int} {t0 t1 t2 t3 tx ty : Tok} {Q : Value → Shared → Prop} (S₀ : St c P T L ks vs M s) (hA : Rm A 1) (H : TupT T a [.int x0 t0, .int y0 t1, .int x1 t2, .int y1 t3]) (b0 : Bd x0) (b1 : Bd y0) (b2 : Bd x1) (b3 : Bd y1) (b4 : Bd x) (b5 : Bd y)
    (h : ∀ t T' s', Fle T T' → St c P T' L ks vs M s' → Q (.int (crI x0 y0 x1 y1 x y) t) s') : W (model c.p c.w) A (call (.ref 334) [.ref a, .int x tx, .int y ty]) Q E s := by
  refine enter [Str.ofString "edge", Str.ofString "x", Str.ofString "y", Str.ofString "sign", Str.ofString "side"] [] [some (.ref a), some (.int x tx), some (.int y ty), none, none] S₀.toIn hA rfl rfl (by kernel_rfl) (BindsTo.of_eq rfl) (by kernel_rfl) (by kernel_rfl) (by kernel_rfl) fun env L s' F S' A' hA' => ?_
  have sm1 : Sm (1 : Int) := by unfold Sm; decide
  have sm2 : Sm (-1 : Int) := by unfold Sm; decide
  by_cases a1 : y0 ≤ y ∧ y < y1
  · k_spoken
    refine brP (decide_eq_true a1.1) ?_
    k_spoken
    refine brP (decide_eq_true a1.2) ?_
    k_spoken
    refine imulL (b2.sub b0) (by assumption) fun t s S => ?_
    k_spoken
    refine imulL (b4.sub b0) (by assumption) fun t s S => ?_
    k_spoken
    refine imulR sm1 (by assumption) fun t s S => ?_
    k_spoken
    refine ⟨fun e => ?_, fun e => ?_⟩
    · k_spoken
      exact Qint (j := crI x0 y0 x1 y1 x y) (by unfold crI; rw [if_pos a1, if_pos (of_decide_eq_true e)]) (h _ _ _ (Fle.refl _) (S₀.ret (by assumption)))
    · k_spoken
      exact Qint (j := crI x0 y0 x1 y1 x y) (by unfold crI; rw [if_pos a1, if_neg (of_decide_eq_false e)]) (h _ _ _ (Fle.refl _) (S₀.ret (by assumption)))
  · k_spoken
    refine ⟨fun e1 => ?_, fun e1 => ?_⟩
    focus
      k_spoken
      refine brQ (decide_eq_false fun q => a1 ⟨of_decide_eq_true e1, q⟩) ?_
    all_goals
      k_spoken
      by_cases a2 : y1 ≤ y ∧ y < y0
      · refine brP (decide_eq_true a2.1) ?_
        k_spoken
        refine brP (decide_eq_true a2.2) ?_
        k_spoken
        refine imulL (b2.sub b0) (by assumption) fun t s S => ?_
        k_spoken
        refine imulL (b4.sub b0) (by assumption) fun t s S => ?_
        k_spoken
        refine imulR sm2 (by assumption) fun t s S => ?_
        k_spoken
        refine ⟨fun e => ?_, fun e => ?_⟩
        · k_spoken
          exact Qint (j := crI x0 y0 x1 y1 x y) (by unfold crI; rw [if_neg a1, if_pos a2, if_pos (of_decide_eq_true e)]) (h _ _ _ (Fle.refl _) (S₀.ret (by assumption)))
        · k_spoken
          exact Qint (j := crI x0 y0 x1 y1 x y) (by unfold crI; rw [if_neg a1, if_pos a2, if_neg (of_decide_eq_false e)]) (h _ _ _ (Fle.refl _) (S₀.ret (by assumption)))

      · refine ⟨fun e2 => ?_, fun e2 => ?_⟩
        focus
          k_spoken
          refine brQ (decide_eq_false fun q => a2 ⟨of_decide_eq_true e2, q⟩) ?_
        all_goals
          k_spoken
          exact Qint (j := crI x0 y0 x1 y1 x y) (by unfold crI; rw [if_neg a1, if_neg a2]) (h _ _ _ (Fle.refl _) (S₀.ret (by assumption)))
end
/-- an edge, in whole numbers -/
def EdT (T : Fz) (u : Int) (v : Value) (e : Pt × Pt) : Prop := ∃ a x0 y0 x1 y1 t0 t1 t2 t3, v = .ref a ∧ TupT T a [.int x0 t0, .int y0 t1, .int x1 t2, .int y1 t3] ∧ e.1.1 = x0 * u ∧ e.1.2 = y0 * u ∧ e.2.1 = x1 * u ∧ e.2.2 = y1 * u
theorem EdT.mono {T T' : Fz} {u : Int} {v : Value} {e : Pt × Pt} (h : EdT T u v e) (le : Fle T T') : EdT T' u v e :=
  let ⟨a, x0, y0, x1, y1, t0, t1, t2, t3, h1, h2, h3⟩ := h; ⟨a, x0, y0, x1, y1, t0, t1, t2, t3, h1, h2.mono le, h3⟩
def IptT (T : Fz) (u : Int) (v : Value) (p : Pt) : Prop := ∃ a x y tx ty, v = .ref a ∧ TupT T a [.int x tx, .int y ty] ∧ p.1 = x * u ∧ p.2 = y * u
theorem IptT.mono {T T' : Fz} {u : Int} {v : Value} {p : Pt} (h : IptT T u v p) (le : Fle T T') : IptT T' u v p := let ⟨a, x, y, tx, ty, h1, h2, h3⟩ := h; ⟨a, x, y, tx, ty, h1, h2.mono le, h3⟩
/-- the edges of a polygon -/
def ed (q : List Pt) : List (Pt × Pt) := (List.range q.length).map fun i => (q.getD (prv q.length i) (0, 0), q.getD i (0, 0))
def nh (e : Pt × Pt) : Bool := e.1.2 != e.2.2
def cr (e : Pt × Pt) (x y : Int) : Int := crI e.1.1 e.1.2 e.2.1 e.2.2 x y
theorem mul_pos_iff {a u : Int} (hu : 0 < u) : 0 < a * u ↔ 0 < a := by
  constructor
  · intro h
    by_cases h0 : 0 < a
    · exact h0
    · have := Int.mul_nonneg (show 0 ≤ -a by omega) (Int.le_of_lt hu)
      rw [Int.neg_mul] at this
      omega
  · intro h; exact Int.mul_pos h hu
theorem mul_le_iff {a b u : Int} (hu : 0 < u) : a * u ≤ b * u ↔ a ≤ b := ⟨fun h => Int.le_of_mul_le_mul_right h hu, fun h => Int.mul_le_mul_of_nonneg_right h (Int.le_of_lt hu)⟩
theorem mul_lt_iff {a b u : Int} (hu : 0 < u) : a * u < b * u ↔ a < b := ⟨fun h => Int.lt_of_mul_lt_mul_right h (Int.le_of_lt hu), fun h => Int.mul_lt_mul_of_pos_right h hu⟩
theorem crI_scale {x0 y0 x1 y1 x y u : Int} (hu : 0 < u) : crI (x0 * u) (y0 * u) (x1 * u) (y1 * u) (x * u) (y * u) = crI x0 y0 x1 y1 x y := by
  have e : ((x1 * u - x0 * u) * (y * u - y0 * u) - (x * u - x0 * u) * (y1 * u - y0 * u)) = ((x1 - x0) * (y - y0) - (x - x0) * (y1 - y0)) * (u * u) := by
    simp only [← Int.sub_mul]
    rw [show (x1 - x0) * u * ((y - y0) * u) = (x1 - x0) * (y - y0) * (u * u) by ac_rfl, show (x - x0) * u * ((y1 - y0) * u) = (x - x0) * (y1 - y0) * (u * u) by ac_rfl]
    exact (Int.sub_mul _ _ _).symm
  have huu : 0 < u * u := Int.mul_pos hu hu
  unfold crI
  rw [e]
  simp only [mul_le_iff hu, mul_lt_iff hu]
  rw [show ((x1 - x0) * (y - y0) - (x - x0) * (y1 - y0)) * (u * u) * 1 = ((x1 - x0) * (y - y0) - (x - x0) * (y1 - y0)) * 1 * (u * u) by ac_rfl, show ((x1 - x0) * (y - y0) - (x - x0) * (y1 - y0)) * (u * u) * (-1) = ((x1 - x0) * (y - y0) - (x - x0) * (y1 - y0)) * (-1) * (u * u) by ac_rfl]
  simp only [mul_pos_iff huu]
theorem Bd.of {n t u : Int} (h : n = t * u) (hu : 1 ≤ u) (hb : Bd n) : Bd t := by
  unfold Bd at *
  subst h
  constructor
  · by_cases hs : 0 ≤ t
    · omega
    · have : t * u ≤ t * 1 := Int.mul_le_mul_of_nonpos_left (by omega) hu
      omega
  · by_cases hs : 0 ≤ t
    · have : t * 1 ≤ t * u := Int.mul_le_mul_of_nonneg_left hu hs
      omega
    · omega
def BdP (p : Pt) : Prop := Bd p.1 ∧ Bd p.2
section
variable {c : Cx} {P : Ent} {T : Fz} {L : Addr} {ks gs : List Str} {vs : List (Option Value)} {M : List (Addr × Obj)} {s : Shared} {env : Env} {A : Around} {E : Value → Shared → Prop}
theorem windingNumber {a : Addr} {l : List Value} {es : List (Pt × Pt)} {u x y : Int} {tx ty : Tok} {Q : Value → Shared → Prop} (S₀ : St c P T L ks vs M s) (hA : Rm A 2) (Hl : LstT T a l) (Zl : PySem.Paired (EdT T u) l es) (hu : 1 ≤ u) (hb : ∀ e ∈ es, BdP e.1 ∧ BdP e.2) (bx : Bd x) (by_ : Bd y)
    (h : ∀ t T' s', Fle T T' → St c P T' L ks vs M s' → Q (.int (es.map fun e => cr e (x * u) (y * u)).sum t) s') : W (model c.p c.w) A (call (.ref 341) [.ref a, .int x tx, .int y ty]) Q E s := by
  refine enter [Str.ofString "edges", Str.ofString "x", Str.ofString "y", Str.ofString "total", Str.ofString "edge"] [Str.ofString "crossing"] [some (.ref a), some (.int x tx), some (.int y ty), none, none] S₀.toIn hA rfl rfl (by kernel_rfl) (BindsTo.of_eq rfl) (by kernel_rfl) (by kernel_rfl) (by kernel_rfl) fun env L s' F S' A' hA' => ?_
  have hll : l.length = es.length := Paired.length Zl
  k_spoken
  refine forS ?_
  k_spoken
  refine loopL hA'.hd Hl (by assumption) (fun i T' vs' M' => ∃ (t : Tok) (z : Option Value), vs' = [some (.ref a), some (.int x tx), some (.int y ty), some (.int ((es.take i).map fun e => cr e (x * u) (y * u)).sum t), z] ∧ M' = []) ⟨_, _, rfl, rfl⟩ ?_ ?_ (.inl ⟨_, _, rfl⟩)
  · rintro i v T' vs' M' I o s hv hi le ⟨t, z, rfl, rfl⟩ S
    obtain ⟨e, he, hE⟩ := prd Zl hv
    obtain ⟨ea, x0, y0, x1, y1, t0, t1, t2, t3, rfl, He, e1, e2, e3, e4⟩ := hE
    obtain ⟨⟨b0, b1⟩, b2, b3⟩ := hb e (List.mem_of_getElem? he)
    k_spoken
    refine crossing_ (by assumption) (hA'.le (by omega)) (He.mono le) (b0.of e1 hu) (b1.of e2 hu) (b2.of e3 hu) (b3.of e4 hu) bx by_ fun tk T₁ s₁ le₁ S₁ => ?_
    k_spoken
    have q : ((es.take (i + 1)).map fun e => cr e (x * u) (y * u)).sum = ((es.take i).map fun e => cr e (x * u) (y * u)).sum + crI x0 y0 x1 y1 x y := by
      rw [take1 he, List.map_append, List.sum_append]
      have : cr e (x * u) (y * u) = crI x0 y0 x1 y1 x y := by
        unfold cr
        rw [e1, e2, e3, e4]
        exact crI_scale (by omega)
      simp only [List.map_cons, List.map_nil, List.sum_cons, List.sum_nil, Int.add_zero, this]
    refine ⟨.inl rfl, T₁, _, _, le₁, ⟨?t, ?z, rfl, rfl⟩, ?_⟩
    rotate_left 2
    · rw [q]; assumption
  · rintro T' vs' M' s le ⟨t, z, rfl, rfl⟩ S
    rw [hll, List.take_length] at S
    k_spoken
    exact h _ _ _ le (S₀.ret (by assumption))
end
theorem ed_length (q : List Pt) : (ed q).length = q.length := by unfold ed; simp
theorem ed_get {q : List Pt} {i : Nat} {p r : Pt} (hp : q[prv q.length i]? = some p) (hr : q[i]? = some r) : (ed q)[i]? = some (p, r) := by
  have hi : i < q.length := (List.getElem?_eq_some_iff.mp hr).1
  unfold ed
  rw [List.getElem?_map, List.getElem?_range hi]
  simp only [Option.map_some, List.getD_eq_getElem?_getD, hp, hr, Option.getD_some]
theorem some_at {α : Type} {l : List α} {i : Nat} (h : i < l.length) : ∃ x, l[i]? = some x := ⟨_, List.getElem?_eq_getElem h⟩
section
variable {c : Cx} {P : Ent} {T : Fz} {L : Addr} {ks gs : List Str} {vs : List (Option Value)} {M : List (Addr × Obj)} {s : Shared} {env : Env} {A : Around} {E : Value → Shared → Prop}
theorem wholeEdges {qs : List (List Pt)} {a : Addr} {l : List Value} {m : Nat} {tm : Tok} {Q : Value → Shared → Prop} (S₀ : St c P T L ks vs M s) (hA : Rm A 2) (Hl : LstT T a l) (Zl : PySem.Paired (PolM T m) l qs) (hm : m ≤ 1) (hz : qs.length ≤ 100) (hq : ∀ q ∈ qs, q.length ≤ 100)
    (h : ∀ D T' s' els, Fle T T' → St c P T' L ks vs M s' → LstT T' D els → PySem.Paired (EdT T' (10 ^ (1 - m))) els ((qs.flatMap ed).filter nh) → Q (.ref D) s') :
    W (model c.p c.w) A (call (.ref 327) [.ref a, .int m tm]) Q E s := by
  refine .of (wpAny_call (enterCellsC (n := 1) [Str.ofString "polygons", Str.ofString "found", Str.ofString "corners", Str.ofString "row", Str.ofString "at", Str.ofString "here", Str.ofString "there"] [Str.ofString "range", Str.ofString "len"] (fun a => [(Str.ofString "places", a + 1)]) [some (.ref a), none, none, none, none, none, none] [some (.int m tm)] S₀.toIn.pr hA rfl rfl (by kernel_rfl) (binds := [(Str.ofString "polygons", .ref a), (Str.ofString "places", .int m tm)]) (BindsTo.of_eq rfl) rfl (by kernel_rfl) (fun a => by kernel_rfl) (fun a => by kernel_rfl) (fun a => by show ([Str.ofString "places"] : List Str).Nodup; decide) (fun a => ?_) (by kernel_rfl) (fun a => by kernel_rfl) fun env L s' os F Z hos hod S' A' hA' => ?_))
  · intro x hx
    rcases List.mem_cons.mp hx with rfl | hx
    · exact .inl (by kernel_rfl)
    · rw [List.mem_singleton.mp hx]
      exact .inr ⟨by kernel_rfl, by kernel_rfl⟩
  · obtain ⟨o, rfl, ho⟩ := one_of (f := fun o : Obj => o.data) hod
    have Zc : Cl env (Str.ofString "places") (L + 1) := Z _ (.head _)
    have S' : St c ⟨s.heap.objs.size, T, s.heap.get?⟩ T L [Str.ofString "polygons", Str.ofString "found", Str.ofString "corners", Str.ofString "row", Str.ofString "at", Str.ofString "here", Str.ofString "there"] [some (.ref a), none, none, none, none, none, none] [(L + 1, o)] s' := S'
    obtain ⟨T₁, le₁, hcell, S₁⟩ := S'.freeze .head (Nat.le_succ_of_le S'.nl)
    have HC : CelT T₁ (L + 1) (.int m tm) := ⟨o, hcell, ho⟩
    replace Hl := Hl.mono le₁
    replace Zl := Paired.mono (fun _ _ x => PolM.mono x le₁) Zl
    have hll : l.length = qs.length := Paired.length Zl
    clear S'
    k_spoken
    refine newL0 (by assumption) fun D s hD S => ?_
    k_spoken
    refine forS ?_
    k_spoken
    refine loopL hA'.hd Hl (by assumption) (fun i T' vs' M' => ∃ (z1 z2 z3 z4 z5 : Option Value) (ys : List Value), vs' = [some (.ref a), some (.ref D), z1, z2, z3, z4, z5] ∧ M' = [(D, lsO ys)] ∧ PySem.Paired (EdT T' (10 ^ (1 - m))) ys (((qs.take i).flatMap ed).filter nh) ∧ ys.length ≤ 100 * i) ⟨_, _, _, _, _, [], rfl, rfl, .nil, Nat.le_refl _⟩ ?_ ?_ (.inl ⟨_, _, rfl⟩)
    · rintro i v T₂ vs' M' I o s hv hi le ⟨z1, z2, z3, z4, z5, ys, rfl, rfl, Zy, hys⟩ S
      obtain ⟨q, hqi, pa, pl, rfl, Hp, Zp⟩ := prd Zl hv
      have hqn := hq q (List.mem_of_getElem? hqi)
      replace Hp := Hp.mono le
      replace Zp := Paired.mono (fun _ _ x => PtM.mono x le) Zp
      have hpl : pl.length = q.length := Paired.length Zp
      have HC₂ := HC.mono le
      k_spoken
      refine cmpA [Str.ofString "x", Str.ofString "y"] [Str.ofString "at_places"] [Str.ofString "places"] [(Str.ofString "places", L + 1)] ?_ F (by simp) (clos1 Zc ⟨[(Str.ofString ".0", .local), (Str.ofString "x", .local), (Str.ofString "y", .local), (Str.ofString "at_places", .globalImplicit)], [], rfl, by decide, by decide⟩)
      k_spoken
      refine cpL (Mx := []) [Str.ofString "x", Str.ofString "y"] [Str.ofString "at_places"] [Str.ofString "places"] hA'.hd F Hp (by assumption) (sz (by omega)) (fun i T' zs Mx => Mx = [] ∧ Fle T₂ T' ∧ PySem.Paired (IptT T' (10 ^ (1 - m))) zs (q.take i)) ⟨rfl, Fle.refl _, .nil⟩
        (fun i T' ys Mx q => ⟨by rw [q.1], by rw [Paired.length q.2.2, List.length_take]; omega⟩) ?_ ?_ (.inr fun v hv => ?_)
      · rintro P₁ C D' I' j v₃ T' zs Mx o' s hG hj hv₃ le' ⟨rfl, _, Zz⟩ F' S
        replace S : St c P₁ T' C [Str.ofString "x", Str.ofString "y"] [none, none] [(D', lsO zs), (I', o')] s := S
        obtain ⟨p, hp, xa, vx, vy, rfl, Hx, Dx, Dy⟩ := prd Zp hv₃
        have Zd := Zc.inner (C := C) (cl := [(Str.ofString "places", L + 1)]) (sc := { kind := .function, names := [(Str.ofString ".0", .local), (Str.ofString "x", .local), (Str.ofString "y", .local), (Str.ofString "at_places", .globalImplicit), (Str.ofString "places", .free)], isGenerator := false, isCoroutine := false }) (ks := [Str.ofString "x", Str.ofString "y"]) (gs := [Str.ofString "at_places"]) (fs := [Str.ofString "places"]) (by kernel_rfl) (.head _) (by kernel_rfl)
        have HC' := HC₂.mono le'
        replace Hx := Hx.mono le'
        k_spoken
        refine atPlaces (by assumption) (hA'.le (by omega)) (Dx.mono le') hm fun x tx T₃ s₃ le₃ S₃ e₃ => ?_
        replace HC' := HC'.mono le₃
        k_spoken
        refine atPlaces (by assumption) (hA'.le (by omega)) (Dy.mono (le'.trans le₃)) hm fun y ty T₄ s₄ le₄ S₄ e₄ => ?_
        k_spoken
        refine newTup (by assumption) fun D₅ T₅ s₅ le₅ H₅ S₅ => ?_
        refine ⟨T₅, _, [], le₃.trans (le₄.trans le₅), ⟨rfl, le'.trans (le₃.trans (le₄.trans le₅)), ?_⟩, S₅⟩
        rw [take1 hp]
        exact Paired.snoc (Paired.mono (fun _ _ x => IptT.mono x (le₃.trans (le₄.trans le₅))) Zz) ⟨D₅, x, y, tx, ty, rfl, H₅, e₃, e₄⟩
      · rintro T' zs Mx C D' oC m' s le' ⟨rfl, _, Zz⟩ hD' no S
        refine finA F (by gp_look) no S fun v s S => ?_
        rw [hpl, List.take_length] at Zz
        have S : St c _ T' L _ _ ((D', lsO zs) :: (I, o) :: [(D, lsO ys)]) s := S
        obtain ⟨T₃, le₃, H₃, S₃⟩ := freezeL S .head hD'
        have hzs : zs.length = q.length := Paired.length Zz
        replace Zz := Paired.mono (fun _ _ x => IptT.mono x le₃) Zz
        replace Zy := Paired.mono (fun _ _ x => EdT.mono x (le'.trans le₃)) Zy
        k_spoken
        refine forS ?_
        k_spoken
        refine lenL (by assumption) (H₃.at S₃.toIn) (sz (by omega)) fun t s S => ?_
        k_spoken
        refine mkRg1 (by assumption) (by omega) (by omega) fun r ro s hr S => ?_
        rw [Int.toNat_natCast] at hr
        refine loopRg hA'.hd hr (by assumption) (fun j T' vs' M' => ∃ (z3 z4 z5 : Option Value) (ws : List Value), vs' = [some (.ref a), some (.ref D), some (.ref pa), some (.ref D'), z3, z4, z5] ∧ M' = [(I, o), (D, lsO (ys ++ ws))] ∧ Fle T₃ T' ∧ PySem.Paired (EdT T' (10 ^ (1 - m))) ws (((ed q).take j).filter nh) ∧ ws.length ≤ j) ⟨_, _, _, [], rfl, by rw [List.append_nil], Fle.refl _, .nil, Nat.le_refl _⟩ ?_ ?_
        · rintro j t T' vs' M' I₂ o₂ s hj le₄ ⟨z3, z4, z5, ws, rfl, rfl, _, Zw, hws⟩ S
          rw [Int.zero_add]
          replace H₃ := H₃.mono le₄
          replace Zz := Paired.mono (fun _ _ x => IptT.mono x le₄) Zz
          obtain ⟨x₁, hx₁⟩ := some_at (l := zs) (prv_lt hj)
          obtain ⟨x₂, hx₂⟩ := some_at hj
          obtain ⟨p₁, hp₁, a₁, x1, y1, tx1, ty1, rfl, H₁, e11, e12⟩ := prd Zz hx₁
          obtain ⟨p₂, hp₂, a₂, x2, y2, tx2, ty2, rfl, H₂, e21, e22⟩ := prd Zz hx₂
          rw [hzs] at hp₁
          have hed := ed_get hp₁ hp₂
          have hu : (0 : Int) < 10 ^ (1 - m) := Int.pow_pos (by decide)
          k_spoken
          refine itPrev (by assumption) H₃ j hj hx₁ (by omega) ?_
          k_spoken
          refine itAt (by assumption) H₃ j hx₂ (by omega) ?_
          k_spoken
          have hn : nh (p₁, p₂) = (y1 != y2) := by
            unfold nh
            simp only [e12, e22]
            rw [Bool.eq_iff_iff, bne_iff_ne, bne_iff_ne]
            exact not_congr ⟨fun e => Int.eq_of_mul_eq_mul_right (Int.ne_of_gt hu) e, fun e => by rw [e]⟩
          refine ⟨fun e => ?_, fun e => ?_⟩
          · k_spoken
            refine newTup (by assumption) fun D₅ T₅ s₅ le₅ H₅ S₅ => ?_
            k_spoken
            refine appM (l := ys ++ ws) (by assumption) (.tail (.tail .head)) (by rw [List.length_append]; have := hq; have := List.getElem?_eq_some_iff.mp hqi; omega) fun s S => ?_
            k_spoken
            refine ⟨.inl rfl, T₅, _, [(I, o), (D, lsO (ys ++ (ws ++ [.ref D₅])))], le₅, ⟨_, _, _, ws ++ [.ref D₅], rfl, rfl, le₄.trans le₅, ?_, by rw [List.length_append, List.length_cons, List.length_nil]; omega⟩, by rw [← List.append_assoc]; assumption⟩
            rw [take1 hed, List.filter_append, List.filter_cons, hn, e, if_pos rfl, List.filter_nil]
            exact Paired.snoc (Paired.mono (fun _ _ x => EdT.mono x le₅) Zw) ⟨D₅, _, _, _, _, _, _, _, _, rfl, H₅, e11, e12, e21, e22⟩
          · k_spoken
            refine ⟨.inl rfl, T', _, _, Fle.refl _, ⟨_, _, _, ws, rfl, rfl, le₄, ?_, by omega⟩, by assumption⟩
            rw [take1 hed, List.filter_append, List.filter_cons, hn, e, if_neg (by decide), List.filter_nil, List.append_nil]
            exact Zw
        · rintro T' vs' M' s le₄ ⟨z3, z4, z5, ws, rfl, rfl, _, Zw, hws⟩ S
          rw [hzs, ← ed_length q, List.take_length] at Zw
          k_spoken
          refine ⟨.inl rfl, T', _, _, le'.trans (le₃.trans le₄), ⟨_, _, _, _, _, ys ++ ws, rfl, rfl, ?_, by rw [List.length_append]; omega⟩, S⟩
          rw [take1 hqi, List.flatMap_append, List.filter_append]
          refine Paired.append (Paired.mono (fun _ _ x => EdT.mono x le₄) Zy) ?_
          rw [List.flatMap_cons, List.flatMap_nil, List.append_nil]
          exact Zw
      · obtain ⟨i, hi⟩ := List.getElem?_of_mem hv
        obtain ⟨p, _, pa, _, _, e, _⟩ := prd Zp hi
        exact ⟨pa, e⟩
    · rintro T' vs' M' s le ⟨z1, z2, z3, z4, z5, ys, rfl, rfl, Zy, hys⟩ S
      rw [hll, List.take_length] at Zy
      k_spoken
      obtain ⟨T₃, le₃, H₃, S₃⟩ := freezeL S .head hD
      exact h _ _ _ _ (le₁.trans (le.trans le₃)) (S₀.ret S₃) H₃ (Paired.mono (fun _ _ x => EdT.mono x le₃) Zy)
end
def wn (qs : List (List Pt)) (x y : Int) : Int := ((qs.flatMap ed).map fun e => cr e x y).sum
theorem cr_flat {e : Pt × Pt} {x y : Int} (h : nh e = false) : cr e x y = 0 := by
  have : e.1.2 = e.2.2 := by unfold nh at h; simpa using h
  unfold cr crI
  rw [this, if_neg (by omega), if_neg (by omega)]
theorem sum_nh (es : List (Pt × Pt)) (x y : Int) : ((es.filter nh).map fun e => cr e x y).sum = (es.map fun e => cr e x y).sum := by
  induction es with
  | nil => rfl
  | cons e r ih =>
    rw [List.filter_cons]
    cases hn : nh e with
    | true => simp only [if_true, List.map_cons, List.sum_cons, ih]
    | false => simp only [Bool.false_eq_true, if_false, List.map_cons, List.sum_cons, ih, cr_flat hn, Int.zero_add]
theorem ed_mem {q : List Pt} {e : Pt × Pt} (h : e ∈ ed q) : e.1 ∈ q ∧ e.2 ∈ q := by
  unfold ed at h
  obtain ⟨i, hi, rfl⟩ := List.mem_map.mp h
  have hi := List.mem_range.mp hi
  have hp := prv_lt hi
  refine ⟨?_, ?_⟩
  · show q.getD _ _ ∈ q
    rw [List.getD_eq_getElem?_getD, List.getElem?_eq_getElem hp]
    exact List.getElem_mem hp
  · show q.getD _ _ ∈ q
    rw [List.getD_eq_getElem?_getD, List.getElem?_eq_getElem hi]
    exact List.getElem_mem hi
section
variable {c : Cx} {P : Ent} {T : Fz} {L : Addr} {ks gs : List Str} {vs : List (Option Value)} {M : List (Addr × Obj)} {s : Shared} {env : Env} {A : Around} {E : Value → Shared → Prop}
theorem winding_ {v xv yv : Value} {qs : List (List Pt)} {px py : Int} {Q : Value → Shared → Prop} (S₀ : St c P T L ks vs M s) (hA : Rm A 5) (H : PlsT T v qs) (Hx : Nv T xv px 1) (Hy : Nv T yv py 1) (hz : qs.length ≤ 100) (hq : ∀ q ∈ qs, q.length ≤ 100 ∧ ∀ p ∈ q, BdP p) (bx : Bd px) (by_ : Bd py)
    (h : ∀ t T' s', Fle T T' → St c P T' L ks vs M s' → Q (.int (wn qs px py) t) s') : W (model c.p c.w) A (call (.ref 348) [v, xv, yv]) Q E s := by
  refine enter [Str.ofString "polygons", Str.ofString "x", Str.ofString "y", Str.ofString "spot", Str.ofString "places", Str.ofString "corners"] [Str.ofString "pair_of", Str.ofString "places_of", Str.ofString "winding_number", Str.ofString "whole_edges", Str.ofString "at_places"] [some v, some xv, some yv, none, none, none] S₀.toIn hA rfl rfl (by kernel_rfl) (BindsTo.of_eq rfl) (by kernel_rfl) (by kernel_rfl) (by kernel_rfl) fun env L s' F S' A' hA' => ?_
  k_spoken
  refine pairOf (by assumption) hA' Hx Hy fun D₁ T₁ s₁ le₁ S₁ H₁ => ?_
  k_spoken
  refine newLst (by assumption) fun D₂ s₂ hD₂ S₂ => ?_
  obtain ⟨T₃, le₃, e₃, S₃⟩ := S₂.freeze .head hD₂
  k_spoken
  refine placesOf (k := 0) (tk := 576) (q := [(px, py)]) (.inl ⟨rfl, rfl, rfl⟩) S₃ (hA'.le (by omega)) ⟨_, e₃, rfl, _, rfl⟩ (.cons (H₁.mono le₃) .nil) (by omega) fun m₀ tm₀ T₄ s₄ le₄ S₄ _ hm₀ Z₀ => ?_
  obtain ⟨sa, vx, vy, rfl, Hs, Dx, Dy⟩ := (show PtM T₃ m₀ D₁ (px, py) from by cases Z₀; assumption)
  obtain ⟨a, l, rfl, Hl, Zl⟩ := H.mono (le₁.trans (le₃.trans le₄))
  replace Hs := Hs.mono le₄
  replace Dx := Dx.mono le₄
  replace Dy := Dy.mono le₄
  have hll : l.length = qs.length := Paired.length Zl
  k_spoken
  refine forS ?_
  k_spoken
  refine loopL hA'.hd Hl (by assumption) (fun i T' vs' M' => ∃ (m : Nat) (tm : Tok) (z : Option Value), vs' = [some (.ref a), some xv, some yv, some (.ref sa), some (.int m tm), z] ∧ M' = [] ∧ m₀ ≤ m ∧ m ≤ 1 ∧ PySem.Paired (PolM T' m) (l.take i) (qs.take i)) ⟨m₀, _, _, rfl, rfl, Nat.le_refl _, hm₀, by simpa using PySem.Paired.nil⟩ ?_ ?_ (.inl ⟨_, _, rfl⟩)
  · rintro i v T' vs' M' I o s hv hi le ⟨m, tm, z, rfl, rfl, hmm, hm, Z⟩ S
    obtain ⟨q, hqi, pa, pl, rfl, Hp, Zp⟩ := prd Zl hv
    replace Hp := Hp.mono le
    replace Zp := Paired.mono (fun _ _ x => PtT.mono x le) Zp
    k_spoken
    refine placesOf (.inr rfl) (by assumption) (hA'.le (by omega)) Hp Zp hm fun m' tm' T₅ s₅ le₅ S₅ h1 h2 Z' => ?_
    k_spoken
    refine ⟨.inl rfl, T₅, _, _, le₅, ⟨m', _, _, rfl, rfl, by omega, h2, ?_⟩, by assumption⟩
    rw [take1 hv, take1 hqi]
    exact Paired.snoc (Paired.mono (fun _ _ x => (PolM.up x h1).mono le₅) Z) ⟨pa, pl, rfl, Hp.mono le₅, Paired.mono (fun _ _ x => PtM.mono x le₅) Z'⟩
  · rintro T' vs' M' s le ⟨m, tm, z, rfl, rfl, hmm, hm, Z⟩ S
    rw [List.take_length, hll, List.take_length] at Z
    replace Hl := Hl.mono le
    replace Hs := Hs.mono le
    replace Dx := (Dx.up hmm).mono le
    replace Dy := (Dy.up hmm).mono le
    k_spoken
    refine wholeEdges (by assumption) (hA'.le (by omega)) Hl Z hm hz (fun q hq' => (hq q hq').1) fun D₆ T₆ s₆ els le₆ S₆ H₆ Z₆ => ?_
    replace Hs := Hs.mono le₆
    k_spoken
    refine atPlaces (by assumption) (hA'.le (by omega)) (Dx.mono le₆) hm fun x tx T₇ s₇ le₇ S₇ e₇ => ?_
    replace Hs := Hs.mono le₇
    k_spoken
    refine atPlaces (by assumption) (hA'.le (by omega)) (Dy.mono (le₆.trans le₇)) hm fun y ty T₈ s₈ le₈ S₈ e₈ => ?_
    have hu : (1 : Int) ≤ 10 ^ (1 - m) := Int.pow_pos (by decide)
    k_spoken
    refine windingNumber (by assumption) (hA'.le (by omega)) (H₆.mono (le₇.trans le₈)) (Paired.mono (fun _ _ x => EdT.mono x (le₇.trans le₈)) Z₆) hu (fun e he => ?_) (bx.of e₇ hu) (by_.of e₈ hu) fun t T₉ s₉ le₉ S₉ => ?_
    · obtain ⟨q, hq', he'⟩ := List.mem_flatMap.mp (List.mem_filter.mp he).1
      have := ed_mem he'
      exact ⟨(hq q hq').2 _ this.1, (hq q hq').2 _ this.2⟩
    k_spoken
    refine Qint (j := wn qs px py) ?_ (h _ _ _ (((le₁.trans (le₃.trans le₄)).trans le).trans ((le₆.trans le₇).trans (le₈.trans le₉))) (S₀.ret (by assumption)))
    rw [sum_nh, ← e₇, ← e₈]
    rfl
end
def arE (e : Pt × Pt) : Int := e.1.1 * e.2.2 - e.2.1 * e.1.2
def area (qs : List (List Pt)) : Int := ((qs.flatMap ed).map arE).sum
theorem Bd.sm {x : Int} (h : Bd x) : Sm x := by unfold Bd at h; unfold Sm; omega
theorem Dv.dec {T : Fz} {v : Value} {n : Int} {k : Nat} (h : Dv T v n k) : ∃ t p, DecT T v t p := let ⟨t, p, h, _⟩ := h; ⟨t, p, h⟩
section
variable {c : Cx} {P : Ent} {T : Fz} {L : Addr} {ks gs : List Str} {vs : List (Option Value)} {M : List (Addr × Obj)} {s : Shared} {env : Env} {A : Around} {E : Value → Shared → Prop}
theorem doubledArea {v : Value} {qs : List (List Pt)} {Q : Value → Shared → Prop} (S₀ : St c P T L ks vs M s) (hA : Rm A 6) (H : PlsT T v qs) (hz : qs.length ≤ 100) (hq : ∀ q ∈ qs, q.length ≤ 100 ∧ ∀ p ∈ q, BdP p)
    (h : ∀ D T' s', Fle T T' → St c P T' L ks vs M s' → Dv T' D (area qs) 2 → Q D s') : W (model c.p c.w) A (call (.ref 370) [v]) Q E s := by
  refine enter [Str.ofString "polygons", Str.ofString "total", Str.ofString "corners", Str.ofString "at", Str.ofString "x", Str.ofString "y", Str.ofString "u", Str.ofString "v"] [Str.ofString "decimal_of", Str.ofString "range", Str.ofString "len"] [some v, none, none, none, none, none, none, none] S₀.toIn hA rfl rfl (by kernel_rfl) (BindsTo.of_eq rfl) (by kernel_rfl) (by kernel_rfl) (by kernel_rfl) fun env L s' F S' A' hA' => ?_
  obtain ⟨a, l, rfl, Hl, Zl⟩ := H
  have hll : l.length = qs.length := Paired.length Zl
  k_spoken
  refine decimalOf (n := 0) (k := 2) (by assumption) (hA'.le (by omega)) (.inr ⟨_, _, rfl, by decide⟩) fun D₁ T₁ s₁ le₁ S₁ H₁ => ?_
  replace Hl := Hl.mono le₁
  replace Zl := Paired.mono (fun _ _ x => PolT.mono x le₁) Zl
  k_spoken
  refine forS ?_
  k_spoken
  refine loopL hA'.hd Hl (by assumption) (fun i T' vs' M' => ∃ (tv : Value) (z1 z2 z3 z4 z5 z6 : Option Value), vs' = [some (.ref a), some tv, z1, z2, z3, z4, z5, z6] ∧ M' = [] ∧ Dv T' tv (area (qs.take i)) 2) ⟨_, _, _, _, _, _, _, rfl, rfl, H₁⟩ ?_ ?_ (.inl ⟨_, _, rfl⟩)
  · rintro i v T₂ vs' M' I o s hv hi le ⟨tv, z1, z2, z3, z4, z5, z6, rfl, rfl, HD⟩ S
    obtain ⟨q, hqi, pa, pl, rfl, Hp, Zp⟩ := prd Zl hv
    obtain ⟨hqn, hqb⟩ := hq q (List.mem_of_getElem? hqi)
    replace Hp := Hp.mono le
    replace Zp := Paired.mono (fun _ _ x => PtT.mono x le) Zp
    have hpl : pl.length = q.length := Paired.length Zp
    k_spoken
    refine forS ?_
    k_spoken
    refine lenL (by assumption) (Hp.at (St.toIn (by assumption))) (sz (by omega)) fun t s S => ?_
    k_spoken
    refine mkRg1 (by assumption) (by omega) (by omega) fun r ro s hr S => ?_
    rw [Int.toNat_natCast] at hr
    refine loopRg hA'.hd hr (by assumption) (fun j T' vs' M' => ∃ (tv : Value) (z2 z3 z4 z5 z6 : Option Value), vs' = [some (.ref a), some tv, some (.ref pa), z2, z3, z4, z5, z6] ∧ M' = [(I, o)] ∧ Dv T' tv (area (qs.take i) + (((ed q).take j).map arE).sum) 2) ⟨_, _, _, _, _, _, rfl, rfl, by simpa using HD⟩ ?_ ?_
    · rintro j t T' vs' M' I₂ o₂ s hj le₄ ⟨tv, z2, z3, z4, z5, z6, rfl, rfl, HD⟩ S
      rw [Int.zero_add]
      replace Hp := Hp.mono le₄
      replace Zp := Paired.mono (fun _ _ x => PtT.mono x le₄) Zp
      obtain ⟨x₁, hx₁⟩ := some_at (l := pl) (prv_lt hj)
      obtain ⟨x₂, hx₂⟩ := some_at hj
      obtain ⟨p₁, hp₁, a₁, vx1, vy1, rfl, H₁, Dx1, Dy1⟩ := prd Zp hx₁
      obtain ⟨p₂, hp₂, a₂, vx2, vy2, rfl, H₂, Dx2, Dy2⟩ := prd Zp hx₂
      rw [hpl] at hp₁
      have hed := ed_get hp₁ hp₂
      have b₁ := hqb p₁ (List.mem_of_getElem? hp₁)
      have b₂ := hqb p₂ (List.mem_of_getElem? hp₂)
      obtain ⟨_, _, dT⟩ := HD.dec
      obtain ⟨_, _, dx1⟩ := Dx1.dec
      obtain ⟨_, _, dx2⟩ := Dx2.dec
      k_spoken
      refine itPrev (by assumption) Hp j hj hx₁ (by omega) ?_
      k_spoken
      refine itAt (by assumption) Hp j hx₂ (by omega) ?_
      k_spoken
      refine timesD (by assumption) (hA'.le (by omega)) Dx1 (.inl Dy2) b₁.1.sm fun D₅ T₅ s₅ le₅ S₅ H₅ => ?_
      obtain ⟨_, _, d5⟩ := H₅.dec
      replace dx2 := dx2.mono le₅
      k_spoken
      refine timesD (by assumption) (hA'.le (by omega)) (Dx2.mono le₅) (.inl (Dy1.mono le₅)) b₂.1.sm fun D₆ T₆ s₆ le₆ S₆ H₆ => ?_
      k_spoken
      refine minusD (by assumption) hA' (H₅.mono le₆) (.inl H₆) (by decide) fun D₇ T₇ s₇ le₇ S₇ H₇ => ?_
      k_spoken
      have le' := le₅.trans (le₆.trans le₇)
      refine plusD (by assumption) hA' (HD.mono le') (.inl H₇) (by decide) fun D₈ T₈ s₈ le₈ S₈ H₈ => ?_
      k_spoken
      refine ⟨.inl rfl, T₈, _, _, le'.trans le₈, ⟨_, _, _, _, _, _, rfl, rfl, ?_⟩, by assumption⟩
      rw [take1 hed, List.map_append, List.sum_append, ← Int.add_assoc]
      have : ([(p₁, p₂)].map arE).sum = p₁.1 * p₂.2 - p₂.1 * p₁.2 := by simp [arE]
      rw [this]
      exact H₈
    · rintro T' vs' M' s le₄ ⟨tv, z2, z3, z4, z5, z6, rfl, rfl, HD⟩ S
      rw [hpl, ← ed_length q, List.take_length] at HD
      k_spoken
      refine ⟨.inl rfl, T', _, _, le₄, ⟨_, _, _, _, _, _, _, rfl, rfl, ?_⟩, S⟩
      have : area (qs.take (i + 1)) = area (qs.take i) + ((ed q).map arE).sum := by
        unfold area
        rw [take1 hqi, List.flatMap_append, List.map_append, List.sum_append, List.flatMap_cons, List.flatMap_nil, List.append_nil]
      rw [this]
      exact HD
  · rintro T' vs' M' s le ⟨tv, z1, z2, z3, z4, z5, z6, rfl, rfl, HD⟩ S
    rw [hll, List.take_length] at HD
    k_spoken
    exact h _ _ _ (le₁.trans le) (S₀.ret (by assumption)) HD
end
/-- the pool of draws: its cells, what is great, its state, its place -/
def PoolT (T : Fz) (o : Obj) (k : Nat) : Prop := ∃ cl cells ns g tg st ts pl tp, L4 o [.ref cl, .int g tg, .int st ts, .int ((pl : Nat) : Int) tp] ∧ LstT T cl cells ∧ IntsAre cells ns ∧ cells.length ≤ 40 ∧ pl ≤ k
theorem PoolT.mono {T T' : Fz} {o : Obj} {k : Nat} (h : PoolT T o k) (e : Fle T T') : PoolT T' o k := let ⟨cl, cells, ns, g, tg, st, ts, pl, tp, h1, h2, h3⟩ := h; ⟨cl, cells, ns, g, tg, st, ts, pl, tp, h1, h2.mono e, h3⟩
theorem PoolT.le {T : Fz} {o : Obj} {k k' : Nat} (h : PoolT T o k) (e : k ≤ k') : PoolT T o k' := let ⟨cl, cells, ns, g, tg, st, ts, pl, tp, h1, h2, h3, h4, h5⟩ := h; ⟨cl, cells, ns, g, tg, st, ts, pl, tp, h1, h2, h3, h4, Nat.le_trans h5 e⟩
theorem emod_in {a m : Int} (h : 0 < m) : 0 ≤ a % m ∧ a % m < m := ⟨Int.emod_nonneg _ (Int.ne_of_gt h), Int.emod_lt_of_pos _ h⟩
section
variable {c : Cx} {P : Ent} {T : Fz} {L : Addr} {ks gs : List Str} {vs : List (Option Value)} {M : List (Addr × Obj)} {s : Shared} {env : Env} {A : Around} {E : Value → Shared → Prop}
/-- what stands as a def is entered that turns the first object of the ledger -/
theorem St.prX {D : Addr} {o : Obj} (S : St c P T L ks vs ((D, o) :: M) s) : Pr c ⟨s.heap.objs.size, T, fun b => if b = D then none else s.heap.get? b⟩ T [(D, o)] s where
  ok := S.ok
  gens := S.gens
  os := S.os
  bT := S.bT
  sub := S.sub
  le := Fle.refl _
  low := fun _ _ => rfl
  keep := fun b ob e => by
    dsimp only at e
    split at e
    · cases e
    · exact e
  nz := Nat.le_refl _
  led := fun p hp => by
    rw [List.mem_singleton.mp hp]
    exact ⟨(S.led _ (.head _)).1, (S.led _ (.head _)).2.1, if_pos rfl⟩
  nd := by simp
theorem St.backX {s₀ : Shared} {D : Addr} {o o' : Obj} {T' : Fz} {L' : Addr} {ks' : List Str} {vs' : List (Option Value)} {M' : List (Addr × Obj)} (S : St c P T L ks vs ((D, o) :: M) s₀)
    (S' : St c ⟨s₀.heap.objs.size, T, fun b => if b = D then none else s₀.heap.get? b⟩ T' L' ks' vs' ((D, o') :: M') s) : St c P T' L ks vs ((D, o') :: M) s :=
  S.outX ⟨S'.gens.trans S.gens.symm, S'.os.trans S.os.symm, S'.le, S'.low, S'.sub, fun b ob hb e => S'.keep b ob (by show (if b = D then none else _) = _; rw [if_neg (fun q => hb (List.mem_singleton.mpr q))]; exact e), S'.size⟩ (S'.led _ (.head _)).1

theorem lawDraw {D : Addr} {o : Obj} {k : Nat} {m : Int} {tm : Tok} {Q : Value → Shared → Prop} (S₀ : St c P T L ks vs ((D, o) :: M) s) (hA : Rm A 1) (H : PoolT T o k) (hk : k ≤ 1000) (h1 : 0 < m) (h2 : m ≤ 1000)
    (h : ∀ r t T' o' s', Fle T T' → St c P T' L ks vs ((D, o') :: M) s' → PoolT T' o' (k + 1) → 0 ≤ r → r < m → Q (.int r t) s') : W (model c.p c.w) A (call (.ref 382) [.ref D, .int m tm]) Q E s := by
  refine .of (wpAny_call (enterC [Str.ofString "pool", Str.ofString "most", Str.ofString "place", Str.ofString "digit"] [Str.ofString "len"] [some (.ref D), some (.int m tm), none, none] S₀.prX hA rfl rfl (by kernel_rfl) (BindsTo.of_eq rfl) (by kernel_rfl) (by kernel_rfl) (by kernel_rfl) fun env L s' F S' A' hA' => ?_))
  obtain ⟨cl, cells, ns, g, tg, st, ts, pl, tp, H4, Hc, hi, hcl, hpl⟩ := H
  k_spoken
  refine gM (k := 3) (by assumption) H4 rfl (by simp) ?_
  k_spoken
  refine sM (k := 3) (by assumption) H4 (by simp) (by simp) fun o₁ s S H4 => ?_
  k_spoken
  refine gM (k := 1) (by assumption) H4 rfl (by simp) ?_
  k_spoken
  refine ⟨fun e => ?_, fun e => ?_⟩
  · k_spoken
    refine gM (k := 1) (by assumption) H4 rfl (by simp) ?_
    k_spoken
    refine imod h1 (by assumption) fun t s S => ?_
    k_spoken
    refine gM (k := 1) (by assumption) H4 rfl (by simp) ?_
    k_spoken
    refine idiv h1 (by omega) (by assumption) fun t s S => ?_
    k_spoken
    refine sM (k := 1) (by assumption) H4 (by simp) (by simp) fun o₂ s S H4 => ?_
    k_spoken
    exact h _ _ _ _ _ (Fle.refl _) (S₀.backX S) ⟨cl, cells, ns, _, _, _, _, pl + 1, _, H4, Hc, hi, hcl, by omega⟩ (emod_in h1).1 (emod_in h1).2
  · k_spoken
    refine gM (k := 2) (by assumption) H4 rfl (by simp) ?_
    k_spoken
    refine imulR (by unfold Sm; decide) (by assumption) fun t s S => ?_
    k_spoken
    refine imulR (by unfold Sm; omega) (by assumption) fun t s S => ?_
    k_spoken
    refine imod (by decide) (by assumption) fun t s S => ?_
    k_spoken
    refine sM (k := 2) (by assumption) H4 (by simp) (by simp) fun o₂ s S H4 => ?_
    k_spoken
    refine gM (k := 0) (by assumption) H4 rfl (by simp) ?_
    k_spoken
    refine lenL (by assumption) (Hc.at (St.toIn (by assumption))) (sz (by omega)) fun t s S => ?_
    k_spoken
    refine ⟨fun e => ?_, fun e => ?_⟩
    · have e' := of_decide_eq_true e
      obtain ⟨x, hx⟩ := some_at (l := cells) (i := pl) (by omega)
      obtain ⟨n, tn, rfl⟩ : ∃ n t, x = .int n t := by
        obtain ⟨y, hy⟩ := some_at (l := ns) (i := pl) (by rw [← hi.length]; omega)
        obtain ⟨t, ht⟩ := hi.get pl y hy
        rw [hx] at ht; cases ht
        exact ⟨_, _, rfl⟩
      k_spoken
      refine gM (k := 0) (by assumption) H4 rfl (by simp) ?_
      k_spoken
      refine itAt (by assumption) Hc pl hx (by omega) ?_
      k_spoken
      refine imod h1 (by assumption) fun t s S => ?_
      k_spoken
      exact h _ _ _ _ _ (Fle.refl _) (S₀.backX S) ⟨cl, cells, ns, _, _, _, _, pl + 1, _, H4, Hc, hi, hcl, by omega⟩ (emod_in h1).1 (emod_in h1).2
    · k_spoken
      refine gM (k := 2) (by assumption) H4 rfl (by simp) ?_
      k_spoken
      refine idiv (by decide) (by decide) (by assumption) fun t s S => ?_
      k_spoken
      refine imod h1 (by assumption) fun t s S => ?_
      k_spoken
      exact h _ _ _ _ _ (Fle.refl _) (S₀.backX S) ⟨cl, cells, ns, _, _, _, _, pl + 1, _, H4, Hc, hi, hcl, by omega⟩ (emod_in h1).1 (emod_in h1).2
end
theorem ints_head {x : Value} {r : List Value} {ms : List Int} (h : IntsAre (x :: r) ms) : ∃ n t, x = .int n t := by
  cases h; exact ⟨_, _, rfl⟩
section
variable {c : Cx} {P : Ent} {T : Fz} {L : Addr} {ks gs : List Str} {vs : List (Option Value)} {M : List (Addr × Obj)} {s : Shared} {env : Env} {A : Around} {E : Value → Shared → Prop}
theorem lawBox {a : Addr} {l : List Value} {ns : List Int} {Q : Value → Shared → Prop} (S₀ : St c P T L ks vs M s) (hA : Rm A 1) (Hl : LstT T a l) (hi : IntsAre l ns) (hz : l.length ≤ 1000)
    (h : ∀ D T' o s', Fle T T' → St c P T' L ks vs ((D, o) :: M) s' → PoolT T' o 0 → Q (.ref D) s') : W (model c.p c.w) A (call (.ref 375) [.ref a]) Q E s := by
  refine enter [Str.ofString "script", Str.ofString "cells", Str.ofString "great", Str.ofString "state", Str.ofString "cell"] [Str.ofString "abs"] [some (.ref a), none, none, none, none] S₀.toIn hA rfl rfl (by kernel_rfl) (BindsTo.of_eq rfl) (by kernel_rfl) (by kernel_rfl) (by kernel_rfl) fun env L s' F S' A' hA' => ?_
  refine cmpA0 [Str.ofString "cell"] [Str.ofString "int"] ?_ F (by simp)
  k_spoken
  refine gsUpto (a := 40) (by assumption) Hl (sz (by omega)) fun T₁ D₁ s₁ le₁ H₁ S₁ => ?_
  have h40 : (l.take 40).length ≤ 40 := by rw [List.length_take]; omega
  have hi40 := hi.take 40
  refine cpL (Mx := []) [Str.ofString "cell"] [Str.ofString "int"] [] hA'.hd F H₁ (by assumption) (sz (by omega)) (fun i T' zs Mx => Mx = [] ∧ T' = T₁ ∧ IntsAre zs ((ns.take 40).take i) ∧ zs.length ≤ i) ⟨rfl, rfl, by simpa using IntsAre.nil, Nat.le_refl _⟩
    (fun i T' ys Mx q => ⟨by rw [q.1], q.2.2.2⟩) ?_ ?_ (.inl ⟨_, _, rfl⟩)
  · rintro P₁ C D' I' j v₃ T' zs Mx o' s hG hj hv₃ le' ⟨rfl, rfl, Zz, hzl⟩ F' S
    replace S : St c P₁ T' C [Str.ofString "cell"] [none] [(D', lsO zs), (I', o')] s := S
    obtain ⟨n, hn⟩ := some_at (l := ns.take 40) (i := j) (by rw [← hi40.length]; exact hj)
    obtain ⟨t, ht⟩ := hi40.get j n hn
    rw [hv₃] at ht; cases ht
    k_spoken
    refine iint ?_
    refine ⟨T', _, [], Fle.refl _, ⟨rfl, rfl, ?_, by rw [List.length_append]; simp; omega⟩, by assumption⟩
    rw [take1 hn]
    exact Zz.append (.cons n t .nil)
  · rintro T' zs Mx C D' oC m' s le' ⟨rfl, rfl, Zz, hzl⟩ hD' no S
    refine finA F (by gp_look) no S fun v s S => ?_
    obtain ⟨T₃, le₃, H₃, S₃⟩ := freezeL (M' := []) S .head hD'
    have hz40 : zs.length ≤ 40 := Nat.le_trans hzl h40
    rw [List.take_of_length_le (by rw [hi40.length]; exact Nat.le_refl _)] at Zz
    k_node
    k_node
    k_node
    refine iff_ ?_
    refine testS (by assumption) (zs ≠ []) ?_ fun b s S q => ⟨fun e => ?_, fun e => ?_⟩
    · refine andT ?_
      refine plainL ?_
      k_spoken
      refine ⟨D', zs, rfl, H₃.at (St.toIn (by assumption)), by omega, fun t => ?_⟩
      have S := St.tok (by assumption : St c _ T₃ L _ _ [] _) t
      refine ⟨fun e => ?_, fun e => ⟨S, fun q => nomatch q⟩⟩
      have hne : zs ≠ [] := by rintro rfl; cases e
      obtain ⟨x, zr, rfl⟩ : ∃ x zr, zs = x :: zr := by cases zs with | nil => exact absurd rfl hne | cons x r => exact ⟨x, r, rfl⟩
      obtain ⟨n, t, rfl⟩ := ints_head Zz
      k_spoken
      refine it0L (by assumption) H₃ (by rw [List.length_cons] at hz40; omega) ?_
      k_spoken
      refine iabs (by assumption) fun b t s hb S => ?_
      k_spoken
      refine ipow (by decide) (by decide) (by decide) (by assumption) fun t s S => ?_
      k_spoken
      refine ⟨fun e => ?_, fun e => ⟨by assumption, fun q => nomatch q⟩⟩
      k_spoken
      exact ⟨by assumption, fun _ => hne⟩
    focus
      have hne := q e
      obtain ⟨x, zr, rfl⟩ : ∃ x zr, zs = x :: zr := by cases zs with | nil => exact absurd rfl hne | cons x r => exact ⟨x, r, rfl⟩
      obtain ⟨n, t, rfl⟩ := ints_head Zz
      k_spoken
      refine it0L (by assumption) H₃ (by rw [List.length_cons] at hz40; omega) ?_
      k_spoken
      refine iabs (by assumption) fun b t s hb S => ?_
      k_spoken
      refine idiv (by decide) (by decide) (by assumption) fun t s S => ?_
      k_spoken
      refine ipow (by decide) (by decide) (by decide) (by assumption) fun t s S => ?_
      refine imod (Int.pow_pos (by decide)) (by assumption) fun t s S => ?_
    all_goals
      k_spoken
      refine forS ?_
      k_spoken
      refine loopL hA'.hd H₃ (by assumption) (fun i T' vs' M' => ∃ (g : Int) (tg : Tok) (st : Int) (ts : Tok) (z : Option Value), vs' = [some (.ref a), some (.ref D'), some (.int g tg), some (.int st ts), z] ∧ M' = [] ∧ T' = T₃) ⟨_, _, _, _, _, rfl, rfl, rfl⟩ ?_ ?_ (.inl ⟨_, _, rfl⟩)
      · rintro i v T' vs' M' I o s hv hi' le ⟨g, tg, st, ts, z, rfl, rfl, rfl⟩ S
        obtain ⟨n, t, rfl⟩ : ∃ n t, v = .int n t := by
          obtain ⟨y, hy⟩ := some_at (l := ns.take 40) (i := i) (by rw [← Zz.length]; exact hi')
          obtain ⟨t, ht⟩ := Zz.get i y hy
          rw [hv] at ht; cases ht
          exact ⟨_, _, rfl⟩
        k_spoken
        refine imulR (by unfold Sm; decide) (by assumption) fun t s S => ?_
        k_spoken
        refine imod (by decide) (by assumption) fun t s S => ?_
        k_spoken
        refine imod (by decide) (by assumption) fun t s S => ?_
        k_spoken
        exact ⟨.inl rfl, T', _, _, Fle.refl _, ⟨_, _, _, _, _, rfl, rfl, rfl⟩, by assumption⟩
      · rintro T' vs' M' s le ⟨g, tg, st, ts, z, rfl, rfl, rfl⟩ S
        k_spoken
        refine newLst (by assumption) fun D₅ s₅ hD₅ S₅ => ?_
        k_spoken
        exact h _ _ _ _ (le₁.trans le₃) (S₀.retOwn S₅) ⟨D', _, _, _, _, _, _, 0, _, ⟨rfl, 0, rfl⟩, H₃, Zz, hz40, Nat.le_refl _⟩
end
local macro_rules | `(tactic| k_rangeUnr) => `(tactic| ((with_reducible show W _ _ (eval _ _) _ _ _); first
  | (with_reducible refine rd (by assumption) (by assumption) (by gn_look) ?_)
  | (with_reducible refine cI (by assumption) ?_); intro t s S
  | (with_reducible refine cS (by assumption) ?_); intro t s S
  | (with_reducible refine binE ?_)
  | (with_reducible refine attrE ?_)
  | (with_reducible refine slcE ?_)
  | (with_reducible refine subE ?_)
  | (with_reducible refine tupE ?_)
  | (with_reducible refine callMt ?_)
  | (with_reducible refine slUpto ?_)
  | (with_reducible refine slFrom ?_)
  | (with_reducible refine callF0 (by assumption) (by assumption) (by gn_other) (by k_ownname) ?_)
  | (with_reducible refine callF (by assumption) (by assumption) (by gn_other) (by k_ownname) ?_)
  | (with_reducible refine callBi (by assumption) (by assumption) (by gn_other) (by k_strName) ?_)
  | (with_reducible refine callTy (by assumption) (by assumption) (by gn_other) (by k_strName) ?_)
  | (with_reducible refine cmpE ?_)
  | (with_reducible refine ifx ?_)
  | (with_reducible refine unE ?_)
  | (with_reducible refine lstE ?_)
  | (with_reducible refine cB ?_)
  | (with_reducible refine cN ?_)
  | (with_reducible refine rdGF (by assumption) (by assumption) (by gn_other) (by k_ownname) ?_)
  | (with_reducible refine rdBF (by assumption) (by assumption) (by gn_other) (by k_strName) ?_)
  | (with_reducible refine rdCT (by assumption) (by assumption) (by assumption) ?_)))
/-- places as the law has them: tenths -/
def IpT (T : Fz) (v : Value) (p : Pt) : Prop := ∃ a tx ty, v = .ref a ∧ TupT T a [.int p.1 tx, .int p.2 ty]
theorem IpT.mono {T T' : Fz} {v : Value} {p : Pt} (h : IpT T v p) (e : Fle T T') : IpT T' v p := let ⟨a, x, y, h1, h2⟩ := h; ⟨a, x, y, h1, h2.mono e⟩
def IPol (T : Fz) (v : Value) (q : List Pt) : Prop := ∃ a l, v = .ref a ∧ LstT T a l ∧ PySem.Paired (IpT T) l q
theorem IPol.mono {T T' : Fz} {v : Value} {q : List Pt} (h : IPol T v q) (e : Fle T T') : IPol T' v q := let ⟨a, l, h1, h2, h3⟩ := h; ⟨a, l, h1, h2.mono e, Paired.mono (fun _ _ x => x.mono e) h3⟩
def IPls (T : Fz) (v : Value) (qs : List (List Pt)) : Prop := ∃ a l, v = .ref a ∧ LstT T a l ∧ PySem.Paired (IPol T) l qs
theorem IPls.mono {T T' : Fz} {v : Value} {q : List (List Pt)} (h : IPls T v q) (e : Fle T T') : IPls T' v q := let ⟨a, l, h1, h2, h3⟩ := h; ⟨a, l, h1, h2.mono e, Paired.mono (fun _ _ x => x.mono e) h3⟩
section
variable {c : Cx} {P : Ent} {T : Fz} {L : Addr} {ks gs : List Str} {vs : List (Option Value)} {M : List (Addr × Obj)} {s : Shared} {env : Env} {A : Around} {E : Value → Shared → Prop}
theorem lawPath {v : Value} {qs : List (List Pt)} {b : Bool} {Q : Value → Shared → Prop} (S₀ : St c P T L ks vs M s) (hA : Rm A 6) (H : IPls T v qs) (hz : qs.length ≤ 100) (hq : ∀ q ∈ qs, 2 ≤ q.length ∧ q.length ≤ 100)
    (h : ∀ D T' s', Fle T T' → St c P T' L ks vs M s' → PthT T' D (qs.map fun q => (q, b)) → Q D s') : W (model c.p c.w) A (call (.ref 403) [v, .bool b]) Q E s := by
  refine enter [Str.ofString "polygons", Str.ofString "is_shut_up", Str.ofString "path", Str.ofString "corners", Str.ofString "x", Str.ofString "y"] [Str.ofString "Path", Str.ofString "move_to", Str.ofString "Decimal", Str.ofString "line_to", Str.ofString "close_path"] [some v, some (.bool b), none, none, none, none] S₀.toIn hA rfl rfl (by kernel_rfl) (BindsTo.of_eq rfl) (by kernel_rfl) (by kernel_rfl) (by kernel_rfl) fun env L s' F S' A' hA' => ?_
  obtain ⟨a, l, rfl, Hl, Zl⟩ := H
  have hll : l.length = qs.length := Paired.length Zl
  k_spoken
  refine pathNew0 (by assumption) (hA'.le (by omega)) fun D₁ T₁ s₁ le₁ S₁ H₁ => ?_
  replace Hl := Hl.mono le₁
  replace Zl := Paired.mono (fun _ _ x => IPol.mono x le₁) Zl
  k_spoken
  refine forS ?_
  k_spoken
  refine loopL hA'.hd Hl (by assumption) (fun i T' vs' M' => ∃ (pv : Value) (z1 z2 z3 : Option Value), vs' = [some (.ref a), some (.bool b), some pv, z1, z2, z3] ∧ M' = [] ∧ PthT T' pv ((qs.take i).map fun q => (q, b))) ⟨_, _, _, _, rfl, rfl, H₁⟩ ?_ ?_ (.inl ⟨_, _, rfl⟩)
  · rintro i v T₂ vs' M' I o s hv hi le ⟨pv, z1, z2, z3, rfl, rfl, HP⟩ S
    obtain ⟨q, hqi, pa, pl, rfl, Hp, Zp⟩ := prd Zl hv
    obtain ⟨hq1, hq2⟩ := hq q (List.mem_of_getElem? hqi)
    replace Hp := Hp.mono le
    replace Zp := Paired.mono (fun _ _ x => IpT.mono x le) Zp
    have hpl : pl.length = q.length := Paired.length Zp
    obtain ⟨x, xr, rfl⟩ : ∃ x r, pl = x :: r := by cases pl with | nil => simp at hpl; omega | cons x r => exact ⟨x, r, rfl⟩
    obtain ⟨p, pr, rfl⟩ : ∃ p r, q = p :: r := by cases q with | nil => simp at hq1 | cons x r => exact ⟨x, r, rfl⟩
    obtain ⟨Zx, Zr⟩ : IpT T₂ x p ∧ PySem.Paired (IpT T₂) xr pr := by cases Zp; exact ⟨by assumption, by assumption⟩
    obtain ⟨xa, tx, ty, rfl, Hx⟩ := Zx
    rw [List.length_cons] at hq1 hq2
    have hxr : xr.length = pr.length := Paired.length Zr
    have hbase : ((qs.take i).map fun q => (q, b)).length ≤ 100 := by rw [List.length_map, List.length_take]; omega
    k_spoken
    refine it0L (by assumption) Hp (by omega) ?_
    k_spoken
    refine decNew (p := 1) (by assumption) (hA'.le (by omega)) fun D₃ T₃ s₃ le₃ S₃ H₃ => ?_
    have Hp₃ := Hp.mono le₃
    have Hx₃ := Hx.mono le₃
    k_spoken
    refine it0L (by assumption) Hp₃ (by omega) ?_
    k_spoken
    refine decNew (p := 1) (by assumption) (hA'.le (by omega)) fun D₄ T₄ s₄ le₄ S₄ H₄ => ?_
    k_spoken
    refine moveTo (by assumption) hA' (HP.mono (le₃.trans le₄)) (fun q hq' => ?_) (by omega) (fun q hq' => ?_) (.inl (H₃.mono le₄)) (.inl H₄) fun D₅ T₅ s₅ le₅ S₅ H₅ => ?_
    · obtain ⟨q', hq'', rfl⟩ := List.mem_map.mp hq'
      exact (hq q' (List.mem_of_mem_take hq'')).1
    · obtain ⟨q', hq'', rfl⟩ := List.mem_map.mp hq'
      have := (hq q' (List.mem_of_mem_take hq'')).2
      show q'.length ≤ 1000
      omega
    have le' := le₃.trans (le₄.trans le₅)
    k_spoken
    refine forS ?_
    k_spoken
    refine gsFrom (a := 1) (by assumption) (Hp.mono le') (sz (by rw [List.length_cons]; omega)) fun T₆ D₆ s₆ le₆ H₆ S₆ => ?_
    replace H₆ : LstT T₆ D₆ xr := H₆
    have Zr₆ := Paired.mono (fun _ _ x => IpT.mono x (le'.trans le₆)) Zr
    refine loopL hA'.hd H₆ (by assumption) (fun j T' vs' M' => ∃ (pv : Value) (z2 z3 : Option Value), vs' = [some (.ref a), some (.bool b), some pv, some (.ref pa), z2, z3] ∧ M' = [(I, o)] ∧ PthT T' pv (((qs.take i).map fun q => (q, b)) ++ [(p :: pr.take j, false)])) ⟨_, _, _, rfl, rfl, by simpa using H₅.mono le₆⟩ ?_ ?_ (.inr fun v hv => ?_)
    · rintro j w T' vs' M' I₂ o₂ s hw hj le₇ ⟨pv, z2, z3, rfl, rfl, HP⟩ S
      obtain ⟨r, hr, ra, rx, ry, rfl, Hr⟩ := prd Zr₆ hw
      replace Hr := Hr.mono le₇
      k_spoken
      refine decNew (p := 1) (by assumption) (hA'.le (by omega)) fun D₈ T₈ s₈ le₈ S₈ H₈ => ?_
      k_spoken
      refine decNew (p := 1) (by assumption) (hA'.le (by omega)) fun D₉ T₉ s₉ le₉ S₉ H₉ => ?_
      k_spoken
      refine lineTo (p := r) (by assumption) hA' (HP.mono (le₈.trans le₉)) (by simp) (by omega) (by rw [List.length_cons, List.length_take]; omega) (.inl (H₈.mono le₉)) (.inl H₉) fun D₅ T₅ s₅ le₅ S₅ H₅ => ?_
      k_spoken
      refine ⟨.inl rfl, T₅, _, _, le₈.trans (le₉.trans le₅), ⟨_, _, _, rfl, rfl, ?_⟩, by assumption⟩
      rw [take1 hr]
      exact H₅
    · rintro T' vs' M' s le₇ ⟨pv, z2, z3, rfl, rfl, HP⟩ S
      rw [hxr, List.take_length] at HP
      k_node
      refine iff_ ?_
      refine plainT ?_
      k_spoken
      have en : (qs.take (i + 1)).map (fun q => (q, b)) = ((qs.take i).map fun q => (q, b)) ++ [(p :: pr, b)] := by rw [take1 hqi, List.map_append]; rfl
      cases b with
      | true =>
        k_spoken
        refine closePath (by assumption) (hA'.le (by omega)) HP (by simp) (by omega) (by rw [List.length_cons]; omega) fun D₅ T₅ s₅ le₅ S₅ H₅ => ?_
        k_spoken
        refine ⟨.inl rfl, T₅, _, _, le'.trans (le₆.trans (le₇.trans le₅)), ⟨_, _, _, _, rfl, rfl, ?_⟩, by assumption⟩
        rw [en]
        exact H₅
      | false =>
        k_spoken
        refine ⟨.inl rfl, T', _, _, le'.trans (le₆.trans le₇), ⟨_, _, _, _, rfl, rfl, ?_⟩, by assumption⟩
        rw [en]
        exact HP
    · obtain ⟨i, hi⟩ := List.getElem?_of_mem hv
      obtain ⟨p, _, pa, _, _, e, _⟩ := prd Zr hi
      exact ⟨pa, e⟩
  · rintro T' vs' M' s le ⟨pv, z1, z2, z3, rfl, rfl, HP⟩ S
    rw [hll, List.take_length] at HP
    k_spoken
    exact h _ _ _ (le₁.trans le) (S₀.ret (by assumption)) HP
end
section
variable {c : Cx} {P : Ent} {T : Fz} {L : Addr} {ks gs : List Str} {vs : List (Option Value)} {M : List (Addr × Obj)} {s : Shared} {env : Env} {A : Around} {E : Value → Shared → Prop}
def starred : Expr → Bool
  | .Starred .. => true
  | _ => false
theorem swap2 {a b : Str} {pa pb tp vp : Pos} {k k2 : Nat} {e1 e2 : Expr} (F : Fn env L ks gs) (ha : a ∈ ks) (hb : b ∈ ks)
    (hq : (pb.line == pa.line && (!(a == b) && (!(starred e1) && (!(starred e2) && (!([e1, e2].all (foldedForSure 8)) && !([e1, e2].all (constantsAlone 8))))))) = true) :
    swappedStores [.Tuple [.Name a pa, .Name b pb] k tp] (.Tuple [e1, e2] k2 vp) env = pure (some [a, b]) := by
  obtain ⟨h1, hq⟩ := Bool.and_eq_true_iff.mp hq
  obtain ⟨h2, hq⟩ := Bool.and_eq_true_iff.mp hq
  obtain ⟨h3, hq⟩ := Bool.and_eq_true_iff.mp hq
  obtain ⟨h4, hq⟩ := Bool.and_eq_true_iff.mp hq
  obtain ⟨h5, h6⟩ := Bool.and_eq_true_iff.mp hq
  have k1 : env.blockKind = .function := by unfold Env.blockKind; rw [F.kind]; rfl
  have ka := (F.lk a ha).1
  have kb := (F.lk b hb).1
  have e5 : ([e1, e2].all (foldedForSure 8)) = false := by rw [Bool.not_eq_true'] at h5; exact h5
  have e6 : ([e1, e2].all (constantsAlone 8)) = false := by rw [Bool.not_eq_true'] at h6; exact h6
  have e8 : ([a, b].eraseDups).length = 2 := by
    have : (a == b) = false := by simpa using h2
    have hne : ¬ a = b := by simpa using this
    have hne' : ¬ b = a := fun e => hne e.symm
    simp [List.eraseDups_cons, hne, hne']
  have h1' : pb.line = pa.line := eq_of_beq h1
  have p1 : (Expr.Name a pa).pos = pa := rfl
  unfold swappedStores
  dsimp only
  rw [k1]
  refine (if_neg ?_).trans ((if_neg ?_).trans ((if_neg ?_).trans ((if_neg ?_).trans ((if_neg ?_).trans ?_))))
  · simp
  · intro h
    obtain ⟨x, hx, hs⟩ := List.any_eq_true.mp h
    have : starred x = false := by
      rcases List.mem_cons.mp hx with rfl | hx
      · simpa using h3
      · rw [List.mem_singleton.mp hx]; simpa using h4
    cases x <;> first | (cases hs; done) | (cases this; done)
  · simp [List.filterMap_cons, List.filterMap_nil, ka, kb, h1', p1, e8]
  · rw [e5]; decide
  · rw [e6]; decide
  · simp [List.filterMap_cons, List.filterMap_nil, ka, kb, h1', p1]
theorem asgP2 {a b : Str} {pa pb tp vp pos : Pos} {k k2 : Nat} {e1 e2 : Expr} {rest : List Stmt} {Q : Flow → Shared → Prop} (F : Fn env L ks gs) (S₀ : St c P T L ks vs M s) (hh : A.handled = none) (ha : a ∈ ks) (hb : b ∈ ks)
    (h : W (model c.p c.w) A (spliced (backTo vp (starEach [e1, e2] env))) (fun l s₁ => ∃ v1 v2 T', l = [v1, v2] ∧ St c P T' L ks vs M s₁ ∧ ∀ T'' s₂, Fle T' T'' → St c P T'' L ks vs M s₂ →
      W (model c.p c.w) A (storeName env b v2) (fun _ s₃ => W (model c.p c.w) A (storeName env a v1) (fun _ s₄ => W (model c.p c.w) A (execs rest env) Q E s₄) E s₃) E s₂) E s)
    (hq : (pb.line == pa.line && (!(a == b) && (!(starred e1) && (!(starred e2) && (!([e1, e2].all (foldedForSure 8)) && !([e1, e2].all (constantsAlone 8))))))) = true := by kernel_rfl) :
    W (model c.p c.w) A (execs (.Assign [.Tuple [.Name a pa, .Name b pb] k tp] (.Tuple [e1, e2] k2 vp) pos :: rest) env) Q E s := by
  refine seq (.of (Assign_Tuple_swapped (names := [a, b]) ?_ (by unfold swapsWithSole; rfl) (swap2 F ha hb hq)))
  refine Tuple_ (wpAny_mono h.un (fun l s₁ h₁ => ?_) fun _ _ x => x)
  obtain ⟨v1, v2, T', rfl, S, g⟩ := h₁
  refine (newTup (E := E) (Mo := model c.p c.w) (A := A) (Q := fun v s₂ => wpAny (model c.p c.w) A (unpackItems v ([a, b] : List Str).length none) (fun items s₂ =>
      wpAny (model c.p c.w) A (assignInOrder (([a, b] : List Str).reverse.map fun n => bindName env n) items.reverse) (fun _ => thn (model c.p c.w) A env rest Q E .next) E s₂) E s₂) S fun D T'' s₂ le HD S₂ => ?_).un
  refine wpAny_unpackItems_tuple (items := [v1, v2].toArray) hh (HD.at S₂.toIn) fun h' he => ?_
  have S₃ : St c P T'' L ks vs M { s₂ with heap := h' } := S₂.grow (fun b o e => he b o (Nat.ne_of_lt (Heap.lt_size e)) e) s₂.toks
  show wpAny _ A (assignInOrder [bindName env b, bindName env a] [v2, v1]) _ _ _
  refine assignInOrder_cons (wpAny_bindName (wpAny_mono (g T'' _ le S₃).un (fun _ s₄ q => assignInOrder_cons (wpAny_bindName (wpAny_mono q.un (fun _ s₅ q => assignInOrder_nil q) fun _ _ x => x))) fun _ _ x => x))

def rdE (e : Pt × Pt) (x y : Int) : Int :=
  if e.1.2 < e.2.2 then (if e.1.2 ≤ y ∧ y < e.2.2 then (if 0 ≤ (x - e.1.1) * (e.2.2 - e.1.2) - (e.2.1 - e.1.1) * (y - e.1.2) then -1 else 0) else 0)
  else (if e.2.2 ≤ y ∧ y < e.1.2 then (if 0 ≤ (x - e.2.1) * (e.1.2 - e.2.2) - (e.1.1 - e.2.1) * (y - e.2.2) then 1 else 0) else 0)
def rnd (qs : List (List Pt)) (x y : Int) : Int := ((qs.flatMap ed).map fun e => rdE e x y).sum
theorem sum_take1 {es : List (Pt × Pt)} {f : Pt × Pt → Int} {j : Nat} {e : Pt × Pt} (h : es[j]? = some e) : ((es.take (j + 1)).map f).sum = ((es.take j).map f).sum + f e := by
  rw [take1 h, List.map_append, List.sum_append]; simp
theorem sum_take_ed {qs : List (List Pt)} {f : Pt × Pt → Int} {i : Nat} {q : List Pt} (h : qs[i]? = some q) : (((qs.take (i + 1)).flatMap ed).map f).sum = (((qs.take i).flatMap ed).map f).sum + ((ed q).map f).sum := by
  rw [take1 h, List.flatMap_append, List.map_append, List.sum_append]; simp

/-- both sums of the law's own: a loop over the edges that adds a number -/
theorem lawArea {v : Value} {qs : List (List Pt)} {Q : Value → Shared → Prop} (S₀ : St c P T L ks vs M s) (hA : Rm A 1) (H : IPls T v qs) (hz : qs.length ≤ 100) (hq : ∀ q ∈ qs, q.length ≤ 100 ∧ ∀ p ∈ q, BdP p)
    (h : ∀ t T' s', Fle T T' → St c P T' L ks vs M s' → Q (.int (area qs) t) s') : W (model c.p c.w) A (call (.ref 417) [v]) Q E s := by
  refine enter [Str.ofString "polygons", Str.ofString "total", Str.ofString "corners", Str.ofString "at"] [Str.ofString "range", Str.ofString "len"] [some v, none, none, none] S₀.toIn hA rfl rfl (by kernel_rfl) (BindsTo.of_eq rfl) (by kernel_rfl) (by kernel_rfl) (by kernel_rfl) fun env L s' F S' A' hA' => ?_
  obtain ⟨a, l, rfl, Hl, Zl⟩ := H
  have hll : l.length = qs.length := Paired.length Zl
  k_spoken
  refine forS ?_
  k_spoken
  refine loopL hA'.hd Hl (by assumption) (fun i T' vs' M' => ∃ (t : Tok) (z1 z2 : Option Value), vs' = [some (.ref a), some (.int (((qs.take i).flatMap ed).map arE).sum t), z1, z2] ∧ M' = [] ∧ T' = T) ⟨_, _, _, rfl, rfl, rfl⟩ ?_ ?_ (.inl ⟨_, _, rfl⟩)
  · rintro i v T₂ vs' M' I o s hv hi le ⟨tk, z1, z2, rfl, rfl, rfl⟩ S
    obtain ⟨q, hqi, pa, pl, rfl, Hp, Zp⟩ := prd Zl hv
    obtain ⟨hqn, hqb⟩ := hq q (List.mem_of_getElem? hqi)
    have hpl : pl.length = q.length := Paired.length Zp
    k_spoken
    refine forS ?_
    k_spoken
    refine lenL (by assumption) (Hp.at (St.toIn (by assumption))) (sz (by omega)) fun t s S => ?_
    k_spoken
    refine mkRg1 (by assumption) (by omega) (by omega) fun r ro s hr S => ?_
    rw [Int.toNat_natCast] at hr
    refine loopRg hA'.hd hr (by assumption) (fun j T' vs' M' => ∃ (t : Tok) (z2 : Option Value), vs' = [some (.ref a), some (.int ((((qs.take i).flatMap ed).map arE).sum + (((ed q).take j).map arE).sum) t), some (.ref pa), z2] ∧ M' = [(I, o)] ∧ T' = T₂) ⟨tk, _, by simp; rfl, rfl, rfl⟩ ?_ ?_
    · rintro j t T' vs' M' I₂ o₂ s hj le₄ ⟨tk, z2, rfl, rfl, rfl⟩ S
      rw [Int.zero_add]
      obtain ⟨x₁, hx₁⟩ := some_at (l := pl) (prv_lt hj)
      obtain ⟨x₂, hx₂⟩ := some_at hj
      obtain ⟨p₁, hp₁, a₁, tx1, ty1, rfl, H₁⟩ := prd Zp hx₁
      obtain ⟨p₂, hp₂, a₂, tx2, ty2, rfl, H₂⟩ := prd Zp hx₂
      rw [hpl] at hp₁
      have hed := ed_get hp₁ hp₂
      have b₁ := hqb p₁ (List.mem_of_getElem? hp₁)
      have b₂ := hqb p₂ (List.mem_of_getElem? hp₂)
      k_spoken
      refine itPrev (by assumption) Hp j hj hx₁ (by omega) ?_
      k_spoken
      refine itAt (by assumption) Hp j hx₂ (by omega) ?_
      k_spoken
      refine imulL b₁.1.sm (by assumption) fun t s S => ?_
      k_spoken
      refine itAt (by assumption) Hp j hx₂ (by omega) ?_
      k_spoken
      refine itPrev (by assumption) Hp j hj hx₁ (by omega) ?_
      k_spoken
      refine imulL b₂.1.sm (by assumption) fun t s S => ?_
      k_spoken
      refine ⟨.inl rfl, T', _, _, Fle.refl _, ⟨?t, ?z, rfl, rfl, rfl⟩, ?_⟩
      rotate_left 2
      rw [sum_take1 hed, ← Int.add_assoc, show arE (p₁, p₂) = p₁.1 * p₂.2 - p₂.1 * p₁.2 from rfl, ← Int.add_sub_assoc]
      assumption
    · rintro T' vs' M' s le₄ ⟨tk, z2, rfl, rfl, rfl⟩ S
      rw [hpl, ← ed_length q, List.take_length, ← sum_take_ed hqi] at S
      k_spoken
      exact ⟨.inl rfl, T', _, _, Fle.refl _, ⟨_, _, _, rfl, rfl, rfl⟩, S⟩
  · rintro T' vs' M' s le ⟨tk, z1, z2, rfl, rfl, rfl⟩ S
    rw [hll, List.take_length] at S
    k_spoken
    exact h _ _ _ (Fle.refl _) (S₀.ret (by assumption))
end
section
variable {c : Cx} {P : Ent} {T : Fz} {L : Addr} {ks gs : List Str} {vs : List (Option Value)} {M : List (Addr × Obj)} {s : Shared} {env : Env} {A : Around} {E : Value → Shared → Prop}
theorem Bd.sm2 {a b : Int} (h : Bd a) (h' : Bd b) : Sm (a - b) := Bd.sub h h'
theorem lawRound {v : Value} {qs : List (List Pt)} {x y : Int} {tx ty : Tok} {Q : Value → Shared → Prop} (S₀ : St c P T L ks vs M s) (hA : Rm A 1) (H : IPls T v qs) (hz : qs.length ≤ 100) (hq : ∀ q ∈ qs, q.length ≤ 100 ∧ ∀ p ∈ q, BdP p) (bx : Bd x) (by_ : Bd y)
    (h : ∀ t T' s', Fle T T' → St c P T' L ks vs M s' → Q (.int (rnd qs x y) t) s') : W (model c.p c.w) A (call (.ref 410) [v, .int x tx, .int y ty]) Q E s := by
  refine enter [Str.ofString "polygons", Str.ofString "x", Str.ofString "y", Str.ofString "total", Str.ofString "corners", Str.ofString "at", Str.ofString "p", Str.ofString "q", Str.ofString "low", Str.ofString "high", Str.ofString "reach"] [Str.ofString "range", Str.ofString "len"] [some v, some (.int x tx), some (.int y ty), none, none, none, none, none, none, none, none] S₀.toIn hA rfl rfl (by kernel_rfl) (BindsTo.of_eq rfl) (by kernel_rfl) (by kernel_rfl) (by kernel_rfl) fun env L s' F S' A' hA' => ?_
  obtain ⟨a, l, rfl, Hl, Zl⟩ := H
  have hll : l.length = qs.length := Paired.length Zl
  k_spoken
  refine forS ?_
  k_spoken
  refine loopL hA'.hd Hl (by assumption) (fun i T' vs' M' => ∃ (t : Tok) (z1 z2 z3 z4 z5 z6 z7 : Option Value), vs' = [some (.ref a), some (.int x tx), some (.int y ty), some (.int (((qs.take i).flatMap ed).map fun e => rdE e x y).sum t), z1, z2, z3, z4, z5, z6, z7] ∧ M' = [] ∧ Fle T T') ⟨_, _, _, _, _, _, _, _, rfl, rfl, Fle.refl _⟩ ?_ ?_ (.inl ⟨_, _, rfl⟩)
  · rintro i v T₂ vs' M' I o s hv hi le ⟨tk, z1, z2, z3, z4, z5, z6, z7, rfl, rfl, _⟩ S
    obtain ⟨q, hqi, pa, pl, rfl, Hp, Zp⟩ := prd Zl hv
    obtain ⟨hqn, hqb⟩ := hq q (List.mem_of_getElem? hqi)
    replace Hp := Hp.mono le
    replace Zp := Paired.mono (fun _ _ x => IpT.mono x le) Zp
    have hpl : pl.length = q.length := Paired.length Zp
    k_spoken
    refine forS ?_
    k_spoken
    refine lenL (by assumption) (Hp.at (St.toIn (by assumption))) (sz (by omega)) fun t s S => ?_
    k_spoken
    refine mkRg1 (by assumption) (by omega) (by omega) fun r ro s hr S => ?_
    rw [Int.toNat_natCast] at hr
    refine loopRg hA'.hd hr (by assumption) (fun j T' vs' M' => ∃ (t : Tok) (z2 z3 z4 z5 z6 z7 : Option Value), vs' = [some (.ref a), some (.int x tx), some (.int y ty), some (.int ((((qs.take i).flatMap ed).map fun e => rdE e x y).sum + (((ed q).take j).map fun e => rdE e x y).sum) t), some (.ref pa), z2, z3, z4, z5, z6, z7] ∧ M' = [(I, o)] ∧ Fle T₂ T') ⟨tk, _, _, _, _, _, _, by rw [show (((ed q).take 0).map fun e => rdE e x y).sum = 0 from rfl, Int.add_zero], rfl, Fle.refl _⟩ ?_ ?_
    · rintro j t T' vs' M' I₂ o₂ s hj le₄ ⟨tk, z2, z3, z4, z5, z6, z7, rfl, rfl, _⟩ S
      rw [Int.zero_add]
      replace Hp := Hp.mono le₄
      replace Zp := Paired.mono (fun _ _ x => IpT.mono x le₄) Zp
      obtain ⟨x₁, hx₁⟩ := some_at (l := pl) (prv_lt hj)
      obtain ⟨x₂, hx₂⟩ := some_at hj
      obtain ⟨p₁, hp₁, a₁, tx1, ty1, rfl, H₁⟩ := prd Zp hx₁
      obtain ⟨p₂, hp₂, a₂, tx2, ty2, rfl, H₂⟩ := prd Zp hx₂
      rw [hpl] at hp₁
      have hed := ed_get hp₁ hp₂
      have b₁ := hqb p₁ (List.mem_of_getElem? hp₁)
      have b₂ := hqb p₂ (List.mem_of_getElem? hp₂)
      have hsum := sum_take1 (f := fun e => rdE e x y) hed
      generalize hX : (((qs.take i).flatMap ed).map fun e => rdE e x y).sum + (((ed q).take j).map fun e => rdE e x y).sum = X at S
      have goal : (((qs.take i).flatMap ed).map fun e => rdE e x y).sum + (((ed q).take (j + 1)).map fun e => rdE e x y).sum = X + rdE (p₁, p₂) x y := by rw [hsum, ← Int.add_assoc, hX]
      k_spoken
      refine asgP2 F (by assumption) hA'.hd (by simp) (by simp) ?_
      k_spoken
      refine itPrev (by assumption) Hp j hj hx₁ (by omega) ?_
      k_spoken
      refine itAt (by assumption) Hp j hx₂ (by omega) ?_
      k_spoken
      refine ⟨_, _, T', rfl, by assumption, fun T₅ s₅ le₅ S₅ => ?_⟩
      replace H₁ := H₁.mono le₅
      replace H₂ := H₂.mono le₅
      k_spoken
      refine ⟨fun e => ?_, fun e => ?_⟩
      · k_spoken
        refine newTup (by assumption) fun D₆ T₆ s₆ le₆ H₆ S₆ => ?_
        replace H₁ := H₁.mono le₆
        replace H₂ := H₂.mono le₆
        k_spoken
        by_cases g : p₁.2 ≤ y ∧ y < p₂.2
        · refine brP (decide_eq_true g.1) ?_
          k_spoken
          refine brP (decide_eq_true g.2) ?_
          k_spoken
          refine imulL (bx.sub b₁.1) (by assumption) fun t s S => ?_
          k_spoken
          refine imulL (b₂.1.sub b₁.1) (by assumption) fun t s S => ?_
          k_spoken
          refine ⟨fun r => ?_, fun r => ?_⟩
          · have hr : rdE (p₁, p₂) x y = -1 := by unfold rdE; rw [if_pos (of_decide_eq_true e), if_pos g, if_pos (of_decide_eq_true r)]
            k_spoken
            refine brP (e) ?_
            k_spoken
            refine ⟨.inl rfl, T₆, _, _, le₅.trans le₆, ⟨?_, ?_, ?_, ?_, ?_, ?_, ?_, rfl, rfl, le₄.trans (le₅.trans le₆)⟩, ?_⟩
            rotate_left 7
            rw [goal, hr, show X + -1 = X - 1 from rfl]
            assumption
          · have hr : rdE (p₁, p₂) x y = 0 := by unfold rdE; rw [if_pos (of_decide_eq_true e), if_pos g, if_neg (of_decide_eq_false r)]
            k_spoken
            refine ⟨.inl rfl, T₆, _, _, le₅.trans le₆, ⟨?_, ?_, ?_, ?_, ?_, ?_, ?_, rfl, rfl, le₄.trans (le₅.trans le₆)⟩, ?_⟩
            rotate_left 7
            rw [goal, hr, Int.add_zero]
            assumption
        · have hr : rdE (p₁, p₂) x y = 0 := by unfold rdE; rw [if_pos (of_decide_eq_true e), if_neg g]
          refine ⟨fun r => ?_, fun r => ?_⟩
          focus
            k_spoken
            refine brQ (decide_eq_false fun q => g ⟨of_decide_eq_true r, q⟩) ?_
          all_goals
            k_spoken
            refine ⟨.inl rfl, T₆, _, _, le₅.trans le₆, ⟨?_, ?_, ?_, ?_, ?_, ?_, ?_, rfl, rfl, le₄.trans (le₅.trans le₆)⟩, ?_⟩
            rotate_left 7
            rw [goal, hr, Int.add_zero]
            assumption
      · k_spoken
        refine newTup (by assumption) fun D₆ T₆ s₆ le₆ H₆ S₆ => ?_
        replace H₁ := H₁.mono le₆
        replace H₂ := H₂.mono le₆
        k_spoken
        by_cases g : p₂.2 ≤ y ∧ y < p₁.2
        · refine brP (decide_eq_true g.1) ?_
          k_spoken
          refine brP (decide_eq_true g.2) ?_
          k_spoken
          refine imulL (bx.sub b₂.1) (by assumption) fun t s S => ?_
          k_spoken
          refine imulL (b₁.1.sub b₂.1) (by assumption) fun t s S => ?_
          k_spoken
          refine ⟨fun r => ?_, fun r => ?_⟩
          · have hr : rdE (p₁, p₂) x y = 1 := by unfold rdE; rw [if_neg (of_decide_eq_false e), if_pos g, if_pos (of_decide_eq_true r)]
            k_spoken
            refine brQ (e) ?_
            k_spoken
            refine ⟨.inl rfl, T₆, _, _, le₅.trans le₆, ⟨?_, ?_, ?_, ?_, ?_, ?_, ?_, rfl, rfl, le₄.trans (le₅.trans le₆)⟩, ?_⟩
            rotate_left 7
            rw [goal, hr, show X + 1 = X - -1 from (Int.sub_neg X 1).symm]
            assumption
          · have hr : rdE (p₁, p₂) x y = 0 := by unfold rdE; rw [if_neg (of_decide_eq_false e), if_pos g, if_neg (of_decide_eq_false r)]
            k_spoken
            refine ⟨.inl rfl, T₆, _, _, le₅.trans le₆, ⟨?_, ?_, ?_, ?_, ?_, ?_, ?_, rfl, rfl, le₄.trans (le₅.trans le₆)⟩, ?_⟩
            rotate_left 7
            rw [goal, hr, Int.add_zero]
            assumption
        · have hr : rdE (p₁, p₂) x y = 0 := by unfold rdE; rw [if_neg (of_decide_eq_false e), if_neg g]
          refine ⟨fun r => ?_, fun r => ?_⟩
          focus
            k_spoken
            refine brQ (decide_eq_false fun q => g ⟨of_decide_eq_true r, q⟩) ?_
          all_goals
            k_spoken
            refine ⟨.inl rfl, T₆, _, _, le₅.trans le₆, ⟨?_, ?_, ?_, ?_, ?_, ?_, ?_, rfl, rfl, le₄.trans (le₅.trans le₆)⟩, ?_⟩
            rotate_left 7
            rw [goal, hr, Int.add_zero]
            assumption
    · rintro T' vs' M' s le₄ ⟨tk, z2, z3, z4, z5, z6, z7, rfl, rfl, _⟩ S
      rw [hpl, ← ed_length q, List.take_length, ← sum_take_ed hqi] at S
      k_spoken
      exact ⟨.inl rfl, T', _, _, le₄, ⟨_, _, _, _, _, _, _, _, rfl, rfl, le.trans le₄⟩, S⟩
  · rintro T' vs' M' s le ⟨tk, z1, z2, z3, z4, z5, z6, z7, rfl, rfl, _⟩ S
    rw [hll, List.take_length] at S
    k_spoken
    exact h _ _ _ le (S₀.ret (by assumption))
end
section
variable {c : Cx} {P : Ent} {T : Fz} {L : Addr} {ks gs : List Str} {vs : List (Option Value)} {M : List (Addr × Obj)} {s : Shared} {env : Env} {A : Around} {E : Value → Shared → Prop}
theorem rdGR {x : Str} {pos : Pos} {v : Value} {Q : Value → Shared → Prop} {Mo : Model} (F : Fn env L ks gs) (S : St c P T L ks vs M s) (h : Mm x gs) (e : nsIn c.K mainGlobals x = some (some v)) (q : Q v s) : W Mo A (eval (.Name x pos) env) Q E s := rdG F S.toIn h.mem e q
theorem rules_tup (S : St c P T L ks vs M s) : ∃ l, TupT T 195 l ∧ StrsAre l [Str.ofString "nonzero", Str.ofString "evenodd"] := by
  refine ⟨_, ⟨_, S.atB (a := 195) rfl, rfl, 0, rfl⟩, ?_⟩
  exact .cons _ _ (.cons _ _ .nil)
theorem isFilledN {n : Int} {t u : Tok} {Q : Value → Shared → Prop} (S₀ : St c P T L ks vs M s) (hA : Rm A 1) (h : ∀ T' s', Fle T T' → St c P T' L ks vs M s' → Q (.bool (n != 0)) s') : W (model c.p c.w) A (call (.ref 355) [.int n t, .str (Str.ofString "nonzero") u]) Q E s := by
  refine enter [Str.ofString "total", Str.ofString "rule"] [Str.ofString "RULES", Str.ofString "PaintFault", Str.ofString "str"] [some (.int n t), some (.str (Str.ofString "nonzero") u)] S₀.toIn hA rfl rfl (by kernel_rfl) (BindsTo.of_eq rfl) (by kernel_rfl) (by kernel_rfl) (by kernel_rfl) fun env L s' F S' A' hA' => ?_
  k_spoken
  refine rdGR (v := .ref 195) F (by assumption) .head (by kernel_rfl) ?_
  obtain ⟨l, Hl, hl⟩ := rules_tup (by assumption)
  refine notinT (by assumption) Hl hl ?_
  rw [show (!([Str.ofString "nonzero", Str.ofString "evenodd"].any (· == Str.ofString "nonzero"))) = false from by decide]
  k_spoken
  rw [show (Str.ofString "nonzero" == Str.ofString "nonzero") = true from by decide]
  k_spoken
  exact h _ _ (Fle.refl _) (S₀.ret (by assumption))
theorem isFilledE {n : Int} {t u : Tok} {Q : Value → Shared → Prop} (S₀ : St c P T L ks vs M s) (hA : Rm A 1) (h : ∀ T' s', Fle T T' → St c P T' L ks vs M s' → Q (.bool (n % 2 == 1)) s') : W (model c.p c.w) A (call (.ref 355) [.int n t, .str (Str.ofString "evenodd") u]) Q E s := by
  refine enter [Str.ofString "total", Str.ofString "rule"] [Str.ofString "RULES", Str.ofString "PaintFault", Str.ofString "str"] [some (.int n t), some (.str (Str.ofString "evenodd") u)] S₀.toIn hA rfl rfl (by kernel_rfl) (BindsTo.of_eq rfl) (by kernel_rfl) (by kernel_rfl) (by kernel_rfl) fun env L s' F S' A' hA' => ?_
  k_spoken
  refine rdGR (v := .ref 195) F (by assumption) .head (by kernel_rfl) ?_
  obtain ⟨l, Hl, hl⟩ := rules_tup (by assumption)
  refine notinT (by assumption) Hl hl ?_
  rw [show (!([Str.ofString "nonzero", Str.ofString "evenodd"].any (· == Str.ofString "evenodd"))) = false from by decide]
  k_spoken
  rw [show (Str.ofString "evenodd" == Str.ofString "nonzero") = false from by decide]
  k_spoken
  refine imod (by decide) (by assumption) fun t s S => ?_
  k_spoken
  exact h _ _ (Fle.refl _) (S₀.ret (by assumption))
theorem isInsideN {v xv yv : Value} {ps : List Prt} {px py : Int} {u : Tok} {Q : Value → Shared → Prop} (S₀ : St c P T L ks vs M s) (hA : Rm A 6) (H : PthT T v ps) (Hx : Nv T xv px 1) (Hy : Nv T yv py 1) (hz : ps.length ≤ 100) (hm : ∀ q ∈ ps, 2 ≤ q.1.length ∧ q.1.length ≤ 100 ∧ ∀ p ∈ q.1, BdP p) (bx : Bd px) (by_ : Bd py)
    (h : ∀ T' s', Fle T T' → St c P T' L ks vs M s' → Q (.bool (wn (ps.map (·.1)) px py != 0)) s') : W (model c.p c.w) A (call (.ref 363) [v, .str (Str.ofString "nonzero") u, xv, yv]) Q E s := by
  refine enter [Str.ofString "path", Str.ofString "rule", Str.ofString "x", Str.ofString "y", Str.ofString "depth"] [Str.ofString "is_filled", Str.ofString "winding", Str.ofString "lines_of"] [some v, some (.str (Str.ofString "nonzero") u), some xv, some yv, some (.int 3 421)] S₀.toIn hA rfl rfl (by kernel_rfl) (binds := [(Str.ofString "path", v), (Str.ofString "rule", .str (Str.ofString "nonzero") u), (Str.ofString "x", xv), (Str.ofString "y", yv), (Str.ofString "depth", .int 3 421)]) (BindsTo.of_defaults rfl (S₀.K 356 _ rfl) rfl rfl rfl) (by kernel_rfl) (by kernel_rfl) (by kernel_rfl) fun env L s' F S' A' hA' => ?_
  k_spoken
  refine linesOf2 (by assumption) (hA'.le (by omega)) H ⟨by decide, by decide⟩ (by omega) (fun q hq => ⟨(hm q hq).1, by have := (hm q hq).2.1; omega⟩) fun D₁ T₁ s₁ le₁ S₁ H₁ => ?_
  k_spoken
  refine winding_ (by assumption) hA' H₁ (Hx.mono le₁) (Hy.mono le₁) (by rw [List.length_map]; exact hz) (fun q hq => ?_) bx by_ fun t T₂ s₂ le₂ S₂ => ?_
  · obtain ⟨q', hq', rfl⟩ := List.mem_map.mp hq
    exact (hm q' hq').2
  k_spoken
  refine isFilledN (by assumption) (hA'.le (by omega)) fun T₃ s₃ le₃ S₃ => ?_
  k_spoken
  exact h _ _ (le₁.trans (le₂.trans le₃)) (S₀.ret (by assumption))
theorem isInsideE {v xv yv : Value} {ps : List Prt} {px py : Int} {u : Tok} {Q : Value → Shared → Prop} (S₀ : St c P T L ks vs M s) (hA : Rm A 6) (H : PthT T v ps) (Hx : Nv T xv px 1) (Hy : Nv T yv py 1) (hz : ps.length ≤ 100) (hm : ∀ q ∈ ps, 2 ≤ q.1.length ∧ q.1.length ≤ 100 ∧ ∀ p ∈ q.1, BdP p) (bx : Bd px) (by_ : Bd py)
    (h : ∀ T' s', Fle T T' → St c P T' L ks vs M s' → Q (.bool (wn (ps.map (·.1)) px py % 2 == 1)) s') : W (model c.p c.w) A (call (.ref 363) [v, .str (Str.ofString "evenodd") u, xv, yv]) Q E s := by
  refine enter [Str.ofString "path", Str.ofString "rule", Str.ofString "x", Str.ofString "y", Str.ofString "depth"] [Str.ofString "is_filled", Str.ofString "winding", Str.ofString "lines_of"] [some v, some (.str (Str.ofString "evenodd") u), some xv, some yv, some (.int 3 421)] S₀.toIn hA rfl rfl (by kernel_rfl) (binds := [(Str.ofString "path", v), (Str.ofString "rule", .str (Str.ofString "evenodd") u), (Str.ofString "x", xv), (Str.ofString "y", yv), (Str.ofString "depth", .int 3 421)]) (BindsTo.of_defaults rfl (S₀.K 356 _ rfl) rfl rfl rfl) (by kernel_rfl) (by kernel_rfl) (by kernel_rfl) fun env L s' F S' A' hA' => ?_
  k_spoken
  refine linesOf2 (by assumption) (hA'.le (by omega)) H ⟨by decide, by decide⟩ (by omega) (fun q hq => ⟨(hm q hq).1, by have := (hm q hq).2.1; omega⟩) fun D₁ T₁ s₁ le₁ S₁ H₁ => ?_
  k_spoken
  refine winding_ (by assumption) hA' H₁ (Hx.mono le₁) (Hy.mono le₁) (by rw [List.length_map]; exact hz) (fun q hq => ?_) bx by_ fun t T₂ s₂ le₂ S₂ => ?_
  · obtain ⟨q', hq', rfl⟩ := List.mem_map.mp hq
    exact (hm q' hq').2
  k_spoken
  refine isFilledE (by assumption) (hA'.le (by omega)) fun T₃ s₃ le₃ S₃ => ?_
  k_spoken
  exact h _ _ (le₁.trans (le₂.trans le₃)) (S₀.ret (by assumption))
end
section
variable {c : Cx} {P : Ent} {T : Fz} {L : Addr} {ks gs : List Str} {vs : List (Option Value)} {M : List (Addr × Obj)} {s : Shared} {env : Env} {A : Around} {E : Value → Shared → Prop}
/-- the heap turned away from all that the frame needs -/
theorem St.but {h' : Heap} {x : Addr} (S : St c P T L ks vs [] s) (h1 : T x = none) (h2 : x ≠ L) (h3 : P.G x = none) (hk : ∀ b o, b ≠ x → s.heap.get? b = some o → h'.get? b = some o) (t : Nat) : St c P T L ks vs [] { s with heap := h', toks := t } where
  ok := S.ok
  gens := S.gens
  os := S.os
  bT := S.bT
  sub := fun b o e => hk b o (fun q => by rw [q, h1] at e; cases e) (S.sub b o e)
  le := S.le
  low := S.low
  keep := fun b o e => hk b o (fun q => by rw [q, h3] at e; cases e) (S.keep b o e)
  nl := S.nl
  ns := let ⟨m, ⟨o, es, ep, e, r⟩, al⟩ := S.ns; ⟨m, ⟨o, es, ep, hk _ _ (Ne.symm h2) e, r⟩, al⟩
  tL := S.tL
  gL := S.gL
  led := fun p hp => nomatch hp
  nd := List.nodup_nil
theorem St.fresh {b : Addr} (S : St c P T L ks vs M s) (e : s.heap.get? b = none) : T b = none ∧ b ≠ L ∧ P.G b = none := by
  refine ⟨?_, ?_, ?_⟩
  · cases q : T b with
    | none => rfl
    | some o => have := S.sub _ _ q; rw [e] at this; cases this
  · rintro rfl
    obtain ⟨m, ⟨o, es, ep, ho, _⟩, _⟩ := S.ns
    rw [e] at ho; cases ho
  · cases q : P.G b with
    | none => rfl
    | some o => have := S.keep _ _ q; rw [e] at this; cases this
theorem b_Exception : BF c "Exception" (.type "Exception") := ⟨by kernel_rfl, by kernel_rfl, by decide⟩
theorem gmExc {pl : Sem Bool} {Q : Value × List Value → Shared → Prop} (S : St c P T L ks vs M s) (h : ∀ s', St c P T L ks vs M s' → s'.heap = s.heap → Q (.builtin "Exception.__init__", []) s') : W (model c.p c.w) A (getMethod (.type "Exception") (Str.ofString "__init__") pl) Q E s := by
  refine .of ?_
  have X := S.K
  have hstub : opaqueClassAbove (.type "Exception") = pure none := by unfold opaqueClassAbove; dsimp only; rw [show Manifest.isStub "Exception" = false from by decide +kernel]; rfl
  have L0 : Looks (model c.p c.w) s.heap (typeOf (.type "Exception")) (.type "type") := Looks.of_pure (by
    show (pure (Value.type ((Manifest.find? "Exception").elim "type" (·.metatype))) : Sem Value) = pure (.type "type")
    rw [find?_eq_fast]; kernel_rfl)
  have LO : Looks (model c.p c.w) s.heap (opaqueClassAbove (.type "Exception")) none := Looks.of_pure hstub
  have hg : findIn c.K (.type "type") "__getattribute__" = some (some (.builtin "type.__getattribute__")) := by kernel_rfl
  have hs : Looks (model c.p c.w) s.heap (specialOf (.type "Exception") "__getattribute__") (some (.builtin "type.__getattribute__")) := L0.andThen (looks_findIn X hg)
  unfold getMethod
  refine wpAny_bind (hs.here ?_)
  dsimp only
  rw [if_pos canon_tga]
  refine wpAny_bind (wpAny_mono (Q := fun v s' => Q (v, []) s') (cls_open X LO L0 hg (looks_hook X (r := none) (by rfl)) (by show subIn c.K _ _ = _; rfl) (r := .val (.builtin "Exception.__init__")) (by kernel_rfl) ?_) (fun _ _ z => wpAny_pure z) fun _ _ z => z)
  exact wpAny_pure (by show wpAny _ _ (handedOut _) _ _ _; rw [handedOut_of (by rfl)]; exact wpAny_pure (h _ (S.tok _) rfl))
theorem initS {e a : Addr} {v : Value} {dd : Option Addr} {Q : Value → Shared → Prop} (S : St c P T L ks vs [(e, xO dd a)] s) (h : ∀ s' a', St c P T L ks vs [(e, xO dd a')] s' → Q .none s') : W (model c.p c.w) A (call (.builtin "Exception.__init__") [.ref e, v]) Q E s := by
  refine .of ?_
  obtain ⟨h1, h2, h3, h4⟩ := S.led _ (.head _)
  have X := S.K
  obtain ⟨hp, g, d, t, os⟩ := s
  exact xo_init X h1 fun h' a' e1 e2 => h _ a' ((S.drop.but h2 h3 h4 e2 t).own e1 h2 h3 h4 (fun q => nomatch q))
theorem setS0 {e a : Addr} {v : Value} {name : Str} {Q : Unit → Shared → Prop} (S : St c P T L ks vs [(e, xO none a)] s) (hn : findIn c.K (.ref 59) name = some none)
    (h : ∀ s' dx oD, s'.heap.Ns1 dx (fun y => if y = name then some v else none) → St c P T L ks vs [(dx, oD), (e, xO (some dx) a)] s' → Q () s') : W (model c.p c.w) A (setAttr (.ref e) name v) Q E s := by
  refine .of ?_
  obtain ⟨h1, h2, h3, h4⟩ := S.led _ (.head _)
  have X := S.K
  have S' := S.drop
  obtain ⟨hp, g, d, t, os⟩ := s
  refine xs_new X h1 hn fun h' tk dx q1 q2 q3 q4 q5 => ?_
  obtain ⟨f1, f2, f3⟩ := S.fresh q3
  obtain ⟨oD, es, ep, ho, _⟩ := id q4
  exact h _ dx oD q4 (((S'.but h2 h3 h4 q5 tk).own q1 h2 h3 h4 (fun q => nomatch q)).own ho f1 f2 f3 (fun q => by
    rcases List.mem_cons.mp q with q | q
    · exact q2 q
    · cases q))
theorem setS1 {e a dx : Addr} {oD : Obj} {v : Value} {name : Str} {mA : Str → Option Value} {ns : List Str} {Q : Unit → Shared → Prop} (S : St c P T L ks vs [(dx, oD), (e, xO (some dx) a)] s) (hd : s.heap.Ns1 dx mA) (hw : Within mA ns) (hz : ns.length ≤ 100) (hn : findIn c.K (.ref 59) name = some none)
    (h : ∀ s', St c P T L ks vs [(e, xO (some dx) a)] s' → Q () s') : W (model c.p c.w) A (setAttr (.ref e) name v) Q E s := by
  refine .of ?_
  obtain ⟨h1, h2, h3, h4⟩ := S.led _ (.head _)
  obtain ⟨k1, k2, k3, k4⟩ := S.led _ (.tail _ (.head _))
  have X := S.K
  have ne : e ≠ dx := fun q => (List.nodup_cons.mp S.nd).1 (by rw [← q]; exact .head _)
  obtain ⟨hp, g, d, t, os⟩ := s
  refine xs_old X k1 hn hd hw hz fun h' tk q => h _ ?_
  exact (S.drop.drop.but h2 h3 h4 q tk).own (q _ _ ne k1) k2 k3 k4 (fun q => nomatch q)
theorem makePF {what : Str} {u : Tok} {Q : Value → Shared → Prop} (I : In c T s) (hA : Rm A 2)
    (hq : ∀ s' e dd a, s'.gens = s.gens → s'.os = s.os → s'.heap.get? e = some (xO dd a) → s.heap.get? e = none → (∀ b o, s.heap.get? b = some o → s'.heap.get? b = some o) → Q (.ref e) s') :
    W (model c.p c.w) A (call (.ref 59) [.str what u]) Q E s := by
  refine .of ?_
  obtain ⟨hh, g, d, t, os⟩ := s
  have k2 : ∀ b o, hh.get? b = some o → ((hh.push (tupO [.str what u])).push (exc0 hh.objs.size)).get? b = some o := fun b o e => Heap.get?_push_of_some _ (Heap.get?_push_of_some _ e)
  have hget : ((hh.push (tupO [.str what u])).push (exc0 hh.objs.size)).get? (hh.objs.size + 1) = some (xO none hh.objs.size) := by heap_get
  have tn : ∀ b, hh.objs.size ≤ b → T b = none := fun b hb => by
    cases e : T b with
    | none => rfl
    | some o => exact absurd (Heap.lt_size (I.sub _ _ e)) (Nat.not_lt.mpr hb)
  have gn : ∀ b, hh.objs.size ≤ b → hh.get? b = none := fun b hb => Heap.get?_none_of_le hb
  have pr : Pr c ⟨hh.objs.size, T, hh.get?⟩ T [(hh.objs.size + 1, xO none hh.objs.size)] ⟨(hh.push (tupO [.str what u])).push (exc0 hh.objs.size), g, d, t, os⟩ := {
    ok := I.ok
    gens := I.gens
    os := I.os
    bT := I.bT
    sub := fun b o e => k2 b o (I.sub b o e)
    le := fun _ _ e => e
    low := fun _ _ => rfl
    keep := k2
    nz := by show hh.objs.size ≤ ((hh.push _).push _).objs.size; rw [Heap.size_push, Heap.size_push]; omega
    led := fun p hp => by
      rcases List.mem_cons.mp hp with rfl | hp
      · exact ⟨hget, tn _ (Nat.le_succ _), gn _ (Nat.le_succ _)⟩
      · cases hp
    nd := List.nodup_cons.mpr ⟨(fun h => nomatch h), List.nodup_nil⟩ }
  have hA' : Rm (A.under (.builtin "type.__call__" ⟨.ref 59 :: [.str what u], []⟩)) 1 := ⟨hA.hd, by rw [depth_under_make]; have := hA.dep; omega, by rw [units_under_make]; have := hA.un; omega⟩
  refine wpAny_call (pf_call (I.K) (by size_fits) (enterC [Str.ofString "self", Str.ofString "what", Str.ofString "at"] [Str.ofString "Exception"] [some (.ref (hh.objs.size + 1)), some (.str what u), some (.int (-1) 209)] pr hA' rfl rfl (by kernel_rfl)
    (BindsTo.of_defaults rfl (pr.K 29 _ rfl) rfl rfl rfl) (by kernel_rfl) (by kernel_rfl) (by kernel_rfl) fun env L s' F S A' hA'' => ?_))
  refine W.mono (Q := rq fun v s'' => v = .none ∧ ∃ dd a, St c ⟨hh.objs.size, T, hh.get?⟩ T L [Str.ofString "self", Str.ofString "what", Str.ofString "at"] [some (.ref (hh.objs.size + 1)), some (.str what u), some (.int (-1) 209)] [(hh.objs.size + 1, xO dd a)] s'') (E := NoE) ?_ (fun f s'' q => ?_) (fun _ _ x => x)
  · k_spoken
    refine rdBF F (by assumption) .head b_Exception ?_
    k_spoken
    refine gmExc (by assumption) fun s₁ S₁ e₁ => ?_
    k_spoken
    refine initS (by assumption) fun s₂ a₂ S₂ => ?_
    k_spoken
    refine setS0 (by assumption) (by kernel_rfl) fun s₃ dx oD hD S₃ => ?_
    k_spoken
    refine setS1 (by assumption) hD (ns := [Str.ofString "what"]) (fun y hy => by
      by_cases q : y = Str.ofString "what"
      · rw [q]; exact .head _
      · simp only [if_neg q] at hy; exact absurd rfl hy) (by decide) (by kernel_rfl) fun s₄ S₄ => ?_
    refine rq_nil ?_
    exact ⟨rfl, _, _, S₄⟩
  · have fin : ∀ v, (v = .none ∧ ∃ dd a, St c ⟨hh.objs.size, T, hh.get?⟩ T L [Str.ofString "self", Str.ofString "what", Str.ofString "at"] [some (.ref (hh.objs.size + 1)), some (.str what u), some (.int (-1) 209)] [(hh.objs.size + 1, xO dd a)] s'') →
        InitBack (hh.objs.size + 1) (fun r s' => match r with | .ok (.ret v) => Q v s' | .ok _ => False | .error e => E e s') (.ok (.ret v)) s'' := fun v ⟨hv, dd, a, S⟩ =>
      ⟨hv, hq s'' _ dd a (S.gens.trans I.gens.symm) (S.os.trans I.os.symm) (S.led _ (.head _)).1 (gn _ (Nat.le_succ _)) S.keep⟩
    cases f <;> exact fin _ q
end
section
variable {c : Cx} {P : Ent} {T : Fz} {L : Addr} {ks gs : List Str} {vs : List (Option Value)} {M : List (Addr × Obj)} {s : Shared} {env : Env} {A : Around} {E : Value → Shared → Prop} {outer : List Env}
theorem raiseR {e : Expr} {pos : Pos} {rest : List Stmt} {Q : Flow → Shared → Prop} (hh : A.handled = none)
    (h : W (model c.p c.w) A (eval e env) (fun v s₁ => ∃ x dd a, v = .ref x ∧ c.K.In s₁.heap ∧ s₁.heap.get? x = some (xO dd a) ∧ E v s₁) E s) :
    W (model c.p c.w) A (execs (.Raise (some e) none pos :: rest) env) Q E s := by
  refine seq (.of ?_)
  rw [arm_exec_Raise]
  simp only [evalOpt, Option.map]
  refine wpAny_bind (wpAny_standAt ?_)
  unfold raiseStmt
  refine wpAny_bind (wpAny_bind (wpAny_mono h.un (fun v s₁ h₁ => ?_) fun _ _ x => x))
  obtain ⟨x, dd, a, rfl, X, he, hE⟩ := h₁
  have hC := pf_cls X
  have hcB : (Value.ref 59 :: [.ref 46, .type "Exception", .type "BaseException", .type "object"]).contains (.type "BaseException") = true := by decide
  obtain ⟨hp, g, d, tk, os⟩ := s₁
  refine wpAny_bind (wpAny_standAt (wpAny_pure ?_))
  repeat (first | with_reducible refine wpAny_loadPart_at he ?_ | with_reducible refine wpAny_loadPart_at hC ?_ | (with_reducible refine wpAny_isSubtype_exc hC ?_; rw [hcB]) | wp_step)
  exact wpAny_raiseNew_none hh hE
theorem enterX {f : Addr} {fd : FuncData} {body : List Stmt} {args : List Value} {binds : List (Str × Value)} {oc : Value} {od : Option Addr} {osl : Array (Option Value)} {Q : Value → Shared → Prop} {n : Nat}
    (ks gs : List Str) (vs : List (Option Value))
    (I : In c T s) (hA : Rm A (n + 1)) (hf : A.frames = some outer) (ho : c.K.lookup f = some ⟨oc, od, .func fd, osl⟩) (hbody : fd.body = .stmts body) (hcd : codeIn c.K fd.code fd.qualname = true)
    (hb : BindsTo s fd ⟨args, []⟩ binds) (hc : fnChk fd ks gs = true) (hv : ks.map (fun k => binds.reverse.lookup k) = vs)
    (hl : (binds.all fun x => decide (fd.scope.names.lookup x.1 = some .local)) = true)
    (h : ∀ env L s', Fn env L ks gs → env.frame = some L → St c ⟨s.heap.objs.size, T, s.heap.get?⟩ T L ks vs [] s' → ∀ A', Rm A' n → A'.frames = some (env :: outer) →
      W (model c.p c.w) A' (execs body env) (rq Q) (fun e s' => W (model c.p c.w) A' (leaving env e) (fun _ s'' => E e s'') (fun e' s'' => E e' s'') s') s') :
    W (model c.p c.w) A (call (.ref f) args) Q E s := by
  refine .of (wpAny_call ?_)
  have I' := I.pr
  obtain ⟨F, f1, f2, f3, f4⟩ := fn_of (L := s.heap.objs.size) (a := f) hc
  refine codeAny_call_def (binds := binds) hA.room (I.K _ _ ho) rfl (I.ok.lim.keeps I.bh) (codeRec_of I.K hcd) hbody hb f4 (locs hl) (fun h₁ hn hk => ?_) f1 f2 f3
  have S' : St c ⟨s.heap.objs.size, T, s.heap.get?⟩ T s.heap.objs.size ks vs [] { s with heap := h₁, toks := s.toks + binds.length } := {
    ok := I'.ok
    gens := I'.gens
    os := I'.os
    bT := I'.bT
    sub := fun b o e => hk b o (I'.sub b o e)
    le := I'.le
    low := I'.low
    keep := fun b o e => hk b o (I'.keep b o e)
    nl := I'.nz
    ns := ⟨_, hn, Al.of_map hv⟩
    tL := by
      cases e : T s.heap.objs.size with
      | none => rfl
      | some o => have := I'.sub _ _ e; rw [get_size] at this; cases this
    gL := get_size _
    led := fun p hp => nomatch hp
    nd := List.nodup_nil }
  refine wpAny_mono (W.un (h _ s.heap.objs.size _ F rfl S' _ hA.deeper (Around.frames_deeper hf))) (fun fl s' hq => ?_) (fun e s' q => ?_)
  · cases fl <;> exact hq
  · exact wpAny_mono (W.un q) (fun _ _ x => x) fun _ _ x => x
/-- the error flies -/
def Ex (c : Cx) (outer : List Env) : Value → Shared → Prop := fun e s' => ∃ x a0, e = .ref x ∧ Heap.FlyingW c.B outer x (.ref 59) a0 s'.heap ∧ s'.gens = c.g ∧ s'.os = c.os
theorem frames_in {s : Shared} (S : St c P T L ks vs M s) (F : Fn env L ks gs) (hf : env.frame = some L) (h : ∀ b o, P.G b = some o → s.heap.get? b = some o) {s₀ : Shared} (e : P.G = s₀.heap.get?) (hF : s₀.heap.FunFrames c.B outer) : s.heap.FunFrames c.B (env :: outer) := by
  obtain ⟨m, hn, _⟩ := S.ns
  refine Heap.FunFrames.cons (by rw [F.kind]; decide) hf hn ?_ (hF.of_keeps fun b o hb _ => ⟨o, h b o (by rw [e]; exact hb), rfl⟩)
  cases q : c.B.get? L with
  | none => rfl
  | some o => have := S.bT _ _ q; rw [S.tL] at this; cases this
theorem isFilledX {n : Int} {t u : Tok} (S₀ : St c P T L ks vs M s) (hA : Rm A 3) (hf : A.frames = some outer) (hF : s.heap.FunFrames c.B outer) :
    W (model c.p c.w) A (call (.ref 355) [.int n t, .str (Str.ofString "odd") u]) (fun _ _ => False) (Ex c outer) s := by
  refine enterX [Str.ofString "total", Str.ofString "rule"] [Str.ofString "RULES", Str.ofString "PaintFault", Str.ofString "str"] [some (.int n t), some (.str (Str.ofString "odd") u)] S₀.toIn hA hf rfl rfl (by kernel_rfl) (BindsTo.of_eq rfl) (by kernel_rfl) (by kernel_rfl) (by kernel_rfl) fun env L s' F hfr S' A' hA' hf' => ?_
  k_spoken
  refine rdGR (v := .ref 195) F (by assumption) .head (by kernel_rfl) ?_
  obtain ⟨l, Hl, hl⟩ := rules_tup (by assumption)
  refine notinT (by assumption) Hl hl ?_
  rw [show (!([Str.ofString "nonzero", Str.ofString "evenodd"].any (· == Str.ofString "odd"))) = true from by decide]
  k_spoken
  refine raiseR hA'.hd ?_
  k_spoken
  refine .of (PySem.P.str_of_str ?_)
  refine .of (PyProof.Rows.add_str (fun t' tk => ?_) (by decide))
  have S₂ := St.tok (by assumption) tk
  k_spoken
  refine makePF S₂.toIn (hA'.le (by omega)) fun s₃ x dd a g₃ o₃ he hen hk => ?_
  have hx : c.B.get? x = none := by
    cases q : c.B.get? x with
    | none => rfl
    | some o => have := S₂.bh _ _ q; rw [hen] at this; cases this
  have X₃ : c.K.In s₃.heap := S₂.K.keeps hk
  refine ⟨x, dd, a, rfl, X₃, he, .of ?_⟩
  refine wpAny_leaving_firstW hf' ((frames_in S₂ F hfr S₂.keep rfl hF).of_keeps fun b o hb _ => ⟨o, hk b o hb, rfl⟩) hfr he (fun b o q => hk _ _ (S₂.bh b o q)) hx rfl rfl rfl fun h' hL => ?_
  obtain ⟨k1, ⟨_, _, k2⟩, k3, k4⟩ := hL
  exact ⟨x, _, rfl, ⟨k1, hx, k2, k3⟩, g₃.trans S₂.gens, o₃.trans S₂.os⟩
end
section
variable {c : Cx} {P : Ent} {T : Fz} {L : Addr} {ks gs : List Str} {vs : List (Option Value)} {M : List (Addr × Obj)} {s : Shared} {env : Env} {A : Around} {E : Value → Shared → Prop} {outer : List Env}
theorem isInsideX {v xv yv : Value} {ps : List Prt} {px py : Int} {u : Tok} (S₀ : St c P T L ks vs M s) (hA : Rm A 6) (hf : A.frames = some outer) (hF : s.heap.FunFrames c.B outer) (H : PthT T v ps) (Hx : Nv T xv px 1) (Hy : Nv T yv py 1) (hz : ps.length ≤ 100) (hm : ∀ q ∈ ps, 2 ≤ q.1.length ∧ q.1.length ≤ 100 ∧ ∀ p ∈ q.1, BdP p) (bx : Bd px) (by_ : Bd py) :
    W (model c.p c.w) A (call (.ref 363) [v, .str (Str.ofString "odd") u, xv, yv]) (fun _ _ => False) (Ex c outer) s := by
  refine enterX [Str.ofString "path", Str.ofString "rule", Str.ofString "x", Str.ofString "y", Str.ofString "depth"] [Str.ofString "is_filled", Str.ofString "winding", Str.ofString "lines_of"] [some v, some (.str (Str.ofString "odd") u), some xv, some yv, some (.int 3 421)] S₀.toIn hA hf rfl rfl (by kernel_rfl) (binds := [(Str.ofString "path", v), (Str.ofString "rule", .str (Str.ofString "odd") u), (Str.ofString "x", xv), (Str.ofString "y", yv), (Str.ofString "depth", .int 3 421)]) (BindsTo.of_defaults rfl (S₀.K 356 _ rfl) rfl rfl rfl) (by kernel_rfl) (by kernel_rfl) (by kernel_rfl) fun env L s' F hfr S' A' hA' hf' => ?_
  k_spoken
  refine linesOf2 (by assumption) (hA'.le (by omega)) H ⟨by decide, by decide⟩ (by omega) (fun q hq => ⟨(hm q hq).1, by have := (hm q hq).2.1; omega⟩) fun D₁ T₁ s₁ le₁ S₁ H₁ => ?_
  k_spoken
  refine winding_ (by assumption) hA' H₁ (Hx.mono le₁) (Hy.mono le₁) (by rw [List.length_map]; exact hz) (fun q hq => ?_) bx by_ fun t T₂ s₂ le₂ S₂ => ?_
  · obtain ⟨q', hq', rfl⟩ := List.mem_map.mp hq
    exact (hm q' hq').2
  k_spoken
  refine (isFilledX S₂ (hA'.le (by omega)) hf' (frames_in S₂ F hfr S₂.keep rfl hF)).mono (fun _ _ x => x.elim) fun e s₄ ⟨x, a0, he, hfl, g₄, o₄⟩ => ?_
  subst he
  exact .of (wpAny_leaves_onW hf' hfr hfl fun h' k1 _ => ⟨x, a0, rfl, k1, g₄, o₄⟩)
theorem tryR {body orelse : List Stmt} {h₀ : ExceptHandler} {hs : List ExceptHandler} {pos : Pos} {rest : List Stmt} {Q : Flow → Shared → Prop} {E' : Value → Shared → Prop}
    (h : W (model c.p c.w) A (execs body env) (fun _ _ => False) E' s)
    (k : ∀ e s₁, E' e s₁ → wpAny (model c.p c.w) A (noteFrame e env) (fun _ s₂ => wpAny (model c.p c.w) A (setFlight e none) (fun _ s₃ => wpAny (model c.p c.w) A (handleBy e env (h₀ :: hs)) (thn (model c.p c.w) A env rest Q E) E s₃) E s₂) E s₁) :
    W (model c.p c.w) A (execs (.Try body (h₀ :: hs) orelse [] pos :: rest) env) Q E s :=
  seq (.of (wpAny_Try_except (wpAny_mono h.un (fun _ _ x => x.elim) fun e s₁ q => k e s₁ q)))
theorem lawRefused {v : Value} {ps : List Prt} {t u : Tok} {Q : Value → Shared → Prop} (S₀ : St c P T L ks vs M s) (hA : Rm A 8) (hf : A.frames = some outer) (hF : s.heap.FunFrames c.B outer) (H : PthT T v ps) (hz : ps.length ≤ 100) (hm : ∀ q ∈ ps, 2 ≤ q.1.length ∧ q.1.length ≤ 100 ∧ ∀ p ∈ q.1, BdP p)
    (h : ∀ s', s'.gens = c.g → s'.os = c.os → (∀ b o, c.B.get? b = some o → s'.heap.get? b = some o) → Q (.bool true) s') :
    W (model c.p c.w) A (call (.ref 424) [v, .int 1 t, .int 1 u]) Q E s := by
  refine enterX [Str.ofString "path", Str.ofString "x", Str.ofString "y"] [Str.ofString "is_inside", Str.ofString "PaintFault"] [some v, some (.int 1 t), some (.int 1 u)] S₀.toIn hA hf rfl rfl (by kernel_rfl) (BindsTo.of_eq rfl) (by kernel_rfl) (by kernel_rfl) (by kernel_rfl) fun env L s' F hfr S' A' hA' hf' => ?_
  refine tryR (E' := Ex c (env :: outer)) ?_ fun e s₁ ⟨x, a0, he, hfl, g₁, o₁⟩ => ?_
  · k_spoken
    refine W.mono (isInsideX (px := 10) (py := 10) (by assumption) (hA'.le (by omega)) hf' (frames_in (by assumption) F hfr (St.keep (by assumption)) rfl hF) H (.inr ⟨_, _, rfl, rfl⟩) (.inr ⟨_, _, rfl, rfl⟩) hz hm (by unfold Bd; omega) (by unfold Bd; omega)) (fun _ _ x => x.elim) fun _ _ x => x
  · subst he
    refine wpAny_looks_onW hf' hfr hfl fun h₂ x₂ _ => ?_
    refine wpAny_landsW x₂ fun h₃ x₃ _ => ?_
    have I₃ : In c c.B.get? { s₁ with heap := h₃ } := ⟨S₀.ok, g₁, o₁, fun _ _ e => e, x₃.1⟩
    obtain ⟨oe, hoe, hoc⟩ := x₃.there
    have hC := pf_cls I₃.K
    refine wpAny_handleBy_cons (codeAny_handlers_test ?_) (by intro q; cases q)
    refine W.un (rdG (v := .ref 59) F I₃ (.tail _ (.head _)) (by kernel_rfl) ?_)
    refine wpAny_excMatches_sub_self hC hoe hoc (by decide) ?_
    refine codeAny_handlers_suite (lands_againW x₃ fun h₆ x₆ _ => ?_)
    refine W.un (ret (W.mono (Q := fun v s' => v = .bool true ∧ s'.gens = c.g ∧ s'.os = c.os ∧ ∀ b o, c.B.get? b = some o → s'.heap.get? b = some o) (E := NoE) (cB ⟨rfl, g₁, o₁, x₆.1⟩) (fun v s' ⟨q0, q1, q2, q3⟩ => ?_) fun _ _ x => x.elim))
    subst q0
    exact h _ q1 q2 q3
end
section
variable {c : Cx} {P : Ent} {T : Fz} {L : Addr} {ks gs : List Str} {vs : List (Option Value)} {M : List (Addr × Obj)} {s : Shared} {env : Env} {A : Around} {E : Value → Shared → Prop} {Mo : Model} {outer : List Env}
theorem enterCellsX {f : Addr} {fd : FuncData} {body : List Stmt} {args : List Value} {binds : List (Str × Value)} {oc : Value} {od : Option Addr} {osl : Array (Option Value)} {R : Result → Shared → Prop} {n : Nat}
    (ks gs : List Str) (cl : Addr → List (Str × Addr)) (vs cvs : List (Option Value))
    (I : Pr c P T M s) (hA : Rm A (n + 1)) (hfr : A.frames = some outer) (ho : c.K.lookup f = some ⟨oc, od, .func fd, osl⟩) (hbody : fd.body = .stmts body) (hcd : codeIn c.K fd.code fd.qualname = true)
    (hb : BindsTo s fd ⟨args, []⟩ binds) (hclo : fd.closure = [])
    (hc : (fd.scope.kind == .function && (decide ks.Nodup && (ks.all (fun k => fd.scope.names.lookup k == some .local && !(k == ("__debug__" : Str))) && (gs.all (fun k => fd.scope.names.lookup k == some .globalImplicit && !(k == ("__debug__" : Str))) &&
      (fd.globals == mainGlobals && (fd.builtins == builtinsNs && (!fd.scope.isCoroutine && !fd.scope.isGenerator))))))) = true)
    (hcl : ∀ a, cellsFrom (a + 1) fd.scope.names [] = cl a) (hnc : ∀ a, (cl a).all (fun x => fd.scope.names.lookup x.1 == some .cell && !(x.1 == ("__debug__" : Str))) = true) (hnd : ∀ a, ((cl a).map (·.1)).Nodup)
    (hkind : ∀ a, ∀ x ∈ binds, fd.scope.names.lookup x.1 = some .local ∨ (fd.scope.names.lookup x.1 = some .cell ∧ ((cl a).lookup x.1).isSome = true))
    (hv : ks.map (bindL (fun x => fd.scope.names.lookup x) binds fun _ => none) = vs) (hcv : ∀ a, (cl a).map (fun x => bindC (fun x => fd.scope.names.lookup x) binds (fun _ => none) x.1) = cvs)
    (h : ∀ env L s' (os : List Obj), Fn env L ks gs → (∀ x ∈ cl L, Cl env x.1 x.2) → os.length = (cl L).length → os.map (fun o => o.data) = cvs.map Data.cell →
      env.frame = some L → St c P T L ks vs (((cl L).map (·.2)).zip os ++ M) s' → ∀ A', Rm A' n → A'.frames = some (env :: outer) → W (model c.p c.w) A' (execs body env) (rq fun v s'' => R (.ok (.ret v)) s'') NoE s') :
    codeAny (model c.p c.w) A (.call (.ref f) ⟨args, []⟩) R s := by
  obtain ⟨h1, hc⟩ := Bool.and_eq_true_iff.mp hc
  obtain ⟨h2, hc⟩ := Bool.and_eq_true_iff.mp hc
  obtain ⟨h3, hc⟩ := Bool.and_eq_true_iff.mp hc
  obtain ⟨h4, hc⟩ := Bool.and_eq_true_iff.mp hc
  obtain ⟨h5, hc⟩ := Bool.and_eq_true_iff.mp hc
  obtain ⟨h6, hc⟩ := Bool.and_eq_true_iff.mp hc
  obtain ⟨h7, h8⟩ := Bool.and_eq_true_iff.mp hc
  have hk : fd.scope.kind = .function := eq_of_beq h1
  refine codeAny_call_function hA.room (I.K _ _ ho) rfl (by simpa using h7) (by simpa using h8) hbody (codeRec_of I.K hcd) (hb _ _ _ _ ?_)
  rw [hclo]
  refine wpAny_newFunctionEnv_cells hk (fun x hx => by rw [hcl]; exact hkind _ x hx) fun env' he s₁ X => ?_
  subst he
  refine ⟨(I.ok.lim.keeps I.bh).keeps X.toInCall.keep, codeAny_func ?_⟩
  have X : InCallC s (callEnvC fd s.heap.objs.size f).locals (bindL (callEnvC fd s.heap.objs.size f).kindOf binds fun _ => none) (callEnvC fd s.heap.objs.size f).cells (bindC (callEnvC fd s.heap.objs.size f).kindOf binds fun _ => none) s₁ := X
  show wpAny _ (A.deeper (callEnvC fd s.heap.objs.size f)) (execs body (callEnvC fd s.heap.objs.size f)) _ _ _
  obtain ⟨X0, X1, X2, X3⟩ := X
  obtain ⟨⟨h₁, tk, rfl⟩, xn, xk, xf⟩ := X0
  have ecl : (callEnvC fd s.heap.objs.size f).cells = cl s.heap.objs.size := hcl _
  rw [ecl] at X1 X2 X3
  have look : ∀ x ∈ cl s.heap.objs.size, (cl s.heap.objs.size).lookup x.1 = some x.2 := by
    have nd := hnd s.heap.objs.size
    revert nd
    generalize cl s.heap.objs.size = l
    intro nd
    induction l with
    | nil => intro x hx; cases hx
    | cons y r ih =>
      intro x hx
      rw [List.map_cons] at nd
      obtain ⟨n1, n2⟩ := List.nodup_cons.mp nd
      rcases List.mem_cons.mp hx with rfl | hx
      · show List.lookup x.1 ((x.1, x.2) :: r) = _
        rw [List.lookup_cons, beq_self_eq_true]
      · have hne : (x.1 == y.1) = false := by
          rw [beq_eq_false_iff_ne]
          exact fun e => n1 (e ▸ List.mem_map_of_mem hx)
        show List.lookup x.1 ((y.1, y.2) :: r) = _
        rw [List.lookup_cons, hne]
        exact ih n2 x hx
  have fnE : Fn (callEnvC fd s.heap.objs.size f) s.heap.objs.size ks gs := ⟨rfl, hk, of_decide_eq_true h2, fun k hk' => by
      obtain ⟨q1, q2⟩ := Bool.and_eq_true_iff.mp (List.all_eq_true.mp h3 k hk')
      exact ⟨eq_of_beq q1, by simpa using q2⟩, fun k hk' => by
      obtain ⟨q1, q2⟩ := Bool.and_eq_true_iff.mp (List.all_eq_true.mp h4 k hk')
      exact ⟨eq_of_beq q1, by simpa using q2⟩, eq_of_beq h5, eq_of_beq h6⟩
  have clE : ∀ x ∈ cl s.heap.objs.size, Cl (callEnvC fd s.heap.objs.size f) x.1 x.2 := fun x hx => by
    obtain ⟨q1, q2⟩ := Bool.and_eq_true_iff.mp (List.all_eq_true.mp (hnc s.heap.objs.size) x hx)
    exact ⟨hk, eq_of_beq q1, by rw [ecl]; exact look x hx, by simpa using q2⟩
  let g : Str × Addr → Obj := fun x => (h₁.get? x.2).getD default
  have hg : ∀ x ∈ cl s.heap.objs.size, h₁.get? x.2 = some (g x) ∧ (g x).data = .cell (bindC (fun x => fd.scope.names.lookup x) binds (fun _ => none) x.1) := fun x hx => by
    obtain ⟨o, e, hd⟩ := X1 x.1 x.2 (look x hx)
    have e' : h₁.get? x.2 = some o := e
    have : g x = o := by show (h₁.get? x.2).getD default = o; rw [e']; rfl
    rw [this]
    exact ⟨e', hd⟩
  have tn : ∀ b, s.heap.objs.size ≤ b → T b = none := fun b hb => by
    cases e : T b with
    | none => rfl
    | some o => exact absurd (Heap.lt_size (I.sub _ _ e)) (Nat.not_lt.mpr hb)
  have gn : ∀ b, s.heap.objs.size ≤ b → P.G b = none := fun b hb => by
    cases e : P.G b with
    | none => rfl
    | some o => exact absurd (Heap.lt_size (I.keep _ _ e)) (Nat.not_lt.mpr hb)
  have hlow : ∀ x ∈ cl s.heap.objs.size, s.heap.objs.size + 1 ≤ x.2 := by
    intro x hx
    have : ∀ (names : List (Str × NameKind)) (n : Nat) (acc : List (Str × Addr)) (lo : Nat), lo ≤ n → (∀ y ∈ acc, lo ≤ y.2) → ∀ y ∈ cellsFrom n names acc, lo ≤ y.2 := by
      intro names
      induction names with
      | nil => intro n acc lo _ ha y hy; exact ha y hy
      | cons p r ih =>
        intro n acc lo hn ha y hy
        unfold cellsFrom at hy
        split at hy
        · refine ih (n + 1) _ lo (Nat.le_succ_of_le hn) (fun z hz => ?_) y hy
          rcases List.mem_cons.mp hz with rfl | hz
          · exact hn
          · exact ha z hz
        · exact ih n acc lo hn ha y hy
    exact this fd.scope.names (s.heap.objs.size + 1) [] _ (Nat.le_refl _) (fun y hy => nomatch hy) x (by rw [hcl]; exact hx)
  have zipm : ((cl s.heap.objs.size).map (·.2)).zip ((cl s.heap.objs.size).map g) = (cl s.heap.objs.size).map fun x => (x.2, g x) := by
    generalize cl s.heap.objs.size = l
    induction l with
    | nil => rfl
    | cons y r ih => simp only [List.map_cons, List.zip_cons_cons, ih]
  have S' : St c P T s.heap.objs.size ks vs (((cl s.heap.objs.size).map (·.2)).zip ((cl s.heap.objs.size).map g) ++ M) { s with heap := h₁, toks := tk } := by
    rw [zipm]
    refine { ok := I.ok, gens := I.gens, os := I.os, bT := I.bT, sub := fun b o e => xk b o (I.sub b o e), le := I.le, low := I.low, keep := fun b o e => xk b o (I.keep b o e), nl := I.nz,
             ns := ⟨_, xn, Al.of_map hv⟩, tL := tn _ (Nat.le_refl _), gL := gn _ (Nat.le_refl _), led := fun p hp => ?_, nd := ?_ }
    · rcases List.mem_append.mp hp with hp | hp
      · obtain ⟨x, hx, rfl⟩ := List.mem_map.mp hp
        have := hlow x hx
        exact ⟨(hg x hx).1, tn _ (Nat.le_of_succ_le this), Nat.ne_of_gt this, gn _ (Nat.le_of_succ_le this)⟩
      · exact ⟨xk _ _ (I.led p hp).1, (I.led p hp).2.1, Nat.ne_of_lt (Heap.lt_size (I.led p hp).1), (I.led p hp).2.2⟩
    · rw [List.map_append, List.map_map]
      refine List.nodup_append.mpr ⟨?_, I.nd, fun a ha b hb e => ?_⟩
      · have ap := X2
        exact List.pairwise_map.mpr ap
      · obtain ⟨x, hx, rfl⟩ := List.mem_map.mp ha
        obtain ⟨p, hp, rfl⟩ := List.mem_map.mp hb
        have h1 := hlow x hx
        have h2 := Heap.lt_size (I.led p hp).1
        have e' : x.2 = p.1 := e
        rw [e'] at h1
        exact Nat.lt_irrefl _ (Nat.lt_of_succ_le (Nat.le_trans h1 (Nat.le_of_lt h2)))
  refine wpAny_mono (W.un (h _ s.heap.objs.size _ ((cl s.heap.objs.size).map g) fnE clE (by simp) ?_ rfl S' _ hA.deeper (Around.frames_deeper hfr))) (fun fl s' hq => ?_) (fun _ _ (x : False) => x.elim)
  · rw [← hcv s.heap.objs.size, List.map_map, List.map_map]
    exact List.map_congr_left fun x hx => (hg x hx).2
  · cases fl <;> exact hq

theorem wrC {x : Str} {a : Addr} {o : Obj} {w : Option Value} {v : Value} {M' : Obj → List (Addr × Obj)} {Q : Unit → Shared → Prop} (Z : Cl env x a) (S : St c P T L ks vs M s) (U : ∀ o', MU a o o' M (M' o')) (hd : o.data = .cell w)
    (k : ∀ o' s', o'.data = .cell (some v) → St c P T L ks vs (M' o') s' → Q () s') : W Mo A (storeName env x v) Q E s := by
  refine .of (wpAny_storeName_cell Z.kind Z.here Z.cell ⟨o, (S.led _ (U o).mem).1, hd⟩ fun h' hv hs => ?_)
  obtain ⟨o', e, hd'⟩ := hv
  exact k o' _ hd' (S.setM (U o') hs e s.toks)
theorem closN {sc : Scope} {F : Str → Addr} (e : ∀ x ∈ sc.names, x.2 = .free → env.cells.lookup x.1 = some (F x.1)) :
    closureFor sc env = pure (sc.names.foldl (fun acc x => if x.2 == .free then (x.1, F x.1) :: acc else acc) []) := by
  have go : ∀ (l : List (Str × NameKind)) (acc : List (Str × Addr)), (∀ x ∈ l, x.2 = .free → env.cells.lookup x.1 = some (F x.1)) →
      (forIn l acc fun (x : Str × NameKind) r => (match x with | (name, kind) => if (kind == NameKind.free) = true then do let a ← cellOf env name; pure (ForInStep.yield ((name, a) :: r)) else pure (ForInStep.yield r) : Sem (ForInStep (List (Str × Addr))))) =
      pure (l.foldl (fun acc x => if x.2 == .free then (x.1, F x.1) :: acc else acc) acc) := by
    intro l
    induction l with
    | nil => intro acc _; rfl
    | cons y r ih =>
      intro acc h
      obtain ⟨n, k⟩ := y
      rw [List.forIn_cons, List.foldl_cons]
      by_cases hk : k = .free
      · have hc : cellOf env n = pure (F n) := by unfold cellOf; rw [h (n, k) (.head _) hk]
        subst hk
        simp only [beq_self_eq_true, if_true, hc, pure_bind]
        exact ih _ fun x hx => h x (.tail _ hx)
      · have hk' : (k == NameKind.free) = false := by simpa using hk
        simp only [hk', Bool.false_eq_true, if_false, pure_bind]
        exact ih _ fun x hx => h x (.tail _ hx)
  have := go sc.names [] e
  unfold closureFor
  show (forIn _ _ _ >>= _) = _
  first
    | (rw [show (forIn sc.names ([] : List (Str × Addr)) _ : Sem _) = _ from this]; rfl)
    | (simp only [bind_pure]; exact this)
theorem clos2 {sc : Scope} {x y : Str} {a b : Addr} {cl : List (Str × Addr)} (Zx : Cl env x a) (Zy : Cl env y b) (hn : (sc.names.all fun z => !(z.2 == .free) || (z.1 == x || z.1 == y)) = true)
    (hf : sc.names.foldl (fun acc z => if z.2 == .free then (z.1, if z.1 == x then a else b) :: acc else acc) [] = cl) : closureFor sc env = pure cl := by
  rw [← hf]
  refine closN (F := fun n => if n == x then a else b) fun z hz hk => ?_
  have := List.all_eq_true.mp hn z hz
  rw [hk] at this
  simp only [beq_self_eq_true, Bool.not_true, Bool.false_or] at this
  by_cases h1 : z.1 = x
  · rw [h1, beq_self_eq_true, if_pos rfl]; exact Zx.cell
  · have h2 : (z.1 == x) = false := by simpa using h1
    rw [h2, Bool.false_or] at this
    rw [h2, eq_of_beq this]
    exact Zy.cell
theorem lawDrawP {r : List (Addr × Obj)} {D : Addr} {o : Obj} {k : Nat} {m : Int} {tm : Tok} {Q : Value → Shared → Prop} (S₀ : St c P T L ks vs M s) (hp : M.Perm ((D, o) :: r)) (hA : Rm A 1) (H : PoolT T o k) (hk : k ≤ 1000) (h1 : 0 < m) (h2 : m ≤ 1000)
    (h : ∀ r' t T' o' s', Fle T T' → St c P T' L ks vs ((D, o') :: r) s' → PoolT T' o' (k + 1) → 0 ≤ r' → r' < m → Q (.int r' t) s') : W (model c.p c.w) A (call (.ref 382) [.ref D, .int m tm]) Q E s :=
  lawDraw (S₀.perm hp) hA H hk h1 h2 h
end
section
variable {c : Cx} {P : Ent} {T : Fz} {L : Addr} {ks gs : List Str} {vs : List (Option Value)} {M : List (Addr × Obj)} {s : Shared} {env : Env} {A : Around} {E : Value → Shared → Prop}
theorem turn2a (elt target iter t2 i2 : Expr) (scope : Scope) (pos : Pos) (it acc : Value) (env : Env) :
    compTurn (.ListComp elt [⟨target, iter, [], 0⟩, ⟨t2, i2, [], 0⟩] scope pos) 0 it acc env = (do
      standAt iter.pos
      match ← pyNext it with
      | none => pure (.done .next)
      | some v =>
        letOwnedTupleGo target it v
        assign target env v
        let x ← eval i2 env
        standAt i2.pos
        let x ← foldedSetIterable i2 env x
        let it2 ← holding [x] (pyIter x)
        let _ ← runOwn (.compStart (.ListComp elt [⟨target, iter, [], 0⟩, ⟨t2, i2, [], 0⟩] scope pos) 1 it2 acc env) env
        again (.compLoop (.ListComp elt [⟨target, iter, [], 0⟩, ⟨t2, i2, [], 0⟩] scope pos) 0 it acc env)) := by rfl
theorem turn2b (elt target iter t2 i2 : Expr) (scope : Scope) (pos : Pos) (it acc : Value) (env : Env) :
    compTurn (.ListComp elt [⟨target, iter, [], 0⟩, ⟨t2, i2, [], 0⟩] scope pos) 1 it acc env = (do
      standAt i2.pos
      match ← pyNext it with
      | none => pure (.done .next)
      | some v =>
        letOwnedTupleGo t2 it v
        assign t2 env v
        (do let _ ← call (.builtin "list.append") [acc, ← eval elt env])
        again (.compLoop (.ListComp elt [⟨target, iter, [], 0⟩, ⟨t2, i2, [], 0⟩] scope pos) 1 it acc env)) := by rfl
theorem compLoop_own2 {elt target iter t2 i2 : Expr} {scope : Scope} {pos : Pos} {it acc : Value} {cenv : Env} {R : Result → Shared → Prop} (hi2 : ∀ x, foldedSetIterable i2 cenv x = pure x) (I : Nat → Shared → Prop)
    (turn : ∀ n s, I n s → wpAny (model c.p c.w) A (pyNext it) (fun r s₁ => match r with
      | none => R (.ok .next) s₁
      | some v => wpAny (model c.p c.w) A (letOwnedTupleGo target it v) (fun _ s₁' => wpAny (model c.p c.w) A (assign target cenv v) (fun _ s₂ =>
          wpAny (model c.p c.w) A (eval i2 cenv) (fun x s₃ => wpAny (model c.p c.w) A (pyIter x) (fun it2 s₄ =>
            codeAny (model c.p c.w) A (.compStart (.ListComp elt [⟨target, iter, [], 0⟩, ⟨t2, i2, [], 0⟩] scope pos) 1 it2 acc cenv) (fun r s₅ => (∃ fl, r = .ok fl) ∧ ∃ m, m < n ∧ I m s₅) s₄) NoE s₃) NoE s₂) NoE s₁') NoE s₁) NoE s)
    (n : Nat) (h : I n s) : codeAny (model c.p c.w) A (.compLoop (.ListComp elt [⟨target, iter, [], 0⟩, ⟨t2, i2, [], 0⟩] scope pos) 0 it acc cenv) R s := by
  refine codeAny_loop rfl I (fun n s hI => ?_) n h
  show wpAny _ A ((compTurn (.ListComp elt [⟨target, iter, [], 0⟩, ⟨t2, i2, [], 0⟩] scope pos) 0 it acc cenv).onRaise (fun x => do noteFrame x cenv; theTreesLotGoes x)) _ _ s
  refine wpAny_noted ?_
  rw [turn2a]
  refine wpAny_bind (wpAny_standAt (wpAny_bind (wpAny_noRaise (wpAny_mono (turn n s hI) (fun r s₁ h₁ => ?_) fun _ _ h' => h'))))
  cases r with
  | none => exact wpAny_pure h₁
  | some v =>
    refine wpAny_bind (wpAny_noRaise (wpAny_mono h₁ (fun _ s₁' h₁' => ?_) fun _ _ h' => h'))
    refine wpAny_bind (wpAny_noRaise (wpAny_mono h₁' (fun _ s₂ h₂ => ?_) fun _ _ h' => h'))
    refine wpAny_bind (wpAny_noRaise (wpAny_mono h₂ (fun x s₃ h₃ => wpAny_bind (wpAny_standAt ?_)) fun _ _ h' => h'))
    rw [hi2]
    refine wpAny_bind (wpAny_pure (wpAny_bind (wpAny_noRaise (wpAny_holding (wpAny_mono h₃ (fun it2 s₄ h₄ => ?_) fun _ _ h' => h')))))
    refine wpAny_bind (wpAny_noRaise (wpAny_runOwn (codeAny_mono (A := A) h₄ fun r s₅ ⟨⟨fl, hr⟩, q⟩ => ?_)))
    subst hr
    exact wpAny_pure ⟨rfl, q⟩
theorem compStart1 {elt target iter t2 i2 : Expr} {scope : Scope} {pos : Pos} {it acc : Value} {env : Env} {R : Result → Shared → Prop}
    (h0 : codeAny (model c.p c.w) A (.compLoop (.ListComp elt [⟨target, iter, [], 0⟩, ⟨t2, i2, [], 0⟩] scope pos) 1 it acc env) R s)
    (h : wpAny (model c.p c.w) A (pyIter it) (fun it' s' => codeAny (model c.p c.w) A (.compLoop (.ListComp elt [⟨target, iter, [], 0⟩, ⟨t2, i2, [], 0⟩] scope pos) 1 it' acc env) R s')
      (notedBy (model c.p c.w) A env fun x s' => R (.error x) s') s) :
    codeAny (model c.p c.w) A (.compStart (.ListComp elt [⟨target, iter, [], 0⟩, ⟨t2, i2, [], 0⟩] scope pos) 1 it acc env) R s := by
  refine codeAny_of_tree ?_
  show wpAny _ _ ((compStart (.ListComp elt [⟨target, iter, [], 0⟩, ⟨t2, i2, [], 0⟩] scope pos) 1 it acc env).onRaise (fun x => do noteFrame x env; standAt theWindowsPlace)) _ _ s
  refine wpAny_notedAt ?_
  unfold compStart
  show wpAny _ _ (ask >>= _) _ _ s
  refine wpAny_bind (wpAny_askSetting (wpAny_ite ?_))
  split
  · first
      | exact wpAny_bind (wpAny_pure (wpAny_pure (And.intro rfl h0)))
      | exact wpAny_pure (And.intro rfl h0)
  · first
      | exact wpAny_bind (wpAny_rule (wpAny_bind (wpAny_standAt (wpAny_bind (wpAny_mono h (fun it' s' h' => wpAny_pure (And.intro rfl h')) fun _ _ x => x)))))
      | (refine wpAny_bind (wpAny_rule ?_); show wpAny _ _ (standAt i2.pos >>= _) _ _ s; exact wpAny_bind (wpAny_standAt (wpAny_bind (wpAny_mono h (fun it' s' h' => wpAny_pure (And.intro rfl h')) fun _ _ x => x))))
theorem compG2 {elt target iter t2 i2 : Expr} {scope : Scope} {pos : Pos} {cl : List (Str × Addr)} {I : Addr} {o : Obj} {Mx M₀ : List (Addr × Obj)} {fp : List Addr} {n : Nat} {Pv : Nat → Value → Prop} {Sti : Nat → Heap → Prop} {use : Option (Value → Sem Unit)} {Q : Value → Shared → Prop}
    (ks' gs' fs' : List Str) (hc : cpChk scope ks' gs' fs' = true) (F : Fn env L ks gs)
    (Wk : Walks c.p c.w A I fp [I] n Pv Sti) (hio : ∀ i h, Sti i h → ∃ o, h.get? I = some o) (hfp : ∀ b ∈ fp, b = I ∨ ∃ o, T b = some o)
    (hi2 : ∀ x, foldedSetIterable i2 (compEnvC scope cl (s.heap.push (lsO [])).objs.size env) x = pure x) (hgo : ∀ i v (s : Shared) (Q : Unit → Shared → Prop), Pv i v → Sti (i + 1) s.heap → Q () s → wpAny (model c.p c.w) A (letOwnedTupleGo target (.ref I) v) Q NoE s)
    (S : St c P T L ks vs ((I, o) :: (Mx ++ M₀)) s) (h0 : Sti 0 s.heap) (J : Nat → Fz → List Value → List (Addr × Obj) → Prop) (j0 : J 0 T [] Mx)
    (hJ : ∀ i T' ys Mx', J i T' ys Mx' → Mx'.map (·.1) = Mx.map (·.1))
    (step : ∀ P₁ C D i v T' ys Mx' o s, (∀ p ∈ M₀, P₁.G p.1 = some p.2) → i < n → Pv i v → Fle T T' → J i T' ys Mx' → Fn (compEnvC scope cl C env) C ks' gs' → St c P₁ T' C ks' (ks'.map fun _ => none) ((D, lsO ys) :: (I, o) :: Mx') s →
      W (model c.p c.w) A (assign target (compEnvC scope cl C env) v) (fun _ s₂ => W (model c.p c.w) A (eval i2 (compEnvC scope cl C env)) (fun x s₃ => wpAny (model c.p c.w) A (pyIter x) (fun it2 s₄ =>
        codeAny (model c.p c.w) A (.compStart (.ListComp elt [⟨target, iter, [], 0⟩, ⟨t2, i2, [], 0⟩] scope pos) 1 it2 (.ref D) (compEnvC scope cl C env)) (fun r s₅ => (∃ fl, r = .ok fl) ∧ ∃ T'' vs'' Mx'' ys'', Fle T' T'' ∧ J (i + 1) T'' ys'' Mx'' ∧ St c P₁ T'' C ks' vs'' ((D, lsO ys'') :: (I, o) :: Mx'') s₅) s₄) NoE s₃) NoE s₂) NoE s)
    (fin : ∀ T' ys Mx' C D oC m s', Fle T T' → J n T' ys Mx' → P.N ≤ D → LCg.NsObj oC m → St c P T' L ks vs ((C, oC) :: (D, lsO ys) :: (Mx' ++ M₀)) s' → compPost (model c.p c.w) A NoE use Q (.ref D) C (.ok .next) s') :
    wpAny (model c.p c.w) A (newList []) (fun acc s₃ => wpAny (model c.p c.w) A (newFunctionEnv scope env.globals cl [] env.qual none .none (some env)) (fun cenv s₄ =>
      codeAny (model c.p c.w) A (.compStart (.ListComp elt [⟨target, iter, [], 0⟩, ⟨t2, i2, [], 0⟩] scope pos) 0 (.ref I) acc { cenv with scope := relabel scope env }) (compPost (model c.p c.w) A NoE use Q acc cenv.locals) s₄) NoE s₃) NoE s := by
  obtain ⟨_, hkind, hcell, hnames⟩ := cp_of (env := env) (cl := cl) (C := 0) hc F.glob F.bins
  refine wpAny_newObj_type (wpAny_newFunctionEnv hcell (by intro y hy; simp at hy) (fun h₁ hns₁ hsb₁ => ?_) hkind)
  dsimp only at hns₁ hsb₁ ⊢
  have B := St.block (ks' := ks') (t := s.toks + ([] : List (Str × Value)).length) S hns₁ hsb₁
  have hFn : Fn (compEnvC scope cl (s.heap.push (lsO [])).objs.size env) (s.heap.push (lsO [])).objs.size ks' gs' := (cp_of hc F.glob F.bins).1
  have hst₁ : Sti 0 h₁ := Wk.frame _ _ _ h0 fun b hb ob e => by
    rcases hfp b hb with rfl | ⟨ob', eb⟩
    · have e1 := (S.led _ (.head _)).1
      have e2 := (B.led _ (.tail _ (.head _))).1
      have e1' : s.heap.get? b = some o := e1
      rw [e1'] at e; cases e
      exact e2
    · have e1 := S.sub _ _ eb
      rw [e1] at e; cases e
      exact B.sub _ _ eb
  have hfr : ∀ p ∈ M₀, blkG s I Mx p.1 = some p.2 := fun p hp => by
    have nd := S.nd
    rw [List.map_cons, List.map_append] at nd
    obtain ⟨nI, nd⟩ := List.nodup_cons.mp nd
    obtain ⟨_, _, nd3⟩ := List.nodup_append.mp nd
    exact blkG_of (S.led p (.tail _ (List.mem_append_right _ hp))).1 (fun q => nI (List.mem_append_right _ (List.mem_map.mpr ⟨p, hp, q⟩))) (fun hm => nd3 _ hm _ (List.mem_map_of_mem hp) rfl)
  have loop : ∀ s₃ : Shared, s₃ = { s with heap := h₁, toks := s.toks + ([] : List (Str × Value)).length } →
      codeAny (model c.p c.w) A (.compLoop (.ListComp elt [⟨target, iter, [], 0⟩, ⟨t2, i2, [], 0⟩] scope pos) 0 (.ref I) (.ref s.heap.objs.size) (compEnvC scope cl (s.heap.push (lsO [])).objs.size env))
        (compPost (model c.p c.w) A NoE use Q (.ref s.heap.objs.size) (s.heap.push (lsO [])).objs.size) s₃ := by
    rintro s₃ rfl
    refine compLoop_own2 hi2 (fun k s' => ∃ i T' ys Mx' vs' o, i ≤ n ∧ k = n - i ∧ Fle T T' ∧ J i T' ys Mx' ∧ St c ⟨s.heap.objs.size, T, blkG s I Mx⟩ T' (s.heap.push (lsO [])).objs.size ks' vs' ((s.heap.objs.size, lsO ys) :: (I, o) :: Mx') s' ∧ Sti i s'.heap) ?_ (n - 0)
      ⟨0, T, [], Mx, _, o, Nat.zero_le _, rfl, Fle.refl _, j0, B, hst₁⟩
    rintro k s' ⟨i, T', ys, Mx', vs', o, hi, rfl, le, hJi, S', hst⟩
    by_cases hlt : i < n
    · refine Wk.item i s' _ _ hlt hst fun v h₁ tk hv hst₁ hk => ?_
      dsimp only
      refine wpAny_noRaise (hgo i v _ _ hv hst₁ ?_)
      obtain ⟨o₁, ho₁⟩ := hio _ _ hst₁
      have S₁ := (((S'.perm (.swap _ _ _)).move (h' := h₁) (fun b ob hb e => hk b ob (fun q => hb (List.mem_singleton.mp q)) e) ho₁ tk).perm (.swap _ _ _)).forget
      have hIT : ∀ {T'' vs'' Mx''} {s₃ : Shared} {ys'}, Fle T' T'' → St c ⟨s.heap.objs.size, T, blkG s I Mx⟩ T'' (s.heap.push (lsO [])).objs.size ks' vs'' ((s.heap.objs.size, lsO ys') :: (I, o₁) :: Mx'') s₃ → Sti (i + 1) s₃.heap := fun le' S'' =>
        Wk.frame _ _ _ hst₁ fun b hb ob e => by
          rcases hfp b hb with rfl | ⟨ob', eb⟩
          · have e' : h₁.get? b = some ob := e
            rw [ho₁] at e'
            cases e'
            exact (S''.led _ (.tail _ (.head _))).1
          · have e1 : h₁.get? b = some ob' := S₁.sub b ob' (le b ob' eb)
            have e' : h₁.get? b = some ob := e
            rw [e'] at e1
            cases e1
            exact S''.sub b ob (le' b ob (le b ob eb))
      refine wpAny_mono (step _ _ _ i v T' ys Mx' o₁ _ hfr hlt hv le hJi hFn S₁).un (fun _ s₂ h₂ => ?_) fun _ _ x => x
      refine wpAny_mono h₂.un (fun x s₃ h₃ => wpAny_mono h₃ (fun it2 s₄ h₄ => codeAny_mono h₄ fun r s₅ ⟨hr, T'', vs'', Mx'', ys'', le', hJ', S''⟩ => ?_) fun _ _ x => x) fun _ _ x => x
      exact ⟨hr, n - (i + 1), by omega, i + 1, T'', ys'', Mx'', vs'', o₁, hlt, rfl, le.trans le', hJ', S'', hIT le' S''⟩
    · have : i = n := by omega
      subst this
      refine Wk.done s' _ _ hst fun h₁ tk hk => ?_
      dsimp only
      have hIe := (S'.led _ (.tail _ (.head _))).1
      have hx := hJ _ _ _ _ hJi
      obtain ⟨oC, m, nso, S''⟩ := St.join (M₀ := M₀) S S' hx (Nat.le_refl _)
      have h3 : St c P T' L ks vs (((s.heap.push (lsO [])).objs.size, oC) :: (s.heap.objs.size, lsO ys) :: (Mx' ++ M₀)) { s' with heap := h₁, toks := tk } := by
        have hI : ∀ p ∈ ((s.heap.push (lsO [])).objs.size, oC) :: (s.heap.objs.size, lsO ys) :: (Mx' ++ M₀), p.1 ≠ I := by
          intro p hp
          have nd := S.nd
          rw [List.map_cons] at nd
          have nI := (List.nodup_cons.mp nd).1
          have hIlt := Heap.lt_size (S.led _ (.head _)).1
          rcases List.mem_cons.mp hp with rfl | hp
          · exact fun e => (S'.led _ (.tail _ (.head _))).2.2.1 e.symm
          · rcases List.mem_cons.mp hp with rfl | hp
            · exact Nat.ne_of_gt hIlt
            · refine fun e => nI ?_
              rw [List.map_append]
              rcases List.mem_append.mp hp with hp | hp
              · exact List.mem_append_left _ (hx ▸ List.mem_map.mpr ⟨p, hp, e⟩)
              · exact List.mem_append_right _ (List.mem_map.mpr ⟨p, hp, e⟩)
        have hS := S.led _ (.head _)
        have hTI : T' I = none := (S'.led _ (.tail _ (.head _))).2.1
        obtain ⟨m', hn, al⟩ := S''.ns
        have kp : ∀ b ob, b ≠ I → s'.heap.get? b = some ob → h₁.get? b = some ob := fun b ob hb e => hk b ob (fun q => hb (List.mem_singleton.mp q)) e
        exact { ok := S''.ok, gens := S''.gens, os := S''.os, bT := S''.bT, sub := fun b ob e => kp b ob (fun q => by rw [q, hTI] at e; cases e) (S''.sub b ob e), le := S''.le, low := S''.low,
                keep := fun b ob e => kp b ob (fun q => by rw [q, hS.2.2.2] at e; cases e) (S''.keep b ob e), nl := S''.nl, ns := ⟨m', hn.at' fun ob e => kp L ob (Ne.symm hS.2.2.1) e, al⟩, tL := S''.tL, gL := S''.gL,
                led := fun p hp => ⟨kp _ _ (hI p hp) (S''.led p hp).1, (S''.led p hp).2⟩, nd := S''.nd }
      exact fin T' ys Mx' _ _ oC m _ le hJi S.size nso h3
  exact codeAny_compStart_list (loop _ rfl) (Wk.self 0 _ _ _ hst₁ (loop _ rfl))
end
section
variable {c : Cx} {P : Ent} {T : Fz} {L : Addr} {ks gs : List Str} {vs : List (Option Value)} {M : List (Addr × Obj)} {s : Shared} {env : Env} {A : Around} {E : Value → Shared → Prop}
theorem inner2G {target iter i2 : Expr} {k1 k2 : Str} {ep tp2 : Pos} {scope : Scope} {pos : Pos} {D I : Addr} {o : Obj} {ys pl : List Value} {u1 u2 : Option Value} {R : Result → Shared → Prop} {fp : List Addr} {Pv : Nat → Value → Prop} {Sti : Nat → Heap → Prop}
    (F : Fn env L [k1, k2] gs)
    (Wk : Walks c.p c.w A I fp [I] pl.length Pv Sti) (hio : ∀ i h, Sti i h → ∃ o, h.get? I = some o) (hfp : ∀ b ∈ fp, b = I ∨ ∃ o, T b = some o) (hPv : ∀ i v, Pv i v → pl[i]? = some v)
    (hgo : ∀ i v (s : Shared) (Q : Unit → Shared → Prop), Pv i v → Sti (i + 1) s.heap → Q () s → wpAny (model c.p c.w) A (letOwnedTupleGo (.Name k2 tp2) (.ref I) v) Q NoE s)
    (S : St c P T L [k1, k2] [u1, u2] ((I, o) :: (D, lsO ys) :: M) s) (h0 : Sti 0 s.heap) (hz : ys.length + pl.length ≤ 10000)
    (fin : ∀ u2 s', St c P T L [k1, k2] [u1, u2] ((D, lsO (ys ++ pl)) :: M) s' → R (.ok .next) s') :
    codeAny (model c.p c.w) A (.compStart (.ListComp (.Name k2 ep) [⟨target, iter, [], 0⟩, ⟨.Name k2 tp2, i2, [], 0⟩] scope pos) 1 (.ref I) (.ref D) env) R s := by
  have loop : codeAny (model c.p c.w) A (.compLoop (.ListComp (.Name k2 ep) [⟨target, iter, [], 0⟩, ⟨.Name k2 tp2, i2, [], 0⟩] scope pos) 1 (.ref I) (.ref D) env) R s := by
    refine codeAny_loop rfl (fun k s' => ∃ i u2 o, i ≤ pl.length ∧ k = pl.length - i ∧ St c P T L [k1, k2] [u1, u2] ((I, o) :: (D, lsO (ys ++ pl.take i)) :: M) s' ∧ Sti i s'.heap) (fun n s hI => ?_) (pl.length - 0) ⟨0, u2, o, Nat.zero_le _, rfl, by rw [List.take_zero, List.append_nil]; exact S, h0⟩
    show wpAny _ A ((compTurn (.ListComp (.Name k2 ep) [⟨target, iter, [], 0⟩, ⟨.Name k2 tp2, i2, [], 0⟩] scope pos) 1 (.ref I) (.ref D) env).onRaise (fun x => do noteFrame x env; theTreesLotGoes x)) _ _ s
    refine wpAny_noted ?_
    rw [turn2b]
    obtain ⟨i, u2, o, hi, rfl, S', hst⟩ := hI
    refine wpAny_bind (wpAny_standAt (wpAny_bind (wpAny_noRaise ?_)))
    by_cases hlt : i < pl.length
    · refine Wk.item i s _ _ hlt hst fun v h₁ tk hv hst₁ hk => ?_
      dsimp only
      have hpv := hPv i v hv
      refine wpAny_noRaise (wpAny_bind (hgo i v _ _ hv hst₁ ?_))
      obtain ⟨o₁, ho₁⟩ := hio _ _ hst₁
      have S₁ := S'.move (h' := h₁) (fun b ob hb e => hk b ob (fun q => hb (List.mem_singleton.mp q)) e) ho₁ tk
      refine wpAny_bind (W.un (asN (wr F S₁ (.tail .head) fun s₂ S₂ => ?_)))
      refine wpAny_bind (wpAny_bind (W.un (rd F S₂ (.tail .head) ?_)))
      refine wpAny_bind (St.app (Mo := model c.p c.w) (S₂.perm (.swap _ _ _)) (by rw [List.length_append, List.length_take, sizeLine_eq]; omega) fun s₃ S₃ => ?_)
      refine wpAny_pure (wpAny_pure ⟨rfl, pl.length - (i + 1), by omega, i + 1, some v, o₁, hlt, rfl, ?_, ?_⟩)
      · rw [take1 hpv, ← List.append_assoc]
        exact S₃.perm (.swap _ _ _)
      · refine Wk.frame _ _ _ hst₁ fun b hb ob e => ?_
        rcases hfp b hb with rfl | ⟨ob', eb⟩
        · have e' : h₁.get? b = some ob := e
          rw [ho₁] at e'
          cases e'
          exact (S₃.led _ (.tail _ (.head _))).1
        · have e1 : h₁.get? b = some ob' := S₁.sub b ob' eb
          have e' : h₁.get? b = some ob := e
          rw [e'] at e1
          cases e1
          exact S₃.sub b ob eb
    · have : i = pl.length := by omega
      subst this
      refine Wk.done s _ _ hst fun h₁ tk hk => ?_
      dsimp only
      refine wpAny_pure (fin u2 _ ?_)
      have S₁ := S'.gone (h' := h₁) (fun b ob hb e => hk b ob (fun q => hb (List.mem_singleton.mp q)) e) tk
      rw [List.take_length] at S₁
      exact S₁
  exact compStart1 loop (Wk.self 0 _ _ _ h0 loop)
end
theorem flat_take {α : Type} {l : List (List α)} {i : Nat} {x : List α} (h : l[i]? = some x) : (l.take (i + 1)).flatten = (l.take i).flatten ++ x := by rw [take1 h, List.flatten_append]; simp
theorem flat_take_le {α : Type} (l : List (List α)) (i : Nat) : (l.take i).flatten.length ≤ l.flatten.length := by
  have e : l.flatten = (l.take i).flatten ++ (l.drop i).flatten := by rw [← List.flatten_append, List.take_append_drop]
  rw [e, List.length_append]
  omega
section
variable {c : Cx} {P : Ent} {T : Fz} {L : Addr} {ks gs : List Str} {vs : List (Option Value)} {M : List (Addr × Obj)} {s : Shared} {env : Env} {A : Around} {E : Value → Shared → Prop}
theorem cmpA2 {a : Addr} {l : List Value} {pls : List (List Value)} {x y t1 t2 : Str} {ep tp1 tp2 ip1 ip2 py pos spos : Pos} {scope : Scope} {rest : List Stmt} {vs' : Addr → List (Option Value)} {Q : Flow → Shared → Prop} (hh : A.handled = none) (F : Fn env L ks gs) (S : St c P T L ks vs M s)
    (Hx : Has ks vs x (.ref a)) (H : LstT T a l) (Z : PySem.Paired (fun v pl => ∃ p, v = .ref p ∧ LstT T p pl) l pls) (hz : pls.flatten.length ≤ 10000) (hl : l.length ≤ 10000) (hp : ∀ D, Put ks vs y (.ref D) (vs' D))
    (h : ∀ T' D s', Fle T T' → LstT T' D pls.flatten → St c P T' L ks (vs' D) M s' → W (model c.p c.w) A (execs rest env) Q NoE s') (hc : cpChk scope [t1, t2] [] [] = true := by kernel_rfl)
    (hf : (scope.names.all fun x => !(x.2 == .free)) = true := by kernel_rfl)
    (hq : (py.line == (Expr.ListComp (.Name t2 ep) [⟨.Name t1 tp1, .Name x ip1, [], 0⟩, ⟨.Name t2 tp2, .Name t1 ip2, [], 0⟩] scope pos).pos.line && !(scope.names.any fun (n, k) => n == y && (k == .local || k == .cell))) = true := by kernel_rfl) :
    W (model c.p c.w) A (execs (.Assign [.Name y py] (.ListComp (.Name t2 ep) [⟨.Name t1 tp1, .Name x ip1, [], 0⟩, ⟨.Name t2 tp2, .Name t1 ip2, [], 0⟩] scope pos) spos :: rest) env) Q NoE s := by
  obtain ⟨_, h1, h2, h3⟩ := cp_of (env := env) (cl := []) (C := 0) hc F.glob F.bins
  have hsw : swapsWith (.ListComp (.Name t2 ep) [⟨.Name t1 tp1, .Name x ip1, [], 0⟩, ⟨.Name t2 tp2, .Name t1 ip2, [], 0⟩] scope pos) (some (.Name y py)) spos.line env = pure true := by
    show (pure (env.blockKind == .function && env.kindOf y == some .local && py.line == (Expr.ListComp (.Name t2 ep) [⟨.Name t1 tp1, .Name x ip1, [], 0⟩, ⟨.Name t2 tp2, .Name t1 ip2, [], 0⟩] scope pos).pos.line && !(scope.names.any fun (n, k) => n == y && (k == .local || k == .cell))) : Sem Bool) = pure true
    have e1 : env.blockKind = .function := by unfold Env.blockKind; rw [F.kind]; rfl
    rw [e1, (F.lk y (hp 0).mem).1, Bool.and_assoc, hq]
    rfl
  have hclos : closureFor scope env = pure [] := closureFor_none fun x hx e => by have := List.all_eq_true.mp hf x hx; rw [e] at this; cases this
  refine seq (.of ?_)
  rw [exec_Assign_Name_used _ _ _ _ hsw]
  refine wpAny_bind (wpAny_standAt (wpAny_bind ?_))
  show wpAny _ A (do let _ ← comprehension (.ListComp (.Name t2 ep) [⟨.Name t1 tp1, .Name x ip1, [], 0⟩, ⟨.Name t2 tp2, .Name t1 ip2, [], 0⟩] scope pos) scope env _ (newList []) false (eval (.Name x ip1) env) (some (assign (.Name y py) env))) _ _ s
  refine wpAny_bind (wpAny_mono (wpAny_comprehension_free (use := some (assign (.Name y py) env)) (Q := fun _ s' => W (model c.p c.w) A (execs rest env) Q NoE s') rfl (by intro _; rfl) hclos h1 h3 (W.un (rd F S Hx ?_))) (fun _ s' hq => wpAny_pure (wpAny_pure hq)) fun _ _ e => e)
  refine wpAny_pyIter_list (H.at S.toIn) ?_
  have S₁ : St c P T L ks vs ((s.heap.objs.size, { cls := .type "list_iterator", data := .fields #[.ref a, .int 0 0] }) :: ([] ++ M)) _ := S.newM (o := { cls := .type "list_iterator", data := .fields #[.ref a, .int 0 0] }) rfl s.toks
  obtain ⟨o, hT, _⟩ := id H
  have hne : a ≠ s.heap.objs.size := fun q => by have := S.sub _ _ hT; rw [q, get_size] at this; cases this
  have Wk := Walks.list (prog := c.p) (w := c.w) hh s.heap.objs.size a hne l.toArray
  have e : l.toArray.size = l.length := by simp
  rw [e] at Wk
  have hlp : l.length = pls.length := Paired.length Z
  refine compG2 (Mx := []) (M₀ := M) [t1, t2] [] [] hc F Wk (fun i h st => let ⟨o, e, _⟩ := st.1; ⟨o, e⟩) (fun b hb => ?_) (by intro _; rfl) (fun i v s Q hv' st h => go_list (target := .Name t1 tp1) rfl st.1 (.inl ⟨_, _, rfl⟩) h) S₁ ⟨⟨_, (S₁.led _ (.head _)).1, rfl, rfl⟩, H.at S₁.toIn⟩
    (fun i T' ys Mx' => Mx' = [] ∧ T' = T ∧ ys = (pls.take i).flatten) ⟨rfl, rfl, rfl⟩ (fun i T' ys Mx' q => by rw [q.1]) ?_ ?_
  · rcases List.mem_cons.mp hb with rfl | hb
    · exact .inl rfl
    · rw [List.mem_singleton.mp hb]; exact .inr ⟨o, hT⟩
  · rintro P₁ C D' i v T' ys Mx' o' s' hG hi hv le ⟨rfl, rfl, rfl⟩ F' S'
    have hv' : l[i]? = some v := by simpa using hv
    obtain ⟨pl, hpl, p, rfl, Hp⟩ := prd Z hv'
    have S' : St c P₁ T' C [t1, t2] [none, none] [(D', lsO (pls.take i).flatten), (_, o')] s' := S'
    refine asN (wr F' S' .head fun s₂ S₂ => ?_)
    refine rd F' S₂ .head ?_
    refine wpAny_pyIter_list (Hp.at S₂.toIn) ?_
    have S₃ := S₂.newM (o := { cls := .type "list_iterator", data := .fields #[.ref p, .int 0 0] }) rfl s₂.toks
    obtain ⟨op, hTp, _⟩ := id Hp
    have hne' : p ≠ s₂.heap.objs.size := fun q => by have := S₂.sub _ _ hTp; rw [q, get_size] at this; cases this
    have Wk' := Walks.list (prog := c.p) (w := c.w) hh s₂.heap.objs.size p hne' pl.toArray
    have e' : pl.toArray.size = pl.length := by simp
    rw [e'] at Wk'
    have hft := flat_take hpl
    have hle := flat_take_le pls (i + 1)
    rw [hft, List.length_append] at hle
    refine inner2G F' Wk' (fun i h st => let ⟨o, e, _⟩ := st.1; ⟨o, e⟩) (fun b hb => ?_) (fun j v hv => by simpa using hv) (fun i v s Q hv' st h => go_list (target := .Name t2 tp2) rfl st.1 (.inl ⟨_, _, rfl⟩) h) S₃ ⟨⟨_, (S₃.led _ (.head _)).1, rfl, rfl⟩, Hp.at S₃.toIn⟩ (by omega)
      fun u2 s' S' => ⟨⟨_, rfl⟩, T', _, [], _, Fle.refl _, ⟨rfl, rfl, hft.symm⟩, S'⟩
    rcases List.mem_cons.mp hb with rfl | hb
    · exact .inl rfl
    · rw [List.mem_singleton.mp hb]; exact .inr ⟨op, hTp⟩
  · rintro T' ys Mx' C D' oC m s' le ⟨rfl, rfl, rfl⟩ hD no S'
    refine finA F (hp D') no S' fun v s'' S'' => ?_
    obtain ⟨T'', le', H', S₃⟩ := freezeL S'' .head hD
    rw [hlp, List.take_length] at H'
    exact h T'' D' s'' le' H' S₃
end
/-- a corner of the grid -/
def InB (p : Pt) : Prop := (0 ≤ p.1 ∧ p.1 ≤ 60) ∧ (0 ≤ p.2 ∧ p.2 ≤ 60)
def OkQ (q : List Pt) : Prop := (2 ≤ q.length ∧ q.length ≤ 5) ∧ ∀ p ∈ q, InB p
/-- a polygon's fan -/
def tri (q : List Pt) (j : Nat) : List Pt := [q.getD 0 (0, 0), q.getD (1 + j) (0, 0), q.getD (1 + j + 1) (0, 0)]
def fanQ (q : List Pt) : List (List Pt) := (List.range (q.length - 2)).map (tri q)
def fan (qs : List (List Pt)) : List (List Pt) := qs.flatMap fanQ

/-- the sum of a number over a polygon's edges, and over all of them -/
def sE (f : Pt × Pt → Int) (q : List Pt) : Int := ((ed q).map f).sum
def sA (f : Pt × Pt → Int) (qs : List (List Pt)) : Int := ((qs.flatMap ed).map f).sum
theorem sA_cons (f : Pt × Pt → Int) (q : List Pt) (qs : List (List Pt)) : sA f (q :: qs) = sE f q + sA f qs := by
  unfold sA sE
  rw [List.flatMap_cons, List.map_append, List.sum_append]
theorem sA_append (f : Pt × Pt → Int) (l r : List (List Pt)) : sA f (l ++ r) = sA f l + sA f r := by
  unfold sA
  rw [List.flatMap_append, List.map_append, List.sum_append]
theorem s2 (f : Pt × Pt → Int) (a b : Pt) : sE f [a, b] = f (b, a) + f (a, b) := by
  show ([f (b, a), f (a, b)] : List Int).sum = _
  simp [List.sum_cons]
theorem s3 (f : Pt × Pt → Int) (a b c : Pt) : sE f [a, b, c] = f (c, a) + (f (a, b) + f (b, c)) := by
  show ([f (c, a), f (a, b), f (b, c)] : List Int).sum = _
  simp [List.sum_cons]
theorem s4 (f : Pt × Pt → Int) (a b c d : Pt) : sE f [a, b, c, d] = f (d, a) + (f (a, b) + (f (b, c) + f (c, d))) := by
  show ([f (d, a), f (a, b), f (b, c), f (c, d)] : List Int).sum = _
  simp [List.sum_cons]
theorem s5 (f : Pt × Pt → Int) (a b c d e : Pt) : sE f [a, b, c, d, e] = f (e, a) + (f (a, b) + (f (b, c) + (f (c, d) + f (d, e)))) := by
  show ([f (e, a), f (a, b), f (b, c), f (c, d), f (d, e)] : List Int).sum = _
  simp [List.sum_cons]
theorem q_cases : ∀ {q : List Pt}, 2 ≤ q.length ∧ q.length ≤ 5 → (∃ a b, q = [a, b]) ∨ (∃ a b c, q = [a, b, c]) ∨ (∃ a b c d, q = [a, b, c, d]) ∨ ∃ a b c d e, q = [a, b, c, d, e]
  | [], h => absurd h.1 (by decide)
  | [a], h => absurd h.1 (by simp)
  | [a, b], _ => .inl ⟨a, b, rfl⟩
  | [a, b, c], _ => .inr (.inl ⟨a, b, c, rfl⟩)
  | [a, b, c, d], _ => .inr (.inr (.inl ⟨a, b, c, d, rfl⟩))
  | [a, b, c, d, e], _ => .inr (.inr (.inr ⟨a, b, c, d, e, rfl⟩))
  | _ :: _ :: _ :: _ :: _ :: _ :: _, h => absurd h.2 (by simp only [List.length_cons]; omega)

section
variable {f : Pt × Pt → Int} (hf : ∀ p r, f (r, p) = -f (p, r))
include hf
theorem fan_one {q : List Pt} (h : 2 ≤ q.length ∧ q.length ≤ 5) : sA f (fanQ q) = sE f q := by
  rcases q_cases h with ⟨a, b, rfl⟩ | ⟨a, b, c, rfl⟩ | ⟨a, b, c, d, rfl⟩ | ⟨a, b, c, d, e, rfl⟩
  · show sA f [] = _
    rw [s2, hf a b]
    show (0 : Int) = _
    omega
  · show sA f [[a, b, c]] = _
    rw [sA_cons]
    show _ + (0 : Int) = _
    omega
  · show sA f [[a, b, c], [a, c, d]] = _
    rw [sA_cons, sA_cons, s3, s3, s4, hf a c]
    show _ + (_ + (0 : Int)) = _
    omega
  · show sA f [[a, b, c], [a, c, d], [a, d, e]] = _
    rw [sA_cons, sA_cons, sA_cons, s3, s3, s3, s5, hf a c, hf a d]
    show _ + (_ + (_ + (0 : Int))) = _
    omega
theorem fan_all {qs : List (List Pt)} (h : ∀ q ∈ qs, OkQ q) : sA f (fan qs) = sA f qs := by
  induction qs with
  | nil => rfl
  | cons q r ih =>
    show sA f (fanQ q ++ fan r) = _
    rw [sA_append, sA_cons, fan_one hf (h q (.head _)).1, ih fun q hq => h q (.tail _ hq)]
theorem rev_one {q : List Pt} (h : 2 ≤ q.length ∧ q.length ≤ 5) : sE f q.reverse = -sE f q := by
  rcases q_cases h with ⟨a, b, rfl⟩ | ⟨a, b, c, rfl⟩ | ⟨a, b, c, d, rfl⟩ | ⟨a, b, c, d, e, rfl⟩
  · show sE f [b, a] = _
    rw [s2, s2, hf a b]; omega
  · show sE f [c, b, a] = _
    rw [s3, s3, hf c a, hf b c, hf a b]; omega
  · show sE f [d, c, b, a] = _
    rw [s4, s4, hf d a, hf c d, hf b c, hf a b]; omega
  · show sE f [e, d, c, b, a] = _
    rw [s5, s5, hf e a, hf d e, hf c d, hf b c, hf a b]; omega
theorem rev_all {qs : List (List Pt)} (h : ∀ q ∈ qs, OkQ q) : sA f (qs.map List.reverse) = -sA f qs := by
  induction qs with
  | nil => rfl
  | cons q r ih =>
    rw [List.map_cons, sA_cons, sA_cons, rev_one hf (h q (.head _)).1, ih fun q hq => h q (.tail _ hq)]
    omega
end
theorem round_one {f g : Pt × Pt → Int} {u : Pt → Int} (hf : ∀ p r, f (p, r) = g (p, r) + (u r - u p)) {q : List Pt} (h : 2 ≤ q.length ∧ q.length ≤ 5) : sE f q = sE g q := by
  rcases q_cases h with ⟨a, b, rfl⟩ | ⟨a, b, c, rfl⟩ | ⟨a, b, c, d, rfl⟩ | ⟨a, b, c, d, e, rfl⟩
  · rw [s2, s2]; simp only [hf]; omega
  · rw [s3, s3]; simp only [hf]; omega
  · rw [s4, s4]; simp only [hf]; omega
  · rw [s5, s5]; simp only [hf]; omega
theorem round_all {f g : Pt × Pt → Int} {u : Pt → Int} (hf : ∀ p r, f (p, r) = g (p, r) + (u r - u p)) {qs : List (List Pt)} (h : ∀ q ∈ qs, OkQ q) : sA f qs = sA g qs := by
  induction qs with
  | nil => rfl
  | cons q r ih => rw [sA_cons, sA_cons, round_one hf (h q (.head _)).1, ih fun q hq => h q (.tail _ hq)]

theorem arE_flip (p r : Pt) : arE (r, p) = -arE (p, r) := by
  unfold arE
  show r.1 * p.2 - p.1 * r.2 = -(p.1 * r.2 - r.1 * p.2)
  omega
/-- the side of a place by an edge -/
def sid (p r : Pt) (x y : Int) : Int := (r.1 - p.1) * (y - p.2) - (x - p.1) * (r.2 - p.2)
theorem sid_flip (p r : Pt) (x y : Int) : sid r p x y = -sid p r x y := by
  unfold sid
  obtain ⟨a, b⟩ := p
  obtain ⟨c, d⟩ := r
  simp only [Int.sub_mul, Int.mul_sub]
  have e1 := Int.mul_comm a y
  have e2 := Int.mul_comm c y
  have e3 := Int.mul_comm a d
  have e4 := Int.mul_comm c b
  omega
theorem cr_sid (p r : Pt) (x y : Int) : cr (p, r) x y = if p.2 ≤ y ∧ y < r.2 then (if 0 < sid p r x y then 1 else 0) else if r.2 ≤ y ∧ y < p.2 then (if sid p r x y < 0 then -1 else 0) else 0 := by
  unfold cr crI sid
  dsimp only
  rw [Int.mul_one]
  have e : (0 < ((r.1 - p.1) * (y - p.2) - (x - p.1) * (r.2 - p.2)) * (-1)) = ((r.1 - p.1) * (y - p.2) - (x - p.1) * (r.2 - p.2) < 0) := by
    rw [Int.mul_neg, Int.mul_one]
    exact propext ⟨fun h => by omega, fun h => by omega⟩
  simp only [e]
theorem cr_flip (x y : Int) (p r : Pt) : cr (r, p) x y = -cr (p, r) x y := by
  rw [cr_sid, cr_sid, sid_flip p r]
  generalize sid p r x y = z
  by_cases h1 : p.2 ≤ y ∧ y < r.2
  · rw [if_neg (show ¬(r.2 ≤ y ∧ y < p.2) by omega), if_pos h1, if_pos h1]
    by_cases h : 0 < z
    · rw [if_pos h, if_pos (by omega)]
    · rw [if_neg h, if_neg (by omega)]; rfl
  · rw [if_neg h1, if_neg h1]
    by_cases h2 : r.2 ≤ y ∧ y < p.2
    · rw [if_pos h2, if_pos h2]
      by_cases h : z < 0
      · rw [if_pos h, if_pos (by omega)]; rfl
      · rw [if_neg h, if_neg (by omega)]; rfl
    · rw [if_neg h2, if_neg h2]; rfl
theorem rd_sid (p r : Pt) (x y : Int) : rdE (p, r) x y = if p.2 ≤ y ∧ y < r.2 then (if sid p r x y ≤ 0 then -1 else 0) else if r.2 ≤ y ∧ y < p.2 then (if 0 ≤ sid p r x y then 1 else 0) else 0 := by
  have e1 : (0 ≤ (x - p.1) * (r.2 - p.2) - (r.1 - p.1) * (y - p.2)) = (sid p r x y ≤ 0) := by
    unfold sid
    exact propext ⟨fun h => by omega, fun h => by omega⟩
  have e2 : (0 ≤ (x - r.1) * (p.2 - r.2) - (p.1 - r.1) * (y - r.2)) = (0 ≤ sid p r x y) := by
    have := sid_flip r p x y
    rw [this]
    unfold sid
    exact propext ⟨fun h => by omega, fun h => by omega⟩
  unfold rdE
  dsimp only
  simp only [e1, e2]
  by_cases h1 : p.2 < r.2
  · rw [if_pos h1, if_neg (show ¬(r.2 ≤ y ∧ y < p.2) by omega)]
  · rw [if_neg h1, if_neg (show ¬(p.2 ≤ y ∧ y < r.2) by omega)]
theorem cr_rd (x y : Int) (p r : Pt) : cr (p, r) x y = rdE (p, r) x y + ((if y < r.2 then 1 else 0) - (if y < p.2 then 1 else 0)) := by
  rw [cr_sid, rd_sid]
  generalize sid p r x y = z
  by_cases h1 : p.2 ≤ y ∧ y < r.2
  · rw [if_pos h1, if_pos h1, if_pos h1.2, if_neg (show ¬ y < p.2 by omega)]
    by_cases h : 0 < z
    · rw [if_pos h, if_neg (by omega)]; rfl
    · rw [if_neg h, if_pos (by omega)]; rfl
  · rw [if_neg h1, if_neg h1]
    by_cases h2 : r.2 ≤ y ∧ y < p.2
    · rw [if_pos h2, if_pos h2, if_neg (show ¬ y < r.2 by omega), if_pos h2.2]
      by_cases h : z < 0
      · rw [if_pos h, if_neg (by omega)]; rfl
      · rw [if_neg h, if_pos (by omega)]; rfl
    · rw [if_neg h2, if_neg h2]
      by_cases h3 : y < r.2
      · rw [if_pos h3, if_pos (by omega)]; rfl
      · rw [if_neg h3, if_neg (by omega)]; rfl

theorem area_fan {qs : List (List Pt)} (h : ∀ q ∈ qs, OkQ q) : area (fan qs) = area qs := fan_all (f := arE) arE_flip h
theorem area_rev {qs : List (List Pt)} (h : ∀ q ∈ qs, OkQ q) : area (qs.map List.reverse) = -area qs := rev_all (f := arE) arE_flip h
theorem wn_rnd {qs : List (List Pt)} (h : ∀ q ∈ qs, OkQ q) (x y : Int) : wn qs x y = rnd qs x y := round_all (f := fun e => cr e x y) (g := fun e => rdE e x y) (u := fun p => if y < p.2 then 1 else 0) (cr_rd x y) h
theorem wn_fan {qs : List (List Pt)} (h : ∀ q ∈ qs, OkQ q) (x y : Int) : wn (fan qs) x y = wn qs x y := fan_all (f := fun e => cr e x y) (cr_flip x y) h
theorem wn_rev {qs : List (List Pt)} (h : ∀ q ∈ qs, OkQ q) (x y : Int) : wn (qs.map List.reverse) x y = -wn qs x y := rev_all (f := fun e => cr e x y) (cr_flip x y) h
theorem InB.bd {p : Pt} (h : InB p) : BdP p := by obtain ⟨⟨a, b⟩, c, d⟩ := h; exact ⟨⟨by omega, by omega⟩, by omega, by omega⟩
theorem step_in {st r : Int} (hs : st = 10 ∨ st = 5 ∨ st = 1) (h0 : 0 ≤ r) (h1 : r < 60 / st + 1) : 0 ≤ st * r ∧ st * r ≤ 60 := by rcases hs with rfl | rfl | rfl <;> omega
theorem paired_snoc {α β : Type} {F : α → β → Prop} {a : α} {b : β} {l₁ : List α} {l₂ : List β} (h : PySem.Paired F l₁ l₂) (x : F a b) : PySem.Paired F (l₁ ++ [a]) (l₂ ++ [b]) := PySem.Paired.snoc h x
theorem fanQ_len (q : List Pt) (h : q.length ≤ 5) : (fanQ q).length ≤ 3 := by unfold fanQ; rw [List.length_map, List.length_range]; omega
theorem fan_take {qs : List (List Pt)} {i : Nat} {q : List Pt} (h : qs[i]? = some q) : (qs.take (i + 1)).flatMap fanQ = (qs.take i).flatMap fanQ ++ fanQ q := by rw [take1 h, List.flatMap_append]; simp
theorem fanQ_take {q : List Pt} {j : Nat} (h : j < q.length - 2) : (fanQ q).take (j + 1) = (fanQ q).take j ++ [tri q j] := by
  refine take1 ?_
  unfold fanQ
  rw [List.getElem?_map, List.getElem?_range h]; rfl
theorem getD_of {q : List Pt} {i : Nat} {p : Pt} (h : q[i]? = some p) : q.getD i (0, 0) = p := by rw [List.getD_eq_getElem?_getD, h]; rfl
theorem fan_mem {qs : List (List Pt)} (h : ∀ q ∈ qs, OkQ q) {t : List Pt} (ht : t ∈ fan qs) : t.length = 3 ∧ ∀ p ∈ t, InB p := by
  obtain ⟨q, hq, ht⟩ := List.mem_flatMap.mp ht
  obtain ⟨j, hj, rfl⟩ := List.mem_map.mp ht
  have hj := List.mem_range.mp hj
  refine ⟨rfl, fun p hp => ?_⟩
  have g : ∀ i, i < q.length → InB (q.getD i (0, 0)) := fun i hi => by
    rw [List.getD_eq_getElem?_getD, List.getElem?_eq_getElem hi]
    exact (h q hq).2 _ (List.getElem_mem hi)
  unfold tri at hp
  simp only [List.mem_cons, List.not_mem_nil, or_false] at hp
  rcases hp with rfl | rfl | rfl
  · exact g _ (by omega)
  · exact g _ (by omega)
  · exact g _ (by omega)
theorem paired_rev {α β : Type} {F : α → β → Prop} {l₁ : List α} {l₂ : List β} (h : PySem.Paired F l₁ l₂) : PySem.Paired F l₁.reverse l₂.reverse := by
  induction h with
  | nil => exact .nil
  | cons x _ ih => rw [List.reverse_cons, List.reverse_cons]; exact paired_snoc ih x
theorem ne0_of {i n m : Int} (h : i = 0 ↔ n = m) (e : n = m) : (i != 0) = false := by rw [h.mpr e]; rfl
theorem ipls_flat {T : Fz} {v : Value} {qs : List (List Pt)} (H : IPls T v qs) : ∃ a l pls, v = .ref a ∧ LstT T a l ∧ PySem.Paired (fun v pl => ∃ p, v = .ref p ∧ LstT T p pl) l pls ∧ PySem.Paired (IpT T) pls.flatten qs.flatten ∧ l.length = qs.length := by
  obtain ⟨a, l, rfl, Hl, Zl⟩ := H
  have key : ∃ pls, PySem.Paired (fun v pl => ∃ p, v = .ref p ∧ LstT T p pl) l pls ∧ PySem.Paired (IpT T) pls.flatten qs.flatten := by
    clear Hl
    induction Zl with
    | nil => exact ⟨[], .nil, .nil⟩
    | @cons v q r rs h _ ih =>
      obtain ⟨pls, h1, h2⟩ := ih
      obtain ⟨p, pl, rfl, h3, h4⟩ := h
      exact ⟨pl :: pls, .cons ⟨p, rfl, h3⟩ h1, by rw [List.flatten_cons, List.flatten_cons]; exact Paired.append h4 h2⟩
  obtain ⟨pls, h1, h2⟩ := key
  exact ⟨a, l, pls, rfl, Hl, h1, h2, Paired.length Zl⟩
theorem flat_len {qs : List (List Pt)} (h : ∀ q ∈ qs, OkQ q) : 2 * qs.length ≤ qs.flatten.length ∧ qs.flatten.length ≤ 5 * qs.length := by
  induction qs with
  | nil => simp
  | cons q r ih =>
    have h1 := (h q (.head _)).1
    have h2 := ih fun q hq => h q (.tail _ hq)
    rw [List.flatten_cons, List.length_append, List.length_cons]
    omega
theorem flat_in {qs : List (List Pt)} (h : ∀ q ∈ qs, OkQ q) {p : Pt} (hp : p ∈ qs.flatten) : InB p := by
  obtain ⟨q, hq, hp⟩ := List.mem_flatten.mp hp
  exact (h q hq).2 p hp
theorem neSelf (a : Int) : (a != a) = false := by simp
theorem neSelfB (a : Bool) : (a != a) = false := by simp
theorem pick3 {t₁ t₂ t₃ : Tok} : ∀ {n : Nat}, n < 3 → ∃ st ts, ([Value.int 10 t₁, .int 5 t₂, .int 1 t₃] : List Value)[n]? = some (.int st ts) ∧ (st = 10 ∨ st = 5 ∨ st = 1)
  | 0, _ => ⟨10, t₁, rfl, .inl rfl⟩
  | 1, _ => ⟨5, t₂, rfl, .inr (.inl rfl)⟩
  | 2, _ => ⟨1, t₃, rfl, .inr (.inr rfl)⟩
  | _ + 3, h => absurd h (by omega)
theorem two_of {α β : Type} {f : α → β} {x y : β} : ∀ {l : List α}, l.map f = [x, y] → ∃ a b, l = [a, b] ∧ f a = x ∧ f b = y
  | [a, b], h => by
    rw [List.map_cons, List.map_cons, List.map_nil] at h
    injection h with h1 h2
    injection h2 with h2 h3
    exact ⟨a, b, rfl, h1, h2⟩
  | [], h => by cases h
  | [a], h => by rw [List.map_cons] at h; injection h with _ h; cases h
  | _ :: _ :: _ :: _, h => by
    rw [List.map_cons, List.map_cons, List.map_cons] at h
    injection h with _ h; injection h with _ h; cases h
section
variable {c : Cx} {P : Ent} {T : Fz} {L : Addr} {ks gs : List Str} {vs : List (Option Value)} {M : List (Addr × Obj)} {s : Shared} {env : Env} {A : Around} {E : Value → Shared → Prop}
set_option maxHeartbeats 4000000 in
theorem law_ {a : Addr} {l : List Value} {ns : List Int} {Q : Value → Shared → Prop} (I : In c T s) (hA : Rm A 10) (hf : A.frames = some []) (Hl : LstT T a l) (hi : IntsAre l ns) (hz : l.length ≤ 1000)
    (h : ∀ s', s'.gens = c.g → s'.os = c.os → (∀ b o, c.B.get? b = some o → s'.heap.get? b = some o) → Q (.bool true) s') : W (model c.p c.w) A (call (.ref 429) [.ref a]) Q E s := by
  refine .of (wpAny_call (enterCellsX (n := 9) [Str.ofString "script", Str.ofString "polygons", Str.ofString "turn", Str.ofString "size", Str.ofString "path", Str.ofString "there", Str.ofString "fan", Str.ofString "corners", Str.ofString "at", Str.ofString "pieces", Str.ofString "back", Str.ofString "area", Str.ofString "own", Str.ofString "marks", Str.ofString "x", Str.ofString "y", Str.ofString "across", Str.ofString "upward", Str.ofString "due"] [Str.ofString "_law_box", Str.ofString "range", Str.ofString "_law_draw", Str.ofString "_law_path", Str.ofString "lines_of", Str.ofString "len", Str.ofString "doubled_area", Str.ofString "_law_area", Str.ofString "Decimal", Str.ofString "_law_round", Str.ofString "winding", Str.ofString "is_inside", Str.ofString "_law_refused"] (fun a => [(Str.ofString "step", a + 2), (Str.ofString "pool", a + 1)]) [some (.ref a), none, none, none, none, none, none, none, none, none, none, none, none, none, none, none, none, none, none] [none, none] I.pr hA hf rfl rfl (by kernel_rfl) (binds := [(Str.ofString "script", .ref a)]) (BindsTo.of_eq rfl) rfl (by kernel_rfl) (fun a => by kernel_rfl) (fun a => by kernel_rfl) (fun a => by show ([Str.ofString "step", Str.ofString "pool"] : List Str).Nodup; decide) (fun a => ?_) (by kernel_rfl) (fun a => by kernel_rfl) fun env L s' os F Z hol hod hfr S' A' hA' hf' => ?_))
  · intro x hx
    rw [List.mem_singleton.mp hx]
    exact .inl (by kernel_rfl)
  · obtain ⟨os, op, rfl, hos, hop⟩ := two_of (f := fun o : Obj => o.data) (x := .cell none) (y := .cell none) hod
    have Zs : Cl env (Str.ofString "step") (L + 2) := Z _ (.head _)
    have Zp : Cl env (Str.ofString "pool") (L + 1) := Z _ (.tail _ (.head _))
    have S₀ : St c ⟨s.heap.objs.size, T, s.heap.get?⟩ T L [Str.ofString "script", Str.ofString "polygons", Str.ofString "turn", Str.ofString "size", Str.ofString "path", Str.ofString "there", Str.ofString "fan", Str.ofString "corners", Str.ofString "at", Str.ofString "pieces", Str.ofString "back", Str.ofString "area", Str.ofString "own", Str.ofString "marks", Str.ofString "x", Str.ofString "y", Str.ofString "across", Str.ofString "upward", Str.ofString "due"] [some (.ref a), none, none, none, none, none, none, none, none, none, none, none, none, none, none, none, none, none, none] [(L + 2, os), (L + 1, op)] s' := S'
    clear S' hod hol
    k_spoken
    refine lawBox (by assumption) (hA'.le (by omega)) Hl hi hz fun D T₁ o s₁ le₁ S₁ H₁ => ?_
    k_spoken
    refine wrC (M' := fun o' => [(D, o), (L + 2, os), (L + 1, o')]) Zp S₁ (fun o' => .tail (.tail .head)) hop fun op' s₂ hop' S₂ => ?_
    obtain ⟨T₃, le₃, hcell, S₃⟩ := S₂.freeze (.tail (.tail .head)) (Nat.le_succ_of_le S₂.nl)
    have HC : CelT T₃ (L + 1) (.ref D) := ⟨op', hcell, hop'⟩
    replace H₁ := H₁.mono le₃
    clear S₂ S₁
    k_spoken
    refine newL0 (by assumption) fun Dp s₄ hDp S₄ => ?_
    k_spoken
    refine forS ?_
    k_spoken
    refine lawDrawP (r := [(Dp, lsO []), (L + 2, os)]) (by assumption) (.swap _ _ _) (hA'.le (by omega)) H₁ (by omega) (by omega) (by omega) fun r₅ t₅ T₅ o₅ s₅ le₅ S₅ H₅ h0 h1 => ?_
    k_spoken
    refine mkRg1 (by assumption) (by omega) (by omega) fun rr ro s₆ hr S₆ => ?_
    refine loopRg hA'.hd hr S₆ (fun i T' vs' M' => ∃ (z2 z3 : Option Value) (o oc : Obj) (w : Option Value) (ys : List Value) (qs : List (List Pt)), vs' = [some (.ref a), some (.ref Dp), z2, z3, none, none, none, none, none, none, none, none, none, none, none, none, none, none, none] ∧ M' = [(D, o), (Dp, lsO ys), (L + 2, oc)] ∧ PoolT T' o (1 + 12 * i) ∧ oc.data = .cell w ∧ PySem.Paired (IPol T') ys qs ∧ qs.length = i ∧ (∀ q ∈ qs, OkQ q) ∧ Fle T₅ T')
      ⟨none, none, o₅, os, none, [], [], rfl, rfl, H₅.le (by omega), hos, .nil, rfl, (fun q hq => nomatch hq), Fle.refl _⟩ ?_ ?_
    · rintro i t T₇ vs' M' I₇ oi s₇ hi le₇ ⟨z2, z3, o₇, oc, w, ys, qs, rfl, rfl, H₇, hoc, Zy, hqs, hok, _⟩ S₇
      have HC₇ := HC.mono (le₅.trans le₇)
      have hi2 : i < 2 := by omega
      k_spoken
      refine lawDrawP (r := [(I₇, oi), (Dp, lsO ys), (L + 2, oc)]) (by assumption) (.swap _ _ _) (hA'.le (by omega)) H₇ (by omega) (by omega) (by omega) fun r₈ t₈ T₈ o₈ s₈ le₈ S₈ H₈ h80 h81 => ?_
      have HC₈ := HC₇.mono le₈
      k_spoken
      refine newLst (by assumption) fun D₉ s₉ hD₉ S₉ => ?_
      obtain ⟨T₉, le₉, e₉, S₉'⟩ := S₉.freeze .head hD₉
      clear S₉
      have H₉ : LstT T₉ D₉ _ := ⟨_, e₉, rfl, _, rfl⟩
      have HC₉ := HC₈.mono le₉
      k_spoken
      refine lawDrawP (r := [(I₇, oi), (Dp, lsO ys), (L + 2, oc)]) (by assumption) (.refl _) (hA'.le (by omega)) (H₈.mono le₉) (by omega) (by omega) (by omega) fun r₁₀ t₁₀ T₁₀ o₁₀ s₁₀ le₁₀ S₁₀ H₁₀ h10 h11 => ?_
      obtain ⟨n₁₀, rfl⟩ := Int.eq_ofNat_of_zero_le h10
      have HC₁₀ := HC₉.mono le₁₀
      obtain ⟨st, ts, hx, hst⟩ := pick3 (show n₁₀ < 3 by omega)
      refine itAt (by assumption) (H₉.mono le₁₀) n₁₀ hx (by simp) ?_
      refine wrC (M' := fun o' => [(D, o₁₀), (I₇, oi), (Dp, lsO ys), (L + 2, o')]) Zs S₁₀ (fun o' => .tail (.tail (.tail .head))) hoc fun os' s₁₁ hos' S₁₁ => ?_
      k_spoken
      refine compE [Str.ofString "k"] [Str.ofString "_law_draw"] [Str.ofString "pool", Str.ofString "step"] [(Str.ofString "step", L + 2), (Str.ofString "pool", L + 1)] ?_ F (clos2 Zp Zs (by kernel_rfl) (by rfl))
      k_spoken
      refine mkRg1 (by assumption) (by omega) (by omega) fun rr₂ ro₂ s₁₂ hr₂ S₁₂ => ?_
      refine cpRg (Mx := [(D, o₁₀)]) (M₀ := [(I₇, oi), (Dp, lsO ys), (L + 2, os')]) [Str.ofString "k"] [Str.ofString "_law_draw"] [Str.ofString "pool", Str.ofString "step"] hA'.hd F hr₂ S₁₂ (sz (by omega)) (fun j T' zs Mx => ∃ (o : Obj) (q : List Pt), Mx = [(D, o)] ∧ PoolT T' o (1 + 12 * i + 1 + 1 + 2 * j) ∧ PySem.Paired (IpT T') zs q ∧ q.length = j ∧ (∀ p ∈ q, InB p) ∧ Fle T₁₀ T')
        ⟨_, [], rfl, H₁₀, .nil, rfl, (fun p hp => nomatch hp), Fle.refl _⟩ (fun j T' zs Mx ⟨o, q, e, _, z, hl, _⟩ => ⟨by rw [e]; rfl, by rw [Paired.length z, hl]; omega⟩) ?_ ?_
      · rintro P₁ C D' I' j t₁₃ T₁₃ zs Mx o' s₁₃ hG hj le₁₃ ⟨o₁₃, q, rfl, H₁₃, Zq, hql, hqb, _⟩ F' S₁₃
        replace S₁₃ : St c P₁ T₁₃ C [Str.ofString "k"] [none] [(D', lsO zs), (I', o'), (D, o₁₃)] s₁₃ := S₁₃
        have hg : P₁.G (L + 2) = some os' := hG (L + 2, os') (.tail _ (.tail _ (.head _)))
        have hck : cpChk { kind := .function, names := [(Str.ofString ".0", .local), (Str.ofString "k", .local), (Str.ofString "_law_draw", .globalImplicit), (Str.ofString "pool", .free), (Str.ofString "step", .free)], isGenerator := false, isCoroutine := false } [Str.ofString "k"] [Str.ofString "_law_draw"] [Str.ofString "pool", Str.ofString "step"] = true := by kernel_rfl
        have Zp' := Zp.inner (C := C) (cl := [(Str.ofString "step", L + 2), (Str.ofString "pool", L + 1)]) hck (.head _) (by rfl)
        have Zs' := Zs.inner (C := C) (cl := [(Str.ofString "step", L + 2), (Str.ofString "pool", L + 1)]) hck (.tail _ (.head _)) (by rfl)
        have HC₁₃ := HC₁₀.mono le₁₃
        have h60 : (0 : Int) < 60 / st + 1 ∧ (60 : Int) / st + 1 ≤ 1000 ∧ 0 < st ∧ st < 1073741824 ∧ Sm st := by unfold Sm; rcases hst with rfl | rfl | rfl <;> decide
        k_spoken
        refine rdC Zs' ⟨os', St.keep (by assumption) _ _ hg, hos'⟩ ?_
        k_spoken
        refine rdC Zs' ⟨os', St.keep (by assumption) _ _ hg, hos'⟩ ?_
        k_spoken
        refine idiv h60.2.2.1 h60.2.2.2.1 (by assumption) fun t₁₄ s₁₄ S₁₄ => ?_
        k_spoken
        refine lawDrawP (r := [(D', lsO zs), (I', o')]) (by assumption) (List.perm_append_comm (l₁ := [(D', lsO zs), (I', o')]) (l₂ := [(D, o₁₃)])) (hA'.le (by omega)) H₁₃ (by omega) h60.1 h60.2.1 fun x₁₅ t₁₅ T₁₅ o₁₅ s₁₅ le₁₅ S₁₅ H₁₅ hx0 hx1 => ?_
        have HC₁₅ := HC₁₃.mono le₁₅
        refine imulL h60.2.2.2.2 (by assumption) fun t₁₆ s₁₆ S₁₆ => ?_
        k_spoken
        refine rdC Zs' ⟨os', St.keep (by assumption) _ _ hg, hos'⟩ ?_
        k_spoken
        refine rdC Zs' ⟨os', St.keep (by assumption) _ _ hg, hos'⟩ ?_
        k_spoken
        refine idiv h60.2.2.1 h60.2.2.2.1 (by assumption) fun t₁₇ s₁₇ S₁₇ => ?_
        k_spoken
        refine lawDrawP (r := [(D', lsO zs), (I', o')]) (by assumption) (.refl _) (hA'.le (by omega)) H₁₅ (by omega) h60.1 h60.2.1 fun y₁₈ t₁₈ T₁₈ o₁₈ s₁₈ le₁₈ S₁₈ H₁₈ hy0 hy1 => ?_
        refine imulL h60.2.2.2.2 (by assumption) fun t₁₉ s₁₉ S₁₉ => ?_
        k_spoken
        refine newTup (by assumption) fun D₂₀ T₂₀ s₂₀ le₂₀ H₂₀ S₂₀ => ?_
        have le13 : Fle T₁₃ T₂₀ := le₁₅.trans (le₁₈.trans le₂₀)
        refine ⟨T₂₀, _, [(D, o₁₈)], le13, ⟨o₁₈, q ++ [(st * x₁₅, st * y₁₈)], rfl, (H₁₈.mono le₂₀).le (by omega), paired_snoc (Paired.mono (fun _ _ x => IpT.mono x le13) Zq) ⟨D₂₀, _, _, rfl, H₂₀⟩, by rw [List.length_append, hql]; rfl, fun p hp => ?_, le₁₃.trans le13⟩, S₂₀.perm (List.perm_append_comm (l₁ := [(D, o₁₈)]) (l₂ := [(D', lsO zs), (I', o')]))⟩
        rcases List.mem_append.mp hp with hp | hp
        · exact hqb p hp
        · rw [List.mem_singleton.mp hp]
          exact ⟨step_in hst hx0 hx1, step_in hst hy0 hy1⟩
      · rintro T₁₃ zs Mx C D' oC m s₁₃ le₁₃ ⟨o₁₃, q, rfl, H₁₃, Zq, hql, hqb, _⟩ hD' no S₁₃
        refine finE no S₁₃ fun s₁₄ S₁₄ => ?_
        obtain ⟨T₁₅, le₁₅, H₁₅, S₁₅⟩ := freezeL S₁₄ .head hD'
        clear S₁₄ S₁₃
        k_spoken
        refine appM (M' := [(D, o₁₃), (I₇, oi), (Dp, lsO (ys ++ [.ref D'])), (L + 2, os')]) (by assumption) (.tail (.tail .head)) (by rw [Paired.length Zy, hqs]; omega) fun s₁₆ S₁₆ => ?_
        have le16 : Fle T₇ T₁₅ := le₈.trans (le₉.trans (le₁₀.trans (le₁₃.trans le₁₅)))
        k_spoken
        refine ⟨.inl rfl, T₁₅, _, _, le16, ⟨_, _, o₁₃, os', _, ys ++ [.ref D'], qs ++ [q], rfl, rfl, (H₁₃.mono le₁₅).le (by omega), hos', paired_snoc (Paired.mono (fun _ _ x => IPol.mono x le16) Zy) ⟨D', _, rfl, H₁₅, Paired.mono (fun _ _ x => IpT.mono x le₁₅) Zq⟩, by rw [List.length_append, hqs]; rfl, fun q' hq' => ?_, le₇.trans le16⟩, S₁₆.perm (.swap _ _ _)⟩
        rcases List.mem_append.mp hq' with hq' | hq'
        · exact hok q' hq'
        · rw [List.mem_singleton.mp hq']
          exact ⟨by omega, hqb⟩
    · rintro T₇ vs' M' s₇ le₇ ⟨z2, z3, o₇, oc, w, ys, qs, rfl, rfl, H₇, hoc, Zy, hqs, hok, _⟩ S₇
      have hqn : 1 ≤ qs.length ∧ qs.length ≤ 2 := by omega
      obtain ⟨T₈, le₈, HL, S₈⟩ := freezeL S₇ (.tail .head) hDp
      have HP : IPls T₈ (.ref Dp) qs := ⟨Dp, ys, rfl, HL, Paired.mono (fun _ _ x => IPol.mono x le₈) Zy⟩
      have H₈ := (H₇.mono le₈).le (show 1 + 12 * (1 + r₅).toNat ≤ 25 by omega)
      have HC₈ := HC.mono (le₅.trans (le₇.trans le₈))
      clear S₇ HL Zy H₇
      k_spoken
      refine lawDrawP (r := [(L + 2, oc)]) (by assumption) (.refl _) (hA'.le (by omega)) H₈ (by omega) (by omega) (by omega) fun r₉ t₉ T₉ o₉ s₉ le₉ S₉ H₉ h90 h91 => ?_
      replace HP := HP.mono le₉
      replace HC₈ := HC₈.mono le₉
      k_spoken
      refine lawPath (by assumption) (hA'.le (by omega)) HP (by omega) (fun q hq => ⟨(hok q hq).1.1, by have := (hok q hq).1.2; omega⟩) fun D₁₀ T₁₀ s₁₀ le₁₀ S₁₀ HPt => ?_
      replace HP := HP.mono le₁₀
      replace HC₈ := HC₈.mono le₁₀
      replace H₉ := H₉.mono le₁₀
      k_spoken
      refine linesOf (by assumption) (hA'.le (by omega)) HPt (by rw [List.length_map]; omega) (fun q hq => ?_) fun D₁₁ T₁₁ s₁₁ le₁₁ S₁₁ HTh => ?_
      · obtain ⟨q', hq', rfl⟩ := List.mem_map.mp hq
        exact ⟨(hok q' hq').1.1, by have := (hok q' hq').1.2; show q'.length ≤ 1000; omega⟩
      rw [show (qs.map fun q => (q, r₉ == 1)).map (·.1) = qs by rw [List.map_map]; exact List.map_id _] at HTh
      replace HP := HP.mono le₁₁
      replace HC₈ := HC₈.mono le₁₁
      replace H₉ := H₉.mono le₁₁
      replace HPt := HPt.mono le₁₁
      k_spoken
      refine newL0 (by assumption) fun Df s₁₂ hDf S₁₂ => ?_
      k_spoken
      refine forS ?_
      k_spoken
      obtain ⟨_, ysl, e, HLl, ZL⟩ := id HP
      cases e
      have hll : ysl.length = qs.length := Paired.length ZL
      refine loopL hA'.hd HLl (by assumption) (fun i T' vs' M' => ∃ (z7 z8 : Option Value) (fs : List Value), vs' = [some (.ref a), some (.ref Dp), z2, z3, some (D₁₀), some (D₁₁), some (.ref Df), z7, z8, none, none, none, none, none, none, none, none, none, none] ∧ M' = [(Df, lsO fs), (D, o₉), (L + 2, oc)] ∧ PySem.Paired (IPol T') fs ((qs.take i).flatMap fanQ) ∧ fs.length ≤ 3 * i ∧ Fle T₁₁ T') ⟨none, none, [], rfl, rfl, .nil, by simp, Fle.refl _⟩ ?_ ?_ (.inl ⟨_, _, rfl⟩)
      · rintro i v T₁₃ vs' M' I₁₃ oi s₁₃ hv hi le₁₃ ⟨z7, z8, fs, rfl, rfl, Zf, hfl, _⟩ S₁₃
        obtain ⟨q, hqi, pa, pl, rfl, Hp, Zq⟩ := prd ZL hv
        have hqo := hok q (List.mem_of_getElem? hqi)
        replace Hp := Hp.mono le₁₃
        replace Zq := Paired.mono (fun _ _ x => IpT.mono x le₁₃) Zq
        have hpl : pl.length = q.length := Paired.length Zq
        have h2 := hqo.1.1
        have h5 := hqo.1.2
        k_spoken
        refine forS ?_
        k_spoken
        refine lenL (by assumption) (Hp.at (St.toIn (by assumption))) (sz (by omega)) fun t s S => ?_
        k_spoken
        refine mkRg2 (by assumption) (by omega) (by omega) (by omega) (by omega) fun r ro s₁₄ hr S₁₄ => ?_
        rw [hpl, show ((q.length : Int) - 1 - 1).toNat = q.length - 2 by omega] at hr
        refine loopRg hA'.hd hr (by assumption) (fun j T' vs' M' => ∃ (z8 : Option Value) (gs : List Value), vs' = [some (.ref a), some (.ref Dp), z2, z3, some (D₁₀), some (D₁₁), some (.ref Df), some (.ref pa), z8, none, none, none, none, none, none, none, none, none, none] ∧ M' = [(I₁₃, oi), (Df, lsO gs), (D, o₉), (L + 2, oc)] ∧ PySem.Paired (IPol T') gs ((qs.take i).flatMap fanQ ++ (fanQ q).take j) ∧ gs.length ≤ 3 * i + j ∧ Fle T₁₃ T') ⟨z8, fs, rfl, rfl, by simpa using Zf, by omega, Fle.refl _⟩ ?_ ?_
        · rintro j t T₁₅ vs' M' I₁₅ oj s₁₅ hj le₁₅ ⟨z8, gs, rfl, rfl, Zg, hgl, _⟩ S₁₅
          replace Hp := Hp.mono le₁₅
          replace Zq := Paired.mono (fun _ _ x => IpT.mono x le₁₅) Zq
          obtain ⟨x₀, hx₀⟩ := some_at (l := pl) (i := 0) (by omega)
          obtain ⟨x₁, hx₁⟩ := some_at (l := pl) (i := 1 + j) (by omega)
          obtain ⟨x₂, hx₂⟩ := some_at (l := pl) (i := 1 + j + 1) (by omega)
          obtain ⟨p₀, hp₀, R₀⟩ := prd Zq hx₀
          obtain ⟨p₁, hp₁, R₁⟩ := prd Zq hx₁
          obtain ⟨p₂, hp₂, R₂⟩ := prd Zq hx₂
          rw [show (1 : Int) + (j : Int) = ((1 + j : Nat) : Int) by omega]
          k_spoken
          refine itL (Hp.at (St.toIn (by assumption))) 0 ⟨.inl rfl, by omega⟩ hx₀ (by omega) ?_
          k_spoken
          refine itAt (by assumption) Hp (1 + j) hx₁ (by omega) ?_
          k_spoken
          rw [show ((1 + j : Nat) : Int) + 1 = ((1 + j + 1 : Nat) : Int) by omega]
          refine itAt (by assumption) Hp (1 + j + 1) hx₂ (by omega) ?_
          k_spoken
          refine newLst (by assumption) fun Dt s₁₆ hDt S₁₆ => ?_
          obtain ⟨T₁₆, le₁₆, e₁₆, S₁₆'⟩ := S₁₆.freeze .head hDt
          clear S₁₆
          have H₁₆ : LstT T₁₆ Dt _ := ⟨_, e₁₆, rfl, _, rfl⟩
          have HT : IPol T₁₆ (.ref Dt) (tri q j) := ⟨Dt, _, rfl, H₁₆, by
            unfold tri
            rw [getD_of hp₀, getD_of hp₁, getD_of hp₂]
            exact .cons (R₀.mono le₁₆) (.cons (R₁.mono le₁₆) (.cons (R₂.mono le₁₆) .nil))⟩
          k_spoken
          refine appM (M' := [(I₁₅, oj), (I₁₃, oi), (Df, lsO (gs ++ [.ref Dt])), (D, o₉), (L + 2, oc)]) (by assumption) (.tail (.tail .head)) (by omega) fun s₁₇ S₁₇ => ?_
          k_spoken
          refine ⟨.inl rfl, T₁₆, _, _, le₁₆, ⟨_, gs ++ [.ref Dt], rfl, rfl, ?_, by rw [List.length_append]; simp only [List.length_cons, List.length_nil]; omega, le₁₅.trans le₁₆⟩, S₁₇⟩
          rw [fanQ_take hj, ← List.append_assoc]
          exact paired_snoc (Paired.mono (fun _ _ x => IPol.mono x le₁₆) Zg) HT
        · rintro T₁₅ vs' M' s₁₅ le₁₅ ⟨z8, gs, rfl, rfl, Zg, hgl, _⟩ S₁₅
          k_spoken
          refine ⟨.inl rfl, T₁₅, _, _, le₁₅, ⟨_, _, gs, rfl, rfl, ?_, by omega, le₁₃.trans le₁₅⟩, S₁₅⟩
          rw [fan_take hqi]
          have e : (fanQ q).take (q.length - 2) = fanQ q := List.take_of_length_le (by unfold fanQ; rw [List.length_map, List.length_range]; exact Nat.le_refl _)
          rw [e] at Zg
          exact Zg
      · rintro T₁₃ vs' M' s₁₃ le₁₃ ⟨z7, z8, fs, rfl, rfl, Zf, hfl, _⟩ S₁₃
        obtain ⟨T₁₄, le₁₄, HLf, S₁₄⟩ := freezeL S₁₃ .head hDf
        have le14 := le₁₃.trans le₁₄
        have HF : IPls T₁₄ (.ref Df) (fan qs) := ⟨Df, fs, rfl, HLf, Paired.mono (fun _ _ x => IPol.mono x le₁₄) (by
          rw [hll, List.take_length] at Zf; exact Zf)⟩
        have hfn : (fan qs).length ≤ 6 := by
          obtain ⟨_, fs', e, _, Z⟩ := HF
          rw [hll, List.take_length] at Zf
          have := Paired.length Zf
          unfold fan; omega
        clear S₁₃ HLf Zf
        replace HP := HP.mono le14
        replace HC₈ := HC₈.mono le14
        replace H₉ := H₉.mono le14
        replace HPt := HPt.mono le14
        replace HTh := HTh.mono le14
        k_spoken
        refine lawPath (by assumption) (hA'.le (by omega)) HF (by omega) (fun q hq => by rw [(fan_mem hok hq).1]; omega) fun D₁₅ T₁₅ s₁₅ le₁₅ S₁₅ HPf => ?_
        k_spoken
        refine linesOf (by assumption) (hA'.le (by omega)) HPf (by rw [List.length_map]; omega) (fun q hq => ?_) fun D₁₆ T₁₆ s₁₆ le₁₆ S₁₆ HPi => ?_
        · obtain ⟨q', hq', rfl⟩ := List.mem_map.mp hq
          have := (fan_mem hok hq').1
          show 2 ≤ q'.length ∧ q'.length ≤ 1000
          omega
        rw [show ((fan qs).map fun q => (q, true)).map (·.1) = fan qs by rw [List.map_map]; exact List.map_id _] at HPi
        have le16 := le₁₅.trans le₁₆
        replace HP := HP.mono le16
        replace HC₈ := HC₈.mono le16
        replace H₉ := H₉.mono le16
        replace HPt := HPt.mono le16
        replace HTh := HTh.mono le16
        clear HF HPf
        k_spoken
        obtain ⟨_, ysr, e, HLl', ZL'⟩ := id HP
        cases e
        refine cmpE0 [Str.ofString "corners"] [Str.ofString "list", Str.ofString "reversed"] ?_ F
        k_spoken
        have hlr : ysr.length = qs.length := Paired.length ZL'
        refine cpL (Mx := []) [Str.ofString "corners"] [Str.ofString "list", Str.ofString "reversed"] [] hA'.hd F HLl' (by assumption) (sz (by omega)) (fun j T' zs Mx => Mx = [] ∧ Fle T₁₆ T' ∧ PySem.Paired (IPol T') zs ((qs.take j).map List.reverse)) ⟨rfl, Fle.refl _, .nil⟩
          (fun j T' zs Mx q => ⟨by rw [q.1], by rw [Paired.length q.2.2, List.length_map, List.length_take]; omega⟩) ?_ ?_ (.inl ⟨_, _, rfl⟩)
        · rintro P₁ C D' I' j v T₁₇ zs Mx o' s₁₇ hG hj hv le₁₇ ⟨rfl, _, Zz⟩ F' S₁₇
          replace S₁₇ : St c P₁ T₁₇ C [Str.ofString "corners"] [none] [(D', lsO zs), (I', o')] s₁₇ := S₁₇
          obtain ⟨q, hqi, pa, pl, rfl, Hp, Zq⟩ := prd ZL' hv
          replace Hp := Hp.mono le₁₇
          replace Zq := Paired.mono (fun _ _ x => IpT.mono x le₁₇) Zq
          have hpl : pl.length = q.length := Paired.length Zq
          have h5 := (hok q (List.mem_of_getElem? hqi)).1.2
          k_spoken
          refine rvO (by assumption) Hp fun Ir s₁₈ S₁₈ => ?_
          k_spoken
          refine rvL hA'.hd (by assumption) Hp (sz (by omega)) fun T₁₉ Dr s₁₉ le₁₉ Hr S₁₉ => ?_
          refine ⟨T₁₉, _, [], le₁₉, ⟨rfl, le₁₇.trans le₁₉, ?_⟩, S₁₉⟩
          rw [take1 hqi, List.map_append]
          exact paired_snoc (Paired.mono (fun _ _ x => IPol.mono x le₁₉) Zz) ⟨Dr, _, rfl, Hr, Paired.mono (fun _ _ x => IpT.mono x le₁₉) (paired_rev Zq)⟩
        · rintro T₁₇ zs Mx C D' oC m s₁₇ le₁₇ ⟨rfl, _, Zz⟩ hD' no S₁₇
          refine finE no S₁₇ fun s₁₈ S₁₈ => ?_
          obtain ⟨T₁₈, le₁₈, H₁₈, S₁₈'⟩ := freezeL S₁₈ .head hD'
          replace S₁₈' : St c _ T₁₈ L _ _ [(D, o₉), (L + 2, oc)] s₁₈ := S₁₈'
          clear S₁₇ S₁₈
          have HR : IPls T₁₈ (.ref D') (qs.map List.reverse) := ⟨D', zs, rfl, H₁₈, Paired.mono (fun _ _ x => IPol.mono x le₁₈) (by rw [hlr, List.take_length] at Zz; exact Zz)⟩
          k_spoken
          refine lawPath (by assumption) (hA'.le (by omega)) HR (by rw [List.length_map]; omega) (fun q hq => ?_) fun D₁₉ T₁₉ s₁₉ le₁₉ S₁₉ HPr => ?_
          · obtain ⟨q', hq', rfl⟩ := List.mem_map.mp hq
            rw [List.length_reverse]
            exact ⟨(hok q' hq').1.1, by have := (hok q' hq').1.2; omega⟩
          k_spoken
          refine linesOf (by assumption) (hA'.le (by omega)) HPr (by rw [List.length_map, List.length_map]; omega) (fun q hq => ?_) fun D₂₀ T₂₀ s₂₀ le₂₀ S₂₀ HBk => ?_
          · obtain ⟨q', hq', rfl⟩ := List.mem_map.mp hq
            obtain ⟨q'', hq'', rfl⟩ := List.mem_map.mp hq'
            show 2 ≤ q''.reverse.length ∧ q''.reverse.length ≤ 1000
            rw [List.length_reverse]
            exact ⟨(hok q'' hq'').1.1, by have := (hok q'' hq'').1.2; omega⟩
          rw [show (((qs.map List.reverse).map fun q => (q, false)).map (·.1)) = qs.map List.reverse by rw [List.map_map]; exact List.map_id _] at HBk
          have le20 := le₁₇.trans (le₁₈.trans (le₁₉.trans le₂₀))
          replace HP := HP.mono le20
          replace HC₈ := HC₈.mono le20
          replace H₉ := H₉.mono le20
          replace HPt := HPt.mono le20
          replace HTh := HTh.mono le20
          replace HPi := HPi.mono le20
          clear HR HPr HLl' ZL'
          k_spoken
          have bdQ : ∀ q ∈ qs, q.length ≤ 100 ∧ ∀ p ∈ q, BdP p := fun q hq => ⟨by have := (hok q hq).1.2; omega, fun p hp => ((hok q hq).2 p hp).bd⟩
          have bdF : ∀ q ∈ fan qs, q.length ≤ 100 ∧ ∀ p ∈ q, BdP p := fun q hq => ⟨by rw [(fan_mem hok hq).1]; omega, fun p hp => ((fan_mem hok hq).2 p hp).bd⟩
          have bdR : ∀ q ∈ qs.map List.reverse, q.length ≤ 100 ∧ ∀ p ∈ q, BdP p := fun q hq => by
            obtain ⟨q', hq', rfl⟩ := List.mem_map.mp hq
            exact ⟨by rw [List.length_reverse]; exact (bdQ q' hq').1, fun p hp => (bdQ q' hq').2 p (List.mem_reverse.mp hp)⟩
          refine doubledArea (by assumption) (hA'.le (by omega)) HTh (by omega) bdQ fun D₂₁ T₂₁ s₂₁ le₂₁ S₂₁ HA => ?_
          replace HP := HP.mono le₂₁
          replace HBk := HBk.mono le₂₁
          replace HPi := HPi.mono le₂₁
          replace HTh := HTh.mono le₂₁
          k_spoken
          refine lawArea (by assumption) (hA'.le (by omega)) HP (by omega) bdQ fun t₂₂ T₂₂ s₂₂ le₂₂ S₂₂ => ?_
          replace HP := HP.mono le₂₂
          replace HBk := HBk.mono le₂₂
          replace HPi := HPi.mono le₂₂
          replace HTh := HTh.mono le₂₂
          replace HA := HA.mono le₂₂
          obtain ⟨_, _, HAd, _⟩ := id HA
          k_spoken
          refine decNew (p := 2) (by assumption) (hA'.le (by omega)) fun D₂₃ T₂₃ s₂₃ le₂₃ S₂₃ H₂₃ => ?_
          replace HA := HA.mono le₂₃
          k_spoken
          refine comparedD (k := 2) (by assumption) (hA'.le (by omega)) HA (.inl H₂₃) (by omega) fun T₂₄ s₂₄ i t le₂₄ S₂₄ e₂₄ => ?_
          replace HA := HA.mono le₂₄
          replace HPi := HPi.mono (le₂₃.trans le₂₄)
          k_spoken
          refine brQ (ne0_of e₂₄ rfl) ?_
          k_spoken
          refine doubledArea (by assumption) (hA'.le (by omega)) HPi (by omega) bdF fun D₂₅ T₂₅ s₂₅ le₂₅ S₂₅ H₂₅ => ?_
          obtain ⟨_, _, H₂₅d, _⟩ := id H₂₅
          k_spoken
          refine comparedD (k := 2) (by assumption) (hA'.le (by omega)) H₂₅ (.inl (HA.mono le₂₅)) (by omega) fun T₂₆ s₂₆ i₂₆ t₂₆ le₂₆ S₂₆ e₂₆ => ?_
          replace HBk := HBk.mono (le₂₃.trans (le₂₄.trans (le₂₅.trans le₂₆)))
          k_spoken
          refine brQ (ne0_of e₂₆ (area_fan hok)) ?_
          k_spoken
          refine doubledArea (by assumption) (hA'.le (by omega)) HBk (by rw [List.length_map]; omega) bdR fun D₂₇ T₂₇ s₂₇ le₂₇ S₂₇ H₂₇ => ?_
          obtain ⟨_, _, H₂₇d, _⟩ := id H₂₇
          k_spoken
          refine decNew (p := 2) (by assumption) (hA'.le (by omega)) fun D₂₈ T₂₈ s₂₈ le₂₈ S₂₈ H₂₈ => ?_
          k_spoken
          refine comparedD (k := 2) (by assumption) (hA'.le (by omega)) (H₂₇.mono le₂₈) (.inl H₂₈) (by omega) fun T₂₉ s₂₉ i₂₉ t₂₉ le₂₉ S₂₉ e₂₉ => ?_
          k_spoken
          refine brQ (ne0_of e₂₉ (area_rev hok)) ?_
          have le29 : Fle T₂₂ T₂₉ := le₂₃.trans (le₂₄.trans (le₂₅.trans (le₂₆.trans (le₂₇.trans (le₂₈.trans le₂₉)))))
          k_spoken
          replace HC₈ := HC₈.mono (le₂₁.trans (le₂₂.trans le29))
          replace H₉ := H₉.mono (le₂₁.trans (le₂₂.trans le29))
          replace HPt := HPt.mono (le₂₁.trans (le₂₂.trans le29))
          replace HTh := HTh.mono le29
          replace HPi := HPi.mono (le₂₅.trans (le₂₆.trans (le₂₇.trans (le₂₈.trans le₂₉))))
          replace HBk := HBk.mono (le₂₇.trans (le₂₈.trans le₂₉))
          replace HP := HP.mono le29
          obtain ⟨_, lf, pls, e, HLf, Zf2, Zp2, hlf⟩ := ipls_flat HP
          cases e
          have hfl2 := flat_len hok
          have hpf : pls.flatten.length = qs.flatten.length := Paired.length Zp2
          refine cmpA2 (vs' := fun Dm => [some (.ref a), some (.ref Dp), z2, z3, some (D₁₀), some (D₁₁), some (.ref Df), z7, z8, some (D₁₆), some (D₂₀), some (D₂₁), some (.int (area qs) t₂₂), some (.ref Dm), none, none, none, none, none]) hA'.hd F (by assumption) (by gn_look) HLf Zf2 (by omega) (by omega) (fun D => by gp_look) fun T₃₀ Dm s₃₀ le₃₀ HM S₃₀ => ?_
          replace HC₈ := HC₈.mono le₃₀
          replace H₉ := H₉.mono le₃₀
          replace HPt := HPt.mono le₃₀
          replace HTh := HTh.mono le₃₀
          replace HPi := HPi.mono le₃₀
          replace HBk := HBk.mono le₃₀
          replace HP := HP.mono le₃₀
          replace Zp2 := Paired.mono (fun _ _ x => IpT.mono x le₃₀) Zp2
          clear HLf Zf2
          refine forS ?_
          k_spoken
          refine mkRg1 (by assumption) (by omega) (by omega) fun r₃₁ ro₃₁ s₃₁ hr₃₁ S₃₁ => ?_
          refine loopRg hA'.hd hr₃₁ S₃₁ (fun i T' vs' M' => ∃ (z2 z14 z15 z16 z17 z18 : Option Value) (o : Obj), vs' = [some (.ref a), some (.ref Dp), z2, z3, some (D₁₀), some (D₁₁), some (.ref Df), z7, z8, some (D₁₆), some (D₂₀), some (D₂₁), some (.int (area qs) t₂₂), some (.ref Dm), z14, z15, z16, z17, z18] ∧ M' = [(D, o), (L + 2, oc)] ∧ PoolT T' o (26 + 6 * i) ∧ Fle T₃₀ T') ⟨z2, none, none, none, none, none, o₉, rfl, rfl, H₉, Fle.refl _⟩ ?_ ?_
          · rintro i t₃₂ T₃₂ vs' M' I₃₂ oi s₃₂ hi le₃₂ ⟨z2, z14, z15, z16, z17, z18, o₃₂, rfl, rfl, H₃₂, _⟩ S₃₂
            have hi4 : i < 4 := hi
            replace HP := HP.mono le₃₂
            replace HPt := HPt.mono le₃₂
            replace HTh := HTh.mono le₃₂
            replace HPi := HPi.mono le₃₂
            replace HBk := HBk.mono le₃₂
            replace HM := HM.mono le₃₂
            replace Zp2 := Paired.mono (fun _ _ x => IpT.mono x le₃₂) Zp2
            have HC₃₂ := HC₈.mono le₃₂
            refine asN ?_
            refine wr F (by assumption) (by gp_look) ?_
            intro s₃₃ S₃₃
            refine asgN ?_
            refine W.mono (Q := fun v s' => ∃ (xv : Int) (t : Tok) (T' : Fz) (o' : Obj), v = .int xv t ∧ (0 ≤ xv ∧ xv ≤ 60) ∧ Fle T₃₂ T' ∧ St c ⟨s.heap.objs.size, T, s.heap.get?⟩ T' L [Str.ofString "script", Str.ofString "polygons", Str.ofString "turn", Str.ofString "size", Str.ofString "path", Str.ofString "there", Str.ofString "fan", Str.ofString "corners", Str.ofString "at", Str.ofString "pieces", Str.ofString "back", Str.ofString "area", Str.ofString "own", Str.ofString "marks", Str.ofString "x", Str.ofString "y", Str.ofString "across", Str.ofString "upward", Str.ofString "due"] [some (.ref a), some (.ref Dp), some (.int (0 + (i : Int)) t₃₂), z3, some (D₁₀), some (D₁₁), some (.ref Df), z7, z8, some (D₁₆), some (D₂₀), some (D₂₁), some (.int (area qs) t₂₂), some (.ref Dm), z14, z15, z16, z17, z18] [(D, o'), (I₃₂, oi), (L + 2, oc)] s' ∧ PoolT T' o' (26 + 6 * i + 2)) (E := NoE) ?_ ?_ (fun _ _ x => x)
            · k_spoken
              refine lawDrawP (r := [(I₃₂, oi), (L + 2, oc)]) (by assumption) (.swap _ _ _) (hA'.le (by omega)) H₃₂ (by omega) (by omega) (by omega) fun r₁ t₁ T₁ o₁ s₁ le₁ S₁ H₁ h10 h11 => ?_
              replace HM := HM.mono le₁
              replace Zp2 := Paired.mono (fun _ _ x => IpT.mono x le₁) Zp2
              have HC₁ := HC₃₂.mono le₁
              k_spoken
              refine ⟨fun e => ?_, fun e => ?_⟩
              · k_spoken
                refine lenL (by assumption) (HM.at (St.toIn (by assumption))) (sz (by omega)) fun t s₃₄ S₃₄ => ?_
                k_spoken
                refine lawDrawP (r := [(I₃₂, oi), (L + 2, oc)]) (by assumption) (.refl _) (hA'.le (by omega)) H₁ (by omega) (by omega) (by omega) fun r₂ t₂ T₂ o₂ s₂ le₂ S₂ H₂ h20 h21 => ?_
                obtain ⟨n₂, rfl⟩ := Int.eq_ofNat_of_zero_le h20
                obtain ⟨x₂, hx₂⟩ := some_at (l := pls.flatten) (i := n₂) (by omega)
                obtain ⟨p, hp, pa, tpx, tpy, rfl, Hpt⟩ := prd Zp2 hx₂
                have hin := flat_in hok (List.mem_of_getElem? hp)
                replace Hpt := Hpt.mono le₂
                refine itAt (by assumption) (HM.mono le₂) n₂ hx₂ (by omega) ?_
                k_spoken
                exact ⟨_, _, T₂, o₂, rfl, hin.1, (le₁.trans le₂), by assumption, H₂⟩
              · k_spoken
                refine lawDrawP (r := [(I₃₂, oi), (L + 2, oc)]) (by assumption) (.refl _) (hA'.le (by omega)) H₁ (by omega) (by omega) (by omega) fun r₂ t₂ T₂ o₂ s₂ le₂ S₂ H₂ h20 h21 => ?_
                exact ⟨_, _, T₂, o₂, rfl, ⟨h20, by omega⟩, le₁.trans le₂, S₂, H₂⟩

            · rintro _ s₃₅ ⟨xv, tx, Tx, ox, rfl, hxv, lex, Sx, Hxp⟩
              replace HP := HP.mono lex
              replace HPt := HPt.mono lex
              replace HTh := HTh.mono lex
              replace HPi := HPi.mono lex
              replace HBk := HBk.mono lex
              replace HM := HM.mono lex
              replace Zp2 := Paired.mono (fun _ _ x => IpT.mono x lex) Zp2
              have HCx := HC₃₂.mono lex
              refine wr F Sx (by gp_look) ?_
              intro s₃₆ S₃₆
              refine asgN ?_
              refine W.mono (Q := fun v s' => ∃ (yv : Int) (t : Tok) (T' : Fz) (o' : Obj), v = .int yv t ∧ (0 ≤ yv ∧ yv ≤ 60) ∧ Fle Tx T' ∧ St c ⟨s.heap.objs.size, T, s.heap.get?⟩ T' L [Str.ofString "script", Str.ofString "polygons", Str.ofString "turn", Str.ofString "size", Str.ofString "path", Str.ofString "there", Str.ofString "fan", Str.ofString "corners", Str.ofString "at", Str.ofString "pieces", Str.ofString "back", Str.ofString "area", Str.ofString "own", Str.ofString "marks", Str.ofString "x", Str.ofString "y", Str.ofString "across", Str.ofString "upward", Str.ofString "due"] [some (.ref a), some (.ref Dp), some (.int (0 + (i : Int)) t₃₂), z3, some (D₁₀), some (D₁₁), some (.ref Df), z7, z8, some (D₁₆), some (D₂₀), some (D₂₁), some (.int (area qs) t₂₂), some (.ref Dm), some (.int xv tx), z15, z16, z17, z18] [(D, o'), (I₃₂, oi), (L + 2, oc)] s' ∧ PoolT T' o' (26 + 6 * i + 2 + 2)) (E := NoE) ?_ ?_ (fun _ _ x => x)
              · k_spoken
                refine lawDrawP (r := [(I₃₂, oi), (L + 2, oc)]) (by assumption) (.refl _) (hA'.le (by omega)) Hxp (by omega) (by omega) (by omega) fun r₁ t₁ T₁ o₁ s₁ le₁ S₁ H₁ h10 h11 => ?_
                replace HM := HM.mono le₁
                replace Zp2 := Paired.mono (fun _ _ x => IpT.mono x le₁) Zp2
                have HC₁ := HCx.mono le₁
                k_spoken
                refine ⟨fun e => ?_, fun e => ?_⟩
                · k_spoken
                  refine lenL (by assumption) (HM.at (St.toIn (by assumption))) (sz (by omega)) fun t s₃₄ S₃₄ => ?_
                  k_spoken
                  refine lawDrawP (r := [(I₃₂, oi), (L + 2, oc)]) (by assumption) (.refl _) (hA'.le (by omega)) H₁ (by omega) (by omega) (by omega) fun r₂ t₂ T₂ o₂ s₂ le₂ S₂ H₂ h20 h21 => ?_
                  obtain ⟨n₂, rfl⟩ := Int.eq_ofNat_of_zero_le h20
                  obtain ⟨x₂, hx₂⟩ := some_at (l := pls.flatten) (i := n₂) (by omega)
                  obtain ⟨p, hp, pa, tpx, tpy, rfl, Hpt⟩ := prd Zp2 hx₂
                  have hin := flat_in hok (List.mem_of_getElem? hp)
                  replace Hpt := Hpt.mono le₂
                  refine itAt (by assumption) (HM.mono le₂) n₂ hx₂ (by omega) ?_
                  k_spoken
                  exact ⟨_, _, T₂, o₂, rfl, hin.2, (le₁.trans le₂), by assumption, H₂⟩
                · k_spoken
                  refine lawDrawP (r := [(I₃₂, oi), (L + 2, oc)]) (by assumption) (.refl _) (hA'.le (by omega)) H₁ (by omega) (by omega) (by omega) fun r₂ t₂ T₂ o₂ s₂ le₂ S₂ H₂ h20 h21 => ?_
                  exact ⟨_, _, T₂, o₂, rfl, ⟨h20, by omega⟩, le₁.trans le₂, S₂, H₂⟩
              · rintro _ s₃₇ ⟨yv, ty, Ty, oy, rfl, hyv, ley, Sy, Hyp⟩
                replace HP := HP.mono ley
                replace HPt := HPt.mono ley
                replace HTh := HTh.mono ley
                replace HPi := HPi.mono ley
                replace HBk := HBk.mono ley
                replace HM := HM.mono ley
                replace Zp2 := Paired.mono (fun _ _ x => IpT.mono x ley) Zp2
                have HCy := HCx.mono ley
                refine wr F Sy (by gp_look) ?_
                intro s₃₈ S₃₈
                refine asgN ?_
                refine W.mono (Q := fun v s' => ∃ T', Nv T' v xv 1 ∧ Fle Ty T' ∧ St c ⟨s.heap.objs.size, T, s.heap.get?⟩ T' L [Str.ofString "script", Str.ofString "polygons", Str.ofString "turn", Str.ofString "size", Str.ofString "path", Str.ofString "there", Str.ofString "fan", Str.ofString "corners", Str.ofString "at", Str.ofString "pieces", Str.ofString "back", Str.ofString "area", Str.ofString "own", Str.ofString "marks", Str.ofString "x", Str.ofString "y", Str.ofString "across", Str.ofString "upward", Str.ofString "due"] [some (.ref a), some (.ref Dp), some (.int (0 + (i : Int)) t₃₂), z3, some (D₁₀), some (D₁₁), some (.ref Df), z7, z8, some (D₁₆), some (D₂₀), some (D₂₁), some (.int (area qs) t₂₂), some (.ref Dm), some (.int xv tx), some (.int yv ty), z16, z17, z18] [(D, oy), (I₃₂, oi), (L + 2, oc)] s') (E := NoE) ?_ ?_ (fun _ _ x => x)
                · k_spoken
                  refine imod (by decide) (by assumption) fun t s₃₄ S₃₄ => ?_
                  k_spoken
                  refine ⟨fun e => ?_, fun e => ?_⟩
                  · k_spoken
                    refine idiv (by decide) (by decide) (by assumption) fun t s₃₉ S₃₉ => ?_
                    refine ⟨_, .inr ⟨_, _, rfl, ?_⟩, Fle.refl _, S₃₉⟩
                    have e' : xv % 10 = 0 := eq_of_beq e
                    show xv = xv / 10 * 10 ^ 1
                    omega
                  · k_spoken
                    refine decNew (p := 1) (by assumption) (hA'.le (by omega)) fun D₃₉ T₃₉ s₃₉ le₃₉ S₃₉ H₃₉ => ?_
                    exact ⟨_, .inl H₃₉, le₃₉, S₃₉⟩
                · rintro vac s₃₉ ⟨Tv, Hac, lev, Sv⟩
                  replace HP := HP.mono lev
                  replace HPt := HPt.mono lev
                  replace HTh := HTh.mono lev
                  replace HPi := HPi.mono lev
                  replace HBk := HBk.mono lev
                  replace HM := HM.mono lev
                  replace Zp2 := Paired.mono (fun _ _ x => IpT.mono x lev) Zp2
                  replace Hyp := Hyp.mono lev
                  k_spoken
                  refine decNew (p := 1) (by assumption) (hA'.le (by omega)) fun D₄₀ T₄₀ s₄₀ le₄₀ S₄₀ H₄₀ => ?_
                  replace HP := HP.mono le₄₀
                  replace HPt := HPt.mono le₄₀
                  replace HTh := HTh.mono le₄₀
                  replace HPi := HPi.mono le₄₀
                  replace HBk := HBk.mono le₄₀
                  replace HM := HM.mono le₄₀
                  replace Zp2 := Paired.mono (fun _ _ x => IpT.mono x le₄₀) Zp2
                  replace Hyp := Hyp.mono le₄₀
                  replace Hac := Hac.mono le₄₀
                  k_spoken
                  have bx : Bd xv := ⟨by omega, by omega⟩
                  have by_ : Bd yv := ⟨by omega, by omega⟩
                  refine lawRound (by assumption) (hA'.le (by omega)) HP (by omega) bdQ bx by_ fun t₄₁ T₄₁ s₄₁ le₄₁ S₄₁ => ?_
                  replace HPt := HPt.mono le₄₁
                  replace HTh := HTh.mono le₄₁
                  replace HPi := HPi.mono le₄₁
                  replace HBk := HBk.mono le₄₁
                  replace Hac := Hac.mono le₄₁
                  replace H₄₀ := H₄₀.mono le₄₁
                  replace Hyp := Hyp.mono le₄₁
                  k_spoken
                  refine winding_ (by assumption) (hA'.le (by omega)) HTh Hac (.inl H₄₀) (by omega) bdQ bx by_ fun t₄₂ T₄₂ s₄₂ le₄₂ S₄₂ => ?_
                  replace HPt := HPt.mono le₄₂
                  replace HPi := HPi.mono le₄₂
                  replace HBk := HBk.mono le₄₂
                  replace Hac := Hac.mono le₄₂
                  replace H₄₀ := H₄₀.mono le₄₂
                  replace Hyp := Hyp.mono le₄₂
                  k_spoken
                  refine brQ (by rw [wn_rnd hok]; exact neSelf _) ?_
                  k_spoken
                  refine winding_ (by assumption) (hA'.le (by omega)) HPi Hac (.inl H₄₀) (by omega) bdF bx by_ fun t₄₃ T₄₃ s₄₃ le₄₃ S₄₃ => ?_
                  replace HPt := HPt.mono le₄₃
                  replace HBk := HBk.mono le₄₃
                  replace Hac := Hac.mono le₄₃
                  replace H₄₀ := H₄₀.mono le₄₃
                  replace Hyp := Hyp.mono le₄₃
                  k_spoken
                  refine brQ (by rw [wn_fan hok, wn_rnd hok]; exact neSelf _) ?_
                  k_spoken
                  refine winding_ (by assumption) (hA'.le (by omega)) HBk Hac (.inl H₄₀) (by rw [List.length_map]; omega) bdR bx by_ fun t₄₄ T₄₄ s₄₄ le₄₄ S₄₄ => ?_
                  replace HPt := HPt.mono le₄₄
                  replace Hac := Hac.mono le₄₄
                  replace H₄₀ := H₄₀.mono le₄₄
                  replace Hyp := Hyp.mono le₄₄
                  k_spoken
                  refine brQ (by rw [wn_rev hok, wn_rnd hok]; exact neSelf _) ?_
                  have hps : (qs.map fun q => (q, r₉ == 1)).map (·.1) = qs := by rw [List.map_map]; exact List.map_id _
                  have bdP : ∀ q ∈ (qs.map fun q => (q, r₉ == 1)), 2 ≤ q.1.length ∧ q.1.length ≤ 100 ∧ ∀ p ∈ q.1, BdP p := fun q hq => by
                    obtain ⟨q', hq', rfl⟩ := List.mem_map.mp hq
                    exact ⟨(hok q' hq').1.1, bdQ q' hq'⟩
                  k_spoken
                  refine isInsideN (by assumption) (hA'.le (by omega)) HPt Hac (.inl H₄₀) (by rw [List.length_map]; omega) bdP bx by_ fun T₄₅ s₄₅ le₄₅ S₄₅ => ?_
                  replace HPt := HPt.mono le₄₅
                  replace Hac := Hac.mono le₄₅
                  replace H₄₀ := H₄₀.mono le₄₅
                  replace Hyp := Hyp.mono le₄₅
                  rw [hps, wn_rnd hok]
                  k_spoken
                  refine brQ (neSelfB _) ?_
                  k_spoken
                  refine isInsideE (by assumption) (hA'.le (by omega)) HPt Hac (.inl H₄₀) (by rw [List.length_map]; omega) bdP bx by_ fun T₄₆ s₄₆ le₄₆ S₄₆ => ?_
                  rw [hps, wn_rnd hok]
                  replace Hyp := Hyp.mono le₄₆
                  k_spoken
                  refine imod (by decide) (by assumption) fun t₄₇ s₄₇ S₄₇ => ?_
                  k_spoken
                  refine brQ (neSelfB _) ?_
                  k_spoken
                  have le46 := lex.trans (ley.trans (lev.trans (le₄₀.trans (le₄₁.trans (le₄₂.trans (le₄₃.trans (le₄₄.trans (le₄₅.trans le₄₆))))))))
                  exact ⟨.inl rfl, T₄₆, _, _, le46, ⟨_, _, _, _, _, _, oy, rfl, rfl, Hyp.le (by omega), le₃₂.trans le46⟩, St.perm (by assumption) (.swap _ _ _)⟩
          · rintro T₃₂ vs' M' s₃₂ le₃₂ ⟨z2, z14, z15, z16, z17, z18, o₃₂, rfl, rfl, H₃₂, _⟩ S₃₂
            have bdP : ∀ q ∈ (qs.map fun q => (q, r₉ == 1)), 2 ≤ q.1.length ∧ q.1.length ≤ 100 ∧ ∀ p ∈ q.1, BdP p := fun q hq => by
              obtain ⟨q', hq', rfl⟩ := List.mem_map.mp hq
              exact ⟨(hok q' hq').1.1, bdQ q' hq'⟩
            k_spoken
            exact lawRefused (by assumption) (hA'.le (by omega)) hf' (frames_in (by assumption) F hfr (St.keep (by assumption)) (s₀ := s) rfl trivial) (HPt.mono le₃₂) (by rw [List.length_map]; omega) bdP fun s' g o k => h s' g o k
end
end Mine
namespace Mine
theorem post_ (x : WData) : Challenge.rw_nn0214_01.row.claim.post [x] (WData.bool true) [x] = true := by
  show (WShape.has [] (WData.bool true) .bool && WTm.holds [] (.eq .res (.lit (.bool true))) { args := [x], res := some (WData.bool true), after := [x] }) = true
  rw [Bool.and_eq_true]
  refine ⟨?_, ?_⟩
  · first | rfl | simp [WShape.has]
  · unfold WTm.holds
    simp only [WTm.value]
    rw [show same (WData.bool true) (WData.bool true) = true from by first | rfl | decide | simp [same] | kernel_rfl]
end Mine
namespace Mine.hq
theorem tw6541024456432169625 : True := trivial
theorem tw13502862691939865659 : True := trivial
theorem tw2299896996982911144 : True := trivial
theorem tw6873656023185954294 : True := trivial
theorem tw10020278884232618394 : True := trivial
theorem tw18276807595065023739 : True := trivial
theorem tw2560118222948406019 : True := trivial
theorem tw11632540795760759956 : True := trivial
theorem tw14516230474931193788 : True := trivial
theorem tw12023806096200035701 : True := trivial
theorem tw14262720915886236979 : True := trivial
theorem tw628652912716031727 : True := trivial
theorem tw14353095049506806319 : True := trivial
theorem tw15248956921075036628 : True := trivial
theorem tw1148625622953004833 : True := trivial
theorem tw9168773537736573765 : True := trivial
theorem tw10001376382149582108 : True := trivial
theorem tw10092852166775279130 : True := trivial
theorem tw10223406500745991142 : True := trivial
theorem tw10557348633716791549 : True := trivial
theorem tw10566820757590953910 : True := trivial
theorem tw11824069836422780227 : True := trivial
theorem tw11855007290812442598 : True := trivial
theorem tw11904904241039891960 : True := trivial
theorem tw11961918275323247916 : True := trivial
theorem tw12634840236772402975 : True := trivial
theorem tw12964062633142722049 : True := trivial
theorem tw13201679970922164330 : True := trivial
theorem tw13976740691301511997 : True := trivial
theorem tw15026591351026287578 : True := trivial
theorem tw15114332125836811107 : True := trivial
theorem tw16193364487119611749 : True := trivial
theorem tw16637177162505234527 : True := trivial
theorem tw1710684574680506057 : True := trivial
theorem tw17415775317282982117 : True := trivial
theorem tw17688975350060823859 : True := trivial
theorem tw1775702854415158705 : True := trivial
theorem tw17816717856086174358 : True := trivial
theorem tw17982033904585381360 : True := trivial
theorem tw195319319105484837 : True := trivial
theorem tw2175518295204102879 : True := trivial
theorem tw2214581351128497116 : True := trivial
theorem tw2446711658860428672 : True := trivial
theorem tw2460405866545305436 : True := trivial
theorem tw2609510587700438405 : True := trivial
theorem tw3085968280470273992 : True := trivial
theorem tw319490229744429039 : True := trivial
theorem tw3413191660162019370 : True := trivial
theorem tw4288558672954378248 : True := trivial
theorem tw4797868753551183999 : True := trivial
theorem tw5080482457446688561 : True := trivial
theorem tw5614906518051276546 : True := trivial
theorem tw5691554338385257998 : True := trivial
theorem tw6156483766952535384 : True := trivial
theorem tw6544732300459080682 : True := trivial
theorem tw6703137428290144329 : True := trivial
theorem tw6815287188669290861 : True := trivial
theorem tw7253851005133477568 : True := trivial
theorem tw7943481926809457172 : True := trivial
theorem tw8073309143868657023 : True := trivial
theorem tw8172153524177814700 : True := trivial
theorem tw91518651332594201035429477869994368367 : True := trivial
theorem tw430407546983676048 : True := trivial
theorem tw11402776170388669038 : True := trivial
theorem tw17939040331521840985 : True := trivial
theorem tw15487811534215124188 : True := trivial
theorem tw1140332349131322219 : True := trivial
theorem tw8954724947790862241 : True := trivial
theorem tw9814521365788848951 : True := trivial
theorem tw1356178445314535933 : True := trivial
theorem tw12911645755892562355 : True := trivial
theorem tw14810766176975304553 : True := trivial
theorem tw8062890331336429170 : True := trivial
theorem tw16046787055161014137 : True := trivial
theorem tw2367623169485729044 : True := trivial
theorem tw3154463578298619625 : True := trivial
theorem tw15170669351824557439 : True := trivial
theorem tw11895432268523212573 : True := trivial
theorem tw16809807526908380884 : True := trivial
theorem tw674073021615805732 : True := trivial
theorem tw3048173636268286377 : True := trivial
theorem tw4991336011138955280 : True := trivial
theorem tw8878085667783850231 : True := trivial
theorem tw15734650141668845536 : True := trivial
theorem tw4171725333644275513 : True := trivial
theorem tw6655851296632736839 : True := trivial
theorem tw12892139197361222039 : True := trivial
theorem tw16041765032119523446 : True := trivial
theorem tw12485548662368916749 : True := trivial
theorem tw8138599290071183656 : True := trivial
theorem tw5578676019213602690 : True := trivial
theorem tw4950995695539448390 : True := trivial
theorem tw12224511430472119265 : True := trivial
theorem tw8783513367562574285 : True := trivial
theorem tw10914737284747560342 : True := trivial
theorem tw13127699335793737955 : True := trivial
theorem tw10312157954276465073 : True := trivial
theorem tw13029019406344279537 : True := trivial
theorem tw15952631729719037887 : True := trivial
theorem tw17191537605157243135 : True := trivial
theorem tw8474040522217814807 : True := trivial
theorem tw233199577985559970 : True := trivial
theorem tw10515724994809746482 : True := trivial
theorem tw15499493932771899486 : True := trivial
theorem tw12235868485125894331 : True := trivial
theorem tw16911447347678364338 : True := trivial
theorem tw16807017868417353128 : True := trivial
theorem tw6738601660276500248 : True := trivial
theorem tw11747441341411472974 : True := trivial
theorem tw16086767934403656065 : True := trivial
theorem tw8039898743254704824 : True := trivial
theorem tw16367165154766714319 : True := trivial
theorem tw8308388744524497552 : True := trivial
theorem tw13976329359730278593 : True := trivial
theorem tw11149061711742648548 : True := trivial
theorem tw8612858684465989739 : True := trivial
theorem tw16549860719943262585 : True := trivial
theorem tw14121371055001849588 : True := trivial
theorem tw6442286201827202927 : True := trivial
theorem tw12545650446048111660 : True := trivial
theorem tw10010650081863701617 : True := trivial
theorem tw18190943572339469658 : True := trivial
theorem tw9901537562536030562 : True := trivial
theorem tw8635002137240528865 : True := trivial
theorem tw12219819207030029821 : True := trivial
theorem tw926538531027841127 : True := trivial
theorem tw860166213271251909 : True := trivial
theorem tw8670592598250618684 : True := trivial
theorem tw1441488458906403996 : True := trivial
theorem tw3647894231261621685 : True := trivial
theorem tw12496698030514209297 : True := trivial
theorem tw18064312367536619883 : True := trivial
theorem tw15298563710665395474 : True := trivial
theorem tw13450832908405550097 : True := trivial
theorem tw4611843103851283707 : True := trivial
theorem tw5186555515663700001 : True := trivial
theorem tw925611148017520223 : True := trivial
theorem tw4194152291734139813 : True := trivial
theorem tw13510361038845904283 : True := trivial
theorem tw6693717068639252140 : True := trivial
theorem tw7813778406405503521 : True := trivial
theorem tw13959481576897727349 : True := trivial
theorem tw4820132523186581270 : True := trivial
theorem tw801188883035828325 : True := trivial
theorem tw1700315315751232304 : True := trivial
theorem tw13398516417001538080 : True := trivial
theorem tw11660552598173695988 : True := trivial
theorem tw14772127340083367040 : True := trivial
theorem tw15276287227970242661 : True := trivial
theorem tw18033964682163610285 : True := trivial
theorem tw17507516277433102289 : True := trivial
theorem tw5991825269154617347 : True := trivial
theorem tw5613207279310253425 : True := trivial
theorem tw8926073059922265167 : True := trivial
theorem tw7106466396363661638 : True := trivial
theorem tw17480515895037040760 : True := trivial
theorem tw2535131229827767169 : True := trivial
theorem tw909575876175560465 : True := trivial
theorem tw15385585939819168887 : True := trivial
theorem tw16964586414034191684 : True := trivial
theorem tw6815685841524224632 : True := trivial
theorem tw10376031466752974828 : True := trivial
theorem tw15812451359255101891 : True := trivial
theorem tw15465583547859376084 : True := trivial
theorem tw2338785445158028428 : True := trivial
theorem tw11550264267855334806 : True := trivial
theorem tw8843670863553936208 : True := trivial
theorem tw14587594007023303460 : True := trivial
theorem tw13468631102399112637 : True := trivial
theorem tw7002464205399081975 : True := trivial
theorem tw9031073068422697509 : True := trivial
theorem tw16936868174623810526 : True := trivial
theorem tw14036627289367018796 : True := trivial
theorem tw722643689031310280 : True := trivial
theorem tw16003533353896068565 : True := trivial
theorem tw9549253132143110608 : True := trivial
theorem tw8804238086855099115 : True := trivial
theorem tw9375045823711978607 : True := trivial
theorem tw5070146122541468937 : True := trivial
theorem tw12849039064130270240 : True := trivial
theorem tw5288753061374985246 : True := trivial
theorem tw10183426290553673610 : True := trivial
theorem tw12481044172393887954 : True := trivial
theorem tw16729471575171175110 : True := trivial
theorem tw15976676881008073619 : True := trivial
theorem tw1738449604571460292 : True := trivial
theorem tw6336642640299219094 : True := trivial
theorem tw13991502105691641572 : True := trivial
theorem tw9276792759960484386 : True := trivial
theorem tw1560922779193176835 : True := trivial
theorem tw17485836952703706218 : True := trivial
theorem tw17490343775666085965 : True := trivial
theorem tw11150044685417158869 : True := trivial
theorem tw9612742909652353465 : True := trivial
theorem tw9381266235724177792 : True := trivial
theorem tw12790755645740596454 : True := trivial
theorem tw16393828553131281715 : True := trivial
theorem tw8703168442280000639 : True := trivial
theorem tw1750795104730000546 : True := trivial
theorem tw7574501811584800559 : True := trivial
theorem tw8377207884362891880 : True := trivial
theorem tw10340674731281136786 : True := trivial
theorem tw1601456569762913703 : True := trivial
theorem tw10630391147137001860 : True := trivial
theorem tw14680810799054715792 : True := trivial
theorem tw4741875132220596311 : True := trivial
theorem tw7089316416521786280 : True := trivial
theorem tw1640272328417397822 : True := trivial
theorem tw6831830282658272535 : True := trivial
theorem tw1790225447845560585 : True := trivial
theorem tw3616478996217396334 : True := trivial
theorem tw4214643438969434645 : True := trivial
theorem tw12428739965439566872 : True := trivial
theorem tw4489070043729951717 : True := trivial
theorem tw12590562862586613239 : True := trivial
theorem tw16231039490463794110 : True := trivial
theorem tw13370623703081640355 : True := trivial
theorem tw828373266779266601 : True := trivial
theorem tw7902054454379397355 : True := trivial
theorem tw3106084185226902877 : True := trivial
theorem tw2996563815162090415 : True := trivial
theorem tw2921467058064614194 : True := trivial
theorem tw1860683089816694825 : True := trivial
theorem tw8267469052338804902 : True := trivial
theorem tw11596143682707957329 : True := trivial
theorem tw17570233290061857690 : True := trivial
theorem tw1500719978199872653 : True := trivial
theorem tw15079305990305215762 : True := trivial
theorem tw1618621502537572984 : True := trivial
theorem tw15947022525539137760 : True := trivial
theorem tw8316094494326325915 : True := trivial
theorem tw8116986973751701504 : True := trivial
theorem tw7179472203213589255 : True := trivial
theorem tw9188848632486924633 : True := trivial
theorem tw15256606102660637263 : True := trivial
theorem tw16700103266205983162 : True := trivial
theorem tw3313988557390523843 : True := trivial
theorem tw9950089704063908547 : True := trivial
theorem tw2147655035671245215 : True := trivial
theorem tw3702623868654441055 : True := trivial
theorem tw13001207721643841512 : True := trivial
theorem tw15752517208743610924 : True := trivial
theorem tw12939260477051835880 : True := trivial
theorem tw10952823829123372175 : True := trivial
theorem tw9954246468241796668 : True := trivial
theorem tw3491428954475440883 : True := trivial
theorem tw15299981847786275131 : True := trivial
theorem tw3858204857450945017 : True := trivial
theorem tw8331520620733812097 : True := trivial
theorem tw4057580815170638606 : True := trivial
theorem tw5895416178271551497 : True := trivial
theorem tw5093965927272820694 : True := trivial
theorem tw4665913176990191628 : True := trivial
theorem tw16498171049323729267 : True := trivial
theorem tw540485975783732659 : True := trivial
theorem tw9117675943426644266 : True := trivial
theorem tw17451322227400245958 : True := trivial
theorem tw10366571678140251363 : True := trivial
theorem tw8094907942427954523 : True := trivial
theorem tw5569108009095968475 : True := trivial
theorem tw4848108807988124131 : True := trivial
theorem tw18023701660430168103 : True := trivial
theorem tw14287419288450536493 : True := trivial
theorem tw1629939692016619404 : True := trivial
theorem tw13751960006981385605 : True := trivial
theorem tw9659669307319190640 : True := trivial
theorem tw18250771422189292895 : True := trivial
theorem tw4330991180929535625 : True := trivial
theorem tw17371673905730003010 : True := trivial
theorem tw17790109234249064360 : True := trivial
theorem tw639632618262785173 : True := trivial
theorem tw10808934275972336993 : True := trivial
theorem tw2640350884122359693 : True := trivial
theorem tw3061969403100960489 : True := trivial
theorem tw13495405613607610781 : True := trivial
theorem tw16867273931720873272 : True := trivial
theorem tw9371571126222788686 : True := trivial
theorem tw10899058296728633960 : True := trivial
theorem tw7587259842506438161 : True := trivial
theorem tw15491281439746748380 : True := trivial
theorem tw2267212845272169836 : True := trivial
theorem tw14187982978997237623 : True := trivial
theorem tw10844470459063464443 : True := trivial
theorem tw4115226851099395319 : True := trivial
theorem tw7795197914602774408 : True := trivial
theorem tw4700772123730980896 : True := trivial
theorem tw16653776548582141348 : True := trivial
theorem tw5731166914374295624 : True := trivial
theorem tw18141165161687149130 : True := trivial
theorem tw17313500477962296120 : True := trivial
theorem tw7943177803539212061 : True := trivial
theorem tw14567226737135143758 : True := trivial
theorem tw9428742883436320482 : True := trivial
theorem tw3858470327796980622 : True := trivial
theorem tw533107537510362154 : True := trivial
theorem tw14886498140707089192 : True := trivial
theorem tw2757439949053186533 : True := trivial
theorem tw8201169055858481340 : True := trivial
theorem tw540608965632813519 : True := trivial
theorem tw9493725803484967530 : True := trivial
theorem tw6847527207690855968 : True := trivial
theorem tw5740101952899550972 : True := trivial
theorem tw15629568606158070697 : True := trivial
theorem tw9616370734746824208 : True := trivial
theorem tw3461464765368363466 : True := trivial
theorem tw7740853044027385959 : True := trivial
theorem tw1658547955452154472 : True := trivial
theorem tw1945927827826211355 : True := trivial
theorem tw12617662541128001882 : True := trivial
theorem tw5219493252240457098 : True := trivial
theorem tw9034970781958629739 : True := trivial
end Mine.hq
open Mine
set_option maxRecDepth 100000 in
set_option maxHeartbeats 8000000 in
set_option Elab.async true in
theorem Mine.hq : PySem.Challenge.rw_nn0214_01.Holds := by
  w_on; o_law; k_head; (case hw => w_witness2)
  intro w s₀ s₁ mg mb G Y fa o pm cd doc dV kV ho hd hcd hD hmg hg args vals as hpre hlay hrd hwl hlo
  have KX : (Mine.K.heap_1 w.params).In s₁.heap := kIn_of Y
  refine Ground.open G ?_
  intro T B D TE TW
  wrow_args hpre hlay hrd hwl hlo
  rename_i ns _ _ _ _ _ _ _ a l _ hL _ _ _ hI _ hlen _
  obtain rfl : fa = 429 := by
    have e := mg_of (n := Str.ofString "law") (v := .ref 429) KX T.g (by kernel_rfl)
    have e' : mg (Str.ofString "law") = some (.ref fa) := hmg
    rw [e] at e'
    injection e' with e'
    injection e' with e'
    exact e'.symm
  have I : Mine.In ⟨Challenge.rw_nn0214_01.row.prog, w, s₁.heap, mg, mb, s₁.gens, s₁.os⟩ s₁.heap.get? s₁ := ⟨⟨KX, T.g, T.b, T.nolimit, T.builtins⟩, rfl, rfl, fun _ _ e => e, fun _ _ e => e⟩
  refine W.un (law_ (E := fun e s' => GoodWG Challenge.rw_nn0214_01.row.claim (classAt s₀.heap) (ExcName.means s₀.heap) _ s₁ (Except.error e) s') I ⟨rfl, by decide, by decide⟩ rfl hL hI ?_ fun s' g o k => ?_)
  · have := hI.length
    omega
  · exact ⟨.inl ⟨.bool true, .bool true, [], rfl, fun _ => rfl, .bool true, post_ _, unshared_nil⟩, .of_keep k, o, .of_eq (g.trans hg)⟩
set_option maxRecDepth 100000 in
theorem PySem.Challenge.cw_nn0214_01_holds : PySem.Challenge.rw_nn0214_01.Holds := by
  exact Mine.hq
