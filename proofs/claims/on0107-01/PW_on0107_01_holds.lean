import PyProof.Rows.All
import Wide.All
import OpenK.AllK
import Wide.FinOn
import PySem.Challenge.RW_on0107_01
open PySem PySem.W PySem.Calls PyProof.Rows
set_option Elab.async false
set_option maxRecDepth 100000
set_option maxHeartbeats 8000000
namespace Mine

inductive Vl where
  | none | bool (b : Bool) | int (i : Int) | str (s : Str) | tup (l : List Vl) | ref (a : Addr) | con (v : Value)

mutual
inductive VR (h : Heap) : Vl → Value → Prop
  | none : VR h .none .none
  | bool (b) : VR h (.bool b) (.bool b)
  | int (i t) : VR h (.int i) (.int i t)
  | str (x t) : VR h (.str x) (.str x t)
  | tup {l a vs} : IsTup h a (List.toArray vs) → VRs h l vs → VR h (.tup l) (.ref a)
  | ref (a) : VR h (.ref a) (.ref a)
  | con (v) : VR h (.con v) v
inductive VRs (h : Heap) : List Vl → List Value → Prop
  | nil : VRs h [] []
  | cons {v r l vs} : VR h v r → VRs h l vs → VRs h (v :: l) (r :: vs)
end

inductive KRs {κ : Type} (h : Heap) : List (κ × Vl) → List (κ × Value) → Prop
  | nil : KRs h [] []
  | cons {k v r l vs} : VR h v r → KRs h l vs → KRs h ((k, v) :: l) ((k, r) :: vs)

noncomputable def TupKeep (h h' : Heap) : Prop := ∀ a items, IsTup h a items → IsTup h' a items

theorem VRs.ind {h : Heap} {P : List Vl → List Value → Prop} (n : P [] []) (c : ∀ v r l vs, VR h v r → VRs h l vs → P l vs → P (v :: l) (r :: vs)) {l vs} (x : VRs h l vs) : P l vs :=
  VRs.rec (motive_1 := fun _ _ _ => True) (motive_2 := fun l vs _ => P l vs) trivial (fun _ => trivial) (fun _ _ => trivial) (fun _ _ => trivial) (fun _ _ _ => trivial) (fun _ => trivial) (fun _ => trivial) n (fun a b _ ih => c _ _ _ _ a b ih) x
theorem VR.keep {h h' : Heap} (k : TupKeep h h') {v r} (x : VR h v r) : VR h' v r :=
  VR.rec (motive_1 := fun v r _ => VR h' v r) (motive_2 := fun l vs _ => VRs h' l vs) .none .bool .int .str (fun a _ b => .tup (k _ _ a) b) .ref .con .nil (fun _ _ a b => .cons a b) x
theorem VRs.keep {h h' : Heap} (k : TupKeep h h') {l vs} (x : VRs h l vs) : VRs h' l vs := x.ind (P := VRs h') .nil fun _ _ _ _ a _ b => .cons (a.keep k) b
theorem KRs.keep {κ : Type} {h h' : Heap} (k : TupKeep h h') {v : List (κ × Vl)} {r} (x : KRs h v r) : KRs h' v r := by
  induction x with
  | nil => exact .nil
  | cons a _ ih => exact .cons (a.keep k) ih
theorem VRs.length {h : Heap} {l vs} (x : VRs h l vs) : vs.length = l.length := x.ind (P := fun l vs => vs.length = l.length) rfl fun _ _ _ _ _ _ e => congrArg (· + 1) e
theorem VRs.append {h : Heap} {l vs l' vs'} (x : VRs h l vs) (b : VRs h l' vs') : VRs h (l ++ l') (vs ++ vs') := x.ind (P := fun l vs => VRs h (l ++ l') (vs ++ vs')) b fun _ _ _ _ a _ e => .cons a e
theorem VRs.get {h : Heap} {l vs} (x : VRs h l vs) {i : Nat} {v} (e : l[i]? = some v) : ∃ r, vs[i]? = some r ∧ VR h v r :=
  x.ind (P := fun l vs => ∀ i : Nat, l[i]? = some v → ∃ r, vs[i]? = some r ∧ VR h v r) (fun _ e => absurd e (by simp)) (fun w r l vs a _ ih i e => by
    cases i with
    | zero => cases Option.some.inj (show some w = some v from e); exact ⟨r, rfl, a⟩
    | succ i => exact ih i e) i e
theorem VRs.of_get {h : Heap} {l vs} (x : VRs h l vs) {i : Nat} {r} (e : vs[i]? = some r) : ∃ v, l[i]? = some v ∧ VR h v r :=
  x.ind (P := fun l vs => ∀ i : Nat, vs[i]? = some r → ∃ v, l[i]? = some v ∧ VR h v r) (fun _ e => absurd e (by simp)) (fun v w l vs a _ ih i e => by
    cases i with
    | zero => cases Option.some.inj (show some w = some r from e); exact ⟨v, rfl, a⟩
    | succ i => exact ih i e) i e
theorem VRs.set {h : Heap} {w : Vl} {rw : Value} (hw : VR h w rw) {l vs} (x : VRs h l vs) {i} : VRs h (l.set i w) (vs.set i rw) :=
  x.ind (P := fun l vs => ∀ i, VRs h (l.set i w) (vs.set i rw)) (fun _ => .nil) (fun _ _ _ _ a b ih i => by
    cases i with
    | zero => exact .cons hw b
    | succ i => exact .cons a (ih i)) i
theorem VRs.drop {h : Heap} {l vs} (x : VRs h l vs) {i} : VRs h (l.drop i) (vs.drop i) :=
  x.ind (P := fun l vs => ∀ i, VRs h (l.drop i) (vs.drop i)) (fun i => by cases i <;> exact .nil) (fun _ _ _ _ a b ih i => by
    cases i with
    | zero => exact .cons a b
    | succ i => exact ih i) i
theorem VRs.take {h : Heap} {l vs} (x : VRs h l vs) {i} : VRs h (l.take i) (vs.take i) :=
  x.ind (P := fun l vs => ∀ i, VRs h (l.take i) (vs.take i)) (fun i => by cases i <;> exact .nil) (fun _ _ _ _ a b ih i => by
    cases i with
    | zero => exact .nil
    | succ i => exact .cons a (ih i)) i
theorem VRs.reverse {h : Heap} {l vs} (x : VRs h l vs) : VRs h l.reverse vs.reverse :=
  x.ind (P := fun l vs => VRs h l.reverse vs.reverse) .nil fun _ _ _ _ a _ ih => by rw [List.reverse_cons, List.reverse_cons]; exact ih.append (.cons a .nil)

inductive Ob where
  | list (l : List Vl)
  | idict (l : List (Int × Vl))
  | fdict (ep : Nat) (l : List (Int × Vl))
  | sdict (l : List (Str × Vl))
  | inst (C dx : Addr) (l : List (Str × Vl))

noncomputable def Ob.fp (a : Addr) : Ob → List Addr
  | .inst _ dx _ => [a, dx]
  | _ => [a]

noncomputable abbrev Ld := List (Addr × Ob)
noncomputable def fps (σ : Ld) : List Addr := σ.flatMap fun p => p.2.fp p.1

structure Cx where
  prog : Program
  w : World
  K : Frag
  s₀ : Shared
  mg : Str → Option Value
  mb : Str → Option Value
  X : K.In s₀.heap
  hg : s₀.heap.Ns mainGlobals mg
  hb : s₀.heap.Ns builtinsNs mb
  hbi : ∀ x : Str, x ≠ "__name__" → mb x = bootBuiltins x
  lim : s₀.heap.NoLimit

noncomputable def InstMap (h : Heap) (dx : Addr) (l : List (Str × Vl)) : Prop := ∃ o es ep, h.get? dx = some o ∧ o.data = .dict es ep ∧ StrKeys es ∧ es.size ≤ l.length ∧ (∀ p ∈ l, ∃ r, nsFind es p.1 = some r ∧ VR h p.2 r) ∧ (l.map (·.1)).Nodup ∧ ∀ x, x ∉ l.map (·.1) → nsFind es x = none

noncomputable def OR (C : Cx) (h : Heap) (a : Addr) : Ob → Prop
  | .list l => ∃ vs : List Value, h.PlainList a vs.toArray ∧ VRs h l vs
  | .idict l => ∃ kvs, h.DictOf (intKind C.prog C.w) a kvs ∧ KRs h l kvs
  | .fdict ep l => ∃ kvs, h.DictAt (intKind C.prog C.w) a kvs ep ∧ KRs h l kvs
  | .sdict l => ∃ kvs, h.DictOf (strKind C.prog C.w) a kvs ∧ KRs h l kvs
  | .inst c dx l => h.get? a = some (instObj c dx) ∧ InstMap h dx l

/-- every footprint address bears an object that is no tuple -/
theorem not_tup {o : Obj} (h : ∀ items n, o.data ≠ .seq items n) : ¬ (o.cls = .type "tuple" ∧ ∃ items n, o.data = .seq items n) := fun ⟨_, i, n, e⟩ => h i n e
theorem OR.fp_alive {C : Cx} {h : Heap} {a : Addr} {o : Ob} (x : OR C h a o) (b : Addr) (hb : b ∈ o.fp a) : ∃ ob, h.get? b = some ob ∧ ¬ (ob.cls = .type "tuple" ∧ ∃ items n, ob.data = .seq items n) := by
  have dict : ∀ {c : Addr} {ob : Obj} {es ep}, h.get? c = some ob → ob.data = .dict es ep → ∃ ob, h.get? c = some ob ∧ ¬ (ob.cls = .type "tuple" ∧ ∃ items n, ob.data = .seq items n) := fun e d => ⟨_, e, not_tup fun _ _ z => by rw [d] at z; cases z⟩
  cases o with
  | list l =>
    cases List.mem_singleton.mp hb
    obtain ⟨_, ⟨n, e⟩, _⟩ := x
    exact ⟨_, e, fun x => absurd x.1 (by simp)⟩
  | idict l =>
    cases List.mem_singleton.mp hb
    obtain ⟨_, ⟨o, es, ep, e, c, d, _⟩, _⟩ := x
    exact dict e d
  | fdict q l =>
    cases List.mem_singleton.mp hb
    obtain ⟨_, ⟨o, es, e, c, d, _⟩, _⟩ := x
    exact dict e d
  | sdict l =>
    cases List.mem_singleton.mp hb
    obtain ⟨_, ⟨o, es, ep, e, c, d, _⟩, _⟩ := x
    exact dict e d
  | inst c dx l =>
    obtain ⟨e, o, es, ep, e', d, _⟩ := x
    rcases List.mem_cons.mp hb with rfl | hb
    · exact ⟨_, e, not_tup fun _ _ z => by cases z⟩
    · cases List.mem_singleton.mp hb
      exact dict e' d
structure Keep (F : List Addr) (s s' : Shared) : Prop where
  same : ∀ a o, a ∉ F → s.heap.get? a = some o → s'.heap.get? a = some o
  alive : ∀ a o, s.heap.get? a = some o → ∃ o', s'.heap.get? a = some o'

theorem Keep.refl (F : List Addr) (s : Shared) : Keep F s s := ⟨fun _ _ _ e => e, fun _ o e => ⟨o, e⟩⟩
theorem Keep.of_ext {F : List Addr} {s s' : Shared} (h : ∀ a o, s.heap.get? a = some o → s'.heap.get? a = some o) : Keep F s s' := ⟨fun a o _ e => h a o e, fun a o e => ⟨o, h a o e⟩⟩
theorem Keep.sub {F G : List Addr} {s s' : Shared} (k : Keep F s s') (h : ∀ a ∈ F, a ∈ G) : Keep G s s' := ⟨fun a o n e => k.same a o (fun x => n (h a x)) e, k.alive⟩

structure Ok (C : Cx) (σ : Ld) (s : Shared) : Prop where
  ext : ∀ b o, C.s₀.heap.get? b = some o → s.heap.get? b = some o
  gens : s.gens = C.s₀.gens
  drawn : s.drawn = C.s₀.drawn
  os : s.os = C.s₀.os
  cells : ∀ p ∈ σ, OR C s.heap p.1 p.2
  nd : (fps σ).Nodup
  new : ∀ a ∈ fps σ, C.s₀.heap.get? a = none
  nomod : ∀ a ∈ fps σ, (a == sysModules) = false

theorem mem_fps {σ : Ld} {p : Addr × Ob} (hp : p ∈ σ) {b : Addr} (hb : b ∈ p.2.fp p.1) : b ∈ fps σ := List.mem_flatMap.mpr ⟨p, hp, hb⟩
theorem Ok.alive {C σ s} (k : Ok C σ s) {a : Addr} (ha : a ∈ fps σ) : ∃ o, s.heap.get? a = some o ∧ ¬ (o.cls = .type "tuple" ∧ ∃ items n, o.data = .seq items n) := by
  obtain ⟨p, hp, hb⟩ := List.mem_flatMap.mp ha
  exact (k.cells p hp).fp_alive _ hb
theorem Ok.tup_not {C σ s} (k : Ok C σ s) {a : Addr} {items : Array Value} (t : IsTup s.heap a items) : a ∉ fps σ := fun ha => by
  obtain ⟨o, e, n⟩ := k.alive ha
  obtain ⟨o', e', c, m, d⟩ := t
  cases e.symm.trans e'
  exact n ⟨c, _, _, d⟩
theorem Ok.tupKeep {C σ s s'} (k : Ok C σ s) (h : Keep (fps σ) s s') : TupKeep s.heap s'.heap := fun a items t => by
  have n := k.tup_not t
  obtain ⟨o, e, r⟩ := t
  exact ⟨o, h.same a o n e, r⟩

/-- from state s with ledger σ to s' with σ' -/
structure To (C : Cx) (σ : Ld) (s : Shared) (σ' : Ld) (s' : Shared) : Prop where
  ok : Ok C σ' s'
  keep : Keep (fps σ) s s'
  fresh : ∀ a ∈ fps σ', a ∈ fps σ ∨ s.heap.get? a = none

theorem To.refl {C σ s} (k : Ok C σ s) : To C σ s σ s := ⟨k, .refl _ _, fun _ h => .inl h⟩
theorem To.trans {C σ s σ₁ s₁ σ₂ s₂} (a : To C σ s σ₁ s₁) (b : To C σ₁ s₁ σ₂ s₂) : To C σ s σ₂ s₂ := by
  refine ⟨b.ok, ⟨fun x o n e => ?_, fun x o e => ?_⟩, fun x hx => ?_⟩
  · refine b.keep.same x o (fun h => ?_) (a.keep.same x o n e)
    rcases a.fresh x h with h | h
    · exact n h
    · rw [h] at e; cases e
  · obtain ⟨o', e'⟩ := a.keep.alive x o e
    exact b.keep.alive x o' e'
  · rcases b.fresh x hx with h | h
    · exact a.fresh x h
    · refine .inr ?_
      cases q : s.heap.get? x with
      | none => rfl
      | some o => obtain ⟨o', e'⟩ := a.keep.alive x o q; rw [e'] at h; cases h
theorem VR.to {C σ s σ' s'} (k : Ok C σ s) (t : To C σ s σ' s') {v r} (x : VR s.heap v r) : VR s'.heap v r := x.keep (k.tupKeep t.keep)
theorem VRs.to {C σ s σ' s'} (k : Ok C σ s) (t : To C σ s σ' s') {v r} (x : VRs s.heap v r) : VRs s'.heap v r := x.keep (k.tupKeep t.keep)

theorem PlainList.keep' {h h' : Heap} {a : Addr} {items} (x : h.PlainList a items) (k : ∀ o, h.get? a = some o → h'.get? a = some o) : h'.PlainList a items := let ⟨n, e⟩ := x; ⟨n, k _ e⟩
theorem OR.keep {C : Cx} {h h' : Heap} (t : TupKeep h h') {a : Addr} {o : Ob} (x : OR C h a o) (k : ∀ b ∈ o.fp a, ∀ x, h.get? b = some x → h'.get? b = some x) : OR C h' a o := by
  cases o with
  | list l => obtain ⟨vs, e, r⟩ := x; exact ⟨vs, PlainList.keep' e (k a (.head _)), r.keep t⟩
  | idict l => obtain ⟨kvs, ⟨o, es, ep, e, c⟩, r⟩ := x; exact ⟨kvs, ⟨o, es, ep, k a (.head _) _ e, c⟩, r.keep t⟩
  | fdict q l => obtain ⟨kvs, ⟨o, es, e, c⟩, r⟩ := x; exact ⟨kvs, ⟨o, es, k a (.head _) _ e, c⟩, r.keep t⟩
  | sdict l => obtain ⟨kvs, ⟨o, es, ep, e, c⟩, r⟩ := x; exact ⟨kvs, ⟨o, es, ep, k a (.head _) _ e, c⟩, r.keep t⟩
  | inst c dx l =>
    obtain ⟨e, o, es, ep, e', d, ks, sz, r, nd, no⟩ := x
    exact ⟨k a (.head _) _ e, o, es, ep, k dx (.tail _ (.head _)) _ e', d, ks, sz, fun p hp => let ⟨v, a, b⟩ := r p hp; ⟨v, a, b.keep t⟩, nd, no⟩
/-- a step that leaves every object as it was (it may make new ones) -/
theorem To.ext {C σ s} {s' : Shared} (k : Ok C σ s) (h : ∀ a o, s.heap.get? a = some o → s'.heap.get? a = some o) (hg : s'.gens = s.gens) (hd : s'.drawn = s.drawn) (ho : s'.os = s.os) : To C σ s σ s' := by
  have kp : Keep (fps σ) s s' := .of_ext h
  exact ⟨⟨fun b o e => h b o (k.ext b o e), hg.trans k.gens, hd.trans k.drawn, ho.trans k.os, fun p hp => (k.cells p hp).keep (k.tupKeep kp) fun b _ x e => h b x e, k.nd, k.new, k.nomod⟩, kp, fun a ha => .inl ha⟩
theorem Ok.size_mod {C σ s} (k : Ok C σ s) {b : Addr} (h : s.heap.objs.size ≤ b) : (b == sysModules) = false := by
  obtain ⟨o, es, ep, e, _⟩ := C.hg
  have := Heap.lt_size (k.ext _ _ e)
  have q : sysModules < mainGlobals := by decide
  exact beq_eq_false_iff_ne.mpr (Nat.ne_of_gt (Nat.lt_of_lt_of_le (Nat.lt_trans q this) h))
theorem size_none {h : Heap} {b : Addr} (q : h.objs.size ≤ b) : h.get? b = none := by
  cases e : h.get? b with
  | none => rfl
  | some o => exact absurd (Heap.lt_size e) (Nat.not_lt.mpr q)

/-- a new object goes onto the ledger -/
theorem To.push {C σ s} {s' : Shared} {a : Addr} {o : Ob} (k : Ok C σ s) (h : ∀ a o, s.heap.get? a = some o → s'.heap.get? a = some o) (hg : s'.gens = s.gens) (hd : s'.drawn = s.drawn) (ho : s'.os = s.os)
    (hz : ∀ b ∈ o.fp a, s.heap.objs.size ≤ b) (hnd : (o.fp a).Nodup) (hO : OR C s'.heap a o) : To C σ s ((a, o) :: σ) s' := by
  have t := To.ext k h hg hd ho
  have hn : ∀ b ∈ o.fp a, s.heap.get? b = none := fun b hb => size_none (hz b hb)
  refine ⟨⟨t.ok.ext, t.ok.gens, t.ok.drawn, t.ok.os, fun p hp => ?_, ?_, fun b hb => ?_, fun b hb => ?_⟩, t.keep, fun b hb => ?_⟩
  · rcases List.mem_cons.mp hp with rfl | hp
    · exact hO
    · exact t.ok.cells p hp
  · show ((o.fp a) ++ fps σ).Nodup
    refine List.nodup_append.mpr ⟨hnd, k.nd, fun b hb c hc e => ?_⟩
    subst e
    obtain ⟨ob, e, _⟩ := k.alive hc
    rw [hn b hb] at e; cases e
  · rcases List.mem_append.mp (show b ∈ o.fp a ++ fps σ from hb) with hb | hb
    · cases q : C.s₀.heap.get? b with
      | none => rfl
      | some ob => have := k.ext b ob q; rw [hn b hb] at this; cases this
    · exact k.new b hb
  · rcases List.mem_append.mp (show b ∈ o.fp a ++ fps σ from hb) with hb | hb
    · exact k.size_mod (hz b hb)
    · exact k.nomod b hb
  · rcases List.mem_append.mp (show b ∈ o.fp a ++ fps σ from hb) with hb | hb
    · exact .inr (hn b hb)
    · exact .inl hb

/-- the ledger with the object at a turned -/
inductive Upd (a : Addr) (o o' : Ob) : Ld → Ld → Prop
  | head {σ} : Upd a o o' ((a, o) :: σ) ((a, o') :: σ)
  | tail {p σ σ'} : Upd a o o' σ σ' → Upd a o o' (p :: σ) (p :: σ')

theorem Upd.mem {a o o' σ σ'} (u : Upd a o o' σ σ') : (a, o) ∈ σ := by induction u with | head => exact .head _ | tail _ ih => exact .tail _ ih
theorem Upd.mem' {a o o' σ σ'} (u : Upd a o o' σ σ') : (a, o') ∈ σ' := by induction u with | head => exact .head _ | tail _ ih => exact .tail _ ih
theorem Upd.fps {a o o' σ σ'} (u : Upd a o o' σ σ') (e : o'.fp a = o.fp a) : Mine.fps σ' = Mine.fps σ := by
  induction u with
  | head => show o'.fp a ++ _ = o.fp a ++ _; rw [e]
  | @tail p _ _ _ ih => show p.2.fp p.1 ++ Mine.fps _ = p.2.fp p.1 ++ Mine.fps _; rw [ih]
theorem Upd.cells {a o o' σ σ'} (u : Upd a o o' σ σ') (nd : (Mine.fps σ).Nodup) : ∀ p ∈ σ', p = (a, o') ∨ (p ∈ σ ∧ ∀ b ∈ p.2.fp p.1, b ∉ o.fp a) := by
  induction u with
  | @head σ =>
    intro p hp
    rcases List.mem_cons.mp hp with rfl | hp
    · exact .inl rfl
    · refine .inr ⟨.tail _ hp, fun b hb hb' => ?_⟩
      have := (List.nodup_append.mp (show (o.fp a ++ Mine.fps σ).Nodup from nd)).2.2 b hb' b (mem_fps hp hb)
      exact this rfl
  | @tail q σ σ' u ih =>
    have nd' : (q.2.fp q.1 ++ Mine.fps σ).Nodup := nd
    intro p hp
    rcases List.mem_cons.mp hp with rfl | hp
    · refine .inr ⟨.head _, fun b hb hb' => ?_⟩
      exact (List.nodup_append.mp nd').2.2 b hb b (mem_fps u.mem hb') rfl
    · rcases ih (List.nodup_append.mp nd').2.1 p hp with h | ⟨h, k⟩
      · exact .inl h
      · exact .inr ⟨.tail _ h, k⟩

/-- a step that turns the object at a alone (and may make new ones) -/
theorem To.upd {C σ s σ'} {s' : Shared} {a : Addr} {o o' : Ob} (k : Ok C σ s) (u : Upd a o o' σ σ') (h : ∀ b x, b ∉ o.fp a → s.heap.get? b = some x → s'.heap.get? b = some x) (hg : s'.gens = s.gens) (hd : s'.drawn = s.drawn) (ho : s'.os = s.os)
    (e : o'.fp a = o.fp a) (hO : OR C s'.heap a o') : To C σ s σ' s' := by
  have hm : ∀ b ∈ o.fp a, b ∈ fps σ := fun b hb => mem_fps u.mem hb
  have kp : Keep (fps σ) s s' := ⟨fun b x n q => h b x (fun hb => n (hm b hb)) q, fun b x q => by
    by_cases hb : b ∈ o.fp a
    · obtain ⟨ob, e', _⟩ := hO.fp_alive b (e ▸ hb); exact ⟨ob, e'⟩
    · exact ⟨x, h b x hb q⟩⟩
  have ef := u.fps e
  refine ⟨⟨fun b x q => h b x (fun hb => ?_) (k.ext b x q), hg.trans k.gens, hd.trans k.drawn, ho.trans k.os, fun p hp => ?_, ef ▸ k.nd, ef ▸ k.new, ef ▸ k.nomod⟩, kp, fun b hb => .inl (ef ▸ hb)⟩
  · have := k.new b (hm b hb); rw [q] at this; cases this
  · rcases u.cells k.nd p hp with rfl | ⟨hp, n⟩
    · exact hO
    · exact (k.cells p hp).keep (k.tupKeep kp) fun b hb x q => h b x (n b hb) q

/-- forget a part of the ledger -/
theorem Ok.sub {C σ σ' s} (k : Ok C σ s) (h : σ'.Sublist σ) : Ok C σ' s := by
  have hs : (fps σ').Sublist (fps σ) := by
    clear k
    unfold fps
    induction h with
    | slnil => exact List.Sublist.refl _
    | cons a _ ih => exact ih.trans (List.sublist_append_right _ _)
    | cons_cons a _ ih => exact List.Sublist.append (List.Sublist.refl _) ih
  exact ⟨k.ext, k.gens, k.drawn, k.os, fun p hp => k.cells p (h.subset hp), k.nd.sublist hs, fun a ha => k.new a (hs.subset ha), fun a ha => k.nomod a (hs.subset ha)⟩
theorem fps_sub {σ σ' : Ld} (h : σ'.Sublist σ) : (fps σ').Sublist (fps σ) := by
  unfold fps
  induction h with
  | slnil => exact List.Sublist.refl _
  | cons a _ ih => exact ih.trans (List.sublist_append_right _ _)
  | cons_cons a _ ih => exact List.Sublist.append (List.Sublist.refl _) ih
theorem To.sub {C σ s σ' σ'' s'} (t : To C σ s σ' s') (h : σ''.Sublist σ') : To C σ s σ'' s' := ⟨t.ok.sub h, t.keep, fun a ha => t.fresh a ((fps_sub h).subset ha)⟩


noncomputable abbrev Gm := List (Str × Option Vl)

noncomputable def Var (env : Env) (h : Heap) (x : Str) (r : Value) : Prop :=
  (env.kindOf x = some .local ∧ ∃ m, h.Ns env.locals m ∧ m x = some r) ∨
  ((env.kindOf x = some .cell ∨ env.kindOf x = some .free) ∧ ∃ c, env.cells.lookup x = some c ∧ h.IsCell c (some r))

noncomputable def fa (env : Env) : List Addr := env.locals :: env.cells.map (·.2)

structure FR (env : Env) (Γ : Gm) (h : Heap) : Prop where
  ns : ∃ m, h.Ns env.locals m
  cells : ∀ p ∈ env.cells, ∃ v, h.IsCell p.2 v
  own : ∀ x, env.kindOf x = some .cell → ∃ c, env.cells.lookup x = some c
  vars : ∀ x v, (x, some v) ∈ Γ → ∃ r, Var env h x r ∧ VR h v r
  nd : (Γ.map Prod.fst).Nodup
  cnd : (env.cells.map (·.2)).Nodup

theorem mem_of_lookup {α β : Type} [BEq α] [LawfulBEq α] {a : α} {b : β} : ∀ {l : List (α × β)}, l.lookup a = some b → (a, b) ∈ l
  | [], h => by cases h
  | (x, y) :: l, h => by
    rw [List.lookup_cons] at h
    split at h
    · rename_i q; cases h; rw [eq_of_beq q]; exact .head _
    · exact .tail _ (mem_of_lookup h)

theorem ns_fun {h : Heap} {a : Addr} {m m' : Str → Option Value} (x : h.Ns a m) (y : h.Ns a m') : m = m' := by
  obtain ⟨o, es, ep, e, d, _, f⟩ := x
  obtain ⟨o', es', ep', e', d', _, f'⟩ := y
  cases e.symm.trans e'
  cases d.symm.trans d'
  exact funext fun n => (f n).symm.trans (f' n)

theorem Var.keep {env : Env} {h h' : Heap} (k : ∀ a ∈ fa env, ∀ o, h.get? a = some o → h'.get? a = some o) {x r} (v : Var env h x r) : Var env h' x r := by
  rcases v with ⟨a, m, ⟨o, es, ep, e, q⟩, f⟩ | ⟨a, c, e, o, ho, d⟩
  · exact .inl ⟨a, m, ⟨o, es, ep, k _ (.head _) _ e, q⟩, f⟩
  · exact .inr ⟨a, c, e, o, k _ (.tail _ (List.mem_map.mpr ⟨_, mem_of_lookup e, rfl⟩)) _ ho, d⟩

theorem FR.keep {env Γ h h'} (f : FR env Γ h) (k : ∀ a ∈ fa env, ∀ o, h.get? a = some o → h'.get? a = some o) (t : TupKeep h h') : FR env Γ h' := by
  refine ⟨?_, fun p hp => ?_, f.own, fun x v hx => ?_, f.nd, f.cnd⟩
  · obtain ⟨m, o, es, ep, e, q⟩ := f.ns
    exact ⟨m, o, es, ep, k _ (.head _) _ e, q⟩
  · obtain ⟨v, o, e, d⟩ := f.cells p hp
    exact ⟨v, o, k _ (.tail _ (List.mem_map.mpr ⟨p, hp, rfl⟩)) _ e, d⟩
  · obtain ⟨r, a, b⟩ := f.vars x v hx
    exact ⟨r, a.keep k, b.keep t⟩

theorem FR.alive {env Γ h} (f : FR env Γ h) : ∀ a ∈ fa env, ∃ o, h.get? a = some o ∧ ∀ items n, o.data ≠ .seq items n := by
  intro a ha
  rcases List.mem_cons.mp ha with rfl | ha
  · obtain ⟨m, o, es, ep, e, d, _⟩ := f.ns
    exact ⟨o, e, fun _ _ x => by rw [d] at x; cases x⟩
  · obtain ⟨p, hp, rfl⟩ := List.mem_map.mp ha
    obtain ⟨v, o, e, d⟩ := f.cells p hp
    exact ⟨o, e, fun _ _ x => by rw [d] at x; cases x⟩

structure EnvOK (sc : Scope) (env : Env) : Prop where
  scope : env.scope = sc
  kind : sc.kind = .function
  globals : env.globals = mainGlobals
  builtins : env.builtins = builtinsNs

structure OKA (k : Nat) (A : Around) : Prop where
  handled : A.handled = none
  depth : A.depth + k < 1000
  units : A.units + 10 * k + 200 < 9900

theorem OKA.mono {k k' A} (h : OKA k A) (hk : k' ≤ k) : OKA k' A := ⟨h.handled, by have := h.depth; (first | lia | omega), by have := h.units; (first | lia | omega)⟩
theorem OKA.in1 {k A} (h : OKA (k + 1) A) : OKA k A.in1 := ⟨h.handled, by have := h.depth; rw [Around.in1_depth]; (first | lia | omega), by have := h.units; rw [Around.in1_units]; (first | lia | omega)⟩
theorem OKA.deeper {k A env} (h : OKA (k + 1) A) : OKA k (A.deeper env) := ⟨h.handled, by have := h.depth; show A.depth + 1 + k < 1000; (first | lia | omega), by have := h.units; show A.units + 3 + _ + _ < _; (first | lia | omega)⟩

structure St (C : Cx) (env : Env) (Γ : Gm) (σ : Ld) (s : Shared) : Prop where
  ok : Ok C σ s
  fr : FR env Γ s.heap
  dis : ∀ a ∈ fa env, a ∉ fps σ
  fnew : ∀ a ∈ fa env, C.s₀.heap.get? a = none

theorem St.to {C env Γ σ s σ' s'} (h : St C env Γ σ s) (t : To C σ s σ' s') : St C env Γ σ' s' := by
  refine ⟨t.ok, h.fr.keep (fun a ha o e => t.keep.same a o (h.dis a ha) e) (h.ok.tupKeep t.keep), fun a ha hx => ?_, h.fnew⟩
  rcases t.fresh a hx with q | q
  · exact h.dis a ha q
  · obtain ⟨o, e, _⟩ := h.fr.alive a ha
    rw [e] at q; cases q

structure ToX (C : Cx) (env : Env) (σ : Ld) (s : Shared) (Γ' : Gm) (σ' : Ld) (s' : Shared) : Prop where
  ok : Ok C σ' s'
  keep : Keep (fps σ ++ fa env) s s'
  fresh : ∀ a ∈ fps σ', a ∈ fps σ ∨ s.heap.get? a = none
  fr : FR env Γ' s'.heap

theorem St.toX {C env Γ σ s Γ' σ' s'} (h : St C env Γ σ s) (t : ToX C env σ s Γ' σ' s') : St C env Γ' σ' s' := by
  refine ⟨t.ok, t.fr, fun a ha hx => ?_, h.fnew⟩
  rcases t.fresh a hx with q | q
  · exact h.dis a ha q
  · obtain ⟨o, e, _⟩ := h.fr.alive a ha
    rw [e] at q; cases q
theorem St.tupKeepX {C env Γ σ s Γ' σ' s'} (h : St C env Γ σ s) (t : ToX C env σ s Γ' σ' s') : TupKeep s.heap s'.heap := fun a items x => by
  have n := h.ok.tup_not x
  have n' : a ∉ fa env := fun ha => by
    obtain ⟨o, e, q⟩ := h.fr.alive a ha
    obtain ⟨o', e', c, m, d⟩ := x
    cases e.symm.trans e'
    exact q _ _ d
  obtain ⟨o, e, r⟩ := x
  exact ⟨o, t.keep.same a o (fun q => (List.mem_append.mp q).elim n n') e, r⟩
theorem To.toX {C env Γ σ s σ' s'} (h : St C env Γ σ s) (t : To C σ s σ' s') : ToX C env σ s Γ σ' s' :=
  ⟨t.ok, t.keep.sub fun _ q => List.mem_append_left _ q, t.fresh, (h.to t).fr⟩
theorem ToX.refl {C env Γ σ s} (h : St C env Γ σ s) : ToX C env σ s Γ σ s := (To.refl h.ok).toX h
theorem ToX.trans {C env σ s Γ₁ σ₁ s₁ Γ₂ σ₂ s₂} (a : ToX C env σ s Γ₁ σ₁ s₁) (b : ToX C env σ₁ s₁ Γ₂ σ₂ s₂) : ToX C env σ s Γ₂ σ₂ s₂ := by
  refine ⟨b.ok, ⟨fun x o n e => ?_, fun x o e => ?_⟩, fun x hx => ?_, b.fr⟩
  · refine b.keep.same x o (fun h => ?_) (a.keep.same x o n e)
    rcases List.mem_append.mp h with h | h
    · rcases a.fresh x h with h | h
      · exact n (List.mem_append_left _ h)
      · rw [h] at e; cases e
    · exact n (List.mem_append_right _ h)
  · obtain ⟨o', e'⟩ := a.keep.alive x o e
    exact b.keep.alive x o' e'
  · rcases b.fresh x hx with h | h
    · exact a.fresh x h
    · refine .inr ?_
      cases q : s.heap.get? x with
      | none => rfl
      | some o => obtain ⟨o', e'⟩ := a.keep.alive x o q; rw [e'] at h; cases h

noncomputable abbrev NE : Value → Shared → Prop := fun _ _ => False

/-- what a value-giving tree ends in -/
noncomputable def VP (C : Cx) (σ : Ld) (s : Shared) (Q : Vl → Ld → Prop) (r : Value) (s' : Shared) : Prop := ∃ v σ', To C σ s σ' s' ∧ VR s'.heap v r ∧ Q v σ'
noncomputable def VPs (C : Cx) (σ : Ld) (s : Shared) (Q : List Vl → Ld → Prop) (r : List Value) (s' : Shared) : Prop := ∃ v σ', To C σ s σ' s' ∧ VRs s'.heap v r ∧ Q v σ'
noncomputable def BP (C : Cx) (σ : Ld) (s : Shared) (Q : Bool → Ld → Prop) (b : Bool) (s' : Shared) : Prop := ∃ σ', To C σ s σ' s' ∧ Q b σ'
noncomputable def UP (C : Cx) (σ : Ld) (s : Shared) (Q : Ld → Prop) (_ : Unit) (s' : Shared) : Prop := ∃ σ', To C σ s σ' s' ∧ Q σ'

theorem VP.imp {C σ s Q Q' r s'} (h : VP C σ s Q r s') (k : ∀ v σ', Q v σ' → Q' v σ') : VP C σ s Q' r s' := let ⟨v, σ', t, x, q⟩ := h; ⟨v, σ', t, x, k _ _ q⟩
theorem VP.after {C σ s σ₁ s₁ Q r s'} (t : To C σ s σ₁ s₁) (h : VP C σ₁ s₁ Q r s') : VP C σ s Q r s' := let ⟨v, σ', t', x, q⟩ := h; ⟨v, σ', t.trans t', x, q⟩
theorem VPs.after {C σ s σ₁ s₁ Q r s'} (t : To C σ s σ₁ s₁) (h : VPs C σ₁ s₁ Q r s') : VPs C σ s Q r s' := let ⟨v, σ', t', x, q⟩ := h; ⟨v, σ', t.trans t', x, q⟩
theorem BP.after {C σ s σ₁ s₁ Q r s'} (t : To C σ s σ₁ s₁) (h : BP C σ₁ s₁ Q r s') : BP C σ s Q r s' := let ⟨σ', t', q⟩ := h; ⟨σ', t.trans t', q⟩
theorem UP.after {C σ s σ₁ s₁ Q r s'} (t : To C σ s σ₁ s₁) (h : UP C σ₁ s₁ Q r s') : UP C σ s Q r s' := let ⟨σ', t', q⟩ := h; ⟨σ', t.trans t', q⟩

theorem ne_mono {α : Type} {M : Model} {A : Around} {t : Sem α} {s : Shared} {Q Q' : α → Shared → Prop} (h : wpAny M A t Q NE s) (k : ∀ a s', Q a s' → Q' a s') : wpAny M A t Q' NE s := wpAny_mono h k fun _ _ x => x
theorem ne_any {α : Type} {M : Model} {A : Around} {t : Sem α} {s : Shared} {Q : α → Shared → Prop} {E : Value → Shared → Prop} (h : wpAny M A t Q NE s) : wpAny M A t Q E s := wpAny_mono h (fun _ _ x => x) fun _ _ x => x.elim

/-- an expression -/
noncomputable def EV (C : Cx) (k : Nat) (sc : Scope) (e : Expr) (Γ : Gm) (σ : Ld) (Q : Vl → Ld → Prop) : Prop :=
  ∀ env A s, EnvOK sc env → OKA k A → St C env Γ σ s → wpAny (model C.prog C.w) A (eval e env) (VP C σ s Q) NE s
/-- a call's plain arguments -/
noncomputable def EVs (C : Cx) (k : Nat) (sc : Scope) (es : List Expr) (Γ : Gm) (σ : Ld) (Q : List Vl → Ld → Prop) : Prop :=
  ∀ env A s pos, EnvOK sc env → OKA k A → St C env Γ σ s → wpAny (model C.prog C.w) A (spliced (backTo pos (starEach es env))) (VPs C σ s Q) NE s
/-- a test -/
noncomputable def BT (C : Cx) (k : Nat) (sc : Scope) (e : Expr) (Γ : Gm) (σ : Ld) (Q : Bool → Ld → Prop) : Prop :=
  ∀ env A s, EnvOK sc env → OKA k A → St C env Γ σ s → wpAny (model C.prog C.w) A (isTrue e env (eval e env)) (BP C σ s Q) NE s

inductive Fl where
  | next | brk | cont | ret (v : Vl)
inductive FlR (h : Heap) : Fl → Flow → Prop
  | next : FlR h .next .next
  | brk : FlR h .brk .brk
  | cont : FlR h .cont .cont
  | ret {v r} : VR h v r → FlR h (.ret v) (.ret r)

noncomputable def XP (C : Cx) (env : Env) (σ : Ld) (s : Shared) (Q : Fl → Gm → Ld → Prop) (f : Flow) (s' : Shared) : Prop := ∃ g Γ' σ', ToX C env σ s Γ' σ' s' ∧ FlR s'.heap g f ∧ Q g Γ' σ'
theorem XP.after {C env σ s Γ₁ σ₁ s₁ Q f s'} (t : ToX C env σ s Γ₁ σ₁ s₁) (h : XP C env σ₁ s₁ Q f s') : XP C env σ s Q f s' := let ⟨g, Γ', σ', t', x, q⟩ := h; ⟨g, Γ', σ', t.trans t', x, q⟩
theorem XP.imp {C env σ s Q Q' f s'} (h : XP C env σ s Q f s') (k : ∀ g Γ σ, Q g Γ σ → Q' g Γ σ) : XP C env σ s Q' f s' := let ⟨g, Γ', σ', t', x, q⟩ := h; ⟨g, Γ', σ', t', x, k _ _ _ q⟩

/-- a statement; a block -/
noncomputable def EX1 (C : Cx) (k : Nat) (sc : Scope) (st : Stmt) (Γ : Gm) (σ : Ld) (Q : Fl → Gm → Ld → Prop) : Prop :=
  ∀ env A s, EnvOK sc env → OKA k A → St C env Γ σ s → wpAny (model C.prog C.w) A (exec st env) (XP C env σ s Q) NE s
noncomputable def EX (C : Cx) (k : Nat) (sc : Scope) (b : List Stmt) (Γ : Gm) (σ : Ld) (Q : Fl → Gm → Ld → Prop) : Prop :=
  ∀ env A s, EnvOK sc env → OKA k A → St C env Γ σ s → wpAny (model C.prog C.w) A (execs b env) (XP C env σ s Q) NE s
/-- a target is given a value -/
noncomputable def AS (C : Cx) (k : Nat) (sc : Scope) (t : Expr) (v : Vl) (Γ : Gm) (σ : Ld) (Q : Gm → Ld → Prop) : Prop :=
  ∀ env A s r, EnvOK sc env → OKA k A → St C env Γ σ s → VR s.heap v r → wpAny (model C.prog C.w) A (assign t env r) (fun _ s' => ∃ Γ' σ', ToX C env σ s Γ' σ' s' ∧ Q Γ' σ') NE s
/-- a call of a value -/
noncomputable def CL (C : Cx) (k : Nat) (f : Value) (args : List Vl) (σ : Ld) (Q : Vl → Ld → Prop) : Prop :=
  ∀ A s rs, OKA k A → Ok C σ s → VRs s.heap args rs → wpAny (model C.prog C.w) A (call f rs) (VP C σ s Q) NE s
noncomputable def CR (Q : Value → Shared → Prop) (r : Result) (s' : Shared) : Prop := match r with
  | .ok (.ret v) => Q v s'
  | .ok _ => False
  | .error _ => False
/-- a call of a def or a class, as code -/
noncomputable def CLc (C : Cx) (k : Nat) (f : Value) (args : List Vl) (σ : Ld) (Q : Vl → Ld → Prop) : Prop :=
  ∀ A s rs, OKA k A → Ok C σ s → VRs s.heap args rs → codeAny (model C.prog C.w) A (.call f ⟨rs, []⟩) (CR (VP C σ s Q)) s
theorem CLc.cl {C k f args σ Q} (h : CLc C k f args σ Q) : CL C k f args σ Q := fun A s rs hA hs hv => wpAny_call (codeAny_mono (h A s rs hA hs hv) fun r s' z => by
  rcases r with e | (v | _ | _ | _) <;> exact z)
/-- a tree that takes one, two, three values -/
noncomputable def T1 (C : Cx) (k : Nat) (t : Value → Sem Value) (a : Vl) (σ : Ld) (Q : Vl → Ld → Prop) : Prop :=
  ∀ A s ra, OKA k A → Ok C σ s → VR s.heap a ra → wpAny (model C.prog C.w) A (t ra) (VP C σ s Q) NE s
noncomputable def T2 (C : Cx) (k : Nat) (t : Value → Value → Sem Value) (a b : Vl) (σ : Ld) (Q : Vl → Ld → Prop) : Prop :=
  ∀ A s ra rb, OKA k A → Ok C σ s → VR s.heap a ra → VR s.heap b rb → wpAny (model C.prog C.w) A (t ra rb) (VP C σ s Q) NE s
noncomputable def TB (C : Cx) (k : Nat) (t : Value → Sem Bool) (a : Vl) (σ : Ld) (Q : Bool → Ld → Prop) : Prop :=
  ∀ A s ra, OKA k A → Ok C σ s → VR s.heap a ra → wpAny (model C.prog C.w) A (t ra) (BP C σ s Q) NE s
noncomputable def TU3 (C : Cx) (k : Nat) (t : Value → Value → Value → Sem Unit) (a b c : Vl) (σ : Ld) (Q : Ld → Prop) : Prop :=
  ∀ A s ra rb rc, OKA k A → Ok C σ s → VR s.heap a ra → VR s.heap b rb → VR s.heap c rc → wpAny (model C.prog C.w) A (t ra rb rc) (UP C σ s Q) NE s

inductive Lk (x : Str) (v : Vl) : Gm → Prop
  | head {Γ} : Lk x v ((x, some v) :: Γ)
  | tail {p Γ} : Lk x v Γ → Lk x v (p :: Γ)
theorem Lk.mem {x v Γ} (l : Lk x v Γ) : (x, some v) ∈ Γ := by
  induction l with
  | head => exact .head _
  | tail _ ih => exact .tail _ ih
theorem truthy_bool {M : Model} {A : Around} {E : Value → Shared → Prop} {s : Shared} {b : Bool} {Q : Bool → Shared → Prop} (h : Q b s) : wpAny M A (truthy (.bool b)) Q E s := fun _ _ _ => h

section
variable {C : Cx} {k : Nat} {sc : Scope} {Γ : Gm} {σ : Ld}

theorem EV.imp {e Q Q'} (h : EV C k sc e Γ σ Q) (q : ∀ v σ', Q v σ' → Q' v σ') : EV C k sc e Γ σ Q' := fun env A s he hA hs => ne_mono (h env A s he hA hs) fun _ _ x => x.imp q
theorem EX.imp {e Q Q'} (h : EX C k sc e Γ σ Q) (q : ∀ v Γ' σ', Q v Γ' σ' → Q' v Γ' σ') : EX C k sc e Γ σ Q' := fun env A s he hA hs => ne_mono (h env A s he hA hs) fun _ _ x => x.imp q

theorem ex_nil {Q} (h : Q .next Γ σ) : EX C k sc [] Γ σ Q := fun _ _ _ _ _ hs => wpAny_execs_nil ⟨.next, Γ, σ, .refl hs, .next, h⟩
theorem ex_cons {st rest Q} (h : EX1 C k sc st Γ σ (fun f Γ' σ' => match f with | .next => EX C k sc rest Γ' σ' Q | f => Q f Γ' σ')) : EX C k sc (st :: rest) Γ σ Q := by
  intro env A s he hA hs
  refine wpAny_execs_cons (ne_mono (h env A s he hA hs) ?_)
  rintro f s' ⟨g, Γ', σ', t, x, q⟩
  cases x with
  | next => exact ne_mono (q env A s' he hA (hs.toX t)) fun _ _ x => x.after t
  | brk => exact ⟨.brk, Γ', σ', t, .brk, q⟩
  | cont => exact ⟨.cont, Γ', σ', t, .cont, q⟩
  | ret v => exact ⟨_, Γ', σ', t, .ret v, q⟩
theorem ex_one {st Q} (h : EX1 C k sc st Γ σ Q) : EX C k sc [st] Γ σ Q := ex_cons fun env A s he hA hs => ne_mono (h env A s he hA hs) fun _ _ x => x.imp fun f Γ σ q => by cases f <;> first | exact q | exact ex_nil q
theorem ex_pass {pos Q} (h : Q .next Γ σ) : EX1 C k sc (.Pass pos) Γ σ Q := fun _ _ _ _ _ hs => wpAny_Pass ⟨.next, Γ, σ, .refl hs, .next, h⟩
theorem ex_break {pos Q} (h : Q .brk Γ σ) : EX1 C k sc (.Break pos) Γ σ Q := fun _ _ _ _ _ hs => wpAny_Break ⟨.brk, Γ, σ, .refl hs, .brk, h⟩
theorem ex_continue {pos Q} (h : Q .cont Γ σ) : EX1 C k sc (.Continue pos) Γ σ Q := fun _ _ _ _ _ hs => wpAny_Continue ⟨.cont, Γ, σ, .refl hs, .cont, h⟩
theorem ex_return {e pos Q} (h : EV C k sc e Γ σ (fun v σ' => Q (.ret v) Γ σ')) : EX1 C k sc (.Return (some e) pos) Γ σ Q := fun env A s he hA hs =>
  wpAny_Return_some (ne_mono (h env A s he hA hs) fun _ _ ⟨v, σ', t, x, q⟩ => ⟨.ret v, Γ, σ', t.toX hs, .ret x, q⟩)
theorem ex_if {test body orelse pos Q} (h : BT C k sc test Γ σ (fun b σ' => if b then EX C k sc body Γ σ' Q else EX C k sc orelse Γ σ' Q)) : EX1 C k sc (.If test body orelse pos) Γ σ Q := fun env A s he hA hs =>
  wpAny_If (ne_mono (h env A s he hA hs) fun b s' ⟨σ', t, q⟩ => by
    cases b with
    | true => exact ne_mono (q env A s' he hA (hs.to t)) fun _ _ x => x.after (t.toX hs)
    | false => exact ne_mono (q env A s' he hA (hs.to t)) fun _ _ x => x.after (t.toX hs))
theorem ex_expr {e pos Q} (h : EV C k sc e Γ σ (fun _ σ' => Q .next Γ σ')) (hs : swapsWith e none pos.line = fun _ => pure false := by rfl) : EX1 C k sc (.Expr e pos) Γ σ Q := fun env A s he hA hs' =>
  wpAny_Expr_any (ne_mono (h env A s he hA hs') fun _ _ ⟨v, σ', t, x, q⟩ => ⟨.next, Γ, σ', t.toX hs', .next, q⟩)
    (by show (env.scope.kind == .module && _) = false; rw [he.scope, he.kind]; rfl) (congrFun hs env)

theorem ev_int {i c pos Q} (h : Q (.int i) σ) : EV C k sc (.Constant (.int i) c pos) Γ σ Q := fun _ _ s _ _ hs =>
  wpAny_Constant_int ⟨.int i, σ, To.ext hs.ok (fun _ _ e => e) rfl rfl rfl, .int _ _, h⟩
theorem ev_str {i c pos Q} (h : Q (.str i) σ) : EV C k sc (.Constant (.str i) c pos) Γ σ Q := fun _ _ s _ _ hs =>
  wpAny_Constant_str ⟨.str i, σ, To.ext hs.ok (fun _ _ e => e) rfl rfl rfl, .str _ _, h⟩
theorem ev_bool {i c pos Q} (h : Q (.bool i) σ) : EV C k sc (.Constant (.bool i) c pos) Γ σ Q := fun _ _ s _ _ hs =>
  wpAny_Constant_bool ⟨.bool i, σ, To.refl hs.ok, .bool _, h⟩
theorem ev_none {c pos Q} (h : Q .none σ) : EV C k sc (.Constant .none c pos) Γ σ Q := fun _ _ s _ _ hs =>
  wpAny_Constant_none ⟨.none, σ, To.refl hs.ok, .none, h⟩


theorem Var.load {env A s x r} {Q : Value → Shared → Prop} (he : EnvOK sc env) (v : Var env s.heap x r) (h : Q r s) (hx : (x == ("__classdict__" : Str)) = false) : wpAny (model C.prog C.w) A (loadName env x) Q NE s := by
  have hk : env.scope.kind = .function := he.scope ▸ he.kind
  rcases v with ⟨a, m, n, e⟩ | ⟨a | a, c, e, o⟩
  · exact wpAny_loadName_local hk a n e h
  · exact wpAny_loadName_cell hk a e o h
  · exact wpAny_loadName_free hk a e o h hx

theorem ev_name {x v pos Q} (l : Lk x v Γ) (h : Q v σ) (hd : (x == ("__debug__" : Str)) = false := by decide) (hx : (x == ("__classdict__" : Str)) = false := by decide) : EV C k sc (.Name x pos) Γ σ Q := fun env A s he hA hs => by
  obtain ⟨r, a, b⟩ := hs.fr.vars x v l.mem
  exact wpAny_Name (Var.load he a ⟨v, σ, .refl hs.ok, b, h⟩ hx) hd
theorem ev_global {x v pos Q} (hx : sc.names.lookup x = some .globalImplicit) (e : nsIn C.K mainGlobals x = some (some v)) (h : Q (.con v) σ) (hd : (x == ("__debug__" : Str)) = false := by decide) : EV C k sc (.Name x pos) Γ σ Q := fun env A s he hA hs =>
  Name_function_global (he.scope ▸ he.kind) (by show env.scope.names.lookup x = _; rw [he.scope]; exact hx)
    (loadGlobal_global (mg := C.mg) (v := v) (by rw [he.globals]; exact C.hg.keeps hs.ok.ext) (mg_of C.X C.hg e) ⟨.con v, σ, .refl hs.ok, .con v, h⟩) hd
theorem ev_builtin {x v pos Q} (hx : sc.names.lookup x = some .globalImplicit) (e : nsIn C.K mainGlobals x = some none) (hv : bootBuiltins x = some v) (hn : x ≠ "__name__") (h : Q (.con v) σ) (hd : (x == ("__debug__" : Str)) = false := by decide) : EV C k sc (.Name x pos) Γ σ Q := fun env A s he hA hs =>
  Name_function_global (he.scope ▸ he.kind) (by show env.scope.names.lookup x = _; rw [he.scope]; exact hx)
    (loadGlobal_builtin (mg := C.mg) (mb := C.mb) (v := v) (by rw [he.globals]; exact C.hg.keeps hs.ok.ext) (mg_none_of C.X C.hg e) (by rw [he.builtins]; exact C.hb.keeps hs.ok.ext) ((C.hbi x hn).trans hv) ⟨.con v, σ, .refl hs.ok, .con v, h⟩) hd

theorem evs_nil {Q} (h : Q [] σ) : EVs C k sc [] Γ σ Q := fun _ _ _ _ _ _ hs => spliced_nil ⟨[], σ, .refl hs.ok, .nil, h⟩
theorem evs_cons {e es Q} (h : EV C k sc e Γ σ (fun v σ₁ => EVs C k sc es Γ σ₁ (fun vs σ₂ => Q (v :: vs) σ₂))) (hst : starEach (e :: es) = fun env => (false, eval e env) :: starEach es env := by rfl) : EVs C k sc (e :: es) Γ σ Q := fun env A s pos he hA hs => by
  rw [congrFun hst env]
  refine spliced_cons (ne_mono (h env A s he hA hs) ?_)
  rintro r s₁ ⟨v, σ₁, t₁, x₁, q₁⟩
  refine ne_mono (q₁ env A s₁ pos he hA (hs.to t₁)) ?_
  rintro rs s₂ ⟨vs, σ₂, t₂, x₂, q₂⟩
  exact ⟨v :: vs, σ₂, t₁.trans t₂, .cons (x₁.to t₁.ok t₂) x₂, q₂⟩

theorem ev_binop {l op r pos Q} (h : EV C k sc l Γ σ (fun a σ₁ => EV C k sc r Γ σ₁ (fun b σ₂ => T2 C k (binaryOp op) a b σ₂ Q))) : EV C k sc (.BinOp l op r pos) Γ σ Q := fun env A s he hA hs => by
  refine wpAny_BinOp (ne_mono (h env A s he hA hs) ?_)
  rintro ra s₁ ⟨a, σ₁, t₁, x₁, q₁⟩
  refine ne_mono (q₁ env A s₁ he hA (hs.to t₁)) ?_
  rintro rb s₂ ⟨b, σ₂, t₂, x₂, q₂⟩
  exact ne_mono (q₂ A s₂ ra rb hA t₂.ok (x₁.to t₁.ok t₂) x₂) fun _ _ x => (x.after t₂).after t₁
theorem ev_compare {l op r pos Q} (h : EV C k sc l Γ σ (fun a σ₁ => EV C k sc r Γ σ₁ (fun b σ₂ => T2 C k (compareOp op) a b σ₂ Q))) (hm : behindInMarks op r = false := by with_unfolding_all rfl) : EV C k sc (.Compare l [op] [r] pos) Γ σ Q := fun env A s he hA hs => by
  refine wpAny_Compare1 (ne_mono (h env A s he hA hs) ?_) hm
  rintro ra s₁ ⟨a, σ₁, t₁, x₁, q₁⟩
  refine ne_mono (q₁ env A s₁ he hA (hs.to t₁)) ?_
  rintro rb s₂ ⟨b, σ₂, t₂, x₂, q₂⟩
  exact ne_mono (q₂ A s₂ ra rb hA t₂.ok (x₁.to t₁.ok t₂) x₂) fun _ _ x => (x.after t₂).after t₁
theorem bt_compare {l op r pos} {Q : Bool → Ld → Prop} (h : EV C k sc l Γ σ (fun a σ₁ => EV C k sc r Γ σ₁ (fun b σ₂ => T2 C k (compareOp op) a b σ₂ (fun v σ₃ => ∃ c, v = .bool c ∧ Q c σ₃)))) (hm : behindInMarks op r = false := by with_unfolding_all rfl) : BT C k sc (.Compare l [op] [r] pos) Γ σ Q := fun env A s he hA hs => by
  refine wpAny_isTrue_Compare1 (ne_mono (h env A s he hA hs) ?_) hm
  rintro ra s₁ ⟨a, σ₁, t₁, x₁, q₁⟩
  refine ne_mono (q₁ env A s₁ he hA (hs.to t₁)) ?_
  rintro rb s₂ ⟨b, σ₂, t₂, x₂, q₂⟩
  refine ne_mono (q₂ A s₂ ra rb hA t₂.ok (x₁.to t₁.ok t₂) x₂) ?_
  rintro rc s₃ ⟨v, σ₃, t₃, x₃, c, rfl, q₃⟩
  cases x₃
  exact truthy_bool ⟨σ₃, (t₁.trans t₂).trans t₃, q₃⟩
theorem bt_value {e} {Q : Bool → Ld → Prop} (h : EV C k sc e Γ σ (fun v σ₁ => TB C k truthy v σ₁ Q)) (hp : ∀ env whole, isTrue e env whole = (do let v ← whole; standAt e.pos; holding [v] (truthy v)) := by intro _ _; rfl) : BT C k sc e Γ σ Q := fun env A s he hA hs => by
  refine wpAny_isTrue_value (ne_mono (h env A s he hA hs) ?_) (hp _ _)
  rintro r s₁ ⟨v, σ₁, t₁, x₁, q₁⟩
  exact ne_mono (q₁ A s₁ r hA t₁.ok x₁) fun _ _ x => x.after t₁
theorem bt_not {e pos} {Q : Bool → Ld → Prop} (h : BT C k sc e Γ σ (fun b => Q (!b))) : BT C k sc (.UnaryOp .Not e pos) Γ σ Q := fun env A s he hA hs =>
  wpAny_isTrue_Not (ne_mono (h env A s he hA hs) fun _ _ ⟨σ', t, q⟩ => ⟨σ', t, q⟩)
theorem ev_ifexp {t b o pos Q} (h : BT C k sc t Γ σ (fun c σ' => if c then EV C k sc b Γ σ' Q else EV C k sc o Γ σ' Q)) : EV C k sc (.IfExp t b o pos) Γ σ Q := fun env A s he hA hs =>
  wpAny_IfExp (ne_mono (h env A s he hA hs) fun c s' ⟨σ', t, q⟩ => by
    cases c <;> exact ne_mono (q env A s' he hA (hs.to t)) fun _ _ x => x.after t)

theorem tb_bool {b} {Q : Bool → Ld → Prop} (h : Q b σ) : TB C k truthy (.bool b) σ Q := fun A s r hA hs x => by
  cases x; exact truthy_bool ⟨σ, .refl hs, h⟩
theorem tb_int {i} {Q : Bool → Ld → Prop} (h : Q (i != 0) σ) : TB C k truthy (.int i) σ Q := fun A s r hA hs x => by
  cases x; exact truthy_int ⟨σ, .refl hs, h⟩
end

inductive UpdG (x : Str) (v : Option Vl) : Gm → Gm → Prop
  | head {u Γ} : UpdG x v ((x, u) :: Γ) ((x, v) :: Γ)
  | tail {p Γ Γ'} : UpdG x v Γ Γ' → UpdG x v (p :: Γ) (p :: Γ')
theorem UpdG.fst {x v Γ Γ'} (u : UpdG x v Γ Γ') : Γ'.map Prod.fst = Γ.map Prod.fst := by
  induction u with
  | head => rfl
  | tail _ ih => exact congrArg (_ :: ·) ih
theorem UpdG.has {x v Γ Γ'} (u : UpdG x v Γ Γ') : x ∈ Γ.map Prod.fst := by
  induction u with
  | head => exact .head _
  | tail _ ih => exact .tail _ ih
theorem UpdG.mem {x v Γ Γ'} (w : UpdG x v Γ Γ') (nd : (Γ.map Prod.fst).Nodup) (y : Str) (u : Option Vl) (h : (y, u) ∈ Γ') : (y = x ∧ u = v) ∨ (y ≠ x ∧ (y, u) ∈ Γ) := by
  induction w with
  | head =>
    rcases List.mem_cons.mp h with g | g
    · cases g; exact .inl ⟨rfl, rfl⟩
    · exact .inr ⟨fun e => (List.nodup_cons.mp nd).1 (List.mem_map.mpr ⟨_, g, e⟩), .tail _ g⟩
  | tail w ih =>
    rcases List.mem_cons.mp h with h | h
    · cases h
      exact .inr ⟨fun e => (List.nodup_cons.mp nd).1 (e ▸ w.has), .head _⟩
    · exact (ih (List.nodup_cons.mp nd).2 h).imp_right fun q => ⟨q.1, .tail _ q.2⟩
noncomputable def isStore : Option NameKind → Bool
  | some .local => true
  | some .cell => true
  | _ => false

theorem lookup_inj {l : List (Str × Addr)} (nd : (l.map (·.2)).Nodup) {x y : Str} {c : Addr} (h : l.lookup x = some c) (g : l.lookup y = some c) : x = y := by
  have a := mem_of_lookup h
  have b := mem_of_lookup g
  clear h g
  induction l with
  | nil => cases a
  | cons p l ih =>
    have nd' := List.nodup_cons.mp (show (p.2 :: l.map (·.2)).Nodup from nd)
    rcases List.mem_cons.mp a with a' | a' <;> rcases List.mem_cons.mp b with b' | b'
    · cases a'; cases b'; rfl
    · cases a'; exact absurd (List.mem_map.mpr ⟨(y, c), b', rfl⟩ : c ∈ l.map (·.2)) nd'.1
    · cases b'; exact absurd (List.mem_map.mpr ⟨(x, c), a', rfl⟩ : c ∈ l.map (·.2)) nd'.1
    · exact ih nd'.2 a' b'

section
variable {C : Cx} {k : Nat} {sc : Scope} {Γ Γ' : Gm} {σ : Ld} {env : Env} {s : Shared} {A : Around}

/-- a step that turns the frame alone -/
theorem St.frame {s' : Shared} (hs : St C env Γ σ s) (h : ∀ a o, a ∉ fa env → s.heap.get? a = some o → s'.heap.get? a = some o) (hg : s'.gens = s.gens) (hd : s'.drawn = s.drawn) (ho : s'.os = s.os) (f : FR env Γ' s'.heap) : ToX C env σ s Γ' σ s' := by
  have kp : Keep (fps σ ++ fa env) s s' := ⟨fun a o n e => h a o (fun q => n (List.mem_append_right _ q)) e, fun a o e => by
    by_cases q : a ∈ fa env
    · obtain ⟨o', e', _⟩ := f.alive a q; exact ⟨o', e'⟩
    · exact ⟨o, h a o q e⟩⟩
  have tk : TupKeep s.heap s'.heap := fun a items x => by
    have n : a ∉ fa env := fun ha => by
      obtain ⟨o, e, q⟩ := hs.fr.alive a ha
      obtain ⟨o', e', c, m, d⟩ := x
      cases e.symm.trans e'
      exact q _ _ d
    obtain ⟨o, e, r⟩ := x
    exact ⟨o, h a o n e, r⟩
  refine ⟨⟨fun b o e => h b o (fun q => ?_) (hs.ok.ext b o e), hg.trans hs.ok.gens, hd.trans hs.ok.drawn, ho.trans hs.ok.os, fun p hp => (hs.ok.cells p hp).keep tk fun b hb x e => h b x (fun q => hs.dis b q (mem_fps hp hb)) e, hs.ok.nd, hs.ok.new, hs.ok.nomod⟩, kp, fun a ha => .inl ha, f⟩
  have := hs.fnew b q; rw [e] at this; cases this

theorem St.tup_frame {s' : Shared} (hs : St C env Γ σ s) (h : ∀ a o, a ∉ fa env → s.heap.get? a = some o → s'.heap.get? a = some o) : TupKeep s.heap s'.heap := fun a items x => by
  have n : a ∉ fa env := fun ha => by
    obtain ⟨o, e, q⟩ := hs.fr.alive a ha
    obtain ⟨o', e', c, m, d⟩ := x
    cases e.symm.trans e'
    exact q _ _ d
  obtain ⟨o, e, r⟩ := x
  exact ⟨o, h a o n e, r⟩

theorem store_to {x : Str} {v : Vl} {r : Value} {Q : Unit → Shared → Prop} (he : EnvOK sc env) (hs : St C env Γ σ s) (u : UpdG x (some v) Γ Γ') (hk : isStore (sc.names.lookup x) = true) (hv : VR s.heap v r)
    (h : ∀ s', ToX C env σ s Γ' σ s' → Q () s') : wpAny (model C.prog C.w) A (storeName env x r) Q NE s := by
  have hkd : env.kindOf x = sc.names.lookup x := by show env.scope.names.lookup x = _; rw [he.scope]
  cases q : sc.names.lookup x with
  | none => rw [q] at hk; cases hk
  | some kd =>
    cases kd with
    | «local» =>
      obtain ⟨m, n⟩ := hs.fr.ns
      refine wpAny_storeName_local (hkd.trans q) n (fun h' n' sb => h _ ?_) (by rw [he.scope, he.kind]; rfl)
      have same : ∀ a o, a ≠ env.locals → s.heap.get? a = some o → h'.get? a = some o := fun a o na e => (sb.2 a na).trans e
      have tk := hs.tup_frame (s' := { s with heap := h', toks := s.toks + 1 }) fun a o na e => same a o (fun z => na (z ▸ List.Mem.head _)) e
      have cellne : ∀ c v, s.heap.IsCell c v → c ≠ env.locals := fun c v ⟨o, e, d⟩ z => by
        obtain ⟨o', es, ep, e', d', _⟩ := n
        subst z
        cases e.symm.trans e'
        rw [d] at d'; cases d'
      refine hs.frame (fun a o na e => same a o (fun z => na (z ▸ List.Mem.head _)) e) rfl rfl rfl ⟨⟨_, n'⟩, fun p hp => ?_, hs.fr.own, fun y v' hy => ?_, by rw [u.fst]; exact hs.fr.nd, hs.fr.cnd⟩
      · obtain ⟨v', o, e, d⟩ := hs.fr.cells p hp
        exact ⟨v', o, same _ _ (cellne _ _ ⟨o, e, d⟩) e, d⟩
      · rcases u.mem hs.fr.nd y _ hy with ⟨rfl, e⟩ | ⟨ny, hy⟩
        · cases e
          exact ⟨r, .inl ⟨hkd.trans q, _, n', if_pos rfl⟩, hv.keep tk⟩
        · obtain ⟨ry, a, b⟩ := hs.fr.vars y v' hy
          refine ⟨ry, ?_, b.keep tk⟩
          rcases a with ⟨a, m', n'', e⟩ | ⟨a, c, e, o, ho, d⟩
          · cases ns_fun n n''
            exact .inl ⟨a, _, n', (if_neg ny).trans e⟩
          · exact .inr ⟨a, c, e, o, same _ _ (cellne _ _ ⟨o, ho, d⟩) ho, d⟩
    | cell =>
      obtain ⟨c, hc⟩ := hs.fr.own x (hkd.trans q)
      have hm := mem_of_lookup hc
      obtain ⟨v0, hv0⟩ := hs.fr.cells _ hm
      refine wpAny_storeName_cell (he.scope ▸ he.kind) (hkd.trans q) hc hv0 fun h' hv' sb => h _ ?_
      have hcf : c ∈ fa env := List.Mem.tail _ (List.mem_map.mpr ⟨_, hm, rfl⟩)
      have same : ∀ a o, a ≠ c → s.heap.get? a = some o → h'.get? a = some o := fun a o na e => (sb.2 a na).trans e
      have tk := hs.tup_frame (s' := { s with heap := h' }) fun a o na e => same a o (fun z => na (z ▸ hcf)) e
      have nsne : ∀ m, s.heap.Ns env.locals m → env.locals ≠ c := fun m ⟨o, es, ep, e, d, _⟩ z => by
        obtain ⟨o', e', d'⟩ := hv0
        rw [z] at e
        cases e.symm.trans e'
        rw [d] at d'; cases d'
      refine hs.frame (fun a o na e => same a o (fun z => na (z ▸ hcf)) e) rfl rfl rfl ⟨?_, fun p hp => ?_, hs.fr.own, fun y v' hy => ?_, by rw [u.fst]; exact hs.fr.nd, hs.fr.cnd⟩
      · obtain ⟨m, n⟩ := hs.fr.ns
        exact ⟨m, n.sameBut sb (nsne m n)⟩
      · by_cases z : p.2 = c
        · rw [z]; exact ⟨_, hv'⟩
        · obtain ⟨v', o, e, d⟩ := hs.fr.cells p hp
          exact ⟨v', o, same _ _ z e, d⟩
      · rcases u.mem hs.fr.nd y _ hy with ⟨rfl, e⟩ | ⟨ny, hy⟩
        · cases e
          exact ⟨r, .inr ⟨.inl (hkd.trans q), c, hc, hv'⟩, hv.keep tk⟩
        · obtain ⟨ry, a, b⟩ := hs.fr.vars y v' hy
          refine ⟨ry, ?_, b.keep tk⟩
          rcases a with ⟨a, m', n'', e⟩ | ⟨a, c', e, o, ho, d⟩
          · exact .inl ⟨a, m', n''.sameBut sb (nsne m' n''), e⟩
          · refine .inr ⟨a, c', e, o, same _ _ (fun z => ny ?_) ho, d⟩
            rw [z] at e
            exact lookup_inj hs.fr.cnd e hc
    | _ => rw [q] at hk; cases hk

/-- forget a name's value -/
inductive Wk : Gm → Gm → Prop
  | nil : Wk [] []
  | keep {p Γ Γ'} : Wk Γ Γ' → Wk (p :: Γ) (p :: Γ')
  | drop {x u Γ Γ'} : Wk Γ Γ' → Wk ((x, u) :: Γ) ((x, none) :: Γ')
theorem Wk.refl : ∀ {Γ}, Wk Γ Γ
  | [] => .nil
  | _ :: _ => .keep Wk.refl
theorem Wk.fst {Γ Γ'} (w : Wk Γ Γ') : Γ'.map Prod.fst = Γ.map Prod.fst := by
  induction w with
  | nil => rfl
  | keep _ ih => exact congrArg (_ :: ·) ih
  | drop _ ih => exact congrArg (_ :: ·) ih
theorem Wk.mem {Γ Γ'} (w : Wk Γ Γ') {x v} (q : (x, some v) ∈ Γ') : (x, some v) ∈ Γ := by
  induction w with
  | nil => exact q
  | keep _ ih =>
    rcases List.mem_cons.mp q with q | q
    · exact q ▸ .head _
    · exact .tail _ (ih q)
  | drop _ ih =>
    rcases List.mem_cons.mp q with q | q
    · cases q
    · exact .tail _ (ih q)
theorem FR.wk {h : Heap} (f : FR env Γ h) (w : Wk Γ Γ') : FR env Γ' h := ⟨f.ns, f.cells, f.own, fun x v q => f.vars x v (w.mem q), by rw [w.fst]; exact f.nd, f.cnd⟩
theorem ToX.wk {s' σ'} (t : ToX C env σ s Γ σ' s') (w : Wk Γ Γ') : ToX C env σ s Γ' σ' s' := ⟨t.ok, t.keep, t.fresh, t.fr.wk w⟩
theorem ToX.sub {s' σ' σ''} (t : ToX C env σ s Γ σ' s') (h : σ''.Sublist σ') : ToX C env σ s Γ σ'' s' := ⟨t.ok.sub h, t.keep, fun a ha => t.fresh a ((fps_sub h).subset ha), t.fr⟩
theorem St.wk {s} (t : St C env Γ σ s) (w : Wk Γ Γ') : St C env Γ' σ s := ⟨t.ok, t.fr.wk w, t.dis, t.fnew⟩

theorem ex_assign {x pos' value pos Q} (h : EV C k sc value Γ σ (fun v σ' => ∃ Γ', UpdG x (some v) Γ Γ' ∧ Q .next Γ' σ')) (hk : isStore (sc.names.lookup x) = true)
    (hs : ∀ env, EnvOK sc env → swapsWith value (some (.Name x pos')) pos.line env = pure false := by intro _ _; rfl) : EX1 C k sc (.Assign [.Name x pos'] value pos) Γ σ Q := fun env A s he hA hs' => by
  refine wpAny_Assign_Name (ne_mono (h env A s he hA hs') ?_) (hs env he)
  rintro r s₁ ⟨v, σ₁, t₁, x₁, Γ', u, q⟩
  exact store_to he (hs'.to t₁) u hk x₁ fun s' t => ⟨.next, Γ', σ₁, (t₁.toX hs').trans t, .next, q⟩
theorem as_name {x v pos Q} (u : UpdG x (some v) Γ Γ') (hk : isStore (sc.names.lookup x) = true) (h : Q Γ' σ) : AS C k sc (.Name x pos) v Γ σ Q := fun env A s r he hA hs hv =>
  wpAny_assign_Name (store_to he hs u hk hv fun s' t => ⟨Γ', σ, t, h⟩)

/-- the targets of a display, each given its value -/
noncomputable def ASs (C : Cx) (k : Nat) (sc : Scope) (ts : List Expr) (vs : List Vl) (Γ : Gm) (σ : Ld) (Q : Gm → Ld → Prop) : Prop :=
  ∀ env A s rs, EnvOK sc env → OKA k A → St C env Γ σ s → VRs s.heap vs rs → wpAny (model C.prog C.w) A (assignInOrder ((assignEach ts env).map (·.2)) rs) (fun _ s' => ∃ Γ' σ', ToX C env σ s Γ' σ' s' ∧ Q Γ' σ') NE s
theorem ass_nil {Q} (h : Q Γ σ) : ASs C k sc [] [] Γ σ Q := fun env A s rs he hA hs hv => by
  cases hv; exact wpAny_assignInOrder_none ⟨Γ, σ, .refl hs, h⟩
theorem ass_cons {t ts v vs Q} (h : AS C k sc t v Γ σ (fun Γ' σ' => ASs C k sc ts vs Γ' σ' Q)) (hst : assignEach (t :: ts) = fun env => (false, assign t env) :: assignEach ts env := by rfl) : ASs C k sc (t :: ts) (v :: vs) Γ σ Q := fun env A s rs he hA hs hv => by
  cases hv with
  | cons a b =>
    rw [congrFun hst env]
    refine wpAny_assignInOrder_more (ne_mono (h env A s _ he hA hs a) ?_)
    rintro _ s₁ ⟨Γ₁, σ₁, t₁, q⟩
    refine ne_mono (q env A s₁ _ he hA (hs.toX t₁) (b.keep (hs.tupKeepX t₁))) ?_
    rintro _ s₂ ⟨Γ₂, σ₂, t₂, q⟩
    exact ⟨Γ₂, σ₂, t₁.trans t₂, q⟩
theorem extBut_size {h h' : Heap} (x : Heap.ExtBut h.objs.size h h') : ∀ a o, h.get? a = some o → h'.get? a = some o := fun a o e => x a o (Nat.ne_of_lt (Heap.lt_size e)) e
noncomputable def plainTargets : List Expr → Bool
  | [] => true
  | .Starred .. :: _ => false
  | _ :: r => plainTargets r
theorem plainTargets_spec : ∀ {ts : List Expr} {env : Env}, plainTargets ts = true → (assignEach ts env).length = ts.length ∧ ∀ i, (assignEach ts env).findIdx? (·.1) = i → i = none
  | [], env, _ => ⟨rfl, fun i h => h.symm.trans rfl⟩
  | t :: ts, env, h => by
    have e : assignEach (t :: ts) env = (false, assign t env) :: assignEach ts env := by cases t <;> first | rfl | cases h
    have h' : plainTargets ts = true := by cases t <;> first | exact h | cases h
    obtain ⟨a, b⟩ := plainTargets_spec (env := env) h'
    rw [e]
    refine ⟨by simp [a], fun i hi => ?_⟩
    subst hi
    rw [List.findIdx?_cons]
    simp [b _ rfl]
theorem as_tuple {ts c pos vs Q} (h : ASs C k sc ts vs Γ σ Q) (hl : ts.length = vs.length) (hp : plainTargets ts = true) : AS C k sc (.Tuple ts c pos) (.tup vs) Γ σ Q := fun env A s r he hA hs hv => by
  cases hv with
  | @tup l a rs it vr =>
    obtain ⟨p1, p2⟩ := plainTargets_spec (env := env) hp
    refine wpAny_assign_Tuple hA.handled it (by rw [p1, hl, List.size_toArray, vr.length]) (p2 _ rfl) fun h' ext => ?_
    have t := To.ext (s' := { s with heap := h' }) hs.ok (extBut_size ext) rfl rfl rfl
    refine ne_mono (h env A _ rs he hA (hs.to t) (vr.to hs.ok t)) ?_
    rintro _ s₂ ⟨Γ₂, σ₂, t₂, q⟩
    exact ⟨Γ₂, σ₂, (t.toX hs).trans t₂, q⟩
theorem ex_assign_tuple {ts c tpos value pos Q} (h : EV C k sc value Γ σ (fun v σ' => AS C k sc (.Tuple ts c tpos) v Γ σ' (fun Γ' σ' => Q .next Γ' σ')))
    (hs : swapsWithSole [.Tuple ts c tpos] value pos.line = fun _ => pure false := by rfl)
    (hw : ∀ env, EnvOK sc env → swappedStores [.Tuple ts c tpos] value env = pure none := by intro _ _; rfl) : EX1 C k sc (.Assign [.Tuple ts c tpos] value pos) Γ σ Q := fun env A s he hA hs' => by
  refine Assign_Tuple (ne_mono (h env A s he hA hs') ?_) (congrFun hs env) (hw env he)
  rintro r s₁ ⟨v, σ₁, t₁, x₁, q⟩
  refine ne_mono (q env A s₁ r he hA (hs'.to t₁) x₁) ?_
  rintro _ s₂ ⟨Γ₂, σ₂, t₂, q⟩
  exact ⟨.next, Γ₂, σ₂, (t₁.toX hs').trans t₂, .next, q⟩
theorem ex_aug_name {x pos' op value pos v Q} (l : Lk x v Γ) (h : EV C k sc value Γ σ (fun b σ₁ => T2 C k (inplaceOp op) v b σ₁ (fun r σ₂ => ∃ Γ', UpdG x (some r) Γ Γ' ∧ Q .next Γ' σ₂))) (hk : isStore (sc.names.lookup x) = true)
    (hx : (x == ("__classdict__" : Str)) = false := by decide) : EX1 C k sc (.AugAssign (.Name x pos') op value pos) Γ σ Q := fun env A s he hA hs => by
  obtain ⟨r, a, b⟩ := hs.fr.vars x v l.mem
  refine wpAny_AugAssign_Name (Var.load he a ?_ hx)
  refine ne_mono (h env A s he hA hs) ?_
  rintro rb s₁ ⟨vb, σ₁, t₁, x₁, q⟩
  refine ne_mono (q A s₁ _ _ hA t₁.ok (b.to hs.ok t₁) x₁) ?_
  rintro rr s₂ ⟨vr, σ₂, t₂, x₂, Γ', u, q⟩
  exact store_to he ((hs.to t₁).to t₂) u hk x₂ fun s' t => ⟨.next, Γ', σ₂, ((t₁.trans t₂).toX hs).trans t, .next, q⟩
theorem ex_assign_sub {o i pos' value pos Q} (h : EV C k sc value Γ σ (fun v σ₁ => EV C k sc o Γ σ₁ (fun ov σ₂ => EV C k sc i Γ σ₂ (fun iv σ₃ => TU3 C k setItem ov iv v σ₃ (fun σ₄ => Q .next Γ σ₄)))))
    (hs : swapsWith value (some (.Subscript o i pos')) pos.line = fun _ => pure false := by rfl) : EX1 C k sc (.Assign [.Subscript o i pos'] value pos) Γ σ Q := fun env A s he hA hs' => by
  refine wpAny_Assign_Subscript (ne_mono (h env A s he hA hs') ?_) (congrFun hs env)
  rintro r s₁ ⟨v, σ₁, t₁, x₁, q⟩
  refine ne_mono (q env A s₁ he hA (hs'.to t₁)) ?_
  rintro ro s₂ ⟨vo, σ₂, t₂, x₂, q⟩
  refine ne_mono (q env A s₂ he hA ((hs'.to t₁).to t₂)) ?_
  rintro ri s₃ ⟨vi, σ₃, t₃, x₃, q⟩
  refine ne_mono (q A s₃ ro ri r hA t₃.ok (x₂.to t₂.ok t₃) x₃ ((x₁.to t₁.ok t₂).to t₂.ok t₃)) ?_
  rintro _ s₄ ⟨σ₄, t₄, q⟩
  exact ⟨.next, Γ, σ₄, (((t₁.trans t₂).trans t₃).trans t₄).toX hs', .next, q⟩
theorem ex_aug_sub {o i value tpos pos op Q} (h : EV C k sc o Γ σ (fun ov σ₁ => EV C k sc i Γ σ₁ (fun iv σ₂ => T2 C k getItem ov iv σ₂ (fun old σ₃ => EV C k sc value Γ σ₃ (fun v σ₄ => T2 C k (inplaceOp op) old v σ₄ (fun new σ₅ =>
      TU3 C k setItem ov iv new σ₅ (fun σ₆ => Q .next Γ σ₆)))))))
    (hi : ∀ ov iv new, augStore i ov iv new = (do holding [new, ov, iv] (setItem ov iv new); release [new, ov, iv] []; pure .next) := by intros; rfl) : EX1 C k sc (.AugAssign (.Subscript o i tpos) op value pos) Γ σ Q := fun env A s he hA hs' => by
  refine wpAny_AugAssign_SubscriptAny (ne_mono (h env A s he hA hs') ?_) hi
  rintro ro s₁ ⟨vo, σ₁, t₁, x₁, q⟩
  refine ne_mono (q env A s₁ he hA (hs'.to t₁)) ?_
  rintro ri s₂ ⟨vi, σ₂, t₂, x₂, q⟩
  have xo2 := x₁.to t₁.ok t₂
  refine ne_mono (q A s₂ ro ri hA t₂.ok xo2 x₂) ?_
  rintro rold s₃ ⟨old, σ₃, t₃, x₃, q⟩
  refine ne_mono (q env A s₃ he hA (((hs'.to t₁).to t₂).to t₃)) ?_
  rintro rv s₄ ⟨v, σ₄, t₄, x₄, q⟩
  refine ne_mono (q A s₄ rold rv hA t₄.ok (x₃.to t₃.ok t₄) x₄) ?_
  rintro rn s₅ ⟨new, σ₅, t₅, x₅, q⟩
  refine ne_mono (q A s₅ ro ri rn hA t₅.ok (((xo2.to t₂.ok t₃).to t₃.ok t₄).to t₄.ok t₅) (((x₂.to t₂.ok t₃).to t₃.ok t₄).to t₄.ok t₅) x₅) ?_
  rintro _ s₆ ⟨σ₆, t₆, q⟩
  exact ⟨.next, Γ, σ₆, (((((t₁.trans t₂).trans t₃).trans t₄).trans t₅).trans t₆).toX hs', .next, q⟩
theorem ex_assign_attr {o attr pos' value pos Q} (h : EV C k sc value Γ σ (fun v σ₁ => EV C k sc o Γ σ₁ (fun ov σ₂ => TU3 C k (fun a b _ => setAttr a attr b) ov v .none σ₂ (fun σ₄ => Q .next Γ σ₄))))
    (hs : swapsWith value (some (.Attribute o attr pos')) pos.line = fun _ => pure false := by rfl) : EX1 C k sc (.Assign [.Attribute o attr pos'] value pos) Γ σ Q := fun env A s he hA hs' => by
  refine plainObj_wpAny_Assign_Attribute (ne_mono (h env A s he hA hs') ?_) (congrFun hs env)
  rintro r s₁ ⟨v, σ₁, t₁, x₁, q⟩
  refine ne_mono (q env A s₁ he hA (hs'.to t₁)) ?_
  rintro ro s₂ ⟨vo, σ₂, t₂, x₂, q⟩
  refine ne_mono (q A s₂ ro r .none hA t₂.ok x₂ (x₁.to t₁.ok t₂) .none) ?_
  rintro _ s₄ ⟨σ₄, t₄, q⟩
  exact ⟨.next, Γ, σ₄, ((t₁.trans t₂).trans t₄).toX hs', .next, q⟩
theorem ex_aug_attr {o attr value tpos pos op Q} (h : EV C k sc o Γ σ (fun ov σ₁ => T1 C k (fun a => getAttr a attr true) ov σ₁ (fun old σ₂ => EV C k sc value Γ σ₂ (fun v σ₃ => T2 C k (inplaceOp op) old v σ₃ (fun new σ₄ =>
      TU3 C k (fun a b _ => setAttr a attr b) ov new .none σ₄ (fun σ₅ => Q .next Γ σ₅)))))) : EX1 C k sc (.AugAssign (.Attribute o attr tpos) op value pos) Γ σ Q := fun env A s he hA hs' => by
  refine wpAny_AugAssign_AttributeAny (ne_mono (h env A s he hA hs') ?_)
  rintro ro s₁ ⟨vo, σ₁, t₁, x₁, q⟩
  refine ne_mono (q A s₁ ro hA t₁.ok x₁) ?_
  rintro rold s₂ ⟨old, σ₂, t₂, x₂, q⟩
  refine ne_mono (q env A s₂ he hA ((hs'.to t₁).to t₂)) ?_
  rintro rv s₃ ⟨v, σ₃, t₃, x₃, q⟩
  refine ne_mono (q A s₃ rold rv hA t₃.ok (x₂.to t₂.ok t₃) x₃) ?_
  rintro rn s₄ ⟨new, σ₄, t₄, x₄, q⟩
  refine ne_mono (q A s₄ ro rn .none hA t₄.ok (((x₁.to t₁.ok t₂).to t₂.ok t₃).to t₃.ok t₄) x₄ .none) ?_
  rintro _ s₅ ⟨σ₅, t₅, q⟩
  exact ⟨.next, Γ, σ₅, ((((t₁.trans t₂).trans t₃).trans t₄).trans t₅).toX hs', .next, q⟩

/-- weakening ahead of a statement -/
theorem ex_wk {b Q} (w : Wk Γ Γ') (h : EX C k sc b Γ' σ Q) : EX C k sc b Γ σ Q := fun env A s he hA hs => ne_mono (h env A s he hA (hs.wk w)) fun _ _ ⟨g, Γ₁, σ₁, t, x, q⟩ => ⟨g, Γ₁, σ₁, ⟨t.ok, t.keep, t.fresh, t.fr⟩, x, q⟩
theorem St.sub {σ'} (h : St C env Γ σ s) (w : σ'.Sublist σ) : St C env Γ σ' s := ⟨h.ok.sub w, h.fr, fun a ha q => h.dis a ha ((fps_sub w).subset q), h.fnew⟩
theorem Keep.mono {F G : List Addr} {s s' : Shared} (h : Keep F s s') (w : ∀ a ∈ F, a ∈ G) : Keep G s s' := h.sub w
theorem ex_drop {b Q σ'} (w : σ'.Sublist σ) (h : EX C k sc b Γ σ' Q) : EX C k sc b Γ σ Q := fun env A s he hA hs => ne_mono (h env A s he hA (hs.sub w)) fun _ _ ⟨g, Γ₁, σ₁, t, x, q⟩ =>
  ⟨g, Γ₁, σ₁, ⟨t.ok, t.keep.mono fun a ha => (List.mem_append.mp ha).elim (fun q => List.mem_append_left _ ((fps_sub w).subset q)) fun q => List.mem_append_right _ q, fun a ha => (t.fresh a ha).imp_left fun q => (fps_sub w).subset q, t.fr⟩, x, q⟩
end

structure SameI (I : Addr) (s s' : Shared) : Prop where
  same : ∀ b o, b ≠ I → s.heap.get? b = some o → s'.heap.get? b = some o
  gens : s'.gens = s.gens
  drawn : s'.drawn = s.drawn
  os : s'.os = s.os

/-- an iterator at I that gives the items of a list one after the other, wherever the ledger bears what it needs -/
structure Itr (C : Cx) (I : Addr) (need : Ld → Prop) (st : List Vl → Heap → Prop) : Prop where
  next : ∀ {A s σ x l} {Q : Option Value → Shared → Prop}, A.handled = none → Ok C σ s → need σ → st (x :: l) s.heap → (∀ s' r, SameI I s s' → st l s'.heap → VR s'.heap x r → Q (some r) s') → wpAny (model C.prog C.w) A (pyNext (.ref I)) Q NE s
  done : ∀ {A s σ} {Q : Option Value → Shared → Prop}, A.handled = none → Ok C σ s → need σ → st [] s.heap → (∀ s', SameI I s s' → Q none s') → wpAny (model C.prog C.w) A (pyNext (.ref I)) Q NE s
  stable : ∀ {l h h'}, st l h → (∀ o, h.get? I = some o → h'.get? I = some o) → TupKeep h h' → st l h'
  plain : ∀ {l h}, st l h → ∃ o n vs, h.get? I = some o ∧ o.cls = .type n ∧ o.data = .fields vs ∧ ["enumerate", "zip", "dict_itemiterator", "dict_reverseitemiterator", "odict_iterator", "itertools.zip_longest", "itertools.pairwise"].contains n = false
  again : ∀ {A s l} {Q : Value → Shared → Prop}, st l s.heap → Q (.ref I) s → wpAny (model C.prog C.w) A (pyIter (.ref I)) Q NE s

theorem SameI.tup {I : Addr} {s s' : Shared} (h : SameI I s s') {o} (e : s.heap.get? I = some o) (n : ∀ items n, o.data ≠ .seq items n) : TupKeep s.heap s'.heap := fun a items ⟨o', e', c, m, d⟩ =>
  ⟨o', h.same a o' (fun z => by subst z; cases e.symm.trans e'; exact n _ _ d) e', c, m, d⟩
theorem SameI.of_same {I : Addr} {s : Shared} {h' : Heap} {tk : Nat} (sb : Heap.SameBut I s.heap h') : SameI I s { s with heap := h', toks := tk } := ⟨fun b o n e => (sb.2 b n).trans e, rfl, rfl, rfl⟩
theorem SameI.of_ext {I : Addr} {s : Shared} {h' : Heap} {tk : Nat} (sb : Heap.ExtBut I s.heap h') : SameI I s { s with heap := h', toks := tk } := ⟨fun b o n e => sb b o n e, rfl, rfl, rfl⟩
theorem PlainList.isList {h : Heap} {a items} (x : h.PlainList a items) : h.IsList a items := let ⟨n, e⟩ := x; ⟨_, e, rfl, n, rfl⟩
theorem getElem_drop {α : Type} {l : List α} {i : Nat} {x : α} {r : List α} (h : x :: r = l.drop i) : l[i]? = some x ∧ r = l.drop (i + 1) := by
  have : (l.drop i)[0]? = some x := by rw [← h]; rfl
  rw [List.getElem?_drop] at this
  refine ⟨by simpa using this, ?_⟩
  have := congrArg List.tail h
  simpa [List.tail_drop] using this

section
variable {C : Cx}
theorem itr_list {I a : Addr} {items : List Vl} : Itr C I (fun σ => (a, .list items) ∈ σ) (fun l h => ∃ i : Nat, h.IsListIter I a i ∧ l = items.drop i) where
  next := by
    rintro A s σ x l Q hh hs hn ⟨i, hit, hl⟩ k
    obtain ⟨vs, pl, vr⟩ := hs.cells _ hn
    obtain ⟨e, rfl⟩ := getElem_drop hl
    obtain ⟨r, er, xr⟩ := vr.get e
    refine wpAny_pyNext_list_item hit (PlainList.isList pl) (x := r) (by simpa using er) fun h' hit' sb => ?_
    obtain ⟨o, ho, _, hd⟩ := hit
    have S : SameI I s { s with heap := h' } := ⟨fun b o n e => (sb.2 b n).trans e, rfl, rfl, rfl⟩
    exact k _ _ S ⟨i + 1, hit', rfl⟩ (xr.keep (S.tup ho (by rw [hd]; simp)))
  done := by
    rintro A s σ Q hh hs hn ⟨i, hit, hl⟩ k
    obtain ⟨vs, pl, vr⟩ := hs.cells _ hn
    have : vs[i]? = none := by
      rw [List.getElem?_eq_none_iff, vr.length]
      have := congrArg List.length hl
      simp at this; (first | lia | omega)
    exact wpAny_pyNext_list_end hh hit (PlainList.isList pl) (by simpa using this) fun h' sb => k _ ⟨fun b o n e => sb b o n e, rfl, rfl, rfl⟩
  stable := by
    rintro l h h' ⟨i, ⟨o, e, r⟩, hl⟩ k t
    exact ⟨i, ⟨o, k o e, r⟩, hl⟩
  plain := by
    rintro l h ⟨i, ⟨o, e, c, d⟩, hl⟩
    exact ⟨o, _, _, e, c, d, by decide⟩
  again := by
    rintro A s l Q ⟨i, hit, hl⟩ q
    exact wpAny_pyIter_listiter hit q

theorem itr_tuple {I : Addr} {items : List Vl} : Itr C I (fun _ => True) (fun l h => ∃ (t : Addr) (vs : List Value) (i : Nat), h.IsTupleIter I t i ∧ IsTup h t vs.toArray ∧ VRs h items vs ∧ l = items.drop i) where
  next := by
    rintro A s σ x l Q hh hs hn ⟨t, vs, i, hit, ht, vr, hl⟩ k
    obtain ⟨e, rfl⟩ := getElem_drop hl
    obtain ⟨r, er, xr⟩ := vr.get e
    refine wpAny_pyNext_tuple_item hit ht (x := r) (by simpa using er) fun h' hit' sb => ?_
    obtain ⟨o, ho, _, hd⟩ := hit
    have S : SameI I s { s with heap := h' } := ⟨fun b o n e => (sb.2 b n).trans e, rfl, rfl, rfl⟩
    have tk := S.tup ho (by rw [hd]; simp)
    exact k _ _ S ⟨t, vs, i + 1, hit', tk _ _ ht, vr.keep tk, rfl⟩ (xr.keep tk)
  done := by
    rintro A s σ Q hh hs hn ⟨t, vs, i, hit, ht, vr, hl⟩ k
    have : vs[i]? = none := by
      rw [List.getElem?_eq_none_iff, vr.length]
      have := congrArg List.length hl
      simp at this; (first | lia | omega)
    exact wpAny_pyNext_tuple_end hh hit ht (by simpa using this) fun h' sb => k _ ⟨fun b o n e => sb b o n e, rfl, rfl, rfl⟩
  stable := by
    rintro l h h' ⟨t, vs, i, ⟨o, e, r⟩, ht, vr, hl⟩ k tk
    exact ⟨t, vs, i, ⟨o, k o e, r⟩, tk _ _ ht, vr.keep tk, hl⟩
  plain := by
    rintro l h ⟨t, vs, i, ⟨o, e, c, d⟩, _, _, hl⟩
    exact ⟨o, _, _, e, c, d, by decide⟩
  again := by
    rintro A s l Q ⟨t, vs, i, hit, _, _, hl⟩ q
    exact wpAny_pyIter_tupleiter hit q

noncomputable def rangeV (i n : Nat) : List Vl := (List.range' i n).map fun (j : Nat) => Vl.int (j : Int)
theorem itr_range {I : Addr} {n : Nat} : Itr C I (fun _ => True) (fun l h => ∃ i m : Nat, IsRangeIter h I (i : Int) (m : Int) 1 ∧ l = rangeV i m) where
  next := by
    rintro A s σ x l Q hh hs hn ⟨i, m, hit, hl⟩ k
    cases m with
    | zero => cases hl
    | succ m =>
      cases hl
      refine wpAny_pyNext_range_item hit (by (first | lia | omega)) fun h' hit' sb => ?_
      have S : SameI I s { s with heap := h', toks := s.toks + 1 } := ⟨fun b o n e => (sb.2 b n).trans e, rfl, rfl, rfl⟩
      refine k _ _ S ⟨i + 1, m, ?_, rfl⟩ (.int _ _)
      have e1 : ((i : Int) + 1) = ((i + 1 : Nat) : Int) := by (first | lia | omega)
      have e2 : (((m + 1 : Nat) : Int) - 1) = (m : Int) := by (first | lia | omega)
      rw [e1, e2] at hit'
      exact hit'
  done := by
    rintro A s σ Q hh hs hn ⟨i, m, hit, hl⟩ k
    have : m = 0 := by
      have := congrArg List.length hl
      simp [rangeV] at this; (first | lia | omega)
    subst this
    exact wpAny_pyNext_range_end hh hit (by (first | lia | omega)) fun h' sb => k _ ⟨fun b o n e => sb b o n e, rfl, rfl, rfl⟩
  stable := by
    rintro l h h' ⟨i, m, e, hl⟩ k t
    exact ⟨i, m, k _ e, hl⟩
  plain := by
    rintro l h ⟨i, m, e, hl⟩
    exact ⟨_, _, _, e, rfl, rfl, by decide⟩
  again := by
    rintro A s l Q ⟨i, m, hit, hl⟩ q
    exact wpAny_pyIter_rangeiter hit q

theorem wpAny_pyIter_reviter {prog : Program} {w : World} {A : Around} {E : Value → Shared → Prop} {s : Shared} {it l : Addr} {i : Int} {Q : Value → Shared → Prop} (hit : s.heap.IsRevIter it l i) (h : Q (.ref it) s) : wpAny (model prog w) A (pyIter (.ref it)) Q E s := by
  refine wpAny_pyIter_slot hit.typeIs F.slot_lri_iter (wpAny_call_entry F.slot_lri_iter hit.typeIs F.entry_lri_iter ?_ (F.args_lri_iter_1 _))
  show wpAny _ _ (ret (.ref it)) _ _ s
  exact wpAny_pure ⟨_, rfl, "list_reverseiterator", _, hit.typeIs, F.slot_lri_next.lookup, h⟩

theorem itr_rev {I a : Addr} {items : List Vl} : Itr C I (fun σ => (a, .list items) ∈ σ) (fun l h => ∃ i : Nat, i ≤ items.length ∧ h.IsRevIter I a ((i : Int) - 1) ∧ l = (items.take i).reverse) where
  next := by
    rintro A s σ x l Q hh hs hn ⟨i, hi, hit, hl⟩ k
    obtain ⟨vs, pl, vr⟩ := hs.cells _ hn
    cases i with
    | zero => simp at hl
    | succ i =>
      have e : (items.take (i + 1)).reverse = items[i] :: (items.take i).reverse := by
        rw [← List.take_append_getElem (show i < items.length by (first | lia | omega)), List.reverse_append]; rfl
      rw [e] at hl
      obtain ⟨rfl, rfl⟩ := List.cons.inj hl
      obtain ⟨r, er, xr⟩ := vr.get (List.getElem?_eq_getElem (by (first | lia | omega) : i < items.length))
      have hi' : (((i + 1 : Nat) : Int) - 1) = (i : Int) := by (first | lia | omega)
      rw [hi'] at hit
      refine wpAny_pyNext_rev_item hit (PlainList.isList pl) (x := r) (by simpa using er) fun h' hit' sb => ?_
      obtain ⟨o, ho, _, hd⟩ := hit
      have S : SameI I s { s with heap := h' } := ⟨fun b o n e => (sb.2 b n).trans e, rfl, rfl, rfl⟩
      exact k _ _ S ⟨i, by (first | lia | omega), hit', rfl⟩ (xr.keep (S.tup ho (by rw [hd]; simp)))
  done := by
    rintro A s σ Q hh hs hn ⟨i, hi, hit, hl⟩ k
    have : i = 0 := by
      have := congrArg List.length hl
      simp at this; (first | lia | omega)
    subst this
    exact wpAny_pyNext_rev_end hh hit fun h' sb => k _ ⟨fun b o n e => sb b o n e, rfl, rfl, rfl⟩
  stable := by
    rintro l h h' ⟨i, hi, ⟨o, e, r⟩, hl⟩ k t
    exact ⟨i, hi, ⟨o, k o e, r⟩, hl⟩
  plain := by
    rintro l h ⟨i, hi, ⟨o, e, c, d⟩, hl⟩
    exact ⟨o, _, _, e, c, d, by decide⟩
  again := by
    rintro A s l Q ⟨i, hi, hit, hl⟩ q
    exact wpAny_pyIter_reviter hit q

theorem KRs.length {κ : Type} {h : Heap} : ∀ {l : List (κ × Vl)} {kvs}, KRs h l kvs → kvs.length = l.length
  | _, _, .nil => rfl
  | _, _, .cons _ b => by simp [b.length]
theorem KRs.keys {κ : Type} {h : Heap} : ∀ {l : List (κ × Vl)} {kvs}, KRs h l kvs → kvs.map (·.1) = l.map (·.1)
  | _, _, .nil => rfl
  | _, _, .cons _ b => by simp [b.keys]

theorem itr_keys {I d : Addr} {ep : Nat} {kv : List (Int × Vl)} : Itr C I (fun σ => (d, .fdict ep kv) ∈ σ) (fun l h => ∃ i : Nat, h.IsKeyIter I d i kv.length ep ∧ l = (kv.map fun p => Vl.int p.1).drop i) where
  next := by
    rintro A s σ x l Q hh hs hn ⟨i, hit, hl⟩ k
    obtain ⟨kvs, da, kr⟩ := hs.cells _ hn
    obtain ⟨e, rfl⟩ := getElem_drop hl
    have hk : (kvs.map (·.1))[i]? = (kv.map (·.1))[i]? := by rw [kr.keys]
    rw [List.getElem?_map] at e hk
    cases q : kv[i]? with
    | none => rw [q] at e; cases e
    | some p =>
      rw [q] at e; cases e
      rw [List.getElem?_map, q] at hk
      cases q' : kvs[i]? with
      | none => rw [q'] at hk; cases hk
      | some p' =>
        rw [q'] at hk
        obtain ⟨k', v'⟩ := p'
        have hk' : k' = p.1 := by simpa using hk
        rw [← kr.length] at hit
        refine wpAny_pyNext_dict_item hit da q' fun key h' hkey hit' sb => ?_
        obtain ⟨tk, rfl⟩ := Value.isInt_shape hkey
        obtain ⟨o, ho, _, hd⟩ := hit
        have S : SameI I s { s with heap := h' } := ⟨fun b o n e => (sb.2 b n).trans e, rfl, rfl, rfl⟩
        rw [kr.length] at hit'
        rw [hk']
        exact k _ _ S ⟨i + 1, hit', rfl⟩ (.int _ _)
  done := by
    rintro A s σ Q hh hs hn ⟨i, hit, hl⟩ k
    obtain ⟨kvs, da, kr⟩ := hs.cells _ hn
    have : kvs[i]? = none := by
      rw [List.getElem?_eq_none_iff, kr.length]
      have := congrArg List.length hl
      simp at this; (first | lia | omega)
    rw [← kr.length] at hit
    exact wpAny_pyNext_dict_end hh hit da this fun h' sb => k _ ⟨fun b o n e => sb b o n e, rfl, rfl, rfl⟩
  stable := by
    rintro l h h' ⟨i, ⟨o, e, r⟩, hl⟩ k t
    exact ⟨i, ⟨o, k o e, r⟩, hl⟩
  plain := by
    rintro l h ⟨i, ⟨o, e, c, d⟩, hl⟩
    exact ⟨o, _, _, e, c, d, by decide⟩
  again := by
    rintro A s l Q ⟨i, hit, hl⟩ q
    exact wpAny_pyIter_keyiter hit q
end
theorem Itr.alive {C I need st} (h : Itr C I need st) {l hp} (x : st l hp) : ∃ o, hp.get? I = some o ∧ ∀ items n, o.data ≠ .seq items n := by
  obtain ⟨o, n, vs, e, _, d, _⟩ := h.plain x
  exact ⟨o, e, fun _ _ z => by rw [d] at z; cases z⟩

/-- a change at one address that neither the ledger nor the first state bears -/
theorem To.at {C σ₀ s₀ σ s} {s' : Shared} {a : Addr} (k0 : Ok C σ₀ s₀) (t : To C σ₀ s₀ σ s) (h : SameI a s s') (h0 : s₀.heap.get? a = none) (hf : a ∉ fps σ) (tk : TupKeep s.heap s'.heap) : To C σ₀ s₀ σ s' := by
  refine ⟨⟨fun b o e => h.same b o (fun z => ?_) (t.ok.ext b o e), h.gens.trans t.ok.gens, h.drawn.trans t.ok.drawn, h.os.trans t.ok.os, fun p hp => (t.ok.cells p hp).keep tk fun b hb x e => h.same b x (fun z => hf (z ▸ mem_fps hp hb)) e, t.ok.nd, t.ok.new, t.ok.nomod⟩, ⟨fun b o n e => ?_, fun b o e => ?_⟩, t.fresh⟩
  · have := k0.ext b o e
    rw [z, h0] at this; cases this
  · exact h.same b o (fun z => by subst z; rw [h0] at e; cases e) (t.keep.same b o n e)
  · obtain ⟨o', e'⟩ := t.keep.alive b o e
    exact ⟨o', h.same b o' (fun z => by subst z; rw [h0] at e; cases e) e'⟩
theorem ToX.at {C env σ₀ s₀ Γ₀ Γ σ s} {s' : Shared} {a : Addr} (k0 : St C env Γ₀ σ₀ s₀) (t : ToX C env σ₀ s₀ Γ σ s) (h : SameI a s s') (h0 : s₀.heap.get? a = none) (hf : a ∉ fps σ) (tk : TupKeep s.heap s'.heap) : ToX C env σ₀ s₀ Γ σ s' := by
  refine ⟨⟨fun b o e => h.same b o (fun z => ?_) (t.ok.ext b o e), h.gens.trans t.ok.gens, h.drawn.trans t.ok.drawn, h.os.trans t.ok.os, fun p hp => (t.ok.cells p hp).keep tk fun b hb x e => h.same b x (fun z => hf (z ▸ mem_fps hp hb)) e, t.ok.nd, t.ok.new, t.ok.nomod⟩, ⟨fun b o n e => ?_, fun b o e => ?_⟩, t.fresh, t.fr.keep (fun b hb o e => h.same b o (fun z => ?_) e) tk⟩
  · have := k0.ok.ext b o e
    rw [z, h0] at this; cases this
  · exact h.same b o (fun z => by subst z; rw [h0] at e; cases e) (t.keep.same b o n e)
  · obtain ⟨o', e'⟩ := t.keep.alive b o e
    exact ⟨o', h.same b o' (fun z => by subst z; rw [h0] at e; cases e) e'⟩
  · obtain ⟨o', e', _⟩ := k0.fr.alive b hb
    rw [z, h0] at e'; cases e'
/-- an object that the first state does not bear goes onto the ledger -/
theorem To.add {C σ₀ s₀ σ s} {a : Addr} {o : Ob} (k0 : Ok C σ₀ s₀) (t : To C σ₀ s₀ σ s) (h0 : ∀ b ∈ o.fp a, s₀.heap.get? b = none) (hm : ∀ b ∈ o.fp a, (b == sysModules) = false) (hf : ∀ b ∈ o.fp a, b ∉ fps σ) (nd : (o.fp a).Nodup) (hO : OR C s.heap a o) : To C σ₀ s₀ ((a, o) :: σ) s := by
  refine ⟨⟨t.ok.ext, t.ok.gens, t.ok.drawn, t.ok.os, fun p hp => ?_, ?_, fun b hb => ?_, fun b hb => ?_⟩, t.keep, fun b hb => ?_⟩
  · rcases List.mem_cons.mp hp with rfl | hp
    · exact hO
    · exact t.ok.cells p hp
  · exact List.nodup_append.mpr ⟨nd, t.ok.nd, fun b hb c hc e => hf b hb (e ▸ hc)⟩
  · rcases List.mem_append.mp (show b ∈ o.fp a ++ fps σ from hb) with hb | hb
    · cases q : C.s₀.heap.get? b with
      | none => rfl
      | some ob => have := k0.ext b ob q; rw [h0 b hb] at this; cases this
    · exact t.ok.new b hb
  · rcases List.mem_append.mp (show b ∈ o.fp a ++ fps σ from hb) with hb | hb
    · exact hm b hb
    · exact t.ok.nomod b hb
  · rcases List.mem_append.mp (show b ∈ o.fp a ++ fps σ from hb) with hb | hb
    · exact .inr (h0 b hb)
    · exact t.fresh b hb

/-- an expression that is gone through: its iterator -/
noncomputable def IE (C : Cx) (k : Nat) (sc : Scope) (e : Expr) (Γ : Gm) (σ : Ld) (Q : (Ld → Prop) → List Vl → Ld → Prop) : Prop :=
  ∀ env A s, EnvOK sc env → OKA k A → St C env Γ σ s → wpAny (model C.prog C.w) A (eval e env) (fun x s₁ => wpAny (model C.prog C.w) A (pyIter x)
    (fun it s₂ => ∃ I st need items σ', it = .ref I ∧ Itr C I need st ∧ st items s₂.heap ∧ s.heap.get? I = none ∧ I ∉ fps σ' ∧ To C σ s σ' s₂ ∧ Q need items σ') NE s₁) NE s

section
variable {C : Cx} {k : Nat} {sc : Scope} {Γ : Gm} {σ : Ld}

theorem To.size_none {C σ s σ' s'} (t : To C σ s σ' s') : s.heap.get? s'.heap.objs.size = none := by
  cases q : s.heap.get? s'.heap.objs.size with
  | none => rfl
  | some o => obtain ⟨o', e⟩ := t.keep.alive _ _ q; exact absurd (Heap.lt_size e) (Nat.lt_irrefl _)
theorem Ok.size_not {C σ s} (h : Ok C σ s) : s.heap.objs.size ∉ fps σ := fun q => by
  obtain ⟨o, e, _⟩ := h.alive q
  exact absurd (Heap.lt_size e) (Nat.lt_irrefl _)
theorem To.pushed {C σ s} {o : Obj} {tk : Nat} (h : Ok C σ s) : To C σ s σ { s with heap := s.heap.push o, toks := tk } := To.ext h (fun _ _ e => Heap.get?_push_of_some _ e) rfl rfl rfl

theorem ie_list {e Q} (h : EV C k sc e Γ σ (fun v σ₁ => ∃ a items, v = .ref a ∧ (a, Ob.list items) ∈ σ₁ ∧ Q (fun σ' => (a, Ob.list items) ∈ σ') items σ₁)) : IE C k sc e Γ σ Q := fun env A s he hA hs => by
  refine ne_mono (h env A s he hA hs) ?_
  rintro x s₁ ⟨v, σ₁, t, vr, a, items, rfl, hm, q⟩
  cases vr
  obtain ⟨vs, pl, vr⟩ := t.ok.cells _ hm
  exact wpAny_pyIter_list (PlainList.isList pl) ⟨_, _, _, items, σ₁, rfl, itr_list (a := a), ⟨0, ⟨_, Heap.get?_push_size _ rfl, rfl, rfl⟩, by simp⟩, t.size_none, t.ok.size_not, t.trans (To.pushed t.ok), q⟩
theorem ie_tuple {e Q} (h : EV C k sc e Γ σ (fun v σ₁ => ∃ items, v = .tup items ∧ Q (fun _ => True) items σ₁)) : IE C k sc e Γ σ Q := fun env A s he hA hs => by
  refine ne_mono (h env A s he hA hs) ?_
  rintro x s₁ ⟨v, σ₁, t, vr, items, rfl, q⟩
  cases vr with
  | @tup l a vs it vr =>
    have tk : TupKeep s₁.heap (s₁.heap.push { cls := .type "tuple_iterator", data := .fields #[.ref a, .int 0 0] }) := fun b items ⟨o, e, r⟩ => ⟨o, Heap.get?_push_of_some _ e, r⟩
    exact wpAny_pyIter_tuple it ⟨_, _, _, items, σ₁, rfl, itr_tuple (items := items), ⟨a, vs, 0, ⟨_, Heap.get?_push_size _ rfl, rfl, rfl⟩, tk _ _ it, vr.keep tk, by simp⟩, t.size_none, t.ok.size_not, t.trans (To.pushed t.ok), q⟩
theorem ie_fdict {e Q} (h : EV C k sc e Γ σ (fun v σ₁ => ∃ a ep kv, v = .ref a ∧ (a, Ob.fdict ep kv) ∈ σ₁ ∧ Q (fun σ' => (a, Ob.fdict ep kv) ∈ σ') (kv.map fun p => Vl.int p.1) σ₁)) : IE C k sc e Γ σ Q := fun env A s he hA hs => by
  refine ne_mono (h env A s he hA hs) ?_
  rintro x s₁ ⟨v, σ₁, t, vr, a, ep, kv, rfl, hm, q⟩
  cases vr
  obtain ⟨kvs, da, kr⟩ := t.ok.cells _ hm
  have hne : (a == sysModules) = false := t.ok.nomod a (mem_fps hm (List.Mem.head _))
  exact wpAny_pyIter_dict hne da ⟨_, _, _, _, σ₁, rfl, itr_keys (d := a) (ep := ep) (kv := kv), ⟨0, ⟨_, Heap.get?_push_size _ rfl, rfl, by rw [kr.length]; rfl⟩, by simp⟩, t.size_none, t.ok.size_not, t.trans (To.pushed t.ok), q⟩

theorem ex_for {target iter body pos Q} (h : IE C k sc iter Γ σ (fun need items σ₁ => ∃ J : List Vl → Gm → Ld → Prop, J items Γ σ₁ ∧
      (∀ x l Γ' σ', J (x :: l) Γ' σ' → need σ' ∧ AS C k sc target x Γ' σ' (fun Γ₂ σ₂ => EX C k sc body Γ₂ σ₂ (fun f Γ₃ σ₃ => match f with
        | .next => J l Γ₃ σ₃ | .cont => J l Γ₃ σ₃ | .brk => Q .next Γ₃ σ₃ | .ret v => Q (.ret v) Γ₃ σ₃))) ∧
      (∀ Γ' σ', J [] Γ' σ' → need σ' ∧ Q .next Γ' σ')))
    (hs : foldedSetIterable iter = fun _ x => pure x := by rfl) : EX1 C k sc (.For target iter body [] pos) Γ σ Q := fun env A s he hA hs' => by
  refine wpAny_For (ne_mono (h env A s he hA hs') fun x s₁ h₁ => ne_mono h₁ ?_) (fun x => congrFun (congrFun hs env) x)
  rintro it s₂ ⟨I, st, need, items, σ₁, rfl, W, hst, hI, hIσ, t, J, j0, jn, je⟩
  have hIf : I ∉ fa env := fun q => by obtain ⟨o, e, _⟩ := hs'.fr.alive I q; rw [hI] at e; cases e
  refine codeAny_forLoop_any (fun n s' => ∃ l Γ' σ', n = l.length ∧ ToX C env σ s Γ' σ' s' ∧ st l s'.heap ∧ I ∉ fps σ' ∧ J l Γ' σ') ?_ items.length ⟨items, Γ, σ₁, rfl, t.toX hs', hst, hIσ, j0⟩
  rintro n s₃ ⟨l, Γ', σ', rfl, t₃, hst₃, hI₃, hJ⟩
  obtain ⟨oI, eI, nI⟩ := W.alive hst₃
  refine ne_any ?_
  cases l with
  | nil =>
    obtain ⟨nd, q⟩ := je _ _ hJ
    refine W.done hA.handled t₃.ok nd hst₃ fun s₄ S => ?_
    exact wpAny_execs_nil ⟨.next, Γ', σ', t₃.at hs' S hI hI₃ (S.tup eI nI), .next, q⟩
  | cons x l =>
    obtain ⟨nd, q⟩ := jn _ _ _ _ hJ
    refine W.next hA.handled t₃.ok nd hst₃ fun s₄ r S hst₄ vr => ?_
    have t₄ := t₃.at hs' S hI hI₃ (S.tup eI nI)
    have S₄ := hs'.toX t₄
    have go : wpAny (model C.prog C.w) A (letOwnedTupleGo target (.ref I) r) (fun _ s₅ => s₅ = s₄) NE s₄ := by
      obtain ⟨o, n, vs, e, c, d, hc⟩ := W.plain hst₄
      unfold letOwnedTupleGo
      split
      · cases r with
        | ref a =>
          refine wpAny_bind (wpAny_load e ?_)
          rw [c, d]
          dsimp only
          rw [if_neg (by rw [hc, Bool.false_and]; exact Bool.false_ne_true)]
          exact wpAny_pure rfl
        | _ => exact wpAny_pure rfl
      · cases r with
        | ref a =>
          refine wpAny_bind (wpAny_load e ?_)
          rw [c, d]
          dsimp only
          rw [if_neg (by rw [hc, Bool.false_and]; exact Bool.false_ne_true)]
          exact wpAny_pure rfl
        | _ => exact wpAny_pure rfl
      · exact wpAny_pure rfl
    refine ne_any (ne_mono go ?_)
    intro _ s' es'
    replace es' := es'.symm
    subst es'
    refine ne_any (ne_mono (q env A _ r he hA S₄ vr) ?_)
    rintro _ s₅ ⟨Γ₅, σ₅, t₅, q₅⟩
    have S₅ := S₄.toX t₅
    refine ne_any (ne_mono (q₅ env A s₅ he hA S₅) ?_)
    rintro f s₆ ⟨g, Γ₆, σ₆, t₆, fr, q₆⟩
    have t45 := t₅.trans t₆
    have hIk : ∀ o, s₄.heap.get? I = some o → s₆.heap.get? I = some o := fun o e => t45.keep.same I o (fun z => (List.mem_append.mp z).elim hI₃ hIf) e
    have hI₆ : I ∉ fps σ₆ := fun z => by
      rcases t45.fresh I z with z | z
      · exact hI₃ z
      · obtain ⟨o, e, _⟩ := W.alive hst₄; rw [z] at e; cases e
    have st₆ := W.stable hst₄ hIk (S₄.tupKeepX t45)
    have tt := t₄.trans t45
    cases fr with
    | next => exact ⟨l.length, by simp, l, Γ₆, σ₆, rfl, tt, st₆, hI₆, q₆⟩
    | cont => exact ⟨l.length, by simp, l, Γ₆, σ₆, rfl, tt, st₆, hI₆, q₆⟩
    | brk => exact ⟨.next, Γ₆, σ₆, tt, .next, q₆⟩
    | ret v => exact ⟨_, Γ₆, σ₆, tt, .ret v, q₆⟩

theorem ex_while {test body pos Q} (J : Nat → Gm → Ld → Prop) (n : Nat) (j0 : J n Γ σ)
    (h : ∀ n Γ' σ', J n Γ' σ' → BT C k sc test Γ' σ' (fun b σ₁ => if b then EX C k sc body Γ' σ₁ (fun f Γ₃ σ₃ => match f with
        | .next => ∃ m, m < n ∧ J m Γ₃ σ₃ | .cont => ∃ m, m < n ∧ J m Γ₃ σ₃ | .brk => Q .next Γ₃ σ₃ | .ret v => Q (.ret v) Γ₃ σ₃) else Q .next Γ' σ₁)) : EX1 C k sc (.While test body [] pos) Γ σ Q := fun env A s he hA hs => by
  refine wpAny_While (codeAny_whileLoop (fun n s' => ∃ Γ' σ', ToX C env σ s Γ' σ' s' ∧ J n Γ' σ') ?_ n ⟨Γ, σ, .refl hs, j0⟩)
  rintro n s₁ ⟨Γ₁, σ₁, t₁, hJ⟩
  refine ne_any (ne_mono (h n Γ₁ σ₁ hJ env A s₁ he hA (hs.toX t₁)) ?_)
  rintro b s₂ ⟨σ₂, t₂, q⟩
  have S₂ := (hs.toX t₁).to t₂
  have t12 := t₁.trans (t₂.toX (hs.toX t₁))
  cases b with
  | false => exact wpAny_execs_nil ⟨.next, Γ₁, σ₂, t12, .next, q⟩
  | true =>
    refine ne_any (ne_mono (q env A s₂ he hA S₂) ?_)
    rintro f s₃ ⟨g, Γ₃, σ₃, t₃, fr, q₃⟩
    have tt := t12.trans t₃
    cases fr with
    | next => obtain ⟨m, hm, q⟩ := q₃; exact ⟨m, hm, Γ₃, σ₃, tt, q⟩
    | cont => obtain ⟨m, hm, q⟩ := q₃; exact ⟨m, hm, Γ₃, σ₃, tt, q⟩
    | brk => exact ⟨.next, Γ₃, σ₃, tt, .next, q₃⟩
    | ret v => exact ⟨_, Γ₃, σ₃, tt, .ret v, q₃⟩
end

noncomputable def closeGo (cells : List (Str × Addr)) : List (Str × NameKind) → List (Str × Addr) → List (Str × Addr)
  | [], acc => acc
  | (n, k) :: r, acc => closeGo cells r (if k == .free then (n, (cells.lookup n).getD 0) :: acc else acc)
theorem close_go {env : Env} : ∀ (names : List (Str × NameKind)) (acc : List (Str × Addr)), (∀ n, (n, NameKind.free) ∈ names → ∃ c, env.cells.lookup n = some c) →
    (forIn names acc fun x r => (if (x.2 == .free) = true then do
          let a ← cellOf env x.1
          pure (ForInStep.yield ((x.1, a) :: r))
        else pure (ForInStep.yield r) : Sem (ForInStep (List (Str × Addr)))) : Sem (List (Str × Addr))) = pure (closeGo env.cells names acc)
  | [], acc, _ => rfl
  | (n, k) :: r, acc, h => by
    rw [List.forIn_cons]
    by_cases hk : (k == NameKind.free) = true
    · obtain ⟨c, hc⟩ := h n (by rw [← show k = NameKind.free from by simpa using hk]; exact .head _)
      have e : cellOf env n = pure c := by unfold cellOf; rw [hc]
      simp only [hk, if_true, e, pure_bind]
      rw [close_go r _ fun n' h' => h n' (.tail _ h')]
      simp only [closeGo, hk, if_true, hc, Option.getD_some]
    · simp only [hk, if_false, Bool.false_eq_true, pure_bind]
      rw [close_go r _ fun n' h' => h n' (.tail _ h')]
      simp only [closeGo, hk, if_false, Bool.false_eq_true]
theorem closureFor_of {env : Env} {scope : Scope} (h : ∀ n, (n, NameKind.free) ∈ scope.names → ∃ c, env.cells.lookup n = some c) : closureFor scope env = pure (closeGo env.cells scope.names []) := by
  simp only [closureFor]
  rw [close_go _ _ h]
  rfl
theorem closeGo_mem {cells : List (Str × Addr)} : ∀ {names acc p}, p ∈ closeGo cells names acc → p ∈ acc ∨ ((p.1, NameKind.free) ∈ names ∧ (cells.lookup p.1).getD 0 = p.2)
  | [], acc, p, h => .inl h
  | (n, k) :: r, acc, p, h => by
    unfold closeGo at h
    by_cases hk : (k == NameKind.free) = true
    · have hk' : k = NameKind.free := by simpa using hk
      rw [if_pos hk] at h
      rcases closeGo_mem h with h | ⟨a, b⟩
      · rcases List.mem_cons.mp h with h | h
        · subst h; exact .inr ⟨hk' ▸ List.Mem.head _, rfl⟩
        · exact .inl h
      · exact .inr ⟨.tail _ a, b⟩
    · rw [if_neg hk] at h
      exact (closeGo_mem h).imp_right fun ⟨a, b⟩ => ⟨.tail _ a, b⟩
theorem closeGo_lookup {cells : List (Str × Addr)} {n : Str} : ∀ {names acc}, (closeGo cells names acc).lookup n = if (n, NameKind.free) ∈ names then some ((cells.lookup n).getD 0) else acc.lookup n
  | [], acc => by simp [closeGo]
  | (m, k) :: r, acc => by
    unfold closeGo
    rw [closeGo_lookup (names := r)]
    by_cases hr : (n, NameKind.free) ∈ r
    · rw [if_pos hr, if_pos (List.mem_cons_of_mem _ hr)]
    · rw [if_neg hr]
      by_cases hk : (k == NameKind.free) = true
      · have hk' : k = NameKind.free := by simpa using hk
        rw [if_pos hk, List.lookup_cons]
        by_cases hn : (n == m) = true
        · have hn' : n = m := by simpa using hn
          rw [hn, if_pos (by rw [hk', hn']; exact .head _), hn']
        · have hn' : ¬ n = m := by simpa using hn
          simp only [hn]
          rw [if_neg]
          intro z
          rcases List.mem_cons.mp z with z | z
          · injection z with z1 z2; exact hn' z1
          · exact hr z
      · have hk' : ¬ k = NameKind.free := by simpa using hk
        rw [if_neg hk, if_neg]
        intro z
        rcases List.mem_cons.mp z with z | z
        · injection z with z1 z2; exact hk' z2.symm
        · exact hr z
theorem closeGo_nodup {cells : List (Str × Addr)} (inj : ∀ x y c, cells.lookup x = some c → cells.lookup y = some c → x = y) : ∀ {names acc}, (names.map (·.1)).Nodup → (∀ n, (n, NameKind.free) ∈ names → ∃ c, cells.lookup n = some c) →
    (acc.map (·.2)).Nodup → (∀ p ∈ acc, cells.lookup p.1 = some p.2 ∧ p.1 ∉ names.map (·.1)) → ((closeGo cells names acc).map (·.2)).Nodup
  | [], acc, _, _, h, _ => h
  | (m, k) :: r, acc, hn, hc, ha, hp => by
    have hn' := List.nodup_cons.mp (show (m :: r.map (·.1)).Nodup from hn)
    unfold closeGo
    refine closeGo_nodup inj hn'.2 (fun n h => hc n (.tail _ h)) ?_ ?_
    · by_cases hk : (k == NameKind.free) = true
      · have hk' : k = NameKind.free := by simpa using hk
        obtain ⟨c, e⟩ := hc m (hk' ▸ List.Mem.head _)
        rw [if_pos hk, e]
        refine List.nodup_cons.mpr ⟨fun z => ?_, ha⟩
        obtain ⟨p, hp', e'⟩ := List.mem_map.mp z
        obtain ⟨a, b⟩ := hp p hp'
        have : p.1 = m := inj _ _ c (a.trans (congrArg some e')) e
        exact b (this ▸ List.Mem.head _)
      · rw [if_neg hk]; exact ha
    · intro p hp'
      by_cases hk : (k == NameKind.free) = true
      · have hk' : k = NameKind.free := by simpa using hk
        obtain ⟨c, e⟩ := hc m (hk' ▸ List.Mem.head _)
        rw [if_pos hk, e] at hp'
        rcases List.mem_cons.mp hp' with h | h
        · subst h; exact ⟨e, hn'.1⟩
        · exact ⟨(hp p h).1, fun z => (hp p h).2 (.tail _ z)⟩
      · rw [if_neg hk] at hp'
        exact ⟨(hp p hp').1, fun z => (hp p hp').2 (.tail _ z)⟩

noncomputable def relabelS (scope sc : Scope) : Scope := { scope with names := scope.names.map fun (n, k) => if (k == .free && sc.kind == .function && sc.names.lookup n == some .cell) then (n, .cell) else (n, k) }
theorem relabel_eq {scope sc : Scope} {env : Env} (h : env.scope = sc) : relabel scope env = relabelS scope sc := by subst h; rfl

theorem relabel_cell {sc : Scope} : ∀ {names : List (Str × NameKind)} {y : Str}, (∀ p ∈ names, p.2 ≠ .cell) → (names.map fun (n, k) => if (k == NameKind.free && sc.kind == .function && sc.names.lookup n == some .cell) then (n, NameKind.cell) else (n, k)).lookup y = some .cell → (y, NameKind.free) ∈ names
  | [], y, _, h => by simp at h
  | (n, k) :: r, y, hc, h => by
    rw [List.map_cons, List.lookup_cons] at h
    dsimp only at h
    by_cases hk : (k == NameKind.free && sc.kind == .function && sc.names.lookup n == some .cell) = true
    · rw [if_pos hk] at h
      have hk' : k = NameKind.free := by
        simp only [Bool.and_eq_true] at hk
        simpa using hk.1.1
      dsimp only at h
      by_cases hy : (y == n) = true
      · have : y = n := by simpa using hy
        rw [this, hk']; exact .head _
      · simp only [hy] at h
        exact .tail _ (relabel_cell (fun p hp => hc p (.tail _ hp)) h)
    · rw [if_neg hk] at h
      dsimp only at h
      by_cases hy : (y == n) = true
      · simp only [hy, Option.some.injEq] at h
        exact absurd h (hc (n, k) (.head _))
      · simp only [hy] at h
        exact .tail _ (relabel_cell (fun p hp => hc p (.tail _ hp)) h)
theorem relabel_free {sc : Scope} (hf : sc.kind = .function) : ∀ {names : List (Str × NameKind)} {y : Str}, (names.map (·.1)).Nodup → (y, NameKind.free) ∈ names → sc.names.lookup y = some .cell →
    (names.map fun (n, k) => if (k == NameKind.free && sc.kind == .function && sc.names.lookup n == some .cell) then (n, NameKind.cell) else (n, k)).lookup y = some .cell
  | [], y, _, h, _ => by cases h
  | (n, k) :: r, y, nd, h, hc => by
    have nd' := List.nodup_cons.mp (show (n :: r.map (·.1)).Nodup from nd)
    rw [List.map_cons]
    dsimp only
    rcases List.mem_cons.mp h with h | h
    · injection h with h1 h2
      subst h1; subst h2
      rw [if_pos (by simp [hf, hc]), List.lookup_cons]
      simp
    · have hne : (y == n) = false := by simpa using fun e : y = n => nd'.1 (List.mem_map.mpr ⟨_, h, e⟩)
      have ih := relabel_free hf nd'.2 h hc
      by_cases hk : (k == NameKind.free && sc.kind == .function && sc.names.lookup n == some .cell) = true
      · rw [if_pos hk, List.lookup_cons]; simp only [hne]; exact ih
      · rw [if_neg hk, List.lookup_cons]; simp only [hne]; exact ih

/-- the tests of a comprehension: none or one -/
noncomputable def CT (C : Cx) (k : Nat) (sc : Scope) (ifs : List Expr) (Γ : Gm) (σ : Ld) (Q : Bool → Ld → Prop) : Prop := match ifs with
  | [] => Q true σ
  | [c] => BT C k sc c Γ σ Q
  | _ => False

/-- within a comprehension: what stands at its list, its names, its iterator -/
structure CS (C : Cx) (σ : Ld) (s : Shared) (D Ca I : Addr) (st : List Vl → Heap → Prop) (l acc : List Vl) (σ' : Ld) (s' : Shared) : Prop where
  to : To C σ s σ' s'
  it : st l s'.heap
  itn : I ∉ fps σ'
  ls : ∃ vs : List Value, s'.heap.PlainList D vs.toArray ∧ VRs s'.heap acc vs
  lsn : D ∉ fps σ'
  ns : ∃ m, s'.heap.Ns Ca m
  nsn : Ca ∉ fps σ'

theorem CS.step {C σ s D Ca I need st l acc σ₁ s₁ σ₂ s₂} (W : Itr C I need st) (c : CS C σ s D Ca I st l acc σ₁ s₁) (t : To C σ₁ s₁ σ₂ s₂) : CS C σ s D Ca I st l acc σ₂ s₂ := by
  have tk := c.to.ok.tupKeep t.keep
  have alive : ∀ a o, a ∉ fps σ₁ → s₁.heap.get? a = some o → a ∉ fps σ₂ := fun a o n e z => by
    rcases t.fresh a z with z | z
    · exact n z
    · rw [e] at z; cases z
  obtain ⟨oI, _, _, eI, _⟩ := W.plain c.it
  obtain ⟨vs, pl, vr⟩ := c.ls
  obtain ⟨m, o, es, ep, e, r⟩ := c.ns
  obtain ⟨n, eD⟩ := pl
  exact ⟨c.to.trans t, W.stable c.it (fun o e => t.keep.same I o c.itn e) tk, alive _ _ c.itn eI, ⟨vs, ⟨n, t.keep.same D _ c.lsn eD⟩, vr.keep tk⟩, alive _ _ c.lsn eD,
    ⟨m, o, es, ep, t.keep.same Ca _ c.nsn e, r⟩, alive _ _ c.nsn e⟩

theorem tupKeep_but {h h' : Heap} {a : Addr} {o : Obj} (k : ∀ b x, b ≠ a → h.get? b = some x → h'.get? b = some x) (e : h.get? a = some o) (n : ∀ items n, o.data ≠ .seq items n ∨ o.cls ≠ .type "tuple") : TupKeep h h' := fun b items ⟨o', e', c, m, d⟩ =>
  ⟨o', k b o' (fun z => by subst z; cases e.symm.trans e'; rcases n items m with q | q; exact q d; exact q c) e', c, m, d⟩

section
variable {C : Cx} {k : Nat} {sc : Scope} {Γ : Gm} {σ : Ld}

theorem comp_core {elt iter : Expr} {x : Str} {px : Pos} {ifs : List Expr} {scope : Scope} {pos : Pos} {env A s} {RR : Value → Addr → Result → Shared → Prop} {Q : List Vl → Ld → Prop}
    (he : EnvOK sc env) (hA : OKA k A) (hs : St C env Γ σ s) (hsc : scope.kind = .function) (hcell : ∀ y ∈ scope.names, y.2 ≠ .cell) (hx : scope.names.lookup x = some .local) (hnd : (scope.names.map (·.1)).Nodup)
    (hfree : ∀ y, (y, NameKind.free) ∈ scope.names → sc.names.lookup y = some .cell) (Γf : Gm) (hΓ : ∀ p ∈ Γf, p ∈ Γ ∧ (p.1, NameKind.free) ∈ scope.names) (hΓn : (x :: Γf.map Prod.fst).Nodup)
    (h : IE C k sc iter Γ σ (fun need items σ₁ => ∃ J : List Vl → List Vl → Ld → Prop, J items [] σ₁ ∧ items.length ≤ 100000 ∧
      (∀ y l acc σ', J (y :: l) acc σ' → need σ' ∧ CT C k (relabelS scope sc) ifs ((x, some y) :: Γf) σ' (fun b σ₂ => if b then EV C k (relabelS scope sc) elt ((x, some y) :: Γf) σ₂ (fun v σ₃ => J l (acc ++ [v]) σ₃) else J l acc σ₂)) ∧
      (∀ acc σ', J [] acc σ' → need σ' ∧ Q acc σ')))
    (hRR : ∀ D Ca acc σ' s', To C σ s ((D, .list acc) :: σ') s' → s.heap.get? Ca = none → Ca ∉ fps ((D, .list acc) :: σ') → (∃ m, s'.heap.Ns Ca m) → Q acc σ' → RR (.ref D) Ca (.ok .next) s') :
    wpAny (model C.prog C.w) A (eval iter env) (fun xv s₁ => wpAny (model C.prog C.w) A (pyIter xv) (fun it s₂ => wpAny (model C.prog C.w) A (newList []) (fun acc s₃ =>
      wpAny (model C.prog C.w) A (newFunctionEnv scope env.globals (closeGo env.cells scope.names []) [] env.qual none .none (some env)) (fun cenv s₄ =>
        codeAny (model C.prog C.w) A (.compStart (.ListComp elt [⟨.Name x px, iter, ifs, 0⟩] scope pos) 0 it acc { cenv with scope := relabel scope env }) (RR acc cenv.locals) s₄) NE s₃) NE s₂) NE s₁) NE s := by
  refine ne_mono (h env A s he hA hs) fun xv s₁ h₁ => ne_mono h₁ ?_
  rintro it s₂ ⟨I, st, need, items, σ₁, rfl, W, hst, hI, hIσ, t, J, j0, hlen, jn, je⟩
  have hfc : ∀ y, (y, NameKind.free) ∈ scope.names → ∃ c, env.cells.lookup y = some c := fun y hy => hs.fr.own y (by show env.scope.names.lookup y = _; rw [he.scope]; exact hfree y hy)
  obtain ⟨oI, eI, nI⟩ := W.alive hst
  refine wpAny_newList ?_ (by simp [sizeLine])
  refine wpAny_newFunctionEnv hcell (by intro y hy; cases hy) (fun h₁ hns hsb => ?_) hsc
  dsimp only at hns hsb ⊢
  generalize hH : s₂.heap.push { cls := .type "list", data := .seq ([] : List Value).toArray } = H at hns hsb ⊢
  have hCs : H.objs.size = s₂.heap.objs.size + 1 := by rw [← hH, Heap.size_push]
  generalize hD : s₂.heap.objs.size = D at hCs ⊢
  generalize hCa : H.objs.size = Ca at hCs hns hsb ⊢
  have hD' : s₂.heap.objs.size ≤ D := Nat.le_of_eq hD
  have hC' : s₂.heap.objs.size ≤ Ca := by rw [hD, hCs]; exact Nat.le_succ D
  have DC : D ≠ Ca := by rw [hCs]; exact Nat.ne_of_lt (Nat.lt_succ_self D)
  have up : ∀ b o, s₂.heap.get? b = some o → h₁.get? b = some o := fun b o e => by
    have q := Heap.lt_size e
    refine hsb.extBut b o (Nat.ne_of_lt (Nat.lt_of_lt_of_le q hC')) (Heap.get?_push_of_some _ (hH ▸ Heap.get?_push_of_some _ e))
  have hDh : h₁.PlainList D #[] := ⟨0, hsb.extBut _ _ DC (Heap.get?_push_of_some _ (by rw [← hH, ← hD]; exact Heap.get?_push_size _ rfl))⟩
  have nD : s₂.heap.get? D = none := size_none hD'
  have nCa : s₂.heap.get? Ca = none := size_none hC'
  have nDs : s.heap.get? D = none := by
    cases q : s.heap.get? D with
    | none => rfl
    | some o => obtain ⟨o', e⟩ := t.keep.alive _ _ q; rw [nD] at e; cases e
  have nCs : s.heap.get? Ca = none := by
    cases q : s.heap.get? Ca with
    | none => rfl
    | some o => obtain ⟨o', e⟩ := t.keep.alive _ _ q; rw [nCa] at e; cases e
  have ID : I ≠ D := fun z => by rw [z, nD] at eI; cases eI
  have IC : I ≠ Ca := fun z => by rw [z, nCa] at eI; cases eI
  have fDσ : D ∉ fps σ₁ := fun z => by obtain ⟨o, e, _⟩ := t.ok.alive z; rw [nD] at e; cases e
  have fCσ : Ca ∉ fps σ₁ := fun z => by obtain ⟨o, e, _⟩ := t.ok.alive z; rw [nCa] at e; cases e
  have c0 : CS C σ s D Ca I st items [] σ₁ { s₂ with heap := h₁, toks := s₂.toks + ([] : List (Str × Value)).length } :=
    ⟨t.trans (To.ext t.ok up rfl rfl rfl), W.stable hst (fun o e => up _ _ e) (fun a items ⟨o, e, r⟩ => ⟨o, up _ _ e, r⟩), hIσ, ⟨[], hDh, .nil⟩, fDσ, ⟨_, hns⟩, fCσ⟩
  generalize { s₂ with heap := h₁, toks := s₂.toks + ([] : List (Str × Value)).length } = s₃ at c0 ⊢
  have hce : ({ newEnv scope Ca env.globals (closeGo env.cells scope.names []) env.qual none .none (some env) env.builtins with scope := relabel scope env } : Env) = compEnvC scope (closeGo env.cells scope.names []) Ca env := rfl
  show codeAny _ _ (.compStart _ 0 (.ref I) (.ref D) (compEnvC scope (closeGo env.cells scope.names []) Ca env)) (RR (.ref D) Ca) s₃
  have hmd : (D == sysModules) = false := t.ok.size_mod hD'
  have S0 : ∀ {σ' s'}, To C σ s σ' s' → ∀ {y : Vl} {r : Value} {m : Str → Option Value}, s'.heap.Ns Ca m → m x = some r → VR s'.heap y r → Ca ∉ fps σ' → St C (compEnvC scope (closeGo env.cells scope.names []) Ca env) ((x, some y) :: Γf) σ' s' := by
    intro σ' s' t' y r m hm hmx vr hn
    have so := hs.to t'
    refine ⟨so.ok, ⟨⟨m, hm⟩, fun p hp => ?_, fun z hz => ?_, fun z v hz => ?_, hΓn, ?_⟩, fun a ha => ?_, fun a ha => ?_⟩
    · rcases closeGo_mem hp with q | ⟨q1, q2⟩
      · cases q
      · obtain ⟨c, hc⟩ := hfc _ q1
        rw [hc] at q2
        rw [← show c = p.2 from q2]
        exact so.fr.cells _ (mem_of_lookup hc)
    · have hz' : (relabel scope env).names.lookup z = some .cell := hz
      rw [relabel_eq he.scope] at hz'
      have zf := relabel_cell hcell hz'
      exact ⟨_, by show (closeGo env.cells scope.names []).lookup z = _; rw [closeGo_lookup, if_pos zf]⟩
    · rcases List.mem_cons.mp hz with q | q
      · cases q
        exact ⟨r, .inl ⟨lookup_relabel_local hx, m, hm, hmx⟩, vr⟩
      · obtain ⟨q1, q2⟩ := hΓ _ q
        obtain ⟨r', a, b⟩ := so.fr.vars z v q1
        refine ⟨r', ?_, b⟩
        have hkz : env.kindOf z = some .cell := by show env.scope.names.lookup z = _; rw [he.scope]; exact hfree z q2
        rcases a with ⟨a, _⟩ | ⟨_, c, hc, hv⟩
        · rw [hkz] at a; cases a
        · refine .inr ⟨.inl ?_, c, ?_, hv⟩
          · show (relabel scope env).names.lookup z = _
            rw [relabel_eq he.scope]
            exact relabel_free he.kind hnd q2 (hfree z q2)
          · show (closeGo env.cells scope.names []).lookup z = _
            rw [closeGo_lookup, if_pos q2, hc]; rfl
    · exact closeGo_nodup (fun a b c h1 h2 => lookup_inj hs.fr.cnd h1 h2) hnd hfc List.nodup_nil (fun p hp => by cases hp)
    · rcases List.mem_cons.mp ha with q | q
      · rw [q]; exact hn
      · obtain ⟨p, hp, rfl⟩ := List.mem_map.mp q
        rcases closeGo_mem hp with q | ⟨q1, q2⟩
        · cases q
        · obtain ⟨c, hc⟩ := hfc _ q1
          rw [hc] at q2
          rw [← show c = p.2 from q2]
          exact so.dis c (List.Mem.tail _ (List.mem_map.mpr ⟨_, mem_of_lookup hc, rfl⟩))
    · rcases List.mem_cons.mp ha with q | q
      · rw [q]
        cases z : C.s₀.heap.get? Ca with
        | none => exact z
        | some o => have := hs.ok.ext _ _ z; rw [nCs] at this; cases this
      · obtain ⟨p, hp, rfl⟩ := List.mem_map.mp q
        rcases closeGo_mem hp with q | ⟨q1, q2⟩
        · cases q
        · obtain ⟨c, hc⟩ := hfc _ q1
          rw [hc] at q2
          rw [← show c = p.2 from q2]
          exact hs.fnew c (List.Mem.tail _ (List.mem_map.mpr ⟨_, mem_of_lookup hc, rfl⟩))
  have EO : EnvOK (relabelS scope sc) (compEnvC scope (closeGo env.cells scope.names []) Ca env) := ⟨relabel_eq he.scope, hsc, he.globals, he.builtins⟩
  generalize hcenv : compEnvC scope (closeGo env.cells scope.names []) Ca env = cenv at S0 EO ⊢
  have hcl : cenv.locals = Ca := by rw [← hcenv]; rfl
  have hckx : cenv.kindOf x = some .local := by rw [← hcenv]; exact lookup_relabel_local hx
  have hcp : (cenv.scope.kind == .class || (cenv.scope.kind == .module && cenv.locals != cenv.globals)) = false := by rw [EO.scope, EO.kind]; rfl
  have loop : codeAny (model C.prog C.w) A (.compLoop (.ListComp elt [⟨.Name x px, iter, ifs, 0⟩] scope pos) 0 (.ref I) (.ref D) cenv) (RR (.ref D) Ca) s₃ := by
    refine codeAny_compLoop_tests (fun n s' => ∃ l acc σ', n = l.length ∧ CS C σ s D Ca I st l acc σ' s' ∧ J l acc σ' ∧ acc.length + l.length ≤ items.length) ?_ items.length ⟨items, [], σ₁, rfl, c0, j0, by simp⟩
    rintro n s₄ ⟨l, acc, σ₄, rfl, c, hJ, hle⟩
    obtain ⟨oI, eI, nI⟩ := W.alive c.it
    refine ne_any ?_
    cases l with
    | nil =>
      obtain ⟨nd, q⟩ := je _ _ hJ
      refine W.done hA.handled c.to.ok nd c.it fun s₅ S => ?_
      have tk := S.tup eI nI
      have t5 := To.at hs.ok c.to S hI c.itn tk
      obtain ⟨vs, ⟨n, eD⟩, vr⟩ := c.ls
      obtain ⟨m, o, es, ep, e, r⟩ := c.ns
      have t6 := To.add (a := D) (o := .list acc) hs.ok t5 (fun b hb => by cases List.mem_singleton.mp hb; exact nDs) (fun b hb => by cases List.mem_singleton.mp hb; exact hmd) (fun b hb => by cases List.mem_singleton.mp hb; exact c.lsn) (by simp [Ob.fp]) ⟨vs, ⟨n, S.same D _ (Ne.symm ID) eD⟩, vr.keep tk⟩
      exact hRR D Ca acc σ₄ s₅ t6 nCs (fun z => by
        rcases List.mem_cons.mp (show Ca ∈ D :: fps σ₄ from z) with z | z
        · exact DC z.symm
        · exact c.nsn z) ⟨m, o, es, ep, S.same Ca _ (Ne.symm IC) e, r⟩ q
    | cons y l =>
      obtain ⟨nd, q⟩ := jn _ _ _ _ hJ
      refine W.next hA.handled c.to.ok nd c.it fun s₅ r S hst₅ vy => ?_
      have tk5 := S.tup eI nI
      have t5 := To.at hs.ok c.to S hI c.itn tk5
      obtain ⟨vs, ⟨n, eD⟩, vr⟩ := c.ls
      obtain ⟨m, o, es, ep, e, rr⟩ := c.ns
      have ns5 : s₅.heap.Ns Ca m := ⟨o, es, ep, S.same Ca _ (Ne.symm IC) e, rr⟩
      have eD5 := S.same D _ (Ne.symm ID) eD
      have vr5 := vr.keep tk5
      refine ne_any (wpAny_assign_Name (wpAny_storeName_local hckx (hcl ▸ ns5) (fun h₆ hn₆ sb₆ => ?_) hcp))
      rw [hcl] at hn₆ sb₆
      have S6 : SameI Ca s₅ { s₅ with heap := h₆, toks := s₅.toks + 1 } := ⟨fun b o n e => (sb₆.2 b n).trans e, rfl, rfl, rfl⟩
      obtain ⟨o5, es5, ep5, e5, d5, _⟩ := ns5
      have tk6 : TupKeep s₅.heap h₆ := tupKeep_but S6.same e5 fun items n => .inl (by rw [d5]; simp)
      have t6 := To.at hs.ok t5 S6 nCs c.nsn tk6
      obtain ⟨oI5, _, _, eI5, _⟩ := W.plain hst₅
      have c6 : CS C σ s D Ca I st l acc σ₄ { s₅ with heap := h₆, toks := s₅.toks + 1 } :=
        ⟨t6, W.stable hst₅ (fun o e => S6.same I o IC e) tk6, c.itn, ⟨vs, ⟨n, S6.same D _ DC eD5⟩, vr5.keep tk6⟩, c.lsn, ⟨_, hn₆⟩, c.nsn⟩
      have st6 := S0 t6 hn₆ (if_pos rfl) (vy.keep tk6) c.nsn
      generalize ({ s₅ with heap := h₆, toks := s₅.toks + 1 } : Shared) = s₆ at c6 st6 ⊢
      have tests : wpAny (model C.prog C.w) A (forIn ifs true fun c r => if r = true then do let ok ← isTrue c cenv (eval c cenv); pure (ForInStep.yield ok) else pure (ForInStep.yield r))
          (fun ok s₇ => ∃ σ₇, To C σ₄ s₆ σ₇ s₇ ∧ (if ok then EV C k (relabelS scope sc) elt ((x, some y) :: Γf) σ₇ (fun v σ₃ => J l (acc ++ [v]) σ₃) else J l acc σ₇)) NE s₆ := by
        cases ifs with
        | nil => exact wpAny_tests_nil ⟨σ₄, .refl st6.ok, q⟩
        | cons t rest =>
          cases rest with
          | cons _ _ => exact q.elim
          | nil =>
            refine wpAny_tests_one (ne_mono (q cenv A s₆ EO hA st6) ?_)
            rintro b s₇ ⟨σ₇, t₇, q₇⟩
            exact ⟨σ₇, t₇, q₇⟩
      refine ne_any (ne_mono tests ?_)
      · rintro ok s₇ ⟨σ₇, t₇, q₇⟩
        have c7 := c6.step W t₇
        have st7 := st6.to t₇
        cases ok with
        | false => exact ⟨l.length, by simp, l, acc, σ₇, rfl, c7, q₇, by simp at hle ⊢; (first | lia | omega)⟩
        | true =>
          refine ne_any (ne_mono (q₇ cenv A s₇ EO hA st7) ?_)
          rintro rv s₈ ⟨v, σ₈, t₈, vv, q₈⟩
          have c8 := c7.step W t₈
          obtain ⟨vs8, pl8, vr8⟩ := c8.ls
          refine ne_any (wpAny_list_append_plain pl8 (fun h₉ pl₉ sb₉ => ?_) (by rw [List.size_toArray, vr8.length]; simp at hle; simp [sizeLine]; (first | lia | omega)))
          have S9 : SameI D s₈ { s₈ with heap := h₉ } := ⟨fun b o n e => (sb₉.2 b n).trans e, rfl, rfl, rfl⟩
          obtain ⟨n8, eD8⟩ := pl8
          have tk9 : TupKeep s₈.heap h₉ := tupKeep_but S9.same eD8 fun items n => .inr (by simp)
          obtain ⟨m8, o8, es8, ep8, e8, r8⟩ := c8.ns
          refine ⟨l.length, by simp, l, acc ++ [v], σ₈, rfl, ⟨To.at hs.ok c8.to S9 nDs c8.lsn tk9, W.stable c8.it (fun o e => S9.same I o ID e) tk9, c8.itn, ⟨vs8 ++ [rv], by simpa using pl₉, (vr8.keep tk9).append (.cons (vv.keep tk9) .nil)⟩, c8.lsn, ⟨m8, o8, es8, ep8, S9.same Ca _ (Ne.symm DC) e8, r8⟩, c8.nsn⟩, q₈, by simp at hle ⊢; (first | lia | omega)⟩
  exact codeAny_compStart_list loop (ne_any (W.again c0.it loop))
end

noncomputable def noDup : List Str → Bool
  | [] => true
  | x :: r => !r.contains x && noDup r
theorem noDup_spec : ∀ {l : List Str}, noDup l = true → l.Nodup
  | [], _ => .nil
  | x :: r, h => by
    simp only [noDup, Bool.and_eq_true, Bool.not_eq_true'] at h
    exact List.nodup_cons.mpr ⟨fun q => (by rw [List.contains_iff_mem.mpr q] at h; cases h.1), noDup_spec h.2⟩
noncomputable def compOK (scope sc : Scope) (x : Str) : Bool :=
  scope.kind == .function && scope.names.all (fun p => p.2 != .cell) && scope.names.lookup x == some .local && noDup (scope.names.map (·.1)) && scope.names.all (fun p => p.2 != .free || sc.names.lookup p.1 == some .cell)
structure CompOK (scope sc : Scope) (x : Str) : Prop where
  kind : scope.kind = .function
  cell : ∀ y ∈ scope.names, y.2 ≠ .cell
  loc : scope.names.lookup x = some .local
  nd : (scope.names.map (·.1)).Nodup
  free : ∀ y, (y, NameKind.free) ∈ scope.names → sc.names.lookup y = some .cell
theorem compOK_spec {scope sc : Scope} {x : Str} (h : compOK scope sc x = true) : CompOK scope sc x := by
  unfold compOK at h
  obtain ⟨h, e⟩ := Bool.and_eq_true_iff.mp h
  obtain ⟨h, d⟩ := Bool.and_eq_true_iff.mp h
  obtain ⟨h, c⟩ := Bool.and_eq_true_iff.mp h
  obtain ⟨a, b⟩ := Bool.and_eq_true_iff.mp h
  refine ⟨by simpa using a, fun y hy => by simpa using List.all_eq_true.mp b y hy, by simpa using c, noDup_spec d, fun y hy => ?_⟩
  have := List.all_eq_true.mp e _ hy
  simpa using this
theorem CompOK.names {scope sc x} (h : CompOK scope sc x) : ∀ z ∈ scope.names, z.2 = .local → scope.names.lookup z.1 = some .local := by
  have nd := h.nd
  generalize scope.names = l at nd
  induction l with
  | nil => intro z hz; cases hz
  | cons p r ih =>
    intro z hz e
    have nd' := List.nodup_cons.mp (show (p.1 :: r.map (·.1)).Nodup from nd)
    obtain ⟨a, b⟩ := p
    rw [List.lookup_cons]
    rcases List.mem_cons.mp hz with q | q
    · subst q; dsimp only at e ⊢; rw [e]; simp
    · have : (z.1 == a) = false := by simpa using fun e' : z.1 = a => nd'.1 (List.mem_map.mpr ⟨z, q, e'⟩)
      rw [this]; exact ih nd'.2 z q e
noncomputable def isFree (scope : Scope) (y : Str) : Bool := scope.names.any fun p => p.1 == y && p.2 == .free
theorem isFree_spec {scope : Scope} {y : Str} (h : isFree scope y = true) : (y, NameKind.free) ∈ scope.names := by
  obtain ⟨p, hp, e⟩ := List.any_eq_true.mp h
  simp only [Bool.and_eq_true, beq_iff_eq] at e
  obtain ⟨a, b⟩ := p
  obtain ⟨rfl, rfl⟩ := e
  exact hp
/-- the names that a comprehension takes from around it -/
inductive FreeG (scope : Scope) (Γ : Gm) : Gm → Prop
  | nil : FreeG scope Γ []
  | cons {y v Γf} : Lk y v Γ → isFree scope y = true → FreeG scope Γ Γf → FreeG scope Γ ((y, some v) :: Γf)
theorem FreeG.spec {scope Γ Γf} (f : FreeG scope Γ Γf) (p) (hp : p ∈ Γf) : p ∈ Γ ∧ (p.1, NameKind.free) ∈ scope.names := by
  induction f with
  | nil => cases hp
  | cons a b _ ih =>
    rcases List.mem_cons.mp hp with q | q
    · subst q; exact ⟨a.mem, isFree_spec b⟩
    · exact ih q
section
variable {C : Cx} {k : Nat} {sc : Scope} {Γ : Gm} {σ : Ld}

theorem ns_at {h h' : Heap} {a b : Addr} {m} (x : h.Ns a m) (k : ∀ o, h.get? a = some o → h'.get? a = some o) : h'.Ns a m := let ⟨o, es, ep, e, r⟩ := x; ⟨o, es, ep, k _ e, r⟩

/-- what a comprehension's source, tests and element give -/
noncomputable def CompJ (C : Cx) (k : Nat) (sc scope : Scope) (x : Str) (ifs : List Expr) (elt : Expr) (Γf : Gm) (Q : List Vl → Ld → Prop) (need : Ld → Prop) (items : List Vl) (σ₁ : Ld) : Prop :=
  ∃ J : List Vl → List Vl → Ld → Prop, J items [] σ₁ ∧ items.length ≤ 100000 ∧
      (∀ y l acc σ', J (y :: l) acc σ' → need σ' ∧ CT C k (relabelS scope sc) ifs ((x, some y) :: Γf) σ' (fun b σ₂ => if b then EV C k (relabelS scope sc) elt ((x, some y) :: Γf) σ₂ (fun v σ₃ => J l (acc ++ [v]) σ₃) else J l acc σ₂)) ∧
      (∀ acc σ', J [] acc σ' → need σ' ∧ Q acc σ')

theorem ev_comp {elt iter : Expr} {x : Str} {px : Pos} {ifs : List Expr} {scope : Scope} {pos : Pos} {Q : Vl → Ld → Prop} (Γf : Gm)
    (hok : compOK scope sc x = true) (hΓ : FreeG scope Γ Γf) (hn : noDup (x :: Γf.map Prod.fst) = true)
    (h : IE C k sc iter Γ σ (CompJ C k sc scope x ifs elt Γf (fun acc σ' => ∀ D, Q (.ref D) ((D, .list acc) :: σ'))))
    (hs : foldedSetIterable iter = fun _ x => pure x := by rfl) : EV C k sc (.ListComp elt [⟨.Name x px, iter, ifs, 0⟩] scope pos) Γ σ Q := fun env A s he hA hs' => by
  have O := compOK_spec hok
  have hfc : ∀ y, (y, NameKind.free) ∈ scope.names → ∃ c, env.cells.lookup y = some c := fun y hy => hs'.fr.own y (by show env.scope.names.lookup y = _; rw [he.scope]; exact O.free y hy)
  rw [eval_ListComp]
  refine wpAny_comprehension_free (use := none) (cl := closeGo env.cells scope.names []) rfl (fun x => congrFun (congrFun hs env) x) (closureFor_of hfc) O.kind O.names ?_
  refine comp_core (RR := fun acc Ca => compPost (model C.prog C.w) A NE none (VP C σ s Q) acc Ca) he hA hs' O.kind O.cell O.loc O.nd O.free Γf hΓ.spec (noDup_spec hn) h ?_
  intro D Ca acc σ' s' t nC nCσ hm q
  obtain ⟨m, hm⟩ := hm
  refine ⟨m, hm, fun h' sb => ?_⟩
  obtain ⟨o, es, ep, e, d, _⟩ := hm
  have S : SameI Ca s' { s' with heap := h' } := ⟨fun b o n e => (sb.2 b n).trans e, rfl, rfl, rfl⟩
  exact ⟨.ref D, _, To.at hs'.ok t S nC nCσ (tupKeep_but S.same e fun items n => .inl (by rw [d]; simp)), .ref D, q D⟩

theorem ex_assign_comp {elt iter : Expr} {x y : Str} {px py : Pos} {ifs : List Expr} {scope : Scope} {pos spos : Pos} {Q : Fl → Gm → Ld → Prop} (Γf : Gm)
    (hok : compOK scope sc x = true) (hΓ : FreeG scope Γ Γf) (hn : noDup (x :: Γf.map Prod.fst) = true) (hy : isStore (sc.names.lookup y) = true)
    (hsw : ∀ env, EnvOK sc env → swapsWith (.ListComp elt [⟨.Name x px, iter, ifs, 0⟩] scope pos) (some (.Name y py)) spos.line env = pure true)
    (h : IE C k sc iter Γ σ (CompJ C k sc scope x ifs elt Γf (fun acc σ' => ∀ D, ∃ Γ', UpdG y (some (.ref D)) Γ Γ' ∧ Q .next Γ' ((D, .list acc) :: σ'))))
    (hs : foldedSetIterable iter = fun _ x => pure x := by rfl) : EX1 C k sc (.Assign [.Name y py] (.ListComp elt [⟨.Name x px, iter, ifs, 0⟩] scope pos) spos) Γ σ Q := fun env A s he hA hs' => by
  have O := compOK_spec hok
  have hfc : ∀ y, (y, NameKind.free) ∈ scope.names → ∃ c, env.cells.lookup y = some c := fun y hy => hs'.fr.own y (by show env.scope.names.lookup y = _; rw [he.scope]; exact O.free y hy)
  rw [exec_Assign_Name_used _ _ _ _ (hsw env he)]
  refine wpAny_bind (wpAny_standAt (wpAny_bind ?_))
  show wpAny _ A (do let _ ← comprehension (.ListComp elt [⟨.Name x px, iter, ifs, 0⟩] scope pos) scope env _ (newList []) false (eval iter env) (some (assign (.Name y py) env))) _ _ s
  refine wpAny_bind (wpAny_mono (wpAny_comprehension_free (use := some (assign (.Name y py) env)) (Q := fun _ s' => XP C env σ s Q .next s') (cl := closeGo env.cells scope.names []) rfl (fun x => congrFun (congrFun hs env) x) (closureFor_of hfc) O.kind O.names ?_) (fun _ s' hq => wpAny_pure (wpAny_pure hq)) fun _ _ e => e)
  refine comp_core (RR := fun acc Ca => compPost (model C.prog C.w) A NE (some (assign (.Name y py) env)) (fun _ s' => XP C env σ s Q .next s') acc Ca) he hA hs' O.kind O.cell O.loc O.nd O.free Γf hΓ.spec (noDup_spec hn) h ?_
  intro D Ca acc σ' s' t nC nCσ hm q
  obtain ⟨m, hm⟩ := hm
  obtain ⟨Γ', u, q⟩ := q D
  refine wpAny_assign_Name (store_to he (hs'.to t) u hy (.ref D) fun s₂ t₂ => ?_)
  have nCf : Ca ∉ fa env := fun z => by obtain ⟨o, e, _⟩ := hs'.fr.alive _ z; rw [nC] at e; cases e
  have hm₂ : s₂.heap.Ns Ca m := ns_at (b := Ca) hm fun o e => t₂.keep.same Ca o (fun z => (List.mem_append.mp z).elim nCσ nCf) e
  refine ⟨m, hm₂, fun h' sb => ?_⟩
  obtain ⟨o, es, ep, e, d, _⟩ := hm₂
  have S : SameI Ca s₂ { s₂ with heap := h' } := ⟨fun b o n e => (sb.2 b n).trans e, rfl, rfl, rfl⟩
  have nCσ' : Ca ∉ fps ((D, Ob.list acc) :: σ') := nCσ
  exact ⟨.next, Γ', _, ToX.at hs' ((t.toX hs').trans t₂) S nC nCσ' (tupKeep_but S.same e fun items n => .inl (by rw [d]; simp)), .next, q⟩
end

noncomputable def plainArgs : List Expr → Bool
  | [] => true
  | .Starred .. :: _ => false
  | _ :: r => plainArgs r
theorem plainArgs_cons {e : Expr} {r : List Expr} (h : plainArgs (e :: r) = true) : (∀ env, starEach (e :: r) env = (false, eval e env) :: starEach r env) ∧ plainArgs r = true := by
  cases e <;> first | exact ⟨fun _ => rfl, h⟩ | cases h
theorem plainArgs_any {pos : Pos} : ∀ {r : List Expr} {env : Env}, plainArgs r = true → (backTo pos (starEach r env)).any (·.1) = false
  | [], _, _ => rfl
  | e :: r, env, h => by
    obtain ⟨a, b⟩ := plainArgs_cons h
    rw [a env]
    show (false || (backTo pos (starEach r env)).any (·.1)) = false
    rw [plainArgs_any b]; rfl

section
variable {C : Cx} {k : Nat} {sc : Scope} {Γ : Gm} {σ : Ld}

/-- callWith of a value of the top's, behind first values -/
noncomputable def CW (C : Cx) (k : Nat) (sc : Scope) (f : Value) (first : List Vl) (args : List Expr) (Γ : Gm) (σ : Ld) (Q : Vl → Ld → Prop) : Prop :=
  ∀ env A s pos rs, EnvOK sc env → OKA k A → St C env Γ σ s → VRs s.heap first rs → wpAny (model C.prog C.w) A (callWith pos f rs (backTo pos (starEach args env)) []) (VP C σ s Q) NE s

theorem cw_K {f first args Q} (hk : keepIn C.K f = true) (hp : plainArgs args = true) (h : EVs C k sc args Γ σ (fun vs σ₁ => CLc C k f (first ++ vs) σ₁ Q)) : CW C k sc f first args Γ σ Q := fun env A s pos rs he hA hs hv => by
  have X : C.K.In s.heap := fun a o e => hs.ok.ext _ _ (C.X a o e)
  cases args with
  | nil =>
    refine callWith_K0 X hk ?_
    have := h env A s pos he hA hs
    have q : wpAny (model C.prog C.w) A (pure () : Sem Unit) (fun _ s' => s' = s ∧ VPs C σ s (fun vs σ₁ => CLc C k f (first ++ vs) σ₁ Q) [] s) NE s := fun Γ' p hΓ => ⟨rfl, this Γ' p hΓ⟩
    intro Γ' p hΓ
    obtain ⟨vs, σ₁, t, vr, q⟩ := this Γ' p hΓ
    cases vr
    have := q.cl A s rs hA t.ok (by simpa using hv)
    rw [List.append_nil]
    exact (ne_mono this fun _ _ x => x.after t) Γ' p hΓ
  | cons e r =>
    obtain ⟨a, b⟩ := plainArgs_cons hp
    refine callWith_K (h₀ := s.heap) X hk (ne_mono (h env A s pos he hA hs) ?_) (a env) (plainArgs_any b)
    rintro vs s₁ ⟨v, σ₁, t, vr, q⟩
    refine ⟨fun a o e => t.ok.ext _ _ (C.X a o e), ?_⟩
    exact ne_mono (q.cl A s₁ (rs ++ vs) hA t.ok ((hv.to hs.ok t).append vr)) fun _ _ x => x.after t

theorem ev_callK {f p args pos v Q} (hx : sc.names.lookup f = some .globalImplicit) (e : nsIn C.K mainGlobals f = some (some v)) (hk : keepIn C.K v = true) (hp : plainArgs args = true)
    (h : EVs C k sc args Γ σ (fun vs σ₁ => CLc C k v vs σ₁ Q)) (hd : (f == ("__debug__" : Str)) = false := by decide)
    (hc : ∀ env, eval (.Call (.Name f p) args [] pos) env = (do callWith pos (← eval (.Name f p) env) [] (backTo pos (starEach args env)) (backToKw pos (keywordEach [] env))) := by intro _; rfl) : EV C k sc (.Call (.Name f p) args [] pos) Γ σ Q := fun env A s he hA hs => by
  refine Call_ ?_ (hc env)
  have hn : EV C k sc (.Name f p) Γ σ (fun v' σ' => v' = .con v ∧ σ' = σ) := ev_global hx e ⟨rfl, rfl⟩ hd
  refine ne_mono (hn env A s he hA hs) ?_
  rintro r s₁ ⟨v', σ', t, vr, rfl, rfl⟩
  cases vr
  exact ne_mono (cw_K (first := []) hk hp h env A s₁ pos [] he hA (hs.to t) .nil) fun _ _ x => x.after t

/-- a built-in function of one argument -/
theorem ev_callB {f : Str} {p pos} {e : Expr} {id : String} {Q} (hx : sc.names.lookup f = some .globalImplicit) (hg : nsIn C.K mainGlobals f = some none) (hv : bootBuiltins f = some (.builtin id)) (hn : f ≠ "__name__")
    (h : EV C k sc e Γ σ (fun v σ₁ => CL C k (.builtin id) [v] σ₁ Q)) (hp : plainArgs [e] = true) (hd : (f == ("__debug__" : Str)) = false := by decide)
    (hc : ∀ env, eval (.Call (.Name f p) [e] [] pos) env = (do callWith pos (← eval (.Name f p) env) [] (backTo pos (starEach [e] env)) (backToKw pos (keywordEach [] env))) := by intro _; rfl) : EV C k sc (.Call (.Name f p) [e] [] pos) Γ σ Q := fun env A s he hA hs => by
  refine Call_ ?_ (hc env)
  have hn : EV C k sc (.Name f p) Γ σ (fun v' σ' => v' = .con (.builtin id) ∧ σ' = σ) := ev_builtin hx hg hv hn ⟨rfl, rfl⟩ hd
  refine ne_mono (hn env A s he hA hs) ?_
  rintro r s₁ ⟨v', σ', t, vr, rfl, rfl⟩
  cases vr
  obtain ⟨a, _⟩ := plainArgs_cons hp
  have es : backTo pos (starEach [e] env) = [(false, eval e env)] := by rw [a env]; rfl
  rw [es]
  refine callWith_builtin (by rfl) (evalArgs_plain (spliced_cons (ne_mono (h env A s₁ he hA (hs.to t)) ?_)))
  rintro r s₂ ⟨v, σ₂, t₂, vr, q⟩
  refine spliced_nil ?_
  exact ne_mono (q A s₂ [r] hA t₂.ok (.cons vr .nil)) fun _ _ x => (x.after t₂).after t
theorem ev_callT {f : Str} {p pos} {e : Expr} {T : String} {Q} (hx : sc.names.lookup f = some .globalImplicit) (hg : nsIn C.K mainGlobals f = some none) (hv : bootBuiltins f = some (.type T)) (hn : f ≠ "__name__")
    (h : EV C k sc e Γ σ (fun v σ₁ => CL C k (.type T) [v] σ₁ Q)) (hp : plainArgs [e] = true) (hd : (f == ("__debug__" : Str)) = false := by decide)
    (hc : ∀ env, eval (.Call (.Name f p) [e] [] pos) env = (do callWith pos (← eval (.Name f p) env) [] (backTo pos (starEach [e] env)) (backToKw pos (keywordEach [] env))) := by intro _; rfl) : EV C k sc (.Call (.Name f p) [e] [] pos) Γ σ Q := fun env A s he hA hs => by
  refine Call_ ?_ (hc env)
  have hn : EV C k sc (.Name f p) Γ σ (fun v' σ' => v' = .con (.type T) ∧ σ' = σ) := ev_builtin hx hg hv hn ⟨rfl, rfl⟩ hd
  refine ne_mono (hn env A s he hA hs) ?_
  rintro r s₁ ⟨v', σ', t, vr, rfl, rfl⟩
  cases vr
  obtain ⟨a, _⟩ := plainArgs_cons hp
  have es : backTo pos (starEach [e] env) = [(false, eval e env)] := by rw [a env]; rfl
  rw [es]
  refine PyProof.Rows.callWith_type (by rfl) (evalArgs_plain (spliced_cons (ne_mono (h env A s₁ he hA (hs.to t)) ?_)))
  rintro r s₂ ⟨v, σ₂, t₂, vr, q⟩
  refine spliced_nil ?_
  exact ne_mono (q A s₂ [r] hA t₂.ok (.cons vr .nil)) fun _ _ x => (x.after t₂).after t

/-- a method of an object of an own class -/
noncomputable def ownMethod (K : Frag) (Cc : Addr) (name : Str) (f : Addr) : Bool :=
  findIn K (.ref Cc) "__getattribute__" == some (some (.builtin "object.__getattribute__")) && findIn K (.ref Cc) "__getattr__" == some none && findIn K (.ref Cc) name == some (some (.ref f)) && typeIn K (.ref f) == some (.type "function") && keepIn K (.ref f)

theorem instMap_none {h : Heap} {dx : Addr} {l : List (Str × Vl)} {name : Str} (m : InstMap h dx l) (hn : name ∉ l.map (·.1)) : ∃ o, h.get? dx = some o ∧ lookIn name o = some none := by
  obtain ⟨o, es, ep, e, d, ks, _, _, _, hno⟩ := m
  refine ⟨o, e, ?_⟩
  have := hno name hn
  unfold nsFind findBy at this
  unfold lookIn
  rw [d]
  dsimp only
  have hf : es.toList.find? (·.key.isStr name) = none := by
    have q : es.find? (fun e => e.key.isStr name) = none := by simpa using this
    rwa [← Array.find?_toList] at q
  rw [hf]
  have : es.toList.any (·.refKey) = false := by
    rw [List.any_eq_false]
    intro x hx
    obtain ⟨n, t, hk⟩ := ks x (Array.mem_toList_iff.mp hx)
    simp [DictEntry.refKey, hk]
  rw [this]; rfl
theorem instMap_some {h : Heap} {dx : Addr} {l : List (Str × Vl)} {name : Str} {v : Vl} (m : InstMap h dx l) (hv : (name, v) ∈ l) : ∃ o r, h.get? dx = some o ∧ lookIn name o = some (some r) ∧ VR h v r := by
  obtain ⟨o, es, ep, e, d, ks, _, hs, _, _⟩ := m
  obtain ⟨r, hr, vr⟩ := hs _ hv
  refine ⟨o, r, e, ?_, vr⟩
  have := hr
  unfold nsFind findBy at this
  unfold lookIn
  rw [d]
  dsimp only
  rw [← Array.find?_toList] at this
  cases q : es.toList.find? (·.key.isStr name) with
  | none => rw [q] at this; cases this
  | some e' => rw [q] at this; simpa using this

theorem inst_at {h : Heap} {x Cc dx : Addr} {o : Obj} (e : h.get? x = some (instObj Cc dx)) (d : h.get? dx = some o) : InstAt h x (instObj Cc dx) Cc (some o) := ⟨e, rfl, rfl, d⟩

theorem ev_meth {o : Expr} {name : Str} {apos pos : Pos} {args : List Expr} {f : Addr} {Q} (hp : plainArgs args = true)
    (h : EV C k sc o Γ σ (fun ov σ₁ => ∃ x Cc dx l, ov = .ref x ∧ (x, Ob.inst Cc dx l) ∈ σ₁ ∧ ownMethod C.K Cc name f = true ∧ (l.map (·.1)).contains name = false ∧ EVs C k sc args Γ σ₁ (fun vs σ₂ => CLc C k (.ref f) (.ref x :: vs) σ₂ Q)))
    (he : ∀ env, ∃ pl, eval (.Call (.Attribute o name apos) args [] pos) env = (do
      let ov ← eval o env
      standAt apos.atName
      let (f, first) ← holding [ov] (getMethod ov name pl)
      callWith pos f first (backTo pos (starEach args env)) []) := by intro _; exact ⟨_, rfl⟩) :
    EV C k sc (.Call (.Attribute o name apos) args [] pos) Γ σ Q := fun env A s heo hA hs => by
  obtain ⟨pl, he⟩ := he env
  refine MethodCall_ (pl := pl) (ne_mono (h env A s heo hA hs) ?_) he
  rintro r s₁ ⟨v, σ₁, t, vr, x, Cc, dx, l, rfl, hm, ho, hn, q⟩
  cases vr
  unfold ownMethod at ho
  obtain ⟨ho, o5⟩ := Bool.and_eq_true_iff.mp ho
  obtain ⟨ho, o4⟩ := Bool.and_eq_true_iff.mp ho
  obtain ⟨ho, o3⟩ := Bool.and_eq_true_iff.mp ho
  obtain ⟨o1, o2⟩ := Bool.and_eq_true_iff.mp ho
  obtain ⟨e, im⟩ := t.ok.cells _ hm
  obtain ⟨od, e', hl⟩ := instMap_none (name := name) im (fun q => by rw [List.contains_iff_mem.mpr q] at hn; cases hn)
  refine method_fn (fun a o e => t.ok.ext _ _ (C.X a o e)) (inst_at e e') (beq_iff_eq.mp o1) (beq_iff_eq.mp o2) (beq_iff_eq.mp o3) (beq_iff_eq.mp o4) (by unfold shadowIn; dsimp only; rw [hl]; rfl) ?_
  exact ne_mono (cw_K (first := [.ref x]) o5 hp q env A s₁ pos _ heo hA (hs.to t) (.cons (.ref x) .nil)) fun _ _ x => x.after t

theorem ev_append {o e : Expr} {apos pos : Pos} {Q} (hp : plainArgs [e] = true)
    (h : EV C k sc o Γ σ (fun ov σ₁ => ∃ a l0, ov = .ref a ∧ (a, Ob.list l0) ∈ σ₁ ∧ EV C k sc e Γ σ₁ (fun v σ₂ => ∃ l σ₃, Upd a (.list l) (.list (l ++ [v])) σ₂ σ₃ ∧ l.length ≤ 1000000 ∧ Q .none σ₃)))
    (he : ∀ env, ∃ pl, eval (.Call (.Attribute o "append" apos) [e] [] pos) env = (do
      let ov ← eval o env
      standAt apos.atName
      let (f, first) ← holding [ov] (getMethod ov "append" pl)
      callWith pos f first (backTo pos (starEach [e] env)) []) := by intro _; exact ⟨_, rfl⟩) :
    EV C k sc (.Call (.Attribute o "append" apos) [e] [] pos) Γ σ Q := fun env A s heo hA hs => by
  obtain ⟨pl, he⟩ := he env
  refine MethodCall_ (pl := pl) (ne_mono (h env A s heo hA hs) ?_) he
  rintro r s₁ ⟨v, σ₁, t, vr, a, l0, rfl, hm, q⟩
  cases vr
  obtain ⟨vs, ⟨n, el⟩, vr⟩ := t.ok.cells _ hm
  refine getMethod_builtin (T := "list") ⟨_, el, rfl⟩ PySem.F.plainAttrs_list PySem.F.slot_list_append PySem.F.type_list_append (fun b eb => by cases eb; exact ⟨_, el, rfl⟩) ?_
  dsimp only
  obtain ⟨ea, _⟩ := plainArgs_cons hp
  have es : backTo pos (starEach [e] env) = [(false, eval e env)] := by rw [ea env]; rfl
  rw [es]
  refine callWith_builtin (by rfl) (evalArgs_plain (spliced_cons (ne_mono (q env A s₁ heo hA (hs.to t)) ?_)))
  rintro r s₂ ⟨v, σ₂, t₂, vv, l, σ₃, u, hlen, q⟩
  refine spliced_nil ?_
  obtain ⟨vs2, pl2, vr2⟩ := t₂.ok.cells _ u.mem
  refine wpAny_list_append_plain pl2 (fun h' pl' sb => ?_) (by rw [List.size_toArray, vr2.length]; simp [sizeLine]; (first | lia | omega))
  obtain ⟨n2, e2⟩ := pl2
  have tk : TupKeep s₂.heap h' := tupKeep_but (fun b x n e => (sb.2 b n).trans e) e2 fun items n => .inr (by simp)
  have t3 : To C σ₂ s₂ σ₃ { s₂ with heap := h' } := To.upd t₂.ok u (fun b x hb e => (sb.2 b (fun z => hb (z ▸ List.Mem.head _))).trans e) rfl rfl rfl rfl
    ⟨vs2 ++ [r], by simpa using pl', (vr2.keep tk).append (.cons (vv.keep tk) .nil)⟩
  exact ⟨.none, σ₃, (t.trans t₂).trans t3, .none, q⟩

theorem valueAt_rel {h : Heap} {l : List (Int × Vl)} {kvs} (x : KRs h l kvs) (k) : match l.find? (fun p => p.1 = k) with | some p => ∃ r, valueAt kvs k = some r ∧ VR h p.2 r | none => valueAt kvs k = none := by
  induction x with
  | nil => rfl
  | @cons k' v r l vs a b ih =>
    by_cases hk : k' = k
    · simp [valueAt, hk]; exact a
    · simp only [List.find?_cons, hk, decide_false, valueAt] at ih ⊢
      exact ih
noncomputable def dget (l : List (Int × Vl)) (k : Int) : Option Vl := (l.find? fun p => p.1 = k).map (·.2)
theorem dget_rel {h : Heap} {l : List (Int × Vl)} {kvs} (r : KRs h l kvs) (k : Int) : match dget l k with | some v => ∃ r, valueAt kvs k = some r ∧ VR h v r | none => valueAt kvs k = none := by
  have := valueAt_rel r k
  unfold dget
  cases q : l.find? (fun p => p.1 = k) with
  | none => rw [q] at this; exact this
  | some p => rw [q] at this; exact this

theorem ev_get {o e d : Expr} {apos pos : Pos} {Q} (hp : plainArgs [e, d] = true)
    (h : EV C k sc o Γ σ (fun ov σ₁ => ∃ a l0, ov = .ref a ∧ (a, Ob.idict l0) ∈ σ₁ ∧ EVs C k sc [e, d] Γ σ₁ (fun vs σ₂ => ∃ i dv l, vs = [.int i, dv] ∧ (a, Ob.idict l) ∈ σ₂ ∧ Q ((dget l i).getD dv) σ₂)))
    (he : ∀ env, ∃ pl, eval (.Call (.Attribute o "get" apos) [e, d] [] pos) env = (do
      let ov ← eval o env
      standAt apos.atName
      let (f, first) ← holding [ov] (getMethod ov "get" pl)
      callWith pos f first (backTo pos (starEach [e, d] env)) []) := by intro _; exact ⟨_, rfl⟩) :
    EV C k sc (.Call (.Attribute o "get" apos) [e, d] [] pos) Γ σ Q := fun env A s heo hA hs => by
  obtain ⟨pl, he⟩ := he env
  refine MethodCall_ (pl := pl) (ne_mono (h env A s heo hA hs) ?_) he
  rintro r s₁ ⟨v, σ₁, t, vr, a, l0, rfl, hm, q⟩
  cases vr
  obtain ⟨kvs, da, kr⟩ := t.ok.cells _ hm
  refine getMethod_builtin da.typeIs PySem.F.plainAttrs_dict PySem.F.slot_dict_get PySem.F.type_dict_get da.mapOf.noDict ?_
  dsimp only
  have hsp := q env A s₁ pos heo hA (hs.to t)
  obtain ⟨ea, eb⟩ := plainArgs_cons hp
  have hpl : (backTo pos (starEach [e, d] env)).any (·.1) = false := plainArgs_any hp
  have es : backTo pos (starEach [e, d] env) = (false, eval e env) :: backTo pos (starEach [d] env) := by rw [ea env]; rfl
  rw [es] at hsp hpl ⊢
  refine callWith_builtin hpl (evalArgs_plain (ne_mono hsp ?_))
  rintro rs s₂ ⟨vs, σ₂, t₂, vv, i, dv, l, rfl, hm2, q⟩
  cases vv with
  | cons x1 vv =>
    cases vv with
    | cons x2 vv =>
      cases vv
      cases x1
      rename_i rd tk
      obtain ⟨kvs2, da2, kr2⟩ := t₂.ok.cells _ hm2
      have lo := t₂.ok.nomod a (mem_fps hm2 (List.Mem.head _))
      have hrel := dget_rel kr2 i
      show wpAny _ _ (call (.builtin "dict.get") [.ref a, .int i tk, rd]) _ _ s₂
      refine call_meetsIn PySem.F.slot_dict_get da2.typeIs PySem.F.entry_dict_get (PySem.F.args_dict_get_3 _ _ _) (meets_dict_get_default (intKind C.prog C.w) a (intKind_is C.prog C.w i tk) lo rd) ⟨_, da2.mapOf, ?_⟩
      have t3 : To C σ₂ s₂ σ₂ { s₂ with toks := s₂.toks + 1 } := To.ext t₂.ok (fun _ _ e => e) rfl rfl rfl
      cases z : dget l i with
      | none =>
        rw [z] at hrel q
        show VP C σ s Q ((valueAt kvs2 i).getD rd) _
        rw [hrel]
        exact ⟨dv, σ₂, (t.trans t₂).trans t3, x2, q⟩
      | some u =>
        rw [z] at hrel q
        obtain ⟨ru, e1, e2⟩ := hrel
        show VP C σ s Q ((valueAt kvs2 i).getD rd) _
        rw [e1]
        exact ⟨u, σ₂, (t.trans t₂).trans t3, e2, q⟩
end

noncomputable def fnOK (scope : Scope) (ps : List Str) : Bool :=
  scope.kind == .function && !scope.isCoroutine && !scope.isGenerator && noDup (scope.names.map (·.1)) && noDup ps && ps.all fun x => isStore (scope.names.lookup x)
structure FnOK (scope : Scope) (ps : List Str) : Prop where
  kind : scope.kind = .function
  co : scope.isCoroutine = false
  gen : scope.isGenerator = false
  nd : (scope.names.map (·.1)).Nodup
  pnd : ps.Nodup
  st : ∀ x ∈ ps, isStore (scope.names.lookup x) = true
theorem fnOK_spec {scope ps} (h : fnOK scope ps = true) : FnOK scope ps := by
  unfold fnOK at h
  obtain ⟨h, f⟩ := Bool.and_eq_true_iff.mp h
  obtain ⟨h, e⟩ := Bool.and_eq_true_iff.mp h
  obtain ⟨h, d⟩ := Bool.and_eq_true_iff.mp h
  obtain ⟨h, c⟩ := Bool.and_eq_true_iff.mp h
  obtain ⟨a, b⟩ := Bool.and_eq_true_iff.mp h
  exact ⟨by simpa using a, by simpa using b, by simpa using c, noDup_spec d, noDup_spec e, fun x hx => List.all_eq_true.mp f x hx⟩

noncomputable def startG (ps : List Str) (vs : List Vl) (ls : List Str) : Gm := (ps.zip vs).map (fun p => (p.1, some p.2)) ++ ls.map fun x => (x, none)
theorem startG_mem {ps vs ls x v} (h : (x, some v) ∈ startG ps vs ls) : (x, v) ∈ ps.zip vs := by
  rcases List.mem_append.mp h with h | h
  · obtain ⟨p, hp, e⟩ := List.mem_map.mp h
    cases e; exact hp
  · obtain ⟨p, hp, e⟩ := List.mem_map.mp h
    cases e

theorem bindL_other {kd : Str → Option NameKind} {y : Str} : ∀ {l : List (Str × Value)} {m}, y ∉ l.map (·.1) → bindL kd l m y = m y
  | [], m, _ => rfl
  | (n, v) :: r, m, h => by
    unfold bindL
    rw [bindL_other (fun q => h (.tail _ q))]
    split
    · exact if_neg fun q : y = n => h (q ▸ List.Mem.head _)
    · rfl
theorem bindL_mem {kd : Str → Option NameKind} {y : Str} {v : Value} (hk : kd y = some .local) : ∀ {l : List (Str × Value)} {m}, (l.map (·.1)).Nodup → (y, v) ∈ l → bindL kd l m y = some v
  | (n, u) :: r, m, nd, h => by
    have nd' := List.nodup_cons.mp (show (n :: r.map (·.1)).Nodup from nd)
    unfold bindL
    rcases List.mem_cons.mp h with h | h
    · injection h with h1 h2
      subst h1; subst h2
      rw [bindL_other nd'.1, if_pos hk]
      exact if_pos rfl
    · exact bindL_mem hk nd'.2 h
theorem bindC_other {kd : Str → Option NameKind} {y : Str} : ∀ {l : List (Str × Value)} {m}, y ∉ l.map (·.1) → bindC kd l m y = m y
  | [], m, _ => rfl
  | (n, v) :: r, m, h => by
    unfold bindC
    rw [bindC_other (fun q => h (.tail _ q))]
    split
    · rfl
    · exact if_neg fun q : y = n => h (q ▸ List.Mem.head _)
theorem bindC_mem {kd : Str → Option NameKind} {y : Str} {v : Value} (hk : kd y ≠ some .local) : ∀ {l : List (Str × Value)} {m}, (l.map (·.1)).Nodup → (y, v) ∈ l → bindC kd l m y = some v
  | (n, u) :: r, m, nd, h => by
    have nd' := List.nodup_cons.mp (show (n :: r.map (·.1)).Nodup from nd)
    unfold bindC
    rcases List.mem_cons.mp h with h | h
    · injection h with h1 h2
      subst h1; subst h2
      rw [bindC_other nd'.1, if_neg hk]
      exact if_pos rfl
    · exact bindC_mem hk nd'.2 h
theorem zip_mem {h : Heap} {ps : List Str} {vs rs} (y : VRs h vs rs) {x v} (hm : (x, v) ∈ ps.zip vs) : ∃ r, (x, r) ∈ ps.zip rs ∧ VR h v r :=
  y.ind (P := fun vs rs => ∀ ps : List Str, (x, v) ∈ ps.zip vs → ∃ r, (x, r) ∈ ps.zip rs ∧ VR h v r) (fun ps hm => by cases ps <;> cases hm) (fun w r l vs a _ ih ps hm => by
    cases ps with
    | nil => cases hm
    | cons p ps =>
      rcases List.mem_cons.mp hm with q | q
      · cases q; exact ⟨_, .head _, a⟩
      · obtain ⟨r, h1, h2⟩ := ih ps q
        exact ⟨r, .tail _ h1, h2⟩) ps hm
theorem zip_fst : ∀ {ps : List Str} {rs : List Value}, ps.length = rs.length → (ps.zip rs).map (·.1) = ps
  | [], _, _ => rfl
  | p :: ps, [], h => by cases h
  | p :: ps, r :: rs, h => by simp; exact zip_fst (by simpa using h)

section
variable {C : Cx} {k : Nat} {σ : Ld}

theorem cl_def {a : Addr} {name qual : Str} {params : Arguments} {body : List Stmt} {scope : Scope} {dV kV doc pm cdv ct oc : Value} {an od : Option Addr} {osl : Array (Option Value)} {vs vs' : List Vl} {ps ls : List Str} {Γ₀ : Gm} {Q : Vl → Ld → Prop}
    (ho : C.K.lookup a = some ⟨oc, od, .func (fnOf name qual params body scope dV kV doc pm an cdv ct), osl⟩) (hcd : codeIn C.K cdv qual = true)
    (hb : ∀ s rs, C.K.In s.heap → VRs s.heap vs rs → ∃ rs', VRs s.heap vs' rs' ∧ BindsTo s (fnOf name qual params body scope dV kV doc pm an cdv ct) ⟨rs, []⟩ (ps.zip rs'))
    (hl : ps.length = vs'.length) (hok : fnOK scope ps = true) (hΓ : Γ₀ = startG ps vs' ls) (hΓn : noDup (Γ₀.map Prod.fst) = true)
    (h : EX C k scope body Γ₀ σ (fun f _ σ' => match f with | .ret v => Q v σ' | .next => Q .none σ' | _ => False)) : CLc C (k + 1) (.ref a) vs σ Q := by
  intro A s rs hA hs hv
  have X : C.K.In s.heap := fun a o e => hs.ext _ _ (C.X a o e)
  obtain ⟨rs', hv', hbind⟩ := hb s rs X hv
  have O := fnOK_spec hok
  have hlr : ps.length = rs'.length := hl.trans hv'.length.symm
  have bfst := zip_fst hlr
  refine codeAny_call_function (by have := hA.depth; unfold recursionLimit; (first | lia | omega)) (X _ _ ho) rfl O.co O.gen rfl (codeRec_of X hcd) (hbind _ _ _ _ ?_)
  refine wpAny_newFunctionEnv_cells O.kind (fun x hx => ?_) fun env' he s₁ x => ?_
  · have hx' : x.1 ∈ ps := by rw [← bfst]; exact List.mem_map.mpr ⟨x, hx, rfl⟩
    have := O.st _ hx'
    cases q : scope.names.lookup x.1 with
    | none => rw [show List.lookup x.1 scope.names = none from q] at this; cases this
    | some kd =>
      rw [show List.lookup x.1 scope.names = some kd from q] at this
      cases kd with
      | «local» => exact .inl rfl
      | cell => exact .inr ⟨rfl, cellsFrom_some _ _ _ (.inl q)⟩
      | _ => cases this
  have hkd : ∀ y, env'.kindOf y = scope.names.lookup y := fun y => by rw [he]; rfl
  have hloc : env'.locals = s.heap.objs.size := by rw [he]; rfl
  have hcells : env'.cells = cellsFrom (s.heap.objs.size + 1) scope.names [] := by rw [he]; rfl
  have EO : EnvOK scope env' := ⟨by rw [he]; rfl, O.kind, by rw [he]; rfl, by rw [he]; rfl⟩
  obtain ⟨hp, tk, e1⟩ := x.toInCall.same
  have keep := x.toInCall.keep
  have nil : ∀ b, s.heap.objs.size ≤ b → s.heap.get? b = none := fun b hb => size_none hb
  have cnames : (cellsFrom 0 scope.names []).map (·.1) = env'.cells.map (·.1) := by rw [hcells]; exact cellsFrom_names _ _ _ _ _ rfl
  have cnd : (env'.cells.map (·.1)).Nodup := by
    rw [hcells]
    have : ∀ (names : List (Str × NameKind)) (n : Nat) (acc : List (Str × Addr)), (names.map (·.1)).Nodup → (acc.map (·.1)).Nodup → (∀ p ∈ acc, p.1 ∉ names.map (·.1)) → ((cellsFrom n names acc).map (·.1)).Nodup := by
      intro names
      induction names with
      | nil => intro n acc _ h _; exact h
      | cons p r ih =>
        obtain ⟨y, kd⟩ := p
        intro n acc hn ha hd
        have hn' := List.nodup_cons.mp (show (y :: r.map (·.1)).Nodup from hn)
        unfold cellsFrom
        split
        · refine ih _ _ hn'.2 (List.nodup_cons.mpr ⟨fun q => ?_, ha⟩) fun p hp => ?_
          · obtain ⟨p, hp, e⟩ := List.mem_map.mp q
            exact hd p hp (e ▸ List.Mem.head _)
          · rcases List.mem_cons.mp hp with q | q
            · subst q; exact hn'.1
            · exact fun z => hd p q (.tail _ z)
        · exact ih _ _ hn'.2 ha fun p hp z => hd p hp (.tail _ z)
    exact this _ _ _ O.nd .nil fun p hp => by cases hp
  have faA : ∀ b ∈ fa env', s.heap.objs.size ≤ b := fun b hb => by
    rcases List.mem_cons.mp hb with q | q
    · rw [q, hloc]; exact Nat.le_refl _
    · obtain ⟨p, hp, rfl⟩ := List.mem_map.mp q
      have := x.above p.1 p.2 hp
      rw [hloc] at this
      exact Nat.le_of_lt this
  have hgens : s₁.gens = s.gens := by rw [e1]
  have hdr : s₁.drawn = s.drawn := by rw [e1]
  have hos : s₁.os = s.os := by rw [e1]
  have t1 : To C σ s σ s₁ := To.ext hs keep hgens hdr hos
  have S : St C env' Γ₀ σ s₁ := by
    refine ⟨t1.ok, ⟨⟨_, x.toInCall.ns⟩, fun p hp => ?_, fun y hy => ?_, fun y v hy => ?_, noDup_spec hΓn, ?_⟩, fun b hb hx => ?_, fun b hb => ?_⟩
    · exact ⟨_, x.cell p.1 p.2 (lookup_of_mem_nodup cnd hp)⟩
    · rw [hcells]
      exact Option.isSome_iff_exists.mp (cellsFrom_some _ _ _ (.inl ((hkd y).symm.trans hy)))
    · rw [hΓ] at hy
      obtain ⟨r, hr, vr⟩ := zip_mem hv' (startG_mem hy)
      refine ⟨r, ?_, vr.keep fun a items ⟨o, e, q⟩ => ⟨o, keep _ _ e, q⟩⟩
      have hyp : y ∈ ps := by rw [← bfst]; exact List.mem_map.mpr ⟨_, hr, rfl⟩
      have hst := O.st y hyp
      have hbn : ((ps.zip rs').map (·.1)).Nodup := by rw [bfst]; exact O.pnd
      cases q : scope.names.lookup y with
      | none => rw [q] at hst; cases hst
      | some kd =>
        rw [q] at hst
        cases kd with
        | «local» => exact .inl ⟨(hkd y).trans q, _, x.toInCall.ns, bindL_mem ((hkd y).trans q) hbn hr⟩
        | cell =>
          obtain ⟨c, hc⟩ := Option.isSome_iff_exists.mp (cellsFrom_some (x := y) scope.names (s.heap.objs.size + 1) [] (.inl q))
          rw [← hcells] at hc
          have := x.cell y c hc
          rw [bindC_mem (by rw [hkd y, q]; simp) hbn hr] at this
          exact .inr ⟨.inl ((hkd y).trans q), c, hc, this⟩
        | _ => cases hst
    · have := x.apart
      exact List.pairwise_map.mpr this
    · obtain ⟨o, e, _⟩ := hs.alive hx
      rw [nil b (faA b hb)] at e; cases e
    · cases q : C.s₀.heap.get? b with
      | none => rfl
      | some o => have := hs.ext _ _ q; rw [nil b (faA b hb)] at this; cases this
  refine ⟨(C.lim.keeps hs.ext).keeps keep, codeAny_func (ne_any (ne_mono (h env' _ s₁ EO hA.deeper S) ?_))⟩
  rintro f s₂ ⟨g, Γ', σ', t, fr, q⟩
  have tt : To C σ s σ' s₂ := by
    refine ⟨t.ok, ⟨fun b o n e => ?_, fun b o e => ?_⟩, fun b hb => ?_⟩
    · refine t.keep.same b o (fun z => ?_) (keep b o e)
      rcases List.mem_append.mp z with z | z
      · exact n z
      · rw [nil b (faA b z)] at e; cases e
    · exact t.keep.alive b o (keep b o e)
    · rcases t.fresh b hb with z | z
      · exact .inl z
      · refine .inr ?_
        cases q : s.heap.get? b with
        | none => rfl
        | some o => rw [keep _ _ q] at z; cases z
  cases fr with
  | next => exact ⟨.none, σ', tt, .none, q⟩
  | brk => exact q.elim
  | cont => exact q.elim
  | ret v => exact ⟨_, σ', tt, v, q⟩
end

theorem OKA.make {k A Cc vals} (h : OKA (k + 1) A) : OKA k (A.under (.builtin "type.__call__" ⟨.ref Cc :: vals, []⟩)) :=
  ⟨h.handled, by have := h.depth; rw [depth_under_make]; (first | lia | omega), by have := h.units; rw [units_under_make]; (first | lia | omega)⟩

noncomputable def notCon : Vl → Bool
  | .con _ => false
  | _ => true
theorem handed_of {h : Heap} {v r} (x : VR h v r) (n : notCon v = true) : handedIn r = true := by
  cases x <;> first | rfl | cases n

section
variable {C : Cx} {k : Nat} {sc : Scope} {Γ : Gm} {σ : Ld}

theorem cl_make {Cc fI : Addr} {vs : List Vl} {Q : Vl → Ld → Prop} (hm : makesIn C.K Cc = true) (hi : findIn C.K (.ref Cc) "__init__" = some (some (.ref fI))) (hf : typeIn C.K (.ref fI) = some (.type "function"))
    (h : ∀ x dx, CLc C k (.ref fI) (.ref x :: vs) ((x, .inst Cc dx []) :: σ) (fun v σ' => v = .none ∧ Q (.ref x) σ')) : CLc C (k + 1) (.ref Cc) vs σ Q := by
  intro A s rs hA hs hv
  have X : C.K.In s.heap := fun a o e => hs.ext _ _ (C.X a o e)
  obtain ⟨hh, g, d, t, os⟩ := s
  refine make_core (makes_of X hm) (looks_findIn X hi) (fun self => bind_fn X self hf) (.inl rfl) ?_
  have up : ∀ a o, hh.get? a = some o → ((hh.push emptyDict).push (instObj Cc hh.objs.size)).get? a = some o := fun a o e => Heap.get?_push_of_some _ (Heap.get?_push_of_some _ e)
  have e1 : ((hh.push emptyDict).push (instObj Cc hh.objs.size)).get? (hh.objs.size + 1) = some (instObj Cc hh.objs.size) := by
    have := Heap.get?_push_size (h := hh.push emptyDict) (o := instObj Cc hh.objs.size) rfl
    rwa [Heap.size_push] at this
  have e2 : ((hh.push emptyDict).push (instObj Cc hh.objs.size)).get? hh.objs.size = some emptyDict := Heap.get?_push_of_some _ (Heap.get?_push_size _ rfl)
  have tp : To C σ ⟨hh, g, d, t, os⟩ ((hh.objs.size + 1, .inst Cc hh.objs.size []) :: σ) ⟨(hh.push emptyDict).push (instObj Cc hh.objs.size), g, d, t, os⟩ :=
    To.push hs up rfl rfl rfl (fun b hb => by
      show hh.objs.size ≤ b
      rcases List.mem_cons.mp hb with q | q
      · rw [q]; exact Nat.le_succ _
      · rw [List.mem_singleton.mp q]; exact Nat.le_refl _) (by
      show [hh.objs.size + 1, hh.objs.size].Nodup
      simp) ⟨e1, _, #[], 0, e2, rfl, fun _ he => by simp at he, Nat.le_refl 0, fun p hp => (by cases hp), .nil, fun _ _ => rfl⟩
  have tk : TupKeep hh ((hh.push emptyDict).push (instObj Cc hh.objs.size)) := fun a items ⟨o, e, r⟩ => ⟨o, up _ _ e, r⟩
  have := h (hh.objs.size + 1) hh.objs.size _ _ (.ref (hh.objs.size + 1) :: rs) (hA.make (Cc := Cc) (vals := rs)) tp.ok (.cons (.ref _) (hv.keep tk))
  refine codeAny_mono this fun r s' z => ?_
  rcases r with e | (v | _ | _ | _) <;> first | exact z.elim | skip
  obtain ⟨v', σ', t', vr, rfl, qq⟩ := z
  cases vr
  exact ⟨rfl, .ref _, σ', tp.trans t', .ref _, qq⟩

noncomputable def ownAttr (K : Frag) (Cc : Addr) (name : Str) : Bool :=
  findIn K (.ref Cc) "__getattribute__" == some (some (.builtin "object.__getattribute__")) && hasDictIn K Cc && findIn K (.ref Cc) name == some none
theorem t1_attr {x Cc dx : Addr} {l : List (Str × Vl)} {name : Str} {v : Vl} {Q} (hm : (x, Ob.inst Cc dx l) ∈ σ) (hv : (name, v) ∈ l) (ha : ownAttr C.K Cc name = true) (hn : notCon v = true) (h : Q v σ) : T1 C k (fun a => getAttr a name true) (.ref x) σ Q := by
  intro A s ra hA hs hx
  cases hx
  obtain ⟨e, im⟩ := hs.cells _ hm
  obtain ⟨od, r, e', hl, vr⟩ := instMap_some im hv
  unfold ownAttr at ha
  obtain ⟨ha, a3⟩ := Bool.and_eq_true_iff.mp ha
  obtain ⟨a1, a2⟩ := Bool.and_eq_true_iff.mp ha
  exact get_value (fun a o e => hs.ext _ _ (C.X a o e)) (inst_at e e') (beq_iff_eq.mp a1) (findObj_own a2 (beq_iff_eq.mp a3) rfl hl) (handed_of vr hn)
    ⟨v, σ, To.ext hs (fun _ _ e => e) rfl rfl rfl, vr, h⟩
theorem ev_attr {o : Expr} {name : Str} {pos : Pos} {Q} (h : EV C k sc o Γ σ (fun ov σ₁ => T1 C k (fun a => getAttr a name true) ov σ₁ Q))
    (he : ∀ env, eval (.Attribute o name pos) env = (do
      let ov ← eval o env
      standAt pos.atName
      let r ← holding [ov] (getAttr ov name true)
      letTemporaryGo o ov r
      pure r) := by intro _; with_unfolding_all rfl) : EV C k sc (.Attribute o name pos) Γ σ Q := fun env A s heo hA hs => by
  refine Attribute_any_ (ne_mono (h env A s heo hA hs) ?_) (he env)
  rintro r s₁ ⟨v, σ₁, t, vr, q⟩
  exact ne_mono (q A s₁ r hA t.ok vr) fun _ _ x => x.after t

noncomputable def setsAttr (K : Frag) (Cc : Addr) (name : Str) : Bool :=
  findIn K (.ref Cc) "__setattr__" == some (some (.builtin "object.__setattr__")) && plainOver K Cc && hasDictIn K Cc && takerIn K Cc name == some none

theorem putName_facts {o : Obj} {es : Array DictEntry} {ep : Nat} {name : Str} {hash : Int} {tk : Tok} {v : Value} (hd : o.data = .dict es ep) (hk : StrKeys es) : ∃ es' ep', (Obj.putName name hash (.str name tk) v o).data = .dict es' ep' ∧ StrKeys es' ∧
    (∀ x, nsFind es' x = if x = name then some v else nsFind es x) ∧ es'.size ≤ es.size + 1 ∧ (∀ r, nsFind es name = some r → es'.size = es.size) := by
  obtain ⟨c, d, dt, sl⟩ := o
  subst hd
  cases hi : es.findIdx? (·.key.isStr name) with
  | some i =>
    refine ⟨_, ep, by simp only [Obj.putName_eq, Obj.putNameByArray, hi] <;> rfl, hk.modify _ _, fun x => findBy_modify (fun n v => v.isStr n) Value.isStr_inj es name x v i hi, by simp, fun _ _ => by simp⟩
  | none =>
    refine ⟨_, ep + 1, by simp only [Obj.putName_eq, Obj.putNameByArray, hi] <;> rfl, hk.push _ _ _ _, fun x => ?_, by simp, fun r hr => ?_⟩
    · exact findBy_push (fun n v => v.isStr n) es name x _ _ v (fun y => by
        show (name == y) = decide (y = name)
        by_cases h : y = name
        · subst h; simp
        · have : ¬ name = y := fun e => h e.symm
          simp [h, this]) hi
    · exfalso
      unfold nsFind findBy at hr
      have : es.find? (fun e => e.key.isStr name) = none := by
        rw [Array.find?_eq_none]; intro e he
        simpa using (Array.findIdx?_eq_none_iff.mp hi) e he
      rw [this] at hr; cases hr

theorem osa_ns {prog : Program} {w : World} {A : Around} {K : Frag} {s : Shared} {x Cc dx : Addr} {od : Obj} {es : Array DictEntry} {ep : Nat} {name : Str} {tk : Tok} {v : Value} {R : Result → Shared → Prop} (X : K.In s.heap) (e : s.heap.get? x = some (instObj Cc dx)) (e' : s.heap.get? dx = some od)
    (d' : od.data = .dict es ep) (ks : StrKeys es) (a2 : plainOver K Cc = true) (a3 : hasDictIn K Cc = true) (a4 : takerIn K Cc name = some none) (hz : es.size ≤ 1000)
    (h : ∀ h' o' es' ep', h'.get? dx = some o' → o'.data = .dict es' ep' → StrKeys es' → (∀ x, nsFind es' x = if x = name then some v else nsFind es x) → es'.size ≤ es.size + 1 → (∀ r, nsFind es name = some r → es'.size = es.size) → Heap.SameBut dx s.heap h' →
      R (.ok (.ret .none)) { s with heap := h', toks := s.toks + 1 }) :
    codeAny (model prog w) A (.call (.builtin "object.__setattr__") ⟨[.ref x, .str name tk, v], []⟩) R s := by
  have I := inst_at (o := od) e e'
  refine osa_open X I a2 a4 fun b => ?_
  obtain ⟨cd, hc, hd'⟩ := any_some a3
  refine wpAny_bind (wpAny_pure (wpAny_bind (wpAny_bind (wpAny_loadPart e (wpAny_bind ((looks_clsIn X hc).here ?_))))))
  rw [hd']
  refine wpAny_pure (a := some dx) (wpAny_bind (wpAny_pure (wpAny_bind ?_)))
  unfold nsSet
  refine wpAny_bind (wpAny_bind (wpAny_askSetting (wpAny_pure (wpAny_bind (wpAny_mkText (wpAny_bind (wpAny_loadPart e' ?_)))))))
  rw [d']
  dsimp only
  have hany : es.any (·.refKey) = false := by
    rw [Array.any_eq_false']; intro e he; obtain ⟨n, t, h⟩ := ks e he; simp [DictEntry.refKey, h]
  have c : (!es.any (·.key.isStr name) && es.any (·.refKey)) = false := by rw [hany, Bool.and_false]
  rw [aRefKeyMayBeTheName_at, c]
  obtain ⟨es', ep', p1, p2, p3, p4, p5⟩ := putName_facts (o := od) (name := name) (hash := PyData.keyHash w.params name) (tk := s.toks) (v := v) d' ks
  refine wpAny_updatePart e' ?_
  have D' : (s.heap.update dx (Obj.putName name (PyData.keyHash w.params name) (.str name s.toks) v)).get? dx = some (Obj.putName name (PyData.keyHash w.params name) (.str name s.toks) v od) := Heap.get?_update_self _ e' (Obj.isFreed_of_dict p1)
  refine wpAny_bind (wpAny_lookBehind D' (by rw [p1]; exact pastItsLine_dict (by rw [sizeLine_eq]; (first | lia | omega))) ?_)
  exact wpAny_pure (h _ _ _ _ D' p1 p2 p3 p4 p5 (Heap.SameBut.update ..))

theorem store_own {x Cc dx : Addr} {l l' : List (Str × Vl)} {name : Str} {v : Vl} {Q : Ld → Prop} {σ' : Ld} (u : Upd x (.inst Cc dx l) (.inst Cc dx l') σ σ') (ha : setsAttr C.K Cc name = true) (hlen : l.length ≤ 1000)
    (hi : ∀ (h : Heap) (es es' : Array DictEntry) (r : Value), StrKeys es' → (∀ x, nsFind es' x = if x = name then some r else nsFind es x) → es'.size ≤ es.size + 1 → (∀ r, nsFind es name = some r → es'.size = es.size) → VR h v r → es.size ≤ l.length →
      (∀ p ∈ l, ∃ r, nsFind es p.1 = some r ∧ VR h p.2 r) → (l.map (·.1)).Nodup → (∀ y, y ∉ l.map (·.1) → nsFind es y = none) → es'.size ≤ l'.length ∧ (∀ p ∈ l', ∃ r, nsFind es' p.1 = some r ∧ VR h p.2 r) ∧ (l'.map (·.1)).Nodup ∧ ∀ y, y ∉ l'.map (·.1) → nsFind es' y = none) (h : Q σ') :
    TU3 C k (fun a b _ => setAttr a name b) (.ref x) v .none σ Q := by
  intro A s ra rb rc hA hs hx hv _
  cases hx
  obtain ⟨e, od, es, ep, e', d', hks, hsz, hms, hnd, hno⟩ := hs.cells _ u.mem
  unfold setsAttr at ha
  obtain ⟨ha, a4⟩ := Bool.and_eq_true_iff.mp ha
  obtain ⟨ha, a3⟩ := Bool.and_eq_true_iff.mp ha
  obtain ⟨a1, a2⟩ := Bool.and_eq_true_iff.mp ha
  have X : C.K.In s.heap := fun a o e => hs.ext _ _ (C.X a o e)
  refine set_plain X (inst_at (o := od) e e') (beq_iff_eq.mp a1) (osa_ns (s := { s with toks := s.toks + 1 }) X e e' d' hks a2 a3 (beq_iff_eq.mp a4) (by (first | lia | omega)) fun h' o' es' ep' q1 q2 q3 q4 q5 q6 sb => ?_)
  have hdx : dx ∈ (Ob.inst Cc dx l).fp x := List.Mem.tail _ (List.Mem.head _)
  have tk : TupKeep s.heap h' := tupKeep_but (fun b x n e => (sb.2 b n).trans e) e' fun items n => .inl (by rw [d']; simp)
  have xne : x ≠ dx := fun z => by
    rw [← z] at e'
    cases e.symm.trans e'
    cases d'
  obtain ⟨r1, r2, r3, r4⟩ := hi h' es es' rb q3 q4 q5 q6 (hv.keep tk) hsz (fun p hp => let ⟨r, a, b⟩ := hms p hp; ⟨r, a, b.keep tk⟩) hnd hno
  exact ⟨σ', To.upd hs u (fun b y hb e => (sb.2 b (fun z => hb (z ▸ hdx))).trans e) rfl rfl rfl rfl ⟨(sb.2 x xne).trans e, o', es', ep', q1, q2, q3, r1, r2, r3, r4⟩, h⟩

/-- a field that stands is turned -/
inductive UpdF (n : Str) (v : Vl) : List (Str × Vl) → List (Str × Vl) → Prop
  | head {u l} : UpdF n v ((n, u) :: l) ((n, v) :: l)
  | tail {p l l'} : UpdF n v l l' → UpdF n v (p :: l) (p :: l')
theorem UpdF.fst {n v l l'} (u : UpdF n v l l') : l'.map (·.1) = l.map (·.1) := by
  induction u with
  | head => rfl
  | tail _ ih => exact congrArg (_ :: ·) ih
theorem UpdF.len {n v l l'} (u : UpdF n v l l') : l'.length = l.length := by have := congrArg List.length u.fst; simpa using this
theorem UpdF.has {n v l l'} (u : UpdF n v l l') : ∃ u, (n, u) ∈ l := by
  induction u with
  | head => exact ⟨_, .head _⟩
  | tail _ ih => obtain ⟨u, q⟩ := ih; exact ⟨u, .tail _ q⟩
theorem UpdF.mem {n v l l'} (w : UpdF n v l l') (nd : (l.map (·.1)).Nodup) (p) (h : p ∈ l') : p = (n, v) ∨ (p.1 ≠ n ∧ p ∈ l) := by
  induction w with
  | head =>
    rcases List.mem_cons.mp h with h | h
    · exact .inl h
    · exact .inr ⟨fun e => (List.nodup_cons.mp nd).1 (List.mem_map.mpr ⟨p, h, e⟩), .tail _ h⟩
  | tail w ih =>
    rcases List.mem_cons.mp h with h | h
    · subst h
      refine .inr ⟨fun e => ?_, .head _⟩
      obtain ⟨u, q⟩ := w.has
      exact (List.nodup_cons.mp nd).1 (List.mem_map.mpr ⟨_, q, e.symm⟩)
    · exact (ih (List.nodup_cons.mp nd).2 h).imp_right fun q => ⟨q.1, .tail _ q.2⟩
theorem ts_attr_old {x Cc dx : Addr} {l l' : List (Str × Vl)} {name : Str} {v : Vl} {Q : Ld → Prop} {σ' : Ld} (w : UpdF name v l l') (u : Upd x (.inst Cc dx l) (.inst Cc dx l') σ σ') (ha : setsAttr C.K Cc name = true) (hlen : l.length ≤ 1000) (h : Q σ') :
    TU3 C k (fun a b _ => setAttr a name b) (.ref x) v .none σ Q := by
  refine store_own u ha hlen (fun h es es' r p1 p2 p3 p4 p5 p6 p7 p8 p9 => ⟨?_, fun p hp => ?_, by rw [w.fst]; exact p8, fun y hy => ?_⟩) h
  · obtain ⟨u, q⟩ := w.has
    obtain ⟨r, e, _⟩ := p7 _ q
    rw [p4 r e, w.len]; exact p6
  · rcases w.mem p8 p hp with q | ⟨q1, q2⟩
    · subst q; exact ⟨r, by rw [p2, if_pos rfl], p5⟩
    · obtain ⟨r', e, vr⟩ := p7 p q2
      exact ⟨r', by rw [p2, if_neg q1]; exact e, vr⟩
  · rw [w.fst] at hy
    rw [p2, if_neg]
    · exact p9 y hy
    · intro z
      obtain ⟨u, q⟩ := w.has
      exact hy (z ▸ List.mem_map.mpr ⟨_, q, rfl⟩)
theorem ts_attr_new {x Cc dx : Addr} {l : List (Str × Vl)} {name : Str} {v : Vl} {Q : Ld → Prop} {σ' : Ld} (hn : (l.map (·.1)).contains name = false) (u : Upd x (.inst Cc dx l) (.inst Cc dx (l ++ [(name, v)])) σ σ') (ha : setsAttr C.K Cc name = true) (hlen : l.length ≤ 1000) (h : Q σ') :
    TU3 C k (fun a b _ => setAttr a name b) (.ref x) v .none σ Q := by
  have hn' : name ∉ l.map (·.1) := fun q => by rw [List.contains_iff_mem.mpr q] at hn; cases hn
  refine store_own u ha hlen (fun h es es' r p1 p2 p3 p4 p5 p6 p7 p8 p9 => ⟨?_, fun p hp => ?_, ?_, fun y hy => ?_⟩) h
  · simp; (first | lia | omega)
  · rcases List.mem_append.mp hp with q | q
    · obtain ⟨r', e, vr⟩ := p7 p q
      refine ⟨r', ?_, vr⟩
      rw [p2, if_neg]
      · exact e
      · intro z; exact hn' (z ▸ List.mem_map.mpr ⟨p, q, rfl⟩)
    · rw [List.mem_singleton.mp q]
      exact ⟨r, by rw [p2, if_pos rfl], p5⟩
  · rw [List.map_append]
    exact List.nodup_append.mpr ⟨p8, by simp, fun a ha b hb e => by simp at hb; exact hn' (hb ▸ e ▸ ha)⟩
  · rw [List.map_append] at hy
    rw [p2, if_neg]
    · exact p9 y fun q => hy (List.mem_append_left _ q)
    · intro z; exact hy (List.mem_append_right _ (by simp [z]))
end

section
variable {C : Cx} {k : Nat} {sc : Scope} {Γ : Gm} {σ : Ld}

theorem To.tok {s} {n : Nat} (h : Ok C σ s) : To C σ s σ { s with toks := n } := To.ext h (fun _ _ e => e) rfl rfl rfl

theorem t2_add {a b : Int} {Q} (h : Q (.int (a + b)) σ) : T2 C k (binaryOp .Add) (.int a) (.int b) σ Q := fun A s ra rb hA hs xa xb => by
  cases xa; cases xb; exact PyProof.Rows.add_int ⟨_, _, .tok hs, .int _ _, h⟩
theorem t2_sub {a b : Int} {Q} (h : Q (.int (a - b)) σ) : T2 C k (binaryOp .Sub) (.int a) (.int b) σ Q := fun A s ra rb hA hs xa xb => by
  cases xa; cases xb; exact PyProof.Rows.sub_int ⟨_, _, .tok hs, .int _ _, h⟩
theorem t2_mul {a b : Int} {Q} (h : Q (.int (a * b)) σ) (ha : a.natAbs < 1000000) (hb : b.natAbs < 1000000) : T2 C k (binaryOp .Mult) (.int a) (.int b) σ Q := fun A s ra rb hA hs xa xb => by
  cases xa; cases xb
  have e1 : Builtin.Int.intBits a ≤ 64 := by
    unfold Builtin.Int.intBits
    split
    · exact Nat.zero_le _
    · have : a.natAbs.log2 < 20 := (Nat.log2_lt (by simp_all)).mpr (by (first | lia | omega))
      (first | lia | omega)
  have e2 : Builtin.Int.intBits b ≤ 64 := by
    unfold Builtin.Int.intBits
    split
    · exact Nat.zero_le _
    · have : b.natAbs.log2 < 20 := (Nat.log2_lt (by simp_all)).mpr (by (first | lia | omega))
      (first | lia | omega)
  exact PyProof.Rows.mul_int ⟨_, _, .tok hs, .int _ _, h⟩ (by
    unfold IntMulOk
    rw [decide_eq_false (show ¬ Builtin.Int.intBits a > shortFactorBits from Nat.not_lt.mpr e1), Bool.false_and, Bool.false_and]
    exact Bool.false_ne_true)
theorem t2_floordiv {a b : Int} {Q} (h : Q (.int (a.fdiv b)) σ) (hb : b ≠ 0) (hs : b.natAbs < 1073741824) : T2 C k (binaryOp .FloorDiv) (.int a) (.int b) σ Q := fun A s ra rb hA hs' xa xb => by
  cases xa; cases xb; exact PyProof.Rows.floordiv_int hb ⟨_, _, .tok hs', .int _ _, h⟩ (.inl (PyProof.noPylong_small hs))
theorem t2_mod {a b : Int} {Q} (h : Q (.int (a.fmod b)) σ) (hb : b ≠ 0) : T2 C k (binaryOp .Mod) (.int a) (.int b) σ Q := fun A s ra rb hA hs' xa xb => by
  cases xa; cases xb; exact PyProof.Rows.mod_int' hb ⟨_, _, .tok hs', .int _ _, h⟩
theorem t2_pow {a n : Int} {Q} (h : Q (.int (a ^ n.toNat)) σ) (hn : 0 ≤ n) (hz : (Builtin.Int.intBits a : Int) * n ≤ 2 ^ 27) : T2 C k (binaryOp .Pow) (.int a) (.int n) σ Q := fun A s ra rb hA hs' xa xb => by
  cases xa; cases xb; exact PyProof.Rows.pow_int hn hz ⟨_, _, .tok hs', .int _ _, h⟩
theorem t2_iadd {a b : Int} {Q} (h : Q (.int (a + b)) σ) : T2 C k (inplaceOp .Add) (.int a) (.int b) σ Q := fun A s ra rb hA hs xa xb => by
  cases xa; cases xb; exact wpAny_iadd_int ⟨_, _, .tok hs, .int _ _, h⟩
theorem t2_isub {a b : Int} {Q} (h : Q (.int (a - b)) σ) : T2 C k (inplaceOp .Sub) (.int a) (.int b) σ Q := fun A s ra rb hA hs xa xb => by
  cases xa; cases xb; exact AutoIntOps.isub_0 ⟨_, _, .tok hs, .int _ _, h⟩

theorem t2_eq_int {a b : Int} {Q} (h : Q (.bool (a == b)) σ) : T2 C k (compareOp .Eq) (.int a) (.int b) σ Q := fun A s ra rb hA hs xa xb => by
  cases xa; cases xb; exact PyProof.Rows.eq_int ⟨_, _, .refl hs, .bool _, h⟩
theorem t2_ne_int {a b : Int} {Q} (h : Q (.bool (a != b)) σ) : T2 C k (compareOp .NotEq) (.int a) (.int b) σ Q := fun A s ra rb hA hs xa xb => by
  cases xa; cases xb; exact PyProof.Rows.ne_int ⟨_, _, .refl hs, .bool _, h⟩
theorem t2_lt_int {a b : Int} {Q} (h : Q (.bool (decide (a < b))) σ) : T2 C k (compareOp .Lt) (.int a) (.int b) σ Q := fun A s ra rb hA hs xa xb => by
  cases xa; cases xb; exact PyProof.Rows.lt_int ⟨_, _, .refl hs, .bool _, h⟩
theorem t2_le_int {a b : Int} {Q} (h : Q (.bool (decide (a ≤ b))) σ) : T2 C k (compareOp .LtE) (.int a) (.int b) σ Q := fun A s ra rb hA hs xa xb => by
  cases xa; cases xb; exact PyProof.Rows.le_int ⟨_, _, .refl hs, .bool _, h⟩
theorem t2_gt_int {a b : Int} {Q} (h : Q (.bool (decide (b < a))) σ) : T2 C k (compareOp .Gt) (.int a) (.int b) σ Q := fun A s ra rb hA hs xa xb => by
  cases xa; cases xb; exact PyProof.Rows.gt_int ⟨_, _, .refl hs, .bool _, h⟩
theorem t2_ge_int {a b : Int} {Q} (h : Q (.bool (decide (b ≤ a))) σ) : T2 C k (compareOp .GtE) (.int a) (.int b) σ Q := fun A s ra rb hA hs xa xb => by
  cases xa; cases xb; exact PyProof.Rows.ge_int ⟨_, _, .refl hs, .bool _, h⟩
theorem t2_eq_str {a b : Str} {Q} (h : Q (.bool (a == b)) σ) : T2 C k (compareOp .Eq) (.str a) (.str b) σ Q := fun A s ra rb hA hs xa xb => by
  cases xa; cases xb; exact PyProof.Rows.eq_str ⟨_, _, .refl hs, .bool _, h⟩
theorem t2_ne_str {a b : Str} {Q} (h : Q (.bool (a != b)) σ) : T2 C k (compareOp .NotEq) (.str a) (.str b) σ Q := fun A s ra rb hA hs xa xb => by
  cases xa; cases xb; exact PyProof.Rows.ne_str ⟨_, _, .refl hs, .bool _, h⟩

theorem t2_in_dict {i : Int} {a : Addr} {l : List (Int × Vl)} {Q} (hm : (a, Ob.idict l) ∈ σ) (h : Q (.bool (dget l i).isSome) σ) : T2 C k (compareOp .In) (.int i) (.ref a) σ Q := fun A s ra rb hA hs xa xb => by
  cases xa; cases xb
  obtain ⟨kvs, da, kr⟩ := hs.cells _ hm
  have hrel := dget_rel kr i
  have : (valueAt kvs i).isSome = (dget l i).isSome := by
    cases z : dget l i with
    | none => rw [z] at hrel; rw [show valueAt kvs i = none from hrel]; rfl
    | some u => rw [z] at hrel; obtain ⟨r, e, _⟩ := hrel; rw [e]; rfl
  exact wpAny_in_of (intKind_is C.prog C.w _ _) (hs.nomod a (mem_fps hm (List.Mem.head _))) da.mapOf ⟨_, _, .tok hs, .bool _, by rw [this]; exact h⟩
theorem t2_notin_dict {i : Int} {a : Addr} {l : List (Int × Vl)} {Q} (hm : (a, Ob.idict l) ∈ σ) (h : Q (.bool (!(dget l i).isSome)) σ) : T2 C k (compareOp .NotIn) (.int i) (.ref a) σ Q := fun A s ra rb hA hs xa xb => by
  cases xa; cases xb
  obtain ⟨kvs, da, kr⟩ := hs.cells _ hm
  have hrel := dget_rel kr i
  have : (valueAt kvs i).isSome = (dget l i).isSome := by
    cases z : dget l i with
    | none => rw [z] at hrel; rw [show valueAt kvs i = none from hrel]; rfl
    | some u => rw [z] at hrel; obtain ⟨r, e, _⟩ := hrel; rw [e]; rfl
  exact wpAny_notIn_of (intKind_is C.prog C.w _ _) (hs.nomod a (mem_fps hm (List.Mem.head _))) da.mapOf ⟨_, _, .tok hs, .bool _, by rw [this]; exact h⟩
theorem VRs.unc {h : Heap} {v l r vs} (x : VRs h (v :: l) (r :: vs)) : VR h v r ∧ VRs h l vs := by cases x with | cons a b => exact ⟨a, b⟩
theorem ints_are {h : Heap} {ns : List Int} : ∀ {vs}, VRs h (ns.map Vl.int) vs → IntsAre vs ns := by
  induction ns with
  | nil => intro vs x; cases x; exact .nil
  | cons n ns ih =>
    intro vs x
    cases vs with
    | nil => cases x
    | cons r vs => obtain ⟨a, b⟩ := x.unc; cases a; exact .cons _ _ (ih b)
theorem t2_in_ints {i : Int} {a : Addr} {ns : List Int} {Q} (hm : (a, Ob.list (ns.map Vl.int)) ∈ σ) (h : Q (.bool (ns.any (· == i))) σ) : T2 C k (compareOp .In) (.int i) (.ref a) σ Q := fun A s ra rb hA hs xa xb => by
  cases xa; cases xb
  obtain ⟨vs, pl, vr⟩ := hs.cells _ hm
  exact in_list_ints (PlainList.isList pl) (ints_are vr) ⟨_, _, .refl hs, .bool _, h⟩
theorem bools_are {h : Heap} {bs : List Bool} : ∀ {vs}, VRs h (bs.map Vl.bool) vs → vs = bs.map Value.bool := by
  induction bs with
  | nil => intro vs x; cases x; rfl
  | cons n ns ih =>
    intro vs x
    cases vs with
    | nil => cases x
    | cons r vs => obtain ⟨a, b⟩ := x.unc; cases a; exact congrArg (_ :: ·) (ih b)
noncomputable def isBool (c : Bool) : Value → Bool
  | .bool b => b == c
  | _ => false
theorem eqBool_bool {prog : Program} {w : World} {A : Around} {E : Value → Shared → Prop} {s : Shared} {a b : Bool} {Q : Bool → Shared → Prop} (h : Q (a == b) s) : wpAny (model prog w) A (eqBool (.bool a) (.bool b)) Q E s := SeqAt.EqAt.bool_bool a b prog w E Q h
theorem t2_in_bools {c : Bool} {a : Addr} {bs : List Bool} {Q} (hm : (a, Ob.list (bs.map Vl.bool)) ∈ σ) (h : Q (.bool (bs.any (· == c))) σ) : T2 C k (compareOp .In) (.bool c) (.ref a) σ Q := fun A s ra rb hA hs xa xb => by
  cases xa; cases xb
  obtain ⟨vs, pl, vr⟩ := hs.cells _ hm
  have e := bools_are vr
  subst e
  refine SeqInW.in_listW (isBool c) (fun y hy => ?_) (PlainList.isList pl) ⟨_, _, .refl hs, .bool _, ?_⟩
  · obtain ⟨b, _, rfl⟩ := List.mem_map.mp (show y ∈ bs.map Value.bool by simpa using hy)
    intro prog w A E s Q q
    exact eqBool_bool q
  · have : (bs.map Value.bool).toArray.any (isBool c) = bs.any (· == c) := by
      rw [← Array.any_toList]
      show (bs.map Value.bool).any (isBool c) = _
      rw [List.any_map]; rfl
    rw [this]; exact h
end

theorem wpAny_setItem_plain {prog : Program} {w : World} {A : Around} {E : Value → Shared → Prop} {s : Shared} {l : Addr} {items : Array Value} {k : Int} {t : Tok} {v : Value} {Q : Unit → Shared → Prop} (hl : s.heap.PlainList l items)
    (h0 : 0 ≤ k) (hfit : k < 2 ^ 63) (hn : k < items.size)
    (hQ : ∀ h', h'.PlainList l (items.setIfInBounds k.toNat v) → Heap.SameBut l s.heap h' → Q () { s with heap := h' }) :
    wpAny (model prog w) A (setItem (.ref l) (.int k t) v) Q E s := by
  have hl' := PlainList.isList hl
  obtain ⟨ne, ho⟩ := id hl
  unfold setItem
  try with_reducible refine wpAny_holding ?_
  first | refine wpAny_bind (wpAny_pure ?_) | skip
  refine wpAny_bind (wpAny_sequenceKey hl'.typeIs (by decide) ?_)
  refine wpAny_bind (wpAny_callSpecial?_slot (name := Str.ofString "__setitem__") hl'.typeIs slot_list_setitem
    (wpAny_call_entry slot_list_setitem hl'.typeIs entry_list_setitem ?_ (args_list_setitem _ _ _)))
  show wpAny _ _ (Builtin.List.listSubscript? (.int k t) >>= _) _ _ s
  refine wpAny_bind (wpAny_listSubscript_int (fitsIndex_of h0 hfit) ?_)
  clear hfit
  obtain ⟨j, rfl⟩ := Int.eq_ofNat_of_zero_le h0
  have hj : j < items.size := by (first | lia | omega)
  have hx' : items[j]? = some items[j] := Array.getElem?_eq_getElem hj
  show wpAny _ _ ((seqItemAt l j >>= fun r => pure (r.map (j, ·))) >>= _) _ _ s
  refine wpAny_bind (wpAny_bind (wpAny_seqItemAt ho rfl (wpAny_pure ?_)))
  rw [hx']
  show wpAny _ _ (setSeqItemAt l j v >>= _) _ _ s
  have e : Obj.mapSeq (·.setIfInBounds j v) { cls := .type "list", data := .seq items ne } = { cls := .type "list", data := .seq (items.setIfInBounds j v) ne } := by simp [Obj.mapSeq]
  have hfin : (s.heap.update l (Obj.mapSeq (·.setIfInBounds j v))).PlainList l (items.setIfInBounds j v) := ⟨ne, by rw [Heap.get?_update_self _ ho (by rw [e]; rfl), e]⟩
  refine wpAny_bind (wpAny_setSeqItemAt ho rfl ?_)
  first
    | exact wpAny_bind (wpAny_pure (wpAny_pure ⟨.none, rfl, wpAny_pure (hQ _ hfin (Heap.SameBut.update ..))⟩))
    | exact wpAny_pure ⟨.none, rfl, wpAny_pure (hQ _ hfin (Heap.SameBut.update ..))⟩

section
variable {C : Cx} {k : Nat} {sc : Scope} {Γ : Gm} {σ : Ld}

/-- an item at a place -/
theorem ev_sub {value slice : Expr} {pos : Pos} {Q} (h : EV C k sc value Γ σ (fun o σ₁ => EV C k sc slice Γ σ₁ (fun i σ₂ => T2 C k (subscriptTail value slice) o i σ₂ Q))) : EV C k sc (.Subscript value slice pos) Γ σ Q := fun env A s he hA hs => by
  refine Subscript_ (ne_mono (h env A s he hA hs) ?_)
  rintro ro s₁ ⟨o, σ₁, t₁, x₁, q⟩
  refine ne_mono (q env A s₁ he hA (hs.to t₁)) ?_
  rintro ri s₂ ⟨i, σ₂, t₂, x₂, q⟩
  exact ne_mono (q A s₂ ro ri hA t₂.ok (x₁.to t₁.ok t₂) x₂) fun _ _ x => (x.after t₂).after t₁

noncomputable def NoSl (slice : Expr) : Prop := ∀ o i, subscripted slice false o i = operate [o, i] (getItem o i)

theorem t2_tuple_item {value slice : Expr} {l : List Vl} {i : Int} {j : Nat} {v : Vl} {Q} (hj : seqIndex? i l.length = some j) (hv : l[j]? = some v) (h : Q v σ) (hl : l.length ≤ 1000000) (hs : NoSl slice := by intro _ _; with_unfolding_all rfl) : T2 C k (subscriptTail value slice) (.tup l) (.int i) σ Q := fun A s ra rb hA hs' xa xb => by
  cases xb
  cases xa with
  | @tup l a vs it vr =>
    obtain ⟨r, er, xr⟩ := vr.get hv
    have hb : -(2 ^ 63) ≤ i ∧ i < 2 ^ 63 := by
      unfold seqIndex? at hj
      by_cases z : i < 0
      · simp [z] at hj; (first | lia | omega)
      · simp [z] at hj; (first | lia | omega)
    exact item_tupleT it hb.1 hb.2 (by rw [vr.length]; exact hj) er ⟨v, σ, .refl hs', xr, h⟩ (hs _ _)
theorem t2_list_item {value slice : Expr} {a : Addr} {l : List Vl} {i : Int} {v : Vl} {Q} (hm : (a, Ob.list l) ∈ σ) (h0 : 0 ≤ i) (hv : l[i.toNat]? = some v) (hl : l.length ≤ 1000000) (h : Q v σ) (hs : NoSl slice := by intro _ _; with_unfolding_all rfl) : T2 C k (subscriptTail value slice) (.ref a) (.int i) σ Q := fun A s ra rb hA hs' xa xb => by
  cases xb; cases xa
  obtain ⟨vs, pl, vr⟩ := hs'.cells _ hm
  obtain ⟨r, er, xr⟩ := vr.get hv
  have hi : i.toNat < l.length := (List.getElem?_eq_some_iff.mp hv).1
  have hL := PlainList.isList pl
  exact tail_any hL.typeIs slot_list_getitem.lookup (wpAny_getItem_list hL h0 (by (first | lia | omega)) (by simpa using er) ⟨v, σ, .refl hs', xr, h⟩) (hs _ _)
theorem t2_list_last {value slice : Expr} {a : Addr} {l : List Vl} {i : Int} {v : Vl} {Q} (hm : (a, Ob.list l) ∈ σ) (h0 : i < 0) (h1 : -(l.length : Int) ≤ i) (hv : l[(i + l.length).toNat]? = some v) (hl : l.length ≤ 1000000) (h : Q v σ) (hs : NoSl slice := by intro _ _; with_unfolding_all rfl) : T2 C k (subscriptTail value slice) (.ref a) (.int i) σ Q := fun A s ra rb hA hs' xa xb => by
  cases xb; cases xa
  obtain ⟨vs, pl, vr⟩ := hs'.cells _ hm
  obtain ⟨r, er, xr⟩ := vr.get hv
  have hL := PlainList.isList pl
  exact tail_any hL.typeIs slot_list_getitem.lookup (wpAny_getItem_list_neg hL h0 (by rw [List.size_toArray, vr.length]; exact h1) (by (first | lia | omega)) (by simp only [List.size_toArray, vr.length]; simpa using er) ⟨v, σ, .refl hs', xr, h⟩) (hs _ _)
theorem getItem_dict {A s ra rb} {a : Addr} {l : List (Int × Vl)} {i : Int} {v : Vl} {Q} (hm : (a, Ob.idict l) ∈ σ) (hv : dget l i = some v) (h : Q v σ) (hs' : Ok C σ s) (xa : VR s.heap (.ref a) ra) (xb : VR s.heap (.int i) rb) : wpAny (model C.prog C.w) A (getItem ra rb) (VP C σ s Q) NE s := by
  cases xa; cases xb
  obtain ⟨kvs, da, kr⟩ := hs'.cells _ hm
  have := dget_rel kr i
  rw [hv] at this
  obtain ⟨r, e, vr⟩ := this
  exact wpAny_getItem_of (intKind_is C.prog C.w _ _) da.mapOf e ⟨v, σ, .tok hs', vr, h⟩
theorem t2_dict_get {a : Addr} {l : List (Int × Vl)} {i : Int} {v : Vl} {Q} (hm : (a, Ob.idict l) ∈ σ) (hv : dget l i = some v) (h : Q v σ) : T2 C k getItem (.ref a) (.int i) σ Q := fun A s ra rb hA hs' xa xb => getItem_dict hm hv h hs' xa xb
theorem t2_dict_item {value slice : Expr} {a : Addr} {l : List (Int × Vl)} {i : Int} {v : Vl} {Q} (hm : (a, Ob.idict l) ∈ σ) (hv : dget l i = some v) (h : Q v σ) (hs : NoSl slice := by intro _ _; with_unfolding_all rfl) : T2 C k (subscriptTail value slice) (.ref a) (.int i) σ Q := fun A s ra rb hA hs' xa xb => by
  have g := getItem_dict (A := A) hm hv h hs' xa xb
  cases xb; cases xa
  obtain ⟨kvs, da, kr⟩ := hs'.cells _ hm
  exact tail_any da.typeIs slot_dict_getitem.lookup g (hs _ _)
inductive HasS (n : Str) (v : Vl) : List (Str × Vl) → Prop
  | head {l} : HasS n v ((n, v) :: l)
  | tail {p l} : HasS n v l → HasS n v (p :: l)
theorem HasS.mem {n v l} (x : HasS n v l) : (n, v) ∈ l := by
  induction x with
  | head => exact .head _
  | tail _ ih => exact .tail _ ih
theorem valueAt_mem {K : Type} [DecidableEq K] {h : Heap} {n : K} {v : Vl} {l : List (K × Vl)} {kvs : List (K × Value)} (x : KRs h l kvs) (nd : (kvs.map (·.1)).Nodup) (hm : (n, v) ∈ l) : ∃ r, valueAt kvs n = some r ∧ VR h v r := by
  induction x with
  | nil => cases hm
  | @cons k' v' r l vs a b ih =>
    have nd' := List.nodup_cons.mp (show (k' :: vs.map (·.1)).Nodup from nd)
    rcases List.mem_cons.mp hm with q | q
    · cases q; exact ⟨r, by simp [valueAt], a⟩
    · obtain ⟨r', e, vr⟩ := ih nd'.2 q
      have : k' ≠ n := fun z => nd'.1 (by
        rw [b.keys]; exact List.mem_map.mpr ⟨_, q, z.symm⟩)
      refine ⟨r', ?_, vr⟩
      simp only [valueAt, List.find?_cons, this, decide_false] at e ⊢
      exact e
theorem t2_sdict_item {value slice : Expr} {a : Addr} {l : List (Str × Vl)} {n : Str} {v : Vl} {Q} (hm : (a, Ob.sdict l) ∈ σ) (hv : HasS n v l) (h : Q v σ) (hs : NoSl slice := by intro _ _; with_unfolding_all rfl) : T2 C k (subscriptTail value slice) (.ref a) (.str n) σ Q := fun A s ra rb hA hs' xa xb => by
  cases xb; cases xa
  obtain ⟨kvs, da, kr⟩ := hs'.cells _ hm
  obtain ⟨_, _, _, _, _, _, _, _, nd⟩ := id da
  obtain ⟨r, e, vr⟩ := valueAt_mem kr nd hv.mem
  exact tail_any da.typeIs slot_dict_getitem.lookup (wpAny_getItem_of (strKind_is C.prog C.w _ _) da.mapOf e ⟨v, σ, .tok hs', vr, h⟩) (hs _ _)

/-- the key's value is turned; a new key goes to the end -/
noncomputable def dset (l : List (Int × Vl)) (i : Int) (v : Vl) : List (Int × Vl) := if l.any (fun p => p.1 = i) then l.map (fun p => if p.1 = i then (p.1, v) else p) else l ++ [(i, v)]
theorem krs_any {K : Type} [DecidableEq K] {h : Heap} {i : K} {l : List (K × Vl)} {kvs : List (K × Value)} (x : KRs h l kvs) : kvs.any (fun p => p.1 = i) = l.any (fun p => p.1 = i) := by
  induction x with
  | nil => rfl
  | cons _ _ ih => exact congrArg (_ || ·) ih
theorem krs_map {K : Type} [DecidableEq K] {h : Heap} {i : K} {v : Vl} {r : Value} (vr : VR h v r) {l : List (K × Vl)} {kvs : List (K × Value)} (x : KRs h l kvs) : KRs h (l.map (fun p => if p.1 = i then (p.1, v) else p)) (kvs.map (fun p => if p.1 = i then (p.1, r) else p)) := by
  induction x with
  | nil => exact .nil
  | @cons k' v' r' l vs a b ih =>
    simp only [List.map_cons]
    by_cases z : k' = i
    · simp only [z, if_true]; exact .cons vr ih
    · simp only [z, if_false]; exact .cons a ih
theorem krs_append {K : Type} {h : Heap} {l l' : List (K × Vl)} {kvs kvs' : List (K × Value)} (x : KRs h l kvs) (b : KRs h l' kvs') : KRs h (l ++ l') (kvs ++ kvs') := by
  induction x with
  | nil => exact b
  | cons a _ ih => exact .cons a ih
theorem krs_stored {h : Heap} {l : List (Int × Vl)} {kvs : List (Int × Value)} {i : Int} {v : Vl} {r : Value} (kr : KRs h l kvs) (vr : VR h v r) : KRs h (dset l i v) (stored kvs i r) := by
  unfold dset stored
  rw [krs_any kr]
  split
  · exact krs_map vr kr
  · exact krs_append kr (.cons vr .nil)
theorem t3_dict_set {a : Addr} {l : List (Int × Vl)} {i : Int} {v : Vl} {Q : Ld → Prop} {σ' : Ld} (u : Upd a (.idict l) (.idict (dset l i v)) σ σ') (hl : l.length ≤ 1000000) (h : Q σ') : TU3 C k setItem (.ref a) (.int i) v σ Q := fun A s ra rb rc hA hs xa xb xc => by
  cases xa; cases xb
  obtain ⟨kvs, da, kr⟩ := hs.cells _ u.mem
  refine wpAny_setItem_pairs (intKind_is C.prog C.w _ _) da (fun h' da' sb => ?_) (by rw [kr.length]; simp [sizeLine]; (first | lia | omega))
  obtain ⟨o, es, ep, e, c, d, _⟩ := id da
  have tk : TupKeep s.heap h' := tupKeep_but (fun b x n e => (sb.2 b n).trans e) e fun items n => .inl (by rw [d]; simp)
  exact ⟨σ', To.upd hs u (fun b x hb e => (sb.2 b (fun z => hb (z ▸ List.Mem.head _))).trans e) rfl rfl rfl rfl ⟨_, da', krs_stored (kr.keep tk) (xc.keep tk)⟩, h⟩
/-- the value at a written key of a dict by texts is turned -/
theorem krs_updF {K : Type} [DecidableEq K] {h : Heap} {n : K} : True := trivial
theorem updF_map {n : Str} {v : Vl} {l l'} (x : UpdF n v l l') (nd : (l.map (·.1)).Nodup) : l' = l.map (fun p => if p.1 = n then (p.1, v) else p) := by
  induction x with
  | @head u l =>
    have nd' := List.nodup_cons.mp (show (n :: l.map (·.1)).Nodup from nd)
    have e : l.map (fun p => if p.1 = n then (p.1, v) else p) = l := by
      refine (List.map_congr_left fun p hp => ?_).trans (List.map_id l)
      exact if_neg fun z => nd'.1 (List.mem_map.mpr ⟨p, hp, z⟩)
    rw [List.map_cons, e]
    exact congrArg (· :: l) (if_pos rfl).symm
  | @tail p l l' w ih =>
    have nd' := List.nodup_cons.mp (show (p.1 :: l.map (·.1)).Nodup from nd)
    obtain ⟨u, hu⟩ := w.has
    have : p.1 ≠ n := fun z => nd'.1 (z ▸ List.mem_map.mpr ⟨_, hu, rfl⟩)
    rw [List.map_cons, if_neg this, ← ih nd'.2]
theorem t3_sdict_set {a : Addr} {l l' : List (Str × Vl)} {n : Str} {v : Vl} {Q : Ld → Prop} {σ' : Ld} (w : UpdF n v l l') (u : Upd a (.sdict l) (.sdict l') σ σ') (hl : l.length ≤ 1000000) (h : Q σ') : TU3 C k setItem (.ref a) (.str n) v σ Q := fun A s ra rb rc hA hs xa xb xc => by
  cases xa; cases xb
  obtain ⟨kvs, da, kr⟩ := hs.cells _ u.mem
  refine wpAny_setItem_pairs (strKind_is C.prog C.w _ _) da (fun h' da' sb => ?_) (by rw [kr.length]; simp [sizeLine]; (first | lia | omega))
  obtain ⟨o, es, ep, e, c, d, _, _, nd⟩ := id da
  have tk : TupKeep s.heap h' := tupKeep_but (fun b x n e => (sb.2 b n).trans e) e fun items n => .inl (by rw [d]; simp)
  refine ⟨σ', To.upd hs u (fun b x hb e => (sb.2 b (fun z => hb (z ▸ List.Mem.head _))).trans e) rfl rfl rfl rfl ⟨_, da', ?_⟩, h⟩
  rw [kr.keys] at nd
  rw [updF_map w nd]
  obtain ⟨u', hu⟩ := w.has
  have : kvs.any (fun p => p.1 = n) = true := by
    rw [krs_any kr]
    exact List.any_eq_true.mpr ⟨_, hu, by simp⟩
  unfold stored
  rw [if_pos this]
  exact krs_map (xc.keep tk) (kr.keep tk)
theorem t3_list_set {a : Addr} {l : List Vl} {i : Int} {v : Vl} {Q : Ld → Prop} {σ' : Ld} (h0 : 0 ≤ i) (h1 : i < l.length) (u : Upd a (.list l) (.list (l.set i.toNat v)) σ σ') (hl : l.length ≤ 1000000) (h : Q σ') : TU3 C k setItem (.ref a) (.int i) v σ Q := fun A s ra rb rc hA hs xa xb xc => by
  cases xa; cases xb
  obtain ⟨vs, pl, vr⟩ := hs.cells _ u.mem
  refine wpAny_setItem_plain pl h0 (by (first | lia | omega)) (by rw [List.size_toArray, vr.length]; exact h1) fun h' pl' sb => ?_
  obtain ⟨n, e⟩ := id pl
  have tk : TupKeep s.heap h' := tupKeep_but (fun b x n e => (sb.2 b n).trans e) e fun items n => .inr (by simp)
  exact ⟨σ', To.upd hs u (fun b x hb e => (sb.2 b (fun z => hb (z ▸ List.Mem.head _))).trans e) rfl rfl rfl rfl ⟨vs.set i.toNat rc, by simpa using pl', (vr.keep tk).set (xc.keep tk)⟩, h⟩
end

section
variable {C : Cx} {k : Nat} {sc : Scope} {Γ : Gm} {σ : Ld}

theorem To.pushTup {s} {vs : List Value} {l : List Vl} (h : Ok C σ s) (vr : VRs s.heap l vs) : To C σ s σ { s with heap := s.heap.push { cls := .type "tuple", data := .seq vs.toArray } } ∧ VR (s.heap.push { cls := .type "tuple", data := .seq vs.toArray }) (.tup l) (.ref s.heap.objs.size) := by
  have t : To C σ s σ { s with heap := s.heap.push { cls := .type "tuple", data := .seq vs.toArray } } := To.pushed (tk := s.toks) h
  exact ⟨t, .tup ⟨_, Heap.get?_push_size _ rfl, rfl, 0, rfl⟩ (vr.to h t)⟩
theorem To.pushList {s} {vs : List Value} {l : List Vl} (h : Ok C σ s) (vr : VRs s.heap l vs) : To C σ s ((s.heap.objs.size, .list l) :: σ) { s with heap := s.heap.push { cls := .type "list", data := .seq vs.toArray } } :=
  To.push h (fun _ _ e => Heap.get?_push_of_some _ e) rfl rfl rfl (fun b hb => by cases List.mem_singleton.mp hb; exact Nat.le_refl _) (by simp [Ob.fp])
    ⟨vs, ⟨0, Heap.get?_push_size _ rfl⟩, vr.keep fun a items ⟨o, e, r⟩ => ⟨o, Heap.get?_push_of_some _ e, r⟩⟩

theorem ev_tuple {es : List Expr} {c pos Q} (h : EVs C k sc es Γ σ (fun vs σ' => vs.length ≤ 1000000 ∧ Q (.tup vs) σ')) : EV C k sc (.Tuple es c pos) Γ σ Q := fun env A s he hA hs => by
  refine wpAny_Tuple_spliced (ne_mono (h env A s pos he hA hs) ?_)
  rintro rs s₁ ⟨vs, σ₁, t, vr, hl, q⟩
  obtain ⟨t2, x⟩ := To.pushTup t.ok vr
  exact ⟨by rw [vr.length]; simp [sizeLine]; (first | lia | omega), .tup vs, σ₁, t.trans t2, x, q⟩
theorem ev_list {es : List Expr} {pos Q} (h : EVs C k sc es Γ σ (fun vs σ' => vs.length ≤ 1000000 ∧ ∀ D, Q (.ref D) ((D, .list vs) :: σ'))) : EV C k sc (.List es pos) Γ σ Q := fun env A s he hA hs => by
  refine wpAny_List_spliced (ne_mono (h env A s pos he hA hs) ?_)
  rintro rs s₁ ⟨vs, σ₁, t, vr, hl, q⟩
  exact ⟨by rw [vr.length]; simp [sizeLine]; (first | lia | omega), .ref _, _, t.trans (To.pushList t.ok vr), .ref _, q _⟩
theorem dictOf_new {prog : Program} {w : World} {K : Type} [DecidableEq K] {knd : KeyKind prog w K} (h : Heap) : (h.push { cls := .type "dict", data := .dict #[] }).DictOf knd h.objs.size [] :=
  ⟨_, #[], 0, Heap.get?_push_size _ rfl, ⟨rfl, rfl, rfl⟩, rfl, fun _ he => by simp at he, .nil, .nil⟩
theorem ev_dict0 {pos Q} (h : ∀ D, Q (.ref D) ((D, .idict []) :: σ)) : EV C k sc (.Dict [] [] pos) Γ σ Q := fun env A s he hA hs =>
  wpAny_Dict_empty ⟨.ref _, _, To.push (a := s.heap.objs.size) (o := .idict []) hs.ok (fun _ _ e => Heap.get?_push_of_some _ e) rfl rfl rfl (fun b hb => by cases List.mem_singleton.mp hb; exact Nat.le_refl _) (by simp [Ob.fp]) ⟨[], dictOf_new _, .nil⟩, .ref _, h _⟩

theorem t2_add_lists {a b : Addr} {l m : List Vl} {Q} (ha : (a, Ob.list l) ∈ σ) (hb : (b, Ob.list m) ∈ σ) (hl : l.length + m.length ≤ 1000000) (h : ∀ D, Q (.ref D) ((D, .list (l ++ m)) :: σ)) : T2 C k (binaryOp .Add) (.ref a) (.ref b) σ Q := fun A s ra rb hA hs xa xb => by
  cases xa; cases xb
  obtain ⟨vs, ⟨n, e⟩, vr⟩ := hs.cells _ ha
  obtain ⟨ws, ⟨n2, e2⟩, vr2⟩ := hs.cells _ hb
  have eq : vs.toArray ++ ws.toArray = (vs ++ ws).toArray := by simp
  refine concat_meets ⟨_, e, rfl⟩ ⟨_, e2, rfl⟩ noFill_list_add seq_list_add PySem.F.slot_list_add PySem.F.entry_list_add (PySem.F.args_list_add_2 _ _) (list_addW a b vs.toArray ws.toArray n n2 none none #[] #[] (by simp [vr.length, vr2.length, sizeLine]; (first | lia | omega))) ⟨e, e2, ?_⟩
  rw [eq]
  exact ⟨.ref _, _, To.pushList hs (vr.append vr2), .ref _, h _⟩

theorem cl_len_list {a : Addr} {l : List Vl} {Q} (ha : (a, Ob.list l) ∈ σ) (hl : l.length ≤ 1000000) (h : Q (.int l.length) σ) : CL C k (.builtin "len") [.ref a] σ Q := fun A s rs hA hs hv => by
  cases hv with
  | cons x y =>
    cases x; cases y
    obtain ⟨vs, pl, vr⟩ := hs.cells _ ha
    have e : vs.toArray.size = l.length := by rw [List.size_toArray, vr.length]
    exact call_len_list (PlainList.isList pl) (by rw [e]; (first | lia | omega)) ⟨.int l.length, σ, .tok hs, by rw [e]; exact .int _ _, h⟩
theorem cl_list_list {a : Addr} {l : List Vl} {Q} (ha : (a, Ob.list l) ∈ σ) (hl : l.length ≤ 1000000) (h : ∀ D, Q (.ref D) ((D, .list l) :: σ)) : CL C k (.type "list") [.ref a] σ Q := fun A s rs hA hs hv => by
  cases hv with
  | cons x y =>
    cases x; cases y
    obtain ⟨vs, ⟨n, e⟩, vr⟩ := hs.cells _ ha
    refine call_list_seq (hsz := by rw [List.size_toArray, vr.length]; simp [sizeLine]; (first | lia | omega)) a (.inl rfl) e rfl rfl fun h' c' hk hD => ?_
    exact ⟨.ref _, _, To.push (a := s.heap.objs.size) (o := .list l) hs hk rfl rfl rfl (fun b hb => by cases List.mem_singleton.mp hb; exact Nat.le_refl _) (by simp [Ob.fp]) ⟨vs, ⟨c', hD⟩, vr.keep fun a items ⟨o, e, r⟩ => ⟨o, hk _ _ e, r⟩⟩, .ref _, h _⟩
theorem cl_tuple_list {a : Addr} {l : List Vl} {Q} (ha : (a, Ob.list l) ∈ σ) (hl : l.length ≤ 1000000) (h : Q (.tup l) σ) : CL C k (.type "tuple") [.ref a] σ Q := fun A s rs hA hs hv => by
  cases hv with
  | cons x y =>
    cases x; cases y
    obtain ⟨vs, pl, vr⟩ := hs.cells _ ha
    refine call_tuple_list (PlainList.isList pl) (fun h' hk => ?_) (by rw [List.size_toArray, vr.length]; simp [sizeLine]; (first | lia | omega))
    have t : To C σ s σ { s with heap := h' } := To.ext hs hk rfl rfl rfl
    obtain ⟨t2, x⟩ := To.pushTup t.ok (vr.to hs t)
    exact ⟨.tup l, σ, t.trans t2, x, h⟩
theorem cl_tuple_tuple {l : List Vl} {Q} (h : Q (.tup l) σ) : CL C k (.type "tuple") [.tup l] σ Q := fun A s rs hA hs hv => by
  cases hv with
  | cons x y =>
    cases y
    cases x with
    | tup it vr => exact call_tuple_tup it ⟨.tup l, σ, .refl hs, .tup it vr, h⟩

/-- the tests of «and», «or» -/
theorem bt_and2 {a b pos} {Q : Bool → Ld → Prop} (h : BT C k sc a Γ σ (fun c σ' => if c then BT C k sc b Γ σ' Q else Q false σ')) : BT C k sc (.BoolOp .And [a, b] pos) Γ σ Q := fun env A s he hA hs => by
  refine wpAny_isTrue_BoolOp (wpAny_allTrue_And_cons (ne_mono (h env A s he hA hs) ?_))
  rintro c s₁ ⟨σ₁, t, q⟩
  cases c with
  | false => exact ⟨σ₁, t, q⟩
  | true =>
    refine wpAny_allTrue_And_cons (ne_mono (q env A s₁ he hA (hs.to t)) ?_)
    rintro c s₂ ⟨σ₂, t₂, q⟩
    cases c with
    | false => exact ⟨σ₂, t.trans t₂, q⟩
    | true => exact wpAny_allTrue_And_nil ⟨σ₂, t.trans t₂, q⟩
theorem bt_or2 {a b pos} {Q : Bool → Ld → Prop} (h : BT C k sc a Γ σ (fun c σ' => if c then Q true σ' else BT C k sc b Γ σ' Q)) : BT C k sc (.BoolOp .Or [a, b] pos) Γ σ Q := fun env A s he hA hs => by
  refine wpAny_isTrue_BoolOp (wpAny_allTrue_Or_cons (ne_mono (h env A s he hA hs) ?_))
  rintro c s₁ ⟨σ₁, t, q⟩
  cases c with
  | true => exact ⟨σ₁, t, q⟩
  | false =>
    refine wpAny_allTrue_Or_cons (ne_mono (q env A s₁ he hA (hs.to t)) ?_)
    rintro c s₂ ⟨σ₂, t₂, q⟩
    cases c with
    | true => exact ⟨σ₂, t.trans t₂, q⟩
    | false => exact wpAny_allTrue_Or_nil ⟨σ₂, t.trans t₂, q⟩
theorem ev_and2 {a b pos} {Q} (h : EV C k sc a Γ σ (fun v σ' => ∃ c, v = .bool c ∧ if c then EV C k sc b Γ σ' Q else Q (.bool false) σ')) : EV C k sc (.BoolOp .And [a, b] pos) Γ σ Q := fun env A s he hA hs => by
  refine wpAny_And2 (ne_mono (h env A s he hA hs) ?_)
  rintro r s₁ ⟨v, σ₁, t, vr, c, rfl, q⟩
  cases vr
  refine truthy_bool ?_
  cases c with
  | false => exact ⟨.bool false, σ₁, t, .bool _, q⟩
  | true => exact ne_mono (q env A s₁ he hA (hs.to t)) fun _ _ x => x.after t
theorem ev_or2 {a b pos} {Q} (h : EV C k sc a Γ σ (fun v σ' => ∃ c, v = .bool c ∧ if c then Q (.bool true) σ' else EV C k sc b Γ σ' Q)) : EV C k sc (.BoolOp .Or [a, b] pos) Γ σ Q := fun env A s he hA hs => by
  refine wpAny_Or2 (ne_mono (h env A s he hA hs) ?_)
  rintro r s₁ ⟨v, σ₁, t, vr, c, rfl, q⟩
  cases vr
  refine truthy_bool ?_
  cases c with
  | true => exact ⟨.bool true, σ₁, t, .bool _, q⟩
  | false => exact ne_mono (q env A s₁ he hA (hs.to t)) fun _ _ x => x.after t
theorem ev_not {a pos} {Q} (h : EV C k sc a Γ σ (fun v σ' => TB C k truthy v σ' (fun b σ' => Q (.bool (!b)) σ'))) : EV C k sc (.UnaryOp .Not a pos) Γ σ Q := fun env A s he hA hs => by
  refine wpAny_UnaryOp (ne_mono (h env A s he hA hs) ?_)
  rintro r s₁ ⟨v, σ₁, t, vr, q⟩
  exact not_of (ne_mono (q A s₁ r hA t.ok vr) fun b s₂ ⟨σ₂, t₂, q⟩ => ⟨.bool (!b), σ₂, t.trans t₂, .bool _, q⟩)
theorem ev_neg {i c p pos} {Q} (h : Q (.int (-i)) σ) : EV C k sc (.UnaryOp .USub (.Constant (.int i) c p) pos) Γ σ Q := fun env A s he hA hs => by
  refine wpAny_UnaryOp (wpAny_Constant_int (PyProof.Rows.neg_int ⟨.int (-i), σ, To.ext hs.ok (fun _ _ e => e) rfl rfl rfl, .int _ _, h⟩))
end

section
variable {prog : Program} {w : World} {A : Around} {E : Value → Shared → Prop} {s : Shared}
theorem sliceApplied_to {sl : Addr} {a n : Nat} {u : Tok} {Q : Int × Int × Nat → Shared → Prop} (hs : s.heap.IsSliceOf sl .none (.int a u) .none) (ha : a ≤ n) (h : Q (0, 1, a) s) :
    wpAny (model prog w) A (Builtin.Slice.sliceApplied (.ref sl) (pure (n : Int))) Q E s := by
  obtain ⟨os, hos, hcs, hds⟩ := id hs
  unfold Builtin.Slice.sliceApplied Builtin.Slice.sliceFields
  refine wpAny_bind (wpAny_bind (wpAny_field hos hds (x := .none) rfl (wpAny_bind (wpAny_field hos hds (x := .int a u) rfl (wpAny_bind (wpAny_field hos hds (x := .none) rfl (wpAny_pure ?_)))))))
  refine wpAny_bind (slicePart_none ?_)
  show wpAny _ _ (if ((1 : Int) == 0) = true then _ else _) _ _ s
  rw [if_neg (by decide)]
  refine wpAny_bind (slicePart_none (wpAny_bind (slicePart_int (wpAny_bind (wpAny_pure ?_)))))
  show wpAny _ _ (match Builtin.Slice.sliceAdjust none (some (a : Int)) 1 (n : Int) with | (lo, hi) => pure (lo, (1 : Int), Builtin.Slice.slicePlaces lo hi 1)) _ _ s
  have e1 : Builtin.Slice.sliceAdjust none (some (a : Int)) 1 (n : Int) = (0, (a : Int)) := by
    unfold Builtin.Slice.sliceAdjust
    have h1 : ¬ ((1 : Int) < 0) := by (first | lia | omega)
    have h2 : ¬ ((a : Int) < 0) := by (first | lia | omega)
    simp only [h1, h2, if_false]
    congr 1
    (first | lia | omega)
  have e2 : Builtin.Slice.slicePlaces 0 (a : Int) 1 = a := by
    unfold Builtin.Slice.slicePlaces
    have h1 : (1 : Int) > 0 := by (first | lia | omega)
    simp only [h1, if_true, Int.ediv_one]
    split <;> (first | lia | omega)
  rw [e1]
  show wpAny _ _ (pure ((0 : Int), (1 : Int), Builtin.Slice.slicePlaces 0 (a : Int) 1)) _ _ s
  rw [e2]
  exact wpAny_pure h

theorem getItem_tuple_to {t sl : Addr} {items : List Value} {a : Nat} {u : Tok} {Q : Value → Shared → Prop} (ht : IsTup s.heap t items.toArray) (hs : s.heap.IsSliceOf sl .none (.int a u) .none) (ha : a < items.length)
    (h : Q (.ref s.heap.objs.size) { s with heap := s.heap.push { cls := .type "tuple", data := .seq (items.take a).toArray } })
    (hsz : items.length ≤ sizeLine) : wpAny (model prog w) A (getItem (.ref t) (.ref sl)) Q E s := by
  have htake : sizeOk (.seq (items.take a).toArray) := by
    show (items.take a).toArray.size ≤ sizeLine
    rw [List.size_toArray, List.length_take]
    (first | lia | omega)
  obtain ⟨os, hos, hcs, hds⟩ := id hs
  have hTs : s.TypeIs (.ref sl) "slice" := ⟨os, hos, hcs⟩
  unfold getItem
  try with_reducible refine wpAny_holding ?_
  first | refine wpAny_bind (wpAny_pure ?_) | skip
  refine wpAny_bind (wpAny_sequenceKey ht.typeIs (by decide) ?_)
  refine wpAny_bind (wpAny_callSpecial?_slot (name := Str.ofString "__getitem__") ht.typeIs slot_tuple_getitem
    (wpAny_call_entry slot_tuple_getitem ht.typeIs entry_tuple_getitem ?_ (args_tuple_getitem _ _)))
  show wpAny _ _ (Builtin.Tuple.tupleItemsOf (.ref t) >>= _) _ _ s
  refine wpAny_bind (tupleItemsOf_ ht ?_)
  refine wpAny_bind (wpAny_typeOf hTs ?_)
  rw [if_pos (by decide)]
  have hz : items.toArray.size = items.length := List.size_toArray
  refine wpAny_bind (sliceApplied_to (n := items.toArray.size) hs (by rw [hz]; exact Nat.le_of_lt ha) ?_)
  have hno : ¬ (((0 : Int) == 0 && (1 : Int) == 1 && a == items.toArray.size) = true) := by
    have : (a == items.toArray.size) = false := by rw [beq_eq_false_iff_ne, hz]; (first | lia | omega)
    rw [this]; simp
  show wpAny _ _ (if ((0 : Int) == 0 && (1 : Int) == 1 && a == items.toArray.size) = true then _ else _) _ _ s
  rw [if_neg hno]
  have e : ((List.range a).filterMap fun (k : Nat) => items.toArray[((0 : Int) + (k : Int) * 1).toNat]?).toArray = (items.take a).toArray := by
    have e1 : (fun (k : Nat) => items.toArray[((0 : Int) + (k : Int) * 1).toNat]?) = fun k => items.toArray[0 + k]? := by
      funext k
      have : ((0 : Int) + (k : Int) * 1).toNat = 0 + k := by (first | lia | omega)
      rw [this]
    rw [e1]
    have := pick_run items.toArray 0 a
    rw [List.filterMap_map] at this
    have e2 : ((fun x => items.toArray[x]?) ∘ fun x => 0 + x) = fun k => items.toArray[0 + k]? := rfl
    rw [e2] at this
    rw [this]; simp
  rw [e]
  first
    | exact wpAny_bind (m := Builtin.Tuple.tupleExact _) (wpAny_newObj_type (wpAny_pure ⟨_, rfl, wpAny_pure h⟩) htake)
    | exact wpAny_bind (m := Builtin.Tuple.tupleExact _) (wpAny_newObj_type (wpAny_bind (wpAny_pure (wpAny_pure ⟨_, rfl, wpAny_pure h⟩))) htake)
    | exact wpAny_bind (wpAny_bind (m := Builtin.Tuple.tupleExact _) (wpAny_newObj_type (wpAny_pure (wpAny_pure ⟨_, rfl, wpAny_pure h⟩)) htake))
    | exact wpAny_bind (wpAny_bind (m := Builtin.Tuple.tupleExact _) (wpAny_newObj_type (wpAny_pure ⟨_, rfl, wpAny_pure h⟩) htake))
end

section
variable {C : Cx} {k : Nat} {sc : Scope} {Γ : Gm} {σ : Ld}

theorem To.slice {s} {vl vu : Value} {zs : List Value} {l : List Vl} (h : Ok C σ s) (vr : VRs s.heap l zs) :
    To C σ s ((s.heap.objs.size + 1, .list l) :: σ) { s with heap := (s.heap.push { cls := .type "slice", data := .fields #[vl, vu, .none] }).push { cls := .type "list", data := .seq zs.toArray } } := by
  have t1 : To C σ s σ { s with heap := s.heap.push { cls := .type "slice", data := .fields #[vl, vu, .none] } } := To.pushed (tk := s.toks) h
  have t2 := To.pushList t1.ok (vr.to h t1)
  have e : (s.heap.push { cls := .type "slice", data := .fields #[vl, vu, .none] }).objs.size = s.heap.objs.size + 1 := Heap.size_push ..
  have := t1.trans t2
  simp only [e] at this
  exact this

theorem ev_slice_core {value : Expr} {lo hi : Option Expr} {p pos Q} {vlo vhi : Option Int} (h : EV C k sc value Γ σ (fun v σ₁ => ∃ a l l', v = .ref a ∧ (a, Ob.list l) ∈ σ₁ ∧ l.length ≤ 1000000 ∧ (∀ h vs, VRs h l vs → VRs h l' (kms_pick vs vlo vhi)) ∧ ∀ D, Q (.ref D) ((D, .list l') :: σ₁)))
    (hlo : ∀ env A s (R : Value → Shared → Prop), EnvOK sc env → (∀ n r, IsPart r vlo → R r { s with toks := n }) → wpAny (model C.prog C.w) A (evalPart lo env) R NE s)
    (hhi : ∀ env A s (R : Value → Shared → Prop), EnvOK sc env → (∀ n r, IsPart r vhi → R r { s with toks := n }) → wpAny (model C.prog C.w) A (evalPart hi env) R NE s) :
    EV C k sc (.Subscript value (.Slice lo hi none p) pos) Γ σ Q := fun env A s he hA hs => by
  refine Subscript_ (ne_mono (h env A s he hA hs) ?_)
  rintro r s₁ ⟨v, σ₁, t, vr, a, l, l', rfl, hm, hl, hpick, q⟩
  cases vr
  refine wpAny_Slice (hlo env A s₁ _ he fun n rl pl => hhi env A _ _ he fun n' rh ph => wpAny_evalPart_none ?_)
  have t1 : To C σ s σ₁ { s₁ with toks := n' } := t.trans (To.tok t.ok)
  obtain ⟨vs, pL, vr⟩ := t1.ok.cells _ hm
  have hL := PlainList.isList pL
  refine tail_any (ops := [_, _]) (Heap.IsList.typeIs (s := { s₁ with heap := s₁.heap.push { cls := .type "slice", data := .fields #[rl, rh, .none] }, toks := n' }) (hL.push _)) slot_list_getitem.lookup (wpAny_getItem_list_slice (hL.push _) (Heap.IsSliceOf.new ..) pl ph .none (by simp) ?_ (by rw [List.size_toArray, vr.length]; simp [sizeLine]; (first | lia | omega))) rfl
  rw [kms_pick_eq]
  have t2 := To.slice (vl := rl) (vu := rh) t1.ok (hpick _ _ vr)
  have e : (s₁.heap.push { cls := .type "slice", data := .fields #[rl, rh, .none] }).objs.size = s₁.heap.objs.size + 1 := Heap.size_push ..
  show VP C σ s Q (.ref (s₁.heap.push _).objs.size) _
  rw [e]
  exact ⟨.ref _, _, t1.trans t2, .ref _, q _⟩
theorem part_none {env A s} {R : Value → Shared → Prop} (h : ∀ n r, IsPart r none → R r { s with toks := n }) : wpAny (model C.prog C.w) A (evalPart none env) R NE s := wpAny_evalPart_none (h s.toks _ .none)
theorem part_const {env A s} {i : Int} {c cp} {R : Value → Shared → Prop} (h : ∀ n r, IsPart r (some i) → R r { s with toks := n }) : wpAny (model C.prog C.w) A (evalPart (some (.Constant (.int i) c cp)) env) R NE s := wpAny_evalPart_some (wpAny_Constant_int (h _ _ (.int _ _)))
theorem part_neg {env A s} {i : Int} {c cp up} {R : Value → Shared → Prop} (h : ∀ n r, IsPart r (some (-i)) → R r { s with toks := n }) : wpAny (model C.prog C.w) A (evalPart (some (.UnaryOp .USub (.Constant (.int i) c cp) up)) env) R NE s :=
  wpAny_evalPart_some (wpAny_UnaryOp (wpAny_Constant_int (PyProof.Rows.neg_int (h _ _ (.int _ _)))))
theorem ev_slice_to {value : Expr} {i : Int} {c cp p pos Q} (h : EV C k sc value Γ σ (fun v σ₁ => ∃ a l, v = .ref a ∧ (a, Ob.list l) ∈ σ₁ ∧ l.length ≤ 1000000 ∧ ∀ D, Q (.ref D) ((D, .list (l.take i.toNat)) :: σ₁))) (hi : 0 ≤ i) :
    EV C k sc (.Subscript value (.Slice none (some (.Constant (.int i) c cp)) none p) pos) Γ σ Q :=
  ev_slice_core (vlo := none) (vhi := some i) (h.imp fun v σ₁ ⟨a, l, e, hm, hl, q⟩ => ⟨a, l, l.take i.toNat, e, hm, hl, fun h vs vr => by
    have e : kms_pick vs none (some i) = vs.take i.toNat := by
      show (vs.drop 0).take (kms_hi (some i) vs.length - 0) = _
      unfold kms_hi
      dsimp only
      rw [if_neg (by (first | lia | omega)), List.drop_zero, Nat.sub_zero]
      exact List.take_eq_take_iff.mpr (by (first | lia | omega))
    rw [e]; exact vr.take, q⟩) (fun env A s R he h => part_none h) (fun env A s R he h => part_const h)
theorem ev_slice_last {value : Expr} {i : Int} {c cp up p pos Q} (h : EV C k sc value Γ σ (fun v σ₁ => ∃ a l, v = .ref a ∧ (a, Ob.list l) ∈ σ₁ ∧ l.length ≤ 1000000 ∧ ∀ D, Q (.ref D) ((D, .list (l.drop (l.length - i.toNat))) :: σ₁))) (hi : 0 < i) :
    EV C k sc (.Subscript value (.Slice (some (.UnaryOp .USub (.Constant (.int i) c cp) up)) none none p) pos) Γ σ Q :=
  ev_slice_core (vlo := some (-i)) (vhi := none) (h.imp fun v σ₁ ⟨a, l, e, hm, hl, q⟩ => ⟨a, l, l.drop (l.length - i.toNat), e, hm, hl, fun h vs vr => by
    have e : kms_pick vs (some (-i)) none = vs.drop (l.length - i.toNat) := by
      show (vs.drop (kms_lo (some (-i)) vs.length)).take (vs.length - kms_lo (some (-i)) vs.length) = _
      unfold kms_lo
      dsimp only
      rw [if_pos (by (first | lia | omega)), List.take_of_length_le (by simp), vr.length]
      congr 2; (first | lia | omega)
    rw [e]; exact vr.drop, q⟩) (fun env A s R he h => part_neg h) (fun env A s R he h => part_none h)
theorem ev_tslice_to {value : Expr} {i : Int} {c cp p pos Q} (h : EV C k sc value Γ σ (fun v σ₁ => ∃ l, v = .tup l ∧ i < l.length ∧ l.length ≤ 1000000 ∧ Q (.tup (l.take i.toNat)) σ₁)) (hi : 0 ≤ i) :
    EV C k sc (.Subscript value (.Slice none (some (.Constant (.int i) c cp)) none p) pos) Γ σ Q := fun env A s he hA hs => by
  refine Subscript_ (ne_mono (h env A s he hA hs) ?_)
  rintro r s₁ ⟨v, σ₁, t, vr, l, rfl, hil, hl, q⟩
  cases vr with
  | @tup l a vs it vr =>
    obtain ⟨j, rfl⟩ := Int.eq_ofNat_of_zero_le hi
    refine wpAny_Slice (wpAny_evalPart_none (wpAny_evalPart_some (wpAny_Constant_int (wpAny_evalPart_none ?_))))
    have t1 : To C σ s σ₁ { s₁ with heap := s₁.heap.push { cls := .type "slice", data := .fields #[.none, .int (j : Int) s₁.toks, .none] }, toks := s₁.toks + 1 } := t.trans (To.pushed t.ok)
    have it' : IsTup (s₁.heap.push { cls := .type "slice", data := .fields #[.none, .int (j : Int) s₁.toks, .none] }) a vs.toArray := it.keeps fun _ _ e => Heap.get?_push_of_some _ e
    refine tail_any (ops := [_, _]) (s := { s₁ with heap := s₁.heap.push { cls := .type "slice", data := .fields #[.none, .int (j : Int) s₁.toks, .none] }, toks := s₁.toks + 1 }) it'.typeIs slot_tuple_getitem.lookup (getItem_tuple_to it' (Heap.IsSliceOf.new ..) (by rw [vr.length]; (first | lia | omega)) ?_ (by rw [vr.length]; simp [sizeLine]; (first | lia | omega))) rfl
    obtain ⟨t2, x⟩ := To.pushTup (l := l.take j) t1.ok ((vr.to t.ok (To.pushed t.ok)).take)
    exact ⟨.tup (l.take j), σ₁, t1.trans t2, x, q⟩
end

section
variable {C : Cx} {k : Nat} {sc : Scope} {Γ : Gm} {σ : Ld}

theorem callT_core {f : Str} {p pos} {e : Expr} {T : String} {R : Value → Shared → Prop} {G : Vl → Ld → Prop} {env : Env} {A : Around} {s : Shared} (hx : sc.names.lookup f = some .globalImplicit) (hg : nsIn C.K mainGlobals f = some none) (hv : bootBuiltins f = some (.type T)) (hn : f ≠ "__name__")
    (he : EnvOK sc env) (hA : OKA k A) (hs : St C env Γ σ s) (h : EV C k sc e Γ σ G) (hG : ∀ v σ₁ s₁ r, To C σ s σ₁ s₁ → VR s₁.heap v r → G v σ₁ → wpAny (model C.prog C.w) A (call (.type T) [r]) R NE s₁) (hp : plainArgs [e] = true) (hd : (f == ("__debug__" : Str)) = false)
    (hc : ∀ env, eval (.Call (.Name f p) [e] [] pos) env = (do callWith pos (← eval (.Name f p) env) [] (backTo pos (starEach [e] env)) (backToKw pos (keywordEach [] env)))) : wpAny (model C.prog C.w) A (eval (.Call (.Name f p) [e] [] pos) env) R NE s := by
  refine Call_ ?_ (hc env)
  have hn : EV C k sc (.Name f p) Γ σ (fun v' σ' => v' = .con (.type T) ∧ σ' = σ) := ev_builtin hx hg hv hn ⟨rfl, rfl⟩ hd
  refine ne_mono (hn env A s he hA hs) ?_
  rintro r s₁ ⟨v', σ', t, vr, rfl, rfl⟩
  cases vr
  obtain ⟨a, _⟩ := plainArgs_cons hp
  have es : backTo pos (starEach [e] env) = [(false, eval e env)] := by rw [a env]; rfl
  rw [es]
  refine PyProof.Rows.callWith_type (by rfl) (evalArgs_plain (spliced_cons (ne_mono (h env A s₁ he hA (hs.to t)) ?_)))
  rintro r s₂ ⟨v, σ₂, t₂, vr, q⟩
  exact spliced_nil (hG v σ₂ s₂ r (t.trans t₂) vr q)

theorem ie_range {p pos} {e : Expr} {Q} (hx : sc.names.lookup ("range" : Str) = some .globalImplicit) (hg : nsIn C.K mainGlobals "range" = some none) (hv : bootBuiltins "range" = some (.type "range"))
    (h : EV C k sc e Γ σ (fun v σ₁ => ∃ n : Nat, v = .int (n : Int) ∧ n ≤ 1000000 ∧ Q (fun _ => True) (rangeV 0 n) σ₁)) (hp : plainArgs [e] = true)
    (hc : ∀ env, eval (.Call (.Name "range" p) [e] [] pos) env = (do callWith pos (← eval (.Name "range" p) env) [] (backTo pos (starEach [e] env)) (backToKw pos (keywordEach [] env))) := by intro _; rfl) : IE C k sc (.Call (.Name "range" p) [e] [] pos) Γ σ Q := fun env A s he hA hs => by
  refine callT_core hx hg hv (by decide) he hA hs h ?_ hp (by decide) hc
  rintro v σ₁ s₁ r t vr ⟨n, rfl, hn, q⟩
  cases vr
  rename_i tk
  refine call_range_1 ?_
  have t1 : To C σ s σ₁ { s₁ with heap := s₁.heap.push { cls := .type "range", data := .fields #[.int 0 s₁.toks, .int (n : Int) tk, .int 1 (s₁.toks + 1)] }, toks := s₁.toks + 1 + 1 } := t.trans (To.pushed t.ok)
  have hr : Builtin.Range.rangeSize 0 (n : Int) 1 = (n : Int) := by
    unfold Builtin.Range.rangeSize
    split <;> (first | lia | omega)
  refine wpAny_pyIter_range (a := 0) (b := (n : Int)) (c := 1) (Heap.get?_push_size _ rfl) ?_ ?_
  · unfold Builtin.Range.small
    rw [hr]
    simp [Builtin.Range.rangeFitsLong]
    (first | lia | omega)
  · rw [hr]
    exact ⟨_, _, _, _, σ₁, rfl, itr_range (n := n), ⟨0, n, Heap.get?_push_size _ rfl, rfl⟩, t1.size_none, t1.ok.size_not, t1.trans (To.pushed t1.ok), q⟩
theorem ie_reversed {p pos} {e : Expr} {Q} (hx : sc.names.lookup ("reversed" : Str) = some .globalImplicit) (hg : nsIn C.K mainGlobals "reversed" = some none) (hv : bootBuiltins "reversed" = some (.type "reversed"))
    (h : EV C k sc e Γ σ (fun v σ₁ => ∃ a items, v = .ref a ∧ (a, Ob.list items) ∈ σ₁ ∧ Q (fun σ' => (a, Ob.list items) ∈ σ') items.reverse σ₁)) (hp : plainArgs [e] = true)
    (hc : ∀ env, eval (.Call (.Name "reversed" p) [e] [] pos) env = (do callWith pos (← eval (.Name "reversed" p) env) [] (backTo pos (starEach [e] env)) (backToKw pos (keywordEach [] env))) := by intro _; rfl) : IE C k sc (.Call (.Name "reversed" p) [e] [] pos) Γ σ Q := fun env A s he hA hs => by
  refine callT_core hx hg hv (by decide) he hA hs h ?_ hp (by decide) hc
  rintro v σ₁ s₁ r t vr ⟨a, items, rfl, hm, q⟩
  cases vr
  obtain ⟨vs, pl, vr⟩ := t.ok.cells _ hm
  have e1 : (vs.toArray.size : Int) = (items.length : Int) := by rw [List.size_toArray, vr.length]
  refine call_reversed_list (PlainList.isList pl) ?_
  rw [e1]
  have hri : (s₁.heap.push (revObj a ((items.length : Int) - 1))).IsRevIter s₁.heap.objs.size a ((items.length : Int) - 1) := ⟨_, Heap.get?_push_size _ rfl, rfl, rfl⟩
  refine wpAny_pyIter_reviter hri ?_
  exact ⟨_, _, _, _, σ₁, rfl, itr_rev (a := a) (items := items), ⟨items.length, Nat.le_refl _, hri, by simp⟩, t.size_none, t.ok.size_not, t.trans (To.pushed (tk := s₁.toks) t.ok), q⟩

-- a value as data
mutual
inductive RD (σ : Ld) : Nat → Vl → PyData → Prop
  | none (n) : RD σ n .none .none
  | bool (n b) : RD σ n (.bool b) (.bool b)
  | int (n i) : RD σ n (.int i) (.int i)
  | str {n x} : PyData.canLay0 (.str x) = true → RD σ n (.str x) (.str x)
  | tup {n l ds} : RDs σ n l ds → RD σ (n + 1) (.tup l) (.tuple ds)
  | list {n a l ds} : (a, Ob.list l) ∈ σ → RDs σ n l ds → RD σ (n + 1) (.ref a) (.list ds)
inductive RDs (σ : Ld) : Nat → List Vl → List PyData → Prop
  | nil (n) : RDs σ n [] []
  | cons {n v l d ds} : RD σ n v d → RDs σ n l ds → RDs σ n (v :: l) (d :: ds)
end
theorem RD.ok {σ : Ld} {n v d} (x : RD σ n v d) : d.canLay0 = true ∧ d.depth ≤ n ∧ PyData.eqv d d = true :=
  RD.rec (motive_1 := fun n _ d _ => d.canLay0 = true ∧ d.depth ≤ n ∧ PyData.eqv d d = true) (motive_2 := fun n _ d _ => PyData.canLayAll0 d = true ∧ PyData.depthAll d ≤ n ∧ PyData.eqvAll d d = true)
    (fun _ => ⟨rfl, Nat.zero_le _, rfl⟩) (fun _ _ => ⟨rfl, Nat.zero_le _, by simp [PyData.eqv]⟩) (fun _ _ => ⟨rfl, Nat.zero_le _, by simp [PyData.eqv]⟩) (fun h => ⟨h, Nat.zero_le _, by simp [PyData.eqv]⟩)
    (fun _ ⟨a, b, c⟩ => ⟨by simpa [PyData.canLay0] using a, by simp [PyData.depth]; exact b, by simpa [PyData.eqv] using c⟩)
    (fun _ _ ⟨a, b, c⟩ => ⟨by simpa [PyData.canLay0] using a, by simp [PyData.depth]; exact b, by simpa [PyData.eqv] using c⟩)
    (fun _ => ⟨rfl, Nat.zero_le _, rfl⟩) (fun _ _ ⟨a, b, c⟩ ⟨a', b', c'⟩ => ⟨by simp [PyData.canLayAll0, a, a'], Nat.max_le.mpr ⟨b, b'⟩, by simp [PyData.eqvAll, c, c']⟩) x
theorem RD.reads {σ : Ld} {s : Shared} (hs : Ok C σ s) {n v d} (x : RD σ n v d) {r} (y : VR s.heap v r) : ∃ as, Reads s.heap r d as :=
  RD.rec (motive_1 := fun _ v d _ => ∀ r, VR s.heap v r → ∃ as, Reads s.heap r d as) (motive_2 := fun _ v d _ => ∀ r, VRs s.heap v r → ∃ as, ReadsAll s.heap r d as)
    (fun _ r x => by cases x; exact ⟨_, .none⟩) (fun _ _ r x => by cases x; exact ⟨_, .bool _⟩) (fun _ _ r x => by cases x; exact ⟨_, .int _ _⟩) (fun _ r x => by cases x; exact ⟨_, .str _ _⟩)
    (fun _ ih r x => by
      cases x with
      | tup it vr =>
        obtain ⟨as, x⟩ := ih _ vr
        obtain ⟨o, e, c, n, d⟩ := it
        exact ⟨as, .tuple e c d (by simpa using x)⟩)
    (fun hm _ ih r x => by
      cases x
      obtain ⟨vs, ⟨n, e⟩, vr⟩ := hs.cells _ hm
      obtain ⟨as, x⟩ := ih _ vr
      exact ⟨_, .list e rfl rfl (by simpa using x)⟩)
    (fun _ r x => by cases x; exact ⟨_, .nil⟩)
    (fun _ _ ih jh r x => by
      cases x with
      | cons a b =>
        obtain ⟨as, x⟩ := ih _ a
        obtain ⟨bs, y⟩ := jh _ b
        exact ⟨_, .cons x y⟩) x r y
theorem t2_ne_same {n m : Nat} {v w : Vl} {d : PyData} {Q} (a : RD σ n v d) (b : RD σ m w d) (hn : n ≤ 60) (h : Q (.bool false) σ) : T2 C k (compareOp .NotEq) v w σ Q := fun A s ra rb hA hs xa xb => by
  obtain ⟨as, x⟩ := a.reads hs xa
  obtain ⟨bs, y⟩ := b.reads hs xb
  obtain ⟨p, q, r⟩ := a.ok
  have sh : SeqAt.shaped d = true := by unfold SeqAt.shaped; rw [p, decide_eq_true (show d.depth ≤ 64 by (first | lia | omega))]; rfl
  exact ne_dataH x y sh sh (by have := hA.units; unfold cLine; (first | lia | omega)) ⟨.bool false, σ, .refl hs, by rw [r]; exact .bool _, h⟩
theorem t2_eq_same {n m : Nat} {v w : Vl} {d : PyData} {Q} (a : RD σ n v d) (b : RD σ m w d) (hn : n ≤ 60) (h : Q (.bool true) σ) : T2 C k (compareOp .Eq) v w σ Q := fun A s ra rb hA hs xa xb => by
  obtain ⟨as, x⟩ := a.reads hs xa
  obtain ⟨bs, y⟩ := b.reads hs xb
  obtain ⟨p, q, r⟩ := a.ok
  have sh : SeqAt.shaped d = true := by unfold SeqAt.shaped; rw [p, decide_eq_true (show d.depth ≤ 64 by (first | lia | omega))]; rfl
  exact eq_dataH x y sh sh (by have := hA.units; unfold cLine; (first | lia | omega)) ⟨.bool true, σ, .refl hs, by rw [r]; exact .bool _, h⟩
/-- two dicts of ints, item by item the same ints -/
theorem t2_eq_dicts {a b : Addr} {l : List (Int × Int)} {Q} (ha : (a, Ob.idict (l.map fun p => (p.1, Vl.int p.2))) ∈ σ) (hb : (b, Ob.idict (l.map fun p => (p.1, Vl.int p.2))) ∈ σ) (h : Q (.bool true) σ) : T2 C k (compareOp .Eq) (.ref a) (.ref b) σ Q := fun A s ra rb hA hs xa xb => by
  cases xa; cases xb
  obtain ⟨ka, da, kra⟩ := hs.cells _ ha
  obtain ⟨kb, db, krb⟩ := hs.cells _ hb
  obtain ⟨_, _, _, _, _, _, _, _, nd⟩ := id db
  have hits : KeqHits A.in1 s kb ka true := by
    have : ∀ (l' : List (Int × Int)) (ka' : List (Int × Value)), KRs s.heap (l'.map fun p => (p.1, Vl.int p.2)) ka' → (∀ p ∈ l', p ∈ l) → KeqHits A.in1 s kb ka' true := by
      intro l'
      induction l' with
      | nil => intro ka' h _; cases h; exact .nil
      | cons p l' ih =>
        intro ka' h hsub
        cases h with
        | cons x y =>
          cases x
          have hm : (p.1, Vl.int p.2) ∈ l.map fun p => (p.1, Vl.int p.2) := List.mem_map.mpr ⟨p, hsub p (.head _), rfl⟩
          obtain ⟨r, e, vr⟩ := valueAt_mem krb nd hm
          cases vr
          have e0 : ((p.2 == p.2) && true) = true := by simp
          exact Eq.mp (congrArg (KeqHits A.in1 s kb _) e0) (KeqHits.hit e (SeqAt.EqAt.int_int _ _ _ _) (ih _ y fun q hq => hsub q (.tail _ hq)))
    exact this l ka kra fun p hp => hp
  refine keq_eq (hs.nomod a (mem_fps ha (List.Mem.head _))) (hs.nomod b (mem_fps hb (List.Mem.head _))) da db (by have := hA.units; unfold cLine; (first | lia | omega)) (fun _ => hits) ?_
  have e : (ka.length == kb.length && true) = true := by rw [kra.length, krb.length]; simp
  rw [e]
  exact ⟨.bool true, σ, .refl hs, .bool _, h⟩

/-- a dict's display -/
noncomputable def EVp (C : Cx) (k : Nat) (sc : Scope) (ks : List (Option Expr)) (vs : List Expr) (Γ : Gm) (σ : Ld) (Q : List (Vl × Vl) → Ld → Prop) : Prop :=
  ∀ env A s pos, EnvOK sc env → OKA k A → St C env Γ σ s → wpAny (model C.prog C.w) A (evalPairs (pairTrees ks vs env pos)) (fun rs s' => ∃ l σ', To C σ s σ' s' ∧ VRs s'.heap (l.map (·.1)) (rs.map (·.1)) ∧ VRs s'.heap (l.map (·.2)) (rs.map (·.2)) ∧ Q l σ') NE s
theorem evp_nil {Q} (h : Q [] σ) : EVp C k sc [] [] Γ σ Q := fun _ _ _ _ _ _ hs => wpAny_pure ⟨[], σ, .refl hs.ok, .nil, .nil, h⟩
theorem evp_cons {e v ks vs Q} (h : EV C k sc e Γ σ (fun kv σ₁ => EV C k sc v Γ σ₁ (fun vv σ₂ => EVp C k sc ks vs Γ σ₂ (fun l σ₃ => Q ((kv, vv) :: l) σ₃)))) : EVp C k sc (some e :: ks) (v :: vs) Γ σ Q := fun env A s pos he hA hs => by
  show wpAny _ _ (evalPairs ((eval e env, do let x ← eval v env; standAt pos; pure x) :: pairTrees ks vs env pos)) _ _ _
  unfold evalPairs
  refine wpAny_bind (ne_mono (h env A s he hA hs) ?_)
  rintro rk s₁ ⟨kv, σ₁, t₁, x₁, q⟩
  refine wpAny_bind (wpAny_holding (wpAny_bind (ne_mono (q env A s₁ he hA (hs.to t₁)) ?_)))
  rintro rv s₂ ⟨vv, σ₂, t₂, x₂, q⟩
  refine wpAny_bind (wpAny_standAt (wpAny_pure ?_))
  refine wpAny_bind (wpAny_holding (ne_mono (q env A s₂ pos he hA ((hs.to t₁).to t₂)) ?_))
  rintro rs s₃ ⟨l, σ₃, t₃, x₃, x₄, q⟩
  exact wpAny_pure ⟨(kv, vv) :: l, σ₃, (t₁.trans t₂).trans t₃, .cons ((x₁.to t₁.ok t₂).to t₂.ok t₃) x₃, .cons (x₂.to t₂.ok t₃) x₄, q⟩
theorem carries_of {κ : Type} [DecidableEq κ] {knd : KeyKind C.prog C.w κ} {mk : κ → Vl} {h : Heap} (is : ∀ k r, VR h (mk k) r → knd.is k r = true) {l : List (κ × Vl)} : ∀ {rs : List (Value × Value)}, VRs h (l.map fun p => mk p.1) (rs.map (·.1)) → VRs h (l.map (·.2)) (rs.map (·.2)) → ∃ kvs, Carries knd rs kvs ∧ KRs h l kvs := by
  induction l with
  | nil =>
    intro rs x y
    cases rs with
    | nil => exact ⟨[], trivial, .nil⟩
    | cons r rs => cases x
  | cons p l ih =>
    intro rs x y
    cases rs with
    | nil => cases x
    | cons r rs =>
      obtain ⟨kvs, u, v⟩ := ih (VRs.unc x).2 (VRs.unc y).2
      exact ⟨(p.1, r.2) :: kvs, ⟨is _ _ (VRs.unc x).1, rfl, u⟩, .cons (VRs.unc y).1 v⟩
theorem merged_nodup {K : Type} [DecidableEq K] : ∀ {more acc : List (K × Value)}, ((acc ++ more).map (·.1)).Nodup → merged acc more = acc ++ more
  | [], acc, _ => by simp [merged]
  | (k, v) :: more, acc, h => by
    have e : stored acc k v = acc ++ [(k, v)] := by
      unfold stored
      rw [if_neg]
      intro z
      obtain ⟨p, hp, e⟩ := List.any_eq_true.mp z
      have e : p.1 = k := by simpa using e
      rw [List.map_append] at h
      exact (List.nodup_append.mp h).2.2 p.1 (List.mem_map.mpr ⟨p, hp, rfl⟩) k (List.Mem.head _) e
    show merged (stored acc k v) more = _
    rw [e, merged_nodup (by simpa using h)]
    simp
theorem ev_dict_core {κ : Type} [DecidableEq κ] {knd : KeyKind C.prog C.w κ} {mk : κ → Vl} {ob : List (κ × Vl) → Ob} (is : ∀ h k r, VR h (mk k) r → knd.is k r = true) (hfp : ∀ l a, (ob l).fp a = [a]) (hor : ∀ h a l kvs, h.DictOf knd a kvs → KRs h l kvs → OR C h a (ob l))
    {ks vs pos Q} (hall : ks.all (·.isSome) = true) (hl : ks.length = vs.length) (h0 : ks ≠ []) (hlen : ks.length ≤ 15)
    (h : EVp C k sc ks vs Γ σ (fun l σ' => ∃ l', l = l'.map (fun p : κ × Vl => (mk p.1, p.2)) ∧ (l'.map (·.1)).Nodup ∧ ∀ D, Q (.ref D) ((D, ob l') :: σ'))) : EV C k sc (.Dict ks vs pos) Γ σ Q := fun env A s he hA hs => by
  have t0 : To C σ s σ { s with heap := s.heap.push { cls := .type "dict", data := .dict #[] } } := To.pushed (tk := s.toks) hs.ok
  refine wpAny_Dict_walk (knd := knd) hall hl h0 hlen (ne_mono (h env A _ pos he hA (hs.to t0)) ?_)
  rintro rs s₁ ⟨l, σ₁, t₁, x₁, x₂, l', rfl, nd, q⟩
  rw [List.map_map] at x₁ x₂
  obtain ⟨kvs, c, kr⟩ := carries_of (is _) x₁ x₂
  have hD : s.heap.objs.size ∉ fps σ := hs.ok.size_not
  have d1 : s₁.heap.DictOf knd s.heap.objs.size [] := by
    obtain ⟨o, es, ep, e, r⟩ := dictOf_new (knd := knd) s.heap
    exact ⟨o, es, ep, t₁.keep.same _ _ hD e, r⟩
  refine ⟨kvs, c, d1, fun h' dd sb => ?_⟩
  rw [merged_nodup (by rw [List.nil_append, kr.keys]; exact nd), List.nil_append] at dd
  obtain ⟨o, es, ep, e, cc, d, _⟩ := d1
  have S : SameI s.heap.objs.size s₁ { s₁ with heap := h', toks := s₁.toks + rs.length } := ⟨fun b o n e => (sb.2 b n).trans e, rfl, rfl, rfl⟩
  have tk : TupKeep s₁.heap h' := tupKeep_but S.same e fun items n => .inl (by rw [d]; exact fun z => by cases z)
  have hDσ : s.heap.objs.size ∉ fps σ₁ := fun z => by
    rcases t₁.fresh _ z with z | z
    · exact hD z
    · rw [Heap.get?_push_size _ rfl] at z; cases z
  have t2 := To.at hs.ok (t0.trans t₁) S (size_none (Nat.le_refl _)) hDσ tk
  have sg : ∀ b ∈ (ob l').fp s.heap.objs.size, b = s.heap.objs.size := fun b hb => by rw [hfp] at hb; exact List.mem_singleton.mp hb
  exact ⟨.ref _, _, To.add (a := s.heap.objs.size) (o := ob l') hs.ok t2 (fun b hb => sg b hb ▸ size_none (Nat.le_refl _)) (fun b hb => sg b hb ▸ hs.ok.size_mod (Nat.le_refl _)) (fun b hb => sg b hb ▸ hDσ) (by rw [hfp]; simp) (hor _ _ _ _ dd (kr.keep tk)), .ref _, q _⟩
theorem ev_dict {ks vs pos Q} (hall : ks.all (·.isSome) = true) (hl : ks.length = vs.length) (h0 : ks ≠ []) (hlen : ks.length ≤ 15)
    (h : EVp C k sc ks vs Γ σ (fun l σ' => ∃ l', l = l'.map (fun p : Int × Vl => (Vl.int p.1, p.2)) ∧ (l'.map (·.1)).Nodup ∧ ∀ D, Q (.ref D) ((D, .idict l') :: σ'))) : EV C k sc (.Dict ks vs pos) Γ σ Q :=
  ev_dict_core (mk := Vl.int) (ob := Ob.idict) (knd := intKind C.prog C.w) (fun _ _ _ x => by cases x; exact intKind_is _ _ _ _) (fun _ _ => rfl) (fun _ _ _ kvs a b => ⟨kvs, a, b⟩) hall hl h0 hlen h
theorem ev_dictS {ks vs pos Q} (hall : ks.all (·.isSome) = true) (hl : ks.length = vs.length) (h0 : ks ≠ []) (hlen : ks.length ≤ 15)
    (h : EVp C k sc ks vs Γ σ (fun l σ' => ∃ l', l = l'.map (fun p : Str × Vl => (Vl.str p.1, p.2)) ∧ (l'.map (·.1)).Nodup ∧ ∀ D, Q (.ref D) ((D, .sdict l') :: σ'))) : EV C k sc (.Dict ks vs pos) Γ σ Q :=
  ev_dict_core (mk := Vl.str) (ob := Ob.sdict) (knd := strKind C.prog C.w) (fun _ _ _ x => by cases x; exact strKind_is _ _ _ _) (fun _ _ => rfl) (fun _ _ _ kvs a b => ⟨kvs, a, b⟩) hall hl h0 hlen h

theorem Ok.relabel {s} {a : Addr} {o o' : Ob} {σ' : Ld} (h : Ok C σ s) (u : Upd a o o' σ σ') (e : o'.fp a = o.fp a) (hO : OR C s.heap a o → OR C s.heap a o') : Ok C σ' s :=
  ⟨h.ext, h.gens, h.drawn, h.os, fun p hp => by
    rcases u.cells h.nd p hp with rfl | ⟨hp, _⟩
    · exact hO (h.cells _ u.mem)
    · exact h.cells p hp, u.fps e ▸ h.nd, u.fps e ▸ h.new, u.fps e ▸ h.nomod⟩
/-- a dict is held still -/
theorem ev_freeze {d : Addr} {l : List (Int × Vl)} {σf : Nat → Ld} {e : Expr} {Q} (u : ∀ ep, Upd d (.idict l) (.fdict ep l) σ (σf ep)) (h : ∀ ep, EV C k sc e Γ (σf ep) Q) : EV C k sc e Γ σ Q := fun env A s he hA hs => by
  obtain ⟨kvs, da, kr⟩ := hs.ok.cells _ (u 0).mem
  obtain ⟨ep, da⟩ := da.dictAt
  have ok := hs.ok.relabel (u ep) rfl fun _ => ⟨kvs, da, kr⟩
  have ef := (u ep).fps rfl
  refine ne_mono (h ep env A s he hA ⟨ok, hs.fr, by rw [ef]; exact hs.dis, hs.fnew⟩) ?_
  rintro r s' ⟨v, σ', t, x, q⟩
  exact ⟨v, σ', ⟨t.ok, by rw [← ef]; exact t.keep, by rw [← ef]; exact t.fresh⟩, x, q⟩
/-- and let go -/
theorem ev_thaw {d : Addr} {l : List (Int × Vl)} {e : Expr} {Q} (h : EV C k sc e Γ σ (fun v σ' => ∃ ep σ'', Upd d (.fdict ep l) (.idict l) σ' σ'' ∧ Q v σ'')) : EV C k sc e Γ σ Q := fun env A s he hA hs => by
  refine ne_mono (h env A s he hA hs) ?_
  rintro r s' ⟨v, σ', t, x, ep, σ'', u, q⟩
  exact ⟨v, σ'', ⟨t.ok.relabel u rfl fun ⟨kvs, a, b⟩ => ⟨kvs, a.dictOf, b⟩, t.keep, by rw [u.fps rfl]; exact t.fresh⟩, x, q⟩
end

inductive Pick (p : Addr × Ob) : Ld → Ld → Prop
  | head {σ} : Pick p (p :: σ) σ
  | tail {q σ τ} : Pick p σ τ → Pick p (q :: σ) (q :: τ)
theorem Pick.perm {p σ τ} (x : Pick p σ τ) : (p :: τ).Perm σ := by
  induction x with
  | head => exact .refl _
  | tail _ ih => exact (List.Perm.swap _ _ _).trans (.cons _ ih)
/-- a part of a ledger, in whatever order -/
inductive SubP : Ld → Ld → Prop
  | refl {σ} : SubP σ σ
  | sub {σ σ'} : σ'.Sublist σ → SubP σ' σ
  | pick {p σ' σ τ} : Pick p σ τ → SubP σ' τ → SubP (p :: σ') σ
theorem SubP.spec {σ' σ} (x : SubP σ' σ) : ∃ τ, τ.Perm σ ∧ σ'.Sublist τ := by
  induction x with
  | refl => exact ⟨_, .refl _, .refl _⟩
  | sub h => exact ⟨_, .refl _, h⟩
  | pick a _ ih => obtain ⟨τ, x, y⟩ := ih; exact ⟨_, (List.Perm.cons _ x).trans a.perm, y.cons_cons _⟩
theorem fps_perm {σ σ' : Ld} (h : σ'.Perm σ) : (fps σ').Perm (fps σ) := h.flatMap_right _
theorem SubP.mem {σ' σ} (h : SubP σ' σ) {p} (hp : p ∈ σ') : p ∈ σ := let ⟨_, a, b⟩ := h.spec; a.mem_iff.mp (b.subset hp)
theorem SubP.fps {σ' σ} (h : SubP σ' σ) {a} (ha : a ∈ fps σ') : a ∈ fps σ := let ⟨_, x, y⟩ := h.spec; (fps_perm x).mem_iff.mp ((fps_sub y).subset ha)
theorem Ok.subP {C σ σ' s} (k : Ok C σ s) (h : SubP σ' σ) : Ok C σ' s := by
  obtain ⟨τ, x, y⟩ := h.spec
  exact Ok.sub ⟨k.ext, k.gens, k.drawn, k.os, fun p hp => k.cells p (x.mem_iff.mp hp), (fps_perm x).nodup_iff.mpr k.nd, fun a ha => k.new a ((fps_perm x).mem_iff.mp ha), fun a ha => k.nomod a ((fps_perm x).mem_iff.mp ha)⟩ y

section
variable {C : Cx} {k : Nat} {sc : Scope} {Γ Γ' : Gm} {σ σ' : Ld}
theorem St.subP {env s} (t : St C env Γ σ s) (h : SubP σ' σ) : St C env Γ σ' s := ⟨t.ok.subP h, t.fr, fun a ha q => t.dis a ha (h.fps q), t.fnew⟩
theorem ToX.subP {env s s' σ''} (t : ToX C env σ s Γ' σ' s') (h : SubP σ'' σ') : ToX C env σ s Γ' σ'' s' := ⟨t.ok.subP h, t.keep, fun a ha => t.fresh a (h.fps ha), t.fr⟩
theorem ToX.preP {env s s' σ₀} (t : ToX C env σ₀ s Γ' σ' s') (h : SubP σ₀ σ) : ToX C env σ s Γ' σ' s' := ⟨t.ok, t.keep.mono fun a ha => (List.mem_append.mp ha).elim (fun q => List.mem_append_left _ (h.fps q)) fun q => List.mem_append_right _ q, fun a ha => (t.fresh a ha).imp_left h.fps, t.fr⟩
theorem To.subP {s s' σ''} (t : To C σ s σ' s') (h : SubP σ'' σ') : To C σ s σ'' s' := ⟨t.ok.subP h, t.keep, fun a ha => t.fresh a (h.fps ha)⟩
theorem To.preP {s s' σ₀} (t : To C σ₀ s σ' s') (h : SubP σ₀ σ) : To C σ s σ' s' := ⟨t.ok, t.keep.mono fun a ha => h.fps ha, fun a ha => (t.fresh a ha).imp_left h.fps⟩

theorem ex_post {b Q} (h : EX C k sc b Γ σ (fun f Γ' σ' => ∃ Γ'' σ'', Wk Γ' Γ'' ∧ SubP σ'' σ' ∧ Q f Γ'' σ'')) : EX C k sc b Γ σ Q := fun env A s he hA hs =>
  ne_mono (h env A s he hA hs) fun f s' ⟨g, Γ', σ', t, x, Γ'', σ'', w, sb, q⟩ => ⟨g, Γ'', σ'', (t.wk w).subP sb, x, q⟩
theorem ex_post1 {b Q} (h : EX1 C k sc b Γ σ (fun f Γ' σ' => ∃ Γ'' σ'', Wk Γ' Γ'' ∧ SubP σ'' σ' ∧ Q f Γ'' σ'')) : EX1 C k sc b Γ σ Q := fun env A s he hA hs =>
  ne_mono (h env A s he hA hs) fun f s' ⟨g, Γ', σ', t, x, Γ'', σ'', w, sb, q⟩ => ⟨g, Γ'', σ'', (t.wk w).subP sb, x, q⟩
theorem ex_pre {b Q} (w : Wk Γ Γ') (p : SubP σ' σ) (h : EX C k sc b Γ' σ' Q) : EX C k sc b Γ σ Q := fun env A s he hA hs =>
  ne_mono (h env A s he hA ((hs.wk w).subP p)) fun f s' ⟨g, Γ₁, σ₁, t, x, q⟩ => ⟨g, Γ₁, σ₁, ⟨(t.preP p).ok, (t.preP p).keep, (t.preP p).fresh, (t.preP p).fr⟩, x, q⟩
theorem as_pre {t v Q} (w : Wk Γ Γ') (p : SubP σ' σ) (h : AS C k sc t v Γ' σ' Q) : AS C k sc t v Γ σ Q := fun env A s r he hA hs hv =>
  ne_mono (h env A s r he hA ((hs.wk w).subP p) hv) fun _ s' ⟨Γ₁, σ₁, t, q⟩ => ⟨Γ₁, σ₁, t.preP p, q⟩
theorem bt_pre {t} {Q : Bool → Ld → Prop} (w : Wk Γ Γ') (p : SubP σ' σ) (h : BT C k sc t Γ' σ' Q) : BT C k sc t Γ σ Q := fun env A s he hA hs =>
  ne_mono (h env A s he hA ((hs.wk w).subP p)) fun _ s' ⟨σ₁, t, q⟩ => ⟨σ₁, t.preP p, q⟩
theorem bt_post {t} {Q : Bool → Ld → Prop} (h : BT C k sc t Γ σ (fun b σ' => ∃ σ'', SubP σ'' σ' ∧ Q b σ'')) : BT C k sc t Γ σ Q := fun env A s he hA hs =>
  ne_mono (h env A s he hA hs) fun _ s' ⟨σ₁, t, σ₂, p, q⟩ => ⟨σ₂, t.subP p, q⟩
theorem ev_post {t} {Q : Vl → Ld → Prop} (h : EV C k sc t Γ σ (fun b σ' => ∃ σ'', SubP σ'' σ' ∧ Q b σ'')) : EV C k sc t Γ σ Q := fun env A s he hA hs =>
  ne_mono (h env A s he hA hs) fun _ s' ⟨v, σ₁, t, x, σ₂, p, q⟩ => ⟨v, σ₂, t.subP p, x, q⟩
theorem clc_post {f vs} {Q : Vl → Ld → Prop} (h : CLc C k f vs σ (fun b σ' => ∃ σ'', SubP σ'' σ' ∧ Q b σ'')) : CLc C k f vs σ Q := fun A s rs hA hs hv =>
  codeAny_mono (h A s rs hA hs hv) fun r s' z => by
    cases r with
    | error => exact z
    | ok f => cases f with
      | ret r => obtain ⟨v, σ₁, t, x, σ₂, p, q⟩ := z; exact ⟨v, σ₂, t.subP p, x, q⟩
      | _ => exact z
theorem CLc.imp {f vs} {Q Q' : Vl → Ld → Prop} (h : CLc C k f vs σ Q) (q : ∀ v σ', Q v σ' → Q' v σ') : CLc C k f vs σ Q' := fun A s rs hA hs hv =>
  codeAny_mono (h A s rs hA hs hv) fun r s' z => by
    cases r with
    | error => exact z
    | ok f => cases f with
      | ret r => obtain ⟨v, σ₁, t, x, z⟩ := z; exact ⟨v, σ₁, t, x, q _ _ z⟩
      | _ => exact z

/-- a loop over like things: P what holds with the rest l at the state b; G and S the frame and the ledger at b -/
theorem ex_for_list {α β : Type} {target iter body pos Q} (f : α → Vl) (P : List α → β → Prop) (G : β → Gm) (S : β → Ld)
    (h : IE C k sc iter Γ σ (fun need items σ₁ => ∃ xs b, items = xs.map f ∧ P xs b ∧ Wk Γ (G b) ∧ SubP (S b) σ₁ ∧ (∀ b σ', SubP (S b) σ' → need σ') ∧
      (∀ x l b, P (x :: l) b → AS C k sc target (f x) (G b) (S b) (fun Γ₂ σ₂ => EX C k sc body Γ₂ σ₂ (fun fl Γ₃ σ₃ => match fl with
        | .next => ∃ b', P l b' ∧ Wk Γ₃ (G b') ∧ SubP (S b') σ₃ | .cont => ∃ b', P l b' ∧ Wk Γ₃ (G b') ∧ SubP (S b') σ₃ | .brk => Q .next Γ₃ σ₃ | .ret v => Q (.ret v) Γ₃ σ₃))) ∧
      ∀ b, P [] b → Q .next (G b) (S b)))
    (hs : foldedSetIterable iter = fun _ x => pure x := by rfl) : EX1 C k sc (.For target iter body [] pos) Γ σ Q := by
  refine ex_post1 (ex_for (fun env A s he hA hst => ne_mono (h env A s he hA hst) fun x s₁ h₁ => ne_mono h₁ ?_) hs)
  rintro it s₂ ⟨I, st, need, items, σ₁, rfl, W, hst, hI, hIσ, t, xs, b, rfl, p0, w0, s0, hn, step, fin⟩
  refine ⟨I, st, need, _, σ₁, rfl, W, hst, hI, hIσ, t, fun l Γ' σ' => ∃ xs b, l = xs.map f ∧ P xs b ∧ Wk Γ' (G b) ∧ SubP (S b) σ', ⟨xs, b, rfl, p0, w0, s0⟩, ?_, ?_⟩
  · rintro x l Γ' σ' ⟨xs, b, e, p, w, sb⟩
    cases xs with
    | nil => cases e
    | cons a xs =>
      cases e
      refine ⟨hn _ _ sb, as_pre w sb ?_⟩
      intro env A s r he hA hs hv
      refine ne_mono (step a xs b p env A s r he hA hs hv) ?_
      rintro _ s₃ ⟨Γ₂, σ₂, t, q⟩
      refine ⟨Γ₂, σ₂, t, q.imp fun fl Γ₃ σ₃ z => ?_⟩
      cases fl with
      | next => obtain ⟨b', p', w', s'⟩ := z; exact ⟨xs, b', rfl, p', w', s'⟩
      | cont => obtain ⟨b', p', w', s'⟩ := z; exact ⟨xs, b', rfl, p', w', s'⟩
      | brk => exact ⟨Γ₃, σ₃, .refl, .refl, z⟩
      | ret v => exact ⟨Γ₃, σ₃, .refl, .refl, z⟩
  · rintro Γ' σ' ⟨xs, b, e, p, w, sb⟩
    cases xs with
    | cons => cases e
    | nil => exact ⟨hn _ _ sb, _, _, w, sb, fin b p⟩
theorem ex_for_one {target iter body pos Q} (h : IE C k sc iter Γ σ (fun need items σ₁ => ∃ x, items = [x] ∧ need σ₁ ∧ AS C k sc target x Γ σ₁ (fun Γ₂ σ₂ => EX C k sc body Γ₂ σ₂ (fun fl Γ₃ σ₃ => match fl with
        | .next => need σ₃ ∧ Q .next Γ₃ σ₃ | .cont => need σ₃ ∧ Q .next Γ₃ σ₃ | .brk => Q .next Γ₃ σ₃ | .ret v => Q (.ret v) Γ₃ σ₃))))
    (hs : foldedSetIterable iter = fun _ x => pure x := by rfl) : EX1 C k sc (.For target iter body [] pos) Γ σ Q := by
  refine ex_for (fun env A s he hA hst => ne_mono (h env A s he hA hst) fun x s₁ h₁ => ne_mono h₁ ?_) hs
  rintro it s₂ ⟨I, st, need, items, σ₁, rfl, W, hst, hI, hIσ, t, x, rfl, n1, step⟩
  refine ⟨I, st, need, _, σ₁, rfl, W, hst, hI, hIσ, t, fun l Γ' σ' => match l with | [] => need σ' ∧ Q .next Γ' σ' | l => l = [x] ∧ Γ' = Γ ∧ σ' = σ₁, ⟨rfl, rfl, rfl⟩, ?_, fun _ _ z => z⟩
  rintro y l Γ' σ' ⟨e, rfl, rfl⟩
  cases e
  exact ⟨n1, step⟩

theorem ex_while_list {β : Type} {test body pos Q} (P : Nat → β → Prop) (G : β → Gm) (S : β → Ld) (n : Nat) (b : β) (p0 : P n b) (w0 : Wk Γ (G b)) (s0 : SubP (S b) σ)
    (h : ∀ n b, P n b → BT C k sc test (G b) (S b) (fun c σ₁ => if c then EX C k sc body (G b) σ₁ (fun fl Γ₃ σ₃ => match fl with
        | .next => ∃ m b', m < n ∧ P m b' ∧ Wk Γ₃ (G b') ∧ SubP (S b') σ₃ | .cont => ∃ m b', m < n ∧ P m b' ∧ Wk Γ₃ (G b') ∧ SubP (S b') σ₃ | .brk => Q .next Γ₃ σ₃ | .ret v => Q (.ret v) Γ₃ σ₃) else Q .next (G b) σ₁)) : EX1 C k sc (.While test body [] pos) Γ σ Q := by
  refine ex_post1 (ex_while (fun n Γ' σ' => ∃ b, P n b ∧ Wk Γ' (G b) ∧ SubP (S b) σ') n ⟨b, p0, w0, s0⟩ ?_)
  rintro n Γ' σ' ⟨b, p, w, sb⟩
  refine bt_pre .refl sb ?_
  intro env A s he hA hs
  refine ne_mono (h n b p env A s he hA (hs.wk w)) ?_
  rintro c s₁ ⟨σ₁, t, q⟩
  refine ⟨σ₁, t, ?_⟩
  cases c with
  | false => exact ⟨_, _, w, .refl, q⟩
  | true =>
    refine ex_pre w .refl (q.imp fun fl Γ₃ σ₃ z => ?_)
    cases fl with
    | next => obtain ⟨m, b', hm, p', w', s'⟩ := z; exact ⟨m, hm, b', p', w', s'⟩
    | cont => obtain ⟨m, b', hm, p', w', s'⟩ := z; exact ⟨m, hm, b', p', w', s'⟩
    | brk => exact ⟨Γ₃, σ₃, .refl, .refl, z⟩
    | ret v => exact ⟨Γ₃, σ₃, .refl, .refl, z⟩

theorem compJ_map {α : Type} {scope : Scope} {x : Str} {elt : Expr} {Γf : Gm} {Q : List Vl → Ld → Prop} {need : Ld → Prop} {σ₁ : Ld} (xs : List α) (f g : α → Vl) {items : List Vl} (hi : items = xs.map f) (hn : need σ₁) (hl : xs.length ≤ 100000)
    (h : ∀ a ∈ xs, EV C k (relabelS scope sc) elt ((x, some (f a)) :: Γf) σ₁ (fun v σ' => v = g a ∧ σ' = σ₁)) (q : Q (xs.map g) σ₁) : CompJ C k sc scope x [] elt Γf Q need items σ₁ := by
  subst hi
  refine ⟨fun l acc σ' => ∃ a b, xs = a ++ b ∧ l = b.map f ∧ acc = a.map g ∧ σ' = σ₁, ⟨[], xs, rfl, rfl, rfl, rfl⟩, by simpa using hl, ?_, ?_⟩
  · rintro y l acc σ' ⟨a, b, e, e2, rfl, rfl⟩
    cases b with
    | nil => cases e2
    | cons z b =>
      cases e2
      refine ⟨hn, ?_⟩
      show EV _ _ _ _ _ _ _
      refine (h z (by rw [e]; simp)).imp ?_
      rintro v σ' ⟨rfl, rfl⟩
      exact ⟨a ++ [z], b, by simp [e], rfl, by simp, rfl⟩
  · rintro acc σ' ⟨a, b, e, e2, rfl, rfl⟩
    cases b with
    | cons => cases e2
    | nil => simp at e; subst e; exact ⟨hn, q⟩
/-- with a test -/
theorem compJ_filter {α : Type} {scope : Scope} {x : Str} {elt c : Expr} {Γf : Gm} {Q : List Vl → Ld → Prop} {need : Ld → Prop} {σ₁ : Ld} (xs : List α) (f g : α → Vl) (d : α → Bool) {items : List Vl} (hi : items = xs.map f) (hn : need σ₁) (hl : xs.length ≤ 100000)
    (h : ∀ a ∈ xs, BT C k (relabelS scope sc) c ((x, some (f a)) :: Γf) σ₁ (fun b σ' => b = d a ∧ σ' = σ₁))
    (h2 : ∀ a ∈ xs, d a = true → EV C k (relabelS scope sc) elt ((x, some (f a)) :: Γf) σ₁ (fun v σ' => v = g a ∧ σ' = σ₁)) (q : Q ((xs.filter d).map g) σ₁) : CompJ C k sc scope x [c] elt Γf Q need items σ₁ := by
  subst hi
  refine ⟨fun l acc σ' => ∃ a b, xs = a ++ b ∧ l = b.map f ∧ acc = (a.filter d).map g ∧ σ' = σ₁, ⟨[], xs, rfl, rfl, rfl, rfl⟩, by simpa using hl, ?_, ?_⟩
  · rintro y l acc σ' ⟨a, b, e, e2, rfl, rfl⟩
    cases b with
    | nil => cases e2
    | cons z b =>
      cases e2
      refine ⟨hn, ?_⟩
      show BT _ _ _ _ _ _ _
      intro env A s he hA hs
      refine ne_mono (h z (by rw [e]; simp) env A s he hA hs) ?_
      rintro b' s₁ ⟨σ', t, rfl, rfl⟩
      refine ⟨_, t, ?_⟩
      cases hd : d z with
      | false => exact ⟨a ++ [z], b, by simp [e], rfl, by simp [hd], rfl⟩
      | true =>
        refine (h2 z (by rw [e]; simp) hd).imp ?_
        rintro v σ' ⟨rfl, rfl⟩
        exact ⟨a ++ [z], b, by simp [e], rfl, by simp [hd], rfl⟩
  · rintro acc σ' ⟨a, b, e, e2, rfl, rfl⟩
    cases b with
    | cons => cases e2
    | nil => simp at e; subst e; exact ⟨hn, q⟩

theorem as_list {ts c pos vs Q} {a : Addr} (hm : (a, Ob.list vs) ∈ σ) (h : ASs C k sc ts vs Γ σ Q) (hl : ts.length = vs.length) (hp : plainTargets ts = true) : AS C k sc (.Tuple ts c pos) (.ref a) Γ σ Q := fun env A s r he hA hs hv => by
  cases hv
  obtain ⟨rs, pl, vr⟩ := hs.ok.cells _ hm
  obtain ⟨p1, p2⟩ := plainTargets_spec (env := env) hp
  rw [arm_assign_Tuple]
  refine wpAny_bind (wpAny_standAt ?_)
  unfold unpack
  rw [show (assignEach ts env).length = rs.toArray.size by rw [p1, hl, List.size_toArray, vr.length], p2 _ rfl]
  refine wpAny_bind (wpAny_holding (kun_itemsOf hA.handled (PlainList.isList pl) fun h' ext => ?_))
  have t := To.ext (s' := { s with heap := h' }) hs.ok (extBut_size ext) rfl rfl rfl
  refine ne_mono (h env A _ rs he hA (hs.to t) (vr.to hs.ok t)) ?_
  rintro _ s₂ ⟨Γ₂, σ₂, t₂, q⟩
  exact ⟨Γ₂, σ₂, (t.toX hs).trans t₂, q⟩
theorem ev_gint {x : Str} {i t pos Q} (hx : sc.names.lookup x = some .globalImplicit) (e : nsIn C.K mainGlobals x = some (some (.int i t))) (h : Q (.int i) σ) (hd : (x == ("__debug__" : Str)) = false := by decide) : EV C k sc (.Name x pos) Γ σ Q := fun env A s he hA hs =>
  Name_function_global (he.scope ▸ he.kind) (by show env.scope.names.lookup x = _; rw [he.scope]; exact hx)
    (loadGlobal_global (mg := C.mg) (v := .int i t) (by rw [he.globals]; exact C.hg.keeps hs.ok.ext) (mg_of C.X C.hg e) ⟨.int i, σ, .refl hs.ok, .int _ _, h⟩) hd
end
/-- the statements whose records the walk reads -/
noncomputable def vw : Program := view PySem.Challenge.pw_on0107_01 [0, 2, 3, 5, 6, 7, 8, 9, 10, 11, 12, 14, 15, 16, 17, 18, 20, 21, 23, 24, 25, 26, 27, 28, 29, 30]
theorem said : PySem.Challenge.rw_on0107_01.wellSaid = true := by
  unfold OpenLaw.wellSaid
  repeat' first | refine look_both ?_ ?_ | skip
  all_goals decide +kernel
theorem ok2 : (chainsOk vw && opensWell PySem.Challenge.rw_on0107_01.row.prog && (frees PySem.Challenge.rw_on0107_01.row.toRowW && PySem.Challenge.rw_on0107_01.row.within.isEmpty)) = true := by decide +kernel
theorem headOf {d : DefRec} {kwd : List (Str × PySem.Expr)} (H : Hook) (hl : LeftO PySem.Challenge.rw_on0107_01.row.prog vw [Str.ofString "GateloomError"] (fun s => xlAt vw [] s && recOk [] s) H.obs H.val 3464)
    (hdef : defOf vw PySem.Challenge.rw_on0107_01.row.name = some (d, kwd)) (hp : PySem.Challenge.rw_on0107_01.row.prog.theDef PySem.Challenge.rw_on0107_01.row.name = some (d.params, d.body, d.scope)) (hk : kwWritten? d.params.kwonlyargs d.params.kw_defaults = some kwd)
    (hw : PySem.Challenge.rw_on0107_01.row.toRowW.promised) (hc : WalkO vw [Str.ofString "GateloomError"] (XL vw []) H.says PySem.Challenge.rw_on0107_01.row.toRowW d kwd fun f vs => PySem.call f vs) : PySem.Challenge.rw_on0107_01.row.Holds :=
  holds_open hl H.of H.keeps (fun s e => xl_of s (Bool.and_eq_true_iff.mp e).1) XL.keeps hdef hp hk (fun s e => recFacts_of (Bool.and_eq_true_iff.mp e).2) (by rfl) (row_said said) ok2 ⟨rfl, rfl, rfl, rfl, rfl, by decide +kernel⟩ hw hc
local macro_rules | `(tactic| o_law) => `(tactic| refine holds_law said fun _ => ?_)
local macro_rules | `(tactic| o_head $H) => do
  let hw := Lean.mkIdent `hw
  `(tactic| refine headOf $H (fun w => by
      unfold openEnds fencedOpening topFrom
      simp only [Fast.te14082659384304107361, Fast.te4187177175401517315, Fast.te14364793385576792824, Fast.te10274390034422433532]
      kernel_rfl) (by rfl) (by rfl) (by rfl) ?$hw ?_)
open_top hd for PySem.Challenge.rw_on0107_01
/-- the program's written part -/
noncomputable def IsK (C : Cx) : Prop := C.K = hd.heap_1 C.w.params
theorem IsK.get {C : Cx} (h : IsK C) : C.K = hd.heap_1 C.w.params := h


theorem mem_hd {α : Type} {a : α} {l : List α} : a ∈ a :: l := .head _
theorem mem_tl {α : Type} {a b : α} {l : List α} (h : a ∈ l) : a ∈ b :: l := .tail _ h
theorem if_t {c : Bool} {P Q : Prop} (h : c = true) (p : P) : if c = true then P else Q := by rw [if_pos h]; exact p
theorem if_f {c : Bool} {P Q : Prop} (h : c = false) (p : Q) : if c = true then P else Q := by rw [if_neg (by rw [h]; exact Bool.false_ne_true)]; exact p
inductive Kd where
  | mux | inv | and
noncomputable def kindS : Kd → Str
  | .mux => "mux"
  | .inv => "not"
  | .and => "and"
structure Cel where
  k : Kd
  out : Nat
  ins : List Nat
noncomputable abbrev nV (n : Nat) : Vl := .int (n : Int)
noncomputable abbrev cellV (c : Cel) : Vl := .tup [.str (kindS c.k), nV c.out, .tup (c.ins.map nV), .none]

noncomputable def pget {β : Type} (d : List (Nat × β)) (n : Nat) : Option β := (d.find? fun p => p.1 = n).map (·.2)
noncomputable def pset {β : Type} (d : List (Nat × β)) (n : Nat) (v : β) : List (Nat × β) := if d.any (fun p => p.1 = n) then d.map (fun p => if p.1 = n then (p.1, v) else p) else d ++ [(n, v)]
noncomputable def dM {β : Type} (f : β → Vl) (d : List (Nat × β)) : List (Int × Vl) := d.map fun p => ((p.1 : Int), f p.2)
theorem dget_dM {β : Type} (f : β → Vl) (d : List (Nat × β)) (n : Nat) : dget (dM f d) (n : Int) = (pget d n).map f := by
  unfold dget dM pget
  rw [List.find?_map]
  induction d with
  | nil => rfl
  | cons p r ih =>
    simp only [List.find?_cons, Function.comp]
    by_cases q : p.1 = n
    · simp [q]
    · have : ¬ ((p.1 : Int) = (n : Int)) := by (first | lia | omega)
      simp [q, this]
      simpa using ih
theorem dset_dM {β : Type} (f : β → Vl) (d : List (Nat × β)) (n : Nat) (v : β) : dset (dM f d) (n : Int) (f v) = dM f (pset d n v) := by
  unfold dset dM pset
  have e : (d.map fun p => ((p.1 : Int), f p.2)).any (fun p => p.1 = (n : Int)) = d.any (fun p => p.1 = n) := by
    rw [List.any_map]; congr 1; funext p; simp only [Function.comp]; congr 1; simp; constructor <;> intro h <;> (first | lia | omega)
  rw [e]
  split
  · rw [List.map_map, List.map_map]
    refine List.map_congr_left fun p _ => ?_
    simp only [Function.comp]
    by_cases q : p.1 = n
    · simp [q]
    · have : ¬ ((p.1 : Int) = (n : Int)) := by (first | lia | omega)
      simp [q, this]
  · simp
theorem dM_length {β : Type} (f : β → Vl) (d : List (Nat × β)) : (dM f d).length = d.length := by simp [dM]
theorem pget_pset {β : Type} (d : List (Nat × β)) (n : Nat) (v : β) (m : Nat) : pget (pset d n v) m = if m = n then some v else pget d m := by
  unfold pget pset
  split
  · rename_i h
    induction d with
    | nil => simp at h
    | cons p r ih =>
      by_cases q : p.1 = n
      · by_cases z : m = n
        · simp [q, z]
        · have z' : ¬ n = m := fun e => z e.symm
          simp only [List.map_cons, q, if_true, List.find?_cons, z', decide_false, z, if_false]
          by_cases h' : (r.any fun p => decide (p.1 = n)) = true
          · have := ih h'; rw [if_neg z] at this; exact this
          · congr 2
            refine (List.map_congr_left (g := id) fun p hp => ?_).trans (List.map_id _)
            rw [if_neg]; rfl
            intro e; exact h' (List.any_eq_true.mpr ⟨p, hp, by simp [e]⟩)
      · have h' : (r.any fun p => decide (p.1 = n)) = true := by simpa [q] using h
        have := ih h'
        by_cases z : p.1 = m
        · have zn : ¬ m = n := fun e => q (z.trans e)
          simp [q, z, zn]
        · simp [q, z] at this ⊢
          exact this
  · rename_i h
    rw [List.find?_append]
    by_cases z : m = n
    · subst z
      have : d.find? (fun p => decide (p.1 = m)) = none := List.find?_eq_none.mpr fun p hp e => h (List.any_eq_true.mpr ⟨p, hp, e⟩)
      simp [this]
    · have z' : ¬ n = m := fun e => z e.symm
      simp [z, z']
theorem pset_length {β : Type} (d : List (Nat × β)) (n : Nat) (v : β) : (pset d n v).length ≤ d.length + 1 := by
  unfold pset; split <;> simp

structure NA where
  (x dx li lo lc i1 o1 : Addr)
structure NetAt (σ : Ld) (a : NA) (nm inm onm : Str) (cnt : Nat) (ins outs : List Nat) (cs : List Cel) : Prop where
  h0 : (a.x, Ob.inst 134 a.dx [("name", .str nm), ("count", nV cnt), ("inputs", .ref a.li), ("outputs", .ref a.lo), ("cells", .ref a.lc)]) ∈ σ
  h1 : (a.li, Ob.list [.tup [.str inm, .ref a.i1]]) ∈ σ
  h2 : (a.i1, Ob.list (ins.map nV)) ∈ σ
  h3 : (a.lo, Ob.list [.tup [.str onm, .ref a.o1]]) ∈ σ
  h4 : (a.o1, Ob.list (outs.map nV)) ∈ σ
  h5 : (a.lc, Ob.list (cs.map cellV)) ∈ σ
theorem NetAt.tail {σ a nm inm onm cnt ins outs cs p} (h : NetAt σ a nm inm onm cnt ins outs cs) : NetAt (p :: σ) a nm inm onm cnt ins outs cs :=
  ⟨.tail _ h.h0, .tail _ h.h1, .tail _ h.h2, .tail _ h.h3, .tail _ h.h4, .tail _ h.h5⟩

noncomputable def U (cs : List Cel) (outs : List Nat) : List Nat := cs.flatMap (·.ins) ++ outs
/-- a dict that counts a list -/
noncomputable def Cnt (d : List (Nat × Nat)) (l : List Nat) : Prop := d.length ≤ l.length ∧ ∀ n, pget d n = if l.count n = 0 then none else some (l.count n)
theorem Cnt.nil : Cnt [] [] := ⟨Nat.le_refl _, fun n => rfl⟩
theorem Cnt.step {d l n} (h : Cnt d l) : Cnt (pset d n ((pget d n).getD 0 + 1)) (l ++ [n]) := by
  refine ⟨by have := pset_length d n ((pget d n).getD 0 + 1); have := h.1; simp; (first | lia | omega), fun m => ?_⟩
  rw [pget_pset]
  split
  · rename_i e; subst e
    rw [h.2 m]
    split <;> rename_i z <;> simp [z]
  · rename_i e
    rw [h.2 m]
    have : List.count m [n] = 0 := by simp [List.count_eq_zero]; exact e
    simp [this]
theorem dget_getD (d : List (Nat × Nat)) (n m : Nat) : (dget (dM nV d) (n : Int)).getD (.int (m : Int)) = nV ((pget d n).getD m) := by
  rw [dget_dM]; cases pget d n <;> rfl
theorem t3_dict_setN {C : Cx} {k : Nat} {σ σ' : Ld} {β : Type} {f : β → Vl} {a : Addr} {d : List (Nat × β)} {n : Nat} {v : β} {x : Vl} {Q : Ld → Prop} (e : x = f v) (u : Upd a (.idict (dM f d)) (.idict (dM f (pset d n v))) σ σ') (hl : d.length ≤ 1000000) (h : Q σ') : TU3 C k setItem (.ref a) (.int (n : Int)) x σ Q := by
  subst e
  rw [← dset_dM] at u
  exact t3_dict_set u (by rw [dM_length]; exact hl) h
noncomputable def Ar (c : Cel) : Prop := match c.k with
  | .mux => ∃ s a b, c.ins = [s, a, b]
  | .inv => ∃ a, c.ins = [a]
  | .and => ∃ a b, c.ins = [a, b]
noncomputable def b2i (b : Bool) : Int := if b then 1 else 0
noncomputable abbrev pV (p : Nat × Bool) : Vl := .tup [nV p.1, .int (b2i p.2)]
noncomputable def isInv : Kd → Bool
  | .inv => true
  | _ => false
noncomputable def isMux : Kd → Bool
  | .mux => true
  | _ => false
theorem kindS_not (k : Kd) : (kindS k == ("not" : Str)) = isInv k := by cases k <;> decide
theorem kindS_mux (k : Kd) : (kindS k == ("mux" : Str)) = isMux k := by cases k <;> decide
theorem kindS_nmux (k : Kd) : (kindS k != ("mux" : Str)) = !isMux k := by cases k <;> decide
theorem kindS_state (k : Kd) : (kindS k == ("flop" : Str) || kindS k == ("latch" : Str)) = false := by cases k <;> decide
noncomputable def invStep (d : List (Nat × Nat)) (c : Cel) : List (Nat × Nat) := if isInv c.k then pset d c.out (c.ins.headD 0) else d
noncomputable def invD (cs : List Cel) : List (Nat × Nat) := cs.foldl invStep []
theorem invD_snoc (cs : List Cel) (c : Cel) : invD (cs ++ [c]) = invStep (invD cs) c := by simp [invD, List.foldl_append]
theorem invD_length (cs : List Cel) : (invD cs).length ≤ cs.length := by
  have : ∀ (cs : List Cel) (d : List (Nat × Nat)), (cs.foldl invStep d).length ≤ d.length + cs.length := by
    intro cs
    induction cs with
    | nil => intro d; simp
    | cons c r ih =>
      intro d
      have := ih (invStep d c)
      have h2 : (invStep d c).length ≤ d.length + 1 := by
        unfold invStep; split
        · exact pset_length _ _ _
        · (first | lia | omega)
      simp only [List.foldl_cons, List.length_cons]; (first | lia | omega)
  simpa [invD] using this cs []
/-- does a known pair say something of the net -/
noncomputable def hit (inv : Nat → Option Nat) (n : Nat) (p : Nat × Bool) : Bool := p.1 == n || inv n == some p.1 || inv p.1 == some n
noncomputable def kb (K : List (Nat × Bool)) (inv : Nat → Option Nat) (n : Nat) : Option Bool :=
  if n = 0 then some false else if n = 1 then some true else (K.find? (hit inv n)).map fun p => if p.1 = n then p.2 else !p.2
noncomputable def kbV : Option Bool → Int
  | none => -1
  | some b => b2i b
noncomputable def kon (K : List (Nat × Bool)) (inv : Nat → Option Nat) (n : Nat) : Nat := match kb K inv n with
  | none => n
  | some b => b.toNat
noncomputable def oI : Option Nat → Int
  | none => -1
  | some n => (n : Int)
theorem dget_getI (d : List (Nat × Nat)) (n : Nat) : (dget (dM nV d) (n : Int)).getD (.int (-1)) = .int (oI (pget d n)) := by
  rw [dget_dM]; cases pget d n <;> rfl
theorem oI_eq (o : Option Nat) (m : Nat) : (oI o == (m : Int)) = (o == some m) := by
  cases o with
  | none => rw [Bool.eq_iff_iff]; simp [oI]
  | some n => rw [Bool.eq_iff_iff]; simp [oI]; exact Int.ofNat_inj
theorem nat_beq (a b : Nat) : ((a : Int) == (b : Int)) = (a == b) := by rw [Bool.eq_iff_iff, beq_iff_eq, beq_iff_eq]; exact Int.ofNat_inj
theorem nat_bne (a b : Nat) : ((a : Int) != (b : Int)) = (a != b) := by simp only [bne, nat_beq]
theorem nat_beq0 (a : Nat) : ((a : Int) == 0) = (a == 0) := nat_beq a 0
theorem nat_beq1 (a : Nat) : ((a : Int) == 1) = (a == 1) := nat_beq a 1
theorem dget_get0 (d : List (Nat × Nat)) (n : Nat) : (dget (dM nV d) (n : Int)).getD (.int 0) = nV ((pget d n).getD 0) := dget_getD d n 0
/-- what holds in the course of Kahn's loop: s nodes taken up, rest the uses still to be counted off -/
structure Kh (N : Nat) (dp : Nat → List Nat) (s : Nat) (wt : Nat → Nat) (R rest : List Nat) : Prop where
  nd : R.Nodup
  lt : ∀ j ∈ R, j < N
  sl : s ≤ R.length
  we : ∀ j, j < N → wt j = ((dp j).filter (fun d => !(R.take s).contains d)).length + rest.count j
  rd : ∀ j, j < N → (j ∈ R ↔ wt j = 0)
  tp : ∀ p j, R[p]? = some j → ∀ d ∈ dp j, d ∈ R.take p
  rl : ∀ j ∈ rest, j < N

theorem filter_split (l : List Nat) (P : List Nat) (b : Nat) (hb : b ∉ P) : (l.filter (fun d => !P.contains d)).length = (l.filter (fun d => !(P ++ [b]).contains d)).length + l.count b := by
  induction l with
  | nil => rfl
  | cons x l ih =>
    by_cases hx : x = b
    · subst hx
      have h1 : (!P.contains x) = true := by simpa using hb
      have h2 : (!(P ++ [x]).contains x) = false := by simp
      simp only [List.filter_cons, h1, h2, if_true, Bool.false_eq_true, if_false, List.count_cons_self, List.length_cons, ih]
      (first | lia | omega)
    · have h2 : (!(P ++ [b]).contains x) = !P.contains x := by
        simp [hx]
      have h3 : List.count b (x :: l) = List.count b l := List.count_cons_of_ne (fun e => hx e)
      simp only [List.filter_cons, h2, h3]
      split
      · simp only [List.length_cons, ih]; (first | lia | omega)
      · exact ih

theorem take_snoc_get {l : List Nat} {t b : Nat} (h : l[t]? = some b) : l.take (t + 1) = l.take t ++ [b] := by
  rw [List.take_add_one, h]; rfl
theorem not_mem_take {l : List Nat} {t b : Nat} (nd : l.Nodup) (h : l[t]? = some b) : b ∉ l.take t := by
  intro hm
  obtain ⟨i, hi⟩ := List.mem_iff_getElem?.mp hm
  rw [List.getElem?_take] at hi
  split at hi
  · rename_i hlt
    obtain ⟨h1, e1⟩ := List.getElem?_eq_some_iff.mp hi
    obtain ⟨h2, e2⟩ := List.getElem?_eq_some_iff.mp h
    have := (List.nodup_iff_pairwise_ne.mp nd)
    have := List.pairwise_iff_getElem.mp this i t h1 h2 hlt
    exact this (e1.trans e2.symm)
  · cases hi

theorem Kh.turn {N dp t wt R b us} (h : Kh N dp t wt R []) (hb : R[t]? = some b) (hc : ∀ j, j < N → us.count j = (dp j).count b) (hu : ∀ j ∈ us, j < N) : Kh N dp (t + 1) wt R us := by
  have hlt : t < R.length := (List.getElem?_eq_some_iff.mp hb).1
  refine ⟨h.nd, h.lt, hlt, fun j hj => ?_, h.rd, h.tp, hu⟩
  rw [h.we j hj, take_snoc_get hb, filter_split _ _ _ (not_mem_take h.nd hb), hc j hj]
  simp

theorem Kh.step {N dp s wt R j0 rest} (h : Kh N dp s wt R (j0 :: rest)) (wt' : Nat → Nat) (hw : ∀ j, wt' j = if j = j0 then wt j0 - 1 else wt j) :
    1 ≤ wt j0 ∧ (wt' j0 = 0 → Kh N dp s wt' (R ++ [j0]) rest) ∧ (wt' j0 ≠ 0 → Kh N dp s wt' R rest) := by
  have h0 : j0 < N := h.rl j0 (List.mem_cons_self ..)
  have e0 := h.we j0 h0
  rw [List.count_cons_self] at e0
  have hn0 : j0 ∉ R := fun q => by have := (h.rd j0 h0).mp q; (first | lia | omega)
  have hW : ∀ j, j < N → wt' j = ((dp j).filter (fun d => !(R.take s).contains d)).length + rest.count j := fun j hj => by
    rw [hw j]
    split
    · rename_i e; subst e; (first | lia | omega)
    · rename_i e; rw [h.we j hj, List.count_cons_of_ne (fun z => e z.symm)]
  refine ⟨by (first | lia | omega), fun z => ?_, fun z => ?_⟩
  · refine ⟨?_, fun j hj => ?_, by have := h.sl; simp; (first | lia | omega), fun j hj => ?_, fun j hj => ?_, fun p j hp d hd => ?_, fun j hj => h.rl j (.tail _ hj)⟩
    · exact List.nodup_append.mpr ⟨h.nd, by simp, fun a ha b hb e => by simp at hb; subst hb; subst e; exact hn0 ha⟩
    · rcases List.mem_append.mp hj with q | q
      · exact h.lt j q
      · simp at q; subst q; exact h0
    · rw [List.take_append_of_le_length h.sl]; exact hW j hj
    · rw [hw j]
      split
      · rename_i e; subst e; constructor
        · intro _; rw [hw] at z; simpa using z
        · intro _; simp
      · rename_i e; rw [← h.rd j hj]; simp [e]
    · by_cases hpl : p < R.length
      · rw [List.getElem?_append_left hpl] at hp
        rw [List.take_append_of_le_length (Nat.le_of_lt hpl)]
        exact h.tp p j hp d hd
      · rw [List.getElem?_append_right (by (first | lia | omega))] at hp
        have : p - R.length = 0 := by
          obtain ⟨q, _⟩ := List.getElem?_eq_some_iff.mp hp
          simp at q; (first | lia | omega)
        rw [this] at hp
        simp at hp; subst hp
        have hpe : p = R.length := by (first | lia | omega)
        subst hpe
        rw [List.take_append_of_le_length (Nat.le_refl _), List.take_length]
        have e := hW j0 h0
        rw [z] at e
        have e1 : (dp j0).filter (fun d => !(R.take s).contains d) = [] := List.length_eq_zero_iff.mp (by (first | lia | omega))
        have := List.filter_eq_nil_iff.mp e1 d hd
        simp only [Bool.not_eq_true', Bool.not_eq_false, List.contains_iff_mem] at this
        exact List.mem_of_mem_take this
  · refine ⟨h.nd, h.lt, h.sl, hW, fun j hj => ?_, h.tp, fun j hj => h.rl j (.tail _ hj)⟩
    rw [hw j]
    split
    · rename_i e; subst e
      rw [hw] at z
      simp at z
      constructor
      · intro q; exact absurd q hn0
      · intro q; exact absurd q z
    · exact h.rd j hj

/-- a topological order of the nodes below N -/
noncomputable def TopO (N : Nat) (dp : Nat → List Nat) (R : List Nat) : Prop := R.Perm (List.range N) ∧ ∀ p j, R[p]? = some j → ∀ d ∈ dp j, d ∈ R.take p

theorem Kh.fin {N dp wt R} (h : Kh N dp R.length wt R []) (hd : ∀ j, j < N → ∀ d ∈ dp j, d < j) : TopO N dp R := by
  refine ⟨?_, h.tp⟩
  have all : ∀ j, j < N → j ∈ R := by
    intro j
    induction j using Nat.strongRecOn with
    | ind j ih =>
      intro hj
      rw [h.rd j hj, h.we j hj, List.take_length]
      simp only [List.count_nil, Nat.add_zero]
      rw [List.length_eq_zero_iff, List.filter_eq_nil_iff]
      intro d hdm
      have := hd j hj d hdm
      have := ih d this (by (first | lia | omega))
      simpa using this
  exact (List.perm_ext_iff_of_nodup h.nd List.nodup_range).mpr fun j => ⟨fun q => List.mem_range.mpr (h.lt j q), fun q => all j (List.mem_range.mp q)⟩
theorem Kh.le {N dp s wt R rest} (h : Kh N dp s wt R rest) : R.length ≤ N := by
  have := h.nd.length_le_of_subset (l₂ := List.range N) fun j hj => List.mem_range.mpr (h.lt j hj)
  simpa using this

theorem Kh.start {N : Nat} {dp : Nat → List Nat} {R : List Nat} (hR : R.Nodup) (hm : ∀ j, j ∈ R ↔ j < N ∧ dp j = []) : Kh N dp 0 (fun j => (dp j).length) R [] := by
  refine ⟨hR, fun j hj => ((hm j).mp hj).1, Nat.zero_le _, fun j hj => ?_, fun j hj => ?_, fun p j hp d hd => ?_, fun _ h => by cases h⟩
  · have e : (dp j).filter (fun d => !(R.take 0).contains d) = dp j := List.filter_eq_self.mpr (by simp)
    rw [e]; simp
  · rw [hm j, List.length_eq_zero_iff]; simp [hj]
  · have := ((hm j).mp (List.mem_of_getElem? hp)).2
    rw [this] at hd; cases hd
theorem t2_list_itemN {C : Cx} {k : Nat} {σ : Ld} {value slice : Expr} {β : Type} {f : β → Vl} {a : Addr} {l : List β} {j : Nat} {c : β} {Q : Vl → Ld → Prop} (hm : (a, Ob.list (l.map f)) ∈ σ) (hc : l[j]? = some c) (hl : l.length ≤ 1000000) (h : Q (f c) σ) (hs : NoSl slice := by intro _ _; with_unfolding_all rfl) : T2 C k (subscriptTail value slice) (.ref a) (.int (j : Int)) σ Q :=
  t2_list_item hm (Int.natCast_nonneg _) (by rw [Int.toNat_natCast, List.getElem?_map, hc]; rfl) (by rw [List.length_map]; exact hl) h hs
theorem range'_cons {x : Nat} {l : List Nat} {i m : Nat} (h : x :: l = List.range' i m) : x = i ∧ ∃ m', m = m' + 1 ∧ l = List.range' (i + 1) m' := by
  cases m with
  | zero => cases h
  | succ m => rw [List.range'_succ] at h; cases h; exact ⟨rfl, m, rfl, rfl⟩
theorem range'_nil {i m : Nat} (h : [] = List.range' i m) : m = 0 := by
  cases m with
  | zero => rfl
  | succ m => rw [List.range'_succ] at h; cases h
theorem rangeV_map (i n : Nat) : rangeV i n = (List.range' i n).map nV := rfl
structure WF (w : Nat) (cs : List Cel) : Prop where
  outs : ∀ i c, cs[i]? = some c → c.out = 2 + w + i
  ar : ∀ c ∈ cs, Ar c
  low : ∀ c ∈ cs, ∀ n ∈ c.ins, n < c.out
noncomputable def unitV (_ : Unit) : Vl := .bool true
noncomputable def Tk (t : List (Nat × Unit)) (m : Nat) : Prop := t.length ≤ m ∧ ∀ n, (pget t n).isSome = decide (n < m)
theorem Tk.step {t m} (h : Tk t m) : Tk (pset t m ()) (m + 1) := ⟨by have := pset_length t m (); have := h.1; (first | lia | omega), fun n => by
  rw [pget_pset]
  split
  · rename_i e; subst e; simp
  · rename_i e; rw [h.2 n]; simp; (first | lia | omega)⟩
theorem dget_isSome {β : Type} (f : β → Vl) (d : List (Nat × β)) (n : Nat) : (dget (dM f d) (n : Int)).isSome = (pget d n).isSome := by rw [dget_dM]; cases pget d n <;> rfl
noncomputable def Dv (w : Nat) (i : Nat) (d : List (Nat × Nat)) : Prop := d.length ≤ i ∧ ∀ n, pget d n = if 2 + w ≤ n ∧ n < 2 + w + i then some (n - (2 + w)) else none
theorem Dv.step {w i d} (h : Dv w i d) : Dv w (i + 1) (pset d (2 + w + i) i) := ⟨by have := pset_length d (2 + w + i) i; have := h.1; (first | lia | omega), fun n => by
  rw [pget_pset]
  split
  · rename_i e; subst e; rw [if_pos (by (first | lia | omega))]; congr 1; (first | lia | omega)
  · rename_i e; rw [h.2 n]
    by_cases q : 2 + w ≤ n ∧ n < 2 + w + i
    · rw [if_pos q, if_pos (by (first | lia | omega))]
    · rw [if_neg q, if_neg (by (first | lia | omega))]⟩
noncomputable abbrev LU := List (Nat × (Addr × List Nat))
noncomputable def grp (L : LU) : Ld := L.map fun t => (t.2.1, .list (t.2.2.map nV))
noncomputable def us (L : LU) (b : Nat) : List Nat := ((pget L b).map (·.2)).getD []
theorem pget_nil {β : Type} (n : Nat) : pget ([] : List (Nat × β)) n = none := rfl
theorem pget_cons {β : Type} (p : Nat × β) (d : List (Nat × β)) (n : Nat) : pget (p :: d) n = if p.1 = n then some p.2 else pget d n := by
  unfold pget; rw [List.find?_cons]
  by_cases q : p.1 = n <;> simp [q]
theorem pget_none {β : Type} {d : List (Nat × β)} {n : Nat} : pget d n = none ↔ n ∉ d.map (·.1) := by
  induction d with
  | nil => simp [pget_nil]
  | cons p r ih =>
    rw [pget_cons]
    by_cases q : p.1 = n
    · simp [q]
    · rw [if_neg q, ih]; simp; intro _; exact fun e => q e.symm
theorem pset_none {β : Type} {d : List (Nat × β)} {n : Nat} {v : β} (h : pget d n = none) : pset d n v = d ++ [(n, v)] := by
  unfold pset
  rw [if_neg]
  intro e
  obtain ⟨p, hp, q⟩ := List.any_eq_true.mp e
  exact pget_none.mp h (List.mem_map.mpr ⟨p, hp, by simpa using q⟩)
theorem pset_keys {β : Type} {d : List (Nat × β)} {n : Nat} {v w : β} (h : pget d n = some w) : (pset d n v).map (·.1) = d.map (·.1) := by
  unfold pset
  rw [if_pos]
  · rw [List.map_map]
    refine List.map_congr_left fun p _ => ?_
    simp only [Function.comp]; split <;> rfl
  · unfold pget at h
    cases q : d.find? (fun p => p.1 = n) with
    | none => rw [q] at h; cases h
    | some p => exact List.any_eq_true.mpr ⟨p, List.mem_of_find?_eq_some q, by have := List.find?_some q; simpa using this⟩
theorem pset_len {β : Type} {d : List (Nat × β)} {n : Nat} {v w : β} (h : pget d n = some w) : (pset d n v).length = d.length := by
  have := congrArg List.length (pset_keys (v := v) h); simpa using this
theorem pset_cons_eq {β : Type} {d : List (Nat × β)} {n : Nat} {v w : β} (h : n ∉ d.map (·.1)) : pset ((n, w) :: d) n v = (n, v) :: d := by
  unfold pset
  rw [if_pos (by simp)]
  simp only [List.map_cons, if_true, List.cons.injEq, true_and]
  refine (List.map_congr_left (g := id) fun p hp => ?_).trans (List.map_id _)
  rw [if_neg]; rfl
  intro e; exact h (List.mem_map.mpr ⟨p, hp, e⟩)
theorem pset_cons_ne {β : Type} {d : List (Nat × β)} {m n : Nat} {v w u : β} (hne : m ≠ n) (h : pget d n = some u) : pset ((m, w) :: d) n v = (m, w) :: pset d n v := by
  have hany : d.any (fun p => decide (p.1 = n)) = true := by
    unfold pget at h
    cases q : d.find? (fun p => p.1 = n) with
    | none => rw [q] at h; cases h
    | some p => exact List.any_eq_true.mpr ⟨p, List.mem_of_find?_eq_some q, by have := List.find?_some q; simpa using this⟩
  unfold pset
  rw [if_pos (by simp [hany]), if_pos hany]
  simp [hne]
theorem upd_grp {σ : Ld} {b : Nat} {a : Addr} {l : List Nat} {x : Nat} : ∀ {L : LU}, (L.map (·.1)).Nodup → pget L b = some (a, l) → Upd a (.list (l.map nV)) (.list (l.map nV ++ [nV x])) (grp L ++ σ) (grp (pset L b (a, l ++ [x])) ++ σ)
  | [], _, h => by cases h
  | (m, t) :: L, nd, h => by
    have nd' := List.nodup_cons.mp (show (m :: L.map (·.1)).Nodup from nd)
    rw [pget_cons] at h
    by_cases q : m = b
    · subst q
      rw [if_pos rfl] at h
      cases h
      rw [pset_cons_eq nd'.1]
      have : l.map nV ++ [nV x] = (l ++ [x]).map nV := by simp
      rw [this]
      exact Upd.head
    · rw [if_neg q] at h
      rw [pset_cons_ne q h]
      exact Upd.tail (upd_grp nd'.2 h)
theorem mem_grp {σ : Ld} {b : Nat} {a : Addr} {l : List Nat} {L : LU} (h : pget L b = some (a, l)) : (a, Ob.list (l.map nV)) ∈ grp L ++ σ := by
  unfold pget at h
  cases q : L.find? (fun p => p.1 = b) with
  | none => rw [q] at h; cases h
  | some p =>
    rw [q] at h
    obtain ⟨m, t⟩ := p
    cases h
    exact List.mem_append_left _ (List.mem_map.mpr ⟨_, List.mem_of_find?_eq_some q, rfl⟩)
/-- the users of each node, told by counts -/
structure Us (N i : Nat) (dp : Nat → List Nat) (ex : List Nat) (B : Nat) (u : List (Nat × Addr)) (L : LU) : Prop where
  len : u.length = L.length
  eq : ∀ b, pget u b = (pget L b).map (·.1)
  nd : (L.map (·.1)).Nodup
  lt : ∀ b ∈ L.map (·.1), b < N
  ct : ∀ b j, (us L b).count j = if j < i then (dp j).count b else if j = i then ex.count b else 0
  bd : ∀ b, (us L b).length ≤ B
theorem Us.le {N i dp ex B u L} (h : Us N i dp ex B u L) : u.length ≤ N := by
  rw [h.len]
  have := h.nd.length_le_of_subset (l₂ := List.range N) fun j hj => List.mem_range.mpr (h.lt j hj)
  simpa using this
theorem us_pset {L : LU} {b : Nat} {a : Addr} {l : List Nat} {b' : Nat} : us (pset L b (a, l)) b' = if b' = b then l else us L b' := by
  unfold us; rw [pget_pset]; split <;> rfl
theorem Us.add {N i dp ex B u L b a l} (h : Us N i dp ex B u L) (hb : pget L b = some (a, l)) : Us N i dp (ex ++ [b]) (B + 1) u (pset L b (a, l ++ [i])) := by
  have hl : us L b = l := by unfold us; rw [hb]; rfl
  refine ⟨by rw [pset_len hb]; exact h.len, fun b' => ?_, by rw [pset_keys hb]; exact h.nd, by rw [pset_keys hb]; exact h.lt, fun b' j => ?_, fun b' => ?_⟩
  · rw [h.eq, pget_pset]
    split
    · rename_i e; subst e; rw [hb]; rfl
    · rfl
  · rw [us_pset]
    have := h.ct b' j
    by_cases q : b' = b
    · subst q
      rw [if_pos rfl, List.count_append, ← hl, this, List.count_append]
      by_cases z : j < i
      · have : List.count j [i] = 0 := by rw [List.count_eq_zero]; simp; (first | lia | omega)
        simp [z, this]
      · by_cases z2 : j = i
        · subst z2; simp
        · have : List.count j [i] = 0 := by rw [List.count_eq_zero]; simpa using z2
          simp [z, z2, this]
    · rw [if_neg q, this, List.count_append]
      have : List.count b' [b] = 0 := by rw [List.count_eq_zero]; simpa using q
      simp [this]
  · rw [us_pset]
    split
    · have := h.bd b; rw [hl] at this; simp; exact this
    · have := h.bd b'; (first | lia | omega)
theorem Us.new {N i dp ex B u L b D} (h : Us N i dp ex B u L) (hb : pget L b = none) (hN : b < N) : Us N i dp ex B (pset u b D) ((b, (D, [])) :: L) := by
  have hu : pget u b = none := by rw [h.eq, hb]; rfl
  have e : ∀ b', us ((b, (D, [])) :: L) b' = us L b' := fun b' => by
    unfold us; rw [pget_cons]
    split
    · rename_i q
      have : b = b' := q
      subst this; rw [hb]; rfl
    · rfl
  refine ⟨by rw [pset_none hu]; simp [h.len], fun b' => ?_, ?_, fun x hx => ?_, fun b' j => by rw [e]; exact h.ct b' j, fun b' => by rw [e]; exact h.bd b'⟩
  · rw [pget_pset, pget_cons, h.eq]
    by_cases q : b' = b
    · subst q; simp
    · have q' : ¬ b = b' := fun e => q e.symm
      simp [q, q']
  · exact List.nodup_cons.mpr ⟨pget_none.mp hb, h.nd⟩
  · rcases List.mem_cons.mp hx with rfl | q
    · exact hN
    · exact h.lt x q
theorem Us.next {N i dp ex B u L} (h : Us N i dp ex B u L) (e : ex = dp i) : Us N (i + 1) dp [] B u L := ⟨h.len, h.eq, h.nd, h.lt, fun b j => by
  rw [h.ct b j]
  by_cases z : j < i
  · simp [z, Nat.lt_succ_of_lt z]
  · by_cases z2 : j = i
    · subst z2; simp [e]
    · have : ¬ j < i + 1 := by (first | lia | omega)
      simp [z, z2, this], h.bd⟩
theorem Us.weak {N i dp ex B B' u L} (h : Us N i dp ex B u L) (e : B ≤ B') : Us N i dp ex B' u L := ⟨h.len, h.eq, h.nd, h.lt, h.ct, fun b => Nat.le_trans (h.bd b) e⟩
/-- the cells that the ins come from -/
noncomputable def dpc (w : Nat) (ins : List Nat) : List Nat := (ins.filter (fun n => 2 + w ≤ n)).map (· - (2 + w))
noncomputable def dpf (w : Nat) (cs : List Cel) (i : Nat) : List Nat := match cs[i]? with
  | some c => dpc w c.ins
  | none => []
theorem dpf_get {w : Nat} {cs : List Cel} {i : Nat} (h : i < cs.length) : dpf w cs i = dpc w cs[i].ins := by unfold dpf; rw [List.getElem?_eq_getElem h]
theorem dpc_snoc_lo {w n : Nat} {l : List Nat} (h : ¬ 2 + w ≤ n) : dpc w (l ++ [n]) = dpc w l := by
  unfold dpc; rw [List.filter_append]; simp [h]
theorem dpc_snoc_hi {w n : Nat} {l : List Nat} (h : 2 + w ≤ n) : dpc w (l ++ [n]) = dpc w l ++ [n - (2 + w)] := by
  unfold dpc; rw [List.filter_append]; simp [h]
theorem WF.dep {w cs} (W : WF w cs) : ∀ j, j < cs.length → ∀ d ∈ dpf w cs j, d < j := by
  intro j hj d hd
  rw [dpf_get hj] at hd
  obtain ⟨n, hn, rfl⟩ := List.mem_map.mp hd
  obtain ⟨hn, hge⟩ := List.mem_filter.mp hn
  have := W.low _ (List.getElem_mem hj) n hn
  have := W.outs j _ (List.getElem?_eq_getElem hj)
  simp at hge
  (first | lia | omega)
theorem Ar.len {c : Cel} (h : Ar c) : c.ins.length ≤ 3 := by
  unfold Ar at h
  split at h
  · obtain ⟨s, a, b, e⟩ := h; simp [e]
  · obtain ⟨a, e⟩ := h; simp [e]
  · obtain ⟨a, b, e⟩ := h; simp [e]
structure O1 where
  W : List (Nat × Nat)
  u : List (Nat × Addr)
  L : LU
  R : List Nat
structure P1 (N i : Nat) (dp : Nat → List Nat) (b : O1) : Prop where
  wl : b.W.length ≤ i
  we : ∀ j, pget b.W j = if j < i then some (dp j).length else none
  us : Us N i dp [] (3 * i) b.u b.L
  nd : b.R.Nodup
  rd : ∀ j, j ∈ b.R ↔ j < i ∧ dp j = []
theorem P1.zero {N dp} : P1 N 0 dp ⟨[], [], [], []⟩ := ⟨Nat.le_refl _, fun j => by simp [pget_nil], ⟨rfl, fun _ => rfl, .nil, fun b hb => (by cases hb), fun b j => by simp [Mine.us, pget_nil], fun b => by simp [Mine.us, pget_nil]⟩, .nil, fun j => by simp⟩
theorem P1.next {N i dp W u L R} (h : P1 N i dp ⟨W, u, L, R⟩) {u' L'} (hu : Us N i dp (dp i) (3 * i + 3) u' L') {R'} (hR : R' = if (dp i).length = 0 then R ++ [i] else R) : P1 N (i + 1) dp ⟨pset W i (dp i).length, u', L', R'⟩ := by
  refine ⟨?_, fun j => ?_, (hu.weak (by (first | lia | omega))).next rfl, ?_, fun j => ?_⟩
  · have := pset_length W i (dp i).length; have := h.wl; dsimp only at *; (first | lia | omega)
  · dsimp only
    have := h.we j
    dsimp only at this
    rw [pget_pset]
    by_cases q : j = i
    · subst q; simp
    · rw [if_neg q, this]
      by_cases z : j < i
      · rw [if_pos z, if_pos (by (first | lia | omega))]
      · rw [if_neg z, if_neg (by (first | lia | omega))]
  · dsimp only
    rw [hR]
    have := h.nd
    split
    · refine List.nodup_append.mpr ⟨this, by simp, fun x hx y hy e => ?_⟩
      simp at hy; subst hy; subst e
      have := ((h.rd x).mp hx).1; (first | lia | omega)
    · exact this
  · dsimp only
    have hr := h.rd j
    dsimp only at hr
    rw [hR]
    split
    · rename_i z
      rw [List.mem_append, hr]
      rw [List.length_eq_zero_iff] at z
      constructor
      · rintro (⟨a, b⟩ | q)
        · exact ⟨by (first | lia | omega), b⟩
        · simp at q; subst q; exact ⟨by (first | lia | omega), z⟩
      · rintro ⟨a, b⟩
        by_cases q : j = i
        · subst q; simp
        · exact .inl ⟨by (first | lia | omega), b⟩
    · rename_i z
      rw [hr]
      constructor
      · rintro ⟨a, b⟩; exact ⟨by (first | lia | omega), b⟩
      · rintro ⟨a, b⟩
        by_cases q : j = i
        · subst q; rw [b] at z; exact absurd rfl z
        · exact ⟨by (first | lia | omega), b⟩
theorem dget_ref (d : List (Nat × Addr)) (n : Nat) (D : Addr) : (dget (dM Vl.ref d) (n : Int)).getD (.ref D) = .ref ((pget d n).getD D) := by
  rw [dget_dM]; cases pget d n <;> rfl
theorem nat_ge0 (n : Nat) : decide ((0 : Int) ≤ (n : Int)) = true := decide_eq_true (Int.natCast_nonneg _)
theorem nat_lt (a b : Nat) : decide ((a : Int) < (b : Int)) = decide (a < b) := by rw [decide_eq_decide]; (first | lia | omega)
theorem ex_for_none {C : Cx} {k : Nat} {sc : Scope} {Γ : Gm} {σ : Ld} {target iter body pos Q} (h : IE C k sc iter Γ σ (fun need items σ₁ => items = [] ∧ need σ₁ ∧ Q .next Γ σ₁))
    (hs : foldedSetIterable iter = fun _ x => pure x := by rfl) : EX1 C k sc (.For target iter body [] pos) Γ σ Q := by
  refine ex_for (fun env A s he hA hst => ne_mono (h env A s he hA hst) fun x s₁ h₁ => ne_mono h₁ ?_) hs
  rintro it s₂ ⟨I, st, need, items, σ₁, rfl, W, hst, hI, hIσ, t, rfl, n1, q⟩
  refine ⟨I, st, need, _, σ₁, rfl, W, hst, hI, hIσ, t, fun l Γ' σ' => l = [] ∧ need σ' ∧ Q .next Γ' σ', ⟨rfl, n1, q⟩, ?_, fun _ _ z => z.2⟩
  rintro y l Γ' σ' ⟨e, _⟩
  cases e
structure PS where
  cells : List Cel
  R : List (Nat × Nat)
  X : Nat → List (Nat × Bool)
noncomputable def putX (X : Nat → List (Nat × Bool)) (c : Nat) (l : List (Nat × Bool)) : Nat → List (Nat × Bool) := fun n => if n = c then l else X n
noncomputable def pkKnown (u : List Nat) (inv : Nat → Option Nat) (st : PS) (out : Nat) (ch : Nat) : PS :=
  ⟨st.cells, pset st.R out (kon (st.X out) inv ch), if u.count ch = 1 then putX st.X ch (st.X out) else st.X⟩
noncomputable def pkOpen (u : List Nat) (inv : Nat → Option Nat) (st : PS) (i out s a b : Nat) : PS :=
  let low := st.X out ++ [(s, false)]
  let high := st.X out ++ [(s, true)]
  let X1 := if u.count a = 1 then putX st.X a low else st.X
  ⟨st.cells.set i ⟨.mux, out, [s, kon low inv a, kon high inv b]⟩, st.R, if u.count b = 1 then putX X1 b high else X1⟩
noncomputable def pkStep (cs : List Cel) (u : List Nat) (inv : Nat → Option Nat) (st : PS) (i : Nat) : PS := match cs[i]? with
  | some ⟨.mux, out, [s, a, b]⟩ => match kb (st.X out) inv s with
    | some bit => pkKnown u inv st out (if bit then b else a)
    | none => pkOpen u inv st i out s a b
  | _ => st
noncomputable def pkRun (cs : List Cel) (outs : List Nat) (ord : List Nat) : PS := ord.reverse.foldl (pkStep cs (U cs outs) (pget (invD cs))) ⟨cs, [], fun _ => []⟩
noncomputable abbrev LK := List (Addr × List (Nat × Bool))
noncomputable def grpK (L : LK) : Ld := L.map fun p => (p.1, .list (p.2.map pV))
noncomputable def Rel (cx : List (Nat × Addr)) (L : LK) (X : Nat → List (Nat × Bool)) : Prop := ∀ n, (pget cx n = none ∧ X n = []) ∨ ∃ a, pget cx n = some a ∧ (a, X n) ∈ L
theorem Rel.mono {cx L L' X} (h : Rel cx L X) (k : ∀ p ∈ L, p ∈ L') : Rel cx L' X := fun n => (h n).imp_right fun ⟨a, e, m⟩ => ⟨a, e, k _ m⟩
theorem Rel.put {cx L X c a l} (h : Rel cx L X) (m : (a, l) ∈ L) : Rel (pset cx c a) L (putX X c l) := fun n => by
  rw [pget_pset]; unfold putX
  split
  · exact .inr ⟨a, rfl, m⟩
  · exact h n
theorem mem_grpK {L : LK} {a l} {τ : Ld} (m : (a, l) ∈ L) : (a, Ob.list (l.map pV)) ∈ grpK L ++ τ := List.mem_append_left _ (List.mem_map.mpr ⟨_, m, rfl⟩)
theorem putX_len {X : Nat → List (Nat × Bool)} {p c l} (h : ∀ n, (X n).length ≤ p) (hl : l.length ≤ p) : ∀ n, (putX X c l n).length ≤ p := fun n => by
  unfold putX; split
  · exact hl
  · exact h n
theorem t3_list_setN {C : Cx} {k : Nat} {σ σ' : Ld} {β : Type} {f : β → Vl} {a : Addr} {l : List β} {i : Nat} {v : β} {x : Vl} {Q : Ld → Prop} (hi : i < l.length) (e : x = f v) (u : Upd a (.list (l.map f)) (.list ((l.set i v).map f)) σ σ') (hl : l.length ≤ 1000000) (h : Q σ') : TU3 C k setItem (.ref a) (.int (i : Int)) x σ Q := by
  subst e
  rw [List.map_set] at u
  exact t3_list_set (l := l.map f) (Int.natCast_nonneg _) (by rw [List.length_map]; (first | lia | omega)) (by rw [Int.toNat_natCast]; exact u) (by rw [List.length_map]; exact hl) h
theorem t2_add_known {C : Cx} {k : Nat} {σ : Ld} {a b : Addr} {l : List (Nat × Bool)} {p : Nat × Bool} {x : Vl} {Q : Vl → Ld → Prop} (ha : (a, Ob.list (l.map pV)) ∈ σ) (hb : (b, Ob.list [x]) ∈ σ) (e : x = pV p) (hl : l.length ≤ 1000) (h : ∀ D, Q (.ref D) ((D, .list ((l ++ [p]).map pV)) :: σ)) : T2 C k (binaryOp .Add) (.ref a) (.ref b) σ Q := by
  subst e
  refine t2_add_lists ha hb (by simp; (first | lia | omega)) fun D => ?_
  have := h D
  rw [List.map_append] at this
  exact this
theorem clc_pre {C : Cx} {k : Nat} {σ σ' : Ld} {f vs} {Q : Vl → Ld → Prop} (p : SubP σ' σ) (h : CLc C k f vs σ' Q) : CLc C k f vs σ Q := fun A s rs hA hs hv =>
  codeAny_mono (h A s rs hA (hs.subP p) hv) fun r s' z => by
    cases r with
    | error => exact z
    | ok f => cases f with
      | ret r => obtain ⟨v, σ₁, t, x, q⟩ := z; exact ⟨v, σ₁, t.preP p, x, q⟩
      | _ => exact z
theorem count_of_mem {cs : List Cel} {outs : List Nat} {c : Cel} {n : Nat} (hc : c ∈ cs) (hn : n ∈ c.ins) : (U cs outs).count n ≠ 0 := by
  have : n ∈ U cs outs := List.mem_append_left _ (List.mem_flatMap.mpr ⟨c, hc, hn⟩)
  have := List.count_pos_iff.mpr this
  (first | lia | omega)
noncomputable def ForL (C : Cx) (k : Nat) (sc : Scope) (target : Expr) (body : List Stmt) (Γ : Gm) (Q : Fl → Gm → Ld → Prop) (need : Ld → Prop) (items : List Vl) (σ₁ : Ld) : Prop :=
  ∃ (α β : Type) (f : α → Vl) (P : List α → β → Prop) (G : β → Gm) (S : β → Ld) (xs : List α) (b : β), items = xs.map f ∧ P xs b ∧ Wk Γ (G b) ∧ SubP (S b) σ₁ ∧ (∀ b σ', SubP (S b) σ' → need σ') ∧
      (∀ x l b, P (x :: l) b → AS C k sc target (f x) (G b) (S b) (fun Γ₂ σ₂ => EX C k sc body Γ₂ σ₂ (fun fl Γ₃ σ₃ => match fl with
        | .next => ∃ b', P l b' ∧ Wk Γ₃ (G b') ∧ SubP (S b') σ₃ | .cont => ∃ b', P l b' ∧ Wk Γ₃ (G b') ∧ SubP (S b') σ₃ | .brk => Q .next Γ₃ σ₃ | .ret v => Q (.ret v) Γ₃ σ₃))) ∧
      ∀ b, P [] b → Q .next (G b) (S b)
theorem ex_forL {C : Cx} {k : Nat} {sc : Scope} {Γ : Gm} {σ : Ld} {target iter body pos Q} (h : IE C k sc iter Γ σ (ForL C k sc target body Γ Q))
    (hs : foldedSetIterable iter = fun _ x => pure x := by rfl) : EX1 C k sc (.For target iter body [] pos) Γ σ Q := by
  refine ex_post1 (ex_for (fun env A s he hA hst => ne_mono (h env A s he hA hst) fun x s₁ h₁ => ne_mono h₁ ?_) hs)
  rintro it s₂ ⟨I, st, need, items, σ₁, rfl, W, hst, hI, hIσ, t, α, β, f, P, G, S, xs, b, rfl, p0, w0, s0, hn, step, fin⟩
  refine ⟨I, st, need, _, σ₁, rfl, W, hst, hI, hIσ, t, fun l Γ' σ' => ∃ xs b, l = xs.map f ∧ P xs b ∧ Wk Γ' (G b) ∧ SubP (S b) σ', ⟨xs, b, rfl, p0, w0, s0⟩, ?_, ?_⟩
  · rintro x l Γ' σ' ⟨xs, b, e, p, w, sb⟩
    cases xs with
    | nil => cases e
    | cons a xs =>
      cases e
      refine ⟨hn _ _ sb, as_pre w sb ?_⟩
      intro env A s r he hA hs hv
      refine ne_mono (step a xs b p env A s r he hA hs hv) ?_
      rintro _ s₃ ⟨Γ₂, σ₂, t, q⟩
      refine ⟨Γ₂, σ₂, t, q.imp fun fl Γ₃ σ₃ z => ?_⟩
      cases fl with
      | next => obtain ⟨b', p', w', s'⟩ := z; exact ⟨xs, b', rfl, p', w', s'⟩
      | cont => obtain ⟨b', p', w', s'⟩ := z; exact ⟨xs, b', rfl, p', w', s'⟩
      | brk => exact ⟨Γ₃, σ₃, .refl, .refl, z⟩
      | ret v => exact ⟨Γ₃, σ₃, .refl, .refl, z⟩
  · rintro Γ' σ' ⟨xs, b, e, p, w, sb⟩
    cases xs with
    | cons => cases e
    | nil => exact ⟨hn _ _ sb, _, _, w, sb, fin b p⟩
structure O2 where
  st : PS
  cx : List (Nat × Addr)
  L : LK
/-- the loop of pass_known after the cells `done` -/
structure P2 (cs : List Cel) (u : List Nat) (inv : Nat → Option Nat) (done : List Nat) (b : O2) : Prop where
  st : b.st = done.foldl (pkStep cs u inv) ⟨cs, [], fun _ => []⟩
  rel : Rel b.cx b.L b.st.X
  cl : b.st.cells.length = cs.length
  rl : b.st.R.length ≤ done.length
  xl : ∀ n, (b.st.X n).length ≤ done.length
  cxl : b.cx.length ≤ 2 * done.length
theorem P2.zero {cs u inv} : P2 cs u inv [] ⟨⟨cs, [], fun _ => []⟩, [], []⟩ := ⟨rfl, fun n => .inl ⟨rfl, rfl⟩, rfl, Nat.le_refl _, fun n => Nat.le_refl _, Nat.le_refl _⟩
theorem b2i_ge (b : Bool) : decide (0 ≤ b2i b) = true := by cases b <;> rfl
theorem b2i_ne (b : Bool) : (b2i b != 0) = b := by cases b <;> rfl
noncomputable abbrev instN (a : NA) (nm : Str) (c : Nat) : Ob := .inst 134 a.dx [("name", .str nm), ("count", nV c), ("inputs", .ref a.li), ("outputs", .ref a.lo), ("cells", .ref a.lc)]
noncomputable def blk (a : NA) (nm : Str) (c : Nat) (inl outl : List Vl) (cs : List Cel) (τ : Ld) : Ld := (a.x, instN a nm c) :: (a.li, .list inl) :: (a.lo, .list outl) :: (a.lc, .list (cs.map cellV)) :: τ
theorem ts_old {C : Cx} {k : Nat} {σ σ' : Ld} {x Cc dx : Addr} {l l' : List (Str × Vl)} {name : Str} {v : Vl} {Q : Ld → Prop} (hm : (x, Ob.inst Cc dx l) ∈ σ) (w : UpdF name v l l') (u : Upd x (.inst Cc dx l) (.inst Cc dx l') σ σ') (ha : setsAttr C.K Cc name = true) (hlen : l.length ≤ 1000) (h : Q σ') :
    TU3 C k (fun a b _ => setAttr a name b) (.ref x) v .none σ Q := ts_attr_old w u ha hlen h
theorem ts_new {C : Cx} {k : Nat} {σ σ' : Ld} {x Cc dx : Addr} {l : List (Str × Vl)} {name : Str} {v : Vl} {Q : Ld → Prop} (hm : (x, Ob.inst Cc dx l) ∈ σ) (hn : (l.map (·.1)).contains name = false) (u : Upd x (.inst Cc dx l) (.inst Cc dx (l ++ [(name, v)])) σ σ') (ha : setsAttr C.K Cc name = true) (hlen : l.length ≤ 1000) (h : Q σ') :
    TU3 C k (fun a b _ => setAttr a name b) (.ref x) v .none σ Q := ts_attr_new hn u ha hlen h
theorem Upd.other {a : Addr} {o o' : Ob} {σ σ' : Ld} (u : Upd a o o' σ σ') : ∀ {p : Addr × Ob}, p ∈ σ → p ≠ (a, o) → p ∈ σ' := by
  induction u with
  | head =>
    intro p hp hne
    rcases List.mem_cons.mp hp with q | q
    · exact absurd q hne
    · exact .tail _ q
  | tail _ ih =>
    intro p hp hne
    rcases List.mem_cons.mp hp with q | q
    · subst q; exact .head _
    · exact .tail _ (ih q hne)
theorem swap_true {sc : Scope} {elt iter : Expr} {x y : Str} {px py : Pos} {ifs : List Expr} {scope : Scope} {pos : Pos} {line : Nat} (hl : sc.names.lookup y = some .local) (hp : (py.line == pos.line && !(scope.names.any fun (n, k) => n == y && (k == .local || k == .cell))) = true) :
    ∀ env, EnvOK sc env → swapsWith (.ListComp elt [⟨.Name x px, iter, ifs, 0⟩] scope pos) (some (.Name y py)) line env = pure true := by
  intro env he
  have hb : env.blockKind = .function := by unfold Env.blockKind; rw [he.scope, he.kind]; rfl
  have hk : env.kindOf y = some .local := by rw [← hl, ← he.scope]; rfl
  show (pure (env.blockKind == .function && env.kindOf y == some .local && py.line == pos.line && !(scope.names.any fun (n, k) => n == y && (k == .local || k == .cell))) : Sem Bool) = pure true
  rw [hb, hk]
  simp only [Bool.and_eq_true] at hp
  simp [hp.1, hp.2]
noncomputable abbrev storeV (r : Addr) (at_ : Nat) : Ob := .sdict [("row", .ref r), ("at", nV at_)]
/-- a held dict: the values of the nets of a set -/
noncomputable def Hd (d : List (Nat × Nat)) (dom : Nat → Prop) (V : Nat → Bool) : Prop := ∀ n, (dom n → pget d n = some (V n).toNat) ∧ (¬ dom n → pget d n = none)
theorem Hd.put {d dom V n} (h : Hd d dom V) : Hd (pset d n (V n).toNat) (fun m => dom m ∨ m = n) V := fun m => by
  rw [pget_pset]
  by_cases q : m = n
  · subst q; simp
  · rw [if_neg q]; simpa [q] using h m
theorem Hd.congr {d dom dom' V} (h : Hd d dom V) (k : ∀ n, dom n ↔ dom' n) : Hd d dom' V := fun n => by rw [← k n]; exact h n
theorem Hd.some {d dom V n} (h : Hd d dom V) (k : dom n) : pget d n = some (V n).toNat := (h n).1 k
theorem Hd.isSome {d dom V n} (h : Hd d dom V) (k : dom n) : (pget d n).isSome = true := by rw [h.some k]; rfl
noncomputable def gate (V : Nat → Bool) (c : Cel) : Bool := match c.k, c.ins with
  | .mux, [s, a, b] => if V s then V b else V a
  | .inv, [a] => !V a
  | .and, [a, b] => V a && V b
  | _, _ => false
structure Sorted (w : Nat) (cs : List Cel) : Prop where
  nd : (cs.map (·.out)).Nodup
  ge : ∀ c ∈ cs, 2 + w ≤ c.out
  ins : ∀ done c rest, cs = done ++ c :: rest → ∀ n ∈ c.ins, n < 2 + w ∨ n ∈ done.map (·.out)
  ar : ∀ c ∈ cs, Ar c
structure Cons (w line : Nat) (cs : List Cel) (V : Nat → Bool) : Prop where
  v0 : V 0 = false
  v1 : V 1 = true
  vi : ∀ j, j < w → (V (2 + j)).toNat = line / 2 ^ j % 2
  vc : ∀ c ∈ cs, V c.out = gate V c
noncomputable def domW (w : Nat) (cs : List Cel) (n : Nat) : Prop := n < 2 + w ∨ n ∈ cs.map (·.out)
theorem Hd.len {d : List (Nat × Nat)} (k : Nat) (h : d.length ≤ k) (n v : Nat) : (pset d n v).length ≤ k + 1 := Nat.le_trans (pset_length _ _ _) (by (first | lia | omega))
theorem fmod2 (x : Nat) : (x : Int).fmod 2 = ((x % 2 : Nat) : Int) := (Int.ofNat_fmod x 2).symm
theorem pow2 (j : Nat) : (2 : Int) ^ (j : Int).toNat = ((2 ^ j : Nat) : Int) := by rw [Int.toNat_natCast, Int.natCast_pow]; rfl
theorem pow_le10 {j : Nat} (h : j ≤ 10) : 2 ^ j ≤ 1024 := Nat.le_trans (Nat.pow_le_pow_right (by decide) h) (by decide)
theorem toNat_beq1 (b : Bool) : ((b.toNat : Int) == 1) = b := by cases b <;> rfl
theorem any_false {l : List Bool} (h : ∀ b ∈ l, b = true) : l.any (· == false) = false := by
  rw [List.any_eq_false]; intro b hb; rw [h b hb]; decide
theorem WF.snoc {w cs c} (W : WF w cs) (ho : c.out = 2 + w + cs.length) (ha : Ar c) (hl : ∀ n ∈ c.ins, n < c.out) : WF w (cs ++ [c]) := by
  refine ⟨fun i c' h => ?_, fun c' h => ?_, fun c' h => ?_⟩
  · by_cases q : i < cs.length
    · rw [List.getElem?_append_left q] at h; exact W.outs i c' h
    · rw [List.getElem?_append_right (by (first | lia | omega))] at h
      have : i - cs.length = 0 := by
        obtain ⟨z, _⟩ := List.getElem?_eq_some_iff.mp h
        simp at z; (first | lia | omega)
      rw [this] at h
      simp at h; subst h
      rw [ho]; (first | lia | omega)
  · rcases List.mem_append.mp h with h | h
    · exact W.ar c' h
    · simp at h; subst h; exact ha
  · rcases List.mem_append.mp h with h | h
    · exact W.low c' h
    · simp at h; subst h; exact hl
theorem WF.nil {w} : WF w [] := ⟨fun i c h => (by simp at h), fun c h => (by cases h), fun c h => (by cases h)⟩
theorem range'_get {n i : Nat} (h : i < n) : (List.range' 0 n)[i]? = some i := by
  rw [List.getElem?_range' h]; simp
theorem ints_vrs {h : Heap} {vs : List Value} {ns : List Int} (x : IntsAre vs ns) : VRs h (ns.map Vl.int) vs := by
  induction x with
  | nil => exact .nil
  | cons i t _ ih => exact .cons (.int i t) ih
theorem ev_slice_base {C : Cx} {k : Nat} {sc : Scope} {Γ : Gm} {σ : Ld} {value : Expr} {i : Int} {c cp p pos Q} {sa : Addr} {vs : List Value} {ns : List Int} (hb : C.s₀.heap.IsList sa vs.toArray) (hv : IntsAre vs ns) (hl : ns.length ≤ 1000000) (hi : 0 ≤ i)
    (h : EV C k sc value Γ σ (fun v σ₁ => v = .ref sa ∧ ∀ D, Q (.ref D) ((D, .list ((ns.map Vl.int).take i.toNat)) :: σ₁))) : EV C k sc (.Subscript value (.Slice none (some (.Constant (.int i) c cp)) none p) pos) Γ σ Q := fun env A s he hA hs => by
  refine Subscript_ (ne_mono (h env A s he hA hs) ?_)
  rintro r s₁ ⟨v, σ₁, t, vr, rfl, q⟩
  cases vr
  refine wpAny_Slice (part_none fun n rl pl => part_const fun n' rh ph => wpAny_evalPart_none ?_)
  have t1 : To C σ s σ₁ { s₁ with heap := s₁.heap, toks := n' } := t.trans (To.tok t.ok)
  have vr : VRs s₁.heap (ns.map Vl.int) vs := ints_vrs hv
  have hlen : vs.length = ns.length := by have := vr.length; simpa using this
  have hL : s₁.heap.IsList sa vs.toArray := by
    obtain ⟨o, e, r⟩ := hb
    exact ⟨o, t.ok.ext _ _ e, r⟩
  refine tail_any (ops := [_, _]) (Heap.IsList.typeIs (s := { s₁ with heap := s₁.heap.push { cls := .type "slice", data := .fields #[rl, rh, .none] }, toks := n' }) (hL.push _)) slot_list_getitem.lookup (wpAny_getItem_list_slice (hL.push _) (Heap.IsSliceOf.new ..) pl ph .none (by simp) ?_ (by rw [List.size_toArray, hlen]; simp [sizeLine]; (first | lia | omega))) rfl
  rw [kms_pick_eq]
  have e0 : ∀ {zs : List Value} {l : List Vl}, VRs s₁.heap l zs → VRs s₁.heap (l.take i.toNat) (kms_pick zs none (some i)) := by
    intro zs l vr
    have e : kms_pick zs none (some i) = zs.take i.toNat := by
      show (zs.drop 0).take (kms_hi (some i) zs.length - 0) = _
      unfold kms_hi
      dsimp only
      rw [if_neg (by (first | lia | omega)), List.drop_zero, Nat.sub_zero]
      exact List.take_eq_take_iff.mpr (by (first | lia | omega))
    rw [e]; exact vr.take
  have t2 := To.slice (vl := rl) (vu := rh) t1.ok (e0 vr)
  have e : (s₁.heap.push { cls := .type "slice", data := .fields #[rl, rh, .none] }).objs.size = s₁.heap.objs.size + 1 := Heap.size_push ..
  show VP C σ s Q (.ref (s₁.heap.push _).objs.size) _
  rw [e]
  exact ⟨.ref _, _, t1.trans t2, .ref _, q _⟩
theorem rds_ints {σ : Ld} (n : Nat) : ∀ l : List Nat, RDs σ n (l.map nV) (l.map fun (x : Nat) => PyData.int (x : Int))
  | [] => .nil _
  | x :: l => .cons (.int _ _) (rds_ints n l)
noncomputable def cellD (c : Cel) : PyData := .tuple [.str (kindS c.k), .int (c.out : Int), .tuple (c.ins.map fun (x : Nat) => PyData.int (x : Int)), .none]
theorem rd_cell {σ : Ld} (n : Nat) (c : Cel) : RD σ (n + 2) (cellV c) (cellD c) :=
  .tup (.cons (.str (by cases c.k <;> kernel_rfl)) (.cons (.int _ _) (.cons (.tup (rds_ints n c.ins)) (.cons (.none _) (.nil _)))))
theorem rds_cells {σ : Ld} (n : Nat) : ∀ l : List Cel, RDs σ (n + 2) (l.map cellV) (l.map cellD)
  | [] => .nil _
  | c :: l => .cons (rd_cell n c) (rds_cells n l)
theorem WF.sorted {w cs} (W : WF w cs) : Sorted w cs := by
  refine ⟨?_, fun c hc => ?_, fun done c rest e n hn => ?_, W.ar⟩
  · refine List.nodup_iff_pairwise_ne.mpr (List.pairwise_iff_getElem.mpr fun i j hi hj hlt => ?_)
    simp only [List.length_map] at hi hj
    simp only [List.getElem_map]
    have := W.outs i _ (List.getElem?_eq_getElem hi)
    have := W.outs j _ (List.getElem?_eq_getElem hj)
    (first | lia | omega)
  · obtain ⟨i, hi⟩ := List.mem_iff_getElem?.mp hc
    have := W.outs i c hi
    (first | lia | omega)
  · have hc : c ∈ cs := by rw [e]; simp
    have h1 := W.low c hc n hn
    have h2 := W.outs done.length c (by rw [e, List.getElem?_append_right (Nat.le_refl _)]; simp)
    by_cases q : n < 2 + w
    · exact .inl q
    · right
      have hi : n - (2 + w) < done.length := by (first | lia | omega)
      refine List.mem_map.mpr ⟨done[n - (2 + w)], List.getElem_mem hi, ?_⟩
      have := W.outs (n - (2 + w)) done[n - (2 + w)] (by rw [e, List.getElem?_append_left hi]; exact List.getElem?_eq_getElem hi)
      (first | lia | omega)
theorem gate_congr {V V' : Nat → Bool} {c : Cel} (h : ∀ n ∈ c.ins, V n = V' n) (ha : Ar c) : gate V c = gate V' c := by
  obtain ⟨k, out, ins⟩ := c
  cases k with
  | mux => obtain ⟨s, a, b, rfl⟩ := ha; simp only [gate]; rw [h s (by simp), h a (by simp), h b (by simp)]
  | inv => obtain ⟨a, rfl⟩ := ha; simp only [gate]; rw [h a (by simp)]
  | and => obtain ⟨a, b, rfl⟩ := ha; simp only [gate]; rw [h a (by simp), h b (by simp)]
/-- values for a sorted netlist -/
theorem Sorted.value {w line : Nat} {cs : List Cel} (S : Sorted w cs) : ∃ V, Cons w line cs V := by
  have : ∀ rest done, cs = done ++ rest → (∃ V, Cons w line done V) → ∃ V, Cons w line cs V := by
    intro rest
    induction rest with
    | nil => intro done e h; rw [List.append_nil] at e; rw [e]; exact h
    | cons c rest ih =>
      intro done e ⟨V, hV⟩
      refine ih (done ++ [c]) (by simp [e]) ⟨fun n => if n = c.out then gate V c else V n, ?_⟩
      have hc : c ∈ cs := by rw [e]; simp
      have hge := S.ge c hc
      have hnd : c.out ∉ done.map (·.out) := by
        have := S.nd
        rw [e, List.map_append, List.map_cons] at this
        have := (List.nodup_append.mp this).2.2
        intro hm
        exact this _ hm _ (List.mem_cons_self ..) rfl
      have hins : ∀ d ∈ done ++ [c], ∀ n ∈ d.ins, n ≠ c.out := by
        intro d hd n hn he
        subst he
        rcases List.mem_append.mp hd with hd | hd
        · obtain ⟨p, q, hpq⟩ := List.append_of_mem hd
          rcases S.ins p d (q ++ c :: rest) (by rw [e, hpq]; simp) _ hn with h | h
          · (first | lia | omega)
          · exact hnd (by rw [hpq, List.map_append]; exact List.mem_append_left _ h)
        · simp at hd; subst hd
          rcases S.ins done d rest e _ hn with h | h
          · (first | lia | omega)
          · exact hnd h
      refine ⟨?_, ?_, fun j hj => ?_, fun d hd => ?_⟩
      · rw [if_neg (by (first | lia | omega))]; exact hV.v0
      · rw [if_neg (by (first | lia | omega))]; exact hV.v1
      · rw [if_neg (by (first | lia | omega))]; exact hV.vi j hj
      · have hd' := hd
        have hcm : d ∈ cs := by rw [e]; rcases List.mem_append.mp hd with q | q <;> simp at q ⊢ <;> simp [q]
        have hg : gate (fun n => if n = c.out then gate V c else V n) d = gate V d := gate_congr (fun n hn => by
          show (if n = c.out then gate V c else V n) = V n
          rw [if_neg (hins d hd n hn)]) (S.ar d hcm)
        rw [hg]
        rcases List.mem_append.mp hd with q | q
        · have : d.out ≠ c.out := fun z => hnd (List.mem_map.mpr ⟨d, q, z⟩)
          show (if d.out = c.out then gate V c else V d.out) = _
          rw [if_neg this]; exact hV.vc d q
        · simp at q; subst q
          show (if d.out = d.out then gate V d else V d.out) = _
          rw [if_pos rfl]
  refine this cs [] rfl ⟨fun n => if n = 0 then false else if n = 1 then true else decide (line / 2 ^ (n - 2) % 2 = 1), rfl, rfl, fun j hj => ?_, fun c hc => by cases hc⟩
  show (if 2 + j = 0 then false else if 2 + j = 1 then true else decide (line / 2 ^ (2 + j - 2) % 2 = 1)).toNat = _
  rw [if_neg (by (first | lia | omega)), if_neg (by (first | lia | omega)), show 2 + j - 2 = j by (first | lia | omega)]
  have := Nat.mod_two_eq_zero_or_one (line / 2 ^ j)
  rcases this with h | h <;> rw [h] <;> rfl
local macro_rules | `(tactic| walk_at "k") => `(tactic| (rw [IsK.get (by assumption)]; kernel_rfl))
local macro_rules | `(tactic| walk_at "lk") => `(tactic| first | with_reducible apply Lk.head | ((with_reducible apply Lk.tail); walk_at "lk"))
local macro_rules | `(tactic| walk_at "updg") => `(tactic| first | with_reducible apply UpdG.head | ((with_reducible apply UpdG.tail); walk_at "updg"))
local macro_rules | `(tactic| walk_at "upd") => `(tactic| first | with_reducible apply Upd.head | with_reducible assumption | ((with_reducible apply Upd.tail); walk_at "upd"))
local macro_rules | `(tactic| walk_at "mem") => `(tactic| first | with_reducible assumption | with_reducible apply mem_hd | ((with_reducible apply mem_tl); walk_at "mem"))
local macro_rules | `(tactic| walk_at "wkr") => `(tactic| first | with_reducible apply Wk.refl | with_reducible apply Wk.nil | ((with_reducible apply Wk.keep); walk_at "wkr") | ((with_reducible apply Wk.drop); walk_at "wkr"))
local macro_rules | `(tactic| walk_at "wkd") => `(tactic| first | apply Wk.refl | apply Wk.nil | ((apply Wk.keep); walk_at "wkd") | ((apply Wk.drop); walk_at "wkd"))
local macro_rules | `(tactic| walk_at "wk") => `(tactic| first | walk_at "wkr" | walk_at "wkd")
local macro_rules | `(tactic| walk_at "pk") => `(tactic| first | with_reducible apply Pick.head | ((with_reducible apply Pick.tail); walk_at "pk"))
local macro_rules | `(tactic| walk_at "sub1") => `(tactic| first | with_reducible apply List.Sublist.refl | with_reducible apply List.sublist_append_right | ((with_reducible apply List.Sublist.cons); walk_at "sub1"))
local macro_rules | `(tactic| walk_at "subpr") => `(tactic| first | with_reducible apply SubP.refl | ((with_reducible refine SubP.sub ?_); walk_at "sub1") | ((with_reducible refine SubP.pick (by walk_at "pk") ?_); walk_at "subpr"))
local macro_rules | `(tactic| walk_at "subpd") => `(tactic| first | exact SubP.refl | (refine SubP.pick (by walk_at "pk") ?_; walk_at "subpd"))
local macro_rules | `(tactic| walk_at "subp") => `(tactic| first | walk_at "subpr" | walk_at "subpd")
local macro_rules | `(tactic| walk_at "hs") => `(tactic| first | with_reducible apply HasS.head | ((with_reducible apply HasS.tail); walk_at "hs"))
local macro_rules | `(tactic| walk_at "updf") => `(tactic| first | with_reducible apply UpdF.head | ((with_reducible apply UpdF.tail); walk_at "updf"))
local macro_rules | `(tactic| walk_at "free") => `(tactic| first | apply FreeG.nil | (apply FreeG.cons; walk_at "lk"; rfl; walk_at "free"))
local macro_rules | `(tactic| walk_at "nsl") => `(tactic| (intro _ _; with_unfolding_all rfl))
local macro_rules | `(tactic| walk_at "len") => `(tactic| first | assumption | (simp only [List.length_cons, List.length_nil, List.length_map, List.length_append, List.length_range', List.length_reverse]; (first | lia | omega)) | (first | lia | omega))
local macro_rules | `(tactic| walk_at "b1") => `(tactic| (intro s rs hX hv; cases hv with | cons a b => cases b; exact ⟨_, .cons a .nil, .of_eq rfl⟩))
local macro_rules | `(tactic| walk_at "b2") => `(tactic| (intro s rs hX hv; cases hv with | cons a b => cases b with | cons a2 b => cases b; exact ⟨_, .cons a (.cons a2 .nil), .of_eq rfl⟩))
local macro_rules | `(tactic| walk_at "b3") => `(tactic| (intro s rs hX hv; cases hv with | cons a b => cases b with | cons a2 b => cases b with | cons a3 b => cases b; exact ⟨_, .cons a (.cons a2 (.cons a3 .nil)), .of_eq rfl⟩))
theorem c_is_state_kind {C : Cx} (hK : IsK C) {k : Nat} {x : Str} {σ : Ld} {Q : Vl → Ld → Prop} (h : Q (.bool (x == "flop" || x == "latch")) σ) : CLc C (k + 1) (.ref 61) [.str x] σ Q := by
  refine cl_def (ps := ["kind"]) (vs' := [.str x]) (ls := []) (by rw [hK]; rfl) (by rw [hK]; kernel_rfl) (by walk_at "b1") rfl (by rfl) rfl (by rfl) ?_
  show EX _ _ _ _ [("kind", some (.str x))] _ _
  refine ex_one ?_
  refine ex_return ?_
  refine ev_or2 ?_
  refine ev_compare ?_
  refine ev_name (by walk_at "lk") ?_
  refine ev_str ?_
  with_reducible refine t2_eq_str ?_
  with_reducible refine ⟨_, rfl, ?_⟩
  split
  · rename_i q; rw [q] at h; exact h
  · rename_i q
    rw [Bool.eq_false_iff.mpr q, Bool.false_or] at h
    refine ev_compare ?_
    refine ev_name (by walk_at "lk") ?_
    refine ev_str ?_
    with_reducible refine t2_eq_str ?_
    exact h

theorem c_use_counts {C : Cx} (hK : IsK C) {k : Nat} {σ : Ld} {Q : Vl → Ld → Prop} {a : NA} {nm inm onm cnt ins outs cs} (N : NetAt σ a nm inm onm cnt ins outs cs) (hU : (U cs outs).length ≤ 1000)
    (h : ∀ D d, Cnt d (U cs outs) → Q (.ref D) ((D, .idict (dM nV d)) :: σ)) : CLc C (k + 1) (.ref 173) [.ref a.x] σ Q := by
  refine cl_def (ps := ["netlist"]) (vs' := [.ref a.x]) (ls := ["counts", "cell", "net", "name", "nets"]) (by rw [hK]; rfl) (by rw [hK]; kernel_rfl) (by walk_at "b1") rfl (by rfl) rfl (by rfl) ?_
  show EX _ _ _ _ [("netlist", some (.ref a.x)), ("counts", none), ("cell", none), ("net", none), ("name", none), ("nets", none)] _ _
  obtain ⟨h0, h1, h2, h3, h4, h5⟩ := N
  refine ex_cons ?_
  refine ex_assign ?_ (by rfl)
  refine ev_dict0 ?_
  intro D
  with_reducible refine ⟨_, (by walk_at "updg"), ?_⟩
  refine ex_cons ?_
  refine ex_for_list cellV (fun rest d => ∃ done, cs = done ++ rest ∧ Cnt d (done.flatMap (·.ins)))
    (fun d => [("netlist", some (.ref a.x)), ("counts", some (.ref D)), ("cell", none), ("net", none), ("name", none), ("nets", none)]) (fun d => (D, .idict (dM nV d)) :: σ) (ie_list ?_)
  refine ev_attr ?_
  refine ev_name (by walk_at "lk") ?_
  refine t1_attr (by walk_at "mem") (HasS.mem (by walk_at "hs")) (by walk_at "k") (by rfl) ?_
  with_reducible refine ⟨_, _, rfl, (by walk_at "mem"), ?_⟩
  refine ⟨cs, [], rfl, ⟨[], rfl, .nil⟩, by walk_at "wk", .refl, fun b σ' hp => hp.mem (by walk_at "mem"), ?_, ?_⟩
  · rintro c rest d ⟨done, e, hd⟩
    refine as_name (by walk_at "updg") (by rfl) ?_
    refine ex_one ?_
    refine ex_for_list nV (fun r d => ∃ dn, c.ins = dn ++ r ∧ Cnt d (done.flatMap (·.ins) ++ dn))
      (fun d => [("netlist", some (.ref a.x)), ("counts", some (.ref D)), ("cell", some (cellV c)), ("net", none), ("name", none), ("nets", none)]) (fun d => (D, .idict (dM nV d)) :: σ) (ie_tuple ?_)
    refine ev_sub ?_
    refine ev_name (by walk_at "lk") ?_
    refine ev_int ?_
    refine t2_tuple_item (by rfl) (by rfl) ?_ (by walk_at "len")
    with_reducible refine ⟨_, rfl, ?_⟩
    refine ⟨c.ins, d, rfl, ⟨[], rfl, by simpa using hd⟩, by walk_at "wk", .refl, fun _ _ _ => trivial, ?_, ?_⟩
    · rintro n r d' ⟨dn, e2, hd'⟩
      refine as_name (by walk_at "updg") (by rfl) ?_
      refine ex_one ?_
      refine ex_assign_sub ?_
      refine ev_binop ?_
      refine ev_get (by rfl) ?_
      refine ev_name (by walk_at "lk") ?_
      with_reducible refine ⟨_, _, rfl, (by walk_at "mem"), ?_⟩
      refine evs_cons ?_
      refine ev_name (by walk_at "lk") ?_
      refine evs_cons ?_
      refine ev_int ?_
      refine evs_nil ?_
      with_reducible refine ⟨_, _, _, rfl, (by walk_at "mem"), ?_⟩
      refine ev_int ?_
      rw [dget_get0]
      with_reducible refine t2_add ?_
      refine ev_name (by walk_at "lk") ?_
      refine ev_name (by walk_at "lk") ?_
      have hl : d'.length ≤ 1000000 := by
        have := hd'.1
        have e3 := congrArg (fun l => (U l outs).length) e
        simp [U, List.flatMap_append, e2] at e3 hU this
        (first | lia | omega)
      refine t3_dict_setN (v := (pget d' n).getD 0 + 1) rfl (by walk_at "upd") hl ?_
      exact ⟨_, ⟨dn ++ [n], by simp [e2], by rw [← List.append_assoc]; exact hd'.step⟩, by walk_at "wk", by walk_at "subp"⟩
    · rintro d' ⟨dn, e2, hd'⟩
      refine ⟨d', ⟨done ++ [c], by simp [e], ?_⟩, by walk_at "wk", by walk_at "subp"⟩
      rw [List.append_nil] at e2
      simpa [List.flatMap_append, e2] using hd'
  · rintro d ⟨done, e, hd⟩
    rw [List.append_nil] at e
    subst e
    refine ex_cons ?_
    refine ex_for_one (ie_list ?_)
    refine ev_attr ?_
    refine ev_name (by walk_at "lk") ?_
    refine t1_attr (by walk_at "mem") (HasS.mem (by walk_at "hs")) (by walk_at "k") (by rfl) ?_
    with_reducible refine ⟨_, _, rfl, (by walk_at "mem"), ?_⟩
    with_reducible refine ⟨_, rfl, ?_⟩
    refine ⟨by walk_at "mem", ?_⟩
    refine as_tuple ?_ (by rfl) (by rfl)
    refine ass_cons ?_
    refine as_name (by walk_at "updg") (by rfl) ?_
    refine ass_cons ?_
    refine as_name (by walk_at "updg") (by rfl) ?_
    refine ass_nil ?_
    refine ex_one ?_
    refine ex_for_list nV (fun r d => ∃ dn, outs = dn ++ r ∧ Cnt d (cs.flatMap (·.ins) ++ dn))
      (fun d => [("netlist", some (.ref a.x)), ("counts", some (.ref D)), ("cell", none), ("net", none), ("name", none), ("nets", none)]) (fun d => (D, .idict (dM nV d)) :: σ) (ie_list ?_)
    refine ev_name (by walk_at "lk") ?_
    with_reducible refine ⟨_, _, rfl, (by walk_at "mem"), ?_⟩
    refine ⟨outs, d, rfl, ⟨[], rfl, by simpa using hd⟩, by walk_at "wk", .refl, fun b σ' hp => hp.mem (by walk_at "mem"), ?_, ?_⟩
    · rintro n r d' ⟨dn, e2, hd'⟩
      refine as_name (by walk_at "updg") (by rfl) ?_
      refine ex_one ?_
      refine ex_assign_sub ?_
      refine ev_binop ?_
      refine ev_get (by rfl) ?_
      refine ev_name (by walk_at "lk") ?_
      with_reducible refine ⟨_, _, rfl, (by walk_at "mem"), ?_⟩
      refine evs_cons ?_
      refine ev_name (by walk_at "lk") ?_
      refine evs_cons ?_
      refine ev_int ?_
      refine evs_nil ?_
      with_reducible refine ⟨_, _, _, rfl, (by walk_at "mem"), ?_⟩
      refine ev_int ?_
      rw [dget_get0]
      with_reducible refine t2_add ?_
      refine ev_name (by walk_at "lk") ?_
      refine ev_name (by walk_at "lk") ?_
      have hl : d'.length ≤ 1000000 := by
        have := hd'.1
        simp [U, e2] at hU this
        (first | lia | omega)
      refine t3_dict_setN (v := (pget d' n).getD 0 + 1) rfl (by walk_at "upd") hl ?_
      exact ⟨_, ⟨dn ++ [n], by simp [e2], by rw [← List.append_assoc]; exact hd'.step⟩, by walk_at "wk", by walk_at "subp"⟩
    · rintro d' ⟨dn, e2, hd'⟩
      rw [List.append_nil] at e2
      subst e2
      refine ⟨by walk_at "mem", ?_⟩
      refine ex_one ?_
      refine ex_return ?_
      refine ev_name (by walk_at "lk") ?_
      exact h D d' hd'
theorem c_inverter_ins {C : Cx} (hK : IsK C) {k : Nat} {σ : Ld} {Q : Vl → Ld → Prop} {a : NA} {nm inm onm cnt ins outs cs} (N : NetAt σ a nm inm onm cnt ins outs cs) (hl : cs.length ≤ 1000) (hA : ∀ c ∈ cs, Ar c)
    (h : ∀ D, Q (.ref D) ((D, .idict (dM nV (invD cs))) :: σ)) : CLc C (k + 1) (.ref 180) [.ref a.x] σ Q := by
  refine cl_def (ps := ["netlist"]) (vs' := [.ref a.x]) (ls := ["found", "cell"]) (by rw [hK]; rfl) (by rw [hK]; kernel_rfl) (by walk_at "b1") rfl (by rfl) rfl (by rfl) ?_
  show EX _ _ _ _ [("netlist", some (.ref a.x)), ("found", none), ("cell", none)] _ _
  obtain ⟨h0, h1, h2, h3, h4, h5⟩ := N
  refine ex_cons ?_
  refine ex_assign ?_ (by rfl)
  refine ev_dict0 ?_
  intro D
  with_reducible refine ⟨_, (by walk_at "updg"), ?_⟩
  refine ex_cons ?_
  refine ex_for_list cellV (fun rest done => cs = done ++ rest) (fun d => [("netlist", some (.ref a.x)), ("found", some (.ref D)), ("cell", none)]) (fun d => (D, .idict (dM nV (invD d))) :: σ) (ie_list ?_)
  refine ev_attr ?_
  refine ev_name (by walk_at "lk") ?_
  refine t1_attr (by walk_at "mem") (HasS.mem (by walk_at "hs")) (by walk_at "k") (by rfl) ?_
  with_reducible refine ⟨_, _, rfl, (by walk_at "mem"), ?_⟩
  refine ⟨cs, [], rfl, rfl, by walk_at "wk", .refl, fun b σ' hp => hp.mem (by walk_at "mem"), ?_, ?_⟩
  · rintro c rest done e
    refine as_name (by walk_at "updg") (by rfl) ?_
    refine ex_one ?_
    refine ex_if ?_
    refine bt_compare ?_
    refine ev_sub ?_
    refine ev_name (by walk_at "lk") ?_
    refine ev_int ?_
    refine t2_tuple_item (by rfl) (by rfl) ?_ (by walk_at "len")
    refine ev_str ?_
    with_reducible refine t2_eq_str ?_
    with_reducible refine ⟨_, rfl, ?_⟩
    rw [kindS_not]
    have hc := hA c (by rw [e]; simp)
    cases hi : isInv c.k with
    | false =>
      refine if_f (by first | with_reducible rfl | with_reducible assumption | rfl) ?_
      refine ex_nil ?_
      refine ⟨done ++ [c], by simp [e], by walk_at "wk", ?_⟩
      rw [invD_snoc]
      unfold invStep
      rw [hi]
      exact .refl
    | true =>
      obtain ⟨b, hb⟩ : ∃ b, c.ins = [b] := by
        unfold Ar at hc
        cases hk : c.k <;> rw [hk] at hi hc <;> first | exact hc | cases hi
      refine if_t (by first | with_reducible rfl | with_reducible assumption | rfl) ?_
      refine ex_one ?_
      refine ex_assign_sub ?_
      refine ev_sub ?_
      refine ev_sub ?_
      refine ev_name (by walk_at "lk") ?_
      refine ev_int ?_
      refine t2_tuple_item (by rfl) (by rfl) ?_ (by walk_at "len")
      refine ev_int ?_
      rw [hb]
      refine t2_tuple_item (by rfl) (by rfl) ?_ (by walk_at "len")
      refine ev_name (by walk_at "lk") ?_
      refine ev_sub ?_
      refine ev_name (by walk_at "lk") ?_
      refine ev_int ?_
      refine t2_tuple_item (by rfl) (by rfl) ?_ (by walk_at "len")
      refine t3_dict_setN (v := b) rfl (by walk_at "upd") (by have := invD_length done; have := congrArg List.length e; simp at this; (first | lia | omega)) ?_
      refine ⟨done ++ [c], by simp [e], by walk_at "wk", ?_⟩
      rw [invD_snoc]
      unfold invStep
      rw [hi, hb]
      exact .refl
  · rintro done e
    rw [List.append_nil] at e
    subst e
    refine ex_one ?_
    refine ex_return ?_
    refine ev_name (by walk_at "lk") ?_
    exact h D

theorem c_known_bit {C : Cx} (hK : IsK C) {k : Nat} {σ : Ld} {Q : Vl → Ld → Prop} {l d : Addr} {K : List (Nat × Bool)} {I : List (Nat × Nat)} {n : Nat} (hl : (l, Ob.list (K.map pV)) ∈ σ) (hd : (d, Ob.idict (dM nV I)) ∈ σ)
    (h : Q (.int (kbV (kb K (pget I) n))) σ) : CLc C (k + 1) (.ref 187) [.ref l, .ref d, nV n] σ Q := by
  refine cl_def (ps := ["known", "inverted", "net"]) (vs' := [.ref l, .ref d, nV n]) (ls := ["other", "bit"]) (by rw [hK]; rfl) (by rw [hK]; kernel_rfl) (by walk_at "b3") rfl (by rfl) rfl (by rfl) ?_
  show EX _ _ _ _ [("known", some (.ref l)), ("inverted", some (.ref d)), ("net", some (nV n)), ("other", none), ("bit", none)] _ _
  refine ex_cons ?_
  refine ex_if ?_
  refine bt_or2 ?_
  refine bt_compare ?_
  refine ev_name (by walk_at "lk") ?_
  refine ev_int ?_
  with_reducible refine t2_eq_int ?_
  with_reducible refine ⟨_, rfl, ?_⟩
  rw [nat_beq0]
  by_cases q0 : n = 0
  · subst q0
    refine if_t (by first | with_reducible rfl | with_reducible assumption | rfl) ?_
    refine if_t (by first | with_reducible rfl | with_reducible assumption | rfl) ?_
    refine ex_one ?_
    refine ex_return ?_
    refine ev_name (by walk_at "lk") ?_
    exact h
  rw [show (n == 0) = false from beq_eq_false_iff_ne.mpr q0]
  refine if_f (by first | with_reducible rfl | with_reducible assumption | rfl) ?_
  refine bt_compare ?_
  refine ev_name (by walk_at "lk") ?_
  refine ev_int ?_
  with_reducible refine t2_eq_int ?_
  with_reducible refine ⟨_, rfl, ?_⟩
  rw [nat_beq1]
  by_cases q1 : n = 1
  · subst q1
    refine if_t (by first | with_reducible rfl | with_reducible assumption | rfl) ?_
    refine ex_one ?_
    refine ex_return ?_
    refine ev_name (by walk_at "lk") ?_
    exact h
  rw [show (n == 1) = false from beq_eq_false_iff_ne.mpr q1]
  unfold kb at h
  rw [if_neg q0, if_neg q1] at h
  refine if_f (by first | with_reducible rfl | with_reducible assumption | rfl) ?_
  refine ex_nil ?_
  refine ex_cons ?_
  refine ex_for_list pV (fun rest (_ : Unit) => ∃ done, K = done ++ rest ∧ ∀ p ∈ done, hit (pget I) n p = false) (fun _ => [("known", some (.ref l)), ("inverted", some (.ref d)), ("net", some (nV n)), ("other", none), ("bit", none)]) (fun _ => σ) (ie_list ?_)
  refine ev_name (by walk_at "lk") ?_
  with_reducible refine ⟨_, _, rfl, (by walk_at "mem"), ?_⟩
  refine ⟨K, (), rfl, ⟨[], rfl, by simp⟩, by walk_at "wk", .refl, fun b σ' hp => hp.mem (by walk_at "mem"), ?_, ?_⟩
  · rintro ⟨m, b⟩ rest _ ⟨done, e, hn⟩
    have hf : hit (pget I) n (m, b) = true → K.find? (hit (pget I) n) = some (m, b) := fun z => by
      rw [e, List.find?_append, List.find?_eq_none.mpr fun p hp => by rw [hn p hp]; simp, List.find?_cons, z]; rfl
    refine as_tuple ?_ (by rfl) (by rfl)
    refine ass_cons ?_
    refine as_name (by walk_at "updg") (by rfl) ?_
    refine ass_cons ?_
    refine as_name (by walk_at "updg") (by rfl) ?_
    refine ass_nil ?_
    refine ex_cons ?_
    refine ex_if ?_
    refine bt_compare ?_
    refine ev_name (by walk_at "lk") ?_
    refine ev_name (by walk_at "lk") ?_
    with_reducible refine t2_eq_int ?_
    with_reducible refine ⟨_, rfl, ?_⟩
    rw [nat_beq]
    cases z1 : m == n with
    | true =>
      refine if_t (by first | with_reducible rfl | with_reducible assumption | rfl) ?_
      refine ex_one ?_
      refine ex_return ?_
      refine ev_name (by walk_at "lk") ?_
      rw [hf (by simp [hit, z1])] at h
      simp only [Option.map_some, beq_iff_eq.mp z1, if_true] at h
      exact h
    | false =>
      refine if_f (by first | with_reducible rfl | with_reducible assumption | rfl) ?_
      refine ex_nil ?_
      refine ex_one ?_
      refine ex_if ?_
      refine bt_or2 ?_
      refine bt_compare ?_
      refine ev_get (by rfl) ?_
      refine ev_name (by walk_at "lk") ?_
      with_reducible refine ⟨_, _, rfl, (by walk_at "mem"), ?_⟩
      refine evs_cons ?_
      refine ev_name (by walk_at "lk") ?_
      refine evs_cons ?_
      refine ev_neg ?_
      refine evs_nil ?_
      with_reducible refine ⟨_, _, _, rfl, (by walk_at "mem"), ?_⟩
      refine ev_name (by walk_at "lk") ?_
      rw [dget_getI]
      with_reducible refine t2_eq_int ?_
      with_reducible refine ⟨_, rfl, ?_⟩
      rw [oI_eq]
      have hne : ¬ m = n := fun e => by rw [beq_iff_eq.mpr e] at z1; cases z1
      cases z2 : pget I n == some m with
      | true =>
        refine if_t (by first | with_reducible rfl | with_reducible assumption | rfl) ?_
        refine if_t (by first | with_reducible rfl | with_reducible assumption | rfl) ?_
        refine ex_one ?_
        refine ex_return ?_
        refine ev_binop ?_
        refine ev_int ?_
        refine ev_name (by walk_at "lk") ?_
        with_reducible refine t2_sub ?_
        rw [hf (by simp [hit, beq_iff_eq.mp z2])] at h
        simp only [Option.map_some, hne, if_false] at h
        cases b <;> exact h
      | false =>
        refine if_f (by first | with_reducible rfl | with_reducible assumption | rfl) ?_
        refine bt_compare ?_
        refine ev_get (by rfl) ?_
        refine ev_name (by walk_at "lk") ?_
        with_reducible refine ⟨_, _, rfl, (by walk_at "mem"), ?_⟩
        refine evs_cons ?_
        refine ev_name (by walk_at "lk") ?_
        refine evs_cons ?_
        refine ev_neg ?_
        refine evs_nil ?_
        with_reducible refine ⟨_, _, _, rfl, (by walk_at "mem"), ?_⟩
        refine ev_name (by walk_at "lk") ?_
        rw [dget_getI]
        with_reducible refine t2_eq_int ?_
        with_reducible refine ⟨_, rfl, ?_⟩
        rw [oI_eq]
        cases z3 : pget I m == some n with
        | true =>
          refine if_t (by first | with_reducible rfl | with_reducible assumption | rfl) ?_
          refine ex_one ?_
          refine ex_return ?_
          refine ev_binop ?_
          refine ev_int ?_
          refine ev_name (by walk_at "lk") ?_
          with_reducible refine t2_sub ?_
          rw [hf (by simp [hit, beq_iff_eq.mp z3])] at h
          simp only [Option.map_some, hne, if_false] at h
          cases b <;> exact h
        | false =>
          refine if_f (by first | with_reducible rfl | with_reducible assumption | rfl) ?_
          refine ex_nil ?_
          refine ⟨(), ⟨done ++ [(m, b)], by simp [e], fun p hp => ?_⟩, by walk_at "wk", .refl⟩
          rcases List.mem_append.mp hp with q | q
          · exact hn p q
          · cases List.mem_singleton.mp q
            simp only [hit, z1, z2, z3]; rfl
  · rintro _ ⟨done, e, hn⟩
    rw [List.append_nil] at e
    subst e
    refine ex_one ?_
    refine ex_return ?_
    refine ev_neg ?_
    rw [List.find?_eq_none.mpr fun p hp => by rw [hn p hp]; simp] at h
    exact h

theorem c_known_or_net {C : Cx} (hK : IsK C) {k : Nat} {σ : Ld} {Q : Vl → Ld → Prop} {l d : Addr} {K : List (Nat × Bool)} {I : List (Nat × Nat)} {n : Nat} (hl : (l, Ob.list (K.map pV)) ∈ σ) (hd : (d, Ob.idict (dM nV I)) ∈ σ)
    (h : Q (nV (kon K (pget I) n)) σ) : CLc C (k + 2) (.ref 194) [.ref l, .ref d, nV n] σ Q := by
  refine cl_def (ps := ["known", "inverted", "net"]) (vs' := [.ref l, .ref d, nV n]) (ls := ["bit"]) (by rw [hK]; rfl) (by rw [hK]; kernel_rfl) (by walk_at "b3") rfl (by rfl) rfl (by rfl) ?_
  show EX _ _ _ _ [("known", some (.ref l)), ("inverted", some (.ref d)), ("net", some (nV n)), ("bit", none)] _ _
  refine ex_cons ?_
  refine ex_assign ?_ (by rfl)
  refine ev_callK (v := .ref 187) (by rfl) (by walk_at "k") (by walk_at "k") (by rfl) ?_
  refine evs_cons ?_
  refine ev_name (by walk_at "lk") ?_
  refine evs_cons ?_
  refine ev_name (by walk_at "lk") ?_
  refine evs_cons ?_
  refine ev_name (by walk_at "lk") ?_
  refine evs_nil ?_
  refine c_known_bit hK hl hd ?_
  with_reducible refine ⟨_, (by walk_at "updg"), ?_⟩
  refine ex_one ?_
  refine ex_return ?_
  refine ev_ifexp ?_
  refine bt_compare ?_
  refine ev_name (by walk_at "lk") ?_
  refine ev_int ?_
  with_reducible refine t2_lt_int ?_
  with_reducible refine ⟨_, rfl, ?_⟩
  unfold kon at h
  cases z : kb K (pget I) n with
  | none =>
    rw [z] at h
    refine if_t (by first | with_reducible rfl | with_reducible assumption | rfl) ?_
    refine ev_name (by walk_at "lk") ?_
    exact h
  | some b =>
    rw [z] at h
    cases b
    · (refine if_f (by first | with_reducible rfl | with_reducible assumption | rfl) ?_; refine ev_name (by walk_at "lk") ?_)
      exact h
    · (refine if_f (by first | with_reducible rfl | with_reducible assumption | rfl) ?_; refine ev_name (by walk_at "lk") ?_)
      exact h
theorem c_state_cells {C : Cx} (hK : IsK C) {k : Nat} {σ : Ld} {Q : Vl → Ld → Prop} {a : NA} {nm inm onm cnt ins outs cs} (N : NetAt σ a nm inm onm cnt ins outs cs) (hl : cs.length ≤ 1000)
    (h : ∀ D, Q (.ref D) ((D, .list []) :: σ)) : CLc C (k + 2) (.ref 145) [.ref a.x] σ Q := by
  refine cl_def (ps := ["netlist"]) (vs' := [.ref a.x]) (ls := ["found", "index"]) (by rw [hK]; rfl) (by rw [hK]; kernel_rfl) (by walk_at "b1") rfl (by rfl) rfl (by rfl) ?_
  show EX _ _ _ _ [("netlist", some (.ref a.x)), ("found", none), ("index", none)] _ _
  obtain ⟨h0, h1, h2, h3, h4, h5⟩ := N
  refine ex_cons ?_
  refine ex_assign ?_ (by rfl)
  refine ev_list ?_
  refine evs_nil ?_
  refine ⟨(by walk_at "len"), ?_⟩
  intro D
  with_reducible refine ⟨_, (by walk_at "updg"), ?_⟩
  refine ex_cons ?_
  refine ex_for_list nV (fun rest (_ : Unit) => ∃ i m, rest = List.range' i m ∧ i + m = cs.length) (fun _ => [("netlist", some (.ref a.x)), ("found", some (.ref D)), ("index", none)]) (fun _ => (D, .list []) :: σ) (ie_range (by rfl) (by walk_at "k") (by kernel_rfl) ?_ (by rfl))
  refine ev_callB (f := "len") (id := "len") (by rfl) (by walk_at "k") (by kernel_rfl) (by decide) ?_ (by rfl)
  refine ev_attr ?_
  refine ev_name (by walk_at "lk") ?_
  refine t1_attr (by walk_at "mem") (HasS.mem (by walk_at "hs")) (by walk_at "k") (by rfl) ?_
  refine cl_len_list (by walk_at "mem") (by walk_at "len") ?_
  with_reducible refine ⟨_, rfl, ?_⟩
  refine ⟨(by walk_at "len"), ?_⟩
  rw [rangeV_map, List.length_map]
  refine ⟨_, (), rfl, ⟨0, _, rfl, by (first | lia | omega)⟩, by walk_at "wk", .refl, fun b σ' hp => trivial, ?_, ?_⟩
  · rintro j rest _ ⟨i, m, e, hi⟩
    obtain ⟨rfl, m', rfl, rfl⟩ := range'_cons e
    have hj : j < cs.length := by (first | lia | omega)
    refine as_name (by walk_at "updg") (by rfl) ?_
    refine ex_one ?_
    refine ex_if ?_
    refine bt_value ?_
    refine ev_callK (v := .ref 61) (by rfl) (by walk_at "k") (by walk_at "k") (by rfl) ?_
    refine evs_cons ?_
    refine ev_sub ?_
    refine ev_sub ?_
    refine ev_attr ?_
    refine ev_name (by walk_at "lk") ?_
    refine t1_attr (by walk_at "mem") (HasS.mem (by walk_at "hs")) (by walk_at "k") (by rfl) ?_
    refine ev_name (by walk_at "lk") ?_
    refine t2_list_itemN (by walk_at "mem") (List.getElem?_eq_getElem hj) (by (first | lia | omega)) ?_
    refine ev_int ?_
    refine t2_tuple_item (by rfl) (by rfl) ?_ (by walk_at "len")
    refine evs_nil ?_
    refine c_is_state_kind hK ?_
    rw [kindS_state]
    with_reducible refine tb_bool ?_
    refine if_f (by first | with_reducible rfl | with_reducible assumption | rfl) ?_
    refine ex_nil ?_
    exact ⟨(), ⟨j + 1, m', rfl, by (first | lia | omega)⟩, by walk_at "wk", .refl⟩
  · rintro _ ⟨i, m, e, hi⟩
    refine ex_one ?_
    refine ex_return ?_
    refine ev_name (by walk_at "lk") ?_
    exact h D
theorem c_drivers {C : Cx} (hK : IsK C) {k : Nat} {σ : Ld} {Q : Vl → Ld → Prop} {a : NA} {nm inm onm cnt w outs cs} (N : NetAt σ a nm inm onm cnt (List.range' 2 w) outs cs) (hw : w ≤ 1000) (hl : cs.length ≤ 1000) (W : WF w cs)
    (h : ∀ D d, Dv w cs.length d → Q (.ref D) ((D, .idict (dM nV d)) :: σ)) : CLc C (k + 1) (.ref 152) [.ref a.x] σ Q := by
  refine clc_post (cl_def (ps := ["netlist"]) (vs' := [.ref a.x]) (ls := ["taken", "name", "bits", "net", "found", "index"]) (by rw [hK]; rfl) (by rw [hK]; kernel_rfl) (by walk_at "b1") rfl (by rfl) rfl (by rfl) ?_)
  show EX _ _ _ _ [("netlist", some (.ref a.x)), ("taken", none), ("name", none), ("bits", none), ("net", none), ("found", none), ("index", none)] _ _
  obtain ⟨h0, h1, h2, h3, h4, h5⟩ := N
  refine ex_cons ?_
  refine ex_assign ?_ (by rfl)
  refine ev_dict (by rfl) (by rfl) (by simp) (by decide) ?_
  refine evp_cons ?_
  refine ev_gint (x := "CONST0") (i := 0) (t := 250) (by rfl) (by walk_at "k") ?_
  refine ev_bool ?_
  refine evp_cons ?_
  refine ev_gint (x := "CONST1") (i := 1) (t := 252) (by rfl) (by walk_at "k") ?_
  refine ev_bool ?_
  refine evp_nil ?_
  refine ⟨dM unitV [(0, ()), (1, ())], rfl, by decide, fun T => ?_⟩
  with_reducible refine ⟨_, (by walk_at "updg"), ?_⟩
  refine ex_cons ?_
  refine ex_for_one (ie_list ?_)
  refine ev_attr ?_
  refine ev_name (by walk_at "lk") ?_
  refine t1_attr (by walk_at "mem") (HasS.mem (by walk_at "hs")) (by walk_at "k") (by rfl) ?_
  with_reducible refine ⟨_, _, rfl, (by walk_at "mem"), ?_⟩
  with_reducible refine ⟨_, rfl, ?_⟩
  refine ⟨by walk_at "mem", ?_⟩
  refine as_tuple ?_ (by rfl) (by rfl)
  refine ass_cons ?_
  refine as_name (by walk_at "updg") (by rfl) ?_
  refine ass_cons ?_
  refine as_name (by walk_at "updg") (by rfl) ?_
  refine ass_nil ?_
  refine ex_one ?_
  refine ex_for_list nV (fun rest t => ∃ i m, rest = List.range' i m ∧ i + m = 2 + w ∧ Tk t i) (fun _ => [("netlist", some (.ref a.x)), ("taken", some (.ref T)), ("name", none), ("bits", none), ("net", none), ("found", none), ("index", none)]) (fun t => (T, .idict (dM unitV t)) :: σ) (ie_list ?_)
  refine ev_name (by walk_at "lk") ?_
  with_reducible refine ⟨_, _, rfl, (by walk_at "mem"), ?_⟩
  refine ⟨_, [(0, ()), (1, ())], rfl, ⟨2, w, rfl, rfl, ⟨by decide, fun n => ?_⟩⟩, by walk_at "wk", .refl, fun b σ' hp => hp.mem (by walk_at "mem"), ?_, ?_⟩
  · cases n with
    | zero => rfl
    | succ n => cases n with
      | zero => rfl
      | succ n => simp [pget]
  · rintro j rest t ⟨i, m, e, hi, ht⟩
    obtain ⟨rfl, m', rfl, rfl⟩ := range'_cons e
    refine as_name (by walk_at "updg") (by rfl) ?_
    refine ex_cons ?_
    refine ex_if ?_
    refine bt_compare ?_
    refine ev_name (by walk_at "lk") ?_
    refine ev_name (by walk_at "lk") ?_
    with_reducible refine t2_in_dict (by walk_at "mem") ?_
    with_reducible refine ⟨_, rfl, ?_⟩
    rw [dget_isSome, ht.2 j, decide_eq_false (Nat.lt_irrefl j)]
    refine if_f (by first | with_reducible rfl | with_reducible assumption | rfl) ?_
    refine ex_nil ?_
    refine ex_one ?_
    refine ex_assign_sub ?_
    refine ev_bool ?_
    refine ev_name (by walk_at "lk") ?_
    refine ev_name (by walk_at "lk") ?_
    refine t3_dict_setN (v := ()) rfl (by walk_at "upd") (by have := ht.1; (first | lia | omega)) ?_
    exact ⟨_, ⟨j + 1, m', rfl, by (first | lia | omega), ht.step⟩, by walk_at "wk", by walk_at "subp"⟩
  · rintro t ⟨i, m, e, hi, ht⟩
    have := range'_nil e
    subst this
    have hi : i = 2 + w := hi
    subst hi
    refine ⟨by walk_at "mem", ?_⟩
    refine ex_cons ?_
    refine ex_assign ?_ (by rfl)
    refine ev_dict0 ?_
    intro F
    with_reducible refine ⟨_, (by walk_at "updg"), ?_⟩
    refine ex_cons ?_
    refine ex_for_list nV (fun rest (b : List (Nat × Unit) × List (Nat × Nat)) => ∃ i m, rest = List.range' i m ∧ i + m = cs.length ∧ Tk b.1 (2 + w + i) ∧ Dv w i b.2)
      (fun _ => [("netlist", some (.ref a.x)), ("taken", some (.ref T)), ("name", none), ("bits", none), ("net", none), ("found", some (.ref F)), ("index", none)]) (fun b => (F, .idict (dM nV b.2)) :: (T, .idict (dM unitV b.1)) :: σ) (ie_range (by rfl) (by walk_at "k") (by kernel_rfl) ?_ (by rfl))
    refine ev_callB (f := "len") (id := "len") (by rfl) (by walk_at "k") (by kernel_rfl) (by decide) ?_ (by rfl)
    refine ev_attr ?_
    refine ev_name (by walk_at "lk") ?_
    refine t1_attr (by walk_at "mem") (HasS.mem (by walk_at "hs")) (by walk_at "k") (by rfl) ?_
    refine cl_len_list (by walk_at "mem") (by walk_at "len") ?_
    with_reducible refine ⟨_, rfl, ?_⟩
    refine ⟨(by walk_at "len"), ?_⟩
    rw [rangeV_map, List.length_map]
    refine ⟨_, (t, []), rfl, ⟨0, _, rfl, by (first | lia | omega), ht, ⟨Nat.le_refl _, fun n => ?_⟩⟩, by walk_at "wk", .refl, fun b σ' hp => trivial, ?_, ?_⟩
    · rw [if_neg (by (first | lia | omega))]; rfl
    · rintro j rest ⟨t, d⟩ ⟨i, m, e, hi, ht, hd⟩
      obtain ⟨rfl, m', rfl, rfl⟩ := range'_cons e
      have hj : j < cs.length := by (first | lia | omega)
      have ho := W.outs j _ (List.getElem?_eq_getElem hj)
      have ht1 : t.length ≤ 2 + w + j := ht.1
      have hd1 : d.length ≤ j := hd.1
      show AS _ _ _ _ _ _ ((F, .idict (dM nV d)) :: (T, .idict (dM unitV t)) :: σ) _
      refine as_name (by walk_at "updg") (by rfl) ?_
      refine ex_cons ?_
      refine ex_assign ?_ (by rfl)
      refine ev_sub ?_
      refine ev_sub ?_
      refine ev_attr ?_
      refine ev_name (by walk_at "lk") ?_
      refine t1_attr (by walk_at "mem") (HasS.mem (by walk_at "hs")) (by walk_at "k") (by rfl) ?_
      refine ev_name (by walk_at "lk") ?_
      refine t2_list_itemN (by walk_at "mem") (List.getElem?_eq_getElem hj) (by (first | lia | omega)) ?_
      refine ev_int ?_
      refine t2_tuple_item (by rfl) (by rfl) ?_ (by walk_at "len")
      with_reducible refine ⟨_, (by walk_at "updg"), ?_⟩
      refine ex_cons ?_
      refine ex_if ?_
      refine bt_compare ?_
      refine ev_name (by walk_at "lk") ?_
      refine ev_name (by walk_at "lk") ?_
      with_reducible refine t2_in_dict (by walk_at "mem") ?_
      with_reducible refine ⟨_, rfl, ?_⟩
      rw [dget_isSome, ho, ht.2 _, decide_eq_false (Nat.lt_irrefl _)]
      refine if_f (by first | with_reducible rfl | with_reducible assumption | rfl) ?_
      refine ex_nil ?_
      refine ex_cons ?_
      refine ex_assign_sub ?_
      refine ev_bool ?_
      refine ev_name (by walk_at "lk") ?_
      refine ev_name (by walk_at "lk") ?_
      refine t3_dict_setN (v := ()) rfl (by walk_at "upd") (by (first | lia | omega)) ?_
      refine ex_one ?_
      refine ex_assign_sub ?_
      refine ev_name (by walk_at "lk") ?_
      refine ev_name (by walk_at "lk") ?_
      refine ev_name (by walk_at "lk") ?_
      refine t3_dict_setN (v := j) rfl (by walk_at "upd") (by (first | lia | omega)) ?_
      exact ⟨(pset t (2 + w + j) (), pset d (2 + w + j) j), ⟨j + 1, m', rfl, by (first | lia | omega), ht.step, hd.step⟩, by walk_at "wk", by walk_at "subp"⟩
    · rintro ⟨t, d⟩ ⟨i, m, e, hi, ht, hd⟩
      have := range'_nil e
      subst this
      have hi : i = cs.length := hi
      subst hi
      refine ex_one ?_
      refine ex_return ?_
      refine ev_name (by walk_at "lk") ?_
      exact ⟨_, by walk_at "subp", h F d hd⟩
noncomputable abbrev GO (a dd DW DU DR lc : Addr) (index count net before turn : Option Vl) : Gm := [("netlist", some (.ref a)), ("driven", some (.ref dd)), ("cells", some (.ref lc)), ("waiting", some (.ref DW)), ("users", some (.ref DU)), ("ready", some (.ref DR)), ("index", index), ("count", count), ("net", net), ("before", before), ("turn", turn)]
theorem c_ordered_cells {C : Cx} (hK : IsK C) {k : Nat} {σ : Ld} {Q : Vl → Ld → Prop} {a : NA} {nm inm onm cnt w outs cs} {dd : Addr} {d : List (Nat × Nat)} (N : NetAt σ a nm inm onm cnt (List.range' 2 w) outs cs) (hw : w ≤ 1000) (hl : cs.length ≤ 1000) (W : WF w cs)
    (hd : (dd, Ob.idict (dM nV d)) ∈ σ) (hD : Dv w cs.length d) (h : ∀ D R, TopO cs.length (dpf w cs) R → Q (.ref D) ((D, .list (R.map nV)) :: σ)) : CLc C (k + 2) (.ref 159) [.ref a.x, .ref dd] σ Q := by
  refine clc_post (cl_def (ps := ["netlist", "driven"]) (vs' := [.ref a.x, .ref dd]) (ls := ["cells", "waiting", "users", "ready", "index", "count", "net", "before", "turn"]) (by rw [hK]; rfl) (by rw [hK]; kernel_rfl) (by walk_at "b2") rfl (by rfl) rfl (by rfl) ?_)
  show EX _ _ _ _ [("netlist", some (.ref a.x)), ("driven", some (.ref dd)), ("cells", none), ("waiting", none), ("users", none), ("ready", none), ("index", none), ("count", none), ("net", none), ("before", none), ("turn", none)] _ _
  obtain ⟨h0, h1, h2, h3, h4, h5⟩ := N
  have hdep := W.dep
  generalize hdp : dpf w cs = dp at *
  refine ex_cons ?_
  refine ex_assign ?_ (by rfl)
  refine ev_attr ?_
  refine ev_name (by walk_at "lk") ?_
  refine t1_attr (by walk_at "mem") (HasS.mem (by walk_at "hs")) (by walk_at "k") (by rfl) ?_
  with_reducible refine ⟨_, (by walk_at "updg"), ?_⟩
  refine ex_cons ?_
  refine ex_assign ?_ (by rfl)
  refine ev_dict0 ?_
  intro DW
  with_reducible refine ⟨_, (by walk_at "updg"), ?_⟩
  refine ex_cons ?_
  refine ex_assign ?_ (by rfl)
  refine ev_dict0 ?_
  intro DU
  with_reducible refine ⟨_, (by walk_at "updg"), ?_⟩
  refine ex_cons ?_
  refine ex_assign ?_ (by rfl)
  refine ev_list ?_
  refine evs_nil ?_
  refine ⟨(by walk_at "len"), ?_⟩
  intro DR
  with_reducible refine ⟨_, (by walk_at "updg"), ?_⟩
  refine ex_cons ?_
  refine ex_for_list nV (fun rest (b : O1) => ∃ i m, rest = List.range' i m ∧ i + m = cs.length ∧ P1 cs.length i dp b) (fun _ => GO a.x dd DW DU DR a.lc none none none none none)
    (fun b => (DR, .list (b.R.map nV)) :: (DU, .idict (dM Vl.ref b.u)) :: (DW, .idict (dM nV b.W)) :: (grp b.L ++ σ)) (ie_range (by rfl) (by walk_at "k") (by kernel_rfl) ?_ (by rfl))
  refine ev_callB (f := "len") (id := "len") (by rfl) (by walk_at "k") (by kernel_rfl) (by decide) ?_ (by rfl)
  refine ev_name (by walk_at "lk") ?_
  refine cl_len_list (by walk_at "mem") (by walk_at "len") ?_
  with_reducible refine ⟨_, rfl, ?_⟩
  refine ⟨(by walk_at "len"), ?_⟩
  rw [rangeV_map, List.length_map]
  refine ⟨_, ⟨[], [], [], []⟩, rfl, ⟨0, _, rfl, by (first | lia | omega), .zero⟩, by walk_at "wk", .refl, fun b σ' hp => trivial, ?_, ?_⟩
  · rintro i rest ⟨Wd, u, L, R⟩ ⟨i', m, e, hi, hP⟩
    obtain ⟨rfl, m', rfl, rfl⟩ := range'_cons e
    have hj : i < cs.length := by (first | lia | omega)
    have h5' : (a.lc, Ob.list (cs.map cellV)) ∈ grp L ++ σ := List.mem_append_right _ h5
    have hd' : (dd, Ob.idict (dM nV d)) ∈ grp L ++ σ := List.mem_append_right _ hd
    have hc := List.getElem?_eq_getElem hj
    have ho := W.outs i _ hc
    have har := W.ar _ (List.getElem_mem hj)
    have hlow := W.low _ (List.getElem_mem hj)
    have hdpi : dp i = dpc w cs[i].ins := by rw [← hdp]; exact dpf_get hj
    dsimp only
    refine as_name (by walk_at "updg") (by rfl) ?_
    refine ex_cons ?_
    refine ex_if ?_
    refine bt_value ?_
    refine ev_callK (v := .ref 61) (by rfl) (by walk_at "k") (by walk_at "k") (by rfl) ?_
    refine evs_cons ?_
    refine ev_sub ?_
    refine ev_sub ?_
    refine ev_name (by walk_at "lk") ?_
    refine ev_name (by walk_at "lk") ?_
    refine t2_list_itemN (by walk_at "mem") hc (by (first | lia | omega)) ?_
    refine ev_int ?_
    refine t2_tuple_item (by rfl) (by rfl) ?_ (by walk_at "len")
    refine evs_nil ?_
    refine c_is_state_kind hK ?_
    rw [kindS_state]
    with_reducible refine tb_bool ?_
    refine if_f (by first | with_reducible rfl | with_reducible assumption | rfl) ?_
    refine ex_nil ?_
    refine ex_cons ?_
    refine ex_assign ?_ (by rfl)
    refine ev_int ?_
    with_reducible refine ⟨_, (by walk_at "updg"), ?_⟩
    refine ex_cons ?_
    refine ex_for_list nV (fun r (b : Nat × List (Nat × Addr) × LU) => ∃ dn, cs[i].ins = dn ++ r ∧ b.1 = (dpc w dn).length ∧ Us cs.length i dp (dpc w dn) (3 * i + dn.length) b.2.1 b.2.2) (fun b => GO a.x dd DW DU DR a.lc (some (nV i)) (some (nV b.1)) none none none)
      (fun b => (DR, .list (R.map nV)) :: (DU, .idict (dM Vl.ref b.2.1)) :: (DW, .idict (dM nV Wd)) :: (grp b.2.2 ++ σ)) (ie_tuple ?_)
    refine ev_sub ?_
    refine ev_sub ?_
    refine ev_name (by walk_at "lk") ?_
    refine ev_name (by walk_at "lk") ?_
    refine t2_list_itemN (by walk_at "mem") hc (by (first | lia | omega)) ?_
    refine ev_int ?_
    refine t2_tuple_item (by rfl) (by rfl) ?_ (by walk_at "len")
    with_reducible refine ⟨_, rfl, ?_⟩
    refine ⟨_, (0, u, L), rfl, ⟨[], rfl, rfl, hP.us.weak (by simp)⟩, by walk_at "wk", .refl, fun _ _ _ => trivial, ?_, ?_⟩
    · rintro n r ⟨ct, u, L⟩ ⟨dn, e2, hct, hU⟩
      have h5' : (a.lc, Ob.list (cs.map cellV)) ∈ grp L ++ σ := List.mem_append_right _ h5
      have hd' : (dd, Ob.idict (dM nV d)) ∈ grp L ++ σ := List.mem_append_right _ hd
      dsimp only at hct hU ⊢
      have hn := hlow n (by rw [e2]; simp)
      have hlen := har.len
      rw [e2] at hlen
      simp at hlen
      refine as_name (by walk_at "updg") (by rfl) ?_
      refine ex_cons ?_
      refine ex_assign ?_ (by rfl)
      refine ev_get (by rfl) ?_
      refine ev_name (by walk_at "lk") ?_
      with_reducible refine ⟨_, _, rfl, (by walk_at "mem"), ?_⟩
      refine evs_cons ?_
      refine ev_name (by walk_at "lk") ?_
      refine evs_cons ?_
      refine ev_neg ?_
      refine evs_nil ?_
      with_reducible refine ⟨_, _, _, rfl, (by walk_at "mem"), ?_⟩
      with_reducible refine ⟨_, (by walk_at "updg"), ?_⟩
      refine ex_one ?_
      refine ex_if ?_
      refine bt_and2 ?_
      refine bt_compare ?_
      refine ev_name (by walk_at "lk") ?_
      refine ev_int ?_
      rw [dget_getI, hD.2 n]
      by_cases q : 2 + w ≤ n
      · rw [if_pos (by (first | lia | omega))]
        have hb : n - (2 + w) < cs.length := by (first | lia | omega)
        generalize hbn : n - (2 + w) = b at hb
        rw [show oI (some b) = (b : Int) from rfl]
        with_reducible refine t2_ge_int ?_
        with_reducible refine ⟨_, rfl, ?_⟩
        refine if_t (by first | with_reducible rfl | with_reducible assumption | rfl) ?_
        refine bt_not ?_
        refine bt_value ?_
        refine ev_callK (v := .ref 61) (by rfl) (by walk_at "k") (by walk_at "k") (by rfl) ?_
        refine evs_cons ?_
        refine ev_sub ?_
        refine ev_sub ?_
        refine ev_name (by walk_at "lk") ?_
        refine ev_name (by walk_at "lk") ?_
        refine t2_list_itemN (j := b) (by walk_at "mem") (List.getElem?_eq_getElem hb) (by (first | lia | omega)) ?_
        refine ev_int ?_
        refine t2_tuple_item (by rfl) (by rfl) ?_ (by walk_at "len")
        refine evs_nil ?_
        refine c_is_state_kind hK ?_
        rw [kindS_state]
        with_reducible refine tb_bool ?_
        refine if_t (by first | with_reducible rfl | with_reducible assumption | rfl) ?_
        refine ex_cons ?_
        refine ex_aug_name (by walk_at "lk") ?_ (by rfl)
        refine ev_int ?_
        with_reducible refine t2_iadd ?_
        with_reducible refine ⟨_, (by walk_at "updg"), ?_⟩
        refine ex_cons ?_
        refine ex_if ?_
        refine bt_compare ?_
        refine ev_name (by walk_at "lk") ?_
        refine ev_name (by walk_at "lk") ?_
        with_reducible refine t2_notin_dict (by walk_at "mem") ?_
        with_reducible refine ⟨_, rfl, ?_⟩
        rw [dget_isSome, hU.eq b]
        have hub : (Us cs.length i dp (dpc w (dn ++ [n])) (3 * i + (dn ++ [n]).length)) = Us cs.length i dp (dpc w dn ++ [b]) (3 * i + dn.length + 1) := by
          rw [dpc_snoc_hi q, hbn]; simp; rfl
        have hctb : ct + 1 = (dpc w (dn ++ [n])).length := by rw [dpc_snoc_hi q]; simp [hct]
        cases hL : pget L b with
        | none =>
          refine if_t (by first | with_reducible rfl | with_reducible assumption | rfl) ?_
          refine ex_one ?_
          refine ex_assign_sub ?_
          refine ev_list ?_
          refine evs_nil ?_
          refine ⟨(by walk_at "len"), ?_⟩
          intro D
          refine ev_name (by walk_at "lk") ?_
          refine ev_name (by walk_at "lk") ?_
          refine t3_dict_setN (v := D) rfl (by walk_at "upd") (by have := hU.le; (first | lia | omega)) ?_
          refine ex_one ?_
          refine ex_expr ?_
          refine ev_append (by rfl) ?_
          refine ev_sub ?_
          refine ev_name (by walk_at "lk") ?_
          refine ev_name (by walk_at "lk") ?_
          refine t2_dict_item (v := .ref D) (by walk_at "mem") (by rw [dget_dM, pget_pset, if_pos rfl]; rfl) ?_
          with_reducible refine ⟨_, _, rfl, (by walk_at "mem"), ?_⟩
          refine ev_name (by walk_at "lk") ?_
          refine ⟨_, _, by walk_at "upd", by simp, ?_⟩
          have hU' := (hU.new (D := D) hL hb).add (b := b) (a := D) (l := []) (by rw [pget_cons, if_pos rfl])
          rw [pset_cons_eq (pget_none.mp hL)] at hU'
          rw [← hub] at hU'
          refine ⟨(ct + 1, pset u b D, (b, (D, [i])) :: L), ⟨dn ++ [n], by simp [e2], hctb, hU'⟩, by walk_at "wk", ?_⟩
          refine .pick (by walk_at "pk") ?_
          refine .pick (by walk_at "pk") ?_
          refine .pick (by walk_at "pk") ?_
          exact .refl
        | some al =>
          obtain ⟨al, ll⟩ := al
          refine if_f (by first | with_reducible rfl | with_reducible assumption | rfl) ?_
          refine ex_nil ?_
          refine ex_one ?_
          refine ex_expr ?_
          refine ev_append (by rfl) ?_
          refine ev_sub ?_
          refine ev_name (by walk_at "lk") ?_
          refine ev_name (by walk_at "lk") ?_
          refine t2_dict_item (v := .ref al) (by walk_at "mem") (by rw [dget_dM, hU.eq, hL]; rfl) ?_
          have hmL : (al, Ob.list (ll.map nV)) ∈ grp L ++ σ := mem_grp hL
          with_reducible refine ⟨_, _, rfl, (by walk_at "mem"), ?_⟩
          refine ev_name (by walk_at "lk") ?_
          have hbl := hU.bd b
          unfold us at hbl
          rw [hL] at hbl
          refine ⟨ll.map nV, _, .tail (.tail (.tail (upd_grp (x := i) hU.nd hL))), by simp at hbl ⊢; (first | lia | omega), ?_⟩
          have hU' := hU.add hL
          rw [← hub] at hU'
          exact ⟨(ct + 1, u, pset L b (al, ll ++ [i])), ⟨dn ++ [n], by simp [e2], hctb, hU'⟩, by walk_at "wk", .refl⟩
      · rw [if_neg (by (first | lia | omega))]
        with_reducible refine t2_ge_int ?_
        with_reducible refine ⟨_, rfl, ?_⟩
        refine if_f (by first | with_reducible rfl | with_reducible assumption | rfl) ?_
        refine if_f (by first | with_reducible rfl | with_reducible assumption | rfl) ?_
        refine ex_nil ?_
        exact ⟨(ct, u, L), ⟨dn ++ [n], by simp [e2], by rw [dpc_snoc_lo q]; exact hct, by rw [dpc_snoc_lo q]; exact hU.weak (by simp)⟩, by walk_at "wk", by walk_at "subp"⟩
    · rintro ⟨ct, u, L⟩ ⟨dn, e2, hct, hU⟩
      rw [List.append_nil] at e2
      dsimp only at hct hU ⊢
      subst hct
      rw [← e2, ← hdpi] at *
      have hwl := hP.wl
      dsimp only at hwl
      refine ex_cons ?_
      refine ex_assign_sub ?_
      refine ev_name (by walk_at "lk") ?_
      refine ev_name (by walk_at "lk") ?_
      refine ev_name (by walk_at "lk") ?_
      refine t3_dict_setN (v := (dp i).length) rfl (by walk_at "upd") (by (first | lia | omega)) ?_
      refine ex_one ?_
      refine ex_if ?_
      refine bt_compare ?_
      refine ev_name (by walk_at "lk") ?_
      refine ev_int ?_
      with_reducible refine t2_eq_int ?_
      with_reducible refine ⟨_, rfl, ?_⟩
      rw [nat_beq0]
      have hlen3 := har.len
      have hR := hP.nd.length_le_of_subset (l₂ := List.range cs.length) fun j hj => List.mem_range.mpr (by have := ((hP.rd j).mp hj).1; (first | lia | omega))
      rw [List.length_range] at hR
      dsimp only at hR
      cases hz : (dp i).length == 0 with
      | true =>
        refine if_t (by first | with_reducible rfl | with_reducible assumption | rfl) ?_
        refine ex_one ?_
        refine ex_expr ?_
        refine ev_append (by rfl) ?_
        refine ev_name (by walk_at "lk") ?_
        with_reducible refine ⟨_, _, rfl, (by walk_at "mem"), ?_⟩
        refine ev_name (by walk_at "lk") ?_
        refine ⟨_, _, by walk_at "upd", by simp; (first | lia | omega), ?_⟩
        refine ⟨⟨_, _, _, _⟩, ⟨i + 1, m', rfl, by (first | lia | omega), hP.next (hU.weak (by (first | lia | omega))) rfl⟩, by walk_at "wk", ?_⟩
        rw [if_pos (beq_iff_eq.mp hz), List.map_append]
        exact .refl
      | false =>
        refine if_f (by first | with_reducible rfl | with_reducible assumption | rfl) ?_
        refine ex_nil ?_
        refine ⟨⟨_, _, _, _⟩, ⟨i + 1, m', rfl, by (first | lia | omega), hP.next (hU.weak (by (first | lia | omega))) rfl⟩, by walk_at "wk", ?_⟩
        rw [if_neg (fun e => by rw [beq_iff_eq.mpr e] at hz; cases hz)]
        exact .refl
  · rintro ⟨Wd, u, L, R⟩ ⟨i, m, e, hi, hP⟩
    have := range'_nil e
    subst this
    have hi : i = cs.length := hi
    subst hi
    dsimp only
    refine ex_cons ?_
    refine ex_assign ?_ (by rfl)
    refine ev_int ?_
    with_reducible refine ⟨_, (by walk_at "updg"), ?_⟩
    refine ex_cons ?_
    have hK0 : Kh cs.length dp 0 (fun j => (pget Wd j).getD 0) R [] := by
      have := Kh.start (N := cs.length) hP.nd hP.rd
      exact ⟨this.nd, this.lt, this.sl, fun j hj => by rw [← this.we j hj, hP.we j, if_pos hj]; rfl, fun j hj => by rw [this.rd j hj, hP.we j, if_pos hj]; rfl, this.tp, this.rl⟩
    have hW0 : ∀ j, j < cs.length → (pget Wd j).isSome := fun j hj => by rw [hP.we j, if_pos hj]; rfl
    have hU := hP.us
    have hWl := hP.wl
    dsimp only at hU hWl
    have h5' : (a.lc, Ob.list (cs.map cellV)) ∈ grp L ++ σ := List.mem_append_right _ h5
    refine ex_while_list (fun n (b : Nat × List (Nat × Nat) × List Nat) => n = cs.length - b.1 ∧ Kh cs.length dp b.1 (fun j => (pget b.2.1 j).getD 0) b.2.2 [] ∧ b.2.1.length ≤ cs.length ∧ ∀ j, j < cs.length → (pget b.2.1 j).isSome)
      (fun b => GO a.x dd DW DU DR a.lc none none none none (some (nV b.1))) (fun b => (DR, .list (b.2.2.map nV)) :: (DU, .idict (dM Vl.ref u)) :: (DW, .idict (dM nV b.2.1)) :: (grp L ++ σ)) cs.length (0, Wd, R) ⟨rfl, hK0, hWl, hW0⟩ (by walk_at "wk") .refl ?_
    rintro n ⟨t, Wd, R⟩ ⟨hn, hKh, hWl, hW⟩
    dsimp only at hn hKh hWl hW ⊢
    have hRl := hKh.le
    refine bt_compare ?_
    refine ev_name (by walk_at "lk") ?_
    refine ev_callB (f := "len") (id := "len") (by rfl) (by walk_at "k") (by kernel_rfl) (by decide) ?_ (by rfl)
    refine ev_name (by walk_at "lk") ?_
    refine cl_len_list (by walk_at "mem") (by walk_at "len") ?_
    with_reducible refine t2_lt_int ?_
    with_reducible refine ⟨_, rfl, ?_⟩
    rw [List.length_map, nat_lt]
    cases ht : decide (t < R.length) with
    | false =>
      refine if_f (by first | with_reducible rfl | with_reducible assumption | rfl) ?_
      refine ex_one ?_
      refine ex_return ?_
      refine ev_name (by walk_at "lk") ?_
      have hte : t = R.length := by have := of_decide_eq_false ht; have := hKh.sl; (first | lia | omega)
      subst hte
      exact ⟨_, by walk_at "subp", h DR R (hKh.fin hdep)⟩
    | true =>
      have ht := of_decide_eq_true ht
      refine if_t (by first | with_reducible rfl | with_reducible assumption | rfl) ?_
      refine ex_cons ?_
      generalize hb : R[t] = b
      have hRt : R[t]? = some b := by rw [List.getElem?_eq_getElem ht, hb]
      have hbN : b < cs.length := hKh.lt b (List.mem_of_getElem? hRt)
      have hct : ∀ j, j < cs.length → (us L b).count j = (dp j).count b := fun j hj => by rw [hU.ct b j, if_pos hj]
      have huN : ∀ j ∈ us L b, j < cs.length := fun j hj => by
        have h1 := List.count_pos_iff.mpr hj
        rw [hU.ct b j] at h1
        by_cases z : j < cs.length
        · exact z
        · rw [if_neg z] at h1
          split at h1 <;> simp at h1
      have hT := hKh.turn hRt hct huN
      have hend : ∀ (Wd R), Kh cs.length dp (t + 1) (fun j => (pget Wd j).getD 0) R [] → Wd.length ≤ cs.length → (∀ j, j < cs.length → (pget Wd j).isSome) → ∃ m, ∃ b' : Nat × List (Nat × Nat) × List Nat, b' = (t + 1, Wd, R) ∧ m < n ∧ (m = cs.length - b'.1 ∧ Kh cs.length dp b'.1 (fun j => (pget b'.2.1 j).getD 0) b'.2.2 [] ∧ b'.2.1.length ≤ cs.length ∧ ∀ j, j < cs.length → (pget b'.2.1 j).isSome) := fun Wd R a b c =>
        ⟨_, (t + 1, Wd, R), rfl, by (first | lia | omega), rfl, a, b, c⟩
      cases hL : pget L b with
      | none =>
        have e0 : us L b = [] := by unfold us; rw [hL]; rfl
        rw [e0] at hT
        refine ex_for_none (ie_list ?_)
        refine ev_get (by rfl) ?_
        refine ev_name (by walk_at "lk") ?_
        with_reducible refine ⟨_, _, rfl, (by walk_at "mem"), ?_⟩
        refine evs_cons ?_
        refine ev_sub ?_
        refine ev_name (by walk_at "lk") ?_
        refine ev_name (by walk_at "lk") ?_
        refine t2_list_itemN (by walk_at "mem") hRt (by (first | lia | omega)) ?_
        refine evs_cons ?_
        refine ev_list ?_
        refine evs_nil ?_
        refine ⟨(by walk_at "len"), ?_⟩
        intro D
        refine evs_nil ?_
        with_reducible refine ⟨_, _, _, rfl, (by walk_at "mem"), ?_⟩
        rw [dget_ref, hU.eq, hL]
        refine ⟨D, [], rfl, by walk_at "mem", rfl, by walk_at "mem", ?_⟩
        refine ex_one ?_
        refine ex_aug_name (by walk_at "lk") ?_ (by rfl)
        refine ev_int ?_
        with_reducible refine t2_iadd ?_
        with_reducible refine ⟨_, (by walk_at "updg"), ?_⟩
        obtain ⟨m, b', rfl, hm, hx⟩ := hend Wd R hT hWl hW
        exact ⟨m, _, hm, hx, by walk_at "wk", by walk_at "subp"⟩
      | some al =>
        obtain ⟨al, ll⟩ := al
        have e0 : us L b = ll := by unfold us; rw [hL]; rfl
        rw [e0] at hT huN
        have hmL : (al, Ob.list (ll.map nV)) ∈ grp L ++ σ := mem_grp hL
        refine ex_for_list nV (fun rest (b : List (Nat × Nat) × List Nat) => Kh cs.length dp (t + 1) (fun j => (pget b.1 j).getD 0) b.2 rest ∧ b.1.length ≤ cs.length ∧ ∀ j, j < cs.length → (pget b.1 j).isSome)
          (fun _ => GO a.x dd DW DU DR a.lc none none none none (some (nV t))) (fun b => (DR, .list (b.2.map nV)) :: (DU, .idict (dM Vl.ref u)) :: (DW, .idict (dM nV b.1)) :: (grp L ++ σ)) (ie_list ?_)
        refine ev_get (by rfl) ?_
        refine ev_name (by walk_at "lk") ?_
        with_reducible refine ⟨_, _, rfl, (by walk_at "mem"), ?_⟩
        refine evs_cons ?_
        refine ev_sub ?_
        refine ev_name (by walk_at "lk") ?_
        refine ev_name (by walk_at "lk") ?_
        refine t2_list_itemN (by walk_at "mem") hRt (by (first | lia | omega)) ?_
        refine evs_cons ?_
        refine ev_list ?_
        refine evs_nil ?_
        refine ⟨(by walk_at "len"), ?_⟩
        intro D
        refine evs_nil ?_
        with_reducible refine ⟨_, _, _, rfl, (by walk_at "mem"), ?_⟩
        rw [dget_ref, hU.eq, hL]
        refine ⟨al, _, rfl, by walk_at "mem", ll, (Wd, R), rfl, ⟨hT, hWl, hW⟩, by walk_at "wk", by walk_at "subp", fun b σ' hp => hp.mem (by walk_at "mem"), ?_, ?_⟩
        · rintro j rest ⟨Wd, R⟩ ⟨hKh, hWl, hW⟩
          dsimp only at hKh hWl hW ⊢
          have hjN : j < cs.length := hKh.rl j (List.mem_cons_self ..)
          have hRl := hKh.le
          obtain ⟨wj, hwj⟩ := Option.isSome_iff_exists.mp (hW j hjN)
          obtain ⟨s1, s2, s3⟩ := hKh.step (fun x => (pget (pset Wd j (wj - 1)) x).getD 0) fun x => by
            rw [pget_pset]
            split
            · rename_i e; subst e; rw [hwj]; rfl
            · rfl
          rw [hwj] at s1
          simp only [pget_pset, if_true, Option.getD_some] at s1 s2 s3
          have hWl' : (pset Wd j (wj - 1)).length ≤ cs.length := by rw [pset_len hwj]; exact hWl
          have hW' : ∀ x, x < cs.length → (pget (pset Wd j (wj - 1)) x).isSome := fun x hx => by
            rw [pget_pset]; split
            · rfl
            · exact hW x hx
          refine as_name (by walk_at "updg") (by rfl) ?_
          refine ex_cons ?_
          refine ex_aug_sub ?_
          refine ev_name (by walk_at "lk") ?_
          refine ev_name (by walk_at "lk") ?_
          refine t2_dict_get (v := nV wj) (by walk_at "mem") (by rw [dget_dM, hwj]; rfl) ?_
          refine ev_int ?_
          with_reducible refine t2_isub ?_
          rw [show (wj : Int) - 1 = ((wj - 1 : Nat) : Int) by (first | lia | omega)]
          refine t3_dict_setN (v := wj - 1) rfl (by walk_at "upd") (by (first | lia | omega)) ?_
          refine ex_one ?_
          refine ex_if ?_
          refine bt_compare ?_
          refine ev_sub ?_
          refine ev_name (by walk_at "lk") ?_
          refine ev_name (by walk_at "lk") ?_
          refine t2_dict_item (v := nV (wj - 1)) (by walk_at "mem") (by rw [dget_dM, pget_pset, if_pos rfl]; rfl) ?_
          refine ev_int ?_
          with_reducible refine t2_eq_int ?_
          with_reducible refine ⟨_, rfl, ?_⟩
          rw [nat_beq0]
          cases hz : wj - 1 == 0 with
          | true =>
            refine if_t (by first | with_reducible rfl | with_reducible assumption | rfl) ?_
            refine ex_one ?_
            refine ex_expr ?_
            refine ev_append (by rfl) ?_
            refine ev_name (by walk_at "lk") ?_
            with_reducible refine ⟨_, _, rfl, (by walk_at "mem"), ?_⟩
            refine ev_name (by walk_at "lk") ?_
            refine ⟨_, _, by walk_at "upd", by simp; (first | lia | omega), ?_⟩
            refine ⟨(pset Wd j (wj - 1), R ++ [j]), ⟨by simpa [pget_pset] using s2 (beq_iff_eq.mp hz), hWl', hW'⟩, by walk_at "wk", ?_⟩
            rw [List.map_append]
            exact .refl
          | false =>
            refine if_f (by first | with_reducible rfl | with_reducible assumption | rfl) ?_
            refine ex_nil ?_
            refine ⟨(pset Wd j (wj - 1), R), ⟨by simpa [pget_pset] using s3 (fun e => by rw [beq_iff_eq.mpr e] at hz; cases hz), hWl', hW'⟩, by walk_at "wk", .refl⟩
        · rintro ⟨Wd, R⟩ ⟨hKh, hWl, hW⟩
          dsimp only at hKh hWl hW
          refine ex_one ?_
          refine ex_aug_name (by walk_at "lk") ?_ (by rfl)
          refine ev_int ?_
          with_reducible refine t2_iadd ?_
          with_reducible refine ⟨_, (by walk_at "updg"), ?_⟩
          obtain ⟨m, b', rfl, hm, hx⟩ := hend Wd R hKh hWl hW
          exact ⟨m, _, hm, hx, by walk_at "wk", by walk_at "subp"⟩
theorem c_comb_order {C : Cx} (hK : IsK C) {k : Nat} {σ : Ld} {Q : Vl → Ld → Prop} {a : NA} {nm inm onm cnt w outs cs} (N : NetAt σ a nm inm onm cnt (List.range' 2 w) outs cs) (hw : w ≤ 1000) (hl : cs.length ≤ 1000) (W : WF w cs)
    (h : ∀ D R, TopO cs.length (dpf w cs) R → Q (.ref D) ((D, .list (R.map nV)) :: σ)) : CLc C (k + 3) (.ref 166) [.ref a.x] σ Q := by
  refine clc_post (cl_def (ps := ["netlist"]) (vs' := [.ref a.x]) (ls := ["order"]) (by rw [hK]; rfl) (by rw [hK]; kernel_rfl) (by walk_at "b1") rfl (by rfl) rfl (by rfl) ?_)
  show EX _ _ _ _ [("netlist", some (.ref a.x)), ("order", none)] _ _
  refine ex_cons ?_
  refine ex_assign ?_ (by rfl)
  refine ev_callK (v := .ref 159) (by rfl) (by walk_at "k") (by walk_at "k") (by rfl) ?_
  refine evs_cons ?_
  refine ev_name (by walk_at "lk") ?_
  refine evs_cons ?_
  refine ev_callK (v := .ref 152) (by rfl) (by walk_at "k") (by walk_at "k") (by rfl) ?_
  refine evs_cons ?_
  refine ev_name (by walk_at "lk") ?_
  refine evs_nil ?_
  refine c_drivers hK N hw hl W ?_
  intro DD d hD
  refine evs_nil ?_
  refine c_ordered_cells hK N.tail hw hl W (List.Mem.head _) hD ?_
  intro DR R hR
  have hRl : R.length = cs.length := by have := hR.1.length_eq; simpa using this
  with_reducible refine ⟨_, (by walk_at "updg"), ?_⟩
  refine ex_cons ?_
  refine ex_if ?_
  refine bt_compare ?_
  refine ev_binop ?_
  refine ev_callB (f := "len") (id := "len") (by rfl) (by walk_at "k") (by kernel_rfl) (by decide) ?_ (by rfl)
  refine ev_name (by walk_at "lk") ?_
  refine cl_len_list (by walk_at "mem") (by walk_at "len") ?_
  refine ev_callB (f := "len") (id := "len") (by rfl) (by walk_at "k") (by kernel_rfl) (by decide) ?_ (by rfl)
  refine ev_callK (v := .ref 145) (by rfl) (by walk_at "k") (by walk_at "k") (by rfl) ?_
  refine evs_cons ?_
  refine ev_name (by walk_at "lk") ?_
  refine evs_nil ?_
  refine c_state_cells hK N.tail.tail hl ?_
  intro DS
  obtain ⟨h0, h1, h2, h3, h4, h5⟩ := N
  refine cl_len_list (by walk_at "mem") (by walk_at "len") ?_
  with_reducible refine t2_add ?_
  refine ev_callB (f := "len") (id := "len") (by rfl) (by walk_at "k") (by kernel_rfl) (by decide) ?_ (by rfl)
  refine ev_attr ?_
  refine ev_name (by walk_at "lk") ?_
  refine t1_attr (by walk_at "mem") (HasS.mem (by walk_at "hs")) (by walk_at "k") (by rfl) ?_
  refine cl_len_list (by walk_at "mem") (by walk_at "len") ?_
  with_reducible refine t2_lt_int ?_
  with_reducible refine ⟨_, rfl, ?_⟩
  refine if_f ?_ ?_
  · simp [hRl]
  refine ex_nil ?_
  refine ex_one ?_
  refine ex_return ?_
  refine ev_name (by walk_at "lk") ?_
  exact ⟨_, by walk_at "subp", h DR R hR⟩

noncomputable def finF (R : List (Nat × Nat)) : Nat → Nat → Nat
  | 0, n => n
  | f + 1, n => match pget R n with
    | none => n
    | some m => finF R f m
noncomputable def fin (R : List (Nat × Nat)) (n : Nat) : Nat := finF R n n
theorem finF_eq {R : List (Nat × Nat)} (h : ∀ a b, pget R a = some b → b < a) : ∀ f g n, n ≤ f → n ≤ g → finF R f n = finF R g n
  | 0, 0, n, _, _ => rfl
  | 0, g + 1, n, hf, _ => by
    have : n = 0 := by (first | lia | omega)
    subst this
    unfold finF
    cases q : pget R 0 with
    | none => rfl
    | some m => have := h _ _ q; (first | lia | omega)
  | f + 1, 0, n, _, hg => by
    have : n = 0 := by (first | lia | omega)
    subst this
    unfold finF
    cases q : pget R 0 with
    | none => rfl
    | some m => have := h _ _ q; (first | lia | omega)
  | f + 1, g + 1, n, hf, hg => by
    unfold finF
    cases q : pget R n with
    | none => rfl
    | some m => have := h _ _ q; exact finF_eq h f g m (by (first | lia | omega)) (by (first | lia | omega))
theorem fin_none {R : List (Nat × Nat)} {n : Nat} (q : pget R n = none) : fin R n = n := by
  unfold fin; cases n with
  | zero => rfl
  | succ n => unfold finF; rw [q]
theorem fin_some {R : List (Nat × Nat)} (h : ∀ a b, pget R a = some b → b < a) {n m : Nat} (q : pget R n = some m) : fin R n = fin R m := by
  have hm := h _ _ q
  unfold fin
  cases n with
  | zero => (first | lia | omega)
  | succ n =>
    conv => lhs; unfold finF
    rw [q]
    exact finF_eq h _ _ _ (by (first | lia | omega)) (Nat.le_refl _)

theorem c_final_net {C : Cx} (hK : IsK C) {k : Nat} {σ : Ld} {Q : Vl → Ld → Prop} {d : Addr} {R : List (Nat × Nat)} {n : Nat} (hd : (d, Ob.idict (dM nV R)) ∈ σ) (hR : ∀ a b, pget R a = some b → b < a)
    (h : Q (nV (fin R n)) σ) : CLc C (k + 1) (.ref 208) [.ref d, nV n] σ Q := by
  refine cl_def (ps := ["replaced", "net"]) (vs' := [.ref d, nV n]) (ls := []) (by rw [hK]; rfl) (by rw [hK]; kernel_rfl) (by walk_at "b2") rfl (by rfl) rfl (by rfl) ?_
  show EX _ _ _ _ [("replaced", some (.ref d)), ("net", some (nV n))] _ _
  refine ex_cons ?_
  refine ex_while_list (fun t m => t = m ∧ fin R m = fin R n) (fun m => [("replaced", some (.ref d)), ("net", some (nV m))]) (fun _ => σ) n n ⟨rfl, rfl⟩ .refl .refl ?_
  rintro t m ⟨ht, e⟩
  refine bt_compare ?_
  refine ev_name (by walk_at "lk") ?_
  refine ev_name (by walk_at "lk") ?_
  with_reducible refine t2_in_dict (by walk_at "mem") ?_
  with_reducible refine ⟨_, rfl, ?_⟩
  rw [dget_isSome]
  cases q : pget R m with
  | none =>
    refine if_f (by first | with_reducible rfl | with_reducible assumption | rfl) ?_
    refine ex_one ?_
    refine ex_return ?_
    refine ev_name (by walk_at "lk") ?_
    rw [fin_none q] at e
    rw [e]
    exact h
  | some m' =>
    refine if_t (by first | with_reducible rfl | with_reducible assumption | rfl) ?_
    refine ex_one ?_
    refine ex_assign ?_ (by rfl)
    refine ev_sub ?_
    refine ev_name (by walk_at "lk") ?_
    refine ev_name (by walk_at "lk") ?_
    refine t2_dict_item (v := nV m') (by walk_at "mem") (by rw [dget_dM, q]; rfl) ?_
    with_reducible refine ⟨_, (by walk_at "updg"), ?_⟩
    exact ⟨m', m', by have := hR _ _ q; (first | lia | omega), ⟨rfl, by rw [← e, fin_some hR q]⟩, by walk_at "wk", .refl⟩
noncomputable abbrev GP (lc x rd CN IN CX : Addr) (index kind out ins param known s a b bit chosen low high : Option Vl) : Gm := [("cells", some (.ref lc)), ("netlist", some (.ref x)), ("replaced", some (.ref rd)), ("counts", some (.ref CN)), ("inverted", some (.ref IN)), ("contexts", some (.ref CX)), ("index", index), ("kind", kind), ("out", out), ("ins", ins), ("param", param), ("known", known), ("s", s), ("a", a), ("b", b), ("bit", bit), ("chosen", chosen), ("low", low), ("high", high)]
theorem c_pass_known {C : Cx} (hK : IsK C) {k : Nat} {τ : Ld} {Q : Vl → Ld → Prop} {na : NA} {nm inm onm cnt w outs cs} {lc rd : Addr} (N : NetAt τ na nm inm onm cnt (List.range' 2 w) outs cs) (hw : w ≤ 1000) (hl : cs.length ≤ 100) (ho : outs.length ≤ 100) (W : WF w cs)
    (h : ∀ ord, TopO cs.length (dpf w cs) ord → Q .none ((rd, .idict (dM nV (pkRun cs outs ord).R)) :: (lc, .list ((pkRun cs outs ord).cells.map cellV)) :: τ)) :
    CLc C (k + 4) (.ref 201) [.ref lc, .ref na.x, .ref rd] ((rd, .idict []) :: (lc, .list (cs.map cellV)) :: τ) Q := by
  refine clc_post (cl_def (ps := ["cells", "netlist", "replaced"]) (vs' := [.ref lc, .ref na.x, .ref rd]) (ls := ["counts", "inverted", "contexts", "index", "kind", "out", "ins", "param", "known", "s", "a", "b", "bit", "chosen", "low", "high"]) (by rw [hK]; rfl) (by rw [hK]; kernel_rfl) (by walk_at "b3") rfl (by rfl) rfl (by rfl) ?_)
  show EX _ _ _ _ [("cells", some (.ref lc)), ("netlist", some (.ref na.x)), ("replaced", some (.ref rd)), ("counts", none), ("inverted", none), ("contexts", none), ("index", none), ("kind", none), ("out", none), ("ins", none), ("param", none), ("known", none), ("s", none), ("a", none), ("b", none), ("bit", none), ("chosen", none), ("low", none), ("high", none)] _ _
  have hUl : (U cs outs).length ≤ 1000 := by
    have : ∀ l : List Cel, (∀ c ∈ l, Ar c) → (l.flatMap (·.ins)).length ≤ 3 * l.length := by
      intro l
      induction l with
      | nil => intro _; simp
      | cons c r ih =>
        intro hA
        have := (hA c (List.mem_cons_self ..)).len
        have := ih fun c hc => hA c (.tail _ hc)
        simp only [List.flatMap_cons, List.length_append, List.length_cons]
        (first | lia | omega)
    have := this cs W.ar
    unfold U
    rw [List.length_append]; (first | lia | omega)
  refine ex_cons ?_
  refine ex_assign ?_ (by rfl)
  refine ev_callK (v := .ref 173) (by rfl) (by walk_at "k") (by walk_at "k") (by rfl) ?_
  refine evs_cons ?_
  refine ev_name (by walk_at "lk") ?_
  refine evs_nil ?_
  refine c_use_counts hK N.tail.tail hUl ?_
  intro CN cd hcd
  with_reducible refine ⟨_, (by walk_at "updg"), ?_⟩
  refine ex_cons ?_
  refine ex_assign ?_ (by rfl)
  refine ev_callK (v := .ref 180) (by rfl) (by walk_at "k") (by walk_at "k") (by rfl) ?_
  refine evs_cons ?_
  refine ev_name (by walk_at "lk") ?_
  refine evs_nil ?_
  refine c_inverter_ins hK N.tail.tail.tail (by (first | lia | omega)) W.ar ?_
  intro IN
  with_reducible refine ⟨_, (by walk_at "updg"), ?_⟩
  refine ex_cons ?_
  refine ex_assign ?_ (by rfl)
  refine ev_dict0 ?_
  intro CX
  with_reducible refine ⟨_, (by walk_at "updg"), ?_⟩
  refine ex_one ?_
  refine ex_forL (ie_reversed (by rfl) (by walk_at "k") (by kernel_rfl) ?_ (by rfl))
  refine ev_callK (v := .ref 166) (by rfl) (by walk_at "k") (by walk_at "k") (by rfl) ?_
  refine evs_cons ?_
  refine ev_name (by walk_at "lk") ?_
  refine evs_nil ?_
  refine c_comb_order hK N.tail.tail.tail.tail.tail hw (by (first | lia | omega)) W ?_
  intro DR ord hord
  have hordl : ord.length = cs.length := by have := hord.1.length_eq; simpa using this
  with_reducible refine ⟨_, _, rfl, (by walk_at "mem"), ?_⟩
  rw [← List.map_reverse]
  refine ⟨Nat, O2, nV, fun rest b => ∃ done, ord.reverse = done ++ rest ∧ P2 cs (U cs outs) (pget (invD cs)) done b, fun _ => GP lc na.x rd CN IN CX none none none none none none none none none none none none none,
    fun b => (CX, .idict (dM Vl.ref b.cx)) :: (IN, .idict (dM nV (invD cs))) :: (CN, .idict (dM nV cd)) :: (rd, .idict (dM nV b.st.R)) :: (lc, .list (b.st.cells.map cellV)) :: (grpK b.L ++ (DR, .list (ord.map nV)) :: τ),
    ord.reverse, ⟨⟨cs, [], fun _ => []⟩, [], []⟩, rfl, ⟨[], rfl, .zero⟩, by walk_at "wk", ?_, ?_, ?_, ?_⟩
  · exact .pick (.tail .head) (.pick (.tail .head) (.pick (.tail .head) (.pick (.tail .head) (.pick (.tail .head) .refl))))
  · intro b σ' hp
    refine hp.mem ?_
    refine .tail _ (.tail _ (.tail _ (.tail _ (.tail _ (List.mem_append_right _ (.head _))))))
  · rintro i rest ⟨⟨cells, R, X⟩, cx, L⟩ ⟨done, e, hP⟩
    dsimp only
    have hi : i < cs.length := by
      have : i ∈ ord.reverse := by rw [e]; simp
      have := hord.1.mem_iff.mp (List.mem_reverse.mp this)
      simpa using this
    have hdl : done.length + rest.length + 1 = cs.length := by
      have := congrArg List.length e
      simp at this; (first | lia | omega)
    obtain ⟨h0, h1, h2, h3, h4, h5⟩ := N
    have h0' := List.mem_append_right (grpK L) (List.mem_cons_of_mem (DR, Ob.list (ord.map nV)) h0)
    have h5' := List.mem_append_right (grpK L) (List.mem_cons_of_mem (DR, Ob.list (ord.map nV)) h5)
    have hc := List.getElem?_eq_getElem hi
    have har := W.ar _ (List.getElem_mem hi)
    have hmem := List.getElem_mem hi
    have hst' : done.foldl (pkStep cs (U cs outs) (pget (invD cs))) ⟨cs, [], fun _ => []⟩ = ⟨cells, R, X⟩ := hP.st.symm
    have hcl : cells.length = cs.length := hP.cl
    have hrl : R.length ≤ done.length := hP.rl
    have hxl : ∀ n, (X n).length ≤ done.length := hP.xl
    have hcxl : cx.length ≤ 2 * done.length := hP.cxl
    have hrel : Rel cx L X := hP.rel
    generalize hce : cs[i] = c at *
    obtain ⟨kd, out, ins⟩ := c
    refine as_name (by walk_at "updg") (by rfl) ?_
    refine ex_cons ?_
    refine ex_assign_tuple ?_
    refine ev_sub ?_
    refine ev_attr ?_
    refine ev_name (by walk_at "lk") ?_
    refine t1_attr (by walk_at "mem") (HasS.mem (by walk_at "hs")) (by walk_at "k") (by rfl) ?_
    refine ev_name (by walk_at "lk") ?_
    refine t2_list_itemN (by walk_at "mem") hc (by (first | lia | omega)) ?_
    refine as_tuple ?_ (by rfl) (by rfl)
    refine ass_cons ?_
    refine as_name (by walk_at "updg") (by rfl) ?_
    refine ass_cons ?_
    refine as_name (by walk_at "updg") (by rfl) ?_
    refine ass_cons ?_
    refine as_name (by walk_at "updg") (by rfl) ?_
    refine ass_cons ?_
    refine as_name (by walk_at "updg") (by rfl) ?_
    refine ass_nil ?_
    refine ex_cons ?_
    refine ex_if ?_
    refine bt_compare ?_
    refine ev_name (by walk_at "lk") ?_
    refine ev_str ?_
    with_reducible refine t2_ne_str ?_
    with_reducible refine ⟨_, rfl, ?_⟩
    rw [kindS_nmux]
    dsimp only
    have hnm : ∀ st', pkStep cs (U cs outs) (pget (invD cs)) ⟨cells, R, X⟩ i = st' → (done ++ [i]).foldl (pkStep cs (U cs outs) (pget (invD cs))) ⟨cs, [], fun _ => []⟩ = st' := fun st' q => by
      rw [List.foldl_append, hst']; exact q
    cases hm : isMux kd with
    | false =>
      refine if_t (by first | with_reducible rfl | with_reducible assumption | rfl) ?_
      refine ex_one ?_
      refine ex_continue ?_
      refine ⟨⟨⟨cells, R, X⟩, cx, L⟩, ⟨done ++ [i], by simp [e], ⟨(hnm _ ?_).symm, hrel, hcl, by simp; (first | lia | omega), fun n => by have := hxl n; simp; (first | lia | omega), by simp; (first | lia | omega)⟩⟩, by walk_at "wk", .refl⟩
      unfold pkStep
      rw [hc]
      cases kd <;> first | rfl | cases hm
    | true =>
      cases kd <;> first | cases hm | skip
      obtain ⟨s, a, b, rfl⟩ := har
      refine if_f (by first | with_reducible rfl | with_reducible assumption | rfl) ?_
      refine ex_nil ?_
      refine ex_cons ?_
      refine ex_assign ?_ (by rfl)
      refine ev_get (by rfl) ?_
      refine ev_name (by walk_at "lk") ?_
      with_reducible refine ⟨_, _, rfl, (by walk_at "mem"), ?_⟩
      refine evs_cons ?_
      refine ev_name (by walk_at "lk") ?_
      refine evs_cons ?_
      refine ev_list ?_
      refine evs_nil ?_
      refine ⟨(by walk_at "len"), ?_⟩
      intro K0
      refine evs_nil ?_
      with_reducible refine ⟨_, _, _, rfl, (by walk_at "mem"), ?_⟩
      with_reducible refine ⟨_, (by walk_at "updg"), ?_⟩
      refine ex_cons ?_
      refine ex_assign_tuple ?_
      refine ev_name (by walk_at "lk") ?_
      refine as_tuple ?_ (by rfl) (by rfl)
      refine ass_cons ?_
      refine as_name (by walk_at "updg") (by rfl) ?_
      refine ass_cons ?_
      refine as_name (by walk_at "updg") (by rfl) ?_
      refine ass_cons ?_
      refine as_name (by walk_at "updg") (by rfl) ?_
      refine ass_nil ?_
      refine ex_cons ?_
      refine ex_assign ?_ (by rfl)
      refine ev_callK (v := .ref 187) (by rfl) (by walk_at "k") (by walk_at "k") (by rfl) ?_
      refine evs_cons ?_
      refine ev_name (by walk_at "lk") ?_
      refine evs_cons ?_
      refine ev_name (by walk_at "lk") ?_
      refine evs_cons ?_
      refine ev_name (by walk_at "lk") ?_
      refine evs_nil ?_
      rw [dget_ref]
      have hk0 : ((pget cx out).getD K0, X out) ∈ (K0, []) :: L := by
        rcases hrel out with ⟨q1, q2⟩ | ⟨ka, q1, q2⟩
        · rw [q1, q2]; exact .head _
        · rw [q1]; exact .tail _ q2
      generalize (pget cx out).getD K0 = ka at hk0
      have hka : (ka, Ob.list ((X out).map pV)) ∈ (K0, Ob.list []) :: (CX, Ob.idict (dM Vl.ref cx)) :: (IN, Ob.idict (dM nV (invD cs))) :: (CN, Ob.idict (dM nV cd)) :: (rd, Ob.idict (dM nV R)) :: (lc, Ob.list (cells.map cellV)) :: (grpK L ++ (DR, Ob.list (ord.map nV)) :: τ) := by
        rcases List.mem_cons.mp hk0 with q | q
        · have q1 := congrArg Prod.fst q
          have q2 := congrArg Prod.snd q
          dsimp only at q1 q2
          rw [q1, q2]; exact .head _
        · exact .tail _ (.tail _ (.tail _ (.tail _ (.tail _ (.tail _ (mem_grpK q))))))
      have hxo := hxl out
      have hca := count_of_mem (outs := outs) (n := a) hmem (by simp)
      have hcb := count_of_mem (outs := outs) (n := b) hmem (by simp)
      have hcnt : ∀ n, (U cs outs).count n ≠ 0 → dget (dM nV cd) (n : Int) = some (nV ((U cs outs).count n)) := fun n q => by
        rw [dget_dM, hcd.2 n, if_neg q]; rfl
      refine c_known_bit hK (by walk_at "mem") (by walk_at "mem") ?_
      with_reducible refine ⟨_, (by walk_at "updg"), ?_⟩
      refine ex_cons ?_
      refine ex_if ?_
      refine bt_compare ?_
      refine ev_name (by walk_at "lk") ?_
      refine ev_int ?_
      with_reducible refine t2_ge_int ?_
      with_reducible refine ⟨_, rfl, ?_⟩
      cases hb : kb (X out) (pget (invD cs)) s with
      | some bit =>
        cases bit with
        | false =>
          have hrun : pkStep cs (U cs outs) (pget (invD cs)) ⟨cells, R, X⟩ i = pkKnown (U cs outs) (pget (invD cs)) ⟨cells, R, X⟩ out a := by
            unfold pkStep; rw [hc]; dsimp only; rw [hb]; rfl
          refine if_t (by first | with_reducible rfl | with_reducible assumption | rfl) ?_
          refine ex_cons ?_
          refine ex_assign ?_ (by rfl)
          refine ev_ifexp ?_
          refine bt_value ?_
          refine ev_name (by walk_at "lk") ?_
          with_reducible refine tb_int ?_
          refine if_f (by first | with_reducible rfl | with_reducible assumption | rfl) ?_
          refine ev_name (by walk_at "lk") ?_
          with_reducible refine ⟨_, (by walk_at "updg"), ?_⟩
          refine ex_cons ?_
          refine ex_assign_sub ?_
          refine ev_callK (v := .ref 194) (by rfl) (by walk_at "k") (by walk_at "k") (by rfl) ?_
          refine evs_cons ?_
          refine ev_name (by walk_at "lk") ?_
          refine evs_cons ?_
          refine ev_name (by walk_at "lk") ?_
          refine evs_cons ?_
          refine ev_name (by walk_at "lk") ?_
          refine evs_nil ?_
          refine c_known_or_net hK (by walk_at "mem") (by walk_at "mem") ?_
          refine ev_name (by walk_at "lk") ?_
          refine ev_name (by walk_at "lk") ?_
          refine t3_dict_setN (v := kon (X out) (pget (invD cs)) a) rfl (by walk_at "upd") (by (first | lia | omega)) ?_
          refine ex_cons ?_
          refine ex_if ?_
          refine bt_compare ?_
          refine ev_sub ?_
          refine ev_name (by walk_at "lk") ?_
          refine ev_name (by walk_at "lk") ?_
          refine t2_dict_item (by walk_at "mem") (hcnt a hca) ?_
          refine ev_int ?_
          with_reducible refine t2_eq_int ?_
          with_reducible refine ⟨_, rfl, ?_⟩
          rw [nat_beq1]
          have hrl' := pset_length R out (kon (X out) (pget (invD cs)) a)
          cases h1 : (U cs outs).count a == 1 with
          | true =>
            refine if_t (by first | with_reducible rfl | with_reducible assumption | rfl) ?_
            refine ex_one ?_
            refine ex_assign_sub ?_
            refine ev_name (by walk_at "lk") ?_
            refine ev_name (by walk_at "lk") ?_
            refine ev_name (by walk_at "lk") ?_
            refine t3_dict_setN (v := ka) rfl (by walk_at "upd") (by (first | lia | omega)) ?_
            refine ex_one ?_
            refine ex_continue ?_
            have hcl' := pset_length cx a ka
            refine ⟨⟨⟨cells, pset R out (kon (X out) (pget (invD cs)) a), putX X a (X out)⟩, pset cx a ka, (K0, []) :: L⟩, ⟨done ++ [i], by simp [e], ⟨(hnm _ ?_).symm, (hrel.mono fun p hp => .tail _ hp).put hk0, hcl, by simp; (first | lia | omega), putX_len (fun n => by have := hxl n; simp; (first | lia | omega)) (by simp; (first | lia | omega)), by simp; (first | lia | omega)⟩⟩, by walk_at "wk", .pick (.tail .head) (.pick (.tail .head) (.pick (.tail .head) (.pick (.tail .head) (.pick (.tail .head) .refl))))⟩
            rw [hrun]; unfold pkKnown; rw [if_pos (beq_iff_eq.mp h1)]
          | false =>
            refine if_f (by first | with_reducible rfl | with_reducible assumption | rfl) ?_
            refine ex_nil ?_
            refine ex_one ?_
            refine ex_continue ?_
            refine ⟨⟨⟨cells, pset R out (kon (X out) (pget (invD cs)) a), X⟩, cx, (K0, []) :: L⟩, ⟨done ++ [i], by simp [e], ⟨(hnm _ ?_).symm, hrel.mono fun p hp => .tail _ hp, hcl, by simp; (first | lia | omega), fun n => by have := hxl n; simp; (first | lia | omega), by simp; (first | lia | omega)⟩⟩, by walk_at "wk", .pick (.tail .head) (.pick (.tail .head) (.pick (.tail .head) (.pick (.tail .head) (.pick (.tail .head) .refl))))⟩
            rw [hrun]; unfold pkKnown; rw [if_neg fun z => by rw [beq_iff_eq.mpr z] at h1; cases h1]
        | true =>
          have hrun : pkStep cs (U cs outs) (pget (invD cs)) ⟨cells, R, X⟩ i = pkKnown (U cs outs) (pget (invD cs)) ⟨cells, R, X⟩ out b := by
            unfold pkStep; rw [hc]; dsimp only; rw [hb]; rfl
          refine if_t (by first | with_reducible rfl | with_reducible assumption | rfl) ?_
          refine ex_cons ?_
          refine ex_assign ?_ (by rfl)
          refine ev_ifexp ?_
          refine bt_value ?_
          refine ev_name (by walk_at "lk") ?_
          with_reducible refine tb_int ?_
          refine if_t (by first | with_reducible rfl | with_reducible assumption | rfl) ?_
          refine ev_name (by walk_at "lk") ?_
          with_reducible refine ⟨_, (by walk_at "updg"), ?_⟩
          refine ex_cons ?_
          refine ex_assign_sub ?_
          refine ev_callK (v := .ref 194) (by rfl) (by walk_at "k") (by walk_at "k") (by rfl) ?_
          refine evs_cons ?_
          refine ev_name (by walk_at "lk") ?_
          refine evs_cons ?_
          refine ev_name (by walk_at "lk") ?_
          refine evs_cons ?_
          refine ev_name (by walk_at "lk") ?_
          refine evs_nil ?_
          refine c_known_or_net hK (by walk_at "mem") (by walk_at "mem") ?_
          refine ev_name (by walk_at "lk") ?_
          refine ev_name (by walk_at "lk") ?_
          refine t3_dict_setN (v := kon (X out) (pget (invD cs)) b) rfl (by walk_at "upd") (by (first | lia | omega)) ?_
          refine ex_cons ?_
          refine ex_if ?_
          refine bt_compare ?_
          refine ev_sub ?_
          refine ev_name (by walk_at "lk") ?_
          refine ev_name (by walk_at "lk") ?_
          refine t2_dict_item (by walk_at "mem") (hcnt b hcb) ?_
          refine ev_int ?_
          with_reducible refine t2_eq_int ?_
          with_reducible refine ⟨_, rfl, ?_⟩
          rw [nat_beq1]
          have hrl' := pset_length R out (kon (X out) (pget (invD cs)) b)
          cases h1 : (U cs outs).count b == 1 with
          | true =>
            refine if_t (by first | with_reducible rfl | with_reducible assumption | rfl) ?_
            refine ex_one ?_
            refine ex_assign_sub ?_
            refine ev_name (by walk_at "lk") ?_
            refine ev_name (by walk_at "lk") ?_
            refine ev_name (by walk_at "lk") ?_
            refine t3_dict_setN (v := ka) rfl (by walk_at "upd") (by (first | lia | omega)) ?_
            refine ex_one ?_
            refine ex_continue ?_
            have hcl' := pset_length cx b ka
            refine ⟨⟨⟨cells, pset R out (kon (X out) (pget (invD cs)) b), putX X b (X out)⟩, pset cx b ka, (K0, []) :: L⟩, ⟨done ++ [i], by simp [e], ⟨(hnm _ ?_).symm, (hrel.mono fun p hp => .tail _ hp).put hk0, hcl, by simp; (first | lia | omega), putX_len (fun n => by have := hxl n; simp; (first | lia | omega)) (by simp; (first | lia | omega)), by simp; (first | lia | omega)⟩⟩, by walk_at "wk", .pick (.tail .head) (.pick (.tail .head) (.pick (.tail .head) (.pick (.tail .head) (.pick (.tail .head) .refl))))⟩
            rw [hrun]; unfold pkKnown; rw [if_pos (beq_iff_eq.mp h1)]
          | false =>
            refine if_f (by first | with_reducible rfl | with_reducible assumption | rfl) ?_
            refine ex_nil ?_
            refine ex_one ?_
            refine ex_continue ?_
            refine ⟨⟨⟨cells, pset R out (kon (X out) (pget (invD cs)) b), X⟩, cx, (K0, []) :: L⟩, ⟨done ++ [i], by simp [e], ⟨(hnm _ ?_).symm, hrel.mono fun p hp => .tail _ hp, hcl, by simp; (first | lia | omega), fun n => by have := hxl n; simp; (first | lia | omega), by simp; (first | lia | omega)⟩⟩, by walk_at "wk", .pick (.tail .head) (.pick (.tail .head) (.pick (.tail .head) (.pick (.tail .head) (.pick (.tail .head) .refl))))⟩
            rw [hrun]; unfold pkKnown; rw [if_neg fun z => by rw [beq_iff_eq.mpr z] at h1; cases h1]
      | none =>
        have hrun : pkStep cs (U cs outs) (pget (invD cs)) ⟨cells, R, X⟩ i = pkOpen (U cs outs) (pget (invD cs)) ⟨cells, R, X⟩ i out s a b := by
          unfold pkStep; rw [hc]; dsimp only; rw [hb]
        refine if_f (by first | with_reducible rfl | with_reducible assumption | rfl) ?_
        refine ex_nil ?_
        refine ex_cons ?_
        refine ex_assign ?_ (by rfl)
        refine ev_binop ?_
        refine ev_name (by walk_at "lk") ?_
        refine ev_list ?_
        refine evs_cons ?_
        refine ev_tuple ?_
        refine evs_cons ?_
        refine ev_name (by walk_at "lk") ?_
        refine evs_cons ?_
        refine ev_int ?_
        refine evs_nil ?_
        refine ⟨(by walk_at "len"), ?_⟩
        refine evs_nil ?_
        refine ⟨(by walk_at "len"), ?_⟩
        intro T1
        refine t2_add_known (p := (s, false)) (by walk_at "mem") (by walk_at "mem") (by rfl) (by (first | lia | omega)) ?_
        intro LO
        with_reducible refine ⟨_, (by walk_at "updg"), ?_⟩
        refine ex_cons ?_
        refine ex_assign ?_ (by rfl)
        refine ev_binop ?_
        refine ev_name (by walk_at "lk") ?_
        refine ev_list ?_
        refine evs_cons ?_
        refine ev_tuple ?_
        refine evs_cons ?_
        refine ev_name (by walk_at "lk") ?_
        refine evs_cons ?_
        refine ev_int ?_
        refine evs_nil ?_
        refine ⟨(by walk_at "len"), ?_⟩
        refine evs_nil ?_
        refine ⟨(by walk_at "len"), ?_⟩
        intro T2
        refine t2_add_known (p := (s, true)) (by walk_at "mem") (by walk_at "mem") (by rfl) (by (first | lia | omega)) ?_
        intro HI
        with_reducible refine ⟨_, (by walk_at "updg"), ?_⟩
        refine ex_cons ?_
        refine ex_assign_sub ?_
        refine ev_tuple ?_
        refine evs_cons ?_
        refine ev_name (by walk_at "lk") ?_
        refine evs_cons ?_
        refine ev_name (by walk_at "lk") ?_
        refine evs_cons ?_
        refine ev_tuple ?_
        refine evs_cons ?_
        refine ev_name (by walk_at "lk") ?_
        refine evs_cons ?_
        refine ev_callK (v := .ref 194) (by rfl) (by walk_at "k") (by walk_at "k") (by rfl) ?_
        refine evs_cons ?_
        refine ev_name (by walk_at "lk") ?_
        refine evs_cons ?_
        refine ev_name (by walk_at "lk") ?_
        refine evs_cons ?_
        refine ev_name (by walk_at "lk") ?_
        refine evs_nil ?_
        refine c_known_or_net hK (by walk_at "mem") (by walk_at "mem") ?_
        refine evs_cons ?_
        refine ev_callK (v := .ref 194) (by rfl) (by walk_at "k") (by walk_at "k") (by rfl) ?_
        refine evs_cons ?_
        refine ev_name (by walk_at "lk") ?_
        refine evs_cons ?_
        refine ev_name (by walk_at "lk") ?_
        refine evs_cons ?_
        refine ev_name (by walk_at "lk") ?_
        refine evs_nil ?_
        refine c_known_or_net hK (by walk_at "mem") (by walk_at "mem") ?_
        refine evs_nil ?_
        refine ⟨(by walk_at "len"), ?_⟩
        refine evs_cons ?_
        refine ev_name (by walk_at "lk") ?_
        refine evs_nil ?_
        refine ⟨(by walk_at "len"), ?_⟩
        refine ev_name (by walk_at "lk") ?_
        refine ev_name (by walk_at "lk") ?_
        refine t3_list_setN (l := cells) (f := cellV) (v := (⟨.mux, out, [s, kon (X out ++ [(s, false)]) (pget (invD cs)) a, kon (X out ++ [(s, true)]) (pget (invD cs)) b]⟩ : Cel)) (by (first | lia | omega)) (by rfl) (by walk_at "upd") (by (first | lia | omega)) ?_
        refine ex_cons ?_
        refine ex_if ?_
        refine bt_compare ?_
        refine ev_sub ?_
        refine ev_name (by walk_at "lk") ?_
        refine ev_name (by walk_at "lk") ?_
        refine t2_dict_item (by walk_at "mem") (hcnt a hca) ?_
        refine ev_int ?_
        with_reducible refine t2_eq_int ?_
        with_reducible refine ⟨_, rfl, ?_⟩
        rw [nat_beq1]
        have hrel' : Rel cx ((HI, X out ++ [(s, true)]) :: (T2, [(s, true)]) :: (LO, X out ++ [(s, false)]) :: (T1, [(s, false)]) :: (K0, []) :: L) X := hrel.mono fun p hp => .tail _ (.tail _ (.tail _ (.tail _ (.tail _ hp))))
        cases h1 : (U cs outs).count a == 1 with
        | true =>
          refine if_t (by first | with_reducible rfl | with_reducible assumption | rfl) ?_
          refine ex_one ?_
          refine ex_assign_sub ?_
          refine ev_name (by walk_at "lk") ?_
          refine ev_name (by walk_at "lk") ?_
          refine ev_name (by walk_at "lk") ?_
          refine t3_dict_setN (v := LO) rfl (by walk_at "upd") (by (first | lia | omega)) ?_
          refine ex_one ?_
          refine ex_if ?_
          refine bt_compare ?_
          refine ev_sub ?_
          refine ev_name (by walk_at "lk") ?_
          refine ev_name (by walk_at "lk") ?_
          have hcl1 := pset_length cx a LO
          refine t2_dict_item (by walk_at "mem") (hcnt b hcb) ?_
          refine ev_int ?_
          with_reducible refine t2_eq_int ?_
          with_reducible refine ⟨_, rfl, ?_⟩
          rw [nat_beq1]
          cases h2 : (U cs outs).count b == 1 with
          | true =>
            refine if_t (by first | with_reducible rfl | with_reducible assumption | rfl) ?_
            refine ex_one ?_
            refine ex_assign_sub ?_
            refine ev_name (by walk_at "lk") ?_
            refine ev_name (by walk_at "lk") ?_
            refine ev_name (by walk_at "lk") ?_
            refine t3_dict_setN (v := HI) rfl (by walk_at "upd") (by (first | lia | omega)) ?_
            have hcl2 := pset_length (pset cx a LO) b HI
            refine ⟨⟨⟨cells.set i ⟨.mux, out, [s, kon (X out ++ [(s, false)]) (pget (invD cs)) a, kon (X out ++ [(s, true)]) (pget (invD cs)) b]⟩, R, (putX (putX X a (X out ++ [(s, false)])) b (X out ++ [(s, true)]))⟩, (pset (pset cx a LO) b HI), (HI, X out ++ [(s, true)]) :: (T2, [(s, true)]) :: (LO, X out ++ [(s, false)]) :: (T1, [(s, false)]) :: (K0, []) :: L⟩, ⟨done ++ [i], by simp [e], ⟨(hnm _ ?_).symm, ((hrel'.put (.tail _ (.tail _ (.head _)))).put (.head _)), by simp [hcl], by simp; (first | lia | omega), (putX_len (putX_len (fun n => by have := hxl n; simp; (first | lia | omega)) (by simp; (first | lia | omega))) (by simp; (first | lia | omega))), by simp; (first | lia | omega)⟩⟩, by walk_at "wk", .pick (.tail (.tail (.tail (.tail (.tail .head))))) (.pick (.tail (.tail (.tail (.tail (.tail .head))))) (.pick (.tail (.tail (.tail (.tail (.tail .head))))) (.pick (.tail (.tail (.tail (.tail (.tail .head))))) (.pick (.tail (.tail (.tail (.tail (.tail .head))))) .refl))))⟩
            rw [hrun]; unfold pkOpen; dsimp only; rw [if_pos (beq_iff_eq.mp h1), if_pos (beq_iff_eq.mp h2)]
          | false =>
            refine if_f (by first | with_reducible rfl | with_reducible assumption | rfl) ?_
            refine ex_nil ?_
            refine ⟨⟨⟨cells.set i ⟨.mux, out, [s, kon (X out ++ [(s, false)]) (pget (invD cs)) a, kon (X out ++ [(s, true)]) (pget (invD cs)) b]⟩, R, (putX X a (X out ++ [(s, false)]))⟩, (pset cx a LO), (HI, X out ++ [(s, true)]) :: (T2, [(s, true)]) :: (LO, X out ++ [(s, false)]) :: (T1, [(s, false)]) :: (K0, []) :: L⟩, ⟨done ++ [i], by simp [e], ⟨(hnm _ ?_).symm, (hrel'.put (.tail _ (.tail _ (.head _)))), by simp [hcl], by simp; (first | lia | omega), (putX_len (fun n => by have := hxl n; simp; (first | lia | omega)) (by simp; (first | lia | omega))), by simp; (first | lia | omega)⟩⟩, by walk_at "wk", .pick (.tail (.tail (.tail (.tail (.tail .head))))) (.pick (.tail (.tail (.tail (.tail (.tail .head))))) (.pick (.tail (.tail (.tail (.tail (.tail .head))))) (.pick (.tail (.tail (.tail (.tail (.tail .head))))) (.pick (.tail (.tail (.tail (.tail (.tail .head))))) .refl))))⟩
            rw [hrun]; unfold pkOpen; dsimp only; rw [if_pos (beq_iff_eq.mp h1), if_neg (show ¬ (U cs outs).count b = 1 from fun z => by rw [beq_iff_eq.mpr z] at h2; cases h2)]
        | false =>
          refine if_f (by first | with_reducible rfl | with_reducible assumption | rfl) ?_
          refine ex_nil ?_
          refine ex_one ?_
          refine ex_if ?_
          refine bt_compare ?_
          refine ev_sub ?_
          refine ev_name (by walk_at "lk") ?_
          refine ev_name (by walk_at "lk") ?_
          refine t2_dict_item (by walk_at "mem") (hcnt b hcb) ?_
          refine ev_int ?_
          with_reducible refine t2_eq_int ?_
          with_reducible refine ⟨_, rfl, ?_⟩
          rw [nat_beq1]
          cases h2 : (U cs outs).count b == 1 with
          | true =>
            refine if_t (by first | with_reducible rfl | with_reducible assumption | rfl) ?_
            refine ex_one ?_
            refine ex_assign_sub ?_
            refine ev_name (by walk_at "lk") ?_
            refine ev_name (by walk_at "lk") ?_
            refine ev_name (by walk_at "lk") ?_
            refine t3_dict_setN (v := HI) rfl (by walk_at "upd") (by (first | lia | omega)) ?_
            have hcl2 := pset_length cx b HI
            refine ⟨⟨⟨cells.set i ⟨.mux, out, [s, kon (X out ++ [(s, false)]) (pget (invD cs)) a, kon (X out ++ [(s, true)]) (pget (invD cs)) b]⟩, R, (putX X b (X out ++ [(s, true)]))⟩, (pset cx b HI), (HI, X out ++ [(s, true)]) :: (T2, [(s, true)]) :: (LO, X out ++ [(s, false)]) :: (T1, [(s, false)]) :: (K0, []) :: L⟩, ⟨done ++ [i], by simp [e], ⟨(hnm _ ?_).symm, (hrel'.put (.head _)), by simp [hcl], by simp; (first | lia | omega), (putX_len (fun n => by have := hxl n; simp; (first | lia | omega)) (by simp; (first | lia | omega))), by simp; (first | lia | omega)⟩⟩, by walk_at "wk", .pick (.tail (.tail (.tail (.tail (.tail .head))))) (.pick (.tail (.tail (.tail (.tail (.tail .head))))) (.pick (.tail (.tail (.tail (.tail (.tail .head))))) (.pick (.tail (.tail (.tail (.tail (.tail .head))))) (.pick (.tail (.tail (.tail (.tail (.tail .head))))) .refl))))⟩
            rw [hrun]; unfold pkOpen; dsimp only; rw [if_neg (show ¬ (U cs outs).count a = 1 from fun z => by rw [beq_iff_eq.mpr z] at h1; cases h1), if_pos (beq_iff_eq.mp h2)]
          | false =>
            refine if_f (by first | with_reducible rfl | with_reducible assumption | rfl) ?_
            refine ex_nil ?_
            refine ⟨⟨⟨cells.set i ⟨.mux, out, [s, kon (X out ++ [(s, false)]) (pget (invD cs)) a, kon (X out ++ [(s, true)]) (pget (invD cs)) b]⟩, R, X⟩, cx, (HI, X out ++ [(s, true)]) :: (T2, [(s, true)]) :: (LO, X out ++ [(s, false)]) :: (T1, [(s, false)]) :: (K0, []) :: L⟩, ⟨done ++ [i], by simp [e], ⟨(hnm _ ?_).symm, hrel', by simp [hcl], by simp; (first | lia | omega), (fun n => by have := hxl n; simp; (first | lia | omega)), by simp; (first | lia | omega)⟩⟩, by walk_at "wk", .pick (.tail (.tail (.tail (.tail (.tail .head))))) (.pick (.tail (.tail (.tail (.tail (.tail .head))))) (.pick (.tail (.tail (.tail (.tail (.tail .head))))) (.pick (.tail (.tail (.tail (.tail (.tail .head))))) (.pick (.tail (.tail (.tail (.tail (.tail .head))))) .refl))))⟩
            rw [hrun]; unfold pkOpen; dsimp only; rw [if_neg (show ¬ (U cs outs).count a = 1 from fun z => by rw [beq_iff_eq.mpr z] at h1; cases h1), if_neg (show ¬ (U cs outs).count b = 1 from fun z => by rw [beq_iff_eq.mpr z] at h2; cases h2)]
  · rintro b ⟨done, e, hP⟩
    rw [List.append_nil] at e
    subst e
    have hh := h ord hord
    unfold pkRun at hh
    rw [← hP.st] at hh
    refine ⟨_, ?_, hh⟩
    refine .pick (by walk_at "pk") ?_
    refine .pick (by walk_at "pk") ?_
    refine .sub ?_
    refine .cons _ (.cons _ (.cons _ ?_))
    exact (List.sublist_cons_self ..).trans (List.sublist_append_right ..)
theorem c_init {C : Cx} (hK : IsK C) {k : Nat} {τ : Ld} {Q : Vl → Ld → Prop} {nm : Str} {x dx : Addr} (h : ∀ li lo lc, Q .none (blk ⟨x, dx, li, lo, lc, 0, 0⟩ nm 2 [] [] [] τ)) : CLc C (k + 1) (.ref 75) [.ref x, .str nm] ((x, .inst 134 dx []) :: τ) Q := by
  refine clc_post (cl_def (ps := ["self", "name"]) (vs' := [.ref x, .str nm]) (ls := []) (by rw [hK]; rfl) (by rw [hK]; kernel_rfl) (by walk_at "b2") rfl (by rfl) rfl (by rfl) ?_)
  show EX _ _ _ _ [("self", some (.ref x)), ("name", some (.str nm))] _ _
  refine ex_cons ?_
  refine ex_assign_attr ?_
  refine ev_name (by walk_at "lk") ?_
  refine ev_name (by walk_at "lk") ?_
  refine ts_new (by walk_at "mem") (by rfl) (by walk_at "upd") (by walk_at "k") (by simp) ?_; try dsimp only [List.nil_append, List.cons_append]
  refine ex_cons ?_
  refine ex_assign_attr ?_
  refine ev_int ?_
  refine ev_name (by walk_at "lk") ?_
  refine ts_new (by walk_at "mem") (by rfl) (by walk_at "upd") (by walk_at "k") (by simp) ?_; try dsimp only [List.nil_append, List.cons_append]
  refine ex_cons ?_
  refine ex_assign_attr ?_
  refine ev_list ?_
  refine evs_nil ?_
  refine ⟨(by walk_at "len"), ?_⟩
  intro li
  refine ev_name (by walk_at "lk") ?_
  refine ts_new (by walk_at "mem") (by rfl) (by walk_at "upd") (by walk_at "k") (by simp) ?_; try dsimp only [List.nil_append, List.cons_append]
  refine ex_cons ?_
  refine ex_assign_attr ?_
  refine ev_list ?_
  refine evs_nil ?_
  refine ⟨(by walk_at "len"), ?_⟩
  intro lo
  refine ev_name (by walk_at "lk") ?_
  refine ts_new (by walk_at "mem") (by rfl) (by walk_at "upd") (by walk_at "k") (by simp) ?_; try dsimp only [List.nil_append, List.cons_append]
  refine ex_one ?_
  refine ex_assign_attr ?_
  refine ev_list ?_
  refine evs_nil ?_
  refine ⟨(by walk_at "len"), ?_⟩
  intro lc
  refine ev_name (by walk_at "lk") ?_
  refine ts_new (by walk_at "mem") (by rfl) (by walk_at "upd") (by walk_at "k") (by simp) ?_; try dsimp only [List.nil_append, List.cons_append]
  refine ⟨_, ?_, h li lo lc⟩
  exact .pick (.tail (.tail (.tail .head))) (.pick (.tail (.tail .head)) (.pick (.tail .head) (.pick .head .refl)))

theorem c_Netlist {C : Cx} (hK : IsK C) {k : Nat} {τ : Ld} {Q : Vl → Ld → Prop} {nm : Str} (h : ∀ a : NA, Q (.ref a.x) (blk a nm 2 [] [] [] τ)) : CLc C (k + 2) (.ref 134) [.str nm] τ Q := by
  refine cl_make (fI := 75) (by walk_at "k") (by walk_at "k") (by walk_at "k") fun x dx => ?_
  exact c_init hK fun li lo lc => ⟨rfl, h ⟨x, dx, li, lo, lc, 0, 0⟩⟩

theorem c_new_net {C : Cx} (hK : IsK C) {k : Nat} {σ σ' : Ld} {Q : Vl → Ld → Prop} {a : NA} {nm : Str} {c : Nat} (u : Upd a.x (instN a nm c) (instN a nm (c + 1)) σ σ') (h : Q (nV c) σ') : CLc C (k + 1) (.ref 82) [.ref a.x] σ Q := by
  refine cl_def (ps := ["self"]) (vs' := [.ref a.x]) (ls := ["net"]) (by rw [hK]; rfl) (by rw [hK]; kernel_rfl) (by walk_at "b1") rfl (by rfl) rfl (by rfl) ?_
  show EX _ _ _ _ [("self", some (.ref a.x)), ("net", none)] _ _
  have hm := u.mem
  refine ex_cons ?_
  refine ex_assign ?_ (by rfl)
  refine ev_attr ?_
  refine ev_name (by walk_at "lk") ?_
  refine t1_attr (by walk_at "mem") (HasS.mem (by walk_at "hs")) (by walk_at "k") (by rfl) ?_
  with_reducible refine ⟨_, (by walk_at "updg"), ?_⟩
  refine ex_cons ?_
  refine ex_aug_attr ?_
  refine ev_name (by walk_at "lk") ?_
  refine t1_attr (by walk_at "mem") (HasS.mem (by walk_at "hs")) (by walk_at "k") (by rfl) ?_
  refine ev_int ?_
  with_reducible refine t2_iadd ?_
  rw [show (c : Int) + 1 = ((c + 1 : Nat) : Int) from rfl]
  refine ts_old (by walk_at "mem") (by walk_at "updf") (by walk_at "upd") (by walk_at "k") (by simp) ?_
  refine ex_one ?_
  refine ex_return ?_
  refine ev_name (by walk_at "lk") ?_
  exact h

theorem c_new_nets {C : Cx} (hK : IsK C) {k : Nat} {Q : Vl → Ld → Prop} {a : NA} {nm : Str} {c w : Nat} {σf : Nat → Ld} (u : ∀ i, Upd a.x (instN a nm i) (instN a nm (i + 1)) (σf i) (σf (i + 1))) (hw : w ≤ 1000) (h : ∀ D, Q (.ref D) ((D, .list ((List.range' c w).map nV)) :: σf (c + w))) : CLc C (k + 2) (.ref 87) [.ref a.x, nV w] (σf c) Q := by
  refine cl_def (ps := ["self", "width"]) (vs' := [.ref a.x, nV w]) (ls := []) (by rw [hK]; rfl) (by rw [hK]; kernel_rfl) (by walk_at "b2") rfl (by rfl) rfl (by rfl) ?_
  show EX _ _ _ _ [("self", some (.ref a.x)), ("width", some (nV w))] _ _
  refine ex_one ?_
  refine ex_return ?_
  refine ev_comp [("self", some (.ref a.x))] (by rfl) (by walk_at "free") (by rfl) (ie_range (by rfl) (by walk_at "k") (by kernel_rfl) ?_ (by rfl))
  refine ev_name (by walk_at "lk") ?_
  with_reducible refine ⟨_, rfl, ?_⟩
  refine ⟨(by walk_at "len"), ?_⟩
  refine ⟨fun l acc σ' => ∃ i m, l = rangeV i m ∧ i + m = w ∧ acc = (List.range' c i).map nV ∧ σ' = σf (c + i), ⟨0, w, rfl, by (first | lia | omega), rfl, rfl⟩, by simp [rangeV]; (first | lia | omega), ?_, ?_⟩
  · rintro y l acc σ' ⟨i, m, e, hi, rfl, rfl⟩
    cases m with
    | zero => cases e
    | succ m =>
      rw [rangeV_map, List.range'_succ] at e
      cases e
      refine ⟨trivial, ?_⟩
      show EV _ _ _ _ _ _ _
      have hm := (u (c + i)).mem
      have hu := u (c + i)
      refine ev_meth (f := 82) (by rfl) ?_
      refine ev_name (by walk_at "lk") ?_
      with_reducible refine ⟨_, _, _, _, rfl, (by walk_at "mem"), (by walk_at "k"), (by with_unfolding_all rfl), ?_⟩
      refine evs_nil ?_
      refine c_new_net hK hu ⟨i + 1, m, rfl, by (first | lia | omega), ?_, rfl⟩
      rw [List.range'_concat]; simp
  · rintro acc σ' ⟨i, m, e, hi, rfl, rfl⟩
    rw [rangeV_map] at e
    cases m with
    | succ m => cases e
    | zero =>
      have hi : i = w := hi
      subst hi
      exact ⟨trivial, h⟩

theorem c_add_input {C : Cx} (hK : IsK C) {k : Nat} {τ : Ld} {Q : Vl → Ld → Prop} {a : NA} {nm inm : Str} {c w : Nat} {inl outl cs} (hw : w ≤ 1000) (hi : inl.length ≤ 1000)
    (h : ∀ D I, Q (.ref D) ((I, .list ((List.range' c w).map nV)) :: (D, .list ((List.range' c w).map nV)) :: blk a nm (c + w) (inl ++ [.tup [.str inm, .ref I]]) outl cs τ)) : CLc C (k + 3) (.ref 94) [.ref a.x, .str inm, nV w] (blk a nm c inl outl cs τ) Q := by
  refine cl_def (ps := ["self", "name", "width"]) (vs' := [.ref a.x, .str inm, nV w]) (ls := ["nets"]) (by rw [hK]; rfl) (by rw [hK]; kernel_rfl) (by walk_at "b3") rfl (by rfl) rfl (by rfl) ?_
  show EX _ _ _ _ [("self", some (.ref a.x)), ("name", some (.str inm)), ("width", some (nV w)), ("nets", none)] ((a.x, instN a nm c) :: (a.li, .list inl) :: (a.lo, .list outl) :: (a.lc, .list (cs.map cellV)) :: τ) _
  refine ex_cons ?_
  refine ex_assign ?_ (by rfl)
  refine ev_meth (f := 87) (by rfl) ?_
  refine ev_name (by walk_at "lk") ?_
  with_reducible refine ⟨_, _, _, _, rfl, (by walk_at "mem"), (by walk_at "k"), (by with_unfolding_all rfl), ?_⟩
  refine evs_cons ?_
  refine ev_name (by walk_at "lk") ?_
  refine evs_nil ?_
  refine c_new_nets (σf := fun c => (a.x, instN a nm c) :: (a.li, .list inl) :: (a.lo, .list outl) :: (a.lc, .list (cs.map cellV)) :: τ) hK (fun i => .head) hw ?_
  intro D
  with_reducible refine ⟨_, (by walk_at "updg"), ?_⟩
  refine ex_cons ?_
  refine ex_expr ?_
  refine ev_append (by rfl) ?_
  refine ev_attr ?_
  refine ev_name (by walk_at "lk") ?_
  refine t1_attr (by walk_at "mem") (HasS.mem (by walk_at "hs")) (by walk_at "k") (by rfl) ?_
  with_reducible refine ⟨_, _, rfl, (by walk_at "mem"), ?_⟩
  refine ev_tuple ?_
  refine evs_cons ?_
  refine ev_name (by walk_at "lk") ?_
  refine evs_cons ?_
  refine ev_callT (f := "list") (T := "list") (by rfl) (by walk_at "k") (by kernel_rfl) (by decide) ?_ (by rfl)
  refine ev_name (by walk_at "lk") ?_
  refine cl_list_list (by walk_at "mem") (by walk_at "len") ?_
  intro I
  refine evs_nil ?_
  refine ⟨(by walk_at "len"), ?_⟩
  refine ⟨_, _, by walk_at "upd", by (first | lia | omega), ?_⟩
  refine ex_one ?_
  refine ex_return ?_
  refine ev_name (by walk_at "lk") ?_
  exact h D I

theorem c_add_output {C : Cx} (hK : IsK C) {k : Nat} {τ : Ld} {Q : Vl → Ld → Prop} {a : NA} {nm onm : Str} {c : Nat} {inl outl cs} {r : Addr} {l : List Vl} (hr : (r, Ob.list l) ∈ τ) (hi : outl.length ≤ 1000) (hl : l.length ≤ 1000)
    (h : ∀ O, Q .none ((O, .list l) :: blk a nm c inl (outl ++ [.tup [.str onm, .ref O]]) cs τ)) : CLc C (k + 1) (.ref 101) [.ref a.x, .str onm, .ref r] (blk a nm c inl outl cs τ) Q := by
  refine cl_def (ps := ["self", "name", "nets"]) (vs' := [.ref a.x, .str onm, .ref r]) (ls := []) (by rw [hK]; rfl) (by rw [hK]; kernel_rfl) (by walk_at "b3") rfl (by rfl) rfl (by rfl) ?_
  show EX _ _ _ _ [("self", some (.ref a.x)), ("name", some (.str onm)), ("nets", some (.ref r))] ((a.x, instN a nm c) :: (a.li, .list inl) :: (a.lo, .list outl) :: (a.lc, .list (cs.map cellV)) :: τ) _
  refine ex_one ?_
  refine ex_expr ?_
  refine ev_append (by rfl) ?_
  refine ev_attr ?_
  refine ev_name (by walk_at "lk") ?_
  refine t1_attr (by walk_at "mem") (HasS.mem (by walk_at "hs")) (by walk_at "k") (by rfl) ?_
  with_reducible refine ⟨_, _, rfl, (by walk_at "mem"), ?_⟩
  refine ev_tuple ?_
  refine evs_cons ?_
  refine ev_name (by walk_at "lk") ?_
  refine evs_cons ?_
  refine ev_callT (f := "list") (T := "list") (by rfl) (by walk_at "k") (by kernel_rfl) (by decide) ?_ (by rfl)
  refine ev_name (by walk_at "lk") ?_
  refine cl_list_list (by walk_at "mem") (by walk_at "len") ?_
  intro O
  refine evs_nil ?_
  refine ⟨(by walk_at "len"), ?_⟩
  refine ⟨_, _, by walk_at "upd", by (first | lia | omega), ?_⟩
  exact h O

/-- the ins that a cell is given: a list or a tuple of nets -/
noncomputable def InsV (v : Vl) (l : List Nat) (σ : Ld) : Prop := v = .tup (l.map nV) ∨ ∃ r, v = .ref r ∧ (r, Ob.list (l.map nV)) ∈ σ
theorem InsV.mono {v l σ σ'} (h : InsV v l σ) (k : ∀ p ∈ σ, p ∈ σ') : InsV v l σ' := h.imp_right fun ⟨r, e, m⟩ => ⟨r, e, k _ m⟩

theorem c_drive {C : Cx} (hK : IsK C) {k : Nat} {τ : Ld} {Q : Vl → Ld → Prop} {a : NA} {nm : Str} {c o : Nat} {inl outl cs} {kd : Kd} {v : Vl} {l : List Nat} (hv : InsV v l τ) (hl : l.length ≤ 1000) (hc : cs.length ≤ 1000)
    (h : Q .none (blk a nm c inl outl (cs ++ [⟨kd, o, l⟩]) τ)) : CLc C (k + 1) (.ref 117) [.ref a.x, nV o, .str (kindS kd), v, .none] (blk a nm c inl outl cs τ) Q := by
  refine cl_def (ps := ["self", "out", "kind", "ins", "param"]) (vs' := [.ref a.x, nV o, .str (kindS kd), v, .none]) (ls := []) (by rw [hK]; rfl) (by rw [hK]; kernel_rfl) ?_ rfl (by rfl) rfl (by rfl) ?_
  · intro s rs hX hv
    cases hv with | cons a b => cases b with | cons a2 b => cases b with | cons a3 b => cases b with | cons a4 b => cases b with | cons a5 b => cases b; exact ⟨_, .cons a (.cons a2 (.cons a3 (.cons a4 (.cons a5 .nil)))), kp_binds hX fun S => by rw [hK]; rfl⟩
  show EX _ _ _ _ [("self", some (.ref a.x)), ("out", some (nV o)), ("kind", some (.str (kindS kd))), ("ins", some v), ("param", some .none)] ((a.x, instN a nm c) :: (a.li, .list inl) :: (a.lo, .list outl) :: (a.lc, .list (cs.map cellV)) :: τ) _
  have hh : Q .none ((a.x, instN a nm c) :: (a.li, .list inl) :: (a.lo, .list outl) :: (a.lc, .list (cs.map cellV ++ [cellV ⟨kd, o, l⟩])) :: τ) := by
    unfold blk at h
    rw [List.map_append] at h
    exact h
  rcases hv with rfl | ⟨r, rfl, hr⟩
  · (refine ex_one ?_; refine ex_expr ?_; refine ev_append (by rfl) ?_; refine ev_attr ?_; refine ev_name (by walk_at "lk") ?_; refine t1_attr (by walk_at "mem") (HasS.mem (by walk_at "hs")) (by walk_at "k") (by rfl) ?_; (with_reducible refine ⟨_, _, rfl, (by walk_at "mem"), ?_⟩); refine ev_tuple ?_; refine evs_cons ?_; refine ev_name (by walk_at "lk") ?_; refine evs_cons ?_; refine ev_name (by walk_at "lk") ?_; refine evs_cons ?_; refine ev_callT (f := "tuple") (T := "tuple") (by rfl) (by walk_at "k") (by kernel_rfl) (by decide) ?_ (by rfl); refine ev_name (by walk_at "lk") ?_; refine cl_tuple_tuple ?_; refine evs_cons ?_; refine ev_name (by walk_at "lk") ?_; refine evs_nil ?_; refine ⟨(by walk_at "len"), ?_⟩)
    refine ⟨_, _, by walk_at "upd", by simp; (first | lia | omega), ?_⟩
    exact hh
  · (refine ex_one ?_; refine ex_expr ?_; refine ev_append (by rfl) ?_; refine ev_attr ?_; refine ev_name (by walk_at "lk") ?_; refine t1_attr (by walk_at "mem") (HasS.mem (by walk_at "hs")) (by walk_at "k") (by rfl) ?_; (with_reducible refine ⟨_, _, rfl, (by walk_at "mem"), ?_⟩); refine ev_tuple ?_; refine evs_cons ?_; refine ev_name (by walk_at "lk") ?_; refine evs_cons ?_; refine ev_name (by walk_at "lk") ?_; refine evs_cons ?_; refine ev_callT (f := "tuple") (T := "tuple") (by rfl) (by walk_at "k") (by kernel_rfl) (by decide) ?_ (by rfl); refine ev_name (by walk_at "lk") ?_; refine cl_tuple_list (by walk_at "mem") (by walk_at "len") ?_; refine evs_cons ?_; refine ev_name (by walk_at "lk") ?_; refine evs_nil ?_; refine ⟨(by walk_at "len"), ?_⟩)
    refine ⟨_, _, by walk_at "upd", by simp; (first | lia | omega), ?_⟩
    exact hh

theorem c_add_cell {C : Cx} (hK : IsK C) {k : Nat} {τ : Ld} {Q : Vl → Ld → Prop} {a : NA} {nm : Str} {c : Nat} {inl outl cs} {kd : Kd} {v : Vl} {l : List Nat} (hv : InsV v l τ) (hl : l.length ≤ 1000) (hc : cs.length ≤ 1000)
    (h : Q (nV c) (blk a nm (c + 1) inl outl (cs ++ [⟨kd, c, l⟩]) τ)) : CLc C (k + 2) (.ref 109) [.ref a.x, .str (kindS kd), v] (blk a nm c inl outl cs τ) Q := by
  refine cl_def (ps := ["self", "kind", "ins", "param"]) (vs' := [.ref a.x, .str (kindS kd), v, .none]) (ls := ["out"]) (by rw [hK]; rfl) (by rw [hK]; kernel_rfl) ?_ rfl (by rfl) rfl (by rfl) ?_
  · intro s rs hX hv
    cases hv with | cons a b => cases b with | cons a2 b => cases b with | cons a3 b =>
      cases b
      cases a; cases a2
      exact ⟨_, .cons (.ref _) (.cons (.str _ _) (.cons a3 (.cons .none .nil))), kp_binds hX fun S => by rw [hK]; rfl⟩
  show EX _ _ _ _ [("self", some (.ref a.x)), ("kind", some (.str (kindS kd))), ("ins", some v), ("param", some .none), ("out", none)] ((a.x, instN a nm c) :: (a.li, .list inl) :: (a.lo, .list outl) :: (a.lc, .list (cs.map cellV)) :: τ) _
  refine ex_cons ?_
  refine ex_assign ?_ (by rfl)
  refine ev_meth (f := 82) (by rfl) ?_
  refine ev_name (by walk_at "lk") ?_
  with_reducible refine ⟨_, _, _, _, rfl, (by walk_at "mem"), (by walk_at "k"), (by with_unfolding_all rfl), ?_⟩
  refine evs_nil ?_
  refine c_new_net (c := c) hK .head ?_
  with_reducible refine ⟨_, (by walk_at "updg"), ?_⟩
  refine ex_cons ?_
  refine ex_expr ?_
  refine ev_meth (f := 117) (by rfl) ?_
  refine ev_name (by walk_at "lk") ?_
  with_reducible refine ⟨_, _, _, _, rfl, (by walk_at "mem"), (by walk_at "k"), (by with_unfolding_all rfl), ?_⟩
  refine evs_cons ?_
  refine ev_name (by walk_at "lk") ?_
  refine evs_cons ?_
  refine ev_name (by walk_at "lk") ?_
  refine evs_cons ?_
  refine ev_name (by walk_at "lk") ?_
  refine evs_cons ?_
  refine ev_name (by walk_at "lk") ?_
  refine evs_nil ?_
  refine c_drive (c := c + 1) hK hv hl hc ?_
  refine ex_one ?_
  refine ex_return ?_
  refine ev_name (by walk_at "lk") ?_
  exact h
noncomputable def rb (R : List (Nat × Nat)) (cs : List Cel) : List Cel := (cs.filter fun c => !(pget R c.out).isSome).map fun c => ⟨c.k, c.out, c.ins.map (fin R)⟩
theorem rb_snoc (R : List (Nat × Nat)) (cs : List Cel) (c : Cel) : rb R (cs ++ [c]) = if (pget R c.out).isSome then rb R cs else rb R cs ++ [⟨c.k, c.out, c.ins.map (fin R)⟩] := by
  unfold rb
  rw [List.filter_append, List.map_append]
  rw [List.filter_cons, List.filter_nil]
  cases h : (pget R c.out).isSome
  · rfl
  · rw [if_pos rfl]; exact List.append_nil _
theorem rb_length (R : List (Nat × Nat)) (cs : List Cel) : (rb R cs).length ≤ cs.length := by
  unfold rb; rw [List.length_map]; exact List.length_filter_le ..

theorem c_rebuilt_cells {C : Cx} (hK : IsK C) {k : Nat} {τ : Ld} {Q : Vl → Ld → Prop} {na : NA} {nm inm onm : Str} {cnt ins outs cs0} {lc rd : Addr} {cs : List Cel} {R : List (Nat × Nat)} (N : NetAt τ na nm inm onm cnt ins outs cs0)
    (hc : (lc, Ob.list (cs.map cellV)) ∈ τ) (hr : (rd, Ob.idict (dM nV R)) ∈ τ) (hR : ∀ a b, pget R a = some b → b < a) (hl : cs.length ≤ 100) (ho : outs.length ≤ 100) (hi : ins.length ≤ 100) (hA : ∀ c ∈ cs, c.ins.length ≤ 100)
    (h : ∀ m σn, NetAt (σn ++ τ) m nm inm onm cnt ins (outs.map (fin R)) (rb R cs) → Q (.ref m.x) (σn ++ τ)) : CLc C (k + 4) (.ref 213) [.ref na.x, .ref lc, .ref rd] τ Q := by
  refine clc_post (cl_def (ps := ["netlist", "cells", "replaced"]) (vs' := [.ref na.x, .ref lc, .ref rd]) (ls := ["result", "name", "nets", "kind", "out", "ins", "param"]) (by rw [hK]; rfl) (by rw [hK]; kernel_rfl) (by walk_at "b3") rfl (by rfl) rfl (by rfl) ?_)
  show EX _ _ _ _ [("netlist", some (.ref na.x)), ("cells", some (.ref lc)), ("replaced", some (.ref rd)), ("result", none), ("name", none), ("nets", none), ("kind", none), ("out", none), ("ins", none), ("param", none)] _ _
  obtain ⟨h0, h1, h2, h3, h4, h5⟩ := N
  refine ex_cons ?_
  refine ex_assign ?_ (by rfl)
  refine ev_callK (v := .ref 134) (by rfl) (by walk_at "k") (by walk_at "k") (by rfl) ?_
  refine evs_cons ?_
  refine ev_attr ?_
  refine ev_name (by walk_at "lk") ?_
  refine t1_attr (by walk_at "mem") (HasS.mem (by walk_at "hs")) (by walk_at "k") (by rfl) ?_
  refine evs_nil ?_
  refine c_Netlist hK fun a => ?_
  unfold blk
  with_reducible refine ⟨_, (by walk_at "updg"), ?_⟩
  refine ex_cons ?_
  refine ex_assign_attr ?_
  refine ev_attr ?_
  refine ev_name (by walk_at "lk") ?_
  refine t1_attr (by walk_at "mem") (HasS.mem (by walk_at "hs")) (by walk_at "k") (by rfl) ?_
  refine ev_name (by walk_at "lk") ?_
  refine ts_old (by walk_at "mem") (by walk_at "updf") (by walk_at "upd") (by walk_at "k") (by simp) ?_
  refine ex_cons ?_
  refine ex_for_one (ie_list ?_)
  refine ev_attr ?_
  refine ev_name (by walk_at "lk") ?_
  refine t1_attr (by walk_at "mem") (HasS.mem (by walk_at "hs")) (by walk_at "k") (by rfl) ?_
  with_reducible refine ⟨_, _, rfl, (by walk_at "mem"), ?_⟩
  with_reducible refine ⟨_, rfl, ?_⟩
  refine ⟨by walk_at "mem", ?_⟩
  refine as_tuple ?_ (by rfl) (by rfl)
  refine ass_cons ?_
  refine as_name (by walk_at "updg") (by rfl) ?_
  refine ass_cons ?_
  refine as_name (by walk_at "updg") (by rfl) ?_
  refine ass_nil ?_
  refine ex_one ?_
  refine ex_expr ?_
  refine ev_append (by rfl) ?_
  refine ev_attr ?_
  refine ev_name (by walk_at "lk") ?_
  refine t1_attr (by walk_at "mem") (HasS.mem (by walk_at "hs")) (by walk_at "k") (by rfl) ?_
  with_reducible refine ⟨_, _, rfl, (by walk_at "mem"), ?_⟩
  refine ev_tuple ?_
  refine evs_cons ?_
  refine ev_name (by walk_at "lk") ?_
  refine evs_cons ?_
  refine ev_callT (f := "list") (T := "list") (by rfl) (by walk_at "k") (by kernel_rfl) (by decide) ?_ (by rfl)
  refine ev_name (by walk_at "lk") ?_
  refine cl_list_list (by walk_at "mem") (by walk_at "len") ?_
  intro I
  refine evs_nil ?_
  refine ⟨(by walk_at "len"), ?_⟩
  refine ⟨_, _, by walk_at "upd", by simp, ?_⟩
  refine ⟨by walk_at "mem", ?_⟩
  refine ex_cons ?_
  refine ex_forL (ie_list ?_)
  refine ev_name (by walk_at "lk") ?_
  with_reducible refine ⟨_, _, rfl, (by walk_at "mem"), ?_⟩
  refine ⟨Cel, List Cel, cellV, fun rest done => cs = done ++ rest, fun _ => [("netlist", some (.ref na.x)), ("cells", some (.ref lc)), ("replaced", some (.ref rd)), ("result", some (.ref a.x)), ("name", none), ("nets", none), ("kind", none), ("out", none), ("ins", none), ("param", none)],
    fun done => (a.x, instN a nm cnt) :: (a.li, .list [.tup [.str inm, .ref I]]) :: (a.lo, .list []) :: (a.lc, .list ((rb R done).map cellV)) :: (I, .list (ins.map nV)) :: τ, cs, [], rfl, rfl, by walk_at "wk", ?_, ?_, ?_, ?_⟩
  · exact .pick (.tail .head) (.pick (.tail .head) (.pick (.tail .head) (.pick (.tail .head) (.pick .head .refl))))
  · intro b σ' hp; exact hp.mem (by walk_at "mem")
  · rintro c rest done e
    have hcm : c ∈ cs := by rw [e]; simp
    have hci := hA c hcm
    have hrl := rb_length R done
    have hdl := congrArg List.length e
    simp at hdl
    refine as_tuple ?_ (by rfl) (by rfl)
    refine ass_cons ?_
    refine as_name (by walk_at "updg") (by rfl) ?_
    refine ass_cons ?_
    refine as_name (by walk_at "updg") (by rfl) ?_
    refine ass_cons ?_
    refine as_name (by walk_at "updg") (by rfl) ?_
    refine ass_cons ?_
    refine as_name (by walk_at "updg") (by rfl) ?_
    refine ass_nil ?_
    refine ex_one ?_
    refine ex_if ?_
    refine bt_compare ?_
    refine ev_name (by walk_at "lk") ?_
    refine ev_name (by walk_at "lk") ?_
    with_reducible refine t2_notin_dict (by walk_at "mem") ?_
    with_reducible refine ⟨_, rfl, ?_⟩
    rw [dget_isSome]
    cases q : (pget R c.out).isSome with
    | true =>
      refine if_f (by first | with_reducible rfl | with_reducible assumption | rfl) ?_
      refine ex_nil ?_
      refine ⟨done ++ [c], by simp [e], by walk_at "wk", ?_⟩
      dsimp only
      rw [rb_snoc, if_pos q]
      exact .refl
    | false =>
      refine if_t (by first | with_reducible rfl | with_reducible assumption | rfl) ?_
      refine ex_one ?_
      refine ex_expr ?_
      refine ev_meth (f := 117) (by rfl) ?_
      refine ev_name (by walk_at "lk") ?_
      with_reducible refine ⟨_, _, _, _, rfl, (by walk_at "mem"), (by walk_at "k"), (by with_unfolding_all rfl), ?_⟩
      refine evs_cons ?_
      refine ev_name (by walk_at "lk") ?_
      refine evs_cons ?_
      refine ev_name (by walk_at "lk") ?_
      refine evs_cons ?_
      refine ev_comp [("replaced", some (.ref rd))] (by rfl) (by walk_at "free") (by rfl) (ie_tuple ?_)
      refine ev_name (by walk_at "lk") ?_
      with_reducible refine ⟨_, rfl, ?_⟩
      refine compJ_map c.ins nV (fun n => nV (fin R n)) rfl trivial (by (first | lia | omega)) (fun n hn => ?_) fun D => ?_
      · (refine ev_callK (v := .ref 208) (by rfl) (by walk_at "k") (by walk_at "k") (by rfl) ?_; refine evs_cons ?_; refine ev_name (by walk_at "lk") ?_; refine evs_cons ?_; refine ev_name (by walk_at "lk") ?_; refine evs_nil ?_)
        exact c_final_net hK (by walk_at "mem") hR ⟨rfl, rfl⟩
      refine evs_cons ?_
      refine ev_name (by walk_at "lk") ?_
      refine evs_nil ?_
      refine clc_pre (.pick (.tail .head) (.pick (.tail .head) (.pick (.tail .head) (.pick (.tail .head) .refl)))) (c_drive (l := c.ins.map (fin R)) hK (.inr ⟨D, rfl, ?_⟩) (by simp; (first | lia | omega)) (by (first | lia | omega)) ?_)
      · rw [List.map_map]; exact .head _
      refine ⟨done ++ [c], by simp [e], by walk_at "wk", ?_⟩
      dsimp only
      rw [rb_snoc, if_neg (by rw [q]; exact Bool.false_ne_true)]
      exact .pick .head (.pick .head (.pick .head (.pick .head (.sub (List.sublist_cons_self ..)))))
  · rintro done e
    rw [List.append_nil] at e
    subst e
    have hrl := rb_length R cs
    refine ex_cons ?_
    refine ex_for_one (ie_list ?_)
    refine ev_attr ?_
    refine ev_name (by walk_at "lk") ?_
    refine t1_attr (by walk_at "mem") (HasS.mem (by walk_at "hs")) (by walk_at "k") (by rfl) ?_
    with_reducible refine ⟨_, _, rfl, (by walk_at "mem"), ?_⟩
    with_reducible refine ⟨_, rfl, ?_⟩
    refine ⟨by walk_at "mem", ?_⟩
    refine as_tuple ?_ (by rfl) (by rfl)
    refine ass_cons ?_
    refine as_name (by walk_at "updg") (by rfl) ?_
    refine ass_cons ?_
    refine as_name (by walk_at "updg") (by rfl) ?_
    refine ass_nil ?_
    refine ex_one ?_
    refine ex_expr ?_
    refine ev_meth (f := 101) (by rfl) ?_
    refine ev_name (by walk_at "lk") ?_
    with_reducible refine ⟨_, _, _, _, rfl, (by walk_at "mem"), (by walk_at "k"), (by with_unfolding_all rfl), ?_⟩
    refine evs_cons ?_
    refine ev_name (by walk_at "lk") ?_
    refine evs_cons ?_
    refine ev_comp [("replaced", some (.ref rd))] (by rfl) (by walk_at "free") (by rfl) (ie_list ?_)
    refine ev_name (by walk_at "lk") ?_
    with_reducible refine ⟨_, _, rfl, (by walk_at "mem"), ?_⟩
    refine compJ_map outs nV (fun n => nV (fin R n)) rfl (by walk_at "mem") (by (first | lia | omega)) (fun n hn => ?_) fun D => ?_
    · (refine ev_callK (v := .ref 208) (by rfl) (by walk_at "k") (by walk_at "k") (by rfl) ?_; refine evs_cons ?_; refine ev_name (by walk_at "lk") ?_; refine evs_cons ?_; refine ev_name (by walk_at "lk") ?_; refine evs_nil ?_)
      exact c_final_net hK (by walk_at "mem") hR ⟨rfl, rfl⟩
    refine evs_nil ?_
    refine clc_pre (.pick (.tail .head) (.pick (.tail .head) (.pick (.tail .head) (.pick (.tail .head) .refl)))) (c_add_output (l := (outs.map (fin R)).map nV) hK ?_ (by simp) (by simp; (first | lia | omega)) ?_)
    · rw [List.map_map]; exact .head _
    intro O
    unfold blk
    refine ⟨by walk_at "mem", ?_⟩
    refine ex_one ?_
    refine ex_return ?_
    refine ev_name (by walk_at "lk") ?_
    refine ⟨_, .refl, ?_⟩
    exact h ⟨a.x, a.dx, a.li, a.lo, a.lc, I, O⟩ [(O, .list ((outs.map (fin R)).map nV)), (a.x, instN a nm cnt), (a.li, .list [.tup [.str inm, .ref I]]), (a.lo, .list [.tup [.str onm, .ref O]]), (a.lc, .list ((rb R cs).map cellV)), (D, .list (outs.map fun n => nV (fin R n))), (I, .list (ins.map nV))]
      ⟨.tail _ (.head _), .tail _ (.tail _ (.head _)), .tail _ (.tail _ (.tail _ (.tail _ (.tail _ (.tail _ (.head _)))))), .tail _ (.tail _ (.tail _ (.head _))), .head _, .tail _ (.tail _ (.tail _ (.tail _ (.head _))))⟩
theorem c_draw {C : Cx} (hK : IsK C) {k : Nat} {σ σ' : Ld} {Q : Vl → Ld → Prop} {st r : Addr} {row : List Nat} {at_ many : Nat} (hr : (r, Ob.list (row.map nV)) ∈ σ) (hl : row.length ≤ 1000) (hm : 0 < many) (u : Upd st (storeV r at_) (storeV r (at_ + 1)) σ σ')
    (h : ∀ d, d < many → Q (nV d) σ') : CLc C (k + 1) (.ref 227) [.ref st, nV many] σ Q := by
  refine cl_def (ps := ["store", "many"]) (vs' := [.ref st, nV many]) (ls := []) (by rw [hK]; rfl) (by rw [hK]; kernel_rfl) (by walk_at "b2") rfl (by rfl) rfl (by rfl) ?_
  show EX _ _ _ _ [("store", some (.ref st)), ("many", some (nV many))] _ _
  have hu := u.mem
  have hu' := u.mem'
  have hr' := u.other hr (by intro e; cases e)
  refine ex_cons ?_
  refine ex_assign_sub ?_
  refine ev_binop ?_
  refine ev_sub ?_
  refine ev_name (by walk_at "lk") ?_
  refine ev_str ?_
  refine t2_sdict_item (by walk_at "mem") (by walk_at "hs") ?_
  refine ev_int ?_
  with_reducible refine t2_add ?_
  refine ev_name (by walk_at "lk") ?_
  refine ev_str ?_
  rw [show (at_ : Int) + 1 = ((at_ + 1 : Nat) : Int) from rfl]
  refine t3_sdict_set (l := [("row", .ref r), ("at", nV at_)]) (by walk_at "updf") (by walk_at "upd") (by simp) ?_
  refine ex_cons ?_
  refine ex_if ?_
  refine bt_compare ?_
  refine ev_sub ?_
  refine ev_name (by walk_at "lk") ?_
  refine ev_str ?_
  refine t2_sdict_item (by walk_at "mem") (by walk_at "hs") ?_
  refine ev_callB (f := "len") (id := "len") (by rfl) (by walk_at "k") (by kernel_rfl) (by decide) ?_ (by rfl)
  refine ev_sub ?_
  refine ev_name (by walk_at "lk") ?_
  refine ev_str ?_
  refine t2_sdict_item (by walk_at "mem") (by walk_at "hs") ?_
  refine cl_len_list (by walk_at "mem") (by walk_at "len") ?_
  with_reducible refine t2_gt_int ?_
  with_reducible refine ⟨_, rfl, ?_⟩
  rw [List.length_map, nat_lt]
  by_cases q : row.length < at_ + 1
  · rw [decide_eq_true q]
    refine if_t (by first | with_reducible rfl | with_reducible assumption | rfl) ?_
    refine ex_one ?_
    refine ex_return ?_
    refine ev_int ?_
    exact h 0 hm
  · rw [decide_eq_false q]
    refine if_f (by first | with_reducible rfl | with_reducible assumption | rfl) ?_
    refine ex_nil ?_
    refine ex_one ?_
    refine ex_return ?_
    refine ev_binop ?_
    refine ev_sub ?_
    refine ev_sub ?_
    refine ev_name (by walk_at "lk") ?_
    refine ev_str ?_
    refine t2_sdict_item (by walk_at "mem") (by walk_at "hs") ?_
    refine ev_binop ?_
    refine ev_sub ?_
    refine ev_name (by walk_at "lk") ?_
    refine ev_str ?_
    refine t2_sdict_item (by walk_at "mem") (by walk_at "hs") ?_
    refine ev_int ?_
    with_reducible refine t2_sub ?_
    rw [show ((at_ + 1 : Nat) : Int) - 1 = (at_ : Int) by (first | lia | omega)]
    refine t2_list_itemN (by walk_at "mem") (List.getElem?_eq_getElem (show at_ < row.length by (first | lia | omega))) (by (first | lia | omega)) ?_
    refine ev_name (by walk_at "lk") ?_
    refine t2_mod ?_ (by (first | lia | omega))
    rw [← Int.ofNat_fmod]
    exact h _ (Nat.mod_lt _ hm)

noncomputable abbrev GV (x H : Addr) (line : Nat) (spot kind out ins param bits_now : Option Vl) : Gm := [("netlist", some (.ref x)), ("line", some (nV line)), ("held", some (.ref H)), ("spot", spot), ("name", none), ("nets", none), ("net", none), ("lap", none), ("kind", kind), ("out", out), ("ins", ins), ("param", param), ("bits_now", bits_now)]
theorem c_values {C : Cx} (hK : IsK C) {k : Nat} {σ : Ld} {Q : Vl → Ld → Prop} {na : NA} {nm inm onm : Str} {cnt w line outs cs} {V : Nat → Bool} (N : NetAt σ na nm inm onm cnt (List.range' 2 w) outs cs) (hw : w ≤ 10) (hl : cs.length ≤ 100) (S : Sorted w cs) (hV : Cons w line cs V)
    (h : ∀ D d, Hd d (domW w cs) V → Q (.ref D) ((D, .idict (dM nV d)) :: σ)) : CLc C (k + 1) (.ref 232) [.ref na.x, nV line] σ Q := by
  refine clc_post (cl_def (ps := ["netlist", "line"]) (vs' := [.ref na.x, nV line]) (ls := ["held", "spot", "name", "nets", "net", "lap", "kind", "out", "ins", "param", "bits_now"]) (by rw [hK]; rfl) (by rw [hK]; kernel_rfl) (by walk_at "b2") rfl (by rfl) rfl (by rfl) ?_)
  show EX _ _ _ _ [("netlist", some (.ref na.x)), ("line", some (nV line)), ("held", none), ("spot", none), ("name", none), ("nets", none), ("net", none), ("lap", none), ("kind", none), ("out", none), ("ins", none), ("param", none), ("bits_now", none)] _ _
  obtain ⟨h0, h1, h2, h3, h4, h5⟩ := N
  refine ex_cons ?_
  refine ex_assign ?_ (by rfl)
  refine ev_dict (by rfl) (by rfl) (by simp) (by decide) ?_
  refine evp_cons ?_
  refine ev_int ?_
  refine ev_int ?_
  refine evp_cons ?_
  refine ev_int ?_
  refine ev_int ?_
  refine evp_nil ?_
  refine ⟨dM nV [(0, 0), (1, 1)], rfl, by decide, fun H => ?_⟩
  with_reducible refine ⟨_, (by walk_at "updg"), ?_⟩
  refine ex_cons ?_
  refine ex_assign ?_ (by rfl)
  refine ev_int ?_
  with_reducible refine ⟨_, (by walk_at "updg"), ?_⟩
  refine ex_cons ?_
  refine ex_for_one (ie_list ?_)
  refine ev_attr ?_
  refine ev_name (by walk_at "lk") ?_
  refine t1_attr (by walk_at "mem") (HasS.mem (by walk_at "hs")) (by walk_at "k") (by rfl) ?_
  with_reducible refine ⟨_, _, rfl, (by walk_at "mem"), ?_⟩
  with_reducible refine ⟨_, rfl, ?_⟩
  refine ⟨by walk_at "mem", ?_⟩
  refine as_tuple ?_ (by rfl) (by rfl)
  refine ass_cons ?_
  refine as_name (by walk_at "updg") (by rfl) ?_
  refine ass_cons ?_
  refine as_name (by walk_at "updg") (by rfl) ?_
  refine ass_nil ?_
  refine ex_one ?_
  refine ex_forL (ie_list ?_)
  refine ev_name (by walk_at "lk") ?_
  with_reducible refine ⟨_, _, rfl, (by walk_at "mem"), ?_⟩
  refine ⟨Nat, List (Nat × Nat) × Nat, nV, fun rest b => ∃ m, rest = List.range' (2 + b.2) m ∧ b.2 + m = w ∧ Hd b.1 (fun n => n < 2 + b.2) V ∧ b.1.length ≤ 2 + b.2, fun b => GV na.x H line (some (nV b.2)) none none none none none,
    fun b => (H, .idict (dM nV b.1)) :: σ, List.range' 2 w, ([(0, 0), (1, 1)], 0), rfl, ⟨w, rfl, by (first | lia | omega), ?_, by simp⟩, by walk_at "wk", .refl, fun b σ' hp => hp.mem (by walk_at "mem"), ?_, ?_⟩
  · intro n
    match n with
    | 0 => exact ⟨fun _ => by rw [hV.v0]; rfl, fun q => absurd (by (first | lia | omega)) q⟩
    | 1 => exact ⟨fun _ => by rw [hV.v1]; rfl, fun q => absurd (by (first | lia | omega)) q⟩
    | n + 2 => exact ⟨fun q => by dsimp only at q; (first | lia | omega), fun _ => by simp [pget]⟩
  · rintro n rest ⟨d, j⟩ ⟨m, e, hj, hd, hdl⟩
    dsimp only at hj hd hdl e ⊢
    obtain ⟨rfl, m', rfl, rfl⟩ := range'_cons e
    have hp := pow_le10 (show j ≤ 10 by (first | lia | omega))
    have hp0 : 0 < 2 ^ j := Nat.pow_pos (by decide)
    refine as_name (by walk_at "updg") (by rfl) ?_
    refine ex_cons ?_
    refine ex_assign_sub ?_
    refine ev_binop ?_
    refine ev_binop ?_
    refine ev_name (by walk_at "lk") ?_
    refine ev_binop ?_
    refine ev_int ?_
    refine ev_name (by walk_at "lk") ?_
    refine t2_pow ?_ (Int.natCast_nonneg _) (by rw [show Builtin.Int.intBits 2 = 2 from rfl]; (first | lia | omega))
    rw [pow2]
    refine t2_floordiv ?_ (by (first | lia | omega)) (by (first | lia | omega))
    rw [← Int.ofNat_fdiv]
    refine ev_int ?_
    refine t2_mod ?_ (by (first | lia | omega))
    rw [fmod2, ← hV.vi j (by (first | lia | omega))]
    refine ev_name (by walk_at "lk") ?_
    refine ev_name (by walk_at "lk") ?_
    refine t3_dict_setN (v := (V (2 + j)).toNat) rfl (by walk_at "upd") (by (first | lia | omega)) ?_
    refine ex_one ?_
    refine ex_aug_name (by walk_at "lk") ?_ (by rfl)
    refine ev_int ?_
    with_reducible refine t2_iadd ?_
    with_reducible refine ⟨_, (by walk_at "updg"), ?_⟩
    refine ⟨(pset d (2 + j) (V (2 + j)).toNat, j + 1), ⟨m', rfl, by (first | lia | omega), hd.put.congr fun n => by (first | lia | omega), Hd.len _ hdl _ _⟩, by walk_at "wk", .refl⟩
  · rintro ⟨d, j⟩ ⟨m, e, hj, hd, hdl⟩
    have := range'_nil e
    subst this
    have hj : j = w := hj
    subst hj
    dsimp only at hd hdl
    refine ⟨by walk_at "mem", ?_⟩
    refine ex_cons ?_
    refine ex_forL (ie_range (by rfl) (by walk_at "k") (by kernel_rfl) ?_ (by rfl))
    refine ev_int ?_
    with_reducible refine ⟨_, rfl, ?_⟩
    refine ⟨(by walk_at "len"), ?_⟩
    refine ⟨Nat, List (Nat × Nat), nV, fun rest d => ∃ dom, Hd d dom V ∧ (∀ n, n < 2 + j → dom n) ∧ (∀ n, dom n → domW j cs n) ∧ d.length ≤ 400 - 100 * rest.length ∧ rest.length ≤ 2 ∧ (rest.length ≤ 1 → ∀ n, domW j cs n → dom n),
      fun _ => GV na.x H line none none none none none none, fun d => (H, .idict (dM nV d)) :: σ, [0, 1], d, rfl, ⟨_, hd, fun n q => q, fun n q => .inl q, by simp; (first | lia | omega), by simp, by simp⟩, by walk_at "wk", .refl, fun _ _ _ => trivial, ?_, ?_⟩
    · rintro lap rest d ⟨dom, hd, hlo, hdom, hdl, hr, _⟩
      simp only [List.length_cons] at hdl hr
      refine as_name (by walk_at "updg") (by rfl) ?_
      refine ex_one ?_
      refine ex_forL (ie_list ?_)
      refine ev_attr ?_
      refine ev_name (by walk_at "lk") ?_
      refine t1_attr (by walk_at "mem") (HasS.mem (by walk_at "hs")) (by walk_at "k") (by rfl) ?_
      with_reducible refine ⟨_, _, rfl, (by walk_at "mem"), ?_⟩
      refine ⟨Cel, List (Nat × Nat), cellV, fun rs d => ∃ dom done, cs = done ++ rs ∧ Hd d dom V ∧ (∀ n, domW j done n → dom n) ∧ (∀ n, dom n → domW j cs n) ∧ d.length ≤ (400 - 100 * (rest.length + 1)) + done.length,
        fun _ => GV na.x H line none none none none none none, fun d => (H, .idict (dM nV d)) :: σ, cs, d, rfl, ⟨dom, [], rfl, hd, fun n q => hlo n (q.elim id fun z => by cases z), hdom, by simp; (first | lia | omega)⟩, by walk_at "wk", .refl, fun b σ' hp => hp.mem (by walk_at "mem"), ?_, ?_⟩
      · rintro c rs d ⟨dom, done, e, hd, hsub, hdom, hdl⟩
        have hcm : c ∈ cs := by rw [e]; simp
        have hg := hV.vc c hcm
        have hin := S.ins done c rs e
        have har := S.ar c hcm
        have hdn := congrArg List.length e
        simp only [List.length_append, List.length_cons] at hdn
        have hlen := har.len
        refine as_tuple ?_ (by rfl) (by rfl)
        refine ass_cons ?_
        refine as_name (by walk_at "updg") (by rfl) ?_
        refine ass_cons ?_
        refine as_name (by walk_at "updg") (by rfl) ?_
        refine ass_cons ?_
        refine as_name (by walk_at "updg") (by rfl) ?_
        refine ass_cons ?_
        refine as_name (by walk_at "updg") (by rfl) ?_
        refine ass_nil ?_
        refine ex_cons ?_
        refine ex_if ?_
        refine bt_or2 ?_
        refine bt_compare ?_
        refine ev_name (by walk_at "lk") ?_
        refine ev_name (by walk_at "lk") ?_
        with_reducible refine t2_in_dict (by walk_at "mem") ?_
        with_reducible refine ⟨_, rfl, ?_⟩
        rw [dget_isSome]
        by_cases q : dom c.out
        · rw [hd.isSome q]
          refine if_t (by first | with_reducible rfl | with_reducible assumption | rfl) ?_
          refine if_t (by first | with_reducible rfl | with_reducible assumption | rfl) ?_
          refine ex_one ?_
          refine ex_continue ?_
          refine ⟨d, ⟨dom, done ++ [c], by simp [e], hd, fun n hn => ?_, hdom, by simp; (first | lia | omega)⟩, by walk_at "wk", .refl⟩
          rcases hn with hn | hn
          · exact hsub n (.inl hn)
          · rw [List.map_append, List.mem_append] at hn
            rcases hn with hn | hn
            · exact hsub n (.inr hn)
            · simp at hn; subst hn; exact q
        · rw [(hd c.out).2 q]
          have hdi : ∀ n ∈ c.ins, dom n := fun n hn => hsub n (hin n hn)
          refine if_f (by first | with_reducible rfl | with_reducible assumption | rfl) ?_
          refine bt_compare ?_
          refine ev_bool ?_
          refine ev_comp [("held", some (.ref H))] (by rfl) (by walk_at "free") (by rfl) (ie_tuple ?_)
          refine ev_name (by walk_at "lk") ?_
          with_reducible refine ⟨_, rfl, ?_⟩
          refine compJ_map c.ins nV (fun n => .bool (pget d n).isSome) rfl trivial (by (first | lia | omega)) (fun n hn => ?_) fun D => ?_
          · (refine ev_compare ?_; refine ev_name (by walk_at "lk") ?_; refine ev_name (by walk_at "lk") ?_; with_reducible refine t2_in_dict (by walk_at "mem") ?_)
            rw [dget_isSome]
            exact ⟨rfl, rfl⟩
          rw [show c.ins.map (fun n => Vl.bool (pget d n).isSome) = (c.ins.map fun n => (pget d n).isSome).map Vl.bool by rw [List.map_map]; rfl]
          refine t2_in_bools (.head _) ?_
          rw [any_false fun b hb => by obtain ⟨n, hn, rfl⟩ := List.mem_map.mp hb; exact hd.isSome (hdi n hn)]
          with_reducible refine ⟨_, rfl, ?_⟩
          refine if_f (by first | with_reducible rfl | with_reducible assumption | rfl) ?_
          refine ex_nil ?_
          refine ex_cons ?_
          refine ex_assign_comp [("held", some (.ref H))] (by rfl) (by walk_at "free") (by rfl) (by rfl) (swap_true (by rfl) (by rfl)) (ie_tuple ?_)
          refine ev_name (by walk_at "lk") ?_
          with_reducible refine ⟨_, rfl, ?_⟩
          refine compJ_map c.ins nV (fun n => nV (V n).toNat) rfl trivial (by (first | lia | omega)) (fun n hn => ?_) fun D2 => ?_
          · (refine ev_sub ?_; refine ev_name (by walk_at "lk") ?_; refine ev_name (by walk_at "lk") ?_)
            exact t2_dict_item (by walk_at "mem") (by rw [dget_dM, hd.some (hdi n hn)]; rfl) ⟨rfl, rfl⟩
          have hfin : ∃ b', (∃ dom done, cs = done ++ rs ∧ Hd b' dom V ∧ (∀ n, domW j done n → dom n) ∧ (∀ n, dom n → domW j cs n) ∧ b'.length ≤ (400 - 100 * (rest.length + 1)) + done.length) ∧ b' = pset d c.out (V c.out).toNat := by
            refine ⟨_, ⟨_, done ++ [c], by simp [e], hd.put, fun n hn => ?_, fun n hn => ?_, ?_⟩, rfl⟩
            · rcases hn with hn | hn
              · exact .inl (hsub n (.inl hn))
              · rw [List.map_append, List.mem_append] at hn
                rcases hn with hn | hn
                · exact .inl (hsub n (.inr hn))
                · simp at hn; exact .inr hn
            · rcases hn with hn | hn
              · exact hdom n hn
              · subst hn; exact .inr (List.mem_map.mpr ⟨c, hcm, rfl⟩)
            · have := pset_length d c.out (V c.out).toNat
              simp; (first | lia | omega)
          obtain ⟨b', hb', hbe⟩ := hfin
          with_reducible refine ⟨_, (by walk_at "updg"), ?_⟩
          refine ex_one ?_
          refine ex_if ?_
          refine bt_compare ?_
          refine ev_name (by walk_at "lk") ?_
          refine ev_str ?_
          with_reducible refine t2_eq_str ?_
          with_reducible refine ⟨_, rfl, ?_⟩
          rw [kindS_mux]
          obtain ⟨kd, out, ins⟩ := c
          dsimp only at hg hbe hdi ⊢
          cases kd with
          | mux =>
            obtain ⟨s, a, b, rfl⟩ := har
            refine if_t (by first | with_reducible rfl | with_reducible assumption | rfl) ?_
            refine ex_one ?_
            refine ex_assign_sub ?_
            refine ev_ifexp ?_
            refine bt_compare ?_
            refine ev_sub ?_
            refine ev_name (by walk_at "lk") ?_
            refine ev_int ?_
            refine t2_list_item (v := nV (V s).toNat) (by walk_at "mem") (by (first | lia | omega)) (by rfl) (by simp) ?_
            refine ev_int ?_
            with_reducible refine t2_eq_int ?_
            with_reducible refine ⟨_, rfl, ?_⟩
            rw [toNat_beq1]
            cases hs : V s with
            | true =>
              refine if_t (by first | with_reducible rfl | with_reducible assumption | rfl) ?_
              refine ev_sub ?_
              refine ev_name (by walk_at "lk") ?_
              refine ev_int ?_
              refine t2_list_item (v := nV (V b).toNat) (by walk_at "mem") (by (first | lia | omega)) (by rfl) (by simp) ?_
              refine ev_name (by walk_at "lk") ?_
              refine ev_name (by walk_at "lk") ?_
              refine t3_dict_setN (f := nV) (v := (V out).toNat) (by rw [hg]; simp [gate, hs]) (by walk_at "upd") (by (first | lia | omega)) ?_
              exact ⟨b', hb', by walk_at "wk", by rw [hbe]; walk_at "subp"⟩
            | false =>
              refine if_f (by first | with_reducible rfl | with_reducible assumption | rfl) ?_
              refine ev_sub ?_
              refine ev_name (by walk_at "lk") ?_
              refine ev_int ?_
              refine t2_list_item (v := nV (V a).toNat) (by walk_at "mem") (by (first | lia | omega)) (by rfl) (by simp) ?_
              refine ev_name (by walk_at "lk") ?_
              refine ev_name (by walk_at "lk") ?_
              refine t3_dict_setN (f := nV) (v := (V out).toNat) (by rw [hg]; simp [gate, hs]) (by walk_at "upd") (by (first | lia | omega)) ?_
              exact ⟨b', hb', by walk_at "wk", by rw [hbe]; walk_at "subp"⟩
          | inv =>
            obtain ⟨a, rfl⟩ := har
            refine if_f (by first | with_reducible rfl | with_reducible assumption | rfl) ?_
            refine ex_one ?_
            refine ex_if ?_
            refine bt_compare ?_
            refine ev_name (by walk_at "lk") ?_
            refine ev_str ?_
            with_reducible refine t2_eq_str ?_
            with_reducible refine ⟨_, rfl, ?_⟩
            refine if_t (by first | with_reducible rfl | with_reducible assumption | rfl) ?_
            refine ex_one ?_
            refine ex_assign_sub ?_
            refine ev_binop ?_
            refine ev_int ?_
            refine ev_sub ?_
            refine ev_name (by walk_at "lk") ?_
            refine ev_int ?_
            refine t2_list_item (v := nV (V a).toNat) (by walk_at "mem") (by (first | lia | omega)) (by rfl) (by simp) ?_
            with_reducible refine t2_sub ?_
            refine ev_name (by walk_at "lk") ?_
            refine ev_name (by walk_at "lk") ?_
            refine t3_dict_setN (f := nV) (v := (V out).toNat) (by rw [hg]; simp [gate]; cases V a <;> rfl) (by walk_at "upd") (by (first | lia | omega)) ?_
            exact ⟨b', hb', by walk_at "wk", by rw [hbe]; walk_at "subp"⟩
          | and =>
            obtain ⟨a, b, rfl⟩ := har
            refine if_f (by first | with_reducible rfl | with_reducible assumption | rfl) ?_
            refine ex_one ?_
            refine ex_if ?_
            refine bt_compare ?_
            refine ev_name (by walk_at "lk") ?_
            refine ev_str ?_
            with_reducible refine t2_eq_str ?_
            with_reducible refine ⟨_, rfl, ?_⟩
            refine if_f (by first | with_reducible rfl | with_reducible assumption | rfl) ?_
            refine ex_one ?_
            refine ex_assign_sub ?_
            refine ev_binop ?_
            refine ev_sub ?_
            refine ev_name (by walk_at "lk") ?_
            refine ev_int ?_
            refine t2_list_item (v := nV (V a).toNat) (by walk_at "mem") (by (first | lia | omega)) (by rfl) (by simp) ?_
            refine ev_sub ?_
            refine ev_name (by walk_at "lk") ?_
            refine ev_int ?_
            refine t2_list_item (v := nV (V b).toNat) (by walk_at "mem") (by (first | lia | omega)) (by rfl) (by simp) ?_
            refine t2_mul ?_ (by cases V a <;> decide) (by cases V b <;> decide)
            refine ev_name (by walk_at "lk") ?_
            refine ev_name (by walk_at "lk") ?_
            refine t3_dict_setN (f := nV) (v := (V out).toNat) (by rw [hg]; simp [gate]; cases V a <;> cases V b <;> rfl) (by walk_at "upd") (by (first | lia | omega)) ?_
            exact ⟨b', hb', by walk_at "wk", by rw [hbe]; walk_at "subp"⟩
      · rintro d ⟨dom, done, e, hd, hsub, hdom, hdl⟩
        rw [List.append_nil] at e
        subst e
        refine ⟨d, ⟨dom, hd, fun n q => hsub n (.inl q), hdom, by (first | lia | omega), by (first | lia | omega), fun _ n q => hsub n q⟩, by walk_at "wk", .refl⟩
    · rintro d ⟨dom, hd, hlo, hdom, hdl, hr, hfull⟩
      refine ex_one ?_
      refine ex_return ?_
      refine ev_name (by walk_at "lk") ?_
      exact ⟨_, .refl, h H d (hd.congr fun n => ⟨hdom n, hfull (by simp) n⟩)⟩

theorem c_shown {C : Cx} (hK : IsK C) {k : Nat} {σ : Ld} {Q : Vl → Ld → Prop} {na : NA} {nm inm onm : Str} {cnt w line outs cs} {V : Nat → Bool} (N : NetAt σ na nm inm onm cnt (List.range' 2 w) outs cs) (hw : w ≤ 10) (hl : cs.length ≤ 100) (S : Sorted w cs) (hV : Cons w line cs V) (ho : ∀ n ∈ outs, domW w cs n) (hol : outs.length ≤ 100)
    (h : ∀ D F, Q (.ref F) ((F, .list [.ref D]) :: (D, .list (outs.map fun n => nV (V n).toNat)) :: σ)) : CLc C (k + 2) (.ref 237) [.ref na.x, nV line] σ Q := by
  refine clc_post (cl_def (ps := ["netlist", "line"]) (vs' := [.ref na.x, nV line]) (ls := ["held", "found", "name", "nets"]) (by rw [hK]; rfl) (by rw [hK]; kernel_rfl) (by walk_at "b2") rfl (by rfl) rfl (by rfl) ?_)
  show EX _ _ _ _ [("netlist", some (.ref na.x)), ("line", some (nV line)), ("held", none), ("found", none), ("name", none), ("nets", none)] _ _
  refine ex_cons ?_
  refine ex_assign ?_ (by rfl)
  refine ev_callK (v := .ref 232) (by rfl) (by walk_at "k") (by walk_at "k") (by rfl) ?_
  refine evs_cons ?_
  refine ev_name (by walk_at "lk") ?_
  refine evs_cons ?_
  refine ev_name (by walk_at "lk") ?_
  refine evs_nil ?_
  refine c_values hK N hw hl S hV ?_
  intro H d hd
  obtain ⟨h0, h1, h2, h3, h4, h5⟩ := N
  with_reducible refine ⟨_, (by walk_at "updg"), ?_⟩
  refine ex_cons ?_
  refine ex_assign ?_ (by rfl)
  refine ev_list ?_
  refine evs_nil ?_
  refine ⟨(by walk_at "len"), ?_⟩
  intro F
  with_reducible refine ⟨_, (by walk_at "updg"), ?_⟩
  refine ex_cons ?_
  refine ex_for_one (ie_list ?_)
  refine ev_attr ?_
  refine ev_name (by walk_at "lk") ?_
  refine t1_attr (by walk_at "mem") (HasS.mem (by walk_at "hs")) (by walk_at "k") (by rfl) ?_
  with_reducible refine ⟨_, _, rfl, (by walk_at "mem"), ?_⟩
  with_reducible refine ⟨_, rfl, ?_⟩
  refine ⟨by walk_at "mem", ?_⟩
  refine as_tuple ?_ (by rfl) (by rfl)
  refine ass_cons ?_
  refine as_name (by walk_at "updg") (by rfl) ?_
  refine ass_cons ?_
  refine as_name (by walk_at "updg") (by rfl) ?_
  refine ass_nil ?_
  refine ex_one ?_
  refine ex_expr ?_
  refine ev_append (by rfl) ?_
  refine ev_name (by walk_at "lk") ?_
  with_reducible refine ⟨_, _, rfl, (by walk_at "mem"), ?_⟩
  refine ev_comp [("held", some (.ref H))] (by rfl) (by walk_at "free") (by rfl) (ie_list ?_)
  refine ev_name (by walk_at "lk") ?_
  with_reducible refine ⟨_, _, rfl, (by walk_at "mem"), ?_⟩
  refine compJ_map outs nV (fun n => nV (V n).toNat) rfl (by walk_at "mem") (by (first | lia | omega)) (fun n hn => ?_) fun D => ?_
  · (refine ev_sub ?_; refine ev_name (by walk_at "lk") ?_; refine ev_name (by walk_at "lk") ?_)
    exact t2_dict_item (by walk_at "mem") (by rw [dget_dM, hd.some (ho n hn)]; rfl) ⟨rfl, rfl⟩
  refine ⟨_, _, by walk_at "upd", by simp, ?_⟩
  refine ⟨by walk_at "mem", ?_⟩
  refine ex_one ?_
  refine ex_return ?_
  refine ev_name (by walk_at "lk") ?_
  exact ⟨_, .pick (.tail .head) (.pick .head (.sub (List.sublist_cons_self ..))), h D F⟩
noncomputable abbrev GD (st x NL : Addr) (lap way picks : Option Vl) : Gm := [("store", some (.ref st)), ("netlist", some (.ref x)), ("nets", some (.ref NL)), ("lap", lap), ("way", way), ("picks", picks)]
theorem c_drawn {C : Cx} (hK : IsK C) {k : Nat} {τ : Ld} {Q : Vl → Ld → Prop} {st r : Addr} {row : List Nat} {at_ : Nat} (hr : (r, Ob.list (row.map nV)) ∈ τ) (hl : row.length ≤ 1000)
    (h : ∀ a w cs at' σn, w = 3 ∨ w = 4 → WF w cs → 1 ≤ cs.length → cs.length ≤ 9 → NetAt (σn ++ (st, storeV r at') :: τ) a "m" "i" "o" (2 + w + cs.length) (List.range' 2 w) (List.range' (w + cs.length) 2) cs → Q (.ref a.x) (σn ++ (st, storeV r at') :: τ)) :
    CLc C (k + 4) (.ref 242) [.ref st] ((st, storeV r at_) :: τ) Q := by
  refine clc_post (cl_def (ps := ["store"]) (vs' := [.ref st]) (ls := ["netlist", "nets", "lap", "way", "picks"]) (by rw [hK]; rfl) (by rw [hK]; kernel_rfl) (by walk_at "b1") rfl (by rfl) rfl (by rfl) ?_)
  show EX _ _ _ _ [("store", some (.ref st)), ("netlist", none), ("nets", none), ("lap", none), ("way", none), ("picks", none)] _ _
  refine ex_cons ?_
  refine ex_assign ?_ (by rfl)
  refine ev_callK (v := .ref 134) (by rfl) (by walk_at "k") (by walk_at "k") (by rfl) ?_
  refine evs_cons ?_
  refine ev_str ?_
  refine evs_nil ?_
  refine c_Netlist hK fun a => ?_
  unfold blk
  with_reducible refine ⟨_, (by walk_at "updg"), ?_⟩
  refine ex_cons ?_
  refine ex_assign ?_ (by rfl)
  refine ev_binop ?_
  refine ev_list ?_
  refine evs_cons ?_
  refine ev_int ?_
  refine evs_cons ?_
  refine ev_int ?_
  refine evs_nil ?_
  refine ⟨(by walk_at "len"), ?_⟩
  intro Z
  refine ev_meth (f := 94) (by rfl) ?_
  refine ev_name (by walk_at "lk") ?_
  with_reducible refine ⟨_, _, _, _, rfl, (by walk_at "mem"), (by walk_at "k"), (by with_unfolding_all rfl), ?_⟩
  refine evs_cons ?_
  refine ev_str ?_
  refine evs_cons ?_
  refine ev_binop ?_
  refine ev_int ?_
  refine ev_callK (v := .ref 227) (by rfl) (by walk_at "k") (by walk_at "k") (by rfl) ?_
  refine evs_cons ?_
  refine ev_name (by walk_at "lk") ?_
  refine evs_cons ?_
  refine ev_int ?_
  refine evs_nil ?_
  refine c_draw (many := 2) (at_ := at_) hK (by walk_at "mem") hl (by (first | lia | omega)) (by walk_at "upd") fun d hd => ?_
  with_reducible refine t2_add ?_
  refine evs_nil ?_
  have hw : 3 + d = 3 ∨ 3 + d = 4 := by (first | lia | omega)
  rw [show (3 : Int) + (d : Int) = ((3 + d : Nat) : Int) by (first | lia | omega)]
  generalize 3 + d = w at hw
  refine clc_pre (.pick (.tail .head) (.pick (.tail .head) (.pick (.tail .head) (.pick (.tail .head) .refl)))) (c_add_input (cs := []) (inl := []) (w := w) hK (by (first | lia | omega)) (by simp) fun D I => ?_)
  unfold blk
  refine t2_add_lists (by walk_at "mem") (by walk_at "mem") (by simp; (first | lia | omega)) fun NL => ?_
  have hN0 : [Vl.int 0, Vl.int 1] ++ (List.range' 2 w).map nV = (List.range' 0 (2 + w)).map nV := by
    rw [Nat.add_comm, List.range'_succ, List.range'_succ]; rfl
  rw [hN0]
  with_reducible refine ⟨_, (by walk_at "updg"), ?_⟩
  refine ex_cons ?_
  refine ex_forL (ie_range (by rfl) (by walk_at "k") (by kernel_rfl) ?_ (by rfl))
  refine ev_binop ?_
  refine ev_int ?_
  refine ev_callK (v := .ref 227) (by rfl) (by walk_at "k") (by walk_at "k") (by rfl) ?_
  refine evs_cons ?_
  refine ev_name (by walk_at "lk") ?_
  refine evs_cons ?_
  refine ev_int ?_
  refine evs_nil ?_
  refine c_draw (many := 9) hK (by walk_at "mem") hl (by (first | lia | omega)) (by walk_at "upd") fun d2 hd2 => ?_
  with_reducible refine t2_add ?_
  with_reducible refine ⟨_, rfl, ?_⟩
  refine ⟨(by walk_at "len"), ?_⟩
  rw [rangeV_map]
  refine ⟨Nat, List Cel × Nat, nV, fun rest b => ∃ m, rest = List.range' b.1.length m ∧ b.1.length + m = 1 + d2 ∧ WF w b.1, fun b => GD st a.x NL none none none,
    fun b => (NL, .list ((List.range' 0 (2 + w + b.1.length)).map nV)) :: (a.x, instN a "m" (2 + w + b.1.length)) :: (a.li, .list [.tup [.str "i", .ref I]]) :: (a.lo, .list []) :: (a.lc, .list (b.1.map cellV)) :: (I, .list ((List.range' 2 w).map nV)) :: (st, storeV r b.2) :: τ,
    List.range' 0 (1 + d2), ([], at_ + 1 + 1), rfl, ⟨_, rfl, by simp, .nil⟩, by walk_at "wk", ?_, fun _ _ _ => trivial, ?_, ?_⟩
  · exact .pick .head (.pick (.tail (.tail .head)) (.pick (.tail (.tail .head)) (.pick (.tail (.tail .head)) (.pick (.tail (.tail .head)) (.pick .head (.pick (.tail (.tail .head)) (.sub (.cons _ (.cons _ (.refl _))))))))))
  · rintro lap rest ⟨cs, at2⟩ ⟨m, e, hm, W⟩
    dsimp only at e hm W ⊢
    obtain ⟨rfl, m', rfl, rfl⟩ := range'_cons e
    refine as_name (by walk_at "updg") (by rfl) ?_
    refine ex_cons ?_
    refine ex_assign ?_ (by rfl)
    refine ev_callK (v := .ref 227) (by rfl) (by walk_at "k") (by walk_at "k") (by rfl) ?_
    refine evs_cons ?_
    refine ev_name (by walk_at "lk") ?_
    refine evs_cons ?_
    refine ev_int ?_
    refine evs_nil ?_
    refine c_draw (many := 6) hK (by walk_at "mem") hl (by (first | lia | omega)) (by walk_at "upd") fun way hway => ?_
    with_reducible refine ⟨_, (by walk_at "updg"), ?_⟩
    refine ex_cons ?_
    have hcl : cs.length ≤ 9 := by (first | lia | omega)
    generalize hL : 2 + w + cs.length = L at *
    refine ex_assign_comp [("nets", some (.ref NL)), ("lap", some (nV cs.length)), ("store", some (.ref st))] (by rfl) (by walk_at "free") (by rfl) (by rfl) (swap_true (by rfl) (by rfl)) (ie_range (by rfl) (by walk_at "k") (by kernel_rfl) ?_ (by rfl))
    refine ev_int ?_
    with_reducible refine ⟨_, rfl, ?_⟩
    refine ⟨(by walk_at "len"), ?_⟩
    refine ⟨fun l acc σ' => ∃ i m at3 ps, l = rangeV i m ∧ i + m = 3 ∧ acc = ps.map nV ∧ ps.length = i ∧ (∀ p ∈ ps, p < L) ∧ σ' = (NL, .list ((List.range' 0 L).map nV)) :: (a.x, instN a "m" L) :: (a.li, .list [.tup [.str "i", .ref I]]) :: (a.lo, .list []) :: (a.lc, .list (cs.map cellV)) :: (I, .list ((List.range' 2 w).map nV)) :: (st, storeV r at3) :: τ,
      ⟨0, 3, at2 + 1, [], rfl, rfl, rfl, rfl, (fun p hp => by cases hp), rfl⟩, by simp [rangeV], ?_, ?_⟩
    · rintro y l acc σ' ⟨i, m, at3, ps, e, hi, rfl, hp, hps, rfl⟩
      cases m with
      | zero => cases e
      | succ m =>
        rw [rangeV_map, List.range'_succ] at e
        cases e
        refine ⟨trivial, ?_⟩
        show EV _ _ _ _ _ _ _
        have hlen : ((List.range' 0 L).map nV).length = L := by simp
        refine ev_sub ?_
        refine ev_name (by walk_at "lk") ?_
        refine ev_binop ?_
        refine ev_binop ?_
        refine ev_binop ?_
        refine ev_binop ?_
        refine ev_int ?_
        refine ev_name (by walk_at "lk") ?_
        with_reducible refine t2_add ?_
        refine ev_name (by walk_at "lk") ?_
        with_reducible refine t2_add ?_
        refine ev_callK (v := .ref 227) (by rfl) (by walk_at "k") (by walk_at "k") (by rfl) ?_
        refine evs_cons ?_
        refine ev_name (by walk_at "lk") ?_
        refine evs_cons ?_
        refine ev_callB (f := "len") (id := "len") (by rfl) (by walk_at "k") (by kernel_rfl) (by decide) ?_ (by rfl)
        refine ev_name (by walk_at "lk") ?_
        refine cl_len_list (by walk_at "mem") (by walk_at "len") ?_
        refine evs_nil ?_
        refine c_draw (many := ((List.range' 0 L).map nV).length) hK (by walk_at "mem") hl (by rw [hlen]; (first | lia | omega)) (by walk_at "upd") fun d3 hd3 => ?_
        with_reducible refine t2_add ?_
        refine ev_callB (f := "len") (id := "len") (by rfl) (by walk_at "k") (by kernel_rfl) (by decide) ?_ (by rfl)
        refine ev_name (by walk_at "lk") ?_
        refine cl_len_list (by walk_at "mem") (by walk_at "len") ?_
        refine t2_mod ?_ (by rw [hlen]; (first | lia | omega))
        rw [hlen, show (2 : Int) + (cs.length : Int) + (i : Int) + (d3 : Int) = ((2 + cs.length + i + d3 : Nat) : Int) by (first | lia | omega), ← Int.ofNat_fmod]
        have hlt : (2 + cs.length + i + d3) % L < L := Nat.mod_lt _ (by (first | lia | omega))
        generalize (2 + cs.length + i + d3) % L = ix at hlt
        refine t2_list_itemN (by walk_at "mem") (range'_get hlt) (by simp; (first | lia | omega)) ?_
        refine ⟨i + 1, m, at3 + 1, ps ++ [ix], rfl, by (first | lia | omega), by simp, by simp [hp], fun p hp' => ?_, rfl⟩
        rcases List.mem_append.mp hp' with q | q
        · exact hps p q
        · simp at q; subst q; exact hlt
    · rintro acc σ' ⟨i, m, at3, ps, e, hi, rfl, hp, hps, rfl⟩
      rw [rangeV_map] at e
      cases m with
      | succ m => cases e
      | zero =>
        have hi3 : i = 3 := hi
        subst hi3
        refine ⟨trivial, fun P => ?_⟩
        obtain ⟨p0, p1, p2, rfl⟩ : ∃ p0 p1 p2, ps = [p0, p1, p2] := by
          match ps, hp with
          | [p0, p1, p2], _ => exact ⟨p0, p1, p2, rfl⟩
        have h0 := hps p0 (by simp)
        have h1 := hps p1 (by simp)
        have h2 := hps p2 (by simp)
        have hnet : ∀ L, (List.range' 0 L).map nV ++ [nV L] = (List.range' 0 (L + 1)).map nV := fun L => by rw [List.range'_concat]; simp
        with_reducible refine ⟨_, (by walk_at "updg"), ?_⟩
        refine ex_one ?_
        refine ex_if ?_
        refine bt_compare ?_
        refine ev_name (by walk_at "lk") ?_
        refine ev_int ?_
        with_reducible refine t2_eq_int ?_
        with_reducible refine ⟨_, rfl, ?_⟩
        split
        · (refine ex_one ?_; refine ex_expr ?_; refine ev_append (by rfl) ?_; refine ev_name (by walk_at "lk") ?_; (with_reducible refine ⟨_, _, rfl, (by walk_at "mem"), ?_⟩); refine ev_meth (f := 109) (by rfl) ?_; refine ev_name (by walk_at "lk") ?_; (with_reducible refine ⟨_, _, _, _, rfl, (by walk_at "mem"), (by walk_at "k"), (by with_unfolding_all rfl), ?_⟩); refine evs_cons ?_; refine ev_str ?_; refine evs_cons ?_; refine ev_slice_to ?_ (by decide); refine ev_name (by walk_at "lk") ?_; (with_reducible refine ⟨_, _, rfl, (by walk_at "mem"), ?_⟩); refine ⟨(by walk_at "len"), ?_⟩)
          intro PS
          refine evs_nil ?_
          refine clc_pre (.pick (.tail (.tail (.tail .head))) (.pick (.tail (.tail (.tail .head))) (.pick (.tail (.tail (.tail .head))) (.pick (.tail (.tail (.tail .head))) .refl)))) (c_add_cell (kd := .inv) (l := [p0]) hK (.inr ⟨PS, rfl, .head _⟩) (by simp) (by (first | lia | omega)) ?_)
          unfold blk
          refine ⟨_, _, by walk_at "upd", by simp; (first | lia | omega), ?_⟩
          have hL' : 2 + w + (cs ++ [Cel.mk .inv L [p0]]).length = L + 1 := by simp; (first | lia | omega)
          refine ⟨(cs ++ [⟨.inv, L, [p0]⟩], at3), ⟨m', by simp, by simp; (first | lia | omega), W.snoc (c := Cel.mk .inv L [p0]) hL.symm ⟨p0, rfl⟩ (by simp; (first | lia | omega))⟩, by walk_at "wk", ?_⟩
          dsimp only
          rw [hL', ← hnet]
          exact .pick (.tail (.tail (.tail (.tail (.tail (.tail .head)))))) (.pick .head (.pick .head (.pick .head (.pick .head (.sub (.cons _ (.cons _ (.refl _))))))))
        · (refine ex_one ?_; refine ex_if ?_; refine bt_compare ?_; refine ev_name (by walk_at "lk") ?_; refine ev_int ?_; (with_reducible refine t2_eq_int ?_); (with_reducible refine ⟨_, rfl, ?_⟩))
          split
          · (refine ex_one ?_; refine ex_expr ?_; refine ev_append (by rfl) ?_; refine ev_name (by walk_at "lk") ?_; (with_reducible refine ⟨_, _, rfl, (by walk_at "mem"), ?_⟩); refine ev_meth (f := 109) (by rfl) ?_; refine ev_name (by walk_at "lk") ?_; (with_reducible refine ⟨_, _, _, _, rfl, (by walk_at "mem"), (by walk_at "k"), (by with_unfolding_all rfl), ?_⟩); refine evs_cons ?_; refine ev_str ?_; refine evs_cons ?_; refine ev_slice_to ?_ (by decide); refine ev_name (by walk_at "lk") ?_; (with_reducible refine ⟨_, _, rfl, (by walk_at "mem"), ?_⟩); refine ⟨(by walk_at "len"), ?_⟩)
            intro PS
            refine evs_nil ?_
            refine clc_pre (.pick (.tail (.tail (.tail .head))) (.pick (.tail (.tail (.tail .head))) (.pick (.tail (.tail (.tail .head))) (.pick (.tail (.tail (.tail .head))) .refl)))) (c_add_cell (kd := .and) (l := [p0, p1]) hK (.inr ⟨PS, rfl, .head _⟩) (by simp) (by (first | lia | omega)) ?_)
            unfold blk
            refine ⟨_, _, by walk_at "upd", by simp; (first | lia | omega), ?_⟩
            have hL' : 2 + w + (cs ++ [Cel.mk .and L [p0, p1]]).length = L + 1 := by simp; (first | lia | omega)
            refine ⟨(cs ++ [⟨.and, L, [p0, p1]⟩], at3), ⟨m', by simp, by simp; (first | lia | omega), W.snoc (c := Cel.mk .and L [p0, p1]) hL.symm ⟨p0, p1, rfl⟩ (by simp; (first | lia | omega))⟩, by walk_at "wk", ?_⟩
            dsimp only
            rw [hL', ← hnet]
            exact .pick (.tail (.tail (.tail (.tail (.tail (.tail .head)))))) (.pick .head (.pick .head (.pick .head (.pick .head (.sub (.cons _ (.cons _ (.refl _))))))))
          · (refine ex_one ?_; refine ex_expr ?_; refine ev_append (by rfl) ?_; refine ev_name (by walk_at "lk") ?_; (with_reducible refine ⟨_, _, rfl, (by walk_at "mem"), ?_⟩); refine ev_meth (f := 109) (by rfl) ?_; refine ev_name (by walk_at "lk") ?_; (with_reducible refine ⟨_, _, _, _, rfl, (by walk_at "mem"), (by walk_at "k"), (by with_unfolding_all rfl), ?_⟩); refine evs_cons ?_; refine ev_str ?_; refine evs_cons ?_; refine ev_name (by walk_at "lk") ?_; refine evs_nil ?_)
            refine clc_pre (.pick (.tail (.tail .head)) (.pick (.tail (.tail .head)) (.pick (.tail (.tail .head)) (.pick (.tail (.tail .head)) .refl)))) (c_add_cell (kd := .mux) (l := [p0, p1, p2]) hK (.inr ⟨P, rfl, .head _⟩) (by simp) (by (first | lia | omega)) ?_)
            unfold blk
            refine ⟨_, _, by walk_at "upd", by simp; (first | lia | omega), ?_⟩
            have hL' : 2 + w + (cs ++ [Cel.mk .mux L [p0, p1, p2]]).length = L + 1 := by simp; (first | lia | omega)
            refine ⟨(cs ++ [⟨.mux, L, [p0, p1, p2]⟩], at3), ⟨m', by simp, by simp; (first | lia | omega), W.snoc (c := Cel.mk .mux L [p0, p1, p2]) hL.symm ⟨p0, p1, p2, rfl⟩ (by simp; (first | lia | omega))⟩, by walk_at "wk", ?_⟩
            dsimp only
            rw [hL', ← hnet]
            exact .pick (.tail (.tail (.tail (.tail (.tail .head))))) (.pick .head (.pick .head (.pick .head (.pick .head (.sub (.cons _ (.refl _)))))))
  · rintro ⟨cs, at3⟩ ⟨m, e, hm, W⟩
    dsimp only at e hm W ⊢
    have := range'_nil e
    subst this
    have hcs : cs.length = 1 + d2 := hm
    have hlast : ((List.range' 0 (2 + w + cs.length)).map nV).drop (((List.range' 0 (2 + w + cs.length)).map nV).length - (2 : Int).toNat) = (List.range' (w + cs.length) 2).map nV := by
      rw [List.length_map, List.length_range', ← List.map_drop, List.drop_range']
      congr 2 <;> (first | lia | omega)
    refine ex_cons ?_
    refine ex_expr ?_
    refine ev_meth (f := 101) (by rfl) ?_
    refine ev_name (by walk_at "lk") ?_
    with_reducible refine ⟨_, _, _, _, rfl, (by walk_at "mem"), (by walk_at "k"), (by with_unfolding_all rfl), ?_⟩
    refine evs_cons ?_
    refine ev_str ?_
    refine evs_cons ?_
    refine ev_slice_last ?_ (by decide)
    refine ev_name (by walk_at "lk") ?_
    with_reducible refine ⟨_, _, rfl, (by walk_at "mem"), ?_⟩
    refine ⟨(by walk_at "len"), ?_⟩
    intro LS
    rw [hlast]
    refine evs_nil ?_
    refine clc_pre (.pick (.tail (.tail .head)) (.pick (.tail (.tail .head)) (.pick (.tail (.tail .head)) (.pick (.tail (.tail .head)) .refl)))) (c_add_output hK (.head _) (by simp) (by simp) fun O => ?_)
    unfold blk
    refine ex_one ?_
    refine ex_return ?_
    refine ev_name (by walk_at "lk") ?_
    refine ⟨_, .pick .head (.pick (.tail (.tail (.tail (.tail (.tail (.tail .head)))))) (.pick .head (.pick .head (.pick .head (.pick .head (.sub (.cons _ (.cons _ (.refl _))))))))), ?_⟩
    exact h ⟨a.x, a.dx, a.li, a.lo, a.lc, I, O⟩ w cs at3 [(O, .list ((List.range' (w + cs.length) 2).map nV)), (I, .list ((List.range' 2 w).map nV)), (a.x, instN a "m" (2 + w + cs.length)), (a.li, .list [.tup [.str "i", .ref I]]), (a.lo, .list [.tup [.str "o", .ref O]]), (a.lc, .list (cs.map cellV))] hw W (by (first | lia | omega)) (by (first | lia | omega))
      ⟨.tail _ (.tail _ (.head _)), .tail _ (.tail _ (.tail _ (.head _))), .tail _ (.head _), .tail _ (.tail _ (.tail _ (.tail _ (.head _)))), .head _, .tail _ (.tail _ (.tail _ (.tail _ (.tail _ (.head _)))))⟩
noncomputable abbrev GS (sa FD : Addr) (cell rest lap : Option Vl) : Gm := [("script", some (.ref sa)), ("found", some (.ref FD)), ("cell", cell), ("rest", rest), ("lap", lap)]
theorem c_store {C : Cx} (hK : IsK C) {k : Nat} {σ : Ld} {Q : Vl → Ld → Prop} {sa : Addr} {vs : List Value} {ns : List Int} (hb : C.s₀.heap.IsList sa vs.toArray) (hv : IntsAre vs ns) (hl : ns.length ≤ 1000)
    (h : ∀ D R (row : List Nat), row.length ≤ 1000 → Q (.ref D) ((D, storeV R 0) :: (R, .list (row.map nV)) :: σ)) : CLc C (k + 1) (.ref 220) [.ref sa] σ Q := by
  refine clc_post (cl_def (ps := ["script"]) (vs' := [.ref sa]) (ls := ["found", "cell", "rest", "lap"]) (by rw [hK]; rfl) (by rw [hK]; kernel_rfl) (by walk_at "b1") rfl (by rfl) rfl (by rfl) ?_)
  show EX _ _ _ _ [("script", some (.ref sa)), ("found", none), ("cell", none), ("rest", none), ("lap", none)] _ _
  refine ex_cons ?_
  refine ex_assign ?_ (by rfl)
  refine ev_list ?_
  refine evs_nil ?_
  refine ⟨(by walk_at "len"), ?_⟩
  intro FD
  with_reducible refine ⟨_, (by walk_at "updg"), ?_⟩
  refine ex_cons ?_
  refine ex_forL (ie_list (ev_slice_base hb hv (by (first | lia | omega)) (by (first | lia | omega)) ?_))
  refine ev_name (by walk_at "lk") ?_
  refine ⟨rfl, fun SL => ?_⟩
  rw [← List.map_take]
  have hz : (ns.take (36 : Int).toNat).length ≤ 36 := by rw [List.length_take]; exact Nat.min_le_left _ _
  generalize ns.take (36 : Int).toNat = zs at hz
  refine ⟨_, _, rfl, by walk_at "mem", ?_⟩
  refine ⟨Int, List Nat, Vl.int, fun rest f => rest.length ≤ 36 ∧ f.length ≤ 14 * (36 - rest.length), fun _ => GS sa FD none none none, fun f => (FD, .list (f.map nV)) :: (SL, .list (zs.map Vl.int)) :: σ, zs, [], rfl, ⟨hz, by simp⟩, by walk_at "wk", .pick (.tail .head) .refl, fun b σ' hp => hp.mem (by walk_at "mem"), ?_, ?_⟩
  · rintro z rest f ⟨hr, hf⟩
    simp only [List.length_cons] at hr hf
    refine as_name (by walk_at "updg") (by rfl) ?_
    refine ex_cons ?_
    refine ex_assign ?_ (by rfl)
    refine ev_ifexp ?_
    refine bt_compare ?_
    refine ev_name (by walk_at "lk") ?_
    refine ev_int ?_
    with_reducible refine t2_ge_int ?_
    with_reducible refine ⟨_, rfl, ?_⟩
    by_cases hz0 : 0 ≤ z
    · rw [decide_eq_true hz0]
      obtain ⟨q, rfl⟩ := Int.eq_ofNat_of_zero_le hz0
      refine if_t (by first | with_reducible rfl | with_reducible assumption | rfl) ?_
      refine ev_name (by walk_at "lk") ?_
      with_reducible refine ⟨_, (by walk_at "updg"), ?_⟩
      refine ex_one ?_
      refine ex_forL (ie_range (by rfl) (by walk_at "k") (by kernel_rfl) ?_ (by rfl))
      refine ev_int ?_
      with_reducible refine ⟨_, rfl, ?_⟩
      refine ⟨(by walk_at "len"), ?_⟩
      rw [rangeV_map]
      refine ⟨Nat, List Nat × Nat, nV, fun r b => r.length ≤ 14 ∧ b.1.length + r.length ≤ 14 * (36 - (rest.length + 1)) + 14, fun b => GS sa FD (some (.int q)) (some (nV b.2)) none, fun b => (FD, .list (b.1.map nV)) :: (SL, .list (zs.map Vl.int)) :: σ, List.range' 0 14, (f, q), rfl, ⟨by simp, by simp; (first | lia | omega)⟩, by walk_at "wk", .refl, fun _ _ _ => trivial, ?_, ?_⟩
      · rintro lap r ⟨f, q⟩ ⟨hr2, hf2⟩
        simp only [List.length_cons] at hr2 hf2
        dsimp only
        refine as_name (by walk_at "updg") (by rfl) ?_
        refine ex_cons ?_
        refine ex_expr ?_
        refine ev_append (by rfl) ?_
        refine ev_name (by walk_at "lk") ?_
        with_reducible refine ⟨_, _, rfl, (by walk_at "mem"), ?_⟩
        refine ev_binop ?_
        refine ev_name (by walk_at "lk") ?_
        refine ev_int ?_
        refine t2_mod ?_ (by (first | lia | omega))
        rw [show (q : Int).fmod 211 = ((q % 211 : Nat) : Int) from (Int.ofNat_fmod q 211).symm]
        refine ⟨_, _, by walk_at "upd", by simp; (first | lia | omega), ?_⟩
        refine ex_cons ?_
        refine ex_assign ?_ (by rfl)
        refine ev_binop ?_
        refine ev_name (by walk_at "lk") ?_
        refine ev_int ?_
        refine t2_floordiv ?_ (by (first | lia | omega)) (by decide)
        rw [show (q : Int).fdiv 211 = ((q / 211 : Nat) : Int) from (Int.ofNat_fdiv q 211).symm]
        with_reducible refine ⟨_, (by walk_at "updg"), ?_⟩
        refine ex_one ?_
        refine ex_if ?_
        refine bt_compare ?_
        refine ev_name (by walk_at "lk") ?_
        refine ev_int ?_
        with_reducible refine t2_eq_int ?_
        with_reducible refine ⟨_, rfl, ?_⟩
        rw [nat_beq0]
        have hm : f.map nV ++ [nV (q % 211)] = (f ++ [q % 211]).map nV := by simp
        rw [hm]
        cases hz0 : q / 211 == 0 with
        | true =>
          refine if_t (by first | with_reducible rfl | with_reducible assumption | rfl) ?_
          refine ex_one ?_
          refine ex_break ?_
          refine ⟨f ++ [q % 211], ⟨by (first | lia | omega), by simp; (first | lia | omega)⟩, by walk_at "wk", .refl⟩
        | false =>
          refine if_f (by first | with_reducible rfl | with_reducible assumption | rfl) ?_
          refine ex_nil ?_
          refine ⟨(f ++ [q % 211], q / 211), ⟨by (first | lia | omega), by simp; (first | lia | omega)⟩, by walk_at "wk", .refl⟩
      · rintro ⟨f, q⟩ ⟨hr2, hf2⟩
        simp only [List.length_nil] at hr2 hf2
        refine ⟨f, ⟨by (first | lia | omega), by (first | lia | omega)⟩, by walk_at "wk", .refl⟩
    · rw [decide_eq_false hz0]
      refine if_f (by first | with_reducible rfl | with_reducible assumption | rfl) ?_
      refine ev_binop ?_
      refine ev_int ?_
      refine ev_name (by walk_at "lk") ?_
      with_reducible refine t2_sub ?_
      with_reducible refine ⟨_, (by walk_at "updg"), ?_⟩
      refine ex_one ?_
      obtain ⟨q, hq⟩ := Int.eq_ofNat_of_zero_le (show 0 ≤ 7 - z by (first | lia | omega))
      rw [hq]
      refine ex_forL (ie_range (by rfl) (by walk_at "k") (by kernel_rfl) ?_ (by rfl))
      refine ev_int ?_
      with_reducible refine ⟨_, rfl, ?_⟩
      refine ⟨(by walk_at "len"), ?_⟩
      rw [rangeV_map]
      refine ⟨Nat, List Nat × Nat, nV, fun r b => r.length ≤ 14 ∧ b.1.length + r.length ≤ 14 * (36 - (rest.length + 1)) + 14, fun b => GS sa FD (some (.int z)) (some (nV b.2)) none, fun b => (FD, .list (b.1.map nV)) :: (SL, .list (zs.map Vl.int)) :: σ, List.range' 0 14, (f, q), rfl, ⟨by simp, by simp; (first | lia | omega)⟩, by walk_at "wk", .refl, fun _ _ _ => trivial, ?_, ?_⟩
      · rintro lap r ⟨f, q⟩ ⟨hr2, hf2⟩
        simp only [List.length_cons] at hr2 hf2
        dsimp only
        refine as_name (by walk_at "updg") (by rfl) ?_
        refine ex_cons ?_
        refine ex_expr ?_
        refine ev_append (by rfl) ?_
        refine ev_name (by walk_at "lk") ?_
        with_reducible refine ⟨_, _, rfl, (by walk_at "mem"), ?_⟩
        refine ev_binop ?_
        refine ev_name (by walk_at "lk") ?_
        refine ev_int ?_
        refine t2_mod ?_ (by (first | lia | omega))
        rw [show (q : Int).fmod 211 = ((q % 211 : Nat) : Int) from (Int.ofNat_fmod q 211).symm]
        refine ⟨_, _, by walk_at "upd", by simp; (first | lia | omega), ?_⟩
        refine ex_cons ?_
        refine ex_assign ?_ (by rfl)
        refine ev_binop ?_
        refine ev_name (by walk_at "lk") ?_
        refine ev_int ?_
        refine t2_floordiv ?_ (by (first | lia | omega)) (by decide)
        rw [show (q : Int).fdiv 211 = ((q / 211 : Nat) : Int) from (Int.ofNat_fdiv q 211).symm]
        with_reducible refine ⟨_, (by walk_at "updg"), ?_⟩
        refine ex_one ?_
        refine ex_if ?_
        refine bt_compare ?_
        refine ev_name (by walk_at "lk") ?_
        refine ev_int ?_
        with_reducible refine t2_eq_int ?_
        with_reducible refine ⟨_, rfl, ?_⟩
        rw [nat_beq0]
        have hm : f.map nV ++ [nV (q % 211)] = (f ++ [q % 211]).map nV := by simp
        rw [hm]
        cases hz0 : q / 211 == 0 with
        | true =>
          refine if_t (by first | with_reducible rfl | with_reducible assumption | rfl) ?_
          refine ex_one ?_
          refine ex_break ?_
          refine ⟨f ++ [q % 211], ⟨by (first | lia | omega), by simp; (first | lia | omega)⟩, by walk_at "wk", .refl⟩
        | false =>
          refine if_f (by first | with_reducible rfl | with_reducible assumption | rfl) ?_
          refine ex_nil ?_
          refine ⟨(f ++ [q % 211], q / 211), ⟨by (first | lia | omega), by simp; (first | lia | omega)⟩, by walk_at "wk", .refl⟩
      · rintro ⟨f, q⟩ ⟨hr2, hf2⟩
        simp only [List.length_nil] at hr2 hf2
        refine ⟨f, ⟨by (first | lia | omega), by (first | lia | omega)⟩, by walk_at "wk", .refl⟩
  · rintro f ⟨hr, hf⟩
    refine ex_one ?_
    refine ex_return ?_
    refine ev_dictS (by rfl) (by rfl) (by simp) (by decide) ?_
    refine evp_cons ?_
    refine ev_str ?_
    refine ev_slice_to ?_ (by decide)
    refine ev_name (by walk_at "lk") ?_
    with_reducible refine ⟨_, _, rfl, (by walk_at "mem"), ?_⟩
    refine ⟨(by walk_at "len"), ?_⟩
    intro R
    refine evp_cons ?_
    refine ev_str ?_
    refine ev_int ?_
    refine evp_nil ?_
    refine ⟨[("row", .ref R), ("at", .int 0)], rfl, by show (["row", "at"] : List Str).Nodup; decide, fun D => ?_⟩
    rw [← List.map_take]
    refine ⟨_, ?_, h D R (f.take 75) (by rw [List.length_take]; (first | lia | omega))⟩
    exact .pick .head (.pick .head (.sub (.cons _ (.cons _ (.refl _)))))
structure Good (w : Nat) (cs : List Cel) (outs : List Nat) (st : PS) : Prop where
  cl : st.cells.length = cs.length
  same : ∀ (i : Nat) (c : Cel), cs[i]? = some c → ∃ c' : Cel, st.cells[i]? = some c' ∧ c'.k = c.k ∧ c'.out = c.out ∧ (isMux c.k = false → c' = c) ∧ (isMux c.k = true → ∃ s l l', c.ins = s :: l ∧ c'.ins = s :: l')
  keys : ∀ p ∈ st.R, ∃ c ∈ cs, isMux c.k = true ∧ c.out = p.1
  rl : st.R.length ≤ 1000
  dec : ∀ a b, pget st.R a = some b → b < a
  ar : ∀ c ∈ st.cells, Ar c
  sorted : Sorted w (rb st.R st.cells)
  dom : ∀ n ∈ outs, domW w (rb st.R st.cells) (fin st.R n)
  eval : ∀ line V, Cons w line cs V → ∃ V', Cons w line (rb st.R st.cells) V' ∧ ∀ n ∈ outs, V' (fin st.R n) = V n
theorem swap_false {sc : Scope} {elt iter : Expr} {x y : Str} {px py : Pos} {ifs : List Expr} {scope : Scope} {pos : Pos} {line : Nat} (hl : sc.names.lookup y = some .cell) :
    ∀ env, EnvOK sc env → swapsWith (.ListComp elt [⟨.Name x px, iter, ifs, 0⟩] scope pos) (some (.Name y py)) line env = pure false := by
  intro env he
  have hk : env.kindOf y = some .cell := by rw [← hl, ← he.scope]; rfl
  show (pure (env.blockKind == .function && env.kindOf y == some .local && py.line == pos.line && !(scope.names.any fun (n, k) => n == y && (k == .local || k == .cell))) : Sem Bool) = pure false
  rw [hk, show (some NameKind.cell == some NameKind.local) = false from rfl, Bool.and_false, Bool.false_and, Bool.false_and]
theorem rds_vals {σ : Ld} (n : Nat) (f : Nat → Nat) : ∀ l : List Nat, RDs σ n (l.map fun x => nV (f x)) (l.map fun x => PyData.int (f x : Int))
  | [] => .nil _
  | x :: l => .cons (.int _ _) (rds_vals n f l)
theorem NetAt.right {σ τ a nm inm onm cnt ins outs cs} (h : NetAt τ a nm inm onm cnt ins outs cs) : NetAt (σ ++ τ) a nm inm onm cnt ins outs cs :=
  ⟨List.mem_append_right _ h.h0, List.mem_append_right _ h.h1, List.mem_append_right _ h.h2, List.mem_append_right _ h.h3, List.mem_append_right _ h.h4, List.mem_append_right _ h.h5⟩
noncomputable abbrev GK (x BE CH RD : Addr) (muxes spot made wide line : Option Vl) : Gm := [("netlist", some (.ref x)), ("before", some (.ref BE)), ("changed", some (.ref CH)), ("replaced", some (.ref RD)), ("muxes", muxes), ("spot", spot), ("made", made), ("wide", wide), ("line", line)]
theorem c_kept {C : Cx} (hK : IsK C) {k : Nat} {σ : Ld} {Q : Vl → Ld → Prop} {na : NA} {nm inm onm : Str} {cnt w outs cs} (N : NetAt σ na nm inm onm cnt (List.range' 2 w) outs cs) (hw : w ≤ 10) (hl : cs.length ≤ 50) (W : WF w cs) (ho : ∀ n ∈ outs, domW w cs n) (hol : outs.length ≤ 100)
    (hG : ∀ ord, TopO cs.length (dpf w cs) ord → Good w cs outs (pkRun cs outs ord)) (h : Q (.bool true) σ) : CLc C (k + 5) (.ref 247) [.ref na.x] σ Q := by
  refine clc_post (cl_def (ps := ["netlist"]) (vs' := [.ref na.x]) (ls := ["before", "changed", "replaced", "muxes", "spot", "made", "wide", "line"]) (by rw [hK]; rfl) (by rw [hK]; kernel_rfl) (by walk_at "b1") rfl (by rfl) rfl (by rfl) ?_)
  show EX _ _ _ _ [("netlist", some (.ref na.x)), ("before", none), ("changed", none), ("replaced", none), ("muxes", none), ("spot", none), ("made", none), ("wide", none), ("line", none)] _ _
  obtain ⟨h0, h1, h2, h3, h4, h5⟩ := id N
  refine ex_cons ?_
  refine ex_assign ?_ (by rfl)
  refine ev_callT (f := "list") (T := "list") (by rfl) (by walk_at "k") (by kernel_rfl) (by decide) ?_ (by rfl)
  refine ev_attr ?_
  refine ev_name (by walk_at "lk") ?_
  refine t1_attr (by walk_at "mem") (HasS.mem (by walk_at "hs")) (by walk_at "k") (by rfl) ?_
  refine cl_list_list (by walk_at "mem") (by walk_at "len") ?_
  intro BE
  with_reducible refine ⟨_, (by walk_at "updg"), ?_⟩
  refine ex_cons ?_
  refine ex_assign ?_ (by rfl)
  refine ev_callT (f := "list") (T := "list") (by rfl) (by walk_at "k") (by kernel_rfl) (by decide) ?_ (by rfl)
  refine ev_attr ?_
  refine ev_name (by walk_at "lk") ?_
  refine t1_attr (by walk_at "mem") (HasS.mem (by walk_at "hs")) (by walk_at "k") (by rfl) ?_
  refine cl_list_list (by walk_at "mem") (by walk_at "len") ?_
  intro CH
  with_reducible refine ⟨_, (by walk_at "updg"), ?_⟩
  refine ex_cons ?_
  refine ex_assign ?_ (by rfl)
  refine ev_dict0 ?_
  intro RD
  with_reducible refine ⟨_, (by walk_at "updg"), ?_⟩
  refine ex_cons ?_
  refine ex_expr ?_
  refine ev_callK (v := .ref 201) (by rfl) (by walk_at "k") (by walk_at "k") (by rfl) ?_
  refine evs_cons ?_
  refine ev_name (by walk_at "lk") ?_
  refine evs_cons ?_
  refine ev_name (by walk_at "lk") ?_
  refine evs_cons ?_
  refine ev_name (by walk_at "lk") ?_
  refine evs_nil ?_
  refine clc_pre (.pick .head (.pick .head .refl)) (c_pass_known hK N.tail (by (first | lia | omega)) (by (first | lia | omega)) hol W fun ord hord => ?_)
  have G := hG ord hord
  generalize pkRun cs outs ord = st at G
  obtain ⟨cells, R, X⟩ := st
  have hcl : cells.length = cs.length := G.cl
  have hrl : R.length ≤ 1000 := G.rl
  dsimp only
  refine ex_cons ?_
  refine ex_if ?_
  refine bt_or2 ?_
  refine bt_compare ?_
  refine ev_attr ?_
  refine ev_name (by walk_at "lk") ?_
  refine t1_attr (by walk_at "mem") (HasS.mem (by walk_at "hs")) (by walk_at "k") (by rfl) ?_
  refine ev_name (by walk_at "lk") ?_
  refine t2_ne_same (n := 3) (m := 3) (.list (by walk_at "mem") (rds_cells 0 cs)) (.list (by walk_at "mem") (rds_cells 0 cs)) (by (first | lia | omega)) ?_
  with_reducible refine ⟨_, rfl, ?_⟩
  refine if_f (by first | with_reducible rfl | with_reducible assumption | rfl) ?_
  refine bt_compare ?_
  refine ev_callB (f := "len") (id := "len") (by rfl) (by walk_at "k") (by kernel_rfl) (by decide) ?_ (by rfl)
  refine ev_name (by walk_at "lk") ?_
  refine cl_len_list (by walk_at "mem") (by walk_at "len") ?_
  refine ev_callB (f := "len") (id := "len") (by rfl) (by walk_at "k") (by kernel_rfl) (by decide) ?_ (by rfl)
  refine ev_name (by walk_at "lk") ?_
  refine cl_len_list (by walk_at "mem") (by walk_at "len") ?_
  with_reducible refine t2_ne_int ?_
  with_reducible refine ⟨_, rfl, ?_⟩
  refine if_f (by rw [List.length_map, List.length_map, hcl]; exact bne_self_eq_false _) ?_
  refine ex_nil ?_
  refine ex_cons ?_
  refine ex_assign (ev_comp [] (by rfl) (by walk_at "free") (by rfl) (ie_list ?_)) (by rfl) (swap_false (by rfl))
  refine ev_name (by walk_at "lk") ?_
  with_reducible refine ⟨_, _, rfl, (by walk_at "mem"), ?_⟩
  refine compJ_filter cs cellV (fun c => nV c.out) (fun c => isMux c.k) rfl (by walk_at "mem") (by (first | lia | omega)) (fun c hc => ?_) (fun c hc _ => ?_) fun MX => ?_
  · (refine bt_compare ?_; refine ev_sub ?_; refine ev_name (by walk_at "lk") ?_; refine ev_int ?_; refine t2_tuple_item (by rfl) (by rfl) ?_ (by walk_at "len"); refine ev_str ?_; with_reducible refine t2_eq_str ?_; with_reducible refine ⟨_, rfl, ?_⟩)
    rw [kindS_mux]
    exact ⟨rfl, rfl⟩
  · (refine ev_sub ?_; refine ev_name (by walk_at "lk") ?_; refine ev_int ?_; refine t2_tuple_item (by rfl) (by rfl) ?_ (by walk_at "len"))
    exact ⟨rfl, rfl⟩
  with_reducible refine ⟨_, (by walk_at "updg"), ?_⟩
  refine ex_cons ?_
  refine ex_if ?_
  refine bt_compare ?_
  refine ev_bool ?_
  refine ev_freeze (d := RD) (l := dM nV R) (σf := fun ep => (MX, .list ((cs.filter fun c => isMux c.k).map fun c => nV c.out)) :: (RD, .fdict ep (dM nV R)) :: (CH, .list (cells.map cellV)) :: (BE, .list (cs.map cellV)) :: σ) (fun ep => .tail .head) fun ep => ev_thaw (d := RD) (l := dM nV R) (ev_comp [("muxes", some (.ref MX))] (by rfl) (by walk_at "free") (by rfl) (ie_fdict ?_))
  refine ev_name (by walk_at "lk") ?_
  with_reducible refine ⟨_, _, _, rfl, (by walk_at "mem"), ?_⟩
  have hmx : (cs.filter fun c => isMux c.k).map (fun c => nV c.out) = ((cs.filter fun c => isMux c.k).map fun c => (c.out : Int)).map Vl.int := by rw [List.map_map]; rfl
  refine compJ_map R (fun p => nV p.1) (fun _ => .bool true) (by unfold dM; rw [List.map_map]; rfl) (.tail _ (.head _)) (by (first | lia | omega)) (fun p hp => ?_) fun D => ?_
  · (refine ev_compare ?_; refine ev_name (by walk_at "lk") ?_; refine ev_name (by walk_at "lk") ?_)
    rw [hmx]
    refine t2_in_ints (.head _) ?_
    refine ⟨?_, rfl⟩
    obtain ⟨c, hc, hm, e⟩ := G.keys p hp
    congr 1
    rw [List.any_eq_true]
    exact ⟨(p.1 : Int), List.mem_map.mpr ⟨c, List.mem_filter.mpr ⟨hc, hm⟩, by rw [e]⟩, by simp⟩
  refine ⟨ep, _, .tail (.tail .head), ?_⟩
  rw [show R.map (fun _ => Vl.bool true) = (R.map fun _ => true).map Vl.bool by rw [List.map_map]; rfl]
  refine t2_in_bools (.head _) ?_
  rw [any_false fun b hb => by obtain ⟨n, hn, rfl⟩ := List.mem_map.mp hb; rfl]
  with_reducible refine ⟨_, rfl, ?_⟩
  refine if_f (by first | with_reducible rfl | with_reducible assumption | rfl) ?_
  refine ex_nil ?_
  refine ex_cons ?_
  refine ex_forL (ie_range (by rfl) (by walk_at "k") (by kernel_rfl) ?_ (by rfl))
  refine ev_callB (f := "len") (id := "len") (by rfl) (by walk_at "k") (by kernel_rfl) (by decide) ?_ (by rfl)
  refine ev_name (by walk_at "lk") ?_
  refine cl_len_list (by walk_at "mem") (by walk_at "len") ?_
  with_reducible refine ⟨_, rfl, ?_⟩
  refine ⟨(by walk_at "len"), ?_⟩
  rw [rangeV_map, List.length_map]
  refine ⟨Nat, Unit, nV, fun rest _ => ∃ i m, rest = List.range' i m ∧ i + m = cs.length, fun _ => GK na.x BE CH RD none none none none none, fun _ => (RD, .idict (dM nV R)) :: (CH, .list (cells.map cellV)) :: (BE, .list (cs.map cellV)) :: σ, _, (), rfl, ⟨0, _, rfl, by (first | lia | omega)⟩, by walk_at "wk", .pick (.tail (.tail .head)) (.pick (.tail (.tail .head)) (.pick (.tail (.tail .head)) (.sub (.cons _ (.cons _ (.refl _)))))), fun _ _ _ => trivial, ?_, ?_⟩
  · rintro j rest _ ⟨i, m, e, hi⟩
    obtain ⟨rfl, m', rfl, rfl⟩ := range'_cons e
    have hj : j < cs.length := by (first | lia | omega)
    have hc := List.getElem?_eq_getElem hj
    obtain ⟨c', hc', hk, hout, hsame, hmux⟩ := G.same j _ hc
    dsimp only at hc'
    have har := W.ar _ (List.getElem_mem hj)
    generalize cs[j] = c at *
    refine as_name (by walk_at "updg") (by rfl) ?_
    refine ex_cons ?_
    refine ex_if ?_
    refine bt_and2 ?_
    refine bt_compare ?_
    refine ev_sub ?_
    refine ev_sub ?_
    refine ev_name (by walk_at "lk") ?_
    refine ev_name (by walk_at "lk") ?_
    refine t2_list_itemN (by walk_at "mem") hc (by (first | lia | omega)) ?_
    refine ev_int ?_
    refine t2_tuple_item (by rfl) (by rfl) ?_ (by walk_at "len")
    refine ev_str ?_
    with_reducible refine t2_ne_str ?_
    with_reducible refine ⟨_, rfl, ?_⟩
    rw [kindS_nmux]
    cases hm : isMux c.k with
    | false =>
      have := hsame hm
      subst this
      refine if_t (by first | with_reducible rfl | with_reducible assumption | rfl) ?_
      refine bt_compare ?_
      refine ev_sub ?_
      refine ev_name (by walk_at "lk") ?_
      refine ev_name (by walk_at "lk") ?_
      refine t2_list_itemN (by walk_at "mem") hc' (by (first | lia | omega)) ?_
      refine ev_sub ?_
      refine ev_name (by walk_at "lk") ?_
      refine ev_name (by walk_at "lk") ?_
      refine t2_list_itemN (by walk_at "mem") hc (by (first | lia | omega)) ?_
      refine t2_ne_same (rd_cell 0 c') (rd_cell 0 c') (by (first | lia | omega)) ?_
      with_reducible refine ⟨_, rfl, ?_⟩
      refine if_f (by first | with_reducible rfl | with_reducible assumption | rfl) ?_
      refine ex_nil ?_
      refine ex_one ?_
      refine ex_if ?_
      refine bt_and2 ?_
      refine bt_compare ?_
      refine ev_sub ?_
      refine ev_sub ?_
      refine ev_name (by walk_at "lk") ?_
      refine ev_name (by walk_at "lk") ?_
      refine t2_list_itemN (by walk_at "mem") hc (by (first | lia | omega)) ?_
      refine ev_int ?_
      refine t2_tuple_item (by rfl) (by rfl) ?_ (by walk_at "len")
      refine ev_str ?_
      with_reducible refine t2_eq_str ?_
      with_reducible refine ⟨_, rfl, ?_⟩
      rw [kindS_mux, hm]
      refine if_f (by first | with_reducible rfl | with_reducible assumption | rfl) ?_
      refine if_f (by first | with_reducible rfl | with_reducible assumption | rfl) ?_
      refine ex_nil ?_
      exact ⟨(), ⟨j + 1, m', rfl, by (first | lia | omega)⟩, by walk_at "wk", .refl⟩
    | true =>
      obtain ⟨s, l, l', e1, e2⟩ := hmux hm
      refine if_f (by first | with_reducible rfl | with_reducible assumption | rfl) ?_
      refine if_f (by first | with_reducible rfl | with_reducible assumption | rfl) ?_
      refine ex_nil ?_
      refine ex_one ?_
      refine ex_if ?_
      refine bt_and2 ?_
      refine bt_compare ?_
      refine ev_sub ?_
      refine ev_sub ?_
      refine ev_name (by walk_at "lk") ?_
      refine ev_name (by walk_at "lk") ?_
      refine t2_list_itemN (by walk_at "mem") hc (by (first | lia | omega)) ?_
      refine ev_int ?_
      refine t2_tuple_item (by rfl) (by rfl) ?_ (by walk_at "len")
      refine ev_str ?_
      with_reducible refine t2_eq_str ?_
      with_reducible refine ⟨_, rfl, ?_⟩
      rw [kindS_mux, hm]
      refine if_t (by first | with_reducible rfl | with_reducible assumption | rfl) ?_
      refine bt_or2 ?_
      refine bt_compare ?_
      refine ev_tslice_to ?_ (by decide)
      refine ev_sub ?_
      refine ev_name (by walk_at "lk") ?_
      refine ev_name (by walk_at "lk") ?_
      refine t2_list_itemN (by walk_at "mem") hc' (by (first | lia | omega)) ?_
      with_reducible refine ⟨_, rfl, ?_⟩
      refine ⟨by simp, by simp, ?_⟩
      refine ev_tslice_to ?_ (by decide)
      refine ev_sub ?_
      refine ev_name (by walk_at "lk") ?_
      refine ev_name (by walk_at "lk") ?_
      refine t2_list_itemN (by walk_at "mem") hc (by (first | lia | omega)) ?_
      with_reducible refine ⟨_, rfl, ?_⟩
      refine ⟨by simp, by simp, ?_⟩
      have htk : [Vl.str (kindS c'.k), nV c'.out, .tup (c'.ins.map nV), .none].take (2 : Int).toNat = [Vl.str (kindS c.k), nV c.out, .tup (c.ins.map nV), .none].take (2 : Int).toNat := by
        rw [hk, hout]; rfl
      rw [htk]
      have hrd : ∀ σ, Mine.RD σ 1 (.tup ([Vl.str (kindS c.k), nV c.out, .tup (c.ins.map nV), .none].take (2 : Int).toNat)) (.tuple [.str (kindS c.k), .int (c.out : Int)]) := fun σ =>
        .tup (.cons (.str (by cases c.k <;> kernel_rfl)) (.cons (.int _ _) (.nil _)))
      refine t2_ne_same (hrd _) (hrd _) (by (first | lia | omega)) ?_
      with_reducible refine ⟨_, rfl, ?_⟩
      refine if_f (by first | with_reducible rfl | with_reducible assumption | rfl) ?_
      refine bt_compare ?_
      refine ev_sub ?_
      refine ev_sub ?_
      refine ev_sub ?_
      refine ev_name (by walk_at "lk") ?_
      refine ev_name (by walk_at "lk") ?_
      refine t2_list_itemN (by walk_at "mem") hc' (by (first | lia | omega)) ?_
      refine ev_int ?_
      refine t2_tuple_item (by rfl) (by rfl) ?_ (by walk_at "len")
      refine ev_int ?_
      rw [e2]
      refine t2_tuple_item (j := 0) (v := nV s) (by simp [seqIndex?]) rfl ?_ (by have := (G.ar _ (List.mem_of_getElem? hc')).len; rw [e2] at this; simp at this ⊢; (first | lia | omega))
      refine ev_sub ?_
      refine ev_sub ?_
      refine ev_sub ?_
      refine ev_name (by walk_at "lk") ?_
      refine ev_name (by walk_at "lk") ?_
      refine t2_list_itemN (by walk_at "mem") hc (by (first | lia | omega)) ?_
      refine ev_int ?_
      refine t2_tuple_item (by rfl) (by rfl) ?_ (by walk_at "len")
      refine ev_int ?_
      rw [e1]
      refine t2_tuple_item (j := 0) (v := nV s) (by simp [seqIndex?]) rfl ?_ (by have := har.len; rw [e1] at this; simp at this ⊢; (first | lia | omega))
      with_reducible refine t2_ne_int ?_
      with_reducible refine ⟨_, rfl, ?_⟩
      refine if_f (bne_self_eq_false _) ?_
      refine ex_nil ?_
      exact ⟨(), ⟨j + 1, m', rfl, by (first | lia | omega)⟩, by walk_at "wk", .refl⟩
  · rintro _ ⟨i, m, e, hi⟩
    refine ex_cons ?_
    refine ex_assign ?_ (by rfl)
    refine ev_callK (v := .ref 213) (by rfl) (by walk_at "k") (by walk_at "k") (by rfl) ?_
    refine evs_cons ?_
    refine ev_name (by walk_at "lk") ?_
    refine evs_cons ?_
    refine ev_name (by walk_at "lk") ?_
    refine evs_cons ?_
    refine ev_name (by walk_at "lk") ?_
    refine evs_nil ?_
    refine c_rebuilt_cells hK (N.tail.tail.tail) (by walk_at "mem") (by walk_at "mem") G.dec (by (first | lia | omega)) hol (by simp; (first | lia | omega)) (fun c hc => by have := (G.ar c hc).len; (first | lia | omega)) fun mn σn Nm => ?_
    have N' : NetAt (σn ++ (RD, Ob.idict (dM nV R)) :: (CH, Ob.list (cells.map cellV)) :: (BE, Ob.list (cs.map cellV)) :: σ) na nm inm onm cnt (List.range' 2 w) outs cs := N.tail.tail.tail.right
    have hsub : SubP σ (σn ++ (RD, Ob.idict (dM nV R)) :: (CH, Ob.list (cells.map cellV)) :: (BE, Ob.list (cs.map cellV)) :: σ) := .sub ((List.Sublist.cons _ (.cons _ (.cons _ (.refl _)))).trans (List.sublist_append_right ..))
    generalize σn ++ (RD, Ob.idict (dM nV R)) :: (CH, Ob.list (cells.map cellV)) :: (BE, Ob.list (cs.map cellV)) :: σ = σ' at *
    obtain ⟨g0, g1, g2, g3, g4, g5⟩ := id N'
    with_reducible refine ⟨_, (by walk_at "updg"), ?_⟩
    refine ex_cons ?_
    refine ex_assign ?_ (by rfl)
    refine ev_callB (f := "len") (id := "len") (by rfl) (by walk_at "k") (by kernel_rfl) (by decide) ?_ (by rfl)
    refine ev_sub ?_
    refine ev_sub ?_
    refine ev_attr ?_
    refine ev_name (by walk_at "lk") ?_
    refine t1_attr (by walk_at "mem") (HasS.mem (by walk_at "hs")) (by walk_at "k") (by rfl) ?_
    refine ev_int ?_
    refine t2_list_item (v := .tup [.str inm, .ref na.i1]) (by walk_at "mem") (by (first | lia | omega)) (by rfl) (by simp) ?_
    refine ev_int ?_
    refine t2_tuple_item (by rfl) (by rfl) ?_ (by walk_at "len")
    refine cl_len_list (by walk_at "mem") (by walk_at "len") ?_
    with_reducible refine ⟨_, (by walk_at "updg"), ?_⟩
    refine ex_cons ?_
    rw [List.length_map, List.length_range']
    have hp := pow_le10 hw
    refine ex_forL (ie_range (by rfl) (by walk_at "k") (by kernel_rfl) ?_ (by rfl))
    refine ev_binop ?_
    refine ev_int ?_
    refine ev_name (by walk_at "lk") ?_
    refine t2_pow ?_ (Int.natCast_nonneg _) (by rw [show Builtin.Int.intBits 2 = 2 from rfl]; (first | lia | omega))
    rw [pow2]
    refine ⟨2 ^ w, rfl, by (first | lia | omega), ?_⟩
    rw [rangeV_map]
    refine ⟨Nat, Unit, nV, fun _ _ => True, fun _ => GK na.x BE CH RD none none (some (.ref mn.x)) none none, fun _ => σ', _, (), rfl, trivial, by walk_at "wk", .refl, fun _ _ _ => trivial, ?_, ?_⟩
    · rintro line rest _ _
      obtain ⟨V, hV⟩ := W.sorted.value (line := line)
      obtain ⟨V', hV', he⟩ := G.eval line V hV
      have hrb := rb_length R cells
      refine as_name (by walk_at "updg") (by rfl) ?_
      refine ex_one ?_
      refine ex_if ?_
      refine bt_compare ?_
      refine ev_callK (v := .ref 237) (by rfl) (by walk_at "k") (by walk_at "k") (by rfl) ?_
      refine evs_cons ?_
      refine ev_name (by walk_at "lk") ?_
      refine evs_cons ?_
      refine ev_name (by walk_at "lk") ?_
      refine evs_nil ?_
      refine c_shown hK Nm hw (by dsimp only; (first | lia | omega)) G.sorted hV' (fun n hn => by obtain ⟨x, hx, rfl⟩ := List.mem_map.mp hn; exact G.dom x hx) (by simp; (first | lia | omega)) fun D1 F1 => ?_
      refine ev_callK (v := .ref 237) (by rfl) (by walk_at "k") (by walk_at "k") (by rfl) ?_
      refine evs_cons ?_
      refine ev_name (by walk_at "lk") ?_
      refine evs_cons ?_
      refine ev_name (by walk_at "lk") ?_
      refine evs_nil ?_
      refine c_shown hK N'.tail.tail hw (by (first | lia | omega)) W.sorted hV ho hol fun D2 F2 => ?_
      have hval : (outs.map (fin R)).map (fun n => nV (V' n).toNat) = outs.map fun n => nV (V n).toNat := by
        rw [List.map_map]
        exact List.map_congr_left fun n hn => by show nV (V' (fin R n)).toNat = _; rw [he n hn]
      dsimp only
      rw [hval]
      refine t2_ne_same (n := 2) (m := 2) (.list (by walk_at "mem") (.cons (.list (by walk_at "mem") (rds_vals 0 (fun n => (V n).toNat) outs)) (.nil _))) (.list (by walk_at "mem") (.cons (.list (by walk_at "mem") (rds_vals 0 (fun n => (V n).toNat) outs)) (.nil _))) (by (first | lia | omega)) ?_
      with_reducible refine ⟨_, rfl, ?_⟩
      refine if_f (by first | with_reducible rfl | with_reducible assumption | rfl) ?_
      refine ex_nil ?_
      exact ⟨(), trivial, by walk_at "wk", by walk_at "subp"⟩
    · rintro _ _
      refine ex_one ?_
      refine ex_return ?_
      refine ev_bool ?_
      exact ⟨_, hsub, h⟩
theorem topo_chain {N : Nat} {dp : Nat → List Nat} {R : List Nat} (h : TopO N dp R) (hc : ∀ i, i + 1 < N → i ∈ dp (i + 1)) : R = List.range N := by
  have hlen : R.length = N := by have := h.1.length_eq; simpa using this
  have nd : R.Nodup := (h.1.nodup_iff).mpr List.nodup_range
  have key : ∀ p, p < N → R[p]? = some p := by
    intro p
    induction p using Nat.strongRecOn with
    | ind p ih =>
      intro hp
      have hpl : p < R.length := by (first | lia | omega)
      have hg := List.getElem?_eq_getElem hpl
      generalize R[p] = j at hg
      have hjN : j < N := by have := h.1.mem_iff.mp (List.mem_of_getElem? hg); simpa using this
      have htake : ∀ x, x ∈ R.take p ↔ x < p := fun x => by
        constructor
        · intro hx
          obtain ⟨i, hi⟩ := List.mem_iff_getElem?.mp hx
          rw [List.getElem?_take] at hi
          split at hi
          · rename_i hlt
            rw [ih i hlt (by (first | lia | omega))] at hi
            cases hi; exact hlt
          · cases hi
        · intro hx
          refine List.mem_iff_getElem?.mpr ⟨x, ?_⟩
          rw [List.getElem?_take, if_pos hx]
          exact ih x hx (by (first | lia | omega))
      have h1 : ¬ j < p := fun q => not_mem_take nd hg ((htake j).mpr q)
      by_cases q : j = p
      · rw [hg, q]
      · obtain ⟨i, rfl⟩ : ∃ i, j = i + 1 := ⟨j - 1, by (first | lia | omega)⟩
        have := (htake i).mp (h.2 p (i + 1) hg i (hc i hjN))
        (first | lia | omega)
  refine List.ext_getElem? fun p => ?_
  by_cases q : p < N
  · rw [key p q, List.getElem?_range q]
  · rw [List.getElem?_eq_none (by (first | lia | omega)), List.getElem?_eq_none (by simp; (first | lia | omega))]
theorem wf2 {s a b c d e : Nat} (h1 : ∀ n ∈ [s, a, b], n < 7) (h2 : ∀ n ∈ [c, d, e], n < 8) : WF 5 [⟨.mux, 7, [s, a, b]⟩, ⟨.mux, 8, [c, d, e]⟩] :=
  (WF.nil.snoc (c := ⟨.mux, 7, [s, a, b]⟩) rfl ⟨s, a, b, rfl⟩ h1).snoc (c := ⟨.mux, 8, [c, d, e]⟩) rfl ⟨c, d, e, rfl⟩ h2
theorem wf3 {x s a b c d e : Nat} (h0 : ∀ n ∈ [x], n < 7) (h1 : ∀ n ∈ [s, a, b], n < 8) (h2 : ∀ n ∈ [c, d, e], n < 9) : WF 5 [⟨.inv, 7, [x]⟩, ⟨.mux, 8, [s, a, b]⟩, ⟨.mux, 9, [c, d, e]⟩] :=
  ((WF.nil.snoc (c := ⟨.inv, 7, [x]⟩) rfl ⟨x, rfl⟩ h0).snoc (c := ⟨.mux, 8, [s, a, b]⟩) rfl ⟨s, a, b, rfl⟩ h1).snoc (c := ⟨.mux, 9, [c, d, e]⟩) rfl ⟨c, d, e, rfl⟩ h2
theorem two_test : (pkRun [⟨.mux, 7, [2, 3, 4]⟩, ⟨.mux, 8, [2, 5, 7]⟩] [8] [0, 1]).R = [(7, 4)] := by decide
theorem two_test2 : (pkRun [⟨.inv, 7, [2]⟩, ⟨.mux, 8, [7, 3, 4]⟩, ⟨.mux, 9, [2, 8, 5]⟩] [9] [0, 1, 2]).R = [(8, 4)] := by decide
noncomputable def MuxOK (cs : List Cel) (outs : List Nat) (st : PS) (i out s a b : Nat) : Prop := match kb (st.X out) (pget (invD cs)) s with
  | some bit => st.cells[i]? = some ⟨.mux, out, [s, a, b]⟩ ∧ pget st.R out = some (kon (st.X out) (pget (invD cs)) (if bit then b else a)) ∧
      st.X (if bit then b else a) = if (U cs outs).count (if bit then b else a) = 1 then st.X out else []
  | none => st.cells[i]? = some ⟨.mux, out, [s, kon (st.X out ++ [(s, false)]) (pget (invD cs)) a, kon (st.X out ++ [(s, true)]) (pget (invD cs)) b]⟩ ∧ pget st.R out = none ∧
      st.X a = (if (U cs outs).count a = 1 then st.X out ++ [(s, false)] else []) ∧ st.X b = (if (U cs outs).count b = 1 then st.X out ++ [(s, true)] else [])
theorem MuxOK.congr {cs outs st st' i out s a b} (h : MuxOK cs outs st i out s a b) (ho : st'.X out = st.X out) (ha : st'.X a = st.X a) (hb : st'.X b = st.X b) (hc : st'.cells[i]? = st.cells[i]?) (hr : pget st'.R out = pget st.R out) : MuxOK cs outs st' i out s a b := by
  unfold MuxOK at *
  rw [ho]
  cases q : kb (st.X out) (pget (invD cs)) s with
  | some bit =>
    rw [q] at h
    dsimp only at h ⊢
    rw [hc, hr]
    refine ⟨h.1, h.2.1, ?_⟩
    cases bit
    · simp only [Bool.false_eq_true, if_false] at h ⊢; rw [ha]; exact h.2.2
    · simp only [if_true] at h ⊢; rw [hb]; exact h.2.2
  | none =>
    rw [q] at h
    dsimp only at h ⊢
    rw [hc, hr, ha, hb]
    exact h
structure PI (cs : List Cel) (outs : List Nat) (done : List Nat) (st : PS) : Prop where
  cl : st.cells.length = cs.length
  plain : ∀ (i : Nat) (c : Cel), cs[i]? = some c → (i ∉ done ∨ isMux c.k = false) → st.cells[i]? = some c ∧ pget st.R c.out = none
  mux : ∀ (i out s a b : Nat), cs[i]? = some ⟨.mux, out, [s, a, b]⟩ → i ∈ done → MuxOK cs outs st i out s a b
  ctx : ∀ n, st.X n ≠ [] → (U cs outs).count n = 1 ∧ ∃ i ∈ done, ∃ out s a b, cs[i]? = some ⟨.mux, out, [s, a, b]⟩ ∧ (n = a ∨ n = b)
  key : ∀ p ∈ st.R, ∃ c ∈ cs, isMux c.k = true ∧ c.out = p.1
  rl : st.R.length ≤ done.length

-- two uses
theorem count_two {cs : List Cel} {outs : List Nat} {i j : Nat} {c d : Cel} {n : Nat} (hi : cs[i]? = some c) (hj : cs[j]? = some d) (hne : i ≠ j) (hc : n ∈ c.ins) (hd : n ∈ d.ins) : 2 ≤ (U cs outs).count n := by
  have go : ∀ {i j : Nat} {c d : Cel}, cs[i]? = some c → cs[j]? = some d → i < j → n ∈ c.ins → n ∈ d.ins → 2 ≤ (U cs outs).count n := by
    intro i j c d hi hj hlt hc hd
    obtain ⟨h1, e1⟩ := List.getElem?_eq_some_iff.mp hi
    have e : cs = cs.take (i + 1) ++ cs.drop (i + 1) := (List.take_append_drop _ _).symm
    have m1 : c ∈ cs.take (i + 1) := List.mem_iff_getElem?.mpr ⟨i, by rw [List.getElem?_take, if_pos (by (first | lia | omega))]; exact hi⟩
    have m2 : d ∈ cs.drop (i + 1) := List.mem_iff_getElem?.mpr ⟨j - (i + 1), by rw [List.getElem?_drop, show i + 1 + (j - (i + 1)) = j by (first | lia | omega)]; exact hj⟩
    unfold U
    rw [List.count_append]
    have : (cs.flatMap (·.ins)).count n = ((cs.take (i + 1)).flatMap (·.ins)).count n + ((cs.drop (i + 1)).flatMap (·.ins)).count n := by
      conv => lhs; rw [e]
      rw [List.flatMap_append, List.count_append]
    have h3 : 0 < ((cs.take (i + 1)).flatMap (·.ins)).count n := List.count_pos_iff.mpr (List.mem_flatMap.mpr ⟨c, m1, hc⟩)
    have h4 : 0 < ((cs.drop (i + 1)).flatMap (·.ins)).count n := List.count_pos_iff.mpr (List.mem_flatMap.mpr ⟨d, m2, hd⟩)
    (first | lia | omega)
  rcases Nat.lt_or_gt_of_ne hne with h | h
  · exact go hi hj h hc hd
  · exact go hj hi h hd hc
theorem count_out {cs : List Cel} {outs : List Nat} {c : Cel} {n : Nat} (hi : c ∈ cs) (hc : n ∈ c.ins) (ho : n ∈ outs) : 2 ≤ (U cs outs).count n := by
  unfold U
  rw [List.count_append]
  have h3 : 0 < (cs.flatMap (·.ins)).count n := List.count_pos_iff.mpr (List.mem_flatMap.mpr ⟨c, hi, hc⟩)
  have h4 := List.count_pos_iff.mpr ho
  (first | lia | omega)
theorem count_in {cs : List Cel} {outs : List Nat} {c : Cel} {n : Nat} (hi : c ∈ cs) : c.ins.count n ≤ (U cs outs).count n := by
  unfold U
  rw [List.count_append]
  obtain ⟨p, q, e⟩ := List.append_of_mem hi
  subst e
  rw [List.flatMap_append, List.flatMap_cons, List.count_append, List.count_append]
  (first | lia | omega)
theorem outs_inj {w cs} (W : WF w cs) {i j : Nat} {c d : Cel} (hi : cs[i]? = some c) (hj : cs[j]? = some d) (h : c.out = d.out) : i = j := by
  have := W.outs i c hi
  have := W.outs j d hj
  (first | lia | omega)

theorem PI.step {w cs outs done st st' j out s a b} (W : WF w cs) (h : PI cs outs done st) (hc : cs[j]? = some ⟨.mux, out, [s, a, b]⟩) (hj : j ∉ done)
    (hu : ∀ i ∈ done, ∀ c, cs[i]? = some c → c.out ∉ [s, a, b])
    (hX : ∀ n, st'.X n = st.X n ∨ ((n = a ∨ n = b) ∧ (U cs outs).count n = 1)) (hC : ∀ i, i ≠ j → st'.cells[i]? = st.cells[i]?) (hR : ∀ n, n ≠ out → pget st'.R n = pget st.R n)
    (hM : MuxOK cs outs st' j out s a b) (hcl : st'.cells.length = st.cells.length) (hk : ∀ p ∈ st'.R, p.1 = out ∨ ∃ p' ∈ st.R, p'.1 = p.1) (hrl : st'.R.length ≤ st.R.length + 1) : PI cs outs (done ++ [j]) st' := by
  refine ⟨hcl.trans h.cl, fun i c hi hq => ?_, fun i out' s' a' b' hi hd => ?_, fun n hn => ?_, fun p hp => ?_, by have := h.rl; simp; (first | lia | omega)⟩
  · have hij : i ≠ j := by
      rintro rfl
      rw [hc] at hi; cases hi
      rcases hq with q | q
      · exact q (by simp)
      · cases q
    have hout : c.out ≠ out := fun e => hij (outs_inj W hi hc e)
    have := h.plain i c hi (hq.imp_left fun q z => q (List.mem_append_left _ z))
    rw [hC i hij, hR _ hout]
    exact this
  · by_cases hij : i = j
    · subst hij
      rw [hc] at hi; cases hi
      exact hM
    · have hid : i ∈ done := by
        rcases List.mem_append.mp hd with q | q
        · exact q
        · simp at q; exact absurd q hij
      have hX' : ∀ n, (n = out' ∨ n = a' ∨ n = b') → st'.X n = st.X n := by
        intro n hn
        rcases hX n with q | ⟨q1, q2⟩
        · exact q
        · exfalso
          rcases hn with rfl | hn
          · exact hu i hid _ hi (by rcases q1 with rfl | rfl <;> simp)
          · have : 2 ≤ (U cs outs).count n := count_two hi hc hij (by rcases hn with rfl | rfl <;> simp) (by rcases q1 with rfl | rfl <;> simp)
            (first | lia | omega)
      exact (h.mux i out' s' a' b' hi hid).congr (hX' _ (.inl rfl)) (hX' _ (.inr (.inl rfl))) (hX' _ (.inr (.inr rfl))) (hC i hij) (hR _ fun e => hij (outs_inj W hi hc e))
  · rcases hX n with q | ⟨q1, q2⟩
    · rw [q] at hn
      obtain ⟨x, i, hi, y⟩ := h.ctx n hn
      exact ⟨x, i, List.mem_append_left _ hi, y⟩
    · exact ⟨q2, j, by simp, out, s, a, b, hc, q1⟩
  · rcases hk p hp with q | ⟨p', hp', q⟩
    · exact ⟨_, List.mem_of_getElem? hc, rfl, q.symm⟩
    · rw [← q]; exact h.key p' hp'
theorem PI.skip {cs outs done st j} (h : PI cs outs done st) (hm : ∀ c, cs[j]? = some c → isMux c.k = false) : PI cs outs (done ++ [j]) st := by
  refine ⟨h.cl, fun i c' hi hq => h.plain i c' hi (hq.imp_left fun q z => q (List.mem_append_left _ z)), fun i out s a b hi hd => ?_, fun n hn => ?_, h.key, by have := h.rl; simp; (first | lia | omega)⟩
  · rcases List.mem_append.mp hd with q | q
    · exact h.mux i out s a b hi q
    · simp at q; subst q; have := hm _ hi; cases this
  · obtain ⟨x, i, hi, y⟩ := h.ctx n hn
    exact ⟨x, i, List.mem_append_left _ hi, y⟩
theorem PI.zero {cs outs} : PI cs outs [] ⟨cs, [], fun _ => []⟩ := ⟨rfl, fun i c hi _ => ⟨hi, rfl⟩, fun i _ _ _ _ _ hd => (by cases hd), fun n hn => absurd rfl hn, fun p hp => (by cases hp), Nat.le_refl _⟩
theorem putX_eq {X : Nat → List (Nat × Bool)} {c l} : putX X c l c = l := by unfold putX; rw [if_pos rfl]
theorem putX_ne {X : Nat → List (Nat × Bool)} {c l n} (h : n ≠ c) : putX X c l n = X n := by unfold putX; rw [if_neg h]
theorem pset_mem {β : Type} {d : List (Nat × β)} {n : Nat} {v : β} {p : Nat × β} (h : p ∈ pset d n v) : p.1 = n ∨ ∃ p' ∈ d, p'.1 = p.1 := by
  unfold pset at h
  split at h
  · obtain ⟨q, hq, e⟩ := List.mem_map.mp h
    split at e
    · rename_i z; subst e; exact .inl z
    · subst e; exact .inr ⟨q, hq, rfl⟩
  · rcases List.mem_append.mp h with q | q
    · exact .inr ⟨p, q, rfl⟩
    · simp at q; subst q; exact .inl rfl
theorem PI.run {w cs outs done st j} (W : WF w cs) (h : PI cs outs done st) (hj : j ∉ done) (hu : ∀ i ∈ done, ∀ c d, cs[i]? = some c → cs[j]? = some d → c.out ∉ d.ins) : PI cs outs (done ++ [j]) (pkStep cs (U cs outs) (pget (invD cs)) st j) := by
  cases hc : cs[j]? with
  | none =>
    have e : pkStep cs (U cs outs) (pget (invD cs)) st j = st := by unfold pkStep; rw [hc]
    rw [e]
    exact h.skip fun c q => by rw [hc] at q; cases q
  | some c =>
    obtain ⟨k, out, ins⟩ := c
    have har := W.ar _ (List.mem_of_getElem? hc)
    cases k with
    | inv =>
      have e : pkStep cs (U cs outs) (pget (invD cs)) st j = st := by unfold pkStep; rw [hc]
      rw [e]; exact h.skip fun c q => by rw [hc] at q; cases q; rfl
    | and =>
      have e : pkStep cs (U cs outs) (pget (invD cs)) st j = st := by unfold pkStep; rw [hc]
      rw [e]; exact h.skip fun c q => by rw [hc] at q; cases q; rfl
    | mux =>
      obtain ⟨s, a, b, rfl⟩ := har
      have hu' : ∀ i ∈ done, ∀ c, cs[i]? = some c → c.out ∉ [s, a, b] := fun i hi c hci => hu i hi c _ hci hc
      have hlow := W.low _ (List.mem_of_getElem? hc)
      have ha : a < out := hlow a (by simp)
      have hb : b < out := hlow b (by simp)
      obtain ⟨hp1, hp2⟩ := h.plain j _ hc (.inl hj)
      have hno : ∀ n, (U cs outs).count n ≠ 1 → st.X n = [] := fun n hn => Classical.byContradiction fun q => hn (h.ctx n q).1
      cases hb' : kb (st.X out) (pget (invD cs)) s with
      | some bit =>
        have hch : (if bit then b else a) < out := by cases bit <;> simpa using ‹_›
        have hch' : (if bit then b else a) = a ∨ (if bit then b else a) = b := by cases bit <;> simp
        have e : pkStep cs (U cs outs) (pget (invD cs)) st j = pkKnown (U cs outs) (pget (invD cs)) st out (if bit then b else a) := by
          unfold pkStep; rw [hc]; dsimp only; rw [hb']
        rw [e]
        generalize hche : (if bit then b else a) = ch at *
        have hXo : (pkKnown (U cs outs) (pget (invD cs)) st out ch).X out = st.X out := by
          unfold pkKnown; dsimp only; split
          · exact putX_ne (by (first | lia | omega))
          · rfl
        refine h.step W hc hj hu' (fun n => ?_) (fun i _ => rfl) (fun n hn => ?_) ?_ rfl (fun p hp => pset_mem hp) (pset_length _ _ _)
        · unfold pkKnown; dsimp only
          split
          · rename_i z
            by_cases q : n = ch
            · subst q; exact .inr ⟨hch', z⟩
            · exact .inl (putX_ne q)
          · exact .inl rfl
        · show pget (pset st.R out _) n = _
          rw [pget_pset, if_neg hn]
        · unfold MuxOK
          rw [hXo, hb']
          dsimp only
          rw [hche]
          refine ⟨hp1, ?_, ?_⟩
          · show pget (pset st.R out _) out = _
            rw [pget_pset, if_pos rfl]
          · unfold pkKnown; dsimp only
            split
            · exact putX_eq
            · exact hno _ ‹_›
      | none =>
        have e : pkStep cs (U cs outs) (pget (invD cs)) st j = pkOpen (U cs outs) (pget (invD cs)) st j out s a b := by
          unfold pkStep; rw [hc]; dsimp only; rw [hb']
        rw [e]
        have hab : (U cs outs).count a = 1 → a ≠ b := fun z q => by
          have := count_in (outs := outs) (n := a) (List.mem_of_getElem? hc)
          subst q
          simp at this
          have h2 : 2 ≤ List.count a [s, a, a] := by
            rw [List.count_cons, List.count_cons_self, List.count_cons_self]; (first | lia | omega)
          (first | lia | omega)
        have hXn : ∀ n, (pkOpen (U cs outs) (pget (invD cs)) st j out s a b).X n = if n = b ∧ (U cs outs).count b = 1 then st.X out ++ [(s, true)] else if n = a ∧ (U cs outs).count a = 1 then st.X out ++ [(s, false)] else st.X n := by
          intro n
          unfold pkOpen; dsimp only
          by_cases z2 : (U cs outs).count b = 1
          · by_cases q2 : n = b
            · subst q2; simp [z2, putX_eq]
            · rw [if_pos z2, putX_ne q2]
              by_cases z1 : (U cs outs).count a = 1
              · by_cases q1 : n = a
                · subst q1; simp [z1, putX_eq, q2]
                · simp [z1, putX_ne q1, q1, q2]
              · simp [z1, q2]
          · by_cases z1 : (U cs outs).count a = 1
            · by_cases q1 : n = a
              · subst q1; simp [z1, z2, putX_eq]
              · simp [z1, z2, putX_ne q1, q1]
            · simp [z1, z2]
        have hjl : j < st.cells.length := (List.getElem?_eq_some_iff.mp hp1).1
        refine h.step W hc hj hu' (fun n => ?_) (fun i hi => ?_) (fun n hn => rfl) ?_ ?_ (fun p hp => .inr ⟨p, hp, rfl⟩) (Nat.le_succ _)
        · rw [hXn]
          split
          · rename_i z; obtain ⟨rfl, z⟩ := z; exact .inr ⟨.inr rfl, z⟩
          · split
            · rename_i z; obtain ⟨rfl, z⟩ := z; exact .inr ⟨.inl rfl, z⟩
            · exact .inl rfl
        · show (st.cells.set j _)[i]? = _
          rw [List.getElem?_set_ne (fun q => hi q.symm)]
        · unfold MuxOK
          have hXo : (pkOpen (U cs outs) (pget (invD cs)) st j out s a b).X out = st.X out := by
            rw [hXn, if_neg (by (first | lia | omega)), if_neg (by (first | lia | omega))]
          rw [hXo, hb']
          dsimp only
          refine ⟨?_, hp2, ?_, ?_⟩
          · show (st.cells.set j _)[j]? = _
            rw [List.getElem?_set_self hjl]
          · rw [hXn]
            by_cases z1 : (U cs outs).count a = 1
            · rw [if_neg (fun q => hab z1 q.1), if_pos ⟨rfl, z1⟩, if_pos z1]
            · rw [if_neg (fun q => z1 (by rw [q.1]; exact q.2)), if_neg (fun q => z1 q.2), if_neg z1]
              exact hno a z1
          · rw [hXn]
            by_cases z2 : (U cs outs).count b = 1
            · rw [if_pos ⟨rfl, z2⟩, if_pos z2]
            · rw [if_neg (fun q => z2 q.2), if_neg (fun q => z2 (by rw [q.1]; exact q.2)), if_neg z2]
              exact hno b z2
        · show (st.cells.set j _).length = _
          rw [List.length_set]
theorem PI.all {w cs outs ord} (W : WF w cs) (hord : TopO cs.length (dpf w cs) ord) : PI cs outs ord.reverse (pkRun cs outs ord) := by
  have nd : ord.Nodup := (hord.1.nodup_iff).mpr List.nodup_range
  have go : ∀ rest done st, ord.reverse = done ++ rest → PI cs outs done st → PI cs outs ord.reverse (rest.foldl (pkStep cs (U cs outs) (pget (invD cs))) st) := by
    intro rest
    induction rest with
    | nil => intro done st e h; rw [List.append_nil] at e; rw [e]; exact h
    | cons j rest ih =>
      intro done st e h
      have e2 : ord = rest.reverse ++ j :: done.reverse := by
        have := congrArg List.reverse e
        simpa using this
      have hj : j ∉ done := fun q => by
        rw [e2] at nd
        have := (List.nodup_append.mp nd).2.1
        exact (List.nodup_cons.mp this).1 (List.mem_reverse.mpr q)
      refine ih (done ++ [j]) _ (by simp [e]) (h.run W hj fun i hi c d hci hdj hin => ?_)
      have hjN : j < cs.length := (List.getElem?_eq_some_iff.mp hdj).1
      have ho := W.outs i c hci
      have hdp : i ∈ dpf w cs j := by
        unfold dpf; rw [hdj]
        exact List.mem_map.mpr ⟨c.out, List.mem_filter.mpr ⟨hin, by simp; (first | lia | omega)⟩, by (first | lia | omega)⟩
      have := hord.2 rest.length j (by rw [e2, List.getElem?_append_right (by simp)]; simp) i hdp
      rw [e2, show rest.length = rest.reverse.length by simp, List.take_left] at this
      rw [e2] at nd
      exact (List.nodup_append.mp nd).2.2 i this i (.tail _ (List.mem_reverse.mpr hi)) rfl
  exact go ord.reverse [] _ rfl .zero

theorem invD_spec {cs : List Cel} {n m : Nat} (h : pget (invD cs) n = some m) : ∃ c ∈ cs, isInv c.k = true ∧ c.out = n ∧ c.ins.headD 0 = m := by
  have go : ∀ (l : List Cel) (d : List (Nat × Nat)), pget (l.foldl invStep d) n = some m → pget d n = some m ∨ ∃ c ∈ l, isInv c.k = true ∧ c.out = n ∧ c.ins.headD 0 = m := by
    intro l
    induction l with
    | nil => intro d h; exact .inl h
    | cons c l ih =>
      intro d h
      rcases ih _ h with q | ⟨c', hc', q⟩
      · unfold invStep at q
        split at q
        · rename_i hi
          rw [pget_pset] at q
          split at q
          · rename_i e; cases q; exact .inr ⟨c, List.mem_cons_self .., hi, e.symm, rfl⟩
          · exact .inl q
        · exact .inl q
      · exact .inr ⟨c', .tail _ hc', q⟩
  rcases go cs [] h with q | q
  · cases q
  · exact q
theorem inv_val {w line cs V} (W : WF w cs) (hV : Cons w line cs V) {n m : Nat} (h : pget (invD cs) n = some m) : V n = !V m := by
  obtain ⟨c, hc, hi, rfl, rfl⟩ := invD_spec h
  have har := W.ar c hc
  have hg := hV.vc c hc
  obtain ⟨k, out, ins⟩ := c
  cases k with
  | inv => obtain ⟨a, rfl⟩ := har; exact hg
  | mux => cases hi
  | and => cases hi
theorem kb_sound {w line cs V} (W : WF w cs) (hV : Cons w line cs V) {K : List (Nat × Bool)} (hK : ∀ p ∈ K, V p.1 = p.2) {n : Nat} {bit : Bool} (h : kb K (pget (invD cs)) n = some bit) : V n = bit := by
  unfold kb at h
  split at h
  · rename_i e; subst e; cases h; exact hV.v0
  · split at h
    · rename_i e; subst e; cases h; exact hV.v1
    · cases q : K.find? (hit (pget (invD cs)) n) with
      | none => rw [q] at h; cases h
      | some p =>
        rw [q] at h
        have hp := hK p (List.mem_of_find?_eq_some q)
        have hh := List.find?_some q
        simp only [Option.map_some, Option.some.injEq] at h
        by_cases e : p.1 = n
        · rw [if_pos e] at h; rw [← h, ← e]; exact hp
        · rw [if_neg e] at h
          unfold hit at hh
          simp only [Bool.or_eq_true, beq_iff_eq] at hh
          rcases hh with (z | z) | z
          · exact absurd z e
          · rw [inv_val W hV z, hp, h]
          · have := inv_val W hV z
            rw [hp] at this
            rw [← h, this]; simp
theorem kon_cases (K : List (Nat × Bool)) (inv : Nat → Option Nat) (n : Nat) : (kb K inv n = none ∧ kon K inv n = n) ∨ ∃ bit, kb K inv n = some bit ∧ kon K inv n = bit.toNat := by
  unfold kon
  cases kb K inv n with
  | none => exact .inl ⟨rfl, rfl⟩
  | some b => exact .inr ⟨b, rfl, rfl⟩
theorem fin_le {R : List (Nat × Nat)} (h : ∀ a b, pget R a = some b → b < a) : ∀ n, fin R n ≤ n ∧ pget R (fin R n) = none := by
  intro n
  induction n using Nat.strongRecOn with
  | ind n ih =>
    cases q : pget R n with
    | none => rw [fin_none q]; exact ⟨Nat.le_refl _, q⟩
    | some m =>
      have hm := h _ _ q
      rw [fin_some h q]
      obtain ⟨a, b⟩ := ih m hm
      exact ⟨by (first | lia | omega), b⟩
theorem pget_mem {β : Type} {d : List (Nat × β)} {n : Nat} {v : β} (h : pget d n = some v) : (n, v) ∈ d := by
  unfold pget at h
  cases q : d.find? (fun p => p.1 = n) with
  | none => rw [q] at h; cases h
  | some p =>
    rw [q] at h
    cases h
    have h1 := List.find?_some q
    have h2 := List.mem_of_find?_eq_some q
    obtain ⟨a, b⟩ := p
    simp at h1; subst h1; exact h2
section
variable {w : Nat} {cs : List Cel} {outs done : List Nat} {st : PS}
theorem PI.muxOf (W : WF w cs) (h : PI cs outs done st) (hin : ∀ i < cs.length, i ∈ done) {c : Cel} (hc : c ∈ cs) (hm : isMux c.k = true) : ∃ (i s a b : Nat), cs[i]? = some ⟨.mux, c.out, [s, a, b]⟩ ∧ MuxOK cs outs st i c.out s a b := by
  obtain ⟨i, hi⟩ := List.mem_iff_getElem?.mp hc
  have har := W.ar c hc
  obtain ⟨k, out, ins⟩ := c
  cases k with
  | mux => obtain ⟨s, a, b, rfl⟩ := har; exact ⟨i, s, a, b, hi, h.mux i out s a b hi (hin i (List.getElem?_eq_some_iff.mp hi).1)⟩
  | inv => cases hm
  | and => cases hm
theorem PI.rkey (W : WF w cs) (h : PI cs outs done st) (hin : ∀ i < cs.length, i ∈ done) {n m : Nat} (hg : pget st.R n = some m) : ∃ (i s a b : Nat) (bit : Bool), cs[i]? = some ⟨.mux, n, [s, a, b]⟩ ∧ kb (st.X n) (pget (invD cs)) s = some bit ∧ m = kon (st.X n) (pget (invD cs)) (if bit then b else a) := by
  obtain ⟨c, hc, hm, e⟩ := h.key _ (pget_mem hg)
  obtain ⟨i, s, a, b, hi, hM⟩ := h.muxOf W hin hc hm
  have e : c.out = n := e
  rw [e] at hi hM
  unfold MuxOK at hM
  cases q : kb (st.X n) (pget (invD cs)) s with
  | none => rw [q] at hM; dsimp only at hM; rw [hM.2.1] at hg; cases hg
  | some bit => rw [q] at hM; dsimp only at hM; rw [hM.2.1] at hg; cases hg; exact ⟨i, s, a, b, bit, hi, q, rfl⟩
theorem kon_lt {K : List (Nat × Bool)} {inv : Nat → Option Nat} {n o : Nat} (h : n < o) (ho : 2 ≤ o) : kon K inv n < o := by
  rcases kon_cases K inv n with ⟨_, e⟩ | ⟨bit, _, e⟩
  · rw [e]; exact h
  · rw [e]; cases bit <;> simp <;> (first | lia | omega)
theorem PI.dec (W : WF w cs) (h : PI cs outs done st) (hin : ∀ i < cs.length, i ∈ done) : ∀ a b, pget st.R a = some b → b < a := by
  intro n m hg
  obtain ⟨i, s, a, b, bit, hi, _, rfl⟩ := h.rkey W hin hg
  have ho := W.outs i _ hi
  have hlow := W.low _ (List.mem_of_getElem? hi)
  refine kon_lt ?_ (by dsimp only at ho; (first | lia | omega))
  cases bit
  · exact hlow a (by simp)
  · exact hlow b (by simp)
theorem PI.cell (W : WF w cs) (h : PI cs outs done st) (hin : ∀ i < cs.length, i ∈ done) {i : Nat} {c : Cel} (hi : cs[i]? = some c) : ∃ c' : Cel, st.cells[i]? = some c' ∧ c'.k = c.k ∧ c'.out = c.out ∧ (isMux c.k = false → c' = c) ∧ (isMux c.k = true → ∃ s l l', c.ins = s :: l ∧ c'.ins = s :: l') ∧ Ar c' ∧ ∀ n ∈ c'.ins, n < c.out := by
  have har := W.ar c (List.mem_of_getElem? hi)
  have hlow := W.low c (List.mem_of_getElem? hi)
  have ho := W.outs i c hi
  cases hm : isMux c.k with
  | false => exact ⟨c, (h.plain i c hi (.inr hm)).1, rfl, rfl, fun _ => rfl, fun q => (by cases q), har, hlow⟩
  | true =>
    obtain ⟨k, out, ins⟩ := c
    cases k with
    | inv => cases hm
    | and => cases hm
    | mux =>
      obtain ⟨s, a, b, rfl⟩ := har
      have hM := h.mux i out s a b hi (hin i (List.getElem?_eq_some_iff.mp hi).1)
      unfold MuxOK at hM
      cases q : kb (st.X out) (pget (invD cs)) s with
      | some bit =>
        rw [q] at hM; dsimp only at hM
        exact ⟨_, hM.1, rfl, rfl, fun q => (by cases q), fun _ => ⟨s, _, _, rfl, rfl⟩, ⟨s, a, b, rfl⟩, hlow⟩
      | none =>
        rw [q] at hM; dsimp only at hM
        refine ⟨_, hM.1, rfl, rfl, fun q => (by cases q), fun _ => ⟨s, _, _, rfl, rfl⟩, ⟨s, _, _, rfl⟩, fun n hn => ?_⟩
        dsimp only at ho hlow hn ⊢
        rcases List.mem_cons.mp hn with rfl | hn
        · exact hlow _ (by simp)
        · rcases List.mem_cons.mp hn with rfl | hn
          · exact kon_lt (hlow _ (by simp)) (by (first | lia | omega))
          · simp at hn; subst hn; exact kon_lt (hlow _ (by simp)) (by (first | lia | omega))
theorem mem_rb {R : List (Nat × Nat)} {l : List Cel} {c : Cel} (hc : c ∈ l) (hn : pget R c.out = none) : (⟨c.k, c.out, c.ins.map (fin R)⟩ : Cel) ∈ rb R l :=
  List.mem_map.mpr ⟨c, List.mem_filter.mpr ⟨hc, by rw [hn]; rfl⟩, rfl⟩
theorem PI.outsEq (W : WF w cs) (h : PI cs outs done st) (hin : ∀ i < cs.length, i ∈ done) : st.cells.map (·.out) = List.range' (2 + w) cs.length := by
  refine List.ext_getElem? fun i => ?_
  by_cases q : i < cs.length
  · obtain ⟨c', hc', _, ho, _⟩ := h.cell W hin (List.getElem?_eq_getElem q)
    rw [List.getElem?_map, hc', List.getElem?_range' q]
    have := W.outs i _ (List.getElem?_eq_getElem q)
    simp [ho, this]
  · rw [List.getElem?_eq_none (by simp [h.cl]; (first | lia | omega)), List.getElem?_eq_none (by simp; (first | lia | omega))]
theorem rb_outs (R : List (Nat × Nat)) (l : List Cel) : ((rb R l).map (·.out)).Sublist (l.map (·.out)) := by
  unfold rb
  rw [List.map_map]
  exact (List.filter_sublist (l := l)).map _
theorem PI.mem_out (W : WF w cs) (h : PI cs outs done st) (hin : ∀ i < cs.length, i ∈ done) {n : Nat} (h1 : 2 + w ≤ n) (h2 : n < 2 + w + cs.length) (hn : pget st.R n = none) : n ∈ (rb st.R st.cells).map (·.out) := by
  have : n ∈ st.cells.map (·.out) := by rw [h.outsEq W hin]; exact List.mem_range'_1.mpr ⟨h1, h2⟩
  obtain ⟨c, hc, rfl⟩ := List.mem_map.mp this
  exact List.mem_map.mpr ⟨_, mem_rb hc hn, rfl⟩
theorem ar_map {c : Cel} {f : Nat → Nat} (h : Ar c) : Ar ⟨c.k, c.out, c.ins.map f⟩ := by
  obtain ⟨k, out, ins⟩ := c
  cases k with
  | mux => obtain ⟨s, a, b, rfl⟩ := h; exact ⟨_, _, _, rfl⟩
  | inv => obtain ⟨a, rfl⟩ := h; exact ⟨_, rfl⟩
  | and => obtain ⟨a, b, rfl⟩ := h; exact ⟨_, _, rfl⟩
theorem gate_map {V : Nat → Bool} {c : Cel} {f : Nat → Nat} (h : Ar c) : gate V ⟨c.k, c.out, c.ins.map f⟩ = gate (fun n => V (f n)) c := by
  obtain ⟨k, out, ins⟩ := c
  cases k with
  | mux => obtain ⟨s, a, b, rfl⟩ := h; rfl
  | inv => obtain ⟨a, rfl⟩ := h; rfl
  | and => obtain ⟨a, b, rfl⟩ := h; rfl
theorem PI.sorted (W : WF w cs) (h : PI cs outs done st) (hin : ∀ i < cs.length, i ∈ done) : Sorted w (rb st.R st.cells) := by
  have pw : ((rb st.R st.cells).map (·.out)).Pairwise (· < ·) := by
    refine List.Pairwise.sublist (rb_outs _ _) ?_
    rw [h.outsEq W hin]
    exact List.pairwise_lt_range'
  have hsrc : ∀ c ∈ rb st.R st.cells, ∃ (i : Nat) (c0 c' : Cel), cs[i]? = some c0 ∧ st.cells[i]? = some c' ∧ c = ⟨c'.k, c'.out, c'.ins.map (fin st.R)⟩ ∧ c'.out = c0.out ∧ Ar c' ∧ ∀ n ∈ c'.ins, n < c0.out := by
    intro c hc
    obtain ⟨c', hc', rfl⟩ := List.mem_map.mp hc
    obtain ⟨i, hi⟩ := List.mem_iff_getElem?.mp (List.mem_filter.mp hc').1
    have hil : i < cs.length := by have := (List.getElem?_eq_some_iff.mp hi).1; rw [h.cl] at this; exact this
    obtain ⟨c'', h1, _, h3, _, _, h6, h7⟩ := h.cell W hin (List.getElem?_eq_getElem hil)
    rw [hi] at h1; cases h1
    exact ⟨i, _, c', List.getElem?_eq_getElem hil, hi, rfl, h3, h6, h7⟩
  refine ⟨pw.imp (fun h e => Nat.ne_of_lt h e), fun c hc => ?_, fun done' c rest e n hn => ?_, fun c hc => ?_⟩
  · obtain ⟨i, c0, c', h1, _, rfl, h3, _⟩ := hsrc c hc
    have := W.outs i c0 h1
    show 2 + w ≤ c'.out
    (first | lia | omega)
  · obtain ⟨i, c0, c', h1, h2, rfl, h3, h6, h7⟩ := hsrc c (by rw [e]; simp)
    obtain ⟨x, hx, rfl⟩ := List.mem_map.mp hn
    have hxo := h7 x hx
    obtain ⟨f1, f2⟩ := fin_le (h.dec W hin) x
    have ho := W.outs i c0 h1
    have hil := (List.getElem?_eq_some_iff.mp h1).1
    by_cases q : fin st.R x < 2 + w
    · exact .inl q
    · right
      have hm := h.mem_out W hin (show 2 + w ≤ fin st.R x by (first | lia | omega)) (by (first | lia | omega)) f2
      rw [e, List.map_append, List.map_cons] at hm pw
      rcases List.mem_append.mp hm with z | z
      · exact z
      · exfalso
        rcases List.mem_cons.mp z with z | z
        · dsimp only at z; (first | lia | omega)
        · have := (List.pairwise_cons.mp (List.pairwise_append.mp pw).2.1).1 _ z
          dsimp only at this; (first | lia | omega)
  · obtain ⟨i, c0, c', h1, _, rfl, h3, h6, _⟩ := hsrc c hc
    exact ar_map h6
theorem cons_agree {line : Nat} {cs cs' : List Cel} {V V' : Nat → Bool} (h : Cons w line cs V) (h' : Cons w line cs' V') {n : Nat} (hn : n < 2 + w) : V' n = V n := by
  match n with
  | 0 => rw [h.v0, h'.v0]
  | 1 => rw [h.v1, h'.v1]
  | j + 2 =>
    have a := h.vi j (by (first | lia | omega))
    have b := h'.vi j (by (first | lia | omega))
    rw [Nat.add_comm] at a b
    have e : (V' (j + 2)).toNat = (V (j + 2)).toNat := by rw [a, b]
    revert e
    cases V' (j + 2) <;> cases V (j + 2) <;> simp
theorem PI.claim {line : Nat} {V V' : Nat → Bool} (W : WF w cs) (h : PI cs outs done st) (hin : ∀ i < cs.length, i ∈ done) (hV : Cons w line cs V) (hV' : Cons w line (rb st.R st.cells) V') :
    ∀ n, n < 2 + w + cs.length → (∀ p ∈ st.X n, V p.1 = p.2) → V' (fin st.R n) = V n := by
  have hdec := h.dec W hin
  have hlo : ∀ n, n < 2 + w → pget st.R n = none := fun n hn => by
    cases q : pget st.R n with
    | none => rfl
    | some m =>
      obtain ⟨i, s, a, b, bit, hi, _⟩ := h.rkey W hin q
      have := W.outs i _ hi
      dsimp only at this; (first | lia | omega)
  have hbit : ∀ bit : Bool, V' (fin st.R bit.toNat) = bit := fun bit => by
    cases bit
    · rw [show (false).toNat = 0 from rfl, fin_none (hlo 0 (by (first | lia | omega)))]; exact hV'.v0
    · rw [show (true).toNat = 1 from rfl, fin_none (hlo 1 (by (first | lia | omega)))]; exact hV'.v1
  intro n
  induction n using Nat.strongRecOn with
  | ind n ih =>
    intro hn hX
    by_cases hnw : n < 2 + w
    · rw [fin_none (hlo n hnw)]; exact cons_agree hV hV' hnw
    · have hi : n - (2 + w) < cs.length := by (first | lia | omega)
      generalize hie : n - (2 + w) = i at hi
      have hci := List.getElem?_eq_getElem hi
      have hcm := List.getElem_mem hi
      generalize cs[i] = c at hci hcm
      have ho := W.outs i c hci
      have hno : n = c.out := by (first | lia | omega)
      have har := W.ar c hcm
      have hlow := W.low c hcm
      have hg := hV.vc c hcm
      -- an in that has no context
      have free : ∀ x ∈ c.ins, (∀ (i' out s a b : Nat), cs[i']? = some ⟨.mux, out, [s, a, b]⟩ → (x = a ∨ x = b) → (U cs outs).count x = 1 → False) → V' (fin st.R x) = V x := fun x hx hno' => by
        have hx' := hlow x hx
        refine ih x (by (first | lia | omega)) (by (first | lia | omega)) ?_
        have : st.X x = [] := Classical.byContradiction fun q => by
          obtain ⟨h1, i', _, out, s, a, b, h2, h3⟩ := h.ctx x q
          exact hno' i' out s a b h2 h3 h1
        rw [this]; intro p hp; cases hp
      cases hm : isMux c.k with
      | false =>
        obtain ⟨p1, p2⟩ := h.plain i c hci (.inr hm)
        rw [hno, fin_none p2]
        have := hV'.vc _ (mem_rb (List.mem_of_getElem? p1) p2)
        dsimp only at this
        rw [this, gate_map har, hg]
        refine gate_congr (fun x hx => free x hx fun i' out s a b h2 h3 h1 => ?_) har
        have hne : i ≠ i' := by rintro rfl; rw [hci] at h2; cases h2; cases hm
        have := count_two (outs := outs) hci h2 hne hx (by rcases h3 with rfl | rfl <;> simp)
        (first | lia | omega)
      | true =>
        obtain ⟨k, out, ins⟩ := c
        cases k with
        | inv => cases hm
        | and => cases hm
        | mux =>
          obtain ⟨s, a, b, rfl⟩ := har
          have hno : n = out := hno
          subst hno
          have hM := h.mux i n s a b hci (hin i hi)
          have hs := hlow s (by simp)
          have ha := hlow a (by simp)
          have hb := hlow b (by simp)
          dsimp only at hs ha hb
          have hg : V n = if V s then V b else V a := hg
          unfold MuxOK at hM
          cases q : kb (st.X n) (pget (invD cs)) s with
          | some bit =>
            rw [q] at hM
            dsimp only at hM
            obtain ⟨_, m2, m3⟩ := hM
            rw [fin_some hdec m2]
            have hsb := kb_sound W hV hX q
            have hch : (if bit then b else a) < n := by cases bit <;> simpa using ‹_›
            have hvc : V n = V (if bit then b else a) := by rw [hg, hsb]; cases bit <;> rfl
            generalize (if bit then b else a) = ch at *
            rcases kon_cases (st.X n) (pget (invD cs)) ch with ⟨_, e⟩ | ⟨bit', e1, e⟩
            · rw [e, hvc]
              refine ih ch hch (by (first | lia | omega)) fun p hp => ?_
              rw [m3] at hp
              split at hp
              · exact hX p hp
              · cases hp
            · rw [e, hbit, hvc, kb_sound W hV hX e1]
          | none =>
            rw [q] at hM
            dsimp only at hM
            obtain ⟨m1, m2, m3, m4⟩ := hM
            rw [fin_none m2]
            have hv := hV'.vc _ (mem_rb (List.mem_of_getElem? m1) m2)
            dsimp only at hv
            have hsel : V' (fin st.R s) = V s := free s (by simp) fun i' out' s' a' b' h2 h3 h1 => by
              by_cases hii : i = i'
              · subst hii
                rw [hci] at h2; cases h2
                have h5 := count_in (outs := outs) (n := s) (List.mem_of_getElem? hci)
                have h6 : 2 ≤ List.count s [s, a, b] := by
                  rw [List.count_cons_self]
                  have : 0 < List.count s [a, b] := List.count_pos_iff.mpr (by rcases h3 with rfl | rfl <;> simp)
                  (first | lia | omega)
                dsimp only at h5
                (first | lia | omega)
              · have := count_two (outs := outs) hci h2 hii (show s ∈ _ by simp) (by rcases h3 with rfl | rfl <;> simp)
                (first | lia | omega)
            have branch : ∀ (x : Nat) (bit : Bool), x < n → V s = bit → st.X x = (if (U cs outs).count x = 1 then st.X n ++ [(s, bit)] else []) → V' (fin st.R (kon (st.X n ++ [(s, bit)]) (pget (invD cs)) x)) = V x := fun x bit hx hsv hXx => by
              have hK : ∀ p ∈ st.X n ++ [(s, bit)], V p.1 = p.2 := fun p hp => by
                rcases List.mem_append.mp hp with z | z
                · exact hX p z
                · simp at z; subst z; exact hsv
              rcases kon_cases (st.X n ++ [(s, bit)]) (pget (invD cs)) x with ⟨_, e⟩ | ⟨bit', e1, e⟩
              · rw [e]
                refine ih x hx (by (first | lia | omega)) fun p hp => ?_
                rw [hXx] at hp
                split at hp
                · exact hK p hp
                · cases hp
              · rw [e, hbit, kb_sound W hV hK e1]
            rw [hv]
            show (if V' (fin st.R s) then V' (fin st.R (kon (st.X n ++ [(s, true)]) (pget (invD cs)) b)) else V' (fin st.R (kon (st.X n ++ [(s, false)]) (pget (invD cs)) a))) = V n
            rw [hsel, hg]
            cases hsv : V s with
            | true => exact branch b true hb hsv m4
            | false => exact branch a false ha hsv m3
end
theorem good {w cs outs ord} (W : WF w cs) (ho : ∀ n ∈ outs, domW w cs n) (hl : cs.length ≤ 100) (hord : TopO cs.length (dpf w cs) ord) : Good w cs outs (pkRun cs outs ord) := by
  have h := PI.all (outs := outs) W hord
  have hin : ∀ i < cs.length, i ∈ ord.reverse := fun i hi => List.mem_reverse.mpr (hord.1.mem_iff.mpr (List.mem_range.mpr hi))
  have hordl : ord.length = cs.length := by have := hord.1.length_eq; simpa using this
  have hlt : ∀ n ∈ outs, n < 2 + w + cs.length := fun n hn => by
    rcases ho n hn with q | q
    · (first | lia | omega)
    · obtain ⟨c, hc, rfl⟩ := List.mem_map.mp q
      obtain ⟨i, hi⟩ := List.mem_iff_getElem?.mp hc
      have := W.outs i c hi
      have := (List.getElem?_eq_some_iff.mp hi).1
      (first | lia | omega)
  have hS := h.sorted W hin
  refine ⟨h.cl, fun i c hi => ?_, h.key, by have := h.rl; rw [List.length_reverse] at this; (first | lia | omega), h.dec W hin, fun c hc => ?_, hS, fun n hn => ?_, fun line V hV => ?_⟩
  · obtain ⟨c', a1, a2, a3, a4, a5, _⟩ := h.cell W hin hi
    exact ⟨c', a1, a2, a3, a4, a5⟩
  · obtain ⟨i, hi⟩ := List.mem_iff_getElem?.mp hc
    have hil : i < cs.length := by have := (List.getElem?_eq_some_iff.mp hi).1; rw [h.cl] at this; exact this
    obtain ⟨c', a1, _, _, _, _, a6, _⟩ := h.cell W hin (List.getElem?_eq_getElem hil)
    rw [hi] at a1; cases a1; exact a6
  · obtain ⟨f1, f2⟩ := fin_le (h.dec W hin) n
    have := hlt n hn
    by_cases q : fin (pkRun cs outs ord).R n < 2 + w
    · exact .inl q
    · exact .inr (h.mem_out W hin (by (first | lia | omega)) (by (first | lia | omega)) f2)
  · obtain ⟨V', hV'⟩ := hS.value (line := line)
    refine ⟨V', hV', fun n hn => h.claim W hin hV hV' n (hlt n hn) ?_⟩
    have : (pkRun cs outs ord).X n = [] := Classical.byContradiction fun q => by
      obtain ⟨h1, i', _, out, s, a, b, h2, h3⟩ := h.ctx n q
      have := count_out (outs := outs) (List.mem_of_getElem? h2) (show n ∈ _ by rcases h3 with rfl | rfl <;> simp) hn
      (first | lia | omega)
    rw [this]; intro p hp; cases hp
theorem c_two {C : Cx} (hK : IsK C) {k : Nat} {τ : Ld} {Q : Vl → Ld → Prop} {st r : Addr} {row : List Nat} {at_ : Nat} (hr : (r, Ob.list (row.map nV)) ∈ τ) (hl : row.length ≤ 1000) (h : Q (.bool true) []) :
    CLc C (k + 5) (.ref 254) [.ref st] ((st, storeV r at_) :: τ) Q := by
  refine clc_post (cl_def (ps := ["store"]) (vs' := [.ref st]) (ls := ["netlist", "s", "a", "b", "c", "u", "way", "select", "inner", "high", "top", "twice", "replaced", "taken"]) (by rw [hK]; rfl) (by rw [hK]; kernel_rfl) (by walk_at "b1") rfl (by rfl) rfl (by rfl) ?_)
  show EX _ _ _ _ [("store", some (.ref st)), ("netlist", none), ("s", none), ("a", none), ("b", none), ("c", none), ("u", none), ("way", none), ("select", none), ("inner", none), ("high", none), ("top", none), ("twice", none), ("replaced", none), ("taken", none)] _ _
  refine ex_cons ?_
  refine ex_assign ?_ (by rfl)
  refine ev_callK (v := .ref 134) (by rfl) (by walk_at "k") (by walk_at "k") (by rfl) ?_
  refine evs_cons ?_
  refine ev_str ?_
  refine evs_nil ?_
  refine c_Netlist hK fun a => ?_
  unfold blk
  with_reducible refine ⟨_, (by walk_at "updg"), ?_⟩
  refine ex_cons ?_
  refine ex_assign_tuple ?_
  refine ev_meth (f := 94) (by rfl) ?_
  refine ev_name (by walk_at "lk") ?_
  with_reducible refine ⟨_, _, _, _, rfl, (by walk_at "mem"), (by walk_at "k"), (by with_unfolding_all rfl), ?_⟩
  refine evs_cons ?_
  refine ev_str ?_
  refine evs_cons ?_
  refine ev_int ?_
  refine evs_nil ?_
  refine clc_pre (.pick .head (.pick .head (.pick .head (.pick .head .refl)))) (c_add_input (cs := []) (inl := []) (w := 5) hK (by (first | lia | omega)) (by simp) fun D I => ?_)
  unfold blk
  have h5 : (List.range' 2 5).map nV = [nV 2, nV 3, nV 4, nV 5, nV 6] := rfl
  rw [h5]
  refine as_list (by walk_at "mem") ?_ (by rfl) (by rfl)
  refine ass_cons ?_
  refine as_name (by walk_at "updg") (by rfl) ?_
  refine ass_cons ?_
  refine as_name (by walk_at "updg") (by rfl) ?_
  refine ass_cons ?_
  refine as_name (by walk_at "updg") (by rfl) ?_
  refine ass_cons ?_
  refine as_name (by walk_at "updg") (by rfl) ?_
  refine ass_cons ?_
  refine as_name (by walk_at "updg") (by rfl) ?_
  refine ass_nil ?_
  refine ex_cons ?_
  refine ex_assign ?_ (by rfl)
  refine ev_callK (v := .ref 227) (by rfl) (by walk_at "k") (by walk_at "k") (by rfl) ?_
  refine evs_cons ?_
  refine ev_name (by walk_at "lk") ?_
  refine evs_cons ?_
  refine ev_int ?_
  refine evs_nil ?_
  refine c_draw (many := 3) (at_ := at_) hK (by walk_at "mem") hl (by (first | lia | omega)) (by walk_at "upd") fun way hway => ?_
  rcases (show way = 0 ∨ way = 1 ∨ way = 2 by (first | lia | omega)) with rfl | rfl | rfl
  · ((with_reducible refine ⟨_, (by walk_at "updg"), ?_⟩); refine ex_cons ?_; refine ex_assign ?_ (by rfl); refine ev_name (by walk_at "lk") ?_; (with_reducible refine ⟨_, (by walk_at "updg"), ?_⟩); refine ex_cons ?_; refine ex_if ?_; refine bt_compare ?_; refine ev_name (by walk_at "lk") ?_; refine ev_int ?_; (with_reducible refine t2_eq_int ?_); (with_reducible refine ⟨_, rfl, ?_⟩); refine if_f (by first | with_reducible rfl | with_reducible assumption | rfl) ?_; refine ex_nil ?_; refine ex_cons ?_; refine ex_if ?_; refine bt_compare ?_; refine ev_name (by walk_at "lk") ?_; refine ev_int ?_; (with_reducible refine t2_eq_int ?_); (with_reducible refine ⟨_, rfl, ?_⟩); refine if_f (by first | with_reducible rfl | with_reducible assumption | rfl) ?_; refine ex_nil ?_; refine ex_cons ?_; refine ex_assign ?_ (by rfl); refine ev_meth (f := 109) (by rfl) ?_; refine ev_name (by walk_at "lk") ?_; (with_reducible refine ⟨_, _, _, _, rfl, (by walk_at "mem"), (by walk_at "k"), (by with_unfolding_all rfl), ?_⟩); refine evs_cons ?_; refine ev_str ?_; refine evs_cons ?_; refine ev_tuple ?_; refine evs_cons ?_; refine ev_name (by walk_at "lk") ?_; refine evs_cons ?_; refine ev_name (by walk_at "lk") ?_; refine evs_cons ?_; refine ev_name (by walk_at "lk") ?_; refine evs_nil ?_; refine ⟨(by walk_at "len"), ?_⟩; refine evs_nil ?_)
    refine clc_pre (.pick (.tail (.tail (.head))) (.pick (.tail (.tail (.head))) (.pick (.tail (.tail (.head))) (.pick (.tail (.tail (.head))) .refl)))) (c_add_cell (kd := .mux) (l := [2, 3, 4]) (cs := []) hK (.inl rfl) (by simp) (by simp) ?_)
    unfold blk
    with_reducible refine ⟨_, (by walk_at "updg"), ?_⟩
    refine ex_cons ?_
    refine ex_assign ?_ (by rfl)
    refine ev_callK (v := .ref 227) (by rfl) (by walk_at "k") (by walk_at "k") (by rfl) ?_
    refine evs_cons ?_
    refine ev_name (by walk_at "lk") ?_
    refine evs_cons ?_
    refine ev_int ?_
    refine evs_nil ?_
    refine c_draw (many := 2) (at_ := at_ + 1) hK (by walk_at "mem") hl (by (first | lia | omega)) (by walk_at "upd") fun high hhigh => ?_
    rcases (show high = 0 ∨ high = 1 by (first | lia | omega)) with rfl | rfl
    · ((with_reducible refine ⟨_, (by walk_at "updg"), ?_⟩); refine ex_cons ?_; refine ex_assign ?_ (by rfl); refine ev_meth (f := 109) (by rfl) ?_; refine ev_name (by walk_at "lk") ?_; (with_reducible refine ⟨_, _, _, _, rfl, (by walk_at "mem"), (by walk_at "k"), (by with_unfolding_all rfl), ?_⟩); refine evs_cons ?_; refine ev_str ?_; refine evs_cons ?_; refine ev_ifexp ?_; refine bt_compare ?_; refine ev_name (by walk_at "lk") ?_; refine ev_int ?_; (with_reducible refine t2_eq_int ?_); (with_reducible refine ⟨_, rfl, ?_⟩); refine if_f (by first | with_reducible rfl | with_reducible assumption | rfl) ?_; refine ev_tuple ?_; refine evs_cons ?_; refine ev_name (by walk_at "lk") ?_; refine evs_cons ?_; refine ev_name (by walk_at "lk") ?_; refine evs_cons ?_; refine ev_name (by walk_at "lk") ?_; refine evs_nil ?_; refine ⟨(by walk_at "len"), ?_⟩; refine evs_nil ?_)
      refine clc_pre (.pick .head (.pick .head (.pick .head (.pick .head .refl)))) (c_add_cell (kd := .mux) (l := [2, 7, 5]) (cs := ([] ++ [Cel.mk .mux 7 [2, 3, 4]])) hK (.inl rfl) (by simp) (by simp) ?_)
      unfold blk
      with_reducible refine ⟨_, (by walk_at "updg"), ?_⟩
      refine ex_cons ?_
      refine ex_assign ?_ (by rfl)
      refine ev_compare ?_
      refine ev_callK (v := .ref 227) (by rfl) (by walk_at "k") (by walk_at "k") (by rfl) ?_
      refine evs_cons ?_
      refine ev_name (by walk_at "lk") ?_
      refine evs_cons ?_
      refine ev_int ?_
      refine evs_nil ?_
      refine c_draw (many := 2) (at_ := at_ + 1 + 1) hK (by walk_at "mem") hl (by (first | lia | omega)) (by walk_at "upd") fun tw htw => ?_
      rcases (show tw = 0 ∨ tw = 1 by (first | lia | omega)) with rfl | rfl
      · (refine ev_int ?_; (with_reducible refine t2_eq_int ?_); (with_reducible refine ⟨_, (by walk_at "updg"), ?_⟩); refine ex_cons ?_; refine ex_expr ?_; refine ev_meth (f := 101) (by rfl) ?_; refine ev_name (by walk_at "lk") ?_; (with_reducible refine ⟨_, _, _, _, rfl, (by walk_at "mem"), (by walk_at "k"), (by with_unfolding_all rfl), ?_⟩); refine evs_cons ?_; refine ev_str ?_; refine evs_cons ?_; refine ev_binop ?_; refine ev_list ?_; refine evs_cons ?_; refine ev_name (by walk_at "lk") ?_; refine evs_nil ?_; refine ⟨(by walk_at "len"), ?_⟩)
        intro L1
        refine ev_ifexp ?_
        refine bt_value ?_
        refine ev_name (by walk_at "lk") ?_
        with_reducible refine tb_bool ?_
        refine if_f (by first | with_reducible rfl | with_reducible assumption | rfl) ?_
        refine ev_list ?_
        refine evs_nil ?_
        refine ⟨(by walk_at "len"), ?_⟩
        intro L2
        skip
        refine t2_add_lists (by walk_at "mem") (by walk_at "mem") (by simp) ?_
        intro L3
        refine evs_nil ?_
        refine clc_pre (.pick (.tail (.tail (.tail (.head)))) (.pick (.tail (.tail (.tail (.head)))) (.pick (.tail (.tail (.tail (.head)))) (.pick (.tail (.tail (.tail (.head)))) .refl)))) (c_add_output (l := ([8] : List Nat).map nV) hK (.head _) (by simp) (by simp) fun O => ?_)
        unfold blk
        refine ex_cons ?_
        refine ex_assign ?_ (by rfl)
        refine ev_dict0 ?_
        intro RD
        with_reducible refine ⟨_, (by walk_at "updg"), ?_⟩
        refine ex_cons ?_
        refine ex_expr ?_
        refine ev_callK (v := .ref 201) (by rfl) (by walk_at "k") (by walk_at "k") (by rfl) ?_
        refine evs_cons ?_
        refine ev_callT (f := "list") (T := "list") (by rfl) (by walk_at "k") (by kernel_rfl) (by decide) ?_ (by rfl)
        refine ev_attr ?_
        refine ev_name (by walk_at "lk") ?_
        refine t1_attr (by walk_at "mem") (HasS.mem (by walk_at "hs")) (by walk_at "k") (by rfl) ?_
        refine cl_list_list (by walk_at "mem") (by walk_at "len") ?_
        intro LC
        refine evs_cons ?_
        refine ev_name (by walk_at "lk") ?_
        refine evs_cons ?_
        refine ev_name (by walk_at "lk") ?_
        refine evs_nil ?_
        refine clc_pre (.pick (.tail .head) (.pick .head .refl)) (c_pass_known (cs := [⟨.mux, 7, [2, 3, 4]⟩, ⟨.mux, 8, [2, 7, 5]⟩]) (outs := [8]) (w := 5) (na := ⟨a.x, a.dx, a.li, a.lo, a.lc, I, O⟩) (nm := "t") (inm := "i") (onm := "o") (cnt := 9) hK ⟨?_, ?_, ?_, ?_, ?_, ?_⟩ (by (first | lia | omega)) (by simp) (by simp) (wf2 (by decide) (by decide)) fun ord hord => ?_)
        case refine_1 => exact .tail _ (.head _)
        case refine_2 => exact .tail _ (.tail _ (.head _))
        case refine_3 => exact .tail _ (.tail _ (.tail _ (.tail _ (.tail _ (.tail _ (.tail _ (.tail _ (.head _))))))))
        case refine_4 => exact .tail _ (.tail _ (.tail _ (.head _)))
        case refine_5 => exact .head _
        case refine_6 => exact .tail _ (.tail _ (.tail _ (.tail _ (.head _))))
        have ho : ord = [0, 1] := topo_chain hord (fun i hi => by rcases (show i = 0 by simp at hi; (first | lia | omega)) with rfl <;> decide)
        subst ho
        rw [show (pkRun [⟨.mux, 7, [2, 3, 4]⟩, ⟨.mux, 8, [2, 7, 5]⟩] [8] [0, 1]).R = [(7, 3)] by decide]
        refine ex_cons ?_
        refine ex_if ?_
        refine bt_or2 ?_
        refine bt_compare ?_
        refine ev_name (by walk_at "lk") ?_
        refine ev_int ?_
        with_reducible refine t2_eq_int ?_
        with_reducible refine ⟨_, rfl, ?_⟩
        refine if_f (by first | with_reducible rfl | with_reducible assumption | rfl) ?_
        refine bt_value ?_
        refine ev_name (by walk_at "lk") ?_
        with_reducible refine tb_bool ?_
        refine if_f (by first | with_reducible rfl | with_reducible assumption | rfl) ?_
        refine ex_nil ?_
        refine ex_cons ?_
        refine ex_assign ?_ (by rfl)
        refine ev_ifexp ?_
        refine bt_compare ?_
        refine ev_name (by walk_at "lk") ?_
        refine ev_int ?_
        with_reducible refine t2_eq_int ?_
        with_reducible refine ⟨_, rfl, ?_⟩
        refine if_t (by first | with_reducible rfl | with_reducible assumption | rfl) ?_
        refine ev_name (by walk_at "lk") ?_
        with_reducible refine ⟨_, (by walk_at "updg"), ?_⟩
        refine ex_one ?_
        refine ex_return ?_
        refine ev_compare ?_
        refine ev_name (by walk_at "lk") ?_
        refine ev_dict (by rfl) (by rfl) (by simp) (by decide) ?_
        refine evp_cons ?_
        refine ev_name (by walk_at "lk") ?_
        refine ev_ifexp ?_
        refine bt_compare ?_
        refine ev_name (by walk_at "lk") ?_
        refine ev_int ?_
        with_reducible refine t2_eq_int ?_
        with_reducible refine ⟨_, rfl, ?_⟩
        refine if_f (by first | with_reducible rfl | with_reducible assumption | rfl) ?_
        refine ev_name (by walk_at "lk") ?_
        refine evp_nil ?_
        refine ⟨[((7 : Int), nV 3)], rfl, List.nodup_cons.mpr ⟨by simp, .nil⟩, fun E0 => ?_⟩
        refine t2_eq_dicts (l := [(7, 3)]) (.tail _ (.head _)) (.head _) ?_
        exact ⟨_, .sub (List.nil_sublist _), h⟩
      · (refine ev_int ?_; (with_reducible refine t2_eq_int ?_); (with_reducible refine ⟨_, (by walk_at "updg"), ?_⟩); refine ex_cons ?_; refine ex_expr ?_; refine ev_meth (f := 101) (by rfl) ?_; refine ev_name (by walk_at "lk") ?_; (with_reducible refine ⟨_, _, _, _, rfl, (by walk_at "mem"), (by walk_at "k"), (by with_unfolding_all rfl), ?_⟩); refine evs_cons ?_; refine ev_str ?_; refine evs_cons ?_; refine ev_binop ?_; refine ev_list ?_; refine evs_cons ?_; refine ev_name (by walk_at "lk") ?_; refine evs_nil ?_; refine ⟨(by walk_at "len"), ?_⟩)
        intro L1
        refine ev_ifexp ?_
        refine bt_value ?_
        refine ev_name (by walk_at "lk") ?_
        with_reducible refine tb_bool ?_
        refine if_t (by first | with_reducible rfl | with_reducible assumption | rfl) ?_
        refine ev_list ?_
        refine evs_cons ?_
        refine ev_name (by walk_at "lk") ?_
        refine evs_nil ?_
        refine ⟨(by walk_at "len"), ?_⟩
        intro L2
        skip
        refine t2_add_lists (by walk_at "mem") (by walk_at "mem") (by simp) ?_
        intro L3
        refine evs_nil ?_
        refine clc_pre (.pick (.tail (.tail (.tail (.head)))) (.pick (.tail (.tail (.tail (.head)))) (.pick (.tail (.tail (.tail (.head)))) (.pick (.tail (.tail (.tail (.head)))) .refl)))) (c_add_output (l := ([8, 7] : List Nat).map nV) hK (.head _) (by simp) (by simp) fun O => ?_)
        unfold blk
        refine ex_cons ?_
        refine ex_assign ?_ (by rfl)
        refine ev_dict0 ?_
        intro RD
        with_reducible refine ⟨_, (by walk_at "updg"), ?_⟩
        refine ex_cons ?_
        refine ex_expr ?_
        refine ev_callK (v := .ref 201) (by rfl) (by walk_at "k") (by walk_at "k") (by rfl) ?_
        refine evs_cons ?_
        refine ev_callT (f := "list") (T := "list") (by rfl) (by walk_at "k") (by kernel_rfl) (by decide) ?_ (by rfl)
        refine ev_attr ?_
        refine ev_name (by walk_at "lk") ?_
        refine t1_attr (by walk_at "mem") (HasS.mem (by walk_at "hs")) (by walk_at "k") (by rfl) ?_
        refine cl_list_list (by walk_at "mem") (by walk_at "len") ?_
        intro LC
        refine evs_cons ?_
        refine ev_name (by walk_at "lk") ?_
        refine evs_cons ?_
        refine ev_name (by walk_at "lk") ?_
        refine evs_nil ?_
        refine clc_pre (.pick (.tail .head) (.pick .head .refl)) (c_pass_known (cs := [⟨.mux, 7, [2, 3, 4]⟩, ⟨.mux, 8, [2, 7, 5]⟩]) (outs := [8, 7]) (w := 5) (na := ⟨a.x, a.dx, a.li, a.lo, a.lc, I, O⟩) (nm := "t") (inm := "i") (onm := "o") (cnt := 9) hK ⟨?_, ?_, ?_, ?_, ?_, ?_⟩ (by (first | lia | omega)) (by simp) (by simp) (wf2 (by decide) (by decide)) fun ord hord => ?_)
        case refine_1 => exact .tail _ (.head _)
        case refine_2 => exact .tail _ (.tail _ (.head _))
        case refine_3 => exact .tail _ (.tail _ (.tail _ (.tail _ (.tail _ (.tail _ (.tail _ (.tail _ (.head _))))))))
        case refine_4 => exact .tail _ (.tail _ (.tail _ (.head _)))
        case refine_5 => exact .head _
        case refine_6 => exact .tail _ (.tail _ (.tail _ (.tail _ (.head _))))
        have ho : ord = [0, 1] := topo_chain hord (fun i hi => by rcases (show i = 0 by simp at hi; (first | lia | omega)) with rfl <;> decide)
        subst ho
        rw [show (pkRun [⟨.mux, 7, [2, 3, 4]⟩, ⟨.mux, 8, [2, 7, 5]⟩] [8, 7] [0, 1]).R = [] by decide]
        refine ex_cons ?_
        refine ex_if ?_
        refine bt_or2 ?_
        refine bt_compare ?_
        refine ev_name (by walk_at "lk") ?_
        refine ev_int ?_
        with_reducible refine t2_eq_int ?_
        with_reducible refine ⟨_, rfl, ?_⟩
        refine if_f (by first | with_reducible rfl | with_reducible assumption | rfl) ?_
        refine bt_value ?_
        refine ev_name (by walk_at "lk") ?_
        with_reducible refine tb_bool ?_
        refine if_t (by first | with_reducible rfl | with_reducible assumption | rfl) ?_
        refine ex_one ?_
        refine ex_return ?_
        refine ev_compare ?_
        refine ev_name (by walk_at "lk") ?_
        refine ev_dict0 ?_
        intro E0
        refine t2_eq_dicts (l := []) (.tail _ (.head _)) (.head _) ?_
        exact ⟨_, .sub (List.nil_sublist _), h⟩
    · ((with_reducible refine ⟨_, (by walk_at "updg"), ?_⟩); refine ex_cons ?_; refine ex_assign ?_ (by rfl); refine ev_meth (f := 109) (by rfl) ?_; refine ev_name (by walk_at "lk") ?_; (with_reducible refine ⟨_, _, _, _, rfl, (by walk_at "mem"), (by walk_at "k"), (by with_unfolding_all rfl), ?_⟩); refine evs_cons ?_; refine ev_str ?_; refine evs_cons ?_; refine ev_ifexp ?_; refine bt_compare ?_; refine ev_name (by walk_at "lk") ?_; refine ev_int ?_; (with_reducible refine t2_eq_int ?_); (with_reducible refine ⟨_, rfl, ?_⟩); refine if_t (by first | with_reducible rfl | with_reducible assumption | rfl) ?_; refine ev_tuple ?_; refine evs_cons ?_; refine ev_name (by walk_at "lk") ?_; refine evs_cons ?_; refine ev_name (by walk_at "lk") ?_; refine evs_cons ?_; refine ev_name (by walk_at "lk") ?_; refine evs_nil ?_; refine ⟨(by walk_at "len"), ?_⟩; refine evs_nil ?_)
      refine clc_pre (.pick .head (.pick .head (.pick .head (.pick .head .refl)))) (c_add_cell (kd := .mux) (l := [2, 5, 7]) (cs := ([] ++ [Cel.mk .mux 7 [2, 3, 4]])) hK (.inl rfl) (by simp) (by simp) ?_)
      unfold blk
      with_reducible refine ⟨_, (by walk_at "updg"), ?_⟩
      refine ex_cons ?_
      refine ex_assign ?_ (by rfl)
      refine ev_compare ?_
      refine ev_callK (v := .ref 227) (by rfl) (by walk_at "k") (by walk_at "k") (by rfl) ?_
      refine evs_cons ?_
      refine ev_name (by walk_at "lk") ?_
      refine evs_cons ?_
      refine ev_int ?_
      refine evs_nil ?_
      refine c_draw (many := 2) (at_ := at_ + 1 + 1) hK (by walk_at "mem") hl (by (first | lia | omega)) (by walk_at "upd") fun tw htw => ?_
      rcases (show tw = 0 ∨ tw = 1 by (first | lia | omega)) with rfl | rfl
      · (refine ev_int ?_; (with_reducible refine t2_eq_int ?_); (with_reducible refine ⟨_, (by walk_at "updg"), ?_⟩); refine ex_cons ?_; refine ex_expr ?_; refine ev_meth (f := 101) (by rfl) ?_; refine ev_name (by walk_at "lk") ?_; (with_reducible refine ⟨_, _, _, _, rfl, (by walk_at "mem"), (by walk_at "k"), (by with_unfolding_all rfl), ?_⟩); refine evs_cons ?_; refine ev_str ?_; refine evs_cons ?_; refine ev_binop ?_; refine ev_list ?_; refine evs_cons ?_; refine ev_name (by walk_at "lk") ?_; refine evs_nil ?_; refine ⟨(by walk_at "len"), ?_⟩)
        intro L1
        refine ev_ifexp ?_
        refine bt_value ?_
        refine ev_name (by walk_at "lk") ?_
        with_reducible refine tb_bool ?_
        refine if_f (by first | with_reducible rfl | with_reducible assumption | rfl) ?_
        refine ev_list ?_
        refine evs_nil ?_
        refine ⟨(by walk_at "len"), ?_⟩
        intro L2
        skip
        refine t2_add_lists (by walk_at "mem") (by walk_at "mem") (by simp) ?_
        intro L3
        refine evs_nil ?_
        refine clc_pre (.pick (.tail (.tail (.tail (.head)))) (.pick (.tail (.tail (.tail (.head)))) (.pick (.tail (.tail (.tail (.head)))) (.pick (.tail (.tail (.tail (.head)))) .refl)))) (c_add_output (l := ([8] : List Nat).map nV) hK (.head _) (by simp) (by simp) fun O => ?_)
        unfold blk
        refine ex_cons ?_
        refine ex_assign ?_ (by rfl)
        refine ev_dict0 ?_
        intro RD
        with_reducible refine ⟨_, (by walk_at "updg"), ?_⟩
        refine ex_cons ?_
        refine ex_expr ?_
        refine ev_callK (v := .ref 201) (by rfl) (by walk_at "k") (by walk_at "k") (by rfl) ?_
        refine evs_cons ?_
        refine ev_callT (f := "list") (T := "list") (by rfl) (by walk_at "k") (by kernel_rfl) (by decide) ?_ (by rfl)
        refine ev_attr ?_
        refine ev_name (by walk_at "lk") ?_
        refine t1_attr (by walk_at "mem") (HasS.mem (by walk_at "hs")) (by walk_at "k") (by rfl) ?_
        refine cl_list_list (by walk_at "mem") (by walk_at "len") ?_
        intro LC
        refine evs_cons ?_
        refine ev_name (by walk_at "lk") ?_
        refine evs_cons ?_
        refine ev_name (by walk_at "lk") ?_
        refine evs_nil ?_
        refine clc_pre (.pick (.tail .head) (.pick .head .refl)) (c_pass_known (cs := [⟨.mux, 7, [2, 3, 4]⟩, ⟨.mux, 8, [2, 5, 7]⟩]) (outs := [8]) (w := 5) (na := ⟨a.x, a.dx, a.li, a.lo, a.lc, I, O⟩) (nm := "t") (inm := "i") (onm := "o") (cnt := 9) hK ⟨?_, ?_, ?_, ?_, ?_, ?_⟩ (by (first | lia | omega)) (by simp) (by simp) (wf2 (by decide) (by decide)) fun ord hord => ?_)
        case refine_1 => exact .tail _ (.head _)
        case refine_2 => exact .tail _ (.tail _ (.head _))
        case refine_3 => exact .tail _ (.tail _ (.tail _ (.tail _ (.tail _ (.tail _ (.tail _ (.tail _ (.head _))))))))
        case refine_4 => exact .tail _ (.tail _ (.tail _ (.head _)))
        case refine_5 => exact .head _
        case refine_6 => exact .tail _ (.tail _ (.tail _ (.tail _ (.head _))))
        have ho : ord = [0, 1] := topo_chain hord (fun i hi => by rcases (show i = 0 by simp at hi; (first | lia | omega)) with rfl <;> decide)
        subst ho
        rw [show (pkRun [⟨.mux, 7, [2, 3, 4]⟩, ⟨.mux, 8, [2, 5, 7]⟩] [8] [0, 1]).R = [(7, 4)] by decide]
        refine ex_cons ?_
        refine ex_if ?_
        refine bt_or2 ?_
        refine bt_compare ?_
        refine ev_name (by walk_at "lk") ?_
        refine ev_int ?_
        with_reducible refine t2_eq_int ?_
        with_reducible refine ⟨_, rfl, ?_⟩
        refine if_f (by first | with_reducible rfl | with_reducible assumption | rfl) ?_
        refine bt_value ?_
        refine ev_name (by walk_at "lk") ?_
        with_reducible refine tb_bool ?_
        refine if_f (by first | with_reducible rfl | with_reducible assumption | rfl) ?_
        refine ex_nil ?_
        refine ex_cons ?_
        refine ex_assign ?_ (by rfl)
        refine ev_ifexp ?_
        refine bt_compare ?_
        refine ev_name (by walk_at "lk") ?_
        refine ev_int ?_
        with_reducible refine t2_eq_int ?_
        with_reducible refine ⟨_, rfl, ?_⟩
        refine if_t (by first | with_reducible rfl | with_reducible assumption | rfl) ?_
        refine ev_name (by walk_at "lk") ?_
        with_reducible refine ⟨_, (by walk_at "updg"), ?_⟩
        refine ex_one ?_
        refine ex_return ?_
        refine ev_compare ?_
        refine ev_name (by walk_at "lk") ?_
        refine ev_dict (by rfl) (by rfl) (by simp) (by decide) ?_
        refine evp_cons ?_
        refine ev_name (by walk_at "lk") ?_
        refine ev_ifexp ?_
        refine bt_compare ?_
        refine ev_name (by walk_at "lk") ?_
        refine ev_int ?_
        with_reducible refine t2_eq_int ?_
        with_reducible refine ⟨_, rfl, ?_⟩
        refine if_t (by first | with_reducible rfl | with_reducible assumption | rfl) ?_
        refine ev_name (by walk_at "lk") ?_
        refine evp_nil ?_
        refine ⟨[((7 : Int), nV 4)], rfl, List.nodup_cons.mpr ⟨by simp, .nil⟩, fun E0 => ?_⟩
        refine t2_eq_dicts (l := [(7, 4)]) (.tail _ (.head _)) (.head _) ?_
        exact ⟨_, .sub (List.nil_sublist _), h⟩
      · (refine ev_int ?_; (with_reducible refine t2_eq_int ?_); (with_reducible refine ⟨_, (by walk_at "updg"), ?_⟩); refine ex_cons ?_; refine ex_expr ?_; refine ev_meth (f := 101) (by rfl) ?_; refine ev_name (by walk_at "lk") ?_; (with_reducible refine ⟨_, _, _, _, rfl, (by walk_at "mem"), (by walk_at "k"), (by with_unfolding_all rfl), ?_⟩); refine evs_cons ?_; refine ev_str ?_; refine evs_cons ?_; refine ev_binop ?_; refine ev_list ?_; refine evs_cons ?_; refine ev_name (by walk_at "lk") ?_; refine evs_nil ?_; refine ⟨(by walk_at "len"), ?_⟩)
        intro L1
        refine ev_ifexp ?_
        refine bt_value ?_
        refine ev_name (by walk_at "lk") ?_
        with_reducible refine tb_bool ?_
        refine if_t (by first | with_reducible rfl | with_reducible assumption | rfl) ?_
        refine ev_list ?_
        refine evs_cons ?_
        refine ev_name (by walk_at "lk") ?_
        refine evs_nil ?_
        refine ⟨(by walk_at "len"), ?_⟩
        intro L2
        skip
        refine t2_add_lists (by walk_at "mem") (by walk_at "mem") (by simp) ?_
        intro L3
        refine evs_nil ?_
        refine clc_pre (.pick (.tail (.tail (.tail (.head)))) (.pick (.tail (.tail (.tail (.head)))) (.pick (.tail (.tail (.tail (.head)))) (.pick (.tail (.tail (.tail (.head)))) .refl)))) (c_add_output (l := ([8, 7] : List Nat).map nV) hK (.head _) (by simp) (by simp) fun O => ?_)
        unfold blk
        refine ex_cons ?_
        refine ex_assign ?_ (by rfl)
        refine ev_dict0 ?_
        intro RD
        with_reducible refine ⟨_, (by walk_at "updg"), ?_⟩
        refine ex_cons ?_
        refine ex_expr ?_
        refine ev_callK (v := .ref 201) (by rfl) (by walk_at "k") (by walk_at "k") (by rfl) ?_
        refine evs_cons ?_
        refine ev_callT (f := "list") (T := "list") (by rfl) (by walk_at "k") (by kernel_rfl) (by decide) ?_ (by rfl)
        refine ev_attr ?_
        refine ev_name (by walk_at "lk") ?_
        refine t1_attr (by walk_at "mem") (HasS.mem (by walk_at "hs")) (by walk_at "k") (by rfl) ?_
        refine cl_list_list (by walk_at "mem") (by walk_at "len") ?_
        intro LC
        refine evs_cons ?_
        refine ev_name (by walk_at "lk") ?_
        refine evs_cons ?_
        refine ev_name (by walk_at "lk") ?_
        refine evs_nil ?_
        refine clc_pre (.pick (.tail .head) (.pick .head .refl)) (c_pass_known (cs := [⟨.mux, 7, [2, 3, 4]⟩, ⟨.mux, 8, [2, 5, 7]⟩]) (outs := [8, 7]) (w := 5) (na := ⟨a.x, a.dx, a.li, a.lo, a.lc, I, O⟩) (nm := "t") (inm := "i") (onm := "o") (cnt := 9) hK ⟨?_, ?_, ?_, ?_, ?_, ?_⟩ (by (first | lia | omega)) (by simp) (by simp) (wf2 (by decide) (by decide)) fun ord hord => ?_)
        case refine_1 => exact .tail _ (.head _)
        case refine_2 => exact .tail _ (.tail _ (.head _))
        case refine_3 => exact .tail _ (.tail _ (.tail _ (.tail _ (.tail _ (.tail _ (.tail _ (.tail _ (.head _))))))))
        case refine_4 => exact .tail _ (.tail _ (.tail _ (.head _)))
        case refine_5 => exact .head _
        case refine_6 => exact .tail _ (.tail _ (.tail _ (.tail _ (.head _))))
        have ho : ord = [0, 1] := topo_chain hord (fun i hi => by rcases (show i = 0 by simp at hi; (first | lia | omega)) with rfl <;> decide)
        subst ho
        rw [show (pkRun [⟨.mux, 7, [2, 3, 4]⟩, ⟨.mux, 8, [2, 5, 7]⟩] [8, 7] [0, 1]).R = [] by decide]
        refine ex_cons ?_
        refine ex_if ?_
        refine bt_or2 ?_
        refine bt_compare ?_
        refine ev_name (by walk_at "lk") ?_
        refine ev_int ?_
        with_reducible refine t2_eq_int ?_
        with_reducible refine ⟨_, rfl, ?_⟩
        refine if_f (by first | with_reducible rfl | with_reducible assumption | rfl) ?_
        refine bt_value ?_
        refine ev_name (by walk_at "lk") ?_
        with_reducible refine tb_bool ?_
        refine if_t (by first | with_reducible rfl | with_reducible assumption | rfl) ?_
        refine ex_one ?_
        refine ex_return ?_
        refine ev_compare ?_
        refine ev_name (by walk_at "lk") ?_
        refine ev_dict0 ?_
        intro E0
        refine t2_eq_dicts (l := []) (.tail _ (.head _)) (.head _) ?_
        exact ⟨_, .sub (List.nil_sublist _), h⟩
  · ((with_reducible refine ⟨_, (by walk_at "updg"), ?_⟩); refine ex_cons ?_; refine ex_assign ?_ (by rfl); refine ev_name (by walk_at "lk") ?_; (with_reducible refine ⟨_, (by walk_at "updg"), ?_⟩); refine ex_cons ?_; refine ex_if ?_; refine bt_compare ?_; refine ev_name (by walk_at "lk") ?_; refine ev_int ?_; (with_reducible refine t2_eq_int ?_); (with_reducible refine ⟨_, rfl, ?_⟩); refine if_t (by first | with_reducible rfl | with_reducible assumption | rfl) ?_; refine ex_one ?_; refine ex_assign ?_ (by rfl); refine ev_meth (f := 109) (by rfl) ?_; refine ev_name (by walk_at "lk") ?_; (with_reducible refine ⟨_, _, _, _, rfl, (by walk_at "mem"), (by walk_at "k"), (by with_unfolding_all rfl), ?_⟩); refine evs_cons ?_; refine ev_str ?_; refine evs_cons ?_; refine ev_tuple ?_; refine evs_cons ?_; refine ev_name (by walk_at "lk") ?_; refine evs_nil ?_; refine ⟨(by walk_at "len"), ?_⟩; refine evs_nil ?_)
    refine clc_pre (.pick (.tail (.tail (.head))) (.pick (.tail (.tail (.head))) (.pick (.tail (.tail (.head))) (.pick (.tail (.tail (.head))) .refl)))) (c_add_cell (kd := .inv) (l := [2]) (cs := []) hK (.inl rfl) (by simp) (by simp) ?_)
    unfold blk
    with_reducible refine ⟨_, (by walk_at "updg"), ?_⟩
    refine ex_cons ?_
    refine ex_if ?_
    refine bt_compare ?_
    refine ev_name (by walk_at "lk") ?_
    refine ev_int ?_
    with_reducible refine t2_eq_int ?_
    with_reducible refine ⟨_, rfl, ?_⟩
    refine if_f (by first | with_reducible rfl | with_reducible assumption | rfl) ?_
    refine ex_nil ?_
    refine ex_cons ?_
    refine ex_assign ?_ (by rfl)
    refine ev_meth (f := 109) (by rfl) ?_
    refine ev_name (by walk_at "lk") ?_
    with_reducible refine ⟨_, _, _, _, rfl, (by walk_at "mem"), (by walk_at "k"), (by with_unfolding_all rfl), ?_⟩
    refine evs_cons ?_
    refine ev_str ?_
    refine evs_cons ?_
    refine ev_tuple ?_
    refine evs_cons ?_
    refine ev_name (by walk_at "lk") ?_
    refine evs_cons ?_
    refine ev_name (by walk_at "lk") ?_
    refine evs_cons ?_
    refine ev_name (by walk_at "lk") ?_
    refine evs_nil ?_
    refine ⟨(by walk_at "len"), ?_⟩
    refine evs_nil ?_
    refine clc_pre (.pick .head (.pick .head (.pick .head (.pick .head .refl)))) (c_add_cell (kd := .mux) (l := [7, 3, 4]) (cs := ([] ++ [Cel.mk .inv 7 [2]])) hK (.inl rfl) (by simp) (by simp) ?_)
    unfold blk
    with_reducible refine ⟨_, (by walk_at "updg"), ?_⟩
    refine ex_cons ?_
    refine ex_assign ?_ (by rfl)
    refine ev_callK (v := .ref 227) (by rfl) (by walk_at "k") (by walk_at "k") (by rfl) ?_
    refine evs_cons ?_
    refine ev_name (by walk_at "lk") ?_
    refine evs_cons ?_
    refine ev_int ?_
    refine evs_nil ?_
    refine c_draw (many := 2) (at_ := at_ + 1) hK (by walk_at "mem") hl (by (first | lia | omega)) (by walk_at "upd") fun high hhigh => ?_
    rcases (show high = 0 ∨ high = 1 by (first | lia | omega)) with rfl | rfl
    · ((with_reducible refine ⟨_, (by walk_at "updg"), ?_⟩); refine ex_cons ?_; refine ex_assign ?_ (by rfl); refine ev_meth (f := 109) (by rfl) ?_; refine ev_name (by walk_at "lk") ?_; (with_reducible refine ⟨_, _, _, _, rfl, (by walk_at "mem"), (by walk_at "k"), (by with_unfolding_all rfl), ?_⟩); refine evs_cons ?_; refine ev_str ?_; refine evs_cons ?_; refine ev_ifexp ?_; refine bt_compare ?_; refine ev_name (by walk_at "lk") ?_; refine ev_int ?_; (with_reducible refine t2_eq_int ?_); (with_reducible refine ⟨_, rfl, ?_⟩); refine if_f (by first | with_reducible rfl | with_reducible assumption | rfl) ?_; refine ev_tuple ?_; refine evs_cons ?_; refine ev_name (by walk_at "lk") ?_; refine evs_cons ?_; refine ev_name (by walk_at "lk") ?_; refine evs_cons ?_; refine ev_name (by walk_at "lk") ?_; refine evs_nil ?_; refine ⟨(by walk_at "len"), ?_⟩; refine evs_nil ?_)
      refine clc_pre (.pick .head (.pick .head (.pick .head (.pick .head .refl)))) (c_add_cell (kd := .mux) (l := [2, 8, 5]) (cs := (([] ++ [Cel.mk .inv 7 [2]]) ++ [Cel.mk .mux 8 [7, 3, 4]])) hK (.inl rfl) (by simp) (by simp) ?_)
      unfold blk
      with_reducible refine ⟨_, (by walk_at "updg"), ?_⟩
      refine ex_cons ?_
      refine ex_assign ?_ (by rfl)
      refine ev_compare ?_
      refine ev_callK (v := .ref 227) (by rfl) (by walk_at "k") (by walk_at "k") (by rfl) ?_
      refine evs_cons ?_
      refine ev_name (by walk_at "lk") ?_
      refine evs_cons ?_
      refine ev_int ?_
      refine evs_nil ?_
      refine c_draw (many := 2) (at_ := at_ + 1 + 1) hK (by walk_at "mem") hl (by (first | lia | omega)) (by walk_at "upd") fun tw htw => ?_
      rcases (show tw = 0 ∨ tw = 1 by (first | lia | omega)) with rfl | rfl
      · (refine ev_int ?_; (with_reducible refine t2_eq_int ?_); (with_reducible refine ⟨_, (by walk_at "updg"), ?_⟩); refine ex_cons ?_; refine ex_expr ?_; refine ev_meth (f := 101) (by rfl) ?_; refine ev_name (by walk_at "lk") ?_; (with_reducible refine ⟨_, _, _, _, rfl, (by walk_at "mem"), (by walk_at "k"), (by with_unfolding_all rfl), ?_⟩); refine evs_cons ?_; refine ev_str ?_; refine evs_cons ?_; refine ev_binop ?_; refine ev_list ?_; refine evs_cons ?_; refine ev_name (by walk_at "lk") ?_; refine evs_nil ?_; refine ⟨(by walk_at "len"), ?_⟩)
        intro L1
        refine ev_ifexp ?_
        refine bt_value ?_
        refine ev_name (by walk_at "lk") ?_
        with_reducible refine tb_bool ?_
        refine if_f (by first | with_reducible rfl | with_reducible assumption | rfl) ?_
        refine ev_list ?_
        refine evs_nil ?_
        refine ⟨(by walk_at "len"), ?_⟩
        intro L2
        skip
        refine t2_add_lists (by walk_at "mem") (by walk_at "mem") (by simp) ?_
        intro L3
        refine evs_nil ?_
        refine clc_pre (.pick (.tail (.tail (.tail (.head)))) (.pick (.tail (.tail (.tail (.head)))) (.pick (.tail (.tail (.tail (.head)))) (.pick (.tail (.tail (.tail (.head)))) .refl)))) (c_add_output (l := ([9] : List Nat).map nV) hK (.head _) (by simp) (by simp) fun O => ?_)
        unfold blk
        refine ex_cons ?_
        refine ex_assign ?_ (by rfl)
        refine ev_dict0 ?_
        intro RD
        with_reducible refine ⟨_, (by walk_at "updg"), ?_⟩
        refine ex_cons ?_
        refine ex_expr ?_
        refine ev_callK (v := .ref 201) (by rfl) (by walk_at "k") (by walk_at "k") (by rfl) ?_
        refine evs_cons ?_
        refine ev_callT (f := "list") (T := "list") (by rfl) (by walk_at "k") (by kernel_rfl) (by decide) ?_ (by rfl)
        refine ev_attr ?_
        refine ev_name (by walk_at "lk") ?_
        refine t1_attr (by walk_at "mem") (HasS.mem (by walk_at "hs")) (by walk_at "k") (by rfl) ?_
        refine cl_list_list (by walk_at "mem") (by walk_at "len") ?_
        intro LC
        refine evs_cons ?_
        refine ev_name (by walk_at "lk") ?_
        refine evs_cons ?_
        refine ev_name (by walk_at "lk") ?_
        refine evs_nil ?_
        refine clc_pre (.pick (.tail .head) (.pick .head .refl)) (c_pass_known (cs := [⟨.inv, 7, [2]⟩, ⟨.mux, 8, [7, 3, 4]⟩, ⟨.mux, 9, [2, 8, 5]⟩]) (outs := [9]) (w := 5) (na := ⟨a.x, a.dx, a.li, a.lo, a.lc, I, O⟩) (nm := "t") (inm := "i") (onm := "o") (cnt := 10) hK ⟨?_, ?_, ?_, ?_, ?_, ?_⟩ (by (first | lia | omega)) (by simp) (by simp) (wf3 (by decide) (by decide) (by decide)) fun ord hord => ?_)
        case refine_1 => exact .tail _ (.head _)
        case refine_2 => exact .tail _ (.tail _ (.head _))
        case refine_3 => exact .tail _ (.tail _ (.tail _ (.tail _ (.tail _ (.tail _ (.tail _ (.tail _ (.head _))))))))
        case refine_4 => exact .tail _ (.tail _ (.tail _ (.head _)))
        case refine_5 => exact .head _
        case refine_6 => exact .tail _ (.tail _ (.tail _ (.tail _ (.head _))))
        have ho : ord = [0, 1, 2] := topo_chain hord (fun i hi => by rcases (show i = 0 ∨ i = 1 by simp at hi; (first | lia | omega)) with rfl | rfl <;> decide)
        subst ho
        rw [show (pkRun [⟨.inv, 7, [2]⟩, ⟨.mux, 8, [7, 3, 4]⟩, ⟨.mux, 9, [2, 8, 5]⟩] [9] [0, 1, 2]).R = [(8, 4)] by decide]
        refine ex_cons ?_
        refine ex_if ?_
        refine bt_or2 ?_
        refine bt_compare ?_
        refine ev_name (by walk_at "lk") ?_
        refine ev_int ?_
        with_reducible refine t2_eq_int ?_
        with_reducible refine ⟨_, rfl, ?_⟩
        refine if_f (by first | with_reducible rfl | with_reducible assumption | rfl) ?_
        refine bt_value ?_
        refine ev_name (by walk_at "lk") ?_
        with_reducible refine tb_bool ?_
        refine if_f (by first | with_reducible rfl | with_reducible assumption | rfl) ?_
        refine ex_nil ?_
        refine ex_cons ?_
        refine ex_assign ?_ (by rfl)
        refine ev_ifexp ?_
        refine bt_compare ?_
        refine ev_name (by walk_at "lk") ?_
        refine ev_int ?_
        with_reducible refine t2_eq_int ?_
        with_reducible refine ⟨_, rfl, ?_⟩
        refine if_f (by first | with_reducible rfl | with_reducible assumption | rfl) ?_
        refine ev_binop ?_
        refine ev_int ?_
        refine ev_name (by walk_at "lk") ?_
        with_reducible refine t2_sub ?_
        with_reducible refine ⟨_, (by walk_at "updg"), ?_⟩
        refine ex_one ?_
        refine ex_return ?_
        refine ev_compare ?_
        refine ev_name (by walk_at "lk") ?_
        refine ev_dict (by rfl) (by rfl) (by simp) (by decide) ?_
        refine evp_cons ?_
        refine ev_name (by walk_at "lk") ?_
        refine ev_ifexp ?_
        refine bt_compare ?_
        refine ev_name (by walk_at "lk") ?_
        refine ev_int ?_
        with_reducible refine t2_eq_int ?_
        with_reducible refine ⟨_, rfl, ?_⟩
        refine if_t (by first | with_reducible rfl | with_reducible assumption | rfl) ?_
        refine ev_name (by walk_at "lk") ?_
        refine evp_nil ?_
        refine ⟨[((8 : Int), nV 4)], rfl, List.nodup_cons.mpr ⟨by simp, .nil⟩, fun E0 => ?_⟩
        refine t2_eq_dicts (l := [(8, 4)]) (.tail _ (.head _)) (.head _) ?_
        exact ⟨_, .sub (List.nil_sublist _), h⟩
      · (refine ev_int ?_; (with_reducible refine t2_eq_int ?_); (with_reducible refine ⟨_, (by walk_at "updg"), ?_⟩); refine ex_cons ?_; refine ex_expr ?_; refine ev_meth (f := 101) (by rfl) ?_; refine ev_name (by walk_at "lk") ?_; (with_reducible refine ⟨_, _, _, _, rfl, (by walk_at "mem"), (by walk_at "k"), (by with_unfolding_all rfl), ?_⟩); refine evs_cons ?_; refine ev_str ?_; refine evs_cons ?_; refine ev_binop ?_; refine ev_list ?_; refine evs_cons ?_; refine ev_name (by walk_at "lk") ?_; refine evs_nil ?_; refine ⟨(by walk_at "len"), ?_⟩)
        intro L1
        refine ev_ifexp ?_
        refine bt_value ?_
        refine ev_name (by walk_at "lk") ?_
        with_reducible refine tb_bool ?_
        refine if_t (by first | with_reducible rfl | with_reducible assumption | rfl) ?_
        refine ev_list ?_
        refine evs_cons ?_
        refine ev_name (by walk_at "lk") ?_
        refine evs_nil ?_
        refine ⟨(by walk_at "len"), ?_⟩
        intro L2
        skip
        refine t2_add_lists (by walk_at "mem") (by walk_at "mem") (by simp) ?_
        intro L3
        refine evs_nil ?_
        refine clc_pre (.pick (.tail (.tail (.tail (.head)))) (.pick (.tail (.tail (.tail (.head)))) (.pick (.tail (.tail (.tail (.head)))) (.pick (.tail (.tail (.tail (.head)))) .refl)))) (c_add_output (l := ([9, 8] : List Nat).map nV) hK (.head _) (by simp) (by simp) fun O => ?_)
        unfold blk
        refine ex_cons ?_
        refine ex_assign ?_ (by rfl)
        refine ev_dict0 ?_
        intro RD
        with_reducible refine ⟨_, (by walk_at "updg"), ?_⟩
        refine ex_cons ?_
        refine ex_expr ?_
        refine ev_callK (v := .ref 201) (by rfl) (by walk_at "k") (by walk_at "k") (by rfl) ?_
        refine evs_cons ?_
        refine ev_callT (f := "list") (T := "list") (by rfl) (by walk_at "k") (by kernel_rfl) (by decide) ?_ (by rfl)
        refine ev_attr ?_
        refine ev_name (by walk_at "lk") ?_
        refine t1_attr (by walk_at "mem") (HasS.mem (by walk_at "hs")) (by walk_at "k") (by rfl) ?_
        refine cl_list_list (by walk_at "mem") (by walk_at "len") ?_
        intro LC
        refine evs_cons ?_
        refine ev_name (by walk_at "lk") ?_
        refine evs_cons ?_
        refine ev_name (by walk_at "lk") ?_
        refine evs_nil ?_
        refine clc_pre (.pick (.tail .head) (.pick .head .refl)) (c_pass_known (cs := [⟨.inv, 7, [2]⟩, ⟨.mux, 8, [7, 3, 4]⟩, ⟨.mux, 9, [2, 8, 5]⟩]) (outs := [9, 8]) (w := 5) (na := ⟨a.x, a.dx, a.li, a.lo, a.lc, I, O⟩) (nm := "t") (inm := "i") (onm := "o") (cnt := 10) hK ⟨?_, ?_, ?_, ?_, ?_, ?_⟩ (by (first | lia | omega)) (by simp) (by simp) (wf3 (by decide) (by decide) (by decide)) fun ord hord => ?_)
        case refine_1 => exact .tail _ (.head _)
        case refine_2 => exact .tail _ (.tail _ (.head _))
        case refine_3 => exact .tail _ (.tail _ (.tail _ (.tail _ (.tail _ (.tail _ (.tail _ (.tail _ (.head _))))))))
        case refine_4 => exact .tail _ (.tail _ (.tail _ (.head _)))
        case refine_5 => exact .head _
        case refine_6 => exact .tail _ (.tail _ (.tail _ (.tail _ (.head _))))
        have ho : ord = [0, 1, 2] := topo_chain hord (fun i hi => by rcases (show i = 0 ∨ i = 1 by simp at hi; (first | lia | omega)) with rfl | rfl <;> decide)
        subst ho
        rw [show (pkRun [⟨.inv, 7, [2]⟩, ⟨.mux, 8, [7, 3, 4]⟩, ⟨.mux, 9, [2, 8, 5]⟩] [9, 8] [0, 1, 2]).R = [] by decide]
        refine ex_cons ?_
        refine ex_if ?_
        refine bt_or2 ?_
        refine bt_compare ?_
        refine ev_name (by walk_at "lk") ?_
        refine ev_int ?_
        with_reducible refine t2_eq_int ?_
        with_reducible refine ⟨_, rfl, ?_⟩
        refine if_f (by first | with_reducible rfl | with_reducible assumption | rfl) ?_
        refine bt_value ?_
        refine ev_name (by walk_at "lk") ?_
        with_reducible refine tb_bool ?_
        refine if_t (by first | with_reducible rfl | with_reducible assumption | rfl) ?_
        refine ex_one ?_
        refine ex_return ?_
        refine ev_compare ?_
        refine ev_name (by walk_at "lk") ?_
        refine ev_dict0 ?_
        intro E0
        refine t2_eq_dicts (l := []) (.tail _ (.head _)) (.head _) ?_
        exact ⟨_, .sub (List.nil_sublist _), h⟩
    · ((with_reducible refine ⟨_, (by walk_at "updg"), ?_⟩); refine ex_cons ?_; refine ex_assign ?_ (by rfl); refine ev_meth (f := 109) (by rfl) ?_; refine ev_name (by walk_at "lk") ?_; (with_reducible refine ⟨_, _, _, _, rfl, (by walk_at "mem"), (by walk_at "k"), (by with_unfolding_all rfl), ?_⟩); refine evs_cons ?_; refine ev_str ?_; refine evs_cons ?_; refine ev_ifexp ?_; refine bt_compare ?_; refine ev_name (by walk_at "lk") ?_; refine ev_int ?_; (with_reducible refine t2_eq_int ?_); (with_reducible refine ⟨_, rfl, ?_⟩); refine if_t (by first | with_reducible rfl | with_reducible assumption | rfl) ?_; refine ev_tuple ?_; refine evs_cons ?_; refine ev_name (by walk_at "lk") ?_; refine evs_cons ?_; refine ev_name (by walk_at "lk") ?_; refine evs_cons ?_; refine ev_name (by walk_at "lk") ?_; refine evs_nil ?_; refine ⟨(by walk_at "len"), ?_⟩; refine evs_nil ?_)
      refine clc_pre (.pick .head (.pick .head (.pick .head (.pick .head .refl)))) (c_add_cell (kd := .mux) (l := [2, 5, 8]) (cs := (([] ++ [Cel.mk .inv 7 [2]]) ++ [Cel.mk .mux 8 [7, 3, 4]])) hK (.inl rfl) (by simp) (by simp) ?_)
      unfold blk
      with_reducible refine ⟨_, (by walk_at "updg"), ?_⟩
      refine ex_cons ?_
      refine ex_assign ?_ (by rfl)
      refine ev_compare ?_
      refine ev_callK (v := .ref 227) (by rfl) (by walk_at "k") (by walk_at "k") (by rfl) ?_
      refine evs_cons ?_
      refine ev_name (by walk_at "lk") ?_
      refine evs_cons ?_
      refine ev_int ?_
      refine evs_nil ?_
      refine c_draw (many := 2) (at_ := at_ + 1 + 1) hK (by walk_at "mem") hl (by (first | lia | omega)) (by walk_at "upd") fun tw htw => ?_
      rcases (show tw = 0 ∨ tw = 1 by (first | lia | omega)) with rfl | rfl
      · (refine ev_int ?_; (with_reducible refine t2_eq_int ?_); (with_reducible refine ⟨_, (by walk_at "updg"), ?_⟩); refine ex_cons ?_; refine ex_expr ?_; refine ev_meth (f := 101) (by rfl) ?_; refine ev_name (by walk_at "lk") ?_; (with_reducible refine ⟨_, _, _, _, rfl, (by walk_at "mem"), (by walk_at "k"), (by with_unfolding_all rfl), ?_⟩); refine evs_cons ?_; refine ev_str ?_; refine evs_cons ?_; refine ev_binop ?_; refine ev_list ?_; refine evs_cons ?_; refine ev_name (by walk_at "lk") ?_; refine evs_nil ?_; refine ⟨(by walk_at "len"), ?_⟩)
        intro L1
        refine ev_ifexp ?_
        refine bt_value ?_
        refine ev_name (by walk_at "lk") ?_
        with_reducible refine tb_bool ?_
        refine if_f (by first | with_reducible rfl | with_reducible assumption | rfl) ?_
        refine ev_list ?_
        refine evs_nil ?_
        refine ⟨(by walk_at "len"), ?_⟩
        intro L2
        skip
        refine t2_add_lists (by walk_at "mem") (by walk_at "mem") (by simp) ?_
        intro L3
        refine evs_nil ?_
        refine clc_pre (.pick (.tail (.tail (.tail (.head)))) (.pick (.tail (.tail (.tail (.head)))) (.pick (.tail (.tail (.tail (.head)))) (.pick (.tail (.tail (.tail (.head)))) .refl)))) (c_add_output (l := ([9] : List Nat).map nV) hK (.head _) (by simp) (by simp) fun O => ?_)
        unfold blk
        refine ex_cons ?_
        refine ex_assign ?_ (by rfl)
        refine ev_dict0 ?_
        intro RD
        with_reducible refine ⟨_, (by walk_at "updg"), ?_⟩
        refine ex_cons ?_
        refine ex_expr ?_
        refine ev_callK (v := .ref 201) (by rfl) (by walk_at "k") (by walk_at "k") (by rfl) ?_
        refine evs_cons ?_
        refine ev_callT (f := "list") (T := "list") (by rfl) (by walk_at "k") (by kernel_rfl) (by decide) ?_ (by rfl)
        refine ev_attr ?_
        refine ev_name (by walk_at "lk") ?_
        refine t1_attr (by walk_at "mem") (HasS.mem (by walk_at "hs")) (by walk_at "k") (by rfl) ?_
        refine cl_list_list (by walk_at "mem") (by walk_at "len") ?_
        intro LC
        refine evs_cons ?_
        refine ev_name (by walk_at "lk") ?_
        refine evs_cons ?_
        refine ev_name (by walk_at "lk") ?_
        refine evs_nil ?_
        refine clc_pre (.pick (.tail .head) (.pick .head .refl)) (c_pass_known (cs := [⟨.inv, 7, [2]⟩, ⟨.mux, 8, [7, 3, 4]⟩, ⟨.mux, 9, [2, 5, 8]⟩]) (outs := [9]) (w := 5) (na := ⟨a.x, a.dx, a.li, a.lo, a.lc, I, O⟩) (nm := "t") (inm := "i") (onm := "o") (cnt := 10) hK ⟨?_, ?_, ?_, ?_, ?_, ?_⟩ (by (first | lia | omega)) (by simp) (by simp) (wf3 (by decide) (by decide) (by decide)) fun ord hord => ?_)
        case refine_1 => exact .tail _ (.head _)
        case refine_2 => exact .tail _ (.tail _ (.head _))
        case refine_3 => exact .tail _ (.tail _ (.tail _ (.tail _ (.tail _ (.tail _ (.tail _ (.tail _ (.head _))))))))
        case refine_4 => exact .tail _ (.tail _ (.tail _ (.head _)))
        case refine_5 => exact .head _
        case refine_6 => exact .tail _ (.tail _ (.tail _ (.tail _ (.head _))))
        have ho : ord = [0, 1, 2] := topo_chain hord (fun i hi => by rcases (show i = 0 ∨ i = 1 by simp at hi; (first | lia | omega)) with rfl | rfl <;> decide)
        subst ho
        rw [show (pkRun [⟨.inv, 7, [2]⟩, ⟨.mux, 8, [7, 3, 4]⟩, ⟨.mux, 9, [2, 5, 8]⟩] [9] [0, 1, 2]).R = [(8, 3)] by decide]
        refine ex_cons ?_
        refine ex_if ?_
        refine bt_or2 ?_
        refine bt_compare ?_
        refine ev_name (by walk_at "lk") ?_
        refine ev_int ?_
        with_reducible refine t2_eq_int ?_
        with_reducible refine ⟨_, rfl, ?_⟩
        refine if_f (by first | with_reducible rfl | with_reducible assumption | rfl) ?_
        refine bt_value ?_
        refine ev_name (by walk_at "lk") ?_
        with_reducible refine tb_bool ?_
        refine if_f (by first | with_reducible rfl | with_reducible assumption | rfl) ?_
        refine ex_nil ?_
        refine ex_cons ?_
        refine ex_assign ?_ (by rfl)
        refine ev_ifexp ?_
        refine bt_compare ?_
        refine ev_name (by walk_at "lk") ?_
        refine ev_int ?_
        with_reducible refine t2_eq_int ?_
        with_reducible refine ⟨_, rfl, ?_⟩
        refine if_f (by first | with_reducible rfl | with_reducible assumption | rfl) ?_
        refine ev_binop ?_
        refine ev_int ?_
        refine ev_name (by walk_at "lk") ?_
        with_reducible refine t2_sub ?_
        with_reducible refine ⟨_, (by walk_at "updg"), ?_⟩
        refine ex_one ?_
        refine ex_return ?_
        refine ev_compare ?_
        refine ev_name (by walk_at "lk") ?_
        refine ev_dict (by rfl) (by rfl) (by simp) (by decide) ?_
        refine evp_cons ?_
        refine ev_name (by walk_at "lk") ?_
        refine ev_ifexp ?_
        refine bt_compare ?_
        refine ev_name (by walk_at "lk") ?_
        refine ev_int ?_
        with_reducible refine t2_eq_int ?_
        with_reducible refine ⟨_, rfl, ?_⟩
        refine if_f (by first | with_reducible rfl | with_reducible assumption | rfl) ?_
        refine ev_name (by walk_at "lk") ?_
        refine evp_nil ?_
        refine ⟨[((8 : Int), nV 3)], rfl, List.nodup_cons.mpr ⟨by simp, .nil⟩, fun E0 => ?_⟩
        refine t2_eq_dicts (l := [(8, 3)]) (.tail _ (.head _)) (.head _) ?_
        exact ⟨_, .sub (List.nil_sublist _), h⟩
      · (refine ev_int ?_; (with_reducible refine t2_eq_int ?_); (with_reducible refine ⟨_, (by walk_at "updg"), ?_⟩); refine ex_cons ?_; refine ex_expr ?_; refine ev_meth (f := 101) (by rfl) ?_; refine ev_name (by walk_at "lk") ?_; (with_reducible refine ⟨_, _, _, _, rfl, (by walk_at "mem"), (by walk_at "k"), (by with_unfolding_all rfl), ?_⟩); refine evs_cons ?_; refine ev_str ?_; refine evs_cons ?_; refine ev_binop ?_; refine ev_list ?_; refine evs_cons ?_; refine ev_name (by walk_at "lk") ?_; refine evs_nil ?_; refine ⟨(by walk_at "len"), ?_⟩)
        intro L1
        refine ev_ifexp ?_
        refine bt_value ?_
        refine ev_name (by walk_at "lk") ?_
        with_reducible refine tb_bool ?_
        refine if_t (by first | with_reducible rfl | with_reducible assumption | rfl) ?_
        refine ev_list ?_
        refine evs_cons ?_
        refine ev_name (by walk_at "lk") ?_
        refine evs_nil ?_
        refine ⟨(by walk_at "len"), ?_⟩
        intro L2
        skip
        refine t2_add_lists (by walk_at "mem") (by walk_at "mem") (by simp) ?_
        intro L3
        refine evs_nil ?_
        refine clc_pre (.pick (.tail (.tail (.tail (.head)))) (.pick (.tail (.tail (.tail (.head)))) (.pick (.tail (.tail (.tail (.head)))) (.pick (.tail (.tail (.tail (.head)))) .refl)))) (c_add_output (l := ([9, 8] : List Nat).map nV) hK (.head _) (by simp) (by simp) fun O => ?_)
        unfold blk
        refine ex_cons ?_
        refine ex_assign ?_ (by rfl)
        refine ev_dict0 ?_
        intro RD
        with_reducible refine ⟨_, (by walk_at "updg"), ?_⟩
        refine ex_cons ?_
        refine ex_expr ?_
        refine ev_callK (v := .ref 201) (by rfl) (by walk_at "k") (by walk_at "k") (by rfl) ?_
        refine evs_cons ?_
        refine ev_callT (f := "list") (T := "list") (by rfl) (by walk_at "k") (by kernel_rfl) (by decide) ?_ (by rfl)
        refine ev_attr ?_
        refine ev_name (by walk_at "lk") ?_
        refine t1_attr (by walk_at "mem") (HasS.mem (by walk_at "hs")) (by walk_at "k") (by rfl) ?_
        refine cl_list_list (by walk_at "mem") (by walk_at "len") ?_
        intro LC
        refine evs_cons ?_
        refine ev_name (by walk_at "lk") ?_
        refine evs_cons ?_
        refine ev_name (by walk_at "lk") ?_
        refine evs_nil ?_
        refine clc_pre (.pick (.tail .head) (.pick .head .refl)) (c_pass_known (cs := [⟨.inv, 7, [2]⟩, ⟨.mux, 8, [7, 3, 4]⟩, ⟨.mux, 9, [2, 5, 8]⟩]) (outs := [9, 8]) (w := 5) (na := ⟨a.x, a.dx, a.li, a.lo, a.lc, I, O⟩) (nm := "t") (inm := "i") (onm := "o") (cnt := 10) hK ⟨?_, ?_, ?_, ?_, ?_, ?_⟩ (by (first | lia | omega)) (by simp) (by simp) (wf3 (by decide) (by decide) (by decide)) fun ord hord => ?_)
        case refine_1 => exact .tail _ (.head _)
        case refine_2 => exact .tail _ (.tail _ (.head _))
        case refine_3 => exact .tail _ (.tail _ (.tail _ (.tail _ (.tail _ (.tail _ (.tail _ (.tail _ (.head _))))))))
        case refine_4 => exact .tail _ (.tail _ (.tail _ (.head _)))
        case refine_5 => exact .head _
        case refine_6 => exact .tail _ (.tail _ (.tail _ (.tail _ (.head _))))
        have ho : ord = [0, 1, 2] := topo_chain hord (fun i hi => by rcases (show i = 0 ∨ i = 1 by simp at hi; (first | lia | omega)) with rfl | rfl <;> decide)
        subst ho
        rw [show (pkRun [⟨.inv, 7, [2]⟩, ⟨.mux, 8, [7, 3, 4]⟩, ⟨.mux, 9, [2, 5, 8]⟩] [9, 8] [0, 1, 2]).R = [] by decide]
        refine ex_cons ?_
        refine ex_if ?_
        refine bt_or2 ?_
        refine bt_compare ?_
        refine ev_name (by walk_at "lk") ?_
        refine ev_int ?_
        with_reducible refine t2_eq_int ?_
        with_reducible refine ⟨_, rfl, ?_⟩
        refine if_f (by first | with_reducible rfl | with_reducible assumption | rfl) ?_
        refine bt_value ?_
        refine ev_name (by walk_at "lk") ?_
        with_reducible refine tb_bool ?_
        refine if_t (by first | with_reducible rfl | with_reducible assumption | rfl) ?_
        refine ex_one ?_
        refine ex_return ?_
        refine ev_compare ?_
        refine ev_name (by walk_at "lk") ?_
        refine ev_dict0 ?_
        intro E0
        refine t2_eq_dicts (l := []) (.tail _ (.head _)) (.head _) ?_
        exact ⟨_, .sub (List.nil_sublist _), h⟩
  · ((with_reducible refine ⟨_, (by walk_at "updg"), ?_⟩); refine ex_cons ?_; refine ex_assign ?_ (by rfl); refine ev_name (by walk_at "lk") ?_; (with_reducible refine ⟨_, (by walk_at "updg"), ?_⟩); refine ex_cons ?_; refine ex_if ?_; refine bt_compare ?_; refine ev_name (by walk_at "lk") ?_; refine ev_int ?_; (with_reducible refine t2_eq_int ?_); (with_reducible refine ⟨_, rfl, ?_⟩); refine if_f (by first | with_reducible rfl | with_reducible assumption | rfl) ?_; refine ex_nil ?_; refine ex_cons ?_; refine ex_if ?_; refine bt_compare ?_; refine ev_name (by walk_at "lk") ?_; refine ev_int ?_; (with_reducible refine t2_eq_int ?_); (with_reducible refine ⟨_, rfl, ?_⟩); refine if_t (by first | with_reducible rfl | with_reducible assumption | rfl) ?_; refine ex_one ?_; refine ex_assign ?_ (by rfl); refine ev_name (by walk_at "lk") ?_; (with_reducible refine ⟨_, (by walk_at "updg"), ?_⟩); refine ex_cons ?_; refine ex_assign ?_ (by rfl); refine ev_meth (f := 109) (by rfl) ?_; refine ev_name (by walk_at "lk") ?_; (with_reducible refine ⟨_, _, _, _, rfl, (by walk_at "mem"), (by walk_at "k"), (by with_unfolding_all rfl), ?_⟩); refine evs_cons ?_; refine ev_str ?_; refine evs_cons ?_; refine ev_tuple ?_; refine evs_cons ?_; refine ev_name (by walk_at "lk") ?_; refine evs_cons ?_; refine ev_name (by walk_at "lk") ?_; refine evs_cons ?_; refine ev_name (by walk_at "lk") ?_; refine evs_nil ?_; refine ⟨(by walk_at "len"), ?_⟩; refine evs_nil ?_)
    refine clc_pre (.pick (.tail (.tail (.head))) (.pick (.tail (.tail (.head))) (.pick (.tail (.tail (.head))) (.pick (.tail (.tail (.head))) .refl)))) (c_add_cell (kd := .mux) (l := [6, 3, 4]) (cs := []) hK (.inl rfl) (by simp) (by simp) ?_)
    unfold blk
    with_reducible refine ⟨_, (by walk_at "updg"), ?_⟩
    refine ex_cons ?_
    refine ex_assign ?_ (by rfl)
    refine ev_callK (v := .ref 227) (by rfl) (by walk_at "k") (by walk_at "k") (by rfl) ?_
    refine evs_cons ?_
    refine ev_name (by walk_at "lk") ?_
    refine evs_cons ?_
    refine ev_int ?_
    refine evs_nil ?_
    refine c_draw (many := 2) (at_ := at_ + 1) hK (by walk_at "mem") hl (by (first | lia | omega)) (by walk_at "upd") fun high hhigh => ?_
    rcases (show high = 0 ∨ high = 1 by (first | lia | omega)) with rfl | rfl
    · ((with_reducible refine ⟨_, (by walk_at "updg"), ?_⟩); refine ex_cons ?_; refine ex_assign ?_ (by rfl); refine ev_meth (f := 109) (by rfl) ?_; refine ev_name (by walk_at "lk") ?_; (with_reducible refine ⟨_, _, _, _, rfl, (by walk_at "mem"), (by walk_at "k"), (by with_unfolding_all rfl), ?_⟩); refine evs_cons ?_; refine ev_str ?_; refine evs_cons ?_; refine ev_ifexp ?_; refine bt_compare ?_; refine ev_name (by walk_at "lk") ?_; refine ev_int ?_; (with_reducible refine t2_eq_int ?_); (with_reducible refine ⟨_, rfl, ?_⟩); refine if_f (by first | with_reducible rfl | with_reducible assumption | rfl) ?_; refine ev_tuple ?_; refine evs_cons ?_; refine ev_name (by walk_at "lk") ?_; refine evs_cons ?_; refine ev_name (by walk_at "lk") ?_; refine evs_cons ?_; refine ev_name (by walk_at "lk") ?_; refine evs_nil ?_; refine ⟨(by walk_at "len"), ?_⟩; refine evs_nil ?_)
      refine clc_pre (.pick .head (.pick .head (.pick .head (.pick .head .refl)))) (c_add_cell (kd := .mux) (l := [2, 7, 5]) (cs := ([] ++ [Cel.mk .mux 7 [6, 3, 4]])) hK (.inl rfl) (by simp) (by simp) ?_)
      unfold blk
      with_reducible refine ⟨_, (by walk_at "updg"), ?_⟩
      refine ex_cons ?_
      refine ex_assign ?_ (by rfl)
      refine ev_compare ?_
      refine ev_callK (v := .ref 227) (by rfl) (by walk_at "k") (by walk_at "k") (by rfl) ?_
      refine evs_cons ?_
      refine ev_name (by walk_at "lk") ?_
      refine evs_cons ?_
      refine ev_int ?_
      refine evs_nil ?_
      refine c_draw (many := 2) (at_ := at_ + 1 + 1) hK (by walk_at "mem") hl (by (first | lia | omega)) (by walk_at "upd") fun tw htw => ?_
      rcases (show tw = 0 ∨ tw = 1 by (first | lia | omega)) with rfl | rfl
      · (refine ev_int ?_; (with_reducible refine t2_eq_int ?_); (with_reducible refine ⟨_, (by walk_at "updg"), ?_⟩); refine ex_cons ?_; refine ex_expr ?_; refine ev_meth (f := 101) (by rfl) ?_; refine ev_name (by walk_at "lk") ?_; (with_reducible refine ⟨_, _, _, _, rfl, (by walk_at "mem"), (by walk_at "k"), (by with_unfolding_all rfl), ?_⟩); refine evs_cons ?_; refine ev_str ?_; refine evs_cons ?_; refine ev_binop ?_; refine ev_list ?_; refine evs_cons ?_; refine ev_name (by walk_at "lk") ?_; refine evs_nil ?_; refine ⟨(by walk_at "len"), ?_⟩)
        intro L1
        refine ev_ifexp ?_
        refine bt_value ?_
        refine ev_name (by walk_at "lk") ?_
        with_reducible refine tb_bool ?_
        refine if_f (by first | with_reducible rfl | with_reducible assumption | rfl) ?_
        refine ev_list ?_
        refine evs_nil ?_
        refine ⟨(by walk_at "len"), ?_⟩
        intro L2
        skip
        refine t2_add_lists (by walk_at "mem") (by walk_at "mem") (by simp) ?_
        intro L3
        refine evs_nil ?_
        refine clc_pre (.pick (.tail (.tail (.tail (.head)))) (.pick (.tail (.tail (.tail (.head)))) (.pick (.tail (.tail (.tail (.head)))) (.pick (.tail (.tail (.tail (.head)))) .refl)))) (c_add_output (l := ([8] : List Nat).map nV) hK (.head _) (by simp) (by simp) fun O => ?_)
        unfold blk
        refine ex_cons ?_
        refine ex_assign ?_ (by rfl)
        refine ev_dict0 ?_
        intro RD
        with_reducible refine ⟨_, (by walk_at "updg"), ?_⟩
        refine ex_cons ?_
        refine ex_expr ?_
        refine ev_callK (v := .ref 201) (by rfl) (by walk_at "k") (by walk_at "k") (by rfl) ?_
        refine evs_cons ?_
        refine ev_callT (f := "list") (T := "list") (by rfl) (by walk_at "k") (by kernel_rfl) (by decide) ?_ (by rfl)
        refine ev_attr ?_
        refine ev_name (by walk_at "lk") ?_
        refine t1_attr (by walk_at "mem") (HasS.mem (by walk_at "hs")) (by walk_at "k") (by rfl) ?_
        refine cl_list_list (by walk_at "mem") (by walk_at "len") ?_
        intro LC
        refine evs_cons ?_
        refine ev_name (by walk_at "lk") ?_
        refine evs_cons ?_
        refine ev_name (by walk_at "lk") ?_
        refine evs_nil ?_
        refine clc_pre (.pick (.tail .head) (.pick .head .refl)) (c_pass_known (cs := [⟨.mux, 7, [6, 3, 4]⟩, ⟨.mux, 8, [2, 7, 5]⟩]) (outs := [8]) (w := 5) (na := ⟨a.x, a.dx, a.li, a.lo, a.lc, I, O⟩) (nm := "t") (inm := "i") (onm := "o") (cnt := 9) hK ⟨?_, ?_, ?_, ?_, ?_, ?_⟩ (by (first | lia | omega)) (by simp) (by simp) (wf2 (by decide) (by decide)) fun ord hord => ?_)
        case refine_1 => exact .tail _ (.head _)
        case refine_2 => exact .tail _ (.tail _ (.head _))
        case refine_3 => exact .tail _ (.tail _ (.tail _ (.tail _ (.tail _ (.tail _ (.tail _ (.tail _ (.head _))))))))
        case refine_4 => exact .tail _ (.tail _ (.tail _ (.head _)))
        case refine_5 => exact .head _
        case refine_6 => exact .tail _ (.tail _ (.tail _ (.tail _ (.head _))))
        have ho : ord = [0, 1] := topo_chain hord (fun i hi => by rcases (show i = 0 by simp at hi; (first | lia | omega)) with rfl <;> decide)
        subst ho
        rw [show (pkRun [⟨.mux, 7, [6, 3, 4]⟩, ⟨.mux, 8, [2, 7, 5]⟩] [8] [0, 1]).R = [] by decide]
        refine ex_cons ?_
        refine ex_if ?_
        refine bt_or2 ?_
        refine bt_compare ?_
        refine ev_name (by walk_at "lk") ?_
        refine ev_int ?_
        with_reducible refine t2_eq_int ?_
        with_reducible refine ⟨_, rfl, ?_⟩
        refine if_t (by first | with_reducible rfl | with_reducible assumption | rfl) ?_
        refine if_t (by first | with_reducible rfl | with_reducible assumption | rfl) ?_
        refine ex_one ?_
        refine ex_return ?_
        refine ev_compare ?_
        refine ev_name (by walk_at "lk") ?_
        refine ev_dict0 ?_
        intro E0
        refine t2_eq_dicts (l := []) (.tail _ (.head _)) (.head _) ?_
        exact ⟨_, .sub (List.nil_sublist _), h⟩
      · (refine ev_int ?_; (with_reducible refine t2_eq_int ?_); (with_reducible refine ⟨_, (by walk_at "updg"), ?_⟩); refine ex_cons ?_; refine ex_expr ?_; refine ev_meth (f := 101) (by rfl) ?_; refine ev_name (by walk_at "lk") ?_; (with_reducible refine ⟨_, _, _, _, rfl, (by walk_at "mem"), (by walk_at "k"), (by with_unfolding_all rfl), ?_⟩); refine evs_cons ?_; refine ev_str ?_; refine evs_cons ?_; refine ev_binop ?_; refine ev_list ?_; refine evs_cons ?_; refine ev_name (by walk_at "lk") ?_; refine evs_nil ?_; refine ⟨(by walk_at "len"), ?_⟩)
        intro L1
        refine ev_ifexp ?_
        refine bt_value ?_
        refine ev_name (by walk_at "lk") ?_
        with_reducible refine tb_bool ?_
        refine if_t (by first | with_reducible rfl | with_reducible assumption | rfl) ?_
        refine ev_list ?_
        refine evs_cons ?_
        refine ev_name (by walk_at "lk") ?_
        refine evs_nil ?_
        refine ⟨(by walk_at "len"), ?_⟩
        intro L2
        skip
        refine t2_add_lists (by walk_at "mem") (by walk_at "mem") (by simp) ?_
        intro L3
        refine evs_nil ?_
        refine clc_pre (.pick (.tail (.tail (.tail (.head)))) (.pick (.tail (.tail (.tail (.head)))) (.pick (.tail (.tail (.tail (.head)))) (.pick (.tail (.tail (.tail (.head)))) .refl)))) (c_add_output (l := ([8, 7] : List Nat).map nV) hK (.head _) (by simp) (by simp) fun O => ?_)
        unfold blk
        refine ex_cons ?_
        refine ex_assign ?_ (by rfl)
        refine ev_dict0 ?_
        intro RD
        with_reducible refine ⟨_, (by walk_at "updg"), ?_⟩
        refine ex_cons ?_
        refine ex_expr ?_
        refine ev_callK (v := .ref 201) (by rfl) (by walk_at "k") (by walk_at "k") (by rfl) ?_
        refine evs_cons ?_
        refine ev_callT (f := "list") (T := "list") (by rfl) (by walk_at "k") (by kernel_rfl) (by decide) ?_ (by rfl)
        refine ev_attr ?_
        refine ev_name (by walk_at "lk") ?_
        refine t1_attr (by walk_at "mem") (HasS.mem (by walk_at "hs")) (by walk_at "k") (by rfl) ?_
        refine cl_list_list (by walk_at "mem") (by walk_at "len") ?_
        intro LC
        refine evs_cons ?_
        refine ev_name (by walk_at "lk") ?_
        refine evs_cons ?_
        refine ev_name (by walk_at "lk") ?_
        refine evs_nil ?_
        refine clc_pre (.pick (.tail .head) (.pick .head .refl)) (c_pass_known (cs := [⟨.mux, 7, [6, 3, 4]⟩, ⟨.mux, 8, [2, 7, 5]⟩]) (outs := [8, 7]) (w := 5) (na := ⟨a.x, a.dx, a.li, a.lo, a.lc, I, O⟩) (nm := "t") (inm := "i") (onm := "o") (cnt := 9) hK ⟨?_, ?_, ?_, ?_, ?_, ?_⟩ (by (first | lia | omega)) (by simp) (by simp) (wf2 (by decide) (by decide)) fun ord hord => ?_)
        case refine_1 => exact .tail _ (.head _)
        case refine_2 => exact .tail _ (.tail _ (.head _))
        case refine_3 => exact .tail _ (.tail _ (.tail _ (.tail _ (.tail _ (.tail _ (.tail _ (.tail _ (.head _))))))))
        case refine_4 => exact .tail _ (.tail _ (.tail _ (.head _)))
        case refine_5 => exact .head _
        case refine_6 => exact .tail _ (.tail _ (.tail _ (.tail _ (.head _))))
        have ho : ord = [0, 1] := topo_chain hord (fun i hi => by rcases (show i = 0 by simp at hi; (first | lia | omega)) with rfl <;> decide)
        subst ho
        rw [show (pkRun [⟨.mux, 7, [6, 3, 4]⟩, ⟨.mux, 8, [2, 7, 5]⟩] [8, 7] [0, 1]).R = [] by decide]
        refine ex_cons ?_
        refine ex_if ?_
        refine bt_or2 ?_
        refine bt_compare ?_
        refine ev_name (by walk_at "lk") ?_
        refine ev_int ?_
        with_reducible refine t2_eq_int ?_
        with_reducible refine ⟨_, rfl, ?_⟩
        refine if_t (by first | with_reducible rfl | with_reducible assumption | rfl) ?_
        refine if_t (by first | with_reducible rfl | with_reducible assumption | rfl) ?_
        refine ex_one ?_
        refine ex_return ?_
        refine ev_compare ?_
        refine ev_name (by walk_at "lk") ?_
        refine ev_dict0 ?_
        intro E0
        refine t2_eq_dicts (l := []) (.tail _ (.head _)) (.head _) ?_
        exact ⟨_, .sub (List.nil_sublist _), h⟩
    · ((with_reducible refine ⟨_, (by walk_at "updg"), ?_⟩); refine ex_cons ?_; refine ex_assign ?_ (by rfl); refine ev_meth (f := 109) (by rfl) ?_; refine ev_name (by walk_at "lk") ?_; (with_reducible refine ⟨_, _, _, _, rfl, (by walk_at "mem"), (by walk_at "k"), (by with_unfolding_all rfl), ?_⟩); refine evs_cons ?_; refine ev_str ?_; refine evs_cons ?_; refine ev_ifexp ?_; refine bt_compare ?_; refine ev_name (by walk_at "lk") ?_; refine ev_int ?_; (with_reducible refine t2_eq_int ?_); (with_reducible refine ⟨_, rfl, ?_⟩); refine if_t (by first | with_reducible rfl | with_reducible assumption | rfl) ?_; refine ev_tuple ?_; refine evs_cons ?_; refine ev_name (by walk_at "lk") ?_; refine evs_cons ?_; refine ev_name (by walk_at "lk") ?_; refine evs_cons ?_; refine ev_name (by walk_at "lk") ?_; refine evs_nil ?_; refine ⟨(by walk_at "len"), ?_⟩; refine evs_nil ?_)
      refine clc_pre (.pick .head (.pick .head (.pick .head (.pick .head .refl)))) (c_add_cell (kd := .mux) (l := [2, 5, 7]) (cs := ([] ++ [Cel.mk .mux 7 [6, 3, 4]])) hK (.inl rfl) (by simp) (by simp) ?_)
      unfold blk
      with_reducible refine ⟨_, (by walk_at "updg"), ?_⟩
      refine ex_cons ?_
      refine ex_assign ?_ (by rfl)
      refine ev_compare ?_
      refine ev_callK (v := .ref 227) (by rfl) (by walk_at "k") (by walk_at "k") (by rfl) ?_
      refine evs_cons ?_
      refine ev_name (by walk_at "lk") ?_
      refine evs_cons ?_
      refine ev_int ?_
      refine evs_nil ?_
      refine c_draw (many := 2) (at_ := at_ + 1 + 1) hK (by walk_at "mem") hl (by (first | lia | omega)) (by walk_at "upd") fun tw htw => ?_
      rcases (show tw = 0 ∨ tw = 1 by (first | lia | omega)) with rfl | rfl
      · (refine ev_int ?_; (with_reducible refine t2_eq_int ?_); (with_reducible refine ⟨_, (by walk_at "updg"), ?_⟩); refine ex_cons ?_; refine ex_expr ?_; refine ev_meth (f := 101) (by rfl) ?_; refine ev_name (by walk_at "lk") ?_; (with_reducible refine ⟨_, _, _, _, rfl, (by walk_at "mem"), (by walk_at "k"), (by with_unfolding_all rfl), ?_⟩); refine evs_cons ?_; refine ev_str ?_; refine evs_cons ?_; refine ev_binop ?_; refine ev_list ?_; refine evs_cons ?_; refine ev_name (by walk_at "lk") ?_; refine evs_nil ?_; refine ⟨(by walk_at "len"), ?_⟩)
        intro L1
        refine ev_ifexp ?_
        refine bt_value ?_
        refine ev_name (by walk_at "lk") ?_
        with_reducible refine tb_bool ?_
        refine if_f (by first | with_reducible rfl | with_reducible assumption | rfl) ?_
        refine ev_list ?_
        refine evs_nil ?_
        refine ⟨(by walk_at "len"), ?_⟩
        intro L2
        skip
        refine t2_add_lists (by walk_at "mem") (by walk_at "mem") (by simp) ?_
        intro L3
        refine evs_nil ?_
        refine clc_pre (.pick (.tail (.tail (.tail (.head)))) (.pick (.tail (.tail (.tail (.head)))) (.pick (.tail (.tail (.tail (.head)))) (.pick (.tail (.tail (.tail (.head)))) .refl)))) (c_add_output (l := ([8] : List Nat).map nV) hK (.head _) (by simp) (by simp) fun O => ?_)
        unfold blk
        refine ex_cons ?_
        refine ex_assign ?_ (by rfl)
        refine ev_dict0 ?_
        intro RD
        with_reducible refine ⟨_, (by walk_at "updg"), ?_⟩
        refine ex_cons ?_
        refine ex_expr ?_
        refine ev_callK (v := .ref 201) (by rfl) (by walk_at "k") (by walk_at "k") (by rfl) ?_
        refine evs_cons ?_
        refine ev_callT (f := "list") (T := "list") (by rfl) (by walk_at "k") (by kernel_rfl) (by decide) ?_ (by rfl)
        refine ev_attr ?_
        refine ev_name (by walk_at "lk") ?_
        refine t1_attr (by walk_at "mem") (HasS.mem (by walk_at "hs")) (by walk_at "k") (by rfl) ?_
        refine cl_list_list (by walk_at "mem") (by walk_at "len") ?_
        intro LC
        refine evs_cons ?_
        refine ev_name (by walk_at "lk") ?_
        refine evs_cons ?_
        refine ev_name (by walk_at "lk") ?_
        refine evs_nil ?_
        refine clc_pre (.pick (.tail .head) (.pick .head .refl)) (c_pass_known (cs := [⟨.mux, 7, [6, 3, 4]⟩, ⟨.mux, 8, [2, 5, 7]⟩]) (outs := [8]) (w := 5) (na := ⟨a.x, a.dx, a.li, a.lo, a.lc, I, O⟩) (nm := "t") (inm := "i") (onm := "o") (cnt := 9) hK ⟨?_, ?_, ?_, ?_, ?_, ?_⟩ (by (first | lia | omega)) (by simp) (by simp) (wf2 (by decide) (by decide)) fun ord hord => ?_)
        case refine_1 => exact .tail _ (.head _)
        case refine_2 => exact .tail _ (.tail _ (.head _))
        case refine_3 => exact .tail _ (.tail _ (.tail _ (.tail _ (.tail _ (.tail _ (.tail _ (.tail _ (.head _))))))))
        case refine_4 => exact .tail _ (.tail _ (.tail _ (.head _)))
        case refine_5 => exact .head _
        case refine_6 => exact .tail _ (.tail _ (.tail _ (.tail _ (.head _))))
        have ho : ord = [0, 1] := topo_chain hord (fun i hi => by rcases (show i = 0 by simp at hi; (first | lia | omega)) with rfl <;> decide)
        subst ho
        rw [show (pkRun [⟨.mux, 7, [6, 3, 4]⟩, ⟨.mux, 8, [2, 5, 7]⟩] [8] [0, 1]).R = [] by decide]
        refine ex_cons ?_
        refine ex_if ?_
        refine bt_or2 ?_
        refine bt_compare ?_
        refine ev_name (by walk_at "lk") ?_
        refine ev_int ?_
        with_reducible refine t2_eq_int ?_
        with_reducible refine ⟨_, rfl, ?_⟩
        refine if_t (by first | with_reducible rfl | with_reducible assumption | rfl) ?_
        refine if_t (by first | with_reducible rfl | with_reducible assumption | rfl) ?_
        refine ex_one ?_
        refine ex_return ?_
        refine ev_compare ?_
        refine ev_name (by walk_at "lk") ?_
        refine ev_dict0 ?_
        intro E0
        refine t2_eq_dicts (l := []) (.tail _ (.head _)) (.head _) ?_
        exact ⟨_, .sub (List.nil_sublist _), h⟩
      · (refine ev_int ?_; (with_reducible refine t2_eq_int ?_); (with_reducible refine ⟨_, (by walk_at "updg"), ?_⟩); refine ex_cons ?_; refine ex_expr ?_; refine ev_meth (f := 101) (by rfl) ?_; refine ev_name (by walk_at "lk") ?_; (with_reducible refine ⟨_, _, _, _, rfl, (by walk_at "mem"), (by walk_at "k"), (by with_unfolding_all rfl), ?_⟩); refine evs_cons ?_; refine ev_str ?_; refine evs_cons ?_; refine ev_binop ?_; refine ev_list ?_; refine evs_cons ?_; refine ev_name (by walk_at "lk") ?_; refine evs_nil ?_; refine ⟨(by walk_at "len"), ?_⟩)
        intro L1
        refine ev_ifexp ?_
        refine bt_value ?_
        refine ev_name (by walk_at "lk") ?_
        with_reducible refine tb_bool ?_
        refine if_t (by first | with_reducible rfl | with_reducible assumption | rfl) ?_
        refine ev_list ?_
        refine evs_cons ?_
        refine ev_name (by walk_at "lk") ?_
        refine evs_nil ?_
        refine ⟨(by walk_at "len"), ?_⟩
        intro L2
        skip
        refine t2_add_lists (by walk_at "mem") (by walk_at "mem") (by simp) ?_
        intro L3
        refine evs_nil ?_
        refine clc_pre (.pick (.tail (.tail (.tail (.head)))) (.pick (.tail (.tail (.tail (.head)))) (.pick (.tail (.tail (.tail (.head)))) (.pick (.tail (.tail (.tail (.head)))) .refl)))) (c_add_output (l := ([8, 7] : List Nat).map nV) hK (.head _) (by simp) (by simp) fun O => ?_)
        unfold blk
        refine ex_cons ?_
        refine ex_assign ?_ (by rfl)
        refine ev_dict0 ?_
        intro RD
        with_reducible refine ⟨_, (by walk_at "updg"), ?_⟩
        refine ex_cons ?_
        refine ex_expr ?_
        refine ev_callK (v := .ref 201) (by rfl) (by walk_at "k") (by walk_at "k") (by rfl) ?_
        refine evs_cons ?_
        refine ev_callT (f := "list") (T := "list") (by rfl) (by walk_at "k") (by kernel_rfl) (by decide) ?_ (by rfl)
        refine ev_attr ?_
        refine ev_name (by walk_at "lk") ?_
        refine t1_attr (by walk_at "mem") (HasS.mem (by walk_at "hs")) (by walk_at "k") (by rfl) ?_
        refine cl_list_list (by walk_at "mem") (by walk_at "len") ?_
        intro LC
        refine evs_cons ?_
        refine ev_name (by walk_at "lk") ?_
        refine evs_cons ?_
        refine ev_name (by walk_at "lk") ?_
        refine evs_nil ?_
        refine clc_pre (.pick (.tail .head) (.pick .head .refl)) (c_pass_known (cs := [⟨.mux, 7, [6, 3, 4]⟩, ⟨.mux, 8, [2, 5, 7]⟩]) (outs := [8, 7]) (w := 5) (na := ⟨a.x, a.dx, a.li, a.lo, a.lc, I, O⟩) (nm := "t") (inm := "i") (onm := "o") (cnt := 9) hK ⟨?_, ?_, ?_, ?_, ?_, ?_⟩ (by (first | lia | omega)) (by simp) (by simp) (wf2 (by decide) (by decide)) fun ord hord => ?_)
        case refine_1 => exact .tail _ (.head _)
        case refine_2 => exact .tail _ (.tail _ (.head _))
        case refine_3 => exact .tail _ (.tail _ (.tail _ (.tail _ (.tail _ (.tail _ (.tail _ (.tail _ (.head _))))))))
        case refine_4 => exact .tail _ (.tail _ (.tail _ (.head _)))
        case refine_5 => exact .head _
        case refine_6 => exact .tail _ (.tail _ (.tail _ (.tail _ (.head _))))
        have ho : ord = [0, 1] := topo_chain hord (fun i hi => by rcases (show i = 0 by simp at hi; (first | lia | omega)) with rfl <;> decide)
        subst ho
        rw [show (pkRun [⟨.mux, 7, [6, 3, 4]⟩, ⟨.mux, 8, [2, 5, 7]⟩] [8, 7] [0, 1]).R = [] by decide]
        refine ex_cons ?_
        refine ex_if ?_
        refine bt_or2 ?_
        refine bt_compare ?_
        refine ev_name (by walk_at "lk") ?_
        refine ev_int ?_
        with_reducible refine t2_eq_int ?_
        with_reducible refine ⟨_, rfl, ?_⟩
        refine if_t (by first | with_reducible rfl | with_reducible assumption | rfl) ?_
        refine if_t (by first | with_reducible rfl | with_reducible assumption | rfl) ?_
        refine ex_one ?_
        refine ex_return ?_
        refine ev_compare ?_
        refine ev_name (by walk_at "lk") ?_
        refine ev_dict0 ?_
        intro E0
        refine t2_eq_dicts (l := []) (.tail _ (.head _)) (.head _) ?_
        exact ⟨_, .sub (List.nil_sublist _), h⟩
local macro_rules | `(tactic| k_qdec) => `(tactic| decide +kernel)
theorem enter {prog : Program} {w : World} {K : Frag} {s₀ : Shared} {mg mb : Str → Option Value} (X : K.In s₀.heap) (hg : s₀.heap.Ns mainGlobals mg) (hb : s₀.heap.Ns builtinsNs mb) (hbi : ∀ x : Str, x ≠ "__name__" → mb x = bootBuiltins x) (lim : s₀.heap.NoLimit)
    {k : Nat} {sc : Scope} {body : List Stmt} {Γ : Gm} {Q : Fl → Gm → Ld → Prop} {env : Env} {A : Around} {s : Shared} {P : Flow → Shared → Prop} {E : Value → Shared → Prop} (he : EnvOK sc env) (hA : OKA k A) (hs : St ⟨prog, w, K, s₀, mg, mb, X, hg, hb, hbi, lim⟩ env Γ [] s) (hq : ∀ f s', XP ⟨prog, w, K, s₀, mg, mb, X, hg, hb, hbi, lim⟩ env [] s Q f s' → P f s')
    (h : ∀ C : Cx, C.K = K → C.w = w → C.s₀ = s₀ → EX C k sc body Γ [] Q) : wpAny (model prog w) A (execs body env) P E s := ne_any (ne_mono (h ⟨prog, w, K, s₀, mg, mb, X, hg, hb, hbi, lim⟩ rfl rfl rfl env A s he hA hs) hq)
theorem dom_last {w : Nat} {cs : List Cel} (W : WF w cs) {n : Nat} (hn : n ∈ List.range' (w + cs.length) 2) : domW w cs n := by
  have hn := List.mem_range'_1.mp hn
  by_cases q : n < 2 + w
  · exact .inl q
  · have hi : n - (2 + w) < cs.length := by (first | lia | omega)
    refine .inr (List.mem_map.mpr ⟨_, List.getElem_mem hi, ?_⟩)
    have := W.outs _ _ (List.getElem?_eq_getElem hi)
    (first | lia | omega)
theorem whole : PySem.Challenge.rw_on0107_01.Holds := Mine.hd (by
  k_go0
  rename_i w s₀ s₁ mg mb G Y fad o pm doc kV ho hg KX X V GL T B TE TW w9 w8 M w7 w6 hcd w5 hs hlay hL1 hr1 hl2 w4 w3 w2 w1 wl hL ra ww r0 hI hr hc1 hc2 K0 hD h₁ F N0
  refine enter (K := hd.heap_1 w.params) (k := 10) (sc := _) (Γ := [("script", some (.ref w2)), ("store", none)]) (Q := fun f _ _ => f = .ret (.bool true)) KX GL.g GL.b GL.builtins GL.nolimit ⟨rfl, rfl, rfl, rfl⟩ (OKA.deeper ⟨rfl, by decide, by decide⟩) ?_ ?_ ?_
  · refine ⟨⟨F.keep, rfl, rfl, rfl, fun p hp => (by cases hp), .nil, fun a ha => (by cases ha), fun a ha => (by cases ha)⟩, ⟨⟨_, F.ns⟩, fun p hp => (by cases hp), fun x hx => ?_, fun x v hx => ?_, noDup_spec (by rfl), .nil⟩, fun a ha hx => (by cases hx), fun a ha => ?_⟩
    · exfalso
      have := mem_of_lookup (show List.lookup x _ = some NameKind.cell from hx)
      simp [envOf] at this
    · rcases List.mem_cons.mp hx with q | q
      · cases q
        exact ⟨.ref w2, .inl ⟨rfl, _, F.ns, rfl⟩, .ref _⟩
      · rcases List.mem_cons.mp q with q | q
        · cases q
        · cases q
    · rcases List.mem_cons.mp ha with q | q
      · rw [q]; exact size_none (Nat.le_refl _)
      · cases q
  · rintro f s' ⟨g, Γ', σ', t, fr, rfl⟩
    cases fr with
    | ret vr =>
      cases vr
      obtain ⟨m, hns⟩ := t.fr.ns
      refine goodW_bool (F := ⟨hns, t.ok.ext, Nat.le_refl _⟩) (t.ok.gens.trans hg) (raisesW_false ?_) ?_ t.ok.os
      · wrow_none_raised
      · kc_post
  · intro C hK1 hw hs0
    have hK : IsK C := by unfold IsK; rw [hK1, hw]
    have hb : C.s₀.heap.IsList w2 w1.toArray := by rw [hs0]; exact hL
    have hlen : w5.length ≤ 1000 := by (first | lia | omega)
    dsimp only
    refine ex_cons ?_
    refine ex_assign ?_ (by rfl)
    refine ev_callK (v := .ref 220) (by rfl) (by walk_at "k") (by walk_at "k") (by rfl) ?_
    refine evs_cons ?_
    refine ev_name (by walk_at "lk") ?_
    refine evs_nil ?_
    refine c_store hK hb hI hlen fun ST R row hrow => ?_
    with_reducible refine ⟨_, (by walk_at "updg"), ?_⟩
    refine ex_one ?_
    refine ex_return ?_
    refine ev_and2 ?_
    refine ev_callK (v := .ref 247) (by rfl) (by walk_at "k") (by walk_at "k") (by rfl) ?_
    refine evs_cons ?_
    refine ev_callK (v := .ref 242) (by rfl) (by walk_at "k") (by walk_at "k") (by rfl) ?_
    refine evs_cons ?_
    refine ev_name (by walk_at "lk") ?_
    refine evs_nil ?_
    refine c_drawn (r := R) (row := row) (at_ := 0) hK (.head _) hrow fun a wd cs at' σn hwd W h1 h9 N => ?_
    refine evs_nil ?_
    refine c_kept hK N (by (first | lia | omega)) (by (first | lia | omega)) W (fun n hn => ?_) (by simp) (fun ord hord => good W (fun n hn => ?_) (by (first | lia | omega)) hord) ?_
    · exact dom_last W hn
    · exact dom_last W hn
    with_reducible refine ⟨_, rfl, ?_⟩
    refine if_t (by first | with_reducible rfl | with_reducible assumption | rfl) ?_
    refine ev_callK (v := .ref 254) (by rfl) (by walk_at "k") (by walk_at "k") (by rfl) ?_
    refine evs_cons ?_
    refine ev_name (by walk_at "lk") ?_
    refine evs_nil ?_
    refine clc_pre (.sub (List.sublist_append_right ..)) (c_two (r := R) (row := row) hK (.head _) hrow ?_)
    rfl)
end Mine
theorem PySem.Challenge.cw_on0107_01_holds : PySem.Challenge.rw_on0107_01.Holds := by
  exact Mine.whole
